import PyProof.Rows.All
import Wide.All
import OpenK.AllK
import Wide.FinOn
import KE.KStateDown
import Lean
import HandS.ForMost
import HandS.TupAny
import HandS.IsInst
import HandS.Wide
import HandS.StrMore
import HandS.Zip
import HandS.RevRange
import HandS.TupLen
import HandS.WordsExc
import HandS.Exc
import HandS.Defaults
import HandS.HeadHook1
import HandS.HeadHook2
import HandS.SetTxt0
import HandS.SetFor
import HandS.Set
import PyProof.Draws
import PyProof.StrBlock2
import PyProof.Rows.StrMul
import PyProof.Rows.TupDisplay
import HandS.Ends
import PyProof.StrLawsFrom
import PyProof.Rows.StrLast
import HandS.ForExc
import HandS.ExcInit
import HandS.ExcField
import HandS.Nested
import HandS.NestedK
import KE.KExcIs
import KE.KExcSuper
import HandS.HotCalls
import HandS.ExcInitHot
import HandS.ExcCtx
import HandS.ExcIs
import HandS.Head0
import HandS.Head1
import HandS.Head2
import HandS.HeadEnd
import PyProof.Rows.StrStep
import HandS.Text
import HandS.Conv
import HandS.Style
import PyProof.ListStr
import KE.KTab
import KE.GoesMore
import PyProof.Rows.TupIter
import KE.KTabLook
import KE.GoesZip
import KE.GoesEnum
import OpenK.KOps
import OpenK.KWalk
import OpenK.KCls
import KE.GoesEnumKw
import OpenK.KMore
import HandS.GenList
import HandS.Codes
import KE.OsArith
import KE.BitLaws
import HandS.WideBits
import PySem.Challenge.RW_turtlestold_k00_pieces_of_a_word
set_option Elab.async false
set_option linter.all false
set_option maxRecDepth 100000
set_option maxHeartbeats 0
namespace DL
open PySem L2
inductive D where
  | non | bl (b : Bool) | int (i : Int) | str (x : List Nat) | lst (ds : List D) | tup (ds : List D)
  | dct (kd : Nat) (ks vs : List D) | ins (C : Addr) (ns : List Str) (vs : List D) | raw (v : V) | tok
  | pin (q : Addr) (d : D) | exc (a : Addr) (d : Option Addr) (C : Addr) (ns : List Str) (vs : List D)
abbrev Frag := PySem.W.Frag
def S (x : List Nat) : Str := ⟨x.toArray⟩
def keyD : Key → D
  | .inl i => .int i
  | .inr x => .str x.cps.toList
structure Ct where
  K : Frag
  st : Option Addr
mutual
def Rep (c : Ct) (F : Hp) : D → V → Prop
  | .non, v => v = .non
  | .bl b, v => v = .bl b
  | .int i, v => v = .int i
  | .str x, v => v = .str (S x)
  | .lst ds, v => ∃ a vs, v = .ref a ∧ F a = some (.lst vs) ∧ Reps c F ds vs
  | .tup ds, v => ∃ a vs, v = .ref a ∧ F a = some (.tup vs) ∧ Reps c F ds vs
  | .dct kd ks ds, v => ∃ a, v = .ref a ∧ ((kd = 0 ∧ ∃ es : List (Key × V), F a = some (.dK es) ∧ ks = es.map (fun p => keyD p.1) ∧ Reps c F ds (es.map (·.2))) ∨
      (kd = 1 ∧ ∃ es : List (List Key × V), F a = some (.dT es) ∧ ks = es.map (fun p => .tup (p.1.map keyD)) ∧ Reps c F ds (es.map (·.2))))
  | .ins C ns ds, v => ∃ a dx vs, v = .ref a ∧ F a = some (.ins C dx (ns.zip vs)) ∧ ns.length = vs.length ∧ Reps c F ds vs
  | .raw w, v => v = w
  | .tok, v => ∃ a, c.st = some a ∧ v = .ref a
  | .pin _ _, _ => False
  | .exc a d _ ns ds, v => v = .ref a ∧ ((ns = [] ∧ d = none) ∨ (ns ≠ [] ∧ ∃ dd vs, d = some dd ∧ F dd = some (.xd (ns.zip vs)) ∧ ns.length = vs.length ∧ Reps c F ds vs))
def Reps (c : Ct) (F : Hp) : List D → List V → Prop
  | [], vs => vs = []
  | d :: ds, vs => ∃ v r, vs = v :: r ∧ Rep c F d v ∧ Reps c F ds r
end
theorem Rd.mono {H H' : Hp} {a : Addr} {u : HO} (s : Same H H') (h : Rd H a u) : Rd H' a u := by
  rcases h with h | ⟨o, h⟩
  · exact .inl (s _ _ h)
  · exact .inr ⟨o, s _ _ h⟩
theorem sqL_mono {K : Frag} {H H' : Hp} {a : Addr} {xs : List V} (s : Same H H') (h : SqL K H a xs) : SqL K H' a xs := s.seq h
theorem sqT_mono {K : Frag} {H H' : Hp} {a : Addr} {xs : List V} (s : Same H H') (h : SqT K H a xs) : SqT K H' a xs := by
  rcases h with h | h
  · exact .inl (Rd.mono s h)
  · exact .inr h
mutual
theorem Rep.mono {c : Ct} {F F' : Hp} (s : Same F F') : ∀ {d : D} {v : V}, Rep c F d v → Rep c F' d v
  | .non, _, h => h
  | .bl _, _, h => h
  | .int _, _, h => h
  | .str _, _, h => h
  | .raw _, _, h => h
  | .tok, _, h => h
  | .pin _ _, _, h => h
  | .exc _ _ _ _ ds, _, h => by
    refine ⟨h.1, ?_⟩
    rcases h.2 with z | ⟨z, dd, vs, h1, h2, h3, h4⟩
    · exact .inl z
    · exact .inr ⟨z, dd, vs, h1, s _ _ h2, h3, Reps.mono s h4⟩
  | .lst ds, _, h => by
    obtain ⟨a, vs, e, h1, h2⟩ := h
    exact ⟨a, vs, e, s _ _ h1, Reps.mono s h2⟩
  | .tup ds, _, h => by
    obtain ⟨a, vs, e, h1, h2⟩ := h
    exact ⟨a, vs, e, s _ _ h1, Reps.mono s h2⟩
  | .dct kd ks ds, _, h => by
    obtain ⟨a, e, h⟩ := h
    refine ⟨a, e, ?_⟩
    rcases h with ⟨k0, es, h1, h2, h3⟩ | ⟨k0, es, h1, h2, h3⟩
    · exact .inl ⟨k0, es, s _ _ h1, h2, Reps.mono s h3⟩
    · exact .inr ⟨k0, es, s _ _ h1, h2, Reps.mono s h3⟩
  | .ins C ns ds, _, h => by
    obtain ⟨a, dx, vs, e, h1, h2, h3⟩ := h
    exact ⟨a, dx, vs, e, s _ _ h1, h2, Reps.mono s h3⟩
theorem Reps.mono {c : Ct} {F F' : Hp} (s : Same F F') : ∀ {ds : List D} {vs : List V}, Reps c F ds vs → Reps c F' ds vs
  | [], _, h => h
  | d :: ds, _, h => by
    obtain ⟨v, r, e, h1, h2⟩ := h
    exact ⟨v, r, e, Rep.mono s h1, Reps.mono s h2⟩
end
theorem Reps.length {c : Ct} {F : Hp} : ∀ {ds : List D} {vs : List V}, Reps c F ds vs → ds.length = vs.length
  | [], _, h => by subst h; rfl
  | d :: ds, _, h => by
    obtain ⟨v, r, e, h1, h2⟩ := h
    subst e
    simp [Reps.length h2]
theorem Reps.get {c : Ct} {F : Hp} : ∀ {ds : List D} {vs : List V} {i : Nat} {d : D}, Reps c F ds vs → ds[i]? = some d → ∃ v, vs[i]? = some v ∧ Rep c F d v
  | [], _, i, d, h, e => by simp at e
  | d :: ds, _, 0, d', h, e => by
    obtain ⟨v, r, e1, h1, h2⟩ := h
    subst e1
    simp at e
    subst e
    exact ⟨v, rfl, h1⟩
  | d :: ds, _, i + 1, d', h, e => by
    obtain ⟨v, r, e1, h1, h2⟩ := h
    subst e1
    simp at e
    obtain ⟨w, q1, q2⟩ := Reps.get h2 e
    exact ⟨w, by simpa using q1, q2⟩
theorem Reps.getV {c : Ct} {F : Hp} {ds : List D} {vs : List V} {i : Nat} {v : V} (h : Reps c F ds vs) (e : vs[i]? = some v) : ∃ d, ds[i]? = some d ∧ Rep c F d v := by
  have hi : i < ds.length := by
    rw [h.length]
    exact (List.getElem?_eq_some_iff.mp e).1
  obtain ⟨w, e1, r⟩ := h.get (List.getElem?_eq_getElem hi)
  rw [e] at e1
  cases e1
  exact ⟨_, List.getElem?_eq_getElem hi, r⟩
theorem Reps.app {c : Ct} {F : Hp} : ∀ {ds es : List D} {vs ws : List V}, Reps c F ds vs → Reps c F es ws → Reps c F (ds ++ es) (vs ++ ws)
  | [], _, _, _, h, q => by subst h; exact q
  | d :: ds, _, _, _, h, q => by
    obtain ⟨v, r, e, h1, h2⟩ := h
    subst e
    exact ⟨v, _, rfl, h1, Reps.app h2 q⟩
theorem Reps.one {c : Ct} {F : Hp} {d : D} {v : V} (h : Rep c F d v) : Reps c F [d] [v] := ⟨v, [], rfl, h, rfl⟩
theorem Reps.take {c : Ct} {F : Hp} : ∀ {ds : List D} {vs : List V} (n : Nat), Reps c F ds vs → Reps c F (ds.take n) (vs.take n)
  | [], _, n, h => by subst h; simp [Reps]
  | d :: ds, _, 0, h => by simp [Reps]
  | d :: ds, _, n + 1, h => by
    obtain ⟨v, r, e, h1, h2⟩ := h
    subst e
    exact ⟨v, _, rfl, h1, Reps.take n h2⟩
theorem Reps.drop {c : Ct} {F : Hp} : ∀ {ds : List D} {vs : List V} (n : Nat), Reps c F ds vs → Reps c F (ds.drop n) (vs.drop n)
  | [], _, n, h => by subst h; simp [Reps]
  | d :: ds, _, 0, h => h
  | d :: ds, _, n + 1, h => by
    obtain ⟨v, r, e, h1, h2⟩ := h
    subst e
    exact Reps.drop n h2
theorem Reps.set {c : Ct} {F : Hp} {d : D} {v : V} (hd : Rep c F d v) : ∀ {ds : List D} {vs : List V} (n : Nat), Reps c F ds vs → Reps c F (ds.set n d) (vs.set n v)
  | [], _, n, h => by subst h; simp [Reps]
  | _ :: ds, _, 0, h => by
    obtain ⟨w, r, e, h1, h2⟩ := h
    subst e
    exact ⟨v, r, rfl, hd, h2⟩
  | _ :: ds, _, n + 1, h => by
    obtain ⟨w, r, e, h1, h2⟩ := h
    subst e
    exact ⟨w, _, rfl, h1, Reps.set hd n h2⟩
def OwnAt (c : Ct) (F H : Hp) (a : Addr) : D → Prop
  | .lst ds => ∃ vs, H a = some (.lst vs) ∧ Reps c F ds vs
  | .dct kd ks ds => (kd = 0 ∧ ∃ es : List (Key × V), H a = some (.dK es) ∧ ks = es.map (fun p => keyD p.1) ∧ Reps c F ds (es.map (·.2))) ∨
      (kd = 1 ∧ ∃ es : List (List Key × V), H a = some (.dT es) ∧ ks = es.map (fun p => .tup (p.1.map keyD)) ∧ Reps c F ds (es.map (·.2)))
  | .ins C ns ds => ∃ dx vs, H a = some (.ins C dx (ns.zip vs)) ∧ ns.length = vs.length ∧ Reps c F ds vs
  | .pin q d => a = q ∧ OwnAt c F H a d
  | _ => False
def frzOk : D → Bool
  | .pin _ _ => false
  | _ => true
theorem OwnAt.mono {c : Ct} {F F' H H' : Hp} {a : Addr} {d : D} (s : Same F F') (h : H' a = H a) (x : OwnAt c F H a d) : OwnAt c F' H' a d := by
  cases d with
  | lst ds =>
    obtain ⟨vs, h1, h2⟩ := x
    exact ⟨vs, by rw [h, h1], h2.mono s⟩
  | dct kd ks ds =>
    rcases x with ⟨k0, es, h1, h2, h3⟩ | ⟨k0, es, h1, h2, h3⟩
    · exact .inl ⟨k0, es, by rw [h, h1], h2, h3.mono s⟩
    · exact .inr ⟨k0, es, by rw [h, h1], h2, h3.mono s⟩
  | ins C ns ds =>
    obtain ⟨dx, vs, h1, h2, h3⟩ := x
    exact ⟨dx, vs, by rw [h, h1], h2, h3.mono s⟩
  | pin q d => exact ⟨x.1, OwnAt.mono s h x.2⟩
  | _ => exact x.elim
theorem OwnAt.has {c : Ct} {F H : Hp} {a : Addr} {d : D} (x : OwnAt c F H a d) : ∃ o, H a = some o := by
  cases d with
  | lst ds =>
    obtain ⟨vs, h1, h2⟩ := x
    exact ⟨_, h1⟩
  | dct kd ks ds =>
    rcases x with ⟨k0, es, h1, h2, h3⟩ | ⟨k0, es, h1, h2, h3⟩ <;> exact ⟨_, h1⟩
  | ins C ns ds =>
    obtain ⟨dx, vs, h1, h2, h3⟩ := x
    exact ⟨_, h1⟩
  | pin q d => exact OwnAt.has x.2
  | _ => exact x.elim
theorem same_upd {F : Hp} {a : Addr} {o : HO} (h : F a = none) : Same F (upd F a o) := fun b u e => by
  rw [upd_ne (ne_of_none e h)]
  exact e
theorem OwnAt.frozen {c : Ct} {F H : Hp} {a : Addr} {d : D} {o : HO} (x : OwnAt c F H a d) (hz : frzOk d = true) (hF : F a = none) (ho : H a = some o) : Rep c (upd F a o) d (.ref a) := by
  have s : Same F (upd F a o) := same_upd hF
  cases d with
  | lst ds =>
    obtain ⟨vs, h1, h2⟩ := x
    rw [ho] at h1
    cases h1
    exact ⟨a, vs, rfl, upd_same, h2.mono s⟩
  | dct kd ks ds =>
    rcases x with ⟨k0, es, h1, h2, h3⟩ | ⟨k0, es, h1, h2, h3⟩
    · rw [ho] at h1
      cases h1
      exact ⟨a, rfl, .inl ⟨k0, es, upd_same, h2, h3.mono s⟩⟩
    · rw [ho] at h1
      cases h1
      exact ⟨a, rfl, .inr ⟨k0, es, upd_same, h2, h3.mono s⟩⟩
  | ins C ns ds =>
    obtain ⟨dx, vs, h1, h2, h3⟩ := x
    rw [ho] at h1
    cases h1
    exact ⟨a, dx, vs, rfl, upd_same, h2, h3.mono s⟩
  | pin q d => cases hz
  | _ => exact x.elim
def Tok (c : Ct) (F H : Hp) : Prop := ∀ a, c.st = some a → F a = none ∧ ∃ (l : Addr) (ns : List Int) (i j k m : Int), H a = some (.lst [.ref l, .int i, .int j, .int k, .int m]) ∧ F l = some (.lst (ns.map V.int)) ∧
  ns.length ≤ 63 ∧ 0 ≤ i
abbrev SV := Option (Bool × D)
abbrev Ro := List SV
structure Grow (c : Ct) (F0 H0 F H : Hp) : Prop where
  keep : ∀ b o, H0 b = some o → c.st ≠ some b → H b = some o
  f0 : Same F0 F
  fs : Same F H
  new : ∀ a o, F a = some o → F0 a = some o ∨ H0 a = none
  tok : Tok c F H
def RepR (c : Ct) (H0 F H : Hp) : Bool × D → V → Prop
  | (false, d), v => Rep c F d v
  | (true, d), v => ∃ a, v = .ref a ∧ F a = none ∧ H0 a = none ∧ OwnAt c F H a d
structure Sim (c : Ct) (F0 H0 : Hp) (σ : L2.St) (H : Hp) (ρ : Ro) (F : Hp) : Prop where
  gr : Grow c F0 H0 F H
  len : σ.length = ρ.length
  slot : ∀ (i : Nat) (r : Bool × D), ρ[i]? = some (some r) → ∃ v, σ[i]? = some (some v) ∧ RepR c H0 F H r v
  sep : ∀ (i j : Nat) (d e : D) (a : Addr), ρ[i]? = some (some (true, d)) → ρ[j]? = some (some (true, e)) → σ[i]? = some (some (.ref a)) → σ[j]? = some (some (.ref a)) → i = j
  st0 : ∀ a, c.st = some a → ∃ o, H0 a = some o
theorem Grow.refl {c : Ct} {F H : Hp} (s : Same F H) (t : Tok c F H) : Grow c F H F H := ⟨fun _ _ h _ => h, Same.refl _, s, fun _ _ h => .inl h, t⟩
theorem Grow.trans {c : Ct} {F0 H0 F H F' H' : Hp} (st0 : ∀ a, c.st = some a → ∃ o, H0 a = some o) (x : Grow c F0 H0 F H) (y : Grow c F H F' H') : Grow c F0 H0 F' H' where
  keep := fun b o e n => y.keep b o (x.keep b o e n) n
  f0 := x.f0.trans y.f0
  fs := y.fs
  new := fun a o e => by
    rcases y.new a o e with h | h
    · exact x.new a o h
    · refine .inr ?_
      cases q : H0 a with
      | none => rfl
      | some u =>
        by_cases n : c.st = some a
        · exact absurd (y.tok a n).1 (by rw [e]; simp)
        · rw [x.keep a u q n] at h
          cases h
  tok := y.tok
section
variable {c : Ct} {F0 H0 F H F' H' : Hp} {σ : L2.St} {ρ : Ro}
theorem Sim.ne_st (S : Sim c F0 H0 σ H ρ F) {a : Addr} (h0 : H0 a = none) : c.st ≠ some a := fun n => by
  obtain ⟨o, e⟩ := S.st0 a n
  rw [h0] at e
  cases e
theorem Sim.grow (S : Sim c F0 H0 σ H ρ F) (g : Grow c F H F' H') : Sim c F0 H0 σ H' ρ F' where
  gr := S.gr.trans S.st0 g
  len := S.len
  slot := fun i r e => by
    obtain ⟨v, e1, x⟩ := S.slot i r e
    refine ⟨v, e1, ?_⟩
    obtain ⟨b, d⟩ := r
    cases b with
    | false => exact Rep.mono g.f0 x
    | true =>
      obtain ⟨a, ea, h1, h2, ow⟩ := x
      obtain ⟨o, ho⟩ := ow.has
      refine ⟨a, ea, ?_, h2, ow.mono g.f0 (by rw [ho]; exact g.keep a o ho (S.ne_st h2))⟩
      cases q : F' a with
      | none => rfl
      | some u =>
        rcases g.new a u q with z | z
        · rw [h1] at z; cases z
        · rw [ho] at z; cases z
  sep := S.sep
  st0 := S.st0
theorem Sim.fresh0 (S : Sim c F0 H0 σ H ρ F) {p : Addr} (hp : H p = none) : F p = none ∧ H0 p = none := by
  refine ⟨S.gr.fs.free hp, ?_⟩
  cases q : H0 p with
  | none => rfl
  | some u =>
    by_cases n : c.st = some p
    · obtain ⟨_, _, _, _, _, _, _, e, _⟩ := S.gr.tok p n
      rw [hp] at e; cases e
    · rw [S.gr.keep p u q n] at hp; cases hp
theorem Tok.upd (t : Tok c F H) {p : Addr} {o : HO} (hp : c.st ≠ some p) (F' : Hp) (s : Same F F') (hF : ∀ a, c.st = some a → F' a = F a) : Tok c F' (upd H p o) := fun a n => by
  obtain ⟨h1, l, ns, i, j, k, m, h2, h3, h4⟩ := t a n
  refine ⟨by rw [hF a n, h1], l, ns, i, j, k, m, ?_, s _ _ h3, h4⟩
  rw [upd_ne (fun (e : a = p) => hp (e ▸ n))]
  exact h2
theorem Sim.alloc (S : Sim c F0 H0 σ H ρ F) {p : Addr} {o : HO} (hp : H p = none) : Grow c F H (upd F p o) (upd H p o) := by
  obtain ⟨h1, h2⟩ := S.fresh0 hp
  refine ⟨fun b u e _ => ?_, same_upd h1, fun b u e => ?_, fun a u e => ?_, S.gr.tok.upd (S.ne_st h2) _ (same_upd h1) fun a n => ?_⟩
  · rw [upd_ne (ne_of_none e hp)]; exact e
  · by_cases q : b = p
    · subst q; rw [upd_same] at e ⊢; exact e
    · rw [upd_ne q] at e ⊢; exact S.gr.fs b u e
  · by_cases q : a = p
    · subst q; exact .inr hp
    · rw [upd_ne q] at e; exact .inl e
  · rw [upd_ne (fun (e : a = p) => S.ne_st h2 (e ▸ n))]
theorem Sim.allocO (S : Sim c F0 H0 σ H ρ F) {p : Addr} {o : HO} (hp : H p = none) : Grow c F H F (upd H p o) := by
  obtain ⟨h1, h2⟩ := S.fresh0 hp
  refine ⟨fun b u e _ => ?_, Same.refl _, fun b u e => ?_, fun a u e => .inl e, S.gr.tok.upd (S.ne_st h2) _ (Same.refl _) fun _ _ => rfl⟩
  · rw [upd_ne (ne_of_none e hp)]; exact e
  · rw [upd_ne (ne_of_none (S.gr.fs b u e) hp)]; exact S.gr.fs b u e
theorem Sim.freeze (S : Sim c F0 H0 σ H ρ F) {i : Nat} {d : D} (hz : frzOk d = true) (e : ρ[i]? = some (some (true, d))) : ∃ v F', σ[i]? = some (some v) ∧ Same F F' ∧ Sim c F0 H0 σ H (ρ.set i (some (false, d))) F' ∧ Rep c F' d v := by
  obtain ⟨v, e1, a, ea, h1, h2, ow⟩ := S.slot i _ e
  subst ea
  obtain ⟨o, ho⟩ := ow.has
  have sF : Same F (upd F a o) := same_upd h1
  have rp := ow.frozen hz h1 ho
  have hi : i < ρ.length := (List.getElem?_eq_some_iff.mp e).1
  refine ⟨_, upd F a o, e1, sF, ⟨⟨S.gr.keep, S.gr.f0.trans sF, fun b u q => ?_, fun b u q => ?_, fun b n => ?_⟩, by rw [List.length_set]; exact S.len, fun j r q => ?_, fun j k d1 d2 b q1 q2 => ?_, S.st0⟩, rp⟩
  · by_cases z : b = a
    · subst z; rw [upd_same] at q; cases q; exact ho
    · rw [upd_ne z] at q; exact S.gr.fs b u q
  · by_cases z : b = a
    · subst z; exact .inr h2
    · rw [upd_ne z] at q; exact S.gr.new b u q
  · obtain ⟨k1, l, ns, i, j, k, m, k2, k3, k4⟩ := S.gr.tok b n
    refine ⟨?_, l, ns, i, j, k, m, k2, sF _ _ k3, k4⟩
    rw [upd_ne (fun (z : b = a) => S.ne_st h2 (z ▸ n))]
    exact k1
  · by_cases z : j = i
    · subst z
      rw [List.getElem?_set_self hi] at q
      cases q
      exact ⟨_, e1, rp⟩
    · rw [List.getElem?_set_ne (Ne.symm z)] at q
      obtain ⟨v', e2, x⟩ := S.slot j r q
      refine ⟨v', e2, ?_⟩
      obtain ⟨b, d'⟩ := r
      cases b with
      | false => exact Rep.mono sF x
      | true =>
        obtain ⟨a', ea, k1, k2, ow'⟩ := x
        subst ea
        refine ⟨a', rfl, ?_, k2, ow'.mono sF rfl⟩
        have na : a' ≠ a := fun z' => z (S.sep j i _ _ a' q e e2 (z' ▸ e1))
        rw [upd_ne na]
        exact k1
  · have f : ∀ {j : Nat} {d1 : D}, (ρ.set i (some (false, d)))[j]? = some (some (true, d1)) → ρ[j]? = some (some (true, d1)) := fun {j d1} q => by
      by_cases z : j = i
      · subst z
        rw [List.getElem?_set_self hi] at q
        cases q
      · rw [List.getElem?_set_ne (Ne.symm z)] at q
        exact q
    exact S.sep j k d1 d2 b (f q1) (f q2)
theorem Sim.set (S : Sim c F0 H0 σ H ρ F) {i : Nat} {d : D} {v : V} (r : Rep c F d v) : Sim c F0 H0 (σ.set i (some v)) H (ρ.set i (some (false, d))) F where
  gr := S.gr
  len := by rw [List.length_set, List.length_set]; exact S.len
  slot := fun j q e => by
    by_cases z : j = i
    · subst z
      by_cases hi : j < ρ.length
      · rw [List.getElem?_set_self hi] at e
        cases e
        exact ⟨v, by rw [List.getElem?_set_self (by rw [S.len]; exact hi)], r⟩
      · rw [List.getElem?_eq_none (by rw [List.length_set]; omega)] at e
        cases e
    · rw [List.getElem?_set_ne (Ne.symm z)] at e ⊢
      exact S.slot j q e
  sep := fun j k d1 d2 b q1 q2 e1 e2 => by
    have f : ∀ {j : Nat} {d1 : D}, (ρ.set i (some (false, d)))[j]? = some (some (true, d1)) → ρ[j]? = some (some (true, d1)) ∧ j ≠ i := fun {j d1} q => by
      by_cases z : j = i
      · subst z
        by_cases hi : j < ρ.length
        · rw [List.getElem?_set_self hi] at q
          cases q
        · rw [List.getElem?_eq_none (by rw [List.length_set]; omega)] at q
          cases q
      · rw [List.getElem?_set_ne (Ne.symm z)] at q
        exact ⟨q, z⟩
    obtain ⟨f1, n1⟩ := f q1
    obtain ⟨f2, n2⟩ := f q2
    rw [List.getElem?_set_ne (Ne.symm n1)] at e1
    rw [List.getElem?_set_ne (Ne.symm n2)] at e2
    exact S.sep j k d1 d2 b f1 f2 e1 e2
  st0 := S.st0
theorem Sim.setO (S : Sim c F0 H0 σ H ρ F) {i : Nat} {d : D} {p : Addr} {o : HO} (hp : H p = none) (ow : OwnAt c F (upd H p o) p d) : Sim c F0 H0 (σ.set i (some (.ref p))) (upd H p o) (ρ.set i (some (true, d))) F := by
  obtain ⟨h1, h2⟩ := S.fresh0 hp
  have S' := S.grow (S.allocO (o := o) hp)
  have np : ∀ (j : Nat) (e : D), ρ[j]? = some (some (true, e)) → σ[j]? = some (some (.ref p)) → False := fun j e q1 q2 => by
    obtain ⟨v, e1, a, ea, _, _, x⟩ := S.slot j _ q1
    rw [q2] at e1
    cases e1
    cases ea
    obtain ⟨u, hu⟩ := x.has
    rw [hp] at hu
    cases hu
  refine ⟨S'.gr, by rw [List.length_set, List.length_set]; exact S.len, fun j q e => ?_, fun j k d1 d2 b q1 q2 e1 e2 => ?_, S.st0⟩
  · by_cases z : j = i
    · subst z
      by_cases hi : j < ρ.length
      · rw [List.getElem?_set_self hi] at e
        cases e
        exact ⟨_, by rw [List.getElem?_set_self (by rw [S.len]; exact hi)], p, rfl, h1, h2, ow⟩
      · rw [List.getElem?_eq_none (by rw [List.length_set]; omega)] at e
        cases e
    · rw [List.getElem?_set_ne (Ne.symm z)] at e ⊢
      exact S'.slot j q e
  · have hl : ∀ {j : Nat} {d1 : D}, (ρ.set i (some (true, d)))[j]? = some (some (true, d1)) → j < ρ.length := fun {j d1} q => by
      have := (List.getElem?_eq_some_iff.mp q).1
      rw [List.length_set] at this
      exact this
    by_cases z1 : j = i
    · by_cases z2 : k = i
      · rw [z1, z2]
      · subst z1
        rw [List.getElem?_set_self (by rw [S.len]; exact hl q1)] at e1
        cases e1
        rw [List.getElem?_set_ne (Ne.symm z2)] at q2 e2
        exact (np k _ q2 e2).elim
    · by_cases z2 : k = i
      · subst z2
        rw [List.getElem?_set_self (by rw [S.len]; exact hl q2)] at e2
        cases e2
        rw [List.getElem?_set_ne (Ne.symm z1)] at q1 e1
        exact (np j _ q1 e1).elim
      · rw [List.getElem?_set_ne (Ne.symm z1)] at q1 e1
        rw [List.getElem?_set_ne (Ne.symm z2)] at q2 e2
        exact S.sep j k d1 d2 b q1 q2 e1 e2
theorem Sim.write (S : Sim c F0 H0 σ H ρ F) {i : Nat} {d d' : D} {p : Addr} {o : HO} (e : ρ[i]? = some (some (true, d))) (es : σ[i]? = some (some (.ref p))) (ow : OwnAt c F (upd H p o) p d') :
    Sim c F0 H0 σ (upd H p o) (ρ.set i (some (true, d'))) F := by
  obtain ⟨v, e1, a, ea, h1, h2, x⟩ := S.slot i _ e
  rw [es] at e1
  cases e1
  cases ea
  have hi : i < ρ.length := (List.getElem?_eq_some_iff.mp e).1
  have nst := S.ne_st h2
  refine ⟨⟨fun b u q n => ?_, S.gr.f0, fun b u q => ?_, S.gr.new, S.gr.tok.upd nst _ (Same.refl _) fun _ _ => rfl⟩, by rw [List.length_set]; exact S.len, fun j r q => ?_, fun j k d1 d2 b q1 q2 => ?_, S.st0⟩
  · rw [upd_ne (ne_of_none q h2)]; exact S.gr.keep b u q n
  · rw [upd_ne (ne_of_none q h1)]; exact S.gr.fs b u q
  · by_cases z : j = i
    · subst z
      rw [List.getElem?_set_self hi] at q
      cases q
      exact ⟨_, es, p, rfl, h1, h2, ow⟩
    · rw [List.getElem?_set_ne (Ne.symm z)] at q
      obtain ⟨v', e2, y⟩ := S.slot j r q
      refine ⟨v', e2, ?_⟩
      obtain ⟨b, d1⟩ := r
      cases b with
      | false => exact y
      | true =>
        obtain ⟨a', ea, k1, k2, ow'⟩ := y
        subst ea
        have na : a' ≠ p := fun z' => z (S.sep j i _ _ a' q e e2 (z' ▸ es))
        exact ⟨a', rfl, k1, k2, ow'.mono (Same.refl _) (upd_ne na)⟩
  · have f : ∀ {j : Nat} {d1 : D}, (ρ.set i (some (true, d')))[j]? = some (some (true, d1)) → ∃ d2, ρ[j]? = some (some (true, d2)) := fun {j d1} q => by
      by_cases z : j = i
      · subst z; exact ⟨_, e⟩
      · rw [List.getElem?_set_ne (Ne.symm z)] at q
        exact ⟨_, q⟩
    obtain ⟨g1, f1⟩ := f q1
    obtain ⟨g2, f2⟩ := f q2
    exact S.sep j k g1 g2 b f1 f2
theorem Sim.forget (S : Sim c F0 H0 σ H ρ F) (i : Nat) {v : Option V} : Sim c F0 H0 (σ.set i v) H (ρ.set i none) F := by
  have f : ∀ {j : Nat} {r : Bool × D}, (ρ.set i none)[j]? = some (some r) → ρ[j]? = some (some r) ∧ j ≠ i := fun {j r} q => by
    by_cases z : j = i
    · subst z
      by_cases hi : j < ρ.length
      · rw [List.getElem?_set_self hi] at q
        cases q
      · rw [List.getElem?_eq_none (by rw [List.length_set]; omega)] at q
        cases q
    · rw [List.getElem?_set_ne (Ne.symm z)] at q
      exact ⟨q, z⟩
  refine ⟨S.gr, by rw [List.length_set, List.length_set]; exact S.len, fun j r q => ?_, fun j k d1 d2 b q1 q2 e1 e2 => ?_, S.st0⟩
  · obtain ⟨q, n⟩ := f q
    obtain ⟨w, e, x⟩ := S.slot j r q
    exact ⟨w, by rw [List.getElem?_set_ne (Ne.symm n)]; exact e, x⟩
  · obtain ⟨q1, n1⟩ := f q1
    obtain ⟨q2, n2⟩ := f q2
    rw [List.getElem?_set_ne (Ne.symm n1)] at e1
    rw [List.getElem?_set_ne (Ne.symm n2)] at e2
    exact S.sep j k d1 d2 b q1 q2 e1 e2
end
end DL
namespace DL
open PySem L2
abbrev DE := Ro → (D → Ro → Prop) → Prop
abbrev DT := Ro → (Bool → Ro → Prop) → Prop
abbrev DA := Ro → (List D → Ro → Prop) → Prop
structure M where
  st : Option Addr
  F0 : Hp
  H0 : Hp
abbrev M.c (m : M) (X : Cx) : Ct := ⟨X.K, m.st⟩
abbrev Sm (X : Cx) (m : M) (σ : L2.St) (H : Hp) (ρ : Ro) (F : Hp) : Prop := Sim (m.c X) m.F0 m.H0 σ H ρ F
def lE (X : Cx) (m : M) (te : DE) : TE := fun σ H Q => ∃ ρ F, Sm X m σ H ρ F ∧ te ρ fun d ρ' => ∀ v H' F', Same F F' → Sm X m σ H' ρ' F' → Rep (m.c X) F' d v → Q v H'
def lT (X : Cx) (m : M) (te : DT) : TT := fun σ H Q => ∃ ρ F, Sm X m σ H ρ F ∧ te ρ fun b ρ' => ∀ H' F', Same F F' → Sm X m σ H' ρ' F' → Q b H'
def lA (X : Cx) (m : M) (te : DA) : TA := fun σ H Q => ∃ ρ F, Sm X m σ H ρ F ∧ te ρ fun ds ρ' => ∀ vs H' F', Same F F' → Sm X m σ H' ρ' F' → Reps (m.c X) F' ds vs → Q vs H'
structure PD (X : Cx) (m : M) (e : Expr) (te : DE) : Prop where
  pe : PE X e (lE X m te)
  mono : ∀ ρ Q Q', (∀ d ρ', Q d ρ' → Q' d ρ') → te ρ Q → te ρ Q'
structure PDT (X : Cx) (m : M) (e : Expr) (te : DT) : Prop where
  pe : PT X e (lT X m te)
  mono : ∀ ρ Q Q', (∀ d ρ', Q d ρ' → Q' d ρ') → te ρ Q → te ρ Q'
structure PDW (X : Cx) (m : M) (e : Expr) (te : DT) : Prop where
  pe : PW X e (lT X m te)
  mono : ∀ ρ Q Q', (∀ d ρ', Q d ρ' → Q' d ρ') → te ρ Q → te ρ Q'
structure PDA (X : Cx) (m : M) (es : List Expr) (te : DA) : Prop where
  pe : PA X es (lA X m te)
  mono : ∀ ρ Q Q', (∀ d ρ', Q d ρ' → Q' d ρ') → te ρ Q → te ρ Q'
section
variable {X : Cx} {m : M} {e a b c' : Expr} {es : List Expr} {te ta tb tc : DE} {pos : Pos}
theorem PE.imp {t t' : TE} (h : PE X e t) (i : ∀ σ H Q, t' σ H Q → t σ H Q) : PE X e t' := ⟨fun pins s σ H Q I q => h.run pins s σ H Q I (i σ H Q q)⟩
theorem PT.imp {t t' : TT} (h : PT X e t) (i : ∀ σ H Q, t' σ H Q → t σ H Q) : PT X e t' := ⟨fun pins s σ H Q I q => h.run pins s σ H Q I (i σ H Q q)⟩
theorem PW.imp {t t' : TT} (h : PW X e t) (i : ∀ σ H Q, t' σ H Q → t σ H Q) : PW X e t' := ⟨fun wh pins s σ H Q I q => h.run wh pins s σ H Q I (i σ H Q q)⟩
theorem PA.imp {t t' : TA} (h : PA X es t) (i : ∀ σ H Q, t' σ H Q → t σ H Q) : PA X es t' := ⟨fun pos pins s σ H Q I q => h.run pos pins s σ H Q I (i σ H Q q)⟩
def dVar (i : Nat) : DE := fun ρ Q => match ρ[i]? with
  | some (some (false, d)) => Q d ρ
  | some (some (true, d)) => frzOk d = true ∧ Q d (ρ.set i (some (false, d)))
  | _ => False
theorem pd_var' {i : Nat} (h : PE X e (tVar i)) : PD X m e (dVar i) := by
  refine ⟨PE.imp h fun σ H Q ⟨ρ, F, S, t⟩ => ?_, fun ρ Q Q' i => ?_⟩
  · unfold dVar at t
    split at t
    · rename_i d e1
      obtain ⟨v, e2, r⟩ := S.slot i _ e1
      exact ⟨v, e2, t v H F (Same.refl _) S r⟩
    · rename_i d e1
      obtain ⟨v, F', e2, s, S', r⟩ := S.freeze t.1 e1
      exact ⟨v, e2, t.2 v H F' s S' r⟩
    · exact t.elim
  · unfold dVar
    split
    · exact i _ _
    · exact fun q => ⟨q.1, i _ _ q.2⟩
    · exact id
theorem pd_var (i : Nat) {x : Str} {pos : Pos} (hN : X.N[i]? = some x := by rfl) (hv : Vis X.env.scope x := by first | exact Or.inl rfl | exact Or.inr (Or.inl rfl) | exact Or.inr (Or.inr rfl)) (hd : (x == ("__debug__" : Str)) = false := by decide)
    (hcd : (x == ("__classdict__" : Str)) = false := by decide) : PD X m (.Name x pos) (dVar i) := pd_var' (pv i hN hv hd hcd)
def dC (d : D) : DE := fun ρ Q => Q d ρ
theorem pd_c {d : D} {v : V} (h : PE X e (tC v)) (r : ∀ F, Rep (m.c X) F d v) : PD X m e (dC d) :=
  ⟨PE.imp h fun σ H Q ⟨ρ, F, S, t⟩ => t v H F (Same.refl _) S (r F), fun ρ Q Q' i => i _ _⟩
theorem pd_int {i : Int} {j pos} : PD X m (.Constant (.int i) j pos) (dC (.int i)) := pd_c pe_int fun _ => rfl
theorem pd_bl {b j pos} : PD X m (.Constant (.bool b) j pos) (dC (.bl b)) := pd_c pe_bl fun _ => rfl
theorem pd_non {j pos} : PD X m (.Constant .none j pos) (dC .non) := pd_c pe_non fun _ => rfl
theorem pd_str (l : List Nat) {x j pos} (h : x = S l := by decide) : PD X m (.Constant (.str x) j pos) (dC (.str l)) := pd_c pe_str fun _ => by rw [h]; rfl
theorem pd_raw {v : V} (h : PE X e (tC v)) : PD X m e (dC (.raw v)) := pd_c h fun _ => rfl
def dNil : DA := fun ρ Q => Q [] ρ
def dCons (ta : DE) (tr : DA) : DA := fun ρ Q => ta ρ fun d ρ1 => tr ρ1 fun ds ρ2 => Q (d :: ds) ρ2
theorem pda_nil : PDA X m [] dNil := ⟨PA.imp pa_nil fun σ H Q ⟨ρ, F, S, t⟩ => t [] H F (Same.refl _) S rfl, fun ρ Q Q' i => i _ _⟩
theorem pda_cons {tr : DA} (ha : PD X m e ta) (hr : PDA X m es tr) (hs : starEach (e :: es) X.env = (false, eval e X.env) :: starEach es X.env := by rfl) : PDA X m (e :: es) (dCons ta tr) := by
  refine ⟨PA.imp (pa_cons ha.pe hr.pe hs) fun σ H Q ⟨ρ, F, S, t⟩ => ?_, fun ρ Q Q' i => ?_⟩
  · refine ⟨ρ, F, S, ha.mono _ _ _ (fun d ρ1 q v H1 F1 s1 S1 r1 => ?_) t⟩
    refine ⟨ρ1, F1, S1, hr.mono _ _ _ (fun ds ρ2 q vs H2 F2 s2 S2 r2 => ?_) q⟩
    exact q _ H2 F2 (s1.trans s2) S2 ⟨v, vs, rfl, r1.mono s2, r2⟩
  · exact ha.mono _ _ _ fun d ρ1 => hr.mono _ _ _ fun ds ρ2 => i _ _
def Vw (c : Ct) (F H : Hp) (d : D) (v : V) : Prop := match d with
  | .lst ds => ∃ a vs, v = .ref a ∧ H a = some (.lst vs) ∧ Reps c F ds vs
  | .dct kd ks ds => ∃ a, v = .ref a ∧ ((kd = 0 ∧ ∃ es : List (Key × V), H a = some (.dK es) ∧ ks = es.map (fun p => keyD p.1) ∧ Reps c F ds (es.map (·.2))) ∨
      (kd = 1 ∧ ∃ es : List (List Key × V), H a = some (.dT es) ∧ ks = es.map (fun p => .tup (p.1.map keyD)) ∧ Reps c F ds (es.map (·.2))))
  | .ins C ns ds => ∃ a dx vs, v = .ref a ∧ H a = some (.ins C dx (ns.zip vs)) ∧ ns.length = vs.length ∧ Reps c F ds vs
  | .pin q d => v = .ref q ∧ OwnAt c F H q d
  | d => Rep c F d v
theorem Vw.of_rep {c : Ct} {F H : Hp} (s : Same F H) {d : D} {v : V} (r : Rep c F d v) : Vw c F H d v := by
  cases d with
  | lst ds => obtain ⟨a, vs, e, h1, h2⟩ := r; exact ⟨a, vs, e, s _ _ h1, h2⟩
  | dct kd ks ds =>
    obtain ⟨a, e, h⟩ := r
    rcases h with ⟨k, es, h1, h2⟩ | ⟨k, es, h1, h2⟩
    · exact ⟨a, e, .inl ⟨k, es, s _ _ h1, h2⟩⟩
    · exact ⟨a, e, .inr ⟨k, es, s _ _ h1, h2⟩⟩
  | ins C ns ds => obtain ⟨a, dx, vs, e, h1, h2⟩ := r; exact ⟨a, dx, vs, e, s _ _ h1, h2⟩
  | pin q d => exact r.elim
  | _ => exact r
theorem Vw.of_own {c : Ct} {F H : Hp} {d : D} {a : Addr} (r : OwnAt c F H a d) : Vw c F H d (.ref a) := by
  cases d with
  | lst ds => obtain ⟨vs, h1, h2⟩ := r; exact ⟨a, vs, rfl, h1, h2⟩
  | dct kd ks ds => exact ⟨a, rfl, r⟩
  | ins C ns ds => obtain ⟨dx, vs, h1, h2⟩ := r; exact ⟨a, dx, vs, rfl, h1, h2⟩
  | pin q d => obtain ⟨e, h⟩ := r; exact ⟨by rw [e], e ▸ h⟩
  | _ => exact r.elim
def lQ (X : Cx) (m : M) (te : DE) : TE := fun σ H Q => ∃ ρ F, Sm X m σ H ρ F ∧ te ρ fun d ρ' => ∀ v H' F', Same F F' → Sm X m σ H' ρ' F' → Vw (m.c X) F' H' d v → Q v H'
structure PQ (X : Cx) (m : M) (e : Expr) (te : DE) : Prop where
  pe : PE X e (lQ X m te)
  mono : ∀ ρ Q Q', (∀ d ρ', Q d ρ' → Q' d ρ') → te ρ Q → te ρ Q'
theorem PD.pq (h : PD X m e te) : PQ X m e te := ⟨PE.imp h.pe fun σ H Q ⟨ρ, F, S, t⟩ => ⟨ρ, F, S, h.mono _ _ _ (fun d ρ' q v H' F' s S' r => q v H' F' s S' (.of_rep S'.gr.fs r)) t⟩, h.mono⟩
def dPeek (i : Nat) : DE := fun ρ Q => match ρ[i]? with
  | some (some (_, d)) => Q d ρ
  | _ => False
theorem pq_var' {i : Nat} (h : PE X e (tVar i)) : PQ X m e (dPeek i) := by
  refine ⟨PE.imp h fun σ H Q ⟨ρ, F, S, t⟩ => ?_, fun ρ Q Q' i => ?_⟩
  · unfold dPeek at t
    split at t
    · rename_i k d e1
      obtain ⟨v, e2, r⟩ := S.slot i _ e1
      refine ⟨v, e2, t v H F (Same.refl _) S ?_⟩
      cases k with
      | false => exact .of_rep S.gr.fs r
      | true =>
        obtain ⟨a, rfl, _, _, ow⟩ := r
        exact .of_own ow
    · exact t.elim
  · unfold dPeek
    split
    · exact i _ _
    · exact id
theorem pq_var (i : Nat) {x : Str} {pos : Pos} (hN : X.N[i]? = some x := by rfl) (hv : Vis X.env.scope x := by first | exact Or.inl rfl | exact Or.inr (Or.inl rfl) | exact Or.inr (Or.inr rfl)) (hd : (x == ("__debug__" : Str)) = false := by decide)
    (hcd : (x == ("__classdict__" : Str)) = false := by decide) : PQ X m (.Name x pos) (dPeek i) := pq_var' (pv i hN hv hd hcd)
abbrev F2 := D → D → (D → Prop) → Prop
structure Op2 (X : Cx) (m : M) (r : R2) (f : F2) : Prop where
  ok : ∀ {σ : L2.St} {H : Hp} {ρ : Ro} {F : Hp} {d e : D} {x y : V} {Q : VK} {P : D → Prop}, Sm X m σ H ρ F → Vw (m.c X) F H d x → Vw (m.c X) F H e y → f d e P →
    (∀ z v H' F', P z → Grow (m.c X) F H F' H' → Rep (m.c X) F' z v → Q v H') → r x y H Q
  mono : ∀ d e P P', (∀ z, P z → P' z) → f d e P → f d e P'
def dOp2 (f : F2) (ta tb : DE) : DE := fun ρ Q => ta ρ fun d ρ1 => tb ρ1 fun e ρ2 => f d e fun z => Q z ρ2
theorem pd_op2 {r : R2} {f : F2} {e' : Expr} (ho : Op2 X m r f) (ha : PD X m a ta) (hb : PD X m b tb) (h : PE X e' (tOp r (lE X m ta) (lE X m tb))) : PD X m e' (dOp2 f ta tb) := by
  refine ⟨PE.imp h fun σ H Q ⟨ρ, F, S, t⟩ => ?_, fun ρ Q Q' i => ?_⟩
  · refine ⟨ρ, F, S, ha.mono _ _ _ (fun d ρ1 q x H1 F1 s1 S1 r1 => ?_) t⟩
    refine ⟨ρ1, F1, S1, hb.mono _ _ _ (fun e ρ2 q y H2 F2 s2 S2 r2 => ?_) q⟩
    exact ho.ok S2 (.of_rep S2.gr.fs (r1.mono s2)) (.of_rep S2.gr.fs r2) q fun z v H' F' p g rz => p v H' F' (s1.trans (s2.trans g.f0)) (S2.grow g) rz
  · exact ha.mono _ _ _ fun d ρ1 => hb.mono _ _ _ fun e ρ2 => ho.mono _ _ _ _ fun z => i _ _
theorem pd_op2q {r : R2} {f : F2} {e' : Expr} (ho : Op2 X m r f) (ha : PD X m a ta) (hb : PQ X m b tb) (h : PE X e' (tOp r (lE X m ta) (lQ X m tb))) : PD X m e' (dOp2 f ta tb) := by
  refine ⟨PE.imp h fun σ H Q ⟨ρ, F, S, t⟩ => ?_, fun ρ Q Q' i => ?_⟩
  · refine ⟨ρ, F, S, ha.mono _ _ _ (fun d ρ1 q x H1 F1 s1 S1 r1 => ?_) t⟩
    refine ⟨ρ1, F1, S1, hb.mono _ _ _ (fun e ρ2 q y H2 F2 s2 S2 r2 => ?_) q⟩
    exact ho.ok S2 (.of_rep S2.gr.fs (r1.mono s2)) r2 q fun z v H' F' p g rz => p v H' F' (s1.trans (s2.trans g.f0)) (S2.grow g) rz
  · exact ha.mono _ _ _ fun d ρ1 => hb.mono _ _ _ fun e ρ2 => ho.mono _ _ _ _ fun z => i _ _
theorem pd_cmpq {op : CmpOp} {r : R2} {f : F2} (ho : Op2 X m r f) (hr : OpR X (compareOp op) r) (ha : PD X m a ta) (hb : PQ X m b tb) (hm : behindInMarks op b = false) : PD X m (.Compare a [op] [b] pos) (dOp2 f ta tb) := pd_op2q ho ha hb (pe_cmpR hr ha.pe hb.pe hm)
theorem pd_bin {op : Operator} {r : R2} {f : F2} (ho : Op2 X m r f) (hr : OpR X (binaryOp op) r) (ha : PD X m a ta) (hb : PD X m b tb) : PD X m (.BinOp a op b pos) (dOp2 f ta tb) := pd_op2 ho ha hb (pe_op hr ha.pe hb.pe)
theorem pd_cmp {op : CmpOp} {r : R2} {f : F2} (ho : Op2 X m r f) (hr : OpR X (compareOp op) r) (ha : PD X m a ta) (hb : PD X m b tb) (hm : behindInMarks op b = false) : PD X m (.Compare a [op] [b] pos) (dOp2 f ta tb) := pd_op2 ho ha hb (pe_cmpR hr ha.pe hb.pe hm)
def dTest (t : DE) : DT := fun ρ Q => t ρ fun d ρ' => match d with
  | .bl b => Q b ρ'
  | _ => False
theorem dTest_mono {t : DE} (h : ∀ ρ Q Q', (∀ d ρ', Q d ρ' → Q' d ρ') → t ρ Q → t ρ Q') : ∀ ρ (Q Q' : Bool → Ro → Prop), (∀ d ρ', Q d ρ' → Q' d ρ') → dTest t ρ Q → dTest t ρ Q' := fun ρ Q Q' i => h _ _ _ fun d ρ' => by
  cases d <;> first | exact i _ _ | exact id
theorem lTest {t : DE} (hm : ∀ ρ Q Q', (∀ d ρ', Q d ρ' → Q' d ρ') → t ρ Q → t ρ Q') {σ : L2.St} {H : Hp} {Q : Bool → Hp → Prop} (h : lT X m (dTest t) σ H Q) : lE X m t σ H fun x H' => ∃ k, x = .bl k ∧ Q k H' := by
  obtain ⟨ρ, F, S, t⟩ := h
  refine ⟨ρ, F, S, hm _ _ _ (fun d ρ' q v H' F' s S' r => ?_) t⟩
  cases d with
  | bl b => exact ⟨b, r, q H' F' s S'⟩
  | _ => exact q.elim
theorem pdt_cmp {op : CmpOp} {r : R2} {f : F2} (ho : Op2 X m r f) (hr : OpR X (compareOp op) r) (ha : PD X m a ta) (hb : PD X m b tb) (hm : behindInMarks op b = false) : PDT X m (.Compare a [op] [b] pos) (dTest (dOp2 f ta tb)) := by
  have P := pd_cmp (pos := pos) ho hr ha hb hm
  refine ⟨PT.imp (pt_cmpR hr ha.pe hb.pe hm) fun σ H Q h => ?_, dTest_mono P.mono⟩
  obtain ⟨ρ, F, S, t⟩ := lTest P.mono h
  refine ⟨ρ, F, S, ha.mono _ _ _ (fun d ρ1 q x H1 F1 s1 S1 r1 => ?_) t⟩
  refine ⟨ρ1, F1, S1, hb.mono _ _ _ (fun e ρ2 q y H2 F2 s2 S2 r2 => ?_) q⟩
  exact ho.ok S2 (.of_rep S2.gr.fs (r1.mono s2)) (.of_rep S2.gr.fs r2) q fun z v H' F' p g rz => p v H' F' (s1.trans (s2.trans g.f0)) (S2.grow g) rz
theorem pdt_cmpq {op : CmpOp} {r : R2} {f : F2} (ho : Op2 X m r f) (hr : OpR X (compareOp op) r) (ha : PD X m a ta) (hb : PQ X m b tb) (hm : behindInMarks op b = false) : PDT X m (.Compare a [op] [b] pos) (dTest (dOp2 f ta tb)) := by
  have P := pd_cmpq (pos := pos) ho hr ha hb hm
  refine ⟨PT.imp (pt_cmpR hr ha.pe hb.pe hm) fun σ H Q h => ?_, dTest_mono P.mono⟩
  obtain ⟨ρ, F, S, t⟩ := lTest P.mono h
  refine ⟨ρ, F, S, ha.mono _ _ _ (fun d ρ1 q x H1 F1 s1 S1 r1 => ?_) t⟩
  refine ⟨ρ1, F1, S1, hb.mono _ _ _ (fun e ρ2 q y H2 F2 s2 S2 r2 => ?_) q⟩
  exact ho.ok S2 (.of_rep S2.gr.fs (r1.mono s2)) r2 q fun z v H' F' p g rz => p v H' F' (s1.trans (s2.trans g.f0)) (S2.grow g) rz
def truD : D → Option Bool
  | .non => some false
  | .bl b => some b
  | .int i => some (i != 0)
  | .str x => some (!x.isEmpty)
  | .lst x => some (!x.isEmpty)
  | .tup x => some (!x.isEmpty)
  | _ => none
def lenOkD : D → Prop
  | .str x => x.length ≤ 16777216
  | _ => True
def dTru (t : DE) : DT := fun ρ Q => t ρ fun d ρ' => lenOkD d ∧ match truD d with
  | some b => Q b ρ'
  | none => False
theorem isEmpty_len {α β : Type} {l : List α} {k : List β} (h : l.length = k.length) : l.isEmpty = k.isEmpty := by cases l <;> cases k <;> simp_all
theorem S_len (x : List Nat) : (S x).length = x.length := by
  show (x.toArray).size = _
  simp
theorem tru_of {c : Ct} {F H : Hp} {d : D} {v : V} {b : Bool} (s : Same F H) (r : Vw c F H d v) (e : truD d = some b) (l : lenOkD d) : TruV c.K v H b := by
  cases d with
  | non =>
    cases e
    rw [show v = .non from r]
    exact rfl
  | bl k =>
    obtain rfl : k = b := Option.some.inj e
    rw [show v = .bl k from r]
    exact rfl
  | int i =>
    cases e
    rw [show v = .int i from r]
    exact rfl
  | str x =>
    cases e
    rw [show v = .str (S x) from r]
    refine ⟨by rw [S_len, sizeLine_eq]; exact l, ?_⟩
    rw [S_len]
    cases x with
    | nil => rfl
    | cons => simp; omega
  | lst ds =>
    cases e
    obtain ⟨a, vs, rfl, h1, h2⟩ := r
    exact .inl ⟨vs, SqL.of h1, by rw [isEmpty_len h2.length]⟩
  | tup ds =>
    cases e
    obtain ⟨a, vs, rfl, h1, h2⟩ := r
    exact .inr (.inl ⟨vs, SqT.of (s _ _ h1), by rw [isEmpty_len h2.length]⟩)
  | dct kd ks ds => cases e
  | ins C ns vs => cases e
  | raw w => cases e
  | pin q d => cases e
  | tok => cases e
  | exc a d C ns vs => cases e
theorem pdt_tru {t : DE} (h : PQ X m e t) (he : ∀ whole, isTrue e X.env whole = (do let v ← whole; standAt e.pos; holding [v] (truthy v)) := by intro _; rfl) : PDT X m e (dTru t) := by
  refine ⟨PT.imp (pt_truth h.pe he) fun σ H Q ⟨ρ, F, S, t⟩ => ?_, fun ρ Q Q' i => h.mono _ _ _ fun d ρ' => ?_⟩
  · refine ⟨ρ, F, S, h.mono _ _ _ (fun d ρ' q v H' F' s S' r => ?_) t⟩
    obtain ⟨hl, q⟩ := q
    split at q
    · rename_i b e1
      exact ⟨b, tru_of S'.gr.fs r e1 hl, q H' F' s S'⟩
    · exact q.elim
  · rintro ⟨hl, q⟩
    refine ⟨hl, ?_⟩
    split at q
    · exact i _ _ q
    · exact q.elim
variable {ua ub : DT} {rest : List Expr}
def dAnd (t u : DT) : DT := fun ρ Q => t ρ fun b ρ' => if b = true then u ρ' Q else Q false ρ'
def dOr (t u : DT) : DT := fun ρ Q => t ρ fun b ρ' => if b = true then Q true ρ' else u ρ' Q
def dNot (t : DT) : DT := fun ρ Q => t ρ fun b ρ' => Q (!b) ρ'
theorem PDW.pt (h : PDW X m e ua) : PDT X m e ua := ⟨h.pe.pt, h.mono⟩
theorem pdw_and1 (ha : PDT X m a ua) : PDW X m (.BoolOp .And [a] pos) ua := ⟨pw_and1 ha.pe, ha.mono⟩
theorem pdw_or1 (ha : PDT X m a ua) : PDW X m (.BoolOp .Or [a] pos) ua := ⟨pw_or1 ha.pe, ha.mono⟩
theorem pdw_and (ha : PDT X m a ua) (hb : PDW X m (.BoolOp .And (b :: rest) pos) ub) : PDW X m (.BoolOp .And (a :: b :: rest) pos) (dAnd ua ub) := by
  refine ⟨PW.imp (pw_and ha.pe hb.pe) fun σ H Q ⟨ρ, F, S, t⟩ => ⟨ρ, F, S, ha.mono _ _ _ (fun k ρ' q H' F' s S' => ?_) t⟩, fun ρ Q Q' i => ha.mono _ _ _ fun k ρ' => ?_⟩
  · cases k with
    | true => exact ⟨ρ', F', S', hb.mono _ _ _ (fun k2 ρ2 q H2 F2 s2 S2 => q H2 F2 (s.trans s2) S2) q⟩
    | false => exact q H' F' s S'
  · cases k with
    | true => exact hb.mono _ _ _ i
    | false => exact i _ _
theorem pdw_or (ha : PDT X m a ua) (hb : PDW X m (.BoolOp .Or (b :: rest) pos) ub) : PDW X m (.BoolOp .Or (a :: b :: rest) pos) (dOr ua ub) := by
  refine ⟨PW.imp (pw_or ha.pe hb.pe) fun σ H Q ⟨ρ, F, S, t⟩ => ⟨ρ, F, S, ha.mono _ _ _ (fun k ρ' q H' F' s S' => ?_) t⟩, fun ρ Q Q' i => ha.mono _ _ _ fun k ρ' => ?_⟩
  · cases k with
    | false => exact ⟨ρ', F', S', hb.mono _ _ _ (fun k2 ρ2 q H2 F2 s2 S2 => q H2 F2 (s.trans s2) S2) q⟩
    | true => exact q H' F' s S'
  · cases k with
    | false => exact hb.mono _ _ _ i
    | true => exact i _ _
theorem pdt_not (ha : PDT X m a ua) : PDT X m (.UnaryOp .Not a pos) (dNot ua) :=
  ⟨PT.imp (pt_not ha.pe) fun σ H Q ⟨ρ, F, S, t⟩ => ⟨ρ, F, S, ha.mono _ _ _ (fun k ρ' q H' F' s S' => q H' F' s S') t⟩, fun ρ Q Q' i => ha.mono _ _ _ fun k ρ' => i _ _⟩
def dAndV (t u : DE) : DE := fun ρ Q => t ρ fun d ρ' => match d with
  | .bl b => if b = true then u ρ' Q else Q (.bl false) ρ'
  | _ => False
def dOrV (t u : DE) : DE := fun ρ Q => t ρ fun d ρ' => match d with
  | .bl b => if b = true then Q (.bl true) ρ' else u ρ' Q
  | _ => False
def dNotV (t : DE) : DE := fun ρ Q => t ρ fun d ρ' => match d with
  | .bl b => Q (.bl (!b)) ρ'
  | _ => False
theorem pd_one {op} (ha : PD X m a ta) : PD X m (.BoolOp op [a] pos) ta := ⟨pe_one ha.pe, ha.mono⟩
theorem pd_and (ha : PD X m a ta) (hb : PD X m (.BoolOp .And (b :: rest) pos) tb) : PD X m (.BoolOp .And (a :: b :: rest) pos) (dAndV ta tb) := by
  refine ⟨PE.imp (pe_and ha.pe hb.pe) fun σ H Q ⟨ρ, F, S, t⟩ => ⟨ρ, F, S, ha.mono _ _ _ (fun d ρ' q v H' F' s S' r => ?_) t⟩, fun ρ Q Q' i => ha.mono _ _ _ fun d ρ' => ?_⟩
  · cases d with
    | bl k =>
      refine ⟨k, r, ?_⟩
      cases k with
      | true => exact ⟨ρ', F', S', hb.mono _ _ _ (fun k2 ρ2 q v2 H2 F2 s2 S2 => q v2 H2 F2 (s.trans s2) S2) q⟩
      | false => exact q _ H' F' s S' rfl
    | _ => exact q.elim
  · cases d with
    | bl k =>
      cases k with
      | true => exact hb.mono _ _ _ i
      | false => exact i _ _
    | _ => exact id
theorem pd_or (ha : PD X m a ta) (hb : PD X m (.BoolOp .Or (b :: rest) pos) tb) : PD X m (.BoolOp .Or (a :: b :: rest) pos) (dOrV ta tb) := by
  refine ⟨PE.imp (pe_or ha.pe hb.pe) fun σ H Q ⟨ρ, F, S, t⟩ => ⟨ρ, F, S, ha.mono _ _ _ (fun d ρ' q v H' F' s S' r => ?_) t⟩, fun ρ Q Q' i => ha.mono _ _ _ fun d ρ' => ?_⟩
  · cases d with
    | bl k =>
      refine ⟨k, r, ?_⟩
      cases k with
      | false => exact ⟨ρ', F', S', hb.mono _ _ _ (fun k2 ρ2 q v2 H2 F2 s2 S2 => q v2 H2 F2 (s.trans s2) S2) q⟩
      | true => exact q _ H' F' s S' rfl
    | _ => exact q.elim
  · cases d with
    | bl k =>
      cases k with
      | false => exact hb.mono _ _ _ i
      | true => exact i _ _
    | _ => exact id
theorem pd_not (ha : PD X m a ta) : PD X m (.UnaryOp .Not a pos) (dNotV ta) := by
  refine ⟨PE.imp (pe_not ha.pe) fun σ H Q ⟨ρ, F, S, t⟩ => ⟨ρ, F, S, ha.mono _ _ _ (fun d ρ' q v H' F' s S' r => ?_) t⟩, fun ρ Q Q' i => ha.mono _ _ _ fun d ρ' => ?_⟩
  · cases d with
    | bl k => exact ⟨k, r, q _ H' F' s S' rfl⟩
    | _ => exact q.elim
  · cases d with
    | bl k => exact i _ _
    | _ => exact id
def dIf (t : DT) (ta tb : DE) : DE := fun ρ Q => t ρ fun b ρ' => if b = true then ta ρ' Q else tb ρ' Q
theorem pd_ifExp (hc : PDT X m c' ua) (ha : PD X m a ta) (hb : PD X m b tb) : PD X m (.IfExp c' a b pos) (dIf ua ta tb) := by
  refine ⟨PE.imp (pe_ifExp hc.pe ha.pe hb.pe) fun σ H Q ⟨ρ, F, S, t⟩ => ⟨ρ, F, S, hc.mono _ _ _ (fun k ρ' q H' F' s S' => ?_) t⟩, fun ρ Q Q' i => hc.mono _ _ _ fun k ρ' => ?_⟩
  · cases k with
    | true => exact ⟨ρ', F', S', ha.mono _ _ _ (fun k2 ρ2 q v2 H2 F2 s2 S2 => q v2 H2 F2 (s.trans s2) S2) q⟩
    | false => exact ⟨ρ', F', S', hb.mono _ _ _ (fun k2 ρ2 q v2 H2 F2 s2 S2 => q v2 H2 F2 (s.trans s2) S2) q⟩
  · cases k with
    | true => exact ha.mono _ _ _ i
    | false => exact hb.mono _ _ _ i
theorem pdt_val {t : DE} (h : PD X m e t) (he : ∀ whole, isTrue e X.env whole = (do let v ← whole; standAt e.pos; holding [v] (truthy v)) := by intro _; rfl) : PDT X m e (dTest t) :=
  ⟨PT.imp (pt_val h.pe he) fun σ H Q q => lTest h.mono q, dTest_mono h.mono⟩
def dChain (f g : F2) (ta tb tc : DE) : DE := fun ρ Q => ta ρ fun d ρ1 => tb ρ1 fun e ρ2 => f d e fun z => match z with
  | .bl k => if k = true then tc ρ2 fun c ρ3 => g e c fun w => Q w ρ3 else Q (.bl false) ρ2
  | _ => False
theorem chain_mono {r r' : R2} {f g : F2} (ho : Op2 X m r f) (ho' : Op2 X m r' g) (ha : PD X m a ta) (hb : PD X m b tb) (hc : PD X m c' tc) : ∀ ρ (Q Q' : D → Ro → Prop), (∀ d ρ', Q d ρ' → Q' d ρ') → dChain f g ta tb tc ρ Q → dChain f g ta tb tc ρ Q' := by
  refine fun ρ Q Q' i => ha.mono _ _ _ fun d ρ1 => hb.mono _ _ _ fun e ρ2 => ho.mono _ _ _ _ fun z => ?_
  cases z with
  | bl k =>
    cases k with
    | true => exact hc.mono _ _ _ fun c ρ3 => ho'.mono _ _ _ _ fun w => i _ _
    | false => exact i _ _
  | _ => exact id
theorem chain_imp {r r' : R2} {f g : F2} (ho : Op2 X m r f) (ho' : Op2 X m r' g) (ha : PD X m a ta) (hb : PD X m b tb) (hc : PD X m c' tc) (σ : L2.St) (H : Hp) (Q : VK) (h : lE X m (dChain f g ta tb tc) σ H Q) : tChain r r' (lE X m ta) (lE X m tb) (lE X m tc) σ H Q := by
  obtain ⟨ρ, F, S, t⟩ := h
  refine ⟨ρ, F, S, ha.mono _ _ _ (fun d ρ1 q x H1 F1 s1 S1 r1 => ?_) t⟩
  refine ⟨ρ1, F1, S1, hb.mono _ _ _ (fun e ρ2 q y H2 F2 s2 S2 r2 => ?_) q⟩
  refine ho.ok S2 (.of_rep S2.gr.fs (r1.mono s2)) (.of_rep S2.gr.fs r2) q fun z v H3 F3 p g3 rz => ?_
  cases z with
  | bl k =>
    refine ⟨k, rz, ?_⟩
    have S3 := S2.grow g3
    have s3 := s1.trans (s2.trans g3.f0)
    cases k with
    | true =>
      refine ⟨ρ2, F3, S3, hc.mono _ _ _ (fun c ρ4 q w H4 F4 s4 S4 r4 => ?_) p⟩
      exact ho'.ok S4 (.of_rep S4.gr.fs (r2.mono (g3.f0.trans s4))) (.of_rep S4.gr.fs r4) q fun z v H' F' p g rz => p v H' F' (s3.trans (s4.trans g.f0)) (S4.grow g) rz
    | false => exact p _ H3 F3 s3 S3 rfl
  | _ => exact p.elim
theorem pd_chain {op op' : CmpOp} {r r' : R2} {f g : F2} (ho : Op2 X m r f) (ho' : Op2 X m r' g) (hr : OpR X (compareOp op) r) (hr' : OpR X (compareOp op') r') (ha : PD X m a ta) (hb : PD X m b tb) (hc : PD X m c' tc)
    (hm : lastMarks [op, op'] [b, c'] = false := by with_unfolding_all rfl) : PD X m (.Compare a [op, op'] [b, c'] pos) (dChain f g ta tb tc) :=
  ⟨PE.imp (pe_chain hr hr' ha.pe hb.pe hc.pe hm) (chain_imp ho ho' ha hb hc), chain_mono ho ho' ha hb hc⟩
theorem pdt_chain {op op' : CmpOp} {r r' : R2} {f g : F2} (ho : Op2 X m r f) (ho' : Op2 X m r' g) (hr : OpR X (compareOp op) r) (hr' : OpR X (compareOp op') r') (ha : PD X m a ta) (hb : PD X m b tb) (hc : PD X m c' tc)
    (hm : lastMarks [op, op'] [b, c'] = false := by with_unfolding_all rfl) : PDT X m (.Compare a [op, op'] [b, c'] pos) (dTest (dChain f g ta tb tc)) :=
  ⟨PT.imp (pt_chain hr hr' ha.pe hb.pe hc.pe hm) fun σ H Q h => chain_imp ho ho' ha hb hc σ H _ (lTest (chain_mono ho ho' ha hb hc) h), dTest_mono (chain_mono ho ho' ha hb hc)⟩
end
end DL
namespace DL
open PySem L2
section
variable {X : Cx} {m : M} {e a b c' : Expr} {es : List Expr} {te ta tb tc : DE} {pos : Pos}
theorem line16 : (sizeLine : Nat) = 16777216 := sizeLine_eq
theorem S_app (x y : List Nat) : S x ++ S y = S (x ++ y) := by
  show (⟨x.toArray ++ y.toArray⟩ : Str) = ⟨(x ++ y).toArray⟩
  simp
theorem S_inj {x y : List Nat} (h : S x = S y) : x = y := by
  have e : x.toArray = y.toArray := congrArg Str.cps h
  simpa using e
theorem S_cps (x : List Nat) : (S x).cps.toList = x := by
  show x.toArray.toList = x
  simp
theorem S_of (x : Str) : S x.cps.toList = x := by
  show (⟨x.cps.toList.toArray⟩ : Str) = x
  simp
def fAdd : F2
  | .int i, .int j, P => P (.int (i + j))
  | .str x, .str y, P => x.length + y.length ≤ 16777216 ∧ P (.str (x ++ y))
  | .lst x, .lst y, P => x.length + y.length ≤ 16777216 ∧ P (.lst (x ++ y))
  | .tup x, .tup y, P => x.length + y.length ≤ 16777216 ∧ P (.tup (x ++ y))
  | _, _, _ => False
def rAddU (K : Frag) : R2 := fun x y H Q => (∃ i j, x = .int i ∧ y = .int j ∧ Q (.int (i + j)) H) ∨ (∃ i j, x = .str i ∧ y = .str j ∧ i.length + j.length ≤ sizeLine ∧ Q (.str (i ++ j)) H) ∨ rCat x y H Q ∨ rCatA K x y H Q
theorem op_addU : OpR X (binaryOp .Add) (rAddU X.K) := op_add.or (op_add_str.or (op_cat.or op_catA))
theorem o_add : Op2 X m (rAddU X.K) fAdd := by
  refine ⟨fun {σ H ρ F d e x y Q P} S r1 r2 h k => ?_, fun d e P P' i => ?_⟩
  · unfold fAdd at h
    split at h
    · rename_i i j
      rw [show x = .int _ from r1, show y = .int _ from r2]
      exact .inl ⟨_, _, rfl, rfl, k _ _ H F h (Grow.refl S.gr.fs S.gr.tok) rfl⟩
    · rename_i p q
      rw [show x = .str _ from r1, show y = .str _ from r2]
      refine .inr (.inl ⟨_, _, rfl, rfl, by rw [S_len, S_len, line16]; exact h.1, k _ _ H F h.2 (Grow.refl S.gr.fs S.gr.tok) ?_⟩)
      rw [S_app]
      rfl
    · obtain ⟨a, vs, rfl, h1, h2⟩ := r1
      obtain ⟨b, ws, rfl, g1, g2⟩ := r2
      refine .inr (.inr (.inl ⟨a, b, vs, ws, rfl, rfl, h1, g1, by rw [← h2.length, ← g2.length, line16]; exact h.1, fun p hp => ?_⟩))
      refine k _ _ _ _ h.2 (S.alloc hp) ⟨p, _, rfl, upd_same, ?_⟩
      have s := (S.alloc (o := .lst (vs ++ ws)) hp).f0
      exact (h2.mono s).app (g2.mono s)
    · obtain ⟨a, vs, rfl, h1, h2⟩ := r1
      obtain ⟨b, ws, rfl, g1, g2⟩ := r2
      refine .inr (.inr (.inr ⟨a, b, vs, ws, rfl, rfl, SqT.of (S.gr.fs _ _ h1), SqT.of (S.gr.fs _ _ g1), by rw [← h2.length, ← g2.length, line16]; exact h.1, fun e => ?_, fun _ e => ?_, fun _ _ p hp => ?_⟩))
      · subst e
        refine k _ _ H F h.2 (Grow.refl S.gr.fs S.gr.tok) ⟨b, ws, rfl, g1, ?_⟩
        have := h2.app g2
        simpa using this
      · subst e
        refine k _ _ H F h.2 (Grow.refl S.gr.fs S.gr.tok) ⟨a, vs, rfl, h1, ?_⟩
        have := h2.app g2
        simpa using this
      · refine k _ _ _ _ h.2 (S.alloc hp) ⟨p, _, rfl, upd_same, ?_⟩
        have s := (S.alloc (o := .tup (vs ++ ws)) hp).f0
        exact (h2.mono s).app (g2.mono s)
    · exact h.elim
  · unfold fAdd
    split <;> first | exact i _ | exact fun h => ⟨h.1, i _ h.2⟩ | exact id
def fII (C : Int → Int → Prop) (g : Int → Int → D) : F2
  | .int i, .int j, P => C i j ∧ P (g i j)
  | _, _, _ => False
theorem fII_mono {C : Int → Int → Prop} {g : Int → Int → D} (d e : D) (P P' : D → Prop) (i : ∀ z, P z → P' z) : fII C g d e P → fII C g d e P' := by
  unfold fII
  split
  · exact fun h => ⟨h.1, i _ h.2⟩
  · exact id
theorem o_II {C : Int → Int → Prop} {g : Int → Int → V} {g' : Int → Int → D} (hg : ∀ F i j, Rep (m.c X) F (g' i j) (g i j)) : Op2 X m (rI C g) (fII C g') := by
  refine ⟨fun {σ H ρ F d e x y Q P} S r1 r2 h k => ?_, fun d e P P' i => fII_mono d e P P' i⟩
  unfold fII at h
  split at h
  · rw [show x = .int _ from r1, show y = .int _ from r2]
    exact ⟨_, _, rfl, rfl, h.1, k _ _ H F h.2 (Grow.refl S.gr.fs S.gr.tok) (hg _ _ _)⟩
  · exact h.elim
def fI0 (g : Int → Int → D) : F2
  | .int i, .int j, P => P (g i j)
  | _, _, _ => False
theorem o_I0 {g : Int → Int → V} {g' : Int → Int → D} (hg : ∀ F i j, Rep (m.c X) F (g' i j) (g i j)) : Op2 X m (rI0 g) (fI0 g') := by
  refine ⟨fun {σ H ρ F d e x y Q P} S r1 r2 h k => ?_, fun d e P P' i => ?_⟩
  · unfold fI0 at h
    split at h
    · rw [show x = .int _ from r1, show y = .int _ from r2]
      exact ⟨_, _, rfl, rfl, k _ _ H F h (Grow.refl S.gr.fs S.gr.tok) (hg _ _ _)⟩
    · exact h.elim
  · unfold fI0
    split
    · exact i _
    · exact id
abbrev fSub : F2 := fI0 fun i j => .int (i - j)
theorem o_sub : Op2 X m (rI0 fun i j => .int (i - j)) fSub := o_I0 fun _ _ _ => rfl
abbrev fMod : F2 := fII (fun _ j => 0 < j) fun i j => .int (i % j)
theorem o_mod : Op2 X m (rI (fun _ j => 0 < j) fun i j => .int (i % j)) fMod := o_II fun _ _ _ => rfl
abbrev fDiv : F2 := fII CDiv fun i j => .int (i / j)
theorem o_div : Op2 X m (rI CDiv fun i j => .int (i / j)) fDiv := o_II fun _ _ _ => rfl
abbrev fPow : F2 := fII CPow fun i j => .int (i ^ j.toNat)
theorem o_pow : Op2 X m (rI CPow fun i j => .int (i ^ j.toNat)) fPow := o_II fun _ _ _ => rfl
abbrev fShl : F2 := fII CPow fun i j => .int (i * 2 ^ j.toNat)
theorem o_shl : Op2 X m (rI CPow fun i j => .int (i * 2 ^ j.toNat)) fShl := o_II fun _ _ _ => rfl
abbrev fShr : F2 := fII (fun _ j => 0 ≤ j) fun i j => .int (i / 2 ^ j.toNat)
theorem o_shr : Op2 X m (rI (fun _ j => 0 ≤ j) fun i j => .int (i / 2 ^ j.toNat)) fShr := o_II fun _ _ _ => rfl
abbrev fAnd : F2 := fI0 fun i j => .int (Builtin.bitAnd i j)
theorem o_and : Op2 X m (rI0 fun i j => .int (Builtin.bitAnd i j)) fAnd := o_I0 fun _ _ _ => rfl
abbrev fOr : F2 := fI0 fun i j => .int (Builtin.bitOr i j)
theorem o_or : Op2 X m (rI0 fun i j => .int (Builtin.bitOr i j)) fOr := o_I0 fun _ _ _ => rfl
abbrev fXor : F2 := fI0 fun i j => .int (Builtin.bitXor i j)
theorem o_xor : Op2 X m (rI0 fun i j => .int (Builtin.bitXor i j)) fXor := o_I0 fun _ _ _ => rfl
def fCmp (p : Int → Int → Bool) (q : List Nat → List Nat → Bool) : F2
  | .int i, .int j, P => P (.bl (p i j))
  | .str x, .str y, P => P (.bl (q x y))
  | _, _, _ => False
theorem o_cmp {p : Int → Int → Bool} {q : List Nat → List Nat → Bool} : Op2 X m (fun x y H Q => (∃ i j, x = .int i ∧ y = .int j ∧ Q (.bl (p i j)) H) ∨ (∃ i j, x = .str i ∧ y = .str j ∧ Q (.bl (q i.cps.toList j.cps.toList)) H)) (fCmp p q) := by
  refine ⟨fun {σ H ρ F d e x y Q P} S r1 r2 h k => ?_, fun d e P P' i => ?_⟩
  · unfold fCmp at h
    split at h
    · rw [show x = .int _ from r1, show y = .int _ from r2]
      exact .inl ⟨_, _, rfl, rfl, k _ _ H F h (Grow.refl S.gr.fs S.gr.tok) rfl⟩
    · rw [show x = .str _ from r1, show y = .str _ from r2]
      refine .inr ⟨_, _, rfl, rfl, ?_⟩
      rw [S_cps, S_cps]
      exact k _ _ H F h (Grow.refl S.gr.fs S.gr.tok) rfl
    · exact h.elim
  · unfold fCmp
    split <;> first | exact i _ | exact id
abbrev fLt : F2 := fCmp (fun i j => decide (i < j)) fun x y => decide (x < y)
abbrev fLe : F2 := fCmp (fun i j => decide (i ≤ j)) fun x y => !decide (y < x)
abbrev fGt : F2 := fCmp (fun i j => decide (j < i)) fun x y => decide (y < x)
abbrev fGe : F2 := fCmp (fun i j => decide (j ≤ i)) fun x y => !decide (x < y)
theorem op_ltU : OpR X (compareOp .Lt) (fun x y H Q => (∃ i j, x = .int i ∧ y = .int j ∧ Q (.bl (decide (i < j))) H) ∨ (∃ i j, x = .str i ∧ y = .str j ∧ Q (.bl (decide (i.cps.toList < j.cps.toList))) H)) := op_lt.or op_lt_str
theorem op_leU : OpR X (compareOp .LtE) (fun x y H Q => (∃ i j, x = .int i ∧ y = .int j ∧ Q (.bl (decide (i ≤ j))) H) ∨ (∃ i j, x = .str i ∧ y = .str j ∧ Q (.bl (!decide (j.cps.toList < i.cps.toList))) H)) := op_le.or op_le_str
theorem op_gtU : OpR X (compareOp .Gt) (fun x y H Q => (∃ i j, x = .int i ∧ y = .int j ∧ Q (.bl (decide (j < i))) H) ∨ (∃ i j, x = .str i ∧ y = .str j ∧ Q (.bl (decide (j.cps.toList < i.cps.toList))) H)) := op_gt.or op_gt_str
theorem op_geU : OpR X (compareOp .GtE) (fun x y H Q => (∃ i j, x = .int i ∧ y = .int j ∧ Q (.bl (decide (j ≤ i))) H) ∨ (∃ i j, x = .str i ∧ y = .str j ∧ Q (.bl (!decide (i.cps.toList < j.cps.toList))) H)) := op_ge.or op_ge_str
theorem o_lt : Op2 X m (fun x y H Q => (∃ i j, x = .int i ∧ y = .int j ∧ Q (.bl (decide (i < j))) H) ∨ (∃ i j, x = .str i ∧ y = .str j ∧ Q (.bl (decide (i.cps.toList < j.cps.toList))) H)) fLt := o_cmp (p := fun i j => decide (i < j)) (q := fun x y => decide (x < y))
theorem o_le : Op2 X m (fun x y H Q => (∃ i j, x = .int i ∧ y = .int j ∧ Q (.bl (decide (i ≤ j))) H) ∨ (∃ i j, x = .str i ∧ y = .str j ∧ Q (.bl (!decide (j.cps.toList < i.cps.toList))) H)) fLe := o_cmp (p := fun i j => decide (i ≤ j)) (q := fun x y => !decide (y < x))
theorem o_gt : Op2 X m (fun x y H Q => (∃ i j, x = .int i ∧ y = .int j ∧ Q (.bl (decide (j < i))) H) ∨ (∃ i j, x = .str i ∧ y = .str j ∧ Q (.bl (decide (j.cps.toList < i.cps.toList))) H)) fGt := o_cmp (p := fun i j => decide (j < i)) (q := fun x y => decide (y < x))
theorem o_ge : Op2 X m (fun x y H Q => (∃ i j, x = .int i ∧ y = .int j ∧ Q (.bl (decide (j ≤ i))) H) ∨ (∃ i j, x = .str i ∧ y = .str j ∧ Q (.bl (!decide (i.cps.toList < j.cps.toList))) H)) fGe := o_cmp (p := fun i j => decide (j ≤ i)) (q := fun x y => !decide (x < y))
def eqS : D → D → Option Bool
  | .non, .non => some true | .non, .int _ => some false | .int _, .non => some false | .non, .bl _ => some false | .bl _, .non => some false | .non, .str _ => some false | .str _, .non => some false
  | .int i, .int j => some (decide (i = j)) | .bl i, .bl j => some (decide (i = j)) | .str i, .str j => some (decide (i = j))
  | .int _, .str _ => some false | .str _, .int _ => some false | .bl _, .str _ => some false | .str _, .bl _ => some false
  | _, _ => none
mutual
def toP : D → PyData
  | .non => .none
  | .bl b => .bool b
  | .int i => .int i
  | .str x => .str (S x)
  | .lst ds => .list (toPs ds)
  | .tup ds => .tuple (toPs ds)
  | _ => .dict []
def toPs : List D → List PyData
  | [] => []
  | d :: ds => toP d :: toPs ds
end
def okD (d : D) : Bool := SeqAt.shaped (toP d)
mutual
theorem dp_of {c : Ct} {F H : Hp} (s : Same F H) : ∀ {d : D} {v : V}, Rep c F d v → (toP d).canLay0 = true → Dp c.K H v (toP d)
  | .non, v, h, _ => by rw [show v = .non from h]; exact .non
  | .bl b, v, h, _ => by rw [show v = .bl b from h]; exact .bl b
  | .int b, v, h, _ => by rw [show v = .int b from h]; exact .int b
  | .str b, v, h, _ => by rw [show v = .str (S b) from h]; exact .str _
  | .lst ds, v, h, k => by
    obtain ⟨a, vs, rfl, h1, h2⟩ := h
    exact .lst (SqL.of (s _ _ h1)) (dps_of s h2 k)
  | .tup ds, v, h, k => by
    obtain ⟨a, vs, rfl, h1, h2⟩ := h
    exact .tup (SqT.of (s _ _ h1)) (dps_of s h2 k)
  | .dct _ _ _, _, _, k => by cases k
  | .ins _ _ _, _, _, k => by cases k
  | .raw _, _, _, k => by cases k
  | .tok, _, _, k => by cases k
  | .pin _ _, _, _, k => by cases k
theorem dps_of {c : Ct} {F H : Hp} (s : Same F H) : ∀ {ds : List D} {vs : List V}, Reps c F ds vs → PyData.canLayAll0 (toPs ds) = true → DpAll c.K H vs (toPs ds)
  | [], _, h, _ => by subst h; exact .nil
  | d :: ds, _, h, k => by
    obtain ⟨v, r, rfl, h1, h2⟩ := h
    have k' : ((toP d).canLay0 && PyData.canLayAll0 (toPs ds)) = true := k
    rw [Bool.and_eq_true] at k'
    exact .cons (dp_of s h1 k'.1) (dps_of s h2 k'.2)
end
theorem dp_vw {c : Ct} {F H : Hp} (s : Same F H) {d : D} {v : V} (h : Vw c F H d v) (k : (toP d).canLay0 = true) : Dp c.K H v (toP d) := by
  cases d with
  | lst ds =>
    obtain ⟨a, vs, rfl, h1, h2⟩ := h
    exact .lst (SqL.of h1) (dps_of s h2 k)
  | dct _ _ _ => cases k
  | ins _ _ _ => cases k
  | pin _ _ => cases k
  | _ => exact dp_of s h k
def fEqG (neg : Bool) : F2 := fun d e P => match eqS d e with
  | some b => P (.bl (if neg then !b else b))
  | none => okD d = true ∧ okD e = true ∧ P (.bl (if neg then !PyData.eqv (toP d) (toP e) else PyData.eqv (toP d) (toP e)))
abbrev fEq : F2 := fEqG false
abbrev fNe : F2 := fEqG true
def rEqU (K : Frag) : R2 := fun x y H Q => rEq x y H Q ∨ rEqD K x y H Q
def rNeU (K : Frag) : R2 := fun x y H Q => rNe x y H Q ∨ rNeD K x y H Q
theorem op_eqU (hu : X.A.units + 64 < cLine) : OpR X (compareOp .Eq) (rEqU X.K) := op_eq.or (op_eqD hu)
theorem op_neU (hu : X.A.units + 64 < cLine) : OpR X (compareOp .NotEq) (rNeU X.K) := op_ne.or (op_neD hu)
theorem eqS_of {c : Ct} {F H : Hp} {d e : D} {x y : V} {b : Bool} (r1 : Vw c F H d x) (r2 : Vw c F H e y) (h : eqS d e = some b) : scal x y = true ∧ decide (x = y) = b := by
  cases d <;> cases e <;> first
    | (simp only [eqS] at h; cases h; done)
    | (rw [show x = _ from r1, show y = _ from r2]; simp only [eqS, Option.some.injEq] at h; subst h; refine ⟨rfl, ?_⟩; first | rfl | simp [S] | (simp only [V.str.injEq]; exact decide_eq_decide.mpr ⟨S_inj, congrArg S⟩))
theorem o_eq : Op2 X m (rEqU X.K) fEq := by
  refine ⟨fun {σ H ρ F d e x y Q P} S r1 r2 h k => ?_, fun d e P P' i => ?_⟩
  · unfold fEq fEqG at h
    split at h
    · rename_i b hb
      obtain ⟨h1, h2⟩ := eqS_of r1 r2 hb
      refine .inl ⟨h1, ?_⟩
      rw [h2]
      exact k _ _ H F h (Grow.refl S.gr.fs S.gr.tok) rfl
    · obtain ⟨o1, o2, h⟩ := h
      exact .inr ⟨_, _, dp_vw S.gr.fs r1 (SeqAt.canLay_of_shaped o1), dp_vw S.gr.fs r2 (SeqAt.canLay_of_shaped o2), o1, o2, k _ _ H F h (Grow.refl S.gr.fs S.gr.tok) rfl⟩
  · unfold fEq fEqG
    split
    · exact i _
    · exact fun h => ⟨h.1, h.2.1, i _ h.2.2⟩
theorem o_ne : Op2 X m (rNeU X.K) fNe := by
  refine ⟨fun {σ H ρ F d e x y Q P} S r1 r2 h k => ?_, fun d e P P' i => ?_⟩
  · unfold fNe fEqG at h
    split at h
    · rename_i b hb
      obtain ⟨h1, h2⟩ := eqS_of r1 r2 hb
      refine .inl ⟨h1, ?_⟩
      rw [h2]
      exact k _ _ H F h (Grow.refl S.gr.fs S.gr.tok) rfl
    · obtain ⟨o1, o2, h⟩ := h
      exact .inr ⟨_, _, dp_vw S.gr.fs r1 (SeqAt.canLay_of_shaped o1), dp_vw S.gr.fs r2 (SeqAt.canLay_of_shaped o2), o1, o2, k _ _ H F h (Grow.refl S.gr.fs S.gr.tok) rfl⟩
  · unfold fNe fEqG
    split
    · exact i _
    · exact fun h => ⟨h.1, h.2.1, i _ h.2.2⟩
def fIsN (neg : Bool) : F2 := fun d e P => e = .non ∧ (d = .non → P (.bl (!neg))) ∧ (d ≠ .non → P (.bl neg))
theorem rep_non {c : Ct} {F H : Hp} {d : D} {v : V} (r : Vw c F H d v) (hr : ∀ w, d ≠ .raw w) : decide (v = .non) = true ↔ d = .non := by
  cases d with
  | non => rw [show v = .non from r]; simp
  | bl _ => rw [show v = _ from r]; simp
  | int _ => rw [show v = _ from r]; simp
  | str _ => rw [show v = _ from r]; simp
  | raw w => exact absurd rfl (hr w)
  | lst _ => obtain ⟨a, vs, rfl, _⟩ := r; simp
  | tup _ => obtain ⟨a, vs, rfl, _⟩ := r; simp
  | dct _ _ _ => obtain ⟨a, rfl, _⟩ := r; simp
  | ins _ _ _ => obtain ⟨a, dx, vs, rfl, _⟩ := r; simp
  | tok => obtain ⟨a, _, rfl⟩ := r; simp
  | pin _ _ => obtain ⟨rfl, _⟩ := r; simp
  | exc _ _ _ _ _ => obtain ⟨rfl, _⟩ := r; simp
def fIs (neg : Bool) : F2 := fun d e P => (∀ w, d ≠ .raw w) ∧ fIsN neg d e P
theorem o_isG {neg : Bool} : Op2 X m (fun x y H Q => y = .non ∧ Q (.bl (if neg then !decide (x = .non) else decide (x = .non))) H) (fIs neg) := by
  refine ⟨fun {σ H ρ F d e x y Q P} S r1 r2 h k => ?_, fun d e P P' i h => ⟨h.1, h.2.1, fun q => i _ (h.2.2.1 q), fun q => i _ (h.2.2.2 q)⟩⟩
  obtain ⟨hr, he, h1, h2⟩ := h
  subst he
  refine ⟨r2, ?_⟩
  have q := rep_non r1 hr
  by_cases z : d = .non
  · rw [q.mpr z]
    have := k _ (.bl (!neg)) H F (h1 z) (Grow.refl S.gr.fs S.gr.tok) rfl
    cases neg <;> exact this
  · have e : decide (x = .non) = false := by
      cases w : decide (x = V.non) with
      | false => rfl
      | true => exact absurd (q.mp w) z
    rw [e]
    have := k _ (.bl neg) H F (h2 z) (Grow.refl S.gr.fs S.gr.tok) rfl
    cases neg <;> exact this
abbrev fIsT : F2 := fIs false
abbrev fIsNot : F2 := fIs true
theorem o_is : Op2 X m (fun x y H Q => y = .non ∧ Q (.bl (decide (x = .non))) H) fIsT := o_isG (neg := false)
theorem o_isnot : Op2 X m (fun x y H Q => y = .non ∧ Q (.bl (!decide (x = .non))) H) fIsNot := o_isG (neg := true)
end
end DL
namespace DL
open PySem L2 PyProof.Rows
section
variable {X : Cx} {m : M} {e a b c' : Expr} {es : List Expr} {te ta tb tc : DE} {pos : Pos}
def flatD : D → Bool
  | .non => true | .bl _ => true | .int _ => true | .str _ => true
  | _ => false
def eqF : D → D → Bool
  | .non, .non => true
  | .bl a, .bl b => a == b
  | .bl a, .int b => (if a then 1 else 0) == b
  | .int a, .bl b => a == (if b then 1 else 0)
  | .int a, .int b => decide (a = b)
  | .str a, .str b => decide (a = b)
  | _, _ => false
theorem flat_of {c : Ct} {F : Hp} {d : D} {v : V} (r : Rep c F d v) (f : flatD d = true) : flatV v = true := by
  cases d <;> first
    | (cases f; done)
    | (rw [show v = _ from r]; rfl)
theorem eqF_of {c : Ct} {F : Hp} {d e : D} {x y : V} (r1 : Rep c F d x) (r2 : Rep c F e y) (f1 : flatD d = true) (f2 : flatD e = true) : eqV x y = eqF d e := by
  cases d <;> cases e <;> first
    | (cases f1; done)
    | (cases f2; done)
    | (rw [show x = _ from r1, show y = _ from r2]; first | rfl | (simp only [eqV, eqF]; first | rfl | (rename_i p q; rw [Bool.eq_iff_iff]; simp only [beq_iff_eq, decide_eq_true_eq]; exact ⟨S_inj, congrArg S⟩) | (rw [Bool.eq_iff_iff]; simp; done)))
def inF (d : D) (es : List D) : Bool := es.any fun e => eqF e d
theorem flats_of {c : Ct} {F : Hp} : ∀ {ds : List D} {vs : List V}, Reps c F ds vs → ds.all flatD = true → vs.all flatV = true
  | [], _, h, _ => by subst h; rfl
  | d :: ds, _, h, k => by
    obtain ⟨v, r, rfl, h1, h2⟩ := h
    rw [List.all_cons, Bool.and_eq_true] at k ⊢
    exact ⟨flat_of h1 k.1, flats_of h2 k.2⟩
theorem inF_of {c : Ct} {F : Hp} {d : D} {x : V} (r : Rep c F d x) (f : flatD d = true) : ∀ {ds : List D} {vs : List V}, Reps c F ds vs → ds.all flatD = true → inV x vs = inF d ds
  | [], _, h, _ => by subst h; rfl
  | e :: ds, _, h, k => by
    obtain ⟨v, r', rfl, h1, h2⟩ := h
    rw [List.all_cons, Bool.and_eq_true] at k
    show (eqV v x || inV x r') = (eqF e d || inF d ds)
    rw [eqF_of h1 r k.1 f, inF_of r f h2 k.2]
def keyOf : D → Option Key
  | .int i => some (.inl i)
  | .str x => some (.inr (S x))
  | _ => none
def keysOf : List D → Option (List Key)
  | [] => some []
  | d :: ds => match keyOf d, keysOf ds with
    | some k, some ks => some (k :: ks)
    | _, _ => none
theorem keyD_of : ∀ {d : D} {k : Key}, keyOf d = some k → keyD k = d
  | .int i, _, h => by cases h; rfl
  | .str x, _, h => by cases h; show D.str (S x).cps.toList = _; rw [S_cps]
  | .non, _, h => by cases h
  | .bl _, _, h => by cases h
  | .lst _, _, h => by cases h
  | .tup _, _, h => by cases h
  | .dct _ _ _, _, h => by cases h
  | .ins _ _ _, _, h => by cases h
  | .raw _, _, h => by cases h
  | .tok, _, h => by cases h
  | .pin _ _, _, h => by cases h
theorem keyD_inj {k j : Key} (h : keyD k = keyD j) : k = j := by
  cases k <;> cases j <;> first
    | (injection h with h; subst h; rfl)
    | (cases h; done)
    | (rename_i x y; have e : x.cps.toList = y.cps.toList := by injection h
       have := congrArg S e; rw [S_of, S_of] at this; rw [this])
theorem keysD_of : ∀ {ds : List D} {ks : List Key}, keysOf ds = some ks → ks.map keyD = ds
  | [], _, h => by cases h; rfl
  | d :: ds, _, h => by
    unfold keysOf at h
    cases e1 : keyOf d with
    | none => rw [e1] at h; cases h
    | some k =>
      cases e2 : keysOf ds with
      | none => rw [e1, e2] at h; cases h
      | some ks =>
        rw [e1, e2] at h
        cases h
        rw [List.map_cons, keyD_of e1, keysD_of e2]
theorem keysD_inj : ∀ {ks js : List Key}, ks.map keyD = js.map keyD → ks = js
  | [], [], _ => rfl
  | [], _ :: _, h => by cases h
  | _ :: _, [], h => by cases h
  | k :: ks, j :: js, h => by
    rw [List.map_cons, List.map_cons] at h
    injection h with h1 h2
    rw [keyD_inj h1, keysD_inj h2]
theorem keyV_of {c : Ct} {F : Hp} {d : D} {v : V} {k : Key} (r : Rep c F d v) (h : keyOf d = some k) : v = kV k := by
  cases d <;> first
    | (cases h; done)
    | (rw [show v = _ from r]; cases h; rfl)
theorem keysV_of {c : Ct} {F : Hp} : ∀ {ds : List D} {vs : List V} {ks : List Key}, Reps c F ds vs → keysOf ds = some ks → vs = ks.map kV
  | [], _, _, r, h => by cases h; rw [show _ = [] from r]; rfl
  | d :: ds, _, _, r, h => by
    obtain ⟨v, r', rfl, h1, h2⟩ := r
    unfold keysOf at h
    cases e1 : keyOf d with
    | none => rw [e1] at h; cases h
    | some k =>
      cases e2 : keysOf ds with
      | none => rw [e1, e2] at h; cases h
      | some ks =>
        rw [e1, e2] at h
        cases h
        rw [List.map_cons, keyV_of h1 e1, keysV_of h2 e2]
def keyOk : Nat → D → Bool
  | 0, d => (keyOf d).isSome
  | 1, .tup ds => (keysOf ds).isSome
  | _, _ => false
open Classical in
noncomputable def lookD : List D → List D → D → Option D
  | k :: ks, v :: vs, d => if k = d then some v else lookD ks vs d
  | _, _, _ => none
theorem look_of {c : Ct} {F : Hp} {κ : Type} [DecidableEq κ] {f : κ → D} (hf : ∀ x y, f x = f y → x = y) {k : κ} : ∀ {es : List (κ × V)} {ds : List D}, Reps c F ds (es.map (·.2)) →
    (lookD (es.map fun p => f p.1) ds (f k) = none ∧ valV es k = none) ∨ ∃ d v, lookD (es.map fun p => f p.1) ds (f k) = some d ∧ valV es k = some v ∧ Rep c F d v
  | [], [], _ => .inl ⟨rfl, rfl⟩
  | [], _ :: _, h => by obtain ⟨_, _, e, _⟩ := h; cases e
  | p :: es, [], h => by cases h
  | p :: es, d :: ds, h => by
    obtain ⟨v, r, e, h1, h2⟩ := h
    rw [List.map_cons] at e
    injection e with e1 e2
    subst e1 e2
    by_cases hk : p.1 = k
    · refine .inr ⟨d, p.2, ?_, valV_pos hk, h1⟩
      rw [List.map_cons]
      unfold lookD
      rw [if_pos (by rw [hk])]
    · have hn : ¬ f p.1 = f k := fun q => hk (hf _ _ q)
      rw [List.map_cons]
      unfold lookD
      rw [if_neg hn, valV_neg hk]
      exact look_of hf h2
theorem dget_of {c : Ct} {F H : Hp} (s : Same F H) {kd : Nat} {ks ds : List D} {d : D} {x y : V} (r : Vw c F H (.dct kd ks ds) x) (q : Rep c F d y) (ok : keyOk kd d = true) :
    ∃ a, x = .ref a ∧ ((lookD ks ds d = none ∧ DGet H a y none) ∨ ∃ e v, lookD ks ds d = some e ∧ DGet H a y (some v) ∧ Rep c F e v) := by
  obtain ⟨a, rfl, ⟨rfl, es, h1, rfl, h3⟩ | ⟨rfl, es, h1, rfl, h3⟩⟩ := r
  · refine ⟨a, rfl, ?_⟩
    obtain ⟨k, hk⟩ := Option.isSome_iff_exists.mp (show (keyOf d).isSome = true from ok)
    have ed := keyD_of hk
    subst ed
    have ev := keyV_of q hk
    subst ev
    rcases look_of (c := c) (F := F) (f := keyD) (fun _ _ => keyD_inj) (k := k) h3 with ⟨h, g⟩ | ⟨e, v, h, g, rr⟩
    · exact .inl ⟨h, .inl ⟨es, k, .inl h1, rfl, g.symm⟩⟩
    · exact .inr ⟨e, v, h, .inl ⟨es, k, .inl h1, rfl, g.symm⟩, rr⟩
  · cases d with
    | tup dk =>
      refine ⟨a, rfl, ?_⟩
      obtain ⟨k, hk⟩ := Option.isSome_iff_exists.mp (show (keysOf dk).isSome = true from ok)
      have ed := keysD_of hk
      subst ed
      obtain ⟨b, vs, rfl, g1, g2⟩ := q
      have ev := keysV_of g2 hk
      subst ev
      rcases look_of (c := c) (F := F) (f := fun k : List Key => D.tup (k.map keyD)) (fun x y e => keysD_inj (by injection e)) (k := k) h3 with ⟨h, g⟩ | ⟨e, v, h, g, rr⟩
      · exact .inl ⟨h, .inr ⟨es, k, b, .inl h1, rfl, s _ _ g1, g.symm⟩⟩
      · exact .inr ⟨e, v, h, .inr ⟨es, k, b, .inl h1, rfl, s _ _ g1, g.symm⟩, rr⟩
    | _ => cases ok
def fInG (neg : Bool) : F2 := fun d e P => match e with
  | .str y => (match d with
    | .str [c] => P (.bl (if neg then !decide (c ∈ y) else decide (c ∈ y)))
    | .str x => P (.bl (if neg then !(!(Builtin.Str.occurrences (S y) (S x) 0 y.length 1).isEmpty) else !(Builtin.Str.occurrences (S y) (S x) 0 y.length 1).isEmpty))
    | _ => False)
  | .lst es => flatD d = true ∧ es.all flatD = true ∧ P (.bl (if neg then !inF d es else inF d es))
  | .tup es => flatD d = true ∧ es.all flatD = true ∧ P (.bl (if neg then !inF d es else inF d es))
  | .dct kd ks vs => keyOk kd d = true ∧ P (.bl (if neg then !(lookD ks vs d).isSome else (lookD ks vs d).isSome))
  | _ => False
abbrev fIn : F2 := fInG false
abbrev fNotIn : F2 := fInG true
def rInU (K : Frag) (neg : Bool) : R2 := fun x y H Q => rIn K neg x y H Q ∨ (∃ (c : Nat) (z : Str), x = .str ⟨#[c]⟩ ∧ y = .str z ∧ Q (.bl (if neg then !decide (c ∈ z.cps.toList) else decide (c ∈ z.cps.toList))) H) ∨
  (∃ i j, x = .str i ∧ y = .str j ∧ Q (.bl (if neg then !(!(Builtin.Str.occurrences j i 0 j.length 1).isEmpty) else !(Builtin.Str.occurrences j i 0 j.length 1).isEmpty)) H) ∨
  (∃ a o, y = .ref a ∧ DGet H a x o ∧ Q (.bl (if neg then !o.isSome else o.isSome)) H)
theorem op_in_dict (hu : X.A.units + 1 < cLine) : OpR X (compareOp .In) (fun x y H Q => ∃ a o, y = .ref a ∧ DGet H a x o ∧ Q (.bl (if false then !o.isSome else o.isSome)) H) := by
  intro pins s σ H x y v u Q I rx ry h
  obtain ⟨a, o, rfl, g, q⟩ := h
  obtain rfl : u = Value.ref a := ry
  exact d_in hu I g rx fun s3 I3 => ⟨.bl o.isSome, H, I3, rfl, q⟩
theorem op_notIn_dict (hu : X.A.units + 1 < cLine) : OpR X (compareOp .NotIn) (fun x y H Q => ∃ a o, y = .ref a ∧ DGet H a x o ∧ Q (.bl (if true then !o.isSome else o.isSome)) H) := by
  intro pins s σ H x y v u Q I rx ry h
  obtain ⟨a, o, rfl, g, q⟩ := h
  obtain rfl : u = Value.ref a := ry
  exact d_notIn hu I g rx fun s3 I3 => ⟨.bl (!o.isSome), H, I3, rfl, q⟩
theorem op_inU (hu : X.A.units + 1 < cLine) : OpR X (compareOp .In) (rInU X.K false) := op_in_seq.or (op_in_sign.or (op_in_str.or (op_in_dict hu)))
theorem op_notInU (hu : X.A.units + 1 < cLine) : OpR X (compareOp .NotIn) (rInU X.K true) := op_notIn_seq.or (op_notIn_sign.or (op_notin_str.or (op_notIn_dict hu)))
theorem o_inG {neg : Bool} : Op2 X m (rInU X.K neg) (fInG neg) := by
  refine ⟨fun {σ H ρ F d e x y Q P} Sm r1 r2 h k => ?_, fun d e P P' i => ?_⟩
  · unfold fInG at h
    cases e with
    | str z =>
      have ey : y = .str (S z) := r2
      subst ey
      cases d with
      | str w =>
        have ex : x = .str (S w) := r1
        subst ex
        have go : P (.bl (if neg then !(!(Builtin.Str.occurrences (S z) (S w) 0 z.length 1).isEmpty) else !(Builtin.Str.occurrences (S z) (S w) 0 z.length 1).isEmpty)) → rInU X.K neg (.str (S w)) (.str (S z)) H Q := fun h =>
          .inr (.inr (.inl ⟨_, _, rfl, rfl, by rw [S_len]; exact k _ _ H F h (Grow.refl Sm.gr.fs Sm.gr.tok) rfl⟩))
        match w, h with
        | [], h => exact go h
        | [c], h =>
          refine .inr (.inl ⟨c, S z, rfl, rfl, ?_⟩)
          rw [S_cps]
          exact k _ _ H F h (Grow.refl Sm.gr.fs Sm.gr.tok) rfl
        | _ :: _ :: _, h => exact go h
      | _ => exact h.elim
    | lst es =>
      obtain ⟨f1, f2, h⟩ := h
      obtain ⟨a, vs, rfl, h1, h2⟩ := r2
      have r1' : Rep (m.c X) F d x := by cases d <;> first | exact r1 | (cases f1; done)
      refine .inl ⟨a, vs, rfl, .inl (SqL.of h1), flat_of r1' f1, flats_of h2 f2, ?_⟩
      rw [inF_of r1' f1 h2 f2]
      exact k _ _ H F h (Grow.refl Sm.gr.fs Sm.gr.tok) rfl
    | tup es =>
      obtain ⟨f1, f2, h⟩ := h
      obtain ⟨a, vs, rfl, h1, h2⟩ := r2
      have r1' : Rep (m.c X) F d x := by cases d <;> first | exact r1 | (cases f1; done)
      refine .inl ⟨a, vs, rfl, .inr (SqT.of (Sm.gr.fs _ _ h1)), flat_of r1' f1, flats_of h2 f2, ?_⟩
      rw [inF_of r1' f1 h2 f2]
      exact k _ _ H F h (Grow.refl Sm.gr.fs Sm.gr.tok) rfl
    | dct kd ks vs =>
      obtain ⟨ok, h⟩ := h
      have r1' : Rep (m.c X) F d x := by
        cases d with
        | lst _ => match kd, ok with
          | 0, ok => cases ok
          | 1, ok => cases ok
        | dct _ _ _ => match kd, ok with
          | 0, ok => cases ok
          | 1, ok => cases ok
        | ins _ _ _ => match kd, ok with
          | 0, ok => cases ok
          | 1, ok => cases ok
        | pin _ _ => match kd, ok with
          | 0, ok => cases ok
          | 1, ok => cases ok
        | _ => exact r1
      obtain ⟨a, rfl, ⟨e1, g⟩ | ⟨e, v, e1, g, _⟩⟩ := dget_of Sm.gr.fs r2 r1' ok
      · refine .inr (.inr (.inr ⟨a, _, rfl, g, ?_⟩))
        rw [e1] at h
        exact k _ _ H F h (Grow.refl Sm.gr.fs Sm.gr.tok) rfl
      · refine .inr (.inr (.inr ⟨a, _, rfl, g, ?_⟩))
        rw [e1] at h
        exact k _ _ H F h (Grow.refl Sm.gr.fs Sm.gr.tok) rfl
    | _ => exact h.elim
  · unfold fInG
    split
    · split <;> first | exact i _ | exact id
    · exact fun h => ⟨h.1, h.2.1, i _ h.2.2⟩
    · exact fun h => ⟨h.1, h.2.1, i _ h.2.2⟩
    · exact fun h => ⟨h.1, i _ h.2⟩
    · exact id
theorem o_in : Op2 X m (rInU X.K false) fIn := o_inG
theorem o_notIn : Op2 X m (rInU X.K true) fNotIn := o_inG
def fIx : F2 := fun d k P => match d with
  | .lst ds => (match k with
    | .int i => ∃ e, atI ds i = some e ∧ P e
    | _ => False)
  | .tup ds => (match k with
    | .int i => ∃ e, atI ds i = some e ∧ P e
    | _ => False)
  | .str x => (match k with
    | .int i => x.length ≤ 16777216 ∧ ∃ c, atI x i = some c ∧ P (.str [c])
    | _ => False)
  | .dct kd ks vs => keyOk kd k = true ∧ ∃ e, lookD ks vs k = some e ∧ P e
  | .pin _ (.lst ds) => (match k with
    | .int i => ∃ e, atI ds i = some e ∧ P e
    | _ => False)
  | _ => False
def rIxU (K : Frag) : R2 := fun x y H Q => rIx K x y H Q ∨ (∃ a v, x = .ref a ∧ DGet H a y (some v) ∧ Q v H)
theorem ix_dict (hu : X.A.units + 1 < cLine) : IxR X (fun x y H Q => ∃ a v, x = .ref a ∧ DGet H a y (some v) ∧ Q v H) := by
  intro value slice pins s σ H x y v u Q I rx ry h hs
  obtain ⟨a, w, rfl, g, q⟩ := h
  obtain rfl : v = Value.ref a := rx
  have hT := dict_typeIs I g
  unfold subscriptTail
  refine wpAny_bind ?_
  rw [getitemInPython_of_ne hT.not_modules]
  refine wpAny_bind (wpAny_specialOf hT PySem.F.slot_dict_getitem.lookup ?_)
  have fin : wpAny (model X.prog X.w) X.A (subscripted slice false (.ref a) u) (fun r s₃ => wpAny (model X.prog X.w) X.A (letTemporaryGo value (.ref a) r >>= fun _ => pure r) (EP X pins σ Q) X.xe s₃) X.xe s := by
    rw [hs]
    refine wpAny_operating (wpAny_mono (d_getItem (Q := EP X pins σ Q) hu I g ry fun w' s3 I3 rw' => ⟨w, H, I3, rw', q⟩) (fun r s₃ h₃ => wpAny_bind (wpAny_letTemporaryGo (wpAny_pure h₃))) fun _ _ x => x)
  first
    | exact wpAny_pure (wpAny_bind fin)
    | exact wpAny_bind (wpAny_pure (wpAny_bind fin))
    | exact wpAny_bind fin
theorem ix_U (hu : X.A.units + 1 < cLine) : IxR X (rIxU X.K) := ix_seq.or (ix_dict hu)
theorem ixN_le {n : Nat} {i : Int} {j : Nat} (h : ixN n i = some j) : j < n := (ixN_seq h).2.1
theorem atI_of {c : Ct} {F : Hp} {ds : List D} {vs : List V} {i : Int} {e : D} (r : Reps c F ds vs) (h : atI ds i = some e) : ∃ v, atI vs i = some v ∧ Rep c F e v := by
  unfold atI at h ⊢
  rw [← r.length]
  cases q : ixN ds.length i with
  | none => rw [q] at h; cases h
  | some j =>
    rw [q] at h
    exact r.get h
theorem o_ix : Op2 X m (rIxU X.K) fIx := by
  refine ⟨fun {σ H ρ F d e x y Q P} Sm r1 r2 h k => ?_, fun d e P P' i => ?_⟩
  · unfold fIx at h
    cases d with
    | lst ds =>
      cases e with
      | int i =>
        obtain ⟨z, hz, h⟩ := h
        obtain ⟨a, vs, rfl, h1, h2⟩ := r1
        obtain ⟨v, hv, rv⟩ := atI_of h2 hz
        rw [show y = .int i from r2]
        exact .inl (.inl ⟨a, vs, i, v, rfl, rfl, SqL.of h1, hv, k _ _ H F h (Grow.refl Sm.gr.fs Sm.gr.tok) rv⟩)
      | _ => exact h.elim
    | tup ds =>
      cases e with
      | int i =>
        obtain ⟨z, hz, h⟩ := h
        obtain ⟨a, vs, rfl, h1, h2⟩ := r1
        obtain ⟨v, hv, rv⟩ := atI_of h2 hz
        rw [show y = .int i from r2]
        exact .inl (.inr (.inl ⟨a, vs, i, v, rfl, rfl, SqT.of (Sm.gr.fs _ _ h1), hv, k _ _ H F h (Grow.refl Sm.gr.fs Sm.gr.tok) rv⟩))
      | _ => exact h.elim
    | str w =>
      cases e with
      | int i =>
        obtain ⟨hl, z, hz, h⟩ := h
        rw [show x = .str (S w) from r1, show y = .int i from r2]
        refine .inl (.inr (.inr ⟨S w, i, z, rfl, rfl, by rw [S_len, line16]; exact hl, by rw [S_cps]; exact hz, k _ _ H F h (Grow.refl Sm.gr.fs Sm.gr.tok) rfl⟩))
      | _ => exact h.elim
    | dct kd ks vs =>
      obtain ⟨ok, z, hz, h⟩ := h
      have r2' : Rep (m.c X) F e y := by
        cases e with
        | lst _ => match kd, ok with
          | 0, ok => cases ok
          | 1, ok => cases ok
        | dct _ _ _ => match kd, ok with
          | 0, ok => cases ok
          | 1, ok => cases ok
        | ins _ _ _ => match kd, ok with
          | 0, ok => cases ok
          | 1, ok => cases ok
        | pin _ _ => match kd, ok with
          | 0, ok => cases ok
          | 1, ok => cases ok
        | _ => exact r2
      obtain ⟨a, rfl, ⟨e1, g⟩ | ⟨w, v, e1, g, rv⟩⟩ := dget_of Sm.gr.fs r1 r2' ok
      · rw [e1] at hz; cases hz
      · rw [e1] at hz
        cases hz
        exact .inr ⟨a, v, rfl, g, k _ _ H F h (Grow.refl Sm.gr.fs Sm.gr.tok) rv⟩
    | pin q d =>
      cases d with
      | lst ds =>
        cases e with
        | int i =>
          obtain ⟨z, hz, h⟩ := h
          obtain ⟨rfl, vs, h1, h2⟩ := r1
          obtain ⟨v, hv, rv⟩ := atI_of h2 hz
          rw [show y = .int i from r2]
          exact .inl (.inl ⟨q, vs, i, v, rfl, rfl, SqL.of h1, hv, k _ _ H F h (Grow.refl Sm.gr.fs Sm.gr.tok) rv⟩)
        | _ => exact h.elim
      | _ => exact h.elim
    | _ => exact h.elim
  · unfold fIx
    split <;> first
      | (split <;> first | exact fun ⟨w, q, p⟩ => ⟨w, q, i _ p⟩ | exact fun ⟨q0, w, q, p⟩ => ⟨q0, w, q, i _ p⟩ | exact id)
      | exact fun ⟨q0, w, q, p⟩ => ⟨q0, w, q, i _ p⟩
      | exact id
theorem pd_ix (hu : X.A.units + 1 < cLine) (ha : PD X m a ta) (hb : PD X m b tb) (hs : PlainIx b := by intro _ _; rfl) : PD X m (.Subscript a b pos) (dOp2 fIx ta tb) := pd_op2 o_ix ha hb (pe_ix (ix_U hu) ha.pe hb.pe hs)
def ixvN (f : F2) (i : Nat) (Q : D → Ro → Prop) (e : D) (ρ' : Ro) : Prop := match ρ'[i]? with
  | some (some (_, d)) => f d e fun z => Q z ρ'
  | _ => False
def dIxV (f : F2) (i : Nat) (tb : DE) : DE := fun ρ Q => (∃ r, ρ[i]? = some (some r)) ∧ tb ρ (ixvN f i Q)
theorem pd_ixV' {i : Nat} {r : R2} {f : F2} {e' : Expr} (ho : Op2 X m r f) (hb : PD X m b tb) (h : PE X e' (tOp r (tVar i) (lE X m tb))) : PD X m e' (dIxV f i tb) := by
  refine ⟨PE.imp h fun σ H Q ⟨ρ, F, Sm, ⟨r0, e0⟩, t⟩ => ?_, fun ρ Q Q' j ⟨h0, h1⟩ => ⟨h0, hb.mono _ _ _ (fun e ρ' => ?_) h1⟩⟩
  · obtain ⟨v0, ev, _⟩ := Sm.slot i _ e0
    refine ⟨v0, ev, ρ, F, Sm, hb.mono _ _ _ (fun e ρ2 q y H2 F2 s2 S2 r2 => ?_) t⟩
    unfold ixvN at q
    split at q
    · rename_i k d e2
      obtain ⟨v1, ev1, rr⟩ := S2.slot i _ e2
      rw [ev] at ev1
      cases ev1
      refine ho.ok S2 ?_ (.of_rep S2.gr.fs r2) q fun z v H' F' p g rz => p v H' F' (s2.trans g.f0) (S2.grow g) rz
      cases k with
      | false => exact .of_rep S2.gr.fs rr
      | true =>
        obtain ⟨a, rfl, _, _, ow⟩ := rr
        exact .of_own ow
    · exact q.elim
  · unfold ixvN
    cases ρ'[i]? with
    | none => exact id
    | some o => cases o with
      | none => exact id
      | some r => exact ho.mono _ _ _ _ fun z => j _ _
theorem pd_ixV {i : Nat} {x : Str} {xpos : Pos} (hu : X.A.units + 1 < cLine) (ha : PE X (.Name x xpos) (tVar i)) (hb : PD X m b tb) (hs : PlainIx b := by intro _ _; rfl) : PD X m (.Subscript (.Name x xpos) b pos) (dIxV fIx i tb) :=
  pd_ixV' o_ix hb (pe_ix (ix_U hu) ha hb.pe hs)
def dLst (t : DA) : DE := fun ρ Q => t ρ fun ds ρ' => ds.length ≤ 16777216 ∧ Q (.lst ds) ρ'
def dTup (t : DA) : DE := fun ρ Q => t ρ fun ds ρ' => ds.length ≤ 16777216 ∧ Q (.tup ds) ρ'
theorem pd_lst {t : DA} (h : PDA X m es t) : PD X m (.List es pos) (dLst t) := by
  refine ⟨PE.imp (pe_lst h.pe) fun σ H Q ⟨ρ, F, Sm, t⟩ => ⟨ρ, F, Sm, h.mono _ _ _ (fun ds ρ' q vs H' F' s S' r => ?_) t⟩, fun ρ Q Q' i => h.mono _ _ _ fun ds ρ' q => ⟨q.1, i _ _ q.2⟩⟩
  refine ⟨by rw [← r.length, line16]; exact q.1, fun p hp => ?_⟩
  have g := S'.alloc (o := .lst vs) hp
  exact q.2 _ _ _ (s.trans g.f0) (S'.grow g) ⟨p, vs, rfl, upd_same, r.mono g.f0⟩
theorem pd_tup {t : DA} {x1} (h : PDA X m es t) : PD X m (.Tuple es x1 pos) (dTup t) := by
  refine ⟨PE.imp (pe_tup h.pe) fun σ H Q ⟨ρ, F, Sm, t⟩ => ⟨ρ, F, Sm, h.mono _ _ _ (fun ds ρ' q vs H' F' s S' r => ?_) t⟩, fun ρ Q Q' i => h.mono _ _ _ fun ds ρ' q => ⟨q.1, i _ _ q.2⟩⟩
  refine ⟨by rw [← r.length, line16]; exact q.1, fun p hp => ?_⟩
  have g := S'.alloc (o := .tup vs) hp
  exact q.2 _ _ _ (s.trans g.f0) (S'.grow g) ⟨p, vs, rfl, upd_same, r.mono g.f0⟩
abbrev DO := Ro → (Option Int → Ro → Prop) → Prop
def lO (X : Cx) (m : M) (te : DO) : TO := fun σ H Q => ∃ ρ F, Sm X m σ H ρ F ∧ te ρ fun b ρ' => ∀ H' F', Same F F' → Sm X m σ H' ρ' F' → Q b H'
structure PDO (X : Cx) (m : M) (e : Option Expr) (te : DO) : Prop where
  pe : PO X e (lO X m te)
  mono : ∀ ρ Q Q', (∀ d ρ', Q d ρ' → Q' d ρ') → te ρ Q → te ρ Q'
theorem PO.imp {e : Option Expr} {t t' : TO} (h : PO X e t) (i : ∀ σ H Q, t' σ H Q → t σ H Q) : PO X e t' := ⟨fun pins s σ H Q I q => h.run pins s σ H Q I (i σ H Q q)⟩
def dNoPart : DO := fun ρ Q => Q none ρ
def dPart (t : DE) : DO := fun ρ Q => t ρ fun d ρ' => match d with
  | .int i => Q (some i) ρ'
  | _ => False
theorem pdo_none : PDO X m none dNoPart := ⟨PO.imp po_none fun σ H Q ⟨ρ, F, Sm, t⟩ => t H F (Same.refl _) Sm, fun ρ Q Q' i => i _ _⟩
theorem pdo_some {t : DE} (h : PD X m e t) : PDO X m (some e) (dPart t) := by
  refine ⟨PO.imp (po_some h.pe) fun σ H Q ⟨ρ, F, Sm, t⟩ => ⟨ρ, F, Sm, h.mono _ _ _ (fun d ρ' q v H' F' s S' r => ?_) t⟩, fun ρ Q Q' i => h.mono _ _ _ fun d ρ' => ?_⟩
  · cases d with
    | int i => exact ⟨i, r, q H' F' s S'⟩
    | _ => exact q.elim
  · cases d <;> first | exact i _ _ | exact id
def cutG {α : Type} (xs : List α) (lo hi : Option Int) : List α := (xs.drop (HT.sIx xs.length 0 lo)).take (HT.sIx xs.length xs.length hi - HT.sIx xs.length 0 lo)
def fSl (d : D) (lo hi : Option Int) (P : D → Prop) : Prop := match d with
  | .lst ds => P (.lst (cutG ds lo hi))
  | .tup ds => P (.tup (cutG ds lo hi))
  | .str x => x.length ≤ 16777216 ∧ P (.str (cutG x lo hi))
  | _ => False
def dSl (t : DE) (tl th : DO) : DE := fun ρ Q => t ρ fun d ρ1 => tl ρ1 fun lo ρ2 => th ρ2 fun hi ρ3 => fSl d lo hi fun z => Q z ρ3
theorem Reps.cut {c : Ct} {F : Hp} {ds : List D} {vs : List V} (r : Reps c F ds vs) (lo hi : Option Int) : Reps c F (cutG ds lo hi) (cutV vs lo hi) := by
  unfold cutG cutV
  rw [← r.length]
  exact (r.drop _).take _
theorem cutG_all {α : Type} {xs : List α} {lo hi : Option Int} (h : HT.sIx xs.length 0 lo = 0 ∧ HT.sIx xs.length xs.length hi = xs.length) : cutG xs lo hi = xs := by
  unfold cutG
  rw [h.1, h.2]
  simp
theorem pd_slice {lo hi : Option Expr} {tl th : DO} {p2 : Pos} (he : PD X m e te) (hl : PDO X m lo tl) (hh : PDO X m hi th) : PD X m (.Subscript e (.Slice lo hi none p2) pos) (dSl te tl th) := by
  refine ⟨PE.imp (pe_slice (sl_list.or (sl_tupA.or sl_str)) he.pe hl.pe hh.pe) fun σ H Q ⟨ρ, F, Sm, t⟩ => ?_, fun ρ Q Q' i => he.mono _ _ _ fun d ρ1 => hl.mono _ _ _ fun l ρ2 => hh.mono _ _ _ fun u ρ3 => ?_⟩
  · refine ⟨ρ, F, Sm, he.mono _ _ _ (fun d ρ1 q x H1 F1 s1 S1 r1 => ?_) t⟩
    refine ⟨ρ1, F1, S1, hl.mono _ _ _ (fun l ρ2 q H2 F2 s2 S2 => ?_) q⟩
    refine ⟨ρ2, F2, S2, hh.mono _ _ _ (fun u ρ3 q H3 F3 s3 S3 => ?_) q⟩
    have r3 := r1.mono (s2.trans s3)
    have ss := s1.trans (s2.trans s3)
    unfold fSl at q
    cases d with
    | lst ds =>
      obtain ⟨a, vs, rfl, h1, h2⟩ := r3
      refine .inl ⟨a, vs, rfl, SqL.of (S3.gr.fs _ _ h1), fun p hp => ?_⟩
      have g := S3.alloc (o := .lst (cutV vs l u)) hp
      exact q _ _ _ (ss.trans g.f0) (S3.grow g) ⟨p, _, rfl, upd_same, (h2.cut l u).mono g.f0⟩
    | tup ds =>
      obtain ⟨a, vs, rfl, h1, h2⟩ := r3
      refine .inr (.inl ⟨a, vs, rfl, SqT.of (S3.gr.fs _ _ h1), fun w => ?_, fun _ p hp => ?_⟩)
      · rw [← h2.length] at w
        have q' := q
        simp only [cutG_all w] at q'
        exact q' _ H3 F3 ss S3 ⟨a, vs, rfl, h1, h2⟩
      · have g := S3.alloc (o := .tup (cutV vs l u)) hp
        exact q _ _ _ (ss.trans g.f0) (S3.grow g) ⟨p, _, rfl, upd_same, (h2.cut l u).mono g.f0⟩
    | str z =>
      refine .inr (.inr ⟨S z, r3, by rw [S_len, line16]; exact q.1, ?_⟩)
      refine q.2 _ H3 F3 ss S3 ?_
      show V.str (cutS (S z) l u) = V.str (S (cutG z l u))
      unfold cutS cutG
      rw [S_cps, S_len]
      rfl
    | _ => exact q.elim
  · unfold fSl
    cases d <;> first | exact i _ _ | exact fun h => ⟨h.1, i _ _ h.2⟩ | exact id
end
end DL
namespace DL
open PySem L2 PyProof.Rows
structure DEn where
  nx : Ro → Prop
  rt : D → Ro → Prop
  bk : Ro → Prop := fun _ => False
  ct : Ro → Prop := fun _ => False
structure DEn.le (E E' : DEn) : Prop where
  nx : ∀ ρ, E.nx ρ → E'.nx ρ
  rt : ∀ d ρ, E.rt d ρ → E'.rt d ρ
  bk : ∀ ρ, E.bk ρ → E'.bk ρ
  ct : ∀ ρ, E.ct ρ → E'.ct ρ
theorem DEn.le.refl (E : DEn) : E.le E := ⟨fun _ h => h, fun _ _ h => h, fun _ h => h, fun _ h => h⟩
abbrev DS := DEn → Ro → Prop
def lN (X : Cx) (m : M) (N : L2.St → Hp → Prop) (F : Hp) : Ro → Prop := fun ρ' => ∀ σ' H' F', Same F F' → Sm X m σ' H' ρ' F' → N σ' H'
def lEn (X : Cx) (m : M) (D : L2.Ends) (F : Hp) : DEn where
  nx := lN X m D.nx F
  rt := fun d ρ' => ∀ v σ' H' F', Sm X m σ' H' ρ' F' → Rep (m.c X) F' d v → D.rt v H'
  bk := lN X m D.bk F
  ct := lN X m D.ct F
theorem lN_mono {X : Cx} {m : M} {N : L2.St → Hp → Prop} {F F' : Hp} (s : Same F F') (ρ : Ro) (h : lN X m N F ρ) : lN X m N F' ρ := fun σ' H' F2 s2 S => h σ' H' F2 (s.trans s2) S
theorem lEn_mono {X : Cx} {m : M} {D : L2.Ends} {F F' : Hp} (s : Same F F') : (lEn X m D F).le (lEn X m D F') := ⟨lN_mono s, fun _ _ h => h, lN_mono s, lN_mono s⟩
def lS (X : Cx) (m : M) (ts : DS) : TS := fun D σ H => ∃ ρ F, Sm X m σ H ρ F ∧ ts (lEn X m D F) ρ
structure PDS (X : Cx) (m : M) (st : Stmt) (ts : DS) : Prop where
  ps : PS X st (lS X m ts)
  mono : ∀ E E' ρ, E.le E' → ts E ρ → ts E' ρ
structure PDSs (X : Cx) (m : M) (st : List Stmt) (ts : DS) : Prop where
  ps : PSs X st (lS X m ts)
  mono : ∀ E E' ρ, E.le E' → ts E ρ → ts E' ρ
section
variable {X : Cx} {m : M} {e a b c' : Expr} {es : List Expr} {te ta tb tc : DE} {pos : Pos} {st : Stmt} {rest : List Stmt} {t u : DS} {ut : DT}
theorem PS.imp {t t' : TS} (h : PS X st t) (i : ∀ D σ H, t' D σ H → t D σ H) : PS X st t' := ⟨fun pins s σ H D I q => h.run pins s σ H D I (i D σ H q)⟩
theorem PSs.imp {t t' : TS} (h : PSs X rest t) (i : ∀ D σ H, t' D σ H → t D σ H) : PSs X rest t' := ⟨fun pins s σ H D I q => h.run pins s σ H D I (i D σ H q)⟩
def dNext : DS := fun E ρ => E.nx ρ
def dSeq (t u : DS) : DS := fun E ρ => t { E with nx := u E } ρ
theorem pdss_nil : PDSs X m [] dNext := ⟨PSs.imp pss_nil fun D σ H ⟨ρ, F, S, t⟩ => t σ H F (Same.refl _) S, fun E E' ρ l h => l.nx _ h⟩
theorem pdss_cons (h1 : PDS X m st t) (h2 : PDSs X m rest u) : PDSs X m (st :: rest) (dSeq t u) := by
  refine ⟨PSs.imp (pss_cons h1.ps h2.ps) fun D σ H ⟨ρ, F, S, t⟩ => ⟨ρ, F, S, h1.mono { lEn X m D F with nx := u (lEn X m D F) } _ _ ⟨fun ρ' q σ' H' F' s S' => ⟨ρ', F', S', h2.mono _ _ _ (lEn_mono s) q⟩, fun _ _ q => q, fun _ q => q, fun _ q => q⟩ t⟩, fun E E' ρ l h => ?_⟩
  exact h1.mono { E with nx := u E } _ _ ⟨fun ρ' q => h2.mono _ _ _ l q, l.rt, l.bk, l.ct⟩ h
theorem pdss_one (h1 : PDS X m st t) : PDSs X m [st] t := ⟨pss_one h1.ps, h1.mono⟩
theorem pds_pass : PDS X m (.Pass pos) dNext := ⟨PS.imp ps_pass fun D σ H ⟨ρ, F, S, t⟩ => t σ H F (Same.refl _) S, fun E E' ρ l h => l.nx _ h⟩
def dBreak : DS := fun E ρ => E.bk ρ
def dCont : DS := fun E ρ => E.ct ρ
theorem pds_break : PDS X m (.Break pos) dBreak := ⟨PS.imp ps_break fun D σ H ⟨ρ, F, S, t⟩ => t σ H F (Same.refl _) S, fun E E' ρ l h => l.bk _ h⟩
theorem pds_continue : PDS X m (.Continue pos) dCont := ⟨PS.imp ps_continue fun D σ H ⟨ρ, F, S, t⟩ => t σ H F (Same.refl _) S, fun E E' ρ l h => l.ct _ h⟩
def dNever : DS := fun _ _ => False
theorem pds_never : PDS X m st dNever := ⟨PS.imp ps_never fun D σ H ⟨ρ, F, S, t⟩ => t.elim, fun E E' ρ l h => h.elim⟩
theorem pdss_never : PDSs X m rest dNever := ⟨PSs.imp pss_never fun D σ H ⟨ρ, F, S, t⟩ => t.elim, fun E E' ρ l h => h.elim⟩
def dDrop (te : DE) : DS := fun E ρ => te ρ fun _ ρ' => E.nx ρ'
theorem pds_expr (he : PD X m e te) (hs : swapsWith e none pos.line X.env = pure false := by rfl) : PDS X m (.Expr e pos) (dDrop te) :=
  ⟨PS.imp (ps_expr he.pe hs) fun D σ H ⟨ρ, F, S, t⟩ => ⟨ρ, F, S, he.mono _ _ _ (fun d ρ' q v H' F' s S' r => q σ H' F' s S') t⟩, fun E E' ρ l h => he.mono _ _ _ (fun d ρ' => l.nx _) h⟩
theorem pds_doc {x j pos'} : PDS X m (.Expr (.Constant (.str x) j pos') pos) dNext := ⟨PS.imp ps_doc fun D σ H ⟨ρ, F, S, t⟩ => t σ H F (Same.refl _) S, fun E E' ρ l h => l.nx _ h⟩
def dRet (te : DE) : DS := fun E ρ => te ρ fun d ρ' => E.rt d ρ'
theorem pds_ret (he : PD X m e te) : PDS X m (.Return (some e) pos) (dRet te) :=
  ⟨PS.imp (ps_ret he.pe) fun D σ H ⟨ρ, F, S, t⟩ => ⟨ρ, F, S, he.mono _ _ _ (fun d ρ' q v H' F' s S' r => q v σ H' F' S' r) t⟩, fun E E' ρ l h => he.mono _ _ _ (fun d ρ' => l.rt _ _) h⟩
def dRetN : DS := fun E ρ => E.rt .non ρ
theorem pds_retN : PDS X m (.Return none pos) dRetN := ⟨PS.imp ps_retN fun D σ H ⟨ρ, F, S, t⟩ => t _ σ H F S rfl, fun E E' ρ l h => l.rt _ _ h⟩
def dIfS (c : DT) (t u : DS) : DS := fun E ρ => c ρ fun k ρ' => if k = true then t E ρ' else u E ρ'
theorem pds_if {c : Expr} {x y : List Stmt} (hc : PDT X m c ut) (hx : PDSs X m x t) (hy : PDSs X m y u) : PDS X m (.If c x y pos) (dIfS ut t u) := by
  refine ⟨PS.imp (ps_if hc.pe hx.ps hy.ps) fun D σ H ⟨ρ, F, S, t⟩ => ⟨ρ, F, S, hc.mono _ _ _ (fun k ρ' q H' F' s S' => ?_) t⟩, fun E E' ρ l h => hc.mono _ _ _ (fun k ρ' => ?_) h⟩
  · cases k with
    | true => exact ⟨ρ', F', S', hx.mono _ _ _ (lEn_mono s) q⟩
    | false => exact ⟨ρ', F', S', hy.mono _ _ _ (lEn_mono s) q⟩
  · cases k with
    | true => exact hx.mono _ _ _ l
    | false => exact hy.mono _ _ _ l
abbrev DG := D → Ro → (Ro → Prop) → Prop
def lG (X : Cx) (m : M) (g : DG) : TG := fun v σ H Q => ∃ ρ F d, Sm X m σ H ρ F ∧ Rep (m.c X) F d v ∧ g d ρ (lN X m Q F)
structure PDG (X : Cx) (m : M) (tg : Expr) (g : DG) : Prop where
  pg : PG X tg (lG X m g)
  mono : ∀ d ρ Q Q', (∀ ρ', Q ρ' → Q' ρ') → g d ρ Q → g d ρ Q'
abbrev DGs := List D → Ro → (Ro → Prop) → Prop
def lGs (X : Cx) (m : M) (g : DGs) : TGs := fun vs σ H Q => ∃ ρ F ds, Sm X m σ H ρ F ∧ Reps (m.c X) F ds vs ∧ g ds ρ (lN X m Q F)
structure PDGs (X : Cx) (m : M) (tg : List Expr) (g : DGs) : Prop where
  pg : PGs X tg (lGs X m g)
  mono : ∀ d ρ Q Q', (∀ ρ', Q ρ' → Q' ρ') → g d ρ Q → g d ρ Q'
theorem PG.imp {tg : Expr} {g g' : TG} (h : PG X tg g) (i : ∀ v σ H Q, g' v σ H Q → g v σ H Q) : PG X tg g' := ⟨fun pins s σ H v u Q I r q => h.run pins s σ H v u Q I r (i v σ H Q q)⟩
theorem PGs.imp {tg : List Expr} {g g' : TGs} (h : PGs X tg g) (i : ∀ v σ H Q, g' v σ H Q → g v σ H Q) : PGs X tg g' := ⟨fun pins s σ H v u Q I r q => h.run pins s σ H v u Q I r (i v σ H Q q)⟩
def dgName (i : Nat) : DG := fun d ρ Q => Q (ρ.set i (some (false, d)))
theorem pdg_name {i : Nat} {x : Str} (hN : X.N.Nodup) (hi : X.N[i]? = some x) (hx : Loc X.env.scope x) (hf : X.fn x = true ∨ X.env.scope.names.lookup x = some .local := by first | exact .inl rfl | exact .inr rfl | assumption) : PDG X m (.Name x pos) (dgName i) :=
  ⟨PG.imp (pg_name hN hi hx hf) fun v σ H Q ⟨ρ, F, d, S, r, q⟩ => q _ H F (Same.refl _) (S.set r), fun d ρ Q Q' i => i _⟩
def dgNil : DGs := fun ds ρ Q => ds = [] ∧ Q ρ
def dgCons (g : DG) (gs : DGs) : DGs := fun ds ρ Q => match ds with
  | d :: r => g d ρ fun ρ' => gs r ρ' Q
  | [] => False
theorem pdgs_nil : PDGs X m [] dgNil := by
  refine ⟨PGs.imp pgs_nil fun vs σ H Q ⟨ρ, F, ds, S, r, q⟩ => ?_, fun d ρ Q Q' i h => ⟨h.1, i _ h.2⟩⟩
  obtain ⟨rfl, q⟩ := q
  exact ⟨r, q σ H F (Same.refl _) S⟩
theorem pdgs_cons {tg : Expr} {tgs : List Expr} {g : DG} {gs : DGs} (h1 : PDG X m tg g) (h2 : PDGs X m tgs gs) (hs : (assignEach (tg :: tgs) X.env).map (·.2) = assign tg X.env :: (assignEach tgs X.env).map (·.2) := by rfl) : PDGs X m (tg :: tgs) (dgCons g gs) := by
  refine ⟨PGs.imp (pgs_cons h1.pg h2.pg hs) fun vs σ H Q ⟨ρ, F, ds, S, r, q⟩ => ?_, fun d ρ Q Q' i => ?_⟩
  · cases ds with
    | nil => exact q.elim
    | cons d ds =>
      obtain ⟨v, vr, rfl, r1, r2⟩ := r
      refine ⟨v, vr, rfl, ρ, F, d, S, r1, h1.mono _ _ _ _ (fun ρ' q σ' H' F' s S' => ?_) q⟩
      exact ⟨ρ', F', ds, S', r2.mono s, h2.mono _ _ _ _ (lN_mono s) q⟩
  · cases d with
    | nil => exact id
    | cons d ds => exact h1.mono _ _ _ _ fun ρ' => h2.mono _ _ _ _ i
def dgTup (n : Nat) (gs : DGs) : DG := fun d ρ Q => match d with
  | .tup ds => ds.length = n ∧ gs ds ρ Q
  | _ => False
theorem pdg_tup {tgs : List Expr} {k : Nat} {gs : DGs} {n : Nat} (hc : X.calm = true) (h : PDGs X m tgs gs) (hn : (assignEach tgs X.env).length = n := by rfl) (hst : (assignEach tgs X.env).findIdx? (·.1) = none := by rfl) : PDG X m (.Tuple tgs k pos) (dgTup n gs) := by
  refine ⟨PG.imp (pg_tup hc h.pg hn hst) fun v σ H Q ⟨ρ, F, d, S, r, q⟩ => ?_, fun d ρ Q Q' i => ?_⟩
  · cases d with
    | tup ds =>
      obtain ⟨a, vs, rfl, h1, h2⟩ := r
      exact ⟨a, vs, rfl, SqT.of (S.gr.fs _ _ h1), by rw [← h2.length]; exact q.1, ρ, F, ds, S, h2, q.2⟩
    | _ => exact q.elim
  · cases d with
    | tup ds => exact fun q => ⟨q.1, h.mono _ _ _ _ i q.2⟩
    | _ => exact id
def dAsg (te : DE) (g : DG) : DS := fun E ρ => te ρ fun d ρ' => g d ρ' E.nx
theorem asg_imp {g : DG} (he : PD X m e te) (hg : ∀ d ρ Q Q', (∀ ρ', Q ρ' → Q' ρ') → g d ρ Q → g d ρ Q') (D : L2.Ends) (σ : L2.St) (H : Hp) (h : lS X m (dAsg te g) D σ H) : tAsg (lE X m te) (lG X m g) D σ H := by
  obtain ⟨ρ, F, S, t⟩ := h
  exact ⟨ρ, F, S, he.mono _ _ _ (fun d ρ' q v H' F' s S' r => ⟨ρ', F', d, S', r, hg _ _ _ _ (lN_mono s) q⟩) t⟩
theorem pds_asg {tg : Expr} {g : DG} (he : PD X m e te) (hg : PDG X m tg g) (hs : swapsWithSole [tg] e pos.line X.env = pure false := by rfl) (hw : swappedStores [tg] e X.env = pure none := by rfl)
    (h1 : (assignEach [tg] X.env).map (·.2) = [assign tg X.env] := by rfl) : PDS X m (.Assign [tg] e pos) (dAsg te g) :=
  ⟨PS.imp (ps_asg he.pe hg.pg hs hw h1) (asg_imp he hg.mono), fun E E' ρ l h => he.mono _ _ _ (fun d ρ' => hg.mono _ _ _ _ l.nx) h⟩
theorem pds_set {i : Nat} {x : Str} {pos' : Pos} (hN : X.N.Nodup) (hi : X.N[i]? = some x) (hx : Loc X.env.scope x) (he : PD X m e te) (hs : swapsWith e (some (.Name x pos')) pos.line X.env = pure false := by rfl) (hf : X.fn x = true ∨ X.env.scope.names.lookup x = some .local := by first | exact .inl rfl | exact .inr rfl | assumption) :
    PDS X m (.Assign [.Name x pos'] e pos) (dAsg te (dgName i)) := by
  refine ⟨PS.imp (ps_set hN hi hx he.pe hs hf) fun D σ H h => ?_, fun E E' ρ l h => he.mono _ _ _ (fun d ρ' => l.nx _) h⟩
  obtain ⟨ρ, F, S, t⟩ := h
  exact ⟨ρ, F, S, he.mono _ _ _ (fun d ρ' q v H' F' s S' r => q _ H' F' s (S'.set r)) t⟩
def par2 (i j : Nat) (E : DEn) (ds : List D) (ρ' : Ro) : Prop := ∃ d e, ds = [d, e] ∧ E.nx ((ρ'.set i (some (false, d))).set j (some (false, e)))
def dPar (i j : Nat) (ta : DA) : DS := fun E ρ => ta ρ (par2 i j E)
theorem pds_par {i j : Nat} {x y : Str} {ua : DA} {px py pt : Pos} {kt k2 pt2} (hc : X.calm = true) (hN : X.N.Nodup) (hi : X.N[i]? = some x) (hj : X.N[j]? = some y) (hij : i ≠ j)
    (hx : X.env.scope.names.lookup x = some .local) (hy : X.env.scope.names.lookup y = some .local) (ha : PDA X m [a, b] ua)
    (hw : swappedStores [.Tuple [.Name x px, .Name y py] kt pt] (.Tuple [a, b] k2 pt2) X.env = pure (some [x, y]))
    (hs : swapsWithSole [.Tuple [.Name x px, .Name y py] kt pt] (.Tuple [a, b] k2 pt2) pos.line X.env = pure false := by rfl) :
    PDS X m (.Assign [.Tuple [.Name x px, .Name y py] kt pt] (.Tuple [a, b] k2 pt2) pos) (dPar i j ua) := by
  have P : PS X (.Assign [.Tuple [.Name x px, .Name y py] kt pt] (.Tuple [a, b] k2 pt2) pos) (tPar i j (lA X m ua)) := ps_par hc hN hi hj hij hx hy ha.pe hw hs
  clear hw hs
  constructor
  · refine PS.imp P ?_
    rintro D σ H ⟨ρ, F, S, t⟩
    refine ⟨ρ, F, S, ha.mono ρ (par2 i j (lEn X m D F)) _ (fun ds ρ' q vs H' F' s S' r => ?_) t⟩
    obtain ⟨d, e, rfl, q⟩ := q
    obtain ⟨v, r1, rfl, r2, w, r3, rfl, r4, r5⟩ := r
    obtain rfl : r3 = [] := r5
    exact ⟨v, w, rfl, q _ H' F' s ((S'.set r2).set r4)⟩
  · intro E E' ρ l h
    refine ha.mono ρ (par2 i j E) (par2 i j E') (fun ds ρ' q => ?_) h
    obtain ⟨d, e, rfl, q⟩ := q
    exact ⟨d, e, rfl, l.nx _ q⟩
def Fresh (σ : L2.St) (ρ : Ro) (p : Addr) : Prop := ∀ (j : Nat) (e : D), ρ[j]? = some (some (true, e)) → σ[j]? ≠ some (some (.ref p))
theorem _root_.DL.Sim.setP {c : Ct} {F0 H0 F H : Hp} {σ : L2.St} {ρ : Ro} (S : Sim c F0 H0 σ H ρ F) {i : Nat} {d : D} {p : Addr} (h1 : F p = none) (h2 : H0 p = none) (ow : OwnAt c F H p d) (fr : Fresh σ ρ p) : Sim c F0 H0 (σ.set i (some (.ref p))) H (ρ.set i (some (true, d))) F := by
  refine ⟨S.gr, by rw [List.length_set, List.length_set]; exact S.len, fun j q e => ?_, fun j k d1 d2 b q1 q2 e1 e2 => ?_, S.st0⟩
  · by_cases z : j = i
    · subst z
      by_cases hi : j < ρ.length
      · rw [List.getElem?_set_self hi] at e
        cases e
        exact ⟨_, by rw [List.getElem?_set_self (by rw [S.len]; exact hi)], p, rfl, h1, h2, ow⟩
      · rw [List.getElem?_eq_none (by rw [List.length_set]; omega)] at e
        cases e
    · rw [List.getElem?_set_ne (Ne.symm z)] at e ⊢
      exact S.slot j q e
  · have hl : ∀ {j : Nat} {d1 : D}, (ρ.set i (some (true, d)))[j]? = some (some (true, d1)) → j < ρ.length := fun {j d1} q => by
      have := (List.getElem?_eq_some_iff.mp q).1
      rw [List.length_set] at this
      exact this
    by_cases z1 : j = i
    · by_cases z2 : k = i
      · rw [z1, z2]
      · subst z1
        rw [List.getElem?_set_self (by rw [S.len]; exact hl q1)] at e1
        cases e1
        rw [List.getElem?_set_ne (Ne.symm z2)] at q2 e2
        exact (fr k _ q2 e2).elim
    · by_cases z2 : k = i
      · subst z2
        rw [List.getElem?_set_self (by rw [S.len]; exact hl q2)] at e2
        cases e2
        rw [List.getElem?_set_ne (Ne.symm z1)] at q1 e1
        exact (fr j _ q1 e1).elim
      · rw [List.getElem?_set_ne (Ne.symm z1)] at q1 e1
        rw [List.getElem?_set_ne (Ne.symm z2)] at q2 e2
        exact S.sep j k d1 d2 b q1 q2 e1 e2
theorem fresh_of {c : Ct} {F0 H0 F H : Hp} {σ : L2.St} {ρ : Ro} (S : Sim c F0 H0 σ H ρ F) {p : Addr} (hp : H p = none) : Fresh σ ρ p := fun j e q1 q2 => by
  obtain ⟨v, e1, a, ea, _, _, x⟩ := S.slot j _ q1
  rw [q2] at e1
  cases e1
  cases ea
  obtain ⟨u, hu⟩ := x.has
  rw [hp] at hu
  cases hu
def lF (X : Cx) (m : M) (te : DE) : TE := fun σ H Q => ∃ ρ F, Sm X m σ H ρ F ∧ te ρ fun d ρ' => ∀ p H' F', Same F F' → Sm X m σ H' ρ' F' → F' p = none → m.H0 p = none → OwnAt (m.c X) F' H' p d → Fresh σ ρ' p → Q (.ref p) H'
structure PF (X : Cx) (m : M) (e : Expr) (te : DE) : Prop where
  pe : PE X e (lF X m te)
  mono : ∀ ρ Q Q', (∀ d ρ', Q d ρ' → Q' d ρ') → te ρ Q → te ρ Q'
theorem fresh_new {σ : L2.St} {H F : Hp} {ρ : Ro} {p : Addr} {o : HO} {d : D} {Q : VK} (S : Sm X m σ H ρ F) (hp : H p = none) (ow : OwnAt (m.c X) F (upd H p o) p d)
    (k : ∀ H', Sm X m σ H' ρ F → F p = none → m.H0 p = none → OwnAt (m.c X) F H' p d → Fresh σ ρ p → Q (.ref p) H') : Q (.ref p) (upd H p o) := by
  obtain ⟨h1, h2⟩ := S.fresh0 hp
  exact k _ (S.grow (S.allocO hp)) h1 h2 ow (fresh_of S hp)
def dgOwn (i : Nat) : DG := fun d ρ Q => Q (ρ.set i (some (true, d)))
theorem pds_setO {i : Nat} {x : Str} {pos' : Pos} (hN : X.N.Nodup) (hi : X.N[i]? = some x) (hx : Loc X.env.scope x) (he : PF X m e te) (hs : swapsWith e (some (.Name x pos')) pos.line X.env = pure false := by rfl) (hf : X.fn x = true ∨ X.env.scope.names.lookup x = some .local := by first | exact .inl rfl | exact .inr rfl | assumption) :
    PDS X m (.Assign [.Name x pos'] e pos) (dAsg te (dgOwn i)) := by
  refine ⟨PS.imp (ps_set hN hi hx he.pe hs hf) fun D σ H h => ?_, fun E E' ρ l h => he.mono _ _ _ (fun d ρ' => l.nx _) h⟩
  obtain ⟨ρ, F, S, t⟩ := h
  exact ⟨ρ, F, S, he.mono _ _ _ (fun d ρ' q p H' F' s S' h1 h2 ow fr => q _ H' F' s (S'.setP h1 h2 ow fr)) t⟩
theorem pf_lst {ua : DA} (h : PDA X m es ua) : PF X m (.List es pos) (dLst ua) := by
  refine ⟨PE.imp (pe_lst h.pe) fun σ H Q ⟨ρ, F, S, t⟩ => ⟨ρ, F, S, h.mono _ _ _ (fun ds ρ' q vs H' F' s S' r => ?_) t⟩, fun ρ Q Q' i => h.mono _ _ _ fun ds ρ' q => ⟨q.1, i _ _ q.2⟩⟩
  refine ⟨by rw [← r.length, line16]; exact q.1, fun p hp => ?_⟩
  exact fresh_new (d := .lst ds) S' hp ⟨vs, upd_same, r⟩ fun H2 S2 h1 h2 ow fr => q.2 p H2 F' s S2 h1 h2 ow fr
def dDict0 (kd : Nat) : DE := fun ρ Q => Q (.dct kd [] []) ρ
theorem pf_dictK : PF X m (.Dict [] [] pos) (dDict0 0) := by
  refine ⟨PE.imp pe_dnewK fun σ H Q ⟨ρ, F, S, t⟩ p hp => ?_, fun ρ Q Q' i => i _ _⟩
  exact fresh_new (d := .dct 0 [] []) S hp (Or.inl ⟨rfl, [], upd_same, rfl, rfl⟩) fun H2 S2 h1 h2 ow fr => t p H2 F (Same.refl _) S2 h1 h2 ow fr
theorem pf_dictT : PF X m (.Dict [] [] pos) (dDict0 1) := by
  refine ⟨PE.imp pe_dnewT fun σ H Q ⟨ρ, F, S, t⟩ p hp => ?_, fun ρ Q Q' i => i _ _⟩
  exact fresh_new (d := .dct 1 [] []) S hp (Or.inr ⟨rfl, [], upd_same, rfl, rfl⟩) fun H2 S2 h1 h2 ow fr => t p H2 F (Same.refl _) S2 h1 h2 ow fr
def appN (E : DEn) (i : Nat) (d : D) (ρ' : Ro) : Prop := match ρ'[i]? with
  | some (some (true, .lst ds)) => ds.length < 16777216 ∧ E.nx (ρ'.set i (some (true, .lst (ds ++ [d]))))
  | _ => False
def dAppend (i : Nat) (te : DE) : DS := fun E ρ => (∃ ds, ρ[i]? = some (some (true, .lst ds))) ∧ te ρ (appN E i)
theorem pds_append' {i : Nat} (he : PD X m e te) (h : PS X st (tDrop (tBM X.K "list" rAppend (tVar i) (tCons (lE X m te) tNil)))) : PDS X m st (dAppend i te) := by
  refine ⟨PS.imp h fun D σ H ⟨ρ, F, S, ⟨ds0, e0⟩, t⟩ => ?_, fun E E' ρ l h => ⟨h.1, he.mono _ _ _ (fun d ρ' => ?_) h.2⟩⟩
  · obtain ⟨v, ev, a, rfl, _, _, vs0, ha, _⟩ := S.slot i _ e0
    refine ⟨_, ev, .inl ⟨rfl, _, SqL.of ha⟩, ρ, F, S, he.mono _ _ _ (fun d ρ' q v H' F' s S' r => ?_) t⟩
    unfold appN at q
    split at q
    · rename_i ds e1
      obtain ⟨v1, ev1, a1, rfl, h1, h2, vs, hv, rs⟩ := S'.slot i _ e1
      rw [ev] at ev1
      cases ev1
      refine ⟨a, vs, v, rfl, rfl, hv, by rw [← rs.length, line16]; exact q.1, ?_⟩
      exact q.2 σ _ F' s (S'.write e1 ev ⟨vs ++ [v], upd_same, rs.app (Reps.one r)⟩)
    · exact q.elim
  · unfold appN
    split
    · exact fun q => ⟨q.1, l.nx _ q.2⟩
    · exact id
def setIxN (E : DEn) (i : Nat) (d k : D) (ρ2 : Ro) : Prop := match ρ2[i]? with
  | some (some (true, .lst ds)) => (match k with
    | .int k => ∃ j, ixN ds.length k = some j ∧ E.nx (ρ2.set i (some (true, .lst (ds.set j d))))
    | _ => False)
  | some (some (true, .pin q (.lst ds))) => (match k with
    | .int k => ∃ j, ixN ds.length k = some j ∧ E.nx (ρ2.set i (some (true, .pin q (.lst (ds.set j d)))))
    | _ => False)
  | _ => False
def dSetIx (i : Nat) (tk te : DE) : DS := fun E ρ => te ρ fun d ρ1 => (∃ r, ρ1[i]? = some (some r)) ∧ tk ρ1 (setIxN E i d)
theorem pds_setIx' {i : Nat} {tk : DE} (he : PD X m e te) (hk : PD X m a tk) (h : PS X st (tAsg (lE X m te) (gSub (tVar i) (lE X m tk) rSetL))) : PDS X m st (dSetIx i tk te) := by
  refine ⟨PS.imp h fun D σ H ⟨ρ, F, S, t⟩ => ?_, fun E E' ρ l h => he.mono _ _ _ (fun d ρ' q => ⟨q.1, hk.mono _ _ _ (fun k ρ2 => ?_) q.2⟩) h⟩
  · refine ⟨ρ, F, S, he.mono _ _ _ (fun d ρ1 q v H1 F1 s1 S1 r1 => ?_) t⟩
    obtain ⟨⟨r0, e0⟩, q⟩ := q
    obtain ⟨v0, ev, _⟩ := S1.slot i _ e0
    refine ⟨v0, ev, ρ1, F1, S1, hk.mono _ _ _ (fun k ρ2 q w H2 F2 s2 S2 r2 => ?_) q⟩
    unfold setIxN at q
    split at q
    · rename_i ds e1
      obtain ⟨v1, ev1, a1, rfl, h1, h2, vs, hv, rs⟩ := S2.slot i _ e1
      rw [ev] at ev1
      cases ev1
      cases k with
      | int k =>
        obtain ⟨j, hj, q⟩ := q
        refine ⟨a1, vs, k, j, rfl, r2, hv, by rw [← rs.length]; exact hj, ?_⟩
        exact q σ _ F2 (s1.trans s2) (S2.write e1 ev ⟨_, upd_same, rs.set (r1.mono s2) j⟩)
      | _ => exact q.elim
    · rename_i q0 ds e1
      obtain ⟨v1, ev1, a1, rfl, h1, h2, rfl, vs, hv, rs⟩ := S2.slot i _ e1
      rw [ev] at ev1
      cases ev1
      cases k with
      | int k =>
        obtain ⟨j, hj, q⟩ := q
        refine ⟨a1, vs, k, j, rfl, r2, hv, by rw [← rs.length]; exact hj, ?_⟩
        exact q σ _ F2 (s1.trans s2) (S2.write e1 ev ⟨rfl, _, upd_same, rs.set (r1.mono s2) j⟩)
      | _ => exact q.elim
    · exact q.elim
  · unfold setIxN
    split
    · split
      · exact fun ⟨j, hj, q⟩ => ⟨j, hj, l.nx _ q⟩
      · exact id
    · split
      · exact fun ⟨j, hj, q⟩ => ⟨j, hj, l.nx _ q⟩
      · exact id
    · exact id
noncomputable def replD : List D → List D → D → D → List D
  | k' :: ks, v' :: vs, k, v => (open Classical in if k' = k then v else v') :: replD ks vs k v
  | _, _, _, _ => []
noncomputable def putD (ks vs : List D) (k v : D) : List D × List D := if (lookD ks vs k).isSome = true then (ks, replD ks vs k v) else (ks ++ [k], vs ++ [v])
theorem repl_of {c : Ct} {F : Hp} {κ : Type} [DecidableEq κ] {f : κ → D} (hf : ∀ x y, f x = f y → x = y) {k : κ} {d : D} {v : V} (r : Rep c F d v) : ∀ {es : List (κ × V)} {ds : List D}, Reps c F ds (es.map (·.2)) →
    Reps c F (replD (es.map fun p => f p.1) ds (f k) d) ((es.map fun kv => if kv.1 = k then (kv.1, v) else kv).map (·.2))
  | [], [], _ => rfl
  | [], _ :: _, h => by obtain ⟨_, _, e, _⟩ := h; cases e
  | p :: es, [], h => by cases h
  | p :: es, d' :: ds, h => by
    obtain ⟨v', r', e, h1, h2⟩ := h
    rw [List.map_cons] at e
    injection e with e1 e2
    subst e1 e2
    refine ⟨(if p.1 = k then (p.1, v) else p).2, _, rfl, ?_, repl_of hf r h2⟩
    by_cases hk : p.1 = k
    · rw [if_pos hk, if_pos (by show f p.1 = f k; rw [hk])]
      exact r
    · rw [if_neg hk, if_neg (fun q => hk (hf _ _ q))]
      exact h1
theorem put_of {c : Ct} {F : Hp} {κ : Type} [DecidableEq κ] {f : κ → D} (hf : ∀ x y, f x = f y → x = y) {k : κ} {d : D} {v : V} (r : Rep c F d v) {es : List (κ × V)} {ds : List D} (h : Reps c F ds (es.map (·.2))) :
    (putD (es.map fun p => f p.1) ds (f k) d).1 = (putK es k v).map (fun p => f p.1) ∧ Reps c F (putD (es.map fun p => f p.1) ds (f k) d).2 ((putK es k v).map (·.2)) := by
  unfold putD putK
  rw [valV_any]
  rcases look_of (c := c) (F := F) hf (k := k) h with ⟨h1, h2⟩ | ⟨e, w, h1, h2, _⟩
  · rw [h1, h2, if_neg (by simp), if_neg (by simp)]
    refine ⟨by simp, ?_⟩
    rw [List.map_append]
    exact h.app (Reps.one r)
  · rw [h1, h2]
    simp only [Option.isSome_some, if_true]
    refine ⟨?_, repl_of hf r h⟩
    rw [List.map_map]
    refine List.map_congr_left fun q _ => ?_
    show f q.1 = f (if q.1 = k then (q.1, v) else q).1
    split <;> rfl
def putNx (E : DEn) (i : Nat) (d : D) (k : D) (ρ2 : Ro) : Prop := ∃ kd ks vs, ρ2[i]? = some (some (true, .dct kd ks vs)) ∧ keyOk kd k = true ∧ ks.length < 16777216 ∧ E.nx (ρ2.set i (some (true, .dct kd (putD ks vs k d).1 (putD ks vs k d).2)))
def dPut (i : Nat) (tk te : DE) : DS := fun E ρ => te ρ fun d ρ1 => (∃ r, ρ1[i]? = some (some r)) ∧ tk ρ1 (putNx E i d)
theorem pds_put' {i : Nat} {tk : DE} (he : PD X m e te) (hk : PD X m a tk) (h : PS X st (sDPut (tVar i) (lE X m tk) (lE X m te))) : PDS X m st (dPut i tk te) := by
  refine ⟨PS.imp h fun D σ H ⟨ρ, F, S, t⟩ => ?_, fun E E' ρ l h => he.mono _ _ _ (fun d ρ' q => ⟨q.1, hk.mono _ _ _ (fun k ρ2 => ?_) q.2⟩) h⟩
  · refine ⟨ρ, F, S, he.mono _ _ _ (fun d ρ1 q v H1 F1 s1 S1 r1 => ?_) t⟩
    obtain ⟨⟨r0, e0⟩, q⟩ := q
    obtain ⟨v0, ev, _⟩ := S1.slot i _ e0
    refine ⟨v0, ev, ρ1, F1, S1, hk.mono _ _ _ (fun k ρ2 q w H2 F2 s2 S2 r2 => ?_) q⟩
    obtain ⟨kd, ks, vs, e1, ok, hl, q⟩ := q
    obtain ⟨v1, ev1, a1, rfl, h1, h2, ow⟩ := S2.slot i _ e1
    rw [ev] at ev1
    cases ev1
    have r1' := r1.mono s2
    rcases ow with ⟨rfl, es, g1, rfl, g3⟩ | ⟨rfl, es, g1, rfl, g3⟩
    · obtain ⟨key, hkey⟩ := Option.isSome_iff_exists.mp (show (keyOf k).isSome = true from ok)
      have ed := keyD_of hkey
      subst ed
      have ew := keyV_of r2 hkey
      subst ew
      rw [List.length_map] at hl
      refine ⟨a1, _, rfl, DPut.k g1 (by rw [line16]; exact hl), ?_⟩
      obtain ⟨p1, p2⟩ := put_of (f := keyD) (fun _ _ => keyD_inj) (k := key) r1' g3
      exact q σ _ F2 (s1.trans s2) (S2.write e1 ev (.inl ⟨rfl, _, upd_same, p1, p2⟩))
    · cases k with
      | tup dk =>
        obtain ⟨key, hkey⟩ := Option.isSome_iff_exists.mp (show (keysOf dk).isSome = true from ok)
        have ed := keysD_of hkey
        subst ed
        obtain ⟨b, ws, rfl, b1, b2⟩ := r2
        have ew := keysV_of b2 hkey
        subst ew
        rw [List.length_map] at hl
        refine ⟨a1, _, rfl, DPut.t g1 (S2.gr.fs _ _ b1) (by rw [line16]; exact hl), ?_⟩
        obtain ⟨p1, p2⟩ := put_of (f := fun k : List Key => _root_.DL.D.tup (k.map keyD)) (fun x y e => keysD_inj (by injection e)) (k := key) r1' g3
        exact q σ _ F2 (s1.trans s2) (S2.write e1 ev (.inr ⟨rfl, _, upd_same, p1, p2⟩))
      | _ => cases ok
  · rintro ⟨kd, ks, vs, e1, ok, hl, q⟩
    exact ⟨kd, ks, vs, e1, ok, hl, l.nx _ q⟩
def dWhile (c : DT) (b : DS) : DS := fun E ρ => ∃ W : Nat → Ro → Prop, (∃ n, W n ρ) ∧ ∀ n ρ, W n ρ →
  c ρ fun k ρ' => if k = true then b { E with nx := fun ρ2 => ∃ n', n' < n ∧ W n' ρ2, ct := fun ρ2 => ∃ n', n' < n ∧ W n' ρ2, bk := E.nx } ρ' else E.nx ρ'
theorem pds_while {c : Expr} {body : List Stmt} (hp : PassesOwn (model X.prog X.w) X.A X.env X.xe) (hc : PDT X m c ut) (hb : PDSs X m body t) : PDS X m (.While c body [] pos) (dWhile ut t) := by
  refine ⟨PS.imp (ps_while hp hc.pe hb.ps) fun D σ H ⟨ρ, F, S, W, ⟨n0, w0⟩, turn⟩ => ?_, fun E E' ρ l ⟨W, w0, turn⟩ => ⟨W, w0, fun n ρ w => hc.mono _ _ _ (fun k ρ' => ?_) (turn n ρ w)⟩⟩
  · refine ⟨fun n σ H => ∃ ρ F', Same F F' ∧ Sm X m σ H ρ F' ∧ W n ρ, ⟨n0, ρ, F, Same.refl _, S, w0⟩, ?_⟩
    rintro n σ1 H1 ⟨ρ1, F1, s1, S1, w1⟩
    refine ⟨ρ1, F1, S1, hc.mono _ _ _ (fun k ρ' q H2 F2 s2 S2 => ?_) (turn n ρ1 w1)⟩
    cases k with
    | true =>
      rw [if_pos rfl]
      refine ⟨fun σ' H' => ∃ n', n' < n ∧ ∃ ρ F', Same F F' ∧ Sm X m σ' H' ρ F' ∧ W n' ρ, fun σ' H' h => h, ρ', F2, S2, hb.mono _ _ _ ?_ q⟩
      have go : ∀ ρ2, (∃ n', n' < n ∧ W n' ρ2) → lN X m (fun σ' H' => ∃ n', n' < n ∧ ∃ ρ F', Same F F' ∧ Sm X m σ' H' ρ F' ∧ W n' ρ) F2 ρ2 := fun ρ2 ⟨n', hn, w⟩ σ' H' F' s' S' => ⟨n', hn, ρ2, F', s1.trans (s2.trans s'), S', w⟩
      exact ⟨go, fun _ _ h => h, lN_mono (s1.trans s2), go⟩
    | false =>
      rw [if_neg Bool.false_ne_true]
      exact q σ1 H2 F2 (s1.trans s2) S2
  · cases k with
    | true => exact hb.mono _ _ _ ⟨fun _ h => h, l.rt, l.nx, fun _ h => h⟩
    | false => exact l.nx _
def Yl (c : Ct) (F H : Hp) (d : D) (x : V) (H' : Hp) : Prop := (H' = H ∧ Rep c F d x) ∨ ∃ T vs es, H T = none ∧ H' = upd H T (.tup vs) ∧ x = .ref T ∧ d = .tup es ∧ Reps c F es vs
structure ItOk (c : Ct) (F : Hp) (ds : List D) (J : It) : Prop where
  go : ∀ i H, Same F H → i < ds.length → J.go i H
  stop : ∀ i H, Same F H → ds.length ≤ i → J.stop i H
  yld : ∀ i H x H', Same F H → i < ds.length → J.yld i H x H' → ∃ d, ds[i]? = some d ∧ Yl c F H d x H'
abbrev DI := Ro → (List D → Ro → Prop) → Prop
def lI (X : Cx) (m : M) (ti : DI) : TI := fun σ H R => ∃ ρ F, Sm X m σ H ρ F ∧ ti ρ fun ds ρ' => ∀ H' F' J, Same F F' → Sm X m σ H' ρ' F' → ItOk (m.c X) F' ds J → R J H'
structure PDI (X : Cx) (m : M) (tg e : Expr) (ti : DI) : Prop where
  pi : PI X tg e (lI X m ti)
  mono : ∀ ρ Q Q', (∀ d ρ', Q d ρ' → Q' d ρ') → ti ρ Q → ti ρ Q'
theorem PI.imp {tg : Expr} {w w' : TI} (h : PI X tg e w) (i : ∀ σ H R, w' σ H R → w σ H R) : PI X tg e w' := ⟨fun pins s σ H R I q => h.run pins s σ H R I (i σ H R q)⟩
theorem PI.or {tg : Expr} {w w' : TI} (h : PI X tg e w) (h' : PI X tg e w') : PI X tg e (fun σ H R => w σ H R ∨ w' σ H R) := ⟨fun pins s σ H R I q => q.elim (h.run pins s σ H R I) (h'.run pins s σ H R I)⟩
def forB (t : DS) (g : DG) (E : DEn) (ds : List D) (I : Nat → Ro → Prop) : Prop := (∀ i d ρ, ds[i]? = some d → I i ρ → g d ρ fun ρ2 => t { E with nx := I (i + 1), ct := I (i + 1), bk := E.nx } ρ2) ∧ ∀ ρ, I ds.length ρ → E.nx ρ
def dFor (ti : DI) (g : DG) (t : DS) : DS := fun E ρ => ti ρ fun ds ρ1 => ∃ I : Nat → Ro → Prop, I 0 ρ1 ∧ forB t g E ds I
theorem pds_for {tg it : Expr} {body : List Stmt} {ti : DI} {g : DG} (hp : PassesOwn (model X.prog X.w) X.A X.env X.xe) (hc : X.calm = true) (hi : PDI X m tg it ti) (hg : PDG X m tg g) (hb : PDSs X m body t)
    (hs : ∀ x, foldedSetIterable it X.env x = pure x := by intro _; rfl) : PDS X m (.For tg it body [] pos) (dFor ti g t) := by
  refine ⟨PS.imp (ps_for hp hc hi.pi hg.pg hb.ps hs) fun D σ H ⟨ρ, F, S, h⟩ => ⟨ρ, F, S, hi.mono _ _ _ (fun ds ρ1 q H1 F1 J s1 S1 ok => ?_) h⟩, fun E E' ρ l h => hi.mono _ _ _ (fun ds ρ1 ⟨I, i0, i1, i2⟩ => ⟨I, i0, fun i d ρ e w => hg.mono _ _ _ _ (fun ρ2 h => hb.mono { E with nx := I (i + 1), ct := I (i + 1), bk := E.nx } _ _ ⟨fun _ h => h, l.rt, l.nx, fun _ h => h⟩ h) (i1 i d ρ e w), fun ρ w => l.nx _ (i2 ρ w)⟩) h⟩
  obtain ⟨I, i0, i1, i2⟩ := q
  refine ⟨fun i n σ H => n = ds.length - i ∧ i ≤ ds.length ∧ ∃ ρ F', Same F1 F' ∧ Sm X m σ H ρ F' ∧ I i ρ, ⟨ds.length, by simp, Nat.zero_le _, ρ1, F1, Same.refl _, S1, i0⟩, ?_⟩
  rintro i n σ2 H2 ⟨rfl, hile, ρ2, F2, s2, S2, w2⟩
  have sH : Same F1 H2 := s2.trans S2.gr.fs
  by_cases hlt : i < ds.length
  · refine .inr ⟨ok.go i H2 sH hlt, fun σ' H' => ∃ ρ F', Same F1 F' ∧ Sm X m σ' H' ρ F' ∧ I (i + 1) ρ, fun σ' H' p => ⟨ds.length - (i + 1), by omega, rfl, hlt, p⟩, fun x H' y => ?_⟩
    obtain ⟨d, ed, yl⟩ := ok.yld i H2 x H' sH hlt y
    have go : ∀ {F3 : Hp}, Same F2 F3 → Sm X m σ2 H' ρ2 F3 → Rep (m.c X) F3 d x → lG X m g x σ2 H' fun σ2 H2 => lS X m t { D with nx := fun σ' H' => ∃ ρ F', Same F1 F' ∧ Sm X m σ' H' ρ F' ∧ I (i + 1) ρ, ct := fun σ' H' => ∃ ρ F', Same F1 F' ∧ Sm X m σ' H' ρ F' ∧ I (i + 1) ρ, bk := D.nx } σ2 H2 := by
      intro F3 s3 S3 r3
      refine ⟨ρ2, F3, d, S3, r3, hg.mono _ _ _ _ (fun ρ4 q σ4 H4 F4 s4 S4 => ⟨ρ4, F4, S4, hb.mono _ _ _ ?_ q⟩) (i1 i d ρ2 ed w2)⟩
      have sF : Same F1 F4 := s2.trans (s3.trans s4)
      have nx : ∀ ρ5, I (i + 1) ρ5 → lN X m (fun σ' H' => ∃ ρ F', Same F1 F' ∧ Sm X m σ' H' ρ F' ∧ I (i + 1) ρ) F4 ρ5 := fun ρ5 w σ' H' F' s' S' => ⟨ρ5, F', sF.trans s', S', w⟩
      exact ⟨nx, fun _ _ h => h, lN_mono (s1.trans sF), nx⟩
    rcases yl with ⟨rfl, r⟩ | ⟨T, vs, es, hT, rfl, rfl, rfl, r⟩
    · exact go (Same.refl _) S2 (r.mono s2)
    · have gg := S2.alloc (o := .tup vs) hT
      exact go gg.f0 (S2.grow gg) ⟨T, vs, rfl, upd_same, (r.mono s2).mono gg.f0⟩
  · have e : i = ds.length := by omega
    subst e
    exact .inl ⟨ok.stop _ H2 sH (Nat.le_refl _), i2 ρ2 w2 σ2 H2 F2 (s1.trans s2) S2⟩
def itemsD : D → Option (List D)
  | .lst ds => some ds
  | .tup ds => some ds
  | .str x => some (x.map fun c => .str [c])
  | _ => none
def diAny (te : DE) : DI := fun ρ Q => te ρ fun d ρ' => ∃ ds, itemsD d = some ds ∧ Q ds ρ'
theorem itok_list {c : Ct} {F : Hp} {a : Addr} {vs : List V} {ds : List D} (h : F a = some (.lst vs)) (r : Reps c F ds vs) : ItOk c F ds (Itl c.K a) where
  go := fun i H s hi => ⟨vs, vs[i]'(by rw [← r.length]; exact hi), SqL.of (s _ _ h), List.getElem?_eq_getElem _⟩
  stop := fun i H s hi => ⟨vs, SqL.of (s _ _ h), by rw [← r.length]; exact hi⟩
  yld := fun i H x H' s hi ⟨e, y⟩ => by
    obtain ⟨d, e1, r1⟩ := r.getV (y vs (SqL.of (s _ _ h)))
    exact ⟨d, e1, .inl ⟨e, r1⟩⟩
theorem itok_tup {c : Ct} {F : Hp} {a : Addr} {vs : List V} {ds : List D} (h : F a = some (.tup vs)) (r : Reps c F ds vs) : ItOk c F ds (Itt c.K a) where
  go := fun i H s hi => ⟨vs, vs[i]'(by rw [← r.length]; exact hi), SqT.of (s _ _ h), List.getElem?_eq_getElem _⟩
  stop := fun i H s hi => ⟨vs, SqT.of (s _ _ h), by rw [← r.length]; exact hi⟩
  yld := fun i H x H' s hi ⟨e, y⟩ => by
    obtain ⟨d, e1, r1⟩ := r.getV (y vs (SqT.of (s _ _ h)))
    exact ⟨d, e1, .inl ⟨e, r1⟩⟩
theorem S_get (x : List Nat) (i : Nat) : (S x).cps[i]? = x[i]? := by
  show (x.toArray)[i]? = _
  simp
theorem itok_str {c : Ct} {F : Hp} {x : List Nat} : ItOk c F (x.map fun c => D.str [c]) (Its (S x)) where
  go := fun i H s hi => by
    rw [List.length_map] at hi
    show i < (S x).cps.size
    rw [show (S x).cps.size = x.length from S_len x]
    exact hi
  stop := fun i H s hi => by
    rw [List.length_map] at hi
    show (S x).cps.size ≤ i
    rw [show (S x).cps.size = x.length from S_len x]
    exact hi
  yld := fun i H v H' s hi y => by
    obtain ⟨e, k, hk, rfl⟩ := y
    rw [S_get] at hk
    exact ⟨.str [k], by rw [List.getElem?_map, hk]; rfl, .inl ⟨e, rfl⟩⟩
def PIv (X : Cx) (tg : Expr) (r : V → Hp → (It → Hp → Prop) → Prop) : Prop := ∀ (pins : List (Addr × Obj)) (s : Shared) (σ : L2.St) (H : Hp) (x : V) (v : Value) (R : It → Hp → Prop), Inv X pins σ H s → RelV x v → r x H R →
  wpAny (model X.prog X.w) X.A (pyIter v) (PIE X pins σ tg R) X.xe s
theorem piv_list {tg : Expr} : PIv X tg fun x H R => ∃ a, x = .ref a ∧ (∃ xs, SqL X.K H a xs) ∧ R (Itl X.K a) H := by
  intro pins s1 σ H1 x v R I1 r1 q1
  obtain ⟨a, e, ⟨xs, hq⟩, q⟩ := q1
  subst e
  cases r1
  obtain ⟨its, rv, p, hz⟩ := I1.list hq
  refine wpAny_pyIter_list p.isList ?_
  refine ⟨s1.heap.objs.size, [s1.heap.objs.size], _, _, H1, rfl, I1.kept (t' := s1.toks) fun b o e => Heap.get?_push_of_some _ e, turn_list a _, ⟨_, Heap.get?_push_size _ rfl, rfl, rfl⟩, fun b hb => ?_, q⟩
  have e : b = s1.heap.objs.size := by simpa using hb
  subst e
  exact I1.fpOk (Nat.le_refl _) (I1.hok.fresh (Nat.le_refl _))
theorem piv_tup {tg : Expr} : PIv X tg fun x H R => ∃ a, x = .ref a ∧ (∃ xs, SqT X.K H a xs) ∧ R (Itt X.K a) H := by
  intro pins s1 σ H1 x v R I1 r1 q1
  obtain ⟨a, e, ⟨xs, hq⟩, q⟩ := q1
  subst e
  cases r1
  obtain ⟨its, rv, p, hz⟩ := I1.tuple hq
  refine wpAny_pyIter_tuple (show s1.heap.IsTuple a its.toArray from p) ?_
  refine ⟨s1.heap.objs.size, [s1.heap.objs.size], _, _, H1, rfl, I1.kept (t' := s1.toks) fun b o e => Heap.get?_push_of_some _ e, turn_tuple a _, ⟨_, Heap.get?_push_size _ rfl, rfl, rfl⟩, fun b hb => ?_, q⟩
  have e : b = s1.heap.objs.size := by simpa using hb
  subst e
  exact I1.fpOk (Nat.le_refl _) (I1.hok.fresh (Nat.le_refl _))
theorem piv_str {tg : Expr} : PIv X tg fun x H R => ∃ y, x = .str y ∧ R (Its y) H := by
  intro pins s1 σ H1 y v R I1 r1 q1
  obtain ⟨x, ex, q⟩ := q1
  subst ex
  obtain ⟨t, rfl⟩ := r1
  cases ha : x.cps.all (· < 128)
  · exact wpAny_pyIter_wide ha (pi_one (tk := s1.toks) I1 _ (turn_str _ x t "str_iterator" (.inr rfl)) ⟨_, Heap.get?_push_size _ rfl, rfl, rfl⟩ q)
  · exact wpAny_pyIter_ascii ha (pi_one (tk := s1.toks) I1 _ (turn_str _ x t "str_ascii_iterator" (.inl rfl)) ⟨_, Heap.get?_push_size _ rfl, rfl, rfl⟩ q)
theorem PIv.or {tg : Expr} {r r' : V → Hp → (It → Hp → Prop) → Prop} (h : PIv X tg r) (h' : PIv X tg r') : PIv X tg fun x H R => r x H R ∨ r' x H R :=
  fun pins s σ H x v R I rv q => q.elim (h pins s σ H x v R I rv) (h' pins s σ H x v R I rv)
theorem PIv.pi {tg : Expr} {r : V → Hp → (It → Hp → Prop) → Prop} {t : TE} (h : PIv X tg r) (he : PE X e t) : PI X tg e fun σ H R => t σ H fun x H1 => r x H1 R :=
  ⟨fun pins s σ H R I q => thn (he.run pins s σ H _ I q) fun v s1 ⟨x, H1, I1, r1, q1⟩ => h pins s1 σ H1 x v R I1 r1 q1⟩
theorem pdi_any {tg : Expr} (he : PD X m e te) : PDI X m tg e (diAny te) := by
  refine ⟨PI.imp ((piv_list (tg := tg).or (piv_tup.or piv_str)).pi he.pe) fun σ H R ⟨ρ, F, Sx, t⟩ => ⟨ρ, F, Sx, he.mono _ _ _ (fun d ρ' q v H' F' s S' r => ?_) t⟩, fun ρ Q Q' i => he.mono _ _ _ fun d ρ' ⟨ds, e1, q⟩ => ⟨ds, e1, i _ _ q⟩⟩
  obtain ⟨ds, e1, q⟩ := q
  cases d with
  | lst es =>
    cases e1
    obtain ⟨a, vs, rfl, h1, h2⟩ := r
    exact .inl ⟨a, rfl, ⟨vs, SqL.of (S'.gr.fs _ _ h1)⟩, q H' F' _ s S' (itok_list h1 h2)⟩
  | tup es =>
    cases e1
    obtain ⟨a, vs, rfl, h1, h2⟩ := r
    exact .inr (.inl ⟨a, rfl, ⟨vs, SqT.of (S'.gr.fs _ _ h1)⟩, q H' F' _ s S' (itok_tup h1 h2)⟩)
  | str x =>
    cases e1
    exact .inr (.inr ⟨S x, r, q H' F' _ s S' itok_str⟩)
  | _ => cases e1
def rangeD (lo : Int) (n : Nat) : List D := (List.range n).map fun i : Nat => D.int (lo + i)
theorem itok_rng {c : Ct} {F : Hp} {lo : Int} {n : Nat} : ItOk c F (rangeD lo n) (Itr lo n) where
  go := fun i H s hi => by
    unfold rangeD at hi
    rw [List.length_map, List.length_range] at hi
    exact hi
  stop := fun i H s hi => by
    unfold rangeD at hi
    rw [List.length_map, List.length_range] at hi
    exact hi
  yld := fun i H x H' s hi y => by
    obtain ⟨e, rfl⟩ := y
    unfold rangeD at hi ⊢
    rw [List.length_map, List.length_range] at hi
    exact ⟨.int (lo + i), by rw [List.getElem?_map, List.getElem?_range hi]; rfl, .inl ⟨e, rfl⟩⟩
def rng1 (Q : List D → Ro → Prop) (ds : List D) (ρ' : Ro) : Prop := ∃ j : Int, ds = [.int j] ∧ (-(2 ^ 62) ≤ j ∧ j < 2 ^ 62) ∧ Q (rangeD 0 j.toNat) ρ'
def diRange1 (ta : DA) : DI := fun ρ Q => ta ρ (rng1 Q)
theorem pdi_range1 {tg : Expr} {ua : DA} {p : Pos} (hg : Gl X "range") (hm : X.mg "range" = none) (ha : PDA X m [a] ua) (hs : starEach [a] X.env = [(false, eval a X.env)] := by rfl) : PDI X m tg (.Call (.Name "range" p) [a] [] pos) (diRange1 ua) := by
  refine ⟨PI.imp (pi_range1 hg hm ha.pe hs) fun σ H R ⟨ρ, F, S, t⟩ => ⟨ρ, F, S, ha.mono _ _ _ (fun ds ρ' q vs H' F' s S' r => ?_) t⟩, fun ρ Q Q' i => ha.mono _ _ _ fun ds ρ' ⟨j, e, h, q⟩ => ⟨j, e, h, i _ _ q⟩⟩
  obtain ⟨j, rfl, ⟨h1, h2⟩, q⟩ := q
  obtain ⟨v, r1, rfl, rv, r2⟩ := r
  obtain rfl : r1 = [] := r2
  obtain rfl : v = .int j := rv
  exact ⟨j, rfl, h1, h2, q H' F' _ s S' itok_rng⟩
def rng2 (Q : List D → Ro → Prop) (ds : List D) (ρ' : Ro) : Prop := ∃ i j : Int, ds = [.int i, .int j] ∧ (-(2 ^ 62) ≤ i ∧ i < 2 ^ 62 ∧ -(2 ^ 62) ≤ j ∧ j < 2 ^ 62) ∧ Q (rangeD i (j - i).toNat) ρ'
def diRange2 (ta : DA) : DI := fun ρ Q => ta ρ (rng2 Q)
theorem pdi_range2 {tg : Expr} {ua : DA} {p : Pos} (hg : Gl X "range") (hm : X.mg "range" = none) (ha : PDA X m [a, b] ua) (hs : starEach [a, b] X.env = [(false, eval a X.env), (false, eval b X.env)] := by rfl) (hs2 : starEach [b] X.env = [(false, eval b X.env)] := by rfl) :
    PDI X m tg (.Call (.Name "range" p) [a, b] [] pos) (diRange2 ua) := by
  refine ⟨PI.imp (pi_range2 hg hm ha.pe hs hs2) fun σ H R ⟨ρ, F, S, t⟩ => ⟨ρ, F, S, ha.mono _ _ _ (fun ds ρ' q vs H' F' s S' r => ?_) t⟩, fun ρ Q Q' i => ha.mono _ _ _ fun ds ρ' ⟨j, k, e, h, q⟩ => ⟨j, k, e, h, i _ _ q⟩⟩
  obtain ⟨i, j, rfl, hb, q⟩ := q
  obtain ⟨v, r1, rfl, rv, w, r3, rfl, rw', r2⟩ := r
  obtain rfl : r3 = [] := r2
  obtain rfl : v = .int i := rv
  obtain rfl : w = .int j := rw'
  exact ⟨i, j, rfl, hb, q H' F' _ s S' itok_rng⟩
end
end DL
namespace DL
open PySem L2 PyProof.Rows
section
variable {X : Cx} {m : M} {e a b c' : Expr} {es : List Expr} {te ta tb tc : DE} {pos : Pos} {st : Stmt} {rest : List Stmt} {t u : DS} {ut : DT}
abbrev F1 := D → (D → Prop) → Prop
structure Op1 (X : Cx) (m : M) (r : V → Hp → VK → Prop) (f : F1) : Prop where
  ok : ∀ {σ : L2.St} {H : Hp} {ρ : Ro} {F : Hp} {d : D} {x : V} {Q : VK} {P : D → Prop}, Sm X m σ H ρ F → Vw (m.c X) F H d x → f d P →
    (∀ z v H' F', P z → Grow (m.c X) F H F' H' → Rep (m.c X) F' z v → Q v H') → r x H Q
  mono : ∀ d P P', (∀ z, P z → P' z) → f d P → f d P'
def dOp1 (f : F1) (ta : DE) : DE := fun ρ Q => ta ρ fun d ρ1 => f d fun z => Q z ρ1
theorem pd_op1 {r : V → Hp → VK → Prop} {f : F1} {e' : Expr} (ho : Op1 X m r f) (ha : PQ X m a ta) (h : PE X e' (fun σ H Q => lQ X m ta σ H fun x H1 => r x H1 Q)) : PD X m e' (dOp1 f ta) := by
  refine ⟨PE.imp h fun σ H Q ⟨ρ, F, S, t⟩ => ⟨ρ, F, S, ha.mono _ _ _ (fun d ρ1 q x H1 F1 s1 S1 r1 => ?_) t⟩, fun ρ Q Q' i => ha.mono _ _ _ fun d ρ1 => ho.mono _ _ _ fun z => i _ _⟩
  exact ho.ok S1 r1 q fun z v H' F' p g rz => p v H' F' (s1.trans g.f0) (S1.grow g) rz
theorem pe_call1 {x : Str} {p : Pos} {id : String} {r : List V → Hp → VK → Prop} {t : TE} (hc : CallR X (.builtin id) r) (hg : Gl X x) (hm : X.mg x = none) (hv : bootBuiltins x = some (.builtin id)) (ha : PE X e t) (hn : x ≠ "__name__" := by decide) (hdb : (x == ("__debug__" : Str)) = false := by decide)
    (he : starEach [e] X.env = (false, eval e X.env) :: starEach [] X.env := by rfl) (hpl : (backTo pos (starEach [] X.env)).any (·.1) = false := by rfl) : PE X (.Call (.Name x p) [e] [] pos) (fun σ H Q => t σ H fun v H1 => r [v] H1 Q) :=
  pe_callB hc hg hm hv (pa_cons ha pa_nil he) hn hdb he hpl
theorem pe_callT1 {x : Str} {p : Pos} {T : String} {r : List V → Hp → VK → Prop} {t : TE} (hc : CallR X (.type T) r) (hg : Gl X x) (hm : X.mg x = none) (hv : bootBuiltins x = some (.type T)) (ha : PE X e t) (hn : x ≠ "__name__" := by decide) (hdb : (x == ("__debug__" : Str)) = false := by decide)
    (he : starEach [e] X.env = (false, eval e X.env) :: starEach [] X.env := by rfl) (hpl : (backTo pos (starEach [] X.env)).any (·.1) = false := by rfl) : PE X (.Call (.Name x p) [e] [] pos) (fun σ H Q => t σ H fun v H1 => r [v] H1 Q) :=
  pe_callTy hc hg hm hv (pa_cons ha pa_nil he) hn hdb he hpl
def fLen : F1 := fun d P => match d with
  | .lst ds => P (.int ds.length)
  | .tup ds => P (.int ds.length)
  | .str x => x.length ≤ 16777216 ∧ P (.int x.length)
  | .dct 0 ks _ => P (.int ks.length)
  | .pin _ (.lst ds) => P (.int ds.length)
  | _ => False
def rLenU (K : Frag) : List V → Hp → VK → Prop := fun xs H Q => (∃ x n, xs = [x] ∧ LenV K x H n ∧ Q (.int n) H) ∨ (∃ a kvs, xs = [V.ref a] ∧ H a = some (.dK kvs) ∧ Q (.int kvs.length) H)
theorem call_lenU : CallR X (.builtin "len") (rLenU X.K) := call_len.or call_lenD
theorem o_len : Op1 X m (fun x H Q => rLenU X.K [x] H Q) fLen := by
  refine ⟨fun {σ H ρ F d x Q P} Sm r1 h k => ?_, fun d P P' i => ?_⟩
  · unfold fLen at h
    split at h
    · obtain ⟨a, vs, rfl, h1, h2⟩ := r1
      exact .inl ⟨_, vs.length, rfl, .inl ⟨vs, SqL.of h1, rfl⟩, by rw [← h2.length]; exact k _ _ H F h (Grow.refl Sm.gr.fs Sm.gr.tok) rfl⟩
    · obtain ⟨a, vs, rfl, h1, h2⟩ := r1
      exact .inl ⟨_, vs.length, rfl, .inr ⟨vs, SqT.of (Sm.gr.fs _ _ h1), rfl⟩, by rw [← h2.length]; exact k _ _ H F h (Grow.refl Sm.gr.fs Sm.gr.tok) rfl⟩
    · rename_i z
      rw [show x = .str (S z) from r1]
      exact .inl ⟨_, z.length, rfl, ⟨by rw [S_len, line16]; exact h.1, (S_len z).symm⟩, k _ _ H F h.2 (Grow.refl Sm.gr.fs Sm.gr.tok) rfl⟩
    · obtain ⟨a, rfl, ⟨_, es, h1, rfl, _⟩ | ⟨z, _⟩⟩ := r1
      · rw [List.length_map] at h
        exact .inr ⟨a, es, rfl, h1, k _ _ H F h (Grow.refl Sm.gr.fs Sm.gr.tok) rfl⟩
      · cases z
    · obtain ⟨rfl, vs, h1, h2⟩ := r1
      exact .inl ⟨_, vs.length, rfl, .inl ⟨vs, SqL.of h1, rfl⟩, by rw [← h2.length]; exact k _ _ H F h (Grow.refl Sm.gr.fs Sm.gr.tok) rfl⟩
    · exact h.elim
  · unfold fLen
    split <;> first | exact i _ | exact fun h => ⟨h.1, i _ h.2⟩ | exact id
theorem pd_len {x : Str} {p : Pos} (ha : PQ X m e te) (hx : x = "len") (hg : Gl X x) (hm : X.mg x = none) (he : starEach [e] X.env = (false, eval e X.env) :: starEach [] X.env := by rfl) (hpl : (backTo pos (starEach [] X.env)).any (·.1) = false := by rfl) :
    PD X m (.Call (.Name x p) [e] [] pos) (dOp1 fLen te) := by
  subst hx
  exact pd_op1 o_len ha (pe_call1 call_lenU hg hm PySem.boot_len ha.pe (by decide) (by decide) he hpl)
def fInt : F1 := fun d P => match d with
  | .int i => P (.int i)
  | .bl b => P (.int (if b then 1 else 0))
  | _ => False
theorem o_int : Op1 X m (fun x H Q => (∃ i, [x] = [V.int i] ∧ Q (.int i) H) ∨ ∃ k, [x] = [V.bl k] ∧ Q (.int (if k then 1 else 0)) H) fInt := by
  refine ⟨fun {σ H ρ F d x Q P} Sm r1 h k => ?_, fun d P P' i => ?_⟩
  · unfold fInt at h
    split at h
    · rw [show x = .int _ from r1]
      exact .inl ⟨_, rfl, k _ _ H F h (Grow.refl Sm.gr.fs Sm.gr.tok) rfl⟩
    · rw [show x = .bl _ from r1]
      exact .inr ⟨_, rfl, k _ _ H F h (Grow.refl Sm.gr.fs Sm.gr.tok) rfl⟩
    · exact h.elim
  · unfold fInt
    split <;> first | exact i _ | exact id
theorem pd_int1 {x : Str} {p : Pos} (ha : PQ X m e te) (hx : x = "int") (hg : Gl X x) (hm : X.mg x = none) (he : starEach [e] X.env = (false, eval e X.env) :: starEach [] X.env := by rfl) (hpl : (backTo pos (starEach [] X.env)).any (·.1) = false := by rfl) :
    PD X m (.Call (.Name x p) [e] [] pos) (dOp1 fInt te) := by
  subst hx
  exact pd_op1 o_int ha (pe_callT1 call_int1 hg hm boot_int ha.pe (by decide) (by decide) he hpl)
def fListOf : F1 := fun d P => match d with
  | .lst ds => P (.lst ds)
  | .tup ds => P (.lst ds)
  | _ => False
theorem o_listOf : Op1 X m (fun x H Q => ∃ p ys, [x] = [V.ref p] ∧ (SqL X.K H p ys ∨ SqT X.K H p ys) ∧ ∀ l, H l = none → Q (.ref l) (upd H l (.lst ys))) fListOf := by
  refine ⟨fun {σ H ρ F d x Q P} Sm r1 h k => ?_, fun d P P' i => ?_⟩
  · have fin : ∀ {ds : List D} {vs : List V}, Reps (m.c X) F ds vs → P (.lst ds) → ∀ l, H l = none → Q (.ref l) (upd H l (.lst vs)) := fun {ds vs} r h l hl => by
      have g := Sm.alloc (o := .lst vs) hl
      exact k _ _ _ _ h g ⟨l, vs, rfl, upd_same, r.mono g.f0⟩
    unfold fListOf at h
    split at h
    · obtain ⟨a, vs, rfl, h1, h2⟩ := r1
      exact ⟨a, vs, rfl, .inl (SqL.of h1), fin h2 h⟩
    · obtain ⟨a, vs, rfl, h1, h2⟩ := r1
      exact ⟨a, vs, rfl, .inr (SqT.of (Sm.gr.fs _ _ h1)), fin h2 h⟩
    · exact h.elim
  · unfold fListOf
    split <;> first | exact i _ | exact id
theorem pd_listOf {x : Str} {p : Pos} (ha : PQ X m e te) (hx : x = "list") (hg : Gl X x) (hm : X.mg x = none) (he : starEach [e] X.env = (false, eval e X.env) :: starEach [] X.env := by rfl) (hpl : (backTo pos (starEach [] X.env)).any (·.1) = false := by rfl) :
    PD X m (.Call (.Name x p) [e] [] pos) (dOp1 fListOf te) := by
  subst hx
  exact pd_op1 o_listOf ha (pe_callT1 call_list_of hg hm boot_list ha.pe (by decide) (by decide) he hpl)
theorem pf_listOf {x : Str} {p : Pos} (ha : PQ X m e te) (hx : x = "list") (hg : Gl X x) (hm : X.mg x = none) (he : starEach [e] X.env = (false, eval e X.env) :: starEach [] X.env := by rfl) (hpl : (backTo pos (starEach [] X.env)).any (·.1) = false := by rfl) :
    PF X m (.Call (.Name x p) [e] [] pos) (dOp1 fListOf te) := by
  subst hx
  have P := pe_callT1 (pos := pos) (p := p) call_list_of hg hm boot_list ha.pe (by decide) (by decide) he hpl
  refine ⟨PE.imp P fun σ H Q ⟨ρ, F, S, t⟩ => ⟨ρ, F, S, ha.mono _ _ _ (fun d ρ1 q x H1 F1 s1 S1 r1 => ?_) t⟩, fun ρ Q Q' i => ha.mono _ _ _ fun d ρ1 => (o_listOf (X := X) (m := m)).mono _ _ _ fun z => i _ _⟩
  have fin : ∀ {ds : List D} {vs : List V}, Reps (m.c X) F1 ds vs → (∀ p H' F', Same F F' → Sm X m σ H' ρ1 F' → F' p = none → m.H0 p = none → OwnAt (m.c X) F' H' p (.lst ds) → Fresh σ ρ1 p → Q (.ref p) H') → ∀ l, H1 l = none → Q (.ref l) (upd H1 l (.lst vs)) := fun {ds vs} r h l hl =>
    fresh_new (d := .lst ds) S1 hl ⟨vs, upd_same, r⟩ fun H2 S2 h1 h2 ow fr => h l H2 F1 s1 S2 h1 h2 ow fr
  unfold fListOf at q
  split at q
  · obtain ⟨a, vs, rfl, h1, h2⟩ := r1
    exact ⟨a, vs, rfl, .inl (SqL.of h1), fin h2 q⟩
  · obtain ⟨a, vs, rfl, h1, h2⟩ := r1
    exact ⟨a, vs, rfl, .inr (SqT.of (S1.gr.fs _ _ h1)), fin h2 q⟩
  · exact q.elim
def fTupOf : F1 := fun d P => match d with
  | .lst ds => P (.tup ds)
  | .tup ds => P (.tup ds)
  | _ => False
theorem o_tupOf : Op1 X m (fun x H Q => ∃ p ys, [x] = [V.ref p] ∧ ((SqL X.K H p ys ∧ ∀ l, H l = none → Q (.ref l) (upd H l (.tup ys))) ∨ (SqT X.K H p ys ∧ Q (.ref p) H))) fTupOf := by
  refine ⟨fun {σ H ρ F d x Q P} Sm r1 h k => ?_, fun d P P' i => ?_⟩
  · unfold fTupOf at h
    split at h
    · obtain ⟨a, vs, rfl, h1, h2⟩ := r1
      refine ⟨a, vs, rfl, .inl ⟨SqL.of h1, fun l hl => ?_⟩⟩
      have g := Sm.alloc (o := .tup vs) hl
      exact k _ _ _ _ h g ⟨l, vs, rfl, upd_same, h2.mono g.f0⟩
    · have r1' := r1
      obtain ⟨a, vs, rfl, h1, h2⟩ := r1
      exact ⟨a, vs, rfl, .inr ⟨SqT.of (Sm.gr.fs _ _ h1), k _ _ H F h (Grow.refl Sm.gr.fs Sm.gr.tok) r1'⟩⟩
    · exact h.elim
  · unfold fTupOf
    split <;> first | exact i _ | exact id
theorem pd_tupOf {x : Str} {p : Pos} (ha : PQ X m e te) (hx : x = "tuple") (hg : Gl X x) (hm : X.mg x = none) (he : starEach [e] X.env = (false, eval e X.env) :: starEach [] X.env := by rfl) (hpl : (backTo pos (starEach [] X.env)).any (·.1) = false := by rfl) :
    PD X m (.Call (.Name x p) [e] [] pos) (dOp1 fTupOf te) := by
  subst hx
  exact pd_op1 o_tupOf ha (pe_callT1 call_tuple_of hg hm boot_tuple ha.pe (by decide) (by decide) he hpl)
def tyN : D → Option String
  | .non => some "NoneType" | .bl _ => some "bool" | .int _ => some "int" | .str _ => some "str" | .lst _ => some "list" | .tup _ => some "tuple" | .dct _ _ _ => some "dict"
  | _ => none
theorem tyX_of {c : Ct} {F H : Hp} (s : Same F H) {d : D} {v : V} {t : String} (r : Vw c F H d v) (h : tyN d = some t) : TyX c.K H v (.type t) := by
  cases d with
  | non => cases h; rw [show v = _ from r]; exact .base .non
  | bl b => cases h; rw [show v = _ from r]; exact .base (.bl b)
  | int b => cases h; rw [show v = _ from r]; exact .base (.int b)
  | str b => cases h; rw [show v = _ from r]; exact .base (.str _)
  | lst ds => cases h; obtain ⟨a, vs, rfl, h1, _⟩ := r; exact .base (.lst h1)
  | tup ds => cases h; obtain ⟨a, vs, rfl, h1, _⟩ := r; exact .base (.tup (s _ _ h1))
  | dct kd ks ds =>
    cases h
    obtain ⟨a, rfl, ⟨_, es, h1, _⟩ | ⟨_, es, h1, _⟩⟩ := r
    · exact .base (.dK h1)
    · exact .base (.dT h1)
  | _ => cases h
def isB (T : String) (d : D) : Option Bool := match tyN d with
  | none => none
  | some t => if t = T then some true else if t = "bool" ∧ T = "int" then some true else some false
structure IsTy (T : String) : Prop where
  h : ∀ t ∈ ["NoneType", "bool", "int", "str", "list", "tuple", "dict"], kitB t T = some (if t = T then true else if t = "bool" ∧ T = "int" then true else false)
theorem ist_bool : IsTy "bool" := ⟨by decide +kernel⟩
theorem ist_int : IsTy "int" := ⟨by decide +kernel⟩
theorem ist_str : IsTy "str" := ⟨by decide +kernel⟩
theorem ist_list : IsTy "list" := ⟨by decide +kernel⟩
theorem ist_tuple : IsTy "tuple" := ⟨by decide +kernel⟩
theorem ist_dict : IsTy "dict" := ⟨by decide +kernel⟩
def fIsi (T : String) : F1 := fun d P => ∃ b, isB T d = some b ∧ P (.bl b)
theorem o_isi {T : String} (hT : IsTy T) : Op1 X m (fun x H Q => rIsi X.K [x, .ty T] H Q) (fIsi T) := by
  refine ⟨fun {σ H ρ F d x Q P} Sm r1 h k => ?_, fun d P P' i ⟨b, e, h⟩ => ⟨b, e, i _ h⟩⟩
  obtain ⟨b, e, h⟩ := h
  unfold isB at e
  split at e
  · cases e
  · rename_i t ht
    have mem : t ∈ ["NoneType", "bool", "int", "str", "list", "tuple", "dict"] := by
      cases d <;> first | (cases ht; done) | (cases ht; decide)
    refine ⟨x, .ty T, _, _, b, rfl, .ty T, tyX_of Sm.gr.fs r1 ht, kit_ty ?_, k _ _ H F h (Grow.refl Sm.gr.fs Sm.gr.tok) rfl⟩
    rw [hT.h t mem, ← e]
    split
    · rfl
    · split <;> rfl
theorem pd_isi {T : String} {x y : Str} {p p2 : Pos} (hT : IsTy T) (ha : PQ X m e te) (hx : x = "isinstance") (hg : Gl X x) (hm : X.mg x = none) (hg2 : Gl X y) (hm2 : X.mg y = none) (hv2 : bootBuiltins y = some (.type T)) (hn2 : y ≠ "__name__" := by decide)
    (he : starEach [e, .Name y p2] X.env = (false, eval e X.env) :: starEach [.Name y p2] X.env := by rfl) (hpl : (backTo pos (starEach [.Name y p2] X.env)).any (·.1) = false := by rfl) (hdb : (y == ("__debug__" : Str)) = false := by decide) :
    PD X m (.Call (.Name x p) [e, .Name y p2] [] pos) (dOp1 (fIsi T) te) := by
  subst hx
  exact pd_op1 (o_isi hT) ha (pe_callB call_isi hg hm boot_isinstance (pa_cons ha.pe (pa_cons (pe_bltn (v := .ty T) hg2 hm2 hv2 rfl hn2 hdb) pa_nil) he) (by decide) (by decide) he hpl)
abbrev FM := D → List D → (D → Prop) → Prop
structure OpM (X : Cx) (m : M) (r : V → List V → Hp → VK → Prop) (f : FM) : Prop where
  ok : ∀ {σ : L2.St} {H : Hp} {ρ : Ro} {F : Hp} {d : D} {ds : List D} {x : V} {xs : List V} {Q : VK} {P : D → Prop}, Sm X m σ H ρ F → Rep (m.c X) F d x → Reps (m.c X) F ds xs → f d ds P →
    (∀ z v H' F', P z → Grow (m.c X) F H F' H' → Rep (m.c X) F' z v → Q v H') → r x xs H Q
  mono : ∀ d ds P P', (∀ z, P z → P' z) → f d ds P → f d ds P'
def isT (T : String) (d : D) : Prop := (T = "str" ∧ ∃ x, d = .str x) ∨ (T = "list" ∧ ∃ x, d = .lst x) ∨ (T = "dict" ∧ ∃ k x y, d = .dct k x y)
theorem tyV_of {c : Ct} {F H : Hp} (s : Same F H) {d : D} {v : V} {T : String} (r : Rep c F d v) (h : isT T d) : tyV c.K T v H := by
  rcases h with ⟨rfl, x, rfl⟩ | ⟨rfl, x, rfl⟩ | ⟨rfl, k, x, y, rfl⟩
  · rw [show v = _ from r]; exact rfl
  · obtain ⟨a, vs, rfl, h1, _⟩ := r
    exact .inl ⟨rfl, vs, SqL.of (s _ _ h1)⟩
  · obtain ⟨a, rfl, ⟨_, es, h1, _⟩ | ⟨_, es, h1, _⟩⟩ := r
    · exact .inr (.inr (.inl ⟨rfl, .inl ⟨es, s _ _ h1⟩⟩))
    · exact .inr (.inr (.inl ⟨rfl, .inr ⟨es, s _ _ h1⟩⟩))
def dMeth (T : String) (f : FM) (to : DE) (ta : DA) : DE := fun ρ Q => to ρ fun d ρ1 => isT T d ∧ ta ρ1 fun ds ρ2 => f d ds fun z => Q z ρ2
theorem pd_meth {T : String} {r : V → List V → Hp → VK → Prop} {f : FM} {o : Expr} {to : DE} {ua : DA} {name : Str} {apos cpos : Pos} (hm : OpM X m r f) (ho : PD X m o to) (ha : PDA X m (e :: es) ua)
    (h : PE X (.Call (.Attribute o name apos) (e :: es) [] cpos) (tBM X.K T r (lE X m to) (lA X m ua))) : PD X m (.Call (.Attribute o name apos) (e :: es) [] cpos) (dMeth T f to ua) := by
  refine ⟨PE.imp h fun σ H Q ⟨ρ, F, S, t⟩ => ⟨ρ, F, S, ho.mono _ _ _ (fun d ρ1 q x H1 F1 s1 S1 r1 => ?_) t⟩, fun ρ Q Q' i => ho.mono _ _ _ fun d ρ1 q => ⟨q.1, ha.mono _ _ _ (fun ds ρ2 => hm.mono _ _ _ _ fun z => i _ _) q.2⟩⟩
  refine ⟨tyV_of S1.gr.fs r1 q.1, ρ1, F1, S1, ha.mono _ _ _ (fun ds ρ2 q xs H2 F2 s2 S2 r2 => ?_) q.2⟩
  exact hm.ok S2 (r1.mono s2) r2 q fun z v H' F' p g rz => p v H' F' (s1.trans (s2.trans g.f0)) (S2.grow g) rz
def fFind3 : FM := fun d ds P => match d, ds with
  | .str x, [.str y, .int i] => P (.int (Txt.find3 (S x) (S y) i))
  | _, _ => False
theorem o_find3 : OpM X m (fun x xs H Q => ∃ (a b : Str) (i : Int), x = .str a ∧ xs = [.str b, .int i] ∧ Q (.int (Txt.find3 a b i)) H) fFind3 := by
  refine ⟨fun {σ H ρ F d ds x xs Q P} Sm r1 r2 h k => ?_, fun d ds P P' i => ?_⟩
  · unfold fFind3 at h
    split at h
    · obtain ⟨v, r', rfl, rv, w, r'', rfl, rw', r3⟩ := r2
      obtain rfl : r'' = [] := r3
      rw [show x = _ from r1, show v = _ from rv, show w = _ from rw']
      exact ⟨_, _, _, rfl, rfl, k _ _ H F h (Grow.refl Sm.gr.fs Sm.gr.tok) rfl⟩
    · exact h.elim
  · unfold fFind3
    split <;> first | exact i _ | exact id
def fFind : FM := fun d ds P => match d, ds with
  | .str x, [.str y] => P (.int (Txt.find (S x) (S y)))
  | _, _ => False
theorem o_find : OpM X m (fun x xs H Q => ∃ a b, x = .str a ∧ xs = [.str b] ∧ Q (.int (Txt.find a b)) H) fFind := by
  refine ⟨fun {σ H ρ F d ds x xs Q P} Sm r1 r2 h k => ?_, fun d ds P P' i => ?_⟩
  · unfold fFind at h
    split at h
    · obtain ⟨v, r', rfl, rv, r3⟩ := r2
      obtain rfl : r' = [] := r3
      rw [show x = _ from r1, show v = _ from rv]
      exact ⟨_, _, rfl, rfl, k _ _ H F h (Grow.refl Sm.gr.fs Sm.gr.tok) rfl⟩
    · exact h.elim
  · unfold fFind
    split <;> first | exact i _ | exact id
def fRfind : FM := fun d ds P => match d, ds with
  | .str x, [.str y] => P (.int (Txt.rfind (S x) (S y)))
  | _, _ => False
theorem o_rfind : OpM X m (fun x xs H Q => ∃ a b, x = .str a ∧ xs = [.str b] ∧ Q (.int (Txt.rfind a b)) H) fRfind := by
  refine ⟨fun {σ H ρ F d ds x xs Q P} Sm r1 r2 h k => ?_, fun d ds P P' i => ?_⟩
  · unfold fRfind at h
    split at h
    · obtain ⟨v, r', rfl, rv, r3⟩ := r2
      obtain rfl : r' = [] := r3
      rw [show x = _ from r1, show v = _ from rv]
      exact ⟨_, _, rfl, rfl, k _ _ H F h (Grow.refl Sm.gr.fs Sm.gr.tok) rfl⟩
    · exact h.elim
  · unfold fRfind
    split <;> first | exact i _ | exact id
def lookF : List Str → List D → Str → Option D
  | n :: ns, v :: vs, f => if f = n then some v else lookF ns vs f
  | _, _, _ => none
theorem lookF_of {c : Ct} {F : Hp} {f : Str} {d : D} : ∀ {ns : List Str} {ds : List D} {vs : List V}, Reps c F ds vs → lookF ns ds f = some d → ∃ v, (ns.zip vs).lookup f = some v ∧ Rep c F d v
  | [], ds, vs, r, h => by cases ds <;> cases h
  | n :: ns, [], vs, r, h => by cases h
  | n :: ns, d' :: ds, vs, r, h => by
    obtain ⟨v, r', rfl, h1, h2⟩ := r
    unfold lookF at h
    by_cases hf : f = n
    · rw [if_pos hf] at h
      cases h
      subst hf
      exact ⟨v, by simp [List.lookup], h1⟩
    · rw [if_neg hf] at h
      obtain ⟨w, e, rw'⟩ := lookF_of h2 h
      refine ⟨w, ?_, rw'⟩
      have hb : (f == n) = false := by simpa using hf
      rw [List.zip_cons_cons, List.lookup_cons, hb]
      exact e
theorem lookF_none {f : Str} : ∀ {ns : List Str} {vs : List V}, f ∉ ns → (ns.zip vs).lookup f = none
  | [], _, _ => rfl
  | n :: ns, [], _ => rfl
  | n :: ns, v :: vs, h => by
    have hb : (f == n) = false := by simpa using fun (e : f = n) => h (e ▸ List.mem_cons_self)
    rw [List.zip_cons_cons, List.lookup_cons, hb]
    exact lookF_none fun q => h (List.mem_cons_of_mem _ q)
def fFld (K : Frag) (f : Str) : F1 := fun d P => match d with
  | .ins C ns vs => Cls K C ∧ NoAttr K C f ∧ ∃ z, lookF ns vs f = some z ∧ P z
  | .pin _ (.ins C ns vs) => Cls K C ∧ NoAttr K C f ∧ ∃ z, lookF ns vs f = some z ∧ P z
  | _ => False
theorem o_fld {f : Str} : Op1 X m (fun x H Q => ∃ a C dx fs v, x = .ref a ∧ H a = some (.ins C dx fs) ∧ Cls X.K C ∧ NoAttr X.K C f ∧ fs.lookup f = some v ∧ Q v H) (fFld X.K f) := by
  refine ⟨fun {σ H ρ F d x Q P} Sm r1 h k => ?_, fun d P P' i => ?_⟩
  · unfold fFld at h
    cases d with
    | ins C ns vs =>
      obtain ⟨h1, h2, z, h3, h⟩ := h
      obtain ⟨a, dx, ws, rfl, g1, g2, g3⟩ := r1
      obtain ⟨v, ev, rv⟩ := lookF_of g3 h3
      exact ⟨a, C, dx, _, v, rfl, g1, h1, h2, ev, k _ _ H F h (Grow.refl Sm.gr.fs Sm.gr.tok) rv⟩
    | pin q d =>
      cases d with
      | ins C ns vs =>
        obtain ⟨h1, h2, z, h3, h⟩ := h
        obtain ⟨rfl, dx, ws, g1, g2, g3⟩ := r1
        obtain ⟨v, ev, rv⟩ := lookF_of g3 h3
        exact ⟨q, C, dx, _, v, rfl, g1, h1, h2, ev, k _ _ H F h (Grow.refl Sm.gr.fs Sm.gr.tok) rv⟩
      | _ => exact h.elim
    | _ => exact h.elim
  · unfold fFld
    split <;> first | exact fun ⟨h1, h2, z, h3, h⟩ => ⟨h1, h2, z, h3, i _ h⟩ | exact id
theorem pd_fld {f : Str} (ha : PQ X m e te) (hb : attributeBase e f X.env (eval e X.env) = eval e X.env := by rfl) : PD X m (.Attribute e f pos) (dOp1 (fFld X.K f) te) := pd_op1 o_fld ha (pe_fld ha.pe hb)
end
abbrev XP := Addr → List Str → List D → Prop
structure SpD where
  run : List D → (D → Prop) → XP → Prop
  mono : ∀ ds Q Q' E E', (∀ d, Q d → Q' d) → (∀ C ns vs, E C ns vs → E' C ns vs) → run ds Q E → run ds Q' E'
def excEnd (c : Ct) (F0 H0 : Hp) (E : XK) : XP := fun C ns ds => (ns = [] → ∀ H' F', Grow c F0 H0 F' H' → E (.ref C) none H') ∧
  (ns ≠ [] → ∀ dd vs H' F', Grow c F0 H0 F' H' → F' dd = some (.xd (ns.zip vs)) → ns.length = vs.length → Reps c F' ds vs → E (.ref C) (some dd) H')
def spOf (K : Frag) (sd : SpD) : Sp := fun vs H Q E => ∃ F st ds, Same F H ∧ Tok ⟨K, st⟩ F H ∧ (∀ a, st = some a → ∃ o, H a = some o) ∧ Reps ⟨K, st⟩ F ds vs ∧
  sd.run ds (fun d => ∀ v H' F', Grow ⟨K, st⟩ F H F' H' → Rep ⟨K, st⟩ F' d v → Q v H') (excEnd ⟨K, st⟩ F H E)
abbrev mkSp {A : Type} (enc : A → List D) (pre : A → Prop) (post : A → D → Prop) : SpD where
  run := fun ds Q _ => ∃ a, ds = enc a ∧ pre a ∧ ∀ d, post a d → Q d
  mono := fun _ _ _ _ _ i _ ⟨a, h1, h2, h3⟩ => ⟨a, h1, h2, fun d q => i d (h3 d q)⟩
abbrev mkSpX {A : Type} (enc : A → List D) (pre : A → Prop) (post : A → D → Prop) (xpost : A → Addr → List Str → List D → Prop) : SpD where
  run := fun ds Q E => ∃ a, ds = enc a ∧ pre a ∧ (∀ d, post a d → Q d) ∧ ∀ C ns vs, xpost a C ns vs → E C ns vs
  mono := fun _ _ _ _ _ i j ⟨a, h1, h2, h3, h4⟩ => ⟨a, h1, h2, fun d q => i d (h3 d q), fun C ns vs q => j C ns vs (h4 C ns vs q)⟩
section
variable {X : Cx} {m : M} {e : Expr} {es : List Expr} {te : DE} {pos : Pos}
def dCall (sd : SpD) (E : XP) (ta : DA) : DE := fun ρ Q => ta ρ fun ds ρ' => sd.run ds (fun d => Q d ρ') E
theorem call_imp {sd : SpD} {E : XK} {XPo : XP} {ua : DA} {ess : List Expr} (ha : PDA X m ess ua) (hE : ∀ {H F : Hp}, Grow (m.c X) m.F0 m.H0 F H → ∀ C ns vs, XPo C ns vs → excEnd (m.c X) F H E C ns vs) (σ : L2.St) (H : Hp) (Q : VK) (h : lE X m (dCall sd XPo ua) σ H Q) : tCall (spOf X.K sd) [] E (lA X m ua) σ H Q := by
  obtain ⟨ρ, F, S, t⟩ := h
  refine ⟨ρ, F, S, ha.mono _ _ _ (fun ds ρ' q vs H1 F1 s1 S1 r => ?_) t⟩
  show spOf X.K sd (vs ++ []) H1 Q E
  rw [List.append_nil]
  refine ⟨F1, m.st, ds, S1.gr.fs, S1.gr.tok, fun a n => ?_, r, sd.mono _ _ _ _ _ (fun d q v H' F' g rv => q v H' F' (s1.trans g.f0) (S1.grow g) rv) (hE S1.gr) q⟩
  obtain ⟨_, _, _, _, _, _, _, h, _⟩ := S1.gr.tok a n
  exact ⟨_, h⟩
theorem pd_call' {sd : SpD} {E : XK} {XPo : XP} {ua : DA} {ess : List Expr} (ha : PDA X m ess ua) (hE : ∀ {H F : Hp}, Grow (m.c X) m.F0 m.H0 F H → ∀ C ns vs, XPo C ns vs → excEnd (m.c X) F H E C ns vs) (h : PE X e (tCall (spOf X.K sd) [] E (lA X m ua))) : PD X m e (dCall sd XPo ua) :=
  ⟨PE.imp h (call_imp ha hE), fun ρ Q Q' i => ha.mono _ _ _ fun ds ρ' => sd.mono _ _ _ _ _ (fun d => i _ _) fun _ _ _ q => q⟩
def XP0 : XP := fun _ _ _ => False
theorem xp0 {c : Ct} {F0 H0 : Hp} {E : XK} : ∀ {H F : Hp}, Grow c F0 H0 F H → ∀ C ns vs, XP0 C ns vs → excEnd c F H E C ns vs := fun _ _ _ _ h => h.elim
variable {CX : CXT} {k : Nat} {f : Addr} {fd : FuncData} {ps : List Str} {x : Str} {p : Pos}
theorem pd_call {sd : SpD} {ua : DA} (F : FnOk X.prog X.w X.K X.mg X.base CX0 k f fd ps (spOf X.K sd)) (hr : Room k X.A) (hm : X.mg x = some (.ref f)) (hk : PySem.W.keepIn X.K (.ref f) = true) (hb : Binds X.K fd ps [])
    (ha : PDA X m (e :: es) ua) (hg : Gl X x := by rfl) (hdb : (x == ("__debug__" : Str)) = false := by decide) (he : starEach (e :: es) X.env = (false, eval e X.env) :: starEach es X.env := by rfl) (hpl : (backTo pos (starEach es X.env)).any (·.1) = false := by rfl) :
    PD X m (.Call (.Name x p) (e :: es) [] pos) (dCall sd XP0 ua) := pd_call' ha xp0 (pe_call F hr hg hm hk hb .nil pass0 ha.pe hdb he hpl)
end
theorem ok_of {P : Program} {w : World} {K : Frag} {mg : Str → Option Value} {base : Heap} {xn qual : Str} {st : Stmt} {f : Addr} {fd : FuncData} {N ps : List Str} {k : Nat} {sd : SpD} (F : Fun K xn qual st f fd) (S : FnScope N ps (defScope st))
    (len : ∀ ds Q E, sd.run ds Q E → ds.length = ps.length)
    (hbody : ∀ (cdv : Value) (A : Around) (outer : List Env) (s : Shared) (H : Hp) (E : XK) (m : M), Room k (A.deeper (envOfC qual (defScope st) s.heap.objs.size f cdv)) →
      ∃ t, PDSs (cxOf CX0 P w K mg base N qual (defScope st) f cdv A outer s H E).nox m (defBody st) t ∧
        ∀ ds Q E, sd.run ds Q E → t { nx := fun _ => Q .non, rt := fun d _ => Q d } (ds.map (fun d => some (false, d)) ++ List.replicate (N.length - ds.length) none)) :
    FnOk P w K mg base CX0 (k + 1) f fd ps (spOf K sd) := by
  refine F.ok S (fun vs H Q E ⟨Fz, st, ds, _, _, _, r, h⟩ => by rw [← r.length]; exact len _ _ _ h) fun cdv A outer s H vs Q E hr h => ?_
  obtain ⟨Fz, tk, ds, hs, ht, h0, r, h⟩ := h
  obtain ⟨t, ht2, hq⟩ := hbody cdv A outer s H E ⟨tk, Fz, H⟩ hr
  refine ⟨_, ht2.ps, ?_⟩
  · have len0 : ds.length = vs.length := r.length
    have e0 : (ds.map (fun d => some (false, d)) ++ List.replicate (N.length - ds.length) (none : SV)) = ((ds.map fun d => some (false, d)) ++ List.replicate (N.length - vs.length) none) := by rw [len0]
    refine ⟨(ds.map fun d => some (false, d)) ++ List.replicate (N.length - ds.length) none, Fz, ⟨Grow.refl hs ht, ?_, fun i r' e => ?_, fun i j d1 d2 b q1 q2 _ _ => ?_, h0⟩, ?_⟩
    · unfold L2.start
      simp [len0]
    · have hi : i < ds.length := by
        by_cases hi : i < ds.length
        · exact hi
        · rw [List.getElem?_append_right (by simpa using hi), List.getElem?_replicate] at e
          split at e <;> cases e
      rw [List.getElem?_append_left (by simpa using hi), List.getElem?_map, List.getElem?_eq_getElem hi] at e
      cases e
      obtain ⟨v, ev, rv⟩ := r.get (List.getElem?_eq_getElem hi)
      refine ⟨v, ?_, rv⟩
      unfold L2.start
      rw [List.getElem?_append_left (by simpa [← len0] using hi), List.getElem?_map, ev]
      rfl
    · exfalso
      by_cases hi : i < ds.length
      · rw [List.getElem?_append_left (by simpa using hi), List.getElem?_map, List.getElem?_eq_getElem hi] at q1
        cases q1
      · rw [List.getElem?_append_right (by simpa using hi), List.getElem?_replicate] at q1
        split at q1 <;> cases q1
    · have mt := ht2.mono { nx := fun _ => ∀ v H' F', Grow ⟨K, tk⟩ Fz H F' H' → Rep ⟨K, tk⟩ F' .non v → Q v H', rt := fun d _ => ∀ v H' F', Grow ⟨K, tk⟩ Fz H F' H' → Rep ⟨K, tk⟩ F' d v → Q v H' }
      refine mt _ _ ⟨fun ρ q σ' H' F' s' S' => q _ H' F' S'.gr rfl, fun d ρ q v σ' H' F' S' r => q v H' F' S'.gr r, fun _ q => q.elim, fun _ q => q.elim⟩ (hq ds _ _ h)
end DL
namespace DL
open PySem L2 PyProof.Rows
def wipeD (ρ : Ro) : List Nat → Ro
  | [] => ρ
  | v :: vs => (wipeD ρ vs).set v none
def OwnedBy (σ : L2.St) (ρ : Ro) (a : Addr) : Prop := ∃ (j : Nat) (d : D), ρ[j]? = some (some (true, d)) ∧ σ[j]? = some (some (.ref a))
open Classical in
noncomputable def hideO (σ : L2.St) (ρ : Ro) (H : Hp) : Hp := fun b => if OwnedBy σ ρ b then none else H b
theorem hideO_not {σ : L2.St} {ρ : Ro} {H : Hp} {b : Addr} (h : ¬ OwnedBy σ ρ b) : hideO σ ρ H b = H b := by unfold hideO; rw [if_neg h]
theorem hideO_own {σ : L2.St} {ρ : Ro} {H : Hp} {b : Addr} (h : OwnedBy σ ρ b) : hideO σ ρ H b = none := by unfold hideO; rw [if_pos h]
theorem hideO_some {σ : L2.St} {ρ : Ro} {H : Hp} {b : Addr} {o : HO} (h : hideO σ ρ H b = some o) : H b = some o ∧ ¬ OwnedBy σ ρ b := by
  by_cases q : OwnedBy σ ρ b
  · rw [hideO_own q] at h; cases h
  · rw [hideO_not q] at h; exact ⟨h, q⟩
section
variable {c : Ct} {F0 H0 F H F' H' : Hp} {σ : L2.St} {ρ : Ro}
theorem Sim.owned (S : Sim c F0 H0 σ H ρ F) {a : Addr} (h : OwnedBy σ ρ a) : F a = none ∧ H0 a = none ∧ ∃ o, H a = some o := by
  obtain ⟨j, d, e1, e2⟩ := h
  obtain ⟨v, ev, a', ea, h1, h2, ow⟩ := S.slot j _ e1
  rw [e2] at ev
  cases ev
  cases ea
  exact ⟨h1, h2, ow.has⟩
theorem Sim.block (S : Sim c F0 H0 σ H ρ F) : Sim c F (hideO σ ρ H) σ H ρ F where
  gr := ⟨fun b o e _ => (hideO_some e).1, Same.refl _, S.gr.fs, fun _ _ e => .inl e, S.gr.tok⟩
  len := S.len
  slot := fun i r e => by
    obtain ⟨v, ev, x⟩ := S.slot i r e
    refine ⟨v, ev, ?_⟩
    obtain ⟨b, d⟩ := r
    cases b with
    | false => exact x
    | true =>
      obtain ⟨a, rfl, h1, h2, ow⟩ := x
      exact ⟨a, rfl, h1, hideO_own ⟨i, d, e, ev⟩, ow⟩
  sep := S.sep
  st0 := fun a n => by
    obtain ⟨_, _, _, _, _, _, _, h, _⟩ := S.gr.tok a n
    refine ⟨_, (hideO_not fun q => ?_).trans h⟩
    exact S.ne_st (S.owned q).2.1 n
theorem Sim.wipe (S : Sim c F0 H0 σ H ρ F) : ∀ vs : List Nat, Sim c F0 H0 (L2.wipe σ vs) H (wipeD ρ vs) F
  | [] => S
  | v :: vs => (S.wipe vs).forget v
theorem wipeD_get {i : Nat} : ∀ {vs : List Nat}, i ∉ vs → (wipeD ρ vs)[i]? = ρ[i]?
  | [], _ => rfl
  | v :: vs, h => by
    unfold wipeD
    rw [List.getElem?_set_ne (fun (e : v = i) => h (e ▸ List.mem_cons_self)), wipeD_get fun q => h (List.mem_cons_of_mem _ q)]
theorem wipeD_some {i : Nat} {r : Bool × D} : ∀ {vs : List Nat}, (wipeD ρ vs)[i]? = some (some r) → ρ[i]? = some (some r) ∧ i ∉ vs
  | [], h => ⟨h, by simp⟩
  | v :: vs, h => by
    unfold wipeD at h
    by_cases hi : v = i
    · subst hi
      by_cases hv : v < (wipeD ρ vs).length
      · rw [List.getElem?_set_self hv] at h; cases h
      · rw [List.getElem?_eq_none (by simpa using hv)] at h; cases h
    · rw [List.getElem?_set_ne hi] at h
      obtain ⟨h1, h2⟩ := wipeD_some h
      exact ⟨h1, by simp only [List.mem_cons, not_or]; exact ⟨fun e => hi e.symm, h2⟩⟩
theorem Sim.back {vs : List Nat} {σ2 : L2.St} {H2 F2 : Hp} {ρ2 : Ro} (S : Sim c F0 H0 σ H ρ F) (S2 : Sim c F (hideO (L2.wipe σ vs) (wipeD ρ vs) H) σ2 H2 ρ2 F2) (eσ : L2.wipe σ2 vs = L2.wipe σ vs) (eρ : wipeD ρ2 vs = wipeD ρ vs) :
    Sim c F0 H0 σ H2 ρ F2 := by
  have Sw := S.wipe vs
  have sub : ∀ a, OwnedBy (L2.wipe σ vs) (wipeD ρ vs) a → H0 a = none := fun a q => (Sw.owned q).2.1
  refine ⟨⟨fun b o e n => ?_, S.gr.f0.trans S2.gr.f0, S2.gr.fs, fun a o e => ?_, S2.gr.tok⟩, S.len, fun i r e => ?_, S.sep, S.st0⟩
  · refine S2.gr.keep b o ((hideO_not fun q => ?_).trans (S.gr.keep b o e n)) n
    rw [sub b q] at e; cases e
  · rcases S2.gr.new a o e with h | h
    · exact S.gr.new a o h
    · refine .inr ?_
      by_cases q : OwnedBy (L2.wipe σ vs) (wipeD ρ vs) a
      · exact sub a q
      · rw [hideO_not q] at h
        exact (S.fresh0 h).2
  · obtain ⟨v, ev, x⟩ := S.slot i r e
    refine ⟨v, ev, ?_⟩
    obtain ⟨b, d⟩ := r
    cases b with
    | false => exact Rep.mono S2.gr.f0 x
    | true =>
      obtain ⟨a, rfl, h1, h2, ow⟩ := x
      by_cases hi : i ∈ vs
      · obtain ⟨o, ho⟩ := ow.has
        have nq : ¬ OwnedBy (L2.wipe σ vs) (wipeD ρ vs) a := fun ⟨j, d', e1, e2⟩ => by
          obtain ⟨e1, nj⟩ := wipeD_some e1
          obtain ⟨e2, _⟩ := L2.wipe_some e2
          exact nj (S.sep i j _ _ a e e1 ev e2 ▸ hi)
        have hh : hideO (L2.wipe σ vs) (wipeD ρ vs) H a = some o := (hideO_not nq).trans ho
        have h3 := S2.gr.keep a o hh (S.ne_st h2)
        refine ⟨a, rfl, ?_, h2, ow.mono S2.gr.f0 (by rw [ho, h3])⟩
        cases q : F2 a with
        | none => rfl
        | some u =>
          rcases S2.gr.new a u q with z | z
          · rw [h1] at z; cases z
          · rw [hh] at z; cases z
      · have e2 : ρ2[i]? = some (some (true, d)) := by
          rw [← wipeD_get (ρ := ρ2) hi, eρ, wipeD_get hi]; exact e
        obtain ⟨v2, ev2, a2, ea2, g1, g2, ow2⟩ := S2.slot i _ e2
        have e3 : σ2[i]? = σ[i]? := by rw [← L2.wipe_out (σ := σ2) hi, eσ, L2.wipe_out hi]
        rw [e3, ev] at ev2
        cases ev2
        cases ea2
        exact ⟨a, rfl, g1, h2, ow2⟩
theorem Sim.side (S : Sim c F0 H0 σ H ρ F) {p : Addr} {o : HO} (h1 : F p = none) (h2 : H0 p = none) (fr : Fresh σ ρ p) : Sim c F0 H0 σ (upd H p o) ρ F := by
  refine ⟨⟨fun b u e n => ?_, S.gr.f0, fun b u e => ?_, S.gr.new, S.gr.tok.upd (S.ne_st h2) _ (Same.refl _) fun _ _ => rfl⟩, S.len, fun i r e => ?_, S.sep, S.st0⟩
  · rw [upd_ne (ne_of_none e h2)]; exact S.gr.keep b u e n
  · rw [upd_ne (ne_of_none e h1)]; exact S.gr.fs b u e
  · obtain ⟨v, ev, x⟩ := S.slot i r e
    refine ⟨v, ev, ?_⟩
    obtain ⟨b, d⟩ := r
    cases b with
    | false => exact x
    | true =>
      obtain ⟨a, rfl, g1, g2, ow⟩ := x
      exact ⟨a, rfl, g1, g2, ow.mono (Same.refl _) (upd_ne fun (z : a = p) => fr i d e (z ▸ ev))⟩
theorem Sim.frzSide (S : Sim c F0 H0 σ H ρ F) {p : Addr} {o : HO} (h1 : F p = none) (h2 : H0 p = none) (hp : H p = some o) (fr : Fresh σ ρ p) : Sim c F0 H0 σ H ρ (upd F p o) := by
  have sF : Same F (upd F p o) := same_upd h1
  refine ⟨⟨S.gr.keep, S.gr.f0.trans sF, fun b u q => ?_, fun b u q => ?_, fun b n => ?_⟩, S.len, fun i r e => ?_, S.sep, S.st0⟩
  · by_cases z : b = p
    · subst z; rw [upd_same] at q; cases q; exact hp
    · rw [upd_ne z] at q; exact S.gr.fs b u q
  · by_cases z : b = p
    · subst z; exact .inr h2
    · rw [upd_ne z] at q; exact S.gr.new b u q
  · obtain ⟨k1, l, ns, i, j, k, m, k2, k3, k4⟩ := S.gr.tok b n
    refine ⟨?_, l, ns, i, j, k, m, k2, sF _ _ k3, k4⟩
    rw [upd_ne (fun (z : b = p) => S.ne_st h2 (z ▸ n))]
    exact k1
  · obtain ⟨v, ev, x⟩ := S.slot i r e
    refine ⟨v, ev, ?_⟩
    obtain ⟨b, d⟩ := r
    cases b with
    | false => exact Rep.mono sF x
    | true =>
      obtain ⟨a, rfl, g1, g2, ow⟩ := x
      refine ⟨a, rfl, ?_, g2, ow.mono sF rfl⟩
      rw [upd_ne (fun (z : a = p) => fr i d e (z ▸ ev))]
      exact g1
end
structure CTg (K : Frag) (vs : List Nat) (g : TG) (dg : DG) : Prop where
  ok : ∀ {c : Ct} {F0 H0 F H : Hp} {σ : L2.St} {ρ : Ro} {d : D} {x : V} {Q : L2.St → Hp → Prop} {P : Ro → Prop}, c.K = K → Sim c F0 H0 σ H ρ F → Rep c F d x → dg d ρ P →
    (∀ σ2 ρ2, P ρ2 → Sim c F0 H0 σ2 H ρ2 F → L2.wipe σ2 vs = L2.wipe σ vs → wipeD ρ2 vs = wipeD ρ vs → Q σ2 H) → g x σ H Q
  mono : ∀ d ρ Q Q', (∀ ρ', Q ρ' → Q' ρ') → dg d ρ Q → dg d ρ Q'
theorem wipe_set {i : Nat} {o : Option V} {σ : L2.St} : ∀ {vs : List Nat}, i ∈ vs → L2.wipe (σ.set i o) vs = L2.wipe σ vs
  | v :: vs, h => by
    unfold L2.wipe
    by_cases hi : i ∈ vs
    · rw [wipe_set hi]
    · have e : i = v := by
        rcases List.mem_cons.mp h with h | h
        · exact h
        · exact absurd h hi
      subst e
      have q : ∀ (vs : List Nat), i ∉ vs → L2.wipe (σ.set i o) vs = (L2.wipe σ vs).set i o := by
        intro vs
        induction vs with
        | nil => intro _; rfl
        | cons w ws ih =>
          intro hn
          unfold L2.wipe
          rw [ih fun z => hn (List.mem_cons_of_mem _ z), List.set_comm _ _ (fun (e : i = w) => hn (e ▸ List.mem_cons_self))]
      rw [q vs hi, List.set_set]
theorem wipeD_set {i : Nat} {o : SV} {ρ : Ro} : ∀ {vs : List Nat}, i ∈ vs → wipeD (ρ.set i o) vs = wipeD ρ vs
  | v :: vs, h => by
    unfold wipeD
    by_cases hi : i ∈ vs
    · rw [wipeD_set hi]
    · have e : i = v := by
        rcases List.mem_cons.mp h with h | h
        · exact h
        · exact absurd h hi
      subst e
      have q : ∀ (vs : List Nat), i ∉ vs → wipeD (ρ.set i o) vs = (wipeD ρ vs).set i o := by
        intro vs
        induction vs with
        | nil => intro _; rfl
        | cons w ws ih =>
          intro hn
          unfold wipeD
          rw [ih fun z => hn (List.mem_cons_of_mem _ z), List.set_comm _ _ (fun (e : i = w) => hn (e ▸ List.mem_cons_self))]
      rw [q vs hi, List.set_set]
theorem ctg_name {K : Frag} {vs : List Nat} {i : Nat} (hi : i ∈ vs) : CTg K vs (gName i) (dgName i) :=
  ⟨fun _ S r q k => k _ _ q (S.set r) (wipe_set hi) (wipeD_set hi), fun d ρ Q Q' i => i _⟩
structure CTgs (K : Frag) (vs : List Nat) (g : TGs) (dg : DGs) : Prop where
  ok : ∀ {c : Ct} {F0 H0 F H : Hp} {σ : L2.St} {ρ : Ro} {d : List D} {x : List V} {Q : L2.St → Hp → Prop} {P : Ro → Prop}, c.K = K → Sim c F0 H0 σ H ρ F → Reps c F d x → dg d ρ P →
    (∀ σ2 ρ2, P ρ2 → Sim c F0 H0 σ2 H ρ2 F → L2.wipe σ2 vs = L2.wipe σ vs → wipeD ρ2 vs = wipeD ρ vs → Q σ2 H) → g x σ H Q
  mono : ∀ d ρ Q Q', (∀ ρ', Q ρ' → Q' ρ') → dg d ρ Q → dg d ρ Q'
theorem ctgs_nil {K : Frag} {vs : List Nat} : CTgs K vs gNil dgNil :=
  ⟨fun _ S r ⟨e, q⟩ k => ⟨by subst e; exact r, k _ _ q S rfl rfl⟩, fun d ρ Q Q' i h => ⟨h.1, i _ h.2⟩⟩
theorem ctgs_cons {K : Frag} {vs : List Nat} {g : TG} {dg : DG} {gs : TGs} {dgs : DGs} (h1 : CTg K vs g dg) (h2 : CTgs K vs gs dgs) : CTgs K vs (gCons g gs) (dgCons dg dgs) := by
  refine ⟨fun {c F0 H0 F H σ ρ d x Q P} hK S r q k => ?_, fun d ρ Q Q' i => ?_⟩
  · cases d with
    | nil => exact q.elim
    | cons d ds =>
      obtain ⟨v, vr, rfl, r1, r2⟩ := r
      exact ⟨v, vr, rfl, h1.ok hK S r1 q fun σ2 ρ2 q2 S2 e1 e2 => h2.ok hK S2 r2 q2 fun σ3 ρ3 q3 S3 e3 e4 => k σ3 ρ3 q3 S3 (e3.trans e1) (e4.trans e2)⟩
  · cases d with
    | nil => exact id
    | cons d ds => exact h1.mono _ _ _ _ fun ρ' => h2.mono _ _ _ _ i
theorem ctg_tup {K : Frag} {vs : List Nat} {gs : TGs} {dgs : DGs} {n : Nat} (h : CTgs K vs gs dgs) : CTg K vs (gTup K n gs) (dgTup n dgs) := by
  refine ⟨fun {c F0 H0 F H σ ρ d x Q P} hK S r q k => ?_, fun d ρ Q Q' i => ?_⟩
  · cases d with
    | tup ds =>
      obtain ⟨a, ws, rfl, h1, h2⟩ := r
      exact ⟨a, ws, rfl, SqT.of (S.gr.fs _ _ h1), by rw [← h2.length]; exact q.1, h.ok hK S h2 q.2 k⟩
    | _ => exact q.elim
  · cases d with
    | tup ds => exact fun q => ⟨q.1, h.mono _ _ _ _ i q.2⟩
    | _ => exact id
def lcTurn (dg : DG) (tt : DT) (te : DE) (vs : List Nat) (ρ1 : Ro) (d : D) (acc : List D) (N : List D → Prop) : Prop :=
  dg d (wipeD ρ1 vs) fun ρ2 => tt ρ2 fun b ρ3 => if b = true then te ρ3 fun y ρ4 => wipeD ρ4 vs = wipeD ρ1 vs ∧ acc.length < 16777216 ∧ N (acc ++ [y]) else wipeD ρ3 vs = wipeD ρ1 vs ∧ N acc
def lcAll (dg : DG) (tt : DT) (te : DE) (vs : List Nat) (Q : D → Ro → Prop) (ds : List D) (ρ1 : Ro) : Prop :=
  ∃ I : Nat → List D → Prop, I 0 [] ∧ (∀ i d acc, ds[i]? = some d → I i acc → lcTurn dg tt te vs ρ1 d acc (I (i + 1))) ∧ ∀ acc, I ds.length acc → Q (.lst acc) ρ1
def dLc (ti : DI) (dg : DG) (tt : DT) (te : DE) (vs : List Nat) : DE := fun ρ Q => ti ρ (lcAll dg tt te vs Q)
def dYes : DT := fun ρ Q => Q true ρ
structure PDTs (X : Cx) (m : M) (ifs : List Expr) (te : DT) : Prop where
  pe : PTs X ifs (lT X m te)
  mono : ∀ ρ Q Q', (∀ d ρ', Q d ρ' → Q' d ρ') → te ρ Q → te ρ Q'
theorem pdts_nil {X : Cx} {m : M} : PDTs X m [] dYes := ⟨⟨fun pins s σ H Q I ⟨ρ, F, S, t⟩ => pts_nil.run pins s σ H Q I (t H F (Same.refl _) S)⟩, fun ρ Q Q' i => i _ _⟩
theorem pdts_one {X : Cx} {m : M} {c : Expr} {t : DT} (h : PDT X m c t) : PDTs X m [c] t := ⟨pts_one h.pe, h.mono⟩
section
variable {X : Cx} {m : M} {e : Expr} {te : DE} {pos : Pos}
theorem lcTurn_mono {dg : DG} {tt : DT} {te : DE} {vs : List Nat} {ρ1 : Ro} {d : D} {acc : List D} {N N' : List D → Prop} {K : Frag} {g : TG} (hg : CTg K vs g dg) (ht : ∀ ρ Q Q', (∀ d ρ', Q d ρ' → Q' d ρ') → tt ρ Q → tt ρ Q') (he : ∀ ρ Q Q', (∀ d ρ', Q d ρ' → Q' d ρ') → te ρ Q → te ρ Q')
    (i : ∀ l, N l → N' l) (h : lcTurn dg tt te vs ρ1 d acc N) : lcTurn dg tt te vs ρ1 d acc N' := by
  refine hg.mono _ _ _ _ (fun ρ2 => ht _ _ _ fun b ρ3 => ?_) h
  cases b with
  | true => exact he _ _ _ fun y ρ4 ⟨h1, h2, h3⟩ => ⟨h1, h2, i _ h3⟩
  | false => exact fun ⟨h1, h2⟩ => ⟨h1, i _ h2⟩
theorem lc_imp {ti : DI} {dg : DG} {g : TG} {tt : DT} {own : List Nat} (hi : ∀ ρ Q Q', (∀ d ρ', Q d ρ' → Q' d ρ') → ti ρ Q → ti ρ Q') (hg : CTg X.K own g dg) (ht : ∀ ρ Q Q', (∀ d ρ', Q d ρ' → Q' d ρ') → tt ρ Q → tt ρ Q') (he : ∀ ρ Q Q', (∀ d ρ', Q d ρ' → Q' d ρ') → te ρ Q → te ρ Q')
    (σ : L2.St) (H : Hp) (Q : VK) (R : D → Ro → Hp → Prop)
    (fin : ∀ {F F1 H' : Hp} {ρ1 : Ro} {acc : List D} {vacc : List V} {L : Addr}, Same F F1 → Sm X m σ H' ρ1 F1 → H' L = some (.lst vacc) → Reps (m.c X) F1 acc vacc → F1 L = none → m.H0 L = none → Fresh σ ρ1 L → R (.lst acc) ρ1 F → Q (.ref L) H')
    (h : ∃ ρ F, Sm X m σ H ρ F ∧ ti ρ (lcAll dg tt te own fun d ρ' => R d ρ' F)) :
    tLc (lI X m ti) g (fun σ H Q => ∃ m' : M, m'.st = m.st ∧ lT X m' tt σ H Q) (fun σ H Q => ∃ m' : M, m'.st = m.st ∧ lE X m' te σ H Q) own σ H Q := by
  obtain ⟨ρ, F, S, h⟩ := h
  refine ⟨ρ, F, S, hi _ _ _ (fun ds ρ1 q H1 F1 J s1 S1 ok => ?_) h⟩
  obtain ⟨I, i0, i1, i2⟩ := q
  intro L hL
  obtain ⟨fl1, fl2⟩ := S1.fresh0 hL
  have frL := fresh_of S1 hL
  refine ⟨fun i n H => n = ds.length - i ∧ i ≤ ds.length ∧ ∃ acc vacc F', Same F1 F' ∧ Sm X m σ H ρ1 F' ∧ H L = some (.lst vacc) ∧ Reps (m.c X) F' acc vacc ∧ F' L = none ∧ I i acc,
    ⟨ds.length, by simp, Nat.zero_le _, [], [], F1, Same.refl _, S1.grow (S1.allocO hL), upd_same, rfl, fl1, i0⟩, ?_⟩
  rintro i n H2 ⟨rfl, hile, acc, vacc, F2, s2, S2, hL2, racc, fL2, w2⟩
  have sH : Same F1 H2 := s2.trans S2.gr.fs
  by_cases hlt : i < ds.length
  · refine .inr ⟨ok.go i H2 sH hlt, fun H' => ∃ acc vacc F', Same F1 F' ∧ Sm X m σ H' ρ1 F' ∧ H' L = some (.lst vacc) ∧ Reps (m.c X) F' acc vacc ∧ F' L = none ∧ I (i + 1) acc, fun H' p => ⟨ds.length - (i + 1), by omega, rfl, hlt, p⟩, fun x H' y => ?_⟩
    obtain ⟨d, ed, yl⟩ := ok.yld i H2 x H' sH hlt y
    -- the heap behind the yield
    obtain ⟨F3, s3, S3, r3, hL3, fL3⟩ : ∃ F3, Same F2 F3 ∧ Sm X m σ H' ρ1 F3 ∧ Rep (m.c X) F3 d x ∧ H' L = some (.lst vacc) ∧ F3 L = none := by
      rcases yl with ⟨rfl, r⟩ | ⟨T, vs, es, hT, rfl, rfl, rfl, r⟩
      · exact ⟨F2, Same.refl _, S2, r.mono s2, hL2, fL2⟩
      · have gg := S2.alloc (o := .tup vs) hT
        have nT : L ≠ T := ne_of_none hL2 hT
        exact ⟨_, gg.f0, S2.grow gg, ⟨T, vs, rfl, upd_same, (r.mono s2).mono gg.f0⟩, (upd_ne nT).trans hL2, (upd_ne nT).trans fL2⟩
    have turn := i1 i d acc ed w2
    have Sw := S3.wipe own
    have Sb := Sw.block
    have nown : ¬ OwnedBy (L2.wipe σ own) (wipeD ρ1 own) L := fun ⟨j, d', e1, e2⟩ => frL j d' (wipeD_some e1).1 (L2.wipe_some e2).1
    have hid : hideO (L2.wipe σ own) (wipeD ρ1 own) H' L = some (.lst vacc) := (hideO_not nown).trans hL3
    have nst : m.st ≠ some L := S3.ne_st fl2
    -- what a block's state says of the list at L
    have keepL : ∀ {σ2 : L2.St} {H4 F4 : Hp} {ρ4 : Ro}, Sim (m.c X) F3 (hideO (L2.wipe σ own) (wipeD ρ1 own) H') σ2 H4 ρ4 F4 → H4 L = some (.lst vacc) ∧ F4 L = none := fun {σ2 H4 F4 ρ4} S4 => by
      refine ⟨S4.gr.keep L _ hid nst, ?_⟩
      cases q : F4 L with
      | none => rfl
      | some u =>
        rcases S4.gr.new L u q with z | z
        · rw [fL3] at z; cases z
        · rw [hid] at z; cases z
    refine hg.ok rfl Sb r3 turn fun σ2 ρ2 q2 S4 e1 e2 => ?_
    have e1' : L2.wipe σ2 own = L2.wipe σ own := by
      have hw : ∀ (vs : List Nat), L2.wipe (L2.wipe σ own) vs = L2.wipe (L2.wipe σ own) vs := fun _ => rfl
      have idem : ∀ (τ : L2.St) (vs : List Nat), L2.wipe (L2.wipe τ vs) vs = L2.wipe τ vs := by
        intro τ vs
        have key : ∀ (ws : List Nat) (τ : L2.St), (∀ i ∈ ws, ∀ x, τ[i]? ≠ some (some x)) → L2.wipe τ ws = τ := by
          intro ws
          induction ws with
          | nil => intro τ _; rfl
          | cons w ws ih =>
            intro τ hn
            unfold L2.wipe
            rw [ih τ fun i hi => hn i (List.mem_cons_of_mem _ hi)]
            apply List.ext_getElem?
            intro j
            by_cases hj : w = j
            · subst hj
              by_cases hl : w < τ.length
              · rw [List.getElem?_set_self hl]
                have := hn w List.mem_cons_self
                rw [List.getElem?_eq_getElem hl] at this ⊢
                cases hq : τ[w] with
                | none => rfl
                | some x => rw [hq] at this; exact absurd rfl (this x)
              · rw [List.getElem?_eq_none (by simpa using hl), List.getElem?_eq_none (by omega)]
            · rw [List.getElem?_set_ne hj]
        exact key vs _ fun i hi x e => (L2.wipe_some e).2 hi
      exact e1.trans (idem σ own)
    have e2' : wipeD ρ2 own = wipeD ρ1 own := by
      have idem : ∀ (τ : Ro) (vs : List Nat), wipeD (wipeD τ vs) vs = wipeD τ vs := by
        intro τ vs
        have key : ∀ (ws : List Nat) (τ : Ro), (∀ i ∈ ws, ∀ x, τ[i]? ≠ some (some x)) → wipeD τ ws = τ := by
          intro ws
          induction ws with
          | nil => intro τ _; rfl
          | cons w ws ih =>
            intro τ hn
            unfold wipeD
            rw [ih τ fun i hi => hn i (List.mem_cons_of_mem _ hi)]
            apply List.ext_getElem?
            intro j
            by_cases hj : w = j
            · subst hj
              by_cases hl : w < τ.length
              · rw [List.getElem?_set_self hl]
                have := hn w List.mem_cons_self
                rw [List.getElem?_eq_getElem hl] at this ⊢
                cases hq : τ[w] with
                | none => rfl
                | some x => rw [hq] at this; exact absurd rfl (this x)
              · rw [List.getElem?_eq_none (by simpa using hl), List.getElem?_eq_none (by omega)]
            · rw [List.getElem?_set_ne hj]
        exact key vs _ fun i hi x e => (wipeD_some e).2 hi
      exact e2.trans (idem ρ1 own)
    refine ⟨e1', ⟨m.st, F3, hideO (L2.wipe σ own) (wipeD ρ1 own) H'⟩, rfl, ρ2, F3, S4, ht _ _ _ (fun b ρ3 q3 H5 F5 s5 S5 => ?_) q2⟩
    cases b with
    | false =>
      rw [if_neg Bool.false_ne_true]
      obtain ⟨e3, n3⟩ := q3
      obtain ⟨k1, k2⟩ := keepL S5
      exact ⟨acc, vacc, F5, s2.trans (s3.trans s5), S3.back S5 e1' e3, k1, (racc.mono s3).mono s5, k2, n3⟩
    | true =>
      rw [if_pos rfl]
      refine ⟨⟨m.st, F3, hideO (L2.wipe σ own) (wipeD ρ1 own) H'⟩, rfl, ρ3, F5, S5, he _ _ _ (fun yd ρ4 q4 v H6 F6 s6 S6 r6 => ?_) q3⟩
      obtain ⟨e4, hlen, n4⟩ := q4
      obtain ⟨k1, k2⟩ := keepL S6
      have racc' : Reps (m.c X) F6 acc vacc := ((racc.mono s3).mono s5).mono s6
      refine ⟨vacc, k1, by rw [← racc'.length, line16]; exact hlen, acc ++ [yd], vacc ++ [v], F6, s2.trans (s3.trans (s5.trans s6)), (S3.back S6 e1' e4).side k2 fl2 frL, upd_same, racc'.app (Reps.one r6), k2, n4⟩
  · have e : i = ds.length := by omega
    subst e
    exact .inl ⟨ok.stop _ H2 sH (Nat.le_refl _), fin (s1.trans s2) S2 hL2 racc fL2 fl2 frL (i2 acc w2)⟩
theorem lc_mono {ti : DI} {dg : DG} {g : TG} {tt : DT} {own : List Nat} (hi : ∀ ρ Q Q', (∀ d ρ', Q d ρ' → Q' d ρ') → ti ρ Q → ti ρ Q') (hg : CTg X.K own g dg) (ht : ∀ ρ Q Q', (∀ d ρ', Q d ρ' → Q' d ρ') → tt ρ Q → tt ρ Q') (he : ∀ ρ Q Q', (∀ d ρ', Q d ρ' → Q' d ρ') → te ρ Q → te ρ Q') : ∀ ρ (Q Q' : D → Ro → Prop), (∀ d ρ', Q d ρ' → Q' d ρ') → dLc ti dg tt te own ρ Q → dLc ti dg tt te own ρ Q' :=
  fun ρ Q Q' i => hi _ _ _ fun ds ρ1 ⟨I, i0, i1, i2⟩ => ⟨I, i0, i1, fun acc w => i _ _ (i2 acc w)⟩
variable {elt tg iter : Expr} {ifs : List Expr} {scope : Scope} {own : List (Str × Nat)} {ti : DI} {dg : DG} {g : TG} {tt : DT}
theorem blk_tt {s : Shared} {H : Hp} {C : Addr} {cl : List (Str × Addr)} {fp : List Addr} (ht : ∀ (s : Shared) (H : Hp) (C : Addr) (cl : List (Str × Addr)) (fp : List Addr) (m' : M), PDTs (X.blk s H scope (compEnvC scope cl C X.env) fp) m' ifs tt) :
    PTs (X.blk s H scope (compEnvC scope cl C X.env) fp) ifs (fun σ H Q => ∃ m' : M, m'.st = m.st ∧ lT X m' tt σ H Q) := ⟨fun pins s2 σ H2 Q I ⟨m', _, q⟩ => (ht s H C cl fp m').pe.run pins s2 σ H2 Q I q⟩
theorem blk_te {s : Shared} {H : Hp} {C : Addr} {cl : List (Str × Addr)} {fp : List Addr} (he : ∀ (s : Shared) (H : Hp) (C : Addr) (cl : List (Str × Addr)) (fp : List Addr) (m' : M), PD (X.blk s H scope (compEnvC scope cl C X.env) fp) m' elt te) :
    PE (X.blk s H scope (compEnvC scope cl C X.env) fp) elt (fun σ H Q => ∃ m' : M, m'.st = m.st ∧ lE X m' te σ H Q) := ⟨fun pins s2 σ H2 Q I ⟨m', _, q⟩ => (he s H C cl fp m').pe.run pins s2 σ H2 Q I q⟩
theorem pd_lc (hc : X.calm = true) (hN : X.N.Nodup) (hi : PDI X m tg iter ti) (ok : BlkOk X.N X.env.scope scope own) (hct : CTg X.K (own.map (·.2)) g dg)
    (hg : ∀ (s : Shared) (H : Hp) (C : Addr) (cl : List (Str × Addr)) (fp : List Addr), PG (X.blk s H scope (compEnvC scope cl C X.env) fp) tg g)
    (ht : ∀ (s : Shared) (H : Hp) (C : Addr) (cl : List (Str × Addr)) (fp : List Addr) (m' : M), PDTs (X.blk s H scope (compEnvC scope cl C X.env) fp) m' ifs tt)
    (he : ∀ (s : Shared) (H : Hp) (C : Addr) (cl : List (Str × Addr)) (fp : List Addr) (m' : M), PD (X.blk s H scope (compEnvC scope cl C X.env) fp) m' elt te) (s0 : Shared) (hs : ∀ x, foldedSetIterable iter X.env x = pure x := by intro _; rfl) :
    PD X m (.ListComp elt [⟨tg, iter, ifs, 0⟩] scope pos) (dLc ti dg tt te (own.map (·.2))) := by
  have mt := (ht s0 m.H0 0 [] [] m).mono
  have me := (he s0 m.H0 0 [] [] m).mono
  refine ⟨PE.imp (pe_lc hc hN hi.pi ok hg (fun _ _ _ _ _ => blk_tt (m := m) ht) (fun _ _ _ _ _ => blk_te (m := m) he) hs) fun σ H Q h => ?_, lc_mono hi.mono hct mt me⟩
  refine lc_imp hi.mono hct mt me σ H Q (fun d ρ' F => ∀ v H' F', Same F F' → Sm X m σ H' ρ' F' → Rep (m.c X) F' d v → Q v H') (fun {F F1 H' ρ1 acc vacc L} s1 S1 h1 r1 f1 f2 fr k => ?_) h
  have S2 := S1.frzSide f1 f2 h1 fr
  have sF : Same F1 (upd F1 L (.lst vacc)) := same_upd f1
  exact k _ _ _ (s1.trans sF) S2 ⟨L, vacc, rfl, upd_same, r1.mono sF⟩
theorem pf_lc (hc : X.calm = true) (hN : X.N.Nodup) (hi : PDI X m tg iter ti) (ok : BlkOk X.N X.env.scope scope own) (hct : CTg X.K (own.map (·.2)) g dg)
    (hg : ∀ (s : Shared) (H : Hp) (C : Addr) (cl : List (Str × Addr)) (fp : List Addr), PG (X.blk s H scope (compEnvC scope cl C X.env) fp) tg g)
    (ht : ∀ (s : Shared) (H : Hp) (C : Addr) (cl : List (Str × Addr)) (fp : List Addr) (m' : M), PDTs (X.blk s H scope (compEnvC scope cl C X.env) fp) m' ifs tt)
    (he : ∀ (s : Shared) (H : Hp) (C : Addr) (cl : List (Str × Addr)) (fp : List Addr) (m' : M), PD (X.blk s H scope (compEnvC scope cl C X.env) fp) m' elt te) (s0 : Shared) (hs : ∀ x, foldedSetIterable iter X.env x = pure x := by intro _; rfl) :
    PF X m (.ListComp elt [⟨tg, iter, ifs, 0⟩] scope pos) (dLc ti dg tt te (own.map (·.2))) := by
  have mt := (ht s0 m.H0 0 [] [] m).mono
  have me := (he s0 m.H0 0 [] [] m).mono
  refine ⟨PE.imp (pe_lc hc hN hi.pi ok hg (fun _ _ _ _ _ => blk_tt (m := m) ht) (fun _ _ _ _ _ => blk_te (m := m) he) hs) fun σ H Q h => ?_, lc_mono hi.mono hct mt me⟩
  refine lc_imp hi.mono hct mt me σ H Q (fun d ρ' F => ∀ p H' F', Same F F' → Sm X m σ H' ρ' F' → F' p = none → m.H0 p = none → OwnAt (m.c X) F' H' p d → Fresh σ ρ' p → Q (.ref p) H') (fun {F F1 H' ρ1 acc vacc L} s1 S1 h1 r1 f1 f2 fr k => ?_) h
  exact k L H' F1 s1 S1 f1 f2 ⟨vacc, h1, r1⟩ fr
theorem pds_setLc {i : Nat} {y : Str} {py spos : Pos} (hc : X.calm = true) (hN : X.N.Nodup) (hy : X.N[i]? = some y) (hyl : X.env.scope.names.lookup y = some .local) (hsw : swapsWith (.ListComp elt [⟨tg, iter, ifs, 0⟩] scope pos) (some (.Name y py)) spos.line X.env = pure true)
    (hi : PDI X m tg iter ti) (ok : BlkOk X.N X.env.scope scope own) (hct : CTg X.K (own.map (·.2)) g dg)
    (hg : ∀ (s : Shared) (H : Hp) (C : Addr) (cl : List (Str × Addr)) (fp : List Addr), PG (X.blk s H scope (compEnvC scope cl C X.env) fp) tg g)
    (ht : ∀ (s : Shared) (H : Hp) (C : Addr) (cl : List (Str × Addr)) (fp : List Addr) (m' : M), PDTs (X.blk s H scope (compEnvC scope cl C X.env) fp) m' ifs tt)
    (he : ∀ (s : Shared) (H : Hp) (C : Addr) (cl : List (Str × Addr)) (fp : List Addr) (m' : M), PD (X.blk s H scope (compEnvC scope cl C X.env) fp) m' elt te) (s0 : Shared) (hs : ∀ x, foldedSetIterable iter X.env x = pure x := by intro _; rfl) :
    PDS X m (.Assign [.Name y py] (.ListComp elt [⟨tg, iter, ifs, 0⟩] scope pos) spos) (dAsg (dLc ti dg tt te (own.map (·.2))) (dgOwn i)) := by
  have mt := (ht s0 m.H0 0 [] [] m).mono
  have me := (he s0 m.H0 0 [] [] m).mono
  refine ⟨PS.imp (ps_setLc hc hN hy hyl hsw hi.pi ok hg (fun _ _ _ _ _ => blk_tt (m := m) ht) (fun _ _ _ _ _ => blk_te (m := m) he) hs) fun D σ H h => ?_, fun E E' ρ l h => lc_mono hi.mono hct mt me _ _ _ (fun d ρ' => l.nx _) h⟩
  refine lc_imp hi.mono hct mt me σ H _ (fun d ρ' F => (lEn X m D F).nx (ρ'.set i (some (true, d)))) (fun {F F1 H' ρ1 acc vacc L} s1 S1 h1 r1 f1 f2 fr k => ?_) h
  exact k _ H' F1 s1 (S1.setP f1 f2 ⟨vacc, h1, r1⟩ fr)
end
end DL
namespace DL
open PySem L2 PyProof.Rows
structure Df (K : Frag) (mg : Str → Option Value) (x : Str) (st : Stmt) (ps : List Str) : Prop where
  ex : ∃ fd, FunD K x x (defArgs st) (defBody st) (defScope st) [] [] (He.ga K x) fd ∧ Binds K fd ps []
  gl : mg x = some (.ref (He.ga K x))
def Ok (P : Program) (w : World) (K : Frag) (mg : Str → Option Value) (base : Heap) (x : Str) (k : Nat) (ps : List Str) (sd : SpD) : Prop :=
  ∃ fd, FnOk P w K mg base CX0 k (He.ga K x) fd ps (spOf K sd) ∧ Binds K fd ps [] ∧ mg x = some (.ref (He.ga K x)) ∧ PySem.W.keepIn K (.ref (He.ga K x)) = true
theorem body_of {P : Program} {w : World} {K : Frag} {mg : Str → Option Value} {base : Heap} {qual : Str} {body : List Stmt} {sc : Scope} {f : Addr} {N : List Str} {sd : SpD} {cdv : Value} {A : Around} {outer : List Env} {s : Shared} {H : Hp} {vs : List V} {Q : VK} {E : XK}
    (h : spOf K sd vs H Q E)
    (hbody : ∀ (m : M), ∃ t, PDSs (cxOf CX0 P w K mg base N qual sc f cdv A outer s H E).nox m body t ∧
        ∀ ds Q E, sd.run ds Q E → t { nx := fun _ => Q .non, rt := fun d _ => Q d } (ds.map (fun d => some (false, d)) ++ List.replicate (N.length - ds.length) none)) :
    ∃ t, PSs (cxOf CX0 P w K mg base N qual sc f cdv A outer s H E).nox body t ∧ t { nx := fun _ H' => Q .non H', rt := Q } (L2.start N vs) H := by
  obtain ⟨Fz, tk, ds, hs, ht, h0, r, h⟩ := h
  obtain ⟨t, ht2, hq⟩ := hbody ⟨tk, Fz, H⟩
  refine ⟨_, ht2.ps, ?_⟩
  have len0 : ds.length = vs.length := r.length
  refine ⟨(ds.map fun d => some (false, d)) ++ List.replicate (N.length - ds.length) none, Fz, ⟨Grow.refl hs ht, ?_, fun i r' e => ?_, fun i j d1 d2 b q1 q2 _ _ => ?_, h0⟩, ?_⟩
  · unfold L2.start
    simp [len0]
  · have hi : i < ds.length := by
      by_cases hi : i < ds.length
      · exact hi
      · rw [List.getElem?_append_right (by simpa using hi), List.getElem?_replicate] at e
        split at e <;> cases e
    rw [List.getElem?_append_left (by simpa using hi), List.getElem?_map, List.getElem?_eq_getElem hi] at e
    cases e
    obtain ⟨v, ev, rv⟩ := r.get (List.getElem?_eq_getElem hi)
    refine ⟨v, ?_, rv⟩
    unfold L2.start
    rw [List.getElem?_append_left (by simpa [← len0] using hi), List.getElem?_map, ev]
    rfl
  · exfalso
    by_cases hi : i < ds.length
    · rw [List.getElem?_append_left (by simpa using hi), List.getElem?_map, List.getElem?_eq_getElem hi] at q1
      cases q1
    · rw [List.getElem?_append_right (by simpa using hi), List.getElem?_replicate] at q1
      split at q1 <;> cases q1
  · have mt := ht2.mono { nx := fun _ => ∀ v H' F', Grow ⟨K, tk⟩ Fz H F' H' → Rep ⟨K, tk⟩ F' .non v → Q v H', rt := fun d _ => ∀ v H' F', Grow ⟨K, tk⟩ Fz H F' H' → Rep ⟨K, tk⟩ F' d v → Q v H' }
    exact mt _ _ ⟨fun ρ q σ' H' F' s' S' => q _ H' F' S'.gr rfl, fun d ρ q v σ' H' F' S' r => q v H' F' S'.gr r, fun _ q => q.elim, fun _ q => q.elim⟩ (hq ds _ _ h)
theorem ok_mk {P : Program} {w : World} {K : Frag} {mg : Str → Option Value} {base : Heap} {x : Str} {st : Stmt} {N ps : List Str} {k : Nat} {sd : SpD} (F : Df K mg x st ps) (S : FnScope N ps (defScope st))
    (len : ∀ ds Q E, sd.run ds Q E → ds.length = ps.length)
    (hbody : ∀ (cdv : Value) (A : Around) (outer : List Env) (s : Shared) (H : Hp) (E : XK) (m : M), Room k (A.deeper (envOfC x (defScope st) s.heap.objs.size (He.ga K x) cdv)) →
      ∃ t, PDSs (cxOf CX0 P w K mg base N x (defScope st) (He.ga K x) cdv A outer s H E).nox m (defBody st) t ∧
        ∀ ds Q E, sd.run ds Q E → t { nx := fun _ => Q .non, rt := fun d _ => Q d } (ds.map (fun d => some (false, d)) ++ List.replicate (N.length - ds.length) none)) : Ok P w K mg base x (k + 1) ps sd := by
  obtain ⟨fd, FD, hb⟩ := F.ex
  refine ⟨fd, FD.ok S (fun vs H Q E ⟨Fz, st, ds, _, _, _, r, h⟩ => by rw [← r.length]; exact len _ _ _ h) (fun cdv A outer s H vs Q E hr h => ?_), hb, F.gl, FD.kp⟩
  obtain ⟨t, h1, h2⟩ := body_of h fun m => hbody cdv A outer s H E m hr
  exact ⟨t, h1.nox, h2⟩
section
variable {X : Cx} {m : M} {e : Expr} {es : List Expr} {te : DE} {pos p : Pos} {x : Str} {k j : Nat} {ps : List Str} {sd : SpD} {ua : DA}
theorem pd_fn (F : Ok X.prog X.w X.K X.mg X.base x j ps sd) (hr : Room k X.A) (hk : j ≤ k) (ha : PDA X m (e :: es) ua) (hg : Gl X x := by rfl) (hdb : (x == ("__debug__" : Str)) = false := by decide)
    (he : starEach (e :: es) X.env = (false, eval e X.env) :: starEach es X.env := by rfl) (hpl : (backTo pos (starEach es X.env)).any (·.1) = false := by rfl) :
    PD X m (.Call (.Name x p) (e :: es) [] pos) (dCall sd XP0 ua) := by
  have G := F.choose_spec
  exact pd_call G.1 (hr.mono hk) G.2.2.1 G.2.2.2 G.2.1 ha hg hdb he hpl
end
section
variable {E : DEn} {ρ ρ' : Ro} {t u : DS} {te ta tb : DE} {tt ut : DT} {ua : DA} {g : DG} {gs : DGs} {Q : D → Ro → Prop} {Qb : Bool → Ro → Prop} {Qs : List D → Ro → Prop} {d e : D} {i : Nat} {N : Ro → Prop} {P : D → Prop}
theorem dstart (e : ρ' = ρ) (h : t E ρ) : t E ρ' := e ▸ h
theorem s_seq (h : t { E with nx := u E } ρ) : dSeq t u E ρ := h
theorem s_seqR (I : Ro → Prop) (h2 : ∀ ρ, I ρ → u E ρ) (h1 : ∀ R : Ro → Prop, (∀ ρ, I ρ → R ρ) → t { E with nx := R } ρ) : dSeq t u E ρ := h1 (u E) h2
theorem s_next (h : E.nx ρ) : dNext E ρ := h
theorem s_asg (h : te ρ fun d ρ' => g d ρ' E.nx) : dAsg te g E ρ := h
theorem s_gname (h : N (ρ.set i (some (false, d)))) : dgName i d ρ N := h
theorem s_gown (h : N (ρ.set i (some (true, d)))) : dgOwn i d ρ N := h
theorem s_ret (h : te ρ fun d ρ' => E.rt d ρ') : dRet te E ρ := h
theorem s_retN (h : E.rt .non ρ) : dRetN E ρ := h
theorem s_drop (h : te ρ fun _ ρ' => E.nx ρ') : dDrop te E ρ := h
theorem s_ifs (h : tt ρ fun k ρ' => if k = true then t E ρ' else u E ρ') : dIfS tt t u E ρ := h
theorem s_var (e : ρ[i]? = some (some (false, d))) (h : Q d ρ) : dVar i ρ Q := by unfold dVar; rw [e]; exact h
theorem s_varO (e : ρ[i]? = some (some (true, d))) (h : Q d (ρ.set i (some (false, d)))) (k : frzOk d = true := by rfl) : dVar i ρ Q := by unfold dVar; rw [e]; exact ⟨k, h⟩
theorem s_peek {b : Bool} (e : ρ[i]? = some (some (b, d))) (h : Q d ρ) : dPeek i ρ Q := by unfold dPeek; rw [e]; exact h
theorem s_c (h : Q d ρ) : dC d ρ Q := h
theorem s_op2 {f : F2} (h : ta ρ fun d ρ1 => tb ρ1 fun e ρ2 => f d e fun z => Q z ρ2) : dOp2 f ta tb ρ Q := h
theorem s_op1 {f : F1} (h : ta ρ fun d ρ1 => f d fun z => Q z ρ1) : dOp1 f ta ρ Q := h
theorem s_nil (h : Qs [] ρ) : dNil ρ Qs := h
theorem s_cons {tr : DA} (h : ta ρ fun d ρ1 => tr ρ1 fun ds ρ2 => Qs (d :: ds) ρ2) : dCons ta tr ρ Qs := h
theorem s_call {sd : SpD} {X : XP} (h : ua ρ fun ds ρ' => sd.run ds (fun d => Q d ρ') X) : dCall sd X ua ρ Q := h
theorem s_test (h : te ρ fun d ρ' => match d with
  | .bl b => Qb b ρ'
  | _ => False) : dTest te ρ Qb := h
theorem s_tru {t : DE} (h : t ρ fun d ρ' => lenOkD d ∧ match truD d with
  | some b => Qb b ρ'
  | none => False) : dTru t ρ Qb := h
theorem s_and (h : tt ρ fun b ρ' => if b = true then ut ρ' Qb else Qb false ρ') : dAnd tt ut ρ Qb := h
theorem s_or (h : tt ρ fun b ρ' => if b = true then Qb true ρ' else ut ρ' Qb) : dOr tt ut ρ Qb := h
theorem s_not (h : tt ρ fun b ρ' => Qb (!b) ρ') : dNot tt ρ Qb := h
theorem s_andV (h : ta ρ fun d ρ' => match d with
  | .bl b => if b = true then tb ρ' Q else Q (.bl false) ρ'
  | _ => False) : dAndV ta tb ρ Q := h
theorem s_orV (h : ta ρ fun d ρ' => match d with
  | .bl b => if b = true then Q (.bl true) ρ' else tb ρ' Q
  | _ => False) : dOrV ta tb ρ Q := h
theorem s_notV (h : ta ρ fun d ρ' => match d with
  | .bl b => Q (.bl (!b)) ρ'
  | _ => False) : dNotV ta ρ Q := h
theorem s_if (h : tt ρ fun b ρ' => if b = true then ta ρ' Q else tb ρ' Q) : dIf tt ta tb ρ Q := h
theorem s_lst (h : ua ρ fun ds ρ' => ds.length ≤ 16777216 ∧ Q (.lst ds) ρ') : dLst ua ρ Q := h
theorem s_tup (h : ua ρ fun ds ρ' => ds.length ≤ 16777216 ∧ Q (.tup ds) ρ') : dTup ua ρ Q := h
theorem s_addI {a b : Int} (h : P (.int (a + b))) : fAdd (.int a) (.int b) P := h
theorem s_addS {a b : List Nat} (h : a.length + b.length ≤ 16777216 ∧ P (.str (a ++ b))) : fAdd (.str a) (.str b) P := h
theorem s_addL {a b : List D} (h : a.length + b.length ≤ 16777216 ∧ P (.lst (a ++ b))) : fAdd (.lst a) (.lst b) P := h
theorem s_addT {a b : List D} (h : a.length + b.length ≤ 16777216 ∧ P (.tup (a ++ b))) : fAdd (.tup a) (.tup b) P := h
theorem s_I0 {f : Int → Int → D} {a b : Int} (h : P (f a b)) : fI0 f (.int a) (.int b) P := h
theorem s_II {C : Int → Int → Prop} {f : Int → Int → D} {a b : Int} (h : C a b ∧ P (f a b)) : fII C f (.int a) (.int b) P := h
theorem s_cmpI {p : Int → Int → Bool} {q : List Nat → List Nat → Bool} {a b : Int} (h : P (.bl (p a b))) : fCmp p q (.int a) (.int b) P := h
theorem s_cmpS {p : Int → Int → Bool} {q : List Nat → List Nat → Bool} {a b : List Nat} (h : P (.bl (q a b))) : fCmp p q (.str a) (.str b) P := h
theorem s_eqI {a b : Int} (h : P (.bl (decide (a = b)))) : fEqG false (.int a) (.int b) P := h
theorem s_neI {a b : Int} (h : P (.bl (!decide (a = b)))) : fEqG true (.int a) (.int b) P := h
theorem s_eqB {a b : Bool} (h : P (.bl (decide (a = b)))) : fEqG false (.bl a) (.bl b) P := h
theorem s_neB {a b : Bool} (h : P (.bl (!decide (a = b)))) : fEqG true (.bl a) (.bl b) P := h
theorem s_eqS {a b : List Nat} (h : P (.bl (decide (a = b)))) : fEqG false (.str a) (.str b) P := h
theorem s_neS {a b : List Nat} (h : P (.bl (!decide (a = b)))) : fEqG true (.str a) (.str b) P := h
theorem s_isNon (h : P (.bl true)) : fIs false .non .non P := ⟨(fun _ z => nomatch z), ⟨rfl, fun _ => h, fun z => absurd rfl z⟩⟩
theorem s_isnotNon (h : P (.bl false)) : fIs true .non .non P := ⟨(fun _ z => nomatch z), ⟨rfl, fun _ => h, fun z => absurd rfl z⟩⟩
def someD : D → Bool
  | .non => false | .raw _ => false | _ => true
theorem s_isSome (k : someD d = true) (h : P (.bl false)) : fIs false d .non P := by
  exact ⟨(fun _ z => by subst z; cases k), ⟨rfl, (fun z => by subst z; cases k), fun _ => h⟩⟩
theorem s_isnotSome (k : someD d = true) (h : P (.bl true)) : fIs true d .non P := by
  exact ⟨(fun _ z => by subst z; cases k), ⟨rfl, (fun z => by subst z; cases k), fun _ => h⟩⟩
theorem s_lenL {a : List D} (h : P (.int a.length)) : fLen (.lst a) P := h
theorem s_lenT {a : List D} (h : P (.int a.length)) : fLen (.tup a) P := h
theorem s_lenS {a : List Nat} (h : a.length ≤ 16777216 ∧ P (.int a.length)) : fLen (.str a) P := h
theorem s_lenD {ks vs : List D} (h : P (.int ks.length)) : fLen (.dct 0 ks vs) P := h
theorem s_intI {a : Int} (h : P (.int a)) : fInt (.int a) P := h
theorem s_intB {a : Bool} (h : P (.int (if a then 1 else 0))) : fInt (.bl a) P := h
theorem s_listL {a : List D} (h : P (.lst a)) : fListOf (.lst a) P := h
theorem s_listT {a : List D} (h : P (.lst a)) : fListOf (.tup a) P := h
theorem s_tupL {a : List D} (h : P (.tup a)) : fTupOf (.lst a) P := h
theorem s_tupT {a : List D} (h : P (.tup a)) : fTupOf (.tup a) P := h
theorem s_isi {T : String} {b : Bool} (k : isB T d = some b) (h : P (.bl b)) : fIsi T d P := ⟨b, k, h⟩
theorem s_ixL {a : List D} {k : Int} {z : D} (e : atI a k = some z) (h : P z) : fIx (.lst a) (.int k) P := ⟨z, e, h⟩
theorem s_ixT {a : List D} {k : Int} {z : D} (e : atI a k = some z) (h : P z) : fIx (.tup a) (.int k) P := ⟨z, e, h⟩
theorem s_ixS {a : List Nat} {k : Int} {z : Nat} (l : a.length ≤ 16777216) (e : atI a k = some z) (h : P (.str [z])) : fIx (.str a) (.int k) P := ⟨l, z, e, h⟩
theorem s_ixD {kd : Nat} {ks vs : List D} {z : D} (l : keyOk kd d = true) (e : lookD ks vs d = some z) (h : P z) : fIx (.dct kd ks vs) d P := ⟨l, z, e, h⟩
theorem s_ixV {f : F2} (e0 : ∃ r, ρ[i]? = some (some r)) (h : tb ρ (ixvN f i Q)) : dIxV f i tb ρ Q := ⟨e0, h⟩
theorem s_ixV2 {f : F2} {b : Bool} (e0 : ρ[i]? = some (some (b, d))) (h : f d e fun z => Q z ρ) : ixvN f i Q e ρ := by unfold ixvN; rw [e0]; exact h
theorem s_ixK {f : F2} {b : Bool} (e0 : ρ[i]? = some (some (b, d))) (h : f d e fun z => Q z ρ) : dIxV f i (dC e) ρ Q := ⟨⟨_, e0⟩, s_ixV2 (b := b) e0 h⟩
theorem s_ixJ {f : F2} {b b' : Bool} {j : Nat} (e1 : ρ[j]? = some (some (false, e))) (e0 : ρ[i]? = some (some (b, d))) (h : f d e fun z => Q z ρ) : dIxV f i (dVar j) ρ Q := ⟨⟨_, e0⟩, s_var e1 (s_ixV2 (b := b) e0 h)⟩
theorem s_ixP {a : List D} {q : Addr} {k : Int} {z : D} (e : atI a k = some z) (h : P z) : fIx (.pin q (.lst a)) (.int k) P := ⟨z, e, h⟩
theorem s_lenP {a : List D} {q : Addr} (h : P (.int a.length)) : fLen (.pin q (.lst a)) P := h
theorem s_set0 {tk : DE} (h : te ρ fun d ρ1 => (∃ r, ρ1[i]? = some (some r)) ∧ tk ρ1 (setIxN E i d)) : dSetIx i tk te E ρ := h
theorem s_setP {q : Addr} {ds : List D} {k : Int} {j : Nat} (e1 : ρ[i]? = some (some (true, .pin q (.lst ds)))) (ej : ixN ds.length k = some j) (h : E.nx (ρ.set i (some (true, .pin q (.lst (ds.set j d)))))) : (∃ r, ρ[i]? = some (some r)) ∧ dC (.int k) ρ (setIxN E i d) :=
  ⟨⟨_, e1⟩, by unfold dC setIxN; rw [e1]; exact ⟨j, ej, h⟩⟩
theorem s_setL {ds : List D} {k : Int} {j : Nat} (e1 : ρ[i]? = some (some (true, .lst ds))) (ej : ixN ds.length k = some j) (h : E.nx (ρ.set i (some (true, .lst (ds.set j d))))) : setIxN E i d (.int k) ρ := by
  unfold setIxN; rw [e1]; exact ⟨j, ej, h⟩
theorem s_ite {b : Bool} {A B : Prop} (h1 : b = true → A) (h2 : b = false → B) : if b = true then A else B := by
  cases b
  · rw [if_neg Bool.false_ne_true]; exact h2 rfl
  · rw [if_pos rfl]; exact h1 rfl
theorem s_slice {tl th : DO} (h : te ρ fun d ρ1 => tl ρ1 fun lo ρ2 => th ρ2 fun hi ρ3 => fSl d lo hi fun z => Q z ρ3) : dSl te tl th ρ Q := h
theorem s_nopart {Qo : Option Int → Ro → Prop} (h : Qo none ρ) : dNoPart ρ Qo := h
theorem s_part {Qo : Option Int → Ro → Prop} (h : te ρ fun d ρ' => match d with
  | .int i => Qo (some i) ρ'
  | _ => False) : dPart te ρ Qo := h
theorem s_slL {a : List D} {lo hi : Option Int} (h : P (.lst (cutG a lo hi))) : fSl (.lst a) lo hi P := h
theorem s_slT {a : List D} {lo hi : Option Int} (h : P (.tup (cutG a lo hi))) : fSl (.tup a) lo hi P := h
theorem s_slS {a : List Nat} {lo hi : Option Int} (h : a.length ≤ 16777216 ∧ P (.str (cutG a lo hi))) : fSl (.str a) lo hi P := h
theorem s_inL {neg : Bool} {a : List D} (k1 : flatD d = true) (k2 : a.all flatD = true) (h : P (.bl (if neg then !inF d a else inF d a))) : fInG neg d (.lst a) P := ⟨k1, k2, h⟩
theorem s_inT {neg : Bool} {a : List D} (k1 : flatD d = true) (k2 : a.all flatD = true) (h : P (.bl (if neg then !inF d a else inF d a))) : fInG neg d (.tup a) P := ⟨k1, k2, h⟩
theorem s_inC {neg : Bool} {c : Nat} {a : List Nat} (h : P (.bl (if neg then !decide (c ∈ a) else decide (c ∈ a)))) : fInG neg (.str [c]) (.str a) P := h
theorem s_inD {neg : Bool} {kd : Nat} {ks vs : List D} (k1 : keyOk kd d = true) (h : P (.bl (if neg then !(lookD ks vs d).isSome else (lookD ks vs d).isSome))) : fInG neg d (.dct kd ks vs) P := ⟨k1, h⟩
theorem s_append (e0 : ∃ ds, ρ[i]? = some (some (true, .lst ds))) (h : te ρ (appN E i)) : dAppend i te E ρ := ⟨e0, h⟩
theorem s_appN {ds : List D} (e0 : ρ[i]? = some (some (true, .lst ds))) (h : ds.length < 16777216 ∧ E.nx (ρ.set i (some (true, .lst (ds ++ [d]))))) : appN E i d ρ := by unfold appN; rw [e0]; exact h
theorem s_put {tk : DE} (h : te ρ fun d ρ1 => (∃ r, ρ1[i]? = some (some r)) ∧ tk ρ1 (putNx E i d)) : dPut i tk te E ρ := h
theorem s_putN {kd : Nat} {ks vs : List D} (e1 : ρ[i]? = some (some (true, .dct kd ks vs))) (k1 : keyOk kd e = true) (h : ks.length < 16777216 ∧ E.nx (ρ.set i (some (true, .dct kd (putD ks vs e d).1 (putD ks vs e d).2)))) : putNx E i d e ρ := ⟨kd, ks, vs, e1, k1, h⟩
theorem s_for {ti : DI} (h : ti ρ fun ds ρ1 => ∃ I : Nat → Ro → Prop, I 0 ρ1 ∧ forB t g E ds I) : dFor ti g t E ρ := h
theorem s_iany {R : List D → Ro → Prop} (h : te ρ fun d ρ' => ∃ ds, itemsD d = some ds ∧ R ds ρ') : diAny te ρ R := h
theorem s_irng1 {R : List D → Ro → Prop} (h : ua ρ (rng1 R)) : diRange1 ua ρ R := h
theorem s_irng2 {R : List D → Ro → Prop} (h : ua ρ (rng2 R)) : diRange2 ua ρ R := h
theorem s_rng1 {R : List D → Ro → Prop} {n : Int} (b : -(2 ^ 62) ≤ n ∧ n < 2 ^ 62) (h : R (rangeD 0 n.toNat) ρ) : rng1 R [.int n] ρ := ⟨n, rfl, b, h⟩
theorem s_rng2 {R : List D → Ro → Prop} {a n : Int} (b : -(2 ^ 62) ≤ a ∧ a < 2 ^ 62 ∧ -(2 ^ 62) ≤ n ∧ n < 2 ^ 62) (h : R (rangeD a (n - a).toNat) ρ) : rng2 R [.int a, .int n] ρ := ⟨a, n, rfl, b, h⟩
theorem s_bl {b : Bool} (h : Qb b ρ) : (match (D.bl b) with
  | .bl b => Qb b ρ
  | _ => False) := h
theorem s_iteT {A B : Prop} (h : A) : if true = true then A else B := by rw [if_pos rfl]; exact h
theorem s_iteF {A B : Prop} (h : B) : if false = true then A else B := by rw [if_neg Bool.false_ne_true]; exact h
theorem s_meth {T : String} {f : FM} {to : DE} (h : to ρ fun d ρ1 => isT T d ∧ ua ρ1 fun ds ρ2 => f d ds fun z => Q z ρ2) : dMeth T f to ua ρ Q := h
theorem s_chain {f h : F2} {tc : DE} (k : ta ρ fun d ρ1 => tb ρ1 fun e ρ2 => f d e fun z => match z with
  | .bl k => if k = true then tc ρ2 fun c ρ3 => h e c fun w => Q w ρ3 else Q (.bl false) ρ2
  | _ => False) : dChain f h ta tb tc ρ Q := k
end
end DL
namespace DL
open PySem PySem.Spec L2 PyProof.Rows
section
variable {P : Program} {w : World} {A : Around} {E : Value → Shared → Prop} {s : Shared}
def TxSet (P : Program) (w : World) (h : Heap) (a : Addr) (l : List Str) : Prop :=
  ∃ D : Froz.SD, h.get? a = some (Froz.sObj "set" D) ∧ Froz.TxOk P w D l ∧ Ris D.2.2.place.toList ∧ (w.params.followText "set-order" = true ∨ D.2.2.led = true)
theorem TxSet.at {h h' : Heap} {a : Addr} {l : List Str} (T : TxSet P w h a l) (k : ∀ o, h.get? a = some o → h'.get? a = some o) : TxSet P w h' a l := by
  obtain ⟨D, e, r⟩ := T
  exact ⟨D, k _ e, r⟩
theorem tx_tail {ep : Nat} {es : Array (Int × Value)} {t : SetTable} {b : Bool} (r : Ris t.place.toList) (l : w.params.followText "set-order" = true ∨ t.led = true) :
    Ris (Froz.tailTx ep es t b).2.2.place.toList ∧ (w.params.followText "set-order" = true ∨ (Froz.tailTx ep es t b).2.2.led = true) := by
  unfold Froz.tailTx
  split
  · exact ⟨relayAll_ris _ _ _, l.imp id fun z => (relayAll_led _ _ _).trans z⟩
  · exact ⟨r, l⟩
theorem tx_add {D : Froz.SD} {h : Int} {v : Value} (r : Ris D.2.2.place.toList) (l : w.params.followText "set-order" = true ∨ D.2.2.led = true) :
    Ris (Froz.addTx h v D).2.2.place.toList ∧ (w.params.followText "set-order" = true ∨ (Froz.addTx h v D).2.2.led = true) := by
  have r1 := layNew_ris D.2.2 D.1 h v r
  have l1 := layNew_led D.2.2 D.1 h v
  unfold Froz.addTx
  refine tx_tail ?_ ?_
  · split
    · exact r1
    · exact r1
  · refine l.imp id fun z => ?_
    split
    · exact l1.trans z
    · exact l1.trans z
theorem tx_old {a : Addr} {D : Froz.SD} {l : List Str} {k : Str} {u : PySem.Tok} {Q : Bool → Shared → Prop} (ho : s.heap.get? a = some (Froz.sObj "set" D)) (F : Froz.TxOk P w D l) (hk : k ∈ l) (hb : l.length < scanBound)
    (h : Q false s) : wpAny (model P w) A (setAddHashed a (.str k u) (hashStr w k)) Q E s := by
  obtain ⟨es, ep, t⟩ := D
  have d0 : (Froz.sObj "set" (es, ep, t)).data = .set es ep t := rfl
  have b0 : es.size < scanBound := by
    have z : es.size = l.length := F.sz
    omega
  have k0 : (strKind P w).is k (.str k u) = true := Froz.is_str k u
  have e0 : ElemsOf (strKind P w) es.toList := F.el
  have f0 : t.fits es.size = true := F.fit
  unfold setAddHashed setAddHashedIn
  refine wpAny_holding ?_
  refine wpAny_bind (wpAny_setState_of ho d0 f0 ?_)
  dsimp only
  rw [byScan_of rfl b0 e0, if_pos rfl]
  unfold setAddByScan
  refine wpAny_bind (wpAny_bind (wpAny_rule (wpAny_bind ?_)))
  refine wpAny_setScan_of k0 ho d0 f0 e0 ?_
  cases fi : List.findIdx? (fun e => (strKind P w).is k e.2) es.toList with
  | some j => exact wpAny_pure (wpAny_pure h)
  | none =>
    exfalso
    obtain ⟨e, he, q⟩ := (F.mem k).mp hk
    have c := List.findIdx?_eq_none_iff.mp fi e he
    rw [q] at c
    cases c
def seen : List Nat → List Str → List Str
  | [], l => l
  | c :: r, l => seen r (if Froz.sing c ∈ l then l else Froz.sing c :: l)
theorem seen_len : ∀ (cs : List Nat) (l : List Str), (seen cs l).length ≤ l.length + cs.length
  | [], l => Nat.le_refl _
  | c :: r, l => by
    unfold seen
    have q := seen_len r (if Froz.sing c ∈ l then l else Froz.sing c :: l)
    refine Nat.le_trans q ?_
    split
    · simp only [List.length_cons]; omega
    · simp only [List.length_cons]; omega
theorem seen_mem {x : Str} : ∀ {cs : List Nat} {l : List Str}, x ∈ seen cs l ↔ x ∈ l ∨ ∃ c ∈ cs, x = Froz.sing c
  | [], l => by unfold seen; simp
  | c :: r, l => by
    unfold seen
    rw [seen_mem]
    by_cases h : Froz.sing c ∈ l
    · rw [if_pos h]
      constructor
      · rintro (q | ⟨d, q1, q2⟩)
        · exact .inl q
        · exact .inr ⟨d, List.mem_cons_of_mem _ q1, q2⟩
      · rintro (q | ⟨d, q1, q2⟩)
        · exact .inl q
        · rcases List.mem_cons.mp q1 with e | e
          · exact .inl (by rw [q2, e]; exact h)
          · exact .inr ⟨d, e, q2⟩
    · rw [if_neg h]
      simp only [List.mem_cons]
      constructor
      · rintro ((q | q) | ⟨d, q1, q2⟩)
        · exact .inr ⟨c, .inl rfl, q⟩
        · exact .inl q
        · exact .inr ⟨d, .inr q1, q2⟩
      · rintro (q | ⟨d, q1 | q1, q2⟩)
        · exact .inl (.inr q)
        · exact .inl (.inl (by rw [q2, q1]))
        · exact .inr ⟨d, q1, q2⟩
theorem seen_nodup : ∀ {cs : List Nat} {l : List Str}, l.Nodup → (seen cs l).Nodup
  | [], l, h => h
  | c :: r, l, h => by
    unfold seen
    refine seen_nodup ?_
    split
    · exact h
    · rename_i q; exact List.nodup_cons.mpr ⟨q, h⟩
theorem tx_update {I : Addr} {fp wr : List Addr} {G : Array GenState → Array GenState → Prop} {n : Nat} {St : Nat → Shared → Prop} {R : Result → Shared → Prop} {x : Str}
    (W : WalksS P w A.in1 I fp wr G n (SignAt x) St) (a : Addr) (na : a ∉ fp) (hn : n = x.cps.size) : ∀ (cs : List Nat) (i : Nat) (l : List Str) (s : Shared), x.cps.toList.drop i = cs → i ≤ n →
      l.length + cs.length < scanBound → St i s → TxSet P w s.heap a l →
      (∀ s', Moved (a :: wr) G s s' → TxSet P w s'.heap a (seen cs l) → R (.ok (.ret .none)) s') → codeAny (model P w) A (.builtin "set.update.loop" ⟨[.ref a, .ref I], []⟩) R s
  | [], i, l, s, hd, hi, hb, st, T, hR => by
    have e : i = n := by
      have q : n - i = 0 := by simpa [hn] using congrArg List.length hd
      omega
    subst e
    refine codeAny_builtin PyProof.Rows.F.entry_set_update_loop ?_
    rw [Around.under_plainId PyProof.Rows.F.plain_set_update_loop _]
    refine wpAny_bind (m := pyNext (.ref I)) (W.done s _ _ st fun s' mv => ?_)
    refine wpAny_pure (hR s' (mv.mono fun b q => List.mem_cons_of_mem _ q) (T.at fun o e => mv.heap a o (fun q => na (W.sub _ q)) e))
  | c :: r, i, l, s, hd, hi, hb, st, T, hR => by
    have hx : x.cps.toList[i]? = some c := by
      have q := congrArg (fun l => l[0]?) hd
      simpa [List.getElem?_drop] using q
    have lt : i < n := by
      obtain ⟨q, _⟩ := List.getElem?_eq_some_iff.mp hx
      simpa [hn] using q
    have hd2 : x.cps.toList.drop (i + 1) = r := by rw [← List.drop_drop, hd]; rfl
    refine codeAny_builtin PyProof.Rows.F.entry_set_update_loop ?_
    rw [Around.under_plainId PyProof.Rows.F.plain_set_update_loop _]
    refine wpAny_bind (m := pyNext (.ref I)) (W.item i s _ _ lt st fun v s1 hv st1 mv => ?_)
    obtain ⟨c', u, ec, rfl⟩ := hv
    have : c' = c := by
      have q : x.cps.toList[i]? = some c' := by rw [← ec]; simp
      rw [hx] at q; cases q; rfl
    subst this
    have mw : a ∉ wr := fun q => na (W.sub _ q)
    obtain ⟨D, ho, ok, hr, hl⟩ := T.at fun o e => mv.heap a o mw e
    refine wpAny_bind (m := holding [Value.str (Froz.sing c') u] (setAdd a (.str (Froz.sing c') u))) (wpAny_holding ?_)
    unfold setAdd
    refine wpAny_holding (wpAny_bind ((strKind P w).pyHash (k := Froz.sing c') (Froz.is_str _ _) ?_))
    have lb : l.length + (r.length + 1) < scanBound := hb
    have rest : ∀ (h' : Heap) (l' : List Str), l'.length + r.length < scanBound → (∀ b o, b ≠ a → s1.heap.get? b = some o → h'.get? b = some o) → TxSet P w h' a l' → seen r l' = seen (c' :: r) l →
        codeAny (model P w) A (.builtin "set.update.loop" ⟨[.ref a, .ref I], []⟩) R { s1 with heap := h', toks := s1.toks + 1 } := fun h' l' lb' kp T' es => by
      refine tx_update W a na hn r (i + 1) l' _ hd2 lt lb' (W.frame _ s1 _ _ st1 (Nat.le_succ _) fun b q o e => kp b o (fun z => na (z ▸ q)) e) T' fun s'' mv' T'' => ?_
      refine hR s'' (Moved.trans W.gtrans ((mv.mono fun b q => List.mem_cons_of_mem _ q).then_heap (Nat.le_succ _) fun b o q e => kp b o (fun z => q (z ▸ List.mem_cons_self)) e) mv') (es ▸ T'')
    by_cases hm : Froz.sing c' ∈ l
    · refine tx_old (s := { s1 with toks := s1.toks + 1 }) ho ok hm (by omega) (wpAny_pure ⟨plainId_quiet PyProof.Rows.F.plain_set_update_loop _, ?_⟩)
      exact rest s1.heap l (by omega) (fun b o _ e => e) ⟨D, ho, ok, hr, hl⟩ (by conv => rhs; unfold seen; rw [if_pos hm])
    · refine Froz.add_x (s := { s1 with toks := s1.toks + 1 }) ho ok hm (by omega) (wpAny_pure ⟨plainId_quiet PyProof.Rows.F.plain_set_update_loop _, ?_⟩)
      refine rest _ (Froz.sing c' :: l) (by simp only [List.length_cons]; omega) (fun b o q e => (PySem.Heap.get?_update_of_ne _ (Ne.symm q) e)) ⟨_, Froz.get_upd _ ho rfl, Froz.add_ok u ok, tx_add hr hl⟩ (by conv => rhs; unfold seen; rw [if_neg hm])
theorem sub_str_set : isSubtype (.type "str") (.type "set") = pure false := by rw [isSubtype_type]; kernel_rfl
theorem sub_str_froz : isSubtype (.type "str") (.type "frozenset") = pure false := by rw [isSubtype_type]; kernel_rfl
abbrev emptySet (w : World) : Obj := Froz.sObj "set" (#[], 0, .fresh 0 0 (!w.params.followText "set-order"))
theorem tx_fresh {h : Heap} (w : World) : TxSet P w (h.push (emptySet w)) h.objs.size [] := by
  refine ⟨_, Heap.get?_push_size _ rfl, Froz.TxOk.nil rfl, List.Pairwise.nil, ?_⟩
  show _ ∨ (!w.params.followText "set-order") = true
  cases w.params.followText "set-order"
  · exact .inr rfl
  · exact .inl rfl
set_option maxHeartbeats 4000000 in
theorem call_set_text {x : Str} {u : PySem.Tok} {Q : Value → Shared → Prop} (hh : A.handled = none) (hb : x.cps.size < scanBound)
    (h : ∀ (h' : Heap) (tk : Nat), TxSet P w h' s.heap.objs.size (seen x.cps.toList []) → (∀ b o, s.heap.get? b = some o → h'.get? b = some o) → Q (.ref s.heap.objs.size) { s with heap := h', toks := tk }) :
    wpAny (model P w) A (call (.type "set") [.str x u]) Q E s := by
  obtain ⟨c0, t0, hmro⟩ := F.called_set.mro
  have made := F.called_set.made
  have sub := F.called_set.sub
  have ntp := F.called_set.notType
  have ccr := F.called_set.canCreate
  have tcl := F.typeCall_set_1 (.str x u)
  refine wpAny_call (codeAny_of_tree (wpAny_pure ⟨Code.quiet_builtin _ (by decide +kernel), codeAny_builtin F.entry_type_call ?_⟩))
  rw [Around.under_plain (weight_type_call_type "set" [.str x u] []) rfl]
  repeat (any_goals (first | assumption | wp_step))
  refine codeAny_mono (code_set_led1 (.str x u) (E := E) (Q₁ := fun z s₁ => z = .ref s.heap.objs.size ∧ s₁ = { s with heap := s.heap.push (emptySet w) }) ⟨rfl, rfl⟩) fun r s₁ hr => ?_
  rcases r with e | fl
  · exact hr
  cases fl with
  | ret obj =>
    obtain ⟨rfl, rfl⟩ := hr
    have oS : (s.heap.push (emptySet w)).get? s.heap.objs.size = some (emptySet w) := Heap.get?_push_size _ rfl
    have tS : Shared.TypeIs { s with heap := s.heap.push (emptySet w) } (.ref s.heap.objs.size) "set" := ⟨_, oS, rfl⟩
    have lkI := F.called_set.init.lookup
    have bdI := F.called_set.init.bind (.ref s.heap.objs.size)
    repeat (any_goals (first | assumption | wp_step))
    refine codeAny_mono (codeAny_call_builtin (R := wants (fun r s₂ => r = .none ∧ ∃ h' tk, s₂ = { s with heap := h', toks := tk } ∧ TxSet P w h' s.heap.objs.size (seen x.cps.toList []) ∧ ∀ b o, s.heap.get? b = some o → h'.get? b = some o) E)
      F.called_set.init.plain F.entry_set_init (check_set_init_1 tS ?_)) fun r₂ s₂ hr₂ => ?_
    · have n1 := sub_str_set
      have n2 := sub_str_froz
      have n3 : (Value.type "str" == Value.type "dict") = false := by decide
      unfold Builtin.«set.__init__» noKeywords Builtin.Frozenset.updateFrom
      generalize hPI : pyIter = PI
      wp_walk
      subst hPI
      refine wpAny_pyIter_str fun o St hW st0 => wpAny_bind (wpAny_runValue ?_)
      have h3 : A.in1.in1.in1.handled = none := by simp [hh]
      have z1 : (s.heap.push (emptySet w)).objs.size = s.heap.objs.size + 1 := Heap.size_push ..
      have na : s.heap.objs.size ∉ [(s.heap.push (emptySet w)).objs.size] := by
        rw [z1]; simp
      refine tx_update ((hW _ h3).toS) s.heap.objs.size na rfl x.cps.toList 0 [] _ rfl (Nat.zero_le _) (by simpa using hb) st0 ((tx_fresh w).at fun o e => Heap.get?_push_of_some _ e) fun s' mv T => ?_
      obtain ⟨h', g', d', tk', os'⟩ := s'
      obtain rfl : g' = s.gens := mv.gens
      obtain rfl : d' = s.drawn := mv.drawn
      obtain rfl : os' = s.os := mv.os
      refine wpAny_pure (wpAny_pure ⟨rfl, h', tk', rfl, T, fun b u e => ?_⟩)
      have b0 : b < s.heap.objs.size := Heap.lt_size e
      refine mv.heap b u ?_ (Heap.get?_push_of_some _ (Heap.get?_push_of_some _ e))
      rw [z1]
      simp only [List.mem_cons, List.not_mem_nil, or_false, not_or]
      exact ⟨Nat.ne_of_lt b0, Nat.ne_of_lt (Nat.lt_succ_of_lt b0)⟩
    · rcases r₂ with e | fl₂
      · exact hr₂
      cases fl₂ with
      | ret r =>
        obtain ⟨rfl, h', tk, rfl, T, kp⟩ := hr₂
        repeat (any_goals (first | assumption | wp_step))
        exact h _ _ T kp
      | _ => exact hr₂.elim
  | _ => exact hr.elim
theorem perm_of_sub {α : Type} [DecidableEq α] : ∀ {l m : List α}, l.Nodup → (∀ x ∈ l, x ∈ m) → m.length ≤ l.length → l.Perm m
  | [], m, _, _, h => by
    have : m = [] := List.length_eq_zero_iff.mp (by simpa using h)
    rw [this]
  | x :: l, m, nd, sub, h => by
    obtain ⟨nx, nd⟩ := List.nodup_cons.mp nd
    have mx : x ∈ m := sub x List.mem_cons_self
    have p := List.perm_cons_erase mx
    refine (List.Perm.cons x (perm_of_sub nd (fun y hy => ?_) ?_)).trans p.symm
    · refine (List.mem_erase_of_ne (fun (e : y = x) => nx (e ▸ hy))).mpr (sub y (List.mem_cons_of_mem _ hy))
    · have q := p.length_eq
      simp only [List.length_cons] at q h
      omega
theorem tx_vals {D : Froz.SD} {l : List Str} (F : Froz.TxOk P w D l) (nd : l.Nodup) {out : List Value} (p : out.Perm (D.1.toList.map (·.2))) : StrsAre out (out.map strOf) ∧ (out.map strOf).Perm l := by
  have isS : ∀ v ∈ D.1.toList.map (·.2), ∃ k u, v = .str k u := fun v hv => by
    obtain ⟨e, he, rfl⟩ := List.mem_map.mp hv
    obtain ⟨⟨k, hk, _⟩, _⟩ := F.el e he
    have hk : Value.isStrOf k e.2 = true := hk
    cases q : e.2 with
    | str y u => exact ⟨y, u, rfl⟩
    | _ => rw [q] at hk; simp [Value.isStrOf] at hk
  refine ⟨?_, ?_⟩
  · have : ∀ (o : List Value), (∀ v ∈ o, ∃ k u, v = .str k u) → StrsAre o (o.map strOf) := fun o => by
      induction o with
      | nil => exact fun _ => .nil
      | cons v o ih =>
        intro h
        obtain ⟨k, u, rfl⟩ := h v List.mem_cons_self
        exact .cons k u (ih fun v hv => h v (List.mem_cons_of_mem _ hv))
    exact this out fun v hv => isS v (p.mem_iff.mp hv)
  · refine (p.map strOf).trans (perm_of_sub nd (fun k hk => ?_) ?_).symm
    · obtain ⟨e, he, q⟩ := (F.mem k).mp hk
      have hk : Value.isStrOf k e.2 = true := q
      refine List.mem_map.mpr ⟨e.2, List.mem_map.mpr ⟨e, he, rfl⟩, ?_⟩
      cases z : e.2 with
      | str y u =>
        rw [z] at hk
        have hk : (y == k) = true := hk
        exact eq_of_beq hk
      | _ => rw [z] at hk; simp [Value.isStrOf] at hk
    · simp only [List.length_map, Array.length_toList]
      exact Nat.le_of_eq F.sz
theorem sorted_text {a : Addr} {l : List Str} {Q : Value → Shared → Prop} (T : TxSet P w s.heap a l) (nd : l.Nodup) (hh : A.handled = none) (h64 : l.length < 64)
    (hQ : ∀ s' p (out : Array Value) (c : Nat) (ys : List Str), (∀ b o, s.heap.get? b = some o → s'.heap.get? b = some o) → s'.gens = s.gens → s'.os = s.os → s.heap.objs.size ≤ p →
      s'.heap.get? p = some (seqObj "list" out c) → StrsAre out.toList ys → ys.Perm l → sortedS ys = true → Q (.ref p) s') : wpAny (model P w) A (call (.builtin "sorted") [.ref a]) Q E s := by
  obtain ⟨⟨es, ep, t⟩, ho, F, hr, hl⟩ := T
  have b64 : es.size < scanBound := by
    have z : es.size = l.length := F.sz
    have y : (64 : Nat) ≤ scanBound := by decide
    omega
  refine Calls.call_function_entry kind_sorted plain_sorted entry_sorted (args_sorted1 _) ?_
  unfold Builtin.sorted
  refine wpAny_bind (m := checkCount "sorted" 1 1 _) (wpAny_pure (wpAny_bind ?_))
  refine collect_set (A := A.in1) hh ⟨_, ho, rfl, rfl⟩ F.fit b64 hr hl fun s1 vs k1 hz g1 o1 pm => ?_
  obtain ⟨v1, v2⟩ := tx_vals F nd pm
  have lv : vs.length < 64 := by
    have q := v2.length_eq
    rw [List.length_map] at q
    omega
  refine wpAny_bind (wpAny_newList ?_ (by rw [sizeLine_eq]; omega))
  have nl : (s1.heap.push (seqObj "list" vs.toArray 0)).get? s1.heap.objs.size = some (seqObj "list" vs.toArray 0) := Heap.get?_push_size _ rfl
  refine wpAny_bind (wpAny_holding (wpAny_call_entry slot_list_sort ⟨_, nl, rfl⟩ entry_list_sort (list_sort_treeK strKind_oneLt nl v1.keysOf (fun x y r e => keyKind_strs (by rw [← e]; exact v1)) lv fun st pp ps => ⟨_, rfl, ?_⟩) (args_list_sort _)))
  obtain ⟨ys, y1, y2, y3⟩ := sorted_out_str v1 pp ps
  obtain ⟨c, hc⟩ := sortedHeap_at (vs := vs) (out := (arrOf st).map (·.2)) nl
  refine wpAny_pure ⟨_, rfl, hQ _ s1.heap.objs.size _ c ys (fun b u e => ?_) g1 o1 hz hc y1 (y2.trans v2) y3⟩
  have q := k1 b u e
  have lt := Heap.lt_size q
  refine (sortedHeap_old (Nat.ne_of_lt lt) (by rw [size_push']; exact Nat.lt_succ_of_lt lt)).trans ?_
  exact Heap.get?_push_of_some _ q
end
def tSortSet (ta : TE) : TE := fun σ H Q => ta σ H fun x H1 => ∃ y : Str, x = .str y ∧ y.cps.size < scanBound ∧ (seen y.cps.toList []).length < 64 ∧
  ∀ (ys : List Str) (p : Addr), ys.Perm (seen y.cps.toList []) → sortedS ys = true → H1 p = none → Q (.ref p) (upd H1 p (.lst (ys.map V.str)))
section
variable {X : Cx}
theorem pe_sortSet {a : Expr} {ta : TE} {p p2 q pos : Pos} (hc : X.calm = true) (hg : Gl X "sorted") (hm : X.mg "sorted" = none) (hg2 : Gl X "set") (hm2 : X.mg "set" = none) (ha : PE X a ta)
    (na : starEach [a] X.env = (false, eval a X.env) :: starEach [] X.env := by rfl) : PE X (.Call (.Name "sorted" p) [.Call (.Name "set" p2) [a] [] q] [] pos) (tSortSet ta) := by
  refine ⟨fun pins s σ H Q I h => Call_ (ld_blt I hg hm boot_sorted (callWith_builtin1 (args_cons ?_ rfl) rfl rfl))⟩
  refine Call_ (ld_blt I hg2 hm2 boot_set (callWith_type1 (args_cons (thn (ha.run pins s σ H _ I h) fun v s1 ⟨x, H1, I1, r1, q1⟩ => args_nil ?_) na) na rfl))
  obtain ⟨y, rfl, b1, b2, q1⟩ := q1
  obtain ⟨u, rfl⟩ := r1
  refine call_set_text (I1.ok.hd hc) b1 fun h' tk T kp => args_nil ?_
  have I2 : Inv X pins σ H1 { s1 with heap := h', toks := tk } := I1.kept kp
  refine sorted_text T (seen_nodup List.nodup_nil) (I2.ok.hd hc) b2 fun s' p out c ys k g o hp hgt hi pm so => ?_
  have nn : H1 p = none := I2.hok.fresh hp
  have ln : (ys.map V.str).length ≤ sizeLine := by rw [List.length_map, pm.length_eq, sizeLine_eq]; omega
  have J : Inv X pins σ (upd H1 p (.lst (ys.map V.str))) { s1 with heap := s'.heap, gens := s'.gens, drawn := s'.drawn, toks := s'.toks } :=
    L2.Inv.call (s := { s1 with heap := h', toks := tk }) I2 (ch := []) (Un.laid k hp nn) (I2.hok.laid k hp ⟨ln, out.toList, c, vals_of_strs hi, hgt⟩) (by rw [g]; exact I2.bare) (fun _ z => nomatch z)
  have e : s' = { s1 with heap := s'.heap, gens := s'.gens, drawn := s'.drawn, toks := s'.toks } := by
    cases s'
    cases s1
    cases o
    rfl
  rw [e]
  exact ⟨.ref p, _, J, rfl, q1 ys p pm so nn⟩
end
end DL
namespace DL
open PySem PySem.Spec L2 PyProof.Rows
def Itd (x : Str) : It :=
  ⟨fun i _ => i < x.cps.size, fun i H v H' => ∃ T c, v = .ref T ∧ H T = none ∧ H' = upd H T (.tup [.int (i : Nat), .str ⟨#[c]⟩]) ∧ x.cps[i]? = some c, fun i _ => x.cps.size ≤ i⟩
theorem strDraws {P : Program} {w : World} {A : Around} (hh : A.handled = none) (it : Addr) (x : Str) (t : PySem.Tok) :
    Draws P w A it [it] x.cps.size (fun i v => ∃ c u, x.cps[i]? = some c ∧ v = .str ⟨#[c]⟩ u) (fun i h => h.IsStrIter it (strIterType x) x t i) := by
  unfold strIterType
  split
  · exact Draws.strAscii hh it x t
  · exact Draws.strWide hh it x t
theorem turn_enumS {P : Program} {w : World} {K : PySem.W.Frag} {elts : List Expr} {kk : Nat} {tpos : Pos} (x : Str) (t : PySem.Tok) (e it : Addr) :
    Turn P w K (.Tuple elts kk tpos) (Itd x) [e, it] e (fun i h => (∃ old, IsEnum h e it ((i : Nat) : Int) old) ∧ h.IsStrIter it (strIterType x) x t i ∧ e ≠ it) where
  mem := List.mem_cons_self
  obj := fun i h st b hb => by
    obtain ⟨⟨old, he⟩, ⟨o, ho, hc, hd⟩, _⟩ := st
    rcases List.mem_cons.mp hb with z | z
    · subst z
      exact ⟨_, he, fun v q => nomatch q⟩
    · obtain rfl : b = it := by simpa using z
      exact ⟨o, ho, fun v q => by rw [hd] at q; cases q⟩
  keep := fun i h h' st k => let ⟨⟨old, he⟩, ⟨o, ho, r⟩, ne⟩ := st; ⟨⟨old, k e List.mem_cons_self _ he⟩, ⟨o, k it (by simp) _ ho, r⟩, ne⟩
  item := by
    rintro X rfl rfl rfl hc i pins s σ H E I hf ⟨⟨old, he⟩, hit, ne⟩ hg
    have el : e < s.heap.objs.size := Heap.lt_size he
    have il : it < s.heap.objs.size := by obtain ⟨_, q, _⟩ := hit; exact Heap.lt_size q
    refine wpAny_pyNext_enum_itemD (strDraws (A := X.A.in1) (I.ok.hd hc) it x t) he hit hg ne (by simpa using ne) fun v h' tk ⟨c, u, hx, ev⟩ ho hit' hT hsz hk => ?_
    subst ev
    refine ⟨_, rfl, wpAny_letOwnedTupleGo_enum (s := { s with heap := h', toks := tk + 1 }) ho fun h2 he2 sb => ?_⟩
    have oT : h2.get? s.heap.objs.size = some { cls := .type "tuple", data := .seq #[.int i tk, .str ⟨#[c]⟩ u] } := (sb.2 _ (Nat.ne_of_gt el)).trans hT
    have new : ObjOk X.prog X.w (upd H s.heap.objs.size (.tup [.int (i : Nat), .str ⟨#[c]⟩])) h2 s.heap.objs.size (.tup [.int (i : Nat), .str ⟨#[c]⟩]) :=
      ⟨by show 2 ≤ sizeLine; decide, [.int i tk, .str ⟨#[c]⟩ u], .cons ⟨_, rfl⟩ (.cons ⟨_, rfl⟩ .nil), ⟨_, oT, rfl, _, rfl⟩⟩
    have J : Inv X pins σ (upd H s.heap.objs.size (.tup [.int (i : Nat), .str ⟨#[c]⟩])) { s with heap := h2, toks := tk + 1 } :=
      I.turnedNew (ch := [e, it]) (fun b ob hb q => (sb.2 b (fun z => hb (by rw [z]; exact List.mem_cons_self))).trans (hk b ob (fun z => hb (by rw [z]; exact List.mem_cons_self)) (fun z => hb (by rw [z]; simp)) q)) hf (Nat.le_refl _) new
    refine ⟨.ref s.heap.objs.size, _, J, rfl, ⟨_, c, rfl, I.hok.fresh (Nat.le_refl _), rfl, hx⟩, ⟨⟨.str ⟨#[c]⟩ u, ?_⟩, ?_, ne⟩, fun b hb => ?_⟩
    · have e1 : ((i + 1 : Nat) : Int) = (i : Int) + 1 := by omega
      rw [e1]; exact he2
    · obtain ⟨o, q, r⟩ := hit'
      exact ⟨o, (sb.2 it (Ne.symm ne)).trans q, r⟩
    · have lb : b < s.heap.objs.size := by
        rcases List.mem_cons.mp hb with z | z
        · rw [z]; exact el
        · obtain rfl : b = it := by simpa using z
          exact il
      rw [upd_ne (Nat.ne_of_lt lb)]
      exact (hf b hb).1
  done := by
    rintro X rfl rfl rfl hc i pins s σ H E I hf ⟨⟨old, he⟩, hit, ne⟩ hg
    obtain ⟨f0, f1, f2, f3, f4, f5⟩ := hf it (by simp)
    by_cases hi : i = x.cps.size
    · subst hi
      exact wpAny_pyNext_enum_endD (strDraws (A := X.A.in1) (I.ok.hd hc) it x t) he hit fun h' eb => ⟨rfl, I.turned (t' := s.toks) (fun b o hb q => eb b o hb q) f0 f1 f3 f4 f5⟩
    · have hx : x.cps[i]? = none := Array.getElem?_eq_none hg
      have D : Draws X.prog X.w X.A.in1 it [it] i (fun _ _ => False) (fun j h => j = i ∧ h.IsStrIter it (strIterType x) x t i) :=
        { live := fun _ _ st => let ⟨o, ho, _⟩ := st.2; ⟨o, ho⟩
          frame := fun _ _ _ st hk => let ⟨o, ho, r⟩ := st.2; ⟨st.1, o, hk it (by simp) o ho, r⟩
          item := fun j s Q E hj st hQ => absurd hj (by rw [st.1]; exact Nat.lt_irrefl _)
          done := fun s Q E st hE => by
            have st2 := st.2
            unfold strIterType at st2
            split at st2
            · exact wpAny_nextOf_ascii_end (I.ok.hd hc) st2 hx hE
            · exact wpAny_nextOf_wide_end (I.ok.hd hc) st2 hx hE }
      exact wpAny_pyNext_enum_endD D he ⟨rfl, hit⟩ fun h' eb => ⟨rfl, I.turned (t' := s.toks) (fun b o hb q => eb b o hb q) f0 f1 f3 f4 f5⟩
  self := fun A i s Q E st h => let ⟨⟨_, he⟩, _⟩ := st; wpAny_pyIter_enum he h
def enumD (ds : List D) : List D := ds.mapIdx fun i d => .tup [.int (i : Nat), d]
theorem itok_enumS {c : Ct} {F : Hp} {x : List Nat} : ItOk c F (enumD (x.map fun c => D.str [c])) (Itd (S x)) where
  go := fun i H s hi => by
    simp only [enumD, List.length_mapIdx, List.length_map] at hi
    show i < (S x).cps.size
    rw [show (S x).cps.size = x.length from S_len x]
    exact hi
  stop := fun i H s hi => by
    simp only [enumD, List.length_mapIdx, List.length_map] at hi
    show (S x).cps.size ≤ i
    rw [show (S x).cps.size = x.length from S_len x]
    exact hi
  yld := fun i H v H' s hi y => by
    obtain ⟨T, k, rfl, hT, rfl, hk⟩ := y
    rw [S_get] at hk
    refine ⟨.tup [.int (i : Nat), .str [k]], by simp [enumD, List.getElem?_mapIdx, hk], .inr ⟨T, _, _, hT, rfl, rfl, rfl, ?_⟩⟩
    exact ⟨_, _, rfl, rfl, _, _, rfl, rfl, rfl⟩
theorem itok_enumL {c : Ct} {F : Hp} {a : Addr} {vs : List V} {ds : List D} (h : F a = some (.lst vs)) (r : Reps c F ds vs) : ItOk c F (enumD ds) (Ite c.K a) where
  go := fun i H s hi => by
    simp only [enumD, List.length_mapIdx] at hi
    exact ⟨vs, vs[i]'(by rw [← r.length]; exact hi), SqL.of (s _ _ h), List.getElem?_eq_getElem _⟩
  stop := fun i H s hi => by
    simp only [enumD, List.length_mapIdx] at hi
    exact ⟨vs, SqL.of (s _ _ h), by rw [← r.length]; exact hi⟩
  yld := fun i H v H' s hi y => by
    obtain ⟨T, x, rfl, hT, rfl, hx⟩ := y
    obtain ⟨d, e1, r1⟩ := r.getV (hx vs (SqL.of (s _ _ h)))
    refine ⟨.tup [.int (i : Nat), d], by simp [enumD, List.getElem?_mapIdx, e1], .inr ⟨T, _, _, hT, rfl, rfl, rfl, ?_⟩⟩
    exact ⟨_, _, rfl, rfl, _, _, rfl, r1, rfl⟩
def enumI : D → Option (List D)
  | .lst ds => some (enumD ds)
  | .str x => some (enumD (x.map fun c => .str [c]))
  | _ => none
def enm1 (Q : List D → Ro → Prop) (ds : List D) (ρ' : Ro) : Prop := ∃ d es, ds = [d] ∧ enumI d = some es ∧ Q es ρ'
def diEnum (ta : DA) : DI := fun ρ Q => ta ρ (enm1 Q)
section
variable {X : Cx} {m : M} {e a b : Expr} {es : List Expr} {te : DE} {pos p : Pos} {x : Str} {st : Stmt} {ua : DA}
theorem pdi_enumerate1 {elts : List Expr} {kk : Nat} {tpos : Pos} (hg : Gl X "enumerate") (hm : X.mg "enumerate" = none) (ha : PDA X m [a] ua) (hs : starEach [a] X.env = [(false, eval a X.env)] := by rfl) :
    PDI X m (.Tuple elts kk tpos) (.Call (.Name "enumerate" p) [a] [] pos) (diEnum ua) := by
  have G : ∀ pins s σ H (R : It → Hp → Prop), Inv X pins σ H s → lI X m (diEnum ua) σ H R → wpAny (model X.prog X.w) X.A (eval (.Call (.Name "enumerate" p) [a] [] pos) X.env) (fun v s1 => wpAny (model X.prog X.w) X.A (pyIter v) (PIE X pins σ (.Tuple elts kk tpos) R) X.xe s1) X.xe s := by
    intro pins s σ H R I ⟨ρ, F, Sx, t⟩
    refine Call_ (ld_blt I hg hm boot_enumerate (callWith_type1 (thn (ha.pe.run pos pins s σ H (fun vs H1 => (∃ a xs, vs = [.ref a] ∧ SqL X.K H1 a xs ∧ R (Ite X.K a) H1) ∨ ∃ x, vs = [.str x] ∧ R (Itd x) H1) I ⟨ρ, F, Sx, ha.mono _ _ _ (fun ds ρ' q vs H' F' s S' r => ?_) t⟩) fun us s1 ⟨vs, H1, I1, r1, q⟩ => ?_) hs rfl))
    · obtain ⟨d, es, rfl, e2, q⟩ := q
      obtain ⟨v, r1, rfl, r, r2⟩ := r
      obtain rfl : r1 = [] := r2
      cases d with
      | lst ds =>
        cases e2
        obtain ⟨a, vs, rfl, h1, h2⟩ := r
        exact .inl ⟨a, vs, rfl, SqL.of (S'.gr.fs _ _ h1), q H' F' _ s S' (itok_enumL h1 h2)⟩
      | str x =>
        cases e2
        obtain rfl : v = .str (S x) := r
        exact .inr ⟨_, rfl, q H' F' _ s S' itok_enumS⟩
      | _ => cases e2
    · rcases q with ⟨a, xs, ex, hq, q⟩ | ⟨x, ex, q⟩
      · subst ex
        rcases r1 with _ | ⟨r, rr⟩
        cases rr
        cases r
        obtain ⟨its, rv, p', hz⟩ := I1.list hq
        refine call_enumerate_list p'.isList fun h' he hit hsz hk => wpAny_pyIter_enum he ?_
        have I2 : Inv X pins σ H1 { s1 with heap := h' } := I1.kept (t' := s1.toks) hk
        refine ⟨s1.heap.objs.size + 1, [s1.heap.objs.size + 1, s1.heap.objs.size], _, _, H1, rfl, I2, turn_enum a (s1.heap.objs.size + 1) s1.heap.objs.size, ⟨⟨.none, he⟩, hit, Nat.succ_ne_self _⟩, fun b hb => ?_, q⟩
        have lb : s1.heap.objs.size ≤ b := by
          rcases List.mem_cons.mp hb with z | z
          · rw [z]; exact Nat.le_add_right _ _
          · obtain rfl : b = s1.heap.objs.size := by simpa using z
            exact Nat.le_refl _
        exact I1.fpOk lb (I1.hok.fresh lb)
      · subst ex
        rcases r1 with _ | ⟨r, rr⟩
        cases rr
        obtain ⟨t, rfl⟩ := r
        refine call_enumerate_str fun h' he hit hsz hk => wpAny_pyIter_enum he ?_
        have I2 : Inv X pins σ H1 { s1 with heap := h' } := I1.kept (t' := s1.toks) hk
        refine ⟨s1.heap.objs.size + 1, [s1.heap.objs.size + 1, s1.heap.objs.size], _, _, H1, rfl, I2, turn_enumS x t (s1.heap.objs.size + 1) s1.heap.objs.size, ⟨⟨.none, he⟩, hit, Nat.succ_ne_self _⟩, fun b hb => ?_, q⟩
        have lb : s1.heap.objs.size ≤ b := by
          rcases List.mem_cons.mp hb with z | z
          · rw [z]; exact Nat.le_add_right _ _
          · obtain rfl : b = s1.heap.objs.size := by simpa using z
            exact Nat.le_refl _
        exact I1.fpOk lb (I1.hok.fresh lb)
  exact ⟨⟨G⟩, fun ρ Q Q' i => ha.mono _ _ _ fun ds ρ' ⟨d, es, e1, e2, q⟩ => ⟨d, es, e1, e2, i _ _ q⟩⟩
end
end DL
namespace DL
open PySem PySem.Spec L2 PyProof.Rows
section
variable {X : Cx} {m : M} {e a b : Expr} {es : List Expr} {te ta tb : DE} {pos p pos' tpos apos cpos : Pos} {x : Str} {st : Stmt} {ua : DA}
theorem op_mulSt : OpR X (binaryOp .Mult) (fun x y H Q => ∃ a k, x = .str a ∧ y = .int k ∧ MulOk a k ∧ Q (.str (Txt.mul a k)) H) := by
  intro pins s σ H x y v u Q I rx ry h
  obtain ⟨a, k, rfl, rfl, ok, q⟩ := h
  obtain ⟨t, rfl⟩ := rx
  obtain ⟨t', rfl⟩ := ry
  exact SB.mul ok fun t2 j => ⟨.str (Txt.mul a k), H, I.tok _, ⟨_, rfl⟩, q⟩
def repL (a : List Nat) (n : Nat) : List Nat := (List.replicate n a).flatten
theorem S_mul (a : List Nat) (k : Int) : Txt.mul (S a) k = S (repL a k.toNat) := by
  have fold : ∀ (n : Nat) (acc : Array Nat), ((List.replicate n (S a).cps).foldl (· ++ ·) acc) = (acc.toList ++ repL a n).toArray := by
    intro n
    induction n with
    | zero => intro acc; simp [repL]
    | succ n ih =>
      intro acc
      rw [List.replicate_succ, List.foldl_cons, ih]
      show (_ : List Nat).toArray = _
      simp [repL, List.replicate_succ, S]
  unfold Txt.mul
  by_cases h : k < 1
  · rw [if_pos h, show k.toNat = 0 by omega]; rfl
  · rw [if_neg h]
    split
    · rename_i c
      rw [Bool.or_eq_true, beq_iff_eq, beq_iff_eq] at c
      rcases c with c | c
      · subst c
        show S a = S (repL a 1)
        simp [repL]
      · have : a = [] := by
          have q : a.length = 0 := by rw [← S_len a]; exact c
          exact List.length_eq_zero_iff.mp q
        subst this
        simp [repL, S]
    · rw [fold]
      show Str.mk _ = Str.mk _
      simp
def fMul : F2 := fun d e P => match d, e with
  | .int i, .int j => CMul i j ∧ P (.int (i * j))
  | .str a, .int k => (k ≤ 16777216 ∧ -(2 ^ 63) ≤ k ∧ a.length * k.toNat ≤ 16777216) ∧ P (.str (repL a k.toNat))
  | _, _ => False
def rMulU : R2 := fun x y H Q => (∃ i j, x = .int i ∧ y = .int j ∧ CMul i j ∧ Q (.int (i * j)) H) ∨ (∃ a k, x = .str a ∧ y = .int k ∧ MulOk a k ∧ Q (.str (Txt.mul a k)) H)
theorem op_mulU : OpR X (binaryOp .Mult) rMulU := op_mul.or op_mulSt
theorem o_mul : Op2 X m rMulU fMul := by
  refine ⟨fun {σ H ρ F d e x y Q P} Sx r1 r2 h k => ?_, fun d e P P' i => ?_⟩
  · unfold fMul at h
    split at h
    · rw [show x = .int _ from r1, show y = .int _ from r2]
      exact .inl ⟨_, _, rfl, rfl, h.1, k _ _ H F h.2 (Grow.refl Sx.gr.fs Sx.gr.tok) rfl⟩
    · rename_i a j
      rw [show x = .str _ from r1, show y = .int _ from r2]
      obtain ⟨⟨c1, c2, c3⟩, q⟩ := h
      refine .inr ⟨_, _, rfl, rfl, ?_, k _ _ H F q (Grow.refl Sx.gr.fs Sx.gr.tok) ?_⟩
      · by_cases hj : j < 1
        · refine ⟨?_, fun h => absurd hj h, fun h => absurd hj h⟩
          have a1 : ¬ j < -(2 ^ 63 : Int) := by omega
          have a2 : ¬ j ≥ (2 ^ 63 : Int) := by omega
          rw [decide_eq_false a1, decide_eq_false a2]; rfl
        · exact mulOk_of (L := a.length) (N := j.toNat) (by rw [S_len]; exact Nat.le_refl _) (by omega) (by omega) (by omega) c3
      · rw [S_mul]; rfl
    · exact h.elim
  · unfold fMul
    split <;> first | exact fun ⟨h, q⟩ => ⟨h, i _ q⟩ | exact id
theorem pds_append (i : Nat) {x : Str} (he : PD X m e te) (hN : X.N[i]? = some x := by rfl) (hV : Vis X.env.scope x := by first | exact .inl rfl | exact .inr rfl) (hx : (x == ("__debug__" : Str)) = false := by decide) (hy : (x == ("__classdict__" : Str)) = false := by decide)
    (hbase : attributeBase (.Name x p) "append" X.env (eval (.Name x p) X.env) = eval (.Name x p) X.env := by rfl)
    (hk : ((backTo cpos (starEach [e] X.env)).all (fun x => !x.1) && (backToKw cpos (keywordEach [] X.env)).all (fun x => x.1.isSome) && decide (([e] : List Expr).length + ([] : List Keyword).length + (if ([] : List Keyword).isEmpty then 0 else 1) < 30)) = true := by rfl)
    (hl : (apos.endLine == cpos.line) = true := by rfl) (hs : starEach [e] X.env = (false, eval e X.env) :: starEach [] X.env := by rfl) (hp : (backTo cpos (starEach [] X.env)).any (·.1) = false := by rfl) :
    PDS X m (.Expr (.Call (.Attribute (.Name x p) "append" apos) [e] [] cpos) pos) (dAppend i te) :=
  pds_append' he (ps_expr (pe_bm PySem.F.plainAttrs_list PySem.F.slot_list_append PySem.F.type_list_append mt_append (pv i hN hV hx hy) (pa_cons he.pe pa_nil hs) hbase hk hl hs hp))
theorem pds_setIx (i : Nat) {x : Str} {tk : DE} (hk : PD X m a tk) (he : PD X m e te) (hN : X.N[i]? = some x := by rfl) (hV : Vis X.env.scope x := by first | exact .inl rfl | exact .inr rfl) (hx : (x == ("__debug__" : Str)) = false := by decide) (hy : (x == ("__classdict__" : Str)) = false := by decide)
    (hs : swapsWithSole [.Subscript (.Name x p) a pos'] e pos.line X.env = pure false := by rfl) (hw : swappedStores [.Subscript (.Name x p) a pos'] e X.env = pure none := by rfl)
    (h1 : (assignEach [.Subscript (.Name x p) a pos'] X.env).map (·.2) = [assign (.Subscript (.Name x p) a pos') X.env] := by rfl)
    (ha : ∀ v, assign (.Subscript (.Name x p) a pos') X.env v = (do let ov ← holding [v] (eval (.Name x p) X.env); let iv ← holding [v, ov] (eval a X.env); standAt pos'; holding [v, ov, iv] (setItem ov iv v); release [v, ov, iv] []) := by intro _; rfl) :
    PDS X m (.Assign [.Subscript (.Name x p) a pos'] e pos) (dSetIx i tk te) := by
  exact pds_setIx' he hk (ps_asg he.pe (pg_sub (pv i hN hV hx hy) hk.pe set_list ha) hs hw h1)
theorem pds_put (hu : X.A.units + 1 < cLine) (i : Nat) {x : Str} {tk : DE} (hk : PD X m a tk) (he : PD X m e te) (hN : X.N[i]? = some x := by rfl) (hV : Vis X.env.scope x := by first | exact .inl rfl | exact .inr rfl) (hx : (x == ("__debug__" : Str)) = false := by decide) (hy : (x == ("__classdict__" : Str)) = false := by decide)
    (hs : swapsWith e (some (.Subscript (.Name x p) a pos')) pos.line X.env = pure false := by rfl) :
    PDS X m (.Assign [.Subscript (.Name x p) a pos'] e pos) (dPut i tk te) :=
  pds_put' he hk (ps_dput hu (pv i hN hV hx hy) hk.pe he.pe hs)
def max2 (Q : D → Ro → Prop) (ds : List D) (ρ' : Ro) : Prop := ∃ i j : Int, ds = [.int i, .int j] ∧ Q (.int (if j > i then j else i)) ρ'
def min2 (Q : D → Ro → Prop) (ds : List D) (ρ' : Ro) : Prop := ∃ i j : Int, ds = [.int i, .int j] ∧ Q (.int (if j < i then j else i)) ρ'
def dMax2 (ua : DA) : DE := fun ρ Q => ua ρ (max2 Q)
def dMin2 (ua : DA) : DE := fun ρ Q => ua ρ (min2 Q)
theorem ints2 {c : Ct} {F : Hp} {i j : Int} {vs : List V} (r : Reps c F [.int i, .int j] vs) : vs = [.int i, .int j] := by
  obtain ⟨v, r1, rfl, rv, w, r3, rfl, rw', r5⟩ := r
  obtain rfl : r3 = [] := r5
  rw [show v = _ from rv, show w = _ from rw']
theorem pd_max2 (hc : X.calm = true) (ha : PDA X m (e :: es) ua) (hx : x = "max") (hg : Gl X x) (hm : X.mg x = none) (he : starEach (e :: es) X.env = (false, eval e X.env) :: starEach es X.env := by rfl) (hpl : (backTo pos (starEach es X.env)).any (·.1) = false := by rfl) :
    PD X m (.Call (.Name x p) (e :: es) [] pos) (dMax2 ua) := by
  subst hx
  refine ⟨PE.imp (pe_callB (call_max2 hc) hg hm boot_max ha.pe (by decide) (by decide) he hpl) fun σ H Q ⟨ρ, F, Sx, t⟩ => ⟨ρ, F, Sx, ha.mono _ _ _ (fun ds ρ' q vs H' F' s S' r => ?_) t⟩, fun ρ Q Q' i => ha.mono _ _ _ fun ds ρ' ⟨a, b, e1, q⟩ => ⟨a, b, e1, i _ _ q⟩⟩
  obtain ⟨a, b, rfl, q⟩ := q
  exact ⟨a, b, ints2 r, q _ H' F' s S' rfl⟩
theorem pd_min2 (hc : X.calm = true) (ha : PDA X m (e :: es) ua) (hx : x = "min") (hg : Gl X x) (hm : X.mg x = none) (he : starEach (e :: es) X.env = (false, eval e X.env) :: starEach es X.env := by rfl) (hpl : (backTo pos (starEach es X.env)).any (·.1) = false := by rfl) :
    PD X m (.Call (.Name x p) (e :: es) [] pos) (dMin2 ua) := by
  subst hx
  refine ⟨PE.imp (pe_callB (call_min2 hc) hg hm boot_min ha.pe (by decide) (by decide) he hpl) fun σ H Q ⟨ρ, F, Sx, t⟩ => ⟨ρ, F, Sx, ha.mono _ _ _ (fun ds ρ' q vs H' F' s S' r => ?_) t⟩, fun ρ Q Q' i => ha.mono _ _ _ fun ds ρ' ⟨a, b, e1, q⟩ => ⟨a, b, e1, i _ _ q⟩⟩
  obtain ⟨a, b, rfl, q⟩ := q
  exact ⟨a, b, ints2 r, q _ H' F' s S' rfl⟩
def strsD : List D → Option (List (List Nat))
  | [] => some []
  | .str x :: ds => (strsD ds).map (x :: ·)
  | _ :: _ => none
theorem strs_of {c : Ct} {F : Hp} : ∀ {ds : List D} {xs : List (List Nat)} {vs : List V}, strsD ds = some xs → Reps c F ds vs → vs = (xs.map S).map V.str
  | [], xs, vs, h, r => by
    cases h
    exact r
  | d :: ds, xs, vs, h, r => by
    obtain ⟨v, r', rfl, rv, rr⟩ := r
    cases d with
    | str x =>
      obtain ⟨ys, h1, rfl⟩ := Option.map_eq_some_iff.mp h
      rw [show v = .str (S x) from rv, strs_of h1 rr]
      rfl
    | _ => cases h
def fJoin : FM := fun d ds P => match d, ds with
  | .str [], [.lst es] => ∃ xs, strsD es = some xs ∧ xs.flatten.length ≤ 16777216 ∧ P (.str xs.flatten)
  | _, _ => False
theorem S_join (xs : List (List Nat)) : Txt.join (S []) (xs.map S) = S xs.flatten := by
  have fold : ∀ (xs : List (List Nat)) (acc : Array Nat), List.foldl (fun acc (p : Str) => acc ++ (S []).cps ++ p.cps) acc (xs.map S) = (acc.toList ++ xs.flatten).toArray := by
    intro xs
    induction xs with
    | nil => intro acc; simp
    | cons x xs ih =>
      intro acc
      rw [List.map_cons, List.foldl_cons, ih]
      simp [S]
  cases xs with
  | nil => rfl
  | cons x xs =>
    show Str.mk (List.foldl _ (S x).cps (xs.map S)) = _
    rw [fold]
    simp [S]
theorem sum_len (xs : List (List Nat)) : ((xs.map S).map fun x => x.length).sum = xs.flatten.length := by
  induction xs with
  | nil => rfl
  | cons x xs ih =>
    simp only [List.map_cons, List.sum_cons, List.flatten_cons, List.length_append, ih]
    rw [S_len]
theorem o_join : OpM X m (fun x xs H Q => ∃ a p ys, x = .str a ∧ xs = [.ref p] ∧ (SqL X.K H p (ys.map V.str) ∨ SqT X.K H p (ys.map V.str)) ∧ (ys.map fun x => x.length).sum + ys.length * a.length ≤ 16777216 ∧ Q (.str (Txt.join a ys)) H) fJoin := by
  refine ⟨fun {σ H ρ F d ds x xs Q P} Sx r1 r2 h k => ?_, fun d ds P P' i => ?_⟩
  · unfold fJoin at h
    split at h
    · obtain ⟨zs, h1, h2, q⟩ := h
      obtain ⟨v, r', rfl, ⟨a, vs, rfl, g1, g2⟩, r3⟩ := r2
      obtain rfl : r' = [] := r3
      rw [strs_of h1 g2] at g1
      rw [show x = _ from r1]
      refine ⟨_, a, zs.map S, rfl, rfl, .inl (SqL.of (Sx.gr.fs _ _ g1)), ?_, k _ _ H F q (Grow.refl Sx.gr.fs Sx.gr.tok) ?_⟩
      · rw [sum_len, S_len]; simpa using h2
      · rw [S_join]; rfl
    · exact h.elim
  · unfold fJoin
    split <;> first | exact fun ⟨a, h1, h2, q⟩ => ⟨a, h1, h2, i _ q⟩ | exact id
def sortSetK (P : D → Ro → Prop) (d : D) (ρ' : Ro) : Prop := ∃ a B : List Nat, d = .str a ∧ a.length < 4096 ∧ B.length < 64 ∧ (∀ c ∈ a, c ∈ B) ∧ ∀ cs : List Nat, cs.Pairwise (· < ·) → (∀ c, c ∈ cs ↔ c ∈ a) → P (.lst (cs.map fun c => .str [c])) ρ'
def dSortSet (te : DE) : DE := fun ρ Q => te ρ (sortSetK Q)
theorem rise_le : ∀ {cs : List Nat} {p : Nat}, risingS (S [p]) (cs.map fun c => S [c]) = true → (∀ c ∈ cs, p ≤ c) ∧ cs.Pairwise (· ≤ ·)
  | [], p, _ => ⟨(fun c h => by cases h), List.Pairwise.nil⟩
  | x :: cs, p, h => by
    have h : (!ltCps [x] [p] && risingS (S [x]) (cs.map fun c => S [c])) = true := h
    rw [Bool.and_eq_true] at h
    obtain ⟨h1, h2⟩ := h
    obtain ⟨q1, q2⟩ := rise_le h2
    have h3 : p ≤ x := by
      rw [ltCps_eq] at h1
      simp only [Bool.not_eq_true', decide_eq_false_iff_not] at h1
      by_cases z : x < p
      · exact (h1 (List.Lex.rel z)).elim
      · omega
    refine ⟨fun c hc => ?_, List.Pairwise.cons q1 q2⟩
    rcases List.mem_cons.mp hc with e | e
    · omega
    · exact Nat.le_trans h3 (q1 c e)
theorem sort_out {a : List Nat} {ys : List Str} (p : ys.Perm (seen a [])) (h : sortedS ys = true) : ∃ cs : List Nat, ys = cs.map (fun c => S [c]) ∧ cs.Pairwise (· < ·) ∧ ∀ c, c ∈ cs ↔ c ∈ a := by
  have all : ∀ y ∈ ys, ∃ c ∈ a, y = S [c] := fun y hy => by
    rcases seen_mem.mp (p.mem_iff.mp hy) with q | q
    · cases q
    · exact q
  obtain ⟨cs, e⟩ : ∃ cs : List Nat, ys = cs.map (fun c => S [c]) := by
    clear p h
    induction ys with
    | nil => exact ⟨[], rfl⟩
    | cons y ys ih =>
      obtain ⟨c, _, e⟩ := all y List.mem_cons_self
      obtain ⟨cs, e2⟩ := ih fun y hy => all y (List.mem_cons_of_mem _ hy)
      exact ⟨c :: cs, by rw [e, e2]; rfl⟩
  subst e
  have inj : ∀ x y : Nat, S [x] = S [y] → x = y := fun x y q => by
    have : (S [x]).cps.toList = (S [y]).cps.toList := by rw [q]
    simpa [S] using this
  have le : cs.Pairwise (· ≤ ·) := by
    cases cs with
    | nil => exact List.Pairwise.nil
    | cons c cs =>
      obtain ⟨q1, q2⟩ := rise_le (p := c) (cs := cs) h
      exact List.Pairwise.cons q1 q2
  have nd : cs.Nodup := by
    have q : (cs.map fun c => S [c]).Nodup := p.nodup_iff.mpr (seen_nodup List.nodup_nil)
    exact (List.pairwise_map.mp q).imp fun h e => h (by rw [e])
  refine ⟨cs, rfl, ?_, fun c => ⟨fun hc => ?_, fun hc => ?_⟩⟩
  · exact (List.pairwise_and_iff.mpr ⟨le, nd⟩).imp fun {x y} q => by have := q.2; omega
  · obtain ⟨d, hd, e⟩ := all _ (List.mem_map.mpr ⟨c, hc, rfl⟩)
    rw [inj _ _ e]; exact hd
  · obtain ⟨d, hd, e⟩ := List.mem_map.mp (p.mem_iff.mpr (seen_mem.mpr (.inr ⟨c, hc, rfl⟩)))
    rw [← inj _ _ e]; exact hd
theorem seen_few {a B : List Nat} (h : ∀ c ∈ a, c ∈ B) : (seen a []).length ≤ B.length := by
  have sub : ∀ x ∈ seen a [], x ∈ B.map fun c => Froz.sing c := fun x hx => by
    rcases seen_mem.mp hx with q | ⟨c, hc, e⟩
    · cases q
    · exact List.mem_map.mpr ⟨c, h c hc, e.symm⟩
  have key : ∀ (l m : List Str), l.Nodup → (∀ x ∈ l, x ∈ m) → l.length ≤ m.length := by
    intro l
    induction l with
    | nil => intro m _ _; exact Nat.zero_le _
    | cons x l ih =>
      intro m nd sub
      obtain ⟨nx, nd⟩ := List.nodup_cons.mp nd
      have q := ih (m.erase x) nd fun y hy => (List.mem_erase_of_ne (fun (e : y = x) => nx (e ▸ hy))).mpr (sub y (List.mem_cons_of_mem _ hy))
      have z := (List.perm_cons_erase (sub x List.mem_cons_self)).length_eq
      simp only [List.length_cons] at z ⊢
      omega
  have := key _ _ (seen_nodup List.nodup_nil) sub
  rwa [List.length_map] at this
theorem pd_sortSet {p2 q : Pos} {y : Str} (hc : X.calm = true) (ha : PD X m a ta) (hx : x = "sorted") (hy : y = "set") (hg : Gl X x) (hm : X.mg x = none) (hg2 : Gl X y) (hm2 : X.mg y = none)
    (na : starEach [a] X.env = (false, eval a X.env) :: starEach [] X.env := by rfl) : PD X m (.Call (.Name x p) [.Call (.Name y p2) [a] [] q] [] pos) (dSortSet ta) := by
  subst hx hy
  refine ⟨PE.imp (pe_sortSet hc hg hm hg2 hm2 ha.pe na) fun σ H Q ⟨ρ, F, Sx, t⟩ => ⟨ρ, F, Sx, ha.mono _ _ _ (fun d ρ' k v H' F' s S' r => ?_) t⟩, fun ρ Q Q' i => ha.mono _ _ _ fun d ρ' ⟨a, B, e, h1, h2, h3, k⟩ => ⟨a, B, e, h1, h2, h3, fun cs c1 c2 => i _ _ (k cs c1 c2)⟩⟩
  obtain ⟨a, B, rfl, h1, h2, h3, k⟩ := k
  obtain rfl : v = .str (S a) := r
  have es : (S a).cps.toList = a := by simp [S]
  refine ⟨S a, rfl, ?_, ?_, fun ys p pm so hp => ?_⟩
  · rw [show (S a).cps.size = a.length from S_len a]; exact h1
  · rw [es]; exact Nat.lt_of_le_of_lt (seen_few h3) h2
  · rw [es] at pm
    obtain ⟨cs, rfl, c1, c2⟩ := sort_out pm so
    have g := S'.alloc (o := .lst ((cs.map fun c => S [c]).map V.str)) hp
    have all : ∀ (G : Hp) (cs : List Nat), Reps (m.c X) G (cs.map fun c => D.str [c]) ((cs.map fun c => S [c]).map V.str) := fun G cs => by
      induction cs with
      | nil => rfl
      | cons c cs ih => exact ⟨_, _, rfl, rfl, ih⟩
    exact k cs c1 c2 _ _ _ (s.trans g.f0) (S'.grow g) ⟨p, _, rfl, upd_same, all _ cs⟩
end
end DL
namespace DL
open PySem PySem.Spec L2 PyProof.Rows
section
variable {c : Ct} {F0 H0 F H F2 H2 : Hp} {σ σ2 : L2.St} {ρ ρ2 : Ro}
theorem Sim.unblock (S : Sim c F0 H0 σ H ρ F) (T : Sim c F (hideO σ ρ H) σ2 H2 ρ2 F2) : Sim c F0 H0 σ2 H2 ρ2 F2 := by
  have out : ∀ {a : Addr}, hideO σ ρ H a = none → F2 a = F2 a → H0 a = none := fun {a} h _ => by
    by_cases q : OwnedBy σ ρ a
    · exact (S.owned q).2.1
    · rw [hideO_not q] at h
      exact (S.fresh0 h).2
  refine ⟨⟨fun b o e n => ?_, S.gr.f0.trans T.gr.f0, T.gr.fs, fun a o e => ?_, T.gr.tok⟩, T.len, fun i r e => ?_, T.sep, S.st0⟩
  · refine T.gr.keep b o ((hideO_not fun q => ?_).trans (S.gr.keep b o e n)) n
    rw [(S.owned q).2.1] at e; cases e
  · rcases T.gr.new a o e with h | h
    · exact S.gr.new a o h
    · exact .inr (out h rfl)
  · obtain ⟨v, ev, x⟩ := T.slot i r e
    refine ⟨v, ev, ?_⟩
    obtain ⟨b, d⟩ := r
    cases b with
    | false => exact x
    | true =>
      obtain ⟨a, rfl, h1, h2, ow⟩ := x
      exact ⟨a, rfl, h1, out h2 rfl, ow⟩
theorem Sim.aside (S : Sim c F0 H0 σ H ρ F) (T : Sim c F (hideO σ ρ H) σ2 H2 ρ2 F2) {p : Addr} {o : HO} (hp : H p = some o) (f : F p = none) (h : H0 p = none) (fr : Fresh σ ρ p) : H2 p = some o ∧ F2 p = none ∧ Fresh σ2 ρ2 p := by
  have n : ¬ OwnedBy σ ρ p := fun ⟨j, d, e1, e2⟩ => fr j d e1 e2
  have hh : hideO σ ρ H p = some o := (hideO_not n).trans hp
  refine ⟨T.gr.keep p o hh (S.ne_st h), ?_, fun j d e1 e2 => ?_⟩
  · cases q : F2 p with
    | none => rfl
    | some u =>
      rcases T.gr.new p u q with z | z
      · rw [f] at z; cases z
      · rw [hh] at z; cases z
  · obtain ⟨v, ev, a, rfl, _, h2, _⟩ := T.slot j _ e1
    rw [e2] at ev
    cases ev
    rw [hh] at h2
    cases h2
end
section
variable {X : Cx} {m : M} {e a b : Expr} {es : List Expr} {te ta tb : DE} {pos p : Pos} {x : Str}
def dFz (te : DE) : DE := fun ρ Q => te ρ fun d ρ' => frzOk d = true ∧ Q d ρ'
theorem PF.pd (h : PF X m e te) (frz : ∀ {F H : Hp} {q : Addr} {d : D}, frzOk d = true → OwnAt (m.c X) F H q d → ∃ o, H q = some o ∧ ∀ F', Same F F' → F' q = some o → Rep (m.c X) F' d (.ref q)) : PD X m e (dFz te) := by
  refine ⟨PE.imp h.pe fun σ H Q ⟨ρ, F, Sx, t⟩ => ⟨ρ, F, Sx, h.mono _ _ _ (fun d ρ' k q H' F' s S' h1 h2 ow fr => ?_) t⟩, fun ρ Q Q' i => h.mono _ _ _ fun d ρ' q => ⟨q.1, i _ _ q.2⟩⟩
  obtain ⟨o, ho, k2⟩ := frz k.1 ow
  exact k.2 _ _ _ (s.trans (same_upd h1)) (S'.frzSide h1 h2 ho fr) (k2 _ (same_upd h1) upd_same)
theorem own_rep {c : Ct} {F H : Hp} {q : Addr} {d : D} (hz : frzOk d = true) (ow : OwnAt c F H q d) : ∃ o, H q = some o ∧ ∀ F', Same F F' → F' q = some o → Rep c F' d (.ref q) := by
  cases d with
  | lst ds =>
    obtain ⟨vs, h1, h2⟩ := ow
    exact ⟨_, h1, fun F' s e => ⟨q, vs, rfl, e, h2.mono s⟩⟩
  | dct kd ks vs =>
    rcases ow with ⟨k, es, h1, h2, h3⟩ | ⟨k, es, h1, h2, h3⟩
    · exact ⟨_, h1, fun F' s e => ⟨q, rfl, .inl ⟨k, es, e, h2, h3.mono s⟩⟩⟩
    · exact ⟨_, h1, fun F' s e => ⟨q, rfl, .inr ⟨k, es, e, h2, h3.mono s⟩⟩⟩
  | ins C ns ds =>
    obtain ⟨dx, vs, h1, h2, h3⟩ := ow
    exact ⟨_, h1, fun F' s e => ⟨q, dx, vs, rfl, e, h2, h3.mono s⟩⟩
  | pin a d => cases hz
  | _ => exact ow.elim
theorem PF.fz (h : PF X m e te) : PD X m e (dFz te) := h.pd fun hz ow => own_rep hz ow
def putsV (p : Addr) : List (V × V) → Hp → (Hp → Prop) → Prop
  | [], H, Q => Q H
  | (k, v) :: r, H, Q => ∃ H', DPut H p k v H' ∧ putsV p r H' Q
theorem d_store {pins : List (Addr × Obj)} {σ : L2.St} {H H' : Hp} {s : Shared} {q : Addr} {y v : V} {u r : Value} {A : Around} {E : Value → Shared → Prop} {Q : Unit → Shared → Prop} (hu : A.units < cLine) (I : Inv X pins σ H s) (g : DPut H q y v H') (ry : RelV y u) (rv : RelV v r) (h : ∀ s', Inv X pins σ H' s' → Q () s') :
    wpAny (model X.prog X.w) A (dictSet q u r) Q E s := by
  rcases g with ⟨kvs, k, e, rfl, l, rfl⟩ | ⟨kvs, k, b, e, rfl, eb, l, rfl⟩
  · obtain ⟨z, hd, vs, rel, dd⟩ := dk_of I.hok e
    have z2 : (putK kvs k v).length ≤ sizeLine := by have := length_putK kvs k v; omega
    refine wpAny_dictSet_pairs (hsz := by rw [← rel.length]; exact z) (kV_is ry) dd fun h' dd' hs => h _ ?_
    have he : ∃ o, h'.get? q = some o := let ⟨o, _, _, ho, _⟩ := dd'; ⟨o, ho⟩
    exact d_write I (by rw [e]; trivial) hs he (dk_new z2 hd (rel.put k rv) dd')
  · obtain rfl : u = Value.ref b := ry
    obtain ⟨z, hd, xs, rel, dd⟩ := dt_of I.hok e
    have z2 : (putK kvs k v).length ≤ sizeLine := by have := length_putK kvs k v; omega
    refine wpAny_dictSet_heap (hsz := by rw [← Paired.length rel]; exact z) (knd := tupleKind (mixKind X.prog X.w)) hu (key_of I.hok eb) dd fun h' dd' hs => h _ ?_
    obtain ⟨o, es, ep, ho, h2, h3, h4, _, h5⟩ := dd'
    refine d_write I (by rw [e]; trivial) hs ⟨o, ho⟩ ⟨z2, hd, _, (rel.put k eb rv).keeps fun c ys ec => ?_, o, es, ep, ho, h2, h3, h4, h5⟩
    exact (upd_ne (ne_of ec e (fun z => nomatch z))).trans ec
theorem d_storeAll {pins : List (Addr × Obj)} {σ : L2.St} {q : Addr} {E : Value → Shared → Prop} (hu : X.A.units < cLine) : ∀ {ps : List (V × V)} {vs : List (Value × Value)} {H : Hp} {s : Shared} {Q : PUnit → Shared → Prop} {R : Hp → Prop}, VV ps vs → Inv X pins σ H s → putsV q ps H R → (∀ H' s', Inv X pins σ H' s' → R H' → Q PUnit.unit s') →
    wpAny (model X.prog X.w) X.A (storeAll q vs) Q E s := by
  intro ps
  induction ps with
  | nil =>
    intro vs H s Q R rv I g k
    cases rv
    unfold storeAll
    rw [List.forIn_nil]
    exact wpAny_pure (k H s I g)
  | cons kv ps ih =>
    intro vs H s Q R rv I g k
    obtain ⟨y, v⟩ := kv
    rcases rv with _ | ⟨⟨r1, r2⟩, rr⟩
    obtain ⟨H', g1, g2⟩ := g
    unfold storeAll
    rw [List.forIn_cons]
    exact wpAny_bind (wpAny_bind (d_store hu I g1 r1 r2 fun s' I' => wpAny_pure (ih rr I' g2 k)))
structure PPs2 (X : Cx) (pos : Pos) (keys : List (Option Expr)) (values : List Expr) (w : L2.St → Hp → (List (V × V) → Hp → Prop) → Prop) : Prop where
  run : ∀ (pins : List (Addr × Obj)) (s : Shared) (σ : L2.St) (H : Hp) (Q : List (V × V) → Hp → Prop), Inv X pins σ H s → w σ H Q →
    wpAny (model X.prog X.w) X.A (evalPairs (pairTrees keys values X.env pos)) (fun vs s' => ∃ ps H', Inv X pins σ H' s' ∧ VV ps vs ∧ Q ps H') X.xe s
def tDispA (o : HO) (w : L2.St → Hp → (List (V × V) → Hp → Prop) → Prop) : TE := fun σ H Q => ∀ q, H q = none → w σ (upd H q o) fun ps H2 => putsV q ps H2 fun H3 => Q (.ref q) H3
theorem pe_dispA {keys : List (Option Expr)} {values : List Expr} {w : L2.St → Hp → (List (V × V) → Hp → Prop) → Prop} {o : HO} (ho : o = .dK [] ∨ o = .dT []) (hu : X.A.units < cLine) (h : PPs2 X pos keys values w) (hall : keys.all (·.isSome) = true) (hl : keys.length = values.length) (h0 : keys ≠ []) (h15 : keys.length ≤ 15) :
    PE X (.Dict keys values pos) (tDispA o w) := by
  refine ⟨fun pins s σ H Q I q => wpAny_Dict_any hall hl h0 h15 ?_⟩
  have hn := I.hok.fresh (Nat.le_refl s.heap.objs.size)
  have I1 : Inv X pins σ (upd H s.heap.objs.size o) { s with heap := s.heap.push { cls := .type "dict", data := .dict #[] } } := by
    rcases ho with rfl | rfl
    · exact I.laid (a := s.heap.objs.size) (o := .dK []) (t' := s.toks) (fun _ _ z => Heap.get?_push_of_some _ z) (Nat.le_refl _) (dk_empty s.heap I.big)
    · exact I.laid (a := s.heap.objs.size) (o := .dT []) (t' := s.toks) (fun _ _ z => Heap.get?_push_of_some _ z) (Nat.le_refl _) (dt_empty s.heap I.big)
  refine thn (h.run pins _ σ _ _ I1 (q _ hn)) fun ws s2 ⟨ps, H2, I2, rel, q2⟩ => ?_
  exact d_storeAll hu rel I2 q2 fun H' s' I' r => ⟨.ref s.heap.objs.size, H', I', rfl, r⟩
end
abbrev DP := Ro → (List (D × D) → Ro → Prop) → Prop
abbrev RepP (c : Ct) (F : Hp) (ps : List (D × D)) (vs : List (V × V)) : Prop := Paired (fun p q => Rep c F p.1 q.1 ∧ Rep c F p.2 q.2) ps vs
theorem RepP.mono {c : Ct} {F F' : Hp} (s : Same F F') {ps : List (D × D)} {vs : List (V × V)} (h : RepP c F ps vs) : RepP c F' ps vs := by
  unfold RepP at h ⊢
  induction h with
  | nil => exact .nil
  | cons h t ih => exact .cons ⟨h.1.mono s, h.2.mono s⟩ ih
def lP (X : Cx) (m : M) (tp : DP) : L2.St → Hp → (List (V × V) → Hp → Prop) → Prop := fun σ H Q => ∃ ρ F, Sm X m σ H ρ F ∧ tp ρ fun ps ρ' => ∀ vs H' F', Same F F' → Sm X m σ H' ρ' F' → RepP (m.c X) F' ps vs → Q vs H'
structure PDP (X : Cx) (m : M) (pos : Pos) (keys : List (Option Expr)) (values : List Expr) (tp : DP) : Prop where
  pe : PPs2 X pos keys values (lP X m tp)
  mono : ∀ ρ Q Q', (∀ d ρ', Q d ρ' → Q' d ρ') → tp ρ Q → tp ρ Q'
def dpNil : DP := fun ρ Q => Q [] ρ
def dpCons (tk tv : DE) (tp : DP) : DP := fun ρ Q => tk ρ fun k ρ1 => tv ρ1 fun v ρ2 => tp ρ2 fun ps ρ3 => Q ((k, v) :: ps) ρ3
section
variable {X : Cx} {m : M} {pos : Pos} {keys : List (Option Expr)} {values : List Expr} {tk tv : DE} {tp : DP} {k v : Expr}
theorem pdp_nil : PDP X m pos [] [] dpNil := ⟨⟨fun pins s σ H Q I ⟨ρ, F, Sx, t⟩ => pairTrees_nil_walk ⟨[], H, I, .nil, t [] H F (Same.refl _) Sx .nil⟩⟩, fun ρ Q Q' i => i _ _⟩
theorem pdp_cons (hk : PD X m k tk) (hv : PD X m v tv) (hp : PDP X m pos keys values tp) : PDP X m pos (some k :: keys) (v :: values) (dpCons tk tv tp) := by
  refine ⟨⟨fun pins s σ H Q I ⟨ρ, F, Sx, t⟩ => pairTrees_cons_walk (thn (hk.pe.run pins s σ H (fun x H1 => ∃ kd ρ1 F1, Same F F1 ∧ Sm X m σ H1 ρ1 F1 ∧ Rep (m.c X) F1 kd x ∧ tv ρ1 fun v ρ2 => tp ρ2 fun ps ρ3 => ∀ vs H' F', Same F F' → Sm X m σ H' ρ3 F' → RepP (m.c X) F' ((kd, v) :: ps) vs → Q vs H') I ⟨ρ, F, Sx, hk.mono _ _ _ (fun d ρ1 q w H1 F1 s1 S1 r1 => ⟨d, ρ1, F1, s1, S1, r1, q⟩) t⟩) fun u s1 ⟨x, H1, I1, r1, kd, ρ1, F1, sF1, S1, rk, q1⟩ => ?_)⟩, fun ρ Q Q' i => hk.mono _ _ _ fun d ρ1 => hv.mono _ _ _ fun w ρ2 => hp.mono _ _ _ fun ps ρ3 => i _ _⟩
  refine thn (hv.pe.run pins s1 σ H1 (fun y H2 => ∃ vd ρ2 F2, Same F1 F2 ∧ Sm X m σ H2 ρ2 F2 ∧ Rep (m.c X) F2 vd y ∧ tp ρ2 fun ps ρ3 => ∀ vs H' F', Same F F' → Sm X m σ H' ρ3 F' → RepP (m.c X) F' ((kd, vd) :: ps) vs → Q vs H') I1 ⟨ρ1, F1, S1, hv.mono _ _ _ (fun d ρ2 q w H2 F2 s2 S2 r2 => ⟨d, ρ2, F2, s2, S2, r2, q⟩) q1⟩) fun u2 s2 ⟨y, H2, I2, r2, vd, ρ2, F2, sF2, S2, rv, q2⟩ => ?_
  refine thn (hp.pe.run pins s2 σ H2 (fun vs H3 => Q ((x, y) :: vs) H3) I2 ⟨ρ2, F2, S2, hp.mono _ _ _ (fun ps ρ3 q vs H3 F3 s3 S3 r3 => ?_) q2⟩) fun ws s3 ⟨ps, H3, I3, rel, q3⟩ => ⟨_, H3, I3, .cons ⟨r1, r2⟩ rel, q3⟩
  exact q _ H3 F3 (sF1.trans (sF2.trans s3)) S3 (.cons ⟨(rk.mono sF2).mono s3, rv.mono s3⟩ r3)
noncomputable def putsD : List (D × D) → List D → List D → List D × List D
  | [], ks, vs => (ks, vs)
  | (k, v) :: r, ks, vs => putsD r (putD ks vs k v).1 (putD ks vs k v).2
theorem put_own {c : Ct} {F H : Hp} {q : Addr} {kd : Nat} {ks vs : List D} {k d : D} {w v : V} (sF : Same F H) (ow : OwnAt c F H q (.dct kd ks vs)) (rk : Rep c F k w) (rv : Rep c F d v) (ok : keyOk kd k = true) (hl : ks.length < 16777216) :
    ∃ o, DPut H q w v (upd H q o) ∧ OwnAt c F (upd H q o) q (.dct kd (putD ks vs k d).1 (putD ks vs k d).2) := by
  rcases ow with ⟨rfl, es, g1, rfl, g3⟩ | ⟨rfl, es, g1, rfl, g3⟩
  · obtain ⟨key, hkey⟩ := Option.isSome_iff_exists.mp (show (keyOf k).isSome = true from ok)
    have ed := keyD_of hkey
    subst ed
    have ew := keyV_of rk hkey
    subst ew
    rw [List.length_map] at hl
    obtain ⟨p1, p2⟩ := put_of (f := keyD) (fun _ _ => keyD_inj) (k := key) rv g3
    exact ⟨_, DPut.k g1 (by rw [line16]; exact hl), .inl ⟨rfl, _, upd_same, p1, p2⟩⟩
  · cases k with
    | tup dk =>
      obtain ⟨key, hkey⟩ := Option.isSome_iff_exists.mp (show (keysOf dk).isSome = true from ok)
      have ed := keysD_of hkey
      subst ed
      obtain ⟨b, ws, rfl, b1, b2⟩ := rk
      have ew := keysV_of b2 hkey
      subst ew
      rw [List.length_map] at hl
      obtain ⟨p1, p2⟩ := put_of (f := fun k : List Key => _root_.DL.D.tup (k.map keyD)) (fun x y e => keysD_inj (by injection e)) (k := key) rv g3
      exact ⟨_, DPut.t g1 (sF _ _ b1) (by rw [line16]; exact hl), .inr ⟨rfl, _, upd_same, p1, p2⟩⟩
    | _ => cases ok
theorem putD_len {ks vs : List D} {k v : D} : (putD ks vs k v).1.length ≤ ks.length + 1 := by
  unfold putD
  split
  · exact Nat.le_succ _
  · simp
theorem puts_own {σ : L2.St} {ρ : Ro} {q : Addr} {kd : Nat} : ∀ {ps : List (D × D)} {ws : List (V × V)} {ks vs : List D} {H F : Hp} {R : Hp → Prop}, RepP (m.c X) F ps ws → (ps.all fun p => keyOk kd p.1) = true → ks.length + ps.length ≤ 16777216 →
    Sm X m σ H ρ F → F q = none → m.H0 q = none → Fresh σ ρ q → OwnAt (m.c X) F H q (.dct kd ks vs) → (∀ H', Sm X m σ H' ρ F → OwnAt (m.c X) F H' q (.dct kd (putsD ps ks vs).1 (putsD ps ks vs).2) → R H') → putsV q ws H R := by
  intro ps
  induction ps with
  | nil =>
    intro ws ks vs H F R rp _ _ Sx f h fr ow k
    cases rp
    exact k H Sx ow
  | cons p ps ih =>
    intro ws ks vs H F R rp al ln Sx f h fr ow k
    rcases rp with _ | ⟨⟨r1, r2⟩, rr⟩
    rw [List.all_cons, Bool.and_eq_true] at al
    simp only [List.length_cons] at ln
    obtain ⟨o, g, ow'⟩ := put_own Sx.gr.fs ow r1 r2 al.1 (by omega)
    refine ⟨_, g, ih rr al.2 ?_ (Sx.side f h fr) f h fr ow' k⟩
    have := putD_len (ks := ks) (vs := vs) (k := p.1) (v := p.2)
    omega
noncomputable def dDisp (kd : Nat) (tp : DP) : DE := fun ρ Q => tp ρ fun ps ρ' => ((ps.all fun p => keyOk kd p.1) = true ∧ ps.length ≤ 16777216) ∧ Q (.dct kd (putsD ps [] []).1 (putsD ps [] []).2) ρ'
theorem pf_disp (kd : Nat) (hkd : kd = 0 ∨ kd = 1) (hu : X.A.units + 1 < cLine) (h : ∀ m' : M, PDP X m' pos keys values tp) (hall : keys.all (·.isSome) = true := by rfl) (hl : keys.length = values.length := by rfl) (h0 : keys ≠ [] := by exact List.cons_ne_nil _ _) (h15 : keys.length ≤ 15 := by decide) :
    PF X m (.Dict keys values pos) (dDisp kd tp) := by
  have ho : (if kd = 0 then HO.dK [] else .dT []) = .dK [] ∨ (if kd = 0 then HO.dK [] else .dT []) = .dT [] := by
    split
    · exact .inl rfl
    · exact .inr rfl
  refine ⟨⟨fun pins s σ H Q I ⟨ρ, F, Sx, t⟩ => ?_⟩, fun ρ Q Q' i => (h m).mono _ _ _ fun ps ρ' ⟨a, q⟩ => ⟨a, i _ _ q⟩⟩
  have pp : PPs2 X pos keys values (fun σ H Q => ∃ m' : M, m'.st = m.st ∧ lP X m' tp σ H Q) := ⟨fun pins s2 σ H2 Q I ⟨m', _, q⟩ => (h m').pe.run pins s2 σ H2 Q I q⟩
  refine (pe_dispA (pos := pos) ho (Nat.lt_of_succ_lt hu) pp hall hl h0 h15).run pins s σ H Q I fun q hq => ?_
  obtain ⟨f1, f2⟩ := Sx.fresh0 hq
  have S1 := Sx.grow (Sx.allocO (o := (if kd = 0 then HO.dK [] else .dT [])) hq)
  have fr := fresh_of Sx hq
  refine ⟨⟨m.st, F, hideO σ ρ (upd H q (if kd = 0 then HO.dK [] else .dT []))⟩, rfl, ρ, F, S1.block, (h m).mono _ _ _ (fun ps ρ' ⟨⟨a1, a2⟩, k⟩ ws H2 F2 s2 S2 r2 => ?_) t⟩
  obtain ⟨g1, g2, g3⟩ := S1.aside S2 upd_same f1 f2 fr
  have S3 : Sm X m σ H2 ρ' F2 := S1.unblock S2
  have ow : OwnAt (m.c X) F2 H2 q (.dct kd [] []) := by
    rcases hkd with rfl | rfl
    · exact .inl ⟨rfl, [], g1, rfl, rfl⟩
    · exact .inr ⟨rfl, [], g1, rfl, rfl⟩
  exact puts_own (m := m) (X := X) r2 a1 (by simpa using a2) S3 g2 f2 g3 ow fun H' S' ow' => k q H' F2 s2 S' g2 f2 ow' g3
end
end DL
namespace DL
open PySem PySem.Spec L2 PyProof.Rows
section
variable {c : Ct} {F0 H0 F H F2 H2 : Hp} {σ σ2 : L2.St} {ρ ρ2 : Ro}
theorem Sim.backG {vs : List Nat} {h : Hp} (S : Sim c F0 H0 σ H ρ F) (T : Sim c F h σ2 H2 ρ2 F2) (k1 : ∀ b o, H0 b = some o → c.st ≠ some b → h b = some o) (k2 : ∀ a, h a = none → H0 a = none)
    (k3 : ∀ i ∈ vs, ∀ d a o, ρ[i]? = some (some (true, d)) → σ[i]? = some (some (.ref a)) → H a = some o → h a = some o) (eσ : L2.wipe σ2 vs = L2.wipe σ vs) (eρ : wipeD ρ2 vs = wipeD ρ vs) : Sim c F0 H0 σ H2 ρ F2 := by
  refine ⟨⟨fun b o e n => T.gr.keep b o (k1 b o e n) n, S.gr.f0.trans T.gr.f0, T.gr.fs, fun a o e => ?_, T.gr.tok⟩, S.len, fun i r e => ?_, S.sep, S.st0⟩
  · rcases T.gr.new a o e with z | z
    · exact S.gr.new a o z
    · exact .inr (k2 a z)
  · obtain ⟨v, ev, x⟩ := S.slot i r e
    refine ⟨v, ev, ?_⟩
    obtain ⟨b, d⟩ := r
    cases b with
    | false => exact Rep.mono T.gr.f0 x
    | true =>
      obtain ⟨a, rfl, h1, h2, ow⟩ := x
      by_cases hi : i ∈ vs
      · obtain ⟨o, ho⟩ := ow.has
        have hh := k3 i hi d a o e ev ho
        have h3 := T.gr.keep a o hh (S.ne_st h2)
        refine ⟨a, rfl, ?_, h2, ow.mono T.gr.f0 (by rw [ho, h3])⟩
        cases q : F2 a with
        | none => rfl
        | some u =>
          rcases T.gr.new a u q with z | z
          · rw [h1] at z; cases z
          · rw [hh] at z; cases z
      · have e2 : ρ2[i]? = some (some (true, d)) := by
          rw [← wipeD_get (ρ := ρ2) hi, eρ, wipeD_get hi]; exact e
        obtain ⟨v2, ev2, a2, ea2, g1, g2, ow2⟩ := T.slot i _ e2
        have e3 : σ2[i]? = σ[i]? := by rw [← L2.wipe_out (σ := σ2) hi, eσ, L2.wipe_out hi]
        rw [e3, ev] at ev2
        cases ev2
        cases ea2
        exact ⟨a, rfl, g1, h2, ow2⟩
theorem wipeV_idem (σ : L2.St) (vs : List Nat) : L2.wipe (L2.wipe σ vs) vs = L2.wipe σ vs := by
  have key : ∀ (ws : List Nat) (τ : L2.St), (∀ i ∈ ws, ∀ x, τ[i]? ≠ some (some x)) → L2.wipe τ ws = τ := by
    intro ws
    induction ws with
    | nil => intro τ _; rfl
    | cons w ws ih =>
      intro τ hn
      unfold L2.wipe
      rw [ih τ fun i hi => hn i (List.mem_cons_of_mem _ hi)]
      apply List.ext_getElem?
      intro j
      by_cases hj : w = j
      · subst hj
        by_cases hl : w < τ.length
        · rw [List.getElem?_set_self hl]
          have := hn w List.mem_cons_self
          rw [List.getElem?_eq_getElem hl] at this ⊢
          cases hq : τ[w] with
          | none => rfl
          | some x => rw [hq] at this; exact absurd rfl (this x)
        · rw [List.getElem?_eq_none (by simpa using hl), List.getElem?_eq_none (by omega)]
      · rw [List.getElem?_set_ne hj]
  exact key vs _ fun i hi x e => (L2.wipe_some e).2 hi
theorem wipeD_idem (ρ : Ro) (vs : List Nat) : wipeD (wipeD ρ vs) vs = wipeD ρ vs := by
  have key : ∀ (ws : List Nat) (τ : Ro), (∀ i ∈ ws, ∀ x, τ[i]? ≠ some (some x)) → wipeD τ ws = τ := by
    intro ws
    induction ws with
    | nil => intro τ _; rfl
    | cons w ws ih =>
      intro τ hn
      unfold wipeD
      rw [ih τ fun i hi => hn i (List.mem_cons_of_mem _ hi)]
      apply List.ext_getElem?
      intro j
      by_cases hj : w = j
      · subst hj
        by_cases hl : w < τ.length
        · rw [List.getElem?_set_self hl]
          have := hn w List.mem_cons_self
          rw [List.getElem?_eq_getElem hl] at this ⊢
          cases hq : τ[w] with
          | none => rfl
          | some x => rw [hq] at this; exact absurd rfl (this x)
        · rw [List.getElem?_eq_none (by simpa using hl), List.getElem?_eq_none (by omega)]
      · rw [List.getElem?_set_ne hj]
  exact key vs _ fun i hi x e => (wipeD_some e).2 hi
end
section
variable {X : Cx} {m : M} {e : Expr} {te : DE} {pos : Pos}
def accAt (c : Ct) (F0 H0 : Hp) (σ : L2.St) (ρ : Ro) (L : Addr) (F1 : Hp) (N : List D → Prop) (H : Hp) : Prop := ∃ acc vacc F', Same F1 F' ∧ Sim c F0 H0 σ H ρ F' ∧ H L = some (.lst vacc) ∧ Reps c F' acc vacc ∧ F' L = none ∧ N acc
theorem lc_step {F0 H0 F1 F3 H' : Hp} {σ : L2.St} {ρ1 : Ro} {dg : DG} {g : TG} {tt : DT} {own : List Nat} {L : Addr} {x : V} {d : D} {acc : List D} {vacc : List V} {N : List D → Prop} (hg : CTg X.K own g dg) (ht : ∀ ρ Q Q', (∀ d ρ', Q d ρ' → Q' d ρ') → tt ρ Q → tt ρ Q') (he : ∀ ρ Q Q', (∀ d ρ', Q d ρ' → Q' d ρ') → te ρ Q → te ρ Q')
    (s3 : Same F1 F3) (S3 : Sim (m.c X) F0 H0 σ H' ρ1 F3) (r3 : Rep (m.c X) F3 d x) (hL3 : H' L = some (.lst vacc)) (fL3 : F3 L = none) (fl2 : H0 L = none) (frL : Fresh σ ρ1 L) (racc : Reps (m.c X) F3 acc vacc) (turn : lcTurn dg tt te own ρ1 d acc N) :
    g x (L2.wipe σ own) H' fun σ2 H2 => L2.wipe σ2 own = L2.wipe σ own ∧ (∃ m' : M, m'.st = m.st ∧ lT X m' tt σ2 H2 fun b H3 => if b = true then ∃ m' : M, m'.st = m.st ∧ lE X m' te σ2 H3 fun y H7 => ∃ vs, H7 L = some (.lst vs) ∧ vs.length < sizeLine ∧ accAt (m.c X) F0 H0 σ ρ1 L F1 N (upd H7 L (.lst (vs ++ [y])))
      else accAt (m.c X) F0 H0 σ ρ1 L F1 N H3) := by
  have Sw := S3.wipe own
  have Sb := Sw.block
  have frW : Fresh (L2.wipe σ own) (wipeD ρ1 own) L := fun j d' e1 e2 => frL j d' (wipeD_some e1).1 (L2.wipe_some e2).1
  have keepL : ∀ {σ2 : L2.St} {H4 F4 : Hp} {ρ4 : Ro}, Sim (m.c X) F3 (hideO (L2.wipe σ own) (wipeD ρ1 own) H') σ2 H4 ρ4 F4 → H4 L = some (.lst vacc) ∧ F4 L = none := fun {σ2 H4 F4 ρ4} S4 => by
    obtain ⟨a, b, _⟩ := Sw.aside S4 hL3 fL3 fl2 frW
    exact ⟨a, b⟩
  refine hg.ok rfl Sb r3 turn fun σ2 ρ2 q2 S4 e1 e2 => ?_
  have e1' : L2.wipe σ2 own = L2.wipe σ own := e1.trans (wipeV_idem σ own)
  refine ⟨e1', ⟨m.st, F3, hideO (L2.wipe σ own) (wipeD ρ1 own) H'⟩, rfl, ρ2, F3, S4, ht _ _ _ (fun b ρ3 q3 H5 F5 s5 S5 => ?_) q2⟩
  cases b with
  | false =>
    rw [if_neg Bool.false_ne_true]
    obtain ⟨e3, n3⟩ := q3
    obtain ⟨k1, k2⟩ := keepL S5
    exact ⟨acc, vacc, F5, s3.trans s5, S3.back S5 e1' e3, k1, racc.mono s5, k2, n3⟩
  | true =>
    rw [if_pos rfl]
    refine ⟨⟨m.st, F3, hideO (L2.wipe σ own) (wipeD ρ1 own) H'⟩, rfl, ρ3, F5, S5, he _ _ _ (fun yd ρ4 q4 v H6 F6 s6 S6 r6 => ?_) q3⟩
    obtain ⟨e4, hlen, n4⟩ := q4
    obtain ⟨k1, k2⟩ := keepL S6
    have racc' : Reps (m.c X) F6 acc vacc := (racc.mono s5).mono s6
    exact ⟨vacc, k1, by rw [← racc'.length, line16]; exact hlen, acc ++ [yd], vacc ++ [v], F6, s3.trans (s5.trans s6), (S3.back S6 e1' e4).side k2 fl2 frL, upd_same, racc'.app (Reps.one r6), k2, n4⟩
theorem yld_in {F0 H0 F1 F2 H2 H' : Hp} {σ : L2.St} {ρ1 : Ro} {ds : List D} {J : It} {i : Nat} {x : V} {L : Addr} {vacc : List V} (ok : ItOk (m.c X) F1 ds J) (s2 : Same F1 F2) (S2 : Sim (m.c X) F0 H0 σ H2 ρ1 F2) (hlt : i < ds.length) (y : J.yld i H2 x H') (hL2 : H2 L = some (.lst vacc)) (fL2 : F2 L = none) :
    ∃ d F3, ds[i]? = some d ∧ Same F2 F3 ∧ Sim (m.c X) F0 H0 σ H' ρ1 F3 ∧ Rep (m.c X) F3 d x ∧ H' L = some (.lst vacc) ∧ F3 L = none := by
  obtain ⟨d, ed, yl⟩ := ok.yld i H2 x H' (s2.trans S2.gr.fs) hlt y
  rcases yl with ⟨rfl, r⟩ | ⟨T, vs, es, hT, rfl, rfl, rfl, r⟩
  · exact ⟨d, F2, ed, Same.refl _, S2, r.mono s2, hL2, fL2⟩
  · have gg := S2.alloc (o := .tup vs) hT
    have nT : L ≠ T := ne_of_none hL2 hT
    exact ⟨_, _, ed, gg.f0, S2.grow gg, ⟨T, vs, rfl, upd_same, (r.mono s2).mono gg.f0⟩, (upd_ne nT).trans hL2, (upd_ne nT).trans fL2⟩
def lessL (L : Addr) (H : Hp) : Hp := fun b => if b = L then none else H b
theorem Sim.lessL {c : Ct} {F0 H0 F H : Hp} {σ : L2.St} {ρ : Ro} (S : Sim c F0 H0 σ H ρ F) {L : Addr} (n : c.st ≠ some L) : Sim c F0 (lessL L H0) σ H ρ F := by
  have lo : ∀ b, H0 b = none → DL.lessL L H0 b = none := fun b h => by unfold DL.lessL; split <;> first | rfl | exact h
  refine ⟨⟨fun b o e k => ?_, S.gr.f0, S.gr.fs, fun a o e => (S.gr.new a o e).imp id (lo a), S.gr.tok⟩, S.len, fun i r e => ?_, S.sep, fun a h => ?_⟩
  · unfold DL.lessL at e
    split at e
    · cases e
    · exact S.gr.keep b o e k
  · obtain ⟨v, ev, x⟩ := S.slot i r e
    refine ⟨v, ev, ?_⟩
    obtain ⟨b, d⟩ := r
    cases b with
    | false => exact x
    | true =>
      obtain ⟨a, rfl, h1, h2, ow⟩ := x
      exact ⟨a, rfl, h1, lo a h2, ow⟩
  · obtain ⟨o, e⟩ := S.st0 a h
    refine ⟨o, ?_⟩
    exact (if_neg fun (z : a = L) => n (z ▸ h)).trans e
def lc2Turn (dg : DG) (tt : DT) (ti1 : DI) (dg1 : DG) (tt1 : DT) (te : DE) (vs vs1 : List Nat) (ρ1 : Ro) (d : D) (acc : List D) (N : List D → Prop) : Prop :=
  dg d (wipeD ρ1 vs) fun ρ2 => tt ρ2 fun b ρ3 => if b = true then ti1 ρ3 fun es ρ4 => wipeD ρ4 vs = wipeD ρ1 vs ∧ ∃ I : Nat → List D → Prop, I 0 acc ∧ (∀ j e acc, es[j]? = some e → I j acc → lcTurn dg1 tt1 te vs1 ρ4 e acc (I (j + 1))) ∧ ∀ acc, I es.length acc → N acc
    else wipeD ρ3 vs = wipeD ρ1 vs ∧ N acc
def lc2All (dg : DG) (tt : DT) (ti1 : DI) (dg1 : DG) (tt1 : DT) (te : DE) (vs vs1 : List Nat) (Q : D → Ro → Prop) (ds : List D) (ρ1 : Ro) : Prop :=
  ∃ I : Nat → List D → Prop, I 0 [] ∧ (∀ i d acc, ds[i]? = some d → I i acc → lc2Turn dg tt ti1 dg1 tt1 te vs vs1 ρ1 d acc (I (i + 1))) ∧ ∀ acc, I ds.length acc → Q (.lst acc) ρ1
def dLc2 (ti : DI) (dg : DG) (tt : DT) (ti1 : DI) (dg1 : DG) (tt1 : DT) (te : DE) (vs vs1 : List Nat) : DE := fun ρ Q => ti ρ (lc2All dg tt ti1 dg1 tt1 te vs vs1 Q)
theorem lc2_imp {ti ti1 : DI} {dg dg1 : DG} {g g1 : TG} {tt tt1 : DT} {own vs1 : List Nat} {tg iter : Expr} (hi : PDI X m tg iter ti) (hg : CTg X.K own g dg) (ht : ∀ ρ Q Q', (∀ d ρ', Q d ρ' → Q' d ρ') → tt ρ Q → tt ρ Q') (hi1 : ∀ ρ Q Q', (∀ d ρ', Q d ρ' → Q' d ρ') → ti1 ρ Q → ti1 ρ Q') (hg1 : CTg X.K vs1 g1 dg1) (ht1 : ∀ ρ Q Q', (∀ d ρ', Q d ρ' → Q' d ρ') → tt1 ρ Q → tt1 ρ Q') (he : ∀ ρ Q Q', (∀ d ρ', Q d ρ' → Q' d ρ') → te ρ Q → te ρ Q')
    (σ : L2.St) (H : Hp) (Q : VK) (R : D → Ro → Hp → Prop)
    (fin : ∀ {F F1 H' : Hp} {ρ1 : Ro} {acc : List D} {vacc : List V} {L : Addr}, Same F F1 → Sm X m σ H' ρ1 F1 → H' L = some (.lst vacc) → Reps (m.c X) F1 acc vacc → F1 L = none → m.H0 L = none → Fresh σ ρ1 L → R (.lst acc) ρ1 F → Q (.ref L) H')
    (h : ∃ ρ F, Sm X m σ H ρ F ∧ ti ρ (lc2All dg tt ti1 dg1 tt1 te own vs1 fun d ρ' => R d ρ' F)) :
    tLc2 (lI X m ti) g (fun σ H Q => ∃ m' : M, m'.st = m.st ∧ lT X m' tt σ H Q) (fun σ H R => ∃ m' : M, m'.st = m.st ∧ lI X m' ti1 σ H R) g1 (fun σ H Q => ∃ m' : M, m'.st = m.st ∧ lT X m' tt1 σ H Q) (fun σ H Q => ∃ m' : M, m'.st = m.st ∧ lE X m' te σ H Q) own vs1 σ H Q := by
  obtain ⟨ρ, F, S, h⟩ := h
  refine ⟨ρ, F, S, hi.mono _ _ _ (fun ds ρ1 q H1 F1 J s1 S1 ok => ?_) h⟩
  obtain ⟨I, i0, i1, i2⟩ := q
  intro L hL
  obtain ⟨fl1, fl2⟩ := S1.fresh0 hL
  have frL := fresh_of S1 hL
  refine ⟨fun i n H => n = ds.length - i ∧ i ≤ ds.length ∧ accAt (m.c X) m.F0 m.H0 σ ρ1 L F1 (I i) H, ⟨ds.length, by simp, Nat.zero_le _, [], [], F1, Same.refl _, S1.grow (S1.allocO hL), upd_same, rfl, fl1, i0⟩, ?_⟩
  rintro i n H2 ⟨rfl, hile, acc, vacc, F2, s2, S2, hL2, racc, fL2, w2⟩
  by_cases hlt : i < ds.length
  · refine .inr ⟨ok.go i H2 (s2.trans S2.gr.fs) hlt, accAt (m.c X) m.F0 m.H0 σ ρ1 L F1 (I (i + 1)), fun H' p => ⟨ds.length - (i + 1), by omega, rfl, hlt, p⟩, fun x H' y => ?_⟩
    obtain ⟨d, F3, ed, s3, S3, r3, hL3, fL3⟩ := yld_in ok s2 S2 hlt y hL2 fL2
    have turn := i1 i d acc ed w2
    have Sw := S3.wipe own
    have Sb := Sw.block
    have frW : Fresh (L2.wipe σ own) (wipeD ρ1 own) L := fun j d' e1 e2 => frL j d' (wipeD_some e1).1 (L2.wipe_some e2).1
    have nst : m.st ≠ some L := S3.ne_st fl2
    have nOw : ¬ OwnedBy (L2.wipe σ own) (wipeD ρ1 own) L := fun ⟨j, d', e1, e2⟩ => frW j d' e1 e2
    have hid : hideO (L2.wipe σ own) (wipeD ρ1 own) H' L = some (.lst vacc) := (hideO_not nOw).trans hL3
    refine hg.ok rfl Sb r3 turn fun σ2 ρ2 q2 S4 e1 e2 => ?_
    have e1' : L2.wipe σ2 own = L2.wipe σ own := e1.trans (wipeV_idem σ own)
    refine ⟨e1', ⟨m.st, F3, hideO (L2.wipe σ own) (wipeD ρ1 own) H'⟩, rfl, ρ2, F3, S4, ht _ _ _ (fun b ρ3 q3 H5 F5 s5 S5 => ?_) q2⟩
    cases b with
    | false =>
      rw [if_neg Bool.false_ne_true]
      obtain ⟨e3, n3⟩ := q3
      obtain ⟨k1, k2, _⟩ := Sw.aside S5 hL3 fL3 fl2 frW
      exact ⟨acc, vacc, F5, s2.trans (s3.trans s5), S3.back S5 e1' e3, k1, (racc.mono s3).mono s5, k2, n3⟩
    | true =>
      rw [if_pos rfl]
      refine ⟨⟨m.st, F3, hideO (L2.wipe σ own) (wipeD ρ1 own) H'⟩, rfl, ρ3, F5, S5, hi1 _ _ _ (fun es ρ4 q4 H6 F6 J1 s6 S6 ok1 => ?_) q3⟩
      obtain ⟨e4, I1, j0, j1, j2⟩ := q4
      obtain ⟨k1, k2, k3⟩ := Sw.aside S6 hL3 fL3 fl2 frW
      have S7 := S6.lessL (L := L) nst
      have lL : lessL L (hideO (L2.wipe σ own) (wipeD ρ1 own) H') L = none := if_pos rfl
      refine ⟨fun j k H => k = es.length - j ∧ j ≤ es.length ∧ accAt (m.c X) F3 (lessL L (hideO (L2.wipe σ own) (wipeD ρ1 own) H')) σ2 ρ4 L F6 (I1 j) H, ⟨es.length, by simp, Nat.zero_le _, acc, vacc, F6, Same.refl _, S7, k1, ((racc.mono s3).mono s5).mono s6, k2, j0⟩, ?_⟩
      rintro j k H8 ⟨rfl, jle, acc8, vacc8, F8, s8, S8, hL8, racc8, fL8, w8⟩
      by_cases jlt : j < es.length
      · refine .inr ⟨ok1.go j H8 (s8.trans S8.gr.fs) jlt, accAt (m.c X) F3 (lessL L (hideO (L2.wipe σ own) (wipeD ρ1 own) H')) σ2 ρ4 L F6 (I1 (j + 1)), fun H' p => ⟨es.length - (j + 1), by omega, rfl, jlt, p⟩, fun x1 H9 y1 => ?_⟩
        obtain ⟨d1, F9, ed1, s9, S9, r9, hL9, fL9⟩ := yld_in (m := m) ok1 s8 S8 jlt y1 hL8 fL8
        exact lc_step (m := m) hg1 ht1 he (s8.trans s9) S9 r9 hL9 fL9 lL k3 (racc8.mono s9) (j1 j d1 acc8 ed1 w8)
      · have e : j = es.length := by omega
        subst e
        refine .inl ⟨ok1.stop _ H8 (s8.trans S8.gr.fs) (Nat.le_refl _), acc8, vacc8, F8, s2.trans (s3.trans (s5.trans (s6.trans s8))), ?_, hL8, racc8, fL8, j2 acc8 w8⟩
        refine S3.backG (vs := own) S8 (fun b o e n => ?_) (fun a z => ?_) (fun i hi d' a o e ev ho => ?_) e1' e4
        · have nb : b ≠ L := fun z => by rw [z, fl2] at e; cases e
          refine (if_neg nb).trans ((hideO_not fun q => ?_).trans (S3.gr.keep b o e n))
          rw [(Sw.owned q).2.1] at e; cases e
        · by_cases za : a = L
          · rw [za]; exact fl2
          · have z : hideO (L2.wipe σ own) (wipeD ρ1 own) H' a = none := (if_neg za).symm.trans z
            by_cases q : OwnedBy (L2.wipe σ own) (wipeD ρ1 own) a
            · exact (Sw.owned q).2.1
            · rw [hideO_not q] at z
              exact (S3.fresh0 z).2
        · have na : a ≠ L := fun z => frL i d' e (z ▸ ev)
          refine (if_neg na).trans ((hideO_not fun ⟨j', d2, e1, e2⟩ => ?_).trans ho)
          obtain ⟨e1, nj⟩ := wipeD_some e1
          obtain ⟨e2, _⟩ := L2.wipe_some e2
          exact nj (S3.sep i j' _ _ a e e1 ev e2 ▸ hi)
  · have e : i = ds.length := by omega
    subst e
    exact .inl ⟨ok.stop _ H2 (s2.trans S2.gr.fs) (Nat.le_refl _), fin (s1.trans s2) S2 hL2 racc fL2 fl2 frL (i2 acc w2)⟩
theorem lc2_mono {ti ti1 : DI} {dg dg1 : DG} {tt tt1 : DT} {own vs1 : List Nat} {tg iter : Expr} (hi : PDI X m tg iter ti) : ∀ ρ (Q Q' : D → Ro → Prop), (∀ d ρ', Q d ρ' → Q' d ρ') → dLc2 ti dg tt ti1 dg1 tt1 te own vs1 ρ Q → dLc2 ti dg tt ti1 dg1 tt1 te own vs1 ρ Q' :=
  fun ρ Q Q' i => hi.mono _ _ _ fun ds ρ1 ⟨I, i0, i1, i2⟩ => ⟨I, i0, i1, fun acc w => i _ _ (i2 acc w)⟩
variable {elt tg iter tg1 iter1 : Expr} {ifs ifs1 : List Expr} {scope : Scope} {own : List (Str × Nat)} {vs1 : List Nat} {ti ti1 : DI} {dg dg1 : DG} {g g1 : TG} {tt tt1 : DT}
theorem blk_ti {s : Shared} {H : Hp} {C : Addr} {cl : List (Str × Addr)} {fp : List Addr} (hi : ∀ (s : Shared) (H : Hp) (C : Addr) (cl : List (Str × Addr)) (fp : List Addr) (m' : M), PDI (X.blk s H scope (compEnvC scope cl C X.env) fp) m' tg1 iter1 ti1) :
    PI (X.blk s H scope (compEnvC scope cl C X.env) fp) tg1 iter1 (fun σ H Q => ∃ m' : M, m'.st = m.st ∧ lI X m' ti1 σ H Q) := ⟨fun pins s2 σ H2 Q I ⟨m', _, q⟩ => (hi s H C cl fp m').pi.run pins s2 σ H2 Q I q⟩
theorem pf_lc2 (hc : X.calm = true) (hN : X.N.Nodup) (hi : PDI X m tg iter ti) (ok : BlkOk X.N X.env.scope scope own) (hv : ∀ i ∈ vs1, i ∈ own.map (·.2)) (hct : CTg X.K (own.map (·.2)) g dg)
    (hg : ∀ (s : Shared) (H : Hp) (C : Addr) (cl : List (Str × Addr)) (fp : List Addr), PG (X.blk s H scope (compEnvC scope cl C X.env) fp) tg g)
    (ht : ∀ (s : Shared) (H : Hp) (C : Addr) (cl : List (Str × Addr)) (fp : List Addr) (m' : M), PDTs (X.blk s H scope (compEnvC scope cl C X.env) fp) m' ifs tt)
    (hi1 : ∀ (s : Shared) (H : Hp) (C : Addr) (cl : List (Str × Addr)) (fp : List Addr) (m' : M), PDI (X.blk s H scope (compEnvC scope cl C X.env) fp) m' tg1 iter1 ti1) (hct1 : CTg X.K vs1 g1 dg1)
    (hg1 : ∀ (s : Shared) (H : Hp) (C : Addr) (cl : List (Str × Addr)) (fp : List Addr), PG (X.blk s H scope (compEnvC scope cl C X.env) fp) tg1 g1)
    (ht1 : ∀ (s : Shared) (H : Hp) (C : Addr) (cl : List (Str × Addr)) (fp : List Addr) (m' : M), PDTs (X.blk s H scope (compEnvC scope cl C X.env) fp) m' ifs1 tt1)
    (he : ∀ (s : Shared) (H : Hp) (C : Addr) (cl : List (Str × Addr)) (fp : List Addr) (m' : M), PD (X.blk s H scope (compEnvC scope cl C X.env) fp) m' elt te) (s0 : Shared) (hs : ∀ x, foldedSetIterable iter X.env x = pure x := by intro _; rfl) (hs1 : ∀ env x, foldedSetIterable iter1 env x = pure x := by intro _ _; rfl) :
    PF X m (.ListComp elt [⟨tg, iter, ifs, 0⟩, ⟨tg1, iter1, ifs1, 0⟩] scope pos) (dLc2 ti dg tt ti1 dg1 tt1 te (own.map (·.2)) vs1) := by
  have mt := (ht s0 m.H0 0 [] [] m).mono
  have mi1 := (hi1 s0 m.H0 0 [] [] m).mono
  have mt1 := (ht1 s0 m.H0 0 [] [] m).mono
  have me := (he s0 m.H0 0 [] [] m).mono
  refine ⟨PE.imp (pe_lc2 hc hN hi.pi ok hv hg (fun _ _ _ _ _ => blk_tt (m := m) ht) (fun _ _ _ _ _ => blk_ti (m := m) hi1) hg1 (fun _ _ _ _ _ => blk_tt (m := m) ht1) (fun _ _ _ _ _ => blk_te (m := m) he) hs hs1) fun σ H Q h => ?_, lc2_mono hi⟩
  refine lc2_imp hi hct mt mi1 hct1 mt1 me σ H Q (fun d ρ' F => ∀ p H' F', Same F F' → Sm X m σ H' ρ' F' → F' p = none → m.H0 p = none → OwnAt (m.c X) F' H' p d → Fresh σ ρ' p → Q (.ref p) H') (fun {F F1 H' ρ1 acc vacc L} s1 S1 h1 r1 f1 f2 fr k => ?_) h
  exact k L H' F1 s1 S1 f1 f2 ⟨vacc, h1, r1⟩ fr
end
end DL
namespace DL
open PySem PySem.Spec L2 PyProof.Rows
def putNs (f : Str) : List Str → List Str
  | [] => [f]
  | n :: ns => if n = f then n :: ns else n :: putNs f ns
def putVs (f : Str) (d : D) : List Str → List D → List D
  | n :: ns, v :: vs => if n = f then d :: vs else v :: putVs f d ns vs
  | _, _ => [d]
theorem putF_zip {c : Ct} {F : Hp} {f : Str} {d : D} {v : V} (r : Rep c F d v) : ∀ {ns : List Str} {ds : List D} {vs : List V}, ns.length = vs.length → Reps c F ds vs → ∃ ws, putF f v (ns.zip vs) = (putNs f ns).zip ws ∧ (putNs f ns).length = ws.length ∧ Reps c F (putVs f d ns ds) ws
  | [], [], vs, h, r0 => by
    obtain rfl : vs = [] := r0
    exact ⟨[v], rfl, rfl, Reps.one r⟩
  | [], d' :: ds, vs, h, r0 => by
    obtain ⟨w, r', rfl, _⟩ := r0
    cases h
  | n :: ns, [], vs, h, r0 => by
    obtain rfl : vs = [] := r0
    cases h
  | n :: ns, d' :: ds, vs, h, r0 => by
    obtain ⟨w, r', rfl, h1, h2⟩ := r0
    have h' : ns.length = r'.length := by simpa using h
    by_cases e : n = f
    · refine ⟨v :: r', ?_, ?_, ?_⟩
      · show (if n = f then (n, v) :: ns.zip r' else (n, w) :: putF f v (ns.zip r')) = (putNs f (n :: ns)).zip (v :: r')
        unfold putNs
        rw [if_pos e, if_pos e]; rfl
      · unfold putNs
        rw [if_pos e]; simpa using h'
      · unfold putVs
        rw [if_pos e]
        exact ⟨v, r', rfl, r, h2⟩
    · obtain ⟨ws, e1, e2, e3⟩ := putF_zip r h' h2
      refine ⟨w :: ws, ?_, ?_, ?_⟩
      · show (if n = f then (n, v) :: ns.zip r' else (n, w) :: putF f v (ns.zip r')) = (putNs f (n :: ns)).zip (w :: ws)
        unfold putNs
        rw [if_neg e, if_neg e, e1]; rfl
      · unfold putNs
        rw [if_neg e]; simpa using e2
      · unfold putVs
        rw [if_neg e]
        exact ⟨w, ws, rfl, h1, e3⟩
section
variable {X : Cx} {m : M} {e a b : Expr} {es : List Expr} {te ta tb : DE} {pos p pos' apos : Pos} {x : Str} {ua : DA} {i : Nat}
def setFd (K : Frag) (E : DEn) (i : Nat) (f : Str) (d : D) (ρ' : Ro) : Prop := ∃ q C ns vs, ρ'[i]? = some (some (true, .pin q (.ins C ns vs))) ∧ Cls K C ∧ NoAttr K C f ∧ ns.length < 1000 ∧ E.nx (ρ'.set i (some (true, .pin q (.ins C (putNs f ns) (putVs f d ns vs)))))
def dSetF (K : Frag) (i : Nat) (f : Str) (te : DE) : DS := fun E ρ => te ρ (setFd K E i f)
theorem pds_setF (i : Nat) {f : Str} (he : PD X m e te) (hN : X.N[i]? = some x := by rfl) (hV : Vis X.env.scope x := by first | exact .inl rfl | exact .inr (.inl rfl) | exact .inr (.inr rfl)) (hx : (x == ("__debug__" : Str)) = false := by decide) (hy : (x == ("__classdict__" : Str)) = false := by decide)
    (hs : swapsWith e (some (.Attribute (.Name x p) f pos')) pos.line X.env = pure false := by rfl) : PDS X m (.Assign [.Attribute (.Name x p) f pos'] e pos) (dSetF X.K i f te) := by
  refine ⟨PS.imp (ps_fld (pv i hN hV hx hy) he.pe hs) fun D σ H ⟨ρ, F, Sx, t⟩ => ⟨ρ, F, Sx, he.mono _ _ _ (fun d ρ' q v H' F' s S' r => ?_) t⟩, fun E E' ρ l h => he.mono _ _ _ (fun d ρ' ⟨q0, C, ns, vs, a1, a2, a3, a4, q⟩ => ⟨q0, C, ns, vs, a1, a2, a3, a4, l.nx _ q⟩) h⟩
  obtain ⟨q0, C, ns, vs, e1, c1, c2, c3, q⟩ := q
  obtain ⟨w, ev, a, rfl, g1, g2, rfl, dx, ws, ha, hl, rs⟩ := S'.slot i _ e1
  obtain ⟨us, u1, u2, u3⟩ := putF_zip (f := f) r hl rs
  refine ⟨_, ev, a, C, dx, _, rfl, ha, c1, c2, ?_, ?_⟩
  · rw [List.length_zip, ← hl]; omega
  · rw [u1]
    exact q σ _ F' s (S'.write e1 ev ⟨rfl, dx, us, upd_same, u2, u3⟩)
def OkM (P : Program) (w : World) (K : Frag) (mg : Str → Option Value) (base : Heap) (C : Addr) (x : Str) (k : Nat) (ps : List Str) (sd : SpD) : Prop :=
  ∃ f fd, FnOk P w K mg base CX0 k f fd ps (spOf K sd) ∧ Binds K fd ps [] ∧ Meth K C x f
def methRun (C : Addr) (x : Str) (sd : SpD) (Y : XP) (Q : D → Prop) (d : D) (ds : List D) : Prop := ∃ ns vs, d = .ins C ns vs ∧ x ∉ ns ∧ sd.run (d :: ds) Q Y
def dMethC (C : Addr) (x : Str) (sd : SpD) (Y : XP) (to : DE) (ua : DA) : DE := fun ρ Q => to ρ fun d ρ1 => (∃ ns vs, d = .ins C ns vs ∧ x ∉ ns) ∧ ua ρ1 fun ds ρ2 => sd.run (d :: ds) (fun z => Q z ρ2) Y
theorem methC_imp {C : Addr} {sd : SpD} {E : XK} {Y : XP} {to : DE} {o : Expr} {ess : List Expr} (ho : PD X m o to) (ha : PDA X m ess ua) (hE : ∀ {H F : Hp}, Grow (m.c X) m.F0 m.H0 F H → ∀ C ns vs, Y C ns vs → excEnd (m.c X) F H E C ns vs) (σ : L2.St) (H : Hp) (Q : VK) (h : lE X m (dMethC C x sd Y to ua) σ H Q) :
    tMeth C x (spOf X.K sd) [] E (lE X m to) (lA X m ua) σ H Q := by
  obtain ⟨ρ, F, Sx, t⟩ := h
  refine ⟨ρ, F, Sx, ho.mono _ _ _ (fun d ρ1 q v H1 F1 s1 S1 r1 => ?_) t⟩
  obtain ⟨⟨ns, vs, rfl, nx⟩, q⟩ := q
  obtain ⟨a, dx, ws, rfl, g1, g2, g3⟩ := id r1
  refine ⟨a, dx, _, rfl, S1.gr.fs _ _ g1, lookF_none nx, ρ1, F1, S1, ha.mono _ _ _ (fun ds ρ2 q us H2 F2 s2 S2 r2 => ?_) q⟩
  show spOf X.K sd (.ref a :: (us ++ [])) H2 Q E
  rw [List.append_nil]
  refine ⟨F2, m.st, _ :: ds, S2.gr.fs, S2.gr.tok, fun b n => ?_, ⟨_, _, rfl, r1.mono s2, r2⟩, sd.mono _ _ _ _ _ (fun d q v H' F' g rv => q v H' F' (s1.trans (s2.trans g.f0)) (S2.grow g) rv) (hE S2.gr) q⟩
  obtain ⟨_, _, _, _, _, _, _, h, _⟩ := S2.gr.tok b n
  exact ⟨_, h⟩
theorem methC_mono {C : Addr} {sd : SpD} {Y : XP} {to : DE} {o : Expr} {ess : List Expr} (ho : PD X m o to) (ha : PDA X m ess ua) : ∀ ρ (Q Q' : D → Ro → Prop), (∀ d ρ', Q d ρ' → Q' d ρ') → dMethC C x sd Y to ua ρ Q → dMethC C x sd Y to ua ρ Q' :=
  fun ρ Q Q' i => ho.mono _ _ _ fun d ρ1 ⟨h1, h2⟩ => ⟨h1, ha.mono _ _ _ (fun ds ρ2 => sd.mono _ _ _ _ _ (fun z => i _ _) fun _ _ _ q => q) h2⟩
variable {o : Expr} {to : DE} {C : Addr} {k j : Nat} {ps : List Str} {sd : SpD}
theorem pd_methC {pl : Sem Bool} (c : Cls X.K C) (F : OkM X.prog X.w X.K X.mg X.base C x j ps sd) (hr : Room k X.A) (hk : j ≤ k) (ho : PD X m o to) (ha : PDA X m (e :: es) ua) (hst : starEach (e :: es) X.env = (false, eval e X.env) :: starEach es X.env := by rfl) (hpl : (backTo pos (starEach es X.env)).any (·.1) = false := by rfl)
    (ht : eval (.Call (.Attribute o x apos) (e :: es) [] pos) X.env = (do let ov ← eval o X.env; standAt apos.atName; let (f, first) ← holding [ov] (getMethod ov x pl); callWith pos f first (backTo pos (starEach (e :: es) X.env)) (backToKw pos (keywordEach [] X.env))) := by rfl) :
    PD X m (.Call (.Attribute o x apos) (e :: es) [] pos) (dMethC C x sd XP0 to ua) := by
  obtain ⟨f, fd, G, hb, hm⟩ := F
  exact ⟨PE.imp (pe_meth (pl := pl) (CX := CX0) (E := E0) ho.pe c hm G (hr.mono hk) hb .nil pass0 ha.pe hst hpl ht) (methC_imp ho ha xp0), methC_mono ho ha⟩
theorem pd_methC0 {pl : Sem Bool} (c : Cls X.K C) (F : OkM X.prog X.w X.K X.mg X.base C x j ps sd) (hr : Room k X.A) (hk : j ≤ k) (ho : PD X m o to)
    (ht : eval (.Call (.Attribute o x apos) [] [] pos) X.env = (do let ov ← eval o X.env; standAt apos.atName; let (f, first) ← holding [ov] (getMethod ov x pl); callWith pos f first (backTo pos (starEach [] X.env)) (backToKw pos (keywordEach [] X.env))) := by rfl) :
    PD X m (.Call (.Attribute o x apos) [] [] pos) (dMethC C x sd XP0 to dNil) := by
  obtain ⟨f, fd, G, hb, hm⟩ := F
  refine ⟨PE.imp (pe_meth0 (pl := pl) (CX := CX0) (E := E0) ho.pe c hm G (hr.mono hk) hb .nil pass0 ht) fun σ H Q ⟨ρ, F, Sx, t⟩ => ?_, methC_mono ho pda_nil⟩
  refine ⟨ρ, F, Sx, ho.mono _ _ _ (fun d ρ1 q v H1 F1 s1 S1 r1 => ?_) t⟩
  obtain ⟨⟨ns, vs, rfl, nx⟩, q⟩ := q
  obtain ⟨a, dx, ws, rfl, g1, g2, g3⟩ := id r1
  refine ⟨a, dx, _, rfl, S1.gr.fs _ _ g1, lookF_none nx, ?_⟩
  show spOf X.K sd [.ref a] H1 Q E0
  refine ⟨F1, m.st, [_], S1.gr.fs, S1.gr.tok, fun b n => ?_, ⟨_, _, rfl, r1, rfl⟩, sd.mono _ _ _ _ _ (fun d q v H' F' g rv => q v H' F' (s1.trans g.f0) (S1.grow g) rv) (xp0 S1.gr) q⟩
  obtain ⟨_, _, _, _, _, _, _, h, _⟩ := S1.gr.tok b n
  exact ⟨_, h⟩
structure SpI where
  run : List D → (List Str → List D → Prop) → Prop
  mono : ∀ ds Q Q', (∀ ns vs, Q ns vs → Q' ns vs) → run ds Q → run ds Q'
abbrev mkI {A : Type} (enc : A → List D) (pre : A → Prop) (fl : A → List Str × List D) : SpI where
  run := fun ds Q => ∃ a, ds = enc a ∧ pre a ∧ Q (fl a).1 (fl a).2
  mono := fun _ _ _ i ⟨a, h1, h2, h3⟩ => ⟨a, h1, h2, i _ _ h3⟩
def spI (K : Frag) (C : Addr) (sd : SpI) : Sp := fun vs H Q _ => ∃ F st ds q dx ws, vs = .ref q :: ws ∧ H q = some (.ins C dx []) ∧ F q = none ∧ st ≠ some q ∧ Same F H ∧ Tok ⟨K, st⟩ F H ∧ (∀ a, st = some a → ∃ o, H a = some o) ∧ Reps ⟨K, st⟩ F ds ws ∧
  sd.run ds fun ns zs => ∀ H' F', Grow ⟨K, st⟩ F (lessL q H) F' H' → F' q = none → OwnAt ⟨K, st⟩ F' H' q (.ins C ns zs) → Q .non H'
def OkI (P : Program) (w : World) (K : Frag) (mg : Str → Option Value) (base : Heap) (x : Str) (k : Nat) (ps : List Str) (sd : SpI) : Prop :=
  ∃ f fd, FnOk P w K mg base CX0 k f fd ps (spI K (He.ga K x) sd) ∧ Binds K fd ps [] ∧ Mk K (He.ga K x) f ∧ mg x = some (.ref (He.ga K x))
def dMake (C : Addr) (sd : SpI) (ua : DA) : DE := fun ρ Q => ua ρ fun ds ρ' => sd.run ds fun ns zs => Q (.ins C ns zs) ρ'
theorem pf_make {sd : SpI} (F : OkI X.prog X.w X.K X.mg X.base x j ps sd) (hr : Room k X.A) (hk : j + 1 ≤ k) (ha : PDA X m (e :: es) ua) (hg : Gl X x := by rfl) (hdb : (x == ("__debug__" : Str)) = false := by decide)
    (he : starEach (e :: es) X.env = (false, eval e X.env) :: starEach es X.env := by rfl) (hpl : (backTo pos (starEach es X.env)).any (·.1) = false := by rfl) : PF X m (.Call (.Name x p) (e :: es) [] pos) (dMake (He.ga X.K x) sd ua) := by
  obtain ⟨f, fd, G, hb, M, gl⟩ := F
  refine ⟨PE.imp (pe_make (CX := CX0) (E := E0) M G (hr.mono hk) hg gl hb .nil pass0 ha.pe hdb he hpl) fun σ H Q ⟨ρ, F, Sx, t⟩ => ?_, fun ρ Q Q' i => ha.mono _ _ _ fun ds ρ' => sd.mono _ _ _ fun ns zs => i _ _⟩
  refine ⟨ρ, F, Sx, ha.mono _ _ _ (fun ds ρ1 q vs H1 F1 s1 S1 r1 q0 dx hq hd ne => ?_) t⟩
  obtain ⟨f1, f2⟩ := S1.fresh0 hq
  have S2 := S1.grow (S1.allocO (o := .own q0) hd)
  have hq2 : upd H1 dx (.own q0) q0 = none := (upd_ne (Ne.symm ne)).trans hq
  have S3 := S2.grow (S2.allocO (o := .ins (He.ga X.K x) dx []) hq2)
  show spI X.K (He.ga X.K x) sd (.ref q0 :: (vs ++ [])) _ _ _
  rw [List.append_nil]
  refine ⟨F1, m.st, ds, q0, dx, vs, rfl, upd_same, f1, S1.ne_st f2, S3.gr.fs, S3.gr.tok, fun b n => ?_, r1, sd.mono _ _ _ (fun ns zs k H' F' g h1 ow => ⟨rfl, ?_⟩) q⟩
  · obtain ⟨_, _, _, _, _, _, _, h, _⟩ := S3.gr.tok b n
    exact ⟨_, h⟩
  · have gg : Grow (m.c X) F1 H1 F' H' := by
      refine ⟨fun b o e n => g.keep b o ?_ n, g.f0, g.fs, fun a o e => (g.new a o e).imp id fun z => ?_, g.tok⟩
      · have n1 : b ≠ q0 := ne_of_none e hq
        have n2 : b ≠ dx := ne_of_none e hd
        exact (if_neg n1).trans ((upd_ne n1).trans ((upd_ne n2).trans e))
      · by_cases za : a = q0
        · rw [za]; exact hq
        · have z : upd (upd H1 dx (.own q0)) q0 (.ins (He.ga X.K x) dx []) a = none := (if_neg za).symm.trans z
          rw [upd_ne za] at z
          by_cases zd : a = dx
          · rw [zd, upd_same] at z; cases z
          · rwa [upd_ne zd] at z
    exact k q0 H' F' (s1.trans g.f0) (S1.grow gg) h1 f2 ow (fresh_of S1 hq)
end
structure DfM (K : Frag) (C x : Str) (qual : Str) (st : Stmt) (ps : List Str) : Prop where
  ex : ∃ fd, FunD K x qual (defArgs st) (defBody st) (defScope st) [] [] (He.ma K (He.ga K C) x) fd ∧ Binds K fd ps []
abbrev frz (N : List Str) (ds : List D) : Ro := ds.map (fun d => some (false, d)) ++ List.replicate (N.length - ds.length) none
theorem start_of {c : Ct} {F H : Hp} {N : List Str} {ds : List D} {vs : List V} (hs : Same F H) (ht : Tok c F H) (h0 : ∀ a, c.st = some a → ∃ o, H a = some o) (r : Reps c F ds vs) : Sim c F H (L2.start N vs) H (frz N ds) F := by
  have len0 : ds.length = vs.length := r.length
  refine ⟨Grow.refl hs ht, ?_, fun i r' e => ?_, fun i j d1 d2 b q1 q2 _ _ => ?_, h0⟩
  · unfold L2.start frz
    simp [len0]
  · have hi : i < ds.length := by
      by_cases hi : i < ds.length
      · exact hi
      · rw [List.getElem?_append_right (by simpa using hi), List.getElem?_replicate] at e
        split at e <;> cases e
    rw [List.getElem?_append_left (by simpa using hi), List.getElem?_map, List.getElem?_eq_getElem hi] at e
    cases e
    obtain ⟨v, ev, rv⟩ := r.get (List.getElem?_eq_getElem hi)
    refine ⟨v, ?_, rv⟩
    unfold L2.start
    rw [List.getElem?_append_left (by simpa [← len0] using hi), List.getElem?_map, ev]
    rfl
  · exfalso
    by_cases hi : i < ds.length
    · rw [List.getElem?_append_left (by simpa using hi), List.getElem?_map, List.getElem?_eq_getElem hi] at q1
      cases q1
    · rw [List.getElem?_append_right (by simpa using hi), List.getElem?_replicate] at q1
      split at q1 <;> cases q1
theorem okM_mk {P : Program} {w : World} {K : Frag} {mg : Str → Option Value} {base : Heap} {C x qual : Str} {st : Stmt} {N ps : List Str} {k : Nat} {sd : SpD} (F : DfM K C x qual st ps) (Mm : Meth K (He.ga K C) x (He.ma K (He.ga K C) x)) (S : FnScope N ps (defScope st))
    (len : ∀ ds Q E, sd.run ds Q E → ds.length = ps.length)
    (hbody : ∀ (cdv : Value) (A : Around) (outer : List Env) (s : Shared) (H : Hp) (E : XK) (m : M), Room k (A.deeper (envOfC qual (defScope st) s.heap.objs.size (He.ma K (He.ga K C) x) cdv)) →
      ∃ t, PDSs (cxOf CX0 P w K mg base N qual (defScope st) (He.ma K (He.ga K C) x) cdv A outer s H E).nox m (defBody st) t ∧
        ∀ ds Q E, sd.run ds Q E → t { nx := fun _ => Q .non, rt := fun d _ => Q d } (frz N ds)) : OkM P w K mg base (He.ga K C) x (k + 1) ps sd := by
  obtain ⟨fd, FD, hb⟩ := F.ex
  refine ⟨_, fd, FD.ok S (fun vs H Q E ⟨Fz, st, ds, _, _, _, r, h⟩ => by rw [← r.length]; exact len _ _ _ h) (fun cdv A outer s H vs Q E hr h => ?_), hb, Mm⟩
  obtain ⟨t, h1, h2⟩ := body_of h fun m => hbody cdv A outer s H E m hr
  exact ⟨t, h1.nox, h2⟩
theorem okI_mk {P : Program} {w : World} {K : Frag} {mg : Str → Option Value} {base : Heap} {C qual : Str} {st : Stmt} {N ps : List Str} {self : Str} {k : Nat} {sd : SpI} (F : DfM K C "__init__" qual st (self :: ps)) (Mm : Mk K (He.ga K C) (He.ma K (He.ga K C) "__init__")) (gl : mg C = some (.ref (He.ga K C))) (S : FnScope N (self :: ps) (defScope st))
    (len : ∀ ds Q, sd.run ds Q → ds.length = ps.length)
    (hbody : ∀ (cdv : Value) (A : Around) (outer : List Env) (s : Shared) (H : Hp) (E : XK) (m : M), Room k (A.deeper (envOfC qual (defScope st) s.heap.objs.size (He.ma K (He.ga K C) "__init__") cdv)) →
      ∃ t, PDSs (cxOf CX0 P w K mg base N qual (defScope st) (He.ma K (He.ga K C) "__init__") cdv A outer s H E).nox m (defBody st) t ∧
        ∀ q ds Q, sd.run ds Q → t { nx := fun ρ => ∃ ns vs, ρ[0]? = some (some (true, .pin q (.ins (He.ga K C) ns vs))) ∧ Q ns vs, rt := fun _ _ => False } ((frz N (.non :: ds)).set 0 (some (true, .pin q (.ins (He.ga K C) [] []))))) : OkI P w K mg base C (k + 1) (self :: ps) sd := by
  obtain ⟨fd, FD, hb⟩ := F.ex
  refine ⟨_, fd, FD.ok S (fun vs H Q E ⟨Fz, st, ds, q, dx, ws, e, _, _, _, _, _, _, r, h⟩ => by rw [e, List.length_cons, ← r.length, len _ _ h]; rfl) (fun cdv A outer s H vs Q E hr h => ?_), hb, Mm, gl⟩
  obtain ⟨Fz, tk, ds, q, dx, ws, rfl, hq, fq, nt, hs, ht, h0, r, h⟩ := h
  obtain ⟨t, ht2, k2⟩ := hbody cdv A outer s H E ⟨tk, Fz, lessL q H⟩ hr
  refine ⟨_, ht2.ps.nox, ?_⟩
  have S0 : Sim ⟨K, tk⟩ Fz H (L2.start N (.non :: ws)) H (frz N (.non :: ds)) Fz := start_of hs ht h0 ⟨_, _, rfl, rfl, r⟩
  have S1 := S0.lessL (L := q) nt
  have S2 := S1.setP (i := 0) (d := .pin q (.ins (He.ga K C) [] [])) (p := q) fq (if_pos rfl) ⟨rfl, dx, [], hq, rfl, rfl⟩ (fun j e e1 _ => by
    have : (frz N (.non :: ds))[j]? ≠ some (some (true, e)) := fun z => by
      unfold frz at z
      by_cases hi : j < (D.non :: ds).length
      · rw [List.getElem?_append_left (by simpa using hi), List.getElem?_map, List.getElem?_eq_getElem hi] at z
        cases z
      · rw [List.getElem?_append_right (by simpa using hi), List.getElem?_replicate] at z
        split at z <;> cases z
    exact this e1)
  have es : (L2.start N (.non :: ws)).set 0 (some (.ref q)) = L2.start N (.ref q :: ws) := rfl
  rw [es] at S2
  refine ⟨_, Fz, S2, ?_⟩
  refine ht2.mono { nx := fun ρ => ∃ ns vs, ρ[0]? = some (some (true, .pin q (.ins (He.ga K C) ns vs))) ∧ ∀ H' F', Grow ⟨K, tk⟩ Fz (lessL q H) F' H' → F' q = none → OwnAt ⟨K, tk⟩ F' H' q (.ins (He.ga K C) ns vs) → Q .non H', rt := fun _ _ => False } _ _ ⟨fun ρ ⟨ns, vs, e0, k⟩ σ' H' F' s' S' => ?_, fun d ρ q => q.elim, fun _ q => q.elim, fun _ q => q.elim⟩ (k2 q ds _ h)
  obtain ⟨v, ev, a, rfl, g1, g2, rfl, ow⟩ := S'.slot 0 _ e0
  exact k H' F' S'.gr g1 ow
end DL
namespace DL
open PySem PySem.Spec L2 PyProof.Rows
section
variable {X : Cx} {m : M} {pos : Pos} {x : Str}
theorem pd_cint {i : Int} (hm : ∃ t, X.mg x = some (.int i t)) (hg : Gl X x := by rfl) (hd : (x == ("__debug__" : Str)) = false := by decide) : PD X m (.Name x pos) (dC (.int i)) := by
  obtain ⟨t, e⟩ := hm
  exact pd_c (pe_glob (v := .int i) hg e ⟨t, rfl⟩ hd) fun _ => rfl
theorem pd_cstr {y : Str} (l : List Nat) (hm : ∃ t, X.mg x = some (.str y t)) (e0 : y = S l := by rfl) (hg : Gl X x := by rfl) (hd : (x == ("__debug__" : Str)) = false := by decide) : PD X m (.Name x pos) (dC (.str l)) := by
  obtain ⟨t, e⟩ := hm
  exact pd_c (pe_glob (v := .str y) hg e ⟨t, rfl⟩ hd) fun _ => congrArg V.str e0
end
section
variable {P : D → Prop}
theorem s_mulI {a b : Int} (h : CMul a b ∧ P (.int (a * b))) : fMul (.int a) (.int b) P := h
theorem s_mulS {a : List Nat} {k : Int} (h : (k ≤ 16777216 ∧ -(2 ^ 63) ≤ k ∧ a.length * k.toNat ≤ 16777216) ∧ P (.str (repL a k.toNat))) : fMul (.str a) (.int k) P := h
end
abbrev sdDraw : SpD := mkSp (fun many : Int => [.tok, .int many]) (fun many => 1 ≤ many ∧ many < 1073741824) (fun many d => ∃ v, d = .int v ∧ 0 ≤ v ∧ v < many)
abbrev rdr (ns : List Int) (i j k l : Int) : D := .lst [.lst (ns.map D.int), .int i, .int j, .int k, .int l]
theorem ints_of {c : Ct} {F : Hp} : ∀ {ns : List Int} {vs : List V}, Reps c F (ns.map D.int) vs → vs = ns.map V.int
  | [], _, h => h
  | n :: ns, _, h => by
    obtain ⟨v, r, rfl, h1, h2⟩ := h
    rw [show v = .int n from h1, ints_of h2]; rfl
theorem reps_ints {c : Ct} {F : Hp} : ∀ (ns : List Int), Reps c F (ns.map D.int) (ns.map V.int)
  | [] => rfl
  | n :: ns => ⟨_, _, rfl, rfl, reps_ints ns⟩
theorem frz_own {N : List Str} {ds : List D} {j : Nat} {e : D} : (frz N ds)[j]? ≠ some (some (true, e)) := fun z => by
  unfold frz at z
  by_cases hi : j < ds.length
  · rw [List.getElem?_append_left (by simpa using hi), List.getElem?_map, List.getElem?_eq_getElem hi] at z
    cases z
  · rw [List.getElem?_append_right (by simpa using hi), List.getElem?_replicate] at z
    split at z <;> cases z
theorem okDraw_mk {P : Program} {w : World} {K : Frag} {mg : Str → Option Value} {base : Heap} {x : Str} {st : Stmt} {N : List Str} {p1 p2 : Str} {k : Nat} (F : Df K mg x st [p1, p2]) (S : FnScope N [p1, p2] (defScope st))
    (hbody : ∀ (cdv : Value) (A : Around) (outer : List Env) (s : Shared) (H : Hp) (E : XK) (m : M), Room k (A.deeper (envOfC x (defScope st) s.heap.objs.size (He.ga K x) cdv)) →
      ∃ t, PDSs (cxOf CX0 P w K mg base N x (defScope st) (He.ga K x) cdv A outer s H E).nox m (defBody st) t ∧
        ∀ (q : Addr) (ns : List Int) (i j k l many : Int), ns.length ≤ 63 → 0 ≤ i → 1 ≤ many → many < 1073741824 →
          t { nx := fun _ => False, rt := fun d ρ => (∃ v, d = .int v ∧ 0 ≤ v ∧ v < many) ∧ ∃ i' j' k' l' : Int, 0 ≤ i' ∧ ρ[0]? = some (some (true, .pin q (rdr ns i' j' k' l'))) } ((frz N [.non, .int many]).set 0 (some (true, .pin q (rdr ns i j k l))))) : Ok P w K mg base x (k + 1) [p1, p2] sdDraw := by
  obtain ⟨fd, FD, hb⟩ := F.ex
  refine ⟨fd, FD.ok S (fun vs H Q E ⟨Fz, st, ds, _, _, _, r, many, e, _⟩ => by rw [← r.length, e]; rfl) (fun cdv A outer s H vs Q E hr h => ?_), hb, F.gl, FD.kp⟩
  obtain ⟨Fz, tk, ds, hs, ht, h0, r, many, rfl, ⟨m1, m2⟩, hq⟩ := h
  obtain ⟨v1, r1, rfl, ⟨a, ea, rfl⟩, v2, r3, rfl, rm, r5⟩ := r
  obtain rfl : r3 = [] := r5
  obtain rfl : v2 = .int many := rm
  obtain rfl : tk = some a := ea
  obtain ⟨fa, l, ns, i, j, k', l', ha, fl, n63, i0⟩ := ht a rfl
  obtain ⟨t, ht2, k2⟩ := hbody cdv A outer s H E ⟨none, Fz, lessL a H⟩ hr
  refine ⟨_, ht2.ps.nox, ?_⟩
  have S0 : Sim ⟨K, none⟩ Fz H (L2.start N [.non, .int many]) H (frz N [.non, .int many]) Fz := start_of hs (fun _ e => nomatch e) (fun _ e => nomatch e) ⟨_, _, rfl, rfl, _, _, rfl, rfl, rfl⟩
  have S1 := S0.lessL (L := a) (fun e => nomatch e)
  have S2 := S1.setP (i := 0) (d := .pin a (rdr ns i j k' l')) (p := a) fa (if_pos rfl) ⟨rfl, _, ha, _, _, rfl, ⟨l, _, rfl, fl, reps_ints ns⟩, _, _, rfl, rfl, _, _, rfl, rfl, _, _, rfl, rfl, _, _, rfl, rfl, rfl⟩ (fun j e e1 _ => frz_own e1)
  have es : (L2.start N [.non, .int many]).set 0 (some (.ref a)) = L2.start N [.ref a, .int many] := rfl
  rw [es] at S2
  refine ⟨_, Fz, S2, ?_⟩
  refine ht2.mono { nx := fun _ => False, rt := fun d ρ => (∃ v, d = .int v ∧ 0 ≤ v ∧ v < many) ∧ ∃ i' j' k' l' : Int, 0 ≤ i' ∧ ρ[0]? = some (some (true, .pin a (rdr ns i' j' k' l'))) } _ _ ⟨fun ρ q => q.elim, fun d ρ ⟨⟨v, ev, v0, v1⟩, i', j', k3, l3, i0', e0⟩ v' σ' H' F' S' rv => ?_, fun _ q => q.elim, fun _ q => q.elim⟩ (k2 a ns i j k' l' many n63 i0 m1 m2)
  subst ev
  obtain ⟨z, ez, a', rfl, g1, g2, rfl, ws, hw, x1, y1, rfl, ⟨l4, w4, rfl, f4, rs4⟩, x2, y2, rfl, b2, x3, y3, rfl, b3, x4, y4, rfl, b4, x5, y5, rfl, b5, b6⟩ := S'.slot 0 _ e0
  obtain rfl : y5 = [] := b6
  rw [show x2 = .int i' from b2, show x3 = .int j' from b3, show x4 = .int k3 from b4, show x5 = .int l3 from b5] at hw
  rw [ints_of rs4] at f4
  refine hq (.int v) ⟨v, rfl, v0, v1⟩ v' H' F' ⟨fun b o e n => ?_, S'.gr.f0, S'.gr.fs, fun b o e => ?_, fun b eb => ?_⟩ rv
  · refine S'.gr.keep b o ((if_neg fun e2 => n (by rw [e2])).trans e) (fun e => nomatch e)
  · rcases S'.gr.new b o e with z | z
    · exact .inl z
    · by_cases zb : b = a'
      · rw [zb, g1] at e; cases e
      · exact .inr ((if_neg zb).symm.trans z)
  · cases eb
    exact ⟨g1, l4, ns, i', j', k3, l3, hw, f4, n63, i0'⟩
def spNew (K : Frag) : Sp := fun vs H Q _ => ∃ (a : Addr) (ns : List Int), vs = [.ref a] ∧ SqL K H a (ns.map V.int) ∧ ∀ l s, H l = none → H s = none → s ≠ l → Q (.ref s) (upd (upd H l (.lst (ns.map V.int))) s (.lst [.ref l, .int 0, .int 0, .int 0, .int 0]))
def spLaw (K : Frag) : Sp := fun vs H Q _ => ∃ (a : Addr) (ns : List Int), vs = [.ref a] ∧ SqL K H a (ns.map V.int) ∧ ns.length ≤ 63 ∧ ∀ H', Q (.bl true) H'
def FnN (P : Program) (w : World) (K : Frag) (mg : Str → Option Value) (base : Heap) (x : Str) (k : Nat) (ps : List Str) (sp : Sp) : Prop := ∃ fd, FnOk P w K mg base CX0 k (He.ga K x) fd ps sp ∧ Binds K fd ps [] ∧ mg x = some (.ref (He.ga K x)) ∧ PySem.W.keepIn K (.ref (He.ga K x)) = true
theorem okLaw_mk {P : Program} {w : World} {K : Frag} {mg : Str → Option Value} {base : Heap} {x : Str} {st : Stmt} {N : List Str} {p1 xn y : Str} {i j k : Nat} {pa pb pc pd pe' : Pos} {rest : List Stmt} {fd : FuncData} (FD : FunD K x x (defArgs st) (defBody st) (defScope st) [] [] (He.ga K x) fd) (S : FnScope N [p1] (defScope st)) (G : FnN P w K mg base xn j [p1] (spNew K)) (hj : j ≤ k)
    (eb : defBody st = .Assign [.Name y pa] (.Call (.Name xn pb) [.Name p1 pc] [] pd) pe' :: rest) (hy : N[i]? = some y) (i0 : i ≠ 0) (hNN : N.Nodup) (h0 : N[0]? = some p1)
    (first : ∀ (cdv : Value) (A : Around) (outer : List Env) (s : Shared) (H : Hp) (E : XK), Room k (A.deeper (envOfC x (defScope st) s.heap.objs.size (He.ga K x) cdv)) →
      PS (cxOf CX0 P w K mg base N x (defScope st) (He.ga K x) cdv A outer s H E).nox (.Assign [.Name y pa] (.Call (.Name xn pb) [.Name p1 pc] [] pd) pe') (tAsg (tCall (spNew K) [] E0 (tCons (tVar 0) tNil)) (gName i)))
    (hbody : ∀ (cdv : Value) (A : Around) (outer : List Env) (s : Shared) (H : Hp) (E : XK), Room k (A.deeper (envOfC x (defScope st) s.heap.objs.size (He.ga K x) cdv)) →
      ∃ t, (∀ m, PDSs (cxOf CX0 P w K mg base N x (defScope st) (He.ga K x) cdv A outer s H E).nox m rest t) ∧
        t { nx := fun _ => False, rt := fun d _ => d = .bl true } ((List.replicate N.length none).set i (some (false, .tok)))) : FnOk P w K mg base CX0 (k + 1) (He.ga K x) fd [p1] (spLaw K) := by
  refine FD.ok S (fun vs H Q E ⟨a, ns, e, _⟩ => by rw [e]; rfl) (fun cdv A outer s H vs Q E hr h => ?_)
  obtain ⟨a, ns, rfl, hS, n63, hq⟩ := h
  obtain ⟨t, ht, k2⟩ := hbody cdv A outer s H E hr
  rw [eb]
  have pr : PSs (cxOf CX0 P w K mg base N x (defScope st) (He.ga K x) cdv A outer s H E).nox rest (fun D σ H' => ∃ m : M, lS (cxOf CX0 P w K mg base N x (defScope st) (He.ga K x) cdv A outer s H E).nox m t D σ H') := ⟨fun pins s2 σ H2 D I ⟨m, q⟩ => (ht m).ps.run pins s2 σ H2 D I q⟩
  refine ⟨_, (pss_cons (first cdv A outer s H E hr) pr).nox, ?_⟩
  have len : 0 < N.length := by
    cases N with
    | nil => cases h0
    | cons => simp
  have s0 : (L2.start N [.ref a])[0]? = some (some (.ref a)) := by
    unfold L2.start; simp
  refine ⟨_, s0, a, ns, rfl, hS, fun l s' hl hs' ne => ?_⟩
  have Fl : ∀ b o, (upd (fun _ => none : Hp) l (.lst (ns.map V.int))) b = some o → b = l ∧ o = .lst (ns.map V.int) := fun b o e => by
    by_cases z : b = l
    · subst z; rw [upd_same] at e; cases e; exact ⟨rfl, rfl⟩
    · rw [upd_ne z] at e; cases e
  have hF1 : (upd (fun _ => none : Hp) l (.lst (ns.map V.int))) s' = none := upd_ne ne
  have hF2 : (upd (fun _ => none : Hp) l (.lst (ns.map V.int))) l = some (.lst (ns.map V.int)) := upd_same
  refine ⟨⟨some s', upd (fun _ => none) l (.lst (ns.map V.int)), upd (upd H l (.lst (ns.map V.int))) s' (.lst [.ref l, .int 0, .int 0, .int 0, .int 0])⟩, (List.replicate N.length none).set i (some (false, .tok)), upd (fun _ => none) l (.lst (ns.map V.int)), ⟨Grow.refl (fun b o e => ?_) (fun b eb => ?_), ?_, fun j r e => ?_, fun j j' d e b q1 q2 => ?_, fun b eb => ?_⟩, ?_⟩
  · obtain ⟨rfl, rfl⟩ := Fl b o e
    exact (upd_ne (Ne.symm ne)).trans upd_same
  · cases eb
    refine ⟨?_, l, ns, 0, 0, 0, 0, ?_, ?_, n63, Int.le_refl _⟩
    · exact hF1
    · show upd _ _ _ s' = _
      rw [upd_same]
    · exact hF2
  · unfold L2.start
    simp; omega
  · by_cases z : j = i
    · subst z
      have jl : j < N.length := (List.getElem?_eq_some_iff.mp hy).1
      rw [List.getElem?_set_self (by simpa using jl)] at e
      cases e
      refine ⟨_, List.getElem?_set_self (by unfold L2.start; simp; omega), s', rfl, rfl⟩
    · rw [List.getElem?_set_ne (Ne.symm z), List.getElem?_replicate] at e
      split at e <;> cases e
  · exfalso
    by_cases z : j = i
    · subst z
      have jl : j < N.length := (List.getElem?_eq_some_iff.mp hy).1
      rw [List.getElem?_set_self (by simpa using jl)] at q1
      cases q1
    · rw [List.getElem?_set_ne (Ne.symm z), List.getElem?_replicate] at q1
      split at q1 <;> cases q1
  · cases eb
    exact ⟨_, upd_same⟩
  · refine (ht ⟨none, fun _ => none, fun _ => none⟩).mono { nx := fun _ => False, rt := fun d _ => d = .bl true } _ _ ⟨fun ρ q => q.elim, fun d ρ e v σ' H' F' S' rv => ?_, fun _ q => q.elim, fun _ q => q.elim⟩ k2
    subst e
    rw [show v = .bl true from rv]
    exact hq H'
end DL
namespace DL
open PySem PySem.Spec L2 PyProof.Rows
def optD : Option Nat → D
  | none => .non
  | some k => .int (k : Int)
def Nx (w : List Nat) (c p : Nat) : Option Nat → Prop
  | none => ∀ v, p ≤ v → w[v]? ≠ some c
  | some q => p < q ∧ w[q - 1]? = some c ∧ ∀ v, p ≤ v → v < q - 1 → w[v]? ≠ some c
def Lx (w : List Nat) (c p : Nat) : Option Nat → Prop
  | none => ∀ v, v + 1 < p → w[v]? ≠ some c
  | some q => 0 < q ∧ q < p ∧ w[q - 1]? = some c ∧ ∀ v, q - 1 < v → v + 1 < p → w[v]? ≠ some c
theorem S_toList (w : List Nat) : (S w).cps.toList = w := by simp [S]
theorem S_getD {w : List Nat} {v c : Nat} (hv : v < w.length) : (S w).cps.getD v 0 = c ↔ w[v]? = some c := by
  have hv' : v < (S w).length := by rw [S_len]; exact hv
  constructor
  · intro h
    have := StrLaws.getElem?_of_getD hv' h
    rwa [S_toList] at this
  · intro h
    exact StrLaws.getD_of_getElem? (by rw [S_toList]; exact h)
theorem find3_nx (w : List Nat) (c p : Nat) : (Txt.find3 (S w) (S [c]) p = -1 ∧ Nx w c p none) ∨ ∃ k : Nat, Txt.find3 (S w) (S [c]) p = (k : Int) ∧ Nx w c p (some (k + 1)) := by
  have fi : ∀ v, v < w.length → (fromIndex (S w).length (p : Int) ≤ v ↔ p ≤ v) := fun v hv => by
    unfold fromIndex
    rw [if_neg (by omega)]
    omega
  rcases StrLaws.find3_spec (S w) c (p : Int) with ⟨h1, h2⟩ | ⟨k, h1, h2, h3, h4, h5⟩
  · refine .inl ⟨h1, fun v hv e => ?_⟩
    have lv : v < w.length := (List.getElem?_eq_some_iff.mp e).1
    exact h2 v ((fi v lv).mpr hv) (by rw [S_len]; exact lv) ((S_getD lv).mpr e)
  · rw [S_len] at h3
    refine .inr ⟨k, h1, ?_, (S_getD h3).mp h4, fun v hv lt e => ?_⟩
    · have := (fi k h3).mp h2
      omega
    · have lv : v < w.length := (List.getElem?_eq_some_iff.mp e).1
      exact h5 v ((fi v lv).mpr hv) (by omega) ((S_getD lv).mpr e)
theorem rfind_lx (w : List Nat) (c p : Nat) : (Txt.rfind (S (w.take (p - 1))) (S [c]) = -1 ∧ Lx w c p none) ∨ ∃ k : Nat, Txt.rfind (S (w.take (p - 1))) (S [c]) = (k : Int) ∧ Lx w c p (some (k + 1)) := by
  have at_ : ∀ v, StrLaws.At (S (w.take (p - 1))) (S [c]) (S (w.take (p - 1))).length v ↔ w[v]? = some c ∧ v < p - 1 := fun v => by
    have h := StrLaws.subAt_one (S (w.take (p - 1))) c v
    rw [S_toList, List.getElem?_take] at h
    refine Iff.trans h ?_
    by_cases lt : v < p - 1
    · rw [if_pos lt]; exact ⟨fun e => ⟨e, lt⟩, fun e => e.1⟩
    · rw [if_neg lt]; exact ⟨(fun e => nomatch e), fun e => absurd e.2 lt⟩
  rcases rfind_whole (S (w.take (p - 1))) (S [c]) with ⟨h1, h2⟩ | ⟨k, h1, h2, h3⟩
  · exact .inl ⟨h1, fun v hv e => h2 v ((at_ v).mpr ⟨e, by omega⟩)⟩
  · obtain ⟨g1, g2⟩ := (at_ k).mp h2
    exact .inr ⟨k, h1, by omega, by omega, g1, fun v h4 h5 e => h3 v (by omega) ((at_ v).mpr ⟨e, by omega⟩)⟩
theorem look_none {α β : Type} {f : α → D} {g : β → D} (inj : ∀ x y, f x = f y → x = y) {a : α} : ∀ {l : List (α × β)}, a ∉ l.map (·.1) → lookD (l.map fun p => f p.1) (l.map fun p => g p.2) (f a) = none
  | [], _ => rfl
  | p :: l, h => by
    simp only [List.map_cons, List.mem_cons, not_or] at h
    simp only [List.map_cons, lookD]
    rw [if_neg fun e => h.1 (inj _ _ e).symm]
    exact look_none inj h.2
theorem look_some {α β : Type} {f : α → D} {g : β → D} (inj : ∀ x y, f x = f y → x = y) {a : α} {b : β} : ∀ {l : List (α × β)} {i : Nat}, (l.map (·.1)).Nodup → l[i]? = some (a, b) → lookD (l.map fun p => f p.1) (l.map fun p => g p.2) (f a) = some (g b)
  | [], i, _, h => by simp at h
  | p :: l, 0, nd, h => by
    simp at h
    subst h
    simp only [List.map_cons, lookD, if_true]
  | p :: l, i + 1, nd, h => by
    simp only [List.map_cons, List.nodup_cons] at nd
    simp at h
    have m : a ∈ l.map (·.1) := List.mem_map.mpr ⟨(a, b), List.mem_of_getElem? h, rfl⟩
    simp only [List.map_cons, lookD]
    rw [if_neg fun e => nd.1 (by rw [inj _ _ e]; exact m)]
    exact look_some inj nd.2 h
theorem look_isSome {α β : Type} [DecidableEq α] {f : α → D} {g : β → D} (inj : ∀ x y, f x = f y → x = y) {a : α} {l : List (α × β)} (nd : (l.map (·.1)).Nodup) : (lookD (l.map fun p => f p.1) (l.map fun p => g p.2) (f a)).isSome = decide (a ∈ l.map (·.1)) := by
  by_cases h : a ∈ l.map (·.1)
  · obtain ⟨⟨a', b⟩, hm, e⟩ := List.mem_map.mp h
    have e : a' = a := e
    subst e
    obtain ⟨i, hi⟩ := List.getElem?_of_mem hm
    rw [look_some inj nd hi, decide_eq_true h]; rfl
  · rw [look_none inj h, decide_eq_false h]; rfl
theorem put_new {α β : Type} {f : α → D} {g : β → D} (inj : ∀ x y, f x = f y → x = y) {a : α} {b : β} {l : List (α × β)} (h : a ∉ l.map (·.1)) :
    putD (l.map fun p => f p.1) (l.map fun p => g p.2) (f a) (g b) = ((l ++ [(a, b)]).map fun p => f p.1, (l ++ [(a, b)]).map fun p => g p.2) := by
  unfold putD
  rw [look_none inj h]
  simp
theorem nodup_len {α : Type} [DecidableEq α] : ∀ (l m : List α), l.Nodup → (∀ x ∈ l, x ∈ m) → l.length ≤ m.length
  | [], m, _, _ => Nat.zero_le _
  | x :: l, m, nd, sub => by
    obtain ⟨nx, nd⟩ := List.nodup_cons.mp nd
    have q := nodup_len l (m.erase x) nd fun y hy => (List.mem_erase_of_ne (fun (e : y = x) => nx (e ▸ hy))).mpr (sub y (List.mem_cons_of_mem _ hy))
    have z := (List.perm_cons_erase (sub x List.mem_cons_self)).length_eq
    simp only [List.length_cons] at z ⊢
    omega
def pairN (p : Nat × Nat) : D := .tup [.int (p.1 : Int), .int (p.2 : Int)]
theorem pairN_inj {p q : Nat × Nat} (h : pairN p = pairN q) : p = q := by
  unfold pairN at h
  simp only [D.tup.injEq, List.cons.injEq, D.int.injEq, and_true] at h
  exact Prod.ext (Int.ofNat.inj h.1) (Int.ofNat.inj h.2)
theorem box_len {l : List (Nat × Nat)} {a b : Nat} (nd : l.Nodup) (h : ∀ p ∈ l, p.1 < a ∧ p.2 < b) : l.length ≤ a * b := by
  have sub : ∀ x ∈ l.map (fun p => p.1 * b + p.2), x ∈ List.range (a * b) := fun x hx => by
    obtain ⟨p, hp, rfl⟩ := List.mem_map.mp hx
    obtain ⟨h1, h2⟩ := h p hp
    rw [List.mem_range]
    calc p.1 * b + p.2 < p.1 * b + b := by omega
      _ = (p.1 + 1) * b := by rw [Nat.succ_mul]
      _ ≤ a * b := Nat.mul_le_mul_right _ h1
  have nd2 : (l.map (fun p => p.1 * b + p.2)).Nodup := by
    refine List.pairwise_map.mpr (List.Pairwise.imp_of_mem (fun {p q} hp hq ne e => ne ?_) nd)
    obtain ⟨_, h2⟩ := h p hp
    obtain ⟨_, h4⟩ := h q hq
    have b0 : 0 < b := by omega
    have e1 : p.1 = q.1 := by
      have e : p.1 * b + p.2 = q.1 * b + q.2 := e
      have d1 : (p.1 * b + p.2) / b = p.1 := by rw [Nat.mul_comm, Nat.mul_add_div b0, Nat.div_eq_of_lt h2, Nat.add_zero]
      have d2 : (q.1 * b + q.2) / b = q.1 := by rw [Nat.mul_comm, Nat.mul_add_div b0, Nat.div_eq_of_lt h4, Nat.add_zero]
      rw [← d1, ← d2, e]
    have e2 : p.2 = q.2 := by
      have e : p.1 * b + p.2 = q.1 * b + q.2 := e
      rw [e1] at e; omega
    exact Prod.ext e1 e2
  have := nodup_len _ _ nd2 sub
  simpa using this
end DL
namespace DL
open PySem PySem.Spec L2 PyProof.Rows
def forO (i : Nat) (g : DG) (t : DS) (E : DEn) (a : Addr) (M : Nat) (I : Nat → Ro → Prop) : Prop := ∀ j ρ, I j ρ → ∃ ds, ρ[i]? = some (some (true, .pin a (.lst ds))) ∧ ds.length ≤ M ∧
  (∀ d, ds[j]? = some d → g d ρ fun ρ2 => t { E with nx := I (j + 1), ct := I (j + 1), bk := fun ρ3 => ∃ ds3, ρ3[i]? = some (some (true, .pin a (.lst ds3))) ∧ E.nx (ρ3.set i (some (true, .lst ds3))) } ρ2) ∧ (ds.length ≤ j → E.nx (ρ.set i (some (true, .lst ds))))
def dForO (i : Nat) (g : DG) (t : DS) : DS := fun E ρ => ∃ ds0, ρ[i]? = some (some (true, .lst ds0)) ∧ ∀ a : Addr, ∃ M I, I 0 (ρ.set i (some (true, .pin a (.lst ds0)))) ∧ forO i g t E a M I
section
variable {c : Ct} {F0 H0 F H : Hp} {σ : L2.St} {ρ : Ro}
theorem Sim.relab (S : Sim c F0 H0 σ H ρ F) {i : Nat} {d e : D} (h : ρ[i]? = some (some (true, d))) (k : ∀ a, σ[i]? = some (some (.ref a)) → OwnAt c F H a d → OwnAt c F H a e) : Sim c F0 H0 σ H (ρ.set i (some (true, e))) F := by
  have hi : i < ρ.length := (List.getElem?_eq_some_iff.mp h).1
  have old : ∀ {j : Nat} {x : D}, (ρ.set i (some (true, e)))[j]? = some (some (true, x)) → ∃ y, ρ[j]? = some (some (true, y)) := fun {j x} q => by
    by_cases z : j = i
    · subst z; exact ⟨_, h⟩
    · rw [List.getElem?_set_ne (Ne.symm z)] at q; exact ⟨_, q⟩
  refine ⟨S.gr, by rw [List.length_set]; exact S.len, fun j r q => ?_, fun j j' x y b q1 q2 e1 e2 => ?_, S.st0⟩
  · by_cases z : j = i
    · subst z
      rw [List.getElem?_set_self hi] at q
      cases q
      obtain ⟨v, ev, a, rfl, h1, h2, ow⟩ := S.slot j _ h
      exact ⟨_, ev, a, rfl, h1, h2, k a ev ow⟩
    · rw [List.getElem?_set_ne (Ne.symm z)] at q
      exact S.slot j r q
  · obtain ⟨x', q1⟩ := old q1
    obtain ⟨y', q2⟩ := old q2
    exact S.sep j j' _ _ b q1 q2 e1 e2
end
section
variable {X : Cx} {m : M} {pos : Pos} {t : DS}
theorem pds_forO (i : Nat) {tg it : Expr} {body : List Stmt} {g : DG} (hp : PassesOwn (model X.prog X.w) X.A X.env X.xe) (hc : X.calm = true) (hv : PE X it (tVar i)) (hg : PDG X m tg g) (hb : PDSs X m body t)
    (hs : ∀ x, foldedSetIterable it X.env x = pure x := by intro _; rfl) : PDS X m (.For tg it body [] pos) (dForO i g t) := by
  refine ⟨PS.imp (ps_for hp hc (piv_list.pi hv) hg.pg hb.ps hs) fun Dn σ H ⟨ρ, F, S, ds0, e0, h⟩ => ?_, fun E E' ρ l ⟨ds0, e0, h⟩ => ⟨ds0, e0, fun a => ?_⟩⟩
  · obtain ⟨v, ev, a, rfl, fa, ha0, vs0, hv0, r0⟩ := S.slot i _ e0
    obtain ⟨M, I, i0, turn⟩ := h a
    have S0 := S.relab e0 (e := .pin a (.lst ds0)) fun a' ea ow => by
      rw [ev] at ea
      cases ea
      exact ⟨rfl, ow⟩
    refine ⟨_, ev, a, rfl, ⟨vs0, SqL.of hv0⟩, fun j n σ H => n = M - j ∧ ∃ ρ F', Same F F' ∧ Sm X m σ H ρ F' ∧ I j ρ, ⟨_, rfl, _, F, Same.refl _, S0, i0⟩, ?_⟩
    rintro j n σ2 H2 ⟨rfl, ρ2, F2, s2, S2, w2⟩
    obtain ⟨ds, e2, hM, t1, t2⟩ := turn j ρ2 w2
    obtain ⟨v2, ev2, a2, rfl, f2, h2, rfl, vs, hvs, rs⟩ := S2.slot i _ e2
    have un : ∀ {σ3 : L2.St} {H3 F3 : Hp} {ρ3 : Ro} {ds3 : List D}, Sm X m σ3 H3 ρ3 F3 → ρ3[i]? = some (some (true, .pin a2 (.lst ds3))) → Sm X m σ3 H3 (ρ3.set i (some (true, .lst ds3))) F3 := fun {σ3 H3 F3 ρ3 ds3} S3 e3 => S3.relab e3 fun a' _ ow => ow.2
    by_cases hlt : j < ds.length
    · have ed : ds[j]? = some ds[j] := List.getElem?_eq_getElem hlt
      obtain ⟨x, ex, rx⟩ := rs.get ed
      refine .inr ⟨⟨vs, x, SqL.of hvs, ex⟩, fun σ' H' => ∃ ρ F', Same F F' ∧ Sm X m σ' H' ρ F' ∧ I (j + 1) ρ, fun σ' H' p => ⟨M - (j + 1), by omega, rfl, p⟩, fun y H' yl => ?_⟩
      obtain ⟨rfl, yl⟩ := yl
      have := yl vs (SqL.of hvs)
      rw [ex] at this
      cases this
      refine ⟨ρ2, F2, _, S2, rx, hg.mono _ _ _ _ (fun ρ4 q σ4 H4 F4 s4 S4 => ⟨ρ4, F4, S4, hb.mono _ _ _ ?_ q⟩) (t1 _ ed)⟩
      have sF : Same F F4 := s2.trans s4
      have nx : ∀ ρ5, I (j + 1) ρ5 → lN X m (fun σ' H' => ∃ ρ F', Same F F' ∧ Sm X m σ' H' ρ F' ∧ I (j + 1) ρ) F4 ρ5 := fun ρ5 w σ' H' F' s' S' => ⟨ρ5, F', sF.trans s', S', w⟩
      refine ⟨nx, fun _ _ h => h, fun ρ5 ⟨ds3, e3, q3⟩ σ' H' F' s' S' => ?_, nx⟩
      exact q3 σ' H' F' (sF.trans s') (un S' e3)
    · exact .inl ⟨⟨vs, SqL.of hvs, by rw [← rs.length]; omega⟩, t2 (by omega) σ2 H2 F2 s2 (un S2 e2)⟩
  · obtain ⟨M, I, i0, turn⟩ := h a
    refine ⟨M, I, i0, fun j ρ2 w => ?_⟩
    obtain ⟨ds, e2, hM, t1, t2⟩ := turn j ρ2 w
    exact ⟨ds, e2, hM, fun d ed => hg.mono _ _ _ _ (fun ρ3 h => hb.mono { E with nx := I (j + 1), ct := I (j + 1), bk := fun ρ3 => ∃ ds3, ρ3[i]? = some (some (true, .pin a (.lst ds3))) ∧ E.nx (ρ3.set i (some (true, .lst ds3))) } _ _ ⟨fun _ h => h, l.rt, fun ρ4 ⟨ds3, e3, q3⟩ => ⟨ds3, e3, l.nx _ q3⟩, fun _ h => h⟩ h) (t1 d ed), fun h => l.nx _ (t2 h)⟩
end
end DL
namespace DL
open PySem PySem.Spec L2 PyProof.Rows NdefX
structure SupF (P : Program) (K : Frag) (F : NF) (f D cc : Addr) : Prop where
  lk : ∃ oc od osl doc pm ctv, K.lookup f = some ⟨oc, od, .func (F.fd doc pm ctv), osl⟩
  hcd : PySem.W.codeIn K (.ref F.c) F.qual = true
  cl : F.cl = [(("__class__" : Str), cc)]
  cell : ∃ oc od osl, K.lookup cc = some ⟨oc, od, .cell (some (.ref D)), osl⟩
  file : ∃ oc od osl vs fl tf, K.lookup F.c = some ⟨oc, od, .fields vs, osl⟩ ∧ vs[2]? = some (.str fl tf) ∧ ((P.main.file : Str) == fl) = true
  top : (P.main.scope.names.lookup ("super" : Str)).isSome = false
structure SupC (K : Frag) (D C : Addr) : Prop where
  cD : (PySem.W.clsIn K D).isSome = true
  sub : PySem.W.mroIn K C (.ref D) = some true
  sup : PySem.W.ks_superIn K C D "__init__" = some (some (.builtin "ValueError.__init__"))
  ve : PySem.W.subIn K (.ref C) (.type "ValueError") = some true
  op : PySem.W.nsIn K cStatics "thirdparty.any" = some none
  ox : OexC K C
def spExI (K : Frag) (D : Addr) (fld : Str) : Sp := fun vs H Q _ => ∃ (a C : Addr) (y : V), vs = [.ref a, y] ∧ H a = some (exo a C none) ∧ SupC K D C ∧ PySem.W.findIn K (.ref C) fld = some none ∧
  ∀ dx, H dx = none → dx ≠ a → Q .non (upd (upd H dx (exd dx [(fld, y)])) a (exo a C (some dx)))
section
variable {P : Program} {w : World} {K : Frag} {mg : Str → Option Value} {base : Heap} {CX : CXT} {F : NF} {f D cc : Addr} {x1 x2 fld msg : Str} {N : List Str} {j : Nat} {p0 p1 p2 p3 p4 p5 q1 q2 q3 q4 : Pos} {doc pm ctv : Value}
theorem kont {h : Heap} {a : Addr} {xs : List Value} {X : Cx} {pins : List (Addr × Obj)} {σ : L2.St} {H : Hp} {g : Array GenState} {d : Drawn} {t : Nat} {os : OsState} {A : Around} {E : Value → Shared → Prop} {Q : Value → Shared → Prop} {C u : Addr} (T : OexC X.K C) (I : Inv X pins σ H ⟨h, g, d, t, os⟩) (e : H a = some (exo a C none)) (hu : h.get? u = some (PySem.W.kxs_mw "ValueError.__init__" a)) (hl : xs.length ≤ sizeLine)
    (k : ∀ s', Inv X pins σ H s' → Q .none s') : wpAny (model X.prog X.w) A (call (.ref u) xs) Q E ⟨h, g, d, t, os⟩ := by
  obtain ⟨nm, q, N0, bs, bm, sn, sub, ab, col, dd, k0, k1, k2, k3, k5, hC, hbm⟩ := T.cls
  obtain ⟨tt, he⟩ := exo_at I.hok e
  have hCh := I.kIn _ _ hC
  have FB := PySem.F.excBase_ValueError
  have fin : ∀ h', (∀ b o, b ≠ a → h.get? b = some o → h'.get? b = some o) → h'.get? a = some (PySem.W.excObj C h.objs.size none .none) → Q .none ⟨h', g, d, t, os⟩ := fun h' kp hx => by
    have J := I.write (t' := t) (x := a) (e := a) (o := exo a C none) (by rw [e]; exact True.intro) (.inl rfl) kp ⟨_, hx⟩ (exo_ok hx)
    have eu : upd H a (exo a C none) = H := funext fun b => by
      by_cases hb : b = a
      · rw [hb, upd_same, e]
      · exact upd_ne hb
    rw [eu] at J
    exact k _ J
  refine wpAny_call (codeAny_of_tree ?_)
  show wpAny _ (Around.in1 _) (callAny (Value.ref u) (Args.mk xs [])) _ _ _
  unfold callAny
  refine wpAny_bind (wpAny_load hu ?_)
  have e1 : (Value.type "method-wrapper" == Value.type "method" || Value.type "method-wrapper" == Value.type "builtin_function_or_method" || Value.type "method-wrapper" == Value.type "method-wrapper") = true := by decide
  simp only [PySem.W.kxs_mw, e1, if_true]
  refine PySem.W.KFB.if_so (by decide) ?_
  refine wpAny_bind (PySem.W.check_bound_init FB.toExcCallFacts hCh he rfl ?_)
  refine wpAny_bind (wpAny_pure (wpAny_pure ?_))
  refine ⟨plainId_quiet FB.init.plain _, codeAny_builtin FB.initEntry ?_⟩
  exact PySem.W.exc_init_tree (t0 := tt) (cls := .ref C) (dv := none) (c2 := .none) (c3 := .none) (b4 := .bool false) he hl fun h' kp hx _ => fin h' kp hx
theorem fn_exI {k : Nat} {ar : Arg} (SF : SupF P K F f D cc) (S : NScope [x1, x2, "__class__"] [x1, x2] ["__class__"] F.scope) (hks : F.scope.names.lookup ("super" : Str) = some .globalImplicit) (hm : mg "super" = none)
    (hpar : (F.params.posonlyargs ++ F.params.args).head? = some ar) (har : ar.arg = x1) (n1 : (x1 == ("__debug__" : Str)) = false) (n2 : (x2 == ("__debug__" : Str)) = false) (n3 : (x1 == ("__classdict__" : Str)) = false) (n4 : (x2 == ("__classdict__" : Str)) = false)
    (hev : ∀ L, ∃ pl, eval (.Call (.Attribute (.Call (.Name "super" p0) [] [] p1) "__init__" p2) [.Constant (.str msg) j p3] [] p4) (envF F f L) = (do
      let ov ← attributeBase (.Call (.Name "super" p0) [] [] p1) "__init__" (envF F f L) (eval (.Call (.Name "super" p0) [] [] p1) (envF F f L))
      standAt p2.atName
      let (g, first) ← holding [ov] (getMethod ov "__init__" pl)
      callWith p4 g first (backTo p4 (starEach [.Constant (.str msg) j p3] (envF F f L))) []))
    (hi : ∀ L, interactive (envF F f L) = false) (hsw : ∀ L, swapsWith (.Call (.Attribute (.Call (.Name "super" p0) [] [] p1) "__init__" p2) [.Constant (.str msg) j p3] [] p4) none p5.line (envF F f L) = pure false)
    (hst : ∀ L, swapsWith (.Name x2 q3) (some (.Attribute (.Name x1 q1) fld q2)) q4.line (envF F f L) = pure false)
    (hbody : F.body = [.Expr (.Call (.Attribute (.Call (.Name "super" p0) [] [] p1) "__init__" p2) [.Constant (.str msg) j p3] [] p4) p5, .Assign [.Attribute (.Name x1 q1) fld q2] (.Name x2 q3) q4]) :
    ∃ fd, (∃ doc pm ctv, fd = F.fd doc pm ctv) ∧ FnOk P w K mg base CX (k + 1) f fd [x1, x2] (spExI K D fld) := by
  obtain ⟨oc, od, osl, doc, pm, ctv, lk⟩ := SF.lk
  refine ⟨_, ⟨doc, pm, ctv, rfl⟩, fun vs H Q E ⟨a, C, y, e, _⟩ => by rw [e]; rfl, fun A outer s H args us vs Q E hr e0 hb r hsp => ?_⟩
  obtain ⟨a, C, y, rfl, ha, SC, hno, hq⟩ := hsp
  have KX : K.In s.heap := e0.mod.kin.keeps fun b o e => (e0.bs b o e).1
  have hbn : ∀ {b : Addr} {o : Obj}, K.lookup b = some o → H b = none := fun {b o} e => (e0.bs b o (e0.mod.kin b o e)).2
  have lim : s.heap.NoLimit := e0.mod.nolimit.keeps fun b o e => (e0.bs b o e).1
  obtain ⟨cc0, cd0, cs0, hcell⟩ := SF.cell
  have CA : CellsAt F.cl ["__class__"] [some (V.ref D)] s.heap H := by
    rw [SF.cl]
    have at1 : ∀ (y : Str) (c : Addr), List.lookup y [(("__class__" : Str), cc)] = some c → y = "__class__" ∧ c = cc := fun y c e => by
      by_cases hy : y = "__class__"
      · subst hy
        simp [List.lookup] at e
        exact ⟨rfl, e.symm⟩
      · have hb : (y == ("__class__" : Str)) = false := by simpa using hy
        simp [List.lookup, hb] at e
    refine ⟨rfl, fun y c e => ?_, fun y z c e1 e2 => ?_, fun i y hi => ?_⟩
    · obtain ⟨_, rfl⟩ := at1 y c e
      exact ⟨hbn hcell, _, _, KX _ _ hcell, rfl⟩
    · rw [(at1 y c e1).1, (at1 z c e2).1]
    · match i, hi with
      | 0, hi =>
        obtain rfl := Option.some.inj hi
        refine ⟨cc, by simp [List.lookup], fun v hv => ?_⟩
        obtain rfl := Option.some.inj (Option.some.inj hv)
        exact ⟨.ref D, rfl, _, KX _ _ hcell, rfl⟩
      | i + 1, hi => simp at hi
  refine codeAny_call_function hr.depth (KX _ _ lk) rfl S.co S.gen rfl (PySem.W.codeRec_of KX SF.hcd) (hb _ _ _ _ ?_)
  refine wpAny_newFunctionEnv S.nocell (fun ⟨n, _⟩ hy => S.par n (List.of_mem_zip hy).1) (fun h1 hns hsb => ⟨lim.fresh _ hsb, ?_⟩) S.kind
  show codeAny _ _ (Code.func F.body (envF F f s.heap.objs.size)) _ _
  refine ks_codeAny_funcAt ?_
  have kp : ∀ b o, s.heap.get? b = some o → h1.get? b = some o := fun b o e => hsb.extBut b o (Nat.ne_of_lt (Heap.lt_size e)) (Heap.get?_push_of_some _ e)
  have I : Inv (ncx CX P w K mg base [x1, x2, "__class__"] F f A outer s H E) [] (startF [x1, x2, "__class__"] [V.ref a, y] [some (V.ref D)]) H { s with heap := h1, toks := s.toks + ([x1, x2].zip us).length } := inv_startN S hr.hd e0 rfl r CA hns kp
  have XI : (ncx CX P w K mg base [x1, x2, "__class__"] F f A outer s H E).xe = fun e s' => wpAny (model P w) (A.deeper (envF F f s.heap.objs.size)) (leaving (envF F f s.heap.objs.size) e) (fun _ s'' => CX outer H s E e s'') (fun e' s'' => CX outer H s E e' s'') s' := rfl
  obtain ⟨m, hn, hlk⟩ := id I.loc
  obtain ⟨u1, ru1, lk1⟩ := hlk 0 x1 (.ref a) rfl rfl (.inl (S.par _ (by simp)))
  obtain rfl : u1 = Value.ref a := ru1
  have hl1 : F.scope.names.lookup x1 = some .local := S.par _ (by simp)
  have hm1 : m x1 = some (.ref a) := by
    rcases lk1 with ⟨_, e⟩ | ⟨k, _⟩
    · exact e
    · have k : F.scope.names.lookup x1 = some .cell ∨ F.scope.names.lookup x1 = some .free := k
      rw [hl1] at k
      rcases k with k | k <;> cases k
  have hkc : F.scope.names.lookup ("__class__" : Str) = some .free := S.frk _ (by simp)
  obtain ⟨mb, b1, b2⟩ := I.mod.blt
  obtain ⟨fo1, fo2, fo3, fvs, fl, tf, hcode, hvs, hfile⟩ := SF.file
  obtain ⟨cdD, hcD⟩ := Option.isSome_iff_exists.mp SC.cD
  obtain ⟨oD, hD1, hD2⟩ : ∃ oD, h1.get? D = some oD ∧ oD.data = .cls cdD := by
    unfold PySem.W.clsIn at hcD
    split at hcD
    · rename_i c d cd' sl ho
      cases hcD
      exact ⟨_, I.kIn _ _ ho, rfl⟩
    · cases hcD
  obtain ⟨tt, hea⟩ := exo_at I.hok ha
  generalize eE : (fun e s' => wpAny (model P w) (A.deeper (envF F f s.heap.objs.size)) (leaving (envF F f s.heap.objs.size) e) (fun _ s'' => CR CX outer P w H s Q E (.error e) s'') (fun e' s'' => CR CX outer P w H s Q E (.error e') s'') s') = EE
  rw [hbody]
  obtain ⟨pl, hev⟩ := hev s.heap.objs.size
  refine ks_wpAt_execs_cons (ks_wpAt_Expr_any (ks_wpAt_MethodCall (pl := pl) ?_ hev) (hi _) (hsw _))
  refine ks_wpAt_super_base (env := envF F f s.heap.objs.size) hks hkc rfl rfl (I.kIn _ _ lk) rfl hpar rfl (I.kIn _ _ hcode) rfl hvs hfile SF.top ?_
  refine PySem.W.ks_loadName_global S.kind hks (PySem.Calls.loadGlobal_builtin (env := envF F f s.heap.objs.size) (I.mod.glob.keeps I.bk) hm (b1.keeps I.bk) ((b2 "super" (by decide)).trans (by kernel_rfl)) ⟨rfl, ?_⟩)
  refine wpAny_loadName_free (env := envF F f s.heap.objs.size) (name := "__class__") (c := cc) S.kind hkc (by show List.lookup ("__class__" : Str) F.cl = _; rw [SF.cl]; simp [List.lookup]) ⟨_, I.kIn _ _ hcell, rfl⟩ ?_
  refine wpAny_loadName_local (env := envF F f s.heap.objs.size) S.kind (by show F.scope.names.lookup _ = _; rw [har]; exact hl1) hn (by rw [har]; exact hm1) ?_
  refine PySem.ks_wpAny_isType_cls hD1 hD2 ⟨rfl, ?_⟩
  refine PySem.ks_wpAny_call_super hD1 hD2 hea rfl (fun c e => nomatch e) (PySem.W.looks_mroIn I.kIn SC.sub) (fun h2 e2 k2 => ?_)
  have I2 := I.kept (h' := h2) (t' := s.toks + ([x1, x2].zip us).length) k2
  have hea2 := k2 _ _ hea
  have IA : PySem.W.InstAt h2 a (PySem.W.excObj C tt none .none) C none := ⟨hea2, rfl, rfl, True.intro⟩
  obtain ⟨cdC, hcC, hal⟩ : ∃ cd, PySem.W.clsIn K C = some cd ∧ PySem.W.alongIn K "__init__" ((cd.mro.dropWhile (· != .ref D)).drop 1) = some (some (.builtin "ValueError.__init__")) := by
    have z := SC.sup
    unfold PySem.W.ks_superIn at z
    cases hc : PySem.W.clsIn K C with
    | none => rw [hc] at z; cases z
    | some cd => rw [hc] at z; exact ⟨cd, rfl, z⟩
  refine PySem.W.kxs_getMethod (l₀ := cdC.mro) PySem.W.kxs_ValueError e2 (PySem.W.looks_opaque I2.kIn SC.op) (fun A' Q' E' s' k q => wpAny_bind ((PySem.W.looks_clsIn I2.kIn hcC) A' _ E' s' k (wpAny_pure q))) rfl I2.kIn hal (IA.type.andThen (PySem.W.looks_subIn I2.kIn SC.ve)) (PySem.W.ks_ne I2.kIn IA hcC) rfl ?_
  have I3 := I2.kept (h' := h2.push (PySem.W.kxs_mw "ValueError.__init__" a)) (t' := s.toks + ([x1, x2].zip us).length + 1) (fun b o e => Heap.get?_push_of_some _ e)
  have hu : (h2.push (PySem.W.kxs_mw "ValueError.__init__" a)).get? h2.objs.size = some (PySem.W.kxs_mw "ValueError.__init__" a) := Heap.get?_push_at rfl rfl
  have I4 : Inv (ncx CX P w K mg base [x1, x2, "__class__"] F f A outer s H E) [(h2.objs.size, PySem.W.kxs_mw "ValueError.__init__" a)] (startF [x1, x2, "__class__"] [V.ref a, y] [some (V.ref D)]) H _ := I3.pins_of fun p hp => by
    obtain rfl := List.mem_singleton.mp hp
    exact ⟨hu, I2.hok.fresh (Nat.le_refl _), fun z => absurd I2.lt (by rw [← z]; exact Nat.lt_irrefl _), I2.nofs (Nat.le_refl _), fun v z => nomatch z⟩
  have pa : PA (ncx CX P w K mg base [x1, x2, "__class__"] F f A outer s H E) [.Constant (.str msg) j p3] (tCons (tC (.str msg)) tNil) := pa_cons pe_str pa_nil
  refine PySem.W.kxs_callWith (i := "ValueError.__init__") (x := a) (by rfl) ?_
  show wpAny _ _ (evalArgs _ true ((false, eval (.Constant (.str msg) j p3) (envF F f s.heap.objs.size)) :: backTo p4 (starEach [] (envF F f s.heap.objs.size))) []) _ _ _
  refine PySem.Calls.evalArgs_plain ?_
  have run1 := pa.run p4 _ _ _ H (fun vs H1 => vs = [V.str msg] ∧ H = H1) I4 ⟨rfl, rfl⟩
  refine wpAny_mono run1 (fun vs1 s1 hh => ?_) (fun e s' he => ?_)
  · obtain ⟨vs2, H1, I5, r5, rfl, rfl⟩ := hh
    have hu5 := (I5.pin _ (List.mem_append_right _ List.mem_cons_self)).1
    refine ⟨hu5, ?_⟩
    have l1 : vs1.length ≤ sizeLine := by rw [← r5.length]; show 1 ≤ sizeLine; rw [sizeLine_eq]; omega
    obtain ⟨hp5, g5, d5, t5, os5⟩ := s1
    refine kont SC.ox I5 ha hu5 l1 fun s6 I6 => ?_
    have ps : PSs (ncx CX P w K mg base [x1, x2, "__class__"] F f A outer s H E) [.Assign [.Attribute (.Name x1 q1) fld q2] (.Name x2 q3) q4] (tOst K fld (tVar 0) (tVar 1)) :=
      pss_one (ps_ost (pv 0 rfl (.inl hl1) n1 n3) (pv 1 rfl (.inl (S.par _ (by simp))) n2 n4) (hst _))
    refine wpAt_of_wpAny ?_
    refine wpAny_mono (ps.run _ s6 _ H { nx := fun _ H' => Q .non H', rt := Q } I6 ⟨y, rfl, .ref a, rfl, a, C, rfl, SC.ox, hno, .inl ⟨ha, fun dx z1 z2 => hq dx z1 z2⟩⟩) (fun fl s' hs => ?_) (fun e s' he => by rw [← eE]; exact he)
    have fin : ∀ {σ' : L2.St} {H' : Hp} {v : V} {u : Value} {pn : List (Addr × Obj)}, Inv (ncx CX P w K mg base [x1, x2, "__class__"] F f A outer s H E) pn σ' H' s' → L2.RelV v u → Q v H' → CE outer P w H s Q u s' :=
      fun {σ' H' v u pn} J rv q => ⟨v, H', J.os, J.bare, J.base, J.hok, rv, q⟩
    cases fl with
    | ret u =>
      obtain ⟨v, σ', H', J, rv, q⟩ := hs
      exact fin J rv q
    | next =>
      obtain ⟨σ', H', J, q⟩ := hs
      exact fin (v := V.non) (u := Value.none) J rfl q
    | brk => exact (show False from hs.choose_spec.choose_spec.2).elim
    | cont => exact (show False from hs.choose_spec.choose_spec.2).elim
  · rw [← eE]
    exact he
end
end DL
namespace DL
open PySem PySem.Spec L2 PyProof.Rows L2H
abbrev blkH (X : Cx) (s : Shared) (H : Hp) (sc : Scope) (ev : Env) (fp : List Addr) : Cx := { X.blk s H sc ev fp with pn := X.pn }
theorem blkH_inv {X : Cx} {pins : List (Addr × Obj)} {σ τ : L2.St} {H G : Hp} {s t u : Shared} {sc : Scope} {ev : Env} {fp : List Addr} (I : Inv X pins σ H s) (J : Inv (X.blk t G sc ev fp) [] τ H u) (eL : ev.locals = s.heap.objs.size) (k : ∀ b o, s.heap.get? b = some o → u.heap.get? b = some o) :
    Inv (blkH X t G sc ev fp) [] τ H u :=
  ⟨⟨J.ok.mod, J.ok.kind, J.ok.glob, J.ok.blt, J.ok.above, J.ok.inj, J.ok.has, J.ok.cab, J.ok.hd, J.ok.frames, J.ok.stk, J.ok.exf, J.ok.bs, J.ok.bsz, J.ok.noex, J.ok.exfs, J.ok.funs, J.ok.frf⟩,
   J.os, J.bare, J.base, J.loc, J.cell, J.free, J.freeC, fun p hp => by
    have hp' : p ∈ X.pn := by simpa using hp
    obtain ⟨p1, p2, p3, p4, p5⟩ := I.pin p (List.mem_append_left _ hp')
    refine ⟨k _ _ p1, p2, fun z => ?_, fun hm => ?_, p5⟩
    · have z' : p.1 = ev.locals := z
      rw [eL] at z'
      exact absurd (Heap.lt_size p1) (by rw [z']; exact Nat.lt_irrefl _)
    · exact (List.mem_cons.mp (I.stkSub p.1 hm)).elim p3 p4, J.hok, J.len⟩
theorem hotC_blk {X : Cx} {s : Shared} {H : Hp} {sc : Scope} {ev : Env} {fp : List Addr} (c : HotC X) : HotC (blkH X s H sc ev fp) := by
  obtain ⟨p, h1, h2⟩ := c
  exact ⟨p, h1, h2⟩
section
variable {X : Cx}
theorem lcH_core {pins : List (Addr × Obj)} {s : Shared} {σ : L2.St} {H : Hp} {Q : VK} {elt tg iter : Expr} {ifs : List Expr} {sc : Scope} {own : List (Str × Nat)} {pos pos' : Pos} {wi : TI} {g : TG} {tt : TT} {te : TE} {use : Option (Value → Sem Unit)} {Qf : Value → Shared → Prop}
    (hc : HotC X) (hN : X.N.Nodup) (I : Inv X pins σ H s) (hi : PIH X tg iter wi) (ok : BlkOk X.N X.env.scope sc own)
    (hg : ∀ (s : Shared) (H : Hp) (C : Addr) (cl : List (Str × Addr)) (fp : List Addr), PG (blkH X s H sc (compEnvC sc cl C X.env) fp) tg g) (ht : ∀ (s : Shared) (H : Hp) (C : Addr) (cl : List (Str × Addr)) (fp : List Addr), PTs (blkH X s H sc (compEnvC sc cl C X.env) fp) ifs tt)
    (he : ∀ (s : Shared) (H : Hp) (C : Addr) (cl : List (Str × Addr)) (fp : List Addr), PE (blkH X s H sc (compEnvC sc cl C X.env) fp) elt te) (hs : ∀ x, foldedSetIterable iter X.env x = pure x)
    (h : tLc wi g tt te (own.map (·.2)) σ H Q)
    (fin : ∀ D C s' m H', Inv X pins σ H' s' → Q (.ref D) H' → s'.heap.Ns C m → FpOk X pins H' C → compPost (model X.prog X.w) X.A X.xe use Qf (.ref D) C (.ok .next) s') :
    wpAny (model X.prog X.w) X.A (comprehension (.ListComp elt [⟨tg, iter, ifs, 0⟩] sc pos) sc X.env pos' (newList []) false (eval iter X.env) use) Qf X.xe s := by
  have cells : ∀ y ∈ sc.names, y.2 = .free → ∃ c, X.env.cells.lookup y.1 = some c := fun y hy e => (ok.free y hy e).elim (fun z => I.ok.has _ (.inl z)) fun z => I.ok.has _ (.inr z)
  refine wpAny_comprehension_free (use := use) rfl hs (closure_ok cells) ok.kind (fun y hy e => by rw [ok.uniq y hy, e]) (thn (hi.run pins s σ H _ I h) fun xv a1 hx => thn hx fun itv a2 h2 => ?_)
  obtain ⟨it, fp, tn, J, G2, rfl, I2, T, st2, f2, q⟩ := h2
  refine wpAny_newObj_type (newEnv_comp ?_) (Nat.zero_le _)
  have hDn : G2 a2.heap.objs.size = none := I2.hok.fresh (Nat.le_refl _)
  obtain ⟨W, ⟨m0, w0⟩, turn⟩ := q a2.heap.objs.size hDn
  generalize hD : a2.heap.objs.size = D at hDn w0 turn
  obtain ⟨a3, ha3⟩ : ∃ a3 : Shared, a3 = { a2 with heap := a2.heap.push { cls := .type "list", data := .seq ([] : List Value).toArray } } := ⟨_, rfl⟩
  have h3 : a3.heap = a2.heap.push { cls := .type "list", data := .seq ([] : List Value).toArray } := by rw [ha3]
  have I3 : Inv X pins σ (upd G2 D (.lst [])) a3 := by
    rw [ha3]
    refine I2.laid (t' := a2.toks) (fun b o e => Heap.get?_push_of_some _ e) (Nat.le_of_eq hD) ⟨Nat.zero_le _, [], 0, .nil, ?_⟩
    rw [← hD]
    exact Heap.get?_push_size _ rfl
  have low : ∀ b ∈ fp, b < a2.heap.objs.size := fun b hb => Heap.lt_size (T.obj _ _ st2 b hb).choose_spec.1
  have f3 : ∀ b ∈ fp, FpOk X pins (upd G2 D (.lst [])) b ∧ b < a3.heap.objs.size := fun b hb => by
    have lt := low b hb
    refine ⟨⟨?_, (f2 b hb).2⟩, by rw [h3, Heap.size_push]; exact Nat.lt_succ_of_lt lt⟩
    rw [upd_ne (by rw [← hD]; exact Nat.ne_of_lt lt)]
    exact (f2 b hb).1
  have st3 : tn 0 a3.heap := T.keep _ _ _ st2 fun b _ o e => by rw [h3]; exact Heap.get?_push_of_some _ e
  have J4 := block_start I3 ok hN f3
  have kb : ∀ b o, a3.heap.get? b = some o → (pushCells (a3.heap.push { cls := .type "dict", data := .dict #[] }) sc.names).get? b = some o := fun b o e => pushCells_keeps _ _ _ _ (Heap.get?_push_of_some _ e)
  have I4 := blkH_inv I3 J4 rfl kb
  have pg := hg a3 (upd G2 D (.lst [])) a3.heap.objs.size (cellsFrom (a3.heap.objs.size + 1) sc.names (cloFrom X.env.cells sc.names [])) fp
  have pt := ht a3 (upd G2 D (.lst [])) a3.heap.objs.size (cellsFrom (a3.heap.objs.size + 1) sc.names (cloFrom X.env.cells sc.names [])) fp
  have pe := he a3 (upd G2 D (.lst [])) a3.heap.objs.size (cellsFrom (a3.heap.objs.size + 1) sc.names (cloFrom X.env.cells sc.names [])) fp
  have goal : codeAny (model X.prog X.w) X.A (.compStart (.ListComp elt [⟨tg, iter, ifs, 0⟩] sc pos) 0 (.ref it) (.ref D) (compEnvC sc (cellsFrom (a3.heap.objs.size + 1) sc.names (cloFrom X.env.cells sc.names [])) a3.heap.objs.size X.env)) (compPost (model X.prog X.w) X.A X.xe use Qf (.ref D) a3.heap.objs.size) { a3 with heap := pushCells (a3.heap.push { cls := .type "dict", data := .dict #[] }) sc.names } := by
    have none3 : ∀ b ∈ fp, (upd G2 D (.lst [])) b = none := fun b hb => (f3 b hb).1.1
    generalize hev : compEnvC sc (cellsFrom (a3.heap.objs.size + 1) sc.names (cloFrom X.env.cells sc.names [])) a3.heap.objs.size X.env = ev at I4 pg pt pe ⊢
    have eL : ev.locals = a3.heap.objs.size := by subst hev; rfl
    generalize hG3 : upd G2 D (.lst []) = G3 at I3 I4 pg pt pe w0 none3 f3
    generalize ha4 : ({ a3 with heap := pushCells (a3.heap.push { cls := .type "dict", data := .dict #[] }) sc.names } : Shared) = a4 at I4 ⊢
    have st4 : tn 0 a4.heap := T.keep _ _ _ st3 fun b _ o e => by rw [← ha4]; exact kb b o e
    have hcB : HotC (blkH X a3 G3 sc ev fp) := hotC_blk hc
    have nopin : ∀ b ∈ fp, ∀ p ∈ X.pn, p.1 ≠ b := fun b hb p hp => (f3 b hb).1.2.2.2.2.2 p (List.mem_append_left _ hp)
    have stat : ∀ {σ' : L2.St} {H' : Hp} {s' : Shared}, Inv (blkH X a3 G3 sc ev fp) [] σ' H' s' → (∀ b ∈ fp, H' b = none) → ∀ b ∈ fp, FpOk (blkH X a3 G3 sc ev fp) [] H' b := fun {σ' H' s'} I' hn b hb =>
      ⟨hn b hb, (I'.ok.exf b hb).1, I'.ok.exfs b hb, .inl hb, fun x c e => (I'.ok.exf b hb).2 x c e, fun p hp => nopin b hb p (by simpa using hp)⟩
    have loop : codeAny (model X.prog X.w) X.A (.compLoop (.ListComp elt [⟨tg, iter, ifs, 0⟩] sc pos) 0 (.ref it) (.ref D) ev) (compPost (model X.prog X.w) X.A X.xe use Qf (.ref D) a3.heap.objs.size) a4 := by
      refine compLoop_any (fun n s' => ∃ i H', Inv (blkH X a3 G3 sc ev fp) [] (wipe σ (own.map (·.2))) H' s' ∧ tn i s'.heap ∧ (∀ b ∈ fp, H' b = none) ∧ W i n H') ?_ m0 ⟨0, G3, I4, st4, none3, w0⟩
      rintro n a5 ⟨i, G5, I5, st5, n5, w5⟩
      rcases turn i n G5 w5 with ⟨stop, qq⟩ | ⟨go, Nx, hNx, step⟩
      · have td := T.done (blkH X a3 G3 sc ev fp) rfl rfl rfl hcB i [] a5 _ G5 (fun _ _ => False) I5 (stat I5 n5) st5 stop
        refine thnF td fun r a6 ⟨hr, I6⟩ => ?_
        subst hr
        have I7 : Inv X pins σ G5 a6 := I3.call' (ch := fp) I6.os I6.base I6.hok I6.bare fun b hb => ⟨(f3 b hb).1.2.2.2.1, (f3 b hb).1.2.1, (f3 b hb).1.2.2.2.2.1, (f3 b hb).1.2.2.2.2.2⟩
        have nC : G5 ev.locals = none := I6.free
        obtain ⟨m, hn, _⟩ := I6.loc
        have hn : a6.heap.Ns ev.locals m := hn
        rw [eL] at hn nC
        exact fin D _ a6 m G5 I7 qq hn (I3.fpOk (Nat.le_refl _) nC)
      · have ti := T.item (blkH X a3 G3 sc ev fp) rfl rfl rfl hcB i [] a5 _ G5 (fun _ _ => False) I5 (stat I5 n5) st5 go
        refine thnF ti fun r a6 ⟨u, hr, h6⟩ => ?_
        subst hr
        refine thnF h6 fun _ a7 ⟨x, G7, I7, r7, y7, st7, n7⟩ => ?_
        refine thnF (pg.run _ a7 _ G7 x u _ (I7.pinned (stat I7 n7) (T.obj _ _ st7)) r7 (step x G7 y7)) fun _ a8 ⟨σ8, G8, I8, hw8, q8⟩ => ?_
        refine thnF (pt.run _ a8 σ8 G8 _ I8 q8) fun b a9 ⟨G9, I9, q9⟩ => ?_
        have next : ∀ {s' : Shared} {H' : Hp}, Inv (blkH X a3 G3 sc ev fp) ([] ++ pinsAt fp a7.heap) σ8 H' s' → Nx H' → ∃ m, m < n ∧ ∃ i H', Inv (blkH X a3 G3 sc ev fp) [] (wipe σ (own.map (·.2))) H' s' ∧ tn i s'.heap ∧ (∀ b ∈ fp, H' b = none) ∧ W i m H' := fun {s' H'} I' nx => by
          obtain ⟨m', hm, w'⟩ := hNx H' nx
          have kept : ∀ b ∈ fp, ∀ o, a7.heap.get? b = some o → s'.heap.get? b = some o ∧ H' b = none := fun b hb o e => by
            have z := I'.pin (b, o) (List.mem_append_right _ (List.mem_append_right _ (mem_pinsAt hb e)))
            exact ⟨z.1, z.2.1⟩
          refine ⟨m', hm, i + 1, H', (I'.unpinned (pins := [])).weak (by rw [← hw8, wipe_length]) (fun j v e => ?_), T.keep _ _ _ st7 fun b hb o e => (kept b hb o e).1, fun b hb => ?_, w'⟩
          · rw [← hw8] at e
            exact (wipe_some e).1
          · obtain ⟨o, e, _⟩ := T.obj _ _ st7 b hb
            exact (kept b hb o e).2
        cases b with
        | false => exact next I9 q9
        | true =>
          refine thnF (pe.run _ a9 σ8 G9 _ I9 q9) fun z b1 ⟨yv, G10, I10, r10, acc, hD10, hz10, nx⟩ => ?_
          exact app_ok (X := blkH X a3 G3 sc ev fp) I10 hD10 hz10 r10 fun _ I11 => next I11 nx
    exact codeAny_compStart_list loop (T.self X.A 0 _ _ _ st4 loop)
  rw [ha3] at goal
  exact goal
theorem pe_lcH {elt tg iter : Expr} {ifs : List Expr} {sc : Scope} {own : List (Str × Nat)} {pos : Pos} {wi : TI} {g : TG} {tt : TT} {te : TE} (hc : HotC X) (hN : X.N.Nodup) (hi : PIH X tg iter wi) (ok : BlkOk X.N X.env.scope sc own)
    (hg : ∀ (s : Shared) (H : Hp) (C : Addr) (cl : List (Str × Addr)) (fp : List Addr), PG (blkH X s H sc (compEnvC sc cl C X.env) fp) tg g) (ht : ∀ (s : Shared) (H : Hp) (C : Addr) (cl : List (Str × Addr)) (fp : List Addr), PTs (blkH X s H sc (compEnvC sc cl C X.env) fp) ifs tt)
    (he : ∀ (s : Shared) (H : Hp) (C : Addr) (cl : List (Str × Addr)) (fp : List Addr), PE (blkH X s H sc (compEnvC sc cl C X.env) fp) elt te) (hs : ∀ x, foldedSetIterable iter X.env x = pure x := by intro _; rfl) :
    PE X (.ListComp elt [⟨tg, iter, ifs, 0⟩] sc pos) (tLc wi g tt te (own.map (·.2))) := by
  refine ⟨fun pins s σ H Q I h => ?_⟩
  rw [eval_ListComp]
  refine lcH_core hc hN I hi ok hg ht he hs h fun D C s' m H' I' q hn f => ⟨m, hn, fun h'' sb => ?_⟩
  obtain ⟨f0, f1, f2, f3, f4, f5⟩ := f
  exact ⟨.ref D, H', I'.turned (t' := s'.toks) (fun b o hb e => (sb.2 b hb).trans e) f0 f1 f3 f4 f5, rfl, q⟩
end
end DL
namespace DL
open PySem PySem.Spec L2 PyProof.Rows L2H
section
variable {X : Cx} {e : Expr} {te : TE} {x fld : Str} {p pos : Pos} {C D fI : Addr} {k : Nat} {fd : FuncData} {ps : List Str}
theorem pmkN_ex (SC : SupC X.K D C) (iC : PySem.W.findIn X.K (.ref C) "__init__" = some (some (.ref fI))) (tI : PySem.W.typeIn X.K (.ref fI) = some (.type "function")) (F1 : FnOk X.prog X.w X.K X.mg X.base CX0 k fI fd ps (spExI X.K D fld)) (hno : PySem.W.findIn X.K (.ref C) fld = some none)
    (hr : Room (k + 1) X.A) (hb : Binds X.K fd ps []) (hg : Gl X x) (hm : X.mg x = some (.ref C)) (ha : PE X e te)
    (hdb : (x == ("__debug__" : Str)) = false := by decide) (hst : starEach [e] X.env = (false, eval e X.env) :: starEach [] X.env := by rfl) (hpl : (backTo pos (starEach [] X.env)).any (·.1) = false := by rfl) :
    L2N.PMk X (.Call (.Name x p) [e] [] pos) (fun σ H Q => te σ H fun y H1 => ∀ dx, H1 dx = none → Q (.ref C) (some dx) (upd H1 dx (.xd [(fld, y)]))) := by
  intro pins s σ H Q I h
  have T := SC.ox
  obtain ⟨nm, q, N0, bs, bm, sn, sub, ab, col, dd, k0, k1, k2, k3, k5, hC, hbm⟩ := T.cls
  have pa : PA X [e] (tCons te tNil) := pa_cons ha pa_nil hst
  refine wpAny_Call_Name_kw (ld_glob I hg hm ?_ hdb)
  refine PySem.W.callWith_K (h₀ := X.base) I.ok.mod.kin T.kC (thn (pa.run pos pins s σ H (fun vs H1 => match vs with
    | [y] => ∀ dx, H1 dx = none → Q (.ref C) (some dx) (upd H1 dx (.xd [(fld, y)]))
    | _ => False) I h) fun us s1 ⟨vs, H1, I1, r1, q1⟩ => ⟨I1.kIn, ?_⟩) hst hpl
  obtain ⟨y, ev, q1⟩ : ∃ y, vs = [y] ∧ ∀ dx, H1 dx = none → Q (.ref C) (some dx) (upd H1 dx (.xd [(fld, y)])) := by
    match vs, q1 with
    | [y], q1 => exact ⟨y, rfl, q1⟩
  show wpAny _ _ (call (Value.ref C) us) _ _ _
  subst ev
  obtain ⟨hp, g, dr, tk, os⟩ := s1
  obtain ⟨a, ea⟩ : ∃ a, a = hp.objs.size + 1 := ⟨_, rfl⟩
  have hsz : hp.objs.size ≤ a := by rw [ea]; exact Nat.le_succ _
  have hn : H1 a = none := I1.hok.fresh hsz
  have kk : ∀ b o, hp.get? b = some o → ((hp.push (PySem.W.kdv_tup us)).push (PySem.HandSPX.excO C hp.objs.size)).get? b = some o := fun b o z => Heap.get?_push_of_some _ (Heap.get?_push_of_some _ z)
  have hget : ((hp.push (PySem.W.kdv_tup us)).push (PySem.HandSPX.excO C hp.objs.size)).get? a = some (PySem.HandSPX.excO C hp.objs.size) := by rw [ea]; heap_get
  have I2 : Inv X pins σ (upd H1 a (exo a C none)) ⟨(hp.push (PySem.W.kdv_tup us)).push (PySem.HandSPX.excO C hp.objs.size), g, dr, tk, os⟩ := I1.laid kk hsz (exo_ok hget)
  have r2 : Vals [V.ref a, y] (Value.ref a :: us) := .cons rfl r1
  have hus : us.length ≤ sizeLine := by rw [← Paired.length r1, sizeLine_eq]; show 1 ≤ _; decide
  have sp0 : spExI X.K D fld [V.ref a, y] (upd H1 a (exo a C none)) (fun v H2 => v = .non ∧ ∃ (d : Addr) (fs : List (Str × V)), H2 a = some (exo a C (some d)) ∧ H2 d = some (exd d fs) ∧ H1 d = none ∧ Q (.ref C) (some d) (upd (del H2 a) d (.xd fs))) (fun _ _ _ => False) := by
    refine ⟨a, C, y, rfl, upd_same, SC, hno, fun dx hd da => ⟨rfl, dx, [(fld, y)], upd_same, ?_, ?_, ?_⟩⟩
    · rw [upd_ne da, upd_same]
    · rw [upd_ne da] at hd; exact hd
    · rw [upd_ne da] at hd
      have eh : upd (del (upd (upd (upd H1 a (exo a C none)) dx (exd dx [(fld, y)])) a (exo a C (some dx))) a) dx (HO.xd [(fld, y)]) = upd H1 dx (.xd [(fld, y)]) := funext fun b => by
        by_cases z1 : b = dx
        · rw [z1, upd_same, upd_same]
        · rw [upd_ne z1, upd_ne z1]
          by_cases z2 : b = a
          · rw [z2, del_same, hn]
          · rw [del_ne z2, upd_ne z2, upd_ne z1, upd_ne z2]
      rw [eh]
      exact q1 dx hd
  have hl : (Value.ref a :: us).length = ps.length := by rw [← r2.length]; exact F1.len _ _ _ _ sp0
  have b2 := hb _ (Value.ref a :: us) I2.kIn (by rw [List.append_nil]; exact hl)
  rw [List.append_nil] at b2
  have run1 := F1.run _ X.stack _ _ ⟨Value.ref a :: us, []⟩ (Value.ref a :: us) _ _ (fun _ _ _ => False) (hr.make C us []) (I2.env0.make C us []) b2 r2 sp0
  rw [ea] at run1
  refine wpAny_call (PySem.HandSPX.call_own F.excBase_ValueError (fun Y => PySem.HandSPX.refsVE_contains Y bm hbm) (I1.kIn _ _ hC) (PySem.W.looks_findIn I1.kIn iC) (fun self => PySem.W.bind_fn I1.kIn self tI) hus (codeAny_mono run1 fun r s' hq' => ?_))
  cases r with
  | error er => exact False.elim hq'
  | ok fl =>
    cases fl with
    | ret u =>
      obtain ⟨v, H2, os2, bare2, un2, hok2, rv, ev, d, fs, e1, ed, hd1, q2⟩ := hq'
      subst ev
      obtain ⟨h2, g2, d2, t2, os'⟩ := s'
      rw [← ea] at un2 e1 q2
      obtain ⟨t0, G, J, kG, ge, hoe, na⟩ := mk_end0 (d2 := d2) (t2 := t2) I1 hsz kk un2 hok2 os2 bare2 e1 ed hd1
      rw [← ea]
      exact ⟨rv, a, _, _, ⟨G, g2, d2, t2, os'⟩, _, .ref C, some d, rfl, J, kG, ge, hoe, ⟨rfl, rfl, fun vs hv => by cases hv; rfl⟩, rfl, rfl, na, rfl, bare2, raises_own T.exC T.tyC, q2⟩
    | next => exact False.elim hq'
    | brk => exact False.elim hq'
    | cont => exact False.elim hq'
end
end DL
namespace DL
open PySem PySem.Spec L2 PyProof.Rows L2H
abbrev XW := Addr → List Str → List D → Ro → Prop
def XDat (c : Ct) (F : Hp) (cls : Value) (d : Option Addr) (C : Addr) (ns : List Str) (ds : List D) : Prop :=
  cls = .ref C ∧ ((ns = [] ∧ d = none) ∨ (ns ≠ [] ∧ ∃ dd vs, d = some dd ∧ F dd = some (.xd (ns.zip vs)) ∧ ns.length = vs.length ∧ Reps c F ds vs))
def lW (X : Cx) (m : M) (wd : XW) : WX := fun cls d σ H => ∃ C ns ds ρ F, XDat (m.c X) F cls d C ns ds ∧ Sm X m σ H ρ F ∧ wd C ns ds ρ
abbrev DXm := Ro → XW → Prop
def lMk (X : Cx) (m : M) (tx : DXm) : L2.St → Hp → XK → Prop := fun σ H Q => ∃ ρ F, Sm X m σ H ρ F ∧ tx ρ fun C ns ds ρ' => ∀ cls d H' F', Same F F' → XDat (m.c X) F' cls d C ns ds → Sm X m σ H' ρ' F' → Q cls d H'
structure PDMk (X : Cx) (m : M) (e : Expr) (tx : DXm) : Prop where
  pm : L2N.PMk X e (lMk X m tx)
  mono : ∀ ρ (Q Q' : XW), (∀ C ns ds ρ', Q C ns ds ρ' → Q' C ns ds ρ') → tx ρ Q → tx ρ Q'
theorem XDat.exc {c : Ct} {F : Hp} {cls : Value} {d : Option Addr} {C a : Addr} {ns : List Str} {ds : List D} (h : XDat c F cls d C ns ds) : Rep c F (.exc a d C ns ds) (.ref a) := ⟨rfl, h.2⟩
section
variable {X : Cx} {m : M} {e : Expr} {es : List Expr} {te : DE} {ua : DA} {pos p : Pos} {x : Str} {k j : Nat} {ps : List Str} {sd : SpD} {wd : XW} {tx : DXm}
def dRaise (tx : DXm) (wd : XW) : DS := fun _ ρ => tx ρ wd
theorem pds_raise (hc : X.calm = true) (tk : L2N.Takes X (lW X m wd)) (he : PDMk X m e tx) : PDS X m (.Raise (some e) none pos) (dRaise tx wd) :=
  ⟨PS.imp (L2N.ps_raise hc tk he.pm) fun D σ H ⟨ρ, F, S, t⟩ => ⟨ρ, F, S, he.mono _ _ _ (fun C ns ds ρ' q cls d H' F' _ xd S' => ⟨C, ns, ds, ρ', F', xd, S', q⟩) t⟩, fun _ _ _ _ h => h⟩
def OkE (P : Program) (w : World) (K : Frag) (mg : Str → Option Value) (base : Heap) (x fld : Str) : Prop :=
  ∃ D f fd ps, SupC K D (He.ga K x) ∧ PySem.W.findIn K (.ref (He.ga K x)) "__init__" = some (some (.ref f)) ∧ PySem.W.typeIn K (.ref f) = some (.type "function") ∧ FnOk P w K mg base CX0 1 f fd ps (spExI K D fld) ∧ Binds K fd ps [] ∧
    PySem.W.findIn K (.ref (He.ga K x)) fld = some none ∧ mg x = some (.ref (He.ga K x))
def dMkE (C : Addr) (fld : Str) (te : DE) : DXm := fun ρ Q => te ρ fun d ρ' => Q C [fld] [d] ρ'
theorem pdm_ex {fld : Str} (F : OkE X.prog X.w X.K X.mg X.base x fld) (hr : Room k X.A) (hk : 2 ≤ k) (ha : PD X m e te) (hg : Gl X x := by rfl) (hdb : (x == ("__debug__" : Str)) = false := by decide)
    (hst : starEach [e] X.env = (false, eval e X.env) :: starEach [] X.env := by rfl) (hpl : (backTo pos (starEach [] X.env)).any (·.1) = false := by rfl) : PDMk X m (.Call (.Name x p) [e] [] pos) (dMkE (He.ga X.K x) fld te) := by
  obtain ⟨D, f, fd, ps, SC, iC, tI, F1, hb, hno, hm⟩ := F
  refine ⟨fun pins s σ H Q I ⟨ρ, F0, S, t⟩ => pmkN_ex SC iC tI F1 hno (hr.mono hk) hb hg hm ha.pe hdb hst hpl pins s σ H Q I ⟨ρ, F0, S, ha.mono _ _ _ (fun d ρ' q v H' F' s' S' r dx hd => ?_) t⟩, fun ρ Q Q' i => ha.mono _ _ _ fun d ρ' => i _ _ _ _⟩
  have g := S'.alloc (o := .xd [(fld, v)]) hd
  exact q _ _ _ _ (s'.trans g.f0) ⟨rfl, .inr ⟨List.cons_ne_nil _ _, dx, [v], rfl, upd_same, rfl, Reps.one (r.mono g.f0)⟩⟩ (S'.grow g)
structure ExC0 (K : Frag) (mg : Str → Option Value) (x : Str) : Prop where
  q : PySem.W.excIn K (He.ga K x) He.veBase "ValueError.__new__" = true
  kp : PySem.W.keepIn K (.ref (He.ga K x)) = true
  sub : PySem.W.subIn K (.ref (He.ga K x)) (.type "BaseException") = some true
  ty : PySem.W.typeIn K (.ref (He.ga K x)) = some (.type "type")
  gl : mg x = some (.ref (He.ga K x))
def dMk0 (C : Addr) : DXm := fun ρ Q => Q C [] [] ρ
theorem pdm_text {msg : Str} {jj : Nat} {p2 : Pos} (F : ExC0 X.K X.mg x) (hg : Gl X x := by rfl) (hdb : (x == ("__debug__" : Str)) = false := by decide) : PDMk X m (.Call (.Name x p) [.Constant (.str msg) jj p2] [] pos) (dMk0 (He.ga X.K x)) :=
  ⟨fun pins s σ H Q I ⟨ρ, F0, S, t⟩ => L2N.pmk_own PySem.F.excBase_ValueError F.q F.gl F.kp (raises_own F.sub F.ty) hg hdb pins s σ H Q I (t _ _ H F0 (Same.refl _) ⟨rfl, .inl ⟨rfl, rfl⟩⟩ S), fun ρ Q Q' i => i _ _ _ _⟩
def wEnd (X : Cx) (m : M) (E : XK) : XW := fun C ns ds _ => excEnd (m.c X) m.F0 m.H0 E C ns ds
def OkX (P : Program) (w : World) (K : Frag) (mg : Str → Option Value) (base : Heap) (x : Str) (k : Nat) (ps : List Str) (sd : SpD) : Prop :=
  ∃ fd, FnOk P w K mg base (L2N.CX P w) k (He.ga K x) fd ps (spOf K sd) ∧ Binds K fd ps [] ∧ mg x = some (.ref (He.ga K x)) ∧ PySem.W.keepIn K (.ref (He.ga K x)) = true
theorem wEnd_take {E : XK} (tk : L2N.Takes X (fun cls d _ H => E cls d H)) : L2N.Takes X (lW X m (wEnd X m E)) := tk.imp fun cls d σ H ⟨C, ns, ds, ρ, F, ⟨ec, xd⟩, S, h1, h2⟩ => by
  subst ec
  rcases xd with ⟨z, rfl⟩ | ⟨z, dd, vs, rfl, g1, g2, g3⟩
  · exact h1 z H F S.gr
  · exact h2 z dd vs H F S.gr g1 g2 g3
def dCallX (sd : SpD) (wd : XW) (ua : DA) : DE := fun ρ Q => ua ρ fun ds ρ' => sd.run ds (fun d => Q d ρ') (fun C ns vs => wd C ns vs ρ')
theorem pd_fnX (tk : L2N.Takes X (lW X m wd)) (F : OkX X.prog X.w X.K X.mg X.base x j ps sd) (hr : Room k X.A) (hk : j ≤ k) (ha : PDA X m (e :: es) ua) (hg : Gl X x := by rfl) (hdb : (x == ("__debug__" : Str)) = false := by decide)
    (he : starEach (e :: es) X.env = (false, eval e X.env) :: starEach es X.env := by rfl) (hpl : (backTo pos (starEach es X.env)).any (·.1) = false := by rfl) :
    PD X m (.Call (.Name x p) (e :: es) [] pos) (dCallX sd wd ua) := by
  obtain ⟨fd, F1, hb, hm, hkp⟩ := F
  refine ⟨PE.imp (pe_callS F1 (hr.mono hk) hg hm hkp hb (fun σ => L2N.passAt tk σ) ha.pe hdb he hpl) fun σ H Q ⟨ρ, F, S, t⟩ => ⟨ρ, F, S, ha.mono _ _ _ (fun ds ρ' q vs H1 F1 s1 S1 r => ?_) t⟩, fun ρ Q Q' i => ha.mono _ _ _ fun ds ρ' => sd.mono _ _ _ _ _ (fun d => i _ _) fun _ _ _ q => q⟩
  refine ⟨F1, m.st, ds, S1.gr.fs, S1.gr.tok, fun a n => ?_, r, sd.mono _ _ _ _ _ (fun d q v H' F' g rv => q v H' F' (s1.trans g.f0) (S1.grow g) rv) (fun C ns zs hw => ⟨fun z H' F' g => ?_, fun z dd ws H' F' g h1 h2 h3 => ?_⟩) q⟩
  · obtain ⟨_, _, _, _, _, _, _, h, _⟩ := S1.gr.tok a n
    exact ⟨_, h⟩
  · exact ⟨C, ns, zs, ρ', F', ⟨rfl, .inl ⟨z, rfl⟩⟩, S1.grow g, hw⟩
  · exact ⟨C, ns, zs, ρ', F', ⟨rfl, .inr ⟨z, dd, ws, rfl, h1, h2, h3⟩⟩, S1.grow g, hw⟩
theorem passN0 : Passes (L2N.CX X.prog X.w) X E0 := fun _ _ _ _ _ _ _ h => by
  obtain ⟨_, _, _, _, _, _, _, _, _, _, _, _, z⟩ := h
  exact z.elim
theorem pd_fnL (F : OkX X.prog X.w X.K X.mg X.base x j ps sd) (hr : Room k X.A) (hk : j ≤ k) (ha : PDA X m (e :: es) ua) (hg : Gl X x := by rfl) (hdb : (x == ("__debug__" : Str)) = false := by decide)
    (he : starEach (e :: es) X.env = (false, eval e X.env) :: starEach es X.env := by rfl) (hpl : (backTo pos (starEach es X.env)).any (·.1) = false := by rfl) :
    PD X m (.Call (.Name x p) (e :: es) [] pos) (dCall sd XP0 ua) := by
  obtain ⟨fd, F1, hb, hm, hkp⟩ := F
  exact pd_call' ha xp0 (pe_call F1 (hr.mono hk) hg hm hkp hb .nil passN0 ha.pe hdb he hpl)
end
theorem okX_mk {P : Program} {w : World} {K : Frag} {mg : Str → Option Value} {base : Heap} {x : Str} {st : Stmt} {N ps : List Str} {k : Nat} {sd : SpD} (F : Df K mg x st ps) (S : FnScope N ps (defScope st))
    (len : ∀ ds Q E, sd.run ds Q E → ds.length = ps.length)
    (hbody : ∀ (X : Cx) (m : M) (wd : XW) (cdv : Value) (A : Around) (outer : List Env) (s : Shared) (H : Hp) (E : XK), X = cxOf (L2N.CX P w) P w K mg base N x (defScope st) (He.ga K x) cdv A outer s H E → Room k X.A → L2N.Takes X (lW X m wd) → PassesOwn (model X.prog X.w) X.A X.env X.xe →
      ∃ t, PDSs X m (defBody st) t ∧ ∀ ds Q XE, (∀ C ns vs ρ, XE C ns vs → wd C ns vs ρ) → sd.run ds Q XE → t { nx := fun _ => Q .non, rt := fun d _ => Q d } (frz N ds)) : OkX P w K mg base x (k + 1) ps sd := by
  obtain ⟨fd, FD, hb⟩ := F.ex
  refine ⟨fd, FD.ok S (fun vs H Q E ⟨Fz, st, ds, _, _, _, r, h⟩ => by rw [← r.length]; exact len _ _ _ h) (fun cdv A outer s H vs Q E hr h => ?_), hb, F.gl, FD.kp⟩
  obtain ⟨Fz, tk, ds, hs, ht, h0, r, h⟩ := h
  have T0 : L2N.Takes (cxOf (L2N.CX P w) P w K mg base N x (defScope st) (He.ga K x) cdv A outer s H E) (fun cls d _ H => E cls d H) := L2N.takes_of rfl rfl rfl rfl
  obtain ⟨t, ht2, hq⟩ := hbody _ ⟨tk, Fz, H⟩ (wEnd (cxOf (L2N.CX P w) P w K mg base N x (defScope st) (He.ga K x) cdv A outer s H E) ⟨tk, Fz, H⟩ E) cdv A outer s H E rfl hr (wEnd_take T0) (passes_of rfl)
  refine ⟨_, ht2.ps, frz N ds, Fz, start_of hs ht h0 r, ?_⟩
  exact ht2.mono { nx := fun _ => ∀ v H' F', Grow ⟨K, tk⟩ Fz H F' H' → Rep ⟨K, tk⟩ F' .non v → Q v H', rt := fun d _ => ∀ v H' F', Grow ⟨K, tk⟩ Fz H F' H' → Rep ⟨K, tk⟩ F' d v → Q v H' } _ _
    ⟨fun ρ q σ' H' F' s' S' => q _ H' F' S'.gr rfl, fun d ρ q v σ' H' F' S' r => q v H' F' S'.gr r, fun _ q => q.elim, fun _ q => q.elim⟩ (hq ds _ _ (fun C ns vs ρ z => z) h)
end DL
namespace DL
open PySem PySem.Spec L2 PyProof.Rows L2H
def cleanE (E : DEn) (i : Nat) : DEn where
  nx := fun ρ => E.nx (ρ.set i none)
  rt := E.rt
  bk := fun ρ => E.bk (ρ.set i none)
  ct := fun ρ => E.ct (ρ.set i none)
theorem DEn.le.trans {E E' E'' : DEn} (a : E.le E') (b : E'.le E'') : E.le E'' := ⟨fun _ h => b.nx _ (a.nx _ h), fun _ _ h => b.rt _ _ (a.rt _ _ h), fun _ h => b.bk _ (a.bk _ h), fun _ h => b.ct _ (a.ct _ h)⟩
theorem cleanE_le {E E' : DEn} (i : Nat) (a : E.le E') : (cleanE E i).le (cleanE E' i) := ⟨fun _ h => a.nx _ h, fun _ _ h => a.rt _ _ h, fun _ h => a.bk _ h, fun _ h => a.ct _ h⟩
abbrev TsD := Addr → Value → Option Addr → DS
def wTry (K : Frag) (c : Value) (i : Nat) (ts : TsD) (wout : XW) (E : DEn) : XW := fun C ns ds ρ' => ∃ b, PySem.W.exmOne K (.ref C) c = some b ∧
  (b = true → ∀ a d, ∃ E0 : DEn, E0.le (cleanE E i) ∧ ts a (.ref C) d E0 (ρ'.set i (some (false, .exc a d C ns ds)))) ∧ (b = false → wout C ns ds ρ')
def dTry (tb : XW → DS) (K : Frag) (c : Value) (i : Nat) (ts : TsD) (wout : XW) : DS := fun E ρ => ∃ (wd : XW) (E0 : DEn), E0.le E ∧ (∀ C ns ds ρ', wd C ns ds ρ' → wTry K c i ts wout E C ns ds ρ') ∧ tb wd E0 ρ
theorem s_try {tb : XW → DS} {K : Frag} {c : Value} {i : Nat} {ts : TsD} {wout : XW} {E : DEn} {ρ : Ro} (h : tb (wTry K c i ts wout E) E ρ) : dTry tb K c i ts wout E ρ := ⟨_, _, DEn.le.refl E, fun _ _ _ _ z => z, h⟩
theorem s_caught {K : Frag} {c : Value} {i : Nat} {ts : TsD} {wout : XW} {E : DEn} {C : Addr} {ns : List Str} {ds : List D} {ρ : Ro} (e : PySem.W.exmOne K (.ref C) c = some true) (h : ∀ a d, ts a (.ref C) d (cleanE E i) (ρ.set i (some (false, .exc a d C ns ds)))) : wTry K c i ts wout E C ns ds ρ :=
  ⟨true, e, fun _ a d => ⟨_, DEn.le.refl _, h a d⟩, fun z => nomatch z⟩
theorem s_passed {K : Frag} {c : Value} {i : Nat} {ts : TsD} {wout : XW} {E : DEn} {C : Addr} {ns : List Str} {ds : List D} {ρ : Ro} (e : PySem.W.exmOne K (.ref C) c = some false) (h : wout C ns ds ρ) : wTry K c i ts wout E C ns ds ρ := ⟨false, e, (fun z => nomatch z), fun _ => h⟩
theorem sim_on {c : Ct} {F0 H0 F H : Hp} {σ : L2.St} {ρ : Ro} (S : Sim c F0 H0 σ H ρ F) : Sim c F H0 σ H ρ F :=
  ⟨⟨S.gr.keep, Same.refl _, S.gr.fs, fun a o e => .inl e, S.gr.tok⟩, S.len, S.slot, S.sep, S.st0⟩
theorem sim_back {c : Ct} {F0 H0 F H F' H' : Hp} {σ σ' : L2.St} {ρ ρ' : Ro} (S : Sim c F0 H0 σ H ρ F) (S' : Sim c F H0 σ' H' ρ' F') : Sim c F0 H0 σ' H' ρ' F' :=
  ⟨⟨S'.gr.keep, S.gr.f0.trans S'.gr.f0, S'.gr.fs, fun a o e => (S'.gr.new a o e).elim (fun z => S.gr.new a o z) .inr, S'.gr.tok⟩, S'.len, S'.slot, S'.sep, S'.st0⟩
section
variable {X : Cx} {m : M} {x n : Str} {c : Value} {i : Nat} {body suite : List Stmt} {b0 : Stmt} {np pos pos' : Pos} {tb : XW → DS} {ts : TsD} {wout : XW}
theorem pds_try_as (hs : X.stack = X.env :: X.outer) (hf : X.env.frame = some X.env.locals) (hN : X.N.Nodup) (hi : X.N[i]? = some n) (hln : X.env.kindOf n = some .local) (hc : Names X x c) (tk : L2N.Takes X (lW X m wout))
    (hb : ∀ (m' : M) (wd : XW) (pn : List (Addr × Obj)) (xe : Value → Shared → Prop), L2N.Takes (X.tr pn xe) (lW (X.tr pn xe) m' wd) → PassesOwn (model X.prog X.w) X.A X.env xe → PDSs (X.tr pn xe) m' body (tb wd))
    (hsu : ∀ (a : Addr) (oe : Obj) (cls : Value) (d : Option Addr) (pn : List (Addr × Obj)), L2N.Zn cls d oe → (∃ vs, oe.data = .fields vs) → PDSs (X.suite a ((a, oe) :: pn)) m (b0 :: suite) (ts a cls d)) :
    PDS X m (.Try body [.ExceptHandler (some (.Name x np)) (some n) (b0 :: suite) pos'] [] [] pos) (dTry tb X.K c i ts wout) := by
  refine ⟨PS.imp (L2N.ps_try_as (tb := fun W D σ H => ∃ (m' : M) (wd : XW) (E0 : DEn) (ρ : Ro) (F : Hp), (∀ cls d σ H, lW X m' wd cls d σ H → W cls d σ H) ∧ Sm X m' σ H ρ F ∧ E0.le (lEn X m' D F) ∧ tb wd E0 ρ) (ts := fun a cls d D σ H => lS X m (ts a cls d) D σ H) (Wout := lW X m wout) hs hf hN hi hln hc tk
      (fun W pn xe tkW hp => ⟨fun pins s σ H D I ⟨m', wd, E0, ρ, F, iW, S, le, t⟩ => ?_⟩) (fun a oe cls d pn z hv => (hsu a oe cls d pn z hv).ps)) fun D σ H ⟨ρ, F, S, wd, E0, le, iw, t⟩ => ?_, fun E E' ρ l ⟨wd, E0, le, iw, t⟩ => ⟨wd, E0, le.trans l, fun C ns ds ρ' z => ?_, t⟩⟩
  · have P := hb m' wd pn xe (tkW.imp iW) hp
    exact P.ps.run pins s σ H D I ⟨ρ, F, S, P.mono _ _ _ le t⟩
  · refine ⟨{ m with F0 := F }, wd, E0, ρ, F, fun cls d σ' H' ⟨C, ns, ds, ρ', F', xd, S', hw⟩ => ?_, sim_on S, le.trans ⟨fun ρ2 q σ2 H2 F2 s2 S2 => q σ2 H2 F2 s2 (sim_back S S2), fun d2 ρ2 q v σ2 H2 F2 S2 r => q v σ2 H2 F2 (sim_back S S2) r, fun ρ2 q σ2 H2 F2 s2 S2 => q σ2 H2 F2 s2 (sim_back S S2), fun ρ2 q σ2 H2 F2 s2 S2 => q σ2 H2 F2 s2 (sim_back S S2)⟩, t⟩
    have S3 := sim_back S S'
    have sF : Same F F' := S'.gr.f0
    obtain ⟨b, e, h1, h2⟩ := iw C ns ds ρ' hw
    have xd0 := xd
    obtain ⟨rfl, _⟩ := xd
    refine ⟨b, e, fun z a na => ?_, fun z => ⟨C, ns, ds, ρ', F', xd0, S3, h2 z⟩⟩
    obtain ⟨E1, le1, t1⟩ := h1 z a d
    have P := hsu a ⟨.ref C, d, .fields #[.none, .none, .none], #[]⟩ (.ref C) d [] ⟨rfl, rfl, fun vs hv => by cases hv; rfl⟩ ⟨_, rfl⟩
    refine ⟨_, F', S3.set xd0.exc, P.mono _ _ _ (le1.trans ⟨fun ρ2 q σ2 H2 F2 s2 S2 => ?_, fun d2 ρ2 q => q, fun ρ2 q σ2 H2 F2 s2 S2 => ?_, fun ρ2 q σ2 H2 F2 s2 S2 => ?_⟩) t1⟩
    · exact q _ H2 F2 (sF.trans s2) (S2.forget i)
    · exact q _ H2 F2 (sF.trans s2) (S2.forget i)
    · exact q _ H2 F2 (sF.trans s2) (S2.forget i)
  · obtain ⟨b, e, h1, h2⟩ := iw C ns ds ρ' z
    refine ⟨b, e, fun z a d => ?_, h2⟩
    obtain ⟨E1, le1, t1⟩ := h1 z a d
    exact ⟨E1, le1.trans (cleanE_le i l), t1⟩
end
section
variable {X : Cx} {m : M} {a : Addr} {oe : Obj} {cls : Value} {d : Option Addr} {pn : List (Addr × Obj)} {i : Nat} {pos : Pos}
def dXf (a : Addr) (cls : Value) (d : Option Addr) (C : Addr) (f : Str) (i : Nat) : DE := fun ρ Q => ∃ ns ds z, ρ[i]? = some (some (false, .exc a d C ns ds)) ∧ cls = .ref C ∧ lookF ns ds f = some z ∧ Q z ρ
theorem pd_xf {C : Addr} {f x : Str} {px : Pos} (T : XfC X.K C) (hno : PySem.W.findIn X.K (.ref C) f = some none) (hz : L2N.Zn cls d oe) (hf : ∃ vs, oe.data = .fields vs) (hv : PE (X.suite a ((a, oe) :: pn)) (.Name x px) (tVar i))
    (hb : attributeBase (.Name x px) f X.env (eval (.Name x px) X.env) = eval (.Name x px) X.env := by rfl) : PD (X.suite a ((a, oe) :: pn)) m (.Attribute (.Name x px) f pos) (dXf a cls d C f i) := by
  refine ⟨PE.imp (pe_xf T hno hz.zc hf hv hb) fun σ H Q ⟨ρ, F, S, ns, ds, z, e0, ec, l, t⟩ => ?_, fun ρ Q Q' i ⟨ns, ds, z, e0, ec, l, t⟩ => ⟨ns, ds, z, e0, ec, l, i _ _ t⟩⟩
  obtain ⟨v, ev, rfl, z2⟩ := S.slot i _ e0
  rcases z2 with ⟨rfl, _⟩ | ⟨_, dd, vs, rfl, h1, h2, h3⟩
  · cases ds <;> cases l
  · obtain ⟨w, ew, rw'⟩ := lookF_of h3 l
    exact ⟨_, ev, rfl, ec, dd, _, w, rfl, S.gr.fs _ _ h1, ew, t w H F (Same.refl _) S rw'⟩
end
end DL
namespace DL
open PySem PySem.Spec L2 PyProof.Rows L2H
structure FnE (P : Program) (w : World) (K : Frag) (mg : Str → Option Value) (base : Heap) (k : Nat) (f : Addr) (fd : FuncData) (ps : List Str) (sp : Addr × Obj → Sp) : Prop where
  len : ∀ p vs H Q E, sp p vs H Q E → vs.length = ps.length
  run : ∀ (A : Around) (outer : List Env) (s : Shared) (H : Hp) (args : Args) (us : List Value) (vs : List V) (Q : VK) (E : XK) (p : Addr × Obj), RoomH k A → Hot1 A p → PinOk outer H s p → Env0 P w K mg base A outer s H → BindsTo s fd args (ps.zip us) → Vals vs us →
    sp p vs H Q E → codeAny (model P w) A (.call (.ref f) args) (CR CX0 outer P w H s Q E) s
theorem fnE_of {P : Program} {w : World} {K : Frag} {mg : Str → Option Value} {base : Heap} {k : Nat} {f : Addr} {name qual : Str} {params : Arguments} {body : List Stmt} {sc : Scope} {dV kV doc pm cdv ct oc : Value} {an od : Option Addr}
    {osl : Array (Option Value)} {N ps : List Str} {sp : Addr × Obj → Sp} (lk : K.lookup f = some ⟨oc, od, .func (PySem.W.fnOf name qual params body sc dV kV doc pm an cdv ct), osl⟩) (hcd : PySem.W.codeIn K cdv qual = true) (S : FnScope N ps sc)
    (len : ∀ p vs H Q E, sp p vs H Q E → vs.length = ps.length)
    (hbody : ∀ (A : Around) (outer : List Env) (s : Shared) (H : Hp) (vs : List V) (Q : VK) (E : XK) (p : Addr × Obj), Hot1 A p → RoomH k (A.deeper (envOfC qual sc s.heap.objs.size f cdv)) → sp p vs H Q E →
      ∃ t, PSs (cxH CX0 P w K mg base N qual sc f cdv A outer s H E p) body t ∧ t { nx := fun _ H' => Q .non H', rt := Q } (L2.start N vs) H) :
    FnE P w K mg base (k + 1) f (PySem.W.fnOf name qual params body sc dV kV doc pm an cdv ct) ps sp := by
  refine ⟨len, fun A outer s H args us vs Q E p hr hot hpin e0 hb r q => ?_⟩
  have hl := len _ _ _ _ _ q
  have KX : K.In s.heap := e0.mod.kin.keeps fun b o e => (e0.bs b o e).1
  have nl : s.heap.NoLimit := e0.mod.nolimit.keeps fun b o e => (e0.bs b o e).1
  have kinds : ∀ y ∈ ps.zip us, sc.names.lookup y.1 = some .local ∨ (sc.names.lookup y.1 = some .cell ∧ ((cellsFrom (s.heap.objs.size + 1) sc.names []).lookup y.1).isSome = true) := fun y hy =>
    (S.par y.1 (List.of_mem_zip (a := y.1) (b := y.2) hy).1).elim .inl fun z => .inr ⟨z, PySem.W.cellsFrom_some _ _ _ (.inl z)⟩
  refine codeAny_call_function hr.depth (KX _ _ lk) rfl S.co S.gen rfl (PySem.W.codeRec_of KX hcd) (hb _ _ _ _ ?_)
  refine wpAny_newFunctionEnv_cells S.kind kinds fun env he s1 x => ?_
  subst he
  refine ⟨nl.keeps x.toInCall.keep, codeAny_func ?_⟩
  obtain ⟨t, ht, hq⟩ := hbody A outer s H vs Q E p hot (hr.deeper _) q
  have I : Inv (cxH CX0 P w K mg base N qual sc f cdv A outer s H E p) [] (L2.start N vs) H s1 := inv_startH S hpin e0 hl r x
  refine wpAny_mono (ht.run [] s1 (L2.start N vs) H _ I hq) (fun fl s' z => ?_) fun e s' z => z
  cases fl with
  | ret u => exact z.elim fun v ⟨_, H', J, rv, q⟩ => ⟨v, H', J.os, J.bare, J.base, J.hok, rv, q⟩
  | next => exact z.elim fun _ ⟨H', J, q⟩ => ⟨V.non, H', J.os, J.bare, J.base, J.hok, rfl, q⟩
  | brk => exact (show False from z.choose_spec.choose_spec.2).elim
  | cont => exact (show False from z.choose_spec.choose_spec.2).elim
section
variable {X : Cx} {k j : Nat} {f : Addr} {fd : FuncData} {ps : List Str} {sp : Addr × Obj → Sp} {x : Str} {q pos : Pos} {e : Expr} {es : List Expr} {t : TA} {p : Addr × Obj}
def tCallE (sp : Sp) (t : TA) : TE := fun σ H Q => t σ H fun vs H1 => sp vs H1 Q E0
theorem pe_callE (F : FnE X.prog X.w X.K X.mg X.base k f fd ps sp) (hr : RoomH k X.A) (hot : Hot1 X.A p) (hp : p ∈ X.pn) (hg : Gl X x) (hm : X.mg x = some (.ref f)) (hk : PySem.W.keepIn X.K (.ref f) = true) (hb : Binds X.K fd ps [])
    (ha : PA X (e :: es) t) (hdb : (x == ("__debug__" : Str)) = false := by decide) (he : starEach (e :: es) X.env = (false, eval e X.env) :: starEach es X.env := by rfl) (hpl : (backTo pos (starEach es X.env)).any (·.1) = false := by rfl) :
    PE X (.Call (.Name x q) (e :: es) [] pos) (tCallE (sp p) t) := by
  refine ⟨fun pins s σ H Q I h => ?_⟩
  refine wpAny_Call_Name_kw (ld_glob I hg hm ?_ hdb)
  refine PySem.W.callWith_K (h₀ := X.base) I.ok.mod.kin hk (thn (ha.run pos pins s σ H _ I h) fun us s1 ⟨vs, H1, I1, r, z⟩ => ⟨I1.kIn, ?_⟩) he hpl
  have hl : us.length = ps.length := by rw [← r.length]; exact F.len _ _ _ _ _ z
  have b := hb s1 us I1.kIn (by rw [List.append_nil]; exact hl)
  rw [List.append_nil] at b
  obtain ⟨p1, p2, p3, p4, p5⟩ := I1.pin p (List.mem_append_left _ hp)
  refine wpAny_call (codeAny_mono (F.run X.A X.stack s1 H1 ⟨us, []⟩ us vs Q E0 p hr hot ⟨p1, p2, fun hm => (List.mem_cons.mp (I1.stkSub p.1 hm)).elim p3 p4, p5⟩ I1.env0 b r z) fun r' s' hq => ?_)
  cases r' with
  | error e => exact False.elim hq
  | ok fl =>
    cases fl with
    | ret u => exact I1.after hq
    | next => exact False.elim hq
    | brk => exact False.elim hq
    | cont => exact False.elim hq
end
abbrev SdE := Addr → Addr → Option Addr → SpD
def spE (K : Frag) (sd : SdE) (p : Addr × Obj) : Sp := fun vs H Q E => ∃ C d, ExcC K C ∧ Zc (.ref C) d p.2 ∧ (∃ fs, p.2.data = .fields fs) ∧ spOf K (sd p.1 C d) vs H Q E
def OkH (P : Program) (w : World) (K : Frag) (mg : Str → Option Value) (base : Heap) (x : Str) (k : Nat) (ps : List Str) (sd : SdE) : Prop :=
  ∃ fd, FnE P w K mg base k (He.ga K x) fd ps (spE K sd) ∧ Binds K fd ps [] ∧ mg x = some (.ref (He.ga K x)) ∧ PySem.W.keepIn K (.ref (He.ga K x)) = true
theorem okH_mk {P : Program} {w : World} {K : Frag} {mg : Str → Option Value} {base : Heap} {x : Str} {st : Stmt} {N ps : List Str} {k : Nat} {sd : SdE} (F : Df K mg x st ps) (S : FnScope N ps (defScope st))
    (len : ∀ a C d ds Q E, (sd a C d).run ds Q E → ds.length = ps.length)
    (hbody : ∀ (X : Cx) (m : M) (cdv : Value) (A : Around) (outer : List Env) (s : Shared) (H : Hp) (E : XK) (p : Addr × Obj) (C : Addr) (d : Option Addr), X = (cxH CX0 P w K mg base N x (defScope st) (He.ga K x) cdv A outer s H E p).nox → RoomH k X.A → HotC X → p ∈ X.pn → ExcC K C → Zc (.ref C) d p.2 → (∃ fs, p.2.data = .fields fs) →
      ∃ t, PDSs X m (defBody st) t ∧ ∀ ds Q E, (sd p.1 C d).run ds Q E → t { nx := fun _ => Q .non, rt := fun d _ => Q d } (frz N ds)) : OkH P w K mg base x (k + 1) ps sd := by
  obtain ⟨fd, FD, hb⟩ := F.ex
  refine ⟨fd, ?_, hb, F.gl, FD.kp⟩
  obtain ⟨oc, od, dV, kV, doc, pm, an, cdv, ct, osl, rfl, lk, hcd, _, _⟩ := FD.ex
  refine fnE_of lk hcd S (fun p vs H Q E ⟨C, d, _, _, _, Fz, st, ds, _, _, _, r, h⟩ => by rw [← r.length]; exact len _ _ _ _ _ _ h) fun A outer s H vs Q E p hot hr h => ?_
  obtain ⟨C, d, hT, hz, hv, Fz, tk, ds, hs, ht, h0, r, h⟩ := h
  obtain ⟨t, ht2, hq⟩ := hbody _ ⟨tk, Fz, H⟩ cdv A outer s H E p C d rfl hr ⟨p, hot, List.mem_singleton.mpr rfl⟩ (List.mem_singleton.mpr rfl) hT hz hv
  refine ⟨_, ht2.ps.nox, frz N ds, Fz, start_of hs ht h0 r, ?_⟩
  exact ht2.mono { nx := fun _ => ∀ v H' F', Grow ⟨K, tk⟩ Fz H F' H' → Rep ⟨K, tk⟩ F' .non v → Q v H', rt := fun d _ => ∀ v H' F', Grow ⟨K, tk⟩ Fz H F' H' → Rep ⟨K, tk⟩ F' d v → Q v H' } _ _
    ⟨fun ρ q σ' H' F' s' S' => q _ H' F' S'.gr rfl, fun d ρ q v σ' H' F' S' r => q v H' F' S'.gr r, fun _ q => q.elim, fun _ q => q.elim⟩ (hq ds _ _ h)
section
variable {X : Cx} {m : M} {k j : Nat} {ps : List Str} {sd : SdE} {x : Str} {q pos : Pos} {e : Expr} {es : List Expr} {ua : DA} {a : Addr} {oe : Obj} {cls : Value} {d : Option Addr} {pn : List (Addr × Obj)}
def dCallE (K : Frag) (sd : SdE) (a : Addr) (cls : Value) (d : Option Addr) (ua : DA) : DE := fun ρ Q => ∃ C, cls = .ref C ∧ ExcC K C ∧ ua ρ fun ds ρ' => (sd a C d).run ds (fun z => Q z ρ') XP0
theorem roomH_suite (hr : Room k X.A) : RoomH k (X.suite a ((a, oe) :: pn)).A := ⟨hr.dp, hr.un⟩
theorem pd_fnE (F : OkH X.prog X.w X.K X.mg X.base x j ps sd) (hr : Room k X.A) (hk : j ≤ k) (hz : L2N.Zn cls d oe) (hv : ∃ vs, oe.data = .fields vs) (ha : PDA (X.suite a ((a, oe) :: pn)) m (e :: es) ua) (hg : Gl X x := by rfl) (hdb : (x == ("__debug__" : Str)) = false := by decide)
    (he : starEach (e :: es) X.env = (false, eval e X.env) :: starEach es X.env := by rfl) (hpl : (backTo pos (starEach es X.env)).any (·.1) = false := by rfl) :
    PD (X.suite a ((a, oe) :: pn)) m (.Call (.Name x q) (e :: es) [] pos) (dCallE X.K sd a cls d ua) := by
  obtain ⟨fd, F1, hb, hm, hkp⟩ := F
  obtain ⟨vs0, hv0⟩ := hv
  have hot : Hot1 (X.suite a ((a, oe) :: pn)).A (a, oe) := ⟨rfl, vs0, hv0, hz.2.2 vs0 hv0⟩
  refine ⟨PE.imp (pe_callE (X := X.suite a ((a, oe) :: pn)) (p := (a, oe)) F1 (roomH_suite (hr.mono hk)) hot List.mem_cons_self hg hm hkp hb ha.pe hdb he hpl) fun σ H Q ⟨ρ, F, S, C, ec, hT, t⟩ => ⟨ρ, F, S, ha.mono _ _ _ (fun ds ρ' z vs H1 F1 s1 S1 r => ?_) t⟩,
    fun ρ Q Q' i ⟨C, ec, T, h⟩ => ⟨C, ec, T, ha.mono _ _ _ (fun ds ρ' => (sd a C d).mono _ _ _ _ _ (fun _ => i _ _) (fun _ _ _ z => z)) h⟩⟩
  subst ec
  refine ⟨C, d, hT, hz.zc, ⟨vs0, hv0⟩, F1, m.st, ds, S1.gr.fs, S1.gr.tok, fun b n => ?_, r, (sd a C d).mono _ _ _ _ _ (fun y w v H' F' g rv => w v H' F' (s1.trans g.f0) (S1.grow g) rv) (fun C ns zs h => h.elim) z⟩
  obtain ⟨_, _, _, _, _, _, _, h, _⟩ := S1.gr.tok b n
  exact ⟨_, h⟩
end
section
variable {X : Cx} {m : M} {p : Addr × Obj} {C : Addr} {d : Option Addr} {i : Nat} {x y z : Str} {px py pz pos : Pos} {cv : Value} {c : V}
def rIsP (K : Frag) (p : Addr × Obj) (C : Addr) (d : Option Addr) : List V → Hp → VK → Prop := fun xs H Q => ∃ (c : V) (cv : Value) (b : Bool), xs = [.ref p.1, c] ∧ (∀ u, RelV c u → u = cv) ∧ PySem.W.kitOne K (.ref C) cv = some b ∧ (d = none ∨ ∃ dd fs, d = some dd ∧ H dd = some (.xd fs)) ∧ Q (.bl b) H
theorem call_isP (T : ExcC X.K C) (hp : p ∈ X.pn) (hz : Zc (.ref C) d p.2) (hv : ∃ fs, p.2.data = .fields fs) : CallR X (.builtin "isinstance") (rIsP X.K p C d) := by
  intro pins s σ H xs us Q I r h
  obtain ⟨c, cv, b, rfl, hcv, e, hd, z⟩ := h
  obtain ⟨fs, hv⟩ := hv
  cases r with
  | cons rx rr =>
    cases rr with
    | cons rt rr =>
      cases rr
      cases rx
      obtain rfl := hcv _ rt
      have pin := (I.pin p (List.mem_append_left _ hp)).1
      obtain ⟨od, J⟩ : ∃ od, PySem.W.InstAt s.heap p.1 p.2 C od := by
        have nc : PySem.W.notCls p.2 = true := by unfold PySem.W.notCls; rw [hv]
        rcases hd with rfl | ⟨dd, fs', rfl, hx⟩
        · exact ⟨none, pin, hz.1, nc, by rw [hz.2]; exact True.intro⟩
        · obtain ⟨_, ⟨o, _, _, eo, _⟩, _⟩ : ∃ mA, s.heap.Ns1 dd mA ∧ ∀ f, RelO (fs'.lookup f) (mA f) := I.hok dd _ hx
          exact ⟨some o, pin, hz.1, nc, by rw [hz.2]; exact eo⟩
      have cC : (PySem.W.clsIn X.K C).isSome = true := by
        obtain ⟨cd, hc, _⟩ := PySem.W.any_some T.hd
        rw [hc]; rfl
      exact PySem.W.kia_one (PySem.W.kitx_exc cC T.hg T.hk T.hs T.ha T.hn T.ht T.hm) I.kIn J e (fun z => nomatch z) fun tk => ⟨.bl b, H, I.kept (t' := tk) fun _ _ z => z, rfl, z⟩
def dIsP (K : Frag) (a C : Addr) (d : Option Addr) (cv : Value) (i : Nat) : DE := fun ρ Q => ∃ ns ds b, ρ[i]? = some (some (false, .exc a d C ns ds)) ∧ PySem.W.kitOne K (.ref C) cv = some b ∧ Q (.bl b) ρ
theorem pd_isP (T : ExcC X.K C) (hp : p ∈ X.pn) (hz : Zc (.ref C) d p.2) (hv : ∃ fs, p.2.data = .fields fs) (hx : PE X (.Name x px) (tVar i)) (hc : PE X (.Name z pz) (tC c)) (hcv : ∀ u, RelV c u → u = cv) (hy : y = "isinstance") (hg : Gl X y) (hm : X.mg y = none)
    (he : starEach [.Name x px, .Name z pz] X.env = (false, eval (.Name x px) X.env) :: starEach [.Name z pz] X.env := by rfl) (he2 : starEach [.Name z pz] X.env = (false, eval (.Name z pz) X.env) :: starEach [] X.env := by rfl) (hpl : (backTo pos (starEach [.Name z pz] X.env)).any (·.1) = false := by rfl) :
    PD X m (.Call (.Name y py) [.Name x px, .Name z pz] [] pos) (dIsP X.K p.1 C d cv i) := by
  subst hy
  refine ⟨PE.imp (pe_callB (call_isP T hp hz hv) hg hm boot_isinstance (pa_cons hx (pa_cons hc pa_nil he2) he) (by decide) (by decide) he hpl) fun σ H Q ⟨ρ, F, S, ns, ds, b, e0, ek, q⟩ => ?_, fun ρ Q Q' i ⟨ns, ds, b, e0, ek, q⟩ => ⟨ns, ds, b, e0, ek, i _ _ q⟩⟩
  obtain ⟨v, ev, rfl, z2⟩ := S.slot i _ e0
  refine ⟨_, ev, c, cv, b, rfl, hcv, ek, ?_, q _ H F (Same.refl _) S rfl⟩
  rcases z2 with ⟨_, rfl⟩ | ⟨_, dd, vs, rfl, h1, _⟩
  · exact .inl rfl
  · exact .inr ⟨dd, _, rfl, S.gr.fs _ _ h1⟩
end
structure PDIH (X : Cx) (m : M) (tg e : Expr) (ti : DI) : Prop where
  pi : PIH X tg e (lI X m ti)
  mono : ∀ ρ Q Q', (∀ d ρ', Q d ρ' → Q' d ρ') → ti ρ Q → ti ρ Q'
section
variable {X : Cx} {m : M} {a : Expr} {pos : Pos}
theorem pdi_range1H {tg : Expr} {ua : DA} {p : Pos} (hg : Gl X "range") (hm : X.mg "range" = none) (ha : PDA X m [a] ua) (hs : starEach [a] X.env = [(false, eval a X.env)] := by rfl) : PDIH X m tg (.Call (.Name "range" p) [a] [] pos) (diRange1 ua) := by
  have P := pi_range1H (tg := tg) (p := p) (pos := pos) hg hm ha.pe hs
  refine ⟨⟨fun pins s σ H R I ⟨ρ, F, S, t⟩ => P.run pins s σ H R I ⟨ρ, F, S, ha.mono _ _ _ (fun ds ρ' q vs H' F' s' S' r => ?_) t⟩⟩, fun ρ Q Q' i => ha.mono _ _ _ fun ds ρ' ⟨j, e, h, q⟩ => ⟨j, e, h, i _ _ q⟩⟩
  obtain ⟨j, rfl, ⟨h1, h2⟩, q⟩ := q
  obtain ⟨v, r1, rfl, rv, r2⟩ := r
  obtain rfl : r1 = [] := r2
  obtain rfl : v = .int j := rv
  exact ⟨j, rfl, h1, h2, q H' F' _ s' S' itok_rng⟩
variable {elt tg iter : Expr} {ifs : List Expr} {scope : Scope} {own : List (Str × Nat)} {ti : DI} {dg : DG} {g : TG} {tt : DT} {te : DE}
theorem pd_lcH (hc : HotC X) (hN : X.N.Nodup) (hi : PDIH X m tg iter ti) (ok : BlkOk X.N X.env.scope scope own) (hct : CTg X.K (own.map (·.2)) g dg)
    (hg : ∀ (s : Shared) (H : Hp) (C : Addr) (cl : List (Str × Addr)) (fp : List Addr), PG (blkH X s H scope (compEnvC scope cl C X.env) fp) tg g)
    (ht : ∀ (s : Shared) (H : Hp) (C : Addr) (cl : List (Str × Addr)) (fp : List Addr) (m' : M), PDTs (blkH X s H scope (compEnvC scope cl C X.env) fp) m' ifs tt)
    (he : ∀ (s : Shared) (H : Hp) (C : Addr) (cl : List (Str × Addr)) (fp : List Addr) (m' : M), PD (blkH X s H scope (compEnvC scope cl C X.env) fp) m' elt te) (s0 : Shared) (hs : ∀ x, foldedSetIterable iter X.env x = pure x := by intro _; rfl) :
    PD X m (.ListComp elt [⟨tg, iter, ifs, 0⟩] scope pos) (dLc ti dg tt te (own.map (·.2))) := by
  have mt := (ht s0 m.H0 0 [] [] m).mono
  have me := (he s0 m.H0 0 [] [] m).mono
  refine ⟨PE.imp (pe_lcH hc hN hi.pi ok hg (tt := fun σ H Q => ∃ m' : M, m'.st = m.st ∧ lT X m' tt σ H Q) (te := fun σ H Q => ∃ m' : M, m'.st = m.st ∧ lE X m' te σ H Q) (fun s H C cl fp => ⟨fun pins s2 σ H2 Q I ⟨m', _, q⟩ => (ht s H C cl fp m').pe.run pins s2 σ H2 Q I q⟩) (fun s H C cl fp => ⟨fun pins s2 σ H2 Q I ⟨m', _, q⟩ => (he s H C cl fp m').pe.run pins s2 σ H2 Q I q⟩) hs) fun σ H Q h => ?_, lc_mono hi.mono hct mt me⟩
  refine lc_imp hi.mono hct mt me σ H Q (fun d ρ' F => ∀ v H' F', Same F F' → Sm X m σ H' ρ' F' → Rep (m.c X) F' d v → Q v H') (fun {F F1 H' ρ1 acc vacc L} s1 S1 h1 r1 f1 f2 fr k => ?_) h
  have S2 := S1.frzSide f1 f2 h1 fr
  have sF : Same F1 (upd F1 L (.lst vacc)) := same_upd f1
  exact k _ _ _ (s1.trans sF) S2 ⟨L, vacc, rfl, upd_same, r1.mono sF⟩
end
end DL
namespace DL
open PySem PySem.Spec L2 PyProof.Rows L2H NdefX
class PrF (P : Program) : Prop where
  file : P.main.file = "/claim/cut.py"
  top : (P.main.scope.names.lookup ("super" : Str)).isSome = false
structure DefC where
  cls : Str
  qual : Str
  params : Arguments
  body : List Stmt
  scope : Scope
abbrev FnC : Type := Option (Str × Str × Arguments × FuncBody × Scope × Addr × Value × Value × Option Addr × Addr)
def iniOf (K : Frag) (x : Str) : Addr := He.ma K (He.ga K x) "__init__"
def fnC (K : Frag) (x : Str) : FnC := match K.lookup (iniOf K x) with
  | some ⟨_, _, .func fd, _⟩ => some (fd.name, fd.qualname, fd.params, fd.body, fd.scope, fd.globals, fd.defaults, fd.kwdefaults, fd.annotations, fd.builtins)
  | _ => none
def DefC.val (d : DefC) : FnC := some ("__init__", d.qual, d.params, .stmts d.body, d.scope, mainGlobals, .none, .none, none, builtinsNs)
def fileB (K : Frag) (cd : Value) : Bool := match cd with
  | .ref c => (match K.lookup c with
    | some ⟨_, _, .fields vs, _⟩ => (match (vs[2]? : Option Value) with
      | some (.str fl _) => decide (("/claim/cut.py" : Str) = fl)
      | _ => false)
    | _ => false)
  | _ => false
def cellB (K : Frag) (cc D : Addr) : Bool := match K.lookup cc with
  | some ⟨_, _, .cell (some (.ref E)), _⟩ => decide (E = D)
  | _ => false
def clB (K : Frag) (D : Addr) : List (Str × Addr) → Bool
  | [(n, cc)] => decide (n = ("__class__" : Str)) && cellB K cc D
  | _ => false
theorem clB_ok {K : Frag} {D : Addr} {cl : List (Str × Addr)} (h : clB K D cl = true) : ∃ cc, cl = [(("__class__" : Str), cc)] ∧ cellB K cc D = true := by
  match cl, h with
  | [(n, cc)], h =>
    obtain ⟨h1, h2⟩ := Bool.and_eq_true_iff.mp (show (decide (n = ("__class__" : Str)) && cellB K cc D) = true from h)
    obtain rfl := of_decide_eq_true h1
    exact ⟨cc, rfl, h2⟩
def cloB (K : Frag) (x qual : Str) : Bool := match K.lookup (iniOf K x) with
  | some ⟨_, _, .func fd, _⟩ => clB K (He.ga K x) fd.closure && (PySem.W.codeIn K fd.code qual && fileB K fd.code)
  | _ => false
theorem supF_of {P : Program} [pf : PrF P] {K : Frag} {d : DefC} (e : fnC K d.cls = d.val) (b : cloB K d.cls d.qual = true) : ∃ cc c, SupF P K ⟨"__init__", d.qual, d.params, d.body, d.scope, [(("__class__" : Str), cc)], c⟩ (iniOf K d.cls) (He.ga K d.cls) cc := by
  unfold fnC at e
  unfold cloB at b
  cases q : K.lookup (iniOf K d.cls) with
  | none => rw [q] at e; cases e
  | some o =>
    obtain ⟨oc, od, dt, osl⟩ := o
    rw [q] at e b
    cases dt with
    | func fd =>
      obtain ⟨b1, b2⟩ := Bool.and_eq_true_iff.mp b
      obtain ⟨b2, b3⟩ := Bool.and_eq_true_iff.mp b2
      obtain ⟨n1, n2, n3, n4, n5, n6, cl, n8, n9, n10, n11, n12, n13, n14, n15⟩ := fd
      have e2 : (some (n1, n2, n3, n4, n5, n6, n8, n9, n12, n15) : FnC) = (some (("__init__" : Str), d.qual, d.params, FuncBody.stmts d.body, d.scope, mainGlobals, Value.none, Value.none, (none : Option Addr), builtinsNs) : FnC) := e
      simp only [Option.some.injEq, Prod.mk.injEq] at e2
      obtain ⟨h1, h2, h3, h4, h5, h6, h7, h8, h9, h10⟩ := e2
      subst h1 h2 h3 h4 h5 h6 h7 h8 h9 h10
      obtain ⟨cc, ecl, c2⟩ := clB_ok (show clB K (He.ga K d.cls) cl = true from b1)
      subst ecl
      have b3 : fileB K n13 = true := b3
      have b2 : PySem.W.codeIn K n13 d.qual = true := b2
      cases n13 with
      | ref c =>
        refine ⟨cc, c, ⟨oc, od, osl, n10, n11, n14, q⟩, b2, rfl, ?_, ?_, pf.top⟩
        · unfold cellB at c2
          split at c2
          · rename_i E sl ho
            obtain rfl := of_decide_eq_true c2
            exact ⟨_, _, _, ho⟩
          · cases c2
        · unfold fileB at b3
          dsimp only at b3
          split at b3
          · rename_i vs sl ho
            split at b3
            · rename_i fl tk hv
              refine ⟨_, _, _, vs, fl, tk, ho, hv, ?_⟩
              rw [pf.file, of_decide_eq_true b3]
              exact beq_self_eq_true _
            · cases b3
          · cases b3
      | _ => cases b3
    | _ => cases e
def oexB (K : Frag) (C : Addr) : Bool := match K.lookup C with
  | some ⟨.type t, _, .cls cd, sl⟩ => decide (t = "type") && ((match cd.mro with
    | .ref E :: bm => decide (E = C) && PySem.HandSPX.refsVE bm
    | _ => false) && ((match sl.toList with
    | [_, _, _, _, some (.builtin n), _] => decide (n = "ValueError.__new__")
    | _ => false) && (cd.hasDict && !cd.hasDel)))
  | _ => false
theorem oexB_ok {K : Frag} {C : Addr} (h : oexB K C = true) : ∃ nm q N bs bm sn sub ab col dd k0 k1 k2 k3 k5, K.lookup C = some (excClassObj nm q C N bs bm true sn sub ab col dd k0 k1 k2 k3 k5 "ValueError.__new__") ∧ PySem.HandSPX.refsVE bm = true := by
  unfold oexB at h
  split at h
  · rename_i t dd cd sl ho
    obtain ⟨h1, h⟩ := Bool.and_eq_true_iff.mp h
    obtain ⟨h2, h⟩ := Bool.and_eq_true_iff.mp h
    obtain ⟨h3, h⟩ := Bool.and_eq_true_iff.mp h
    obtain ⟨h4, h5⟩ := Bool.and_eq_true_iff.mp h
    obtain rfl := of_decide_eq_true h1
    obtain ⟨nm, bs, mro, ns, qn, hd, sn, sub, ab, col, del⟩ := cd
    dsimp only at h2 h4 h5
    cases mro with
    | nil => cases h2
    | cons v bm =>
      cases v with
      | ref E =>
        obtain ⟨g1, g2⟩ := Bool.and_eq_true_iff.mp h2
        obtain rfl := of_decide_eq_true g1
        split at h3
        · rename_i k0 k1 k2 k3 n k5 hs
          obtain rfl := of_decide_eq_true h3
          have hd1 : del = false := by simpa using h5
          subst hd1
          subst h4
          obtain ⟨l⟩ := sl
          simp only at hs
          subst hs
          exact ⟨nm, qn, ns, bs, bm, sn, sub, ab, col, dd, k0, k1, k2, k3, k5, ho, g2⟩
        · cases h3
      | _ => cases h2
  · cases h
def supB (K : Frag) (D C : Addr) : Bool := (PySem.W.clsIn K D).isSome && (decide (PySem.W.mroIn K C (.ref D) = some true) && (He.eqO (PySem.W.ks_superIn K C D "__init__") (some (some (.builtin "ValueError.__init__"))) && (decide (PySem.W.subIn K (.ref C) (.type "ValueError") = some true) &&
  (He.eqO (PySem.W.nsIn K cStatics "thirdparty.any") (some none) && (oexB K C && (He.eqO (PySem.W.findIn K (.ref C) "__setattr__") (some (some (.builtin "object.__setattr__"))) && (decide (PySem.W.subIn K (.ref C) (.type "BaseException") = some true) &&
  (decide (PySem.W.typeIn K (.ref C) = some (.type "type")) && PySem.W.keepIn K (.ref C)))))))))
theorem supB_ok {K : Frag} {D C : Addr} (h : supB K D C = true) : SupC K D C := by
  unfold supB at h
  simp only [Bool.and_eq_true, decide_eq_true_eq] at h
  obtain ⟨h1, h2, h3, h4, h5, h6, h7, h8, h9, h10⟩ := h
  exact ⟨h1, h2, He.eqO_ok h3, h4, He.eqO_ok h5, oexB_ok h6, He.eqO_ok h7, h8, h9, h10⟩
def iniB (K : Frag) (D C fld : Str) : Bool := supB K (He.ga K D) (He.ga K C) && (He.eqO (PySem.W.findIn K (.ref (He.ga K C)) "__init__") (some (some (.ref (iniOf K D)))) && (decide (PySem.W.typeIn K (.ref (iniOf K D)) = some (.type "function")) && He.eqO (PySem.W.findIn K (.ref (He.ga K C)) fld) (some none)))
def excB (K : Frag) (D : Addr) : Bool := He.eqO (PySem.W.findIn K (.ref D) "__getattribute__") (some (some (.builtin "BaseException.__getattribute__"))) && (He.eqO (PySem.W.findIn K (.ref D) "__getattr__") (some none) && (decide (PySem.W.subIn K (.ref D) (.type "BaseException") = some true) && (PySem.W.hasDictIn K D &&
  (He.eqO (PySem.W.findIn K (.ref D) "__class__") (some (some (.builtin "object.__class__"))) && (He.eqO (PySem.W.specialIn K (.builtin "object.__class__") "__get__") (some (some (.builtin "getset_descriptor.__get__"))) && (decide (PySem.W.takesIn K (.builtin "object.__class__") = some true) && decide (PySem.W.mroIn K D (.type "object") = some true)))))))
theorem excB_ok {K : Frag} {D : Addr} (h : excB K D = true) : ExcC K D := by
  unfold excB at h
  simp only [Bool.and_eq_true, decide_eq_true_eq] at h
  obtain ⟨h1, h2, h3, h4, h5, h6, h7, h8⟩ := h
  exact ⟨He.eqO_ok h1, He.eqO_ok h2, h3, h4, He.eqO_ok h5, He.eqO_ok h6, h7, h8⟩
theorem okE_of {P : Program} [PrF P] {w : World} {K : Frag} {mg : Str → Option Value} {base : Heap} {C : Str} {d : DefC} {x1 x2 fld msg : Str} {ar : Arg} {p0 p1 p2 p3 p4 p5 q1 q2 q3 q4 : Pos} {j : Nat} (e : fnC K d.cls = d.val) (b : cloB K d.cls d.qual = true) (hi : iniB K d.cls C fld = true) (gl : mg C = some (.ref (He.ga K C))) (hm : mg "super" = none)
    (S : NScope [x1, x2, "__class__"] [x1, x2] ["__class__"] d.scope) (hks : d.scope.names.lookup ("super" : Str) = some .globalImplicit) (hpar : (d.params.posonlyargs ++ d.params.args).head? = some ar) (har : ar.arg = x1)
    (n1 : (x1 == ("__debug__" : Str)) = false) (n2 : (x2 == ("__debug__" : Str)) = false) (n3 : (x1 == ("__classdict__" : Str)) = false) (n4 : (x2 == ("__classdict__" : Str)) = false)
    (hev : ∀ F : NF, F.scope = d.scope → ∀ f L, ∃ pl, eval (.Call (.Attribute (.Call (.Name "super" p0) [] [] p1) "__init__" p2) [.Constant (.str msg) j p3] [] p4) (envF F f L) = (do
      let ov ← attributeBase (.Call (.Name "super" p0) [] [] p1) "__init__" (envF F f L) (eval (.Call (.Name "super" p0) [] [] p1) (envF F f L))
      standAt p2.atName
      let (g, first) ← holding [ov] (getMethod ov "__init__" pl)
      callWith p4 g first (backTo p4 (starEach [.Constant (.str msg) j p3] (envF F f L))) []))
    (hin : ∀ F : NF, F.scope = d.scope → ∀ f L, interactive (envF F f L) = false) (hsw : ∀ F : NF, F.scope = d.scope → ∀ f L, swapsWith (.Call (.Attribute (.Call (.Name "super" p0) [] [] p1) "__init__" p2) [.Constant (.str msg) j p3] [] p4) none p5.line (envF F f L) = pure false)
    (hst : ∀ F : NF, F.scope = d.scope → ∀ f L, swapsWith (.Name x2 q3) (some (.Attribute (.Name x1 q1) fld q2)) q4.line (envF F f L) = pure false)
    (hbody : d.body = [.Expr (.Call (.Attribute (.Call (.Name "super" p0) [] [] p1) "__init__" p2) [.Constant (.str msg) j p3] [] p4) p5, .Assign [.Attribute (.Name x1 q1) fld q2] (.Name x2 q3) q4])
    (hb : ∀ (cl : List (Str × Addr)) (doc pm cdv ctv : Value) (us : List Value), us.length = 2 → bindArgs (PySem.W.fnX "__init__" d.qual d.params d.body d.scope cl .none .none doc pm none cdv ctv) ⟨us, []⟩ = pure ([x1, x2].zip us)) : OkE P w K mg base C fld := by
  obtain ⟨cc, c, SF⟩ := supF_of (P := P) e b
  unfold iniB at hi
  simp only [Bool.and_eq_true, decide_eq_true_eq] at hi
  obtain ⟨h1, h2, h3, h4⟩ := hi
  obtain ⟨fd, ⟨doc, pm, ctv, efd⟩, F1⟩ := fn_exI (w := w) (mg := mg) (base := base) (CX := CX0) (k := 0) (fld := fld) (msg := msg) (j := j) SF S hks hm hpar har n1 n2 n3 n4 (hev _ rfl _) (hin _ rfl _) (hsw _ rfl _) (hst _ rfl _) hbody
  refine ⟨_, _, fd, _, supB_ok h1, He.eqO_ok h2, h3, F1, ?_, He.eqO_ok h4, gl⟩
  subst efd
  exact .all fun us hl => hb _ _ _ _ _ us hl
def asZ (g : Addr → Option Obj) : Nat → List Addr
  | 0 => [mainGlobals, cStatics]
  | n + 1 => He.growD g (asZ g n)
abbrev AlZ : Type := He.AlD × (Bool × List FnC)
def obsZ (fa : List He.Fa) (fn : List He.DefD) (fx : List (Frag → Bool)) (fc : List DefC) (K : Frag) : AlZ := (He.obsD fa fn K, (fx.all fun f => f K) && fc.all fun d => cloB K d.cls d.qual, fc.map fun d => fnC K d.cls)
def valZ (fn : List He.DefD) (fc : List DefC) : AlZ := (He.valD fn, true, fc.map DefC.val)
def SaysZ (fa : List He.Fa) (fn : List He.DefD) (fx : List (Frag → Bool)) (fc : List DefC) (K : Frag) : Prop := obsZ fa fn fx fc K = valZ fn fc
def obsZG (n : Nat) (fa : List He.Fa) (fn : List He.DefD) (fx : List (Frag → Bool)) (fc : List DefC) (g : Addr → Option Obj) : AlZ := obsZ fa fn fx fc (He.frG g (asZ g n))
def hookZ (n : Nat) (fa : List He.Fa) (fn : List He.DefD) (fx : List (Frag → Bool)) (fc : List DefC) : PySem.W.Hook where
  α := AlZ
  obs := fun s => obsZG n fa fn fx fc s.heap.get?
  val := fun _ => valZ fn fc
  says := fun _ h => ∃ K : Frag, K.In h ∧ SaysZ fa fn fx fc K
  of := fun _ _ e => ⟨_, He.frG_in, e⟩
  keeps := fun _ _ _ ⟨K, hK, c⟩ k => ⟨K, PySem.W.Frag.In.keeps hK k, c⟩
theorem obsZG_eq {n : Nat} {fa : List He.Fa} {fn : List He.DefD} {fx : List (Frag → Bool)} {fc : List DefC} {g : Addr → Option Obj} {s : Shared} (h : ∀ a, g a = s.heap.get? a) : obsZG n fa fn fx fc g = (hookZ n fa fn fx fc).obs s := by
  have e : g = s.heap.get? := funext h
  rw [e] <;> rfl
section
variable {fa : List He.Fa} {fn : List He.DefD} {fx : List (Frag → Bool)} {fc : List DefC} {K : Frag}
theorem SaysZ.d (c : SaysZ fa fn fx fc K) : He.SaysD fa fn K := congrArg (fun z : AlZ => z.1) c
theorem SaysZ.bool (c : SaysZ fa fn fx fc K) (i : Nat) {f : Frag → Bool} (h : fx[i]? = some f := by rfl) : f K = true := by
  have c1 := (Bool.and_eq_true_iff.mp (show ((fx.all fun f => f K) && fc.all fun d => cloB K d.cls d.qual) = true from congrArg (fun z : AlZ => z.2.1) c)).1
  exact List.all_eq_true.mp c1 f (List.mem_of_getElem? h)
theorem SaysZ.clo (c : SaysZ fa fn fx fc K) (i : Nat) {d : DefC} (h : fc[i]? = some d := by rfl) : fnC K d.cls = d.val ∧ cloB K d.cls d.qual = true := by
  have c2 := (Bool.and_eq_true_iff.mp (show ((fx.all fun f => f K) && fc.all fun d => cloB K d.cls d.qual) = true from congrArg (fun z : AlZ => z.2.1) c)).2
  have e : fc.map (fun d => fnC K d.cls) = fc.map DefC.val := congrArg (fun z : AlZ => z.2.2) c
  have e2 : (fc.map fun d => fnC K d.cls)[i]? = (fc.map DefC.val)[i]? := by rw [e]
  rw [List.getElem?_map, List.getElem?_map, h] at e2
  exact ⟨Option.some.inj e2, List.all_eq_true.mp c2 d (List.mem_of_getElem? h)⟩
end
end DL
namespace DL
open PySem PySem.Spec L2 PyProof.Rows L2H NdefX
theorem boot_ValueError : bootBuiltins ("ValueError" : Str) = some (.type "ValueError") := PyProof.Rows.Boot.«ValueError»
theorem unitsH {k : Nat} {A : Around} (r : RoomH k A) : A.units + 64 < cLine := by
  have := r.un
  omega
theorem take0N {X : Cx} {m : M} : L2N.Takes X (lW X m (fun _ _ _ _ => False)) := fun _ _ ⟨_, _, _, _, _, _, _, _, _, _, _, _, _, _, _, _, _, _, _, _, _, _, _, z⟩ => z.elim
section
variable {ρ : Ro} {E : DEn} {tx : DXm} {wd Q : XW} {te : DE} {ua : DA} {C : Addr} {fld : Str} {Qd : D → Ro → Prop}
theorem s_raise (h : tx ρ wd) : dRaise tx wd E ρ := h
theorem s_mkE (h : te ρ fun d ρ' => Q C [fld] [d] ρ') : dMkE C fld te ρ Q := h
theorem s_mk0 (h : Q C [] [] ρ) : dMk0 C ρ Q := h
theorem s_callX {sd : SpD} (h : ua ρ fun ds ρ' => sd.run ds (fun d => Qd d ρ') (fun C ns vs => wd C ns vs ρ')) : dCallX sd wd ua ρ Qd := h
theorem s_xf {a : Addr} {d : Option Addr} {f : Str} {i : Nat} {ns : List Str} {ds : List D} {z : D} (e : ρ[i]? = some (some (false, .exc a d C ns ds))) (l : lookF ns ds f = some z) (h : Qd z ρ) : dXf a (.ref C) d C f i ρ Qd := ⟨ns, ds, z, e, rfl, l, h⟩
theorem s_callE {K : Frag} {sd : SdE} {a : Addr} {d : Option Addr} (T : ExcC K C) (h : ua ρ fun ds ρ' => (sd a C d).run ds (fun z => Qd z ρ') XP0) : dCallE K sd a (.ref C) d ua ρ Qd := ⟨C, rfl, T, h⟩
theorem s_isP {K : Frag} {a : Addr} {d : Option Addr} {cv : Value} {i : Nat} {ns : List Str} {ds : List D} {b : Bool} (e : ρ[i]? = some (some (false, .exc a d C ns ds))) (k : PySem.W.kitOne K (.ref C) cv = some b) (h : Qd (.bl b) ρ) : dIsP K a C d cv i ρ Qd := ⟨ns, ds, b, e, k, h⟩
end
end DL
namespace DL
open PySem PySem.Spec L2 PyProof.Rows
section
variable {P : D → Prop}
theorem s_find3 {x y : List Nat} {i : Int} (h : P (.int (Txt.find3 (S x) (S y) i))) : fFind3 (.str x) [.str y, .int i] P := h
theorem s_strT {x : List Nat} {B : Prop} (h : B) : isT "str" (.str x) ∧ B := ⟨.inl ⟨rfl, _, rfl⟩, h⟩
theorem s_mk {A : Type} {enc : A → List D} {pre : A → Prop} {post : A → D → Prop} {ds : List D} {Q : D → Prop} {X : XP} (a : A) (e : ds = enc a) (h : pre a) (k : ∀ d, post a d → Q d) : (mkSp enc pre post).run ds Q X := ⟨a, e, h, k⟩
theorem s_ixS0 {x c : Nat} (h : P (.str [x])) : fIx (.str [x, c]) (.int 0) P := ⟨by simp, x, rfl, h⟩
theorem s_ixS1 {x c : Nat} (h : P (.str [c])) : fIx (.str [x, c]) (.int 1) P := ⟨by simp, c, rfl, h⟩
theorem rangeD_len {lo : Int} {n : Nat} : (rangeD lo n).length = n := by simp [rangeD]
theorem rangeD_get {lo : Int} {n i : Nat} {d : D} (h : (rangeD lo n)[i]? = some d) : i < n ∧ d = .int (lo + i) := by
  have hi : i < n := by
    have := (List.getElem?_eq_some_iff.mp h).1
    rwa [rangeD_len] at this
  unfold rangeD at h
  rw [List.getElem?_map, List.getElem?_range hi] at h
  exact ⟨hi, (Option.some.inj h).symm⟩
theorem s_iteNT {A B : Prop} (h : B) : if (!true) = true then A else B := h
theorem s_iteNF {A B : Prop} (h : A) : if (!false) = true then A else B := h
theorem strsD_chars (cs : List Nat) : strsD (cs.map fun c => D.str [c]) = some (cs.map fun c => [c]) := by
  induction cs with
  | nil => rfl
  | cons c cs ih => simp only [List.map_cons, strsD, ih]; rfl
theorem flat_chars (cs : List Nat) : (cs.map fun c => [c]).flatten = cs := by
  induction cs with
  | nil => rfl
  | cons c cs ih => simp [ih]
def sdNever : SpD := { run := fun _ _ _ => False, mono := fun _ _ _ _ _ _ _ h => h }
theorem pds_no {X : Cx} {m : M} {st : List Stmt} : PDSs X m st (fun _ _ => False) := ⟨⟨fun pins s σ H D I ⟨ρ, F, S, t⟩ => t.elim⟩, fun _ _ _ _ h => h⟩
theorem ok_never {P : Program} {w : World} {K : PySem.W.Frag} {mg : Str → Option Value} {base : Heap} {x : Str} {st : Stmt} {N ps : List Str} (F : Df K mg x st ps) (S : FnScope N ps (defScope st)) : Ok P w K mg base x 1 ps sdNever :=
  ok_mk (k := 0) F S (fun _ _ _ h => h.elim) fun cdv A outer s H E m hr => ⟨_, pds_no, fun _ _ _ h => h.elim⟩
def plainD : Nat → D → Bool
  | _, .non => true | _, .bl _ => true | _, .int _ => true | _, .str _ => true
  | n + 1, .lst ds => decide (ds.length ≤ 1000) && ds.all (plainD n)
  | n + 1, .tup ds => decide (ds.length ≤ 1000) && ds.all (plainD n)
  | _, _ => false
theorem dec_rfl' {α : Type} {a : α} (i : Decidable (a = a)) : @decide (a = a) i = true := decide_eq_true rfl
def truN (Qb : Bool → Ro → Prop) (d : D) (ρ' : Ro) : Prop := lenOkD d ∧ match truD d with
  | some b => Qb b ρ'
  | none => False
theorem s_truT {t : DE} {ρ : Ro} {Qb : Bool → Ro → Prop} (h : t ρ (truN Qb)) : dTru t ρ Qb := h
theorem s_truB {b : Bool} {ρ : Ro} {Qb : Bool → Ro → Prop} (h : Qb b ρ) : truN Qb (.bl b) ρ := ⟨trivial, h⟩
theorem s_setF {K : PySem.W.Frag} {i : Nat} {f : Str} {te : DE} {E : DEn} {ρ : Ro} (h : te ρ (setFd K E i f)) : dSetF K i f te E ρ := h
theorem s_setFd {K : PySem.W.Frag} {E : DEn} {i : Nat} {f : Str} {d : D} {ρ : Ro} {q C : Addr} {ns : List Str} {vs : List D} (e : ρ[i]? = some (some (true, .pin q (.ins C ns vs)))) (c : Cls K C) (n : NoAttr K C f) (l : ns.length < 1000) (h : E.nx (ρ.set i (some (true, .pin q (.ins C (putNs f ns) (putVs f d ns vs)))))) : setFd K E i f d ρ := ⟨q, C, ns, vs, e, c, n, l, h⟩
theorem s_fld {K : PySem.W.Frag} {C : Addr} {ns : List Str} {vs : List D} {f : Str} {z : D} (c : Cls K C) (n : NoAttr K C f) (l : lookF ns vs f = some z) (h : P z) : fFld K f (.ins C ns vs) P := ⟨c, n, z, l, h⟩
theorem t_meth {C : Addr} {x : Str} {sd : SpD} {Y : XP} {to : DE} {ua : DA} {ρ : Ro} {Q : D → Ro → Prop} (h : to ρ fun d ρ1 => (∃ ns vs, d = .ins C ns vs ∧ x ∉ ns) ∧ ua ρ1 fun ds ρ2 => sd.run (d :: ds) (fun z => Q z ρ2) Y) : dMethC C x sd Y to ua ρ Q := h
theorem s_insd {C : Addr} {x : Str} {ns : List Str} {vs : List D} {B : Prop} (n : x ∉ ns) (h : B) : (∃ ns' vs', D.ins C ns vs = .ins C ns' vs' ∧ x ∉ ns') ∧ B := ⟨⟨ns, vs, rfl, n⟩, h⟩
theorem s_nxw {N : Ro → Prop} {ρ : Ro} (h : N ρ) : N ρ := h
theorem s_gtup {n : Nat} {gs : DGs} {ds : List D} {ρ : Ro} {N : Ro → Prop} (h1 : ds.length = n) (h : gs ds ρ N) : dgTup n gs (.tup ds) ρ N := ⟨h1, h⟩
theorem s_gcons {g : DG} {gs : DGs} {d : D} {ds : List D} {ρ : Ro} {N : Ro → Prop} (h : g d ρ fun ρ' => gs ds ρ' N) : dgCons g gs (d :: ds) ρ N := h
theorem s_gnil {ρ : Ro} {N : Ro → Prop} (h : N ρ) : dgNil [] ρ N := ⟨rfl, h⟩
theorem s_ienum {ua : DA} {ρ : Ro} {R : List D → Ro → Prop} (h : ua ρ (enm1 R)) : diEnum ua ρ R := h
theorem s_enmS {x : List Nat} {ρ : Ro} {R : List D → Ro → Prop} (h : R (enumD (x.map fun c => .str [c])) ρ) : enm1 R [.str x] ρ := ⟨_, _, rfl, rfl, h⟩
def iterAny (R : List D → Ro → Prop) (d : D) (ρ' : Ro) : Prop := ∃ ds, itemsD d = some ds ∧ R ds ρ'
theorem t_iany {te : DE} {ρ : Ro} {R : List D → Ro → Prop} (h : te ρ (iterAny R)) : diAny te ρ R := h
theorem s_itemS {x : List Nat} {ρ : Ro} {R : List D → Ro → Prop} (h : R (x.map fun c => .str [c]) ρ) : iterAny R (.str x) ρ := ⟨_, rfl, h⟩
theorem s_itemL {x : List D} {ρ : Ro} {R : List D → Ro → Prop} (h : R x ρ) : iterAny R (.lst x) ρ := ⟨_, rfl, h⟩
theorem s_sort {te : DE} {ρ : Ro} {Q : D → Ro → Prop} (h : te ρ (sortSetK Q)) : dSortSet te ρ Q := h
theorem t_notinC {c : Nat} {a : List Nat} (h : P (.bl (!decide (c ∈ a)))) : fInG true (.str [c]) (.str a) P := h
theorem t_inC {c : Nat} {a : List Nat} (h : P (.bl (decide (c ∈ a)))) : fInG false (.str [c]) (.str a) P := h
theorem enumD_get {x : List Nat} {i : Nat} {d : D} (h : (enumD (x.map fun c => D.str [c]))[i]? = some d) : ∃ c, x[i]? = some c ∧ d = .tup [.int (i : Nat), .str [c]] := by
  simp only [enumD, List.getElem?_mapIdx, List.getElem?_map] at h
  cases e : x[i]? with
  | none => rw [e] at h; cases h
  | some c => rw [e] at h; exact ⟨c, rfl, (Option.some.inj h).symm⟩
theorem enumD_len {x : List D} : (enumD x).length = x.length := by simp [enumD]
theorem chars_get {x : List Nat} {i : Nat} {d : D} (h : (x.map fun c => D.str [c])[i]? = some d) : ∃ c, x[i]? = some c ∧ d = .str [c] := by
  rw [List.getElem?_map] at h
  cases e : x[i]? with
  | none => rw [e] at h; cases h
  | some c => rw [e] at h; exact ⟨c, rfl, (Option.some.inj h).symm⟩
theorem s_max2 {ua : DA} {ρ : Ro} {Q : D → Ro → Prop} (h : ua ρ (max2 Q)) : dMax2 ua ρ Q := h
theorem s_max2N {a b : Int} {ρ : Ro} {Q : D → Ro → Prop} (h : Q (.int (if b > a then b else a)) ρ) : max2 Q [.int a, .int b] ρ := ⟨a, b, rfl, h⟩
theorem cut_take {α : Type} (w : List α) (n : Nat) : cutG w none (some (n : Int)) = w.take n := by
  unfold cutG
  rw [HT.sIx_none, HT.sIx_nat, List.drop_zero, Nat.sub_zero]
  rw [← List.take_take, List.take_of_length_le (Nat.le_refl w.length)]
theorem s_rfind {x y : List Nat} (h : P (.int (Txt.rfind (S x) (S y)))) : fRfind (.str x) [.str y] P := h
end
section
variable {P : D → Prop}
theorem s_ixT0 {x : D} {r : List D} (h : P x) : fIx (.tup (x :: r)) (.int 0) P := ⟨x, by
  unfold atI ixN
  rw [if_pos (by decide), if_pos (by simp only [List.length_cons]; omega)]; rfl, h⟩
theorem s_ixT1 {x y : D} {r : List D} (h : P y) : fIx (.tup (x :: y :: r)) (.int 1) P := ⟨y, by
  unfold atI ixN
  rw [if_pos (by decide), if_pos (by simp only [List.length_cons]; omega)]; rfl, h⟩
theorem look_yes {α β : Type} [DecidableEq α] {f : α → D} {g : β → D} (inj : ∀ x y, f x = f y → x = y) {a : α} {l : List (α × β)} (nd : (l.map (·.1)).Nodup) (h : a ∈ l.map (·.1)) : (lookD (l.map fun p => f p.1) (l.map fun p => g p.2) (f a)).isSome = true := by
  rw [look_isSome inj nd, decide_eq_true h]
theorem look_no {α β : Type} {f : α → D} {g : β → D} (inj : ∀ x y, f x = f y → x = y) {a : α} {l : List (α × β)} (h : a ∉ l.map (·.1)) : (lookD (l.map fun p => f p.1) (l.map fun p => g p.2) (f a)).isSome = false := by
  rw [look_none inj h]; rfl
theorem s_notinD {kd : Nat} {d : D} {ks vs : List D} (k : keyOk kd d = true) (h : P (.bl (!(lookD ks vs d).isSome))) : fInG true d (.dct kd ks vs) P := ⟨k, h⟩
end
theorem s_disp {kd : Nat} {tp : DP} {ρ : Ro} {Q : D → Ro → Prop} (h : tp ρ fun ps ρ' => ((ps.all fun p => keyOk kd p.1) = true ∧ ps.length ≤ 16777216) ∧ Q (.dct kd (putsD ps [] []).1 (putsD ps [] []).2) ρ') : dDisp kd tp ρ Q := h
theorem s_dpc {tk tv : DE} {tp : DP} {ρ : Ro} {Q : List (D × D) → Ro → Prop} (h : tk ρ fun k ρ1 => tv ρ1 fun v ρ2 => tp ρ2 fun ps ρ3 => Q ((k, v) :: ps) ρ3) : dpCons tk tv tp ρ Q := h
theorem s_dpn {ρ : Ro} {Q : List (D × D) → Ro → Prop} (h : Q [] ρ) : dpNil ρ Q := h
theorem puts1 (k v : D) : putsD [(k, v)] [] [] = ([k], [v]) := by
  simp [putsD, putD, lookD]
theorem puts2 {k k' : D} (v v' : D) (h : k ≠ k') : putsD [(k, v), (k', v')] [] [] = ([k, k'], [v, v']) := by
  simp [putsD, putD, lookD, h]
theorem s_while {c : DT} {b : DS} {E : DEn} {ρ : Ro} (W : Nat → Ro → Prop) (n0 : Nat) (w0 : W n0 ρ) (h : ∀ n ρ, W n ρ → c ρ fun k ρ' => if k = true then b { E with nx := fun ρ2 => ∃ n', n' < n ∧ W n' ρ2, ct := fun ρ2 => ∃ n', n' < n ∧ W n' ρ2, bk := E.nx } ρ' else E.nx ρ') : dWhile c b E ρ := ⟨W, ⟨n0, w0⟩, h⟩
theorem s_fz {te : DE} {ρ : Ro} {Q : D → Ro → Prop} (h : te ρ fun d ρ' => frzOk d = true ∧ Q d ρ') : dFz te ρ Q := h
theorem s_lc2 {ti : DI} {dg : DG} {tt : DT} {ti1 : DI} {dg1 : DG} {tt1 : DT} {te : DE} {vs vs1 : List Nat} {ρ : Ro} {Q : D → Ro → Prop} (h : ti ρ (lc2All dg tt ti1 dg1 tt1 te vs vs1 Q)) : dLc2 ti dg tt ti1 dg1 tt1 te vs vs1 ρ Q := h
theorem s_lcT2 {dg : DG} {tt : DT} {ti1 : DI} {dg1 : DG} {tt1 : DT} {te : DE} {vs vs1 : List Nat} {ρ1 : Ro} {d : D} {acc : List D} {N : List D → Prop} (h : dg d (wipeD ρ1 vs) fun ρ2 => tt ρ2 fun b ρ3 => if b = true then ti1 ρ3 fun es ρ4 => wipeD ρ4 vs = wipeD ρ1 vs ∧ ∃ I : Nat → List D → Prop, I 0 acc ∧ (∀ j e acc, es[j]? = some e → I j acc → lcTurn dg1 tt1 te vs1 ρ4 e acc (I (j + 1))) ∧ ∀ acc, I es.length acc → N acc
    else wipeD ρ3 vs = wipeD ρ1 vs ∧ N acc) : lc2Turn dg tt ti1 dg1 tt1 te vs vs1 ρ1 d acc N := h
theorem s_lcT {dg : DG} {tt : DT} {te : DE} {vs : List Nat} {ρ1 : Ro} {d : D} {acc : List D} {N : List D → Prop} (h : dg d (wipeD ρ1 vs) fun ρ2 => tt ρ2 fun b ρ3 => if b = true then te ρ3 fun y ρ4 => wipeD ρ4 vs = wipeD ρ1 vs ∧ acc.length < 16777216 ∧ N (acc ++ [y]) else wipeD ρ3 vs = wipeD ρ1 vs ∧ N acc) : lcTurn dg tt te vs ρ1 d acc N := h
theorem s_yes {ρ : Ro} {Q : Bool → Ro → Prop} (h : Q true ρ) : dYes ρ Q := h
theorem s_dict0 {kd : Nat} {ρ : Ro} {Q : D → Ro → Prop} (h : Q (.dct kd [] []) ρ) : dDict0 kd ρ Q := h
theorem s_forO {i : Nat} {g : DG} {t : DS} {E : DEn} {ρ : Ro} {ds0 : List D} (e : ρ[i]? = some (some (true, .lst ds0))) (h : ∀ a : Addr, ∃ M I, I 0 (ρ.set i (some (true, .pin a (.lst ds0)))) ∧ forO i g t E a M I) : dForO i g t E ρ := ⟨ds0, e, h⟩
section
variable {P : D → Prop}
theorem s_make {C : Addr} {sd : SpI} {ua : DA} {ρ : Ro} {Q : D → Ro → Prop} (h : ua ρ fun ds ρ' => sd.run ds fun ns zs => Q (.ins C ns zs) ρ') : dMake C sd ua ρ Q := h
theorem puts3 {a b c x y z : D} (h1 : a ≠ b) (h2 : a ≠ c) (h3 : b ≠ c) : putsD [(a, x), (b, y), (c, z)] [] [] = ([a, b, c], [x, y, z]) := by
  simp [putsD, putD, lookD, h1, h2, h3]
theorem look3 {a b c x y z : D} (h1 : a ≠ b) (h2 : a ≠ c) (h3 : b ≠ c) : lookD [a, b, c] [x, y, z] a = some x ∧ lookD [a, b, c] [x, y, z] b = some y ∧ lookD [a, b, c] [x, y, z] c = some z := by
  simp [lookD, h1, h2, h3]
end
theorem sing_lt {a b : Nat} : ([a] < [b]) ↔ a < b := by
  constructor
  · intro h
    cases h with
    | rel h => exact h
    | cons h => cases h
  · exact fun h => List.Lex.rel h
def okLetters (ls : List Nat) : Prop := 1 ≤ ls.length ∧ ls.length ≤ 3 ∧ ls.Pairwise (· < ·) ∧ ∀ c ∈ ls, 97 ≤ c ∧ c ≤ 122
theorem small_mem {c : Nat} (h : 97 ≤ c ∧ c ≤ 122) : c ∈ [97, 98, 99, 100, 101, 102, 103, 104, 105, 106, 107, 108, 109, 110, 111, 112, 113, 114, 115, 116, 117, 118, 119, 120, 121, 122] := by
  simp; omega
theorem small_at {n : Nat} (h : n < 26) : [97, 98, 99, 100, 101, 102, 103, 104, 105, 106, 107, 108, 109, 110, 111, 112, 113, 114, 115, 116, 117, 118, 119, 120, 121, 122][n]? = some (97 + n) := by
  have : ∀ n : Fin 26, [97, 98, 99, 100, 101, 102, 103, 104, 105, 106, 107, 108, 109, 110, 111, 112, 113, 114, 115, 116, 117, 118, 119, 120, 121, 122][n.val]? = some (97 + n.val) := by decide
  exact this ⟨n, h⟩
abbrev sd_law_same (n : Nat) : SpD := mkSp (fun d : D => [d, d]) (fun d => plainD n d = true) (fun _ d => d = .bl true)
abbrev sr_law_same : Nat → SpD
  | 0 => sdNever
  | n + 1 => sd_law_same n
section
variable {P : D → Prop}
theorem s_ix0L {x : D} {r : List D} (h : P x) : fIx (.lst (x :: r)) (.int 0) P := ⟨x, by
  unfold atI ixN
  rw [if_pos (by decide), if_pos (by simp only [List.length_cons]; omega)]; rfl, h⟩
theorem s_ix1L {x y : D} {r : List D} (h : P y) : fIx (.lst (x :: y :: r)) (.int 1) P := ⟨y, by
  unfold atI ixN
  rw [if_pos (by decide), if_pos (by simp only [List.length_cons]; omega)]; rfl, h⟩
theorem s_lc {ti : DI} {dg : DG} {tt : DT} {te : DE} {vs : List Nat} {ρ : Ro} {Q : D → Ro → Prop} (h : ti ρ (lcAll dg tt te vs Q)) : dLc ti dg tt te vs ρ Q := h
theorem s_lcAll {dg : DG} {tt : DT} {te : DE} {vs : List Nat} {ρ : Ro} {Q : D → Ro → Prop} {ds : List D} (I : Nat → List D → Prop) (h0 : I 0 []) (h1 : ∀ i d acc, ds[i]? = some d → I i acc → lcTurn dg tt te vs ρ d acc (I (i + 1))) (h2 : ∀ acc, I ds.length acc → Q (.lst acc) ρ) : lcAll dg tt te vs Q ds ρ := ⟨I, h0, h1, h2⟩
end
theorem dec_ne' {α : Type} {a b : α} (i : Decidable (a = b)) (h : a ≠ b) : @decide (a = b) i = false := decide_eq_false h
def optS : Option (List Nat) → D
  | none => .non
  | some u => .str u
end DL
namespace W06
open DL
structure Lay (w lead tail Bs : List Nat) (m off bl n : Nat) : Prop where
  fr : ∀ i, i < lead.length → w[i]? = lead[i]?
  md : ∀ i, lead.length ≤ i → i < lead.length + m → ∃ c ∈ Bs, w[i]? = some c
  rr : ∀ i, w[lead.length + m + i]? = tail[i]?
  rp : ∀ s, s < n → ∀ c ∈ Bs, ∃ i, lead.length + off + s * bl ≤ i ∧ i < lead.length + off + (s + 1) * bl ∧ w[i]? = some c
  le : off + n * bl ≤ m
theorem nx_uniq {w : List Nat} {c p : Nat} {r r' : Option Nat} (h : Nx w c p r) (h' : Nx w c p r') : r = r' := by
  cases r with
  | none =>
    cases r' with
    | none => rfl
    | some q => exact (h (q - 1) (by have := h'.1; omega) h'.2.1).elim
  | some q =>
    cases r' with
    | none => exact (h' (q - 1) (by have := h.1; omega) h.2.1).elim
    | some q' =>
      have a1 := h.1
      have b1 := h'.1
      by_cases e1 : q < q'
      · exact (h'.2.2 (q - 1) (by omega) (by omega) h.2.1).elim
      · by_cases e2 : q' < q
        · exact (h.2.2 (q' - 1) (by omega) (by omega) h'.2.1).elim
        · rw [show q = q' by omega]
theorem nx_at {w : List Nat} {c p i : Nat} {r : Option Nat} (h : Nx w c p r) (hp : p ≤ i) (hi : w[i]? = some c) : ∃ q, r = some q ∧ q ≤ i + 1 := by
  cases r with
  | none => exact (h i hp hi).elim
  | some q =>
    refine ⟨q, rfl, ?_⟩
    have := h.1
    by_cases e : q ≤ i + 1
    · exact e
    · exact (h.2.2 i hp (by omega) hi).elim
section
variable {u v lead tail Bs : List Nat} {m1 m2 o1 o2 bl n : Nat}
theorem rear_step (U : Lay u lead tail Bs m1 o1 bl n) (V : Lay v lead tail Bs m2 o2 bl n) {k c : Nat} {r r' : Option Nat} (h : Nx u c (lead.length + m1 + k) r) (h' : Nx v c (lead.length + m2 + k) r') :
    (r = none ∧ r' = none) ∨ ∃ j, k < j ∧ r = some (lead.length + m1 + j) ∧ r' = some (lead.length + m2 + j) := by
  cases r with
  | none =>
    refine .inl ⟨rfl, ?_⟩
    cases r' with
    | none => rfl
    | some q =>
      exfalso
      have a := h'.1
      have e := h'.2.1
      rw [show q - 1 = lead.length + m2 + (q - 1 - (lead.length + m2)) by omega, V.rr] at e
      exact h (lead.length + m1 + (q - 1 - (lead.length + m2))) (by omega) (by rw [U.rr]; exact e)
  | some p =>
    refine .inr ⟨p - (lead.length + m1), by have := h.1; omega, by have := h.1; rw [show lead.length + m1 + (p - (lead.length + m1)) = p by omega], ?_⟩
    have a := h.1
    have e := h.2.1
    rw [show p - 1 = lead.length + m1 + (p - 1 - (lead.length + m1)) by omega, U.rr] at e
    refine nx_uniq h' ⟨by omega, ?_, fun i h1 h2 hi => ?_⟩
    · rw [show lead.length + m2 + (p - (lead.length + m1)) - 1 = lead.length + m2 + (p - 1 - (lead.length + m1)) by omega, V.rr]; exact e
    · rw [show i = lead.length + m2 + (i - (lead.length + m2)) by omega, V.rr] at hi
      exact h.2.2 (lead.length + m1 + (i - (lead.length + m2))) (by omega) (by omega) (by rw [U.rr]; exact hi)
theorem mid_out (U : Lay u lead tail Bs m1 o1 bl n) {c p : Nat} {r : Option Nat} (hc : c ∉ Bs) (h1 : lead.length ≤ p) (h2 : p ≤ lead.length + m1) (h : Nx u c p r) : Nx u c (lead.length + m1 + 0) r := by
  have out : ∀ i, p ≤ i → i < lead.length + m1 → u[i]? ≠ some c := fun i a b e => by
    obtain ⟨d, hd, ed⟩ := U.md i (by omega) b
    rw [e] at ed
    cases ed
    exact hc hd
  cases r with
  | none => exact fun i hi => h i (by omega)
  | some q =>
    have a := h.1
    have : lead.length + m1 ≤ q - 1 := by
      by_cases z : q - 1 < lead.length + m1
      · exact (out (q - 1) (by omega) z h.2.1).elim
      · omega
    exact ⟨by omega, h.2.1, fun i h3 h4 => h.2.2 i (by omega) h4⟩
theorem lead_step (U : Lay u lead tail Bs m1 o1 bl n) (V : Lay v lead tail Bs m2 o2 bl n) {p c : Nat} {r r' : Option Nat} (hp : p ≤ lead.length) (h : Nx u c p r) (h' : Nx v c p r') :
    (∃ q, q ≤ lead.length ∧ r = some q ∧ r' = some q) ∨ (Nx u c lead.length r ∧ Nx v c lead.length r') := by
  by_cases z : ∃ i, p ≤ i ∧ i < lead.length ∧ lead[i]? = some c
  · obtain ⟨i, i1, i2, i3⟩ := z
    obtain ⟨q, rfl, q1⟩ := nx_at h i1 ((U.fr i i2).trans i3)
    have a := h.1
    refine .inl ⟨q, by omega, rfl, nx_uniq h' ⟨h.1, ?_, fun j j1 j2 => ?_⟩⟩
    · rw [V.fr _ (by omega), ← U.fr _ (by omega)]; exact h.2.1
    · rw [V.fr _ (by omega), ← U.fr _ (by omega)]; exact h.2.2 j j1 j2
  · have skip : ∀ {w : List Nat} {r : Option Nat}, (∀ i, i < lead.length → w[i]? = lead[i]?) → Nx w c p r → Nx w c lead.length r := fun {w r} fr h => by
      have no : ∀ i, p ≤ i → i < lead.length → w[i]? ≠ some c := fun i a b e => z ⟨i, a, b, (fr i b).symm.trans e⟩
      cases r with
      | none => exact fun i hi => h i (by omega)
      | some q =>
        have a := h.1
        have : lead.length ≤ q - 1 := by
          by_cases y : q - 1 < lead.length
          · exact (no (q - 1) (by omega) y h.2.1).elim
          · omega
        exact ⟨by omega, h.2.1, fun i h3 h4 => h.2.2 i (by omega) h4⟩
    exact .inr ⟨skip U.fr h, skip V.fr h'⟩
def Zone (lead : List Nat) (m1 m2 o1 o2 bl : Nat) (s p q : Nat) : Prop := (p = q ∧ p ≤ lead.length) ∨ (lead.length ≤ p ∧ p ≤ lead.length + o1 + s * bl ∧ lead.length ≤ q ∧ q ≤ lead.length + o2 + s * bl) ∨ ∃ k, p = lead.length + m1 + k ∧ q = lead.length + m2 + k
theorem zone_mid (U : Lay u lead tail Bs m1 o1 bl n) (V : Lay v lead tail Bs m2 o2 bl n) {s p q c : Nat} {r r' : Option Nat} (hs : s < n) (p1 : lead.length ≤ p) (p2 : p ≤ lead.length + o1 + s * bl) (q1 : lead.length ≤ q) (q2 : q ≤ lead.length + o2 + s * bl) (h : Nx u c p r) (h' : Nx v c q r') :
    (r = none ∧ r' = none) ∨ ∃ p' q', r = some p' ∧ r' = some q' ∧ Zone lead m1 m2 o1 o2 bl (s + 1) p' q' := by
  have e1 : s * bl ≤ n * bl := Nat.mul_le_mul_right bl (by omega)
  have e2 : (s + 1) * bl = s * bl + bl := Nat.succ_mul s bl
  have u1 := U.le
  have v1 := V.le
  by_cases hc : c ∈ Bs
  · obtain ⟨i, i1, i2, i3⟩ := U.rp s hs c hc
    obtain ⟨j, j1, j2, j3⟩ := V.rp s hs c hc
    obtain ⟨p', rfl, p3⟩ := nx_at h (by omega) i3
    obtain ⟨q', rfl, q3⟩ := nx_at h' (by omega) j3
    have a := h.1
    have b := h'.1
    exact .inr ⟨p', q', rfl, rfl, .inr (.inl ⟨by omega, by omega, by omega, by omega⟩)⟩
  · rcases rear_step U V (mid_out U hc p1 (by omega) h) (mid_out V hc q1 (by omega) h') with z | ⟨j, _, z1, z2⟩
    · exact .inl z
    · exact .inr ⟨_, _, z1, z2, .inr (.inr ⟨j, rfl, rfl⟩)⟩
theorem walk_pieces (U : Lay u lead tail Bs m1 o1 bl n) (V : Lay v lead tail Bs m2 o2 bl n) : ∃ I : Nat → Nat → Nat → Prop, I 0 0 0 ∧ ∀ s p q c r r', s < n → I s p q → Nx u c p r → Nx v c q r' → (r = none ↔ r' = none) ∧ ∀ p' q', r = some p' → r' = some q' → I (s + 1) p' q' := by
  refine ⟨Zone lead m1 m2 o1 o2 bl, .inl ⟨rfl, Nat.zero_le _⟩, fun s p q c r r' hs z h h' => ?_⟩
  have fin : ((r = none ∧ r' = none) ∨ ∃ p' q', r = some p' ∧ r' = some q' ∧ Zone lead m1 m2 o1 o2 bl (s + 1) p' q') → (r = none ↔ r' = none) ∧ ∀ p' q', r = some p' → r' = some q' → Zone lead m1 m2 o1 o2 bl (s + 1) p' q' := by
    rintro (⟨rfl, rfl⟩ | ⟨p', q', rfl, rfl, z⟩)
    · exact ⟨⟨fun _ => rfl, fun _ => rfl⟩, fun _ _ e => nomatch e⟩
    · exact ⟨⟨(fun e => nomatch e), (fun e => nomatch e)⟩, fun _ _ e1 e2 => by cases e1; cases e2; exact z⟩
  refine fin ?_
  rcases z with ⟨rfl, hp⟩ | ⟨p1, p2, q1, q2⟩ | ⟨k, rfl, rfl⟩
  · rcases lead_step U V hp h h' with ⟨q, hq, e1, e2⟩ | ⟨g, g'⟩
    · exact .inr ⟨q, q, e1, e2, .inl ⟨rfl, hq⟩⟩
    · exact zone_mid U V hs (Nat.le_refl _) (by omega) (Nat.le_refl _) (by omega) g g'
  · exact zone_mid U V hs p1 p2 q1 q2 h h'
  · rcases rear_step U V h h' with z | ⟨j, _, z1, z2⟩
    · exact .inl z
    · exact .inr ⟨_, _, z1, z2, .inr (.inr ⟨j, rfl, rfl⟩)⟩
end
theorem rep_get (a : List Nat) : ∀ (n s j : Nat), s < n → j < a.length → (repL a n)[s * a.length + j]? = a[j]?
  | 0, s, j, h, _ => absurd h (Nat.not_lt_zero s)
  | n + 1, s, j, h, hj => by
    have e : repL a (n + 1) = a ++ repL a n := by simp [repL, List.replicate_succ]
    rw [e]
    cases s with
    | zero => rw [Nat.zero_mul, Nat.zero_add, List.getElem?_append_left hj]
    | succ s =>
      have f : (s + 1) * a.length + j = a.length + (s * a.length + j) := by rw [Nat.succ_mul]; omega
      rw [f, List.getElem?_append_right (by omega), Nat.add_sub_cancel_left]
      exact rep_get a n s j (by omega) hj
theorem rep_mem {a : List Nat} {n c : Nat} (h : c ∈ repL a n) : c ∈ a := by
  unfold repL at h
  obtain ⟨l, hl, hc⟩ := List.mem_flatten.mp h
  rw [(List.mem_replicate.mp hl).2] at hc
  exact hc
theorem rep_size (a : List Nat) (n : Nat) : (repL a n).length = n * a.length := by simp [repL]
theorem lay_mk (lead before base after tail : List Nat) (n : Nat) (hb : ∀ c ∈ before, c ∈ base) (ha : ∀ c ∈ after, c ∈ base) :
    Lay (lead ++ (before ++ repL base n ++ after) ++ tail) lead tail base (before ++ repL base n ++ after).length before.length base.length n := by
  have len : (before ++ repL base n ++ after).length = before.length + n * base.length + after.length := by simp only [List.length_append, rep_size]
  have mid : ∀ c ∈ before ++ repL base n ++ after, c ∈ base := fun c hc => by
    rcases List.mem_append.mp hc with hc | hc
    · rcases List.mem_append.mp hc with hc | hc
      · exact hb c hc
      · exact rep_mem hc
    · exact ha c hc
  have at_ : ∀ i, i < (before ++ repL base n ++ after).length → (lead ++ (before ++ repL base n ++ after) ++ tail)[lead.length + i]? = (before ++ repL base n ++ after)[i]? := fun i hi => by
    rw [List.getElem?_append_left (by rw [List.length_append]; omega), List.getElem?_append_right (by omega), Nat.add_sub_cancel_left]
  refine ⟨fun i hi => ?_, fun i h1 h2 => ?_, fun i => ?_, fun s hs c hc => ?_, by omega⟩
  · rw [List.append_assoc, List.getElem?_append_left hi]
  · have e := at_ (i - lead.length) (by omega)
    rw [show lead.length + (i - lead.length) = i by omega] at e
    have lt : i - lead.length < (before ++ repL base n ++ after).length := by omega
    rw [List.getElem?_eq_getElem lt] at e
    exact ⟨_, mid _ (List.getElem_mem lt), e⟩
  · have l2 := List.length_append (as := lead) (bs := before ++ repL base n ++ after)
    rw [List.getElem?_append_right (by omega)]
    exact congrArg (fun k => tail[k]?) (by omega)
  · obtain ⟨j, hj⟩ := List.getElem?_of_mem hc
    have lj : j < base.length := (List.getElem?_eq_some_iff.mp hj).1
    have e2 : (s + 1) * base.length = s * base.length + base.length := Nat.succ_mul s _
    have e1 : (s + 1) * base.length ≤ n * base.length := Nat.mul_le_mul_right _ hs
    refine ⟨lead.length + (before.length + (s * base.length + j)), by omega, by omega, ?_⟩
    rw [at_ _ (by omega), List.append_assoc, List.getElem?_append_right (by omega), Nat.add_sub_cancel_left, List.getElem?_append_left (by rw [rep_size]; omega), rep_get base n s j hs lj]
    exact hj
end W06
namespace W06
open DL
structure Frt (u v lead tail Bs : List Nat) (m1 m2 bl n : Nat) : Prop where
  U : Lay u lead tail Bs m1 0 bl n
  V : Lay v lead tail Bs m2 0 bl n
  cm : ∀ i, i < lead.length + n * bl → u[i]? = v[i]?
  lu : u.length = lead.length + m1 + tail.length
  lv : v.length = lead.length + m2 + tail.length
section
variable {u v lead tail Bs : List Nat} {m1 m2 bl n : Nat}
theorem lx_uniq {w : List Nat} {c p : Nat} {r r' : Option Nat} (h : Lx w c p r) (h' : Lx w c p r') : r = r' := by
  cases r with
  | none =>
    cases r' with
    | none => rfl
    | some q => exact (h (q - 1) (by have := h'.1; have := h'.2.1; omega) h'.2.2.1).elim
  | some q =>
    cases r' with
    | none => exact (h' (q - 1) (by have := h.1; have := h.2.1; omega) h.2.2.1).elim
    | some q' =>
      have a1 := h.1
      have a2 := h.2.1
      have b1 := h'.1
      have b2 := h'.2.1
      by_cases e1 : q < q'
      · exact (h.2.2.2 (q' - 1) (by omega) (by omega) h'.2.2.1).elim
      · by_cases e2 : q' < q
        · exact (h'.2.2.2 (q - 1) (by omega) (by omega) h.2.2.1).elim
        · rw [show q = q' by omega]
theorem front_left (W : Frt u v lead tail Bs m1 m2 bl n) {p c : Nat} {r r' : Option Nat} (hp : p ≤ lead.length + n * bl) (h : Lx u c p r) (h' : Lx v c p r') : r = r' := by
  refine lx_uniq (w := v) (c := c) (p := p) ?_ h'
  cases r with
  | none => exact fun i hi e => h i hi ((W.cm i (by omega)).trans e)
  | some q =>
    have a1 := h.1
    have a2 := h.2.1
    exact ⟨a1, a2, (W.cm _ (by omega)).symm.trans h.2.2.1, fun i h1 h2 e => h.2.2.2 i h1 h2 ((W.cm i (by omega)).trans e)⟩
theorem front_right (W : Frt u v lead tail Bs m1 m2 bl n) {s p c : Nat} {r r' : Option Nat} (hs : s < n) (hp : p ≤ lead.length + s * bl) (h : Nx u c p r) (h' : Nx v c p r') :
    (r = none ∧ r' = none) ∨ (∃ q, q ≤ lead.length + (s + 1) * bl ∧ r = some q ∧ r' = some q) ∨ ∃ k p' q', k ≤ tail.length ∧ r = some p' ∧ r' = some q' ∧ p' + k = u.length + 1 ∧ q' + k = v.length + 1 := by
  have e1 : (s + 1) * bl ≤ n * bl := Nat.mul_le_mul_right bl hs
  have e2 : (s + 1) * bl = s * bl + bl := Nat.succ_mul s bl
  have u1 := W.U.le
  have v1 := W.V.le
  have lu := W.lu
  have lv := W.lv
  have rear : ∀ {r r' : Option Nat}, Nx u c (lead.length + m1 + 0) r → Nx v c (lead.length + m2 + 0) r' → (r = none ∧ r' = none) ∨ (∃ q, q ≤ lead.length + (s + 1) * bl ∧ r = some q ∧ r' = some q) ∨ ∃ k p' q', k ≤ tail.length ∧ r = some p' ∧ r' = some q' ∧ p' + k = u.length + 1 ∧ q' + k = v.length + 1 := fun {r r'} g g' => by
    rcases rear_step W.U W.V g g' with z | ⟨j, j0, rfl, rfl⟩
    · exact .inl z
    · have := (List.getElem?_eq_some_iff.mp g.2.1).1
      exact .inr (.inr ⟨tail.length + 1 - j, _, _, by omega, rfl, rfl, by omega, by omega⟩)
  by_cases hc : c ∈ Bs
  · obtain ⟨i, i1, i2, i3⟩ := W.U.rp s hs c hc
    obtain ⟨q, rfl, q1⟩ := nx_at h (by omega) i3
    have a := h.1
    refine .inr (.inl ⟨q, by omega, rfl, nx_uniq h' ⟨a, (W.cm _ (by omega)).symm.trans h.2.1, fun j h1 h2 e => h.2.2 j h1 h2 ((W.cm j (by omega)).trans e)⟩⟩)
  · by_cases hl : p ≤ lead.length
    · rcases lead_step W.U W.V hl h h' with ⟨q, hq, z1, z2⟩ | ⟨g, g'⟩
      · exact .inr (.inl ⟨q, by omega, z1, z2⟩)
      · exact rear (mid_out W.U hc (Nat.le_refl _) (by omega) g) (mid_out W.V hc (Nat.le_refl _) (by omega) g')
    · exact rear (mid_out W.U hc (by omega) (by omega) h) (mid_out W.V hc (by omega) (by omega) h')
end
theorem lx_rev {w : List Nat} {c p : Nat} {r : Option Nat} (hp : p ≤ w.length + 1) (h : Lx w c p r) : Nx w.reverse c (w.length + 1 - p) (r.map fun q => w.length + 1 - q) := by
  have get : ∀ i, i < w.length → w.reverse[i]? = w[w.length - 1 - i]? := fun i hi => List.getElem?_reverse hi
  cases r with
  | none =>
    intro i hi e
    have lt := (List.getElem?_eq_some_iff.mp e).1
    rw [List.length_reverse] at lt
    rw [get i lt] at e
    exact h _ (by omega) e
  | some q =>
    have a1 := h.1
    have a2 := h.2.1
    have lq := (List.getElem?_eq_some_iff.mp h.2.2.1).1
    show Nx w.reverse c (w.length + 1 - p) (some (w.length + 1 - q))
    refine ⟨by omega, ?_, fun i h1 h2 e => ?_⟩
    · rw [get _ (by omega), show w.length - 1 - (w.length + 1 - q - 1) = q - 1 by omega]
      exact h.2.2.1
    · have lt := (List.getElem?_eq_some_iff.mp e).1
      rw [List.length_reverse] at lt
      rw [get i lt] at e
      exact h.2.2.2 _ (by omega) (by omega) e
theorem rev_nx {w : List Nat} {c p : Nat} {r : Option Nat} (h : Nx w c p r) : Lx w.reverse c (w.length + 1 - p) (r.map fun q => w.length + 1 - q) := by
  have get : ∀ i, i < w.length → w.reverse[i]? = w[w.length - 1 - i]? := fun i hi => List.getElem?_reverse hi
  cases r with
  | none =>
    intro i hi e
    have lt := (List.getElem?_eq_some_iff.mp e).1
    rw [List.length_reverse] at lt
    rw [get i lt] at e
    exact h _ (by omega) e
  | some q =>
    have a1 := h.1
    have lq := (List.getElem?_eq_some_iff.mp h.2.1).1
    show Lx w.reverse c (w.length + 1 - p) (some (w.length + 1 - q))
    refine ⟨by omega, by omega, ?_, fun i h1 h2 e => ?_⟩
    · rw [get _ (by omega), show w.length - 1 - (w.length + 1 - q - 1) = q - 1 by omega]
      exact h.2.1
    · have lt := (List.getElem?_eq_some_iff.mp e).1
      rw [List.length_reverse] at lt
      rw [get i lt] at e
      exact h.2.2 _ (by omega) (by omega) e
def Ends (u v lead tail : List Nat) (bl s p q : Nat) : Prop := (p = q ∧ p ≤ lead.length + s * bl) ∨ ∃ k, p + k = u.length + 1 ∧ q + k = v.length + 1 ∧ k ≤ tail.length + s * bl
def Goes (u v lead tail : List Nat) (bl s : Nat) (r r' : Option Nat) : Prop := (r = none ∧ r' = none) ∨ ∃ p' q', r = some p' ∧ r' = some q' ∧ Ends u v lead tail bl s p' q'
theorem turtle_step {u v lead tail Bs Bs' : List Nat} {m1 m2 bl n : Nat} (F : Frt u v lead tail Bs m1 m2 bl n) (R : Frt u.reverse v.reverse tail.reverse lead.reverse Bs' m1 m2 bl n) {s p q c : Nat} {r r' : Option Nat} (hs : s < n) (h : Ends u v lead tail bl s p q) :
    (Nx u c p r → Nx v c q r' → Goes u v lead tail bl (s + 1) r r') ∧ (Lx u c p r → Lx v c q r' → Goes u v lead tail bl (s + 1) r r') := by
  have e1 : (s + 1) * bl ≤ n * bl := Nat.mul_le_mul_right bl hs
  have e2 : (s + 1) * bl = s * bl + bl := Nat.succ_mul s bl
  rcases h with ⟨rfl, hp⟩ | ⟨k, k1, k2, k3⟩
  · refine ⟨fun g g' => ?_, fun g g' => ?_⟩
    · rcases front_right F hs hp g g' with z | ⟨q, hq, z1, z2⟩ | ⟨k, p', q', hk, z1, z2, z3, z4⟩
      · exact .inl z
      · exact .inr ⟨q, q, z1, z2, .inl ⟨rfl, hq⟩⟩
      · exact .inr ⟨p', q', z1, z2, .inr ⟨k, z3, z4, by omega⟩⟩
    · have e := front_left F (by omega) g g'
      subst e
      cases r with
      | none => exact .inl ⟨rfl, rfl⟩
      | some q =>
        have := g.2.1
        exact .inr ⟨q, q, rfl, rfl, .inl ⟨rfl, by omega⟩⟩
  · have tl : tail.reverse.length = tail.length := List.length_reverse
    have ll : lead.reverse.length = lead.length := List.length_reverse
    have ul : u.reverse.length = u.length := List.length_reverse
    have vl : v.reverse.length = v.length := List.length_reverse
    have kp : u.length + 1 - p = k := by omega
    have kq : v.length + 1 - q = k := by omega
    refine ⟨fun g g' => ?_, fun g g' => ?_⟩
    · have a := rev_nx g
      have b := rev_nx g'
      rw [kp] at a
      rw [kq] at b
      have e := front_left R (by omega) a b
      cases r with
      | none =>
        cases r' with
        | none => exact .inl ⟨rfl, rfl⟩
        | some q' => exact nomatch e
      | some p' =>
        cases r' with
        | none => exact nomatch e
        | some q' =>
          have e : u.length + 1 - p' = v.length + 1 - q' := Option.some.inj e
          have a1 := g.1
          have b1 := g'.1
          have a2 := (List.getElem?_eq_some_iff.mp g.2.1).1
          have b2 := (List.getElem?_eq_some_iff.mp g'.2.1).1
          exact .inr ⟨p', q', rfl, rfl, .inr ⟨u.length + 1 - p', by omega, by omega, by omega⟩⟩
    · have a := lx_rev (by omega) g
      have b := lx_rev (by omega) g'
      rw [kp] at a
      rw [kq] at b
      have fr := front_right R hs (by omega) a b
      cases r with
      | none =>
        cases r' with
        | none => exact .inl ⟨rfl, rfl⟩
        | some q' => rcases fr with ⟨_, z⟩ | ⟨_, _, z, _⟩ | ⟨_, _, _, _, z, _⟩ <;> exact nomatch z
      | some p' =>
        cases r' with
        | none => rcases fr with ⟨z, _⟩ | ⟨_, _, _, z⟩ | ⟨_, _, _, _, _, z, _⟩ <;> exact nomatch z
        | some q' =>
          have a2 := (List.getElem?_eq_some_iff.mp g.2.2.1).1
          have b2 := (List.getElem?_eq_some_iff.mp g'.2.2.1).1
          have a3 := g.1
          have b3 := g'.1
          rcases fr with ⟨z, _⟩ | ⟨x, hx, z1, z2⟩ | ⟨j, x, y, hj, z1, z2, z3, z4⟩
          · exact nomatch z
          · have z1 : u.length + 1 - p' = x := Option.some.inj z1
            have z2 : v.length + 1 - q' = x := Option.some.inj z2
            exact .inr ⟨p', q', rfl, rfl, .inr ⟨x, by omega, by omega, by omega⟩⟩
          · have z1 : u.length + 1 - p' = x := Option.some.inj z1
            have z2 : v.length + 1 - q' = y := Option.some.inj z2
            exact .inr ⟨p', q', rfl, rfl, .inl ⟨by omega, by omega⟩⟩
theorem rep_rev (a : List Nat) (n : Nat) : (repL a n).reverse = repL a.reverse n := by simp [repL, List.reverse_flatten]
theorem frt_mk (lead base extra tail : List Nat) (n : Nat) (hx : ∀ c ∈ extra, c ∈ base) : Frt (lead ++ repL base n ++ tail) (lead ++ (repL base n ++ (extra ++ repL base n)) ++ tail) lead tail base (repL base n).length (repL base n ++ (extra ++ repL base n)).length base.length n := by
  refine ⟨?_, ?_, fun i hi => ?_, by simp only [List.length_append], by simp only [List.length_append]⟩
  · have h := lay_mk lead [] base [] tail n (fun _ h => nomatch h) (fun _ h => nomatch h)
    rw [List.nil_append, List.append_nil] at h
    exact h
  · have h := lay_mk lead [] base (extra ++ repL base n) tail n (fun _ h => nomatch h) (fun c hc => (List.mem_append.mp hc).elim (hx c) rep_mem)
    rw [List.nil_append] at h
    exact h
  · have l := rep_size base n
    have le : i < (lead ++ repL base n).length := by rw [List.length_append]; omega
    rw [List.getElem?_append_left le, ← List.append_assoc, List.append_assoc (lead ++ repL base n), List.getElem?_append_left le]
theorem frt_rev (lead base extra tail : List Nat) (n : Nat) (hx : ∀ c ∈ extra, c ∈ base) : Frt (lead ++ repL base n ++ tail).reverse (lead ++ (repL base n ++ (extra ++ repL base n)) ++ tail).reverse tail.reverse lead.reverse base.reverse (repL base n).length (repL base n ++ (extra ++ repL base n)).length base.length n := by
  have h := frt_mk tail.reverse base.reverse extra.reverse lead.reverse n (fun c hc => List.mem_reverse.mpr (hx c (List.mem_reverse.mp hc)))
  have l1 : (repL base.reverse n).length = (repL base n).length := by rw [rep_size, rep_size, List.length_reverse]
  have l2 : (repL base.reverse n ++ (extra.reverse ++ repL base.reverse n)).length = (repL base n ++ (extra ++ repL base n)).length := by simp only [List.length_append, l1, List.length_reverse]
  rw [l1, l2, List.length_reverse] at h
  have a : (lead ++ repL base n ++ tail).reverse = tail.reverse ++ repL base.reverse n ++ lead.reverse := by simp only [List.reverse_append, rep_rev, List.append_assoc]
  have b : (lead ++ (repL base n ++ (extra ++ repL base n)) ++ tail).reverse = tail.reverse ++ (repL base.reverse n ++ (extra.reverse ++ repL base.reverse n)) ++ lead.reverse := by simp only [List.reverse_append, rep_rev, List.append_assoc]
  rw [a, b]
  exact h
end W06
namespace DL
open scoped List
open W06
def slt (u v : List Nat) : Prop := u.length < v.length ∨ (u.length = v.length ∧ u < v)
theorem slt_trans {u v w : List Nat} (h : slt u v) (k : slt v w) : slt u w := by
  rcases h with h | ⟨h1, h2⟩ <;> rcases k with k | ⟨k1, k2⟩
  · exact .inl (Nat.lt_trans h k)
  · exact .inl (by omega)
  · exact .inl (by omega)
  · exact .inr ⟨h1.trans k1, List.lt_trans h2 k2⟩
theorem slt_irrefl {u : List Nat} (h : slt u u) : False := by
  rcases h with h | ⟨_, h⟩
  · exact Nat.lt_irrefl _ h
  · exact List.lt_irrefl u h
theorem slt_tri (u v : List Nat) : slt u v ∨ u = v ∨ slt v u := by
  rcases Nat.lt_trichotomy u.length v.length with h | h | h
  · exact .inl (.inl h)
  · by_cases h1 : u < v
    · exact .inl (.inr ⟨h, h1⟩)
    · by_cases h2 : v < u
      · exact .inr (.inr (.inr ⟨h.symm, h2⟩))
      · exact .inr (.inl (List.le_antisymm (List.not_lt.mp h2) (List.not_lt.mp h1)))
  · exact .inr (.inr (.inl h))
theorem lex_snoc : ∀ {u v : List Nat} {c d : Nat}, u.length = v.length → (u ++ [c] < v ++ [d] ↔ u < v ∨ (u = v ∧ c < d))
  | [], [], c, d, _ => by simp [List.cons_lt_cons_iff]
  | x :: u, y :: v, c, d, h => by
    have ih := lex_snoc (c := c) (d := d) (show u.length = v.length by simpa using h)
    rw [List.cons_append, List.cons_append, List.cons_lt_cons_iff, List.cons_lt_cons_iff, ih, List.cons.injEq]
    constructor
    · rintro (h | ⟨h0, h | ⟨h1, h2⟩⟩)
      · exact .inl (.inl h)
      · exact .inl (.inr ⟨h0, h⟩)
      · exact .inr ⟨⟨h0, h1⟩, h2⟩
    · rintro ((h | ⟨h1, h2⟩) | ⟨⟨h1, h2⟩, h3⟩)
      · exact .inl h
      · exact .inr ⟨h1, .inl h2⟩
      · exact .inr ⟨h1, .inr ⟨h2, h3⟩⟩
  | [], y :: v, c, d, h => by simp at h
  | x :: u, [], c, d, h => by simp at h
theorem slt_snoc_iff {u v : List Nat} {c d : Nat} : slt (u ++ [c]) (v ++ [d]) ↔ slt u v ∨ (u = v ∧ c < d) := by
  unfold slt
  simp only [List.length_append, List.length_cons, List.length_nil]
  constructor
  · rintro (h | ⟨h1, h2⟩)
    · exact .inl (.inl (by omega))
    · rcases (lex_snoc (by omega)).mp h2 with h | h
      · exact .inl (.inr ⟨by omega, h⟩)
      · exact .inr h
  · rintro ((h | ⟨h1, h2⟩) | ⟨rfl, h⟩)
    · exact .inl (by omega)
    · exact .inr ⟨by omega, (lex_snoc h1).mpr (.inl h2)⟩
    · exact .inr ⟨rfl, (lex_snoc rfl).mpr (.inr ⟨rfl, h⟩)⟩
theorem slt_ext (u : List Nat) (c : Nat) : slt u (u ++ [c]) := .inl (by simp)
theorem slt_nil {u : List Nat} {c : Nat} : slt [] (u ++ [c]) := .inl (by simp)
theorem nx_ex (w : List Nat) (c p : Nat) : ∃ r, Nx w c p r := by
  rcases find3_nx w c p with ⟨_, h⟩ | ⟨k, _, h⟩
  · exact ⟨_, h⟩
  · exact ⟨_, h⟩
inductive Gr (w : List Nat) : List Nat → Nat → Prop
  | nil : Gr w [] 0
  | snoc {u : List Nat} {c p q : Nat} : Gr w u p → Nx w c p (some q) → Gr w (u ++ [c]) q
theorem gr_inv {w u : List Nat} {c q : Nat} (h : Gr w (u ++ [c]) q) : ∃ p, Gr w u p ∧ Nx w c p (some q) := by
  generalize e : u ++ [c] = x at h
  cases h with
  | nil => simp at e
  | snoc h1 h2 =>
    obtain ⟨rfl, e2⟩ := List.append_inj' e rfl
    obtain rfl : c = _ := by simpa using e2
    exact ⟨_, h1, h2⟩
theorem gr_fun {w u : List Nat} : ∀ {p q : Nat}, Gr w u p → Gr w u q → p = q := by
  intro p q h
  induction h generalizing q with
  | nil =>
    intro k
    generalize e : ([] : List Nat) = x at k
    cases k with
    | nil => rfl
    | snoc => simp at e
  | snoc h1 h2 ih =>
    intro k
    obtain ⟨p', k1, k2⟩ := gr_inv k
    obtain rfl := ih k1
    exact Option.some.inj (nx_uniq h2 k2)
theorem sub_snoc {u l : List Nat} {c : Nat} : (u ++ [c]) <+ l ↔ ∃ i, l[i]? = some c ∧ u <+ l.take i := by
  constructor
  · intro h
    obtain ⟨r1, r2, rfl, h1, h2⟩ := List.append_sublist_iff.mp h
    obtain ⟨j, hj⟩ := List.getElem?_of_mem (List.singleton_sublist.mp h2)
    refine ⟨r1.length + j, by rw [List.getElem?_append_right (by omega)]; simpa using hj, h1.trans ?_⟩
    rw [List.take_length_add_append]
    exact List.sublist_append_left _ _
  · rintro ⟨i, hi, hu⟩
    obtain ⟨lt, e⟩ := List.getElem?_eq_some_iff.mp hi
    have : l = l.take i ++ l[i] :: l.drop (i + 1) := by simp
    rw [this, e]
    refine List.Sublist.append hu ?_
    simp
theorem gr_spec (w : List Nat) (u : List Nat) : (∃ p, Gr w u p ∧ p ≤ w.length ∧ u <+ w.take p ∧ ∀ k, u <+ w.take k → p ≤ k) ∨ (¬ u <+ w) := by
  induction hn : u.length generalizing u with
  | zero =>
    obtain rfl := List.length_eq_zero_iff.mp hn
    exact .inl ⟨0, .nil, Nat.zero_le _, by simp, fun _ _ => Nat.zero_le _⟩
  | succ n ih =>
    obtain ⟨v, c, rfl⟩ : ∃ v c, u = v ++ [c] := by
      exact ⟨u.dropLast, u.getLast (by intro e; rw [e] at hn; cases hn), (List.dropLast_concat_getLast _).symm⟩
    rcases ih v (by simpa using hn) with ⟨p, h1, h2, h3, h4⟩ | h
    · obtain ⟨r, hr⟩ := nx_ex w c p
      cases r with
      | none =>
        refine .inr fun hs => ?_
        obtain ⟨i, hi, hu⟩ := sub_snoc.mp hs
        exact hr i (h4 i hu) hi
      | some q =>
        obtain ⟨q1, q2, q3⟩ := hr
        have lt := (List.getElem?_eq_some_iff.mp q2).1
        refine .inl ⟨q, h1.snoc ⟨q1, q2, q3⟩, by omega, ?_, fun k hk => ?_⟩
        · refine sub_snoc.mpr ⟨q - 1, by rw [List.getElem?_take_of_lt (by omega)]; exact q2, ?_⟩
          rw [List.take_take]
          exact h3.trans (by rw [show min (q - 1) q = q - 1 by omega]; exact (List.take_prefix_take_left (by omega)).sublist)
        · obtain ⟨i, hi, hu⟩ := sub_snoc.mp hk
          have ik : i < k := by
            have := (List.getElem?_eq_some_iff.mp hi).1
            rw [List.length_take] at this
            omega
          rw [List.getElem?_take_of_lt ik] at hi
          rw [List.take_take, show min i k = i by omega] at hu
          have pi := h4 i hu
          by_cases z : i < q - 1
          · exact absurd hi (q3 i pi z)
          · omega
    · exact .inr fun hs => h ((List.sublist_append_left v [c]).trans hs)
theorem gr_sub {w u : List Nat} : u <+ w ↔ ∃ p, Gr w u p := by
  rcases gr_spec w u with ⟨p, h1, h2, h3, _⟩ | h
  · exact ⟨fun _ => ⟨p, h1⟩, fun _ => h3.trans (List.take_sublist _ _)⟩
  · refine ⟨fun k => absurd k h, fun ⟨p, k⟩ => ?_⟩
    exfalso
    have : u <+ w := by
      clear h
      suffices ∀ {u p}, Gr w u p → u <+ w.take p from (this k).trans (List.take_sublist _ _)
      intro u p k
      induction k with
      | nil => simp
      | @snoc u c p q _ hx ih =>
        obtain ⟨q1, q2, q3⟩ := hx
        refine sub_snoc.mpr ⟨q - 1, by rw [List.getElem?_take_of_lt (by omega)]; exact q2, ?_⟩
        rw [List.take_take]
        exact ih.trans (by rw [Nat.min_eq_left (by omega)]; exact (List.take_prefix_take_left (by omega)).sublist)
    exact h this
theorem gr_next {w u : List Nat} {c p : Nat} {r : Option Nat} (h : Gr w u p) (k : Nx w c p r) : (u ++ [c]) <+ w ↔ r ≠ none := by
  constructor
  · rintro hs rfl
    obtain ⟨q, hq⟩ := gr_sub.mp hs
    obtain ⟨p', h1, h2⟩ := gr_inv hq
    obtain rfl := gr_fun h h1
    cases nx_uniq k h2
  · intro hr
    cases r with
    | none => exact absurd rfl hr
    | some q => exact gr_sub.mpr ⟨q, h.snoc k⟩
def Apart (one other v : List Nat) : Prop := ¬ (v <+ one ↔ v <+ other)
def IsLeast (one other : List Nat) (n : Nat) : Option (List Nat) → Prop
  | none => ∀ v : List Nat, v.length ≤ n → ¬ Apart one other v
  | some u => u.length ≤ n ∧ Apart one other u ∧ ∀ v, slt v u → ¬ Apart one other v
theorem least_uniq {one other : List Nat} {n : Nat} {r r' : Option (List Nat)} (h : IsLeast one other n r) (h' : IsLeast one other n r') : r = r' := by
  cases r with
  | none =>
    cases r' with
    | none => rfl
    | some u => exact absurd h'.2.1 (h u h'.1)
  | some u =>
    cases r' with
    | none => exact absurd h.2.1 (h' u h.1)
    | some u' =>
      rcases slt_tri u u' with z | z | z
      · exact absurd h.2.1 (h'.2.2 u z)
      · rw [z]
      · exact absurd h'.2.1 (h.2.2 u' z)
theorem apart_first {one other v : List Nat} (h : Apart one other v) : ∃ w c p q, Gr one w p ∧ Gr other w q ∧ Apart one other (w ++ [c]) ∧ (w ++ [c] = v ∨ slt (w ++ [c]) v) ∧ c ∈ one ++ other := by
  induction hn : v.length generalizing v with
  | zero =>
    obtain rfl := List.length_eq_zero_iff.mp hn
    exact absurd (by simp) h
  | succ n ih =>
    obtain ⟨u, c, rfl⟩ : ∃ u c, v = u ++ [c] := by
      exact ⟨v.dropLast, v.getLast (by intro e; rw [e] at hn; cases hn), (List.dropLast_concat_getLast _).symm⟩
    by_cases hu : Apart one other u
    · obtain ⟨w, d, p, q, h1, h2, h3, h4, h5⟩ := ih hu (by simpa using hn)
      refine ⟨w, d, p, q, h1, h2, h3, .inr ?_, h5⟩
      rcases h4 with h4 | h4
      · rw [h4]; exact slt_ext _ _
      · exact slt_trans h4 (slt_ext _ _)
    · have hi : u <+ one ↔ u <+ other := Classical.byContradiction hu
      have pre : ∀ {x : List Nat}, (u ++ [c]) <+ x → u <+ x := fun k => (List.sublist_append_left u [c]).trans k
      have mem : ∀ {x : List Nat}, (u ++ [c]) <+ x → c ∈ x := fun k => k.subset (by simp)
      have key : (u ++ [c]) <+ one ∨ (u ++ [c]) <+ other := by
        by_cases k1 : (u ++ [c]) <+ one
        · exact .inl k1
        · by_cases k2 : (u ++ [c]) <+ other
          · exact .inr k2
          · exact absurd ⟨fun z => absurd z k1, fun z => absurd z k2⟩ h
      have both : u <+ one ∧ u <+ other := by
        rcases key with k | k
        · exact ⟨pre k, hi.mp (pre k)⟩
        · exact ⟨hi.mpr (pre k), pre k⟩
      obtain ⟨p, hp⟩ := gr_sub.mp both.1
      obtain ⟨q, hq⟩ := gr_sub.mp both.2
      refine ⟨u, c, p, q, hp, hq, h, .inl rfl, ?_⟩
      rcases key with k | k
      · exact List.mem_append_left _ (mem k)
      · exact List.mem_append_right _ (mem k)
abbrev En := (Nat × Nat) × List Nat
def StepOk (one other : List Nat) (L : List En) (e : En) (c : Nat) : Prop := ∀ r r', Nx one c e.1.1 r → Nx other c e.1.2 r' → (r = none ∧ r' = none) ∨ ∃ p q u, r = some p ∧ r' = some q ∧ ((p, q), u) ∈ L ∧ (u = e.2 ++ [c] ∨ slt u (e.2 ++ [c]))
structure Bf (one other cs : List Nat) (n a i : Nat) (L : List En) : Prop where
  nd : (L.map (·.1)).Nodup
  hd : L[0]? = some ((0, 0), [])
  gr : ∀ e ∈ L, Gr one e.2 e.1.1 ∧ Gr other e.2 e.1.2 ∧ e.2.length ≤ n ∧ e.1.1 ≤ one.length ∧ e.1.2 ≤ other.length
  inc : L.Pairwise fun e e' => slt e.2 e'.2
  cov : ∀ j e, L[j]? = some e → ∀ k c, cs[k]? = some c → (j < a ∨ (j = a ∧ k < i)) → StepOk one other L e c
  bnd : ∀ e ∈ L, e.2 = [] ∨ ∃ w c, e.2 = w ++ [c] ∧ ∀ ea, L[a]? = some ea → slt w ea.2 ∨ (w = ea.2 ∧ ∃ k, k < i ∧ cs[k]? = some c)
section
variable {one other cs : List Nat} {n a i : Nat} {L : List En}
theorem bf_start : Bf one other cs n 0 0 [((0, 0), [])] := by
  refine ⟨by simp, rfl, fun e he => ?_, by simp, fun j e hj k c hk z => by omega, fun e he => ?_⟩
  · rw [List.mem_singleton] at he
    subst he
    exact ⟨.nil, .nil, Nat.zero_le _, Nat.zero_le _, Nat.zero_le _⟩
  · rw [List.mem_singleton] at he
    subst he
    exact .inl rfl
theorem Bf.lt (B : Bf one other cs n a i L) {j k : Nat} {e e' : En} (hj : L[j]? = some e) (hk : L[k]? = some e') (h : j < k) : slt e.2 e'.2 := by
  obtain ⟨j1, j2⟩ := List.getElem?_eq_some_iff.mp hj
  obtain ⟨k1, k2⟩ := List.getElem?_eq_some_iff.mp hk
  have := List.pairwise_iff_getElem.mp B.inc j k j1 k1 h
  rw [j2, k2] at this
  exact this
theorem Bf.next (B : Bf one other cs n a cs.length L) : Bf one other cs n (a + 1) 0 L := by
  refine ⟨B.nd, B.hd, B.gr, B.inc, fun j e hj k c hk z => B.cov j e hj k c hk ?_, fun e he => ?_⟩
  · have := (List.getElem?_eq_some_iff.mp hk).1
    omega
  · rcases B.bnd e he with h | ⟨w, c, h1, h2⟩
    · exact .inl h
    · refine .inr ⟨w, c, h1, fun eb hb => .inl ?_⟩
      have la : a < L.length := by
        have := (List.getElem?_eq_some_iff.mp hb).1
        omega
      have ha := List.getElem?_eq_getElem la
      have l2 := B.lt ha hb (Nat.lt_succ_self a)
      rcases h2 _ ha with h | ⟨h, _⟩
      · exact slt_trans h l2
      · rw [h]; exact l2
theorem Bf.step (B : Bf one other cs n a i L) {e : En} {c : Nat} (ha : L[a]? = some e) (hc : cs[i]? = some c) (h : StepOk one other L e c) : Bf one other cs n a (i + 1) L := by
  refine ⟨B.nd, B.hd, B.gr, B.inc, fun j e' hj k c' hk z => ?_, fun e' he => ?_⟩
  · by_cases z2 : j < a ∨ (j = a ∧ k < i)
    · exact B.cov j e' hj k c' hk z2
    · have e1 : j = a := by omega
      have e2 : k = i := by omega
      subst e1 e2
      rw [ha] at hj
      rw [hc] at hk
      cases hj
      cases hk
      exact h
  · rcases B.bnd e' he with h | ⟨w, c', h1, h2⟩
    · exact .inl h
    · refine .inr ⟨w, c', h1, fun ea hea => (h2 ea hea).elim .inl fun ⟨z, k, k1, k2⟩ => .inr ⟨z, k, by omega, k2⟩⟩
theorem Bf.words (B : Bf one other cs n a i L) (sc : cs.Pairwise (· < ·)) {e : En} {c : Nat} (ha : L[a]? = some e) (hc : cs[i]? = some c) : ∀ e' ∈ L, slt e'.2 (e.2 ++ [c]) := fun e' he => by
  rcases B.bnd e' he with h | ⟨w, d, h1, h2⟩
  · rw [h]; exact slt_nil
  · rw [h1]
    rcases h2 e ha with h | ⟨h, k, k1, k2⟩
    · exact slt_snoc_iff.mpr (.inl h)
    · refine slt_snoc_iff.mpr (.inr ⟨h, ?_⟩)
      obtain ⟨i1, i2⟩ := List.getElem?_eq_some_iff.mp hc
      obtain ⟨j1, j2⟩ := List.getElem?_eq_some_iff.mp k2
      have := List.pairwise_iff_getElem.mp sc k i j1 i1 k1
      rw [i2, j2] at this
      exact this
theorem nx_bound {w : List Nat} {c p q : Nat} (h : Nx w c p (some q)) : q ≤ w.length := by
  have := (List.getElem?_eq_some_iff.mp h.2.1).1
  have := h.1
  omega
theorem Bf.new (B : Bf one other cs n a i L) (sc : cs.Pairwise (· < ·)) {e : En} {c p q : Nat} (ha : L[a]? = some e) (hc : cs[i]? = some c) (h1 : Nx one c e.1.1 (some p)) (h2 : Nx other c e.1.2 (some q)) (hn : e.2.length < n) (hk : (p, q) ∉ L.map (·.1)) :
    Bf one other cs n a (i + 1) (L ++ [((p, q), e.2 ++ [c])]) := by
  have la := (List.getElem?_eq_some_iff.mp ha).1
  have em : e ∈ L := List.mem_of_getElem? ha
  have ge := B.gr e em
  have l0 : 0 < L.length := by omega
  have ws := B.words sc ha hc
  have st : ∀ {e' : En} {d : Nat}, StepOk one other L e' d → StepOk one other (L ++ [((p, q), e.2 ++ [c])]) e' d := fun {e' d} h r r' k1 k2 => by
    rcases h r r' k1 k2 with z | ⟨p', q', u, z1, z2, z3, z4⟩
    · exact .inl z
    · exact .inr ⟨p', q', u, z1, z2, List.mem_append_left _ z3, z4⟩
  refine ⟨?_, by rw [List.getElem?_append_left l0]; exact B.hd, fun e' he => ?_, ?_, fun j e' hj k c' hk' z => ?_, fun e' he => ?_⟩
  · rw [List.map_append, List.nodup_append]
    refine ⟨B.nd, by simp, fun x hx y hy => ?_⟩
    rintro rfl
    simp at hy
    exact hk (hy ▸ hx)
  · rcases List.mem_append.mp he with he | he
    · exact B.gr e' he
    · rw [List.mem_singleton] at he
      subst he
      exact ⟨ge.1.snoc h1, ge.2.1.snoc h2, by simp; omega, nx_bound h1, nx_bound h2⟩
  · rw [List.pairwise_append]
    refine ⟨B.inc, by simp, fun x hx y hy => ?_⟩
    rw [List.mem_singleton] at hy
    subst hy
    exact ws x hx
  · by_cases lj : j < L.length
    · rw [List.getElem?_append_left lj] at hj
      by_cases z2 : j < a ∨ (j = a ∧ k < i)
      · exact st (B.cov j e' hj k c' hk' z2)
      · have e1 : j = a := by omega
        have e2 : k = i := by omega
        subst e1 e2
        rw [ha] at hj
        rw [hc] at hk'
        cases hj
        cases hk'
        intro r r' k1 k2
        exact .inr ⟨p, q, _, nx_uniq k1 h1, nx_uniq k2 h2, List.mem_append_right _ (List.mem_singleton.mpr rfl), .inl rfl⟩
    · omega
  · rw [List.getElem?_append_left la, ha]
    rcases List.mem_append.mp he with he | he
    · rcases B.bnd e' he with h | ⟨w, d, z1, z2⟩
      · exact .inl h
      · refine .inr ⟨w, d, z1, fun ea hea => ?_⟩
        cases hea
        exact (z2 e ha).elim .inl fun ⟨y, k, k1, k2⟩ => .inr ⟨y, k, by omega, k2⟩
    · rw [List.mem_singleton] at he
      subst he
      refine .inr ⟨e.2, c, rfl, fun ea hea => ?_⟩
      cases hea
      exact .inr ⟨rfl, i, by omega, hc⟩
theorem Bf.rep (B : Bf one other cs n a i L) (hcs : ∀ c ∈ one, c ∈ cs) : ∀ {v : List Nat} {p q : Nat}, Gr one v p → Gr other v q → (∀ ea, L[a]? = some ea → slt v ea.2) → ∃ j e, j < a ∧ L[j]? = some e ∧ e.1 = (p, q) ∧ (e.2 = v ∨ slt e.2 v) := by
  intro v
  induction hn : v.length generalizing v with
  | zero =>
    obtain rfl := List.length_eq_zero_iff.mp hn
    intro p q h1 h2 hl
    obtain rfl := gr_fun h1 .nil
    obtain rfl := gr_fun h2 .nil
    refine ⟨0, _, ?_, B.hd, rfl, .inl rfl⟩
    cases a with
    | zero => exact absurd (hl _ B.hd) slt_irrefl
    | succ => exact Nat.succ_pos _
  | succ m ih =>
    obtain ⟨w, c, rfl⟩ : ∃ u c, v = u ++ [c] := by
      exact ⟨v.dropLast, v.getLast (by intro e; rw [e] at hn; cases hn), (List.dropLast_concat_getLast _).symm⟩
    intro p q h1 h2 hl
    obtain ⟨p0, g1, x1⟩ := gr_inv h1
    obtain ⟨q0, g2, x2⟩ := gr_inv h2
    obtain ⟨j, e, ja, hj, e1, e2⟩ := ih (by simpa using hn) g1 g2 fun ea hea => slt_trans (slt_ext _ _) (hl ea hea)
    have hc : c ∈ cs := hcs c (List.mem_of_getElem? x1.2.1)
    obtain ⟨k, hk⟩ := List.getElem?_of_mem hc
    have st := B.cov j e hj k c hk (.inl ja)
    rw [show e = ((p0, q0), e.2) from Prod.ext e1 rfl] at st
    rcases st _ _ x1 x2 with ⟨z, _⟩ | ⟨p', q', u, z1, z2, z3, z4⟩
    · cases z
    · cases z1
      cases z2
      obtain ⟨j', hj'⟩ := List.getElem?_of_mem z3
      have uv : u = w ++ [c] ∨ slt u (w ++ [c]) := by
        have t : e.2 ++ [c] = w ++ [c] ∨ slt (e.2 ++ [c]) (w ++ [c]) := by
          rcases e2 with e2 | e2
          · exact .inl (by rw [e2])
          · exact .inr (slt_snoc_iff.mpr (.inl e2))
        rcases z4 with z4 | z4
        · rw [z4]; exact t
        · rcases t with t | t
          · exact .inr (t ▸ z4)
          · exact .inr (slt_trans z4 t)
      refine ⟨j', _, ?_, hj', rfl, uv⟩
      by_cases la : a < L.length
      · have ha := List.getElem?_eq_getElem la
        have l1 := hl _ ha
        have l2 : slt u (L[a]).2 := by
          rcases uv with z | z
          · rw [z]; exact l1
          · exact slt_trans z l1
        rcases Nat.lt_trichotomy j' a with z | z | z
        · exact z
        · subst z
          rw [ha] at hj'
          rw [Option.some.inj hj'] at l2
          exact absurd l2 slt_irrefl
        · exact absurd (slt_trans l2 (B.lt ha hj' z)) slt_irrefl
      · have := (List.getElem?_eq_some_iff.mp hj').1
        omega
theorem Bf.done {j k : Nat} {e : En} {c : Nat} (B : Bf one other cs n a i L) (hj : L[j]? = some e) (hk : cs[k]? = some c) (z : j < a ∨ (j = a ∧ k < i)) {w : List Nat} {p q : Nat} (e1 : e.1 = (p, q)) (g1 : Gr one w p) (g2 : Gr other w q) : ¬ Apart one other (w ++ [c]) := fun h => by
  obtain ⟨r, hr⟩ := nx_ex one c p
  obtain ⟨r', hr'⟩ := nx_ex other c q
  have st := B.cov j e hj k c hk z
  rw [show e = ((p, q), e.2) from Prod.ext e1 rfl] at st
  refine h ?_
  rw [gr_next g1 hr, gr_next g2 hr']
  rcases st _ _ hr hr' with ⟨z1, z2⟩ | ⟨p', q', u, z1, z2, _⟩
  · rw [z1, z2]
  · rw [z1, z2]
    simp
theorem Bf.none (B : Bf one other cs n a i L) (hcs : ∀ c ∈ one ++ other, c ∈ cs) (hl : ∀ ea, L[a]? = some ea → n ≤ ea.2.length) : IsLeast one other n none := fun v hv h => by
  obtain ⟨w, c, p, q, g1, g2, ha, hle, hc⟩ := apart_first h
  have lw : w.length < n := by
    rcases hle with hle | hle | ⟨hle, _⟩
    · rw [← hle] at hv; simp at hv; omega
    · simp at hle; omega
    · simp at hle; omega
  obtain ⟨j, e, ja, hj, e1, _⟩ := B.rep (fun c hc => hcs c (List.mem_append_left _ hc)) g1 g2 fun ea hea => .inl (Nat.lt_of_lt_of_le lw (hl ea hea))
  obtain ⟨k, hk⟩ := List.getElem?_of_mem (hcs c hc)
  exact B.done hj hk (.inl ja) e1 g1 g2 ha
theorem Bf.found (B : Bf one other cs n a i L) (hcs : ∀ c ∈ one ++ other, c ∈ cs) (sc : cs.Pairwise (· < ·)) {e : En} {c : Nat} {r r' : Option Nat} (ha : L[a]? = some e) (hc : cs[i]? = some c) (h1 : Nx one c e.1.1 r) (h2 : Nx other c e.1.2 r') (hr : (r = Option.none) ≠ (r' = Option.none)) (hn : e.2.length < n) :
    IsLeast one other n (some (e.2 ++ [c])) := by
  obtain ⟨g1, g2, _⟩ := B.gr e (List.mem_of_getElem? ha)
  refine ⟨by simp; omega, fun h => hr ?_, fun v hv hap => ?_⟩
  · rw [gr_next g1 h1, gr_next g2 h2] at h
    exact propext (by by_cases z1 : r = Option.none <;> by_cases z2 : r' = Option.none <;> simp [z1, z2] at h ⊢)
  · obtain ⟨w, d, p, q, w1, w2, ap, hle, hd⟩ := apart_first hap
    have l2 : slt (w ++ [d]) (e.2 ++ [c]) := by
      rcases hle with hle | hle
      · rw [hle]; exact hv
      · exact slt_trans hle hv
    obtain ⟨k, hk⟩ := List.getElem?_of_mem (hcs d hd)
    rcases slt_snoc_iff.mp l2 with z | ⟨z, zc⟩
    · obtain ⟨j, e', ja, hj, e1, _⟩ := B.rep (fun c hc => hcs c (List.mem_append_left _ hc)) w1 w2 fun ea hea => by
        rw [ha] at hea
        cases hea
        exact z
      exact B.done hj hk (.inl ja) e1 w1 w2 ap
    · subst z
      have ki : k < i := by
        obtain ⟨i1, i2⟩ := List.getElem?_eq_some_iff.mp hc
        obtain ⟨k1, k2⟩ := List.getElem?_eq_some_iff.mp hk
        rcases Nat.lt_trichotomy k i with y | y | y
        · exact y
        · subst y
          rw [i2] at k2
          omega
        · have := List.pairwise_iff_getElem.mp sc i k i1 k1 y
          rw [i2, k2] at this
          omega
      exact B.done ha hk (.inr ⟨rfl, ki⟩) (Prod.ext (gr_fun g1 w1) (gr_fun g2 w2)) w1 w2 ap
theorem Bf.len (B : Bf one other cs n a i L) : L.length ≤ (one.length + 1) * (other.length + 1) := by
  have := box_len (a := one.length + 1) (b := other.length + 1) B.nd fun p hp => by
    obtain ⟨e, he, rfl⟩ := List.mem_map.mp hp
    have := B.gr e he
    omega
  simpa using this
end
end DL
namespace DL
open scoped List
open W06
def rowW (ls : List Nat) : Nat → List (List Nat)
  | 0 => [[]]
  | k + 1 => (rowW ls k).flatMap fun w => ls.map fun c => w ++ [c]
def uptoW (ls : List Nat) : Nat → List (List Nat)
  | 0 => [[]]
  | k + 1 => uptoW ls k ++ rowW ls (k + 1)
theorem row_mem {ls : List Nat} : ∀ {k : Nat} {v : List Nat}, v ∈ rowW ls k ↔ v.length = k ∧ ∀ c ∈ v, c ∈ ls
  | 0, v => by
    rw [rowW, List.mem_singleton]
    constructor
    · rintro rfl; simp
    · exact fun h => List.length_eq_zero_iff.mp h.1
  | k + 1, v => by
    rw [rowW, List.mem_flatMap]
    constructor
    · rintro ⟨w, hw, hv⟩
      obtain ⟨c, hc, rfl⟩ := List.mem_map.mp hv
      obtain ⟨h1, h2⟩ := row_mem.mp hw
      refine ⟨by simp [h1], fun d hd => ?_⟩
      rcases List.mem_append.mp hd with hd | hd
      · exact h2 d hd
      · rw [List.mem_singleton] at hd; rw [hd]; exact hc
    · rintro ⟨h1, h2⟩
      have ne : v ≠ [] := fun e => by rw [e] at h1; cases h1
      refine ⟨v.dropLast, row_mem.mpr ⟨by simp [h1], fun c hc => h2 c (List.dropLast_subset v hc)⟩, List.mem_map.mpr ⟨v.getLast ne, h2 _ (List.getLast_mem ne), List.dropLast_concat_getLast ne⟩⟩
theorem row_len {ls : List Nat} : ∀ {k : Nat}, (rowW ls k).length = ls.length ^ k
  | 0 => rfl
  | k + 1 => by
    rw [rowW, List.length_flatMap]
    simp only [List.length_map]
    rw [List.map_const', List.sum_replicate_nat, row_len, Nat.pow_succ]
theorem row_sorted {ls : List Nat} (h : ls.Pairwise (· < ·)) : ∀ {k : Nat}, (rowW ls k).Pairwise slt
  | 0 => by simp [rowW]
  | k + 1 => by
    rw [rowW, List.pairwise_flatMap]
    refine ⟨fun w hw => ?_, (row_sorted h (k := k)).imp fun {u v} huv => ?_⟩
    · rw [List.pairwise_map]
      exact h.imp fun {c d} hcd => slt_snoc_iff.mpr (.inr ⟨rfl, hcd⟩)
    · rintro x hx y hy
      obtain ⟨c, _, rfl⟩ := List.mem_map.mp hx
      obtain ⟨d, _, rfl⟩ := List.mem_map.mp hy
      exact slt_snoc_iff.mpr (.inl huv)
theorem upto_mem {ls : List Nat} : ∀ {k : Nat} {v : List Nat}, v ∈ uptoW ls k ↔ v.length ≤ k ∧ ∀ c ∈ v, c ∈ ls
  | 0, v => by
    rw [uptoW, List.mem_singleton]
    constructor
    · rintro rfl; simp
    · exact fun h => List.length_eq_zero_iff.mp (Nat.le_zero.mp h.1)
  | k + 1, v => by
    rw [uptoW, List.mem_append, upto_mem, row_mem]
    constructor
    · rintro (⟨h1, h2⟩ | ⟨h1, h2⟩)
      · exact ⟨by omega, h2⟩
      · exact ⟨by omega, h2⟩
    · rintro ⟨h1, h2⟩
      by_cases z : v.length ≤ k
      · exact .inl ⟨z, h2⟩
      · exact .inr ⟨by omega, h2⟩
theorem upto_sorted {ls : List Nat} (h : ls.Pairwise (· < ·)) : ∀ {k : Nat}, (uptoW ls k).Pairwise slt
  | 0 => by simp [uptoW]
  | k + 1 => by
    rw [uptoW, List.pairwise_append]
    refine ⟨upto_sorted h, row_sorted h, fun u hu v hv => .inl ?_⟩
    have h1 := (upto_mem.mp hu).1
    have h2 := (row_mem.mp hv).1
    omega
theorem least_first {one other ls : List Nat} {n i : Nat} {u : List Nat} (h : ls.Pairwise (· < ·)) (hl : ∀ c ∈ one ++ other, c ∈ ls) (hi : (uptoW ls n)[i]? = some u) (ha : Apart one other u) (hb : ∀ j w, j < i → (uptoW ls n)[j]? = some w → ¬ Apart one other w) : IsLeast one other n (some u) := by
  refine ⟨(upto_mem.mp (List.mem_of_getElem? hi)).1, ha, fun v hv hap => ?_⟩
  have hm : v ∈ uptoW ls n := by
    refine upto_mem.mpr ⟨?_, fun c hc => hl c ?_⟩
    · have := (upto_mem.mp (List.mem_of_getElem? hi)).1
      rcases hv with hv | ⟨hv, _⟩ <;> omega
    · by_cases k1 : v <+ one
      · exact List.mem_append_left _ (k1.subset hc)
      · by_cases k2 : v <+ other
        · exact List.mem_append_right _ (k2.subset hc)
        · exact absurd ⟨fun z => absurd z k1, fun z => absurd z k2⟩ hap
  obtain ⟨j, hj⟩ := List.getElem?_of_mem hm
  refine hb j v ?_ hj hap
  obtain ⟨i1, i2⟩ := List.getElem?_eq_some_iff.mp hi
  obtain ⟨j1, j2⟩ := List.getElem?_eq_some_iff.mp hj
  rcases Nat.lt_trichotomy j i with z | z | z
  · exact z
  · subst z
    rw [i2] at j2
    subst j2
    exact absurd hv slt_irrefl
  · have := List.pairwise_iff_getElem.mp (upto_sorted h) i j i1 j1 z
    rw [i2, j2] at this
    exact absurd (slt_trans hv this) slt_irrefl
theorem least_none {one other ls : List Nat} {n : Nat} (hl : ∀ c ∈ one ++ other, c ∈ ls) (hb : ∀ w ∈ uptoW ls n, ¬ Apart one other w) : IsLeast one other n none := fun v hv hap => by
  refine hb v (upto_mem.mpr ⟨hv, fun c hc => hl c ?_⟩) hap
  by_cases k1 : v <+ one
  · exact List.mem_append_left _ (k1.subset hc)
  · by_cases k2 : v <+ other
    · exact List.mem_append_right _ (k2.subset hc)
    · exact absurd ⟨fun z => absurd z k1, fun z => absurd z k2⟩ hap
theorem least_symm {one other : List Nat} {n : Nat} {r : Option (List Nat)} (h : IsLeast one other n r) : IsLeast other one n r := by
  have e : ∀ v, Apart other one v ↔ Apart one other v := fun v => not_congr ⟨Iff.symm, Iff.symm⟩
  cases r with
  | none => exact fun v hv k => h v hv ((e v).mp k)
  | some u => exact ⟨h.1, (e u).mpr h.2.1, fun v hv k => h.2.2 v hv ((e v).mp k)⟩
theorem least_self {w : List Nat} {n : Nat} : IsLeast w w n none := fun v _ h => h Iff.rfl
theorem sub_rep {a : List Nat} : ∀ {n : Nat} {v : List Nat}, v.length ≤ n → (∀ c ∈ v, c ∈ a) → v <+ repL a n
  | 0, v, h, _ => by
    obtain rfl := List.length_eq_zero_iff.mp (Nat.le_zero.mp h)
    simp
  | n + 1, [], _, _ => by simp
  | n + 1, c :: v, h, hc => by
    have e : repL a (n + 1) = a ++ repL a n := by simp [repL, List.replicate_succ]
    rw [e]
    exact List.Sublist.append (l₁ := [c]) (List.singleton_sublist.mpr (hc c (by simp))) (sub_rep (by simpa using h) fun d hd => hc d (by simp [hd]))
theorem count_rep {a : List Nat} {c : Nat} : ∀ {n : Nat}, (repL a n).count c = n * a.count c
  | 0 => by simp [repL]
  | n + 1 => by
    have e : repL a (n + 1) = a ++ repL a n := by simp [repL, List.replicate_succ]
    rw [e, List.count_append, count_rep, Nat.succ_mul]
    omega
theorem lex_rep {a : Nat} : ∀ {v : List Nat}, (∀ c ∈ v, a ≤ c) → ¬ (v < List.replicate v.length a)
  | [], _ => by simp
  | c :: v, h => by
    rw [List.length_cons, List.replicate_succ, List.cons_lt_cons_iff]
    rintro (z | ⟨_, z⟩)
    · have := h c (by simp)
      omega
    · exact lex_rep (fun d hd => h d (by simp [hd])) z
theorem least_loops {a : Nat} {loops : List Nat} (h1 : loops.count a = 1) (h2 : ∀ c ∈ loops, a ≤ c) (t n : Nat) : IsLeast (repL loops t) (repL loops t ++ [a]) n (if t < n then some (List.replicate (t + 1) a) else none) := by
  have ml : a ∈ loops := List.count_pos_iff.mp (by omega)
  have hlet : ∀ {v : List Nat}, v <+ repL loops t ++ [a] → ∀ c ∈ v, c ∈ loops := fun {v} hv c hc => by
    rcases List.mem_append.mp (hv.subset hc) with z | z
    · exact rep_mem z
    · rw [List.mem_singleton] at z; rw [z]; exact ml
  have short : ∀ {v : List Nat}, v.length ≤ t → ¬ Apart (repL loops t) (repL loops t ++ [a]) v := fun {v} hv h =>
    h ⟨fun z => z.trans (List.sublist_append_left _ _), fun z => sub_rep hv (hlet z)⟩
  by_cases htn : t < n
  · rw [if_pos htn]
    refine ⟨by simp; omega, fun h => ?_, fun v hv hap => ?_⟩
    · have y : List.replicate (t + 1) a <+ repL loops t ++ [a] := by
        rw [List.replicate_sublist_iff, List.count_append, count_rep, h1]
        simp
      have z := h.mpr y
      rw [List.replicate_sublist_iff, count_rep, h1] at z
      omega
    · rcases hv with hv | ⟨e, hv⟩
      · rw [List.length_replicate] at hv
        exact short (by omega) hap
      · rw [List.length_replicate] at e
        have sub : v <+ repL loops t ++ [a] := by
          by_cases k : v <+ repL loops t ++ [a]
          · exact k
          · exact absurd ⟨fun z => z.trans (List.sublist_append_left _ _), fun z => absurd z k⟩ hap
        rw [← e] at hv
        exact lex_rep (fun c hc => h2 c (hlet sub c hc)) hv
  · rw [if_neg htn]
    exact fun v hv => short (by omega)
end DL
namespace DL
open scoped List
theorem upto_len {ls : List Nat} (h : ls.length ≤ 3) : ∀ {k : Nat}, (uptoW ls k).length ≤ 4 ^ k
  | 0 => Nat.le_refl _
  | k + 1 => by
    rw [uptoW, List.length_append, row_len]
    have i1 := upto_len h (k := k)
    have i2 : ls.length ^ (k + 1) ≤ 3 ^ (k + 1) := Nat.pow_le_pow_left h _
    have i3 : 3 ^ k ≤ 4 ^ k := Nat.pow_le_pow_left (by decide) _
    rw [Nat.pow_succ] at i2 ⊢
    rw [Nat.pow_succ] at i2
    omega
theorem row_len3 {ls : List Nat} (h : ls.length ≤ 3) {k : Nat} (hk : k ≤ 6) : (rowW ls k).length ≤ 729 := by
  rw [row_len]
  calc ls.length ^ k ≤ 3 ^ k := Nat.pow_le_pow_left h _
    _ ≤ 3 ^ 6 := Nat.pow_le_pow_right (by decide) hk
structure Gre (u w : List Nat) (i a : Nat) : Prop where
  le : a ≤ u.length
  yes : u.take a <+ w.take i
  no : a < u.length → ¬ u.take (a + 1) <+ w.take i
theorem gre_start {u w : List Nat} : Gre u w 0 0 := ⟨Nat.zero_le _, by simp, fun h k => by
  have := k.length_le
  rw [List.length_take, List.length_take] at this
  omega⟩
theorem take_snoc {w : List Nat} {i c : Nat} (h : w[i]? = some c) : w.take (i + 1) = w.take i ++ [c] := by
  rw [List.take_add_one, h]; rfl
theorem gre_hit {u w : List Nat} {i a c : Nat} (G : Gre u w i a) (hw : w[i]? = some c) (hu : u[a]? = some c) : Gre u w (i + 1) (a + 1) := by
  have la := (List.getElem?_eq_some_iff.mp hu).1
  refine ⟨la, ?_, fun h2 k => ?_⟩
  · rw [take_snoc hw, take_snoc hu]
    exact List.Sublist.append G.yes (List.Sublist.refl _)
  · rw [take_snoc (List.getElem?_eq_getElem h2)] at k
    obtain ⟨j, hj, hs⟩ := sub_snoc.mp k
    have lj := (List.getElem?_eq_some_iff.mp hj).1
    rw [List.length_take] at lj
    rw [List.take_take] at hs
    exact G.no la (hs.trans ((List.take_prefix_take_left (by omega)).sublist))
theorem gre_miss {u w : List Nat} {i a c : Nat} (G : Gre u w i a) (hw : w[i]? = some c) (hu : u[a]? ≠ some c) : Gre u w (i + 1) a := by
  refine ⟨G.le, G.yes.trans ((List.take_prefix_take_left (by omega)).sublist), fun la k => ?_⟩
  rw [take_snoc (List.getElem?_eq_getElem la)] at k
  obtain ⟨j, hj, hs⟩ := sub_snoc.mp k
  have lj := (List.getElem?_eq_some_iff.mp hj).1
  rw [List.length_take] at lj
  rw [List.getElem?_take_of_lt (by omega)] at hj
  rw [List.take_take, Nat.min_eq_left (by omega)] at hs
  by_cases z : j = i
  · subst z
    rw [hw] at hj
    exact hu (by rw [List.getElem?_eq_getElem la, ← Option.some.inj hj])
  · refine G.no la ?_
    rw [take_snoc (List.getElem?_eq_getElem la)]
    refine sub_snoc.mpr ⟨j, by rw [List.getElem?_take_of_lt (by omega)]; exact hj, ?_⟩
    rw [List.take_take, Nat.min_eq_left (by omega)]
    exact hs
theorem gre_end {u w : List Nat} {a : Nat} (G : Gre u w w.length a) : a = u.length ↔ u <+ w := by
  have e : w.take w.length = w := List.take_length
  have y := G.yes
  rw [e] at y
  constructor
  · rintro rfl
    rw [List.take_length] at y
    exact y
  · intro h
    have le := G.le
    by_cases z : a < u.length
    · have n := G.no z
      rw [e] at n
      exact absurd ((List.take_sublist _ _).trans h) n
    · omega
def filtD (xs : List D) (bs : List Bool) : List D := ((xs.zip bs).filter (·.2)).map (·.1)
theorem filt_take {xs : List D} {bs : List Bool} {j : Nat} {x : D} {b : Bool} (hx : xs[j]? = some x) (hb : bs[j]? = some b) : filtD (xs.take (j + 1)) (bs.take (j + 1)) = filtD (xs.take j) (bs.take j) ++ (if b then [x] else []) := by
  unfold filtD
  have tz : ∀ n, (xs.take n).zip (bs.take n) = (xs.zip bs).take n := fun n => by simp [List.zip, List.take_zipWith]
  rw [tz, tz, List.take_add_one]
  have : (xs.zip bs)[j]? = some (x, b) := by rw [List.getElem?_zip_eq_some]; exact ⟨hx, hb⟩
  rw [this, List.filter_append, List.map_append]
  congr 1
  cases b <;> rfl
theorem filt_len {xs : List D} {bs : List Bool} : (filtD xs bs).length ≤ xs.length := by
  unfold filtD
  rw [List.length_map]
  refine Nat.le_trans (List.length_filter_le _ _) ?_
  rw [List.length_zip]
  omega
end DL
namespace DL
open PySem PySem.Spec L2 PyProof.Rows
theorem s_flags {x0 : SV} {names : List D} {fl : List Bool} {ρ : Ro} {vs : List Nat} {Q : D → Ro → Prop} (hv : vs = [3]) (hl : names.length = fl.length) (hs : names.length < 1000) (eρ : ρ = [x0, some (false, .lst names), some (false, .lst (fl.map .bl)), none]) (h : Q (.lst (filtD names fl)) ρ) : dLc (diRange1 (dCons (dOp1 fLen (dPeek 1)) dNil)) (dgName 3) (dTru (dIxV fIx 2 (dVar 3))) (dIxV fIx 1 (dVar 3)) vs ρ Q := by
  subst hv
  subst eρ
  refine s_lc ?_
  refine s_irng1 ?_
  refine s_cons ?_
  refine s_op1 ?_
  apply s_peek rfl
  refine s_lenL ?_
  refine s_nil ?_
  refine s_rng1 ⟨by omega, by omega⟩ ?_
  refine s_lcAll (fun j acc => acc = filtD (names.take j) (fl.take j)) rfl (fun i d acc e ea => ?_) (fun acc ea => ?_)
  · obtain ⟨hi, rfl⟩ := rangeD_get e
    have hi : i < names.length := by omega
    have en : names[i]? = some names[i] := List.getElem?_eq_getElem hi
    have hj : i < fl.length := by omega
    have ef : fl[i]? = some fl[i] := List.getElem?_eq_getElem hj
    rw [Int.zero_add]
    refine s_lcT ?_
    refine s_gname ?_
    refine s_truT ?_
    apply s_ixV ⟨_, rfl⟩
    apply s_var rfl
    refine s_ixL (atI_nat (by rw [List.getElem?_map, ef]; rfl)) ?_
    refine s_truB ?_
    have st := filt_take en ef
    by_cases z : fl[i] = true
    · rw [if_pos z]
      apply s_ixV ⟨_, rfl⟩
      apply s_var rfl
      refine s_ixL (atI_nat en) ?_
      refine ⟨rfl, ?_, ?_⟩
      · have := filt_len (xs := names.take i) (bs := fl.take i)
        rw [List.length_take] at this
        rw [ea]; omega
      · rw [st, if_pos z, ea]
    · rw [if_neg z]
      exact ⟨rfl, by rw [st, if_neg z, ea, List.append_nil]⟩
  · rw [rangeD_len] at ea
    have e1 : ((names.length : Int)).toNat = names.length := rfl
    rw [e1, List.take_length, hl, List.take_length] at ea
    rw [ea]
    exact h
end DL
namespace DL
open PySem PySem.Spec L2 PyProof.Rows
def dNeg (ta : DE) : DE := fun ρ Q => ta ρ fun d ρ' => match d with
  | .int i => Q (.int (-i)) ρ'
  | _ => False
theorem pd_neg {X : Cx} {m : M} {a : Expr} {ta : DE} {pos : Pos} (ha : PD X m a ta) : PD X m (.UnaryOp .USub a pos) (dNeg ta) := by
  refine ⟨PE.imp (pe_un un_neg ha.pe) fun σ H Q ⟨ρ, F, S, t⟩ => ⟨ρ, F, S, ha.mono _ _ _ (fun d ρ' q v H' F' s S' r => ?_) t⟩, fun ρ Q Q' i => ha.mono _ _ _ fun d ρ' => ?_⟩
  · cases d with
    | int k => exact ⟨k, r, q _ H' F' s S' rfl⟩
    | _ => exact q.elim
  · cases d with
    | int k => exact i _ _
    | _ => exact id
theorem s_neg {ta : DE} {ρ : Ro} {Q : D → Ro → Prop} (h : ta ρ (fun d ρ' => match d with
  | .int i => Q (.int (-i)) ρ'
  | _ => False)) : dNeg ta ρ Q := h
end DL
namespace DL
open PySem PySem.Spec L2 PyProof.Rows
def pickS (z : List Nat) (lo hi : Option Int) (k : Int) : List Nat := (Builtin.Str.strSliceIndices lo hi k z.length).filterMap (z[·]?)
def stepS (z : List Nat) (lo hi : Option Int) (k : Int) : List Nat := if k = 1 then cutG z lo hi else pickS z lo hi k
theorem cutG_len {α : Type} (z : List α) (lo hi : Option Int) : (cutG z lo hi).length ≤ z.length := by
  unfold cutG
  rw [List.length_take, List.length_drop]
  omega
theorem pickS_len (z : List Nat) (lo hi : Option Int) {k : Int} (h : k ≠ 0) : (pickS z lo hi k).length ≤ z.length := Nat.le_trans (List.length_filterMap_le _ _) (sliceIndicesBy_le lo hi k h z.length)
theorem stepS_len (z : List Nat) (lo hi : Option Int) {k : Int} (h : k ≠ 0) : (stepS z lo hi k).length ≤ z.length := by
  unfold stepS
  split
  · exact cutG_len _ _ _
  · exact pickS_len z lo hi h
theorem stepS_mem {z : List Nat} {lo hi : Option Int} {k : Int} {c : Nat} (h : c ∈ stepS z lo hi k) : c ∈ z := by
  unfold stepS at h
  split at h
  · exact ((List.take_sublist _ _).trans (List.drop_sublist _ _)).subset h
  · obtain ⟨i, _, e⟩ := List.mem_filterMap.mp h
    exact List.mem_of_getElem? e
theorem stepS_rev (z : List Nat) : stepS z none none (-1) = z.reverse := by
  unfold stepS pickS Builtin.Str.strSliceIndices sliceRange
  rw [if_neg (by decide)]
  have e : (if ((z.length : Int) - 1 > -1) then (((z.length : Int) - 1) - -1 - -1 - 1) / (- -1) else 0).toNat = z.length := by
    rw [show (- -1 : Int) = 1 from rfl, Int.ediv_one]
    split <;> omega
  simp only [show ¬ ((-1 : Int) > 0) by decide, if_false]
  rw [e, List.filterMap_map]
  have : ∀ n ≤ z.length, (List.filterMap ((fun x => z[x]?) ∘ fun (k : Nat) => ((z.length : Int) - 1 + -1 * (k : Int)).toNat) (List.range n)) = (z.reverse).take n := by
    intro n
    induction n with
    | zero => intro _; simp
    | succ n ih =>
      intro hn
      rw [List.range_succ, List.filterMap_append, ih (by omega), List.take_add_one]
      congr 1
      have e1 : ((z.length : Int) - 1 + -1 * (n : Int)).toNat = z.length - 1 - n := by omega
      simp only [List.filterMap_cons, Function.comp, e1, List.filterMap_nil]
      rw [List.getElem?_reverse (by omega)]
      cases z[z.length - 1 - n]? <;> rfl
  rw [this z.length (Nat.le_refl _), ← List.length_reverse, List.take_length]
def dStep (te : DE) (tl th ts : DO) : DE := fun ρ Q => te ρ fun d ρ1 => tl ρ1 fun lo ρ2 => th ρ2 fun hi ρ3 => ts ρ3 fun k ρ4 => match d, k with
  | .str z, some k => k ≠ 0 ∧ z.length ≤ 16777216 ∧ Q (.str (stepS z lo hi k)) ρ4
  | _, _ => False
section
variable {X : Cx} {m : M} {e st : Expr} {te : DE} {ts : DO}
theorem pe_step {lo hi : Option Expr} {t : TE} {tl th t3 : TO} {p2 pos : Pos} (he : PE X e t) (hl : PO X lo tl) (hu : PO X hi th) (hs : PO X (some st) t3) : PE X (.Subscript e (.Slice lo hi (some st) p2) pos)
    (fun σ H Q => t σ H fun x H1 => tl σ H1 fun l H2 => th σ H2 fun u H3 => t3 σ H3 fun k H4 => ∃ z k', x = .str z ∧ k = some k' ∧ k' ≠ 0 ∧ z.length ≤ sizeLine ∧ Q (.str (if k' = 1 then cutS z l u else ⟨((Builtin.Str.strSliceIndices l u k' z.length).filterMap (z.cps[·]?)).toArray⟩)) H4) := by
  refine ⟨fun pins s σ H Q I h => ?_⟩
  refine Subscript_ (thn (he.run pins s σ H _ I h) fun v s1 ⟨x, H1, I1, r1, q1⟩ => ?_)
  refine wpAny_Slice (thn (hl.run pins s1 σ H1 _ I1 q1) fun vl s2 ⟨l, H2, I2, pl, q2⟩ => thn (hu.run pins s2 σ H2 _ I2 q2) fun vu s3 ⟨u, H3, I3, pu, q3⟩ => thn (hs.run pins s3 σ H3 _ I3 q3) fun vk s4 ⟨k, H4, I4, pk, q4⟩ => ?_)
  obtain ⟨z, k', rfl, rfl, h0, hz, q⟩ := q4
  obtain ⟨t, rfl⟩ := r1
  have I5 : Inv X pins σ H4 { s4 with heap := s4.heap.push { cls := .type "slice", data := .fields #[vl, vu, vk] } } := I4.kept (t' := s4.toks) fun b ob q => Heap.get?_push_of_some _ q
  obtain ⟨l', rfl, el⟩ := IsPart.raw pl
  obtain ⟨u', rfl, eu⟩ := IsPart.raw pu
  obtain ⟨c', rfl, ec⟩ := IsPart.raw pk
  show wpAny (model X.prog X.w) X.A (subscriptTail e (.Slice lo hi (some st) p2) (.str z t) (.ref s4.heap.objs.size)) (EP X pins σ Q) X.xe { s4 with heap := s4.heap.push { cls := .type "slice", data := .fields #[partValue l', partValue u', partValue c'] } }
  refine tail_any (ops := [.ref s4.heap.objs.size, .str z t]) (typeIs_str _ _ _) F.slot_str_getitem.lookup ?_ (by with_unfolding_all rfl)
  refine wpAny_getItem_str_slice (l := l') (u := u') (st := c') ⟨_, Heap.get?_push_size _ rfl, rfl, rfl⟩ (by rw [ec]; simpa using h0) ?_
  have pe : slicePicked z l' u' c' = Builtin.Str.strSliceIndices l u k' z.length := by
    unfold slicePicked
    rw [el, eu, ec]; rfl
  have gd : (c'.map (·.1)).getD 1 = k' := by rw [ec]; rfl
  unfold sliceMade
  rw [pe, gd]
  have ct := sliceText_cut z l u
  unfold PySem.StrLaws.sliceText at ct
  by_cases c : (k' == 1 && (Builtin.Str.strSliceIndices l u k' z.length).length == z.length) = true
  · rw [if_pos c]
    rw [Bool.and_eq_true, beq_iff_eq] at c
    obtain ⟨rfl, c2⟩ := c
    rw [if_pos rfl] at q
    rw [if_pos (by simpa using c2)] at ct
    rw [← ct] at q
    exact ⟨.str z, H4, I5, ⟨t, rfl⟩, q⟩
  · rw [if_neg c]
    have q' : Q (.str ⟨((Builtin.Str.strSliceIndices l u k' z.length).filterMap (z.cps[·]?)).toArray⟩) H4 := by
      by_cases c1 : k' = 1
      · subst c1
        rw [if_pos rfl] at q
        rw [if_neg c] at ct
        rw [ct]; exact q
      · rw [if_neg c1] at q
        exact q
    refine ⟨?_, .str _, H4, I5.tok _, ⟨_, rfl⟩, q'⟩
    refine Nat.le_trans ?_ hz
    show (List.filterMap _ _).toArray.size ≤ z.length
    rw [List.size_toArray]
    exact Nat.le_trans (List.length_filterMap_le _ _) (sliceIndicesBy_le l u k' h0 z.length)
theorem pd_step {lo hi : Option Expr} {tl th : DO} {p2 pos : Pos} (he : PD X m e te) (hl : PDO X m lo tl) (hh : PDO X m hi th) (hs : PDO X m (some st) ts) : PD X m (.Subscript e (.Slice lo hi (some st) p2) pos) (dStep te tl th ts) := by
  refine ⟨PE.imp (pe_step he.pe hl.pe hh.pe hs.pe) fun σ H Q ⟨ρ, F, Sm, t⟩ => ?_, fun ρ Q Q' i => he.mono _ _ _ fun d ρ1 => hl.mono _ _ _ fun l ρ2 => hh.mono _ _ _ fun u ρ3 => hs.mono _ _ _ fun k ρ4 => ?_⟩
  · refine ⟨ρ, F, Sm, he.mono _ _ _ (fun d ρ1 q x H1 F1 s1 S1 r1 => ?_) t⟩
    refine ⟨ρ1, F1, S1, hl.mono _ _ _ (fun l ρ2 q H2 F2 s2 S2 => ?_) q⟩
    refine ⟨ρ2, F2, S2, hh.mono _ _ _ (fun u ρ3 q H3 F3 s3 S3 => ?_) q⟩
    refine ⟨ρ3, F3, S3, hs.mono _ _ _ (fun k ρ4 q H4 F4 s4 S4 => ?_) q⟩
    cases d with
    | str z =>
      cases k with
      | none => exact q.elim
      | some k =>
        refine ⟨S z, k, r1, rfl, q.1, by rw [line16, S_len]; exact q.2.1, ?_⟩
        refine q.2.2 _ _ _ (s1.trans (s2.trans (s3.trans s4))) S4 ?_
        show V.str _ = V.str (S (stepS z l u k))
        unfold stepS pickS
        split
        · unfold cutS cutG
          rw [S_cps, S_len]
          rfl
        · have e1 : ∀ x, (S z).cps[x]? = z[x]? := fun x => S_get z x
          rw [S_len]
          simp only [e1]
          rfl
    | _ => exact q.elim
  · cases d <;> cases k <;> first | exact fun ⟨a, b, c⟩ => ⟨a, b, i _ _ c⟩ | exact id
theorem s_step {tl th : DO} {ρ : Ro} {Q : D → Ro → Prop} (h : te ρ fun d ρ1 => tl ρ1 fun lo ρ2 => th ρ2 fun hi ρ3 => ts ρ3 fun k ρ4 => match d, k with
  | .str z, some k => k ≠ 0 ∧ z.length ≤ 16777216 ∧ Q (.str (stepS z lo hi k)) ρ4
  | _, _ => False) : dStep te tl th ts ρ Q := h
end
section
variable {X : Cx} {m : M} {e : Expr} {te : DE} {pos : Pos}
theorem call_listText (hc : X.calm = true) : CallR X (.type "list") (fun xs H Q => ∃ z, xs = [.str z] ∧ z.length ≤ sizeLine ∧ ∀ l, H l = none → Q (.ref l) (upd H l (.lst (z.cps.toList.map fun c => V.str ⟨#[c]⟩)))) := by
  intro pins s σ H xs us Q I r h
  obtain ⟨z, rfl, hz, q⟩ := h
  obtain ⟨u, rfl, t, rfl⟩ := vals1 r
  refine call_list_str (I.ok.hd hc) z t (fun h' tk acc' c' hk hS hacc => ?_) hz
  refine ⟨.ref s.heap.objs.size, upd H s.heap.objs.size (.lst (z.cps.toList.map fun c => V.str ⟨#[c]⟩)), I.laid hk (Nat.le_refl _) (show ObjOk X.prog X.w _ _ _ (.lst _) from ⟨?_, acc'.toList, c', ?_, ?_⟩), rfl, q _ (I.hok.fresh (Nat.le_refl _))⟩
  · rw [List.length_map]; exact hz
  · have el : acc'.toList.length = acc'.size := by simp
    refine vals_of_at (by rw [List.length_map, el, hacc.1]; simp) fun j x w h1 h2 => ?_
    obtain ⟨c, k, hky, rfl⟩ := hacc.2 j w (by rw [← Array.getElem?_toList]; exact h2)
    rw [List.getElem?_map, Array.getElem?_toList, hky] at h1
    cases h1
    exact ⟨k, rfl⟩
  · rw [Array.toArray_toList]; exact hS
def fListX : F1 := fun d P => match d with
  | .str z => z.length ≤ 16777216 ∧ P (.lst (z.map fun c => .str [c]))
  | .lst ds => P (.lst ds)
  | .tup ds => P (.lst ds)
  | _ => False
theorem chars_rep {c : Ct} {F : Hp} : ∀ z : List Nat, Reps c F (z.map fun a => D.str [a]) (z.map fun a => V.str ⟨#[a]⟩)
  | [] => rfl
  | a :: z => ⟨_, _, rfl, rfl, chars_rep z⟩
theorem o_listX : Op1 X m (fun x H Q => (∃ p ys, [x] = [V.ref p] ∧ (SqL X.K H p ys ∨ SqT X.K H p ys) ∧ ∀ l, H l = none → Q (.ref l) (upd H l (.lst ys))) ∨ (∃ z, [x] = [V.str z] ∧ z.length ≤ sizeLine ∧ ∀ l, H l = none → Q (.ref l) (upd H l (.lst (z.cps.toList.map fun c => V.str ⟨#[c]⟩))))) fListX := by
  refine ⟨fun {σ H ρ F d x Q P} Sm r1 h k => ?_, fun d P P' i => ?_⟩
  · have fin : ∀ {ds : List D} {vs : List V}, Reps (m.c X) F ds vs → P (.lst ds) → ∀ l, H l = none → Q (.ref l) (upd H l (.lst vs)) := fun {ds vs} r h l hl => by
      have g := Sm.alloc (o := .lst vs) hl
      exact k _ _ _ _ h g ⟨l, vs, rfl, upd_same, r.mono g.f0⟩
    unfold fListX at h
    split at h
    · obtain rfl : x = V.str (S _) := r1
      refine .inr ⟨_, rfl, by rw [line16, S_len]; exact h.1, ?_⟩
      rw [S_cps]
      exact fin (chars_rep _) h.2
    · obtain ⟨a, vs, rfl, h1, h2⟩ := r1
      exact .inl ⟨a, vs, rfl, .inl (SqL.of h1), fin h2 h⟩
    · obtain ⟨a, vs, rfl, h1, h2⟩ := r1
      exact .inl ⟨a, vs, rfl, .inr (SqT.of (Sm.gr.fs _ _ h1)), fin h2 h⟩
    · exact h.elim
  · unfold fListX
    split <;> first | exact i _ | exact fun z => ⟨z.1, i _ z.2⟩ | exact id
theorem pd_listX {x : Str} {p : Pos} (hc : X.calm = true) (ha : PQ X m e te) (hx : x = "list") (hg : Gl X x) (hm : X.mg x = none) (he : starEach [e] X.env = (false, eval e X.env) :: starEach [] X.env := by rfl) (hpl : (backTo pos (starEach [] X.env)).any (·.1) = false := by rfl) :
    PD X m (.Call (.Name x p) [e] [] pos) (dOp1 fListX te) := by
  subst hx
  exact pd_op1 o_listX ha (pe_callT1 (CallR.or call_list_of (call_listText hc)) hg hm boot_list ha.pe (by decide) (by decide) he hpl)
theorem s_listXS {z : List Nat} {P : D → Prop} (h : z.length ≤ 16777216 ∧ P (.lst (z.map fun c => .str [c]))) : fListX (.str z) P := h
theorem s_listXL {z : List D} {P : D → Prop} (h : P (.lst z)) : fListX (.lst z) P := h
theorem s_listXT {z : List D} {P : D → Prop} (h : P (.lst z)) : fListX (.tup z) P := h
end
section
variable {X : Cx} {m : M} {e : Expr} {te : DE} {pos : Pos}
def fRevL : F1 := fun d P => match d with
  | .lst ds => P (.lst ds.reverse)
  | _ => False
theorem Reps.rev {c : Ct} {F : Hp} : ∀ {ds : List D} {vs : List V}, Reps c F ds vs → Reps c F ds.reverse vs.reverse
  | [], _, h => by
    obtain rfl := h
    exact rfl
  | d :: ds, _, h => by
    obtain ⟨v, r, rfl, h1, h2⟩ := h
    rw [List.reverse_cons, List.reverse_cons]
    exact (Reps.rev h2).app (Reps.one h1)
theorem o_revL : Op1 X m (fun x H Q => ∃ a xs, x = .ref a ∧ SqL X.K H a xs ∧ ∀ p, H p = none → Q (.ref p) (upd H p (.lst xs.reverse))) fRevL := by
  refine ⟨fun {σ H ρ F d x Q P} Sm r1 h k => ?_, fun d P P' i => ?_⟩
  · unfold fRevL at h
    split at h
    · obtain ⟨a, vs, rfl, h1, h2⟩ := r1
      refine ⟨a, vs, rfl, SqL.of h1, fun l hl => ?_⟩
      have g := Sm.alloc (o := .lst vs.reverse) hl
      exact k _ _ _ _ h g ⟨l, _, rfl, upd_same, (Reps.rev h2).mono g.f0⟩
    · exact h.elim
  · unfold fRevL
    split <;> first | exact i _ | exact id
theorem pd_revL {k : Nat} {p1 p2 p3 : Pos} (ha : PQ X m e te) : PD X m (.Subscript e (.Slice none none (some (.UnaryOp .USub (.Constant (.int 1) k p1) p2)) p3) pos) (dOp1 fRevL te) := pd_op1 o_revL ha (pe_revL ha.pe)
theorem s_revL {z : List D} {P : D → Prop} (h : P (.lst z.reverse)) : fRevL (.lst z) P := h
end
section
variable {X : Cx} {m : M} {a b c : Expr} {pos : Pos}
def stepD (lo c : Int) (n : Nat) : List D := (List.range n).map fun (k : Nat) => .int (lo + k * c)
def rng3 (R : List D → Ro → Prop) (ds : List D) (ρ' : Ro) : Prop := ∃ i j c n, ds = [.int i, .int j, .int c] ∧ RgC i j c n ∧ R (stepD i c n) ρ'
def diRange3 (ua : DA) : DI := fun ρ R => ua ρ (rng3 R)
theorem itok_rngC {ct : Ct} {F : Hp} {lo c : Int} {n : Nat} : ItOk ct F (stepD lo c n) (Itc lo c n) where
  go := fun i H s hi => by
    simp only [stepD, List.length_map, List.length_range] at hi
    exact hi
  stop := fun i H s hi => by
    simp only [stepD, List.length_map, List.length_range] at hi
    exact hi
  yld := fun i H v H' s hi y => by
    simp only [stepD, List.length_map, List.length_range] at hi
    obtain ⟨rfl, rfl⟩ := y
    refine ⟨.int (lo + (i : Nat) * c), by simp [stepD, List.getElem?_range hi], ?_⟩
    exact .inl ⟨rfl, rfl⟩
theorem pdi_range3 {tg : Expr} {ua : DA} {p : Pos} (hg : Gl X "range") (hm : X.mg "range" = none) (ha : PDA X m [a, b, c] ua) (hs : starEach [a, b, c] X.env = (false, eval a X.env) :: starEach [b, c] X.env := by rfl) (hpl : (backTo pos (starEach [b, c] X.env)).any (·.1) = false := by rfl) :
    PDI X m tg (.Call (.Name "range" p) [a, b, c] [] pos) (diRange3 ua) := by
  refine ⟨PI.imp (pi_range3 hg hm ha.pe hs hpl) fun σ H R ⟨ρ, F, S, t⟩ => ⟨ρ, F, S, ha.mono _ _ _ (fun ds ρ' q vs H' F' s S' r => ?_) t⟩, fun ρ Q Q' i => ha.mono _ _ _ fun ds ρ' ⟨j, k, c, n, e, h, q⟩ => ⟨j, k, c, n, e, h, i _ _ q⟩⟩
  obtain ⟨i, j, c, n, rfl, hb, q⟩ := q
  obtain ⟨v, r1, rfl, rv, w, r3, rfl, rw', z, r5, rfl, rz, r4⟩ := r
  obtain rfl : r5 = [] := r4
  obtain rfl : v = .int i := rv
  obtain rfl : w = .int j := rw'
  obtain rfl : z = .int c := rz
  exact ⟨i, j, c, n, rfl, hb, q H' F' _ s S' itok_rngC⟩
end
end DL
namespace DL
open PySem PySem.Spec L2 PyProof.Rows
mutual
def noTok : D → Bool
  | .lst ds => noToks ds
  | .tup ds => noToks ds
  | .dct _ _ vs => noToks vs
  | .ins _ _ vs => noToks vs
  | .exc _ _ _ _ vs => noToks vs
  | .tok => false
  | _ => true
def noToks : List D → Bool
  | [] => true
  | d :: ds => noTok d && noToks ds
end
theorem noToks_all : ∀ {ds : List D}, (∀ d ∈ ds, noTok d = true) → noToks ds = true
  | [], _ => rfl
  | d :: ds, h => by rw [noToks, h d (by simp), noToks_all fun e he => h e (by simp [he])]; rfl
mutual
theorem Rep.notok {K : PySem.W.Frag} {st st' : Option Addr} {F : Hp} : ∀ {d : D} {v : V}, noTok d = true → Rep ⟨K, st⟩ F d v → Rep ⟨K, st'⟩ F d v
  | .non, _, _, h => h
  | .bl _, _, _, h => h
  | .int _, _, _, h => h
  | .str _, _, _, h => h
  | .lst ds, _, n, h => by
    obtain ⟨a, vs, e, h1, h2⟩ := h
    exact ⟨a, vs, e, h1, Reps.notok n h2⟩
  | .tup ds, _, n, h => by
    obtain ⟨a, vs, e, h1, h2⟩ := h
    exact ⟨a, vs, e, h1, Reps.notok n h2⟩
  | .dct kd ks ds, _, n, h => by
    obtain ⟨a, e, h⟩ := h
    rcases h with ⟨k0, es, h1, h2, h3⟩ | ⟨k0, es, h1, h2, h3⟩
    · exact ⟨a, e, .inl ⟨k0, es, h1, h2, Reps.notok n h3⟩⟩
    · exact ⟨a, e, .inr ⟨k0, es, h1, h2, Reps.notok n h3⟩⟩
  | .ins C ns ds, _, n, h => by
    obtain ⟨a, dx, vs, e, h1, h2, h3⟩ := h
    exact ⟨a, dx, vs, e, h1, h2, Reps.notok n h3⟩
  | .raw _, _, _, h => h
  | .tok, _, n, _ => by simp [noTok] at n
  | .pin _ _, _, _, h => h.elim
  | .exc a d C ns ds, _, n, h => by
    obtain ⟨e, h⟩ := h
    refine ⟨e, ?_⟩
    rcases h with h | ⟨h1, dd, vs, h2, h3, h4, h5⟩
    · exact .inl h
    · exact .inr ⟨h1, dd, vs, h2, h3, h4, Reps.notok n h5⟩
theorem Reps.notok {K : PySem.W.Frag} {st st' : Option Addr} {F : Hp} : ∀ {ds : List D} {vs : List V}, noToks ds = true → Reps ⟨K, st⟩ F ds vs → Reps ⟨K, st'⟩ F ds vs
  | [], _, _, h => h
  | d :: ds, _, n, h => by
    obtain ⟨v, r, e, h1, h2⟩ := h
    rw [noToks, Bool.and_eq_true] at n
    exact ⟨v, r, e, Rep.notok n.1 h1, Reps.notok n.2 h2⟩
end
theorem Sim.freezeD {c : Ct} {F0 H0 F H : Hp} {σ : L2.St} {ρ : Ro} (S : Sim c F0 H0 σ H ρ F) {i : Nat} {d : D} (hz : frzOk d = true) (e : ρ[i]? = some (some (true, d))) : ∃ a F', σ[i]? = some (some (.ref a)) ∧ Same F F' ∧ Sim c F0 H0 σ H (ρ.set i (some (false, d))) F' ∧ Rep c F' d (.ref a) ∧ ∀ b u, F' b = some u → F b = some u ∨ b = a := by
  obtain ⟨v, e1, a, ea, h1, h2, ow⟩ := S.slot i _ e
  subst ea
  obtain ⟨o, ho⟩ := ow.has
  have sF : Same F (upd F a o) := same_upd h1
  have rp := ow.frozen hz h1 ho
  have hi : i < ρ.length := (List.getElem?_eq_some_iff.mp e).1
  refine ⟨a, upd F a o, e1, sF, ⟨⟨S.gr.keep, S.gr.f0.trans sF, fun b u q => ?_, fun b u q => ?_, fun b n => ?_⟩, by rw [List.length_set]; exact S.len, fun j r q => ?_, fun j k d1 d2 b q1 q2 => ?_, S.st0⟩, rp, fun b u q => ?_⟩
  · by_cases z : b = a
    · subst z; rw [upd_same] at q; cases q; exact ho
    · rw [upd_ne z] at q; exact S.gr.fs b u q
  · by_cases z : b = a
    · subst z; exact .inr h2
    · rw [upd_ne z] at q; exact S.gr.new b u q
  · obtain ⟨k1, l, ns, i, j, k, m, k2, k3, k4⟩ := S.gr.tok b n
    refine ⟨?_, l, ns, i, j, k, m, k2, sF _ _ k3, k4⟩
    rw [upd_ne (fun (z : b = a) => S.ne_st h2 (z ▸ n))]
    exact k1
  · by_cases z : j = i
    · subst z
      rw [List.getElem?_set_self hi] at q
      cases q
      exact ⟨_, e1, rp⟩
    · rw [List.getElem?_set_ne (Ne.symm z)] at q
      obtain ⟨v', e2, x⟩ := S.slot j r q
      refine ⟨v', e2, ?_⟩
      obtain ⟨b, d'⟩ := r
      cases b with
      | false => exact Rep.mono sF x
      | true =>
        obtain ⟨a', ea, k1, k2, ow'⟩ := x
        subst ea
        refine ⟨a', rfl, ?_, k2, ow'.mono sF rfl⟩
        have na : a' ≠ a := fun z' => z (S.sep j i _ _ a' q e e2 (z' ▸ e1))
        rw [upd_ne na]
        exact k1
  · have f : ∀ {j : Nat} {d1 : D}, (ρ.set i (some (false, d)))[j]? = some (some (true, d1)) → ρ[j]? = some (some (true, d1)) := fun {j d1} q => by
      by_cases z : j = i
      · subst z
        rw [List.getElem?_set_self hi] at q
        cases q
      · rw [List.getElem?_set_ne (Ne.symm z)] at q
        exact q
    exact S.sep j k d1 d2 b (f q1) (f q2)
  · by_cases z : b = a
    · exact .inr z
    · rw [upd_ne z] at q; exact .inl q
abbrev Bs := List (Option Nat × D)
def RB (c : Ct) (F : Hp) (σ : L2.St) : Bs → List V → Prop
  | [], vs => vs = []
  | (none, d) :: bs, vs => ∃ v r, vs = v :: r ∧ Rep c F d v ∧ RB c F σ bs r
  | (some i, _) :: bs, vs => ∃ v r, vs = v :: r ∧ σ[i]? = some (some v) ∧ RB c F σ bs r
theorem RB.mono {c : Ct} {F F' : Hp} {σ : L2.St} (s : Same F F') : ∀ {bs : Bs} {vs : List V}, RB c F σ bs vs → RB c F' σ bs vs
  | [], _, h => h
  | (none, d) :: bs, _, h => by
    obtain ⟨v, r, e, h1, h2⟩ := h
    exact ⟨v, r, e, Rep.mono s h1, RB.mono s h2⟩
  | (some i, d) :: bs, _, h => by
    obtain ⟨v, r, e, h1, h2⟩ := h
    exact ⟨v, r, e, h1, RB.mono s h2⟩
def lentOk (ρ : Ro) : Bs → Prop
  | [] => True
  | (none, _) :: bs => lentOk ρ bs
  | (some i, d) :: bs => ρ[i]? = some (some (true, d)) ∧ frzOk d = true ∧ (∀ b ∈ bs, b.1 ≠ some i) ∧ lentOk ρ bs
theorem lentOk.set {ρ : Ro} {i : Nat} {x : SV} : ∀ {bs : Bs}, (∀ b ∈ bs, b.1 ≠ some i) → lentOk ρ bs → lentOk (ρ.set i x) bs
  | [], _, _ => trivial
  | (none, _) :: bs, n, h => lentOk.set (bs := bs) (fun b hb => n b (List.mem_cons_of_mem _ hb)) h
  | (some j, d) :: bs, n, ⟨h1, h2, h3, h4⟩ => by
    have ne : i ≠ j := fun e => n _ List.mem_cons_self (by rw [e])
    exact ⟨by rw [List.getElem?_set_ne ne]; exact h1, h2, h3, lentOk.set (fun b hb => n b (List.mem_cons_of_mem _ hb)) h4⟩
theorem freezeAll {c : Ct} {F0 H0 H : Hp} {σ : L2.St} : ∀ {bs : Bs} {vs : List V} {ρ : Ro} {F : Hp}, Sim c F0 H0 σ H ρ F → lentOk ρ bs → RB c F σ bs vs →
    ∃ F' ρ', Same F F' ∧ Sim c F0 H0 σ H ρ' F' ∧ Reps c F' (bs.map (·.2)) vs ∧ ∀ a u, F' a = some u → F a = some u ∨ ∃ i d, (some i, d) ∈ bs ∧ σ[i]? = some (some (.ref a))
  | [], _, ρ, F, S, _, h => ⟨F, ρ, Same.refl _, S, h, fun _ _ q => .inl q⟩
  | (none, d) :: bs, _, ρ, F, S, k, h => by
    obtain ⟨v, r, rfl, h1, h2⟩ := h
    obtain ⟨F', ρ', s, S', R, n⟩ := freezeAll (bs := bs) S k h2
    refine ⟨F', ρ', s, S', ⟨v, r, rfl, Rep.mono s h1, R⟩, fun a u q => ?_⟩
    rcases n a u q with z | ⟨i, e, z, y⟩
    · exact .inl z
    · exact .inr ⟨i, e, List.mem_cons_of_mem _ z, y⟩
  | (some i, d) :: bs, _, ρ, F, S, ⟨k1, k2, k3, k4⟩, h => by
    obtain ⟨v, r, rfl, h1, h2⟩ := h
    obtain ⟨a0, F1, e1, s1, S1, R1, n1⟩ := S.freezeD k2 k1
    rw [e1] at h1
    cases h1
    obtain ⟨F', ρ', s, S', R, n⟩ := freezeAll (bs := bs) S1 (lentOk.set k3 k4) (RB.mono s1 h2)
    refine ⟨F', ρ', s1.trans s, S', ⟨_, r, rfl, Rep.mono s R1, R⟩, fun a u q => ?_⟩
    rcases n a u q with z | ⟨j, e, z, y⟩
    · rcases n1 a u z with z | z
      · exact .inl z
      · exact .inr ⟨i, d, List.mem_cons_self, by rw [z]; exact e1⟩
    · exact .inr ⟨j, e, List.mem_cons_of_mem _ z, y⟩
def scalD : D → Bool
  | .non => true | .bl _ => true | .int _ => true | .str _ => true | _ => false
def refD : D → Bool
  | .lst _ => true | .tup _ => true | .dct _ _ _ => true | .ins _ _ _ => true | _ => false
def mutD : D → Bool
  | .lst _ => true | .dct _ _ _ => true | .ins _ _ _ => true | _ => false
def headRef : List D → Bool
  | e :: _ => refD e
  | [] => false
def sepD : D → List D → Bool
  | .lst es, ds => decide (es.length ≠ ds.length) || headRef es
  | .dct _ _ _, _ => true
  | .ins _ _ _, _ => true
  | _, _ => false
def answerOk (bs : Bs) : D → Bool
  | .lst ds => ds.all scalD && bs.all fun b => b.1.isNone || sepD b.2 ds
  | .tup ds => ds.all scalD && bs.all fun b => b.1.isNone || mutD b.2
  | d => scalD d
theorem rep_scal {c c' : Ct} {F F' : Hp} {d : D} {v : V} (h : scalD d = true) (r : Rep c F d v) : Rep c' F' d v := by
  cases d <;> first | exact r | cases h
theorem reps_scal {c c' : Ct} {F F' : Hp} : ∀ {ds : List D} {vs : List V}, ds.all scalD = true → Reps c F ds vs → Reps c' F' ds vs
  | [], _, _, r => r
  | d :: ds, _, h, r => by
    rw [List.all_cons, Bool.and_eq_true] at h
    obtain ⟨v, us, e, r1, r2⟩ := r
    exact ⟨v, us, e, rep_scal h.1 r1, reps_scal h.2 r2⟩
theorem scal_ref {c : Ct} {F : Hp} {d : D} {a : Addr} (h : scalD d = true) (r : Rep c F d (.ref a)) : False := by
  cases d <;> first | (cases h; done) | (simp [Rep] at r; done)
theorem ref_ref {c : Ct} {F : Hp} {d : D} {v : V} (h : refD d = true) (r : Rep c F d v) : ∃ a, v = .ref a := by
  cases d with
  | lst => obtain ⟨a, _, e, _⟩ := r; exact ⟨a, e⟩
  | tup => obtain ⟨a, _, e, _⟩ := r; exact ⟨a, e⟩
  | dct => obtain ⟨a, e, _⟩ := r; exact ⟨a, e⟩
  | ins => obtain ⟨a, _, _, e, _⟩ := r; exact ⟨a, e⟩
  | _ => cases h
theorem sep_lst {c c' : Ct} {F F' H : Hp} {a : Addr} {d : D} {ds : List D} {vs : List V} (ow : OwnAt c F H a d) (hH : H a = some (.lst vs)) (r : Reps c' F' ds vs) (hs : ds.all scalD = true) (h : sepD d ds = true) : False := by
  cases d with
  | lst es =>
    obtain ⟨ws, e1, r1⟩ := ow
    rw [hH] at e1
    cases e1
    rw [sepD, Bool.or_eq_true] at h
    rcases h with h | h
    · exact of_decide_eq_true h (r1.length.trans r.length.symm)
    · cases es with
      | nil => cases h
      | cons e es =>
        obtain ⟨v, us, rfl, r2, _⟩ := r1
        obtain ⟨b, rfl⟩ := ref_ref h r2
        cases ds with
        | nil => cases r
        | cons d ds =>
          rw [List.all_cons, Bool.and_eq_true] at hs
          obtain ⟨v, us, e, r3, _⟩ := r
          cases e
          exact scal_ref hs.1 r3
  | dct =>
    rcases ow with ⟨_, _, e, _⟩ | ⟨_, _, e, _⟩ <;> (rw [hH] at e; cases e)
  | ins => obtain ⟨_, _, e, _⟩ := ow; rw [hH] at e; cases e
  | _ => cases h
theorem sep_tup {c : Ct} {F H : Hp} {a : Addr} {d : D} {vs : List V} (ow : OwnAt c F H a d) (hH : H a = some (.tup vs)) (h : mutD d = true) : False := by
  cases d with
  | lst es => obtain ⟨ws, e1, r1⟩ := ow; rw [hH] at e1; cases e1
  | dct =>
    rcases ow with ⟨_, _, e, _⟩ | ⟨_, _, e, _⟩ <;> (rw [hH] at e; cases e)
  | ins => obtain ⟨_, _, e, _⟩ := ow; rw [hH] at e; cases e
  | _ => cases h
theorem lent_slot {ρ : Ro} : ∀ {bs : Bs} {i : Nat} {d : D}, lentOk ρ bs → (some i, d) ∈ bs → ρ[i]? = some (some (true, d))
  | (none, _) :: bs, i, d, k, h => by
    rcases List.mem_cons.mp h with h | h
    · cases h
    · exact lent_slot (bs := bs) k h
  | (some j, e) :: bs, i, d, ⟨k1, _, _, k4⟩, h => by
    rcases List.mem_cons.mp h with h | h
    · cases h; exact k1
    · exact lent_slot k4 h
theorem back_lent {K : PySem.W.Frag} {st : Option Addr} {F0 H0 F H F1 F2 H2 : Hp} {σ : L2.St} {ρ : Ro} {bs : Bs} {d : D} {v : V} (S : Sim ⟨K, st⟩ F0 H0 σ H ρ F) (k : lentOk ρ bs) (s1 : Same F F1)
    (n : ∀ a u, F1 a = some u → F a = some u ∨ ∃ i d, (some i, d) ∈ bs ∧ σ[i]? = some (some (.ref a))) (g : Grow ⟨K, none⟩ F1 H F2 H2) (r : Rep ⟨K, none⟩ F2 d v) (ok : answerOk bs d = true) :
    ∃ F', Same F F' ∧ Sim ⟨K, st⟩ F0 H0 σ H2 ρ F' ∧ Rep ⟨K, st⟩ F' d v := by
  have keep : ∀ b o, H b = some o → H2 b = some o := fun b o e => g.keep b o e (fun z => by cases z)
  have tk : ∀ F', Same F F' → (∀ a, st = some a → F' a = none) → Tok ⟨K, st⟩ F' H2 := fun F' s e a z => by
    obtain ⟨_, l, ns, i, j, k, m, h2, h3, h4⟩ := S.gr.tok a z
    exact ⟨e a z, l, ns, i, j, k, m, keep _ _ h2, s _ _ h3, h4⟩
  have fs0 : Same F H2 := fun b o e => g.fs _ _ (g.f0 _ _ (s1 _ _ e))
  have flat : ∀ (a : Addr) (o : HO), F2 a = some o → (∀ i d, (some i, d) ∈ bs → OwnAt ⟨K, st⟩ F H a d → H a = some o → False) → ∃ F', Same F F' ∧ Sim ⟨K, st⟩ F0 H0 σ H2 ρ F' ∧ F' a = some o := fun a o ha sep => by
    cases hF : F a with
    | some u =>
      have : F2 a = some u := g.f0 _ _ (s1 _ _ hF)
      rw [ha] at this
      cases this
      exact ⟨F, Same.refl _, S.grow ⟨fun b o e _ => keep b o e, Same.refl _, fs0, fun _ _ h => .inl h, tk F (Same.refl _) fun a z => (S.gr.tok a z).1⟩, hF⟩
    | none =>
      have hH : H a = none := by
        rcases g.new a o ha with h | h
        · rcases n a o h with z | ⟨i, e, z, y⟩
          · rw [hF] at z; cases z
          · obtain ⟨v', e1, b, eb, _, _, ow⟩ := S.slot i _ (lent_slot k z)
            rw [y] at e1
            cases e1
            cases eb
            obtain ⟨u, hu⟩ := ow.has
            have hu2 := keep _ _ hu
            rw [g.fs _ _ ha] at hu2
            cases hu2
            exact (sep i e z ow hu).elim
        · exact h
      have sF : Same F (upd F a o) := same_upd hF
      refine ⟨upd F a o, sF, S.grow ⟨fun b o e _ => keep b o e, sF, fun b u q => ?_, fun b u q => ?_, tk _ sF fun b z => ?_⟩, upd_same⟩
      · by_cases z : b = a
        · subst z; rw [upd_same] at q; cases q; exact g.fs _ _ ha
        · rw [upd_ne z] at q; exact fs0 _ _ q
      · by_cases z : b = a
        · subst z; exact .inr hH
        · rw [upd_ne z] at q; exact .inl q
      · obtain ⟨k1, _, _, _, _, _, _, h2, _⟩ := S.gr.tok b z
        have ne : b ≠ a := fun e => by rw [e, hH] at h2; cases h2
        rw [upd_ne ne]; exact k1
  have plain : scalD d = true → ∃ F', Same F F' ∧ Sim ⟨K, st⟩ F0 H0 σ H2 ρ F' ∧ Rep ⟨K, st⟩ F' d v := fun h =>
    ⟨F, Same.refl _, S.grow ⟨fun b o e _ => keep b o e, Same.refl _, fs0, fun _ _ h => .inl h, tk F (Same.refl _) fun a z => (S.gr.tok a z).1⟩, rep_scal h r⟩
  cases d with
  | lst ds =>
    rw [answerOk, Bool.and_eq_true] at ok
    obtain ⟨a, vs, rfl, ha, r2⟩ := r
    obtain ⟨F', s, S', e⟩ := flat a _ ha fun i d hm ow hH => by
      have := List.all_eq_true.mp ok.2 _ hm
      exact sep_lst ow hH r2 ok.1 (by simpa using this)
    exact ⟨F', s, S', a, vs, rfl, e, reps_scal ok.1 r2⟩
  | tup ds =>
    rw [answerOk, Bool.and_eq_true] at ok
    obtain ⟨a, vs, rfl, ha, r2⟩ := r
    obtain ⟨F', s, S', e⟩ := flat a _ ha fun i d hm ow hH => by
      have := List.all_eq_true.mp ok.2 _ hm
      exact sep_tup ow hH (by simpa using this)
    exact ⟨F', s, S', a, vs, rfl, e, reps_scal ok.1 r2⟩
  | non => exact plain rfl
  | bl => exact plain rfl
  | int => exact plain rfl
  | str => exact plain rfl
  | _ => cases ok
end DL
namespace DL
open PySem PySem.Spec L2 PyProof.Rows
abbrev DAB := Ro → (Bs → Ro → Prop) → Prop
def lAB (X : Cx) (m : M) (ub : DAB) : TA := fun σ H Q => ∃ ρ F, Sm X m σ H ρ F ∧ ub ρ fun bs ρ' => ∀ vs H' F', Same F F' → Sm X m σ H' ρ' F' → RB (m.c X) F' σ bs vs → Q vs H'
structure PDAB (X : Cx) (m : M) (es : List Expr) (ub : DAB) : Prop where
  pe : PA X es (lAB X m ub)
  mono : ∀ ρ Q Q', (∀ d ρ', Q d ρ' → Q' d ρ') → ub ρ Q → ub ρ Q'
def dbNil : DAB := fun ρ Q => Q [] ρ
def dbCons (te : DE) (tr : DAB) : DAB := fun ρ Q => te ρ fun d ρ1 => tr ρ1 fun bs ρ2 => Q ((none, d) :: bs) ρ2
def dbOwn (i : Nat) (tr : DAB) : DAB := fun ρ Q => ∃ d, ρ[i]? = some (some (true, d)) ∧ tr ρ fun bs ρ' => Q ((some i, d) :: bs) ρ'
section
variable {X : Cx} {m : M} {e : Expr} {es : List Expr} {te : DE} {tr : DAB} {pos p : Pos} {x : Str} {k j i : Nat} {ps : List Str} {sd : SpD} {ub : DAB}
theorem pdab_nil : PDAB X m [] dbNil := ⟨PA.imp pa_nil fun σ H Q ⟨ρ, F, S, t⟩ => t [] H F (Same.refl _) S rfl, fun ρ Q Q' i => i _ _⟩
theorem pdab_cons (ha : PD X m e te) (hr : PDAB X m es tr) (hs : starEach (e :: es) X.env = (false, eval e X.env) :: starEach es X.env := by rfl) : PDAB X m (e :: es) (dbCons te tr) := by
  refine ⟨PA.imp (pa_cons ha.pe hr.pe hs) fun σ H Q ⟨ρ, F, S, t⟩ => ?_, fun ρ Q Q' i => ?_⟩
  · refine ⟨ρ, F, S, ha.mono _ _ _ (fun d ρ1 q v H1 F1 s1 S1 r1 => ?_) t⟩
    refine ⟨ρ1, F1, S1, hr.mono _ _ _ (fun ds ρ2 q vs H2 F2 s2 S2 r2 => ?_) q⟩
    exact q _ H2 F2 (s1.trans s2) S2 ⟨v, vs, rfl, r1.mono s2, r2⟩
  · exact ha.mono _ _ _ fun d ρ1 => hr.mono _ _ _ fun ds ρ2 => i _ _
theorem pdab_own (he : PE X e (tVar i)) (hr : PDAB X m es tr) (hs : starEach (e :: es) X.env = (false, eval e X.env) :: starEach es X.env := by rfl) : PDAB X m (e :: es) (dbOwn i tr) := by
  refine ⟨PA.imp (pa_cons he hr.pe hs) fun σ H Q ⟨ρ, F, S, d, e1, t⟩ => ?_, fun ρ Q Q' i ⟨d, e1, t⟩ => ⟨d, e1, hr.mono _ _ _ (fun bs ρ2 => i _ _) t⟩⟩
  obtain ⟨v, e2, _⟩ := S.slot i _ e1
  refine ⟨v, e2, ρ, F, S, hr.mono _ _ _ (fun ds ρ2 q vs H2 F2 s2 S2 r2 => ?_) t⟩
  exact q _ H2 F2 s2 S2 ⟨v, vs, rfl, e2, r2⟩
def dCallB (sd : SpD) (ub : DAB) : DE := fun ρ Q => ub ρ fun bs ρ' => lentOk ρ' bs ∧ noToks (bs.map (·.2)) = true ∧ sd.run (bs.map (·.2)) (fun d => answerOk bs d = true ∧ Q d ρ') XP0
theorem lent_imp (ha : PDAB X m es ub) {E : XK} (σ : L2.St) (H : Hp) (Q : VK) (h : lE X m (dCallB sd ub) σ H Q) : tCall (spOf X.K sd) [] E (lAB X m ub) σ H Q := by
  obtain ⟨ρ, F, S, t⟩ := h
  refine ⟨ρ, F, S, ha.mono _ _ _ (fun bs ρ' ⟨k1, k2, q⟩ vs H1 F1 s1 S1 r => ?_) t⟩
  show spOf X.K sd (vs ++ []) H1 Q E
  rw [List.append_nil]
  obtain ⟨F2, ρ2, s2, S2, R, n⟩ := freezeAll S1 k1 r
  refine ⟨F2, none, bs.map (·.2), S2.gr.fs, (fun a z => by cases z), (fun a z => by cases z), Reps.notok k2 R, sd.mono _ _ _ _ _ (fun d ⟨ok, q⟩ v H' F' g rv => ?_) (fun _ _ _ z => z.elim) q⟩
  obtain ⟨F3, s3, S3, r3⟩ := back_lent S1 k1 s2 n g rv ok
  exact q v H' F3 (s1.trans s3) S3 r3
theorem pd_fnB (F : Ok X.prog X.w X.K X.mg X.base x j ps sd) (hr : Room k X.A) (hk : j ≤ k) (ha : PDAB X m (e :: es) ub) (hg : Gl X x := by rfl) (hdb : (x == ("__debug__" : Str)) = false := by decide)
    (he : starEach (e :: es) X.env = (false, eval e X.env) :: starEach es X.env := by rfl) (hpl : (backTo pos (starEach es X.env)).any (·.1) = false := by rfl) :
    PD X m (.Call (.Name x p) (e :: es) [] pos) (dCallB sd ub) := by
  have G := F.choose_spec
  exact ⟨PE.imp (pe_call G.1 (hr.mono hk) hg G.2.2.1 G.2.2.2 G.2.1 .nil pass0 ha.pe hdb he hpl) (lent_imp ha), fun ρ Q Q' i => ha.mono _ _ _ fun bs ρ' ⟨h1, h2, h3⟩ => ⟨h1, h2, sd.mono _ _ _ _ _ (fun d ⟨a, b⟩ => ⟨a, i _ _ b⟩) (fun _ _ _ q => q) h3⟩⟩
theorem s_callB {ρ : Ro} {Q : D → Ro → Prop} (h : ub ρ fun bs ρ' => lentOk ρ' bs ∧ noToks (bs.map (·.2)) = true ∧ sd.run (bs.map (·.2)) (fun d => answerOk bs d = true ∧ Q d ρ') XP0) : dCallB sd ub ρ Q := h
theorem s_bnil {ρ : Ro} {Q : Bs → Ro → Prop} (h : Q [] ρ) : dbNil ρ Q := h
theorem s_bcons {ρ : Ro} {Q : Bs → Ro → Prop} (h : te ρ fun d ρ1 => tr ρ1 fun bs ρ2 => Q ((none, d) :: bs) ρ2) : dbCons te tr ρ Q := h
theorem s_bown {ρ : Ro} {Q : Bs → Ro → Prop} {d : D} (e : ρ[i]? = some (some (true, d))) (h : tr ρ fun bs ρ' => Q ((some i, d) :: bs) ρ') : dbOwn i tr ρ Q := ⟨d, e, h⟩
end
def lEnO (X : Cx) (m : M) (D : L2.Ends) (F : Hp) : DEn where
  nx := lN X m D.nx F
  rt := fun d ρ' => ∀ a σ' H' F', Sm X m σ' H' ρ' F' → F' a = none → m.H0 a = none → OwnAt (m.c X) F' H' a d → D.rt (.ref a) H'
  bk := lN X m D.bk F
  ct := lN X m D.ct F
theorem lEnO_mono {X : Cx} {m : M} {D : L2.Ends} {F F' : Hp} (s : Same F F') : (lEnO X m D F).le (lEnO X m D F') := ⟨lN_mono s, fun _ _ h => h, lN_mono s, lN_mono s⟩
structure PDO' (X : Cx) (m : M) (st : List Stmt) (ts : DS) : Prop where
  ps : PSs X st (fun D σ H => ∃ ρ F, Sm X m σ H ρ F ∧ ts (lEnO X m D F) ρ)
  mono : ∀ E E' ρ, E.le E' → ts E ρ → ts E' ρ
def dSeqO (t u : DS) : DS := fun E ρ => t { E with nx := u E, rt := fun _ _ => False } ρ
def dRetO (i : Nat) : DS := fun E ρ => ∃ d, ρ[i]? = some (some (true, d)) ∧ E.rt d ρ
section
variable {X : Cx} {m : M} {e : Expr} {es : List Expr} {te : DE} {st : Stmt} {rest : List Stmt} {t u : DS} {pos : Pos} {i : Nat}
theorem pdo_cons (h1 : PDS X m st t) (h2 : PDO' X m rest u) : PDO' X m (st :: rest) (dSeqO t u) := by
  refine ⟨PSs.imp (pss_cons h1.ps h2.ps) fun D σ H ⟨ρ, F, S, t⟩ => ⟨ρ, F, S, h1.mono { lEnO X m D F with nx := u (lEnO X m D F), rt := fun _ _ => False } _ _ ⟨fun ρ' q σ' H' F' s S' => ⟨ρ', F', S', h2.mono _ _ _ (lEnO_mono s) q⟩, fun _ _ q => q.elim, fun _ q => q, fun _ q => q⟩ t⟩, fun E E' ρ l h => ?_⟩
  exact h1.mono { E with nx := u E, rt := fun _ _ => False } _ _ ⟨fun ρ' q => h2.mono _ _ _ l q, fun _ _ q => q, l.bk, l.ct⟩ h
theorem pdo_ret (he : PE X e (tVar i)) : PDO' X m [.Return (some e) pos] (dRetO i) := by
  refine ⟨pss_one (PS.imp (ps_ret he) fun D σ H ⟨ρ, F, S, d, e1, t⟩ => ?_), fun E E' ρ l ⟨d, e1, h⟩ => ⟨d, e1, l.rt _ _ h⟩⟩
  obtain ⟨v, e2, a, rfl, h1, h2, ow⟩ := S.slot i _ e1
  exact ⟨_, e2, t a σ H F S h1 h2 ow⟩
theorem pdo_retF (he : PF X m e te) : PDO' X m [.Return (some e) pos] (dRet te) :=
  ⟨pss_one (PS.imp (ps_ret he.pe) fun D σ H ⟨ρ, F, S, t⟩ => ⟨ρ, F, S, he.mono _ _ _ (fun d ρ' q p H' F' s S' h1 h2 ow fr => q p σ H' F' S' h1 h2 ow) t⟩), fun E E' ρ l h => he.mono _ _ _ (fun d ρ' => l.rt _ _) h⟩
end
def spF (K : Frag) (sd : SpD) : Sp := fun vs H Q E => ∃ F st ds, Same F H ∧ Tok ⟨K, st⟩ F H ∧ (∀ a, st = some a → ∃ o, H a = some o) ∧ Reps ⟨K, st⟩ F ds vs ∧
  sd.run ds (fun d => ∀ a H' F', Grow ⟨K, st⟩ F H F' H' → F' a = none → H a = none → OwnAt ⟨K, st⟩ F' H' a d → Q (.ref a) H') (excEnd ⟨K, st⟩ F H E)
def OkF (P : Program) (w : World) (K : Frag) (mg : Str → Option Value) (base : Heap) (x : Str) (k : Nat) (ps : List Str) (sd : SpD) : Prop :=
  ∃ fd, FnOk P w K mg base CX0 k (He.ga K x) fd ps (spF K sd) ∧ Binds K fd ps [] ∧ mg x = some (.ref (He.ga K x)) ∧ PySem.W.keepIn K (.ref (He.ga K x)) = true
theorem okF_mk {P : Program} {w : World} {K : Frag} {mg : Str → Option Value} {base : Heap} {x : Str} {st : Stmt} {N ps : List Str} {k : Nat} {sd : SpD} (F : Df K mg x st ps) (S : FnScope N ps (defScope st))
    (len : ∀ ds Q E, sd.run ds Q E → ds.length = ps.length)
    (hbody : ∀ (cdv : Value) (A : Around) (outer : List Env) (s : Shared) (H : Hp) (E : XK) (m : M), Room k (A.deeper (envOfC x (defScope st) s.heap.objs.size (He.ga K x) cdv)) →
      ∃ t, PDO' (cxOf CX0 P w K mg base N x (defScope st) (He.ga K x) cdv A outer s H E).nox m (defBody st) t ∧
        ∀ ds Q E, sd.run ds Q E → t { nx := fun _ => False, rt := fun d _ => Q d } (ds.map (fun d => some (false, d)) ++ List.replicate (N.length - ds.length) none)) : OkF P w K mg base x (k + 1) ps sd := by
  obtain ⟨fd, FD, hb⟩ := F.ex
  refine ⟨fd, FD.ok S (fun vs H Q E ⟨Fz, st, ds, _, _, _, r, h⟩ => by rw [← r.length]; exact len _ _ _ h) (fun cdv A outer s H vs Q E hr h => ?_), hb, F.gl, FD.kp⟩
  obtain ⟨Fz, tk, ds, hs, ht, h0, r, h⟩ := h
  obtain ⟨t, ht2, hq⟩ := hbody cdv A outer s H E ⟨tk, Fz, H⟩ hr
  refine ⟨_, PSs.nox ht2.ps, ?_⟩
  have len0 : ds.length = vs.length := r.length
  refine ⟨(ds.map fun d => some (false, d)) ++ List.replicate (N.length - ds.length) none, Fz, ⟨Grow.refl hs ht, ?_, fun i r' e => ?_, fun i j d1 d2 b q1 q2 _ _ => ?_, h0⟩, ?_⟩
  · unfold L2.start
    simp [len0]
  · have hi : i < ds.length := by
      by_cases hi : i < ds.length
      · exact hi
      · rw [List.getElem?_append_right (by simpa using hi), List.getElem?_replicate] at e
        split at e <;> cases e
    rw [List.getElem?_append_left (by simpa using hi), List.getElem?_map, List.getElem?_eq_getElem hi] at e
    cases e
    obtain ⟨v, ev, rv⟩ := r.get (List.getElem?_eq_getElem hi)
    refine ⟨v, ?_, rv⟩
    unfold L2.start
    rw [List.getElem?_append_left (by simpa [← len0] using hi), List.getElem?_map, ev]
    rfl
  · exfalso
    by_cases hi : i < ds.length
    · rw [List.getElem?_append_left (by simpa using hi), List.getElem?_map, List.getElem?_eq_getElem hi] at q1
      cases q1
    · rw [List.getElem?_append_right (by simpa using hi), List.getElem?_replicate] at q1
      split at q1 <;> cases q1
  · have mt := ht2.mono { nx := fun _ => False, rt := fun d _ => ∀ a H' F', Grow ⟨K, tk⟩ Fz H F' H' → F' a = none → H a = none → OwnAt ⟨K, tk⟩ F' H' a d → Q (.ref a) H' }
    exact mt _ _ ⟨fun ρ q => q.elim, fun d ρ q a σ' H' F' S' h1 h2 ow => q a H' F' S'.gr h1 h2 ow, fun _ q => q.elim, fun _ q => q.elim⟩ (hq ds _ _ h)
section
variable {X : Cx} {m : M} {e : Expr} {es : List Expr} {te : DE} {pos p : Pos} {x : Str} {k j : Nat} {ps : List Str} {sd : SpD} {ua : DA}
theorem own_imp (ha : PDA X m es ua) {E : XK} (σ : L2.St) (H : Hp) (Q : VK) (h : lF X m (dCall sd XP0 ua) σ H Q) : tCall (spF X.K sd) [] E (lA X m ua) σ H Q := by
  obtain ⟨ρ, F, S, t⟩ := h
  refine ⟨ρ, F, S, ha.mono _ _ _ (fun ds ρ' q vs H1 F1 s1 S1 r => ?_) t⟩
  show spF X.K sd (vs ++ []) H1 Q E
  rw [List.append_nil]
  refine ⟨F1, m.st, ds, S1.gr.fs, S1.gr.tok, fun a n => ?_, r, sd.mono _ _ _ _ _ (fun d q a H' F' g h1 h2 ow => ?_) (fun _ _ _ z => z.elim) q⟩
  · obtain ⟨_, _, _, _, _, _, _, h, _⟩ := S1.gr.tok a n
    exact ⟨_, h⟩
  · exact q a H' F' (s1.trans g.f0) (S1.grow g) h1 (S1.fresh0 h2).2 ow (fresh_of S1 h2)
theorem pf_fn (F : OkF X.prog X.w X.K X.mg X.base x j ps sd) (hr : Room k X.A) (hk : j ≤ k) (ha : PDA X m (e :: es) ua) (hg : Gl X x := by rfl) (hdb : (x == ("__debug__" : Str)) = false := by decide)
    (he : starEach (e :: es) X.env = (false, eval e X.env) :: starEach es X.env := by rfl) (hpl : (backTo pos (starEach es X.env)).any (·.1) = false := by rfl) :
    PF X m (.Call (.Name x p) (e :: es) [] pos) (dCall sd XP0 ua) := by
  have G := F.choose_spec
  exact ⟨PE.imp (pe_call G.1 (hr.mono hk) hg G.2.2.1 G.2.2.2 G.2.1 .nil pass0 ha.pe hdb he hpl) (own_imp ha), fun ρ Q Q' i => ha.mono _ _ _ fun ds ρ' => sd.mono _ _ _ _ _ (fun d => i _ _) fun _ _ _ q => q⟩
end
end DL
namespace DL
open PySem PySem.Spec L2 PyProof.Rows
section
variable {X : Cx} {m : M} {e a b : Expr} {te ta tb : DE} {pos : Pos}
def fCon (K : PySem.W.Frag) (f : Str) (c : D) : F1 := fun d P => match d with
  | .ins C ns _ => Cls K C ∧ (∃ v u, Con K C f v u ∧ Rep ⟨K, none⟩ (fun _ => none) c v) ∧ f ∉ ns ∧ P c
  | .pin _ (.ins C ns _) => Cls K C ∧ (∃ v u, Con K C f v u ∧ Rep ⟨K, none⟩ (fun _ => none) c v) ∧ f ∉ ns ∧ P c
  | _ => False
theorem o_con {f : Str} {c : D} (hc : scalD c = true) : Op1 X m (fun x H Q => ∃ a C dx fs v u, x = .ref a ∧ H a = some (.ins C dx fs) ∧ Cls X.K C ∧ Con X.K C f v u ∧ fs.lookup f = none ∧ Q v H) (fCon X.K f c) := by
  refine ⟨fun {σ H ρ F d x Q P} Sm r1 h k => ?_, fun d P P' i => ?_⟩
  · unfold fCon at h
    cases d with
    | ins C ns vs =>
      obtain ⟨h1, ⟨v, u, h2, h3⟩, h4, h⟩ := h
      obtain ⟨a, dx, ws, rfl, g1, g2, g3⟩ := r1
      exact ⟨a, C, dx, _, v, u, rfl, g1, h1, h2, lookF_none h4, k _ _ H F h (Grow.refl Sm.gr.fs Sm.gr.tok) (rep_scal hc h3)⟩
    | pin q d =>
      cases d with
      | ins C ns vs =>
        obtain ⟨h1, ⟨v, u, h2, h3⟩, h4, h⟩ := h
        obtain ⟨rfl, dx, ws, g1, g2, g3⟩ := r1
        exact ⟨q, C, dx, _, v, u, rfl, g1, h1, h2, lookF_none h4, k _ _ H F h (Grow.refl Sm.gr.fs Sm.gr.tok) (rep_scal hc h3)⟩
      | _ => exact h.elim
    | _ => exact h.elim
  · unfold fCon
    split <;> first | exact fun ⟨h1, h2, h3, h⟩ => ⟨h1, h2, h3, i _ h⟩ | exact id
theorem pd_con {f : Str} {c : D} (hc : scalD c = true) (ha : PQ X m e te) (hb : attributeBase e f X.env (eval e X.env) = eval e X.env := by rfl) : PD X m (.Attribute e f pos) (dOp1 (fCon X.K f c) te) := pd_op1 (o_con hc) ha (pe_con ha.pe hb)
theorem s_con {K : PySem.W.Frag} {f : Str} {c : D} {C : Addr} {ns : List Str} {vs : List D} {P : D → Prop} (k : Cls K C) (h : ∃ v u, Con K C f v u ∧ Rep ⟨K, none⟩ (fun _ => none) c v) (n : f ∉ ns) (q : P c) : fCon K f c (.ins C ns vs) P := ⟨k, h, n, q⟩
theorem s_conP {K : PySem.W.Frag} {f : Str} {c : D} {C : Addr} {ns : List Str} {vs : List D} {q : Addr} {P : D → Prop} (k : Cls K C) (h : ∃ v u, Con K C f v u ∧ Rep ⟨K, none⟩ (fun _ => none) c v) (n : f ∉ ns) (z : P c) : fCon K f c (.pin q (.ins C ns vs)) P := ⟨k, h, n, z⟩
theorem contains_own {M : Model} {A : Around} {E : Value → Shared → Prop} {s : Shared} {K : PySem.W.Frag} {x C f : Addr} {ox : Obj} {od : Option Obj} {v : Value} {Q : Bool → Shared → Prop} (Xk : K.In s.heap) (I : PySem.W.InstAt s.heap x ox C od) (hs : PySem.W.findIn K (.ref C) "__contains__" = some (some (.ref f))) (hf : PySem.W.isFn K (.ref f) = true)
    (h : wpAny M A (call (.ref f) [.ref x, v]) (fun r s' => wpAny M A (truthy r) Q E s') E s) : wpAny M A (contains (.ref x) v) Q E s := by
  have hf' : PySem.W.typeIn K (.ref f) = some (.type "function") := beq_iff_eq.mp hf
  unfold contains
  refine wpAny_holding ?_
  rw [stdlibNamesSay?_ref]
  refine wpAny_bind (wpAny_bind (I.type.here ((PySem.W.looks_findIn Xk hs).here ?_)))
  show wpAny M A (if (some (Value.ref f) == some Value.none) = true then _ else _) Q E s
  rw [if_neg (by simp)]
  refine wpAny_bind ?_
  unfold callSpecialUnlessNone?
  refine wpAny_bind (wpAny_bind (I.type.here ((PySem.W.looks_findIn Xk hs).here ?_)))
  refine wpAny_holding (wpAny_bind ((PySem.W.bind_fn Xk _ hf').here ?_))
  show wpAny M A (if (Value.ref f == Value.none) = true then _ else _) _ E s
  rw [if_neg (by simp)]
  refine wpAny_bind (wpAny_mono h (fun r s' hr => wpAny_pure hr) fun _ _ z => z)
def rInI (X : Cx) (C : Addr) (sd : SpD) : R2 := fun x y H Q => ∃ a dx fs, y = .ref a ∧ H a = some (.ins C dx fs) ∧ spOf X.K sd [y, x] H (fun v H' => ∃ b, v = .bl b ∧ Q (.bl b) H') E0
theorem op_inI {C : Addr} {k j : Nat} {ps : List Str} {sd : SpD} (c : Cls X.K C) (F : OkM X.prog X.w X.K X.mg X.base C "__contains__" j ps sd) (hr : Room k X.A) (hk : j ≤ k) : OpR X (compareOp .In) (rInI X C sd) := by
  intro pins s σ H x y v u Q I rx ry h
  obtain ⟨a, dx, fs, rfl, ea, h⟩ := h
  obtain ⟨f, fd, G, hb, hm⟩ := F
  obtain rfl : u = Value.ref a := ry
  obtain ⟨mA, O, _, _, _, _⟩ := ins_get I.hok ea
  obtain ⟨od, J, _⟩ := O.look
  show wpAny (model X.prog X.w) X.A (do return Value.bool (← contains (.ref a) v)) (EP X pins σ Q) X.xe s
  refine wpAny_bind (contains_own I.kIn J hm.at_ hm.fn ?_)
  refine thn (run_fn (Q := fun v H' => ∃ b, v = V.bl b ∧ Q (.bl b) H') (us := [.ref a, v]) (vs := [.ref a, x]) (dvs := []) G (hr.mono hk) hb .nil pass0 I (.cons rfl (.cons rx .nil)) (by rw [List.append_nil]; exact h)) fun r s1 ⟨z, H1, I1, rz, b, eb, q⟩ => ?_
  subst eb
  obtain rfl : r = Value.bool b := rz
  exact wpAny_pure (wpAny_pure ⟨.bl b, H1, I1, rfl, q⟩)
def dInI (C : Addr) (sd : SpD) (ta tb : DE) : DE := fun ρ Q => ta ρ fun d ρ1 => tb ρ1 fun e ρ2 => (∃ ns vs, e = .ins C ns vs) ∧ sd.run [e, d] (fun z => ∃ b, z = .bl b ∧ Q (.bl b) ρ2) XP0
theorem pd_inI {C : Addr} {k j : Nat} {ps : List Str} {sd : SpD} (c : Cls X.K C) (F : OkM X.prog X.w X.K X.mg X.base C "__contains__" j ps sd) (hr : Room k X.A) (hk : j ≤ k) (ha : PD X m a ta) (hb : PD X m b tb) (hm : behindInMarks .In b = false := by rfl) : PD X m (.Compare a [.In] [b] pos) (dInI C sd ta tb) := by
  refine ⟨PE.imp (pe_cmpR (op_inI c F hr hk) ha.pe hb.pe hm) fun σ H Q ⟨ρ, F, S, t⟩ => ?_, fun ρ Q Q' i => ha.mono _ _ _ fun d ρ1 => hb.mono _ _ _ fun e ρ2 ⟨h1, h2⟩ => ⟨h1, sd.mono _ _ _ _ _ (fun z ⟨b, e1, q⟩ => ⟨b, e1, i _ _ q⟩) (fun _ _ _ q => q) h2⟩⟩
  refine ⟨ρ, F, S, ha.mono _ _ _ (fun d ρ1 q x H1 F1 s1 S1 r1 => ?_) t⟩
  refine ⟨ρ1, F1, S1, hb.mono _ _ _ (fun e ρ2 ⟨⟨ns, vs, he⟩, q⟩ y H2 F2 s2 S2 r2 => ?_) q⟩
  subst he
  obtain ⟨a, dx, ws, rfl, g1, g2, g3⟩ := id r2
  refine ⟨a, dx, _, rfl, S2.gr.fs _ _ g1, F2, m.st, [_, d], S2.gr.fs, S2.gr.tok, fun b n => ?_, ⟨_, _, rfl, r2, _, _, rfl, r1.mono s2, rfl⟩, sd.mono _ _ _ _ _ (fun z ⟨b, e1, q⟩ v H' F' g rv => ?_) (fun _ _ _ z => z.elim) q⟩
  · obtain ⟨_, _, _, _, _, _, _, h, _⟩ := S2.gr.tok b n
    exact ⟨_, h⟩
  · subst e1
    exact ⟨b, rv, q _ H' F' (s1.trans (s2.trans g.f0)) (S2.grow g) rfl⟩
theorem s_inI {C : Addr} {sd : SpD} {ρ : Ro} {Q : D → Ro → Prop} (h : ta ρ fun d ρ1 => tb ρ1 fun e ρ2 => (∃ ns vs, e = .ins C ns vs) ∧ sd.run [e, d] (fun z => ∃ b, z = .bl b ∧ Q (.bl b) ρ2) XP0) : dInI C sd ta tb ρ Q := h
end
section
variable {X : Cx} {m : M} {e : Expr} {te : DE} {pos : Pos}
def maxI : Int → List Int → Int
  | a, [] => a
  | a, b :: r => maxI (if b > a then b else a) r
def intsD : List D → Option (List Int)
  | [] => some []
  | .int i :: r => (intsD r).map (i :: ·)
  | _ :: _ => none
def fMaxL : F1 := fun d P => match d with
  | .lst ds => ∃ a r, intsD ds = some (a :: r) ∧ P (.int (maxI a r))
  | _ => False
theorem maxI_ge : ∀ (r : List Int) (a : Int), a ≤ maxI a r ∧ (∀ y ∈ r, y ≤ maxI a r)
  | [], a => ⟨Int.le_refl a, by simp⟩
  | b :: r, a => by
    rw [maxI]
    by_cases h : b > a
    · rw [if_pos h]
      obtain ⟨h1, h2⟩ := maxI_ge r b
      exact ⟨by omega, fun y hy => by rcases List.mem_cons.mp hy with rfl | hy; exact h1; exact h2 y hy⟩
    · rw [if_neg h]
      obtain ⟨h1, h2⟩ := maxI_ge r a
      exact ⟨h1, fun y hy => by rcases List.mem_cons.mp hy with rfl | hy; omega; exact h2 y hy⟩
theorem maxI_mem : ∀ (r : List Int) (a : Int), maxI a r ∈ a :: r
  | [], a => by simp [maxI]
  | b :: r, a => by
    rw [maxI]
    by_cases h : b > a
    · rw [if_pos h]
      exact List.mem_cons_of_mem _ (maxI_mem r b)
    · rw [if_neg h]
      rcases List.mem_cons.mp (maxI_mem r a) with h | h
      · rw [h]; simp
      · exact List.mem_cons_of_mem _ (List.mem_cons_of_mem _ h)
theorem intsD_reps {c : Ct} {F : Hp} : ∀ {ds : List D} {vs : List V} {ns : List Int}, intsD ds = some ns → Reps c F ds vs → vs = ns.map V.int
  | [], _, _, h, r => by cases h; exact r
  | .int i :: ds, _, _, h, r => by
    obtain ⟨v, us, rfl, r1, r2⟩ := r
    simp only [intsD, Option.map_eq_some_iff] at h
    obtain ⟨ns, h1, rfl⟩ := h
    rw [show v = V.int i from r1, intsD_reps h1 r2]
    rfl
  | .non :: _, _, _, h, _ | .bl _ :: _, _, _, h, _ | .str _ :: _, _, _, h, _ | .lst _ :: _, _, _, h, _ | .tup _ :: _, _, _, h, _ | .dct _ _ _ :: _, _, _, h, _ | .ins _ _ _ :: _, _, _, h, _ | .raw _ :: _, _, _, h, _ | .tok :: _, _, _, h, _ | .pin _ _ :: _, _, _, h, _ | .exc _ _ _ _ _ :: _, _, _, h, _ => by cases h
theorem o_maxL : Op1 X m (fun x H Q => rMax X.K [x] H Q) fMaxL := by
  refine ⟨fun {σ H ρ F d x Q P} Sm r1 h k => ?_, fun d P P' i => ?_⟩
  · unfold fMaxL at h
    split at h
    · obtain ⟨a, r, e1, h⟩ := h
      obtain ⟨l, vs, rfl, h1, h2⟩ := r1
      obtain rfl := intsD_reps e1 h2
      refine ⟨l, a :: r, rfl, SqL.of h1, by simp, fun mm hm hle => ?_⟩
      have e2 : mm = maxI a r := by
        have h1 := hle _ (maxI_mem r a)
        obtain ⟨h3, h4⟩ := maxI_ge r a
        have : mm ≤ maxI a r := by
          rcases List.mem_cons.mp hm with h | h
          · rw [h]; exact h3
          · exact h4 _ h
        omega
      rw [e2]
      exact k _ _ H F h (Grow.refl Sm.gr.fs Sm.gr.tok) rfl
    · exact h.elim
  · unfold fMaxL
    split <;> first | exact fun ⟨a, r, h1, h2⟩ => ⟨a, r, h1, i _ h2⟩ | exact id
theorem pd_maxL {x : Str} {p : Pos} (hc : X.calm = true) (ha : PQ X m e te) (hx : x = "max") (hg : Gl X x) (hm : X.mg x = none) (he : starEach [e] X.env = (false, eval e X.env) :: starEach [] X.env := by rfl) (hpl : (backTo pos (starEach [] X.env)).any (·.1) = false := by rfl) :
    PD X m (.Call (.Name x p) [e] [] pos) (dOp1 fMaxL te) := by
  subst hx
  exact pd_op1 o_maxL ha (pe_call1 (cr_max hc) hg hm boot_max ha.pe (by decide) (by decide) he hpl)
theorem s_maxL {ds : List D} {a : Int} {r : List Int} {P : D → Prop} (e : intsD ds = some (a :: r)) (h : P (.int (maxI a r))) : fMaxL (.lst ds) P := ⟨a, r, e, h⟩
end
end DL
namespace DL
open PySem PySem.Spec L2 PyProof.Rows PyProof.Rows.KTD
def tabOf (T : List (List Nat × Int)) : List (Str × Dat) := T.map fun p => (S p.1, Dat.flat (.int p.2))
structure TabF (K : PySem.W.Frag) (mg : Str → Option Value) (x : Str) (T : List (List Nat × Int)) : Prop where
  gl : mg x = some (.ref (He.ga K x))
  tab : ∀ h, K.In h → TextTab h (He.ga K x) (tabOf T)
def lookT : List (List Nat × Int) → List Nat → Option Int
  | [], _ => none
  | (x, i) :: T, k => if decide (k = x) = true then some i else lookT T k
theorem look_tab {k : List Nat} : ∀ {T : List (List Nat × Int)}, datumAt (S k) (tabOf T) = (lookT T k).map fun i => Dat.flat (.int i)
  | [] => rfl
  | (x, i) :: T => by
    show (if decide (S k = S x) = true then _ else _) = (if decide (k = x) = true then some i else lookT T k).map _
    by_cases h : k = x
    · rw [if_pos (decide_eq_true h), if_pos (decide_eq_true (congrArg S h))]; rfl
    · rw [if_neg (by simpa using fun e => h (S_inj e)), if_neg (by simpa using h)]
      exact look_tab
theorem keys_tab {k : List Nat} {T : List (List Nat × Int)} : inKeys (S k) (tabOf T) = (lookT T k).isSome := by
  rw [← isSome_datumAt, look_tab]
  cases lookT T k <;> rfl
section
variable {X : Cx} {m : M} {a b : Expr} {ta : DE} {pos : Pos} {x : Str} {T : List (List Nat × Int)}
theorem op_inTab (t : TabF X.K X.mg x T) : OpR X (compareOp .In) (fun y z H Q => ∃ k, y = .str (S k) ∧ z = .ref (He.ga X.K x) ∧ Q (.bl (lookT T k).isSome) H) := by
  intro pins s σ H y z v u Q I ry rz h
  obtain ⟨k, rfl, rfl, q⟩ := h
  obtain ⟨tk, rfl⟩ := ry
  obtain rfl : u = Value.ref _ := rz
  refine in_text ⟨t.tab _ I.kIn, fun _ _ e => e⟩ ?_
  rw [keys_tab]
  exact ⟨.bl _, H, I.tok _, rfl, q⟩
theorem op_notinTab (t : TabF X.K X.mg x T) : OpR X (compareOp .NotIn) (fun y z H Q => ∃ k, y = .str (S k) ∧ z = .ref (He.ga X.K x) ∧ Q (.bl (!(lookT T k).isSome)) H) := by
  intro pins s σ H y z v u Q I ry rz h
  obtain ⟨k, rfl, rfl, q⟩ := h
  obtain ⟨tk, rfl⟩ := ry
  obtain rfl : u = Value.ref _ := rz
  refine notin_text ⟨t.tab _ I.kIn, fun _ _ e => e⟩ ?_
  rw [keys_tab]
  exact ⟨.bl _, H, I.tok _, rfl, q⟩
theorem ix_tab (t : TabF X.K X.mg x T) : IxR X (fun y z H Q => ∃ k i, z = .str (S k) ∧ y = .ref (He.ga X.K x) ∧ lookT T k = some i ∧ Q (.int i) H) := by
  intro value slice pins s σ H y z v u Q I ry rz h hs
  obtain ⟨k, i, rfl, rfl, hl, q⟩ := h
  obtain ⟨tk, rfl⟩ := rz
  obtain rfl : v = Value.ref _ := ry
  have here : Here s.heap s.heap (He.ga X.K x) (tabOf T) := ⟨t.tab _ I.kIn, fun _ _ e => e⟩
  refine subscriptTail_builtin_flat here.typeIs slot_dict_getitem.lookup ?_ hs
  unfold getItem
  try with_reducible refine wpAny_holding ?_
  refine wpAny_bind (wpAny_sequenceKey here.typeIs (by decide) ?_)
  refine wpAny_bind (wpAny_callSpecial?_slot (name := Str.ofString "__getitem__") here.typeIs slot_dict_getitem
    (wpAny_call_entry slot_dict_getitem here.typeIs entry_dict_getitem ?_ (args_dict_getitem _ _)))
  show wpAny _ _ (dictGet _ (.str (S k) tk) >>= _) _ _ s
  refine wpAny_bind (dictGet_text here (fun d w ha hw => ?_) fun hn => ?_)
  · rw [look_tab, hl] at ha
    cases ha
    obtain ⟨t2, rfl⟩ := PyProof.V.Flat.int_inv hw
    exact wpAny_pure ⟨_, rfl, wpAny_pure ⟨(fun _ e => by cases e), ⟨.int _, H, I.tok _, ⟨_, rfl⟩, q⟩⟩⟩
  · rw [look_tab, hl] at hn
    cases hn
def dTab (f : List Nat → (D → Prop) → Prop) (ta : DE) : DE := fun ρ Q => ta ρ fun d ρ' => match d with
  | .str k => f k fun z => Q z ρ'
  | _ => False
theorem pd_tab {e' : Expr} {r : V → Hp → VK → Prop} {f : List Nat → (D → Prop) → Prop} (hf : ∀ k P P', (∀ z, P z → P' z) → f k P → f k P') (hr : ∀ {H F : Hp} {ρ : Ro} {σ : L2.St} {k : List Nat} {P : D → Prop} {Q : VK}, f k P → (∀ z v, P z → Rep (m.c X) F z v → Q v H) → r (.str (S k)) H Q) (ha : PD X m a ta) (h : PE X e' (fun σ H Q => lE X m ta σ H fun v H1 => r v H1 Q)) : PD X m e' (dTab f ta) := by
  refine ⟨PE.imp h fun σ H Q ⟨ρ, F, S, t⟩ => ⟨ρ, F, S, ha.mono _ _ _ (fun d ρ' q v H' F' s S' rv => ?_) t⟩, fun ρ Q Q' i => ha.mono _ _ _ fun d ρ' => ?_⟩
  · cases d with
    | str k =>
      obtain rfl : v = V.str _ := rv
      exact hr (F := F') (ρ := ρ') (σ := σ) q fun z w p rz => p w H' F' s S' rz
    | _ => exact q.elim
  · cases d with
    | str k => exact hf _ _ _ fun z => i _ _
    | _ => exact id
def fInTab (T : List (List Nat × Int)) (neg : Bool) : List Nat → (D → Prop) → Prop := fun k P => P (.bl (if neg then !(lookT T k).isSome else (lookT T k).isSome))
def fIxTab (T : List (List Nat × Int)) : List Nat → (D → Prop) → Prop := fun k P => ∃ i, lookT T k = some i ∧ P (.int i)
theorem pd_inTab (t : TabF X.K X.mg x T) (ha : PD X m a ta) {p : Pos} (hg : Gl X x := by rfl) (hdb : (x == ("__debug__" : Str)) = false := by decide) (hm : behindInMarks .In (.Name x p) = false := by rfl) : PD X m (.Compare a [.In] [.Name x p] pos) (dTab (fInTab T false) ta) :=
  pd_tab (r := fun v H Q => ∃ k, v = .str (S k) ∧ V.ref (He.ga X.K x) = .ref (He.ga X.K x) ∧ Q (.bl (lookT T k).isSome) H) (fun _ _ _ i => i _) (fun {H F ρ σ k P Q} h q => ⟨k, rfl, rfl, q _ _ h rfl⟩) ha
    (pe_cmpR (op_inTab t) ha.pe (pe_glob hg t.gl (v := .ref (He.ga X.K x)) rfl hdb) hm)
theorem pd_notinTab (t : TabF X.K X.mg x T) (ha : PD X m a ta) {p : Pos} (hg : Gl X x := by rfl) (hdb : (x == ("__debug__" : Str)) = false := by decide) (hm : behindInMarks .NotIn (.Name x p) = false := by rfl) : PD X m (.Compare a [.NotIn] [.Name x p] pos) (dTab (fInTab T true) ta) :=
  pd_tab (r := fun v H Q => ∃ k, v = .str (S k) ∧ V.ref (He.ga X.K x) = .ref (He.ga X.K x) ∧ Q (.bl (!(lookT T k).isSome)) H) (fun _ _ _ i => i _) (fun {H F ρ σ k P Q} h q => ⟨k, rfl, rfl, q _ _ h rfl⟩) ha
    (pe_cmpR (op_notinTab t) ha.pe (pe_glob hg t.gl (v := .ref (He.ga X.K x)) rfl hdb) hm)
theorem pd_ixTab (t : TabF X.K X.mg x T) (ha : PD X m a ta) {p : Pos} (hg : Gl X x := by rfl) (hdb : (x == ("__debug__" : Str)) = false := by decide) (hs : PlainIx a := by intro _ _; rfl) : PD X m (.Subscript (.Name x p) a pos) (dTab (fIxTab T) ta) :=
  pd_tab (r := fun v H Q => ∃ k i, v = .str (S k) ∧ V.ref (He.ga X.K x) = .ref (He.ga X.K x) ∧ lookT T k = some i ∧ Q (.int i) H) (fun _ _ _ i ⟨j, h1, h2⟩ => ⟨j, h1, i _ h2⟩) (fun {H F ρ σ k P Q} ⟨i, h1, h2⟩ q => ⟨k, i, rfl, rfl, h1, q _ _ h2 rfl⟩) ha
    (pe_ix (ix_tab t) (pe_glob hg t.gl (v := .ref (He.ga X.K x)) rfl hdb) ha.pe hs)
theorem tab_imp {r : V → Hp → VK → Prop} {f : List Nat → (D → Prop) → Prop} (hr : ∀ {H F : Hp} {ρ : Ro} {σ : L2.St} {k : List Nat} {P : D → Prop} {Q : VK}, f k P → (∀ z v, P z → Rep (m.c X) F z v → Q v H) → r (.str (S k)) H Q) (ha : PD X m a ta) (σ : L2.St) (H : Hp) (Q : VK) (h : lE X m (dTab f ta) σ H Q) : lE X m ta σ H fun v H1 => r v H1 Q := by
  obtain ⟨ρ, F, S, t⟩ := h
  refine ⟨ρ, F, S, ha.mono _ _ _ (fun d ρ' q v H' F' s S' rv => ?_) t⟩
  cases d with
  | str k =>
    obtain rfl : v = V.str _ := rv
    exact hr (F := F') (ρ := ρ') (σ := σ) q fun z w p rz => p w H' F' s S' rz
  | _ => exact q.elim
theorem tab_mono {f : List Nat → (D → Prop) → Prop} (hf : ∀ k P P', (∀ z, P z → P' z) → f k P → f k P') (ha : PD X m a ta) : ∀ ρ (Q Q' : D → Ro → Prop), (∀ d ρ', Q d ρ' → Q' d ρ') → dTab f ta ρ Q → dTab f ta ρ Q' := fun ρ Q Q' i => ha.mono _ _ _ fun d ρ' => by
  cases d with
  | str k => exact hf _ _ _ fun z => i _ _
  | _ => exact id
theorem pdt_inTab (t : TabF X.K X.mg x T) (ha : PD X m a ta) {p : Pos} (hg : Gl X x := by rfl) (hdb : (x == ("__debug__" : Str)) = false := by decide) (hm : behindInMarks .In (.Name x p) = false := by rfl) : PDT X m (.Compare a [.In] [.Name x p] pos) (dTest (dTab (fInTab T false) ta)) := by
  have mo := tab_mono (f := fInTab T false) (fun _ _ _ i => i _) ha
  refine ⟨PT.imp (pt_cmpR (op_inTab t) ha.pe (pe_glob hg t.gl (v := .ref (He.ga X.K x)) rfl hdb) hm) fun σ H Q h => ?_, dTest_mono mo⟩
  exact tab_imp (r := fun v H Q => ∃ k, v = .str (S k) ∧ V.ref (He.ga X.K x) = .ref (He.ga X.K x) ∧ Q (.bl (lookT T k).isSome) H) (fun {H F ρ σ k P Q} h q => ⟨k, rfl, rfl, q (.bl _) _ h rfl⟩) ha σ H _ (lTest mo h)
theorem pdt_notinTab (t : TabF X.K X.mg x T) (ha : PD X m a ta) {p : Pos} (hg : Gl X x := by rfl) (hdb : (x == ("__debug__" : Str)) = false := by decide) (hm : behindInMarks .NotIn (.Name x p) = false := by rfl) : PDT X m (.Compare a [.NotIn] [.Name x p] pos) (dTest (dTab (fInTab T true) ta)) := by
  have mo := tab_mono (f := fInTab T true) (fun _ _ _ i => i _) ha
  refine ⟨PT.imp (pt_cmpR (op_notinTab t) ha.pe (pe_glob hg t.gl (v := .ref (He.ga X.K x)) rfl hdb) hm) fun σ H Q h => ?_, dTest_mono mo⟩
  exact tab_imp (r := fun v H Q => ∃ k, v = .str (S k) ∧ V.ref (He.ga X.K x) = .ref (He.ga X.K x) ∧ Q (.bl (!(lookT T k).isSome)) H) (fun {H F ρ σ k P Q} h q => ⟨k, rfl, rfl, q (.bl _) _ h rfl⟩) ha σ H _ (lTest mo h)
theorem s_tab {f : List Nat → (D → Prop) → Prop} {ρ : Ro} {Q : D → Ro → Prop} (h : ta ρ fun d ρ' => match d with
  | .str k => f k fun z => Q z ρ'
  | _ => False) : dTab f ta ρ Q := h
theorem s_inTab {neg : Bool} {k : List Nat} {P : D → Prop} (h : P (.bl (if neg then !(lookT T k).isSome else (lookT T k).isSome))) : fInTab T neg k P := h
theorem s_ixTab {k : List Nat} {i : Int} {P : D → Prop} (e : lookT T k = some i) (h : P (.int i)) : fIxTab T k P := ⟨i, e, h⟩
end
end DL
namespace DL
open PySem PySem.Spec L2 PyProof.Rows
theorem meets_enumT (l : Addr) (items : Array Value) (n : Nat) (dct : Option Addr) (sl : Array (Option Value)) :
    Meets (Builtin.«enumerate.__new__» ⟨[.type "enumerate", .ref l], []⟩) (fun _ R s => s.heap.get? l = some { cls := .type "tuple", dict := dct, data := .seq items n, slots := sl } ∧
      R (.ok (.ret (.ref (s.heap.push { cls := .type "tuple_iterator", data := .fields #[.ref l, .int 0 0] }).objs.size)))
        { s with heap := (s.heap.push { cls := .type "tuple_iterator", data := .fields #[.ref l, .int 0 0] }).push { cls := .type "enumerate", data := .fields #[.none, .bool false, .ref s.heap.objs.size, rawInt 0, .none, .none] } }) :=
  .of_wp fun prog w A R s h => by
    obtain ⟨hp, g, d, tk, os⟩ := s
    obtain ⟨hl, h⟩ := h
    have hT : IsTup hp l items := ⟨_, hl, rfl, _, rfl⟩
    have hsub := sub_enumerate
    wp_walk using wpAny_loadPart' hl
    refine wpAny_stack_any fun st => wpAny_pure ?_
    split
    · rename_i c _ _ _ _ _
      cases (c == Value.type "enumerate")
      · wp_walk using wpAny_loadPart' hl, iter_tuple hT
        exact ⟨_, rfl, h⟩
      · wp_walk using wpAny_loadPart' hl, iter_tuple hT
        exact ⟨_, rfl, h⟩
    · wp_walk using wpAny_loadPart' hl, iter_tuple hT
      exact ⟨_, rfl, h⟩
theorem call_enumT {prog : Program} {w : World} {A : Around} {E : Value → Shared → Prop} {s : Shared} {l : Addr} {items : Array Value} {Q : Value → Shared → Prop} (hL : IsTup s.heap l items)
    (h : ∀ h', IsEnum h' (s.heap.objs.size + 1) s.heap.objs.size 0 .none → h'.IsTupleIter s.heap.objs.size l 0 → h'.objs.size = s.heap.objs.size + 2 →
      (∀ b o, s.heap.get? b = some o → h'.get? b = some o) → Q (.ref (s.heap.objs.size + 1)) { s with heap := h' }) :
    wpAny (model prog w) A (call (.type "enumerate") [.ref l]) Q E s := by
  obtain ⟨⟨c, dct, dt, sl⟩, hl, hc, n, hd⟩ := hL
  replace hc : c = .type "tuple" := hc
  replace hd : dt = .seq items n := hd
  subst hc hd
  refine callType_new F.called_enumerate (by decide) (F.typeCall_enumerate_1 _) (F.newCall_enumerate_1 _) (fun obj => F.args_object_init_2 obj _) F.entry_enumerate_new
    (meets_enumT l items n dct sl) ⟨hl, ?_⟩
  have hz : (s.heap.push { cls := .type "tuple_iterator", data := .fields #[.ref l, .int 0 0] }).objs.size = s.heap.objs.size + 1 := Heap.size_push ..
  show _ ∧ _
  rw [hz]
  have he : IsEnum ((s.heap.push { cls := .type "tuple_iterator", data := .fields #[.ref l, .int 0 0] }).push
      { cls := .type "enumerate", data := .fields #[.none, .bool false, .ref s.heap.objs.size, rawInt 0, .none, .none] }) (s.heap.objs.size + 1) s.heap.objs.size 0 .none := by
    have := Heap.get?_push_size (s.heap.push { cls := .type "tuple_iterator", data := .fields #[.ref l, .int 0 0] })
      (o := { cls := .type "enumerate", data := .fields #[.none, .bool false, .ref s.heap.objs.size, rawInt 0, .none, .none] }) rfl
    rw [hz] at this; exact this
  refine ⟨⟨_, he, rfl⟩, h _ he ⟨_, Heap.get?_push_of_some _ (Heap.get?_push_size _ rfl), rfl, rfl⟩ (by rw [Heap.size_push, hz]) fun b o x => Heap.get?_push_of_some _ (Heap.get?_push_of_some _ x)⟩
def Itet (K : PySem.W.Frag) (a : Addr) : It :=
  ⟨fun i H => ∃ (xs : List V) (x : V), SqT K H a xs ∧ xs[i]? = some x, fun i H v H' => ∃ T x, v = .ref T ∧ H T = none ∧ H' = upd H T (.tup [.int (i : Nat), x]) ∧ ∀ xs, SqT K H a xs → xs[i]? = some x, fun i H => ∃ xs : List V, SqT K H a xs ∧ xs.length ≤ i⟩
theorem turn_enumT {P : Program} {w : World} {K : PySem.W.Frag} {elts : List Expr} {kk : Nat} {tpos : Pos} (a e it : Addr) :
    Turn P w K (.Tuple elts kk tpos) (Itet K a) [e, it] e (fun i h => (∃ old, IsEnum h e it ((i : Nat) : Int) old) ∧ h.IsTupleIter it a i ∧ e ≠ it ∧ a ≠ it ∧ e ≠ a) where
  mem := by simp
  obj := fun i h st b hb => by
    obtain ⟨⟨old, he⟩, ⟨o, ho, hc, hd⟩, _⟩ := st
    have e' : b = e ∨ b = it := by simpa using hb
    rcases e' with z | z
    · rw [z]; exact ⟨_, he, fun v q => nomatch q⟩
    · rw [z]; exact ⟨o, ho, fun v q => by rw [hd] at q; cases q⟩
  keep := fun i h h' st k => let ⟨⟨old, he⟩, hi, hne⟩ := st; ⟨⟨old, k e (by simp) _ he⟩, hi.at fun o q => k it (by simp) o q, hne⟩
  item := by
    intro X hP hw hK hc i pins s σ H E I hf st hg
    subst hP hw hK
    obtain ⟨⟨old, he⟩, hit, hne, hai, hea⟩ := st
    obtain ⟨xs, x, hq, hx⟩ := hg
    obtain ⟨its, rv, p, hz⟩ := I.tuple hq
    obtain ⟨u, hu, ru⟩ := rv.get hx
    have hel : e < s.heap.objs.size := Heap.lt_size he
    have hil : it < s.heap.objs.size := by obtain ⟨_, q, _⟩ := hit; exact Heap.lt_size q
    have hlt : i < its.toArray.size := by
      have := (List.getElem?_eq_some_iff.mp hu).1
      simpa using this
    refine wpAny_pyNext_enum_itemD (Draws.tuple (A := X.A.in1) (I.ok.hd hc) it a hai its.toArray) he ⟨hit, p⟩ hlt hne (by simp [hne, hea]) fun v h' tk ev ho hit' hT hsz hk => ?_
    have eu : v = u := by
      have : its.toArray[i]? = some u := by simpa using hu
      rw [this] at ev
      exact (Option.some.inj ev).symm
    subst eu
    refine ⟨_, rfl, wpAny_letOwnedTupleGo_enum (s := { s with heap := h', toks := tk + 1 }) ho fun h'' he' sb => ?_⟩
    have hT2 : h''.get? s.heap.objs.size = some { cls := .type "tuple", data := .seq #[.int i tk, v] } := (sb.2 _ (Nat.ne_of_gt hel)).trans hT
    have new : ObjOk X.prog X.w (upd H s.heap.objs.size (.tup [.int (i : Nat), x])) h'' s.heap.objs.size (.tup [.int (i : Nat), x]) :=
      ⟨by show 2 ≤ sizeLine; decide, [.int i tk, v], .cons ⟨_, rfl⟩ (.cons ru .nil), ⟨_, hT2, rfl, _, rfl⟩⟩
    have I1 : Inv X pins σ (upd H s.heap.objs.size (.tup [.int (i : Nat), x])) { s with heap := h'', toks := tk + 1 } :=
      I.turnedNew (ch := [e, it]) (fun b ob hb q => (sb.2 b (fun z => hb (by simp [z]))).trans (hk b ob (fun z => hb (by simp [z])) (fun z => hb (by simp [z])) q)) hf (Nat.le_refl _) new
    refine ⟨.ref s.heap.objs.size, _, I1, rfl, ⟨_, x, rfl, I.hok.fresh (Nat.le_refl _), rfl, fun ys hy => by rw [I.tuple_inj hy hq]; exact hx⟩, ⟨⟨v, ?_⟩, hit'.1.at fun o q => (sb.2 it (Ne.symm hne)).trans q, hne, hai, hea⟩, fun b hb => ?_⟩
    · have e1 : ((i + 1 : Nat) : Int) = (i : Int) + 1 := by omega
      rw [e1]; exact he'
    · have hb' : b < s.heap.objs.size := by
        have e' : b = e ∨ b = it := by simpa using hb
        rcases e' with z | z
        · rw [z]; exact hel
        · rw [z]; exact hil
      rw [upd_ne (Nat.ne_of_lt hb')]
      exact (hf b hb).1
  done := by
    intro X hP hw hK hc i pins s σ H E I hf st hg
    subst hP hw hK
    obtain ⟨⟨old, he⟩, hit, hne, hai, hea⟩ := st
    obtain ⟨xs, hq, hx⟩ := hg
    obtain ⟨its, rv, p, hz⟩ := I.tuple hq
    obtain ⟨f0, f1, f2, f3, f4, f5⟩ := hf it (by simp)
    have hl := rv.length
    have hnone : its.toArray[i]? = none := by
      have : its[i]? = none := List.getElem?_eq_none_iff.mpr (by omega)
      simpa using this
    have D : Draws X.prog X.w X.A.in1 it [it, a] i (fun _ _ => False) (fun j h => j = i ∧ h.IsTupleIter it a i ∧ h.IsTuple a its.toArray) :=
      { live := fun _ _ st => let ⟨o, ho, _⟩ := st.2.1; ⟨o, ho⟩
        frame := fun _ _ _ st hk => ⟨st.1, st.2.1.at fun o e => hk it (by simp) o e, st.2.2.at fun o e => hk a (by simp) o e⟩
        item := fun j s Q E hj st hQ => absurd hj (by rw [st.1]; exact Nat.lt_irrefl _)
        done := fun s Q E st hE => wpAny_nextOf_tuple_end (I.ok.hd hc) st.2.1 st.2.2 hnone hE }
    exact wpAny_pyNext_enum_endD D he ⟨rfl, hit, p⟩ fun h' eb => ⟨rfl, I.turned (t' := s.toks) (fun b o hb q => eb b o hb q) f0 f1 f3 f4 f5⟩
  self := fun A i s Q E st h => let ⟨⟨_, he⟩, _⟩ := st; wpAny_pyIter_enum he h
theorem itok_enumT {c : Ct} {F : Hp} {a : Addr} {vs : List V} {ds : List D} (h : F a = some (.tup vs)) (r : Reps c F ds vs) : ItOk c F (enumD ds) (Itet c.K a) where
  go := fun i H s hi => by
    simp only [enumD, List.length_mapIdx] at hi
    exact ⟨vs, vs[i]'(by rw [← r.length]; exact hi), SqT.of (s _ _ h), List.getElem?_eq_getElem _⟩
  stop := fun i H s hi => by
    simp only [enumD, List.length_mapIdx] at hi
    exact ⟨vs, SqT.of (s _ _ h), by rw [← r.length]; exact hi⟩
  yld := fun i H v H' s hi y => by
    obtain ⟨T, x, rfl, hT, rfl, hx⟩ := y
    obtain ⟨d, e1, r1⟩ := r.getV (hx vs (SqT.of (s _ _ h)))
    refine ⟨.tup [.int (i : Nat), d], by simp [enumD, List.getElem?_mapIdx, e1], .inr ⟨T, _, _, hT, rfl, rfl, rfl, ?_⟩⟩
    exact ⟨_, _, rfl, rfl, _, _, rfl, r1, rfl⟩
def enmT (Q : List D → Ro → Prop) (ds : List D) (ρ' : Ro) : Prop := ∃ es, ds = [.tup es] ∧ Q (enumD es) ρ'
def diEnumT (ta : DA) : DI := fun ρ Q => ta ρ (enmT Q)
section
variable {X : Cx} {m : M} {a : Expr} {pos p : Pos} {ua : DA}
theorem pdi_enumerateT {elts : List Expr} {kk : Nat} {tpos : Pos} (hg : Gl X "enumerate") (hm : X.mg "enumerate" = none) (ha : PDA X m [a] ua) (hs : starEach [a] X.env = [(false, eval a X.env)] := by rfl) :
    PDI X m (.Tuple elts kk tpos) (.Call (.Name "enumerate" p) [a] [] pos) (diEnumT ua) := by
  have G : ∀ pins s σ H (R : It → Hp → Prop), Inv X pins σ H s → lI X m (diEnumT ua) σ H R → wpAny (model X.prog X.w) X.A (eval (.Call (.Name "enumerate" p) [a] [] pos) X.env) (fun v s1 => wpAny (model X.prog X.w) X.A (pyIter v) (PIE X pins σ (.Tuple elts kk tpos) R) X.xe s1) X.xe s := by
    intro pins s σ H R I ⟨ρ, F, Sx, t⟩
    refine Call_ (ld_blt I hg hm boot_enumerate (callWith_type1 (thn (ha.pe.run pos pins s σ H (fun vs H1 => ∃ a xs, vs = [.ref a] ∧ SqT X.K H1 a xs ∧ R (Itet X.K a) H1) I ⟨ρ, F, Sx, ha.mono _ _ _ (fun ds ρ' q vs H' F' s S' r => ?_) t⟩) fun us s1 ⟨vs, H1, I1, r1, q⟩ => ?_) hs rfl))
    · obtain ⟨es, rfl, q⟩ := q
      obtain ⟨v, r1, rfl, r, r2⟩ := r
      obtain rfl : r1 = [] := r2
      obtain ⟨a, vs, rfl, h1, h2⟩ := r
      exact ⟨a, vs, rfl, SqT.of (S'.gr.fs _ _ h1), q H' F' _ s S' (itok_enumT h1 h2)⟩
    · obtain ⟨a, xs, ex, hq, q⟩ := q
      subst ex
      rcases r1 with _ | ⟨r, rr⟩
      cases rr
      cases r
      obtain ⟨its, rv, p', hz⟩ := I1.tuple hq
      have hal : a < s1.heap.objs.size := by obtain ⟨_, q, _⟩ := id p'; exact Heap.lt_size q
      refine call_enumT p' fun h' he hit hsz hk => wpAny_pyIter_enum he ?_
      have I2 : Inv X pins σ H1 { s1 with heap := h' } := I1.kept (t' := s1.toks) hk
      refine ⟨s1.heap.objs.size + 1, [s1.heap.objs.size + 1, s1.heap.objs.size], _, _, H1, rfl, I2, turn_enumT a (s1.heap.objs.size + 1) s1.heap.objs.size, ⟨⟨.none, he⟩, hit, Nat.succ_ne_self _, Nat.ne_of_lt hal, Nat.ne_of_gt (Nat.lt_succ_of_lt hal)⟩, fun b hb => ?_, q⟩
      have lb : s1.heap.objs.size ≤ b := by
        rcases List.mem_cons.mp hb with z | z
        · rw [z]; exact Nat.le_add_right _ _
        · obtain rfl : b = s1.heap.objs.size := by simpa using z
          exact Nat.le_refl _
      exact I1.fpOk lb (I1.hok.fresh lb)
  exact ⟨⟨G⟩, fun ρ Q Q' i => ha.mono _ _ _ fun ds ρ' ⟨es, e1, q⟩ => ⟨es, e1, i _ _ q⟩⟩
theorem s_ienumT {ρ : Ro} {R : List D → Ro → Prop} (h : ua ρ (enmT R)) : diEnumT ua ρ R := h
theorem s_enmT {x : List D} {ρ : Ro} {R : List D → Ro → Prop} (h : R (enumD x) ρ) : enmT R [.tup x] ρ := ⟨_, rfl, h⟩
end
end DL
namespace DL
open PySem PySem.Spec L2 PyProof.Rows
section
variable {E : DEn} {ρ : Ro} {t u : DS} {d : D} {i : Nat}
theorem s_seqO (h : t { E with nx := u E, rt := fun _ _ => False } ρ) : dSeqO t u E ρ := h
theorem s_retO (e : ρ[i]? = some (some (true, d))) (h : E.rt d ρ) : dRetO i E ρ := ⟨d, e, h⟩
end
def tabB (K : Frag) (x : Str) (T : List (List Nat × Int)) : Bool := PyProof.Rows.KTD.tabLook (PyProof.Rows.KTD.datLooks fun a => List.lookup a K) (fun a => List.lookup a K) (He.ga K x) (tabOf T)
theorem tabB_ok {K : Frag} {x : Str} {T : List (List Nat × Int)} (h : tabB K x T = true) : ∀ hp, K.In hp → PyProof.Rows.KTD.TextTab hp (He.ga K x) (tabOf T) :=
  fun hp X => PyProof.Rows.KTD.text_of_look (fun a o e => X a o e) h
def conB (K : Frag) (C a : Str) (i : Int) : Bool := (match PySem.W.findIn K (.ref (He.ga K C)) a with
  | some (some (.int j t)) => decide (j = i) && He.eqO (PySem.W.specialIn K (.int j t) "__get__") (some none)
  | _ => false) && !PySem.W.copiedNames.contains a
theorem conB_ok {K : Frag} {C a : Str} {i : Int} (h : conB K C a i = true) : ∃ v u, Con K (He.ga K C) a v u ∧ Rep ⟨K, none⟩ (fun _ => none) (.int i) v := by
  unfold conB at h
  obtain ⟨h1, h2⟩ := Bool.and_eq_true_iff.mp h
  split at h1
  · rename_i j t e
    obtain ⟨h3, h4⟩ := Bool.and_eq_true_iff.mp h1
    obtain rfl := of_decide_eq_true h3
    exact ⟨.int j, .int j t, ⟨e, ⟨t, rfl⟩, He.eqO_ok h4, by simpa using h2⟩, rfl⟩
  · cases h1
end DL
namespace DL
open PySem PySem.Spec L2 PyProof.Rows
inductive Sr where
  | lst (a : Addr) | tup (a : Addr) | txt (x : Str) (t : PySem.Tok)
def srV : Sr → Value
  | .lst a => .ref a
  | .tup a => .ref a
  | .txt x t => .str x t
def srAt (K : PySem.W.Frag) (H : Hp) : Sr → List V → Prop
  | .lst a, xs => SqL K H a xs
  | .tup a, xs => SqT K H a xs
  | .txt x _, xs => xs = x.cps.toList.map fun c => V.str ⟨#[c]⟩
def srIt (it : Addr) : Sr → Nat → Heap → Prop
  | .lst a, i, h => h.IsListIter it a i ∧ a ≠ it
  | .tup a, i, h => h.IsTupleIter it a i ∧ a ≠ it
  | .txt x t, i, h => h.IsStrIter it (strIterType x) x t i
def srTl : Sr → List Addr
  | .lst a => [a]
  | .tup a => [a]
  | .txt _ _ => []
theorem srIt_keep {it : Addr} {r : Sr} {i : Nat} {h h' : Heap} (st : srIt it r i h) (k : ∀ o, h.get? it = some o → h'.get? it = some o) : srIt it r i h' := by
  cases r with
  | lst a => exact ⟨st.1.at k, st.2⟩
  | tup a => exact ⟨st.1.at k, st.2⟩
  | txt x t => obtain ⟨o, ho, r⟩ := st; exact ⟨o, k o ho, r⟩
theorem srIt_obj {it : Addr} {r : Sr} {i : Nat} {h : Heap} (st : srIt it r i h) : ∃ o, h.get? it = some o ∧ ∀ v, o.data ≠ .cell v := by
  cases r with
  | lst a => obtain ⟨⟨o, ho, hc, hd⟩, _⟩ := st; exact ⟨o, ho, fun v q => by rw [hd] at q; cases q⟩
  | tup a => obtain ⟨⟨o, ho, hc, hd⟩, _⟩ := st; exact ⟨o, ho, fun v q => by rw [hd] at q; cases q⟩
  | txt x t => obtain ⟨o, ho, hc, hd⟩ := st; exact ⟨o, ho, fun v q => by rw [hd] at q; cases q⟩
section
variable {X : Cx} {pins : List (Addr × Obj)} {σ : L2.St} {H : Hp} {s : Shared}
theorem sr_inj (I : Inv X pins σ H s) {r : Sr} {xs ys : List V} (h : srAt X.K H r xs) (h' : srAt X.K H r ys) : xs = ys := by
  cases r with
  | lst a => exact I.list_inj h h'
  | tup a => exact I.tuple_inj h h'
  | txt x t => exact (show xs = _ from h).trans (show ys = _ from h').symm
theorem sr_draws (hc : X.calm = true) (I : Inv X pins σ H s) {r : Sr} {xs : List V} (hq : srAt X.K H r xs) {it : Addr} {i : Nat} (st : srIt it r i s.heap) : ∃ P St, Draws X.prog X.w X.A.in1 it (it :: srTl r) xs.length P St ∧ St i s.heap ∧
    (∀ j v x, P j v → xs[j]? = some x → RelV x v) ∧ ∀ j h, St j h → srIt it r j h := by
  cases r with
  | lst a =>
    obtain ⟨its, rv, p, hz⟩ := I.list hq
    have D := Draws.list (prog := X.prog) (w := X.w) (A := X.A.in1) (I.ok.hd hc) it a st.2 its.toArray
    rw [show its.toArray.size = xs.length by rw [rv.length]; simp] at D
    refine ⟨_, _, D, ⟨st.1, p.isList⟩, fun j v x e1 e2 => ?_, fun j h z => ⟨z.1, st.2⟩⟩
    obtain ⟨u, hu, ru⟩ := rv.get e2
    rw [List.getElem?_toArray, hu] at e1
    exact Option.some.inj e1 ▸ ru
  | tup a =>
    obtain ⟨its, rv, p, hz⟩ := I.tuple hq
    have D := Draws.tuple (prog := X.prog) (w := X.w) (A := X.A.in1) (I.ok.hd hc) it a st.2 its.toArray
    rw [show its.toArray.size = xs.length by rw [rv.length]; simp] at D
    refine ⟨_, _, D, ⟨st.1, p⟩, fun j v x e1 e2 => ?_, fun j h z => ⟨z.1, st.2⟩⟩
    obtain ⟨u, hu, ru⟩ := rv.get e2
    rw [List.getElem?_toArray, hu] at e1
    exact Option.some.inj e1 ▸ ru
  | txt x t =>
    obtain rfl : xs = _ := hq
    have D := Draws.text (prog := X.prog) (w := X.w) (A := X.A.in1) (I.ok.hd hc) it x t
    rw [show x.cps.size = (x.cps.toList.map fun c => V.str ⟨#[c]⟩).length by simp] at D
    refine ⟨_, _, D, st, fun j v y e1 e2 => ?_, fun j h z => z⟩
    obtain ⟨c, u, h1, rfl⟩ := e1
    rw [List.getElem?_map, Array.getElem?_toList, h1] at e2
    obtain rfl := Option.some.inj e2
    exact ⟨_, rfl⟩
theorem sr_over (hc : X.calm = true) (I : Inv X pins σ H s) {r : Sr} {xs : List V} (hq : srAt X.K H r xs) {it : Addr} {i : Nat} (st : srIt it r i s.heap) (hl : xs.length ≤ i) : ∃ P St, Draws X.prog X.w X.A.in1 it (it :: srTl r) i P St ∧ St i s.heap := by
  cases r with
  | lst a =>
    obtain ⟨its, rv, p, hz⟩ := I.list hq
    have hn : its.toArray[i]? = none := by
      rw [List.getElem?_toArray]; exact List.getElem?_eq_none_iff.mpr (by rw [← rv.length]; exact hl)
    exact ⟨fun _ _ => False, fun j h => j = i ∧ h.IsListIter it a i ∧ h.IsList a its.toArray,
      { live := fun _ _ st => let ⟨o, ho, _⟩ := st.2.1; ⟨o, ho⟩
        frame := fun _ _ _ st hk => ⟨st.1, st.2.1.at fun o e => hk it (by simp) o e, st.2.2.at fun o e => hk a (by simp [srTl]) o e⟩
        item := fun j s Q E hj st hQ => absurd hj (by rw [st.1]; exact Nat.lt_irrefl _)
        done := fun s Q E st hE => wpAny_nextOf_list_end (I.ok.hd hc) st.2.1 st.2.2 hn hE }, ⟨rfl, st.1, p.isList⟩⟩
  | tup a =>
    obtain ⟨its, rv, p, hz⟩ := I.tuple hq
    have hn : its.toArray[i]? = none := by
      rw [List.getElem?_toArray]; exact List.getElem?_eq_none_iff.mpr (by rw [← rv.length]; exact hl)
    exact ⟨fun _ _ => False, fun j h => j = i ∧ h.IsTupleIter it a i ∧ h.IsTuple a its.toArray,
      { live := fun _ _ st => let ⟨o, ho, _⟩ := st.2.1; ⟨o, ho⟩
        frame := fun _ _ _ st hk => ⟨st.1, st.2.1.at fun o e => hk it (by simp) o e, st.2.2.at fun o e => hk a (by simp [srTl]) o e⟩
        item := fun j s Q E hj st hQ => absurd hj (by rw [st.1]; exact Nat.lt_irrefl _)
        done := fun s Q E st hE => wpAny_nextOf_tuple_end (I.ok.hd hc) st.2.1 st.2.2 hn hE }, ⟨rfl, st.1, p⟩⟩
  | txt x t =>
    obtain rfl : xs = _ := hq
    have hn : x.cps[i]? = none := Array.getElem?_eq_none (by simpa using hl)
    exact ⟨fun _ _ => False, fun j h => j = i ∧ h.IsStrIter it (strIterType x) x t i,
      { live := fun _ _ st => let ⟨o, ho, _⟩ := st.2; ⟨o, ho⟩
        frame := fun _ _ _ st hk => let ⟨o, ho, r⟩ := st.2; ⟨st.1, o, hk it (by simp) o ho, r⟩
        item := fun j s Q E hj st hQ => absurd hj (by rw [st.1]; exact Nat.lt_irrefl _)
        done := fun s Q E st hE => by
          have st2 := st.2
          unfold strIterType at st2
          split at st2
          · exact wpAny_nextOf_ascii_end (I.ok.hd hc) st2 hn hE
          · exact wpAny_nextOf_wide_end (I.ok.hd hc) st2 hn hE }, ⟨rfl, st⟩⟩
theorem sr_begins (I : Inv X pins σ H s) {r : Sr} {xs : List V} (hq : srAt X.K H r xs) : ∃ o Hb, Begins (srV r) o Hb ∧ Hb s.heap ∧ (∀ b ∈ srTl r, b < s.heap.objs.size) ∧ ∀ (it : Addr) (h : Heap), h.get? it = some o → it ∉ srTl r → srIt it r 0 h := by
  cases r with
  | lst a =>
    obtain ⟨its, rv, p, hz⟩ := I.list hq
    refine ⟨_, _, begins_list a its.toArray, p.isList, fun b hb => ?_, fun it h e n => ⟨⟨_, e, rfl, rfl⟩, fun q => n (by simp [srTl, q])⟩⟩
    rw [show b = a by simpa [srTl] using hb]; exact p.lt
  | tup a =>
    obtain ⟨its, rv, p, hz⟩ := I.tuple hq
    refine ⟨_, _, begins_tuple a its.toArray, p, fun b hb => ?_, fun it h e n => ⟨⟨_, e, rfl, rfl⟩, fun q => n (by simp [srTl, q])⟩⟩
    rw [show b = a by simpa [srTl] using hb]
    obtain ⟨_, q, _⟩ := id p
    exact Heap.lt_size q
  | txt x t => exact ⟨_, _, begins_text x t, trivial, fun b hb => by simp [srTl] at hb, fun it h e n => ⟨_, e, rfl, rfl⟩⟩
end
def ItzD (K : PySem.W.Frag) (r1 r2 : Sr) : It :=
  ⟨fun i H => ∃ (xs ys : List V) (x y : V), srAt K H r1 xs ∧ srAt K H r2 ys ∧ xs[i]? = some x ∧ ys[i]? = some y,
    fun i H v H' => ∃ T x y, v = .ref T ∧ H T = none ∧ H' = upd H T (.tup [x, y]) ∧ (∀ xs, srAt K H r1 xs → xs[i]? = some x) ∧ ∀ ys, srAt K H r2 ys → ys[i]? = some y,
    fun i H => ∃ xs ys : List V, srAt K H r1 xs ∧ srAt K H r2 ys ∧ (xs.length ≤ i ∨ ys.length ≤ i)⟩
theorem turn_zipD {P : Program} {w : World} {K : PySem.W.Frag} {elts : List Expr} {kk : Nat} {tpos : Pos} (r1 r2 : Sr) {z TI TO i1 i2 : Addr} (S : ZipSep2 z TI TO i1 i2 (i1 :: srTl r1) (i2 :: srTl r2)) :
    Turn P w K (.Tuple elts kk tpos) (ItzD K r1 r2) [z, TI, TO, i1, i2] z (fun i h => IsZip h z TI TO .none ∧ IsTupOf2 h TI (.ref i1) (.ref i2) ∧ (∃ x y, IsTupOf2 h TO x y) ∧ srIt i1 r1 i h ∧ srIt i2 r2 i h) where
  mem := by simp
  obj := fun i h st c hc => by
    obtain ⟨hz, hTI, ⟨x, y, hTO⟩, h1, h2⟩ := st
    have e' : c = z ∨ c = TI ∨ c = TO ∨ c = i1 ∨ c = i2 := by simpa using hc
    rcases e' with q | q | q | q | q
    · rw [q]; exact ⟨_, hz, fun v q => nomatch q⟩
    · rw [q]; exact ⟨_, hTI, fun v q => nomatch q⟩
    · rw [q]; exact ⟨_, hTO, fun v q => nomatch q⟩
    · rw [q]; exact srIt_obj h1
    · rw [q]; exact srIt_obj h2
  keep := fun i h h' st k => by
    obtain ⟨hz, hTI, ⟨x, y, hTO⟩, h1, h2⟩ := st
    exact ⟨k z (by simp) _ hz, k TI (by simp) _ hTI, ⟨x, y, k TO (by simp) _ hTO⟩, srIt_keep h1 fun o q => k i1 (by simp) o q, srIt_keep h2 fun o q => k i2 (by simp) o q⟩
  item := by
    intro X hP hw hK hc i pins s σ H E I hf st hg
    subst hP hw hK
    obtain ⟨hz, hTI, ⟨x0, y0, hTO⟩, h1, h2⟩ := st
    obtain ⟨xs, ys, x, y, hqx, hqy, hx, hy⟩ := hg
    obtain ⟨P1, St1, D1, s1, rel1, back1⟩ := sr_draws hc I hqx h1
    obtain ⟨P2, St2, D2, s2, rel2, back2⟩ := sr_draws hc I hqy h2
    have hzl : z < s.heap.objs.size := Heap.lt_size hz
    refine wpAny_pyNext_zipD2_item S D1 D2 hz hTI hTO s1 s2 (List.getElem?_eq_some_iff.mp hx).1 (List.getElem?_eq_some_iff.mp hy).1 fun u u2 h' tk p1 p2 z' TO' n1 n2 hT hsz hk => ?_
    have ru := rel1 _ _ _ p1 hx
    have ru2 := rel2 _ _ _ p2 hy
    refine ⟨_, rfl, wpAny_letOwnedTupleGo_zip (s := { s with heap := h', toks := tk }) z' fun h'' z'' sb => ?_⟩
    have hT2 : h''.get? s.heap.objs.size = some { cls := .type "tuple", data := .seq #[u, u2] } := (sb.2 _ (Nat.ne_of_gt hzl)).trans hT
    have new : ObjOk X.prog X.w (upd H s.heap.objs.size (.tup [x, y])) h'' s.heap.objs.size (.tup [x, y]) :=
      ⟨by show 2 ≤ sizeLine; decide, [u, u2], .cons ru (.cons ru2 .nil), ⟨_, hT2, rfl, _, rfl⟩⟩
    have I1 : Inv X pins σ (upd H s.heap.objs.size (.tup [x, y])) { s with heap := h'', toks := tk } :=
      I.turnedNew (ch := [z, TI, TO, i1, i2]) (fun c o hb q => (sb.2 c (fun q' => hb (by simp [q']))).trans (hk c o (fun q' => hb (by simp [q'])) (fun q' => hb (by simp [q'])) (fun q' => hb (by simp [q'])) (fun q' => hb (by simp [q'])) q)) hf (Nat.le_refl _) new
    refine ⟨.ref s.heap.objs.size, _, I1, rfl, ⟨_, x, y, rfl, I.hok.fresh (Nat.le_refl _), rfl, fun l hl => by rw [sr_inj I hl hqx]; exact hx, fun l hl => by rw [sr_inj I hl hqy]; exact hy⟩, ⟨z'', ?_, ⟨u, u2, ?_⟩, ?_, ?_⟩, fun c hcm => ?_⟩
    · exact (sb.2 _ S.TIz).trans (hk _ _ S.TIz S.TITO S.TIi1 S.TIi2 hTI)
    · exact (sb.2 _ S.TOz).trans TO'
    · exact srIt_keep (back1 _ _ n1) fun o q => (sb.2 _ (Ne.symm S.zi1)).trans q
    · exact srIt_keep (back2 _ _ n2) fun o q => (sb.2 _ (Ne.symm S.zi2)).trans q
    · have hlt : c < s.heap.objs.size := by
        have e' : c = z ∨ c = TI ∨ c = TO ∨ c = i1 ∨ c = i2 := by simpa using hcm
        rcases e' with q | q | q | q | q
        · rw [q]; exact hzl
        · rw [q]; exact Heap.lt_size hTI
        · rw [q]; exact Heap.lt_size hTO
        · rw [q]; obtain ⟨_, e1, _⟩ := srIt_obj h1; exact Heap.lt_size e1
        · rw [q]; obtain ⟨_, e2, _⟩ := srIt_obj h2; exact Heap.lt_size e2
      rw [upd_ne (Nat.ne_of_lt hlt)]
      exact (hf c hcm).1
  done := by
    intro X hP hw hK hc i pins s σ H E I hf st hg
    subst hP hw hK
    obtain ⟨hz, hTI, ⟨x0, y0, hTO⟩, h1, h2⟩ := st
    obtain ⟨xs, ys, hqx, hqy, hend⟩ := hg
    have fin : ∀ {h' : Heap} {tk : Nat}, (∀ c o, c ≠ z → c ≠ TO → c ≠ i1 → c ≠ i2 → s.heap.get? c = some o → h'.get? c = some o) → Inv X pins σ H { s with heap := h', toks := tk } := fun {h' tk} hk =>
      I.turnedL (t' := tk) (ch := [z, TI, TO, i1, i2]) (fun c o hb q => hk c o (fun q' => hb (by simp [q'])) (fun q' => hb (by simp [q'])) (fun q' => hb (by simp [q'])) (fun q' => hb (by simp [q'])) q) hf
    have one : ∀ {r : Sr} {xs : List V} {it : Addr}, srAt X.K H r xs → srIt it r i s.heap → ∃ n P St, Draws X.prog X.w X.A.in1 it (it :: srTl r) n P St ∧ St i s.heap ∧ i ≤ n ∧ (xs.length ≤ i → i = n) := fun {r xs it} hq st => by
      by_cases c : xs.length ≤ i
      · obtain ⟨P, St, D, s0⟩ := sr_over hc I hq st c
        exact ⟨i, P, St, D, s0, Nat.le_refl _, fun _ => rfl⟩
      · obtain ⟨P, St, D, s0, _, _⟩ := sr_draws hc I hq st
        exact ⟨xs.length, P, St, D, s0, by omega, fun z => absurd z c⟩
    obtain ⟨n1, P1, St1, D1, s1, l1, e1⟩ := one hqx h1
    obtain ⟨n2, P2, St2, D2, s2, l2, e2⟩ := one hqy h2
    exact wpAny_pyNext_zipD2_end S D1 D2 hz hTI hTO s1 s2 l1 l2 (hend.imp e1 e2) fun h' tk hk => ⟨rfl, fin hk⟩
  self := fun A i s Q E st h => wpAny_pyIter_zip st.1 h
inductive Sk where
  | lst (a : Addr) | tup (a : Addr) | txt (x : Str)
def Sk.v : Sk → V
  | .lst a => .ref a
  | .tup a => .ref a
  | .txt x => .str x
def Sk.sr (t : PySem.Tok) : Sk → Sr
  | .lst a => .lst a
  | .tup a => .tup a
  | .txt x => .txt x t
theorem Sk.rel {k : Sk} {u : Value} (h : RelV k.v u) : ∃ t, u = srV (k.sr t) := by
  cases k with
  | lst a => cases h; exact ⟨0, rfl⟩
  | tup a => cases h; exact ⟨0, rfl⟩
  | txt x => obtain ⟨t, rfl⟩ := h; exact ⟨t, rfl⟩
def zipD (xs ys : List D) : List D := List.zipWith (fun a b => .tup [a, b]) xs ys
theorem sk_of {c : Ct} {F : Hp} {d : D} {v : V} {ds : List D} (e : itemsD d = some ds) (r : Rep c F d v) : ∃ k : Sk, v = k.v ∧ ∃ vs, Reps c F ds vs ∧ ∀ H t, Same F H → srAt c.K H (k.sr t) vs := by
  cases d with
  | lst es =>
    cases e
    obtain ⟨a, vs, rfl, h1, h2⟩ := r
    exact ⟨.lst a, rfl, vs, h2, fun H t s => SqL.of (s _ _ h1)⟩
  | tup es =>
    cases e
    obtain ⟨a, vs, rfl, h1, h2⟩ := r
    exact ⟨.tup a, rfl, vs, h2, fun H t s => SqT.of (s _ _ h1)⟩
  | str x =>
    cases e
    obtain rfl : v = .str (S x) := r
    refine ⟨.txt (S x), rfl, x.map fun c => V.str (S [c]), ?_, fun H t s => ?_⟩
    · induction x with
      | nil => rfl
      | cons c x ih => exact ⟨_, _, rfl, rfl, ih⟩
    · show _ = _
      simp [S]
  | _ => cases e
theorem itok_zip {c : Ct} {F : Hp} {xs ys : List D} {vs ws : List V} {r1 r2 : Sr} (h1 : Reps c F xs vs) (h2 : Reps c F ys ws) (q1 : ∀ H, Same F H → srAt c.K H r1 vs) (q2 : ∀ H, Same F H → srAt c.K H r2 ws) : ItOk c F (zipD xs ys) (ItzD c.K r1 r2) where
  go := fun i H s hi => by
    simp only [zipD, List.length_zipWith] at hi
    exact ⟨vs, ws, _, _, q1 H s, q2 H s, List.getElem?_eq_getElem (by rw [← h1.length]; omega), List.getElem?_eq_getElem (by rw [← h2.length]; omega)⟩
  stop := fun i H s hi => by
    simp only [zipD, List.length_zipWith] at hi
    exact ⟨vs, ws, q1 H s, q2 H s, by rw [← h1.length, ← h2.length]; omega⟩
  yld := fun i H v H' s hi y => by
    obtain ⟨T, x, y, rfl, hT, rfl, hx, hy⟩ := y
    obtain ⟨d, e1, r1⟩ := h1.getV (hx vs (q1 H s))
    obtain ⟨e, e2, r2⟩ := h2.getV (hy ws (q2 H s))
    refine ⟨.tup [d, e], by simp [zipD, List.getElem?_zipWith, e1, e2], .inr ⟨T, _, _, hT, rfl, rfl, rfl, ?_⟩⟩
    exact ⟨_, _, rfl, r1, _, _, rfl, r2, rfl⟩
def zip2 (Q : List D → Ro → Prop) (ds : List D) (ρ' : Ro) : Prop := ∃ d e xs ys, ds = [d, e] ∧ itemsD d = some xs ∧ itemsD e = some ys ∧ Q (zipD xs ys) ρ'
def diZip (ua : DA) : DI := fun ρ Q => ua ρ (zip2 Q)
section
variable {X : Cx} {m : M} {a b : Expr} {pos p : Pos} {ua : DA}
theorem pdi_zip2 {elts : List Expr} {kk : Nat} {tpos : Pos} (hg : Gl X "zip") (hm : X.mg "zip" = none) (ha : PDA X m [a, b] ua) (hs : starEach [a, b] X.env = (false, eval a X.env) :: starEach [b] X.env := by rfl) (hpl : (backTo pos (starEach [b] X.env)).any (·.1) = false := by rfl) :
    PDI X m (.Tuple elts kk tpos) (.Call (.Name "zip" p) [a, b] [] pos) (diZip ua) := by
  have G : ∀ pins s σ H (R : It → Hp → Prop), Inv X pins σ H s → lI X m (diZip ua) σ H R → wpAny (model X.prog X.w) X.A (eval (.Call (.Name "zip" p) [a, b] [] pos) X.env) (fun v s1 => wpAny (model X.prog X.w) X.A (pyIter v) (PIE X pins σ (.Tuple elts kk tpos) R) X.xe s1) X.xe s := by
    intro pins s σ H R I ⟨ρ, F, Sx, t⟩
    refine Call_ (ld_blt I hg hm boot_zip (callWith_type1 (thn (ha.pe.run pos pins s σ H (fun vs H1 => ∃ k1 k2 xs ys, vs = [Sk.v k1, Sk.v k2] ∧ ∀ t1 t2, srAt X.K H1 (k1.sr t1) xs ∧ srAt X.K H1 (k2.sr t2) ys ∧ R (ItzD X.K (k1.sr t1) (k2.sr t2)) H1) I ⟨ρ, F, Sx, ha.mono _ _ _ (fun ds ρ' q vs H' F' s S' r => ?_) t⟩) fun us s1 ⟨vs, H1, I1, r1, q⟩ => ?_) hs hpl))
    · obtain ⟨d, e, xs, ys, rfl, e1, e2, q⟩ := q
      obtain ⟨v, r1, rfl, r, w, r2, rfl, r', r3⟩ := r
      obtain rfl : r2 = [] := r3
      obtain ⟨k1, rfl, vs, p1, q1⟩ := sk_of e1 r
      obtain ⟨k2, rfl, ws, p2, q2⟩ := sk_of e2 r'
      exact ⟨k1, k2, vs, ws, rfl, fun t1 t2 => ⟨q1 _ _ S'.gr.fs, q2 _ _ S'.gr.fs, q H' F' _ s S' (itok_zip p1 p2 (fun H s => q1 H t1 s) fun H s => q2 H t2 s)⟩⟩
    · obtain ⟨k1, k2, xs, ys, ex, q⟩ := q
      subst ex
      rcases r1 with _ | ⟨r, rr⟩
      rcases rr with _ | ⟨r', rr⟩
      cases rr
      obtain ⟨t1, rfl⟩ := Sk.rel r
      obtain ⟨t2, rfl⟩ := Sk.rel r'
      obtain ⟨hqx, hqy, q⟩ := q t1 t2
      generalize k1.sr t1 = r1 at *
      generalize k2.sr t2 = r2 at *
      obtain ⟨o1, H1b, B1, b1, f1, g1⟩ := sr_begins I1 hqx
      obtain ⟨o2, H2b, B2, b2, f2, g2⟩ := sr_begins I1 hqy
      refine zip_begins2 B1 B2 b1 b2 fun h' hz hTI hTO e1 e2 hsz hk => wpAny_pyIter_zip hz ?_
      have I2 : Inv X pins σ H1 { s1 with heap := h' } := I1.kept (t' := s1.toks) hk
      have n1 : s1.heap.objs.size ∉ srTl r1 := fun z => Nat.lt_irrefl _ (f1 _ z)
      have n2 : s1.heap.objs.size + 1 ∉ srTl r2 := fun z => Nat.not_succ_lt_self (f2 _ z)
      refine ⟨s1.heap.objs.size + 4, [s1.heap.objs.size + 4, s1.heap.objs.size + 2, s1.heap.objs.size + 3, s1.heap.objs.size, s1.heap.objs.size + 1], _, _, H1, rfl, I2, turn_zipD r1 r2 (zip_sep2 f1 f2), ⟨hz, hTI, ⟨_, _, hTO⟩, g1 _ _ e1 n1, g2 _ _ e2 n2⟩, fun c hcm => ?_, q⟩
      have e' : c = s1.heap.objs.size + 4 ∨ c = s1.heap.objs.size + 2 ∨ c = s1.heap.objs.size + 3 ∨ c = s1.heap.objs.size ∨ c = s1.heap.objs.size + 1 := by simpa using hcm
      have hle : s1.heap.objs.size ≤ c := by
        rcases e' with z | z | z | z | z
        · rw [z]; exact Nat.le_add_right _ _
        · rw [z]; exact Nat.le_add_right _ _
        · rw [z]; exact Nat.le_add_right _ _
        · rw [z]; exact Nat.le_refl _
        · rw [z]; exact Nat.le_add_right _ _
      exact I1.fpOk hle (I1.hok.fresh hle)
  exact ⟨⟨G⟩, fun ρ Q Q' i => ha.mono _ _ _ fun ds ρ' ⟨d, e, xs, ys, e0, e1, e2, q⟩ => ⟨d, e, xs, ys, e0, e1, e2, i _ _ q⟩⟩
theorem s_izip {ρ : Ro} {R : List D → Ro → Prop} (h : ua ρ (zip2 R)) : diZip ua ρ R := h
theorem s_zip2 {d e : D} {xs ys : List D} {ρ : Ro} {R : List D → Ro → Prop} (h1 : itemsD d = some xs) (h2 : itemsD e = some ys) (h : R (zipD xs ys) ρ) : zip2 R [d, e] ρ := ⟨d, e, xs, ys, rfl, h1, h2, h⟩
theorem zipD_get {xs ys : List D} {i : Nat} {d : D} (h : (zipD xs ys)[i]? = some d) : ∃ x y, xs[i]? = some x ∧ ys[i]? = some y ∧ d = .tup [x, y] := by
  simp only [zipD, List.getElem?_zipWith] at h
  cases e1 : xs[i]? with
  | none => rw [e1] at h; cases h
  | some x =>
    cases e2 : ys[i]? with
    | none => rw [e1, e2] at h; cases h
    | some y => rw [e1, e2] at h; exact ⟨x, y, rfl, rfl, (Option.some.inj h).symm⟩
theorem zipD_len {xs ys : List D} : (zipD xs ys).length = min xs.length ys.length := by simp [zipD]
end
end DL
namespace DL
open PySem PySem.Spec L2 PyProof.Rows L2H
section
open L2N
abbrev Cl := Value × (Addr → Value → Option Addr → TS)
def wAll (K : Frag) (i : Nat) (Wout : WX) (D : L2.Ends) : List Cl → WX
  | [] => Wout
  | (c, ts) :: r => fun cls d σ H => ∃ b, PySem.W.exmOne K cls c = some b ∧
      (b = true → ∀ a, H a = none → ts a cls d { nx := fun σ' H' => D.nx (σ'.set i none) H', rt := D.rt, bk := fun σ' H' => D.bk (σ'.set i none) H', ct := fun σ' H' => D.ct (σ'.set i none) H' } (σ.set i (some (.ref a))) H) ∧ (b = false → wAll K i Wout D r cls d σ H)
inductive ClsOk (X : Cx) (n : Str) : List ExceptHandler → List Cl → Prop
  | nil : ClsOk X n [] []
  | cons {x : Str} {c : Value} {ts : Addr → Value → Option Addr → TS} {b0 : Stmt} {su : List Stmt} {np ps : Pos} {hs : List ExceptHandler} {l : List Cl} (hc : Names X x c)
      (hsu : ∀ (a : Addr) (oe : Obj) (cls : Value) (d : Option Addr) (pn : List (Addr × Obj)), Zn cls d oe → (∃ vs, oe.data = .fields vs) → PSs (X.suite a ((a, oe) :: pn)) (b0 :: su) (ts a cls d)) (r : ClsOk X n hs l) :
      ClsOk X n (.ExceptHandler (some (.Name x np)) (some n) (b0 :: su) ps :: hs) ((c, ts) :: l)
theorem ps_try_all {X : Cx} {n : Str} {i : Nat} {body : List Stmt} {h0 : ExceptHandler} {hds : List ExceptHandler} {l : List Cl} {pos : Pos} {tb : WX → TS} {Wout : WX} (hst : X.stack = X.env :: X.outer) (hfm : X.env.frame = some X.env.locals) (hN : X.N.Nodup) (hi : X.N[i]? = some n) (hln : X.env.kindOf n = some .local) (tk : L2N.Takes X Wout)
    (hb : ∀ (W : WX) (pn : List (Addr × Obj)) (xe : Value → Shared → Prop), L2N.Takes (X.tr pn xe) W → PassesOwn (model X.prog X.w) X.A X.env xe → PSs (X.tr pn xe) body (tb W))
    (hh : ClsOk X n (h0 :: hds) l) : PS X (.Try body (h0 :: hds) [] [] pos) (fun D σ H => tb (wAll X.K i Wout D l) D σ H) := by
  refine ⟨fun pins s σ H D I h => ?_⟩
  have ok := I.ok
  have fr0 : X.A.frames = some (X.env :: X.outer) := by rw [ok.frames, hst]
  have loc : Loc X.env.scope n := .inl hln
  refine wpAny_Try_except ?_
  refine wpAny_mono ((hb (wAll X.K i Wout D l) (X.pn ++ pins) (fun e s₁ => wpAny (model X.prog X.w) X.A (noteFrame e X.env) (fun _ s₂ => wpAny (model X.prog X.w) X.A (setFlight e none) (fun _ s₃ => wpAny (model X.prog X.w) X.A (handleBy e X.env (h0 :: hds)) (SP X pins D) X.xe s₃) X.xe s₂) X.xe s₁)
    (fun u s' xx => ?_) PassesOwn.looking).run [] s σ H D (I.toTry _) h) (fun f s1 hsp => ?_) (fun e s1 he => he)
  · obtain ⟨a, B, s0, pins', σ', H', cls, d, rfl, J', nb, up, sky, na, os, ag, w⟩ := xx
    have J : Inv X pins σ' H' s0 := J'.ofTry ok
    have sky2 : Sky B (X.env :: X.outer) a (Zn cls d) X.env.locals s'.heap := by rw [← hst]; exact sky
    show wpAny (model X.prog X.w) X.A (noteFrame (.ref a) X.env) _ _ _
    refine Sky.land Zn.steady fr0 hfm sky2 fun h3 fl3 up3 => ?_
    have J3 : Inv X pins σ' H' { s' with heap := h3 } := J.landed nb fl3.1 (up.trans up3) os ag
    obtain ⟨o3, v3, g3, z3, d3⟩ := fl3.there
    have nfr : a ∉ frs (X.env :: X.outer) := fun hm => by
      obtain ⟨_, o', e', hnf⟩ := fl3.2.2.1.mem hm
      rw [g3] at e'; cases e'
      exact hnf _ d3
    have nL : a ≠ X.env.locals := fun z => nfr (List.mem_filterMap.mpr ⟨X.env, List.mem_cons_self, by rw [hfm, z]⟩)
    have nF : a ∉ X.fs := fun hm => by
      obtain ⟨e, he, q⟩ := List.mem_filterMap.mp hm
      exact nfr (List.mem_filterMap.mpr ⟨e, List.mem_cons_of_mem _ he, q⟩)
    have S3 := J3.suite g3 d3 na nL nF
    have go : ∀ {hs : List ExceptHandler} {l' : List Cl}, ClsOk X n hs l' → wAll X.K i Wout D l' cls d σ' H' → wpAny (model X.prog X.w) X.A (handleBy (.ref a) X.env hs) (SP X pins D) X.xe { s' with heap := h3 } := by
      intro hs l' hk
      induction hk with
      | nil =>
        intro w
        refine wpAny_handleBy_nil ?_
        obtain ⟨k1, k2, k3, oe, vs, T, oT, ts', he, hz, hd, h1, hr⟩ := id fl3
        unfold PySem.passOn
        refine wpAny_bind (wpAny_field he hd h1 ?_)
        rw [if_neg (show ¬ ((Value.ref T == Value.none) = true) from by simp)]
        have fin : wpAny (model X.prog X.w) X.A (setFlight (.ref a) X.env.frame) (fun _ s4 => wpAny (model X.prog X.w) X.A (throw (.ref a) : Sem Flow) (SP X pins D) X.xe s4) X.xe { s' with heap := h3 } := by
          rw [hfm]
          refine HandSPX.setFlight_upZ fl3 fun h4 hh4 up4 => wpAny_throw (tk _ _ ?_)
          exact ⟨a, B, s0, pins, σ', H', cls, d, rfl, J, nb, (up.trans up3).trans up4, .inr (.inr (by rw [hst]; exact hh4)), na, os, ag, w⟩
        first
          | exact wpAny_bind (wpAny_pure (wpAny_bind fin))
          | exact wpAny_bind fin
      | @cons x c ts b0 su np ps hs2 l2 hc hsu r ih =>
        intro w
        obtain ⟨b, hb1, hyes, hno⟩ := w
        refine wpAny_handleBy_cons (codeAny_handlers_test ?_) (by intro q; cases q)
        have LT : PySem.W.Looks (model X.prog X.w) h3 (typeOf (.ref a)) cls := fun A Q E s k q => wpAny_typeOf_ref (k _ _ g3) (by rw [z3.1]; exact q)
        have LM := PySem.W.exm_one (M := model X.prog X.w) (J3.kIn) LT hb1
        have asked : ∀ {Q : Value → Shared → Prop} {E : Value → Shared → Prop}, Q c { s' with heap := h3 } → wpAny (model X.prog X.w) (X.A.mark (some (.ref a))) (eval (.Name x np) X.env) Q E { s' with heap := h3 } := fun {Q E} q => by
          obtain ⟨hg, hdbg, hm | ⟨hm, hv, hnn⟩⟩ := hc
          · exact ld_glob (X := X.suite a ((a, o3) :: (X.pn ++ pins))) S3 hg hm q hdbg
          · exact ld_blt (X := X.suite a ((a, o3) :: (X.pn ++ pins))) S3 hg hm hv q hnn hdbg
        refine asked (LM.here ?_)
        cases b with
        | true =>
          refine codeAny_handlers_suite_as ?_
          refine HandSPX.lands_againZ fl3 fun h4 fl4 up4 => ?_
          have J4 : Inv X pins σ' H' { s' with heap := h4 } := J.landed nb fl4.1 ((up.trans up3).trans up4) os ag
          obtain ⟨o4, v4, g4, z4, d4⟩ := fl4.there
          have S4 := J4.suite g4 d4 na nL nF
          refine store_ok (X := X.suite a ((a, o4) :: (X.pn ++ pins))) (v := .ref a) S4 hN hi loc rfl (fun s5 S5 => ?_) (.inr hln)
          refine wpAny_mono ((hsu a o4 cls d (X.pn ++ pins) z4 ⟨_, d4⟩).run [] s5 _ H' _ S5 (hyes rfl a na)) (fun f s6 hsp => ?_) (fun _ _ z => False.elim z)
          have ends : ∀ {σ6 : L2.St} {H6 : Hp} {Q : Shared → Prop}, Inv (X.suite a ((a, o4) :: (X.pn ++ pins))) [] σ6 H6 s6 → (∀ s7, Inv X pins (σ6.set i none) H6 s7 → Q s7) → wpAny (model X.prog X.w) X.A (do bindName X.env n .none; unbindBehindTheSuite X.env n ps) (fun _ s7 => Q s7) X.xe s6 := fun {σ6 H6 Q} S6 hq => gone_ok (S6.unsuite ok) hN hi hln hq
          cases f with
          | next =>
            obtain ⟨σ6, H6, S6, q6⟩ := hsp
            exact ends S6 fun s7 J7 => ⟨_, _, J7, q6⟩
          | brk =>
            obtain ⟨σ6, H6, S6, q6⟩ := hsp
            exact ends S6 fun s7 J7 => ⟨_, _, J7, q6⟩
          | cont =>
            obtain ⟨σ6, H6, S6, q6⟩ := hsp
            exact ends S6 fun s7 J7 => ⟨_, _, J7, q6⟩
          | ret u =>
            obtain ⟨v6, σ6, H6, S6, r6, q6⟩ := hsp
            exact ends S6 fun s7 J7 => ⟨_, _, _, J7, r6, q6⟩
        | false =>
          show wpAny _ X.A (handleBy (.ref a) X.env hs2) _ _ _
          exact ih (hno rfl)
    exact go hh w
  · cases f with
    | next =>
      obtain ⟨σ', H', J', q⟩ := hsp
      exact wpAny_execs_nil ⟨σ', H', J'.ofTry ok, q⟩
    | brk =>
      obtain ⟨σ', H', J', q⟩ := hsp
      exact ⟨σ', H', J'.ofTry ok, q⟩
    | cont =>
      obtain ⟨σ', H', J', q⟩ := hsp
      exact ⟨σ', H', J'.ofTry ok, q⟩
    | ret u =>
      obtain ⟨v, σ', H', J', r, q⟩ := hsp
      exact ⟨v, σ', H', J'.ofTry ok, r, q⟩
end
abbrev ClD := Value × TsD
def wTryL (K : Frag) (i : Nat) (wout : XW) (E : DEn) : List ClD → XW
  | [] => wout
  | (c, ts) :: r => fun C ns ds ρ => ∃ b, PySem.W.exmOne K (.ref C) c = some b ∧
      (b = true → ∀ a d, ∃ E0 : DEn, E0.le (cleanE E i) ∧ ts a (.ref C) d E0 (ρ.set i (some (false, .exc a d C ns ds)))) ∧ (b = false → wTryL K i wout E r C ns ds ρ)
def dTryL (tb : XW → DS) (K : Frag) (i : Nat) (l : List ClD) (wout : XW) : DS := fun E ρ => ∃ (wd : XW) (E0 : DEn), E0.le E ∧ (∀ C ns ds ρ', wd C ns ds ρ' → wTryL K i wout E l C ns ds ρ') ∧ tb wd E0 ρ
inductive DCls (X : Cx) (m : M) (n : Str) : List ExceptHandler → List ClD → Prop
  | nil : DCls X m n [] []
  | cons {x : Str} {c : Value} {ts : TsD} {b0 : Stmt} {su : List Stmt} {np ps : Pos} {hs : List ExceptHandler} {l : List ClD} (hc : Names X x c)
      (hsu : ∀ (a : Addr) (oe : Obj) (cls : Value) (d : Option Addr) (pn : List (Addr × Obj)), L2N.Zn cls d oe → (∃ vs, oe.data = .fields vs) → PDSs (X.suite a ((a, oe) :: pn)) m (b0 :: su) (ts a cls d)) (r : DCls X m n hs l) :
      DCls X m n (.ExceptHandler (some (.Name x np)) (some n) (b0 :: su) ps :: hs) ((c, ts) :: l)
theorem DCls.ok {X : Cx} {m : M} {n : Str} {hs : List ExceptHandler} {l : List ClD} (h : DCls X m n hs l) : ClsOk X n hs (l.map fun p => (p.1, fun a cls d => fun D σ H => lS X m (p.2 a cls d) D σ H)) := by
  induction h with
  | nil => exact .nil
  | cons hc hsu r ih => exact .cons hc (fun a oe cls d pn z hv => (hsu a oe cls d pn z hv).ps) ih
theorem DCls.mono {X : Cx} {m : M} {n : Str} {hs : List ExceptHandler} {l : List ClD} (h : DCls X m n hs l) : ∀ p ∈ l, ∀ (a : Addr) (C : Addr) (d : Option Addr) (E E' : DEn) (ρ : Ro), E.le E' → p.2 a (.ref C) d E ρ → p.2 a (.ref C) d E' ρ := by
  induction h with
  | nil => intro p hp; cases hp
  | cons hc hsu r ih =>
    intro p hp a C d E E' ρ le t
    rcases List.mem_cons.mp hp with rfl | hp
    · exact (hsu a ⟨.ref C, d, .fields #[.none, .none, .none], #[]⟩ (.ref C) d [] ⟨rfl, rfl, fun vs hv => by cases hv; rfl⟩ ⟨_, rfl⟩).mono _ _ _ le t
    · exact ih p hp a C d E E' ρ le t
theorem wTryL_le {K : Frag} {i : Nat} {wout : XW} {E E' : DEn} (le : E.le E') {C : Addr} {ns : List Str} {ds : List D} {ρ : Ro} : ∀ {l : List ClD}, wTryL K i wout E l C ns ds ρ → wTryL K i wout E' l C ns ds ρ
  | [], h => h
  | (c, ts) :: r, ⟨b, e, h1, h2⟩ => ⟨b, e, fun z a d => let ⟨E1, l1, t1⟩ := h1 z a d; ⟨E1, l1.trans (cleanE_le i le), t1⟩, fun z => wTryL_le le (h2 z)⟩
theorem pds_try_all {X : Cx} {m : M} {n : Str} {i : Nat} {body : List Stmt} {h0 : ExceptHandler} {hds : List ExceptHandler} {l : List ClD} {pos : Pos} {tb : XW → DS} {wout : XW} (hst : X.stack = X.env :: X.outer) (hfm : X.env.frame = some X.env.locals) (hN : X.N.Nodup) (hi : X.N[i]? = some n) (hln : X.env.kindOf n = some .local) (tk : L2N.Takes X (lW X m wout))
    (hb : ∀ (m' : M) (wd : XW) (pn : List (Addr × Obj)) (xe : Value → Shared → Prop), L2N.Takes (X.tr pn xe) (lW (X.tr pn xe) m' wd) → PassesOwn (model X.prog X.w) X.A X.env xe → PDSs (X.tr pn xe) m' body (tb wd))
    (hh : DCls X m n (h0 :: hds) l) : PDS X m (.Try body (h0 :: hds) [] [] pos) (dTryL tb X.K i l wout) := by
  have hmono := hh.mono
  refine ⟨PS.imp (ps_try_all (tb := fun W D σ H => ∃ (m' : M) (wd : XW) (E0 : DEn) (ρ : Ro) (F : Hp), (∀ cls d σ H, lW X m' wd cls d σ H → W cls d σ H) ∧ Sm X m' σ H ρ F ∧ E0.le (lEn X m' D F) ∧ tb wd E0 ρ) (Wout := lW X m wout) hst hfm hN hi hln tk
      (fun W pn xe tkW hp => ⟨fun pins s σ H D I ⟨m', wd, E0, ρ, F, iW, S, le, t⟩ => ?_⟩) hh.ok) fun D σ H ⟨ρ, F, S, wd, E0, le, iw, t⟩ => ?_, fun E E' ρ le ⟨wd, E0, le0, iw, t⟩ => ⟨wd, E0, le0.trans le, fun C ns ds ρ' z => wTryL_le le (iw C ns ds ρ' z), t⟩⟩
  · have P := hb m' wd pn xe (tkW.imp iW) hp
    exact P.ps.run pins s σ H D I ⟨ρ, F, S, P.mono _ _ _ le t⟩
  · refine ⟨{ m with F0 := F }, wd, E0, ρ, F, fun cls d σ' H' ⟨C, ns, ds, ρ', F', xd, S', hw⟩ => ?_, sim_on S, le.trans ⟨fun ρ2 q σ2 H2 F2 s2 S2 => q σ2 H2 F2 s2 (sim_back S S2), fun d2 ρ2 q v σ2 H2 F2 S2 r => q v σ2 H2 F2 (sim_back S S2) r, fun ρ2 q σ2 H2 F2 s2 S2 => q σ2 H2 F2 s2 (sim_back S S2), fun ρ2 q σ2 H2 F2 s2 S2 => q σ2 H2 F2 s2 (sim_back S S2)⟩, t⟩
    have S3 := sim_back S S'
    have sF : Same F F' := S'.gr.f0
    have hw2 := iw C ns ds ρ' hw
    have xd0 := xd
    obtain ⟨rfl, _⟩ := xd
    clear iw hh hw t le
    have go : ∀ {l' : List ClD}, (∀ p ∈ l', ∀ (a : Addr) (C : Addr) (d : Option Addr) (E E' : DEn) (ρ : Ro), E.le E' → p.2 a (.ref C) d E ρ → p.2 a (.ref C) d E' ρ) → wTryL X.K i wout (lEn X m D F) l' C ns ds ρ' → wAll X.K i (lW X m wout) D (l'.map fun p => (p.1, fun a cls d => fun D σ H => lS X m (p.2 a cls d) D σ H)) (.ref C) d σ' H' := by
      intro l' hm
      induction l' with
      | nil => exact fun h => ⟨C, ns, ds, ρ', F', xd0, S3, h⟩
      | cons p r ih =>
        obtain ⟨c, ts⟩ := p
        rintro ⟨b, e, h1, h2⟩
        refine ⟨b, e, fun z a na => ?_, fun z => ih (fun p hp => hm p (List.mem_cons_of_mem _ hp)) (h2 z)⟩
        obtain ⟨E1, le1, t1⟩ := h1 z a d
        refine ⟨_, F', S3.set xd0.exc, hm _ List.mem_cons_self _ _ _ _ _ _ (le1.trans ⟨fun ρ2 q σ2 H2 F2 s2 S2 => ?_, fun d2 ρ2 q => q, fun ρ2 q σ2 H2 F2 s2 S2 => ?_, fun ρ2 q σ2 H2 F2 s2 S2 => ?_⟩) t1⟩
        · exact q _ H2 F2 (sF.trans s2) (S2.forget i)
        · exact q _ H2 F2 (sF.trans s2) (S2.forget i)
        · exact q _ H2 F2 (sF.trans s2) (S2.forget i)
    exact go hmono hw2
theorem s_tryL {tb : XW → DS} {K : Frag} {i : Nat} {l : List ClD} {wout : XW} {E : DEn} {ρ : Ro} (h : tb (wTryL K i wout E l) E ρ) : dTryL tb K i l wout E ρ := ⟨_, _, DEn.le.refl E, fun _ _ _ _ z => z, h⟩
theorem s_caughtL {K : Frag} {c : Value} {i : Nat} {ts : TsD} {r : List ClD} {wout : XW} {E : DEn} {C : Addr} {ns : List Str} {ds : List D} {ρ : Ro} (e : PySem.W.exmOne K (.ref C) c = some true) (h : ∀ a d, ts a (.ref C) d (cleanE E i) (ρ.set i (some (false, .exc a d C ns ds)))) : wTryL K i wout E ((c, ts) :: r) C ns ds ρ :=
  ⟨true, e, fun _ a d => ⟨_, DEn.le.refl _, h a d⟩, fun z => nomatch z⟩
theorem s_passedL {K : Frag} {c : Value} {i : Nat} {ts : TsD} {r : List ClD} {wout : XW} {E : DEn} {C : Addr} {ns : List Str} {ds : List D} {ρ : Ro} (e : PySem.W.exmOne K (.ref C) c = some false) (h : wTryL K i wout E r C ns ds ρ) : wTryL K i wout E ((c, ts) :: r) C ns ds ρ := ⟨false, e, (fun z => nomatch z), fun _ => h⟩
end DL
namespace DL
open PySem PySem.Spec L2 PyProof.Rows L2H
section
variable {X : Cx} {CX : CXT} {k : Nat} {f C : Addr} {fd : FuncData} {ps : List Str} {sp : Sp} {E : L2.St → XK} {x mm : Str} {p pos apos : Pos} {e o : Expr} {es : List Expr} {ta : TE} {t : TA}
def tMethT (C : Addr) (mm : Str) (sp : Sp) (E : L2.St → XK) (ta : TE) (t : TA) : TE := fun σ H Q => ta σ H fun x H1 => ∃ a dx fs, x = .ref a ∧ H1 a = some (.ins C dx fs) ∧ fs.lookup mm = none ∧ t σ H1 fun vs H2 => sp (.ref a :: vs) H2 Q (E σ)
theorem pe_methT {pl : Sem Bool} (he : PE X o ta) (c : Cls X.K C) (hm : Meth X.K C mm f) (F : FnOk X.prog X.w X.K X.mg X.base CX k f fd ps sp) (hr : Room k X.A) (hb : Binds X.K fd ps []) (hx : ∀ σ, PassesAt CX X σ (E σ)) (ha : PA X (e :: es) t)
    (hst : starEach (e :: es) X.env = (false, eval e X.env) :: starEach es X.env := by rfl) (hpl : (backTo pos (starEach es X.env)).any (·.1) = false := by rfl)
    (ht : eval (.Call (.Attribute o mm apos) (e :: es) [] pos) X.env = (do let ov ← eval o X.env; standAt apos.atName; let (f, first) ← holding [ov] (getMethod ov mm pl); callWith pos f first (backTo pos (starEach (e :: es) X.env)) (backToKw pos (keywordEach [] X.env))) := by rfl) :
    PE X (.Call (.Attribute o mm apos) (e :: es) [] pos) (tMethT C mm sp E ta t) := by
  refine ⟨fun pins s σ H Q I h => ?_⟩
  refine PySem.W.methodCall_KW (pl := pl) (thn (he.run pins s σ H _ I h) fun u s1 ⟨x, H1, I1, rx, a, dx, fs, ex, ea, l, q⟩ => ?_) ht
  subst ex
  obtain rfl : u = Value.ref a := rx
  refine getmeth_ok I1 ea c hm l (PySem.W.callWith_K (first := [.ref a]) (h₀ := X.base) I.ok.mod.kin hm.kp (thn (ha.run pos pins s1 σ H1 _ I1 q) fun us s2 ⟨vs, H2, I2, r, q2⟩ => ⟨I2.kIn, ?_⟩) hst hpl)
  exact L2.run_fnS (us := .ref a :: us) (vs := .ref a :: vs) F hr hb (hx σ) I2 (.cons rfl r) q2
theorem pe_methT0 {pl : Sem Bool} (he : PE X o ta) (c : Cls X.K C) (hm : Meth X.K C mm f) (F : FnOk X.prog X.w X.K X.mg X.base CX k f fd ps sp) (hr : Room k X.A) (hb : Binds X.K fd ps []) (hx : ∀ σ, PassesAt CX X σ (E σ))
    (ht : eval (.Call (.Attribute o mm apos) [] [] pos) X.env = (do let ov ← eval o X.env; standAt apos.atName; let (f, first) ← holding [ov] (getMethod ov mm pl); callWith pos f first (backTo pos (starEach [] X.env)) (backToKw pos (keywordEach [] X.env))) := by rfl) :
    PE X (.Call (.Attribute o mm apos) [] [] pos) (tMethT C mm sp E ta tNil) := by
  refine ⟨fun pins s σ H Q I h => ?_⟩
  refine PySem.W.methodCall_KW (pl := pl) (thn (he.run pins s σ H _ I h) fun u s1 ⟨x, H1, I1, rx, a, dx, fs, ex, ea, l, q⟩ => ?_) ht
  subst ex
  obtain rfl : u = Value.ref a := rx
  exact getmeth_ok I1 ea c hm l (PySem.W.callWith_K0 (first := [.ref a]) I1.kIn hm.kp (L2.run_fnS (us := [.ref a]) (vs := [.ref a]) F hr hb (hx σ) I1 (.cons rfl .nil) q))
theorem run_makeT {pins : List (Addr × Obj)} {σ : L2.St} {H : Hp} {s : Shared} {Q : VK} {us : List Value} {vs : List V} {E : XK} (Mc : Mk X.K C f) (F : FnOk X.prog X.w X.K X.mg X.base CX k f fd ps sp) (hr : Room (k + 1) X.A) (hb : Binds X.K fd ps [])
    (hx : PassesAt CX X σ E) (I : Inv X pins σ H s) (r : Vals vs us)
    (h : ∀ x dx, H x = none → H dx = none → dx ≠ x → sp (.ref x :: vs) (upd (upd H dx (.own x)) x (.ins C dx [])) (fun v H2 => v = .non ∧ Q (.ref x) H2) E) :
    wpAny (model X.prog X.w) X.A (call (.ref C) us) (EP X pins σ Q) X.xe s := by
  have hq := h (s.heap.objs.size + 1) s.heap.objs.size (I.hok.fresh (Nat.le_succ _)) (I.hok.fresh (Nat.le_refl _)) (Nat.ne_of_lt (Nat.lt_succ_self _))
  have I2 := Inv.made (C := C) I
  have r2 : Vals (V.ref (s.heap.objs.size + 1) :: vs) (Value.ref (s.heap.objs.size + 1) :: us) := .cons rfl r
  have hl : (Value.ref (s.heap.objs.size + 1) :: us).length = ps.length := by rw [← r2.length]; exact F.len _ _ _ _ hq
  have b := hb s (Value.ref (s.heap.objs.size + 1) :: us)
  have b2 := hb _ (Value.ref (s.heap.objs.size + 1) :: us) I2.kIn (by rw [List.append_nil]; exact hl)
  rw [List.append_nil] at b2
  refine wpAny_call (make_map (f := f) I.kIn Mc.makes Mc.init (beq_iff_eq.mp Mc.fn) (codeAny_mono (F.run _ X.stack _ _ ⟨Value.ref (s.heap.objs.size + 1) :: us, []⟩ (Value.ref (s.heap.objs.size + 1) :: us) _ _ E (hr.make C us [])
    (I2.env0.make C us []) b2 r2 hq) fun r s' hq' => ?_))
  cases r with
  | error e => exact hx pins _ _ e s' I2 hq'
  | ok fl =>
    cases fl with
    | ret u =>
      obtain ⟨v, H', I3, rv, ev, q3⟩ := I2.after hq'
      subst ev
      exact ⟨rv, ⟨V.ref (s.heap.objs.size + 1), H', I3, rfl, q3⟩⟩
    | next => exact hq'.elim
    | brk => exact hq'.elim
    | cont => exact hq'.elim
def tMakeT (C : Addr) (sp : Sp) (E : L2.St → XK) (t : TA) : TE := fun σ H Q => t σ H fun vs H1 => ∀ x dx, H1 x = none → H1 dx = none → dx ≠ x → sp (.ref x :: vs) (upd (upd H1 dx (.own x)) x (.ins C dx [])) (fun v H2 => v = .non ∧ Q (.ref x) H2) (E σ)
theorem pe_makeT (Mc : Mk X.K C f) (F : FnOk X.prog X.w X.K X.mg X.base CX k f fd ps sp) (hr : Room (k + 1) X.A) (hg : Gl X x) (hm : X.mg x = some (.ref C)) (hb : Binds X.K fd ps []) (hx : ∀ σ, PassesAt CX X σ (E σ))
    (ha : PA X (e :: es) t) (hdb : (x == ("__debug__" : Str)) = false := by decide) (he : starEach (e :: es) X.env = (false, eval e X.env) :: starEach es X.env := by rfl) (hpl : (backTo pos (starEach es X.env)).any (·.1) = false := by rfl) :
    PE X (.Call (.Name x p) (e :: es) [] pos) (tMakeT C sp E t) :=
  ⟨fun pins s σ H Q I h => wpAny_Call_Name_kw (ld_glob I hg hm (PySem.W.callWith_K (h₀ := X.base) I.ok.mod.kin Mc.kp (thn (ha.run pos pins s σ H _ I h) fun us s1 ⟨vs, H1, I1, r, q⟩ => ⟨I1.kIn, run_makeT Mc F hr hb (hx σ) I1 r q⟩) he hpl) hdb)⟩
end
def OkXM (P : Program) (w : World) (K : Frag) (mg : Str → Option Value) (base : Heap) (C : Addr) (x : Str) (k : Nat) (ps : List Str) (sd : SpD) : Prop :=
  ∃ f fd, FnOk P w K mg base (L2N.CX P w) k f fd ps (spOf K sd) ∧ Binds K fd ps [] ∧ Meth K C x f
theorem exc_at {X : Cx} {m : M} {σ : L2.St} {H F : Hp} {ρ : Ro} {wd : XW} (S : Sm X m σ H ρ F) {C : Addr} {ns : List Str} {zs : List D} (hw : wd C ns zs ρ) : excEnd (m.c X) F H (L2.WE (lW X m wd) σ) C ns zs :=
  ⟨fun z H' F' g => ⟨C, ns, zs, ρ, F', ⟨rfl, .inl ⟨z, rfl⟩⟩, S.grow g, hw⟩, fun z dd ws H' F' g h1 h2 h3 => ⟨C, ns, zs, ρ, F', ⟨rfl, .inr ⟨z, dd, ws, rfl, h1, h2, h3⟩⟩, S.grow g, hw⟩⟩
theorem tok_here {X : Cx} {m : M} {σ : L2.St} {H F : Hp} {ρ : Ro} (S : Sm X m σ H ρ F) : ∀ a, m.st = some a → ∃ o, H a = some o := fun a n => by
  obtain ⟨_, _, _, _, _, _, _, h, _⟩ := S.gr.tok a n
  exact ⟨_, h⟩
section
variable {X : Cx} {m : M} {e o : Expr} {es : List Expr} {to : DE} {ua : DA} {pos p apos : Pos} {x : Str} {k j : Nat} {ps : List Str} {sd : SpD} {wd : XW} {C : Addr}
def dMethX (C : Addr) (x : Str) (sd : SpD) (wd : XW) (to : DE) (ua : DA) : DE := fun ρ Q => to ρ fun d ρ1 => (∃ ns vs, d = .ins C ns vs ∧ x ∉ ns) ∧ ua ρ1 fun ds ρ2 => sd.run (d :: ds) (fun z => Q z ρ2) fun D ns vs => wd D ns vs ρ2
theorem methX_imp {ess : List Expr} (ho : PD X m o to) (ha : PDA X m ess ua) (σ : L2.St) (H : Hp) (Q : VK) (h : lE X m (dMethX C x sd wd to ua) σ H Q) : tMethT C x (spOf X.K sd) (L2.WE (lW X m wd)) (lE X m to) (lA X m ua) σ H Q := by
  obtain ⟨ρ, F, Sx, t⟩ := h
  refine ⟨ρ, F, Sx, ho.mono _ _ _ (fun d ρ1 q v H1 F1 s1 S1 r1 => ?_) t⟩
  obtain ⟨⟨ns, vs, rfl, nx⟩, q⟩ := q
  obtain ⟨a, dx, ws, rfl, g1, g2, g3⟩ := id r1
  refine ⟨a, dx, _, rfl, S1.gr.fs _ _ g1, lookF_none nx, ρ1, F1, S1, ha.mono _ _ _ (fun ds ρ2 q us H2 F2 s2 S2 r2 => ?_) q⟩
  exact ⟨F2, m.st, _ :: ds, S2.gr.fs, S2.gr.tok, tok_here S2, ⟨_, _, rfl, r1.mono s2, r2⟩, sd.mono _ _ _ _ _ (fun d q v H' F' g rv => q v H' F' (s1.trans (s2.trans g.f0)) (S2.grow g) rv) (fun D ns zs hw => exc_at S2 hw) q⟩
theorem methX_mono {ess : List Expr} (ho : PD X m o to) (ha : PDA X m ess ua) : ∀ ρ (Q Q' : D → Ro → Prop), (∀ d ρ', Q d ρ' → Q' d ρ') → dMethX C x sd wd to ua ρ Q → dMethX C x sd wd to ua ρ Q' :=
  fun ρ Q Q' i => ho.mono _ _ _ fun d ρ1 ⟨h1, h2⟩ => ⟨h1, ha.mono _ _ _ (fun ds ρ2 => sd.mono _ _ _ _ _ (fun z => i _ _) fun _ _ _ q => q) h2⟩
theorem pd_methX {pl : Sem Bool} (tk : L2N.Takes X (lW X m wd)) (c : Cls X.K C) (F : OkXM X.prog X.w X.K X.mg X.base C x j ps sd) (hr : Room k X.A) (hk : j ≤ k) (ho : PD X m o to) (ha : PDA X m (e :: es) ua) (hst : starEach (e :: es) X.env = (false, eval e X.env) :: starEach es X.env := by rfl) (hpl : (backTo pos (starEach es X.env)).any (·.1) = false := by rfl)
    (ht : eval (.Call (.Attribute o x apos) (e :: es) [] pos) X.env = (do let ov ← eval o X.env; standAt apos.atName; let (f, first) ← holding [ov] (getMethod ov x pl); callWith pos f first (backTo pos (starEach (e :: es) X.env)) (backToKw pos (keywordEach [] X.env))) := by rfl) :
    PD X m (.Call (.Attribute o x apos) (e :: es) [] pos) (dMethX C x sd wd to ua) := by
  obtain ⟨f, fd, G, hb, hm⟩ := F
  exact ⟨PE.imp (pe_methT (pl := pl) ho.pe c hm G (hr.mono hk) hb (fun σ => L2N.passAt tk σ) ha.pe hst hpl ht) (methX_imp ho ha), methX_mono ho ha⟩
theorem pd_methX0 {pl : Sem Bool} (tk : L2N.Takes X (lW X m wd)) (c : Cls X.K C) (F : OkXM X.prog X.w X.K X.mg X.base C x j ps sd) (hr : Room k X.A) (hk : j ≤ k) (ho : PD X m o to)
    (ht : eval (.Call (.Attribute o x apos) [] [] pos) X.env = (do let ov ← eval o X.env; standAt apos.atName; let (f, first) ← holding [ov] (getMethod ov x pl); callWith pos f first (backTo pos (starEach [] X.env)) (backToKw pos (keywordEach [] X.env))) := by rfl) :
    PD X m (.Call (.Attribute o x apos) [] [] pos) (dMethX C x sd wd to dNil) := by
  obtain ⟨f, fd, G, hb, hm⟩ := F
  refine ⟨PE.imp (pe_methT0 (pl := pl) ho.pe c hm G (hr.mono hk) hb (fun σ => L2N.passAt tk σ) ht) fun σ H Q ⟨ρ, F, Sx, t⟩ => ⟨ρ, F, Sx, ho.mono _ _ _ (fun d ρ1 q v H1 F1 s1 S1 r1 => ?_) t⟩, methX_mono ho pda_nil⟩
  obtain ⟨⟨ns, vs, rfl, nx⟩, q⟩ := q
  obtain ⟨a, dx, ws, rfl, g1, g2, g3⟩ := id r1
  refine ⟨a, dx, _, rfl, S1.gr.fs _ _ g1, lookF_none nx, ?_⟩
  exact ⟨F1, m.st, [_], S1.gr.fs, S1.gr.tok, tok_here S1, ⟨_, _, rfl, r1, rfl⟩, sd.mono _ _ _ _ _ (fun d q v H' F' g rv => q v H' F' (s1.trans g.f0) (S1.grow g) rv) (fun D ns zs hw => exc_at S1 hw) q⟩
theorem pd_methL {pl : Sem Bool} (c : Cls X.K C) (F : OkXM X.prog X.w X.K X.mg X.base C x j ps sd) (hr : Room k X.A) (hk : j ≤ k) (ho : PD X m o to) (ha : PDA X m (e :: es) ua) (hst : starEach (e :: es) X.env = (false, eval e X.env) :: starEach es X.env := by rfl) (hpl : (backTo pos (starEach es X.env)).any (·.1) = false := by rfl)
    (ht : eval (.Call (.Attribute o x apos) (e :: es) [] pos) X.env = (do let ov ← eval o X.env; standAt apos.atName; let (f, first) ← holding [ov] (getMethod ov x pl); callWith pos f first (backTo pos (starEach (e :: es) X.env)) (backToKw pos (keywordEach [] X.env))) := by rfl) :
    PD X m (.Call (.Attribute o x apos) (e :: es) [] pos) (dMethC C x sd XP0 to ua) := by
  obtain ⟨f, fd, G, hb, hm⟩ := F
  exact ⟨PE.imp (pe_meth (pl := pl) (CX := L2N.CX X.prog X.w) (E := E0) ho.pe c hm G (hr.mono hk) hb .nil passN0 ha.pe hst hpl ht) (methC_imp ho ha xp0), methC_mono ho ha⟩
end
theorem okXM_mk {P : Program} {w : World} {K : Frag} {mg : Str → Option Value} {base : Heap} {C x qual : Str} {st : Stmt} {N ps : List Str} {k : Nat} {sd : SpD} (F : DfM K C x qual st ps) (Mm : Meth K (He.ga K C) x (He.ma K (He.ga K C) x)) (S : FnScope N ps (defScope st))
    (len : ∀ ds Q E, sd.run ds Q E → ds.length = ps.length)
    (hbody : ∀ (X : Cx) (m : M) (wd : XW) (cdv : Value) (A : Around) (outer : List Env) (s : Shared) (H : Hp) (E : XK), X = cxOf (L2N.CX P w) P w K mg base N qual (defScope st) (He.ma K (He.ga K C) x) cdv A outer s H E → Room k X.A → L2N.Takes X (lW X m wd) → PassesOwn (model X.prog X.w) X.A X.env X.xe →
      ∃ t, PDSs X m (defBody st) t ∧ ∀ ds Q XE, (∀ C ns vs ρ, XE C ns vs → wd C ns vs ρ) → sd.run ds Q XE → t { nx := fun _ => Q .non, rt := fun d _ => Q d } (frz N ds)) : OkXM P w K mg base (He.ga K C) x (k + 1) ps sd := by
  obtain ⟨fd, FD, hb⟩ := F.ex
  refine ⟨_, fd, FD.ok S (fun vs H Q E ⟨Fz, st, ds, _, _, _, r, h⟩ => by rw [← r.length]; exact len _ _ _ h) (fun cdv A outer s H vs Q E hr h => ?_), hb, Mm⟩
  obtain ⟨Fz, tk, ds, hs, ht, h0, r, h⟩ := h
  have T0 : L2N.Takes (cxOf (L2N.CX P w) P w K mg base N qual (defScope st) (He.ma K (He.ga K C) x) cdv A outer s H E) (fun cls d _ H => E cls d H) := L2N.takes_of rfl rfl rfl rfl
  obtain ⟨t, ht2, hq⟩ := hbody _ ⟨tk, Fz, H⟩ (wEnd (cxOf (L2N.CX P w) P w K mg base N qual (defScope st) (He.ma K (He.ga K C) x) cdv A outer s H E) ⟨tk, Fz, H⟩ E) cdv A outer s H E rfl hr (wEnd_take T0) (passes_of rfl)
  refine ⟨_, ht2.ps, frz N ds, Fz, start_of hs ht h0 r, ?_⟩
  exact ht2.mono { nx := fun _ => ∀ v H' F', Grow ⟨K, tk⟩ Fz H F' H' → Rep ⟨K, tk⟩ F' .non v → Q v H', rt := fun d _ => ∀ v H' F', Grow ⟨K, tk⟩ Fz H F' H' → Rep ⟨K, tk⟩ F' d v → Q v H' } _ _
    ⟨fun ρ q σ' H' F' s' S' => q _ H' F' S'.gr rfl, fun d ρ q v σ' H' F' S' r => q v H' F' S'.gr r, fun _ q => q.elim, fun _ q => q.elim⟩ (hq ds _ _ (fun C ns vs ρ z => z) h)
structure SpXI where
  run : List D → (List Str → List D → Prop) → XP → Prop
  mono : ∀ ds Q Q' E E', (∀ ns vs, Q ns vs → Q' ns vs) → (∀ C ns vs, E C ns vs → E' C ns vs) → run ds Q E → run ds Q' E'
def spXI (K : Frag) (C : Addr) (sd : SpXI) : Sp := fun vs H Q E => ∃ F st ds q dx ws, vs = .ref q :: ws ∧ H q = some (.ins C dx []) ∧ F q = none ∧ st ≠ some q ∧ Same F H ∧ Tok ⟨K, st⟩ F H ∧ (∀ a, st = some a → ∃ o, H a = some o) ∧ Reps ⟨K, st⟩ F ds ws ∧
  sd.run ds (fun ns zs => ∀ H' F', Grow ⟨K, st⟩ F (lessL q H) F' H' → F' q = none → OwnAt ⟨K, st⟩ F' H' q (.ins C ns zs) → Q .non H') (excEnd ⟨K, st⟩ F (lessL q H) E)
def OkXI (P : Program) (w : World) (K : Frag) (mg : Str → Option Value) (base : Heap) (x : Str) (k : Nat) (ps : List Str) (sd : SpXI) : Prop :=
  ∃ f fd, FnOk P w K mg base (L2N.CX P w) k f fd ps (spXI K (He.ga K x) sd) ∧ Binds K fd ps [] ∧ Mk K (He.ga K x) f ∧ mg x = some (.ref (He.ga K x))
theorem grow_init {c : Ct} {F1 H1 F' H' : Hp} {q0 dx C : Addr} (hq : H1 q0 = none) (hd : H1 dx = none) (g : Grow c F1 (lessL q0 (upd (upd H1 dx (.own q0)) q0 (.ins C dx []))) F' H') : Grow c F1 H1 F' H' := by
  refine ⟨fun b o e n => g.keep b o ?_ n, g.f0, g.fs, fun a o e => (g.new a o e).imp id fun z => ?_, g.tok⟩
  · have n1 : b ≠ q0 := ne_of_none e hq
    exact (if_neg n1).trans ((upd_ne n1).trans ((upd_ne (ne_of_none e hd)).trans e))
  · by_cases za : a = q0
    · rw [za]; exact hq
    · have z : upd (upd H1 dx (.own q0)) q0 (.ins C dx []) a = none := (if_neg za).symm.trans z
      rw [upd_ne za] at z
      by_cases zd : a = dx
      · rw [zd, upd_same] at z; cases z
      · rwa [upd_ne zd] at z
section
variable {X : Cx} {m : M} {e : Expr} {es : List Expr} {ua : DA} {pos p : Pos} {x : Str} {k j : Nat} {ps : List Str} {sd : SpXI} {wd : XW}
def dMakeX (C : Addr) (sd : SpXI) (wd : XW) (ua : DA) : DE := fun ρ Q => ua ρ fun ds ρ' => sd.run ds (fun ns zs => Q (.ins C ns zs) ρ') fun D ns vs => wd D ns vs ρ'
theorem makeX_imp {ess : List Expr} (ha : PDA X m ess ua) {C : Addr} {E : L2.St → XK} (hE : ∀ {σ : L2.St} {H F : Hp} {ρ : Ro}, Sm X m σ H ρ F → ∀ {D ns vs}, wd D ns vs ρ → excEnd (m.c X) F H (E σ) D ns vs) (σ : L2.St) (H : Hp) (Q : VK) (h : lF X m (dMakeX C sd wd ua) σ H Q) : tMakeT C (spXI X.K C sd) E (lA X m ua) σ H Q := by
  obtain ⟨ρ, F, Sx, t⟩ := h
  refine ⟨ρ, F, Sx, ha.mono _ _ _ (fun ds ρ1 q vs H1 F1 s1 S1 r1 q0 dx hq hd ne => ?_) t⟩
  obtain ⟨f1, f2⟩ := S1.fresh0 hq
  have S2 := S1.grow (S1.allocO (o := .own q0) hd)
  have hq2 : upd H1 dx (.own q0) q0 = none := (upd_ne (Ne.symm ne)).trans hq
  have S3 := S2.grow (S2.allocO (o := .ins C dx []) hq2)
  refine ⟨F1, m.st, ds, q0, dx, vs, rfl, upd_same, f1, S1.ne_st f2, S3.gr.fs, S3.gr.tok, tok_here S3, r1, sd.mono _ _ _ _ _ (fun ns zs k H' F' g h1 ow => ⟨rfl, ?_⟩) (fun D ns zs hw => ?_) q⟩
  · have gg := grow_init hq hd g
    exact k q0 H' F' (s1.trans gg.f0) (S1.grow gg) h1 f2 ow (fresh_of S1 hq)
  · obtain ⟨x1, x2⟩ := hE S1 hw
    exact ⟨fun z H' F' g => x1 z H' F' (grow_init hq hd g), fun z dd ws H' F' g => x2 z dd ws H' F' (grow_init hq hd g)⟩
theorem pf_makeX (tk : L2N.Takes X (lW X m wd)) (F : OkXI X.prog X.w X.K X.mg X.base x j ps sd) (hr : Room k X.A) (hk : j + 1 ≤ k) (ha : PDA X m (e :: es) ua) (hg : Gl X x := by rfl) (hdb : (x == ("__debug__" : Str)) = false := by decide)
    (he : starEach (e :: es) X.env = (false, eval e X.env) :: starEach es X.env := by rfl) (hpl : (backTo pos (starEach es X.env)).any (·.1) = false := by rfl) : PF X m (.Call (.Name x p) (e :: es) [] pos) (dMakeX (He.ga X.K x) sd wd ua) := by
  obtain ⟨f, fd, G, hb, Mc, gl⟩ := F
  exact ⟨PE.imp (pe_makeT Mc G (hr.mono hk) hg gl hb (fun σ => L2N.passAt tk σ) ha.pe hdb he hpl) (makeX_imp ha fun S _ _ _ hw => exc_at S hw), fun ρ Q Q' i => ha.mono _ _ _ fun ds ρ' => sd.mono _ _ _ _ _ (fun ns zs => i _ _) fun _ _ _ q => q⟩
theorem pf_makeL (F : OkXI X.prog X.w X.K X.mg X.base x j ps sd) (hr : Room k X.A) (hk : j + 1 ≤ k) (ha : PDA X m (e :: es) ua) (hg : Gl X x := by rfl) (hdb : (x == ("__debug__" : Str)) = false := by decide)
    (he : starEach (e :: es) X.env = (false, eval e X.env) :: starEach es X.env := by rfl) (hpl : (backTo pos (starEach es X.env)).any (·.1) = false := by rfl) : PF X m (.Call (.Name x p) (e :: es) [] pos) (dMakeX (He.ga X.K x) sd (fun _ _ _ _ => False) ua) := by
  obtain ⟨f, fd, G, hb, Mc, gl⟩ := F
  exact ⟨PE.imp (pe_makeT (E := fun _ => E0) Mc G (hr.mono hk) hg gl hb (fun σ pins H s e s' _ h => by obtain ⟨_, _, _, _, _, _, _, _, _, _, _, _, z⟩ := h; exact z.elim) ha.pe hdb he hpl) (makeX_imp ha fun S _ _ _ hw => hw.elim), fun ρ Q Q' i => ha.mono _ _ _ fun ds ρ' => sd.mono _ _ _ _ _ (fun ns zs => i _ _) fun _ _ _ q => q⟩
end
theorem okXI_mk {P : Program} {w : World} {K : Frag} {mg : Str → Option Value} {base : Heap} {C qual : Str} {st : Stmt} {N ps : List Str} {self : Str} {k : Nat} {sd : SpXI} (F : DfM K C "__init__" qual st (self :: ps)) (Mm : Mk K (He.ga K C) (He.ma K (He.ga K C) "__init__")) (gl : mg C = some (.ref (He.ga K C))) (S : FnScope N (self :: ps) (defScope st))
    (len : ∀ ds Q E, sd.run ds Q E → ds.length = ps.length)
    (hbody : ∀ (X : Cx) (m : M) (wd : XW) (cdv : Value) (A : Around) (outer : List Env) (s : Shared) (H : Hp) (E : XK), X = cxOf (L2N.CX P w) P w K mg base N qual (defScope st) (He.ma K (He.ga K C) "__init__") cdv A outer s H E → Room k X.A → L2N.Takes X (lW X m wd) → PassesOwn (model X.prog X.w) X.A X.env X.xe →
      ∃ t, PDSs X m (defBody st) t ∧ ∀ q ds Q XE, (∀ C ns vs ρ, XE C ns vs → wd C ns vs ρ) → sd.run ds Q XE → t { nx := fun ρ => ∃ ns vs, ρ[0]? = some (some (true, .pin q (.ins (He.ga K C) ns vs))) ∧ Q ns vs, rt := fun _ _ => False } ((frz N (.non :: ds)).set 0 (some (true, .pin q (.ins (He.ga K C) [] []))))) : OkXI P w K mg base C (k + 1) (self :: ps) sd := by
  obtain ⟨fd, FD, hb⟩ := F.ex
  refine ⟨_, fd, FD.ok S (fun vs H Q E ⟨Fz, st, ds, q, dx, ws, e, _, _, _, _, _, _, r, h⟩ => by rw [e, List.length_cons, ← r.length, len _ _ _ h]; rfl) (fun cdv A outer s H vs Q E hr h => ?_), hb, Mm, gl⟩
  obtain ⟨Fz, tk, ds, q, dx, ws, rfl, hq, fq, nt, hs, ht, h0, r, h⟩ := h
  have T0 : L2N.Takes (cxOf (L2N.CX P w) P w K mg base N qual (defScope st) (He.ma K (He.ga K C) "__init__") cdv A outer s H E) (fun cls d _ H => E cls d H) := L2N.takes_of rfl rfl rfl rfl
  obtain ⟨t, ht2, k2⟩ := hbody _ ⟨tk, Fz, lessL q H⟩ (wEnd (cxOf (L2N.CX P w) P w K mg base N qual (defScope st) (He.ma K (He.ga K C) "__init__") cdv A outer s H E) ⟨tk, Fz, lessL q H⟩ E) cdv A outer s H E rfl hr (wEnd_take T0) (passes_of rfl)
  refine ⟨_, ht2.ps, ?_⟩
  have S0 : Sim ⟨K, tk⟩ Fz H (L2.start N (.non :: ws)) H (frz N (.non :: ds)) Fz := start_of hs ht h0 ⟨_, _, rfl, rfl, r⟩
  have S1 := S0.lessL (L := q) nt
  have S2 := S1.setP (i := 0) (d := .pin q (.ins (He.ga K C) [] [])) (p := q) fq (if_pos rfl) ⟨rfl, dx, [], hq, rfl, rfl⟩ (fun j e e1 _ => by
    have : (frz N (.non :: ds))[j]? ≠ some (some (true, e)) := fun z => by
      unfold frz at z
      by_cases hi : j < (D.non :: ds).length
      · rw [List.getElem?_append_left (by simpa using hi), List.getElem?_map, List.getElem?_eq_getElem hi] at z
        cases z
      · rw [List.getElem?_append_right (by simpa using hi), List.getElem?_replicate] at z
        split at z <;> cases z
    exact this e1)
  have es : (L2.start N (.non :: ws)).set 0 (some (.ref q)) = L2.start N (.ref q :: ws) := rfl
  rw [es] at S2
  refine ⟨_, Fz, S2, ?_⟩
  refine ht2.mono { nx := fun ρ => ∃ ns vs, ρ[0]? = some (some (true, .pin q (.ins (He.ga K C) ns vs))) ∧ ∀ H' F', Grow ⟨K, tk⟩ Fz (lessL q H) F' H' → F' q = none → OwnAt ⟨K, tk⟩ F' H' q (.ins (He.ga K C) ns vs) → Q .non H', rt := fun _ _ => False } _ _ ⟨fun ρ ⟨ns, vs, e0, k⟩ σ' H' F' s' S' => ?_, fun d ρ q => q.elim, fun _ q => q.elim, fun _ q => q.elim⟩ (k2 q ds _ _ (fun C ns vs ρ z => z) h)
  obtain ⟨v, ev, a, rfl, g1, g2, rfl, ow⟩ := S'.slot 0 _ e0
  exact k H' F' S'.gr g1 ow
theorem s_makeX {C : Addr} {sd : SpXI} {wd : XW} {ua : DA} {ρ : Ro} {Q : D → Ro → Prop} (h : ua ρ fun ds ρ' => sd.run ds (fun ns zs => Q (.ins C ns zs) ρ') fun D ns vs => wd D ns vs ρ') : dMakeX C sd wd ua ρ Q := h
theorem t_methX {C : Addr} {x : Str} {sd : SpD} {wd : XW} {to : DE} {ua : DA} {ρ : Ro} {Q : D → Ro → Prop} (h : to ρ fun d ρ1 => (∃ ns vs, d = .ins C ns vs ∧ x ∉ ns) ∧ ua ρ1 fun ds ρ2 => sd.run (d :: ds) (fun z => Q z ρ2) fun D ns vs => wd D ns vs ρ2) : dMethX C x sd wd to ua ρ Q := h
end DL
namespace DL
open PySem PySem.Spec L2 PyProof.Rows L2H
section
variable {M : Model} {prog : Program} {w : World} {A : Around} {E : Value → Shared → Prop} {s : Shared} {K : PySem.W.Frag} {x C f : Addr} {ox : Obj} {od : Option Obj} {b tb : Value}
def backLen (Q : Value → Shared → Prop) (v : Value) (s' : Shared) : Prop := ∃ n u, v = .int n u ∧ 0 ≤ n ∧ n < 2 ^ 63 ∧ Q (.int n s'.toks) { s' with toks := s'.toks + 1 }
theorem own_len {Q : Value → Shared → Prop} (Xk : K.In s.heap) (I : PySem.W.InstAt s.heap x ox C od) (hs : PySem.W.findIn K (.ref C) "__len__" = some (some (.ref f))) (hf : PySem.W.isFn K (.ref f) = true)
    (h : wpAny (model prog w) A.in1 (call (.ref f) [.ref x]) (backLen Q) E s) : wpAny (model prog w) A (call (.builtin "len") [.ref x]) Q E s := by
  refine Calls.call_function_entry kind_len plain_len entry_len (args_len1 _) ?_
  unfold Builtin.«len»
  refine wpAny_bind (m := oneArg "len" _) (wpAny_pure ?_)
  refine wpAny_bind (m := callSpecial? (.ref x) (Str.ofString "__len__")) (PySem.W.special_fn Xk I hs (beq_iff_eq.mp hf) (wpAny_mono h (fun r s' hr => ?_) fun _ _ y => y))
  obtain ⟨n, u, rfl, n0, n1, hq⟩ := hr
  refine wpAny_bind (wpAny_holding (wpAny_pure (wpAny_bind (wpAny_letGo ?_))))
  show wpAny _ _ (if n < 0 then _ else _) _ _ _
  rw [if_neg (show ¬ n < 0 by omega)]
  show wpAny _ _ (if n ≥ 2 ^ 63 then _ else _) _ _ _
  rw [if_neg (show ¬ n ≥ 2 ^ 63 by omega)]
  exact wpAny_bind (wpAny_mkInt (wpAny_pure ⟨_, rfl, hq⟩))
theorem own_cmp {op : CmpOp} {Q : Value → Shared → Prop} (hu : A.units < cLine) (Xk : K.In s.heap) (I : PySem.W.InstAt s.heap x ox C od) (hb : PySem.W.Looks (model prog w) s.heap (typeOf b) (.ref C))
    (hs : PySem.W.findIn K (.ref C) (cmpInfo op).2.1 = some (some (.ref f))) (hf : PySem.W.isFn K (.ref f) = true)
    (h : wpAny (model prog w) A (call (.ref f) [.ref x, b]) (fun v s' => v ≠ .notImplemented ∧ Q v s') E s) : wpAny (model prog w) A (richCompare op (.ref x) b) Q E s := by
  have one : wpAny (model prog w) A (tryCompare (.ref x) (cmpInfo op).2.1 b) (fun r s' => ∃ v, r = some v ∧ Q v s') E s := by
    unfold tryCompare
    refine wpAny_bind (PySem.W.ifBound_K Xk I hs hf (wpAny_mono h (fun v s' ⟨n, hv⟩ => ?_) fun _ _ e => e))
    cases v <;> first | exact (n rfl).elim | exact wpAny_pure ⟨_, rfl, hv⟩
  unfold richCompare
  simp only [PySem.oneThing_ref]
  refine wpAny_holding (wpAny_bind (wpAny_cRoomFor hu ?_))
  refine wpAny_bind (I.type.here (wpAny_bind (hb.here ?_)))
  rw [if_neg (by simp)]
  refine wpAny_bind (wpAny_pure ?_)
  simp only [Bool.false_eq_true, if_false]
  refine wpAny_bind (wpAny_mono one (fun r s' z => ?_) fun _ _ e => e)
  obtain ⟨v, rfl, hq⟩ := z
  exact wpAny_pure hq
end
section
variable {X : Cx} {m : M} {e a b : Expr} {te ta tb : DE} {pos p : Pos} {x : Str} {k j : Nat} {ps : List Str} {sd : SpD} {wd : XW} {C : Addr}
theorem run_in1 {CX : CXT} {f : Addr} {fd : FuncData} {sp : Sp} {EE : XK} {pins : List (Addr × Obj)} {σ : L2.St} {H : Hp} {s : Shared} {Q : VK} {us : List Value} {vs : List V} (F : FnOk X.prog X.w X.K X.mg X.base CX k f fd ps sp) (hr : Room (k + 1) X.A) (hb : Binds X.K fd ps []) (hx : PassesAt CX X σ EE)
    (I : Inv X pins σ H s) (r : Vals vs us) (h : sp vs H Q EE) : wpAny (model X.prog X.w) X.A.in1 (call (.ref f) us) (EP X pins σ Q) X.xe s := by
  have hl : us.length = ps.length := by rw [← r.length]; exact F.len _ _ _ _ h
  have b := hb s us I.kIn (by rw [List.append_nil]; exact hl)
  rw [List.append_nil] at b
  refine wpAny_call (codeAny_mono (F.run X.A.in1 X.stack s H ⟨us, []⟩ us vs Q EE hr.in1 I.env0.in1 b r h) fun r s' hq => ?_)
  cases r with
  | error e => exact hx pins H s e s' I hq
  | ok fl =>
    cases fl with
    | ret u => exact I.after hq
    | next => exact hq.elim
    | brk => exact hq.elim
    | cont => exact hq.elim
theorem pass_none (σ : L2.St) : PassesAt CX0 X σ E0 := fun pins H s e s' I h => pass0 pins σ H s e s' I h
def dOwn1 (C : Addr) (sd : SpD) (te : DE) (g : D → (D → Prop) → Prop) : DE := fun ρ Q => te ρ fun d ρ' => (∃ ns vs, d = .ins C ns vs) ∧ sd.run [d] (fun z => g z fun z' => Q z' ρ') XP0
def lenK (z : D) (P : D → Prop) : Prop := ∃ n : Nat, z = .int (n : Nat) ∧ n < 2 ^ 62 ∧ P z
theorem pd_lenI (c : Cls X.K C) (F : OkM X.prog X.w X.K X.mg X.base C "__len__" j ps sd) (hr : Room k X.A) (hk : j + 1 ≤ k) (ha : PD X m e te) (hx : x = "len") (hg : Gl X x) (hm : X.mg x = none) (he : starEach [e] X.env = (false, eval e X.env) :: starEach [] X.env := by rfl) (hpl : (backTo pos (starEach [] X.env)).any (·.1) = false := by rfl) :
    PD X m (.Call (.Name x p) [e] [] pos) (dOwn1 C sd te lenK) := by
  subst hx
  obtain ⟨f, fd, G, hb, hmm⟩ := F
  have cr : CallR X (.builtin "len") (fun xs H Q => ∃ a dx fs, xs = [.ref a] ∧ H a = some (.ins C dx fs) ∧ spOf X.K sd [.ref a] H (fun v H' => ∃ n : Nat, v = .int (n : Nat) ∧ n < 2 ^ 62 ∧ Q v H') E0) := by
    intro pins s σ H xs us Q I r h
    obtain ⟨a, dx, fs, rfl, ea, h⟩ := h
    rcases r with _ | ⟨r, rr⟩
    cases rr
    obtain rfl : _ = Value.ref a := r
    obtain ⟨mA, O, _, _, _, _⟩ := ins_get I.hok ea
    obtain ⟨od, J, _⟩ := O.look
    refine own_len I.kIn J hmm.at_ hmm.fn (wpAny_mono (run_in1 (us := [.ref a]) (vs := [.ref a]) G (hr.mono hk) hb (pass_none σ) I (.cons rfl .nil) h) (fun r s1 ⟨z, H1, I1, rz, n, en, n2, q⟩ => ?_) fun _ _ z => z)
    subst en
    obtain ⟨u, rfl⟩ := rz
    exact ⟨_, u, rfl, by omega, by omega, ⟨.int (n : Nat), H1, I1.tok _, ⟨_, rfl⟩, q⟩⟩
  refine ⟨PE.imp (pe_callB cr hg hm boot_len (pa_cons ha.pe pa_nil he) (by decide) (by decide) he hpl) fun σ H Q ⟨ρ, F, S, t⟩ => ⟨ρ, F, S, ha.mono _ _ _ (fun d ρ1 q v H1 F1 s1 S1 r1 => ?_) t⟩, fun ρ Q Q' i => ha.mono _ _ _ fun d ρ1 ⟨h1, h2⟩ => ⟨h1, sd.mono _ _ _ _ _ (fun z ⟨n, e1, n2, q⟩ => ⟨n, e1, n2, i _ _ q⟩) (fun _ _ _ q => q) h2⟩⟩
  obtain ⟨⟨ns, vs, rfl⟩, q⟩ := q
  obtain ⟨a, dx, ws, rfl, g1, g2, g3⟩ := id r1
  refine ⟨a, dx, _, rfl, S1.gr.fs _ _ g1, F1, m.st, [_], S1.gr.fs, S1.gr.tok, tok_here S1, ⟨_, _, rfl, r1, rfl⟩, sd.mono _ _ _ _ _ (fun z ⟨n, e1, n2, q⟩ v H' F' g rv => ?_) (fun _ _ _ z => z.elim) q⟩
  subst e1
  exact ⟨n, rv, n2, q _ H' F' (s1.trans g.f0) (S1.grow g) rv⟩
def boolK (z : D) (P : D → Prop) : Prop := ∃ b : Bool, z = .bl b ∧ P z
def dEqI (C : Addr) (sd : SpD) (ta tb : DE) : DE := fun ρ Q => ta ρ fun d ρ1 => tb ρ1 fun e ρ2 => (∃ ns vs, d = .ins C ns vs) ∧ (∃ ns vs, e = .ins C ns vs) ∧ sd.run [d, e] (fun z => boolK z fun z' => Q z' ρ2) XP0
theorem pd_eqI (c : Cls X.K C) (F : OkM X.prog X.w X.K X.mg X.base C "__eq__" j ps sd) (hr : Room k X.A) (hk : j ≤ k) (ha : PD X m a ta) (hb : PD X m b tb) (hm : behindInMarks .Eq b = false := by rfl) : PD X m (.Compare a [.Eq] [b] pos) (dEqI C sd ta tb) := by
  obtain ⟨f, fd, G, hbi, hmm⟩ := F
  have op : OpR X (compareOp .Eq) (fun x y H Q => ∃ a dx fs b dy gs, x = .ref a ∧ y = .ref b ∧ H a = some (.ins C dx fs) ∧ H b = some (.ins C dy gs) ∧ spOf X.K sd [x, y] H (fun v H' => ∃ b, v = .bl b ∧ Q (.bl b) H') E0) := by
    intro pins s σ H x y v u Q I rx ry h
    obtain ⟨a, dx, fs, b, dy, gs, rfl, rfl, ea, eb, h⟩ := h
    obtain rfl : v = Value.ref a := rx
    obtain rfl : u = Value.ref b := ry
    obtain ⟨mA, O, _, _, _, _⟩ := ins_get I.hok ea
    obtain ⟨od, J, _⟩ := O.look
    obtain ⟨mB, O2, _, _, _, _⟩ := ins_get I.hok eb
    obtain ⟨od2, J2, _⟩ := O2.look
    show wpAny (model X.prog X.w) X.A (richCompare .Eq (.ref a) (.ref b)) (EP X pins σ Q) X.xe s
    refine own_cmp hr.units0 I.kIn J J2.type hmm.at_ hmm.fn ?_
    refine thn (run_fn (Q := fun v H' => ∃ b, v = V.bl b ∧ Q (.bl b) H') (us := [.ref a, .ref b]) (vs := [.ref a, .ref b]) (dvs := []) G (hr.mono hk) hbi .nil pass0 I (.cons rfl (.cons rfl .nil)) (by rw [List.append_nil]; exact h)) fun r s1 ⟨z, H1, I1, rz, b, eb, q⟩ => ?_
    subst eb
    obtain rfl : r = Value.bool b := rz
    exact ⟨by simp, ⟨.bl b, H1, I1, rfl, q⟩⟩
  refine ⟨PE.imp (pe_cmpR op ha.pe hb.pe hm) fun σ H Q ⟨ρ, F, S, t⟩ => ?_, fun ρ Q Q' i => ha.mono _ _ _ fun d ρ1 => hb.mono _ _ _ fun e ρ2 ⟨h0, h1, h2⟩ => ⟨h0, h1, sd.mono _ _ _ _ _ (fun z ⟨b, e1, q⟩ => ⟨b, e1, i _ _ q⟩) (fun _ _ _ q => q) h2⟩⟩
  refine ⟨ρ, F, S, ha.mono _ _ _ (fun d ρ1 q x H1 F1 s1 S1 r1 => ?_) t⟩
  refine ⟨ρ1, F1, S1, hb.mono _ _ _ (fun e ρ2 ⟨⟨ns0, vs0, hd⟩, ⟨ns, vs, he⟩, q⟩ y H2 F2 s2 S2 r2 => ?_) q⟩
  subst he
  subst hd
  obtain ⟨a, dx, ws, rfl, g1, g2, g3⟩ := id (r1.mono s2)
  obtain ⟨b, dy, ws', rfl, k1, k2, k3⟩ := id r2
  refine ⟨a, dx, _, b, dy, _, rfl, rfl, S2.gr.fs _ _ g1, S2.gr.fs _ _ k1, F2, m.st, [_, _], S2.gr.fs, S2.gr.tok, tok_here S2, ⟨_, _, rfl, r1.mono s2, _, _, rfl, r2, rfl⟩, sd.mono _ _ _ _ _ (fun z ⟨b, e1, q⟩ v H' F' g rv => ?_) (fun _ _ _ z => z.elim) q⟩
  subst e1
  exact ⟨b, rv, q _ H' F' (s1.trans (s2.trans g.f0)) (S2.grow g) rfl⟩
theorem s_lenI {g : D → (D → Prop) → Prop} {ρ : Ro} {Q : D → Ro → Prop} (h : te ρ fun d ρ' => (∃ ns vs, d = .ins C ns vs) ∧ sd.run [d] (fun z => g z fun z' => Q z' ρ') XP0) : dOwn1 C sd te g ρ Q := h
theorem s_eqOwn {ρ : Ro} {Q : D → Ro → Prop} (h : ta ρ fun d ρ1 => tb ρ1 fun e ρ2 => (∃ ns vs, d = .ins C ns vs) ∧ (∃ ns vs, e = .ins C ns vs) ∧ sd.run [d, e] (fun z => boolK z fun z' => Q z' ρ2) XP0) : dEqI C sd ta tb ρ Q := h
def dInX (C : Addr) (sd : SpD) (wd : XW) (ta tb : DE) : DE := fun ρ Q => ta ρ fun d ρ1 => tb ρ1 fun e ρ2 => (∃ ns vs, e = .ins C ns vs) ∧ sd.run [e, d] (fun z => boolK z fun z' => Q z' ρ2) fun D ns vs => wd D ns vs ρ2
theorem pd_inX (tk : L2N.Takes X (lW X m wd)) (c : Cls X.K C) (F : OkXM X.prog X.w X.K X.mg X.base C "__contains__" j ps sd) (hr : Room k X.A) (hk : j ≤ k) (ha : PD X m a ta) (hb : PD X m b tb) (hm : behindInMarks .In b = false := by rfl) : PD X m (.Compare a [.In] [b] pos) (dInX C sd wd ta tb) := by
  obtain ⟨f, fd, G, hbi, hmm⟩ := F
  have pe : PE X (.Compare a [.In] [b] pos) (fun σ H Q => tOp (fun x y H Q => ∃ a dx fs, y = .ref a ∧ H a = some (.ins C dx fs) ∧ spOf X.K sd [y, x] H (fun v H' => ∃ b, v = .bl b ∧ Q (.bl b) H') (L2.WE (lW X m wd) σ)) (lE X m ta) (lE X m tb) σ H Q) := by
    refine ⟨fun pins s σ H Q I h => wpAny_Compare1 (binT ha.pe hb.pe I h fun v u s2 x y H2 I2 rx ry q => ?_) hm⟩
    obtain ⟨a, dx, fs, rfl, ea, h⟩ := q
    obtain rfl : u = Value.ref a := ry
    obtain ⟨mA, O, _, _, _, _⟩ := ins_get I2.hok ea
    obtain ⟨od, J, _⟩ := O.look
    show wpAny (model X.prog X.w) X.A (do return Value.bool (← contains (.ref a) v)) (EP X pins σ Q) X.xe s2
    refine wpAny_bind (contains_own I2.kIn J hmm.at_ hmm.fn ?_)
    refine thn (L2.run_fnS (Q := fun v H' => ∃ b, v = V.bl b ∧ Q (.bl b) H') (us := [.ref a, v]) (vs := [.ref a, x]) G (hr.mono hk) hbi (L2N.passAt tk σ) I2 (.cons rfl (.cons rx .nil)) h) fun r s1 ⟨z, H1, I1, rz, b, eb, q⟩ => ?_
    subst eb
    obtain rfl : r = Value.bool b := rz
    exact wpAny_pure (wpAny_pure ⟨.bl b, H1, I1, rfl, q⟩)
  refine ⟨PE.imp pe fun σ H Q ⟨ρ, F, S, t⟩ => ?_, fun ρ Q Q' i => ha.mono _ _ _ fun d ρ1 => hb.mono _ _ _ fun e ρ2 ⟨h1, h2⟩ => ⟨h1, sd.mono _ _ _ _ _ (fun z ⟨b, e1, q⟩ => ⟨b, e1, i _ _ q⟩) (fun _ _ _ q => q) h2⟩⟩
  refine ⟨ρ, F, S, ha.mono _ _ _ (fun d ρ1 q x H1 F1 s1 S1 r1 => ?_) t⟩
  refine ⟨ρ1, F1, S1, hb.mono _ _ _ (fun e ρ2 ⟨⟨ns, vs, he⟩, q⟩ y H2 F2 s2 S2 r2 => ?_) q⟩
  subst he
  obtain ⟨a, dx, ws, rfl, g1, g2, g3⟩ := id r2
  refine ⟨a, dx, _, rfl, S2.gr.fs _ _ g1, F2, m.st, [_, d], S2.gr.fs, S2.gr.tok, tok_here S2, ⟨_, _, rfl, r2, _, _, rfl, r1.mono s2, rfl⟩, sd.mono _ _ _ _ _ (fun z ⟨b, e1, q⟩ v H' F' g rv => ?_) (fun D ns zs hw => exc_at S2 hw) q⟩
  subst e1
  exact ⟨b, rv, q _ H' F' (s1.trans (s2.trans g.f0)) (S2.grow g) rfl⟩
theorem s_inX {ρ : Ro} {Q : D → Ro → Prop} (h : ta ρ fun d ρ1 => tb ρ1 fun e ρ2 => (∃ ns vs, e = .ins C ns vs) ∧ sd.run [e, d] (fun z => boolK z fun z' => Q z' ρ2) fun D ns vs => wd D ns vs ρ2) : dInX C sd wd ta tb ρ Q := h
end
end DL
namespace DL
open PySem PySem.Spec L2 PyProof.Rows L2H
structure InsT (K : PySem.W.Frag) (C : Addr) : Prop where
  cl : Cls K C
  at_ : PySem.W.findIn K (.ref C) "__class__" = some (some (.builtin "object.__class__"))
  get : PySem.W.specialIn K (.builtin "object.__class__") "__get__" = some (some (.builtin "getset_descriptor.__get__"))
  tk : PySem.W.takesIn K (.builtin "object.__class__") = some true
  mro : PySem.W.mroIn K C (.type "object") = some true
def insB (K : PySem.W.Frag) (C : Addr) : Bool := He.eqO (PySem.W.findIn K (.ref C) "__class__") (some (some (.builtin "object.__class__"))) && (He.eqO (PySem.W.specialIn K (.builtin "object.__class__") "__get__") (some (some (.builtin "getset_descriptor.__get__"))) && (decide (PySem.W.takesIn K (.builtin "object.__class__") = some true) && decide (PySem.W.mroIn K C (.type "object") = some true)))
theorem insB_ok {K : PySem.W.Frag} {C : Addr} (c : Cls K C) (h : insB K C = true) : InsT K C := by
  unfold insB at h
  simp only [Bool.and_eq_true, decide_eq_true_eq] at h
  exact ⟨c, He.eqO_ok h.1, He.eqO_ok h.2.1, h.2.2.1, h.2.2.2⟩
def fIsiO (K : PySem.W.Frag) (Z : Addr) : F1 := fun d P => match d with
  | .ins C _ _ => InsT K C ∧ ∃ b, PySem.W.kitOne K (.ref C) (.ref Z) = some b ∧ P (.bl b)
  | d => ∃ t, tyN d = some t ∧ ∃ b, PySem.W.kitOne K (.type t) (.ref Z) = some b ∧ P (.bl b)
section
variable {X : Cx} {m : M} {e : Expr} {te : DE} {pos : Pos}
theorem o_isiO {Z : Addr} : Op1 X m (fun x H Q => rIsi X.K [x, .ref Z] H Q) (fIsiO X.K Z) := by
  refine ⟨fun {σ H ρ F d x Q P} Sm r1 h k => ?_, fun d P P' i h => ?_⟩
  · have go : (∃ t, tyN d = some t ∧ ∃ b, PySem.W.kitOne X.K (.type t) (.ref Z) = some b ∧ P (.bl b)) → rIsi X.K [x, .ref Z] H Q := fun ⟨t, ht, b, e, q⟩ =>
      ⟨x, .ref Z, _, _, b, rfl, .own Z, tyX_of Sm.gr.fs r1 ht, e, k _ _ H F q (Grow.refl Sm.gr.fs Sm.gr.tok) rfl⟩
    cases d with
    | ins C ns vs =>
      obtain ⟨T, b, e, q⟩ := h
      obtain ⟨a, dx, ws, rfl, g1, g2, g3⟩ := r1
      exact ⟨_, .ref Z, _, _, b, rfl, .own Z, .base (.ins g1 T.cl T.at_ T.get T.tk T.mro), e, k _ _ H F q (Grow.refl Sm.gr.fs Sm.gr.tok) rfl⟩
    | _ => exact go h
  · cases d with
    | ins C ns vs => obtain ⟨T, b, e, q⟩ := h; exact ⟨T, b, e, i _ q⟩
    | _ => obtain ⟨t, ht, b, e, q⟩ := h; exact ⟨t, ht, b, e, i _ q⟩
theorem pd_isiO {x y : Str} {p p2 : Pos} (ha : PQ X m e te) (hx : x = "isinstance") (hg : Gl X x) (hm : X.mg x = none) (hg2 : Gl X y) (hm2 : X.mg y = some (.ref (He.ga X.K y)))
    (he : starEach [e, .Name y p2] X.env = (false, eval e X.env) :: starEach [.Name y p2] X.env := by rfl) (hpl : (backTo pos (starEach [.Name y p2] X.env)).any (·.1) = false := by rfl) (hdb : (y == ("__debug__" : Str)) = false := by decide) :
    PD X m (.Call (.Name x p) [e, .Name y p2] [] pos) (dOp1 (fIsiO X.K (He.ga X.K y)) te) := by
  subst hx
  exact pd_op1 o_isiO ha (pe_callB call_isi hg hm boot_isinstance (pa_cons ha.pe (pa_cons (pe_glob (v := .ref (He.ga X.K y)) hg2 hm2 rfl hdb) pa_nil) he) (by decide) (by decide) he hpl)
theorem s_isiI {K : PySem.W.Frag} {Z C : Addr} {ns : List Str} {vs : List D} {b : Bool} {P : D → Prop} (T : InsT K C) (k : PySem.W.kitOne K (.ref C) (.ref Z) = some b) (h : P (.bl b)) : fIsiO K Z (.ins C ns vs) P := ⟨T, b, k, h⟩
theorem s_isiT {K : PySem.W.Frag} {Z : Addr} {d : D} {t : String} {b : Bool} {P : D → Prop} (ht : tyN d = some t) (k : PySem.W.kitOne K (.type t) (.ref Z) = some b) (h : P (.bl b)) : fIsiO K Z d P := by
  cases d with
  | ins => cases ht
  | _ => exact ⟨t, ht, b, k, h⟩
def ClA (K : PySem.W.Frag) (C : Addr) (f : Str) (i : Int) : Prop := PySem.W.readsIn K C (.type "type") = true ∧ ∃ t, PySem.W.findCls K (.ref C) (.type "type") f = some (.val (.int i t))
def clAB (K : PySem.W.Frag) (C : Addr) (f : Str) (i : Int) : Bool := PySem.W.readsIn K C (.type "type") && (match PySem.W.findCls K (.ref C) (.type "type") f with
  | some (.val (.int j _)) => decide (j = i)
  | _ => false)
theorem clAB_ok {K : PySem.W.Frag} {C : Addr} {f : Str} {i : Int} (h : clAB K C f i = true) : ClA K C f i := by
  unfold clAB at h
  obtain ⟨h1, h2⟩ := Bool.and_eq_true_iff.mp h
  refine ⟨h1, ?_⟩
  split at h2
  · rename_i j t e
    obtain rfl := of_decide_eq_true h2
    exact ⟨t, e⟩
  · cases h2
theorem pd_clsA {x f : Str} {i : Int} {p : Pos} (hA : ClA X.K (He.ga X.K x) f i) (hm : X.mg x = some (.ref (He.ga X.K x))) (hg : Gl X x := by rfl) (hb : attributeBase (.Name x p) f X.env (eval (.Name x p) X.env) = eval (.Name x p) X.env := by rfl) (hdb : (x == ("__debug__" : Str)) = false := by decide) :
    PD X m (.Attribute (.Name x p) f pos) (dC (.int i)) := by
  obtain ⟨h1, t, h2⟩ := hA
  have pe : PE X (.Attribute (.Name x p) f pos) (fun σ H Q => Q (.int i) H) := ⟨fun pins s σ H Q I h => attr_of hb (ld_glob I hg hm (PySem.W.cls_value I.kIn h1 h2 rfl ⟨.int i, H, I.tok _, ⟨t, rfl⟩, h⟩) hdb)⟩
  exact ⟨PE.imp pe fun σ H Q ⟨ρ, F, S, q⟩ => q _ H F (Same.refl _) S rfl, fun ρ Q Q' i => i _ _⟩
end
end DL
namespace DL
open PySem PySem.Spec L2 PyProof.Rows L2H
def ItsK (K : PySem.W.Frag) (r : Sr) (k0 : Int) : It :=
  ⟨fun i H => ∃ (xs : List V) (x : V), srAt K H r xs ∧ xs[i]? = some x, fun i H v H' => ∃ T x, v = .ref T ∧ H T = none ∧ H' = upd H T (.tup [.int (k0 + (i : Int)), x]) ∧ ∀ xs, srAt K H r xs → xs[i]? = some x, fun i H => ∃ xs : List V, srAt K H r xs ∧ xs.length ≤ i⟩
theorem turn_enumK {P : Program} {w : World} {K : PySem.W.Frag} {elts : List Expr} {kk : Nat} {tpos : Pos} (r : Sr) (k0 : Int) (e it : Addr) :
    Turn P w K (.Tuple elts kk tpos) (ItsK K r k0) [e, it] e (fun i h => (∃ old, IsEnum h e it (k0 + (i : Int)) old) ∧ srIt it r i h ∧ e ≠ it ∧ e ∉ srTl r) where
  mem := List.mem_cons_self
  obj := fun i h st b hb => by
    obtain ⟨⟨old, ke⟩, ki, _⟩ := st
    rcases List.mem_cons.mp hb with z | z
    · subst z; exact ⟨_, ke, fun v q => nomatch q⟩
    · obtain rfl : b = it := by simpa using z
      exact srIt_obj ki
  keep := fun i h h' st k => let ⟨⟨old, ke⟩, ki, ne⟩ := st; ⟨⟨old, k e List.mem_cons_self _ ke⟩, srIt_keep ki fun o q => k it (by simp) o q, ne⟩
  item := by
    rintro X rfl rfl rfl hc i pins s σ H E I hf ⟨⟨old, ke⟩, ki, ne, nt⟩ ⟨xs, x, hq, hx⟩
    obtain ⟨P1, St1, D1, s1, rel1, back1⟩ := sr_draws hc I hq ki
    have el : e < s.heap.objs.size := Heap.lt_size ke
    have il : it < s.heap.objs.size := by obtain ⟨_, q, _⟩ := srIt_obj ki; exact Heap.lt_size q
    have nf : e ∉ it :: srTl r := fun z => (List.mem_cons.mp z).elim ne nt
    refine wpAny_pyNext_enum_itemC D1 ke s1 (List.getElem?_eq_some_iff.mp hx).1 ne nf fun v h' tk p1 ho n1 hT hsz hk => ?_
    have rv := rel1 _ _ _ p1 hx
    refine ⟨_, rfl, wpAny_letOwnedTupleGo_enum (s := { s with heap := h', toks := tk + 1 }) ho fun h2 he2 sb => ?_⟩
    have oT : h2.get? s.heap.objs.size = some { cls := .type "tuple", data := .seq #[.int (k0 + (i : Int)) tk, v] } := (sb.2 _ (Nat.ne_of_gt el)).trans hT
    have new : ObjOk X.prog X.w (upd H s.heap.objs.size (.tup [.int (k0 + (i : Int)), x])) h2 s.heap.objs.size (.tup [.int (k0 + (i : Int)), x]) :=
      ⟨by show 2 ≤ sizeLine; decide, [.int (k0 + (i : Int)) tk, v], .cons ⟨_, rfl⟩ (.cons rv .nil), ⟨_, oT, rfl, _, rfl⟩⟩
    have J : Inv X pins σ (upd H s.heap.objs.size (.tup [.int (k0 + (i : Int)), x])) { s with heap := h2, toks := tk + 1 } :=
      I.turnedNew (ch := [e, it]) (fun b ob hb q => (sb.2 b (fun z => hb (by rw [z]; exact List.mem_cons_self))).trans (hk b ob (fun z => hb (by rw [z]; exact List.mem_cons_self)) (fun z => hb (by rw [z]; simp)) q)) hf (Nat.le_refl _) new
    refine ⟨.ref s.heap.objs.size, _, J, rfl, ⟨_, x, rfl, I.hok.fresh (Nat.le_refl _), rfl, fun l hl => by rw [sr_inj I hl hq]; exact hx⟩, ⟨⟨v, ?_⟩, srIt_keep (back1 _ _ n1) fun o q => (sb.2 it (Ne.symm ne)).trans q, ne, nt⟩, fun b hb => ?_⟩
    · have e1 : k0 + ((i + 1 : Nat) : Int) = k0 + (i : Int) + 1 := by omega
      rw [e1]; exact he2
    · have lb : b < s.heap.objs.size := by
        rcases List.mem_cons.mp hb with z | z
        · rw [z]; exact el
        · obtain rfl : b = it := by simpa using z
          exact il
      rw [upd_ne (Nat.ne_of_lt lb)]
      exact (hf b hb).1
  done := by
    rintro X rfl rfl rfl hc i pins s σ H E I hf ⟨⟨old, ke⟩, ki, ne, nt⟩ ⟨xs, hq, hl⟩
    obtain ⟨f0, f1, f2, f3, f4, f5⟩ := hf it (by simp)
    obtain ⟨P1, St1, D1, s1⟩ := sr_over hc I hq ki hl
    exact wpAny_pyNext_enum_endD D1 ke s1 fun h' eb => ⟨rfl, I.turned (t' := s.toks) (fun b o hb q => eb b o hb q) f0 f1 f3 f4 f5⟩
  self := fun A i s Q E st h => let ⟨⟨_, ke⟩, _⟩ := st; wpAny_pyIter_enum ke h
def enumK (k0 : Int) (ds : List D) : List D := ds.mapIdx fun i d => .tup [.int (k0 + (i : Int)), d]
theorem itok_enumK {c : Ct} {F : Hp} {xs : List D} {vs : List V} {r : Sr} {k0 : Int} (h1 : Reps c F xs vs) (q1 : ∀ H, Same F H → srAt c.K H r vs) : ItOk c F (enumK k0 xs) (ItsK c.K r k0) where
  go := fun i H s hi => by
    simp only [enumK, List.length_mapIdx] at hi
    exact ⟨vs, _, q1 H s, List.getElem?_eq_getElem (by rw [← h1.length]; exact hi)⟩
  stop := fun i H s hi => by
    simp only [enumK, List.length_mapIdx] at hi
    exact ⟨vs, q1 H s, by rw [← h1.length]; exact hi⟩
  yld := fun i H v H' s hi y => by
    obtain ⟨T, x, rfl, hT, rfl, hx⟩ := y
    obtain ⟨d, e1, r1⟩ := h1.getV (hx vs (q1 H s))
    refine ⟨.tup [.int (k0 + (i : Int)), d], by simp [enumK, List.getElem?_mapIdx, e1], .inr ⟨T, _, _, hT, rfl, rfl, rfl, ?_⟩⟩
    exact ⟨_, _, rfl, rfl, _, _, rfl, r1, rfl⟩
def enK (Q : List D → Ro → Prop) (ds : List D) (k0 : Int) (ρ' : Ro) : Prop := ∃ d xs, ds = [d] ∧ itemsD d = some xs ∧ Q (enumK k0 xs) ρ'
def diEnumK (k0 : Int) (ua : DA) : DI := fun ρ Q => ua ρ fun ds ρ' => enK Q ds k0 ρ'
section
variable {X : Cx} {m : M} {a : Expr} {pos p : Pos} {ua : DA}
theorem callWith_tyKw {M : Model} {env : Env} {A : Around} {E : Value → Shared → Prop} {s : Shared} {pos : Pos} {T : String} {e : Expr} {kws : List Keyword} {Q : Value → Shared → Prop}
    (h : wpAny M A (spliced (backTo pos (starEach [e] env))) (fun vs s₁ => wpAny M A (evalAll ((backToKw pos (keywordEach kws env)).map (·.2))) (fun ks s₂ => wpAny M A (call (.type T) vs (((backToKw pos (keywordEach kws env)).filterMap (·.1)).zip ks)) Q E s₂) E s₁) E s)
    (he : backTo pos (starEach [e] env) = (false, eval e env) :: backTo pos (starEach [] env)) (hpl : (backTo pos (starEach [e] env)).any (·.1) = false)
    (hall : (backToKw pos (keywordEach kws env)).all (·.1.isSome) = true) (hkw : (backToKw pos (keywordEach kws env)).any (·.1.isNone) = false) :
    wpAny M A (callWith pos (.type T) [] (backTo pos (starEach [e] env)) (backToKw pos (keywordEach kws env))) Q E s := by
  unfold callWith
  refine wpAny_bind (wpAny_holding (wpAny_mono (Q := fun a s₁ => wpAny M A (call (.type T) a.pos a.kw) Q E s₁) ?_ (fun a s₁ h₁ => wpAny_bind (wpAny_standAt ?_)) fun _ _ x => x))
  · rw [he] at h ⊢
    exact evalArgs_kwB hall h
  · simp only [hpl, hkw, Bool.or_false]
    refine wpAny_bind (wpAny_pure ?_)
    exact wpAny_bind (wpAny_mono h₁ (fun r s₂ hr => wpAny_bind (wpAny_holding (wpAny_point (wpAny_pure hr)))) fun _ _ x => x)
theorem pdi_enumStart {elts : List Expr} {kk jj : Nat} {tpos kpos ipos : Pos} {k0 : Int} (hk : 0 ≤ k0 ∧ k0 < 1000) (hg : Gl X "enumerate") (hm : X.mg "enumerate" = none) (ha : PDA X m [a] ua)
    (hb : backTo pos (starEach [a] X.env) = (false, eval a X.env) :: backTo pos (starEach [] X.env) := by rfl) (hpl : (backTo pos (starEach [a] X.env)).any (·.1) = false := by rfl)
    (hall : (backToKw pos (keywordEach [⟨some "start", .Constant (.int k0) jj ipos, kpos⟩] X.env)).all (·.1.isSome) = true := by rfl) (hkw : (backToKw pos (keywordEach [⟨some "start", .Constant (.int k0) jj ipos, kpos⟩] X.env)).any (·.1.isNone) = false := by rfl)
    (hks : (backToKw pos (keywordEach [⟨some "start", .Constant (.int k0) jj ipos, kpos⟩] X.env)).filterMap (·.1) = [("start" : Str)] := by rfl) :
    PDI X m (.Tuple elts kk tpos) (.Call (.Name "enumerate" p) [a] [⟨some "start", .Constant (.int k0) jj ipos, kpos⟩] pos) (diEnumK k0 ua) := by
  have G : ∀ pins s σ H (R : It → Hp → Prop), Inv X pins σ H s → lI X m (diEnumK k0 ua) σ H R → wpAny (model X.prog X.w) X.A (eval (.Call (.Name "enumerate" p) [a] [⟨some "start", .Constant (.int k0) jj ipos, kpos⟩] pos) X.env) (fun v s1 => wpAny (model X.prog X.w) X.A (pyIter v) (PIE X pins σ (.Tuple elts kk tpos) R) X.xe s1) X.xe s := by
    intro pins s σ H R I ⟨ρ, F, Sx, t⟩
    refine wpAny_Call_Name_kw (ld_blt I hg hm boot_enumerate (callWith_tyKw (thn (ha.pe.run pos pins s σ H (fun vs H1 => ∃ k1 xs, vs = [Sk.v k1] ∧ ∀ t1, srAt X.K H1 (k1.sr t1) xs ∧ R (ItsK X.K (k1.sr t1) k0) H1) I ⟨ρ, F, Sx, ha.mono _ _ _ (fun ds ρ' q vs H' F' s S' r => ?_) t⟩) fun us s1 ⟨vs, H1, I1, r1, q⟩ =>
      thn ((pk_cons pe_int pk_nil).run pos pins s1 σ H1 (fun zs H2 => zs = [V.int k0] ∧ H2 = H1) I1 ⟨rfl, rfl⟩) fun ws s2 ⟨zs, H2, I2, r2, ez, eH⟩ => ?_) hb hpl hall hkw))
    · obtain ⟨d, xs, rfl, e1, q⟩ := q
      obtain ⟨v, r1, rfl, r, r2⟩ := r
      obtain rfl : r1 = [] := r2
      obtain ⟨k1, rfl, vs, p1, q1⟩ := sk_of e1 r
      exact ⟨k1, vs, rfl, fun t1 => ⟨q1 _ _ S'.gr.fs, q H' F' _ s S' (itok_enumK p1 fun H s => q1 H t1 s)⟩⟩
    · obtain ⟨k1, xs, ex, q⟩ := q
      subst ex ez eH
      rcases r1 with _ | ⟨r, rr⟩
      cases rr
      rcases r2 with _ | ⟨r', rr'⟩
      cases rr'
      obtain ⟨t1, rfl⟩ := Sk.rel r
      obtain ⟨u, rfl⟩ := r'
      obtain ⟨hqx, q⟩ := q t1
      generalize k1.sr t1 = r1 at *
      obtain ⟨o1, H1b, B1, b1, f1, g1⟩ := sr_begins I2 hqx
      rw [hks]
      refine enum_begins_start B1 b1 (by omega) (by omega) fun h' ke e1 hsz hk => wpAny_pyIter_enum ke ?_
      have n1 : s2.heap.objs.size ∉ srTl r1 := fun z => Nat.lt_irrefl _ (f1 _ z)
      have n2 : s2.heap.objs.size + 1 ∉ srTl r1 := fun z => Nat.not_succ_lt_self (f1 _ z)
      refine ⟨s2.heap.objs.size + 1, [s2.heap.objs.size + 1, s2.heap.objs.size], _, _, _, rfl, I2.kept (t' := s2.toks) hk, turn_enumK r1 k0 (s2.heap.objs.size + 1) s2.heap.objs.size, ⟨⟨.none, by simpa using ke⟩, g1 _ _ e1 n1, Nat.succ_ne_self _, n2⟩, fun b hb => ?_, q⟩
      have lb : s2.heap.objs.size ≤ b := by
        rcases List.mem_cons.mp hb with z | z
        · rw [z]; exact Nat.le_add_right _ _
        · obtain rfl : b = s2.heap.objs.size := by simpa using z
          exact Nat.le_refl _
      exact I2.fpOk lb (I2.hok.fresh lb)
  exact ⟨⟨G⟩, fun ρ Q Q' i => ha.mono _ _ _ fun ds ρ' ⟨es, xs, e1, e2, q⟩ => ⟨es, xs, e1, e2, i _ _ q⟩⟩
theorem s_ienumK {k0 : Int} {ρ : Ro} {R : List D → Ro → Prop} (h : ua ρ fun ds ρ' => enK R ds k0 ρ') : diEnumK k0 ua ρ R := h
theorem s_enK {d : D} {xs : List D} {k0 : Int} {ρ : Ro} {R : List D → Ro → Prop} (h1 : itemsD d = some xs) (h : R (enumK k0 xs) ρ) : enK R [d] k0 ρ := ⟨d, xs, rfl, h1, h⟩
end
end DL
namespace DL
open PySem PySem.Spec L2 PyProof.Rows L2H
mutual
def noLst : D → Bool
  | .non => true | .bl _ => true | .int _ => true | .str _ => true
  | .tup ds => noLsts ds
  | _ => false
def noLsts : List D → Bool
  | [] => true
  | d :: ds => noLst d && noLsts ds
end
def rootOf (σ : L2.St) (bs : Bs) (a : Addr) : Prop := ∃ i d, (some i, d) ∈ bs ∧ σ[i]? = some (some (.ref a))
open Classical in
noncomputable def cutF (F2 : Hp) (σ : L2.St) (bs : Bs) : Hp := fun a => if rootOf σ bs a then none else F2 a
theorem cutF_no {F2 : Hp} {σ : L2.St} {bs : Bs} {a : Addr} (h : ¬ rootOf σ bs a) : cutF F2 σ bs a = F2 a := if_neg h
theorem cutF_some {F2 : Hp} {σ : L2.St} {bs : Bs} {a : Addr} {o : HO} (h : cutF F2 σ bs a = some o) : F2 a = some o ∧ ¬ rootOf σ bs a := by
  unfold cutF at h
  split at h
  · cases h
  · rename_i n; exact ⟨h, n⟩
def lentMut (bs : Bs) : Bool := bs.all fun b => b.1.isNone || mutD b.2
section
variable {K : PySem.W.Frag} {st : Option Addr} {F0 H0 F H F1 F2 H2 : Hp} {σ : L2.St} {ρ : Ro} {bs : Bs}
theorem back_gen (S : Sim ⟨K, st⟩ F0 H0 σ H ρ F) (k : lentOk ρ bs) (km : lentMut bs = true) (s1 : Same F F1) (n : ∀ a u, F1 a = some u → F a = some u ∨ ∃ i d, (some i, d) ∈ bs ∧ σ[i]? = some (some (.ref a))) (g : Grow ⟨K, none⟩ F1 H F2 H2) :
    Same F (cutF F2 σ bs) ∧ Sim ⟨K, st⟩ F0 H0 σ H2 ρ (cutF F2 σ bs) ∧ (∀ a, rootOf σ bs a → ∃ d, OwnAt ⟨K, st⟩ F H a d ∧ mutD d = true) := by
  have keep : ∀ b o, H b = some o → H2 b = some o := fun b o e => g.keep b o e (fun z => by cases z)
  have root : ∀ a, rootOf σ bs a → F a = none ∧ st ≠ some a ∧ ∃ d, OwnAt ⟨K, st⟩ F H a d ∧ mutD d = true := fun a ⟨i, d, hm, e⟩ => by
    obtain ⟨v, e1, b, eb, f1, f2, ow⟩ := S.slot i _ (lent_slot k hm)
    rw [e] at e1
    cases e1
    cases eb
    have := List.all_eq_true.mp km _ hm
    exact ⟨f1, S.ne_st f2, d, ow, by simpa using this⟩
  have sF : Same F (cutF F2 σ bs) := fun b o e => by
    rw [cutF_no fun z => by have := (root b z).1; rw [e] at this; cases this]
    exact g.f0 _ _ (s1 _ _ e)
  refine ⟨sF, S.grow ⟨fun b o e _ => keep b o e, sF, fun b o e => g.fs _ _ (cutF_some e).1, fun a o e => ?_, fun a z => ?_⟩, fun a h => (root a h).2.2⟩
  · obtain ⟨e1, e2⟩ := cutF_some e
    rcases g.new a o e1 with h | h
    · rcases n a o h with h | h
      · exact .inl h
      · exact (e2 h).elim
    · exact .inr h
  · obtain ⟨k1, l, ns, i, j, q, m, h2, h3, h4⟩ := S.gr.tok a z
    refine ⟨?_, l, ns, i, j, q, m, keep _ _ h2, sF _ _ h3, h4⟩
    cases q : cutF F2 σ bs a with
    | none => rfl
    | some o =>
      obtain ⟨e1, e2⟩ := cutF_some q
      rcases g.new a o e1 with h | h
      · rcases n a o h with h | h
        · rw [k1] at h; cases h
        · exact (e2 h).elim
      · rw [h2] at h; cases h
mutual
theorem rep_cut (hr : ∀ a, rootOf σ bs a → ∃ d, OwnAt ⟨K, st⟩ F H a d ∧ mutD d = true) (keep : ∀ b o, H b = some o → H2 b = some o) (fs : Same F2 H2) : ∀ {d : D} {v : V}, noLst d = true → Rep ⟨K, none⟩ F2 d v → Rep ⟨K, st⟩ (cutF F2 σ bs) d v
  | .non, _, _, h => h
  | .bl _, _, _, h => h
  | .int _, _, _, h => h
  | .str _, _, _, h => h
  | .tup ds, _, n, h => by
    obtain ⟨a, vs, e, h1, h2⟩ := h
    refine ⟨a, vs, e, ?_, reps_cut hr keep fs n h2⟩
    rw [cutF_no fun z => ?_]
    · exact h1
    · obtain ⟨d, ow, md⟩ := hr a z
      have h3 := fs _ _ h1
      cases d with
      | lst es => obtain ⟨ws, e1, _⟩ := ow; rw [keep _ _ e1] at h3; cases h3
      | dct => rcases ow with ⟨_, _, e, _⟩ | ⟨_, _, e, _⟩ <;> (rw [keep _ _ e] at h3; cases h3)
      | ins => obtain ⟨_, _, e, _⟩ := ow; rw [keep _ _ e] at h3; cases h3
      | _ => cases md
  | .lst _, _, n, _ => by cases n
  | .dct _ _ _, _, n, _ => by cases n
  | .ins _ _ _, _, n, _ => by cases n
  | .raw _, _, n, _ => by cases n
  | .tok, _, n, _ => by cases n
  | .pin _ _, _, n, _ => by cases n
  | .exc _ _ _ _ _, _, n, _ => by cases n
theorem reps_cut (hr : ∀ a, rootOf σ bs a → ∃ d, OwnAt ⟨K, st⟩ F H a d ∧ mutD d = true) (keep : ∀ b o, H b = some o → H2 b = some o) (fs : Same F2 H2) : ∀ {ds : List D} {vs : List V}, noLsts ds = true → Reps ⟨K, none⟩ F2 ds vs → Reps ⟨K, st⟩ (cutF F2 σ bs) ds vs
  | [], _, _, h => h
  | d :: ds, _, n, h => by
    obtain ⟨v, r, e, h1, h2⟩ := h
    rw [noLsts, Bool.and_eq_true] at n
    exact ⟨v, r, e, rep_cut hr keep fs n.1 h1, reps_cut hr keep fs n.2 h2⟩
end
end
section
variable {X : Cx} {m : M} {e : Expr} {es : List Expr} {ub : DAB} {pos p : Pos} {x : Str} {k j : Nat} {ps : List Str} {sd : SpXI}
def dMakeB (C : Addr) (sd : SpXI) (ub : DAB) : DE := fun ρ Q => ub ρ fun bs ρ' => lentOk ρ' bs ∧ lentMut bs = true ∧ noToks (bs.map (·.2)) = true ∧ sd.run (bs.map (·.2)) (fun ns zs => noLsts zs = true ∧ Q (.ins C ns zs) ρ') XP0
theorem pf_makeB (F : OkXI X.prog X.w X.K X.mg X.base x j ps sd) (hr : Room k X.A) (hk : j + 1 ≤ k) (ha : PDAB X m (e :: es) ub) (hg : Gl X x := by rfl) (hdb : (x == ("__debug__" : Str)) = false := by decide)
    (he : starEach (e :: es) X.env = (false, eval e X.env) :: starEach es X.env := by rfl) (hpl : (backTo pos (starEach es X.env)).any (·.1) = false := by rfl) : PF X m (.Call (.Name x p) (e :: es) [] pos) (dMakeB (He.ga X.K x) sd ub) := by
  obtain ⟨f, fd, G, hb, Mc, gl⟩ := F
  refine ⟨PE.imp (pe_makeT (E := fun _ => E0) Mc G (hr.mono hk) hg gl hb (fun σ pins H s e s' _ h => by obtain ⟨_, _, _, _, _, _, _, _, _, _, _, _, z⟩ := h; exact z.elim) ha.pe hdb he hpl) fun σ H Q ⟨ρ, F, Sx, t⟩ => ?_,
    fun ρ Q Q' i => ha.mono _ _ _ fun bs ρ' ⟨h1, h2, h3, h4⟩ => ⟨h1, h2, h3, sd.mono _ _ _ _ _ (fun ns zs ⟨n, q⟩ => ⟨n, i _ _ q⟩) (fun _ _ _ q => q) h4⟩⟩
  refine ⟨ρ, F, Sx, ha.mono _ _ _ (fun bs ρ' ⟨k1, km, k2, q⟩ vs H1 F1 s1 S1 r q0 dx hq hd ne => ?_) t⟩
  obtain ⟨F2, ρ2, s2, S2, R, n⟩ := freezeAll S1 k1 r
  obtain ⟨f1, f2⟩ := S2.fresh0 hq
  have hq2 : upd H1 dx (.own q0) q0 = none := (upd_ne (Ne.symm ne)).trans hq
  have sm : Same F2 (upd (upd H1 dx (.own q0)) q0 (.ins (He.ga X.K x) dx [])) := fun b o e0 => by
    have e1 := S2.gr.fs _ _ e0
    rw [upd_ne (ne_of_none e1 hq), upd_ne (ne_of_none e1 hd)]; exact e1
  refine ⟨F2, none, bs.map (·.2), q0, dx, vs, rfl, upd_same, f1, (fun z => by cases z), sm, (fun a z => by cases z), (fun a z => by cases z), Reps.notok k2 R, sd.mono _ _ _ _ _ (fun ns zs ⟨nl, q⟩ H' F' g h1 ow => ⟨rfl, ?_⟩) (fun _ _ _ z => z.elim) q⟩
  have gg := grow_init hq hd g
  obtain ⟨sF, S3, roots⟩ := back_gen S1 k1 km s2 n gg
  have keep : ∀ b o, H1 b = some o → H' b = some o := fun b o e => gg.keep b o e (fun z => by cases z)
  have nr : ¬ rootOf σ bs q0 := fun z => by
    obtain ⟨d, ow, _⟩ := roots q0 z
    obtain ⟨o, ho⟩ := ow.has
    rw [hq] at ho; cases ho
  obtain ⟨dx', ws, o1, o2, o3⟩ := ow
  exact q q0 H' _ (s1.trans sF) S3 (by rw [cutF_no nr]; exact h1) (S1.fresh0 hq).2 ⟨dx', ws, o1, o2, reps_cut roots keep gg.fs nl o3⟩ (fresh_of S1 hq)
theorem s_makeB {C : Addr} {sd : SpXI} {ρ : Ro} {Q : D → Ro → Prop} (h : ub ρ fun bs ρ' => lentOk ρ' bs ∧ lentMut bs = true ∧ noToks (bs.map (·.2)) = true ∧ sd.run (bs.map (·.2)) (fun ns zs => noLsts zs = true ∧ Q (.ins C ns zs) ρ') XP0) : dMakeB C sd ub ρ Q := h
end
end DL
namespace HT
open PySem PySem.Spec PyProof.Rows
section
variable {prog : Program} {w : World} {A : Around} {E : Value → Shared → Prop} {s : Shared}
theorem sliceApplied_rev {sl : Addr} {vl vu vk : Value} {n : Nat} {Q : Int × Int × Nat → Shared → Prop} (hs : s.heap.IsSliceOf sl vl vu vk) (pl : IsPart vl none) (pu : IsPart vu none) (pk : IsPart vk (some (-1)))
    (h : Q ((n : Int) - 1, -1, n) s) : wpAny (model prog w) A (Builtin.Slice.sliceApplied (.ref sl) (pure (n : Int))) Q E s := by
  obtain ⟨os, hos, hcs, hds⟩ := id hs
  unfold Builtin.Slice.sliceApplied Builtin.Slice.sliceFields
  refine wpAny_bind (wpAny_bind (wpAny_field hos hds (x := vl) rfl (wpAny_bind (wpAny_field hos hds (x := vu) rfl (wpAny_bind (wpAny_field hos hds (x := vk) rfl (wpAny_pure ?_)))))))
  refine wpAny_bind (slicePart_ pk ?_)
  show wpAny _ _ (if ((-1 : Int) == 0) = true then _ else _) _ _ s
  rw [if_neg (by decide)]
  refine wpAny_bind (slicePart_ pl (wpAny_bind (slicePart_ pu (wpAny_bind (wpAny_pure ?_)))))
  show wpAny _ _ (pure ((n : Int) - 1, (-1 : Int), Builtin.Slice.slicePlaces ((n : Int) - 1) (-1) (-1))) _ _ s
  have e : Builtin.Slice.slicePlaces ((n : Int) - 1) (-1) (-1) = n := by
    unfold Builtin.Slice.slicePlaces
    have h1 : ¬ ((-1 : Int) > 0) := by omega
    simp only [h1, if_false]
    by_cases z : n = 0
    · subst z; rfl
    · rw [if_pos (by omega)]
      have : ((n : Int) - 1 - -1 - 1) / (- -1) = (n : Int) - 1 := by
        rw [show (- -1 : Int) = 1 by omega, Int.ediv_one]; omega
      rw [this]; omega
  rw [e]
  exact wpAny_pure h
theorem fm_map {α β : Type} (f : α → Option β) (g : α → β) : ∀ l : List α, (∀ m ∈ l, f m = some (g m)) → l.filterMap f = l.map g
  | [], _ => rfl
  | a :: l, h => by rw [List.filterMap_cons, h a List.mem_cons_self, List.map_cons]; dsimp only; rw [fm_map f g l fun m hm => h m (List.mem_cons_of_mem _ hm)]
theorem pick_rev (xs : Array Value) : ((List.range xs.size).filterMap fun (m : Nat) => xs[(((xs.size : Int) - 1) + (m : Int) * (-1)).toNat]?).toArray = xs.toList.reverse.toArray := by
  congr 1
  apply List.ext_getElem?
  intro i
  have e : ∀ m, m < xs.size → xs[(((xs.size : Int) - 1) + (m : Int) * (-1)).toNat]? = some (xs.toList.getD (xs.size - 1 - m) .none) := fun m hm => by
    have : (((xs.size : Int) - 1) + (m : Int) * (-1)).toNat = xs.size - 1 - m := by omega
    rw [this, List.getD_eq_getElem?_getD, Array.getElem?_toList, Array.getElem?_eq_getElem (by omega)]
    rfl
  have e2 : (List.range xs.size).filterMap (fun (m : Nat) => xs[(((xs.size : Int) - 1) + (m : Int) * (-1)).toNat]?) = (List.range xs.size).map fun m => xs.toList.getD (xs.size - 1 - m) .none := by
    exact fm_map _ _ _ fun m hm => e m (List.mem_range.mp hm)
  rw [e2, List.getElem?_map]
  by_cases hi : i < xs.size
  · rw [List.getElem?_range hi, List.getElem?_reverse (by simpa using hi), Array.length_toList]
    show some (xs.toList.getD (xs.size - 1 - i) .none) = _
    rw [List.getD_eq_getElem?_getD, Array.getElem?_toList, Array.getElem?_eq_getElem (by omega)]; rfl
  · rw [List.getElem?_eq_none (by simpa using hi), List.getElem?_eq_none (by simpa using hi)]; rfl
theorem getItem_tuple_rev {t sl : Addr} {items : Array Value} {vl vu vk : Value} {Q : Value → Shared → Prop} (ht : IsTup s.heap t items) (hs : s.heap.IsSliceOf sl vl vu vk) (pl : IsPart vl none) (pu : IsPart vu none) (pk : IsPart vk (some (-1)))
    (h : Q (.ref s.heap.objs.size) { s with heap := s.heap.push { cls := .type "tuple", data := .seq items.toList.reverse.toArray } })
    (hsz : items.size ≤ sizeLine) : wpAny (model prog w) A (getItem (.ref t) (.ref sl)) Q E s := by
  have htake : sizeOk (.seq items.toList.reverse.toArray) := by
    show items.toList.reverse.toArray.size ≤ sizeLine
    simpa using hsz
  obtain ⟨os, hos, hcs, hds⟩ := id hs
  have hTs : s.TypeIs (.ref sl) "slice" := ⟨os, hos, hcs⟩
  unfold getItem
  try with_reducible refine wpAny_holding ?_
  first | refine wpAny_bind (wpAny_pure ?_) | skip
  refine wpAny_bind (wpAny_sequenceKey ht.typeIs (by decide) ?_)
  refine wpAny_bind (wpAny_callSpecial?_slot (name := Str.ofString "__getitem__") ht.typeIs PyProof.Rows.slot_tuple_getitem
    (wpAny_call_entry PyProof.Rows.slot_tuple_getitem ht.typeIs entry_tuple_getitem ?_ (args_tuple_getitem _ _)))
  show wpAny _ _ (Builtin.Tuple.tupleItemsOf (.ref t) >>= _) _ _ s
  refine wpAny_bind (tupleItemsOf_ ht ?_)
  refine wpAny_bind (wpAny_typeOf hTs ?_)
  rw [if_pos (by decide)]
  refine wpAny_bind (sliceApplied_rev hs pl pu pk ?_)
  show wpAny _ _ (if (((items.size : Int) - 1) == 0 && (-1 : Int) == 1 && items.size == items.size) = true then _ else _) _ _ s
  rw [if_neg (by rw [show ((-1 : Int) == 1) = false from by decide, Bool.and_false, Bool.false_and]; exact Bool.false_ne_true), pick_rev]
  first
    | exact wpAny_bind (m := Builtin.Tuple.tupleExact _) (wpAny_newObj_type (wpAny_pure ⟨_, rfl, wpAny_pure h⟩) htake)
    | exact wpAny_bind (m := Builtin.Tuple.tupleExact _) (wpAny_newObj_type (wpAny_bind (wpAny_pure (wpAny_pure ⟨_, rfl, wpAny_pure h⟩))) htake)
    | exact wpAny_bind (wpAny_bind (m := Builtin.Tuple.tupleExact _) (wpAny_newObj_type (wpAny_pure (wpAny_pure ⟨_, rfl, wpAny_pure h⟩)) htake))
    | exact wpAny_bind (wpAny_bind (m := Builtin.Tuple.tupleExact _) (wpAny_newObj_type (wpAny_pure ⟨_, rfl, wpAny_pure h⟩) htake))
end
end HT
namespace DL
open PySem PySem.Spec L2 PyProof.Rows L2H
section
variable {X : Cx} {m : M} {e : Expr} {te : DE} {pos : Pos}
def tRevT (K : PySem.W.Frag) (te : TE) : TE := fun σ H Q => te σ H fun x H1 => ∃ a xs, x = .ref a ∧ SqT K H1 a xs ∧ ∀ p, H1 p = none → Q (.ref p) (upd H1 p (.tup xs.reverse))
theorem pe_revT {e : Expr} {te : TE} {k : Nat} {p1 p2 p3 pos : Pos} (he : PE X e te) : PE X (.Subscript e (.Slice none none (some (.UnaryOp .USub (.Constant (.int 1) k p1) p2)) p3) pos) (tRevT X.K te) := by
  refine ⟨fun pins s σ H Q I h => ?_⟩
  refine Subscript_ (thn (he.run pins s σ H _ I h) fun v s1 ⟨x, H1, I1, r1, q1⟩ => ?_)
  obtain ⟨a, xs, ex, hx, q⟩ := q1
  subst ex
  cases r1
  have hst : PO X (some (.UnaryOp .USub (.Constant (.int 1) k p1) p2)) (tPart (tUn (rU fun i => .int (-i)) (tC (.int 1)))) := po_some (pe_un un_neg pe_int)
  refine wpAny_Slice (thn (po_none.run pins s1 σ H1 (fun o H2 => o = none ∧ H2 = H1) I1 ⟨rfl, rfl⟩) fun vl s2 ⟨l, H2, I2, pl, el, e2⟩ => ?_)
  subst el e2
  refine thn (po_none.run pins s2 σ H2 (fun o H3 => o = none ∧ H3 = H2) I2 ⟨rfl, rfl⟩) fun vu s3 ⟨u, H3, I3, pu, eu, e3⟩ => ?_
  subst eu e3
  refine thn (hst.run pins s3 σ H3 (fun o H4 => o = some (-1) ∧ H4 = H3) I3 ⟨1, rfl, -1, rfl, rfl, rfl⟩) fun vs s4 ⟨o, H4, I4, ps, eo, e4⟩ => ?_
  subst eo e4
  have I5 : Inv X pins σ H4 { s4 with heap := s4.heap.push { cls := .type "slice", data := .fields #[vl, vu, vs] } } := I4.kept (t' := s4.toks) fun b ob q => Heap.get?_push_of_some _ q
  obtain ⟨its, r, ht, hz⟩ := I5.tuple hx
  have hlen := r.length
  show wpAny (model X.prog X.w) X.A (subscriptTail e (.Slice none none (some (.UnaryOp .USub (.Constant (.int 1) k p1) p2)) p3) (.ref a) (.ref s4.heap.objs.size)) (EP X pins σ Q) X.xe { s4 with heap := s4.heap.push { cls := .type "slice", data := .fields #[vl, vu, vs] } }
  refine tail_any (ops := [.ref a, .ref s4.heap.objs.size]) ht.typeIs (PyProof.Rows.slot_tuple_getitem.lookup) ?_ (by with_unfolding_all rfl)
  refine HT.getItem_tuple_rev ht (Heap.IsSliceOf.new _ vl vu vs) pl pu ps ?_ (by rw [List.size_toArray]; omega)
  refine ⟨.ref _, _, I5.laid (t' := s4.toks) (o := .tup xs.reverse) (fun b ob q => Heap.get?_push_of_some _ q) (Nat.le_refl _) ?_, rfl, q _ (I5.hok.fresh (Nat.le_refl _))⟩
  exact ⟨by rw [List.length_reverse]; exact hz, _, r.reverse, IsTup.new _ _⟩
def fRevT : F1 := fun d P => match d with
  | .tup ds => P (.tup ds.reverse)
  | _ => False
theorem o_revT : Op1 X m (fun x H Q => ∃ a xs, x = .ref a ∧ SqT X.K H a xs ∧ ∀ p, H p = none → Q (.ref p) (upd H p (.tup xs.reverse))) fRevT := by
  refine ⟨fun {σ H ρ F d x Q P} Sm r1 h k => ?_, fun d P P' i => ?_⟩
  · unfold fRevT at h
    split at h
    · obtain ⟨a, vs, rfl, h1, h2⟩ := r1
      refine ⟨a, vs, rfl, SqT.of (Sm.gr.fs _ _ h1), fun l hl => ?_⟩
      have g := Sm.alloc (o := .tup vs.reverse) hl
      exact k _ _ _ _ h g ⟨l, _, rfl, upd_same, (Reps.rev h2).mono g.f0⟩
    · exact h.elim
  · unfold fRevT
    split <;> first | exact i _ | exact id
theorem pd_revT {k : Nat} {p1 p2 p3 : Pos} (ha : PQ X m e te) : PD X m (.Subscript e (.Slice none none (some (.UnaryOp .USub (.Constant (.int 1) k p1) p2)) p3) pos) (dOp1 fRevT te) := pd_op1 o_revT ha (pe_revT ha.pe)
theorem s_revT {z : List D} {P : D → Prop} (h : P (.tup z.reverse)) : fRevT (.tup z) P := h
end
end DL
namespace DL
open PySem PySem.Spec L2 PyProof.Rows L2H
theorem strOk_of {w : List Nat} (h : ∀ c ∈ w, c < 1114112) : (PyData.str (S w)).canLay0 = true := by
  show (S w).cps.all (· < 0x110000) = true
  rw [← Array.all_toList, S_cps, List.all_eq_true]
  exact fun c hc => decide_eq_true (h c hc)
theorem okDs_strs : ∀ {l : List (List Nat)}, (∀ w ∈ l, ∀ c ∈ w, c < 1114112) → PyData.canLayAll0 (toPs (l.map D.str)) = true ∧ PyData.depthAll (toPs (l.map D.str)) ≤ 1
  | [], _ => ⟨rfl, Nat.zero_le _⟩
  | w :: l, h => by
    obtain ⟨h1, h2⟩ := okDs_strs (l := l) fun z hz => h z (List.mem_cons_of_mem _ hz)
    constructor
    · show ((PyData.str (S w)).canLay0 && PyData.canLayAll0 (toPs (l.map D.str))) = true
      rw [h1, Bool.and_true]
      exact strOk_of (h w List.mem_cons_self)
    · show max (PyData.depth (.str (S w))) (PyData.depthAll (toPs (l.map D.str))) ≤ 1
      refine Nat.max_le.mpr ⟨?_, h2⟩
      simp [PyData.depth]
theorem okD_tupS {l : List (List Nat)} (h : ∀ w ∈ l, ∀ c ∈ w, c < 1114112) : okD (.tup (l.map D.str)) = true := by
  obtain ⟨h1, h2⟩ := okDs_strs h
  show (PyData.canLayAll0 (toPs (l.map D.str)) && decide (PyData.depth (.tuple (toPs (l.map D.str))) ≤ 64)) = true
  rw [h1, Bool.true_and]
  refine decide_eq_true ?_
  rw [PyData.depth]
  omega
theorem okD_lstS {l : List (List Nat)} (h : ∀ w ∈ l, ∀ c ∈ w, c < 1114112) : okD (.lst (l.map D.str)) = true := by
  obtain ⟨h1, h2⟩ := okDs_strs h
  show (PyData.canLayAll0 (toPs (l.map D.str)) && decide (PyData.depth (.list (toPs (l.map D.str))) ≤ 64)) = true
  rw [h1, Bool.true_and]
  refine decide_eq_true ?_
  rw [PyData.depth]
  omega
theorem eqv_strs : ∀ (a b : List (List Nat)), PyData.eqvAll (toPs (a.map D.str)) (toPs (b.map D.str)) = decide (a = b)
  | [], [] => rfl
  | [], _ :: _ => rfl
  | _ :: _, [] => rfl
  | x :: a, y :: b => by
    show ((S x == S y) && PyData.eqvAll (toPs (a.map D.str)) (toPs (b.map D.str))) = _
    rw [eqv_strs a b, Bool.eq_iff_iff, Bool.and_eq_true, beq_iff_eq, decide_eq_true_eq, decide_eq_true_eq, List.cons.injEq]
    exact ⟨fun ⟨h1, h2⟩ => ⟨S_inj h1, h2⟩, fun ⟨h1, h2⟩ => ⟨congrArg S h1, h2⟩⟩
theorem s_eqTS {a b : List (List Nat)} {P : D → Prop} (ha : ∀ w ∈ a, ∀ c ∈ w, c < 1114112) (hb : ∀ w ∈ b, ∀ c ∈ w, c < 1114112) (h : P (.bl (decide (a = b)))) : fEqG false (.tup (a.map D.str)) (.tup (b.map D.str)) P := by
  refine ⟨okD_tupS ha, okD_tupS hb, ?_⟩
  have : PyData.eqv (toP (.tup (a.map D.str))) (toP (.tup (b.map D.str))) = decide (a = b) := eqv_strs a b
  rw [this]; exact h
theorem s_eqLS {a b : List (List Nat)} {P : D → Prop} (ha : ∀ w ∈ a, ∀ c ∈ w, c < 1114112) (hb : ∀ w ∈ b, ∀ c ∈ w, c < 1114112) (h : P (.bl (decide (a = b)))) : fEqG false (.lst (a.map D.str)) (.lst (b.map D.str)) P := by
  refine ⟨okD_lstS ha, okD_lstS hb, ?_⟩
  have : PyData.eqv (toP (.lst (a.map D.str))) (toP (.lst (b.map D.str))) = decide (a = b) := eqv_strs a b
  rw [this]; exact h
theorem in_chars {c : Nat} {ls : List Nat} : inF (.str [c]) (ls.map fun c => D.str [c]) = decide (c ∈ ls) := by
  rw [Bool.eq_iff_iff, decide_eq_true_eq]
  unfold inF
  rw [List.any_eq_true]
  constructor
  · rintro ⟨d, hd, e⟩
    obtain ⟨a, ha, rfl⟩ := List.mem_map.mp hd
    have : ([a] : List Nat) = [c] := by simpa [eqF] using e
    rw [List.cons.injEq] at this
    rw [← this.1]; exact ha
  · intro h
    exact ⟨.str [c], List.mem_map.mpr ⟨c, h, rfl⟩, by simp [eqF]⟩
end DL
namespace DL
open PySem PySem.Spec L2 PyProof.Rows L2H
section
variable {X : Cx} {m : M} {e : Expr} {es : List Expr} {ua : DA} {pos p : Pos} {x : Str} {k j : Nat} {ps : List Str} {sd : SpXI} {wd : XW} {P : Program} {w : World} {K : Frag} {mg : Str → Option Value} {base : Heap}
theorem pf_makeXk (tk : L2N.Takes X (lW X m wd)) (F : OkXI P w K mg base x j ps sd) (hr : Room k X.A) (hk : j + 1 ≤ k) (ha : PDA X m (e :: es) ua) (e1 : P = X.prog := by rfl) (e2 : w = X.w := by rfl) (e3 : K = X.K := by rfl) (e4 : mg = X.mg := by rfl) (e5 : base = X.base := by rfl) (hg : Gl X x := by rfl) (hdb : (x == ("__debug__" : Str)) = false := by decide)
    (he : starEach (e :: es) X.env = (false, eval e X.env) :: starEach es X.env := by rfl) (hpl : (backTo pos (starEach es X.env)).any (·.1) = false := by rfl) : PF X m (.Call (.Name x p) (e :: es) [] pos) (dMakeX (He.ga K x) sd wd ua) := by
  subst e1 e2 e3 e4 e5
  exact pf_makeX tk F hr hk ha hg hdb he hpl
end
end DL
namespace DL
open PySem PySem.Spec L2 PyProof.Rows L2H
section
variable {X : Cx} {m : M} {ss : List Stmt} {t : DS}
def dFrz (i : Nat) (t : DS) : DS := fun E ρ => ∃ d, ρ[i]? = some (some (true, d)) ∧ frzOk d = true ∧ t E (ρ.set i (some (false, d)))
theorem pdss_frz (i : Nat) (h : PDSs X m ss t) : PDSs X m ss (dFrz i t) := by
  refine ⟨⟨fun pins s σ H D I ⟨ρ, F, S, d, e, z, q⟩ => ?_⟩, fun E E' ρ l ⟨d, e, z, q⟩ => ⟨d, e, z, h.mono _ _ _ l q⟩⟩
  obtain ⟨v, F', e2, sF, S', r⟩ := S.freeze z e
  exact h.ps.run pins s σ H D I ⟨_, F', S', h.mono _ _ _ (lEn_mono sF) q⟩
theorem s_frz {i : Nat} {E : DEn} {ρ : Ro} {d : D} (e : ρ[i]? = some (some (true, d))) (h : t E (ρ.set i (some (false, d)))) (z : frzOk d = true := by rfl) : dFrz i t E ρ := ⟨d, e, z, h⟩
end
end DL
namespace L2
open PySem PySem.Spec PyProof.Rows GenW
section
variable {prog : Program} {w : World} {A : Around} {R : GenEnd} {Y : Protocol} {n : Nat} {s₀ : Shared} {c : Code} {fs : List Frame} {s : Shared} {env : Env}
  {K : Flow → Sem PySem.Fin} {J : Value → Sem PySem.Fin} {gd : Bool → Bool} {lv : List Value → List Value}
def gNoted (env : Env) (x : Value) : Sem PySem.Fin := (do noteFrame x env; theTreesLotGoes x : Sem Unit).bind fun _ => .raise x
def gTail (tg : Expr) (it : Value) (body : List Stmt) (env : Env) (f : Flow) : Sem PySem.Fin := match f with
  | .next | .cont => .pure (.again (.forLoop tg it body [] env))
  | .brk => .pure (.done .next)
  | .ret v => .pure (.done (.ret v))
theorem gseg_turn {tg : Expr} {it : Value} {body : List Stmt}
    (h : wpAny (model prog w) (A.over (.forLoop tg it body [] env) fs) (pyNext it) (fun r s1 => match r with
        | none => Seg (model prog w) A R Y n s₀ (.block [] env) ((model prog w).den (.block [] env)) fs s1
        | some v => wpAny (model prog w) (A.over (.forLoop tg it body [] env) fs) (letOwnedTupleGo tg it v) (fun _ s1' => wpAny (model prog w) (A.over (.forLoop tg it body [] env) fs) (assign tg env v)
            (fun _ s2 => Seg (model prog w) A R Y n s₀ (.forLoop tg it body [] env) ((execs body env).wrap (gTail tg it body env) (gNoted env) id id) fs s2)
            (fun x s' => Seg (model prog w) A R Y n s₀ (.forLoop tg it body [] env) (gNoted env x) fs s') s1') (fun x s' => Seg (model prog w) A R Y n s₀ (.forLoop tg it body [] env) (gNoted env x) fs s') s1)
      (fun x s' => Seg (model prog w) A R Y n s₀ (.forLoop tg it body [] env) (gNoted env x) fs s') s) :
    Seg (model prog w) A R Y n s₀ (.forLoop tg it body [] env) ((model prog w).den (.forLoop tg it body [] env)) fs s := by
  show Seg _ A R Y n s₀ _ ((forTurn tg it body [] env).onRaise (fun x => do noteFrame x env; theTreesLotGoes x)) fs s
  unfold forTurn
  rw [Sem.onRaise_eq_wrap]
  refine seg_bind_wrap (wpAny_standAt ?_)
  refine seg_bind_wrap (wpAny_onRaise (wpAny_mono h (fun r s1 h1 => ?_) fun x s' hx => wpAny_standAt hx))
  cases r with
  | none => exact seg_again rfl h1
  | some v =>
    refine seg_bind_wrap (wpAny_mono h1 (fun _ s1' h1' => ?_) fun x s' hx => hx)
    refine seg_bind_wrap (wpAny_mono h1' (fun _ s2 h2 => ?_) fun x s' hx => hx)
    rw [Sem.bind_eq_wrap', Sem.wrap_wrap]
    rw [Sem.wrap_congr (execs body env) _ _ (K' := gTail tg it body env) (H' := gNoted env) (fun f => by cases f <;> rfl) (fun e => by first | rfl | (exact (Sem.bind_eq_wrap _ _).symm))]
    exact h2
theorem gseg_for {tg iter : Expr} {body : List Stmt} {pos : Pos} (hs : ∀ x, foldedSetIterable iter env x = pure x)
    (h : wpAny (model prog w) (A.over c fs) (eval iter env) (fun x s1 => wpAny (model prog w) (A.over c fs) (pyIter x) (fun it s2 =>
        ∀ p kp, Seg (model prog w) A R Y n s₀ (.forLoop tg it body [] env) ((model prog w).den (.forLoop tg it body [] env))
          (.ret (fun r => ((match r with | .ok f => (.pure f : Sem Flow) | .error e => .raise e).onRaise (cameBack env)).wrap K J gd lv) none (gd false) (lv []) c p kp :: fs) s2)
        (fun x s' => Seg (model prog w) A R Y n s₀ c (J x) fs s') s1) (fun x s' => Seg (model prog w) A R Y n s₀ c (J x) fs s') s) :
    Seg (model prog w) A R Y n s₀ c ((exec (.For tg iter body [] pos) env).wrap K J gd lv) fs s := by
  rw [exec_For]
  refine seg_bind_wrap (wpAny_standAt ?_)
  refine seg_bind_wrap (wpAny_mono h (fun x s1 h1 => ?_) fun x s' hx => hx)
  rw [hs x]
  refine seg_bind_wrap (wpAny_pure ?_)
  refine seg_bind_wrap (wpAny_standAt ?_)
  refine seg_bind_wrap (wpAny_holding (wpAny_mono h1 (fun it s2 h2 => ?_) fun x s' hx => hx))
  exact seg_call fun p => h2 p _
end
section
variable {X : Cx} {pos : Pos}
def tGFor (wi : TI) (g : TG) (tb : TGn) : TGn := fun D ys σ H => wi σ H fun J H1 => ∃ W : Nat → Nat → List V → St → Hp → Prop, (∃ m, W 0 m ys σ H1) ∧ ∀ i m ys σ H, W i m ys σ H →
  (J.stop i H ∧ D.nx ys σ H) ∨ (J.go i H ∧ ∃ N : List V → St → Hp → Prop, (∀ ys' σ' H', N ys' σ' H' → ∃ m', m' < m ∧ W (i + 1) m' ys' σ' H') ∧
    ∀ x H', J.yld i H x H' → g x σ H' fun σ2 H2 => tb { D with nx := N, ct := N, bk := D.nx } ys σ2 H2)
theorem fpOk_any {S : Addr} {o o' : Obj} {ip : List (Addr × Obj)} {H : Hp} {b : Addr} (h : FpOk X ((S, o) :: ip) H b) : FpOk X ((S, o') :: ip) H b := by
  obtain ⟨h1, h2, h3, h4, h5, h6⟩ := h
  refine ⟨h1, h2, h3, h4, h5, fun p hp => ?_⟩
  rcases List.mem_append.mp hp with z | z
  · exact h6 p (List.mem_append_left _ z)
  · rcases List.mem_cons.mp z with z | z
    · subst z
      exact h6 (S, o) (List.mem_append_right _ List.mem_cons_self)
    · exact h6 p (List.mem_append_right _ (List.mem_cons_of_mem _ z))
theorem gs_for {tg iter : Expr} {body : List Stmt} {wi : TI} {g : TG} {tb : TGn} (hp : PassesOwn (model X.prog X.w) X.A X.env X.xe) (hc : X.calm = true) (hi : PI X tg iter wi) (hg : PG X tg g) (hb : GSs X body tb)
    (hs : ∀ x, foldedSetIterable iter X.env x = pure x := by intro _; rfl) : GS X (.For tg iter body [] pos) (tGFor wi g tb) := by
  refine ⟨fun A S ip R n ys s₀ c fs K J gd lv s σ H D g0 hn k hI ht => ?_⟩
  obtain ⟨acc, cc, r, I⟩ := hI
  refine gseg_for hs ?_
  rw [g0.over]
  refine wpAny_mono (hi.run _ s σ H _ I ht) (fun v s1 h1 => wpAny_mono h1 (fun itv s2 h2 => ?_) fun x s' hx => k.exc n s₀ x s' hx) fun x s' hx => k.exc n s₀ x s' hx
  obtain ⟨it, fp, tn, JJ, H2, e, I2, T, st2, f2, W, ⟨m0, w0⟩, turn⟩ := h2
  subst e
  intro p kp
  have gl := fun (kk : Result → Sem PySem.Fin) => gc_loop (k := kk) (c' := .forLoop tg (.ref it) body [] X.env) (l := lv []) (kp := kp) (p := p) g0 rfl rfl
  have stat : ∀ {H' : Hp} {o : Obj}, (∀ b ∈ fp, H' b = none) → ∀ b ∈ fp, FpOk X ((S, o) :: ip) H' b := fun hn b hb => fpOk_any (o := lstObj acc cc) ⟨hn b hb, (f2 b hb).2⟩
  have hSf : ∀ b ∈ fp, b ≠ S := fun b hb z => (f2 b hb).2.2.2.2.2 (S, lstObj acc cc) (List.mem_append_right _ List.mem_cons_self) z.symm
  have loop : ∀ (m i n : Nat) (ys : List V) (s₀ s : Shared) (σ : St) (H : Hp), n + ys.length = sizeLine → W i m ys σ H → GI X S ip ys σ H s → tn i s.heap → (∀ b ∈ fp, H b = none) →
      Seg (model X.prog X.w) A R (GY X S) n s₀ (.forLoop tg (.ref it) body [] X.env) ((model X.prog X.w).den (.forLoop tg (.ref it) body [] X.env))
        (.ret (fun r => ((match r with | .ok f => (.pure f : Sem Flow) | .error e => .raise e).onRaise (cameBack X.env)).wrap K J gd lv) none (gd false) (lv []) c p kp :: fs) s := by
    intro m
    induction m using Nat.strongRecOn with
    | ind m ih =>
      intro i n ys s₀ s3 σ3 H3 hn w3 hI st3 fr3
      have ee : ∀ (n : Nat) (s₀ : Shared) (x : Value) (s' : Shared), X.xe x s' → Seg (model X.prog X.w) A R (GY X S) n s₀ (.forLoop tg (.ref it) body [] X.env) (gNoted X.env x)
          (.ret (fun r => ((match r with | .ok f => (.pure f : Sem Flow) | .error e => .raise e).onRaise (cameBack X.env)).wrap K J gd lv) none (gd false) (lv []) c p kp :: fs) s' := fun n s₀ x s' hx => by
        unfold gNoted
        rw [Sem.bind_eq_wrap]
        refine seg_wrap ?_
        rw [(gl _).over]
        refine wpAny_bind (wpAny_mono (hp x s' hx) (fun _ s'' hcb => wpAny_theTreesLotGoes ?_) fun y s'' hcb => ?_)
        · exact seg_leaf (.error x) (seg_cameBack g0 k hcb)
        · exact seg_leaf (.error y) (seg_cameBack g0 k hcb)
      obtain ⟨acc3, cc3, r3, I3⟩ := hI
      refine gseg_turn ?_
      rw [(gl _).over]
      rcases turn i m ys σ3 H3 w3 with ⟨stop, qn⟩ | ⟨go, N, hN, step⟩
      · refine wpAny_mono (T.done X rfl rfl rfl hc i _ s3 σ3 H3 X.xe I3 (stat fr3) st3 stop) (fun r s4 ⟨hr, I4⟩ => ?_) fun x s' hx => ee n s₀ x s' hx
        subst hr
        show Seg _ _ _ _ _ _ _ (.pure (.done .next)) _ _
        exact seg_leaf (.ok .next) (k.ok n ys s₀ s4 .next hn ⟨σ3, H3, ⟨acc3, cc3, r3, I4⟩, qn⟩)
      · refine wpAny_mono (T.item X rfl rfl rfl hc i _ s3 σ3 H3 X.xe I3 (stat fr3) st3 go) (fun r s4 ⟨u, hr, h4⟩ => ?_) fun x s' hx => ee n s₀ x s' hx
        subst hr
        refine wpAny_mono h4 (fun _ s5 ⟨x, H5, I5, r5, y5, st5, fr5⟩ => ?_) fun x s' hx => ee n s₀ x s' hx
        have I5' := I5.pinned (stat fr5) (T.obj _ _ st5)
        refine wpAny_mono (hg.run _ s5 σ3 H5 x u _ I5' r5 (step x H5 y5)) (fun _ s6 ⟨σ6, H6, I6, q6⟩ => ?_) fun x s' hx => ee n s₀ x s' hx
        have hip : ∀ p ∈ ip ++ pinsAt fp s5.heap, p.1 ≠ S := fun p hp => by
          rcases List.mem_append.mp hp with z | z
          · exact g0.ip p z
          · exact hSf p.1 (of_pinsAt z).1
        have gi : ∀ {ys7 : List V} {σ7 : St} {H7 : Hp} {s7 : Shared}, GI X S (ip ++ pinsAt fp s5.heap) ys7 σ7 H7 s7 → GI X S ip ys7 σ7 H7 s7 := fun {ys7 σ7 H7 s7} ⟨a7, c7, r7, I7⟩ =>
          ⟨a7, c7, r7, Inv.unpinned (pins := (S, lstObj a7 c7) :: ip) (pl := pinsAt fp s5.heap) I7⟩
        have tn7 : ∀ {ys7 : List V} {σ7 : St} {H7 : Hp} {s7 : Shared}, GI X S (ip ++ pinsAt fp s5.heap) ys7 σ7 H7 s7 → tn (i + 1) s7.heap ∧ ∀ b ∈ fp, H7 b = none := fun {ys7 σ7 H7 s7} ⟨a7, c7, r7, I7⟩ => by
          have pn7 : ∀ b ∈ fp, ∀ o, s5.heap.get? b = some o → _ := fun b hb o e => I7.pin (b, o) (List.mem_append_right _ (List.mem_cons_of_mem _ (List.mem_append_right _ (mem_pinsAt hb e))))
          refine ⟨T.keep _ _ _ st5 fun b hb o e => (pn7 b hb o e).1, fun b hb => ?_⟩
          obtain ⟨o, e, d⟩ := T.obj _ _ st5 b hb
          exact (pn7 b hb o e).2.1
        have again : ∀ {n7 : Nat} {ys7 : List V} {s₀ s7 : Shared} {σ7 : St} {H7 : Hp}, n7 + ys7.length = sizeLine → GI X S (ip ++ pinsAt fp s5.heap) ys7 σ7 H7 s7 → N ys7 σ7 H7 →
            Seg (model X.prog X.w) A R (GY X S) n7 s₀ (.forLoop tg (.ref it) body [] X.env) (.pure (.again (.forLoop tg (.ref it) body [] X.env)))
              (.ret (fun r => ((match r with | .ok f => (.pure f : Sem Flow) | .error e => .raise e).onRaise (cameBack X.env)).wrap K J gd lv) none (gd false) (lv []) c p kp :: fs) s7 := fun {n7 ys7 s₀ s7 σ7 H7} hn7 I7 q7 => by
          obtain ⟨m', hm, w7⟩ := hN ys7 σ7 H7 q7
          obtain ⟨t7, f7⟩ := tn7 I7
          exact seg_again rfl (ih m' hm (i + 1) n7 ys7 s₀ s7 σ7 H7 hn7 w7 (gi I7) t7 f7)
        refine hb.run A S (ip ++ pinsAt fp s5.heap) R n ys s₀ _ _ _ _ id id s6 σ6 H6 { D with nx := N, ct := N, bk := D.nx } { gl _ with ip := hip } hn ⟨fun n' ys' s₀' s7 f hn' hs => ?_, fun n' s₀' x s7 hx => ee n' s₀' x s7 hx⟩ ⟨acc3, cc3, r3, I6⟩ q6
        cases f with
        | next => obtain ⟨σ7, H7, I7, q7⟩ := hs; exact again hn' I7 q7
        | cont => obtain ⟨σ7, H7, I7, q7⟩ := hs; exact again hn' I7 q7
        | brk =>
          obtain ⟨σ7, H7, I7, q7⟩ := hs
          exact seg_leaf (.ok .next) (k.ok n' ys' s₀' s7 .next hn' ⟨σ7, H7, gi I7, q7⟩)
        | ret v =>
          obtain ⟨x7, σ7, H7, I7, r7, q7⟩ := hs
          exact seg_leaf (.ok (.ret v)) (k.ok n' ys' s₀' s7 (.ret v) hn' ⟨x7, σ7, H7, gi I7, r7, q7⟩)
  exact loop m0 0 n ys s₀ s2 σ H2 hn w0 ⟨acc, cc, r, I2⟩ st2 fun b hb => (f2 b hb).1
end
section
variable {prog : Program} {w : World} {A : Around} {E : Value → Shared → Prop} {s : Shared}
theorem special_list_item {it l : Addr} {i : Nat} {items : Array Value} {x : Value} {Q : Option Value → Shared → Prop} (hit : s.heap.IsListIter it l i) (hl : s.heap.IsList l items) (hx : items[i]? = some x)
    (hQ : ∀ h', h'.IsListIter it l (i + 1) → Heap.SameBut it s.heap h' → Q (some x) { s with heap := h' }) : wpAny (model prog w) A (callSpecial? (.ref it) "__next__") Q E s := by
  obtain ⟨o, ho, hc, hd⟩ := id hit
  obtain ⟨ol, hol, _, nl, hdl⟩ := hl
  refine wpAny_callSpecial?_slot (name := Str.ofString "__next__") hit.typeIs slot_listiter_next (wpAny_call_entry slot_listiter_next hit.typeIs entry_listiter_next ?_ (args_listiter_next _))
  show wpAny _ _ (field (.ref it) 0 >>= _) _ _ s
  refine wpAny_bind (wpAny_field ho hd (x := .ref l) rfl ?_)
  show wpAny _ _ (if (Value.ref l == Value.none) = true then _ else _) _ _ s
  rw [if_neg (show ¬ ((Value.ref l == Value.none) = true) from Bool.false_ne_true)]
  show wpAny _ _ (field (.ref it) 1 >>= _) _ _ s
  refine wpAny_bind (wpAny_field ho hd (x := .int i 0) rfl ?_)
  show wpAny _ _ (seqItems? (.ref l) >>= _) _ _ s
  refine wpAny_bind (wpAny_seqItems hol hdl ?_)
  simp only [Int.toNat_natCast, hx]
  refine wpAny_bind (wpAny_setField ho hd (by simp) (wpAny_pure ⟨x, rfl, hQ _ ?_ (Heap.SameBut.update ..)⟩))
  exact ⟨_, Heap.get?_update_self _ ho (Obj.isFreed_of_fields (Obj.data_mapFields hd _)), (Obj.cls_mapFields ..).trans hc, by
    rw [Obj.data_mapFields hd]; simp [rawInt]⟩
theorem special_list_end {it l : Addr} {i : Nat} {items : Array Value} {Q : Option Value → Shared → Prop} (hh : A.handled = none) (hit : s.heap.IsListIter it l i) (hl : s.heap.IsList l items) (hx : items[i]? = none)
    (hE : ∀ e h', StopX e h' → Heap.ExtBut it s.heap h' → E e { s with heap := h' }) : wpAny (model prog w) A (callSpecial? (.ref it) "__next__") Q E s := by
  obtain ⟨o, ho, hc, hd⟩ := id hit
  obtain ⟨ol, hol, _, nl, hdl⟩ := hl
  refine wpAny_callSpecial?_slot (name := Str.ofString "__next__") hit.typeIs slot_listiter_next (wpAny_call_entry slot_listiter_next hit.typeIs entry_listiter_next ?_ (args_listiter_next _))
  show wpAny _ _ (field (.ref it) 0 >>= _) _ _ s
  refine wpAny_bind (wpAny_field ho hd (x := .ref l) rfl ?_)
  show wpAny _ _ (if (Value.ref l == Value.none) = true then _ else _) _ _ s
  rw [if_neg (show ¬ ((Value.ref l == Value.none) = true) from Bool.false_ne_true)]
  show wpAny _ _ (field (.ref it) 1 >>= _) _ _ s
  refine wpAny_bind (wpAny_field ho hd (x := .int i 0) rfl ?_)
  show wpAny _ _ (seqItems? (.ref l) >>= _) _ _ s
  refine wpAny_bind (wpAny_seqItems hol hdl ?_)
  simp only [Int.toNat_natCast, hx]
  refine wpAny_bind (wpAny_rule (wpAny_bind (wpAny_setField ho hd (by simp) ?_)))
  show wpAny _ _ (newExc (.type "StopIteration") [] >>= _) _ _ _
  refine wpAny_bind ?_
  simp only [newExc, newTuple]
  refine wpAny_bind (wpAny_newObj_type ?_ (by size_fits))
  refine wpAny_bind (m := firstArgMember _ _) (wpAny_of_eq (a := Value.none) (by first | rfl | (simp only [firstArgMember]; rfl)) ?_)
  refine wpAny_newObj_type ?_ (by size_fits)
  simp only [raiseNew]
  refine wpAny_bind (wpAny_handled ?_)
  first | rw [show A.in1.handled = none from hh] | rw [hh]
  refine wpAny_bind (wpAny_pure (wpAny_throw ?_))
  refine hE _ _ ⟨_, _, _, rfl, Heap.get?_push_size _ rfl, rfl, rfl, ?_⟩ (((Heap.SameBut.update ..).extBut.push _).push _)
  first
    | rfl
    | (rw [Array.getElem?_append_left (by decide)]; rfl)
    | kernel_rfl
end
section
variable {X : Cx} {e : Expr} {te : TE}
def tYfList (te : TE) : TYf := fun σ H Q => te σ H fun x H1 => ∃ a xs, x = .ref a ∧ H1 a = some (.lst xs) ∧ Q xs H1
theorem close_list : typeLookup (.type "list_iterator") "close" = pure none := by rw [typeLookup_type, builtinLookup_eq_fast]; kernel_rfl
theorem yf_list (he : PE X e te) : YfE X e (tYfList te) := by
  refine ⟨fun pins s σ H Q I h => ?_⟩
  refine thn (he.run pins s σ H _ I h) fun v s1 ⟨x, H1, I1, r1, a, xs, ex, ha, hq⟩ => ?_
  subst ex
  obtain rfl : v = Value.ref a := r1
  obtain ⟨its, rits, ht, hz⟩ := I1.list (SqL.of ha)
  have ht : s1.heap.IsList a its.toArray := ht.isList
  refine ⟨"list", ht.typeIs, by decide, wpAny_pyIter_list ht ?_⟩
  have ksz : ∀ b o, s1.heap.get? b = some o → b ≠ s1.heap.objs.size := fun b o e => Nat.ne_of_lt (Heap.lt_size e)
  have kp : ∀ b o, s1.heap.get? b = some o → (s1.heap.push { cls := .type "list_iterator", data := .fields #[.ref a, .int 0 0] }).get? b = some o := fun b o e => Heap.get?_push_of_some _ e
  have alt : a < s1.heap.objs.size := by obtain ⟨o, ho, _⟩ := ht; exact Heap.lt_size ho
  refine ⟨s1.heap.objs.size, H1, xs, fun j h => h.IsListIter s1.heap.objs.size a j ∧ h.IsList a its.toArray, rfl, I1.kept (t' := s1.toks) kp, .inr I1.sz, Nat.ne_of_gt I1.lt, fun y c hy => ?_, I1.hok.fresh (Nat.le_refl _), fun p hp => ?_,
    ⟨⟨_, Heap.get?_push_size _ rfl, rfl, rfl⟩, ht.at fun o e => kp _ _ e⟩, ⟨⟨"list_iterator", fun j h q => ?_, close_list, by decide⟩, fun j h h' q hk => ?_, fun A' j x s2 Q' E' hA hx q hQ => ?_, fun A' s2 Q' E' hA q hE => ?_⟩, hq⟩
  · obtain ⟨v, o, ho, _⟩ := I1.cell y c hy
    exact ksz c o ho
  · exact ksz p.1 _ (I1.pin p hp).1
  · obtain ⟨⟨o, ho, hc, _⟩, _⟩ := q
    exact ⟨o, ho, hc⟩
  · obtain ⟨q1, q2⟩ := q
    exact ⟨q1.at fun o e => hk _ o (.inl rfl) e, q2.at fun o e => hk _ o (.inr (by rw [ha]; exact fun z => by cases z)) e⟩
  · obtain ⟨q1, q2⟩ := q
    obtain ⟨u, hu, ru⟩ := rits.get hx
    have hne : a ≠ s1.heap.objs.size := Nat.ne_of_lt alt
    exact special_list_item q1 q2 (x := u) (by simpa using hu) fun h' q1' hs => hQ u h' s2.toks ru ⟨q1', q2.extBut hs.extBut hne⟩ fun b o hb eb => hs.extBut b o hb eb
  · obtain ⟨q1, q2⟩ := q
    have hnone : its.toArray[xs.length]? = none := by
      have e := rits.length
      have e2 : its[xs.length]? = none := List.getElem?_eq_none_iff.mpr (by omega)
      simpa using e2
    exact special_list_end hA q1 q2 hnone fun e h' hS hk => hE e h' s2.toks hS fun b o hb eb => hk b o hb eb
end
end L2
namespace DL
open PySem L2 PyProof.Rows
structure DGEn where
  nx : List D → Ro → Prop
  bk : List D → Ro → Prop := fun _ _ => False
  ct : List D → Ro → Prop := fun _ _ => False
structure DGEn.le (E E' : DGEn) : Prop where
  nx : ∀ ds ρ, E.nx ds ρ → E'.nx ds ρ
  bk : ∀ ds ρ, E.bk ds ρ → E'.bk ds ρ
  ct : ∀ ds ρ, E.ct ds ρ → E'.ct ds ρ
abbrev DGS := DGEn → List D → Ro → Prop
def lGN (X : Cx) (m : M) (N : List V → L2.St → Hp → Prop) (F : Hp) : List D → Ro → Prop := fun ds ρ => ∀ ys σ' H' F', Same F F' → Sm X m σ' H' ρ F' → Reps (m.c X) F' ds ys → N ys σ' H'
def lGEn (X : Cx) (m : M) (D : GEnds) (F : Hp) : DGEn := ⟨lGN X m D.nx F, lGN X m D.bk F, lGN X m D.ct F⟩
theorem lGN_mono {X : Cx} {m : M} {N : List V → L2.St → Hp → Prop} {F F' : Hp} (s : Same F F') (ds : List D) (ρ : Ro) (h : lGN X m N F ds ρ) : lGN X m N F' ds ρ := fun ys σ' H' F2 s2 S => h ys σ' H' F2 (s.trans s2) S
theorem lGEn_mono {X : Cx} {m : M} {D : GEnds} {F F' : Hp} (s : Same F F') : (lGEn X m D F).le (lGEn X m D F') := ⟨lGN_mono s, lGN_mono s, lGN_mono s⟩
def lGS (X : Cx) (m : M) (ts : DGS) : TGn := fun D ys σ H => ∃ ρ F ds, Sm X m σ H ρ F ∧ Reps (m.c X) F ds ys ∧ ts (lGEn X m D F) ds ρ
structure PDgS (X : Cx) (m : M) (st : Stmt) (ts : DGS) : Prop where
  gs : GS X st (lGS X m ts)
  mono : ∀ E E' ds ρ, E.le E' → ts E ds ρ → ts E' ds ρ
structure PDgSs (X : Cx) (m : M) (st : List Stmt) (ts : DGS) : Prop where
  gs : GSs X st (lGS X m ts)
  mono : ∀ E E' ds ρ, E.le E' → ts E ds ρ → ts E' ds ρ
section
variable {X : Cx} {m : M} {e : Expr} {te : DE} {pos yp : Pos} {st : Stmt} {rest : List Stmt} {t u : DGS} {ts : DS}
theorem GS.imp {t t' : TGn} (h : GS X st t) (i : ∀ D ys σ H, t' D ys σ H → t D ys σ H) : GS X st t' := ⟨fun A S ip R n ys s₀ c fs K J gd lv s σ H D g hn k hI ht => h.run A S ip R n ys s₀ c fs K J gd lv s σ H D g hn k hI (i _ _ _ _ ht)⟩
theorem GSs.imp {t t' : TGn} (h : GSs X rest t) (i : ∀ D ys σ H, t' D ys σ H → t D ys σ H) : GSs X rest t' := ⟨fun A S ip R n ys s₀ c fs K J gd lv s σ H D g hn k hI ht => h.run A S ip R n ys s₀ c fs K J gd lv s σ H D g hn k hI (i _ _ _ _ ht)⟩
def dgPlain (ts : DS) : DGS := fun E ds ρ => ts { nx := E.nx ds, rt := fun _ _ => False, bk := E.bk ds, ct := E.ct ds } ρ
theorem pgs_plain (h : PDS X m st ts) : PDgS X m st (dgPlain ts) := by
  refine ⟨GS.imp (gs_ps h.ps) fun D ys σ H ⟨ρ, F, ds, S, r, q⟩ => ⟨ρ, F, S, h.mono _ _ _ ?_ q⟩, fun E E' ds ρ l q => h.mono { nx := E.nx ds, rt := fun _ _ => False, bk := E.bk ds, ct := E.ct ds } { nx := E'.nx ds, rt := fun _ _ => False, bk := E'.bk ds, ct := E'.ct ds } ρ ⟨l.nx ds, fun _ _ z => z, l.bk ds, l.ct ds⟩ q⟩
  have k : ∀ {N : List V → L2.St → Hp → Prop} (ρ' : Ro), lGN X m N F ds ρ' → lN X m (N ys) F ρ' := fun ρ' q σ' H' F' s S' => q ys σ' H' F' s S' (r.mono s)
  exact ⟨k, fun _ _ z => z.elim, k, k⟩
def dg0 : DGS := fun E ds ρ => E.nx ds ρ
theorem pgss_nil : PDgSs X m [] dg0 := ⟨GSs.imp gss_nil fun D ys σ H ⟨ρ, F, ds, S, r, q⟩ => q ys σ H F (Same.refl _) S r, fun E E' ds ρ l q => l.nx _ _ q⟩
def dgSeq (t u : DGS) : DGS := fun E ds ρ => t { E with nx := u E } ds ρ
theorem pgss_cons (h1 : PDgS X m st t) (h2 : PDgSs X m rest u) : PDgSs X m (st :: rest) (dgSeq t u) := by
  refine ⟨GSs.imp (gss_cons h1.gs h2.gs) fun D ys σ H ⟨ρ, F, ds, S, r, q⟩ => ⟨ρ, F, ds, S, r, h1.mono { lGEn X m D F with nx := u (lGEn X m D F) } _ _ _ ⟨fun ds' ρ' q ys' σ' H' F' s S' r' => ⟨ρ', F', ds', S', r', h2.mono _ _ _ _ (lGEn_mono s) q⟩, fun _ _ q => q, fun _ _ q => q⟩ q⟩, fun E E' ds ρ l h => ?_⟩
  exact h1.mono { E with nx := u E } _ _ _ ⟨fun ds' ρ' q => h2.mono _ _ _ _ l q, l.bk, l.ct⟩ h
theorem pgss_one (h1 : PDgS X m st t) : PDgSs X m [st] (dgSeq t dg0) := pgss_cons h1 pgss_nil
def dgYield (te : DE) : DGS := fun E ds ρ => ds.length < 16777216 ∧ te ρ fun d ρ' => E.nx (ds ++ [d]) ρ'
theorem pgs_yield (he : PD X m e te) (hco : X.env.scope.isCoroutine = false := by rfl) (hi : interactive X.env = false := by rfl) : PDgS X m (.Expr (.Yield (some e) yp) pos) (dgYield te) := by
  refine ⟨GS.imp (gs_yield he.pe hco hi) fun D ys σ H ⟨ρ, F, ds, S, r, q1, q⟩ => ⟨?_, ρ, F, S, he.mono _ _ _ (fun d ρ' q v H' F' s S' r' => q _ σ H' F' s S' ((r.mono s).app (Reps.one r'))) q⟩, fun E E' ds ρ l q => ⟨q.1, he.mono _ _ _ (fun d ρ' => l.nx _ _) q.2⟩⟩
  rw [← r.length, line16]; exact q1
def dgFrom (te : DE) : DGS := fun E ds ρ => te ρ fun d ρ' => match d with
  | .lst es => ds.length + es.length ≤ 16777216 ∧ E.nx (ds ++ es) ρ'
  | _ => False
theorem pgs_from (he : PD X m e te) (hc : X.A.handled = none) (hi : interactive X.env = false := by rfl) : PDgS X m (.Expr (.YieldFrom e yp) pos) (dgFrom te) := by
  refine ⟨GS.imp (gs_yieldFrom (yf_list he.pe) hc hi) fun D ys σ H ⟨ρ, F, ds, S, r, q⟩ => ⟨ρ, F, S, he.mono _ _ _ (fun d ρ' q v H' F' s S' r' => ?_) q⟩, fun E E' ds ρ l q => he.mono _ _ _ (fun d ρ' => ?_) q⟩
  · cases d with
    | lst es =>
      obtain ⟨q1, q2⟩ := q
      obtain ⟨a, vs, e, h1, h2⟩ := r'
      refine ⟨a, vs, e, S'.gr.fs _ _ h1, ?_, q2 _ σ H' F' s S' ((r.mono s).app h2)⟩
      rw [← r.length, ← h2.length, line16]; exact q1
    | _ => exact q.elim
  · cases d with
    | lst es => exact fun q => ⟨q.1, l.nx _ _ q.2⟩
    | _ => exact id
def gforB (t : DGS) (g : DG) (E : DGEn) (es : List D) (I : Nat → List D → Ro → Prop) : Prop := (∀ i d ds ρ, es[i]? = some d → I i ds ρ → g d ρ fun ρ2 => t { nx := I (i + 1), ct := I (i + 1), bk := E.nx } ds ρ2) ∧ ∀ ds ρ, I es.length ds ρ → E.nx ds ρ
def dgFor (ti : DI) (g : DG) (t : DGS) : DGS := fun E ds ρ => ti ρ fun es ρ1 => ∃ I : Nat → List D → Ro → Prop, I 0 ds ρ1 ∧ gforB t g E es I
theorem pgs_for {tg it : Expr} {body : List Stmt} {ti : DI} {g : DG} (hp : PassesOwn (model X.prog X.w) X.A X.env X.xe) (hc : X.calm = true) (hi : PDI X m tg it ti) (hg : PDG X m tg g) (hb : PDgSs X m body t)
    (hs : ∀ x, foldedSetIterable it X.env x = pure x := by intro _; rfl) : PDgS X m (.For tg it body [] pos) (dgFor ti g t) := by
  refine ⟨GS.imp (gs_for hp hc hi.pi hg.pg hb.gs hs) fun D ys σ H ⟨ρ, F, ds, S, r, h⟩ => ⟨ρ, F, S, hi.mono _ _ _ (fun es ρ1 q H1 F1 J s1 S1 ok => ?_) h⟩, fun E E' ds ρ l h => hi.mono _ _ _ (fun es ρ1 ⟨I, i0, i1, i2⟩ => ⟨I, i0, fun i d ds ρ e w => hg.mono _ _ _ _ (fun ρ2 h => hb.mono { nx := I (i + 1), ct := I (i + 1), bk := E.nx } _ _ _ ⟨fun _ _ h => h, l.nx, fun _ _ h => h⟩ h) (i1 i d ds ρ e w), fun ds ρ w => l.nx _ _ (i2 ds ρ w)⟩) h⟩
  obtain ⟨I, i0, i1, i2⟩ := q
  refine ⟨fun i n ys σ H => n = es.length - i ∧ i ≤ es.length ∧ ∃ ρ F' ds, Same F1 F' ∧ Sm X m σ H ρ F' ∧ Reps (m.c X) F' ds ys ∧ I i ds ρ, ⟨es.length, by simp, Nat.zero_le _, ρ1, F1, ds, Same.refl _, S1, r.mono s1, i0⟩, ?_⟩
  rintro i n ys2 σ2 H2 ⟨rfl, hile, ρ2, F2, ds2, s2, S2, r2, w2⟩
  have sH : Same F1 H2 := s2.trans S2.gr.fs
  by_cases hlt : i < es.length
  · refine .inr ⟨ok.go i H2 sH hlt, fun ys' σ' H' => ∃ ρ F' ds, Same F1 F' ∧ Sm X m σ' H' ρ F' ∧ Reps (m.c X) F' ds ys' ∧ I (i + 1) ds ρ, fun ys' σ' H' p => ⟨es.length - (i + 1), by omega, rfl, hlt, p⟩, fun x H' y => ?_⟩
    obtain ⟨d, ed, yl⟩ := ok.yld i H2 x H' sH hlt y
    have go : ∀ {F3 : Hp}, Same F2 F3 → Sm X m σ2 H' ρ2 F3 → Rep (m.c X) F3 d x → lG X m g x σ2 H' fun σ2 H2 => lGS X m t { D with nx := fun ys' σ' H' => ∃ ρ F' ds, Same F1 F' ∧ Sm X m σ' H' ρ F' ∧ Reps (m.c X) F' ds ys' ∧ I (i + 1) ds ρ, ct := fun ys' σ' H' => ∃ ρ F' ds, Same F1 F' ∧ Sm X m σ' H' ρ F' ∧ Reps (m.c X) F' ds ys' ∧ I (i + 1) ds ρ, bk := D.nx } ys2 σ2 H2 := by
      intro F3 s3 S3 r3
      refine ⟨ρ2, F3, d, S3, r3, hg.mono _ _ _ _ (fun ρ4 q σ4 H4 F4 s4 S4 => ⟨ρ4, F4, ds2, S4, r2.mono (s3.trans s4), hb.mono _ _ _ _ ?_ q⟩) (i1 i d ds2 ρ2 ed w2)⟩
      have sF : Same F1 F4 := s2.trans (s3.trans s4)
      have nx : ∀ ds5 ρ5, I (i + 1) ds5 ρ5 → lGN X m (fun ys' σ' H' => ∃ ρ F' ds, Same F1 F' ∧ Sm X m σ' H' ρ F' ∧ Reps (m.c X) F' ds ys' ∧ I (i + 1) ds ρ) F4 ds5 ρ5 := fun ds5 ρ5 w ys' σ' H' F' s' S' r' => ⟨ρ5, F', ds5, sF.trans s', S', r', w⟩
      exact ⟨nx, lGN_mono (s1.trans sF), nx⟩
    rcases yl with ⟨rfl, r⟩ | ⟨T, vs, es', hT, rfl, rfl, rfl, r⟩
    · exact go (Same.refl _) S2 (r.mono s2)
    · have gg := S2.alloc (o := .tup vs) hT
      exact go gg.f0 (S2.grow gg) ⟨T, vs, rfl, upd_same, (r.mono s2).mono gg.f0⟩
  · have e : i = es.length := by omega
    subst e
    exact .inl ⟨ok.stop _ H2 sH (Nat.le_refl _), i2 ds2 ρ2 w2 ys2 σ2 H2 F2 (s1.trans s2) S2 r2⟩
end
structure SgD where
  run : List D → (List D → Prop) → Prop
  mono : ∀ ds Q Q', (∀ o, Q o → Q' o) → run ds Q → run ds Q'
abbrev mkSg {A : Type} (enc : A → List D) (pre : A → Prop) (post : A → List D → Prop) : SgD where
  run := fun ds Q => ∃ a, ds = enc a ∧ pre a ∧ ∀ o, post a o → Q o
  mono := fun _ _ _ i ⟨a, h1, h2, h3⟩ => ⟨a, h1, h2, fun o q => i o (h3 o q)⟩
def sgOf (K : Frag) (sd : SgD) : SpG := fun vs H Q _ => ∃ F st ds, Same F H ∧ Tok ⟨K, st⟩ F H ∧ (∀ a, st = some a → ∃ o, H a = some o) ∧ Reps ⟨K, st⟩ F ds vs ∧
  sd.run ds fun out => ∀ ys H' F', Grow ⟨K, st⟩ F H F' H' → Reps ⟨K, st⟩ F' out ys → Q ys H'
structure DfG (K : Frag) (mg : Str → Option Value) (x : Str) (st : Stmt) (dvs : List D) : Prop where
  ex : ∃ vs fd, FunD K x x (defArgs st) (defBody st) (defScope st) vs [] (He.ga K x) fd ∧ Reps ⟨K, none⟩ (fun _ => none) dvs vs
  gl : mg x = some (.ref (He.ga K x))
def OkG (P : Program) (w : World) (K : Frag) (mg : Str → Option Value) (base : Heap) (x : Str) (k : Nat) (st : Stmt) (ps : List Str) (sd : SgD) : Prop :=
  ∀ vs fd, FunD K x x (defArgs st) (defBody st) (defScope st) vs [] (He.ga K x) fd → GFn P w K mg base k (He.ga K x) fd ps (sgOf K sd)
theorem okG_mk {P : Program} {w : World} {K : Frag} {mg : Str → Option Value} {base : Heap} {x : Str} {st : Stmt} {N ps : List Str} {k : Nat} {sd : SgD} (S : GScope N ps (defScope st))
    (len : ∀ ds Q, sd.run ds Q → ds.length = ps.length)
    (hbody : ∀ (cdv : Value) (A : Around) (outer : List Env) (s : Shared) (H : Hp) (E : XK) (pn : List (Addr × Obj)) (m : M), Room k (A.deeper (envOfC x (defScope st) s.heap.objs.size (He.ga K x) cdv)) →
      ∃ t, PDgSs (gcxOf P w K mg base N x (defScope st) (He.ga K x) cdv A outer s H E pn) m (defBody st) t ∧
        ∀ ds Q, sd.run ds Q → t { nx := fun o _ => Q o } [] (ds.map (fun d => some (false, d)) ++ List.replicate (N.length - ds.length) none)) : OkG P w K mg base x (k + 1) st ps sd := by
  intro dvs fd FD
  obtain ⟨oc, od, dV, kV, doc, pm, an, cdv, ct, osl, rfl, lk, hcd, _, _⟩ := FD.ex
  refine gfn_of lk hcd S (fun vs H Q E ⟨Fz, st, ds, _, _, _, r, h⟩ => by rw [← r.length]; exact len _ _ h) fun A outer s H vs Q E pn hr h => ?_
  obtain ⟨Fz, tk, ds, hs, ht, h0, r, h⟩ := h
  obtain ⟨t, ht2, hq⟩ := hbody cdv A outer s H E pn ⟨tk, Fz, H⟩ hr
  refine ⟨_, ht2.gs, ?_⟩
  have len0 : ds.length = vs.length := r.length
  refine ⟨(ds.map fun d => some (false, d)) ++ List.replicate (N.length - ds.length) none, Fz, [], ⟨Grow.refl hs ht, ?_, fun i r' e => ?_, fun i j d1 d2 b q1 q2 _ _ => ?_, h0⟩, rfl, ?_⟩
  · unfold L2.start
    simp [len0]
  · have hi : i < ds.length := by
      by_cases hi : i < ds.length
      · exact hi
      · rw [List.getElem?_append_right (by simpa using hi), List.getElem?_replicate] at e
        split at e <;> cases e
    rw [List.getElem?_append_left (by simpa using hi), List.getElem?_map, List.getElem?_eq_getElem hi] at e
    cases e
    obtain ⟨v, ev, rv⟩ := r.get (List.getElem?_eq_getElem hi)
    refine ⟨v, ?_, rv⟩
    unfold L2.start
    rw [List.getElem?_append_left (by simpa [← len0] using hi), List.getElem?_map, ev]
    rfl
  · exfalso
    by_cases hi : i < ds.length
    · rw [List.getElem?_append_left (by simpa using hi), List.getElem?_map, List.getElem?_eq_getElem hi] at q1
      cases q1
    · rw [List.getElem?_append_right (by simpa using hi), List.getElem?_replicate] at q1
      split at q1 <;> cases q1
  · have mt := ht2.mono { nx := fun o _ => ∀ ys H' F', Grow ⟨K, tk⟩ Fz H F' H' → Reps ⟨K, tk⟩ F' o ys → Q ys H' }
    exact mt _ _ _ ⟨fun ds' ρ q ys' σ' H' F' s' S' r' => q ys' H' F' S'.gr r', fun _ _ q => q.elim, fun _ _ q => q.elim⟩ (hq ds _ h)
section
variable {X : Cx} {m : M} {e : Expr} {es : List Expr} {te : DE} {pos p pos' p' : Pos} {x : Str} {k j : Nat} {ps : List Str} {sd : SgD} {ua : DA} {st : Stmt} {dvs : List D}
def dListG (sd : SgD) (dvs : List D) (ta : DA) : DE := fun ρ Q => ta ρ fun ds ρ' => sd.run (ds ++ dvs) fun out => Q (.lst out) ρ'
theorem pd_listG {vs0 : List V} {fd : FuncData} {ds0 : List Value} (F : GFn X.prog X.w X.K X.mg X.base j (He.ga X.K x) fd ps (sgOf X.K sd)) (hgl : X.mg x = some (.ref (He.ga X.K x))) (hkp : PySem.W.keepIn X.K (.ref (He.ga X.K x)) = true)
    (hb : Binds X.K fd ps ds0) (hd : Vals vs0 ds0) (hdv : ∀ (c : Ct) (F : Hp), Reps c F dvs vs0) (hr : Room k X.A) (hk : j + 3 ≤ k) (ha : PDA X m (e :: es) ua) (hblt : X.mg "list" = none)
    (hg : Gl X x := by rfl) (hgl' : Gl X "list" := by rfl) (hdb : (x == ("__debug__" : Str)) = false := by decide)
    (he : starEach (e :: es) X.env = (false, eval e X.env) :: starEach es X.env := by rfl) (hpl : (backTo pos (starEach es X.env)).any (·.1) = false := by rfl)
    (he2 : starEach [.Call (.Name x p) (e :: es) [] pos] X.env = (false, eval (.Call (.Name x p) (e :: es) [] pos) X.env) :: starEach [] X.env := by rfl) :
    PD X m (.Call (.Name "list" p') [.Call (.Name x p) (e :: es) [] pos] [] pos') (dListG sd dvs ua) := by
  have pg := pgen_call (x := x) (p := p) (pos' := pos) (E := fun _ _ _ => False) (dvs := vs0) (ds := ds0) F (hr.mono (by omega : j ≤ k)) hg hgl hkp hb hd ha.pe hdb he hpl
  have L := pe_listG (pos := pos') (p := p') (nm := "list") pg (fun pins σ H s e s' I c => by
    obtain ⟨a, B, H', cls, d, _, _, _, _, _, _, _, z⟩ := c
    exact z.elim) (fun cls d H z => z.elim) (hr.mono hk) hgl' hblt (by rfl) (by decide) (by decide) he2
  refine ⟨PE.imp L fun σ H Q ⟨ρ, F, S, t⟩ => ?_, fun ρ Q Q' i => ha.mono _ _ _ fun ds ρ' => sd.mono _ _ _ fun o => i _ _⟩
  refine ⟨ρ, F, S, ha.mono _ _ _ (fun ds ρ' q vs H1 F1 s1 S1 r => ?_) t⟩
  refine ⟨F1, m.st, ds ++ dvs, S1.gr.fs, S1.gr.tok, fun a n => ?_, r.app (hdv _ _), sd.mono _ _ _ (fun out q ys H' F' g rv p hp => ?_) q⟩
  · obtain ⟨_, _, _, _, _, _, _, h, _⟩ := S1.gr.tok a n
    exact ⟨_, h⟩
  · have S2 := S1.grow g
    have gg := S2.alloc (o := .lst ys) hp
    exact q (.ref p) _ _ (s1.trans (g.f0.trans gg.f0)) (S2.grow gg) ⟨p, ys, rfl, upd_same, rv.mono gg.f0⟩
end
end DL
namespace DL
open PySem PySem.Spec L2 PyProof.Rows L2H
def fAddL : F2 := fun d e P => match d, e with
  | .lst x, .lst y => x.length + y.length ≤ 16777216 ∧ P (.lst (x ++ y))
  | _, _ => False
section
variable {X : Cx} {m : M} {e a b o : Expr} {te ta tb to : DE} {pos apos : Pos}
theorem pf_addL (ha : PD X m a ta) (hb : PD X m b tb) : PF X m (.BinOp a .Add b pos) (dOp2 fAddL ta tb) := by
  refine ⟨PE.imp (pe_op op_cat ha.pe hb.pe) fun σ H Q ⟨ρ, F, S, t⟩ => ?_, fun ρ Q Q' i => ha.mono _ _ _ fun d ρ1 => hb.mono _ _ _ fun e ρ2 => ?_⟩
  · refine ⟨ρ, F, S, ha.mono _ _ _ (fun d ρ1 q x H1 F1 s1 S1 r1 => ?_) t⟩
    refine ⟨ρ1, F1, S1, hb.mono _ _ _ (fun e ρ2 q y H2 F2 s2 S2 r2 => ?_) q⟩
    unfold fAddL at q
    split at q
    · obtain ⟨a, vs, rfl, h1, h2⟩ := r1.mono s2
      obtain ⟨b, ws, rfl, g1, g2⟩ := r2
      refine ⟨a, b, vs, ws, rfl, rfl, S2.gr.fs _ _ h1, S2.gr.fs _ _ g1, by rw [← h2.length, ← g2.length, line16]; exact q.1, fun p hp => ?_⟩
      exact fresh_new (d := .lst _) S2 hp ⟨_, upd_same, h2.app g2⟩ fun H3 S3 k1 k2 ow fr => q.2 p H3 F2 (s1.trans s2) S3 k1 k2 ow fr
    · exact q.elim
  · unfold fAddL
    split
    · exact fun q => ⟨q.1, i _ _ q.2⟩
    · exact id
theorem s_addF {x y : List D} {P : D → Prop} (h : x.length + y.length ≤ 16777216 ∧ P (.lst (x ++ y))) : fAddL (.lst x) (.lst y) P := h
def dUpper (to : DE) : DE := fun ρ Q => to ρ fun d ρ1 => match d with
  | .str x => x.all (· < 128) = true ∧ x.length ≤ 5592405 ∧ Q (.str (x.map up1)) ρ1
  | _ => False
theorem pd_upper (ho : PD X m o to) (hbase : attributeBase o "upper" X.env (eval o X.env) = eval o X.env := by rfl) (hline : (apos.endLine == pos.line) = true := by rfl) : PD X m (.Call (.Attribute o "upper" apos) [] [] pos) (dUpper to) := by
  refine ⟨PE.imp (pe_upper (apos := apos) (pos := pos) ho.pe hbase hline) fun σ H Q ⟨ρ, F, S, t⟩ => ⟨ρ, F, S, ho.mono _ _ _ (fun d ρ1 q x H1 F1 s1 S1 r1 => ?_) t⟩, fun ρ Q Q' i => ho.mono _ _ _ fun d ρ1 => ?_⟩
  · cases d with
    | str x =>
      obtain ⟨h1, h2, q⟩ := q
      rw [show _ = V.str _ from r1]
      refine ⟨⟨_, rfl⟩, _, rfl, rfl, by rw [S_len]; exact h2, ?_⟩
      rw [show Txt.upper (DL.S _) = DL.S _ from SX.upper_S h1]
      exact q _ H1 F1 s1 S1 rfl
    | _ => exact q.elim
  · cases d with
    | str x => exact fun q => ⟨q.1, q.2.1, i _ _ q.2.2⟩
    | _ => exact id
theorem s_upper {ρ ρ1 : Ro} {Q : D → Ro → Prop} {to : DE} (h : to ρ fun d ρ1 => match d with
  | .str x => x.all (· < 128) = true ∧ x.length ≤ 5592405 ∧ Q (.str (x.map up1)) ρ1
  | _ => False) : dUpper to ρ Q := h
end
theorem okDs_ints : ∀ {l : List Int}, PyData.canLayAll0 (toPs (l.map D.int)) = true ∧ PyData.depthAll (toPs (l.map D.int)) ≤ 1
  | [] => ⟨rfl, Nat.zero_le _⟩
  | i :: l => by
    obtain ⟨h1, h2⟩ := okDs_ints (l := l)
    constructor
    · show (true && PyData.canLayAll0 (toPs (l.map D.int))) = true
      rw [h1]; rfl
    · show max (PyData.depth (.int i)) (PyData.depthAll (toPs (l.map D.int))) ≤ 1
      refine Nat.max_le.mpr ⟨?_, h2⟩
      simp [PyData.depth]
theorem okD_lstI {l : List Int} : okD (.lst (l.map D.int)) = true := by
  obtain ⟨h1, h2⟩ := okDs_ints (l := l)
  show (PyData.canLayAll0 (toPs (l.map D.int)) && decide (PyData.depth (.list (toPs (l.map D.int))) ≤ 64)) = true
  rw [h1, Bool.true_and]
  refine decide_eq_true ?_
  rw [PyData.depth]
  omega
theorem s_eqNil {l : List Int} {P : D → Prop} (h : P (.bl l.isEmpty)) : fEqG false (.lst (l.map D.int)) (.lst []) P := by
  refine ⟨okD_lstI, okD_lstI (l := []), ?_⟩
  have : PyData.eqv (toP (.lst (l.map D.int))) (toP (.lst [])) = l.isEmpty := by cases l <;> rfl
  rw [this]; exact h
section
variable {E : DGEn} {ρ : Ro} {t u : DGS} {ts : DS} {te : DE} {ti : DI} {g : DG} {ds es : List D} {Q : List D → Ro → Prop} {ta : DA} {Q1 : D → Ro → Prop}
theorem g_seq (h : t { E with nx := u E } ds ρ) : dgSeq t u E ds ρ := h
theorem g_0 (h : E.nx ds ρ) : dg0 E ds ρ := h
theorem g_plain (h : ts { nx := E.nx ds, rt := fun _ _ => False, bk := E.bk ds, ct := E.ct ds } ρ) : dgPlain ts E ds ρ := h
theorem g_yield (h : ds.length < 16777216 ∧ te ρ fun d ρ' => E.nx (ds ++ [d]) ρ') : dgYield te E ds ρ := h
theorem g_from (h : te ρ fun d ρ' => match d with
  | .lst es => ds.length + es.length ≤ 16777216 ∧ E.nx (ds ++ es) ρ'
  | _ => False) : dgFrom te E ds ρ := h
theorem g_for (h : ti ρ fun es ρ1 => ∃ I : Nat → List D → Ro → Prop, I 0 ds ρ1 ∧ gforB t g E es I) : dgFor ti g t E ds ρ := h
theorem s_listG {sd : SgD} {dvs : List D} (h : ta ρ fun ds ρ' => sd.run (ds ++ dvs) fun out => Q1 (.lst out) ρ') : dListG sd dvs ta ρ Q1 := h
end
structure DfGD (K : Frag) (mg : Str → Option Value) (x : Str) (st : Stmt) (ps : List Str) (dvs : List D) : Prop where
  ex : ∃ vs fd ds, FunD K x x (defArgs st) (defBody st) (defScope st) vs [] (He.ga K x) fd ∧ (∀ (c : Ct) (F : Hp), Reps c F dvs vs) ∧ Binds K fd ps [] ∧ Vals vs ds ∧ Binds K fd ps ds
  gl : mg x = some (.ref (He.ga K x))
def OkGD (P : Program) (w : World) (K : Frag) (mg : Str → Option Value) (base : Heap) (x : Str) (k : Nat) (ps : List Str) (sd : SgD) (dvs : List D) : Prop :=
  ∃ vs fd ds, GFn P w K mg base k (He.ga K x) fd ps (sgOf K sd) ∧ (∀ (c : Ct) (F : Hp), Reps c F dvs vs) ∧ Binds K fd ps [] ∧ Vals vs ds ∧ Binds K fd ps ds ∧ mg x = some (.ref (He.ga K x)) ∧ PySem.W.keepIn K (.ref (He.ga K x)) = true
theorem okGD_of {P : Program} {w : World} {K : Frag} {mg : Str → Option Value} {base : Heap} {x : Str} {k : Nat} {st : Stmt} {ps : List Str} {sd : SgD} {dvs : List D} (F : DfGD K mg x st ps dvs) (h : OkG P w K mg base x k st ps sd) : OkGD P w K mg base x k ps sd dvs := by
  obtain ⟨vs, fd, ds, h1, h2, h3, h4, h5⟩ := F.ex
  exact ⟨vs, fd, ds, h vs fd h1, h2, h3, h4, h5, F.gl, h1.kp⟩
section
variable {X : Cx} {m : M} {e : Expr} {es : List Expr} {te : DE} {pos p pos' p' : Pos} {x : Str} {k j : Nat} {ps : List Str} {sd : SgD} {ua : DA} {dvs : List D}
theorem pd_listG1 (F : OkGD X.prog X.w X.K X.mg X.base x j ps sd dvs) (hr : Room k X.A) (hk : j + 3 ≤ k) (ha : PDA X m (e :: es) ua) (hblt : X.mg "list" = none)
    (hg : Gl X x := by rfl) (hgl' : Gl X "list" := by rfl) (hdb : (x == ("__debug__" : Str)) = false := by decide)
    (he : starEach (e :: es) X.env = (false, eval e X.env) :: starEach es X.env := by rfl) (hpl : (backTo pos (starEach es X.env)).any (·.1) = false := by rfl)
    (he2 : starEach [.Call (.Name x p) (e :: es) [] pos] X.env = (false, eval (.Call (.Name x p) (e :: es) [] pos) X.env) :: starEach [] X.env := by rfl) :
    PD X m (.Call (.Name "list" p') [.Call (.Name x p) (e :: es) [] pos] [] pos') (dListG sd [] ua) := by
  obtain ⟨vs, fd, ds, h1, h2, h3, h4, h5, h6, h7⟩ := F
  exact pd_listG (vs0 := []) (ds0 := []) h1 h6 h7 h3 .nil (fun _ _ => rfl) hr hk ha hblt hg hgl' hdb he hpl he2
theorem pd_listGd (F : OkGD X.prog X.w X.K X.mg X.base x j ps sd dvs) (hr : Room k X.A) (hk : j + 3 ≤ k) (ha : PDA X m (e :: es) ua) (hblt : X.mg "list" = none)
    (hg : Gl X x := by rfl) (hgl' : Gl X "list" := by rfl) (hdb : (x == ("__debug__" : Str)) = false := by decide)
    (he : starEach (e :: es) X.env = (false, eval e X.env) :: starEach es X.env := by rfl) (hpl : (backTo pos (starEach es X.env)).any (·.1) = false := by rfl)
    (he2 : starEach [.Call (.Name x p) (e :: es) [] pos] X.env = (false, eval (.Call (.Name x p) (e :: es) [] pos) X.env) :: starEach [] X.env := by rfl) :
    PD X m (.Call (.Name "list" p') [.Call (.Name x p) (e :: es) [] pos] [] pos') (dListG sd dvs ua) := by
  obtain ⟨vs, fd, ds, h1, h2, h3, h4, h5, h6, h7⟩ := F
  exact pd_listG (vs0 := vs) (ds0 := ds) h1 h6 h7 h5 h4 h2 hr hk ha hblt hg hgl' hdb he hpl he2
end
end DL
namespace DL
open scoped List
def nx (w : List Nat) (c p : Nat) : Option Nat := ((w.drop p).findIdx? (· == c)).map (· + p + 1)
theorem nx_is (w : List Nat) (c p : Nat) : Nx w c p (nx w c p) := by
  unfold nx
  cases e : (w.drop p).findIdx? (· == c) with
  | none =>
    rw [List.findIdx?_eq_none_iff] at e
    intro v hv hw
    have m : c ∈ w.drop p := by
      refine List.mem_of_getElem? (i := v - p) ?_
      rw [List.getElem?_drop, show p + (v - p) = v by omega]; exact hw
    have := e c m
    simp at this
  | some i =>
    rw [List.findIdx?_eq_some_iff_getElem] at e
    obtain ⟨h, h1, h2⟩ := e
    have g : ∀ j (hj : j < (w.drop p).length), w[p + j]? = some ((w.drop p)[j]) := fun j hj => by
      rw [← List.getElem?_drop]; exact List.getElem?_eq_getElem hj
    show Nx w c p (some (i + p + 1))
    refine ⟨by omega, ?_, fun v hv hv2 hw => ?_⟩
    · rw [show i + p + 1 - 1 = p + i by omega, g i h, eq_of_beq h1]
    · have hj : v - p < i := by omega
      have := h2 (v - p) hj
      have e2 := g (v - p) (by omega)
      rw [show p + (v - p) = v by omega, hw] at e2
      rw [← Option.some.inj e2] at this
      simp at this
theorem nx_of {w : List Nat} {c p : Nat} {r : Option Nat} (h : Nx w c p r) : r = nx w c p := W06.nx_uniq h (nx_is w c p)
def fp (w : List Nat) : List Nat → Nat → Option (List Nat)
  | [], _ => some []
  | c :: u, p => match nx w c p with
    | none => none
    | some q => (fp w u q).map (q :: ·)
theorem fp_none {w u : List Nat} {c p : Nat} (h : nx w c p = none) : fp w (c :: u) p = none := by rw [fp, h]
theorem fp_some {w u : List Nat} {c p q : Nat} (h : nx w c p = some q) : fp w (c :: u) p = (fp w u q).map (q :: ·) := by rw [fp, h]
theorem fp_len {w : List Nat} : ∀ {u : List Nat} {p : Nat} {qs : List Nat}, fp w u p = some qs → qs.length = u.length
  | [], p, qs, h => by rw [fp] at h; cases h; rfl
  | c :: u, p, qs, h => by
    cases e : nx w c p with
    | none => rw [fp_none e] at h; cases h
    | some q =>
      rw [fp_some e] at h
      cases e2 : fp w u q with
      | none => rw [e2] at h; cases h
      | some rs =>
        rw [e2] at h
        cases h
        simp [fp_len e2]
theorem nx_le {w : List Nat} {c p q : Nat} (h : nx w c p = some q) : p < q ∧ q ≤ w.length := by
  have n := nx_is w c p
  rw [h] at n
  refine ⟨n.1, ?_⟩
  have := (List.getElem?_eq_some_iff.mp n.2.1).1
  omega
theorem fp_le {w : List Nat} : ∀ {u : List Nat} {p : Nat} {qs : List Nat}, fp w u p = some qs → ∀ q ∈ qs, q ≤ w.length
  | [], p, qs, h => by rw [fp] at h; cases h; simp
  | c :: u, p, qs, h => by
    cases e : nx w c p with
    | none => rw [fp_none e] at h; cases h
    | some q =>
      rw [fp_some e] at h
      cases e2 : fp w u q with
      | none => rw [e2] at h; cases h
      | some rs =>
        rw [e2] at h
        cases h
        intro z hz
        rcases List.mem_cons.mp hz with rfl | hz
        · exact (nx_le e).2
        · exact fp_le e2 z hz
theorem sub_head {c : Nat} {u l2 : List Nat} : ∀ {l1 : List Nat}, c ∉ l1 → (c :: u <+ l1 ++ c :: l2 ↔ u <+ l2)
  | [], _ => List.cons_sublist_cons
  | a :: l1, h => by
    have h1 : c ∉ l1 := fun z => h (List.mem_cons_of_mem _ z)
    have h2 : c ≠ a := fun z => h (z ▸ List.mem_cons_self)
    rw [List.cons_append, ← sub_head (u := u) (l2 := l2) h1]
    constructor
    · intro k
      cases k with
      | cons _ k => exact k
      | cons_cons _ k => exact (h2 rfl).elim
    · exact fun k => k.cons _
theorem fp_sub {w : List Nat} : ∀ {u : List Nat} {p : Nat}, (fp w u p).isSome = true ↔ u <+ w.drop p
  | [], p => by simp [fp]
  | c :: u, p => by
    have n := nx_is w c p
    cases e : nx w c p with
    | none =>
      rw [e] at n
      rw [fp_none e]
      constructor
      · intro h; cases h
      · intro h
        have m := h.subset List.mem_cons_self
        obtain ⟨i, hi, e2⟩ := List.getElem_of_mem m
        refine (n (p + i) (by omega) ?_).elim
        rw [← List.getElem?_drop, List.getElem?_eq_getElem hi, e2]
    | some q =>
      rw [e] at n
      obtain ⟨n1, n2, n3⟩ := n
      have lq := (List.getElem?_eq_some_iff.mp n2).1
      rw [fp_some e]
      have i1 : ((fp w u q).map (q :: ·)).isSome = (fp w u q).isSome := by cases fp w u q <;> rfl
      rw [i1, fp_sub (u := u) (p := q)]
      have d : w.drop p = (w.drop p).take (q - 1 - p) ++ c :: w.drop q := by
        conv => lhs; rw [← List.take_append_drop (q - 1 - p) (w.drop p)]
        congr 1
        rw [List.drop_drop, show p + (q - 1 - p) = q - 1 by omega, List.drop_eq_getElem_cons lq]
        congr 1
        · rw [List.getElem?_eq_getElem lq] at n2; exact Option.some.inj n2
        · congr 1; omega
      rw [d]
      refine (sub_head fun m => ?_).symm
      obtain ⟨i, hi, e2⟩ := List.getElem_of_mem m
      have hi' := hi
      rw [List.length_take] at hi'
      rw [List.getElem_take] at e2
      refine n3 (p + i) (by omega) (by omega) ?_
      rw [← List.getElem?_drop, List.getElem?_eq_getElem (by omega), e2]
def lx (w : List Nat) (c p : Nat) : Option Nat := (nx w.reverse c (w.length + 1 - p)).map (w.length + 1 - ·)
theorem lx_of {w : List Nat} {c p : Nat} {r : Option Nat} (hp : p ≤ w.length + 1) (h : Lx w c p r) : r = lx w c p := by
  have k := nx_of (W06.lx_rev hp h)
  unfold lx
  rw [← k, Option.map_map]
  cases r with
  | none => rfl
  | some q =>
    have a := h.2.1
    show some q = some (w.length + 1 - (w.length + 1 - q))
    congr 1; omega
theorem lx_lt {w : List Nat} {c p q : Nat} (h : lx w c p = some q) : q ≤ w.length := by
  unfold lx at h
  cases e : nx w.reverse c (w.length + 1 - p) with
  | none => rw [e] at h; cases h
  | some z =>
    rw [e] at h
    have := (nx_le e).1
    have : w.length + 1 - z = q := Option.some.inj h
    omega
def fpL (w : List Nat) : List Nat → Nat → Option (List Nat)
  | [], _ => some []
  | c :: u, p => match lx w c p with
    | none => none
    | some q => (fpL w u q).map (q :: ·)
theorem fpL_none {w u : List Nat} {c p : Nat} (h : lx w c p = none) : fpL w (c :: u) p = none := by rw [fpL, h]
theorem fpL_some {w u : List Nat} {c p q : Nat} (h : lx w c p = some q) : fpL w (c :: u) p = (fpL w u q).map (q :: ·) := by rw [fpL, h]
theorem fpL_eq {w : List Nat} : ∀ {u : List Nat} {p : Nat}, p ≤ w.length + 1 → fpL w u p = (fp w.reverse u (w.length + 1 - p)).map (List.map (w.length + 1 - ·))
  | [], p, h => by simp [fp, fpL]
  | c :: u, p, h => by
    cases e : nx w.reverse c (w.length + 1 - p) with
    | none =>
      have : lx w c p = none := by unfold lx; rw [e]; rfl
      rw [fpL_none this, fp_none e]; rfl
    | some z =>
      have hz := (nx_le e).2
      rw [List.length_reverse] at hz
      have : lx w c p = some (w.length + 1 - z) := by unfold lx; rw [e]; rfl
      rw [fpL_some this, fp_some e, fpL_eq (u := u) (by omega), show w.length + 1 - (w.length + 1 - z) = z by omega]
      cases fp w.reverse u z <;> rfl
def cn (u w : List Nat) : Nat → Nat → Nat
  | _, 0 => 1
  | 0, _ + 1 => 0
  | i + 1, j + 1 => cn u w i (j + 1) + if u[j]? = w[i]? then cn u w i j else 0
theorem cn_0 (u w : List Nat) : ∀ i, cn u w i 0 = 1
  | 0 => rfl
  | _ + 1 => rfl
theorem cn_00 (u w : List Nat) (j : Nat) : cn u w 0 (j + 1) = 0 := rfl
theorem cn_s (u w : List Nat) (i j : Nat) : cn u w (i + 1) (j + 1) = cn u w i (j + 1) + if u[j]? = w[i]? then cn u w i j else 0 := rfl
theorem sorted_ext : ∀ {a b : List Nat}, a.Pairwise (· < ·) → b.Pairwise (· < ·) → (∀ c, c ∈ a ↔ c ∈ b) → a = b
  | [], [], _, _, _ => rfl
  | [], y :: b, _, _, h => by have := (h y).mpr List.mem_cons_self; cases this
  | x :: a, [], _, _, h => by have := (h x).mp List.mem_cons_self; cases this
  | x :: a, y :: b, ha, hb, h => by
    rw [List.pairwise_cons] at ha hb
    have hx := (h x).mp List.mem_cons_self
    have hy := (h y).mpr List.mem_cons_self
    have e : x = y := by
      rcases List.mem_cons.mp hx with z | z
      · exact z
      · rcases List.mem_cons.mp hy with z2 | z2
        · exact z2.symm
        · have h1 := hb.1 x z
          have h2 := ha.1 y z2
          omega
    subst e
    congr 1
    refine sorted_ext ha.2 hb.2 fun c => ?_
    have k := h c
    constructor
    · intro m
      rcases List.mem_cons.mp (k.mp (List.mem_cons_of_mem _ m)) with z | z
      · subst z; exact absurd (ha.1 c m) (Nat.lt_irrefl _)
      · exact z
    · intro m
      rcases List.mem_cons.mp (k.mpr (List.mem_cons_of_mem _ m)) with z | z
      · subst z; exact absurd (hb.1 c m) (Nat.lt_irrefl _)
      · exact z
theorem filter_sorted {ls w cs : List Nat} (h : ls.Pairwise (· < ·)) (hw : ∀ c ∈ w, c ∈ ls) (h1 : cs.Pairwise (· < ·)) (h2 : ∀ c, c ∈ cs ↔ c ∈ w) : cs = ls.filter (fun c => decide (c ∈ w)) := by
  refine sorted_ext h1 (h.filter _) fun c => ?_
  rw [List.mem_filter, decide_eq_true_eq, h2]
  exact ⟨fun k => ⟨hw c k, k⟩, fun k => k.2⟩
abbrev isP (w v : List Nat) : Bool := decide (v <+ w)
theorem isP_pre {w u : List Nat} {c : Nat} (h : isP w (u ++ [c]) = true) : isP w u = true ∧ c ∈ w := by
  have h := of_decide_eq_true h
  exact ⟨decide_eq_true ((List.sublist_append_left u [c]).trans h), h.subset (by simp)⟩
theorem flat_filter {α β : Type} {p : α → Bool} {g : α → List β} : ∀ {l : List α}, (∀ u ∈ l, p u = false → g u = []) → l.flatMap g = (l.filter p).flatMap g
  | [], _ => rfl
  | a :: l, h => by
    have ih := flat_filter (p := p) (g := g) (l := l) fun u hu => h u (List.mem_cons_of_mem _ hu)
    rw [List.flatMap_cons, ih, List.filter_cons]
    cases e : p a with
    | true => rw [if_pos rfl, List.flatMap_cons]
    | false => rw [if_neg (by simp), h a List.mem_cons_self e, List.nil_append]
def ext (cs u : List Nat) : List (List Nat) := cs.map fun c => u ++ [c]
theorem ext_filter {ls w cs u : List Nat} (h : cs = ls.filter fun c => decide (c ∈ w)) : (ext cs u).filter (isP w) = (ext ls u).filter (isP w) := by
  subst h
  unfold ext
  rw [List.filter_map, List.filter_map, List.filter_filter]
  congr 1
  refine List.filter_congr fun c hc => ?_
  show (isP w (u ++ [c]) && decide (c ∈ w)) = isP w (u ++ [c])
  cases e : isP w (u ++ [c]) with
  | false => rfl
  | true => rw [decide_eq_true (isP_pre e).2]; rfl
def rowP (ls w : List Nat) (k : Nat) : List (List Nat) := (rowW ls k).filter (isP w)
theorem rowP_next {ls w cs : List Nat} (h : cs = ls.filter fun c => decide (c ∈ w)) (k : Nat) : rowP ls w (k + 1) = (rowP ls w k).flatMap fun u => (ext cs u).filter (isP w) := by
  unfold rowP
  rw [rowW, List.filter_flatMap]
  have e : (fun u => (ext cs u).filter (isP w)) = fun u => (ext ls u).filter (isP w) := funext fun u => ext_filter h
  rw [e]
  refine flat_filter fun u _ hu => ?_
  rw [List.filter_eq_nil_iff]
  intro v hv
  obtain ⟨c, _, rfl⟩ := List.mem_map.mp hv
  intro z
  rw [(isP_pre z).1] at hu
  cases hu
theorem uptoP_next (ls w : List Nat) (k : Nat) : (uptoW ls (k + 1)).filter (isP w) = (uptoW ls k).filter (isP w) ++ rowP ls w (k + 1) := by
  unfold rowP
  rw [uptoW, List.filter_append]
theorem rowP_0 (ls w : List Nat) : rowP ls w 0 = [[]] := by
  unfold rowP
  rw [rowW, List.filter_cons, if_pos (decide_eq_true (List.nil_sublist w))]
  rfl
theorem uptoP_0 (ls w : List Nat) : (uptoW ls 0).filter (isP w) = [[]] := by
  rw [uptoW, List.filter_cons, if_pos (decide_eq_true (List.nil_sublist w))]
  rfl
end DL
namespace DL
open PySem PySem.Spec L2 PyProof.Rows L2H
section
variable {E : DEn} {ρ : Ro} {te tk : DE} {ua : DA} {R : List D → Ro → Prop} {i : Nat} {d : D}
theorem s_irng3 (h : ua ρ (rng3 R)) : diRange3 ua ρ R := h
theorem s_rngDown {n : Nat} (hn : n < 1000000) (h : R (stepD (n : Nat) (-1) n) ρ) : rng3 R [.int (n : Nat), .int 0, .int (-1)] ρ := by
  refine ⟨_, _, _, n, rfl, ?_, h⟩
  have := RgC.neg (i := (n : Int)) (j := 0) (by omega) (by omega) (by omega) (by omega)
  rwa [show ((n : Int) - 0).toNat = n by omega] at this
theorem stepDown_get {n k : Nat} {d : D} (h : (stepD (n : Nat) (-1) n)[k]? = some d) : k < n ∧ d = .int ((n - k : Nat) : Int) := by
  unfold stepD at h
  rw [List.getElem?_map] at h
  by_cases lt : k < n
  · rw [List.getElem?_range lt] at h
    refine ⟨lt, ?_⟩
    rw [← Option.some.inj h]
    show D.int ((n : Int) + (k : Int) * -1) = D.int ((n - k : Nat) : Int)
    congr 1; omega
  · rw [List.getElem?_eq_none (by rw [List.length_range]; omega)] at h
    cases h
theorem stepD_len {lo c : Int} {n : Nat} : (stepD lo c n).length = n := by simp [stepD]
theorem s_setIx (h : te ρ fun d ρ1 => (∃ r, ρ1[i]? = some (some r)) ∧ tk ρ1 (setIxN E i d)) : dSetIx i tk te E ρ := h
theorem s_setIxN {ds : List D} {k : Int} {j : Nat} (e : ρ[i]? = some (some (true, .lst ds))) (hj : ixN ds.length k = some j) (h : E.nx (ρ.set i (some (true, .lst (ds.set j d))))) : setIxN E i d (.int k) ρ := by
  unfold setIxN
  rw [e]
  exact ⟨j, hj, h⟩
end
theorem ixN_nat {n k : Nat} (h : k < n) : ixN n (k : Int) = some k := by
  unfold ixN
  rw [if_pos (by omega), if_pos (by omega)]
  rfl
abbrev numsD (l : List Nat) : List D := l.map fun q => D.int (q : Nat)
theorem numsD_app (a b : List Nat) : numsD a ++ numsD b = numsD (a ++ b) := (List.map_append).symm
theorem numsD_get {l : List Nat} {i : Nat} {d : D} (h : (numsD l)[i]? = some d) : ∃ b, l[i]? = some b ∧ d = .int (b : Nat) := by
  rw [List.getElem?_map] at h
  cases e : l[i]? with
  | none => rw [e] at h; cases h
  | some c => rw [e] at h; exact ⟨c, rfl, (Option.some.inj h).symm⟩
theorem numsD_at {l : List Nat} {i b : Nat} (h : l[i]? = some b) : (numsD l)[i]? = some (.int (b : Nat)) := by rw [List.getElem?_map, h]; rfl
theorem s_eqNilN {l : List Nat} {P : D → Prop} (h : P (.bl l.isEmpty)) : fEqG false (.lst (numsD l)) (.lst []) P := by
  have e : numsD l = (l.map fun (q : Nat) => (q : Int)).map D.int := by rw [List.map_map]; rfl
  rw [e]
  refine s_eqNil ?_
  cases l <;> exact h
def optT : Option (List Nat) → D
  | none => .non
  | some qs => .tup (numsD qs)
theorem drop_at {u : List Nat} {i c : Nat} (h : u[i]? = some c) : u.drop i = c :: u.drop (i + 1) := by
  obtain ⟨h1, h2⟩ := List.getElem?_eq_some_iff.mp h
  rw [List.drop_eq_getElem_cons h1, h2]
def rowN (f : Nat → Nat) (n : Nat) : List Nat := (List.range (n + 1)).map f
theorem rowN_len (f : Nat → Nat) (n : Nat) : (rowN f n).length = n + 1 := by simp [rowN]
theorem rowN_get (f : Nat → Nat) {n j : Nat} (h : j ≤ n) : (rowN f n)[j]? = some (f j) := by
  unfold rowN
  rw [List.getElem?_map, List.getElem?_range (by omega)]; rfl
theorem rowN_congr {f g : Nat → Nat} {n : Nat} (h : ∀ j, j ≤ n → f j = g j) : rowN f n = rowN g n :=
  List.map_congr_left fun j hj => h j (by have := List.mem_range.mp hj; omega)
theorem rowN_set {f g : Nat → Nat} {n a v : Nat} (h : a ≤ n) (h1 : g a = v) (h2 : ∀ j, j ≤ n → j ≠ a → g j = f j) : (numsD (rowN f n)).set a (.int (v : Nat)) = numsD (rowN g n) := by
  refine List.ext_getElem? fun j => ?_
  by_cases e : j = a
  · subst e
    rw [List.getElem?_set_self (by rw [List.length_map, rowN_len]; omega), numsD_at (rowN_get g h), h1]
  · rw [List.getElem?_set_ne (Ne.symm e)]
    by_cases hj : j ≤ n
    · rw [numsD_at (rowN_get f hj), numsD_at (rowN_get g hj), h2 j hj e]
    · rw [List.getElem?_eq_none (by rw [List.length_map, rowN_len]; omega), List.getElem?_eq_none (by rw [List.length_map, rowN_len]; omega)]
theorem rowN_snoc (f : Nat → Nat) (n : Nat) : rowN f (n + 1) = rowN f n ++ [f (n + 1)] := by
  unfold rowN
  rw [List.range_succ (n := n + 1), List.map_append]; rfl
theorem nx_head {w : List Nat} {c p : Nat} : nx w c p = ((List.range' (p + 1) (w.length - p)).filter fun k => decide (w[k - 1]? = some c)).head? := by
  rw [List.head?_filter]
  refine (nx_of ?_).symm
  cases e : (List.range' (p + 1) (w.length - p)).find? fun k => decide (w[k - 1]? = some c) with
  | none =>
    rw [List.find?_eq_none] at e
    intro v hv hw
    have lt := (List.getElem?_eq_some_iff.mp hw).1
    refine e (v + 1) (List.mem_range'.mpr ⟨v - p, by omega, by omega⟩) (decide_eq_true ?_)
    exact hw
  | some q =>
    obtain ⟨h1, as, bs, h2, h3⟩ := List.find?_eq_some_iff_append.mp e
    have h1 := of_decide_eq_true h1
    have hq : (List.range' (p + 1) (w.length - p))[as.length]? = some q := by rw [h2]; simp
    have la : as.length < w.length - p := by
      have := (List.getElem?_eq_some_iff.mp hq).1
      rwa [List.length_range'] at this
    have eq : q = p + 1 + as.length := by
      rw [List.getElem?_range' la] at hq
      have := Option.some.inj hq
      omega
    refine ⟨by omega, h1, fun v hv hv2 hw => ?_⟩
    have m : v + 1 ∈ as := by
      refine List.mem_of_getElem? (i := v - p) ?_
      have : (List.range' (p + 1) (w.length - p))[v - p]? = some (v + 1) := by
        rw [List.getElem?_range' (by omega)]; congr 1; omega
      rw [h2, List.getElem?_append_left (by omega)] at this
      exact this
    have := h3 _ m
    rw [show v + 1 - 1 = v by omega, hw] at this
    simp at this
end DL
namespace DL
open PySem PySem.Spec L2 PyProof.Rows L2H
section
variable {X : Cx} {m : M} {te : DE} {pos spos : Pos} {elt tg iter tg1 iter1 : Expr} {ifs ifs1 : List Expr} {scope : Scope} {own : List (Str × Nat)} {vs1 : List Nat} {ti ti1 : DI} {dg dg1 : DG} {g g1 : TG} {tt tt1 : DT}
theorem pds_setLc2 {i : Nat} {y : Str} {py : Pos} (hc : X.calm = true) (hN : X.N.Nodup) (hy : X.N[i]? = some y) (hyl : X.env.scope.names.lookup y = some .local)
    (hsw : swapsWith (.ListComp elt [⟨tg, iter, ifs, 0⟩, ⟨tg1, iter1, ifs1, 0⟩] scope pos) (some (.Name y py)) spos.line X.env = pure true)
    (hi : PDI X m tg iter ti) (ok : BlkOk X.N X.env.scope scope own) (hv : ∀ i ∈ vs1, i ∈ own.map (·.2)) (hct : CTg X.K (own.map (·.2)) g dg)
    (hg : ∀ (s : Shared) (H : Hp) (C : Addr) (cl : List (Str × Addr)) (fp : List Addr), PG (X.blk s H scope (compEnvC scope cl C X.env) fp) tg g)
    (ht : ∀ (s : Shared) (H : Hp) (C : Addr) (cl : List (Str × Addr)) (fp : List Addr) (m' : M), PDTs (X.blk s H scope (compEnvC scope cl C X.env) fp) m' ifs tt)
    (hi1 : ∀ (s : Shared) (H : Hp) (C : Addr) (cl : List (Str × Addr)) (fp : List Addr) (m' : M), PDI (X.blk s H scope (compEnvC scope cl C X.env) fp) m' tg1 iter1 ti1) (hct1 : CTg X.K vs1 g1 dg1)
    (hg1 : ∀ (s : Shared) (H : Hp) (C : Addr) (cl : List (Str × Addr)) (fp : List Addr), PG (X.blk s H scope (compEnvC scope cl C X.env) fp) tg1 g1)
    (ht1 : ∀ (s : Shared) (H : Hp) (C : Addr) (cl : List (Str × Addr)) (fp : List Addr) (m' : M), PDTs (X.blk s H scope (compEnvC scope cl C X.env) fp) m' ifs1 tt1)
    (he : ∀ (s : Shared) (H : Hp) (C : Addr) (cl : List (Str × Addr)) (fp : List Addr) (m' : M), PD (X.blk s H scope (compEnvC scope cl C X.env) fp) m' elt te) (s0 : Shared) (hs : ∀ x, foldedSetIterable iter X.env x = pure x := by intro _; rfl) (hs1 : ∀ env x, foldedSetIterable iter1 env x = pure x := by intro _ _; rfl) :
    PDS X m (.Assign [.Name y py] (.ListComp elt [⟨tg, iter, ifs, 0⟩, ⟨tg1, iter1, ifs1, 0⟩] scope pos) spos) (dAsg (dLc2 ti dg tt ti1 dg1 tt1 te (own.map (·.2)) vs1) (dgOwn i)) := by
  have mt := (ht s0 m.H0 0 [] [] m).mono
  have mi1 := (hi1 s0 m.H0 0 [] [] m).mono
  have mt1 := (ht1 s0 m.H0 0 [] [] m).mono
  have me := (he s0 m.H0 0 [] [] m).mono
  refine ⟨PS.imp (ps_setLc2 hc hN hy hyl hsw hi.pi ok hv hg (fun _ _ _ _ _ => blk_tt (m := m) ht) (fun _ _ _ _ _ => blk_ti (m := m) hi1) hg1 (fun _ _ _ _ _ => blk_tt (m := m) ht1) (fun _ _ _ _ _ => blk_te (m := m) he) hs hs1) fun D σ H h => ?_, fun E E' ρ l h => lc2_mono hi _ _ _ (fun d ρ' => l.nx _) h⟩
  refine lc2_imp hi hct mt mi1 hct1 mt1 me σ H _ (fun d ρ' F => (lEn X m D F).nx (ρ'.set i (some (true, d)))) (fun {F F1 H' ρ1 acc vacc L} s1 S1 h1 r1 f1 f2 fr k => ?_) h
  exact k _ H' F1 s1 (S1.setP f1 f2 ⟨vacc, h1, r1⟩ fr)
end
end DL
namespace DL
inductive Rw where
  | ltr (c : Nat) | emp | thn (i j : Nat) | ngt (i : Nat) | alt (is : List Nat)
def Sem (T : Nat → List Nat → Prop) : Rw → List Nat → Prop
  | .ltr c, w => w = [c]
  | .emp, w => w = []
  | .thn i j, w => ∃ u v, w = u ++ v ∧ T i u ∧ T j v
  | .ngt i, w => ¬ T i w
  | .alt is, w => ∃ i ∈ is, T i w
def Rw.ok (k : Nat) : Rw → Prop
  | .thn i j => i < k ∧ j < k
  | .ngt i => i < k
  | .alt is => ∀ i ∈ is, i < k
  | _ => True
theorem Sem.congr {T T' : Nat → List Nat → Prop} {k : Nat} {r : Rw} (h : r.ok k) (e : ∀ i, i < k → ∀ w, T i w ↔ T' i w) (w : List Nat) : Sem T r w ↔ Sem T' r w := by
  cases r with
  | ltr => exact Iff.rfl
  | emp => exact Iff.rfl
  | thn i j =>
    constructor
    · rintro ⟨u, v, z, h1, h2⟩; exact ⟨u, v, z, (e i h.1 u).mp h1, (e j h.2 v).mp h2⟩
    · rintro ⟨u, v, z, h1, h2⟩; exact ⟨u, v, z, (e i h.1 u).mpr h1, (e j h.2 v).mpr h2⟩
  | ngt i => exact not_congr (e i h w)
  | alt is =>
    constructor
    · rintro ⟨i, hi, h1⟩; exact ⟨i, hi, (e i (h i hi) w).mp h1⟩
    · rintro ⟨i, hi, h1⟩; exact ⟨i, hi, (e i (h i hi) w).mpr h1⟩
def langF (rows : List Rw) : Nat → Nat → List Nat → Prop
  | 0, _, _ => False
  | f + 1, k, w => match rows[k]? with
    | none => False
    | some r => Sem (langF rows f) r w
def rowsOk (rows : List Rw) : Prop := ∀ (k : Nat) (r : Rw), rows[k]? = some r → r.ok k
theorem langF_eq {rows : List Rw} (h : rowsOk rows) : ∀ {k f g : Nat}, k < f → k < g → ∀ w, langF rows f k w ↔ langF rows g k w := by
  intro k
  induction k using Nat.strongRecOn with
  | ind k ih =>
    intro f g hf hg w
    obtain ⟨f, rfl⟩ := Nat.exists_eq_succ_of_ne_zero (by omega : f ≠ 0)
    obtain ⟨g, rfl⟩ := Nat.exists_eq_succ_of_ne_zero (by omega : g ≠ 0)
    simp only [langF]
    cases e : rows[k]? with
    | none => exact Iff.rfl
    | some r => exact Sem.congr (h k r e) (fun i hi w => ih i hi (by omega) (by omega) w) w
def lang (rows : List Rw) (k : Nat) (w : List Nat) : Prop := langF rows (k + 1) k w
theorem lang_row {rows : List Rw} (h : rowsOk rows) {k : Nat} {r : Rw} (e : rows[k]? = some r) (w : List Nat) : lang rows k w ↔ Sem (lang rows) r w := by
  unfold lang
  simp only [langF, e]
  exact Sem.congr (h k r e) (fun i hi w => langF_eq h hi (Nat.lt_succ_self i) w) w
def powL (y : List Nat) (n : Nat) : List Nat := (List.replicate n y).flatten
theorem powL_succ (y : List Nat) (n : Nat) : powL y (n + 1) = y ++ powL y n := by simp [powL, List.replicate_succ]
theorem powL_add (y : List Nat) (m n : Nat) : powL y (m + n) = powL y m ++ powL y n := by
  induction m with
  | zero => simp [powL]
  | succ m ih => rw [Nat.succ_add, powL_succ, powL_succ, ih, List.append_assoc]
theorem powL_len (y : List Nat) (n : Nat) : (powL y n).length = n * y.length := by
  unfold powL
  rw [List.length_flatten, List.map_replicate, List.sum_replicate_nat]
theorem powL_one (y : List Nat) : powL y 1 = y := by simp [powL]
theorem pow_split {y : List Nat} : ∀ {n : Nat} {u v z : List Nat}, powL y n ++ z = u ++ v →
    (∃ i y1 y2, i < n ∧ y = y1 ++ y2 ∧ u = powL y i ++ y1 ∧ v = y2 ++ powL y (n - 1 - i) ++ z) ∨ (∃ z1, u = powL y n ++ z1 ∧ z = z1 ++ v)
  | 0, u, v, z, h => .inr ⟨u, by simp [powL], by simpa [powL] using h⟩
  | n + 1, u, v, z, h => by
    rw [powL_succ, List.append_assoc] at h
    rcases List.append_eq_append_iff.mp h with ⟨a, h1, h2⟩ | ⟨a, h1, h2⟩
    · rcases pow_split h2 with ⟨i, y1, y2, hi, e1, e2, e3⟩ | ⟨z1, e1, e2⟩
      · exact .inl ⟨i + 1, y1, y2, by omega, e1, by rw [h1, e2, powL_succ, List.append_assoc], by rw [e3, show n + 1 - 1 - (i + 1) = n - 1 - i by omega]⟩
      · exact .inr ⟨z1, by rw [h1, e1, powL_succ, List.append_assoc], e2⟩
    · exact .inl ⟨0, u, a, by omega, h1, by simp [powL], by rw [h2, show n + 1 - 1 - 0 = n by omega, List.append_assoc]⟩
theorem word_split {x y z u v : List Nat} {n : Nat} (h : x ++ powL y n ++ z = u ++ v) :
    (∃ x2, x = u ++ x2 ∧ v = x2 ++ powL y n ++ z) ∨ (∃ i y1 y2, i < n ∧ y = y1 ++ y2 ∧ u = x ++ powL y i ++ y1 ∧ v = y2 ++ powL y (n - 1 - i) ++ z) ∨ (∃ z1, u = x ++ powL y n ++ z1 ∧ z = z1 ++ v) := by
  rw [List.append_assoc] at h
  rcases List.append_eq_append_iff.mp h with ⟨a, h1, h2⟩ | ⟨a, h1, h2⟩
  · rcases pow_split h2 with ⟨i, y1, y2, hi, e1, e2, e3⟩ | ⟨z1, e1, e2⟩
    · exact .inr (.inl ⟨i, y1, y2, hi, e1, by rw [h1, e2, List.append_assoc], e3⟩)
    · exact .inr (.inr ⟨z1, by rw [h1, e1, List.append_assoc], e2⟩)
  · exact .inl ⟨a, h1, by rw [h2, List.append_assoc]⟩
def BR (B : List Nat) (b : Nat) : Rw → Prop
  | .ltr _ => b = 2
  | .emp => b = 1
  | .thn i j => ∃ p q, B[i]? = some p ∧ B[j]? = some q ∧ b = p + q + 1
  | .ngt i => B[i]? = some b
  | .alt is => (∀ i ∈ is, ∃ p, B[i]? = some p ∧ p ≤ b) ∧ (b = 0 ∨ ∃ i ∈ is, B[i]? = some b)
def Bdp (rows : List Rw) (B : List Nat) : Prop := ∀ (k b : Nat) (r : Rw), rows[k]? = some r → B[k]? = some b → BR B b r
def Bd (rows : List Rw) (B : List Nat) : Prop := B.length = rows.length ∧ Bdp rows B
theorem get_snoc {B : List Nat} {x i p : Nat} (h : B[i]? = some p) : (B ++ [x])[i]? = some p := by
  rw [List.getElem?_append_left (List.getElem?_eq_some_iff.mp h).1]; exact h
theorem BR.mono {B : List Nat} {x b : Nat} {r : Rw} (h : BR B b r) : BR (B ++ [x]) b r := by
  cases r with
  | ltr => exact h
  | emp => exact h
  | thn i j => obtain ⟨p, q, h1, h2, h3⟩ := h; exact ⟨p, q, get_snoc h1, get_snoc h2, h3⟩
  | ngt i => exact get_snoc h
  | alt is =>
    obtain ⟨h1, h2⟩ := h
    refine ⟨fun i hi => ?_, ?_⟩
    · obtain ⟨p, hp, hq⟩ := h1 i hi; exact ⟨p, get_snoc hp, hq⟩
    · rcases h2 with h2 | ⟨i, hi, h2⟩
      · exact .inl h2
      · exact .inr ⟨i, hi, get_snoc h2⟩
theorem Bdp.snoc {rows : List Rw} {B : List Nat} {x : Nat} {r : Rw} (h : Bdp rows B) (er : rows[B.length]? = some r) (hx : BR B x r) : Bdp rows (B ++ [x]) := fun k b r' e1 e2 => by
  by_cases z : k < B.length
  · rw [List.getElem?_append_left z] at e2; exact (h k b r' e1 e2).mono
  · have : k = B.length := by
      have := (List.getElem?_eq_some_iff.mp e2).1
      simp at this; omega
    subst this
    rw [er] at e1
    cases e1
    simp at e2
    rw [← e2]; exact hx.mono
theorem pump {rows : List Rw} {B : List Nat} (ok : rowsOk rows) (hB : Bd rows B) : ∀ k b, B[k]? = some b → ∀ (x y z : List Nat) (n : Nat), y ≠ [] → b ≤ n → (lang rows k (x ++ powL y n ++ z) ↔ lang rows k (x ++ powL y (n + 1) ++ z)) := by
  intro k
  induction k using Nat.strongRecOn with
  | ind k ih =>
    intro b hb x y z n hy hn
    have hk : k < rows.length := by
      have := (List.getElem?_eq_some_iff.mp hb).1
      rwa [hB.1] at this
    have er : rows[k]? = some rows[k] := List.getElem?_eq_getElem hk
    rw [lang_row ok er, lang_row ok er]
    have hr := ok _ _ er
    have hbd := hB.2 _ _ _ er hb
    have yl : 1 ≤ y.length := List.length_pos_iff.mpr hy
    have l1 : n ≤ (x ++ powL y n ++ z).length := by
      have : n * 1 ≤ n * y.length := Nat.mul_le_mul_left n yl
      simp only [List.length_append, powL_len]; omega
    have l2 : n ≤ (x ++ powL y (n + 1) ++ z).length := by
      have : (n + 1) * 1 ≤ (n + 1) * y.length := Nat.mul_le_mul_left (n + 1) yl
      simp only [List.length_append, powL_len]; omega
    generalize rows[k] = r at hr hbd
    cases r with
    | ltr c =>
      have hbd : b = 2 := hbd
      constructor
      · intro h; rw [show x ++ powL y n ++ z = [c] from h] at l1; simp at l1; omega
      · intro h; rw [show x ++ powL y (n + 1) ++ z = [c] from h] at l2; simp at l2; omega
    | emp =>
      have hbd : b = 1 := hbd
      constructor
      · intro h; rw [show x ++ powL y n ++ z = [] from h] at l1; simp at l1; omega
      · intro h; rw [show x ++ powL y (n + 1) ++ z = [] from h] at l2; simp at l2; omega
    | ngt i => exact not_congr (ih i hr b hbd x y z n hy hn)
    | alt is =>
      constructor
      · rintro ⟨i, hi, h⟩
        obtain ⟨p, hp, hpb⟩ := hbd.1 i hi
        exact ⟨i, hi, (ih i (hr i hi) p hp x y z n hy (by omega)).mp h⟩
      · rintro ⟨i, hi, h⟩
        obtain ⟨p, hp, hpb⟩ := hbd.1 i hi
        exact ⟨i, hi, (ih i (hr i hi) p hp x y z n hy (by omega)).mpr h⟩
    | thn i j =>
      obtain ⟨p, q, hp, hq, rfl⟩ := hbd
      have hi := ih i hr.1 p hp
      have hj := ih j hr.2 q hq
      constructor
      · rintro ⟨u, v, e, h1, h2⟩
        rcases word_split e with ⟨x2, rfl, rfl⟩ | ⟨s, y1, y2, hs, e1, rfl, rfl⟩ | ⟨z1, rfl, rfl⟩
        · exact ⟨u, _, by simp only [List.append_assoc], h1, (hj x2 y z n hy (by omega)).mp h2⟩
        · by_cases c : p ≤ s
          · refine ⟨_, _, ?_, (hi x y y1 s hy c).mp h1, h2⟩
            rw [show n + 1 = (s + 1) + (1 + (n - 1 - s)) by omega, powL_add, powL_add y 1, powL_one]
            conv => lhs; rw [show (powL y (s + 1) ++ (y ++ powL y (n - 1 - s))) = powL y (s + 1) ++ ((y1 ++ y2) ++ powL y (n - 1 - s)) by rw [← e1]]
            simp only [List.append_assoc]
          · refine ⟨_, _, ?_, h1, (hj y2 y z (n - 1 - s) hy (by omega)).mp h2⟩
            rw [show n + 1 = s + (1 + (n - 1 - s + 1)) by omega, powL_add, powL_add y 1, powL_one]
            conv => lhs; rw [show (powL y s ++ (y ++ powL y (n - 1 - s + 1))) = powL y s ++ ((y1 ++ y2) ++ powL y (n - 1 - s + 1)) by rw [← e1]]
            simp only [List.append_assoc]
        · exact ⟨_, v, by simp only [List.append_assoc], (hi x y z1 n hy (by omega)).mp h1, h2⟩
      · rintro ⟨u, v, e, h1, h2⟩
        rcases word_split e with ⟨x2, rfl, rfl⟩ | ⟨s, y1, y2, hs, e1, rfl, rfl⟩ | ⟨z1, rfl, rfl⟩
        · exact ⟨u, _, by simp only [List.append_assoc], h1, (hj x2 y z n hy (by omega)).mpr h2⟩
        · by_cases c : p + 1 ≤ s
          · obtain ⟨s, rfl⟩ := Nat.exists_eq_succ_of_ne_zero (by omega : s ≠ 0)
            refine ⟨_, _, ?_, (hi x y y1 s hy (by omega)).mpr h1, h2⟩
            rw [show n = s + (1 + (n + 1 - 1 - (s + 1))) by omega, powL_add, powL_add y 1, powL_one]
            rw [show s + (1 + (n + 1 - 1 - (s + 1))) + 1 - 1 - (s + 1) = n + 1 - 1 - (s + 1) by omega]
            conv => lhs; rw [show (powL y s ++ (y ++ powL y (n + 1 - 1 - (s + 1)))) = powL y s ++ ((y1 ++ y2) ++ powL y (n + 1 - 1 - (s + 1))) by rw [← e1]]
            simp only [List.append_assoc]
          · obtain ⟨t, ht⟩ : ∃ t, n + 1 - 1 - s = t + 1 := ⟨n + 1 - 1 - s - 1, by omega⟩
            rw [ht] at h2
            refine ⟨_, _, ?_, h1, (hj y2 y z t hy (by omega)).mpr h2⟩
            rw [show n = s + (1 + t) by omega, powL_add, powL_add y 1, powL_one]
            conv => lhs; rw [show (powL y s ++ (y ++ powL y t)) = powL y s ++ ((y1 ++ y2) ++ powL y t) by rw [← e1]]
            simp only [List.append_assoc]
        · exact ⟨_, v, by simp only [List.append_assoc], (hi x y z1 n hy (by omega)).mpr h1, h2⟩
end DL
namespace DL
open PySem PySem.Spec L2 PyProof.Rows
def natD (b : Nat) : D := .int (b : Nat)
def orL : List Nat → Nat
  | [] => 0
  | b :: r => b ||| orL r
theorem orL_bit : ∀ {bs : List Nat} {e : Nat}, (orL bs).testBit e = true ↔ ∃ b ∈ bs, b.testBit e = true
  | [], e => by simp [orL]
  | b :: r, e => by
    rw [orL, Nat.testBit_or, Bool.or_eq_true, orL_bit]
    simp
theorem orL_snoc : ∀ (bs : List Nat) (b : Nat), orL (bs ++ [b]) = orL bs ||| b
  | [], b => by simp [orL]
  | a :: r, b => by rw [List.cons_append, orL, orL_snoc r b, orL, Nat.or_assoc]
def sub (W : List Nat) (s e : Nat) : List Nat := (W.take e).drop s
theorem sub_len {W : List Nat} {s e : Nat} (h : e ≤ W.length) : (sub W s e).length = e - s := by
  unfold sub
  rw [List.length_drop, List.length_take]; omega
theorem sub_split {W : List Nat} {s m e : Nat} (h1 : s ≤ m) (h2 : m ≤ e) (h3 : e ≤ W.length) : sub W s e = sub W s m ++ sub W m e := by
  unfold sub
  have : W.take e = W.take m ++ (W.take e).drop m := by
    conv => lhs; rw [← List.take_append_drop m (W.take e), List.take_take, Nat.min_eq_left h2]
  conv => lhs; rw [this, List.drop_append_of_le_length (by rw [List.length_take]; omega)]
def spanOk (W : List Nat) (L : List Nat → Prop) (B : List Nat) : Prop := B.length = W.length + 1 ∧ ∀ s b, B[s]? = some b → ∀ e, b.testBit e = true ↔ (s ≤ e ∧ e ≤ W.length ∧ L (sub W s e))
theorem span_iff {W : List Nat} {L L' : List Nat → Prop} {B : List Nat} (h : spanOk W L B) (e : ∀ w, L w ↔ L' w) : spanOk W L' B := ⟨h.1, fun s b hs i => by rw [h.2 s b hs i, e]⟩
theorem bit_lt {W : List Nat} {L : List Nat → Prop} {B : List Nat} (h : spanOk W L B) {s b : Nat} (hs : B[s]? = some b) : b < 2 ^ (W.length + 1) := by
  refine Nat.lt_pow_two_of_testBit b fun i hi => ?_
  cases q : b.testBit i with
  | false => rfl
  | true => have := ((h.2 s b hs i).mp q).2.1; omega
theorem two_bit {k e : Nat} : (2 ^ k).testBit e = true ↔ e = k := by
  rw [Nat.testBit_two_pow]
  simp [eq_comm]
theorem sub_letter {W : List Nat} {s c e : Nat} (h1 : s ≤ e) (h2 : e ≤ W.length) : sub W s e = [c] ↔ e = s + 1 ∧ W[s]? = some c := by
  have l := sub_len (W := W) (s := s) h2
  constructor
  · intro h
    rw [h] at l
    have e1 : e = s + 1 := by simp at l; omega
    subst e1
    refine ⟨rfl, ?_⟩
    unfold sub at h
    have : ((W.take (s + 1)).drop s)[0]? = some c := by rw [h]; rfl
    rw [List.getElem?_drop, Nat.add_zero, List.getElem?_take_of_lt (by omega)] at this
    exact this
  · rintro ⟨rfl, h⟩
    unfold sub
    rw [List.take_add_one, h]
    have : s < W.length := (List.getElem?_eq_some_iff.mp h).1
    rw [List.drop_append_of_le_length (by rw [List.length_take]; omega), List.drop_of_length_le (by rw [List.length_take]; omega)]
    rfl
theorem span_ltr {W : List Nat} {c : Nat} {B : List Nat} (hl : B.length = W.length + 1) (h : ∀ s b, B[s]? = some b → b = if W[s]? = some c then 2 ^ (s + 1) else 0) : spanOk W (fun w => w = [c]) B := by
  refine ⟨hl, fun s b hs e => ?_⟩
  have lt := (List.getElem?_eq_some_iff.mp hs).1
  rw [h s b hs]
  by_cases q : W[s]? = some c
  · rw [if_pos q, two_bit]
    have : s < W.length := (List.getElem?_eq_some_iff.mp q).1
    constructor
    · rintro rfl; exact ⟨by omega, by omega, (sub_letter (by omega) (by omega)).mpr ⟨rfl, q⟩⟩
    · rintro ⟨h1, h2, h3⟩; exact ((sub_letter h1 h2).mp h3).1
  · rw [if_neg q]
    simp only [Nat.zero_testBit, Bool.false_eq_true, false_iff]
    rintro ⟨h1, h2, h3⟩; exact q ((sub_letter h1 h2).mp h3).2
theorem span_emp {W : List Nat} {B : List Nat} (hl : B.length = W.length + 1) (h : ∀ s b, B[s]? = some b → b = 2 ^ s) : spanOk W (fun w => w = []) B := by
  refine ⟨hl, fun s b hs e => ?_⟩
  have lt := (List.getElem?_eq_some_iff.mp hs).1
  rw [h s b hs, two_bit]
  constructor
  · rintro rfl; exact ⟨Nat.le_refl _, by omega, List.length_eq_zero_iff.mp (by rw [sub_len (by omega)]; omega)⟩
  · rintro ⟨h1, h2, h3⟩
    have := sub_len (W := W) (s := s) h2
    rw [h3] at this
    simp at this; omega
theorem full_bit {n s e : Nat} (h : s ≤ n) : (2 ^ (n + 1) - 2 ^ s).testBit e = true ↔ s ≤ e ∧ e ≤ n := by
  have e1 : 2 ^ (n + 1) - 2 ^ s = 2 ^ s * (2 ^ (n + 1 - s) - 1) := by
    rw [Nat.mul_sub, ← Nat.pow_add, show s + (n + 1 - s) = n + 1 by omega, Nat.mul_one]
  rw [e1, Nat.testBit_two_pow_mul, Bool.and_eq_true, decide_eq_true_eq]
  constructor
  · rintro ⟨h1, h2⟩
    rw [Nat.testBit_two_pow_sub_one, decide_eq_true_eq] at h2
    exact ⟨h1, by omega⟩
  · rintro ⟨h1, h2⟩
    exact ⟨h1, by rw [Nat.testBit_two_pow_sub_one, decide_eq_true_eq]; omega⟩
theorem span_ngt {W : List Nat} {L : List Nat → Prop} {A B : List Nat} (hA : spanOk W L A) (hl : B.length = W.length + 1) (h : ∀ s b a : Nat, B[s]? = some b → A[s]? = some a → b = (2 ^ (W.length + 1) - 2 ^ s) ^^^ a) : spanOk W (fun w => ¬ L w) B := by
  refine ⟨hl, fun s b hs e => ?_⟩
  have lt := (List.getElem?_eq_some_iff.mp hs).1
  obtain ⟨a, ea⟩ : ∃ a, A[s]? = some a := ⟨_, List.getElem?_eq_getElem (show s < A.length by rw [hA.1]; omega)⟩
  have ha := hA.2 s _ ea e
  rw [h s b _ hs ea, Nat.testBit_xor]
  have f := full_bit (n := W.length) (s := s) (e := e) (by omega)
  cases q1 : (2 ^ (W.length + 1) - 2 ^ s).testBit e <;> cases q2 : a.testBit e <;> rw [q1] at f <;> rw [q2] at ha <;> simp at f ha ⊢
  · exact fun h1 h2 => absurd h2 (by have := f h1; omega)
  · exact absurd ha.2.1 (by have := f ha.1; omega)
  · exact ⟨f.1, f.2, ha f.1 f.2⟩
  · exact fun _ _ => ha.2.2
theorem sub_xor {n s a : Nat} (h : s ≤ n) (k : ∀ e, a.testBit e = true → s ≤ e ∧ e ≤ n) : (2 ^ (n + 1) - 2 ^ s) - a = (2 ^ (n + 1) - 2 ^ s) ^^^ a ∧ a ≤ 2 ^ (n + 1) - 2 ^ s := by
  have e1 : (2 ^ (n + 1) - 2 ^ s) &&& a = a := by
    apply Nat.eq_of_testBit_eq
    intro i
    rw [Nat.testBit_and]
    cases q : a.testBit i with
    | false => simp
    | true => rw [(full_bit h).mpr (k i q)]; rfl
  generalize 2 ^ (n + 1) - 2 ^ s = x at e1 ⊢
  have sb : ∀ i, a.testBit i = true → x.testBit i = true := fun i q => by
    have : (x &&& a).testBit i = true := by rw [e1]; exact q
    rw [Nat.testBit_and, Bool.and_eq_true] at this
    exact this.1
  have e2 : ((x ^^^ a) &&& a) = 0 := by
    apply Nat.eq_of_testBit_eq
    intro i
    rw [Nat.testBit_and, Nat.testBit_xor, Nat.zero_testBit]
    cases q : a.testBit i with
    | false => simp
    | true => rw [sb i q]; rfl
  have e3 : ((x ^^^ a) ||| a) = x := by
    apply Nat.eq_of_testBit_eq
    intro i
    rw [Nat.testBit_or, Nat.testBit_xor]
    cases q : a.testBit i with
    | false => simp
    | true => rw [sb i q]; rfl
  have h1 := bitOr_and ((x ^^^ a : Nat) : Int) (a : Int)
  rw [bitOr_nn (by omega) (by omega), bitAnd_pp (by omega) (by omega), Int.toNat_natCast, Int.toNat_natCast, e2, e3] at h1
  omega
theorem span_alt {W : List Nat} {Ls : List (List Nat → Prop)} {As : List (List Nat)} {B : List Nat} (hA : ∀ (k : Nat) (A : List Nat), As[k]? = some A → ∃ L, Ls[k]? = some L ∧ spanOk W L A) (hn : As.length = Ls.length) (hl : B.length = W.length + 1) (h : ∀ s b : Nat, B[s]? = some b → ∀ e : Nat, b.testBit e = true ↔ ∃ (A : List Nat) (a : Nat), A ∈ As ∧ A[s]? = some a ∧ a.testBit e = true) : spanOk W (fun w => ∃ L ∈ Ls, L w) B := by
  refine ⟨hl, fun s b hs e => ?_⟩
  have lt := (List.getElem?_eq_some_iff.mp hs).1
  rw [h s b hs e]
  constructor
  · rintro ⟨A, a, hm, ha, hb⟩
    obtain ⟨k, hk⟩ := List.getElem?_of_mem hm
    obtain ⟨L, hL, sp⟩ := hA k A hk
    obtain ⟨h1, h2, h3⟩ := (sp.2 s a ha e).mp hb
    exact ⟨h1, h2, L, List.mem_of_getElem? hL, h3⟩
  · rintro ⟨h1, h2, L, hm, h3⟩
    obtain ⟨k, hk⟩ := List.getElem?_of_mem hm
    have hlt := (List.getElem?_eq_some_iff.mp hk).1
    have ek : As[k]? = some As[k] := List.getElem?_eq_getElem (by omega)
    obtain ⟨L', hL', sp⟩ := hA k _ ek
    rw [hk] at hL'
    cases hL'
    obtain ⟨c, es⟩ : ∃ c, As[k][s]? = some c := ⟨_, List.getElem?_eq_getElem (show s < As[k].length by rw [sp.1]; omega)⟩
    exact ⟨_, _, List.mem_of_getElem? ek, es, (sp.2 s _ es e).mpr ⟨h1, h2, h3⟩⟩
theorem span_thn {W : List Nat} {L M : List Nat → Prop} {A C B : List Nat} (hA : spanOk W L A) (hC : spanOk W M C) (hl : B.length = W.length + 1) (h : ∀ s b a : Nat, B[s]? = some b → A[s]? = some a → ∀ e : Nat, b.testBit e = true ↔ ∃ m c : Nat, C[m]? = some c ∧ a.testBit m = true ∧ c.testBit e = true) : spanOk W (fun w => ∃ u v, w = u ++ v ∧ L u ∧ M v) B := by
  refine ⟨hl, fun s b hs e => ?_⟩
  have lt := (List.getElem?_eq_some_iff.mp hs).1
  obtain ⟨a, ea⟩ : ∃ a, A[s]? = some a := ⟨_, List.getElem?_eq_getElem (show s < A.length by rw [hA.1]; omega)⟩
  rw [h s b _ hs ea e]
  constructor
  · rintro ⟨m, c, hc, h1, h2⟩
    obtain ⟨a1, a2, a3⟩ := (hA.2 s _ ea m).mp h1
    obtain ⟨b1, b2, b3⟩ := (hC.2 m c hc e).mp h2
    exact ⟨by omega, b2, _, _, sub_split a1 b1 b2, a3, b3⟩
  · rintro ⟨h1, h2, u, v, hw, h3, h4⟩
    have lw := sub_len (W := W) (s := s) h2
    rw [hw, List.length_append] at lw
    have es := sub_split (W := W) (s := s) (m := s + u.length) (by omega) (by omega) h2
    rw [hw] at es
    have e1 : u = sub W s (s + u.length) ∧ v = sub W (s + u.length) e := by
      have := List.append_inj es (by rw [sub_len (by omega)]; omega)
      exact this
    obtain ⟨c, ec⟩ : ∃ c, C[s + u.length]? = some c := ⟨_, List.getElem?_eq_getElem (show s + u.length < C.length by rw [hC.1]; omega)⟩
    exact ⟨s + u.length, _, ec, (hA.2 s _ ea _).mpr ⟨by omega, by omega, by rw [← e1.1]; exact h3⟩, (hC.2 _ _ ec e).mpr ⟨by omega, h2, by rw [← e1.2]; exact h4⟩⟩
end DL
namespace DL
section
variable (P : List (List Nat)) (M : List Nat)
def nRd : Nat → List Nat → Nat
  | i, [] => if i = M.length then 1 else 0
  | i, a :: w => (if a ∈ P.getD i [] then nRd i w else 0) + (if M[i]? = some a then nRd (i + 1) w else 0)
def rRd : Nat → Nat → List Nat → List (List Nat)
  | i, _, [] => if i = M.length then [[]] else []
  | i, p, a :: w => (if M[i]? = some a then (rRd (i + 1) (p + 1) w).map ((p + 1) :: ·) else []) ++ (if a ∈ P.getD i [] then rRd i (p + 1) w else [])
def gRd : Nat → Nat → List Nat → List Nat
  | _, _, [] => []
  | i, p, a :: w => if M[i]? = some a ∧ 0 < nRd P M (i + 1) w then (p + 1) :: gRd (i + 1) (p + 1) w else gRd i (p + 1) w
theorem rRd_len : ∀ (w : List Nat) (i p : Nat), (rRd P M i p w).length = nRd P M i w
  | [], i, p => by simp only [rRd, nRd]; split <;> rfl
  | a :: w, i, p => by
    simp only [rRd, nRd, List.length_append]
    have h1 := rRd_len w (i + 1) (p + 1)
    have h2 := rRd_len w i (p + 1)
    split <;> split <;> simp [h1, h2, Nat.add_comm]
theorem gRd_head : ∀ (w : List Nat) (i p : Nat), 0 < nRd P M i w → (rRd P M i p w).head? = some (gRd P M i p w)
  | [], i, p, h => by
    simp only [nRd] at h
    simp only [rRd, gRd]
    split at h
    · rename_i e; rw [if_pos e]; rfl
    · omega
  | a :: w, i, p, h => by
    simp only [nRd] at h
    simp only [rRd, gRd]
    have l1 := rRd_len P M w (i + 1) (p + 1)
    by_cases c : M[i]? = some a ∧ 0 < nRd P M (i + 1) w
    · rw [if_pos c, if_pos c.1, List.head?_append, List.head?_map, gRd_head w (i + 1) (p + 1) c.2]
      rfl
    · rw [if_neg c]
      have e0 : (if M[i]? = some a then (rRd P M (i + 1) (p + 1) w).map ((p + 1) :: ·) else []) = [] := by
        split
        · rename_i e
          have : nRd P M (i + 1) w = 0 := by
            have : ¬ 0 < nRd P M (i + 1) w := fun z => c ⟨e, z⟩
            omega
          rw [this] at l1
          rw [List.length_eq_zero_iff.mp l1]; rfl
        · rfl
      rw [e0, List.nil_append]
      have e1 : (if M[i]? = some a then nRd P M (i + 1) w else 0) = 0 := by
        split
        · rename_i e
          have : ¬ 0 < nRd P M (i + 1) w := fun z => c ⟨e, z⟩
          omega
        · rfl
      rw [e1] at h
      split at h
      · rename_i e
        rw [if_pos e]
        exact gRd_head w i (p + 1) (by omega)
      · omega
def xRd (part : List Nat) (m : Nat) : Nat → List Nat → List (Nat × List Nat)
  | _, [] => []
  | p, a :: w => (if a = m then [(p + 1, w)] else []) ++ (if a ∈ part then xRd part m (p + 1) w else [])
theorem rRd_x {i m : Nat} (hm : M[i]? = some m) : ∀ (w : List Nat) (p : Nat), rRd P M i p w = (xRd (P.getD i []) m p w).flatMap fun q => (rRd P M (i + 1) q.1 q.2).map (q.1 :: ·)
  | [], p => by
    have : i < M.length := (List.getElem?_eq_some_iff.mp hm).1
    simp only [rRd, xRd]
    rw [if_neg (by omega)]; rfl
  | a :: w, p => by
    simp only [rRd, xRd, List.flatMap_append]
    rw [rRd_x hm w (p + 1), hm]
    congr 1
    · by_cases e : a = m
      · rw [if_pos e, if_pos (by rw [e])]; simp
      · rw [if_neg e, if_neg (fun z => e (Option.some.inj z).symm)]; rfl
    · split <;> rfl
theorem rRd_end {i : Nat} (hi : i = M.length) : ∀ (w : List Nat) (p : Nat), rRd P M i p w = if ∀ a ∈ w, a ∈ P.getD i [] then [[]] else []
  | [], p => by simp only [rRd]; rw [if_pos hi, if_pos (by simp)]
  | a :: w, p => by
    have hn : M[i]? = none := by rw [hi]; simp
    simp only [rRd, hn]
    rw [if_neg (by simp), List.nil_append]
    by_cases e : a ∈ P.getD i []
    · rw [if_pos e, rRd_end hi w (p + 1)]
      by_cases c : ∀ b ∈ w, b ∈ P.getD i []
      · rw [if_pos c, if_pos (fun b hb => (List.mem_cons.mp hb).elim (fun q => q ▸ e) (c b))]
      · rw [if_neg c, if_neg (fun z => c fun b hb => z b (List.mem_cons_of_mem _ hb))]
    · rw [if_neg e, if_neg (fun z => e (z a (by simp)))]
def sumN : Nat → (Nat → Nat) → Nat
  | 0, _ => 0
  | k + 1, f => sumN k f + f k
theorem sumN_add {k : Nat} {f g : Nat → Nat} : sumN k (fun j => f j + g j) = sumN k f + sumN k g := by
  induction k with
  | zero => rfl
  | succ k ih => simp only [sumN, ih]; omega
theorem sumN_congr {k : Nat} {f g : Nat → Nat} (h : ∀ j, j < k → f j = g j) : sumN k f = sumN k g := by
  induction k with
  | zero => rfl
  | succ k ih => simp only [sumN]; rw [ih fun j hj => h j (by omega), h k (by omega)]
theorem sumN_shift {k : Nat} {f : Nat → Nat} : sumN (k + 1) f = f 0 + sumN k fun j => f (j + 1) := by
  induction k with
  | zero => simp [sumN]
  | succ k ih => rw [sumN, ih]; simp only [sumN]; omega
theorem sumN_one {k i : Nat} (h : i < k) {f : Nat → Nat} : sumN k (fun j => if j = i then f j else 0) = f i := by
  induction k with
  | zero => omega
  | succ k ih =>
    simp only [sumN]
    by_cases c : i = k
    · subst c
      rw [if_pos rfl]
      have : sumN i (fun j => if j = i then f j else 0) = sumN i fun _ => 0 := sumN_congr fun j hj => if_neg (by omega)
      rw [this]
      have z : ∀ k, sumN k (fun _ => 0) = 0 := fun k => by induction k with
        | zero => rfl
        | succ k ih => simp [sumN, ih]
      rw [z]; omega
    · rw [if_neg (fun z => c z.symm), ih (by omega)]; rfl
def stepV (a : Nat) (v : Nat → Nat) (j : Nat) : Nat := v j * (if a ∈ P.getD j [] then 1 else 0) + (if 0 < j ∧ M[j - 1]? = some a then v (j - 1) else 0)
theorem step_dot (a : Nat) (v : Nat → Nat) (w : List Nat) : sumN (M.length + 1) (fun j => stepV P M a v j * nRd P M j w) = sumN (M.length + 1) fun j => v j * nRd P M j (a :: w) := by
  have e1 : ∀ j, stepV P M a v j * nRd P M j w = v j * (if a ∈ P.getD j [] then nRd P M j w else 0) + (if 0 < j ∧ M[j - 1]? = some a then v (j - 1) * nRd P M j w else 0) := fun j => by
    unfold stepV
    rw [Nat.add_mul]
    congr 1
    · split <;> simp
    · split <;> simp
  have e2 : ∀ j, v j * nRd P M j (a :: w) = v j * (if a ∈ P.getD j [] then nRd P M j w else 0) + (if M[j]? = some a then v j * nRd P M (j + 1) w else 0) := fun j => by
    simp only [nRd, Nat.mul_add]
    congr 1
    split <;> simp
  rw [sumN_congr fun j _ => e1 j, sumN_congr (g := fun j => v j * (if a ∈ P.getD j [] then nRd P M j w else 0) + (if M[j]? = some a then v j * nRd P M (j + 1) w else 0)) fun j _ => e2 j, sumN_add, sumN_add]
  congr 1
  rw [sumN_shift, if_neg (by omega), Nat.zero_add]
  have hn : M[M.length]? = none := by simp
  simp only [sumN]
  rw [hn, if_neg (by simp), Nat.add_zero]
  refine sumN_congr fun j _ => ?_
  simp
theorem end_dot (v : Nat → Nat) : sumN (M.length + 1) (fun j => v j * nRd P M j []) = v M.length := by
  have : ∀ j, v j * nRd P M j [] = if j = M.length then v j else 0 := fun j => by
    simp only [nRd]; split <;> simp
  rw [sumN_congr fun j _ => this j, sumN_one (by omega)]
theorem start_dot (w : List Nat) : sumN (M.length + 1) (fun j => (if j = 0 then 1 else 0) * nRd P M j w) = nRd P M 0 w := by
  have : ∀ j, (if j = 0 then 1 else 0) * nRd P M j w = if j = 0 then nRd P M j w else 0 := fun j => by split <;> simp
  rw [sumN_congr fun j _ => this j, sumN_one (by omega)]
def tRd : Nat → Nat → List Nat → Nat
  | i, j, [] => if i = j then 1 else 0
  | i, j, a :: w => (if a ∈ P.getD i [] then tRd i j w else 0) + (if M[i]? = some a then tRd (i + 1) j w else 0)
theorem nRd_t : ∀ (w : List Nat) (i : Nat), nRd P M i w = tRd P M i M.length w
  | [], i => rfl
  | a :: w, i => by simp only [nRd, tRd, nRd_t w]
theorem tRd_snoc (a : Nat) : ∀ (w : List Nat) (i j : Nat), tRd P M i j (w ++ [a]) = (if a ∈ P.getD j [] then tRd P M i j w else 0) + (if 0 < j ∧ M[j - 1]? = some a then tRd P M i (j - 1) w else 0)
  | [], i, j => by
    simp only [List.nil_append, tRd]
    by_cases e : i = j
    · subst e
      rw [if_neg (show ¬ i + 1 = i by omega)]
      by_cases z : 0 < i ∧ M[i - 1]? = some a
      · rw [if_pos z, if_neg (show ¬ i = i - 1 by omega)]; simp
      · rw [if_neg z]; simp
    · rw [if_neg e]
      by_cases z : i + 1 = j
      · subst z
        simp
      · rw [if_neg z]
        by_cases y : 0 < j ∧ M[j - 1]? = some a
        · rw [if_pos y, if_neg (show ¬ i = j - 1 by omega)]; simp
        · rw [if_neg y]; simp
  | b :: w, i, j => by
    simp only [List.cons_append, tRd, tRd_snoc a w]
    repeat' split
    all_goals omega
theorem getD_rev {P : List (List Nat)} {n i : Nat} (hl : P.length = n + 1) (hi : i ≤ n) : P.reverse.getD i [] = P.getD (n - i) [] := by
  rw [List.getD_eq_getElem?_getD, List.getD_eq_getElem?_getD, List.getElem?_reverse (by omega)]
  congr 2
  omega
theorem get_rev {M : List Nat} {i : Nat} (hi : i < M.length) : M.reverse[i]? = M[M.length - 1 - i]? := List.getElem?_reverse hi
theorem tRd_rev (hl : P.length = M.length + 1) : ∀ (w : List Nat) (i j : Nat), i ≤ M.length → j ≤ M.length → tRd P.reverse M.reverse i j w = tRd P M (M.length - j) (M.length - i) w.reverse
  | [], i, j, hi, hj => by
    simp only [tRd, List.reverse_nil]
    by_cases e : i = j
    · rw [if_pos e, if_pos (by omega)]
    · rw [if_neg e, if_neg (by omega)]
  | a :: w, i, j, hi, hj => by
    rw [List.reverse_cons, tRd_snoc]
    simp only [tRd]
    rw [getD_rev hl hi, tRd_rev hl w i j hi hj]
    congr 1
    by_cases e : i < M.length
    · rw [get_rev e, tRd_rev hl w (i + 1) j (by omega) hj, show M.length - (i + 1) = M.length - i - 1 by omega, show M.length - 1 - i = M.length - i - 1 by omega]
      by_cases z : M[M.length - i - 1]? = some a
      · rw [if_pos z, if_pos ⟨by omega, z⟩]
      · rw [if_neg z, if_neg fun y => z y.2]
    · have : M.reverse[i]? = none := by rw [List.getElem?_eq_none]; simp; omega
      rw [this, if_neg (by simp), if_neg (fun y => by omega)]
theorem nRd_rev (hl : P.length = M.length + 1) (w : List Nat) : nRd P.reverse M.reverse 0 w.reverse = nRd P M 0 w := by
  rw [nRd_t, nRd_t, List.length_reverse, tRd_rev P M hl _ _ _ (by omega) (by omega), List.reverse_reverse]
  simp
end
end DL
namespace W00
open PySem PySem.Spec L2 PyProof.Rows DL
open scoped List
abbrev rwT := PySem.Challenge.rw_turtlestold_k00_pieces_of_a_word
def top (i : Nat) : Stmt := PySem.Challenge.pw_turtlestold_k00_pieces_of_a_word.main.body.getD i (.Pass ⟨0, 0, 0, 0⟩)
def inCls (i j : Nat) : Stmt := (match top i with | .ClassDef _ _ _ b _ _ _ _ _ _ _ => b | _ => []).getD j (.Pass ⟨0, 0, 0, 0⟩)
abbrev s_check_letters : Stmt := top 25
theorem sc_check_letters : FnScope ["letters", "last", "letter"] ["letters"] (defScope s_check_letters) := ⟨rfl, rfl, rfl, by decide +kernel, rfl, by decide +kernel, by decide +kernel⟩
abbrev s_check_word : Stmt := top 26
theorem sc_check_word : FnScope ["word", "letters", "index", "letter"] ["word", "letters"] (defScope s_check_word) := ⟨rfl, rfl, rfl, by decide +kernel, rfl, by decide +kernel, by decide +kernel⟩
abbrev s_is_before : Stmt := top 27
theorem sc_is_before : FnScope ["one", "other"] ["one", "other"] (defScope s_is_before) := ⟨rfl, rfl, rfl, by decide +kernel, rfl, by decide +kernel, by decide +kernel⟩
abbrev s_contents : Stmt := top 28
theorem sc_contents : FnScope ["word"] ["word"] (defScope s_contents) := ⟨rfl, rfl, rfl, by decide +kernel, rfl, by decide +kernel, by decide +kernel⟩
abbrev s_short_words : Stmt := top 29
theorem sc_short_words : GScope ["letters", "most", "row", "_", "word", "letter"] ["letters", "most"] (defScope s_short_words) := ⟨rfl, rfl, rfl, by decide +kernel, rfl, by decide +kernel, by decide +kernel⟩
abbrev s_next_place : Stmt := top 32
theorem sc_next_place : FnScope ["word", "letter", "place", "found"] ["word", "letter", "place"] (defScope s_next_place) := ⟨rfl, rfl, rfl, by decide +kernel, rfl, by decide +kernel, by decide +kernel⟩
abbrev s_last_place : Stmt := top 33
theorem sc_last_place : FnScope ["word", "letter", "place", "found"] ["word", "letter", "place"] (defScope s_last_place) := ⟨rfl, rfl, rfl, by decide +kernel, rfl, by decide +kernel, by decide +kernel⟩
abbrev s_first_places : Stmt := top 34
theorem sc_first_places : FnScope ["piece", "word", "places", "place", "letter"] ["piece", "word"] (defScope s_first_places) := ⟨rfl, rfl, rfl, by decide +kernel, rfl, by decide +kernel, by decide +kernel⟩
abbrev s_last_places : Stmt := top 35
theorem sc_last_places : FnScope ["piece", "word", "places", "place", "letter"] ["piece", "word"] (defScope s_last_places) := ⟨rfl, rfl, rfl, by decide +kernel, rfl, by decide +kernel, by decide +kernel⟩
abbrev s_is_piece : Stmt := top 36
theorem sc_is_piece : FnScope ["piece", "word"] ["piece", "word"] (defScope s_is_piece) := ⟨rfl, rfl, rfl, by decide +kernel, rfl, by decide +kernel, by decide +kernel⟩
abbrev s_ways_of : Stmt := top 37
theorem sc_ways_of : FnScope ["piece", "word", "ways", "letter", "at", "_"] ["piece", "word"] (defScope s_ways_of) := ⟨rfl, rfl, rfl, by decide +kernel, rfl, by decide +kernel, by decide +kernel⟩
abbrev s_pieces_of : Stmt := top 38
theorem sc_pieces_of : FnScope ["word", "most", "letters", "found", "row", "_", "piece", "letter"] ["word", "most"] (defScope s_pieces_of) := ⟨rfl, rfl, rfl, by decide +kernel, rfl, by decide +kernel, by decide +kernel⟩
abbrev s_law_classes : Stmt := top 40
theorem sc_law_classes : FnScope ["e", "names", "flags", "k"] ["e"] (defScope s_law_classes) := ⟨rfl, rfl, rfl, by decide +kernel, rfl, by decide +kernel, by decide +kernel⟩
abbrev s_law_new : Stmt := top 41
theorem sc_law_new : FnScope ["script"] ["script"] (defScope s_law_new) := ⟨rfl, rfl, rfl, by decide +kernel, rfl, by decide +kernel, by decide +kernel⟩
abbrev s_law_draw : Stmt := top 42
theorem sc_law_draw : FnScope ["state", "many", "cell", "digit"] ["state", "many"] (defScope s_law_draw) := ⟨rfl, rfl, rfl, by decide +kernel, rfl, by decide +kernel, by decide +kernel⟩
abbrev s_law_letters : Stmt := top 43
theorem sc_law_letters : FnScope ["state", "most", "small", "count", "at", "letters", "k"] ["state", "most"] (defScope s_law_letters) := ⟨rfl, rfl, rfl, by decide +kernel, rfl, by decide +kernel, by decide +kernel⟩
abbrev s_law_word : Stmt := top 44
theorem sc_law_word : FnScope ["state", "letters", "most", "word", "k"] ["state", "letters", "most"] (defScope s_law_word) := ⟨rfl, rfl, rfl, by decide +kernel, rfl, by decide +kernel, by decide +kernel⟩
abbrev s_law_long : Stmt := top 45
theorem sc_law_long : FnScope ["state", "letters", "most", "size", "first", "second"] ["state", "letters", "most"] (defScope s_law_long) := ⟨rfl, rfl, rfl, by decide +kernel, rfl, by decide +kernel, by decide +kernel⟩
abbrev s_law_piece : Stmt := top 46
theorem sc_law_piece : FnScope ["piece", "word", "at", "letter"] ["piece", "word"] (defScope s_law_piece) := ⟨rfl, rfl, rfl, by decide +kernel, rfl, by decide +kernel, by decide +kernel⟩
abbrev s_law_same : Stmt := top 47
theorem sc_law_same : FnScope ["actual", "expected", "k"] ["actual", "expected"] (defScope s_law_same) := ⟨rfl, rfl, rfl, by decide +kernel, rfl, by decide +kernel, by decide +kernel⟩
abbrev s_law_words : Stmt := top 48
theorem sc_law_words : FnScope ["letters", "most", "found", "row", "k", "longer", "word", "letter"] ["letters", "most"] (defScope s_law_words) := ⟨rfl, rfl, rfl, by decide +kernel, rfl, by decide +kernel, by decide +kernel⟩
abbrev s_law_first : Stmt := top 49
theorem sc_law_first : FnScope ["piece", "word", "places", "at", "letter", "found", "k"] ["piece", "word"] (defScope s_law_first) := ⟨rfl, rfl, rfl, by decide +kernel, rfl, by decide +kernel, by decide +kernel⟩
abbrev s_law_last : Stmt := top 50
theorem sc_law_last : FnScope ["piece", "word", "turned", "k"] ["piece", "word"] (defScope s_law_last) := ⟨rfl, rfl, rfl, by decide +kernel, rfl, by decide +kernel, by decide +kernel⟩
abbrev s_law_ways : Stmt := top 51
theorem sc_law_ways : FnScope ["piece", "word", "row", "letter", "further", "k"] ["piece", "word"] (defScope s_law_ways) := ⟨rfl, rfl, rfl, by decide +kernel, rfl, by decide +kernel, by decide +kernel⟩
abbrev s_law_refused : Stmt := top 52
theorem sc_law_refused : FnScope ["word", "most", "e"] ["word", "most"] (defScope s_law_refused) := ⟨rfl, rfl, rfl, by decide +kernel, rfl, by decide +kernel, by decide +kernel⟩
abbrev s_law_earlier : Stmt := top 53
theorem sc_law_earlier : FnScope ["one", "other"] ["one", "other"] (defScope s_law_earlier) := ⟨rfl, rfl, rfl, by decide +kernel, rfl, by decide +kernel, by decide +kernel⟩
abbrev s_law_alphabet : Stmt := top 54
theorem sc_law_alphabet : FnScope ["text", "e"] ["text"] (defScope s_law_alphabet) := ⟨rfl, rfl, rfl, by decide +kernel, rfl, by decide +kernel, by decide +kernel⟩
abbrev s_law_spelled : Stmt := top 55
theorem sc_law_spelled : FnScope ["word", "letters", "e"] ["word", "letters"] (defScope s_law_spelled) := ⟨rfl, rfl, rfl, by decide +kernel, rfl, by decide +kernel, by decide +kernel⟩
abbrev s_law_plain_words : Stmt := top 56
theorem sc_law_plain_words : FnScope ["state", "letters", "word", "base", "wrong", "text", "near", "at", "told", "most", "pair", "due", "letter"] ["state", "letters", "word"] (defScope s_law_plain_words) := ⟨rfl, rfl, rfl, by decide +kernel, rfl, by decide +kernel, by decide +kernel⟩
abbrev s_law : Stmt := top 57
theorem sc_law : FnScope ["script", "state", "letters", "word", "drawn", "step", "thin", "changed", "piece", "most", "due", "listed", "large", "told"] ["script"] (defScope s_law) := ⟨rfl, rfl, rfl, by decide +kernel, rfl, by decide +kernel, by decide +kernel⟩
abbrev s_LimitError_init : Stmt := inCls 15 0
def dc_LimitError : DefC := ⟨"LimitError", "LimitError.__init__", defArgs s_LimitError_init, defBody s_LimitError_init, defScope s_LimitError_init⟩
abbrev s_LetterError_init : Stmt := inCls 3 0
def dc_LetterError : DefC := ⟨"LetterError", "LetterError.__init__", defArgs s_LetterError_init, defBody s_LetterError_init, defScope s_LetterError_init⟩
structure Gf (K : PySem.W.Frag) (mg : Str → Option Value) : Prop where
  xi_LimitError : fnC K "LimitError" = DefC.val dc_LimitError ∧ cloB K "LimitError" "LimitError.__init__" = true
  xi_LetterError : fnC K "LetterError" = DefC.val dc_LetterError ∧ cloB K "LetterError" "LetterError.__init__" = true
  xb_LimitError : iniB K "LimitError" "LimitError" "limit" = true
  xb_LetterError : iniB K "LetterError" "LetterError" "index" = true
  gl_LimitError : mg "LimitError" = some (.ref (He.ga K "LimitError"))
  gl_LetterError : mg "LetterError" = some (.ref (He.ga K "LetterError"))
  gl_LettersError : mg "LettersError" = some (.ref (He.ga K "LettersError"))
  gl_ToolError : mg "ToolError" = some (.ref (He.ga K "ToolError"))
  gl_MixedLetters : mg "MixedLetters" = some (.ref (He.ga K "MixedLetters"))
  gl_TableError : mg "TableError" = some (.ref (He.ga K "TableError"))
  gl_ActionError : mg "ActionError" = some (.ref (He.ga K "ActionError"))
  gl_LassoError : mg "LassoError" = some (.ref (He.ga K "LassoError"))
  gl_StateError : mg "StateError" = some (.ref (He.ga K "StateError"))
  gl_RowError : mg "RowError" = some (.ref (He.ga K "RowError"))
  gl_NotStarFree : mg "NotStarFree" = some (.ref (He.ga K "NotStarFree"))
  gl_TextError : mg "TextError" = some (.ref (He.ga K "TextError"))
  gl_NameFault : mg "NameFault" = some (.ref (He.ga K "NameFault"))
  gl_LineError : mg "LineError" = some (.ref (He.ga K "LineError"))
  gl_CountsError : mg "CountsError" = some (.ref (He.ga K "CountsError"))
  gl_TooManyStates : mg "TooManyStates" = some (.ref (He.ga K "TooManyStates"))
  gl_TooManyActions : mg "TooManyActions" = some (.ref (He.ga K "TooManyActions"))
  gl_TooManyRows : mg "TooManyRows" = some (.ref (He.ga K "TooManyRows"))
  gl_ClashError : mg "ClashError" = some (.ref (He.ga K "ClashError"))
  gl_BreakError : mg "BreakError" = some (.ref (He.ga K "BreakError"))
  x0_LettersError : ExC0 K mg "LettersError"
  xc_LetterError : ExcC K (He.ga K "LetterError")
  exm_LetterError_LetterError : PySem.W.exmOne K (.ref (He.ga K "LetterError")) (.ref (He.ga K "LetterError")) = some true
  exm_LetterError_LimitError : PySem.W.exmOne K (.ref (He.ga K "LetterError")) (.ref (He.ga K "LimitError")) = some false
  exm_LetterError_LettersError : PySem.W.exmOne K (.ref (He.ga K "LetterError")) (.ref (He.ga K "LettersError")) = some false
  kit_LetterError_ValueError : PySem.W.kitOne K (.ref (He.ga K "LetterError")) (.type "ValueError") = some true
  kit_LetterError_ToolError : PySem.W.kitOne K (.ref (He.ga K "LetterError")) (.ref (He.ga K "ToolError")) = some true
  kit_LetterError_LettersError : PySem.W.kitOne K (.ref (He.ga K "LetterError")) (.ref (He.ga K "LettersError")) = some false
  kit_LetterError_MixedLetters : PySem.W.kitOne K (.ref (He.ga K "LetterError")) (.ref (He.ga K "MixedLetters")) = some false
  kit_LetterError_TableError : PySem.W.kitOne K (.ref (He.ga K "LetterError")) (.ref (He.ga K "TableError")) = some false
  kit_LetterError_ActionError : PySem.W.kitOne K (.ref (He.ga K "LetterError")) (.ref (He.ga K "ActionError")) = some false
  kit_LetterError_LassoError : PySem.W.kitOne K (.ref (He.ga K "LetterError")) (.ref (He.ga K "LassoError")) = some false
  kit_LetterError_LetterError : PySem.W.kitOne K (.ref (He.ga K "LetterError")) (.ref (He.ga K "LetterError")) = some true
  kit_LetterError_StateError : PySem.W.kitOne K (.ref (He.ga K "LetterError")) (.ref (He.ga K "StateError")) = some false
  kit_LetterError_RowError : PySem.W.kitOne K (.ref (He.ga K "LetterError")) (.ref (He.ga K "RowError")) = some false
  kit_LetterError_NotStarFree : PySem.W.kitOne K (.ref (He.ga K "LetterError")) (.ref (He.ga K "NotStarFree")) = some false
  kit_LetterError_TextError : PySem.W.kitOne K (.ref (He.ga K "LetterError")) (.ref (He.ga K "TextError")) = some false
  kit_LetterError_NameFault : PySem.W.kitOne K (.ref (He.ga K "LetterError")) (.ref (He.ga K "NameFault")) = some false
  kit_LetterError_LineError : PySem.W.kitOne K (.ref (He.ga K "LetterError")) (.ref (He.ga K "LineError")) = some false
  kit_LetterError_CountsError : PySem.W.kitOne K (.ref (He.ga K "LetterError")) (.ref (He.ga K "CountsError")) = some false
  kit_LetterError_LimitError : PySem.W.kitOne K (.ref (He.ga K "LetterError")) (.ref (He.ga K "LimitError")) = some false
  kit_LetterError_TooManyStates : PySem.W.kitOne K (.ref (He.ga K "LetterError")) (.ref (He.ga K "TooManyStates")) = some false
  kit_LetterError_TooManyActions : PySem.W.kitOne K (.ref (He.ga K "LetterError")) (.ref (He.ga K "TooManyActions")) = some false
  kit_LetterError_TooManyRows : PySem.W.kitOne K (.ref (He.ga K "LetterError")) (.ref (He.ga K "TooManyRows")) = some false
  kit_LetterError_ClashError : PySem.W.kitOne K (.ref (He.ga K "LetterError")) (.ref (He.ga K "ClashError")) = some false
  kit_LetterError_BreakError : PySem.W.kitOne K (.ref (He.ga K "LetterError")) (.ref (He.ga K "BreakError")) = some false
  xf_LetterError : XfC K (He.ga K "LetterError")
  nof_LetterError_index : PySem.W.findIn K (.ref (He.ga K "LetterError")) "index" = some none
  xc_LimitError : ExcC K (He.ga K "LimitError")
  exm_LimitError_LetterError : PySem.W.exmOne K (.ref (He.ga K "LimitError")) (.ref (He.ga K "LetterError")) = some false
  exm_LimitError_LimitError : PySem.W.exmOne K (.ref (He.ga K "LimitError")) (.ref (He.ga K "LimitError")) = some true
  exm_LimitError_LettersError : PySem.W.exmOne K (.ref (He.ga K "LimitError")) (.ref (He.ga K "LettersError")) = some false
  kit_LimitError_ValueError : PySem.W.kitOne K (.ref (He.ga K "LimitError")) (.type "ValueError") = some true
  kit_LimitError_ToolError : PySem.W.kitOne K (.ref (He.ga K "LimitError")) (.ref (He.ga K "ToolError")) = some true
  kit_LimitError_LettersError : PySem.W.kitOne K (.ref (He.ga K "LimitError")) (.ref (He.ga K "LettersError")) = some false
  kit_LimitError_MixedLetters : PySem.W.kitOne K (.ref (He.ga K "LimitError")) (.ref (He.ga K "MixedLetters")) = some false
  kit_LimitError_TableError : PySem.W.kitOne K (.ref (He.ga K "LimitError")) (.ref (He.ga K "TableError")) = some false
  kit_LimitError_ActionError : PySem.W.kitOne K (.ref (He.ga K "LimitError")) (.ref (He.ga K "ActionError")) = some false
  kit_LimitError_LassoError : PySem.W.kitOne K (.ref (He.ga K "LimitError")) (.ref (He.ga K "LassoError")) = some false
  kit_LimitError_LetterError : PySem.W.kitOne K (.ref (He.ga K "LimitError")) (.ref (He.ga K "LetterError")) = some false
  kit_LimitError_StateError : PySem.W.kitOne K (.ref (He.ga K "LimitError")) (.ref (He.ga K "StateError")) = some false
  kit_LimitError_RowError : PySem.W.kitOne K (.ref (He.ga K "LimitError")) (.ref (He.ga K "RowError")) = some false
  kit_LimitError_NotStarFree : PySem.W.kitOne K (.ref (He.ga K "LimitError")) (.ref (He.ga K "NotStarFree")) = some false
  kit_LimitError_TextError : PySem.W.kitOne K (.ref (He.ga K "LimitError")) (.ref (He.ga K "TextError")) = some false
  kit_LimitError_NameFault : PySem.W.kitOne K (.ref (He.ga K "LimitError")) (.ref (He.ga K "NameFault")) = some false
  kit_LimitError_LineError : PySem.W.kitOne K (.ref (He.ga K "LimitError")) (.ref (He.ga K "LineError")) = some false
  kit_LimitError_CountsError : PySem.W.kitOne K (.ref (He.ga K "LimitError")) (.ref (He.ga K "CountsError")) = some false
  kit_LimitError_LimitError : PySem.W.kitOne K (.ref (He.ga K "LimitError")) (.ref (He.ga K "LimitError")) = some true
  kit_LimitError_TooManyStates : PySem.W.kitOne K (.ref (He.ga K "LimitError")) (.ref (He.ga K "TooManyStates")) = some false
  kit_LimitError_TooManyActions : PySem.W.kitOne K (.ref (He.ga K "LimitError")) (.ref (He.ga K "TooManyActions")) = some false
  kit_LimitError_TooManyRows : PySem.W.kitOne K (.ref (He.ga K "LimitError")) (.ref (He.ga K "TooManyRows")) = some false
  kit_LimitError_ClashError : PySem.W.kitOne K (.ref (He.ga K "LimitError")) (.ref (He.ga K "ClashError")) = some false
  kit_LimitError_BreakError : PySem.W.kitOne K (.ref (He.ga K "LimitError")) (.ref (He.ga K "BreakError")) = some false
  xf_LimitError : XfC K (He.ga K "LimitError")
  nof_LimitError_limit : PySem.W.findIn K (.ref (He.ga K "LimitError")) "limit" = some none
  xc_LettersError : ExcC K (He.ga K "LettersError")
  exm_LettersError_LetterError : PySem.W.exmOne K (.ref (He.ga K "LettersError")) (.ref (He.ga K "LetterError")) = some false
  exm_LettersError_LimitError : PySem.W.exmOne K (.ref (He.ga K "LettersError")) (.ref (He.ga K "LimitError")) = some false
  exm_LettersError_LettersError : PySem.W.exmOne K (.ref (He.ga K "LettersError")) (.ref (He.ga K "LettersError")) = some true
  kit_LettersError_ValueError : PySem.W.kitOne K (.ref (He.ga K "LettersError")) (.type "ValueError") = some true
  kit_LettersError_ToolError : PySem.W.kitOne K (.ref (He.ga K "LettersError")) (.ref (He.ga K "ToolError")) = some true
  kit_LettersError_LettersError : PySem.W.kitOne K (.ref (He.ga K "LettersError")) (.ref (He.ga K "LettersError")) = some true
  kit_LettersError_MixedLetters : PySem.W.kitOne K (.ref (He.ga K "LettersError")) (.ref (He.ga K "MixedLetters")) = some false
  kit_LettersError_TableError : PySem.W.kitOne K (.ref (He.ga K "LettersError")) (.ref (He.ga K "TableError")) = some false
  kit_LettersError_ActionError : PySem.W.kitOne K (.ref (He.ga K "LettersError")) (.ref (He.ga K "ActionError")) = some false
  kit_LettersError_LassoError : PySem.W.kitOne K (.ref (He.ga K "LettersError")) (.ref (He.ga K "LassoError")) = some false
  kit_LettersError_LetterError : PySem.W.kitOne K (.ref (He.ga K "LettersError")) (.ref (He.ga K "LetterError")) = some false
  kit_LettersError_StateError : PySem.W.kitOne K (.ref (He.ga K "LettersError")) (.ref (He.ga K "StateError")) = some false
  kit_LettersError_RowError : PySem.W.kitOne K (.ref (He.ga K "LettersError")) (.ref (He.ga K "RowError")) = some false
  kit_LettersError_NotStarFree : PySem.W.kitOne K (.ref (He.ga K "LettersError")) (.ref (He.ga K "NotStarFree")) = some false
  kit_LettersError_TextError : PySem.W.kitOne K (.ref (He.ga K "LettersError")) (.ref (He.ga K "TextError")) = some false
  kit_LettersError_NameFault : PySem.W.kitOne K (.ref (He.ga K "LettersError")) (.ref (He.ga K "NameFault")) = some false
  kit_LettersError_LineError : PySem.W.kitOne K (.ref (He.ga K "LettersError")) (.ref (He.ga K "LineError")) = some false
  kit_LettersError_CountsError : PySem.W.kitOne K (.ref (He.ga K "LettersError")) (.ref (He.ga K "CountsError")) = some false
  kit_LettersError_LimitError : PySem.W.kitOne K (.ref (He.ga K "LettersError")) (.ref (He.ga K "LimitError")) = some false
  kit_LettersError_TooManyStates : PySem.W.kitOne K (.ref (He.ga K "LettersError")) (.ref (He.ga K "TooManyStates")) = some false
  kit_LettersError_TooManyActions : PySem.W.kitOne K (.ref (He.ga K "LettersError")) (.ref (He.ga K "TooManyActions")) = some false
  kit_LettersError_TooManyRows : PySem.W.kitOne K (.ref (He.ga K "LettersError")) (.ref (He.ga K "TooManyRows")) = some false
  kit_LettersError_ClashError : PySem.W.kitOne K (.ref (He.ga K "LettersError")) (.ref (He.ga K "ClashError")) = some false
  kit_LettersError_BreakError : PySem.W.kitOne K (.ref (He.ga K "LettersError")) (.ref (He.ga K "BreakError")) = some false
  b_ValueError : mg "ValueError" = none
  b_bool : mg "bool" = none
  b_enumerate : mg "enumerate" = none
  b_int : mg "int" = none
  b_isinstance : mg "isinstance" = none
  b_len : mg "len" = none
  b_list : mg "list" = none
  b_max : mg "max" = none
  b_range : mg "range" = none
  b_set : mg "set" = none
  b_sorted : mg "sorted" = none
  b_str : mg "str" = none
  b_super : mg "super" = none
  b_tuple : mg "tuple" = none
  k_MOST_LETTERS : ∃ t, mg "MOST_LETTERS" = some (.int 3 t)
  k_MOST_PIECE : ∃ t, mg "MOST_PIECE" = some (.int 6 t)
  k_SHORT : ∃ t, mg "SHORT" = some (.int 3 t)
  k_SMALL : ∃ t, mg "SMALL" = some (.str "abcdefghijklmnopqrstuvwxyz" t)
  d_check_letters : Df K mg "check_letters" s_check_letters ["letters"]
  d_check_word : Df K mg "check_word" s_check_word ["word", "letters"]
  d_is_before : Df K mg "is_before" s_is_before ["one", "other"]
  d_contents : Df K mg "contents" s_contents ["word"]
  d_short_words : DfGD K mg "short_words" s_short_words ["letters", "most"] [.int 3]
  d_next_place : Df K mg "next_place" s_next_place ["word", "letter", "place"]
  d_last_place : Df K mg "last_place" s_last_place ["word", "letter", "place"]
  d_first_places : Df K mg "first_places" s_first_places ["piece", "word"]
  d_last_places : Df K mg "last_places" s_last_places ["piece", "word"]
  d_is_piece : Df K mg "is_piece" s_is_piece ["piece", "word"]
  d_ways_of : Df K mg "ways_of" s_ways_of ["piece", "word"]
  d_pieces_of : Df K mg "pieces_of" s_pieces_of ["word", "most"]
  d_law_classes : Df K mg "_law_classes" s_law_classes ["e"]
  d_law_new : Df K mg "_law_new" s_law_new ["script"]
  d_law_draw : Df K mg "_law_draw" s_law_draw ["state", "many"]
  d_law_letters : Df K mg "_law_letters" s_law_letters ["state", "most"]
  d_law_word : Df K mg "_law_word" s_law_word ["state", "letters", "most"]
  d_law_long : Df K mg "_law_long" s_law_long ["state", "letters", "most"]
  d_law_piece : Df K mg "_law_piece" s_law_piece ["piece", "word"]
  d_law_same : Df K mg "_law_same" s_law_same ["actual", "expected"]
  d_law_words : Df K mg "_law_words" s_law_words ["letters", "most"]
  d_law_first : Df K mg "_law_first" s_law_first ["piece", "word"]
  d_law_last : Df K mg "_law_last" s_law_last ["piece", "word"]
  d_law_ways : Df K mg "_law_ways" s_law_ways ["piece", "word"]
  d_law_refused : Df K mg "_law_refused" s_law_refused ["word", "most"]
  d_law_earlier : Df K mg "_law_earlier" s_law_earlier ["one", "other"]
  d_law_alphabet : Df K mg "_law_alphabet" s_law_alphabet ["text"]
  d_law_spelled : Df K mg "_law_spelled" s_law_spelled ["word", "letters"]
  d_law_plain_words : Df K mg "_law_plain_words" s_law_plain_words ["state", "letters", "word"]
  d_law : Df K mg "law" s_law ["script"]
theorem oke_LimitError {P : Program} [PrF P] {w : World} {K : PySem.W.Frag} {mg : Str → Option Value} {base : Heap} (g : Gf K mg) : OkE P w K mg base "LimitError" "limit" := by
  refine okE_of (d := dc_LimitError) (x1 := "self") (x2 := "limit") (fld := "limit") (msg := "a bound is exceeded") g.xi_LimitError.1 g.xi_LimitError.2 g.xb_LimitError g.gl_LimitError g.b_super (NdefX.nscope_by (by decide +kernel)) rfl rfl rfl (by decide) (by decide) (by decide) (by decide) ?_ ?_ ?_ ?_ rfl (fun _ _ _ _ _ us hl => match us, hl with | [_, _], _ => rfl)
  · exact fun ⟨_, _, _, _, _, _, _⟩ hF f L => by subst hF; exact ⟨_, rfl⟩
  · exact fun ⟨_, _, _, _, _, _, _⟩ hF f L => by subst hF; rfl
  · exact fun ⟨_, _, _, _, _, _, _⟩ hF f L => by subst hF; rfl
  · exact fun ⟨_, _, _, _, _, _, _⟩ hF f L => by subst hF; rfl
theorem oke_LetterError {P : Program} [PrF P] {w : World} {K : PySem.W.Frag} {mg : Str → Option Value} {base : Heap} (g : Gf K mg) : OkE P w K mg base "LetterError" "index" := by
  refine okE_of (d := dc_LetterError) (x1 := "self") (x2 := "index") (fld := "index") (msg := "not a letter of the alphabet") g.xi_LetterError.1 g.xi_LetterError.2 g.xb_LetterError g.gl_LetterError g.b_super (NdefX.nscope_by (by decide +kernel)) rfl rfl rfl (by decide) (by decide) (by decide) (by decide) ?_ ?_ ?_ ?_ rfl (fun _ _ _ _ _ us hl => match us, hl with | [_, _], _ => rfl)
  · exact fun ⟨_, _, _, _, _, _, _⟩ hF f L => by subst hF; exact ⟨_, rfl⟩
  · exact fun ⟨_, _, _, _, _, _, _⟩ hF f L => by subst hF; rfl
  · exact fun ⟨_, _, _, _, _, _, _⟩ hF f L => by subst hF; rfl
  · exact fun ⟨_, _, _, _, _, _, _⟩ hF f L => by subst hF; rfl
local macro_rules | `(tactic| walk_at "d1") => `(tactic| with_reducible first
  | refine DL.s_seq ?_ | refine DL.s_asg ?_ | refine DL.s_gname ?_ | refine DL.s_gown ?_ | refine DL.s_ret ?_ | refine DL.s_retN ?_ | refine DL.s_drop ?_ | refine DL.s_ifs ?_ | refine DL.s_c ?_ | refine DL.s_op2 ?_ | refine DL.s_op1 ?_ | refine DL.s_nil ?_ | refine DL.s_cons ?_ | refine DL.s_next ?_
  | refine DL.s_call ?_ | refine DL.s_test ?_ | refine DL.s_truT ?_ | refine DL.s_and ?_ | refine DL.s_or ?_ | refine DL.s_not ?_ | refine DL.s_andV ?_ | refine DL.s_orV ?_ | refine DL.s_notV ?_ | refine DL.s_if ?_ | refine DL.s_lst ?_ | refine DL.s_tup ?_ | refine DL.s_slice ?_ | refine DL.s_nopart ?_ | refine DL.s_part ?_
  | refine DL.s_chain ?_ | refine DL.t_iany ?_ | refine DL.s_irng1 ?_ | refine DL.s_irng2 ?_ | refine DL.s_meth ?_ | refine DL.s_strT ?_ | refine DL.s_truB ?_ | refine DL.s_setF ?_ | refine DL.t_meth ?_ | refine DL.s_ienum ?_ | refine DL.s_enmS ?_ | refine DL.s_gcons ?_ | refine DL.s_gnil ?_ | refine DL.s_sort ?_ | refine DL.t_notinC ?_ | refine DL.t_inC ?_ | refine DL.s_itemS ?_ | refine DL.s_itemL ?_ | refine DL.s_addS ⟨by first | omega | (simp <;> omega), ?_⟩ | refine DL.s_lenS ⟨by omega, ?_⟩ | refine DL.s_ixS0 ?_ | refine DL.s_ixS1 ?_ | refine DL.s_ixT0 ?_ | refine DL.s_ixT1 ?_ | refine DL.s_max2 ?_ | refine DL.s_max2N ?_ | refine DL.s_find3 ?_ | refine DL.s_rfind ?_ | refine DL.s_set0 ?_ | refine DL.s_put ?_ | refine DL.s_fz ?_ | refine DL.s_make ?_ | refine DL.s_disp ?_ | refine DL.s_dpc ?_ | refine DL.s_dpn ?_ | refine DL.s_dict0 ?_ | refine DL.s_lcT2 ?_ | refine DL.s_lcT ?_ | refine DL.s_yes ?_
  | refine DL.s_addI ?_ | refine DL.s_I0 ?_ | refine DL.s_cmpI ?_ | refine DL.s_cmpS ?_ | refine DL.s_eqI ?_ | refine DL.s_neI ?_ | refine DL.s_eqB ?_ | refine DL.s_neB ?_ | refine DL.s_eqS ?_ | refine DL.s_neS ?_ | refine DL.s_isNon ?_ | refine DL.s_isnotNon ?_
  | refine DL.s_lenL ?_ | refine DL.s_lenT ?_ | refine DL.s_lenP ?_ | refine DL.s_intI ?_ | refine DL.s_intB ?_ | refine DL.s_listL ?_ | refine DL.s_listT ?_ | refine DL.s_tupL ?_ | refine DL.s_tupT ?_ | refine DL.s_raise ?_ | refine DL.s_mkE ?_ | refine DL.s_mk0 ?_ | refine DL.s_callX ?_ | refine DL.s_try ?_ | refine DL.s_ix0L ?_ | refine DL.s_ix1L ?_ | refine DL.s_neg ?_ | refine DL.s_listXL ?_ | refine DL.s_listXT ?_ | refine DL.s_step ?_ | refine DL.s_callB ?_ | refine DL.s_bnil ?_ | refine DL.s_bcons ?_ | refine DL.s_tab ?_ | refine DL.s_inTab ?_ | refine DL.s_inI ?_ | refine DL.s_seqO ?_)
local macro_rules | `(tactic| walk_at "d2") => `(tactic| first
  | ((with_reducible apply DL.s_var); exact rfl) | ((with_reducible apply DL.s_varO); exact rfl; rotate_left; exact rfl) | ((with_reducible apply DL.s_peek); exact rfl) | ((with_reducible apply DL.s_ixK); exact rfl) | ((with_reducible apply DL.s_ixJ); exact rfl; exact rfl)
  | ((with_reducible apply DL.s_ixV2); exact rfl) | ((with_reducible apply DL.s_ixV); exact ⟨_, rfl⟩) | ((with_reducible apply DL.s_isi); exact rfl) | ((with_reducible apply DL.s_isSome); exact rfl) | ((with_reducible apply DL.s_isnotSome); exact rfl) | ((with_reducible apply DL.s_gtup); exact rfl) | ((with_reducible apply DL.s_ixP); exact rfl) | ((with_reducible apply DL.s_setP); exact rfl; exact rfl) | ((with_reducible apply DL.s_retO); exact rfl))
local macro_rules | `(tactic| walk_at "dif") => `(tactic| with_reducible refine DL.s_ite (fun hb => ?_) (fun hb => ?_))
local macro_rules | `(tactic| walk_at "dgo") => `(tactic| repeat (first | walk_at "d1" | walk_at "d2" | (with_reducible refine DL.s_iteNT ?_) | (with_reducible refine DL.s_iteNF ?_) | (with_reducible refine DL.s_iteT ?_) | (with_reducible refine DL.s_iteF ?_) | dsimp only))
end W00
namespace W00
open PySem PySem.Spec L2 PyProof.Rows DL
open scoped List
local macro_rules | `(tactic| walk_at "d1") => `(tactic| with_reducible first
  | refine DL.s_seq ?_ | refine DL.s_asg ?_ | refine DL.s_gname ?_ | refine DL.s_gown ?_ | refine DL.s_ret ?_ | refine DL.s_retN ?_ | refine DL.s_drop ?_ | refine DL.s_ifs ?_ | refine DL.s_c ?_ | refine DL.s_op2 ?_ | refine DL.s_op1 ?_ | refine DL.s_nil ?_ | refine DL.s_cons ?_ | refine DL.s_next ?_
  | refine DL.s_call ?_ | refine DL.s_test ?_ | refine DL.s_truT ?_ | refine DL.s_and ?_ | refine DL.s_or ?_ | refine DL.s_not ?_ | refine DL.s_andV ?_ | refine DL.s_orV ?_ | refine DL.s_notV ?_ | refine DL.s_if ?_ | refine DL.s_lst ?_ | refine DL.s_tup ?_ | refine DL.s_slice ?_ | refine DL.s_nopart ?_ | refine DL.s_part ?_
  | refine DL.s_chain ?_ | refine DL.t_iany ?_ | refine DL.s_irng1 ?_ | refine DL.s_irng2 ?_ | refine DL.s_meth ?_ | refine DL.s_strT ?_ | refine DL.s_truB ?_ | refine DL.s_setF ?_ | refine DL.t_meth ?_ | refine DL.s_ienum ?_ | refine DL.s_enmS ?_ | refine DL.s_gcons ?_ | refine DL.s_gnil ?_ | refine DL.s_sort ?_ | refine DL.t_notinC ?_ | refine DL.t_inC ?_ | refine DL.s_itemS ?_ | refine DL.s_itemL ?_ | refine DL.s_addS ⟨by first | omega | (simp <;> omega), ?_⟩ | refine DL.s_lenS ⟨by omega, ?_⟩ | refine DL.s_ixS0 ?_ | refine DL.s_ixS1 ?_ | refine DL.s_ixT0 ?_ | refine DL.s_ixT1 ?_ | refine DL.s_max2 ?_ | refine DL.s_max2N ?_ | refine DL.s_find3 ?_ | refine DL.s_rfind ?_ | refine DL.s_set0 ?_ | refine DL.s_put ?_ | refine DL.s_fz ?_ | refine DL.s_make ?_ | refine DL.s_disp ?_ | refine DL.s_dpc ?_ | refine DL.s_dpn ?_ | refine DL.s_dict0 ?_ | refine DL.s_lcT2 ?_ | refine DL.s_lcT ?_ | refine DL.s_yes ?_
  | refine DL.s_addI ?_ | refine DL.s_I0 ?_ | refine DL.s_cmpI ?_ | refine DL.s_cmpS ?_ | refine DL.s_eqI ?_ | refine DL.s_neI ?_ | refine DL.s_eqB ?_ | refine DL.s_neB ?_ | refine DL.s_eqS ?_ | refine DL.s_neS ?_ | refine DL.s_isNon ?_ | refine DL.s_isnotNon ?_
  | refine DL.s_lenL ?_ | refine DL.s_lenT ?_ | refine DL.s_lenP ?_ | refine DL.s_intI ?_ | refine DL.s_intB ?_ | refine DL.s_listL ?_ | refine DL.s_listT ?_ | refine DL.s_tupL ?_ | refine DL.s_tupT ?_ | refine DL.s_raise ?_ | refine DL.s_mkE ?_ | refine DL.s_mk0 ?_ | refine DL.s_callX ?_ | refine DL.s_try ?_ | refine DL.s_ix0L ?_ | refine DL.s_ix1L ?_ | refine DL.s_neg ?_ | refine DL.s_listXL ?_ | refine DL.s_listXT ?_ | refine DL.s_step ?_ | refine DL.s_callB ?_ | refine DL.s_bnil ?_ | refine DL.s_bcons ?_ | refine DL.s_tab ?_ | refine DL.s_inTab ?_ | refine DL.s_inI ?_ | refine DL.s_seqO ?_)
local macro_rules | `(tactic| walk_at "d2") => `(tactic| first
  | ((with_reducible apply DL.s_var); exact rfl) | ((with_reducible apply DL.s_varO); exact rfl; rotate_left; exact rfl) | ((with_reducible apply DL.s_peek); exact rfl) | ((with_reducible apply DL.s_ixK); exact rfl) | ((with_reducible apply DL.s_ixJ); exact rfl; exact rfl)
  | ((with_reducible apply DL.s_ixV2); exact rfl) | ((with_reducible apply DL.s_ixV); exact ⟨_, rfl⟩) | ((with_reducible apply DL.s_isi); exact rfl) | ((with_reducible apply DL.s_isSome); exact rfl) | ((with_reducible apply DL.s_isnotSome); exact rfl) | ((with_reducible apply DL.s_gtup); exact rfl) | ((with_reducible apply DL.s_ixP); exact rfl) | ((with_reducible apply DL.s_setP); exact rfl; exact rfl) | ((with_reducible apply DL.s_retO); exact rfl))
local macro_rules | `(tactic| walk_at "dif") => `(tactic| with_reducible refine DL.s_ite (fun hb => ?_) (fun hb => ?_))
local macro_rules | `(tactic| walk_at "dgo") => `(tactic| repeat (first | walk_at "d1" | walk_at "d2" | (with_reducible refine DL.s_iteNT ?_) | (with_reducible refine DL.s_iteNF ?_) | (with_reducible refine DL.s_iteT ?_) | (with_reducible refine DL.s_iteF ?_) | dsimp only))
local macro_rules | `(tactic| walk_at "dgo1") => `(tactic| first | walk_at "d1" | walk_at "d2" | (with_reducible refine DL.s_iteNT ?_) | (with_reducible refine DL.s_iteNF ?_) | (with_reducible refine DL.s_iteT ?_) | (with_reducible refine DL.s_iteF ?_) | dsimp only)
local macro_rules | `(tactic| walk_at "dk") => `(tactic| repeat (first | walk_at "dgo1" | rw [dec_rfl'] | rw [dec_ne' _ (by decide)]))
local macro_rules | `(tactic| walk_at "nm") => `(tactic| simp only [List.map_cons, List.map_nil, List.set_cons_zero, List.set_cons_succ, List.cons_append, List.nil_append, List.length_cons, List.length_nil, List.replicate_succ, List.replicate_zero])
theorem ok_law_draw {P : Program} [PrF P] {w : World} {K : PySem.W.Frag} {mg : Str → Option Value} {base : Heap} (g : Gf K mg) : Ok P w K mg base "_law_draw" 1 ["state", "many"] sdDraw := by
  refine okDraw_mk (k := 0) g.d_law_draw sc_law_draw (fun cdv A outer s H E m hr => ?_)
  have hu := hr.units
  have hu1 := Nat.lt_of_le_of_lt (Nat.add_le_add_left (by decide : 1 ≤ 64) _) hu
  have sc := sc_law_draw
  refine ⟨_, (pdss_cons (pds_if ((pdw_and (pdt_cmp o_eq (op_eqU hu) (pd_ixV hu1 (pv 0) pd_int) pd_int (nomark _)) (pdw_and1 (pdt_cmp o_lt op_ltU (pd_ixV hu1 (pv 0) pd_int) (pd_len (PD.pq (pd_ixV hu1 (pv 0) pd_int)) rfl (by rfl) g.b_len) (nomark _))))).pt (pdss_cons (pds_set (i := 2) sc.nd rfl (Or.inl rfl) (pd_ix hu1 (pd_ixV hu1 (pv 0) pd_int) (pd_ixV hu1 (pv 0) pd_int))) (pdss_cons (pds_setIx 0 pd_int (pd_bin o_add op_addU (pd_ixV hu1 (pv 0) pd_int) pd_int)) (pdss_one (pds_if (pdt_cmp o_ge op_geU (pd_var 2) (pd_bin o_pow op_pow pd_int pd_int) (nomark _)) (pdss_cons (pds_setIx 0 pd_int (pd_bin o_sub op_sub (pd_var 2) (pd_bin o_pow op_pow pd_int pd_int))) (pdss_cons (pds_setIx 0 pd_int pd_int) (pdss_one (pds_setIx 0 pd_int pd_int)))) (pdss_cons (pds_setIx 0 pd_int (pd_bin o_mod op_mod (pd_int1 (PD.pq (pd_bin o_mul op_mulU (pd_var 2) pd_int)) rfl (by rfl) g.b_int) pd_int)) (pdss_cons (pds_setIx 0 pd_int pd_int) (pdss_one (pds_setIx 0 pd_int pd_int)))))))) pdss_nil) (pdss_cons (pds_if (pdt_cmp o_eq (op_eqU hu) (pd_ixV hu1 (pv 0) pd_int) pd_int (nomark _)) (pdss_one (pds_ret pd_int)) pdss_nil) (pdss_cons (pds_setIx 0 pd_int (pd_bin o_sub op_sub (pd_ixV hu1 (pv 0) pd_int) pd_int)) (pdss_cons (pds_if (pdt_cmp o_eq (op_eqU hu) (pd_ixV hu1 (pv 0) pd_int) pd_int (nomark _)) (pdss_cons (pds_set (i := 3) sc.nd rfl (Or.inl rfl) (pd_bin o_mod op_mod (pd_int1 (PD.pq (pd_ixV hu1 (pv 0) pd_int)) rfl (by rfl) g.b_int) (pd_var 1))) (pdss_cons (pds_setIx 0 pd_int (pd_bin o_div op_fdiv (pd_ixV hu1 (pv 0) pd_int) (pd_var 1))) (pdss_cons (pds_if (pdt_cmp o_eq (op_eqU hu) (pd_ixV hu1 (pv 0) pd_int) pd_int (nomark _)) (pdss_one (pds_setIx 0 pd_int pd_int)) pdss_nil) (pdss_one (pds_ret (pd_var 3)))))) pdss_nil) (pdss_cons (pds_setIx 0 pd_int (pd_bin o_mod op_mod (pd_int1 (PD.pq (pd_bin o_mul op_mulU (pd_ixV hu1 (pv 0) pd_int) pd_int)) rfl (by rfl) g.b_int) pd_int)) (pdss_one (pds_ret (pd_bin o_mod op_mod (pd_int1 (PD.pq (pd_bin o_div op_fdiv (pd_ixV hu1 (pv 0) pd_int) pd_int)) rfl (by rfl) g.b_int) (pd_var 1))))))))), ?_⟩
  intro q ns i j k l many n63 i0 m1 m2
  have pow18 : ((10 : Int) ^ ((18 : Int)).toNat) = 1000000000000000000 := rfl
  refine DL.s_seqR (fun ρ => ∃ i j k l x, 0 ≤ i ∧ ρ = [some (true, .pin q (rdr ns i j k l)), some (false, .int many), x, none]) (fun ρ ⟨i, j, k, l, x, h0, e⟩ => ?_) (fun R hR => ?_)
  · subst e
    walk_at "dgo"
    walk_at "dif"
    · walk_at "dgo"
      exact ⟨⟨0, rfl, by omega, by omega⟩, i, j, k, l, h0, rfl⟩
    · walk_at "dgo"
      walk_at "dif"
      · walk_at "dgo"
        refine DL.s_II ⟨by omega, ?_⟩
        walk_at "dgo"
        refine DL.s_II ⟨⟨by omega, by omega⟩, ?_⟩
        walk_at "dgo"
        have v0 : 0 ≤ j % many := Int.emod_nonneg _ (by omega)
        have v1 : j % many < many := Int.emod_lt_of_pos _ (by omega)
        walk_at "dif"
        · walk_at "dgo"
          exact ⟨⟨_, rfl, v0, v1⟩, i, _, _, _, h0, rfl⟩
        · walk_at "dgo"
          exact ⟨⟨_, rfl, v0, v1⟩, i, _, _, _, h0, rfl⟩
      · walk_at "dgo"
        refine DL.s_mulI ⟨.inr (by decide), ?_⟩
        walk_at "dgo"
        refine DL.s_II ⟨by decide, ?_⟩
        walk_at "dgo"
        refine DL.s_II ⟨⟨by decide, by decide⟩, ?_⟩
        walk_at "dgo"
        refine DL.s_II ⟨by omega, ?_⟩
        walk_at "dgo"
        exact ⟨⟨_, rfl, Int.emod_nonneg _ (by omega), Int.emod_lt_of_pos _ (by omega)⟩, i, _, _, _, h0, rfl⟩
  · walk_at "dgo"
    walk_at "dif"
    · walk_at "dgo"
      walk_at "dif"
      · rename_i hb
        have lt : i < ns.length := by simpa using hb
        have at0 : atI (ns.map D.int) i = some (.int (ns[i.toNat]'(by omega))) := by
          unfold atI ixN
          simp [i0, lt]
        walk_at "dgo"
        refine DL.s_ixL at0 ?_
        walk_at "dgo"
        refine DL.s_II ⟨⟨by decide, by decide, by decide⟩, ?_⟩
        walk_at "dgo"
        walk_at "dif"
        · walk_at "dgo"
          refine DL.s_II ⟨⟨by decide, by decide, by decide⟩, ?_⟩
          walk_at "dgo"
          exact hR _ ⟨i + 1, _, _, _, _, by omega, rfl⟩
        · walk_at "dgo"
          refine DL.s_mulI ⟨.inr (by decide), ?_⟩
          walk_at "dgo"
          refine DL.s_II ⟨by decide, ?_⟩
          walk_at "dgo"
          exact hR _ ⟨i + 1, _, _, _, _, by omega, rfl⟩
      · walk_at "dgo"
        exact hR _ ⟨i, j, k, l, _, i0, rfl⟩
    · walk_at "dgo"
      exact hR _ ⟨i, j, k, l, _, i0, rfl⟩
abbrev sd_law_letters : SpD := mkSp (fun a : Nat => [.tok, .int (a : Nat)]) (fun a => 1 ≤ a ∧ a ≤ 3) (fun a d => ∃ ls, d = .str ls ∧ okLetters ls ∧ ls.length ≤ a)
theorem ok_law_letters {P : Program} [PrF P] {w : World} {K : PySem.W.Frag} {mg : Str → Option Value} {base : Heap} (g : Gf K mg) : Ok P w K mg base "_law_letters" 2 ["state", "most"] sd_law_letters := by
  refine ok_mk (k := 1) g.d_law_letters sc_law_letters (fun ds Q E ⟨a, e, _⟩ => by rw [e]; rfl) (fun cdv A outer s H E m hr => ?_)
  have hu := hr.units
  have hu1 := Nat.lt_of_le_of_lt (Nat.add_le_add_left (by decide : 1 ≤ 64) _) hu
  have sc := sc_law_letters
  refine ⟨_, (pdss_cons (pds_set (i := 2) sc.nd rfl (Or.inl rfl) (pd_str [97, 98, 99, 100, 101, 102, 103, 104, 105, 106, 107, 108, 109, 110, 111, 112, 113, 114, 115, 116, 117, 118, 119, 120, 121, 122])) (pdss_cons (pds_set (i := 3) sc.nd rfl (Or.inl rfl) (pd_bin o_add op_addU pd_int (pd_fn (ok_law_draw (P := P) g) hr (by decide) (pda_cons (pd_var 0) (pda_cons (pd_var 1) pda_nil))))) (pdss_cons (pds_set (i := 4) sc.nd rfl (Or.inl rfl) (pd_fn (ok_law_draw (P := P) g) hr (by decide) (pda_cons (pd_var 0) (pda_cons pd_int pda_nil)))) (pdss_cons (pds_set (i := 5) sc.nd rfl (Or.inl rfl) (pd_ixV hu1 (pv 2) (pd_var 4))) (pdss_cons (pds_for PassesOwn.never rfl (pdi_range1 (by rfl) g.b_range (pda_cons (pd_bin o_sub op_sub (pd_var 3) pd_int) pda_nil)) (pdg_name (i := 6) sc.nd rfl (Or.inl rfl)) (pdss_cons (pds_set (i := 4) sc.nd rfl (Or.inl rfl) (pd_bin o_add op_addU (pd_bin o_add op_addU (pd_var 4) pd_int) (pd_fn (ok_law_draw (P := P) g) hr (by decide) (pda_cons (pd_var 0) (pda_cons pd_int pda_nil))))) (pdss_one (pds_set (i := 5) sc.nd rfl (Or.inl rfl) (pd_bin o_add op_addU (pd_var 5) (pd_ixV hu1 (pv 2) (pd_var 4))))))) (pdss_one (pds_ret (pd_var 5)))))))), ?_⟩
  rintro ds Q E ⟨most, rfl, ⟨m1, m2⟩, hq⟩
  walk_at "dgo"
  refine ⟨(most : Int), rfl, ⟨by omega, by omega⟩, fun d ⟨v, e, v0, v1⟩ => ?_⟩
  subst e
  walk_at "dgo"
  refine ⟨8, rfl, ⟨by decide, by decide⟩, fun d ⟨a, e, a0, a1⟩ => ?_⟩
  subst e
  walk_at "dgo"
  obtain ⟨n, rfl⟩ := Int.eq_ofNat_of_zero_le a0
  refine DL.s_ixS (by simp) (atI_nat (small_at (by omega))) ?_
  walk_at "dgo"
  refine DL.s_for ?_
  walk_at "dgo"
  refine DL.s_rng1 ⟨by omega, by omega⟩ ?_
  refine ⟨fun i ρ => ∃ (n : Nat) (ls : List Nat) (x : SV), ρ = [some (false, .tok), some (false, .int (most : Nat)), some (false, .str [97, 98, 99, 100, 101, 102, 103, 104, 105, 106, 107, 108, 109, 110, 111, 112, 113, 114, 115, 116, 117, 118, 119, 120, 121, 122]), some (false, .int (1 + v)), some (false, .int (n : Nat)), some (false, .str ls), x] ∧
    n < 8 * (i + 1) ∧ ls.length = i + 1 ∧ ls.Pairwise (· < ·) ∧ ∀ c ∈ ls, 97 ≤ c ∧ c ≤ 97 + n, ⟨n, [97 + n], none, rfl, by omega, rfl, by simp, by simp⟩, fun i d ρ e ⟨n, ls, x, eρ, g1, g2, g3, g4⟩ => ?_, fun ρ ⟨n, ls, x, eρ, g1, g2, g3, g4⟩ => ?_⟩
  · subst eρ
    obtain ⟨hi, rfl⟩ := rangeD_get e
    walk_at "dgo"
    refine ⟨8, rfl, ⟨by decide, by decide⟩, fun d ⟨b, e, b0, b1⟩ => ?_⟩
    subst e
    obtain ⟨k, rfl⟩ := Int.eq_ofNat_of_zero_le b0
    walk_at "dgo"
    have lt26 : n + 1 + k < 26 := by omega
    have at0 := atI_nat (small_at lt26)
    rw [show ((n + 1 + k : Nat) : Int) = (n : Int) + 1 + (k : Nat) by omega] at at0
    refine DL.s_ixS (by simp) at0 ?_
    refine DL.s_addS ⟨by simp; omega, ?_⟩
    walk_at "dgo"
    refine ⟨n + 1 + k, ls ++ [97 + (n + 1 + k)], _, rfl, by omega, by simp [g2], ?_, ?_⟩
    · rw [List.pairwise_append]
      refine ⟨g3, by simp, fun a ha b hb => ?_⟩
      rw [List.mem_singleton] at hb
      have := (g4 a ha).2
      omega
    · intro c hc
      rcases List.mem_append.mp hc with hc | hc
      · have := g4 c hc; omega
      · rw [List.mem_singleton] at hc; omega
  · subst eρ
    rw [rangeD_len] at g1 g2
    walk_at "dgo"
    refine hq _ ⟨ls, rfl, ⟨by omega, by omega, g3, fun c hc => ?_⟩, by omega⟩
    have := g4 c hc
    omega
abbrev sd_law_word : SpD := mkSp (fun a : List Nat × Nat => [.tok, .str a.1, .int (a.2 : Nat)]) (fun a => 1 ≤ a.1.length ∧ a.1.length ≤ 1000 ∧ a.2 ≤ 1000) (fun a d => ∃ w, d = .str w ∧ w.length ≤ a.2 ∧ ∀ c ∈ w, c ∈ a.1)
theorem ok_law_word {P : Program} [PrF P] {w : World} {K : PySem.W.Frag} {mg : Str → Option Value} {base : Heap} (g : Gf K mg) : Ok P w K mg base "_law_word" 2 ["state", "letters", "most"] sd_law_word := by
  refine ok_mk (k := 1) g.d_law_word sc_law_word (fun ds Q E ⟨a, e, _⟩ => by rw [e]; rfl) (fun cdv A outer s H E m hr => ?_)
  have hu := hr.units
  have hu1 := Nat.lt_of_le_of_lt (Nat.add_le_add_left (by decide : 1 ≤ 64) _) hu
  have sc := sc_law_word
  refine ⟨_, (pdss_cons (pds_set (i := 3) sc.nd rfl (Or.inl rfl) (pd_str [])) (pdss_cons (pds_for PassesOwn.never rfl (pdi_range1 (by rfl) g.b_range (pda_cons (pd_fn (ok_law_draw (P := P) g) hr (by decide) (pda_cons (pd_var 0) (pda_cons (pd_bin o_add op_addU (pd_var 2) pd_int) pda_nil))) pda_nil)) (pdg_name (i := 4) sc.nd rfl (Or.inl rfl)) (pdss_one (pds_set (i := 3) sc.nd rfl (Or.inl rfl) (pd_bin o_add op_addU (pd_var 3) (pd_ixV hu1 (pv 1) (pd_fn (ok_law_draw (P := P) g) hr (by decide) (pda_cons (pd_var 0) (pda_cons (pd_len (pq_var 1) rfl (by rfl) g.b_len) pda_nil)))))))) (pdss_one (pds_ret (pd_var 3))))), ?_⟩
  rintro ds Q E ⟨⟨ls, most⟩, rfl, ⟨h1, h2, h3⟩, hq⟩
  dsimp only at h1 h2 h3 hq
  walk_at "dgo"
  refine DL.s_for ?_
  walk_at "dgo"
  refine ⟨(most : Int) + 1, rfl, ⟨by omega, by omega⟩, fun d ⟨v, e, v0, v1⟩ => ?_⟩
  subst e
  walk_at "dgo"
  refine DL.s_rng1 ⟨by omega, by omega⟩ ?_
  refine ⟨fun i ρ => ∃ (w : List Nat) (x : SV), ρ = [some (false, .tok), some (false, .str ls), some (false, .int (most : Nat)), some (false, .str w), x] ∧ w.length = i ∧ ∀ c ∈ w, c ∈ ls, ⟨[], none, rfl, rfl, by simp⟩, fun i d ρ e ⟨w, x, eρ, g1, g2⟩ => ?_, fun ρ ⟨w, x, eρ, g1, g2⟩ => ?_⟩
  · subst eρ
    obtain ⟨hi, rfl⟩ := rangeD_get e
    walk_at "dgo"
    refine ⟨(ls.length : Int), rfl, ⟨by omega, by omega⟩, fun d ⟨b, e, b0, b1⟩ => ?_⟩
    subst e
    obtain ⟨k, rfl⟩ := Int.eq_ofNat_of_zero_le b0
    have lt : k < ls.length := by omega
    walk_at "dgo"
    refine DL.s_ixS (by omega) (atI_nat (List.getElem?_eq_getElem lt)) ?_
    refine DL.s_addS ⟨by simp; omega, ?_⟩
    walk_at "dgo"
    refine ⟨w ++ [ls[k]], _, rfl, by simp [g1], fun c hc => ?_⟩
    rcases List.mem_append.mp hc with hc | hc
    · exact g2 c hc
    · rw [List.mem_singleton] at hc
      rw [hc]; exact List.getElem_mem lt
  · subst eρ
    rw [rangeD_len] at g1
    walk_at "dgo"
    exact hq _ ⟨w, rfl, by omega, g2⟩
def plainD : Nat → D → Bool
  | _, .non => true | _, .bl _ => true | _, .int _ => true | _, .str _ => true
  | n + 1, .lst ds => decide (ds.length ≤ 16000) && ds.all (plainD n)
  | n + 1, .tup ds => decide (ds.length ≤ 16000) && ds.all (plainD n)
  | _, _ => false
abbrev sd_law_same (n : Nat) : SpD := mkSp (fun d : D => [d, d]) (fun d => plainD n d = true) (fun _ d => d = .bl true)
abbrev sr_law_same : Nat → SpD
  | 0 => sdNever
  | n + 1 => sd_law_same n
theorem plain_lst {n : Nat} {l : List D} (h : l.length ≤ 16000) (k : ∀ d ∈ l, plainD n d = true) : plainD (n + 1) (.lst l) = true := by
  rw [plainD, Bool.and_eq_true]
  exact ⟨decide_eq_true h, List.all_eq_true.mpr k⟩
theorem plain_tup {n : Nat} {l : List D} (h : l.length ≤ 16000) (k : ∀ d ∈ l, plainD n d = true) : plainD (n + 1) (.tup l) = true := by
  rw [plainD, Bool.and_eq_true]
  exact ⟨decide_eq_true h, List.all_eq_true.mpr k⟩
theorem plain_str {n : Nat} (x : List Nat) : plainD n (.str x) = true := by cases n <;> rfl
theorem plain_int {n : Nat} (x : Int) : plainD n (.int x) = true := by cases n <;> rfl
theorem plain_bl {n : Nat} (x : Bool) : plainD n (.bl x) = true := by cases n <;> rfl
theorem plain_non {n : Nat} : plainD n .non = true := by cases n <;> rfl
theorem plain_strs {n : Nat} {l : List (List Nat)} (h : l.length ≤ 16000) : plainD (n + 1) (.lst (l.map D.str)) = true :=
  plain_lst (by rw [List.length_map]; exact h) fun d hd => by
    obtain ⟨w, _, rfl⟩ := List.mem_map.mp hd
    exact plain_str w
theorem okr_law_same {P : Program} [PrF P] {w : World} {K : PySem.W.Frag} {mg : Str → Option Value} {base : Heap} (g : Gf K mg) (n : Nat) (IH : Ok P w K mg base "_law_same" (n + 1) ["actual", "expected"] (sr_law_same n)) : Ok P w K mg base "_law_same" (n + 2) ["actual", "expected"] (sd_law_same n) := by
  refine ok_mk (k := n + 1) g.d_law_same sc_law_same (fun ds Q E ⟨a, e, _⟩ => by rw [e]; rfl) (fun cdv A outer s H E m hr => ?_)
  have hu := hr.units
  have hu1 := Nat.lt_of_le_of_lt (Nat.add_le_add_left (by decide : 1 ≤ 64) _) hu
  have sc := sc_law_same
  refine ⟨_, (pdss_cons (pds_if (pdt_cmp o_is op_isN (pd_var 1) pd_non (nomark _)) (pdss_one (pds_ret (pd_cmp o_is op_isN (pd_var 0) pd_non (nomark _)))) pdss_nil) (pdss_cons (pds_if (pdt_tru (PD.pq (pd_isi ist_bool (pq_var 1) rfl (by rfl) g.b_isinstance (by rfl) g.b_bool boot_bool))) (pdss_one (pds_ret (pd_and (pd_isi ist_bool (pq_var 0) rfl (by rfl) g.b_isinstance (by rfl) g.b_bool boot_bool) (pd_one (pd_cmp o_eq (op_eqU hu) (pd_var 0) (pd_var 1) (nomark _)))))) pdss_nil) (pdss_cons (pds_if (pdt_tru (PD.pq (pd_isi ist_int (pq_var 1) rfl (by rfl) g.b_isinstance (by rfl) g.b_int boot_int))) (pdss_one (pds_ret (pd_and (pd_isi ist_int (pq_var 0) rfl (by rfl) g.b_isinstance (by rfl) g.b_int boot_int) (pd_and (pd_not (pd_isi ist_bool (pq_var 0) rfl (by rfl) g.b_isinstance (by rfl) g.b_bool boot_bool)) (pd_one (pd_cmp o_eq (op_eqU hu) (pd_var 0) (pd_var 1) (nomark _))))))) pdss_nil) (pdss_cons (pds_if (pdt_tru (PD.pq (pd_isi ist_str (pq_var 1) rfl (by rfl) g.b_isinstance (by rfl) g.b_str boot_str))) (pdss_one (pds_ret (pd_and (pd_isi ist_str (pq_var 0) rfl (by rfl) g.b_isinstance (by rfl) g.b_str boot_str) (pd_one (pd_cmp o_eq (op_eqU hu) (pd_var 0) (pd_var 1) (nomark _)))))) pdss_nil) (pdss_cons (pds_if ((pdw_and (pdt_tru (PD.pq (pd_isi ist_list (pq_var 1) rfl (by rfl) g.b_isinstance (by rfl) g.b_list boot_list))) (pdw_and1 (pdt_not (pdt_tru (PD.pq (pd_isi ist_list (pq_var 0) rfl (by rfl) g.b_isinstance (by rfl) g.b_list boot_list))))))).pt (pdss_one (pds_ret pd_bl)) pdss_nil) (pdss_cons (pds_if ((pdw_and (pdt_tru (PD.pq (pd_isi ist_tuple (pq_var 1) rfl (by rfl) g.b_isinstance (by rfl) g.b_tuple boot_tuple))) (pdw_and1 (pdt_not (pdt_tru (PD.pq (pd_isi ist_tuple (pq_var 0) rfl (by rfl) g.b_isinstance (by rfl) g.b_tuple boot_tuple))))))).pt (pdss_one (pds_ret pd_bl)) pdss_nil) (pdss_cons (pds_if (pdt_cmp o_ne (op_neU hu) (pd_len (pq_var 0) rfl (by rfl) g.b_len) (pd_len (pq_var 1) rfl (by rfl) g.b_len) (nomark _)) (pdss_one (pds_ret pd_bl)) pdss_nil) (pdss_cons (pds_for PassesOwn.never rfl (pdi_range1 (by rfl) g.b_range (pda_cons (pd_len (pq_var 1) rfl (by rfl) g.b_len) pda_nil)) (pdg_name (i := 2) sc.nd rfl (Or.inl rfl)) (pdss_one (pds_if (pdt_not (pdt_tru (PD.pq (pd_fn IH hr (Nat.le_refl _) (pda_cons (pd_ixV hu1 (pv 0) (pd_var 2)) (pda_cons (pd_ixV hu1 (pv 1) (pd_var 2)) pda_nil)))))) (pdss_one (pds_ret pd_bl)) pdss_nil))) (pdss_one (pds_ret pd_bl)))))))))), ?_⟩
  rintro ds Q E ⟨d, rfl, hp, hq⟩
  cases d with
  | non =>
    walk_at "dgo"
    exact hq _ rfl
  | bl b =>
    walk_at "dgo"
    rw [dec_rfl']
    exact hq _ rfl
  | int i =>
    walk_at "dgo"
    rw [dec_rfl']
    exact hq _ rfl
  | str x =>
    walk_at "dgo"
    rw [dec_rfl']
    exact hq _ rfl
  | lst es =>
    cases n with
    | zero => cases hp
    | succ n =>
    rw [plainD, Bool.and_eq_true, decide_eq_true_eq] at hp
    obtain ⟨hl, ha⟩ := hp
    walk_at "dgo"
    rw [dec_rfl']
    walk_at "dgo"
    refine DL.s_for ?_
    walk_at "dgo"
    refine DL.s_rng1 ⟨by omega, by omega⟩ ?_
    refine ⟨fun i ρ => ∃ x, ρ = [some (false, .lst es), some (false, .lst es), x], ⟨_, rfl⟩, fun i d ρ e ⟨x, eρ⟩ => ?_, fun ρ ⟨x, eρ⟩ => ?_⟩
    · subst eρ
      obtain ⟨hi, rfl⟩ := rangeD_get e
      have lt : i < es.length := by omega
      have at0 : atI es ((0 : Int) + (i : Nat)) = some es[i] := by
        rw [show (0 : Int) + (i : Nat) = ((i : Nat) : Int) by omega]
        exact atI_nat (List.getElem?_eq_getElem lt)
      walk_at "dgo"
      refine DL.s_ixL at0 ?_
      walk_at "dgo"
      refine DL.s_ixL at0 ?_
      walk_at "dgo"
      refine ⟨es[i], rfl, List.all_eq_true.mp ha _ (List.getElem_mem lt), fun d e => ?_⟩
      subst e
      walk_at "dgo"
      exact ⟨_, rfl⟩
    · subst eρ
      walk_at "dgo"
      exact hq _ rfl
  | tup es =>
    cases n with
    | zero => cases hp
    | succ n =>
    rw [plainD, Bool.and_eq_true, decide_eq_true_eq] at hp
    obtain ⟨hl, ha⟩ := hp
    walk_at "dgo"
    rw [dec_rfl']
    walk_at "dgo"
    refine DL.s_for ?_
    walk_at "dgo"
    refine DL.s_rng1 ⟨by omega, by omega⟩ ?_
    refine ⟨fun i ρ => ∃ x, ρ = [some (false, .tup es), some (false, .tup es), x], ⟨_, rfl⟩, fun i d ρ e ⟨x, eρ⟩ => ?_, fun ρ ⟨x, eρ⟩ => ?_⟩
    · subst eρ
      obtain ⟨hi, rfl⟩ := rangeD_get e
      have lt : i < es.length := by omega
      have at0 : atI es ((0 : Int) + (i : Nat)) = some es[i] := by
        rw [show (0 : Int) + (i : Nat) = ((i : Nat) : Int) by omega]
        exact atI_nat (List.getElem?_eq_getElem lt)
      walk_at "dgo"
      refine DL.s_ixT at0 ?_
      walk_at "dgo"
      refine DL.s_ixT at0 ?_
      walk_at "dgo"
      refine ⟨es[i], rfl, List.all_eq_true.mp ha _ (List.getElem_mem lt), fun d e => ?_⟩
      subst e
      walk_at "dgo"
      exact ⟨_, rfl⟩
    · subst eρ
      walk_at "dgo"
      exact hq _ rfl
  | _ => cases n <;> cases hp
theorem ok_law_same {P : Program} [PrF P] {w : World} {K : PySem.W.Frag} {mg : Str → Option Value} {base : Heap} (g : Gf K mg) : Ok P w K mg base "_law_same" 4 ["actual", "expected"] (sd_law_same 2) :=
  okr_law_same g 2 (okr_law_same g 1 (okr_law_same g 0 (ok_never g.d_law_same sc_law_same)))
theorem fn_law_new {P : Program} {w : World} {K : PySem.W.Frag} {mg : Str → Option Value} {base : Heap} (g : Gf K mg) : FnN P w K mg base "_law_new" 1 ["script"] (spNew K) := by
  obtain ⟨fd, FD, hb⟩ := g.d_law_new.ex
  refine ⟨fd, FD.ok sc_law_new (fun vs H Q E h => by obtain ⟨a, ns, rfl, _⟩ := h; rfl) (fun cdv A outer s H vs Q E hr h => ?_), hb, g.d_law_new.gl, FD.kp⟩
  obtain ⟨a, ns, rfl, hS, hq⟩ := h
  refine ⟨_, PSs.nox (pss_one (ps_ret (pe_lst (pa_cons (pe_callT1 call_list_of rfl g.b_list boot_list (pv 0)) (pa_cons pe_int (pa_cons pe_int (pa_cons pe_int (pa_cons pe_int pa_nil)))))))), ?_⟩
  refine ⟨_, rfl, a, _, rfl, .inl hS, fun l hl => ?_⟩
  refine ⟨by rw [line16]; simp, fun p hp => ?_⟩
  have ne : p ≠ l := fun e => by subst e; rw [upd_same] at hp; cases hp
  exact hq l p hl (by rw [upd_ne ne] at hp; exact hp) ne
abbrev sd_next_place : SpD := mkSp (fun a : List Nat × Nat × Nat => [.str a.1, .str [a.2.1], .int (a.2.2 : Nat)]) (fun a => a.1.length ≤ 16777216) (fun a d => ∃ r, Nx a.1 a.2.1 a.2.2 r ∧ d = optD r)
theorem ok_next_place {P : Program} [PrF P] {w : World} {K : PySem.W.Frag} {mg : Str → Option Value} {base : Heap} (g : Gf K mg) : Ok P w K mg base "next_place" 1 ["word", "letter", "place"] sd_next_place := by
  refine ok_mk (k := 0) g.d_next_place sc_next_place (fun ds Q E ⟨a, e, _⟩ => by rw [e]; rfl) (fun cdv A outer s H E m hr => ?_)
  have hu := hr.units
  have hu1 := Nat.lt_of_le_of_lt (Nat.add_le_add_left (by decide : 1 ≤ 64) _) hu
  have sc := sc_next_place
  refine ⟨_, (pdss_cons (pds_set (i := 3) sc.nd rfl (Or.inl rfl) (pd_meth o_find3 (pd_var 0) (pda_cons (pd_var 1) (pda_cons (pd_var 2) pda_nil)) (pe_bm PySem.F.plainAttrs_str PySem.F.slot_str_find PySem.F.type_str_find mt_find3 ((pd_var 0)).pe ((pda_cons (pd_var 1) (pda_cons (pd_var 2) pda_nil))).pe))) (pdss_cons (pds_if (pdt_cmp o_lt op_ltU (pd_var 3) pd_int (nomark _)) (pdss_one (pds_ret pd_non)) pdss_nil) (pdss_one (pds_ret (pd_bin o_add op_addU (pd_var 3) pd_int))))), ?_⟩
  rintro ds Q E ⟨⟨w, c, p⟩, rfl, hw, hq⟩
  walk_at "dgo"
  rcases find3_nx w c p with ⟨e, h⟩ | ⟨k, e, h⟩
  · rw [e]
    walk_at "dif"
    · walk_at "dgo"
      exact hq _ ⟨none, h, rfl⟩
    · rename_i hb; simp at hb
  · rw [e]
    walk_at "dif"
    · rename_i hb; simp at hb; omega
    · walk_at "dgo"
      exact hq _ ⟨some (k + 1), h, rfl⟩
abbrev sd_last_place : SpD := mkSp (fun a : List Nat × Nat × Nat => [.str a.1, .str [a.2.1], .int (a.2.2 : Nat)]) (fun a => a.1.length ≤ 16777216) (fun a d => ∃ r, Lx a.1 a.2.1 a.2.2 r ∧ d = optD r)
theorem ok_last_place {P : Program} [PrF P] {w : World} {K : PySem.W.Frag} {mg : Str → Option Value} {base : Heap} (g : Gf K mg) : Ok P w K mg base "last_place" 1 ["word", "letter", "place"] sd_last_place := by
  refine ok_mk (k := 0) g.d_last_place sc_last_place (fun ds Q E ⟨a, e, _⟩ => by rw [e]; rfl) (fun cdv A outer s H E m hr => ?_)
  have hu := hr.units
  have hu1 := Nat.lt_of_le_of_lt (Nat.add_le_add_left (by decide : 1 ≤ 64) _) hu
  have sc := sc_last_place
  refine ⟨_, (pdss_cons (pds_set (i := 3) sc.nd rfl (Or.inl rfl) (pd_meth o_rfind (pd_slice (pd_var 0) pdo_none (pdo_some (pd_max2 rfl (pda_cons pd_int (pda_cons (pd_bin o_sub op_sub (pd_var 2) pd_int) pda_nil)) rfl (by rfl) g.b_max))) (pda_cons (pd_var 1) pda_nil) (pe_bm PySem.F.plainAttrs_str PySem.F.slot_str_rfind PySem.F.type_str_rfind mt_rfind ((pd_slice (pd_var 0) pdo_none (pdo_some (pd_max2 rfl (pda_cons pd_int (pda_cons (pd_bin o_sub op_sub (pd_var 2) pd_int) pda_nil)) rfl (by rfl) g.b_max)))).pe ((pda_cons (pd_var 1) pda_nil)).pe))) (pdss_cons (pds_if (pdt_cmp o_lt op_ltU (pd_var 3) pd_int (nomark _)) (pdss_one (pds_ret pd_non)) pdss_nil) (pdss_one (pds_ret (pd_bin o_add op_addU (pd_var 3) pd_int))))), ?_⟩
  rintro ds Q E ⟨⟨w, c, p⟩, rfl, hw, hq⟩
  walk_at "dgo"
  have e0 : (if ((p : Nat) : Int) - 1 > 0 then ((p : Nat) : Int) - 1 else 0) = ((p - 1 : Nat) : Int) := by split <;> omega
  rw [e0]
  refine DL.s_slS ⟨hw, ?_⟩
  rw [cut_take]
  walk_at "dgo"
  rcases rfind_lx w c p with ⟨e, h⟩ | ⟨k, e, h⟩
  · rw [e]
    walk_at "dif"
    · walk_at "dgo"
      exact hq _ ⟨none, h, rfl⟩
    · rename_i hb; simp at hb
  · rw [e]
    walk_at "dif"
    · rename_i hb; simp at hb; omega
    · walk_at "dgo"
      exact hq _ ⟨some (k + 1), h, rfl⟩
abbrev sd_contents : SpD := mkSp (fun a : List Nat × List Nat => [.str a.1]) (fun a => a.1.length < 4096 ∧ a.2.length < 64 ∧ ∀ c ∈ a.1, c ∈ a.2) (fun a d => ∃ cs : List Nat, d = .str cs ∧ cs.Pairwise (· < ·) ∧ ∀ c, c ∈ cs ↔ c ∈ a.1)
theorem ok_contents {P : Program} [PrF P] {w : World} {K : PySem.W.Frag} {mg : Str → Option Value} {base : Heap} (g : Gf K mg) : Ok P w K mg base "contents" 1 ["word"] sd_contents := by
  refine ok_mk (k := 0) g.d_contents sc_contents (fun ds Q E ⟨a, e, _⟩ => by rw [e]; rfl) (fun cdv A outer s H E m hr => ?_)
  have hu := hr.units
  have hu1 := Nat.lt_of_le_of_lt (Nat.add_le_add_left (by decide : 1 ≤ 64) _) hu
  have sc := sc_contents
  refine ⟨_, (pdss_one (pds_ret (pd_meth o_join (pd_str []) (pda_cons (pd_sortSet rfl (pd_var 0) rfl rfl (by rfl) g.b_sorted (by rfl) g.b_set) pda_nil) (pe_bm PySem.F.plainAttrs_str PySem.F.slot_str_join PySem.F.type_str_join mt_join ((pd_str [])).pe ((pda_cons (pd_sortSet rfl (pd_var 0) rfl rfl (by rfl) g.b_sorted (by rfl) g.b_set) pda_nil)).pe)))), ?_⟩
  rintro ds Q E ⟨⟨w, B⟩, rfl, ⟨h1, h2, h3⟩, hq⟩
  dsimp only at h1 h2 h3
  walk_at "dgo"
  refine ⟨w, B, rfl, h1, h2, h3, fun cs c1 c2 => ?_⟩
  walk_at "dgo"
  refine ⟨_, strsD_chars cs, ?_, ?_⟩
  · rw [flat_chars]
    have := nodup_len cs B (c1.imp fun {a b} h => Nat.ne_of_lt h) fun c hc => h3 c ((c2 c).mp hc)
    omega
  · rw [flat_chars]
    exact hq _ ⟨cs, rfl, c1, c2⟩
end W00
namespace W00
open PySem PySem.Spec L2 PyProof.Rows DL
open scoped List
local macro_rules | `(tactic| walk_at "d1") => `(tactic| with_reducible first
  | refine DL.s_seq ?_ | refine DL.s_asg ?_ | refine DL.s_gname ?_ | refine DL.s_gown ?_ | refine DL.s_ret ?_ | refine DL.s_retN ?_ | refine DL.s_drop ?_ | refine DL.s_ifs ?_ | refine DL.s_c ?_ | refine DL.s_op2 ?_ | refine DL.s_op1 ?_ | refine DL.s_nil ?_ | refine DL.s_cons ?_ | refine DL.s_next ?_
  | refine DL.s_call ?_ | refine DL.s_test ?_ | refine DL.s_truT ?_ | refine DL.s_and ?_ | refine DL.s_or ?_ | refine DL.s_not ?_ | refine DL.s_andV ?_ | refine DL.s_orV ?_ | refine DL.s_notV ?_ | refine DL.s_if ?_ | refine DL.s_lst ?_ | refine DL.s_tup ?_ | refine DL.s_slice ?_ | refine DL.s_nopart ?_ | refine DL.s_part ?_
  | refine DL.s_chain ?_ | refine DL.t_iany ?_ | refine DL.s_irng1 ?_ | refine DL.s_irng2 ?_ | refine DL.s_meth ?_ | refine DL.s_strT ?_ | refine DL.s_truB ?_ | refine DL.s_setF ?_ | refine DL.t_meth ?_ | refine DL.s_ienum ?_ | refine DL.s_enmS ?_ | refine DL.s_gcons ?_ | refine DL.s_gnil ?_ | refine DL.s_sort ?_ | refine DL.t_notinC ?_ | refine DL.t_inC ?_ | refine DL.s_itemS ?_ | refine DL.s_itemL ?_ | refine DL.s_addS ⟨by first | omega | (simp <;> omega), ?_⟩ | refine DL.s_lenS ⟨by omega, ?_⟩ | refine DL.s_ixS0 ?_ | refine DL.s_ixS1 ?_ | refine DL.s_ixT0 ?_ | refine DL.s_ixT1 ?_ | refine DL.s_max2 ?_ | refine DL.s_max2N ?_ | refine DL.s_find3 ?_ | refine DL.s_rfind ?_ | refine DL.s_set0 ?_ | refine DL.s_put ?_ | refine DL.s_fz ?_ | refine DL.s_make ?_ | refine DL.s_disp ?_ | refine DL.s_dpc ?_ | refine DL.s_dpn ?_ | refine DL.s_dict0 ?_ | refine DL.s_lcT2 ?_ | refine DL.s_lcT ?_ | refine DL.s_yes ?_
  | refine DL.s_addI ?_ | refine DL.s_I0 ?_ | refine DL.s_cmpI ?_ | refine DL.s_cmpS ?_ | refine DL.s_eqI ?_ | refine DL.s_neI ?_ | refine DL.s_eqB ?_ | refine DL.s_neB ?_ | refine DL.s_eqS ?_ | refine DL.s_neS ?_ | refine DL.s_isNon ?_ | refine DL.s_isnotNon ?_
  | refine DL.s_lenL ?_ | refine DL.s_lenT ?_ | refine DL.s_lenP ?_ | refine DL.s_intI ?_ | refine DL.s_intB ?_ | refine DL.s_listL ?_ | refine DL.s_listT ?_ | refine DL.s_tupL ?_ | refine DL.s_tupT ?_ | refine DL.s_raise ?_ | refine DL.s_mkE ?_ | refine DL.s_mk0 ?_ | refine DL.s_callX ?_ | refine DL.s_try ?_ | refine DL.s_ix0L ?_ | refine DL.s_ix1L ?_ | refine DL.s_neg ?_ | refine DL.s_listXL ?_ | refine DL.s_listXT ?_ | refine DL.s_step ?_ | refine DL.s_callB ?_ | refine DL.s_bnil ?_ | refine DL.s_bcons ?_ | refine DL.s_tab ?_ | refine DL.s_inTab ?_ | refine DL.s_inI ?_ | refine DL.s_seqO ?_)
local macro_rules | `(tactic| walk_at "d2") => `(tactic| first
  | ((with_reducible apply DL.s_var); exact rfl) | ((with_reducible apply DL.s_varO); exact rfl; rotate_left; exact rfl) | ((with_reducible apply DL.s_peek); exact rfl) | ((with_reducible apply DL.s_ixK); exact rfl) | ((with_reducible apply DL.s_ixJ); exact rfl; exact rfl)
  | ((with_reducible apply DL.s_ixV2); exact rfl) | ((with_reducible apply DL.s_ixV); exact ⟨_, rfl⟩) | ((with_reducible apply DL.s_isi); exact rfl) | ((with_reducible apply DL.s_isSome); exact rfl) | ((with_reducible apply DL.s_isnotSome); exact rfl) | ((with_reducible apply DL.s_gtup); exact rfl) | ((with_reducible apply DL.s_ixP); exact rfl) | ((with_reducible apply DL.s_setP); exact rfl; exact rfl) | ((with_reducible apply DL.s_retO); exact rfl))
local macro_rules | `(tactic| walk_at "dif") => `(tactic| with_reducible refine DL.s_ite (fun hb => ?_) (fun hb => ?_))
local macro_rules | `(tactic| walk_at "dgo") => `(tactic| repeat (first | walk_at "d1" | walk_at "d2" | (with_reducible refine DL.s_iteNT ?_) | (with_reducible refine DL.s_iteNF ?_) | (with_reducible refine DL.s_iteT ?_) | (with_reducible refine DL.s_iteF ?_) | dsimp only))
local macro_rules | `(tactic| walk_at "dgo1") => `(tactic| first | walk_at "d1" | walk_at "d2" | (with_reducible refine DL.s_iteNT ?_) | (with_reducible refine DL.s_iteNF ?_) | (with_reducible refine DL.s_iteT ?_) | (with_reducible refine DL.s_iteF ?_) | dsimp only)
local macro_rules | `(tactic| walk_at "dk") => `(tactic| repeat (first | walk_at "dgo1" | rw [dec_rfl'] | rw [dec_ne' _ (by decide)]))
local macro_rules | `(tactic| walk_at "nm") => `(tactic| simp only [List.map_cons, List.map_nil, List.set_cons_zero, List.set_cons_succ, List.cons_append, List.nil_append, List.length_cons, List.length_nil, List.replicate_succ, List.replicate_zero])
def BadAt (w ls : List Nat) (i : Nat) : Prop := (∃ c, w[i]? = some c ∧ c ∉ ls) ∧ ∀ j c, j < i → w[j]? = some c → c ∈ ls
def inL (w ls : List Nat) : Prop := ∀ c ∈ w, c ∈ ls
theorem BadAt.not {w ls : List Nat} {i : Nat} (h : BadAt w ls i) : ¬ inL w ls := fun k => by
  obtain ⟨⟨c, e, n⟩, _⟩ := h
  exact n (k c (List.mem_of_getElem? e))
theorem not_inL {w ls : List Nat} (h : ¬ inL w ls) : ∃ i, BadAt w ls i := by
  induction w with
  | nil => exact (h (by intro c hc; cases hc)).elim
  | cons a w ih =>
    by_cases e : a ∈ ls
    · have : ¬ inL w ls := fun k => h fun c hc => (List.mem_cons.mp hc).elim (fun z => z ▸ e) (k c)
      obtain ⟨i, ⟨c, h1, h2⟩, h3⟩ := ih this
      refine ⟨i + 1, ⟨c, h1, h2⟩, fun j c hj hc => ?_⟩
      cases j with
      | zero => cases hc; exact e
      | succ j => exact h3 j c (by omega) hc
    · exact ⟨0, ⟨a, rfl, e⟩, fun j _ hj => absurd hj (Nat.not_lt_zero _)⟩
theorem BadAt.uniq {w ls : List Nat} {i j : Nat} (h : BadAt w ls i) (k : BadAt w ls j) : i = j := by
  obtain ⟨⟨c, e, n⟩, h3⟩ := h
  obtain ⟨⟨c', e', n'⟩, h3'⟩ := k
  rcases Nat.lt_trichotomy i j with z | z | z
  · exact (n (h3' i c z e)).elim
  · exact z
  · exact (n' (h3 j c' z e')).elim
def Srt (ls : List Nat) (i : Nat) (l : List Nat) : Prop := (ls.take i).Pairwise (· < ·) ∧ l = if i = 0 then [] else (ls[i - 1]?).toList
theorem srt_next {ls : List Nat} {i c : Nat} {l : List Nat} (h : Srt ls i l) (e : ls[i]? = some c) : (l < [c] ↔ (ls.take (i + 1)).Pairwise (· < ·)) ∧ Srt ls (i + 1) [c] = (ls.take (i + 1)).Pairwise (· < ·) := by
  obtain ⟨h1, h2⟩ := h
  have lt := (List.getElem?_eq_some_iff.mp e).1
  have e2 : Srt ls (i + 1) [c] = (ls.take (i + 1)).Pairwise (· < ·) := by
    unfold Srt
    rw [if_neg (by omega), Nat.add_sub_cancel, e]
    simp
  refine ⟨?_, e2⟩
  rw [List.take_add_one, e, List.pairwise_append]
  constructor
  · intro k
    refine ⟨h1, by simp, fun a ha b hb => ?_⟩
    obtain rfl : b = c := by simpa using hb
    by_cases z : i = 0
    · subst z; simp at ha
    · rw [if_neg z] at h2
      have e3 : ls[i - 1]? = some ls[i - 1] := List.getElem?_eq_getElem (by omega)
      rw [e3] at h2
      subst h2
      have l0 : ls[i - 1] < b := sing_lt.mp k
      obtain ⟨m, hm, em⟩ := List.getElem_of_mem ha
      rw [List.length_take] at hm
      rw [List.getElem_take] at em
      by_cases q : m = i - 1
      · subst q; omega
      · have := List.pairwise_iff_getElem.mp h1 m (i - 1) (by rw [List.length_take]; omega) (by rw [List.length_take]; omega) (by omega)
        rw [List.getElem_take, List.getElem_take] at this
        omega
  · intro k
    by_cases z : i = 0
    · rw [if_pos z] at h2; rw [h2]; exact List.Lex.nil
    · rw [if_neg z] at h2
      have e3 : ls[i - 1]? = some ls[i - 1] := List.getElem?_eq_getElem (by omega)
      rw [e3] at h2
      subst h2
      refine sing_lt.mpr (k.2.2 _ ?_ _ (by simp))
      rw [List.mem_iff_getElem]
      exact ⟨i - 1, by rw [List.length_take]; omega, by rw [List.getElem_take]⟩
theorem srt_len {ls l : List Nat} (h : Srt ls ls.length l) : ls.Pairwise (· < ·) := by
  have := h.1
  rwa [List.take_length] at this
theorem srt_not {ls : List Nat} {i : Nat} (h : ¬ (ls.take i).Pairwise (· < ·)) : ¬ ls.Pairwise (· < ·) := fun k => h (k.sublist (List.take_sublist _ _))
theorem str_lt_dec {l : List Nat} {c : Nat} {b : Bool} : decide (l < [c]) = b ↔ (l < [c] ↔ b = true) := by
  cases b <;> simp
theorem mem_small {c : Nat} : c ∈ [97, 98, 99, 100, 101, 102, 103, 104, 105, 106, 107, 108, 109, 110, 111, 112, 113, 114, 115, 116, 117, 118, 119, 120, 121, 122] ↔ 97 ≤ c ∧ c ≤ 122 := by
  simp only [List.mem_cons, List.not_mem_nil, or_false]
  omega
abbrev sd_check_letters (C : Addr) : SpD := mkSpX (fun ls : List Nat => [.str ls]) (fun ls => ls.length ≤ 1000) (fun ls d => okLetters ls ∧ d = .str ls) (fun ls C' ns vs => ¬ okLetters ls ∧ C' = C ∧ ns = [] ∧ vs = [])
theorem okx_check_letters {P : Program} [PrF P] {w : World} {K : PySem.W.Frag} {mg : Str → Option Value} {base : Heap} (g : Gf K mg) : OkX P w K mg base "check_letters" 1 ["letters"] (sd_check_letters (He.ga K "LettersError")) := by
  refine okX_mk (k := 0) g.d_check_letters sc_check_letters (fun ds Q E ⟨a, e, _⟩ => by rw [e]; rfl) (fun X m wd cdv A outer s H E hX hr tk hp => ?_)
  subst hX
  have hu := hr.units
  have hu1 := Nat.lt_of_le_of_lt (Nat.add_le_add_left (by decide : 1 ≤ 64) _) hu
  have sc := sc_check_letters
  refine ⟨_, (pdss_cons (pds_if (pdt_not (pdt_chain o_le o_le op_leU op_leU pd_int (pd_len (pq_var 0) rfl (by rfl) g.b_len) (pd_cint g.k_MOST_LETTERS))) (pdss_one (pds_raise rfl tk (pdm_text g.x0_LettersError))) pdss_nil) (pdss_cons (pds_set (i := 1) sc.nd rfl (Or.inl rfl) (pd_str [])) (pdss_cons (pds_for hp rfl (pdi_any (pd_var 0)) (pdg_name (i := 2) sc.nd rfl (Or.inl rfl)) (pdss_cons (pds_if ((pdw_or (pdt_cmpq o_notIn (op_notInU hu1) (pd_var 2) (PD.pq (pd_cstr [97, 98, 99, 100, 101, 102, 103, 104, 105, 106, 107, 108, 109, 110, 111, 112, 113, 114, 115, 116, 117, 118, 119, 120, 121, 122] g.k_SMALL)) (by rfl)) (pdw_or1 (pdt_cmp o_le op_leU (pd_var 2) (pd_var 1) (nomark _))))).pt (pdss_one (pds_raise rfl tk (pdm_text g.x0_LettersError))) pdss_nil) (pdss_one (pds_set (i := 1) sc.nd rfl (Or.inl rfl) (pd_var 2))))) (pdss_one (pds_ret (pd_var 0)))))), ?_⟩
  rintro ds Q XE hX ⟨ls, rfl, hl, hq, hx⟩
  have raise : ¬ okLetters ls → ∀ ρ, wd (He.ga K "LettersError") [] [] ρ := fun h ρ => hX _ _ _ _ (hx _ _ _ ⟨h, rfl, rfl, rfl⟩)
  walk_at "dgo"
  by_cases h1 : 1 ≤ ls.length
  · rw [show decide ((1 : Int) ≤ (ls.length : Int)) = true from decide_eq_true (by omega)]
    walk_at "dgo"
    by_cases h2 : ls.length ≤ 3
    · rw [show decide ((ls.length : Int) ≤ (3 : Int)) = true from decide_eq_true (by omega)]
      walk_at "dgo"
      refine DL.s_for ?_
      walk_at "dgo"
      refine ⟨fun i ρ => ∃ l x, ρ = [some (false, .str ls), some (false, .str l), x] ∧ Srt ls i l ∧ ∀ c ∈ ls.take i, 97 ≤ c ∧ c ≤ 122, ⟨[], _, rfl, ⟨by simp, rfl⟩, by simp⟩, fun i d ρ e ⟨l, x, eρ, hS, hR⟩ => ?_, fun ρ ⟨l, x, eρ, hS, hR⟩ => ?_⟩
      · subst eρ
        obtain ⟨c, hc, rfl⟩ := chars_get e
        obtain ⟨n1, n2⟩ := srt_next hS hc
        walk_at "dgo"
        by_cases r97 : 97 ≤ c ∧ c ≤ 122
        · rw [show (!decide (c ∈ [97, 98, 99, 100, 101, 102, 103, 104, 105, 106, 107, 108, 109, 110, 111, 112, 113, 114, 115, 116, 117, 118, 119, 120, 121, 122])) = false by rw [decide_eq_true (mem_small.mpr r97)]; rfl]
          walk_at "dgo"
          by_cases lt : l < [c]
          · rw [decide_eq_true lt]
            walk_at "dgo"
            refine ⟨[c], _, rfl, by rw [n2]; exact n1.mp lt, fun a ha => ?_⟩
            rw [take_snoc hc] at ha
            rcases List.mem_append.mp ha with ha | ha
            · exact hR a ha
            · rw [List.mem_singleton] at ha; rw [ha]; exact r97
          · rw [decide_eq_false lt]
            walk_at "dgo"
            exact raise (fun k => srt_not (fun z => lt (n1.mpr z)) k.2.2.1) _
        · rw [show (!decide (c ∈ [97, 98, 99, 100, 101, 102, 103, 104, 105, 106, 107, 108, 109, 110, 111, 112, 113, 114, 115, 116, 117, 118, 119, 120, 121, 122])) = true by rw [decide_eq_false (fun z => r97 (mem_small.mp z))]; rfl]
          walk_at "dgo"
          exact raise (fun k => r97 (k.2.2.2 c (List.mem_of_getElem? hc))) _
      · subst eρ
        rw [List.length_map] at hS hR
        rw [List.take_length] at hR
        walk_at "dgo"
        exact hq _ ⟨⟨h1, h2, srt_len hS, hR⟩, rfl⟩
    · rw [show decide ((ls.length : Int) ≤ (3 : Int)) = false from decide_eq_false (by omega)]
      walk_at "dgo"
      exact raise (fun k => h2 k.2.1) _
  · rw [show decide ((1 : Int) ≤ (ls.length : Int)) = false from decide_eq_false (by omega)]
    walk_at "dgo"
    exact raise (fun k => h1 k.1) _
abbrev sd_check_word (C : Addr) : SpD := mkSpX (fun a : List Nat × List Nat => [.str a.1, .str a.2]) (fun _ => True) (fun a d => inL a.1 a.2 ∧ d = .str a.1) (fun a C' ns vs => ∃ i, BadAt a.1 a.2 i ∧ C' = C ∧ ns = [("index" : Str)] ∧ vs = [.int (i : Nat)])
theorem okx_check_word {P : Program} [PrF P] {w : World} {K : PySem.W.Frag} {mg : Str → Option Value} {base : Heap} (g : Gf K mg) : OkX P w K mg base "check_word" 3 ["word", "letters"] (sd_check_word (He.ga K "LetterError")) := by
  refine okX_mk (k := 2) g.d_check_word sc_check_word (fun ds Q E ⟨a, e, _⟩ => by rw [e]; rfl) (fun X m wd cdv A outer s H E hX hr tk hp => ?_)
  subst hX
  have hu := hr.units
  have hu1 := Nat.lt_of_le_of_lt (Nat.add_le_add_left (by decide : 1 ≤ 64) _) hu
  have sc := sc_check_word
  refine ⟨_, (pdss_cons (pds_for hp rfl (pdi_enumerate1 (by rfl) g.b_enumerate (pda_cons (pd_var 0) pda_nil)) (pdg_tup rfl (pdgs_cons (pdg_name (i := 2) sc.nd rfl (Or.inl rfl)) (pdgs_cons (pdg_name (i := 3) sc.nd rfl (Or.inl rfl)) pdgs_nil))) (pdss_one (pds_if (pdt_cmpq o_notIn (op_notInU hu1) (pd_var 3) (pq_var 1) (by rfl)) (pdss_one (pds_raise rfl tk (pdm_ex (oke_LetterError (P := P) g) hr (by decide) (pd_var 2)))) pdss_nil))) (pdss_one (pds_ret (pd_var 0)))), ?_⟩
  rintro ds Q XE hX ⟨⟨w, ls⟩, rfl, h1, hq, hx⟩
  dsimp only at hq hx
  have raise : ∀ i, BadAt w ls i → ∀ ρ, wd (He.ga K "LetterError") ["index"] [.int (i : Nat)] ρ := fun i h ρ => hX _ _ _ _ (hx _ _ _ ⟨i, h, rfl, rfl, rfl⟩)
  refine DL.s_seq ?_
  refine DL.s_for ?_
  walk_at "dgo"
  refine ⟨fun i ρ => ∃ x y, ρ = [some (false, .str w), some (false, .str ls), x, y] ∧ ∀ j c, j < i → w[j]? = some c → c ∈ ls, ⟨_, _, rfl, fun j _ hj => absurd hj (Nat.not_lt_zero _)⟩, fun i d ρ e ⟨x, y, eρ, hR⟩ => ?_, fun ρ ⟨x, y, eρ, hR⟩ => ?_⟩
  · subst eρ
    obtain ⟨c, hc, rfl⟩ := enumD_get e
    walk_at "dgo"
    by_cases hm : c ∈ ls
    · rw [show (!decide (c ∈ ls)) = false by rw [decide_eq_true hm]; rfl]
      walk_at "dgo"
      refine ⟨_, _, rfl, fun j c' hj hc' => ?_⟩
      by_cases z : j = i
      · subst z; rw [hc] at hc'; cases hc'; exact hm
      · exact hR j c' (by omega) hc'
    · rw [show (!decide (c ∈ ls)) = true by rw [decide_eq_false hm]; rfl]
      walk_at "dgo"
      exact raise i ⟨⟨c, hc, hm⟩, hR⟩ _
  · subst eρ
    rw [enumD_len, List.length_map] at hR
    walk_at "dgo"
    refine hq _ ⟨fun c hc => ?_, rfl⟩
    obtain ⟨j, hj, e⟩ := List.getElem_of_mem hc
    exact hR j c hj (by rw [List.getElem?_eq_getElem hj, e])
local macro_rules | `(tactic| walk_at "dcl") => `(tactic| repeat (first | walk_at "d1" | (with_reducible refine DL.s_addL ⟨by simp, ?_⟩) | walk_at "d2" | (with_reducible refine ⟨by simp, ?_⟩) | dsimp only))
structure Ki (K : PySem.W.Frag) (C : Addr) (f : Nat → Bool) : Prop where
  h0 : PySem.W.kitOne K (.ref C) (.type "ValueError") = some (f 0)
  h1 : PySem.W.kitOne K (.ref C) (.ref (He.ga K "ToolError")) = some (f 1)
  h2 : PySem.W.kitOne K (.ref C) (.ref (He.ga K "LettersError")) = some (f 2)
  h3 : PySem.W.kitOne K (.ref C) (.ref (He.ga K "MixedLetters")) = some (f 3)
  h4 : PySem.W.kitOne K (.ref C) (.ref (He.ga K "TableError")) = some (f 4)
  h5 : PySem.W.kitOne K (.ref C) (.ref (He.ga K "ActionError")) = some (f 5)
  h6 : PySem.W.kitOne K (.ref C) (.ref (He.ga K "LassoError")) = some (f 6)
  h7 : PySem.W.kitOne K (.ref C) (.ref (He.ga K "LetterError")) = some (f 7)
  h8 : PySem.W.kitOne K (.ref C) (.ref (He.ga K "StateError")) = some (f 8)
  h9 : PySem.W.kitOne K (.ref C) (.ref (He.ga K "RowError")) = some (f 9)
  h10 : PySem.W.kitOne K (.ref C) (.ref (He.ga K "NotStarFree")) = some (f 10)
  h11 : PySem.W.kitOne K (.ref C) (.ref (He.ga K "TextError")) = some (f 11)
  h12 : PySem.W.kitOne K (.ref C) (.ref (He.ga K "NameFault")) = some (f 12)
  h13 : PySem.W.kitOne K (.ref C) (.ref (He.ga K "LineError")) = some (f 13)
  h14 : PySem.W.kitOne K (.ref C) (.ref (He.ga K "CountsError")) = some (f 14)
  h15 : PySem.W.kitOne K (.ref C) (.ref (He.ga K "LimitError")) = some (f 15)
  h16 : PySem.W.kitOne K (.ref C) (.ref (He.ga K "TooManyStates")) = some (f 16)
  h17 : PySem.W.kitOne K (.ref C) (.ref (He.ga K "TooManyActions")) = some (f 17)
  h18 : PySem.W.kitOne K (.ref C) (.ref (He.ga K "TooManyRows")) = some (f 18)
  h19 : PySem.W.kitOne K (.ref C) (.ref (He.ga K "ClashError")) = some (f 19)
  h20 : PySem.W.kitOne K (.ref C) (.ref (He.ga K "BreakError")) = some (f 20)
abbrev clsNames : List D := [.str [86, 97, 108, 117, 101, 69, 114, 114, 111, 114], .str [84, 111, 111, 108, 69, 114, 114, 111, 114], .str [76, 101, 116, 116, 101, 114, 115, 69, 114, 114, 111, 114], .str [77, 105, 120, 101, 100, 76, 101, 116, 116, 101, 114, 115], .str [84, 97, 98, 108, 101, 69, 114, 114, 111, 114], .str [65, 99, 116, 105, 111, 110, 69, 114, 114, 111, 114], .str [76, 97, 115, 115, 111, 69, 114, 114, 111, 114]] ++ [.str [76, 101, 116, 116, 101, 114, 69, 114, 114, 111, 114], .str [83, 116, 97, 116, 101, 69, 114, 114, 111, 114], .str [82, 111, 119, 69, 114, 114, 111, 114], .str [78, 111, 116, 83, 116, 97, 114, 70, 114, 101, 101], .str [84, 101, 120, 116, 69, 114, 114, 111, 114], .str [78, 97, 109, 101, 70, 97, 117, 108, 116], .str [76, 105, 110, 101, 69, 114, 114, 111, 114]] ++ [.str [67, 111, 117, 110, 116, 115, 69, 114, 114, 111, 114], .str [76, 105, 109, 105, 116, 69, 114, 114, 111, 114], .str [84, 111, 111, 77, 97, 110, 121, 83, 116, 97, 116, 101, 115], .str [84, 111, 111, 77, 97, 110, 121, 65, 99, 116, 105, 111, 110, 115], .str [84, 111, 111, 77, 97, 110, 121, 82, 111, 119, 115], .str [67, 108, 97, 115, 104, 69, 114, 114, 111, 114], .str [66, 114, 101, 97, 107, 69, 114, 114, 111, 114]]
abbrev clsFl (f : Nat → Bool) : List Bool := [f 0, f 1, f 2, f 3, f 4, f 5, f 6, f 7, f 8, f 9, f 10, f 11, f 12, f 13, f 14, f 15, f 16, f 17, f 18, f 19, f 20]
abbrev sd_law_classes (K : PySem.W.Frag) : SdE := fun a C d => mkSp (fun x : List Str × List D × (Nat → Bool) => [.exc a d C x.1 x.2.1]) (fun x => Ki K C x.2.2) (fun x z => z = .lst (filtD clsNames (clsFl x.2.2)))
theorem okh_law_classes {P : Program} [PrF P] {w : World} {K : PySem.W.Frag} {mg : Str → Option Value} {base : Heap} (g : Gf K mg) : OkH P w K mg base "_law_classes" 1 ["e"] (sd_law_classes K) := by
  refine okH_mk (k := 0) g.d_law_classes sc_law_classes (fun a C d ds Q E ⟨a, e, _⟩ => by rw [e]; rfl) (fun X m cdv A outer s H E p C d hX hr hc hp hT hz hv => ?_)
  subst hX
  have hu := unitsH hr
  have hu1 := Nat.lt_of_le_of_lt (Nat.add_le_add_left (by decide : 1 ≤ 64) _) hu
  have sc := sc_law_classes
  refine ⟨_, (pdss_cons (pds_set (i := 1) sc.nd rfl (Or.inr rfl) (pd_lst (pda_cons (pd_str [86, 97, 108, 117, 101, 69, 114, 114, 111, 114]) (pda_cons (pd_str [84, 111, 111, 108, 69, 114, 114, 111, 114]) (pda_cons (pd_str [76, 101, 116, 116, 101, 114, 115, 69, 114, 114, 111, 114]) (pda_cons (pd_str [77, 105, 120, 101, 100, 76, 101, 116, 116, 101, 114, 115]) (pda_cons (pd_str [84, 97, 98, 108, 101, 69, 114, 114, 111, 114]) (pda_cons (pd_str [65, 99, 116, 105, 111, 110, 69, 114, 114, 111, 114]) (pda_cons (pd_str [76, 97, 115, 115, 111, 69, 114, 114, 111, 114]) pda_nil))))))))) (pdss_cons (pds_set (i := 2) sc.nd rfl (Or.inr rfl) (pd_lst (pda_cons (pd_isP (c := .ty "ValueError") (cv := .type "ValueError") hT hp hz hv (pv 0) (pe_bltn (v := .ty "ValueError") rfl g.b_ValueError boot_ValueError rfl) (fun _ r => r) rfl (by rfl) g.b_isinstance) (pda_cons (pd_isP (c := .ref (He.ga K "ToolError")) (cv := .ref (He.ga K "ToolError")) hT hp hz hv (pv 0) (pe_glob (v := .ref (He.ga K "ToolError")) rfl g.gl_ToolError rfl) (fun _ r => r) rfl (by rfl) g.b_isinstance) (pda_cons (pd_isP (c := .ref (He.ga K "LettersError")) (cv := .ref (He.ga K "LettersError")) hT hp hz hv (pv 0) (pe_glob (v := .ref (He.ga K "LettersError")) rfl g.gl_LettersError rfl) (fun _ r => r) rfl (by rfl) g.b_isinstance) pda_nil))))) (pdss_cons (pds_set (i := 2) sc.nd rfl (Or.inr rfl) (pd_bin o_add op_addU (pd_var 2) (pd_lst (pda_cons (pd_isP (c := .ref (He.ga K "MixedLetters")) (cv := .ref (He.ga K "MixedLetters")) hT hp hz hv (pv 0) (pe_glob (v := .ref (He.ga K "MixedLetters")) rfl g.gl_MixedLetters rfl) (fun _ r => r) rfl (by rfl) g.b_isinstance) (pda_cons (pd_isP (c := .ref (He.ga K "TableError")) (cv := .ref (He.ga K "TableError")) hT hp hz hv (pv 0) (pe_glob (v := .ref (He.ga K "TableError")) rfl g.gl_TableError rfl) (fun _ r => r) rfl (by rfl) g.b_isinstance) (pda_cons (pd_isP (c := .ref (He.ga K "ActionError")) (cv := .ref (He.ga K "ActionError")) hT hp hz hv (pv 0) (pe_glob (v := .ref (He.ga K "ActionError")) rfl g.gl_ActionError rfl) (fun _ r => r) rfl (by rfl) g.b_isinstance) pda_nil)))))) (pdss_cons (pds_set (i := 2) sc.nd rfl (Or.inr rfl) (pd_bin o_add op_addU (pd_var 2) (pd_lst (pda_cons (pd_isP (c := .ref (He.ga K "LassoError")) (cv := .ref (He.ga K "LassoError")) hT hp hz hv (pv 0) (pe_glob (v := .ref (He.ga K "LassoError")) rfl g.gl_LassoError rfl) (fun _ r => r) rfl (by rfl) g.b_isinstance) pda_nil)))) (pdss_cons (pds_set (i := 1) sc.nd rfl (Or.inr rfl) (pd_bin o_add op_addU (pd_var 1) (pd_lst (pda_cons (pd_str [76, 101, 116, 116, 101, 114, 69, 114, 114, 111, 114]) (pda_cons (pd_str [83, 116, 97, 116, 101, 69, 114, 114, 111, 114]) (pda_cons (pd_str [82, 111, 119, 69, 114, 114, 111, 114]) (pda_cons (pd_str [78, 111, 116, 83, 116, 97, 114, 70, 114, 101, 101]) (pda_cons (pd_str [84, 101, 120, 116, 69, 114, 114, 111, 114]) (pda_cons (pd_str [78, 97, 109, 101, 70, 97, 117, 108, 116]) (pda_cons (pd_str [76, 105, 110, 101, 69, 114, 114, 111, 114]) pda_nil)))))))))) (pdss_cons (pds_set (i := 2) sc.nd rfl (Or.inr rfl) (pd_bin o_add op_addU (pd_var 2) (pd_lst (pda_cons (pd_isP (c := .ref (He.ga K "LetterError")) (cv := .ref (He.ga K "LetterError")) hT hp hz hv (pv 0) (pe_glob (v := .ref (He.ga K "LetterError")) rfl g.gl_LetterError rfl) (fun _ r => r) rfl (by rfl) g.b_isinstance) (pda_cons (pd_isP (c := .ref (He.ga K "StateError")) (cv := .ref (He.ga K "StateError")) hT hp hz hv (pv 0) (pe_glob (v := .ref (He.ga K "StateError")) rfl g.gl_StateError rfl) (fun _ r => r) rfl (by rfl) g.b_isinstance) (pda_cons (pd_isP (c := .ref (He.ga K "RowError")) (cv := .ref (He.ga K "RowError")) hT hp hz hv (pv 0) (pe_glob (v := .ref (He.ga K "RowError")) rfl g.gl_RowError rfl) (fun _ r => r) rfl (by rfl) g.b_isinstance) pda_nil)))))) (pdss_cons (pds_set (i := 2) sc.nd rfl (Or.inr rfl) (pd_bin o_add op_addU (pd_var 2) (pd_lst (pda_cons (pd_isP (c := .ref (He.ga K "NotStarFree")) (cv := .ref (He.ga K "NotStarFree")) hT hp hz hv (pv 0) (pe_glob (v := .ref (He.ga K "NotStarFree")) rfl g.gl_NotStarFree rfl) (fun _ r => r) rfl (by rfl) g.b_isinstance) (pda_cons (pd_isP (c := .ref (He.ga K "TextError")) (cv := .ref (He.ga K "TextError")) hT hp hz hv (pv 0) (pe_glob (v := .ref (He.ga K "TextError")) rfl g.gl_TextError rfl) (fun _ r => r) rfl (by rfl) g.b_isinstance) (pda_cons (pd_isP (c := .ref (He.ga K "NameFault")) (cv := .ref (He.ga K "NameFault")) hT hp hz hv (pv 0) (pe_glob (v := .ref (He.ga K "NameFault")) rfl g.gl_NameFault rfl) (fun _ r => r) rfl (by rfl) g.b_isinstance) pda_nil)))))) (pdss_cons (pds_set (i := 2) sc.nd rfl (Or.inr rfl) (pd_bin o_add op_addU (pd_var 2) (pd_lst (pda_cons (pd_isP (c := .ref (He.ga K "LineError")) (cv := .ref (He.ga K "LineError")) hT hp hz hv (pv 0) (pe_glob (v := .ref (He.ga K "LineError")) rfl g.gl_LineError rfl) (fun _ r => r) rfl (by rfl) g.b_isinstance) pda_nil)))) (pdss_cons (pds_set (i := 1) sc.nd rfl (Or.inr rfl) (pd_bin o_add op_addU (pd_var 1) (pd_lst (pda_cons (pd_str [67, 111, 117, 110, 116, 115, 69, 114, 114, 111, 114]) (pda_cons (pd_str [76, 105, 109, 105, 116, 69, 114, 114, 111, 114]) (pda_cons (pd_str [84, 111, 111, 77, 97, 110, 121, 83, 116, 97, 116, 101, 115]) (pda_cons (pd_str [84, 111, 111, 77, 97, 110, 121, 65, 99, 116, 105, 111, 110, 115]) (pda_cons (pd_str [84, 111, 111, 77, 97, 110, 121, 82, 111, 119, 115]) (pda_cons (pd_str [67, 108, 97, 115, 104, 69, 114, 114, 111, 114]) (pda_cons (pd_str [66, 114, 101, 97, 107, 69, 114, 114, 111, 114]) pda_nil)))))))))) (pdss_cons (pds_set (i := 2) sc.nd rfl (Or.inr rfl) (pd_bin o_add op_addU (pd_var 2) (pd_lst (pda_cons (pd_isP (c := .ref (He.ga K "CountsError")) (cv := .ref (He.ga K "CountsError")) hT hp hz hv (pv 0) (pe_glob (v := .ref (He.ga K "CountsError")) rfl g.gl_CountsError rfl) (fun _ r => r) rfl (by rfl) g.b_isinstance) (pda_cons (pd_isP (c := .ref (He.ga K "LimitError")) (cv := .ref (He.ga K "LimitError")) hT hp hz hv (pv 0) (pe_glob (v := .ref (He.ga K "LimitError")) rfl g.gl_LimitError rfl) (fun _ r => r) rfl (by rfl) g.b_isinstance) (pda_cons (pd_isP (c := .ref (He.ga K "TooManyStates")) (cv := .ref (He.ga K "TooManyStates")) hT hp hz hv (pv 0) (pe_glob (v := .ref (He.ga K "TooManyStates")) rfl g.gl_TooManyStates rfl) (fun _ r => r) rfl (by rfl) g.b_isinstance) pda_nil)))))) (pdss_cons (pds_set (i := 2) sc.nd rfl (Or.inr rfl) (pd_bin o_add op_addU (pd_var 2) (pd_lst (pda_cons (pd_isP (c := .ref (He.ga K "TooManyActions")) (cv := .ref (He.ga K "TooManyActions")) hT hp hz hv (pv 0) (pe_glob (v := .ref (He.ga K "TooManyActions")) rfl g.gl_TooManyActions rfl) (fun _ r => r) rfl (by rfl) g.b_isinstance) (pda_cons (pd_isP (c := .ref (He.ga K "TooManyRows")) (cv := .ref (He.ga K "TooManyRows")) hT hp hz hv (pv 0) (pe_glob (v := .ref (He.ga K "TooManyRows")) rfl g.gl_TooManyRows rfl) (fun _ r => r) rfl (by rfl) g.b_isinstance) (pda_cons (pd_isP (c := .ref (He.ga K "ClashError")) (cv := .ref (He.ga K "ClashError")) hT hp hz hv (pv 0) (pe_glob (v := .ref (He.ga K "ClashError")) rfl g.gl_ClashError rfl) (fun _ r => r) rfl (by rfl) g.b_isinstance) (pda_cons (pd_isP (c := .ref (He.ga K "BreakError")) (cv := .ref (He.ga K "BreakError")) hT hp hz hv (pv 0) (pe_glob (v := .ref (He.ga K "BreakError")) rfl g.gl_BreakError rfl) (fun _ r => r) rfl (by rfl) g.b_isinstance) pda_nil))))))) (pdss_one (pds_ret (pd_lcH (own := [("k", 3)]) hc sc.nd (pdi_range1H (by rfl) g.b_range (pda_cons (pd_len (pq_var 1) rfl (by rfl) g.b_len) pda_nil)) (blkOk_by (N := ["e", "names", "flags", "k"]) (sc := defScope s_law_classes) (by decide +kernel)) (ctg_name (by decide)) (fun _ _ _ _ _ => pg_name (i := 3) sc.nd rfl (Or.inl rfl)) (fun _ _ _ _ _ _ => pdts_one (pdt_tru (PD.pq (pd_ixV hu1 (pv 2) (pd_var 3))))) (fun _ _ _ _ _ _ => (pd_ixV hu1 (pv 1) (pd_var 3))) s)))))))))))))), ?_⟩
  rintro ds Q E ⟨⟨ns, vs, f⟩, rfl, k, hq⟩
  dsimp only at hq k
  walk_at "dcl"
  refine s_isP rfl k.h0 ?_
  walk_at "dcl"
  refine s_isP rfl k.h1 ?_
  walk_at "dcl"
  refine s_isP rfl k.h2 ?_
  walk_at "dcl"
  refine s_isP rfl k.h3 ?_
  walk_at "dcl"
  refine s_isP rfl k.h4 ?_
  walk_at "dcl"
  refine s_isP rfl k.h5 ?_
  walk_at "dcl"
  refine s_isP rfl k.h6 ?_
  walk_at "dcl"
  refine s_isP rfl k.h7 ?_
  walk_at "dcl"
  refine s_isP rfl k.h8 ?_
  walk_at "dcl"
  refine s_isP rfl k.h9 ?_
  walk_at "dcl"
  refine s_isP rfl k.h10 ?_
  walk_at "dcl"
  refine s_isP rfl k.h11 ?_
  walk_at "dcl"
  refine s_isP rfl k.h12 ?_
  walk_at "dcl"
  refine s_isP rfl k.h13 ?_
  walk_at "dcl"
  refine s_isP rfl k.h14 ?_
  walk_at "dcl"
  refine s_isP rfl k.h15 ?_
  walk_at "dcl"
  refine s_isP rfl k.h16 ?_
  walk_at "dcl"
  refine s_isP rfl k.h17 ?_
  walk_at "dcl"
  refine s_isP rfl k.h18 ?_
  walk_at "dcl"
  refine s_isP rfl k.h19 ?_
  walk_at "dcl"
  refine s_isP rfl k.h20 ?_
  walk_at "dcl"
  refine s_flags (names := clsNames) (fl := clsFl f) rfl rfl (by decide) rfl ?_
  walk_at "dgo"
  exact hq _ rfl
def flLettersError (i : Nat) : Bool := decide (i = 0) || decide (i = 1) || decide (i = 2)
theorem ki_LettersError {K : PySem.W.Frag} {mg : Str → Option Value} (g : Gf K mg) : Ki K (He.ga K "LettersError") flLettersError := ⟨g.kit_LettersError_ValueError, g.kit_LettersError_ToolError, g.kit_LettersError_LettersError, g.kit_LettersError_MixedLetters, g.kit_LettersError_TableError, g.kit_LettersError_ActionError, g.kit_LettersError_LassoError, g.kit_LettersError_LetterError, g.kit_LettersError_StateError, g.kit_LettersError_RowError, g.kit_LettersError_NotStarFree, g.kit_LettersError_TextError, g.kit_LettersError_NameFault, g.kit_LettersError_LineError, g.kit_LettersError_CountsError, g.kit_LettersError_LimitError, g.kit_LettersError_TooManyStates, g.kit_LettersError_TooManyActions, g.kit_LettersError_TooManyRows, g.kit_LettersError_ClashError, g.kit_LettersError_BreakError⟩
abbrev clsLettersError : List D := [.str [86, 97, 108, 117, 101, 69, 114, 114, 111, 114], .str [84, 111, 111, 108, 69, 114, 114, 111, 114], .str [76, 101, 116, 116, 101, 114, 115, 69, 114, 114, 111, 114]]
theorem fil_LettersError : filtD clsNames (clsFl flLettersError) = clsLettersError := rfl
def flLetterError (i : Nat) : Bool := decide (i = 0) || decide (i = 1) || decide (i = 7)
theorem ki_LetterError {K : PySem.W.Frag} {mg : Str → Option Value} (g : Gf K mg) : Ki K (He.ga K "LetterError") flLetterError := ⟨g.kit_LetterError_ValueError, g.kit_LetterError_ToolError, g.kit_LetterError_LettersError, g.kit_LetterError_MixedLetters, g.kit_LetterError_TableError, g.kit_LetterError_ActionError, g.kit_LetterError_LassoError, g.kit_LetterError_LetterError, g.kit_LetterError_StateError, g.kit_LetterError_RowError, g.kit_LetterError_NotStarFree, g.kit_LetterError_TextError, g.kit_LetterError_NameFault, g.kit_LetterError_LineError, g.kit_LetterError_CountsError, g.kit_LetterError_LimitError, g.kit_LetterError_TooManyStates, g.kit_LetterError_TooManyActions, g.kit_LetterError_TooManyRows, g.kit_LetterError_ClashError, g.kit_LetterError_BreakError⟩
abbrev clsLetterError : List D := [.str [86, 97, 108, 117, 101, 69, 114, 114, 111, 114], .str [84, 111, 111, 108, 69, 114, 114, 111, 114], .str [76, 101, 116, 116, 101, 114, 69, 114, 114, 111, 114]]
theorem fil_LetterError : filtD clsNames (clsFl flLetterError) = clsLetterError := rfl
def flLimitError (i : Nat) : Bool := decide (i = 0) || decide (i = 1) || decide (i = 15)
theorem ki_LimitError {K : PySem.W.Frag} {mg : Str → Option Value} (g : Gf K mg) : Ki K (He.ga K "LimitError") flLimitError := ⟨g.kit_LimitError_ValueError, g.kit_LimitError_ToolError, g.kit_LimitError_LettersError, g.kit_LimitError_MixedLetters, g.kit_LimitError_TableError, g.kit_LimitError_ActionError, g.kit_LimitError_LassoError, g.kit_LimitError_LetterError, g.kit_LimitError_StateError, g.kit_LimitError_RowError, g.kit_LimitError_NotStarFree, g.kit_LimitError_TextError, g.kit_LimitError_NameFault, g.kit_LimitError_LineError, g.kit_LimitError_CountsError, g.kit_LimitError_LimitError, g.kit_LimitError_TooManyStates, g.kit_LimitError_TooManyActions, g.kit_LimitError_TooManyRows, g.kit_LimitError_ClashError, g.kit_LimitError_BreakError⟩
abbrev clsLimitError : List D := [.str [86, 97, 108, 117, 101, 69, 114, 114, 111, 114], .str [84, 111, 111, 108, 69, 114, 114, 111, 114], .str [76, 105, 109, 105, 116, 69, 114, 114, 111, 114]]
theorem fil_LimitError : filtD clsNames (clsFl flLimitError) = clsLimitError := rfl
end W00
namespace W00
open PySem PySem.Spec L2 PyProof.Rows DL
open scoped List
local macro_rules | `(tactic| walk_at "d1") => `(tactic| with_reducible first
  | refine DL.s_seq ?_ | refine DL.s_asg ?_ | refine DL.s_gname ?_ | refine DL.s_gown ?_ | refine DL.s_ret ?_ | refine DL.s_retN ?_ | refine DL.s_drop ?_ | refine DL.s_ifs ?_ | refine DL.s_c ?_ | refine DL.s_op2 ?_ | refine DL.s_op1 ?_ | refine DL.s_nil ?_ | refine DL.s_cons ?_ | refine DL.s_next ?_
  | refine DL.s_call ?_ | refine DL.s_test ?_ | refine DL.s_truT ?_ | refine DL.s_and ?_ | refine DL.s_or ?_ | refine DL.s_not ?_ | refine DL.s_andV ?_ | refine DL.s_orV ?_ | refine DL.s_notV ?_ | refine DL.s_if ?_ | refine DL.s_lst ?_ | refine DL.s_tup ?_ | refine DL.s_slice ?_ | refine DL.s_nopart ?_ | refine DL.s_part ?_
  | refine DL.s_chain ?_ | refine DL.t_iany ?_ | refine DL.s_irng1 ?_ | refine DL.s_irng2 ?_ | refine DL.s_meth ?_ | refine DL.s_strT ?_ | refine DL.s_truB ?_ | refine DL.s_setF ?_ | refine DL.t_meth ?_ | refine DL.s_ienum ?_ | refine DL.s_enmS ?_ | refine DL.s_gcons ?_ | refine DL.s_gnil ?_ | refine DL.s_sort ?_ | refine DL.t_notinC ?_ | refine DL.t_inC ?_ | refine DL.s_itemS ?_ | refine DL.s_itemL ?_ | refine DL.s_addS ⟨by first | omega | (simp <;> omega), ?_⟩ | refine DL.s_lenS ⟨by omega, ?_⟩ | refine DL.s_ixS0 ?_ | refine DL.s_ixS1 ?_ | refine DL.s_ixT0 ?_ | refine DL.s_ixT1 ?_ | refine DL.s_max2 ?_ | refine DL.s_max2N ?_ | refine DL.s_find3 ?_ | refine DL.s_rfind ?_ | refine DL.s_set0 ?_ | refine DL.s_put ?_ | refine DL.s_fz ?_ | refine DL.s_make ?_ | refine DL.s_disp ?_ | refine DL.s_dpc ?_ | refine DL.s_dpn ?_ | refine DL.s_dict0 ?_ | refine DL.s_lcT2 ?_ | refine DL.s_lcT ?_ | refine DL.s_yes ?_
  | refine DL.s_addI ?_ | refine DL.s_I0 ?_ | refine DL.s_cmpI ?_ | refine DL.s_cmpS ?_ | refine DL.s_eqI ?_ | refine DL.s_neI ?_ | refine DL.s_eqB ?_ | refine DL.s_neB ?_ | refine DL.s_eqS ?_ | refine DL.s_neS ?_ | refine DL.s_isNon ?_ | refine DL.s_isnotNon ?_
  | refine DL.s_lenL ?_ | refine DL.s_lenT ?_ | refine DL.s_lenP ?_ | refine DL.s_intI ?_ | refine DL.s_intB ?_ | refine DL.s_listL ?_ | refine DL.s_listT ?_ | refine DL.s_tupL ?_ | refine DL.s_tupT ?_ | refine DL.s_raise ?_ | refine DL.s_mkE ?_ | refine DL.s_mk0 ?_ | refine DL.s_callX ?_ | refine DL.s_try ?_ | refine DL.s_ix0L ?_ | refine DL.s_ix1L ?_ | refine DL.s_neg ?_ | refine DL.s_listXL ?_ | refine DL.s_listXT ?_ | refine DL.s_step ?_ | refine DL.s_callB ?_ | refine DL.s_bnil ?_ | refine DL.s_bcons ?_ | refine DL.s_tab ?_ | refine DL.s_inTab ?_ | refine DL.s_inI ?_ | refine DL.s_seqO ?_)
local macro_rules | `(tactic| walk_at "d2") => `(tactic| first
  | ((with_reducible apply DL.s_var); exact rfl) | ((with_reducible apply DL.s_varO); exact rfl; rotate_left; exact rfl) | ((with_reducible apply DL.s_peek); exact rfl) | ((with_reducible apply DL.s_ixK); exact rfl) | ((with_reducible apply DL.s_ixJ); exact rfl; exact rfl)
  | ((with_reducible apply DL.s_ixV2); exact rfl) | ((with_reducible apply DL.s_ixV); exact ⟨_, rfl⟩) | ((with_reducible apply DL.s_isi); exact rfl) | ((with_reducible apply DL.s_isSome); exact rfl) | ((with_reducible apply DL.s_isnotSome); exact rfl) | ((with_reducible apply DL.s_gtup); exact rfl) | ((with_reducible apply DL.s_ixP); exact rfl) | ((with_reducible apply DL.s_setP); exact rfl; exact rfl) | ((with_reducible apply DL.s_retO); exact rfl))
local macro_rules | `(tactic| walk_at "dif") => `(tactic| with_reducible refine DL.s_ite (fun hb => ?_) (fun hb => ?_))
local macro_rules | `(tactic| walk_at "dgo") => `(tactic| repeat (first | walk_at "d1" | walk_at "d2" | (with_reducible refine DL.s_iteNT ?_) | (with_reducible refine DL.s_iteNF ?_) | (with_reducible refine DL.s_iteT ?_) | (with_reducible refine DL.s_iteF ?_) | dsimp only))
local macro_rules | `(tactic| walk_at "dgo1") => `(tactic| first | walk_at "d1" | walk_at "d2" | (with_reducible refine DL.s_iteNT ?_) | (with_reducible refine DL.s_iteNF ?_) | (with_reducible refine DL.s_iteT ?_) | (with_reducible refine DL.s_iteF ?_) | dsimp only)
local macro_rules | `(tactic| walk_at "dk") => `(tactic| repeat (first | walk_at "dgo1" | rw [dec_rfl'] | rw [dec_ne' _ (by decide)]))
local macro_rules | `(tactic| walk_at "nm") => `(tactic| simp only [List.map_cons, List.map_nil, List.set_cons_zero, List.set_cons_succ, List.cons_append, List.nil_append, List.length_cons, List.length_nil, List.replicate_succ, List.replicate_zero])
abbrev sd_first_places : SpD := mkSp (fun a : List Nat × List Nat => [.str a.1, .str a.2]) (fun a => a.1.length ≤ 1000 ∧ a.2.length ≤ 1000) (fun a d => d = optT (fp a.2 a.1 0))
theorem ok_first_places {P : Program} [PrF P] {w : World} {K : PySem.W.Frag} {mg : Str → Option Value} {base : Heap} (g : Gf K mg) : Ok P w K mg base "first_places" 2 ["piece", "word"] sd_first_places := by
  refine ok_mk (k := 1) g.d_first_places sc_first_places (fun ds Q E ⟨a, e, _⟩ => by rw [e]; rfl) (fun cdv A outer s H E m hr => ?_)
  have hu := hr.units
  have hu1 := Nat.lt_of_le_of_lt (Nat.add_le_add_left (by decide : 1 ≤ 64) _) hu
  have sc := sc_first_places
  refine ⟨_, (pdss_cons (pds_setO (i := 2) sc.nd rfl (Or.inl rfl) (pf_lst pda_nil)) (pdss_cons (pds_set (i := 3) sc.nd rfl (Or.inl rfl) pd_int) (pdss_cons (pds_for PassesOwn.never rfl (pdi_any (pd_var 0)) (pdg_name (i := 4) sc.nd rfl (Or.inl rfl)) (pdss_cons (pds_set (i := 3) sc.nd rfl (Or.inl rfl) (pd_fn (ok_next_place (P := P) g) hr (by decide) (pda_cons (pd_var 1) (pda_cons (pd_var 4) (pda_cons (pd_var 3) pda_nil))))) (pdss_cons (pds_if (pdt_cmp o_is op_isN (pd_var 3) pd_non (nomark _)) (pdss_one (pds_ret pd_non)) pdss_nil) (pdss_one (pds_append 2 (pd_var 3)))))) (pdss_one (pds_ret (pd_tupOf (pq_var 2) rfl (by rfl) g.b_tuple)))))), ?_⟩
  rintro ds Q E ⟨⟨u, w⟩, rfl, ⟨h1, h2⟩, hq⟩
  dsimp only at h1 h2 hq
  walk_at "dk"
  refine ⟨by simp, ?_⟩
  walk_at "dk"
  walk_at "nm"
  refine DL.s_for ?_
  walk_at "dk"
  refine ⟨fun i ρ => ∃ (ps : List Nat) (p : Nat) (x : SV), ρ = [some (false, .str u), some (false, .str w), some (true, .lst (numsD ps)), some (false, .int (p : Nat)), x] ∧ ps.length = i ∧ fp w u 0 = (fp w (u.drop i) p).map (ps ++ ·), ⟨[], 0, _, rfl, rfl, ?_⟩, fun i d ρ e ⟨ps, p, x, eρ, hl, hf⟩ => ?_, fun ρ ⟨ps, p, x, eρ, hl, hf⟩ => ?_⟩
  · rw [List.drop_zero]; cases fp w u 0 <;> rfl
  · subst eρ
    obtain ⟨c, hc, rfl⟩ := chars_get e
    have lt := (List.getElem?_eq_some_iff.mp hc).1
    rw [drop_at hc] at hf
    walk_at "dk"
    refine ⟨(w, c, p), rfl, by dsimp only; omega, fun d ⟨r, hr, e⟩ => ?_⟩
    dsimp only at hr
    have er := nx_of hr
    subst e
    cases r with
    | none =>
      rw [show optD none = D.non from rfl]
      walk_at "dk"
      rw [fp_none er.symm] at hf
      rw [hf] at hq
      exact hq _ rfl
    | some q =>
      rw [fp_some er.symm] at hf
      rw [show optD (some q) = D.int (q : Nat) from rfl]
      walk_at "dk"
      refine DL.s_append ⟨_, rfl⟩ ?_
      walk_at "dk"
      refine DL.s_appN rfl ⟨?_, ?_⟩
      · rw [List.length_map]; omega
      · refine ⟨ps ++ [q], q, _, by rw [← numsD_app]; rfl, by rw [List.length_append, hl]; rfl, ?_⟩
        rw [hf, Option.map_map]
        cases fp w (u.drop (i + 1)) q with
        | none => rfl
        | some z => simp
  · subst eρ
    rw [List.length_map] at hf
    rw [List.drop_length] at hf
    walk_at "dk"
    rw [show fp w u 0 = some ps by rw [hf, fp]; simp] at hq
    exact hq _ rfl
abbrev sd_last_places : SpD := mkSp (fun a : List Nat × List Nat => [.str a.1, .str a.2]) (fun a => a.1.length ≤ 1000 ∧ a.2.length ≤ 1000) (fun a d => d = optT ((fpL a.2 a.1.reverse (a.2.length + 1)).map List.reverse))
theorem ok_last_places {P : Program} [PrF P] {w : World} {K : PySem.W.Frag} {mg : Str → Option Value} {base : Heap} (g : Gf K mg) : Ok P w K mg base "last_places" 2 ["piece", "word"] sd_last_places := by
  refine ok_mk (k := 1) g.d_last_places sc_last_places (fun ds Q E ⟨a, e, _⟩ => by rw [e]; rfl) (fun cdv A outer s H E m hr => ?_)
  have hu := hr.units
  have hu1 := Nat.lt_of_le_of_lt (Nat.add_le_add_left (by decide : 1 ≤ 64) _) hu
  have sc := sc_last_places
  refine ⟨_, (pdss_cons (pds_setO (i := 2) sc.nd rfl (Or.inl rfl) (pf_lst pda_nil)) (pdss_cons (pds_set (i := 3) sc.nd rfl (Or.inl rfl) (pd_bin o_add op_addU (pd_len (pq_var 1) rfl (by rfl) g.b_len) pd_int)) (pdss_cons (pds_for PassesOwn.never rfl (pdi_any (pd_step (pd_var 0) pdo_none pdo_none (pdo_some (pd_neg pd_int)))) (pdg_name (i := 4) sc.nd rfl (Or.inl rfl)) (pdss_cons (pds_set (i := 3) sc.nd rfl (Or.inl rfl) (pd_fn (ok_last_place (P := P) g) hr (by decide) (pda_cons (pd_var 1) (pda_cons (pd_var 4) (pda_cons (pd_var 3) pda_nil))))) (pdss_cons (pds_if (pdt_cmp o_is op_isN (pd_var 3) pd_non (nomark _)) (pdss_one (pds_ret pd_non)) pdss_nil) (pdss_one (pds_append 2 (pd_var 3)))))) (pdss_one (pds_ret (pd_tupOf (PD.pq (pd_revL (pq_var 2))) rfl (by rfl) g.b_tuple)))))), ?_⟩
  rintro ds Q E ⟨⟨u, w⟩, rfl, ⟨h1, h2⟩, hq⟩
  dsimp only at h1 h2 hq
  walk_at "dk"
  refine ⟨by simp, ?_⟩
  walk_at "dk"
  walk_at "nm"
  refine DL.s_for ?_
  walk_at "dk"
  refine ⟨by decide, by omega, ?_⟩
  rw [stepS_rev]
  walk_at "dk"
  refine ⟨fun i ρ => ∃ (ps : List Nat) (p : Nat) (x : SV), ρ = [some (false, .str u), some (false, .str w), some (true, .lst (numsD ps)), some (false, .int (p : Nat)), x] ∧ p ≤ w.length + 1 ∧ ps.length = i ∧ fpL w u.reverse (w.length + 1) = (fpL w (u.reverse.drop i) p).map (ps ++ ·), ⟨[], w.length + 1, _, rfl, Nat.le_refl _, rfl, ?_⟩, fun i d ρ e ⟨ps, p, x, eρ, hp, hl, hf⟩ => ?_, fun ρ ⟨ps, p, x, eρ, hp, hl, hf⟩ => ?_⟩
  · rw [List.drop_zero]; cases fpL w u.reverse (w.length + 1) <;> rfl
  · subst eρ
    obtain ⟨c, hc, rfl⟩ := chars_get e
    have lt := (List.getElem?_eq_some_iff.mp hc).1
    rw [List.length_reverse] at lt
    rw [drop_at hc] at hf
    walk_at "dk"
    refine ⟨(w, c, p), rfl, by dsimp only; omega, fun d ⟨r, hr, e⟩ => ?_⟩
    dsimp only at hr
    have er := lx_of hp hr
    subst e
    cases r with
    | none =>
      rw [show optD none = D.non from rfl]
      walk_at "dk"
      rw [fpL_none er.symm] at hf
      rw [hf] at hq
      exact hq _ rfl
    | some q =>
      have lq := lx_lt er.symm
      rw [fpL_some er.symm] at hf
      rw [show optD (some q) = D.int (q : Nat) from rfl]
      walk_at "dk"
      refine DL.s_append ⟨_, rfl⟩ ?_
      walk_at "dk"
      refine DL.s_appN rfl ⟨?_, ?_⟩
      · rw [List.length_map]; omega
      · refine ⟨ps ++ [q], q, _, by rw [← numsD_app]; rfl, by omega, by rw [List.length_append, hl]; rfl, ?_⟩
        rw [hf, Option.map_map]
        cases fpL w (u.reverse.drop (i + 1)) q with
        | none => rfl
        | some z => simp
  · subst eρ
    rw [List.length_map] at hf
    rw [List.drop_length] at hf
    walk_at "dk"
    refine s_revL ?_
    walk_at "dk"
    rw [show fpL w u.reverse (w.length + 1) = some ps by rw [hf, fpL]; simp] at hq
    refine hq _ ?_
    exact congrArg D.tup List.map_reverse.symm
abbrev sd_is_piece : SpD := mkSp (fun a : List Nat × List Nat => [.str a.1, .str a.2]) (fun a => a.1.length ≤ 1000 ∧ a.2.length ≤ 1000) (fun a d => d = .bl (isP a.2 a.1))
theorem ok_is_piece {P : Program} [PrF P] {w : World} {K : PySem.W.Frag} {mg : Str → Option Value} {base : Heap} (g : Gf K mg) : Ok P w K mg base "is_piece" 3 ["piece", "word"] sd_is_piece := by
  refine ok_mk (k := 2) g.d_is_piece sc_is_piece (fun ds Q E ⟨a, e, _⟩ => by rw [e]; rfl) (fun cdv A outer s H E m hr => ?_)
  have hu := hr.units
  have hu1 := Nat.lt_of_le_of_lt (Nat.add_le_add_left (by decide : 1 ≤ 64) _) hu
  have sc := sc_is_piece
  refine ⟨_, (pdss_one (pds_ret (pd_cmp o_isnot op_notN (pd_fn (ok_first_places (P := P) g) hr (by decide) (pda_cons (pd_var 0) (pda_cons (pd_var 1) pda_nil))) pd_non (nomark _)))), ?_⟩
  rintro ds Q E ⟨⟨u, w⟩, rfl, ⟨h1, h2⟩, hq⟩
  dsimp only at h1 h2 hq
  walk_at "dk"
  refine ⟨(u, w), rfl, ⟨h1, h2⟩, fun d e => ?_⟩
  subst e
  dsimp only
  have k := fp_sub (w := w) (u := u) (p := 0)
  rw [List.drop_zero] at k
  cases e : fp w u 0 with
  | none =>
    rw [e] at k
    rw [show optT none = D.non from rfl]
    walk_at "dk"
    refine hq _ ?_
    rw [show isP w u = false from decide_eq_false fun z => by simpa using k.mpr z]
  | some qs =>
    rw [e] at k
    rw [show optT (some qs) = D.tup (numsD qs) from rfl]
    walk_at "dk"
    refine hq _ ?_
    rw [show isP w u = true from decide_eq_true (k.mp rfl)]
end W00
namespace W00
open PySem PySem.Spec L2 PyProof.Rows DL
open scoped List
local macro_rules | `(tactic| walk_at "d1") => `(tactic| with_reducible first
  | refine DL.s_seq ?_ | refine DL.s_asg ?_ | refine DL.s_gname ?_ | refine DL.s_gown ?_ | refine DL.s_ret ?_ | refine DL.s_retN ?_ | refine DL.s_drop ?_ | refine DL.s_ifs ?_ | refine DL.s_c ?_ | refine DL.s_op2 ?_ | refine DL.s_op1 ?_ | refine DL.s_nil ?_ | refine DL.s_cons ?_ | refine DL.s_next ?_
  | refine DL.s_call ?_ | refine DL.s_test ?_ | refine DL.s_truT ?_ | refine DL.s_and ?_ | refine DL.s_or ?_ | refine DL.s_not ?_ | refine DL.s_andV ?_ | refine DL.s_orV ?_ | refine DL.s_notV ?_ | refine DL.s_if ?_ | refine DL.s_lst ?_ | refine DL.s_tup ?_ | refine DL.s_slice ?_ | refine DL.s_nopart ?_ | refine DL.s_part ?_
  | refine DL.s_chain ?_ | refine DL.t_iany ?_ | refine DL.s_irng1 ?_ | refine DL.s_irng2 ?_ | refine DL.s_meth ?_ | refine DL.s_strT ?_ | refine DL.s_truB ?_ | refine DL.s_setF ?_ | refine DL.t_meth ?_ | refine DL.s_ienum ?_ | refine DL.s_enmS ?_ | refine DL.s_gcons ?_ | refine DL.s_gnil ?_ | refine DL.s_sort ?_ | refine DL.t_notinC ?_ | refine DL.t_inC ?_ | refine DL.s_itemS ?_ | refine DL.s_itemL ?_ | refine DL.s_addS ⟨by first | omega | (simp <;> omega), ?_⟩ | refine DL.s_lenS ⟨by omega, ?_⟩ | refine DL.s_ixS0 ?_ | refine DL.s_ixS1 ?_ | refine DL.s_ixT0 ?_ | refine DL.s_ixT1 ?_ | refine DL.s_max2 ?_ | refine DL.s_max2N ?_ | refine DL.s_find3 ?_ | refine DL.s_rfind ?_ | refine DL.s_set0 ?_ | refine DL.s_put ?_ | refine DL.s_fz ?_ | refine DL.s_make ?_ | refine DL.s_disp ?_ | refine DL.s_dpc ?_ | refine DL.s_dpn ?_ | refine DL.s_dict0 ?_ | refine DL.s_lcT2 ?_ | refine DL.s_lcT ?_ | refine DL.s_yes ?_
  | refine DL.s_addI ?_ | refine DL.s_I0 ?_ | refine DL.s_cmpI ?_ | refine DL.s_cmpS ?_ | refine DL.s_eqI ?_ | refine DL.s_neI ?_ | refine DL.s_eqB ?_ | refine DL.s_neB ?_ | refine DL.s_eqS ?_ | refine DL.s_neS ?_ | refine DL.s_isNon ?_ | refine DL.s_isnotNon ?_
  | refine DL.s_lenL ?_ | refine DL.s_lenT ?_ | refine DL.s_lenP ?_ | refine DL.s_intI ?_ | refine DL.s_intB ?_ | refine DL.s_listL ?_ | refine DL.s_listT ?_ | refine DL.s_tupL ?_ | refine DL.s_tupT ?_ | refine DL.s_raise ?_ | refine DL.s_mkE ?_ | refine DL.s_mk0 ?_ | refine DL.s_callX ?_ | refine DL.s_try ?_ | refine DL.s_ix0L ?_ | refine DL.s_ix1L ?_ | refine DL.s_neg ?_ | refine DL.s_listXL ?_ | refine DL.s_listXT ?_ | refine DL.s_step ?_ | refine DL.s_callB ?_ | refine DL.s_bnil ?_ | refine DL.s_bcons ?_ | refine DL.s_tab ?_ | refine DL.s_inTab ?_ | refine DL.s_inI ?_ | refine DL.s_seqO ?_)
local macro_rules | `(tactic| walk_at "d2") => `(tactic| first
  | ((with_reducible apply DL.s_var); exact rfl) | ((with_reducible apply DL.s_varO); exact rfl; rotate_left; exact rfl) | ((with_reducible apply DL.s_peek); exact rfl) | ((with_reducible apply DL.s_ixK); exact rfl) | ((with_reducible apply DL.s_ixJ); exact rfl; exact rfl)
  | ((with_reducible apply DL.s_ixV2); exact rfl) | ((with_reducible apply DL.s_ixV); exact ⟨_, rfl⟩) | ((with_reducible apply DL.s_isi); exact rfl) | ((with_reducible apply DL.s_isSome); exact rfl) | ((with_reducible apply DL.s_isnotSome); exact rfl) | ((with_reducible apply DL.s_gtup); exact rfl) | ((with_reducible apply DL.s_ixP); exact rfl) | ((with_reducible apply DL.s_setP); exact rfl; exact rfl) | ((with_reducible apply DL.s_retO); exact rfl))
local macro_rules | `(tactic| walk_at "dif") => `(tactic| with_reducible refine DL.s_ite (fun hb => ?_) (fun hb => ?_))
local macro_rules | `(tactic| walk_at "dgo") => `(tactic| repeat (first | walk_at "d1" | walk_at "d2" | (with_reducible refine DL.s_iteNT ?_) | (with_reducible refine DL.s_iteNF ?_) | (with_reducible refine DL.s_iteT ?_) | (with_reducible refine DL.s_iteF ?_) | dsimp only))
local macro_rules | `(tactic| walk_at "dgo1") => `(tactic| first | walk_at "d1" | walk_at "d2" | (with_reducible refine DL.s_iteNT ?_) | (with_reducible refine DL.s_iteNF ?_) | (with_reducible refine DL.s_iteT ?_) | (with_reducible refine DL.s_iteF ?_) | dsimp only)
local macro_rules | `(tactic| walk_at "dk") => `(tactic| repeat (first | walk_at "dgo1" | rw [dec_rfl'] | rw [dec_ne' _ (by decide)]))
local macro_rules | `(tactic| walk_at "nm") => `(tactic| simp only [List.map_cons, List.map_nil, List.set_cons_zero, List.set_cons_succ, List.cons_append, List.nil_append, List.length_cons, List.length_nil, List.replicate_succ, List.replicate_zero])
abbrev sd_law_piece : SpD := mkSp (fun a : List Nat × List Nat => [.str a.1, .str a.2]) (fun a => a.1.length ≤ 1000 ∧ a.2.length ≤ 1000) (fun a d => d = .bl (decide (a.1 <+ a.2)))
theorem ok_law_piece {P : Program} [PrF P] {w : World} {K : PySem.W.Frag} {mg : Str → Option Value} {base : Heap} (g : Gf K mg) : Ok P w K mg base "_law_piece" 1 ["piece", "word"] sd_law_piece := by
  refine ok_mk (k := 0) g.d_law_piece sc_law_piece (fun ds Q E ⟨a, e, _⟩ => by rw [e]; rfl) (fun cdv A outer s H E m hr => ?_)
  have hu := hr.units
  have hu1 := Nat.lt_of_le_of_lt (Nat.add_le_add_left (by decide : 1 ≤ 64) _) hu
  have sc := sc_law_piece
  refine ⟨_, (pdss_cons (pds_set (i := 2) sc.nd rfl (Or.inl rfl) pd_int) (pdss_cons (pds_for PassesOwn.never rfl (pdi_any (pd_var 1)) (pdg_name (i := 3) sc.nd rfl (Or.inl rfl)) (pdss_one (pds_if ((pdw_and (pdt_cmp o_lt op_ltU (pd_var 2) (pd_len (pq_var 0) rfl (by rfl) g.b_len) (nomark _)) (pdw_and1 (pdt_cmp o_eq (op_eqU hu) (pd_ixV hu1 (pv 0) (pd_var 2)) (pd_var 3) (nomark _))))).pt (pdss_one (pds_set (i := 2) sc.nd rfl (Or.inl rfl) (pd_bin o_add op_addU (pd_var 2) pd_int))) pdss_nil))) (pdss_one (pds_ret (pd_cmp o_eq (op_eqU hu) (pd_var 2) (pd_len (pq_var 0) rfl (by rfl) g.b_len) (nomark _)))))), ?_⟩
  rintro ds Q E ⟨⟨u, w⟩, rfl, ⟨h1, h2⟩, hq⟩
  dsimp only at h1 h2 hq
  walk_at "dgo"
  refine DL.s_for ?_
  walk_at "dgo"
  refine ⟨fun i ρ => ∃ (a : Nat) (x3 : SV), Gre u w i a ∧ ρ = [some (false, .str u), some (false, .str w), some (false, .int (a : Nat)), x3], ⟨0, _, gre_start, rfl⟩, fun i d ρ e ⟨a, x3, G, eρ⟩ => ?_, fun ρ ⟨a, x3, G, eρ⟩ => ?_⟩
  · subst eρ
    obtain ⟨c, ec, rfl⟩ := chars_get e
    have ga := G.le
    have lw := (List.getElem?_eq_some_iff.mp ec).1
    walk_at "dgo"
    by_cases z : a < u.length
    · rw [decide_eq_true (show (a : Int) < (u.length : Int) by omega)]
      have eu : u[a]? = some (u[a]) := List.getElem?_eq_getElem z
      walk_at "dgo"
      refine DL.s_ixS (by omega) (atI_nat eu) ?_
      walk_at "dgo"
      walk_at "dif"
      · rename_i hb
        have hb := of_decide_eq_true hb
        rw [List.cons.injEq] at hb
        walk_at "dgo"
        exact ⟨a + 1, _, gre_hit G ec (by rw [eu, hb.1]), rfl⟩
      · rename_i hb
        walk_at "dgo"
        refine ⟨a, _, gre_miss G ec fun h => of_decide_eq_false hb ?_, rfl⟩
        rw [eu] at h
        rw [Option.some.inj h]
    · rw [decide_eq_false (show ¬ (a : Int) < (u.length : Int) by omega)]
      walk_at "dgo"
      refine ⟨a, _, gre_miss G ec fun h => ?_, rfl⟩
      exact z (List.getElem?_eq_some_iff.mp h).1
  · subst eρ
    rw [List.length_map] at G
    walk_at "dgo"
    refine hq _ ?_
    congr 1
    exact decide_eq_decide.mpr (Iff.trans ⟨fun h => by omega, fun h => by omega⟩ (gre_end G))
abbrev sd_law_first : SpD := mkSp (fun a : List Nat × List Nat => [.str a.1, .str a.2]) (fun a => a.1.length ≤ 1000 ∧ a.2.length ≤ 1000) (fun a d => d = optT (fp a.2 a.1 0))
theorem ok_law_first {P : Program} [PrF P] {w : World} {K : PySem.W.Frag} {mg : Str → Option Value} {base : Heap} (g : Gf K mg) : Ok P w K mg base "_law_first" 1 ["piece", "word"] sd_law_first := by
  refine ok_mk (k := 0) g.d_law_first sc_law_first (fun ds Q E ⟨a, e, _⟩ => by rw [e]; rfl) (fun cdv A outer s H E m hr => ?_)
  have hu := hr.units
  have hu1 := Nat.lt_of_le_of_lt (Nat.add_le_add_left (by decide : 1 ≤ 64) _) hu
  have sc := sc_law_first
  refine ⟨_, (pdss_cons (pds_setO (i := 2) sc.nd rfl (Or.inl rfl) (pf_lst pda_nil)) (pdss_cons (pds_set (i := 3) sc.nd rfl (Or.inl rfl) pd_int) (pdss_cons (pds_for PassesOwn.never rfl (pdi_any (pd_var 0)) (pdg_name (i := 4) sc.nd rfl (Or.inr rfl)) (pdss_cons (pds_setLc (own := [("k", 6)]) (i := 5) rfl sc.nd rfl rfl (sw_true rfl rfl rfl (by decide +kernel)) (pdi_range2 (by rfl) g.b_range (pda_cons (pd_bin o_add op_addU (pd_var 3) pd_int) (pda_cons (pd_bin o_add op_addU (pd_len (pq_var 1) rfl (by rfl) g.b_len) pd_int) pda_nil))) (blkOk_by (N := ["piece", "word", "places", "at", "letter", "found", "k"]) (sc := defScope s_law_first) (by decide +kernel)) (ctg_name (by decide)) (fun _ _ _ _ _ => pg_name (i := 6) sc.nd rfl (Or.inl rfl)) (fun _ _ _ _ _ _ => pdts_one (pdt_cmp o_eq (op_eqU hu) (pd_ixV hu1 (pv 1) (pd_bin o_sub op_sub (pd_var 6) pd_int)) (pd_var 4) (nomark _))) (fun _ _ _ _ _ _ => (pd_var 6)) s) (pdss_cons (pds_if (pdt_cmp o_eq (op_eqU hu) (pd_var 5) (pd_lst pda_nil) (nomark _)) (pdss_one (pds_ret pd_non)) pdss_nil) (pdss_cons (pds_set (i := 3) sc.nd rfl (Or.inl rfl) (pd_ixV hu1 (pv 5) pd_int)) (pdss_one (pds_append 2 (pd_var 3))))))) (pdss_one (pds_ret (pd_tupOf (pq_var 2) rfl (by rfl) g.b_tuple)))))), ?_⟩
  rintro ds Q E ⟨⟨u, w⟩, rfl, ⟨h1, h2⟩, hq⟩
  dsimp only at h1 h2 hq
  walk_at "dk"
  refine ⟨by simp, ?_⟩
  walk_at "dk"
  walk_at "nm"
  refine DL.s_for ?_
  walk_at "dk"
  refine ⟨fun i ρ => ∃ (ps : List Nat) (p : Nat) (x y z : SV), ρ = [some (false, .str u), some (false, .str w), some (true, .lst (numsD ps)), some (false, .int (p : Nat)), x, y, z] ∧ p ≤ w.length ∧ ps.length = i ∧ fp w u 0 = (fp w (u.drop i) p).map (ps ++ ·), ⟨[], 0, _, _, _, rfl, Nat.zero_le _, rfl, ?_⟩, fun i d ρ e ⟨ps, p, x, y, z, eρ, hp, hl, hf⟩ => ?_, fun ρ ⟨ps, p, x, y, z, eρ, hp, hl, hf⟩ => ?_⟩
  · rw [List.drop_zero]; cases fp w u 0 <;> rfl
  · subst eρ
    obtain ⟨c, hc, rfl⟩ := chars_get e
    have lt := (List.getElem?_eq_some_iff.mp hc).1
    rw [drop_at hc] at hf
    walk_at "dk"
    refine s_lc ?_
    walk_at "dk"
    refine DL.s_rng2 ⟨by omega, by omega, by omega, by omega⟩ ?_
    refine s_lcAll (fun j acc => acc = numsD ((List.range' (p + 1) j).filter fun k => decide (w[k - 1]? = some c))) (by rfl) (fun j d acc e ea => ?_) (fun acc ea => ?_)
    · obtain ⟨hj, rfl⟩ := rangeD_get e
      have hj : j < w.length - p := by omega
      subst ea
      refine s_lcT ?_
      walk_at "dk"
      have lt2 : p + j < w.length := by omega
      have ew : w[p + j]? = some (w[p + j]) := List.getElem?_eq_getElem lt2
      have hF : (List.range' (p + 1) (j + 1)).filter (fun k => decide (w[k - 1]? = some c)) = (List.range' (p + 1) j).filter (fun k => decide (w[k - 1]? = some c)) ++ (if w[p + j] = c then [p + 1 + j] else []) := by
        rw [List.range'_1_concat, List.filter_append, List.filter_cons, List.filter_nil, show p + 1 + j - 1 = p + j by omega, ew]
        by_cases e : w[p + j] = c
        · rw [if_pos e, if_pos (by simp [e])]
        · rw [if_neg e, if_neg (by simp [e])]
      have hlen : ((List.range' (p + 1) j).filter (fun k => decide (w[k - 1]? = some c))).length ≤ j := by
        refine Nat.le_trans (List.length_filter_le _ _) ?_
        rw [List.length_range']; omega
      rw [show (p : Int) + 1 + (j : Nat) - 1 = ((p + j : Nat) : Int) by omega]
      refine DL.s_ixS (by omega) (atI_nat ew) ?_
      walk_at "dk"
      rw [hF]
      by_cases ec : w[p + j] = c
      · rw [if_pos ec, show decide ([w[p + j]] = [c]) = true from decide_eq_true (by rw [ec])]
        walk_at "dk"
        refine ⟨rfl, by rw [List.length_map]; omega, ?_⟩
        rw [← numsD_app]
        congr 1
      · rw [if_neg ec, show decide ([w[p + j]] = [c]) = false from decide_eq_false (fun z => ec (List.cons.inj z).1)]
        walk_at "dk"
        exact ⟨rfl, by rw [List.append_nil]⟩
    · rw [rangeD_len, show ((w.length : Int) + 1 - ((p : Int) + 1)).toNat = w.length - p by omega] at ea
      have hn := nx_head (w := w) (c := c) (p := p)
      generalize hL : (List.range' (p + 1) (w.length - p)).filter (fun k => decide (w[k - 1]? = some c)) = L at ea hn
      subst ea
      walk_at "dk"
      refine ⟨by simp, s_eqNilN ?_⟩
      cases L with
      | nil =>
        rw [show ([] : List Nat).isEmpty = true from rfl]
        walk_at "dk"
        rw [fp_none hn] at hf
        rw [hf] at hq
        exact hq _ rfl
      | cons q L =>
        rw [show (q :: L).isEmpty = false from rfl]
        rw [fp_some hn] at hf
        have lq := (nx_le hn).2
        rw [show numsD (q :: L) = D.int (q : Nat) :: numsD L from rfl]
        walk_at "dk"
        refine DL.s_append ⟨_, rfl⟩ ?_
        walk_at "dk"
        refine DL.s_appN rfl ⟨?_, ?_⟩
        · rw [List.length_map]; omega
        · refine ⟨ps ++ [q], q, _, _, _, by rw [← numsD_app]; rfl, lq, by rw [List.length_append, hl]; rfl, ?_⟩
          rw [hf, Option.map_map]
          cases fp w (u.drop (i + 1)) q with
          | none => rfl
          | some z => simp
  · subst eρ
    rw [List.length_map] at hf
    rw [List.drop_length] at hf
    walk_at "dk"
    rw [show fp w u 0 = some ps by rw [hf, fp]; simp] at hq
    exact hq _ rfl
abbrev sd_law_last : SpD := mkSp (fun a : List Nat × List Nat => [.str a.1, .str a.2]) (fun a => a.1.length ≤ 1000 ∧ a.2.length ≤ 1000) (fun a d => d = optT ((fpL a.2 a.1.reverse (a.2.length + 1)).map List.reverse))
theorem ok_law_last {P : Program} [PrF P] {w : World} {K : PySem.W.Frag} {mg : Str → Option Value} {base : Heap} (g : Gf K mg) : Ok P w K mg base "_law_last" 2 ["piece", "word"] sd_law_last := by
  refine ok_mk (k := 1) g.d_law_last sc_law_last (fun ds Q E ⟨a, e, _⟩ => by rw [e]; rfl) (fun cdv A outer s H E m hr => ?_)
  have hu := hr.units
  have hu1 := Nat.lt_of_le_of_lt (Nat.add_le_add_left (by decide : 1 ≤ 64) _) hu
  have sc := sc_law_last
  refine ⟨_, (pdss_cons (pds_set (i := 2) sc.nd rfl (Or.inr rfl) (pd_fn (ok_law_first (P := P) g) hr (by decide) (pda_cons (pd_step (pd_var 0) pdo_none pdo_none (pdo_some (pd_neg pd_int))) (pda_cons (pd_step (pd_var 1) pdo_none pdo_none (pdo_some (pd_neg pd_int))) pda_nil)))) (pdss_cons (pds_if (pdt_cmp o_is op_isN (pd_var 2) pd_non (nomark _)) (pdss_one (pds_ret pd_non)) pdss_nil) (pdss_one (pds_ret (pd_tupOf (PD.pq (pd_lc (own := [("k", 3)]) rfl sc.nd (pdi_range1 (by rfl) g.b_range (pda_cons (pd_len (pq_var 0) rfl (by rfl) g.b_len) pda_nil)) (blkOk_by (N := ["piece", "word", "turned", "k"]) (sc := defScope s_law_last) (by decide +kernel)) (ctg_name (by decide)) (fun _ _ _ _ _ => pg_name (i := 3) sc.nd rfl (Or.inl rfl)) (fun _ _ _ _ _ _ => pdts_nil) (fun _ _ _ _ _ _ => (pd_bin o_sub op_sub (pd_bin o_add op_addU (pd_len (pq_var 1) rfl (by rfl) g.b_len) pd_int) (pd_ixV hu1 (pv 2) (pd_bin o_sub op_sub (pd_bin o_sub op_sub (pd_len (pq_var 0) rfl (by rfl) g.b_len) pd_int) (pd_var 3))))) s)) rfl (by rfl) g.b_tuple))))), ?_⟩
  rintro ds Q E ⟨⟨u, w⟩, rfl, ⟨h1, h2⟩, hq⟩
  dsimp only at h1 h2 hq
  walk_at "dk"
  refine ⟨by decide, by omega, ?_⟩
  rw [stepS_rev]
  walk_at "dk"
  refine ⟨by decide, by omega, ?_⟩
  rw [stepS_rev]
  walk_at "dk"
  refine ⟨(u.reverse, w.reverse), rfl, ⟨by rw [List.length_reverse]; exact h1, by rw [List.length_reverse]; exact h2⟩, fun d e => ?_⟩
  subst e
  dsimp only
  have hf := fpL_eq (w := w) (u := u.reverse) (p := w.length + 1) (Nat.le_refl _)
  rw [Nat.sub_self] at hf
  rw [hf] at hq
  cases e : fp w.reverse u.reverse 0 with
  | none =>
    rw [e] at hq
    rw [show optT none = D.non from rfl]
    walk_at "dk"
    exact hq _ rfl
  | some qs =>
    rw [e] at hq
    have hl := fp_len e
    have hm := fp_le e
    rw [List.length_reverse] at hl hm
    rw [show optT (some qs) = D.tup (numsD qs) from rfl]
    walk_at "dk"
    refine s_lc ?_
    walk_at "dk"
    refine DL.s_rng1 ⟨by omega, by omega⟩ ?_
    refine s_lcAll (fun j acc => acc = numsD (((qs.map (w.length + 1 - ·)).reverse).take j)) (by simp) (fun j d acc e ea => ?_) (fun acc ea => ?_)
    · obtain ⟨hj, rfl⟩ := rangeD_get e
      have hj : j < u.length := by omega
      subst ea
      refine s_lcT ?_
      walk_at "dk"
      obtain ⟨z, eq⟩ : ∃ z, qs[u.length - 1 - j]? = some z := ⟨_, List.getElem?_eq_getElem (by omega)⟩
      have le := hm _ (List.mem_of_getElem? eq)
      rw [show (u.length : Int) - 1 - (0 + (j : Int)) = ((u.length - 1 - j : Nat) : Int) by omega]
      refine DL.s_ixT (atI_nat (numsD_at eq)) ?_
      walk_at "dk"
      refine ⟨rfl, by rw [List.length_map, List.length_take]; omega, ?_⟩
      have e2 : ((qs.map (w.length + 1 - ·)).reverse)[j]? = some (w.length + 1 - z) := by
        rw [List.getElem?_reverse (by rw [List.length_map]; omega), List.length_map, hl, List.getElem?_map, eq]; rfl
      rw [take_snoc e2, ← numsD_app]
      congr 1
      show [D.int ((w.length : Int) + 1 - (z : Int))] = [D.int ((w.length + 1 - z : Nat) : Int)]
      congr 2
      omega
    · subst ea
      rw [rangeD_len, show ((u.length : Int)).toNat = ((qs.map (w.length + 1 - ·)).reverse).length by rw [List.length_reverse, List.length_map, hl]; omega, List.take_length]
      walk_at "dk"
      exact hq _ rfl
end W00
namespace W00
open PySem PySem.Spec L2 PyProof.Rows DL
open scoped List
local macro_rules | `(tactic| walk_at "d1") => `(tactic| with_reducible first
  | refine DL.s_seq ?_ | refine DL.s_asg ?_ | refine DL.s_gname ?_ | refine DL.s_gown ?_ | refine DL.s_ret ?_ | refine DL.s_retN ?_ | refine DL.s_drop ?_ | refine DL.s_ifs ?_ | refine DL.s_c ?_ | refine DL.s_op2 ?_ | refine DL.s_op1 ?_ | refine DL.s_nil ?_ | refine DL.s_cons ?_ | refine DL.s_next ?_
  | refine DL.s_call ?_ | refine DL.s_test ?_ | refine DL.s_truT ?_ | refine DL.s_and ?_ | refine DL.s_or ?_ | refine DL.s_not ?_ | refine DL.s_andV ?_ | refine DL.s_orV ?_ | refine DL.s_notV ?_ | refine DL.s_if ?_ | refine DL.s_lst ?_ | refine DL.s_tup ?_ | refine DL.s_slice ?_ | refine DL.s_nopart ?_ | refine DL.s_part ?_
  | refine DL.s_chain ?_ | refine DL.t_iany ?_ | refine DL.s_irng1 ?_ | refine DL.s_irng2 ?_ | refine DL.s_meth ?_ | refine DL.s_strT ?_ | refine DL.s_truB ?_ | refine DL.s_setF ?_ | refine DL.t_meth ?_ | refine DL.s_ienum ?_ | refine DL.s_enmS ?_ | refine DL.s_gcons ?_ | refine DL.s_gnil ?_ | refine DL.s_sort ?_ | refine DL.t_notinC ?_ | refine DL.t_inC ?_ | refine DL.s_itemS ?_ | refine DL.s_itemL ?_ | refine DL.s_addS ⟨by first | omega | (simp <;> omega), ?_⟩ | refine DL.s_lenS ⟨by omega, ?_⟩ | refine DL.s_ixS0 ?_ | refine DL.s_ixS1 ?_ | refine DL.s_ixT0 ?_ | refine DL.s_ixT1 ?_ | refine DL.s_max2 ?_ | refine DL.s_max2N ?_ | refine DL.s_find3 ?_ | refine DL.s_rfind ?_ | refine DL.s_set0 ?_ | refine DL.s_put ?_ | refine DL.s_fz ?_ | refine DL.s_make ?_ | refine DL.s_disp ?_ | refine DL.s_dpc ?_ | refine DL.s_dpn ?_ | refine DL.s_dict0 ?_ | refine DL.s_lcT2 ?_ | refine DL.s_lcT ?_ | refine DL.s_yes ?_
  | refine DL.s_addI ?_ | refine DL.s_I0 ?_ | refine DL.s_cmpI ?_ | refine DL.s_cmpS ?_ | refine DL.s_eqI ?_ | refine DL.s_neI ?_ | refine DL.s_eqB ?_ | refine DL.s_neB ?_ | refine DL.s_eqS ?_ | refine DL.s_neS ?_ | refine DL.s_isNon ?_ | refine DL.s_isnotNon ?_
  | refine DL.s_lenL ?_ | refine DL.s_lenT ?_ | refine DL.s_lenP ?_ | refine DL.s_intI ?_ | refine DL.s_intB ?_ | refine DL.s_listL ?_ | refine DL.s_listT ?_ | refine DL.s_tupL ?_ | refine DL.s_tupT ?_ | refine DL.s_raise ?_ | refine DL.s_mkE ?_ | refine DL.s_mk0 ?_ | refine DL.s_callX ?_ | refine DL.s_try ?_ | refine DL.s_ix0L ?_ | refine DL.s_ix1L ?_ | refine DL.s_neg ?_ | refine DL.s_listXL ?_ | refine DL.s_listXT ?_ | refine DL.s_step ?_ | refine DL.s_callB ?_ | refine DL.s_bnil ?_ | refine DL.s_bcons ?_ | refine DL.s_tab ?_ | refine DL.s_inTab ?_ | refine DL.s_inI ?_ | refine DL.s_seqO ?_)
local macro_rules | `(tactic| walk_at "d2") => `(tactic| first
  | ((with_reducible apply DL.s_var); exact rfl) | ((with_reducible apply DL.s_varO); exact rfl; rotate_left; exact rfl) | ((with_reducible apply DL.s_peek); exact rfl) | ((with_reducible apply DL.s_ixK); exact rfl) | ((with_reducible apply DL.s_ixJ); exact rfl; exact rfl)
  | ((with_reducible apply DL.s_ixV2); exact rfl) | ((with_reducible apply DL.s_ixV); exact ⟨_, rfl⟩) | ((with_reducible apply DL.s_isi); exact rfl) | ((with_reducible apply DL.s_isSome); exact rfl) | ((with_reducible apply DL.s_isnotSome); exact rfl) | ((with_reducible apply DL.s_gtup); exact rfl) | ((with_reducible apply DL.s_ixP); exact rfl) | ((with_reducible apply DL.s_setP); exact rfl; exact rfl) | ((with_reducible apply DL.s_retO); exact rfl))
local macro_rules | `(tactic| walk_at "dif") => `(tactic| with_reducible refine DL.s_ite (fun hb => ?_) (fun hb => ?_))
local macro_rules | `(tactic| walk_at "dgo") => `(tactic| repeat (first | walk_at "d1" | walk_at "d2" | (with_reducible refine DL.s_iteNT ?_) | (with_reducible refine DL.s_iteNF ?_) | (with_reducible refine DL.s_iteT ?_) | (with_reducible refine DL.s_iteF ?_) | dsimp only))
local macro_rules | `(tactic| walk_at "dgo1") => `(tactic| first | walk_at "d1" | walk_at "d2" | (with_reducible refine DL.s_iteNT ?_) | (with_reducible refine DL.s_iteNF ?_) | (with_reducible refine DL.s_iteT ?_) | (with_reducible refine DL.s_iteF ?_) | dsimp only)
local macro_rules | `(tactic| walk_at "dk") => `(tactic| repeat (first | walk_at "dgo1" | rw [dec_rfl'] | rw [dec_ne' _ (by decide)]))
local macro_rules | `(tactic| walk_at "nm") => `(tactic| simp only [List.map_cons, List.map_nil, List.set_cons_zero, List.set_cons_succ, List.cons_append, List.nil_append, List.length_cons, List.length_nil, List.replicate_succ, List.replicate_zero])
theorem atI_m1 {α : Type} {a : List α} (h : 1 ≤ a.length) : atI a (-1) = a[a.length - 1]? := by
  unfold atI ixN
  rw [if_neg (by decide), if_pos (by omega)]
  show a[_]? = _
  congr 1
  omega
def wv (u w : List Nat) (n i k j : Nat) : Nat := if n - k < j then cn u w (i + 1) j else cn u w i j
theorem one0 (u w : List Nat) : D.int 1 :: List.replicate u.length (D.int 0) = numsD (rowN (fun j => cn u w 0 j) u.length) := by
  unfold rowN
  rw [List.range_succ_eq_map]
  show D.int 1 :: _ = D.int ((cn u w 0 0 : Nat) : Int) :: _
  rw [cn_0]
  congr 1
  refine List.ext_getElem? fun j => ?_
  by_cases h : j < u.length
  · simp only [List.getElem?_replicate, if_pos h, List.getElem?_map, List.getElem?_range h, Option.map_some, cn_00]
    rfl
  · rw [List.getElem?_eq_none (by simp; omega), List.getElem?_eq_none (by simp; omega)]
abbrev sd_ways_of : SpD := mkSp (fun a : List Nat × List Nat => [.str a.1, .str a.2]) (fun a => a.1.length ≤ 1000 ∧ a.2.length ≤ 1000) (fun a d => d = .int (cn a.1 a.2 a.2.length a.1.length : Nat))
theorem ok_ways_of {P : Program} [PrF P] {w : World} {K : PySem.W.Frag} {mg : Str → Option Value} {base : Heap} (g : Gf K mg) : Ok P w K mg base "ways_of" 1 ["piece", "word"] sd_ways_of := by
  refine ok_mk (k := 0) g.d_ways_of sc_ways_of (fun ds Q E ⟨a, e, _⟩ => by rw [e]; rfl) (fun cdv A outer s H E m hr => ?_)
  have hu := hr.units
  have hu1 := Nat.lt_of_le_of_lt (Nat.add_le_add_left (by decide : 1 ≤ 64) _) hu
  have sc := sc_ways_of
  refine ⟨_, (pdss_cons (pds_setO (i := 2) sc.nd rfl (Or.inl rfl) (pf_addL (pd_lst (pda_cons pd_int pda_nil)) (pd_lc (own := [("_", 5)]) rfl sc.nd (pdi_any (pd_var 0)) (blkOk_by (N := ["piece", "word", "ways", "letter", "at", "_"]) (sc := defScope s_ways_of) (by decide +kernel)) (ctg_name (by decide)) (fun _ _ _ _ _ => pg_name (i := 5) sc.nd rfl (Or.inl rfl)) (fun _ _ _ _ _ _ => pdts_nil) (fun _ _ _ _ _ _ => pd_int) s))) (pdss_cons (pds_for PassesOwn.never rfl (pdi_any (pd_var 1)) (pdg_name (i := 3) sc.nd rfl (Or.inl rfl)) (pdss_one (pds_for PassesOwn.never rfl (pdi_range3 (by rfl) g.b_range (pda_cons (pd_len (pq_var 0) rfl (by rfl) g.b_len) (pda_cons pd_int (pda_cons (pd_neg pd_int) pda_nil)))) (pdg_name (i := 4) sc.nd rfl (Or.inl rfl)) (pdss_one (pds_if (pdt_cmp o_eq (op_eqU hu) (pd_ixV hu1 (pv 0) (pd_bin o_sub op_sub (pd_var 4) pd_int)) (pd_var 3) (nomark _)) (pdss_one (pds_setIx 2 (pd_var 4) (pd_bin o_add op_addU (pd_ixV hu1 (pv 2) (pd_var 4)) (pd_ixV hu1 (pv 2) (pd_bin o_sub op_sub (pd_var 4) pd_int))))) pdss_nil))))) (pdss_one (pds_ret (pd_ixV hu1 (pv 2) (pd_neg pd_int)))))), ?_⟩
  rintro ds Q E ⟨⟨u, w⟩, rfl, ⟨h1, h2⟩, hq⟩
  dsimp only at h1 h2 hq
  walk_at "dk"
  refine ⟨by simp, ?_⟩
  walk_at "dk"
  refine s_lc ?_
  walk_at "dk"
  refine s_lcAll (fun j acc => acc = List.replicate j (D.int 0)) rfl (fun j d acc e ea => ?_) (fun acc ea => ?_)
  · have lj := (List.getElem?_eq_some_iff.mp e).1
    rw [List.length_map] at lj
    subst ea
    refine s_lcT ?_
    walk_at "dk"
    exact ⟨rfl, by rw [List.length_replicate]; omega, List.replicate_succ'.symm⟩
  · rw [List.length_map] at ea
    subst ea
    refine s_addF ⟨by simp; omega, ?_⟩
    rw [List.singleton_append, one0 u w]
    walk_at "dk"
    walk_at "nm"
    refine DL.s_for ?_
    walk_at "dk"
    refine ⟨fun i ρ => ∃ (x y z : SV), ρ = [some (false, .str u), some (false, .str w), some (true, .lst (numsD (rowN (cn u w i) u.length))), x, y, z], ⟨_, _, _, rfl⟩, fun i d ρ e ⟨x, y, z, eρ⟩ => ?_, fun ρ ⟨x, y, z, eρ⟩ => ?_⟩
    · subst eρ
      obtain ⟨c, hc, rfl⟩ := chars_get e
      walk_at "dk"
      walk_at "nm"
      refine DL.s_for ?_
      refine s_irng3 ?_
      walk_at "dk"
      refine s_rngDown (by omega) ?_
      refine ⟨fun k ρ => ∃ (y : SV), ρ = [some (false, .str u), some (false, .str w), some (true, .lst (numsD (rowN (wv u w u.length i k) u.length))), some (false, .str [c]), y, z], ⟨y, ?_⟩, fun k d ρ e ⟨y, eρ⟩ => ?_, fun ρ ⟨y, eρ⟩ => ?_⟩
      · have : rowN (cn u w i) u.length = rowN (wv u w u.length i 0) u.length := rowN_congr fun j hj => by
          unfold wv; rw [if_neg (by omega)]
        rw [this]
      · subst eρ
        obtain ⟨hk, rfl⟩ := stepDown_get e
        have la : u.length - k - 1 < u.length := by omega
        have eu : u[u.length - k - 1]? = some (u[u.length - k - 1]) := List.getElem?_eq_getElem la
        generalize u[u.length - k - 1] = b at eu
        have v1 : wv u w u.length i k (u.length - k) = cn u w i (u.length - k) := by unfold wv; rw [if_neg (by omega)]
        have v2 : wv u w u.length i k (u.length - k - 1) = cn u w i (u.length - k - 1) := by unfold wv; rw [if_neg (by omega)]
        have v3 : wv u w u.length i (k + 1) (u.length - k) = cn u w i (u.length - k) + if b = c then cn u w i (u.length - k - 1) else 0 := by
          unfold wv
          rw [if_pos (by omega)]
          conv => lhs; rw [show u.length - k = (u.length - k - 1) + 1 by omega]
          rw [cn_s, eu, hc, show u.length - k - 1 + 1 = u.length - k by omega]
          by_cases e : b = c
          · rw [if_pos (by rw [e]), if_pos e]
          · rw [if_neg (by simpa using e), if_neg e]
        have v4 : ∀ j, j ≠ u.length - k → wv u w u.length i (k + 1) j = wv u w u.length i k j := fun j hj => by
          unfold wv
          by_cases h : u.length - k < j
          · rw [if_pos (by omega), if_pos h]
          · rw [if_neg (by omega), if_neg h]
        walk_at "dk"
        rw [show ((u.length - k : Nat) : Int) - 1 = ((u.length - k - 1 : Nat) : Int) by omega]
        refine DL.s_ixS (by omega) (atI_nat eu) ?_
        walk_at "dk"
        by_cases ec : b = c
        · rw [show decide ([b] = [c]) = true from decide_eq_true (by rw [ec])]
          rw [if_pos ec] at v3
          walk_at "dk"
          refine DL.s_ixL (atI_nat (numsD_at (rowN_get _ (by omega)))) ?_
          walk_at "dk"
          rw [show ((u.length - k : Nat) : Int) - 1 = ((u.length - k - 1 : Nat) : Int) by omega]
          refine DL.s_ixL (atI_nat (numsD_at (rowN_get _ (by omega)))) ?_
          walk_at "dk"
          refine ⟨⟨_, rfl⟩, ?_⟩
          walk_at "dk"
          refine s_setIxN rfl (ixN_nat (by rw [List.length_map, rowN_len]; omega)) ?_
          walk_at "dk"
          walk_at "nm"
          rw [v1, v2, show ((cn u w i (u.length - k) : Nat) : Int) + ((cn u w i (u.length - k - 1) : Nat) : Int) = ((cn u w i (u.length - k) + cn u w i (u.length - k - 1) : Nat) : Int) by omega]
          rw [rowN_set (f := wv u w u.length i k) (g := wv u w u.length i (k + 1)) (by omega) v3 fun j _ hj => v4 j hj]
          exact ⟨_, rfl⟩
        · rw [show decide ([b] = [c]) = false from decide_eq_false (fun z => ec (List.cons.inj z).1)]
          rw [if_neg ec] at v3
          walk_at "dk"
          have : rowN (wv u w u.length i (k + 1)) u.length = rowN (wv u w u.length i k) u.length := rowN_congr fun j _ => by
            by_cases e : j = u.length - k
            · subst e; rw [v3, v1, Nat.add_zero]
            · exact v4 j e
          rw [this]
          exact ⟨_, rfl⟩
      · subst eρ
        rw [stepD_len]
        have : rowN (wv u w u.length i u.length) u.length = rowN (cn u w (i + 1)) u.length := rowN_congr fun j hj => by
          unfold wv
          by_cases h : 0 < j
          · rw [if_pos (by omega)]
          · rw [if_neg (by omega), show j = 0 by omega, cn_0, cn_0]
        rw [this]
        exact ⟨_, _, _, rfl⟩
    · subst eρ
      rw [List.length_map]
      walk_at "dk"
      have ea : atI (numsD (rowN (cn u w w.length) u.length)) (-1) = some (.int (cn u w w.length u.length : Nat)) := by
        rw [atI_m1 (by rw [List.length_map, rowN_len]; omega)]
        rw [List.length_map, rowN_len, Nat.add_sub_cancel]
        exact numsD_at (rowN_get _ (Nat.le_refl _))
      refine DL.s_ixL ea ?_
      exact hq _ rfl
end W00
namespace W00
open PySem PySem.Spec L2 PyProof.Rows DL
open scoped List
local macro_rules | `(tactic| walk_at "d1") => `(tactic| with_reducible first
  | refine DL.s_seq ?_ | refine DL.s_asg ?_ | refine DL.s_gname ?_ | refine DL.s_gown ?_ | refine DL.s_ret ?_ | refine DL.s_retN ?_ | refine DL.s_drop ?_ | refine DL.s_ifs ?_ | refine DL.s_c ?_ | refine DL.s_op2 ?_ | refine DL.s_op1 ?_ | refine DL.s_nil ?_ | refine DL.s_cons ?_ | refine DL.s_next ?_
  | refine DL.s_call ?_ | refine DL.s_test ?_ | refine DL.s_truT ?_ | refine DL.s_and ?_ | refine DL.s_or ?_ | refine DL.s_not ?_ | refine DL.s_andV ?_ | refine DL.s_orV ?_ | refine DL.s_notV ?_ | refine DL.s_if ?_ | refine DL.s_lst ?_ | refine DL.s_tup ?_ | refine DL.s_slice ?_ | refine DL.s_nopart ?_ | refine DL.s_part ?_
  | refine DL.s_chain ?_ | refine DL.t_iany ?_ | refine DL.s_irng1 ?_ | refine DL.s_irng2 ?_ | refine DL.s_meth ?_ | refine DL.s_strT ?_ | refine DL.s_truB ?_ | refine DL.s_setF ?_ | refine DL.t_meth ?_ | refine DL.s_ienum ?_ | refine DL.s_enmS ?_ | refine DL.s_gcons ?_ | refine DL.s_gnil ?_ | refine DL.s_sort ?_ | refine DL.t_notinC ?_ | refine DL.t_inC ?_ | refine DL.s_itemS ?_ | refine DL.s_itemL ?_ | refine DL.s_addS ⟨by first | omega | (simp <;> omega), ?_⟩ | refine DL.s_lenS ⟨by omega, ?_⟩ | refine DL.s_ixS0 ?_ | refine DL.s_ixS1 ?_ | refine DL.s_ixT0 ?_ | refine DL.s_ixT1 ?_ | refine DL.s_max2 ?_ | refine DL.s_max2N ?_ | refine DL.s_find3 ?_ | refine DL.s_rfind ?_ | refine DL.s_set0 ?_ | refine DL.s_put ?_ | refine DL.s_fz ?_ | refine DL.s_make ?_ | refine DL.s_disp ?_ | refine DL.s_dpc ?_ | refine DL.s_dpn ?_ | refine DL.s_dict0 ?_ | refine DL.s_lcT2 ?_ | refine DL.s_lcT ?_ | refine DL.s_yes ?_
  | refine DL.s_addI ?_ | refine DL.s_I0 ?_ | refine DL.s_cmpI ?_ | refine DL.s_cmpS ?_ | refine DL.s_eqI ?_ | refine DL.s_neI ?_ | refine DL.s_eqB ?_ | refine DL.s_neB ?_ | refine DL.s_eqS ?_ | refine DL.s_neS ?_ | refine DL.s_isNon ?_ | refine DL.s_isnotNon ?_
  | refine DL.s_lenL ?_ | refine DL.s_lenT ?_ | refine DL.s_lenP ?_ | refine DL.s_intI ?_ | refine DL.s_intB ?_ | refine DL.s_listL ?_ | refine DL.s_listT ?_ | refine DL.s_tupL ?_ | refine DL.s_tupT ?_ | refine DL.s_raise ?_ | refine DL.s_mkE ?_ | refine DL.s_mk0 ?_ | refine DL.s_callX ?_ | refine DL.s_try ?_ | refine DL.s_ix0L ?_ | refine DL.s_ix1L ?_ | refine DL.s_neg ?_ | refine DL.s_listXL ?_ | refine DL.s_listXT ?_ | refine DL.s_step ?_ | refine DL.s_callB ?_ | refine DL.s_bnil ?_ | refine DL.s_bcons ?_ | refine DL.s_tab ?_ | refine DL.s_inTab ?_ | refine DL.s_inI ?_ | refine DL.s_seqO ?_)
local macro_rules | `(tactic| walk_at "d2") => `(tactic| first
  | ((with_reducible apply DL.s_var); exact rfl) | ((with_reducible apply DL.s_varO); exact rfl; rotate_left; exact rfl) | ((with_reducible apply DL.s_peek); exact rfl) | ((with_reducible apply DL.s_ixK); exact rfl) | ((with_reducible apply DL.s_ixJ); exact rfl; exact rfl)
  | ((with_reducible apply DL.s_ixV2); exact rfl) | ((with_reducible apply DL.s_ixV); exact ⟨_, rfl⟩) | ((with_reducible apply DL.s_isi); exact rfl) | ((with_reducible apply DL.s_isSome); exact rfl) | ((with_reducible apply DL.s_isnotSome); exact rfl) | ((with_reducible apply DL.s_gtup); exact rfl) | ((with_reducible apply DL.s_ixP); exact rfl) | ((with_reducible apply DL.s_setP); exact rfl; exact rfl) | ((with_reducible apply DL.s_retO); exact rfl))
local macro_rules | `(tactic| walk_at "dif") => `(tactic| with_reducible refine DL.s_ite (fun hb => ?_) (fun hb => ?_))
local macro_rules | `(tactic| walk_at "dgo") => `(tactic| repeat (first | walk_at "d1" | walk_at "d2" | (with_reducible refine DL.s_iteNT ?_) | (with_reducible refine DL.s_iteNF ?_) | (with_reducible refine DL.s_iteT ?_) | (with_reducible refine DL.s_iteF ?_) | dsimp only))
local macro_rules | `(tactic| walk_at "dgo1") => `(tactic| first | walk_at "d1" | walk_at "d2" | (with_reducible refine DL.s_iteNT ?_) | (with_reducible refine DL.s_iteNF ?_) | (with_reducible refine DL.s_iteT ?_) | (with_reducible refine DL.s_iteF ?_) | dsimp only)
local macro_rules | `(tactic| walk_at "dk") => `(tactic| repeat (first | walk_at "dgo1" | rw [dec_rfl'] | rw [dec_ne' _ (by decide)]))
local macro_rules | `(tactic| walk_at "nm") => `(tactic| simp only [List.map_cons, List.map_nil, List.set_cons_zero, List.set_cons_succ, List.cons_append, List.nil_append, List.length_cons, List.length_nil, List.replicate_succ, List.replicate_zero])
theorem ones (u w : List Nat) : List.replicate (w.length + 1) (D.int 1) = numsD (rowN (fun i => cn u w i 0) w.length) := by
  refine List.ext_getElem? fun j => ?_
  by_cases h : j ≤ w.length
  · rw [numsD_at (rowN_get _ h), List.getElem?_replicate, if_pos (by omega), cn_0]; rfl
  · rw [List.getElem?_eq_none (by simp; omega), List.getElem?_eq_none (by rw [List.length_map, rowN_len]; omega)]
theorem one_zero (u w : List Nat) (j : Nat) : [D.int 0] = numsD (rowN (fun i => cn u w i (j + 1)) 0) := rfl
abbrev sd_law_ways : SpD := mkSp (fun a : List Nat × List Nat => [.str a.1, .str a.2]) (fun a => a.1.length ≤ 1000 ∧ a.2.length ≤ 1000) (fun a d => d = .int (cn a.1 a.2 a.2.length a.1.length : Nat))
theorem ok_law_ways {P : Program} [PrF P] {w : World} {K : PySem.W.Frag} {mg : Str → Option Value} {base : Heap} (g : Gf K mg) : Ok P w K mg base "_law_ways" 1 ["piece", "word"] sd_law_ways := by
  refine ok_mk (k := 0) g.d_law_ways sc_law_ways (fun ds Q E ⟨a, e, _⟩ => by rw [e]; rfl) (fun cdv A outer s H E m hr => ?_)
  have hu := hr.units
  have hu1 := Nat.lt_of_le_of_lt (Nat.add_le_add_left (by decide : 1 ≤ 64) _) hu
  have sc := sc_law_ways
  refine ⟨_, (pdss_cons (pds_setLc (own := [("k", 5)]) (i := 2) rfl sc.nd rfl rfl (sw_true rfl rfl rfl (by decide +kernel)) (pdi_range1 (by rfl) g.b_range (pda_cons (pd_bin o_add op_addU (pd_len (pq_var 1) rfl (by rfl) g.b_len) pd_int) pda_nil)) (blkOk_by (N := ["piece", "word", "row", "letter", "further", "k"]) (sc := defScope s_law_ways) (by decide +kernel)) (ctg_name (by decide)) (fun _ _ _ _ _ => pg_name (i := 5) sc.nd rfl (Or.inl rfl)) (fun _ _ _ _ _ _ => pdts_nil) (fun _ _ _ _ _ _ => pd_int) s) (pdss_cons (pds_for PassesOwn.never rfl (pdi_any (pd_var 0)) (pdg_name (i := 3) sc.nd rfl (Or.inl rfl)) (pdss_cons (pds_setO (i := 4) sc.nd rfl (Or.inl rfl) (pf_lst (pda_cons pd_int pda_nil))) (pdss_cons (pds_for PassesOwn.never rfl (pdi_range1 (by rfl) g.b_range (pda_cons (pd_len (pq_var 1) rfl (by rfl) g.b_len) pda_nil)) (pdg_name (i := 5) sc.nd rfl (Or.inl rfl)) (pdss_one (pds_append 4 (pd_bin o_add op_addU (pd_ixV hu1 (pv 4) (pd_var 5)) (pd_bin o_mul op_mulU (pd_int1 (PD.pq (pd_cmp o_eq (op_eqU hu) (pd_ixV hu1 (pv 1) (pd_var 5)) (pd_var 3) (nomark _))) rfl (by rfl) g.b_int) (pd_ixV hu1 (pv 2) (pd_var 5))))))) (pdss_one (pds_set (i := 2) sc.nd rfl (Or.inl rfl) (pd_var 4)))))) (pdss_one (pds_ret (pd_ixV hu1 (pv 2) (pd_len (pq_var 1) rfl (by rfl) g.b_len)))))), ?_⟩
  rintro ds Q E ⟨⟨u, w⟩, rfl, ⟨h1, h2⟩, hq⟩
  dsimp only at h1 h2 hq
  walk_at "dk"
  refine s_lc ?_
  walk_at "dk"
  refine DL.s_rng1 ⟨by omega, by omega⟩ ?_
  refine s_lcAll (fun j acc => acc = List.replicate j (D.int 1)) rfl (fun j d acc e ea => ?_) (fun acc ea => ?_)
  · have lj := (List.getElem?_eq_some_iff.mp e).1
    rw [rangeD_len] at lj
    subst ea
    refine s_lcT ?_
    walk_at "dk"
    exact ⟨rfl, by rw [List.length_replicate]; omega, List.replicate_succ'.symm⟩
  · rw [rangeD_len, show ((w.length : Int) + 1).toNat = w.length + 1 by omega, ones u w] at ea
    subst ea
    walk_at "dk"
    walk_at "nm"
    refine DL.s_for ?_
    walk_at "dk"
    refine ⟨fun j ρ => ∃ (r : Bool) (x y z : SV), ρ = [some (false, .str u), some (false, .str w), some (r, .lst (numsD (rowN (fun i => cn u w i j) w.length))), x, y, z], ⟨_, _, _, _, rfl⟩, fun j d ρ e ⟨r, x, y, z, eρ⟩ => ?_, fun ρ ⟨r, x, y, z, eρ⟩ => ?_⟩
    · subst eρ
      obtain ⟨c, hc, rfl⟩ := chars_get e
      walk_at "dk"
      refine ⟨by simp, ?_⟩
      rw [one_zero u w j]
      walk_at "dk"
      walk_at "nm"
      refine DL.s_for ?_
      walk_at "dk"
      refine DL.s_rng1 ⟨by omega, by omega⟩ ?_
      refine ⟨fun k ρ => ∃ (z : SV), ρ = [some (false, .str u), some (false, .str w), some (r, .lst (numsD (rowN (fun i => cn u w i j) w.length))), some (false, .str [c]), some (true, .lst (numsD (rowN (fun i => cn u w i (j + 1)) k))), z], ⟨z, rfl⟩, fun k d ρ e ⟨z, eρ⟩ => ?_, fun ρ ⟨z, eρ⟩ => ?_⟩
      · subst eρ
        obtain ⟨hk, rfl⟩ := rangeD_get e
        have hk : k < w.length := by omega
        have ew : w[k]? = some (w[k]) := List.getElem?_eq_getElem hk
        generalize w[k] = b at ew
        refine DL.s_append ⟨_, rfl⟩ ?_
        walk_at "dk"
        rw [show (0 : Int) + (k : Nat) = ((k : Nat) : Int) by omega]
        refine DL.s_ixL (atI_nat (numsD_at (rowN_get _ (Nat.le_refl _)))) ?_
        walk_at "dk"
        refine DL.s_ixS (by omega) (atI_nat ew) ?_
        walk_at "dk"
        refine DL.s_ixL (atI_nat (numsD_at (rowN_get _ (by omega)))) ?_
        walk_at "dk"
        refine s_mulI ⟨.inl (by split <;> decide), ?_⟩
        walk_at "dk"
        have ev : (cn u w (k + 1) (j + 1) : Int) = (cn u w k (j + 1) : Int) + (if decide ([b] = [c]) = true then 1 else 0) * (cn u w k j : Int) := by
          rw [cn_s, hc, ew]
          by_cases e : b = c
          · rw [if_pos (by rw [e]), if_pos (decide_eq_true (by rw [e]))]; omega
          · rw [if_neg (by simpa using fun z => e z.symm), if_neg (by simpa using e)]; omega
        rw [← ev]
        refine DL.s_appN rfl ⟨?_, ?_⟩
        · rw [List.length_map, rowN_len]; omega
        · rw [rowN_snoc, ← numsD_app]
          exact ⟨_, rfl⟩
      · subst eρ
        rw [rangeD_len, show ((w.length : Int)).toNat = w.length by omega]
        walk_at "dk"
        exact ⟨_, _, _, _, rfl⟩
    · subst eρ
      rw [List.length_map]
      walk_at "dk"
      refine DL.s_ixL (atI_nat (numsD_at (rowN_get _ (Nat.le_refl _)))) ?_
      exact hq _ rfl
end W00
namespace W00
open PySem PySem.Spec L2 PyProof.Rows DL
open scoped List
local macro_rules | `(tactic| walk_at "d1") => `(tactic| with_reducible first
  | refine DL.s_seq ?_ | refine DL.s_asg ?_ | refine DL.s_gname ?_ | refine DL.s_gown ?_ | refine DL.s_ret ?_ | refine DL.s_retN ?_ | refine DL.s_drop ?_ | refine DL.s_ifs ?_ | refine DL.s_c ?_ | refine DL.s_op2 ?_ | refine DL.s_op1 ?_ | refine DL.s_nil ?_ | refine DL.s_cons ?_ | refine DL.s_next ?_
  | refine DL.s_call ?_ | refine DL.s_test ?_ | refine DL.s_truT ?_ | refine DL.s_and ?_ | refine DL.s_or ?_ | refine DL.s_not ?_ | refine DL.s_andV ?_ | refine DL.s_orV ?_ | refine DL.s_notV ?_ | refine DL.s_if ?_ | refine DL.s_lst ?_ | refine DL.s_tup ?_ | refine DL.s_slice ?_ | refine DL.s_nopart ?_ | refine DL.s_part ?_
  | refine DL.s_chain ?_ | refine DL.t_iany ?_ | refine DL.s_irng1 ?_ | refine DL.s_irng2 ?_ | refine DL.s_meth ?_ | refine DL.s_strT ?_ | refine DL.s_truB ?_ | refine DL.s_setF ?_ | refine DL.t_meth ?_ | refine DL.s_ienum ?_ | refine DL.s_enmS ?_ | refine DL.s_gcons ?_ | refine DL.s_gnil ?_ | refine DL.s_sort ?_ | refine DL.t_notinC ?_ | refine DL.t_inC ?_ | refine DL.s_itemS ?_ | refine DL.s_itemL ?_ | refine DL.s_addS ⟨by first | omega | (simp <;> omega), ?_⟩ | refine DL.s_lenS ⟨by omega, ?_⟩ | refine DL.s_ixS0 ?_ | refine DL.s_ixS1 ?_ | refine DL.s_ixT0 ?_ | refine DL.s_ixT1 ?_ | refine DL.s_max2 ?_ | refine DL.s_max2N ?_ | refine DL.s_find3 ?_ | refine DL.s_rfind ?_ | refine DL.s_set0 ?_ | refine DL.s_put ?_ | refine DL.s_fz ?_ | refine DL.s_make ?_ | refine DL.s_disp ?_ | refine DL.s_dpc ?_ | refine DL.s_dpn ?_ | refine DL.s_dict0 ?_ | refine DL.s_lcT2 ?_ | refine DL.s_lcT ?_ | refine DL.s_yes ?_
  | refine DL.s_addI ?_ | refine DL.s_I0 ?_ | refine DL.s_cmpI ?_ | refine DL.s_cmpS ?_ | refine DL.s_eqI ?_ | refine DL.s_neI ?_ | refine DL.s_eqB ?_ | refine DL.s_neB ?_ | refine DL.s_eqS ?_ | refine DL.s_neS ?_ | refine DL.s_isNon ?_ | refine DL.s_isnotNon ?_
  | refine DL.s_lenL ?_ | refine DL.s_lenT ?_ | refine DL.s_lenP ?_ | refine DL.s_intI ?_ | refine DL.s_intB ?_ | refine DL.s_listL ?_ | refine DL.s_listT ?_ | refine DL.s_tupL ?_ | refine DL.s_tupT ?_ | refine DL.s_raise ?_ | refine DL.s_mkE ?_ | refine DL.s_mk0 ?_ | refine DL.s_callX ?_ | refine DL.s_try ?_ | refine DL.s_ix0L ?_ | refine DL.s_ix1L ?_ | refine DL.s_neg ?_ | refine DL.s_listXL ?_ | refine DL.s_listXT ?_ | refine DL.s_step ?_ | refine DL.s_callB ?_ | refine DL.s_bnil ?_ | refine DL.s_bcons ?_ | refine DL.s_tab ?_ | refine DL.s_inTab ?_ | refine DL.s_inI ?_ | refine DL.s_seqO ?_)
local macro_rules | `(tactic| walk_at "d2") => `(tactic| first
  | ((with_reducible apply DL.s_var); exact rfl) | ((with_reducible apply DL.s_varO); exact rfl; rotate_left; exact rfl) | ((with_reducible apply DL.s_peek); exact rfl) | ((with_reducible apply DL.s_ixK); exact rfl) | ((with_reducible apply DL.s_ixJ); exact rfl; exact rfl)
  | ((with_reducible apply DL.s_ixV2); exact rfl) | ((with_reducible apply DL.s_ixV); exact ⟨_, rfl⟩) | ((with_reducible apply DL.s_isi); exact rfl) | ((with_reducible apply DL.s_isSome); exact rfl) | ((with_reducible apply DL.s_isnotSome); exact rfl) | ((with_reducible apply DL.s_gtup); exact rfl) | ((with_reducible apply DL.s_ixP); exact rfl) | ((with_reducible apply DL.s_setP); exact rfl; exact rfl) | ((with_reducible apply DL.s_retO); exact rfl))
local macro_rules | `(tactic| walk_at "dif") => `(tactic| with_reducible refine DL.s_ite (fun hb => ?_) (fun hb => ?_))
local macro_rules | `(tactic| walk_at "dgo") => `(tactic| repeat (first | walk_at "d1" | walk_at "d2" | (with_reducible refine DL.s_iteNT ?_) | (with_reducible refine DL.s_iteNF ?_) | (with_reducible refine DL.s_iteT ?_) | (with_reducible refine DL.s_iteF ?_) | dsimp only))
local macro_rules | `(tactic| walk_at "dgo1") => `(tactic| first | walk_at "d1" | walk_at "d2" | (with_reducible refine DL.s_iteNT ?_) | (with_reducible refine DL.s_iteNF ?_) | (with_reducible refine DL.s_iteT ?_) | (with_reducible refine DL.s_iteF ?_) | dsimp only)
local macro_rules | `(tactic| walk_at "dk") => `(tactic| repeat (first | walk_at "dgo1" | rw [dec_rfl'] | rw [dec_ne' _ (by decide)]))
local macro_rules | `(tactic| walk_at "nm") => `(tactic| simp only [List.map_cons, List.map_nil, List.set_cons_zero, List.set_cons_succ, List.cons_append, List.nil_append, List.length_cons, List.length_nil, List.replicate_succ, List.replicate_zero])
local macro_rules | `(tactic| walk_at "dg") => `(tactic| repeat (first | walk_at "dgo1" | rw [dec_rfl'] | (with_reducible refine DL.g_seq ?_) | (with_reducible refine DL.g_plain ?_) | (with_reducible refine DL.g_from ?_) | (with_reducible refine DL.g_0 ?_)))
abbrev wds (l : List (List Nat)) : List D := l.map .str
theorem wds_get {l : List (List Nat)} {i : Nat} {d : D} (h : (wds l)[i]? = some d) : ∃ w, l[i]? = some w ∧ d = .str w := by
  rw [List.getElem?_map] at h
  cases e : l[i]? with
  | none => rw [e] at h; cases h
  | some c => rw [e] at h; exact ⟨c, rfl, (Option.some.inj h).symm⟩
abbrev sd_law_words : SpD := mkSp (fun a : List Nat × Nat => [.str a.1, .int (a.2 : Nat)]) (fun a => a.1.length ≤ 3 ∧ a.2 ≤ 6) (fun a d => d = .lst (wds (uptoW a.1 a.2)))
theorem wds_app (a b : List (List Nat)) : wds a ++ wds b = wds (a ++ b) := (List.map_append).symm
theorem wds_len (a : List (List Nat)) : (wds a).length = a.length := List.length_map _
theorem flat_take {α β : Type} (f : α → List β) {l : List α} {j : Nat} {a : α} (h : l[j]? = some a) : (l.take (j + 1)).flatMap f = (l.take j).flatMap f ++ f a := by
  rw [List.take_add_one, h, List.flatMap_append]
  simp
theorem flat_len {ls : List Nat} {l : List (List Nat)} : (l.flatMap fun w => ls.map fun c => w ++ [c]).length = l.length * ls.length := by
  rw [List.length_flatMap]
  simp only [List.length_map]
  rw [List.map_const', List.sum_replicate_nat]
theorem ok_law_words {P : Program} [PrF P] {w : World} {K : PySem.W.Frag} {mg : Str → Option Value} {base : Heap} (g : Gf K mg) : Ok P w K mg base "_law_words" 1 ["letters", "most"] sd_law_words := by
  refine ok_mk (k := 0) g.d_law_words sc_law_words (fun ds Q E ⟨a, e, _⟩ => by rw [e]; rfl) (fun cdv A outer s H E m hr => ?_)
  have hu := hr.units
  have hu1 := Nat.lt_of_le_of_lt (Nat.add_le_add_left (by decide : 1 ≤ 64) _) hu
  have sc := sc_law_words
  refine ⟨_, (pdss_cons (pds_set (i := 2) sc.nd rfl (Or.inl rfl) (pd_lst (pda_cons (pd_str []) pda_nil))) (pdss_cons (pds_set (i := 3) sc.nd rfl (Or.inl rfl) (pd_lst (pda_cons (pd_str []) pda_nil))) (pdss_cons (pds_for PassesOwn.never rfl (pdi_range1 (by rfl) g.b_range (pda_cons (pd_var 1) pda_nil)) (pdg_name (i := 4) sc.nd rfl (Or.inl rfl)) (pdss_cons (pds_setO (i := 5) sc.nd rfl (Or.inl rfl) (pf_lst pda_nil)) (pdss_cons (pds_for PassesOwn.never rfl (pdi_any (pd_var 3)) (pdg_name (i := 6) sc.nd rfl (Or.inl rfl)) (pdss_one (pds_for PassesOwn.never rfl (pdi_any (pd_var 0)) (pdg_name (i := 7) sc.nd rfl (Or.inl rfl)) (pdss_one (pds_append 5 (pd_bin o_add op_addU (pd_var 6) (pd_var 7))))))) (pdss_cons (pds_set (i := 3) sc.nd rfl (Or.inl rfl) (pd_listX rfl (pq_var 5) rfl (by rfl) g.b_list)) (pdss_one (pds_set (i := 2) sc.nd rfl (Or.inl rfl) (pd_bin o_add op_addU (pd_var 2) (pd_var 3)))))))) (pdss_one (pds_ret (pd_var 2)))))), ?_⟩
  rintro ds Q E ⟨⟨ls, n⟩, rfl, ⟨h1, h2⟩, hq⟩
  dsimp only at h1 h2 hq
  walk_at "dgo"
  refine ⟨by simp, ?_⟩
  walk_at "dgo"
  refine ⟨by simp, ?_⟩
  walk_at "dgo"
  refine DL.s_for ?_
  walk_at "dgo"
  refine DL.s_rng1 ⟨by omega, by omega⟩ ?_
  refine ⟨fun i ρ => ∃ (x4 x5 x6 x7 : SV), ρ = [some (false, .str ls), some (false, .int (n : Nat)), some (false, .lst (wds (uptoW ls i))), some (false, .lst (wds (rowW ls i))), x4, x5, x6, x7], ⟨_, _, _, _, rfl⟩, fun i d ρ e ⟨x4, x5, x6, x7, eρ⟩ => ?_, fun ρ ⟨x4, x5, x6, x7, eρ⟩ => ?_⟩
  · subst eρ
    obtain ⟨hi, rfl⟩ := rangeD_get e
    have hi : i < n := by omega
    have b0 := row_len3 h1 (k := i) (by omega)
    have b1 := row_len3 h1 (k := i + 1) (by omega)
    have b2 := upto_len h1 (k := i)
    have b3 : 4 ^ i ≤ 4 ^ 6 := Nat.pow_le_pow_right (by decide) (by omega)
    have hw : ∀ w ∈ rowW ls i, w.length = i := fun w hw => (row_mem.mp hw).1
    walk_at "dgo"
    refine ⟨by simp, ?_⟩
    walk_at "dgo"
    refine DL.s_for ?_
    walk_at "dgo"
    refine ⟨fun j ρ => ∃ (x6 x7 : SV), ρ = [some (false, .str ls), some (false, .int (n : Nat)), some (false, .lst (wds (uptoW ls i))), some (false, .lst (wds (rowW ls i))), some (false, .int (0 + (i : Nat))), some (true, .lst (wds (((rowW ls i).take j).flatMap fun w => ls.map fun c => w ++ [c]))), x6, x7], ⟨_, _, rfl⟩, fun j d ρ e ⟨x6, x7, eρ⟩ => ?_, fun ρ ⟨x6, x7, eρ⟩ => ?_⟩
    · subst eρ
      obtain ⟨w, ew, rfl⟩ := wds_get e
      have lw := hw w (List.mem_of_getElem? ew)
      have lt := (List.getElem?_eq_some_iff.mp ew).1
      walk_at "dgo"
      refine DL.s_for ?_
      walk_at "dgo"
      refine ⟨fun k ρ => ∃ (x7 : SV), ρ = [some (false, .str ls), some (false, .int (n : Nat)), some (false, .lst (wds (uptoW ls i))), some (false, .lst (wds (rowW ls i))), some (false, .int (0 + (i : Nat))), some (true, .lst (wds ((((rowW ls i).take j).flatMap fun w => ls.map fun c => w ++ [c]) ++ (ls.take k).map fun c => w ++ [c]))), some (false, .str w), x7], ⟨_, by rw [List.take_zero, List.map_nil, List.append_nil]; rfl⟩, fun k d ρ e ⟨x7, eρ⟩ => ?_, fun ρ ⟨x7, eρ⟩ => ?_⟩
      · subst eρ
        obtain ⟨c, ec, rfl⟩ := chars_get e
        have ltk := (List.getElem?_eq_some_iff.mp ec).1
        refine DL.s_append ⟨_, rfl⟩ ?_
        walk_at "dgo"
        refine DL.s_appN rfl ⟨?_, ?_⟩
        · rw [wds_len, List.length_append, flat_len, List.length_map, List.length_take, List.length_take]
          have : min j (rowW ls i).length * ls.length ≤ 729 * 3 := Nat.mul_le_mul (by omega) h1
          omega
        · exact ⟨_, by rw [take_snoc ec, List.map_append, ← List.append_assoc]; simp only [← wds_app]; rfl⟩
      · subst eρ
        rw [List.length_map, List.take_length]
        exact ⟨_, _, by rw [flat_take _ ew]⟩
    · subst eρ
      rw [wds_len, List.take_length]
      dsimp only
      walk_at "dgo"
      refine DL.s_addL ⟨?_, ?_⟩
      · rw [wds_len, wds_len]
        change (uptoW ls i).length + (rowW ls (i + 1)).length ≤ _
        omega
      · exact ⟨_, _, _, _, by rw [wds_app]; rfl⟩
  · subst eρ
    walk_at "dgo"
    rw [rangeD_len]
    exact hq _ rfl
theorem ext_snoc {ls : List Nat} {j c : Nat} (w : List Nat) (h : ls[j]? = some c) : ext (ls.take (j + 1)) w = ext (ls.take j) w ++ [w ++ [c]] := by
  unfold ext
  rw [take_snoc h, List.map_append]; rfl
theorem ext_len (ls w : List Nat) : (ext ls w).length = ls.length := by simp [ext]
abbrev sg_short_words : SgD := mkSg (fun a : List Nat × Nat => [.str a.1, .int (a.2 : Nat)]) (fun a => a.1.length ≤ 3 ∧ a.2 ≤ 6) (fun a o => o = wds (uptoW a.1 a.2))
theorem okg_short_words {P : Program} [PrF P] {w : World} {K : PySem.W.Frag} {mg : Str → Option Value} {base : Heap} (g : Gf K mg) : OkGD P w K mg base "short_words" 1 ["letters", "most"] sg_short_words [.int 3] := by
  refine okGD_of g.d_short_words (okG_mk (k := 0) sc_short_words (fun ds Q ⟨a, e, _⟩ => by rw [e]; rfl) (fun cdv A outer s H E pn m hr => ?_))
  have hu := hr.units
  have hu1 := Nat.lt_of_le_of_lt (Nat.add_le_add_left (by decide : 1 ≤ 64) _) hu
  have sc := sc_short_words
  refine ⟨_, (pgss_cons (pgs_plain (pds_set (i := 2) sc.nd rfl (Or.inl rfl) (pd_lst (pda_cons (pd_str []) pda_nil)))) (pgss_cons (pgs_yield (pd_str [])) (pgss_cons (pgs_for owns_gcx rfl (pdi_range1 (by rfl) g.b_range (pda_cons (pd_var 1) pda_nil)) (pdg_name (i := 3) sc.nd rfl (Or.inl rfl)) (pgss_cons (pgs_plain (pds_setLc2 (own := [("word", 4), ("letter", 5)]) (vs1 := [5]) (i := 2) rfl sc.nd rfl rfl (sw_true rfl rfl rfl (by decide +kernel)) (pdi_any (pd_var 2)) (blkOk_by (N := ["letters", "most", "row", "_", "word", "letter"]) (sc := defScope s_short_words) (by decide +kernel)) (by decide) (ctg_name (by decide)) (fun _ _ _ _ _ => pg_name (i := 4) sc.nd rfl (Or.inl rfl)) (fun _ _ _ _ _ _ => pdts_nil) (fun _ _ _ _ _ _ => (pdi_any (pd_var 0))) (ctg_name (by decide)) (fun _ _ _ _ _ => pg_name (i := 5) sc.nd rfl (Or.inl rfl)) (fun _ _ _ _ _ _ => pdts_nil) (fun _ _ _ _ _ _ => (pd_bin o_add op_addU (pd_var 4) (pd_var 5))) s)) (pgss_cons (pgs_from (pd_var 2) hr.hd) pgss_nil))) pgss_nil))), ?_⟩
  rintro ds Q ⟨⟨ls, n⟩, rfl, ⟨h1, h2⟩, hq⟩
  dsimp only at h1 h2 hq
  walk_at "dg"
  refine ⟨by simp, ?_⟩
  walk_at "dg"
  walk_at "nm"
  refine DL.g_yield ⟨by simp, ?_⟩
  walk_at "dg"
  refine DL.g_for ?_
  walk_at "dg"
  refine DL.s_rng1 ⟨by omega, by omega⟩ ?_
  refine ⟨fun i o ρ => ∃ (x3 x4 x5 : SV), o = wds (uptoW ls i) ∧ ρ = [some (false, .str ls), some (false, .int (n : Nat)), some (false, .lst (wds (rowW ls i))), x3, x4, x5], ⟨_, _, _, rfl, rfl⟩, fun i d o ρ e ⟨x3, x4, x5, eo, eρ⟩ => ?_, fun o ρ ⟨x3, x4, x5, eo, eρ⟩ => ?_⟩
  · subst eo eρ
    obtain ⟨hi, rfl⟩ := rangeD_get e
    have hi : i < n := by omega
    have b0 := row_len3 h1 (k := i) (by omega)
    have b1 := row_len3 h1 (k := i + 1) (by omega)
    have b2 := upto_len h1 (k := i)
    have b3 : 4 ^ i ≤ 4 ^ 6 := Nat.pow_le_pow_right (by decide) (by omega)
    have hw : ∀ w ∈ rowW ls i, w.length = i := fun w hw => (row_mem.mp hw).1
    walk_at "dg"
    walk_at "nm"
    refine s_lc2 ?_
    walk_at "dg"
    refine ⟨fun j acc => acc = wds (((rowW ls i).take j).flatMap (ext ls)), rfl, fun j d acc e ea => ?_, fun acc ea => ?_⟩
    · obtain ⟨w, ew, rfl⟩ := wds_get e
      have lw := hw w (List.mem_of_getElem? ew)
      have lt := (List.getElem?_eq_some_iff.mp ew).1
      subst ea
      refine s_lcT2 ?_
      walk_at "dg"
      refine ⟨rfl, fun k acc => acc = wds (((rowW ls i).take j).flatMap (ext ls) ++ ext (ls.take k) w), ?_, fun k d acc e ea => ?_, fun acc ea => ?_⟩
      · show wds _ = wds (_ ++ [])
        rw [List.append_nil]
      · obtain ⟨c, ec, rfl⟩ := chars_get e
        have ltk := (List.getElem?_eq_some_iff.mp ec).1
        subst ea
        refine s_lcT ?_
        walk_at "dg"
        refine ⟨rfl, ?_, ?_⟩
        · rw [wds_len, List.length_append, ext_len, List.length_take]
          have e1 : (((rowW ls i).take j).flatMap (ext ls)).length = min j (rowW ls i).length * ls.length := by
            rw [show ext ls = fun w => ls.map fun c => w ++ [c] from rfl, flat_len, List.length_take]
          have : min j (rowW ls i).length * ls.length ≤ 729 * 3 := Nat.mul_le_mul (by omega) h1
          omega
        · rw [ext_snoc w ec, ← List.append_assoc, ← wds_app (_ ++ _)]
          rfl
      · subst ea
        rw [List.length_map, List.take_length, flat_take _ ew]
    · subst ea
      rw [wds_len, List.take_length]
      have hR : (rowW ls i).flatMap (ext ls) = rowW ls (i + 1) := rfl
      rw [hR]
      walk_at "dg"
      walk_at "nm"
      refine ⟨?_, _, _, _, ?_, rfl⟩
      · rw [wds_len, wds_len]; omega
      · rw [wds_app]; rfl
  · subst eo eρ
    rw [rangeD_len]
    exact hq _ rfl
end W00
namespace W00
open PySem PySem.Spec L2 PyProof.Rows DL
open scoped List
local macro_rules | `(tactic| walk_at "d1") => `(tactic| with_reducible first
  | refine DL.s_seq ?_ | refine DL.s_asg ?_ | refine DL.s_gname ?_ | refine DL.s_gown ?_ | refine DL.s_ret ?_ | refine DL.s_retN ?_ | refine DL.s_drop ?_ | refine DL.s_ifs ?_ | refine DL.s_c ?_ | refine DL.s_op2 ?_ | refine DL.s_op1 ?_ | refine DL.s_nil ?_ | refine DL.s_cons ?_ | refine DL.s_next ?_
  | refine DL.s_call ?_ | refine DL.s_test ?_ | refine DL.s_truT ?_ | refine DL.s_and ?_ | refine DL.s_or ?_ | refine DL.s_not ?_ | refine DL.s_andV ?_ | refine DL.s_orV ?_ | refine DL.s_notV ?_ | refine DL.s_if ?_ | refine DL.s_lst ?_ | refine DL.s_tup ?_ | refine DL.s_slice ?_ | refine DL.s_nopart ?_ | refine DL.s_part ?_
  | refine DL.s_chain ?_ | refine DL.t_iany ?_ | refine DL.s_irng1 ?_ | refine DL.s_irng2 ?_ | refine DL.s_meth ?_ | refine DL.s_strT ?_ | refine DL.s_truB ?_ | refine DL.s_setF ?_ | refine DL.t_meth ?_ | refine DL.s_ienum ?_ | refine DL.s_enmS ?_ | refine DL.s_gcons ?_ | refine DL.s_gnil ?_ | refine DL.s_sort ?_ | refine DL.t_notinC ?_ | refine DL.t_inC ?_ | refine DL.s_itemS ?_ | refine DL.s_itemL ?_ | refine DL.s_addS ⟨by first | omega | (simp <;> omega), ?_⟩ | refine DL.s_lenS ⟨by omega, ?_⟩ | refine DL.s_ixS0 ?_ | refine DL.s_ixS1 ?_ | refine DL.s_ixT0 ?_ | refine DL.s_ixT1 ?_ | refine DL.s_max2 ?_ | refine DL.s_max2N ?_ | refine DL.s_find3 ?_ | refine DL.s_rfind ?_ | refine DL.s_set0 ?_ | refine DL.s_put ?_ | refine DL.s_fz ?_ | refine DL.s_make ?_ | refine DL.s_disp ?_ | refine DL.s_dpc ?_ | refine DL.s_dpn ?_ | refine DL.s_dict0 ?_ | refine DL.s_lcT2 ?_ | refine DL.s_lcT ?_ | refine DL.s_yes ?_
  | refine DL.s_addI ?_ | refine DL.s_I0 ?_ | refine DL.s_cmpI ?_ | refine DL.s_cmpS ?_ | refine DL.s_eqI ?_ | refine DL.s_neI ?_ | refine DL.s_eqB ?_ | refine DL.s_neB ?_ | refine DL.s_eqS ?_ | refine DL.s_neS ?_ | refine DL.s_isNon ?_ | refine DL.s_isnotNon ?_
  | refine DL.s_lenL ?_ | refine DL.s_lenT ?_ | refine DL.s_lenP ?_ | refine DL.s_intI ?_ | refine DL.s_intB ?_ | refine DL.s_listL ?_ | refine DL.s_listT ?_ | refine DL.s_tupL ?_ | refine DL.s_tupT ?_ | refine DL.s_raise ?_ | refine DL.s_mkE ?_ | refine DL.s_mk0 ?_ | refine DL.s_callX ?_ | refine DL.s_try ?_ | refine DL.s_ix0L ?_ | refine DL.s_ix1L ?_ | refine DL.s_neg ?_ | refine DL.s_listXL ?_ | refine DL.s_listXT ?_ | refine DL.s_step ?_ | refine DL.s_callB ?_ | refine DL.s_bnil ?_ | refine DL.s_bcons ?_ | refine DL.s_tab ?_ | refine DL.s_inTab ?_ | refine DL.s_inI ?_ | refine DL.s_seqO ?_)
local macro_rules | `(tactic| walk_at "d2") => `(tactic| first
  | ((with_reducible apply DL.s_var); exact rfl) | ((with_reducible apply DL.s_varO); exact rfl; rotate_left; exact rfl) | ((with_reducible apply DL.s_peek); exact rfl) | ((with_reducible apply DL.s_ixK); exact rfl) | ((with_reducible apply DL.s_ixJ); exact rfl; exact rfl)
  | ((with_reducible apply DL.s_ixV2); exact rfl) | ((with_reducible apply DL.s_ixV); exact ⟨_, rfl⟩) | ((with_reducible apply DL.s_isi); exact rfl) | ((with_reducible apply DL.s_isSome); exact rfl) | ((with_reducible apply DL.s_isnotSome); exact rfl) | ((with_reducible apply DL.s_gtup); exact rfl) | ((with_reducible apply DL.s_ixP); exact rfl) | ((with_reducible apply DL.s_setP); exact rfl; exact rfl) | ((with_reducible apply DL.s_retO); exact rfl))
local macro_rules | `(tactic| walk_at "dif") => `(tactic| with_reducible refine DL.s_ite (fun hb => ?_) (fun hb => ?_))
local macro_rules | `(tactic| walk_at "dgo") => `(tactic| repeat (first | walk_at "d1" | walk_at "d2" | (with_reducible refine DL.s_iteNT ?_) | (with_reducible refine DL.s_iteNF ?_) | (with_reducible refine DL.s_iteT ?_) | (with_reducible refine DL.s_iteF ?_) | dsimp only))
local macro_rules | `(tactic| walk_at "dgo1") => `(tactic| first | walk_at "d1" | walk_at "d2" | (with_reducible refine DL.s_iteNT ?_) | (with_reducible refine DL.s_iteNF ?_) | (with_reducible refine DL.s_iteT ?_) | (with_reducible refine DL.s_iteF ?_) | dsimp only)
local macro_rules | `(tactic| walk_at "dk") => `(tactic| repeat (first | walk_at "dgo1" | rw [dec_rfl'] | rw [dec_ne' _ (by decide)]))
local macro_rules | `(tactic| walk_at "nm") => `(tactic| simp only [List.map_cons, List.map_nil, List.set_cons_zero, List.set_cons_succ, List.cons_append, List.nil_append, List.length_cons, List.length_nil, List.replicate_succ, List.replicate_zero])
abbrev sd_pieces_of (C : Addr) : SpD := mkSpX (fun a : List Nat × Int => [.str a.1, .int a.2]) (fun a => a.2 < 0 ∨ 6 < a.2) (fun _ _ => False) (fun a C' ns vs => C' = C ∧ ns = [("limit" : Str)] ∧ vs = [.int 6])
theorem okx_pieces_of {P : Program} [PrF P] {w : World} {K : PySem.W.Frag} {mg : Str → Option Value} {base : Heap} (g : Gf K mg) : OkX P w K mg base "pieces_of" 4 ["word", "most"] (sd_pieces_of (He.ga K "LimitError")) := by
  refine okX_mk (k := 3) g.d_pieces_of sc_pieces_of (fun ds Q E ⟨a, e, _⟩ => by rw [e]; rfl) (fun X m wd cdv A outer s H E hX hr tk hp => ?_)
  subst hX
  have hu := hr.units
  have hu1 := Nat.lt_of_le_of_lt (Nat.add_le_add_left (by decide : 1 ≤ 64) _) hu
  have sc := sc_pieces_of
  refine ⟨_, (pdss_cons (pds_if (pdt_not (pdt_chain o_le o_le op_leU op_leU pd_int (pd_var 1) (pd_cint g.k_MOST_PIECE))) (pdss_one (pds_raise rfl tk (pdm_ex (oke_LimitError (P := P) g) hr (by decide) (pd_cint g.k_MOST_PIECE)))) pdss_nil) (pdss_cons (pds_set (i := 2) sc.nd rfl (Or.inr rfl) (pd_fn (ok_contents (P := P) g) hr (by decide) (pda_cons (pd_var 0) pda_nil))) (pdss_cons (pds_set (i := 3) sc.nd rfl (Or.inl rfl) (pd_lst (pda_cons (pd_str []) pda_nil))) (pdss_cons (pds_set (i := 4) sc.nd rfl (Or.inl rfl) (pd_lst (pda_cons (pd_str []) pda_nil))) (pdss_cons (pds_for hp rfl (pdi_range1 (by rfl) g.b_range (pda_cons (pd_var 1) pda_nil)) (pdg_name (i := 5) sc.nd rfl (Or.inl rfl)) (pdss_cons (pds_setLc2 (own := [("piece", 6), ("letter", 7)]) (vs1 := [7]) (i := 4) rfl sc.nd rfl rfl (sw_true rfl rfl rfl (by decide +kernel)) (pdi_any (pd_var 4)) (blkOk_by (N := ["word", "most", "letters", "found", "row", "_", "piece", "letter"]) (sc := defScope s_pieces_of) (by decide +kernel)) (by decide) (ctg_name (by decide)) (fun _ _ _ _ _ => pg_name (i := 6) sc.nd rfl (Or.inl rfl)) (fun _ _ _ _ _ _ => pdts_nil) (fun _ _ _ _ _ _ => (pdi_any (pd_var 2))) (ctg_name (by decide)) (fun _ _ _ _ _ => pg_name (i := 7) sc.nd rfl (Or.inl rfl)) (fun _ _ _ _ _ _ => pdts_one (pdt_tru (PD.pq (pd_fn (ok_is_piece (P := P) g) hr (by decide) (pda_cons (pd_bin o_add op_addU (pd_var 6) (pd_var 7)) (pda_cons (pd_var 0) pda_nil)))))) (fun _ _ _ _ _ _ => (pd_bin o_add op_addU (pd_var 6) (pd_var 7))) s) (pdss_one (pds_set (i := 3) sc.nd rfl (Or.inl rfl) (pd_bin o_add op_addU (pd_var 3) (pd_var 4)))))) (pdss_one (pds_ret (pd_var 3)))))))), ?_⟩
  rintro ds Q XE hX ⟨⟨w, n⟩, rfl, h, hq, hx⟩
  dsimp only at h
  have raise : ∀ ρ, wd (He.ga K "LimitError") ["limit"] [.int 6] ρ := fun ρ => hX _ _ _ _ (hx _ _ _ ⟨rfl, rfl, rfl⟩)
  walk_at "dk"
  by_cases h0 : (0 : Int) ≤ n
  · rw [decide_eq_true h0]
    walk_at "dk"
    rw [decide_eq_false (show ¬ n ≤ 6 by omega)]
    walk_at "dk"
    exact raise _
  · rw [decide_eq_false h0]
    walk_at "dk"
    exact raise _
abbrev sd_law_refused : SpD := mkSp (fun a : List Nat × Int => [.str a.1, .int a.2]) (fun a => a.2 < 0 ∨ 6 < a.2) (fun a d => d = .lst (clsLimitError ++ [.int 6]))
theorem ok_law_refused {P : Program} [PrF P] {w : World} {K : PySem.W.Frag} {mg : Str → Option Value} {base : Heap} (g : Gf K mg) : Ok P w K mg base "_law_refused" 5 ["word", "most"] sd_law_refused := by
  refine ok_mk (k := 4) g.d_law_refused sc_law_refused (fun ds Q E ⟨a, e, _⟩ => by rw [e]; rfl) (fun cdv A outer s H E m hr => ?_)
  have hu := hr.units
  have hu1 := Nat.lt_of_le_of_lt (Nat.add_le_add_left (by decide : 1 ≤ 64) _) hu
  have sc := sc_law_refused
  refine ⟨_, (pdss_cons (pds_try_as (i := 2) (c := .ref (He.ga K "LimitError")) rfl rfl sc.nd rfl rfl ⟨rfl, by decide, .inl g.gl_LimitError⟩ take0N (fun m1 wd1 pn1 xe1 tk hp => (pdss_one (pds_expr (pd_fnX tk (okx_pieces_of (P := P) g) hr (by decide) (pda_cons (pd_var 0) (pda_cons (pd_var 1) pda_nil)))))) (fun a1 oe1 cls1 d1 pn1 hz hv => (pdss_one (pds_ret (pd_bin o_add op_addU (pd_fnE (okh_law_classes (P := P) g) hr (by decide) hz hv (pda_cons (pd_var 2) pda_nil)) (pd_lst (pda_cons (pd_xf g.xf_LimitError g.nof_LimitError_limit hz hv (pv 2)) pda_nil))))))) (pdss_one (pds_ret (pd_lst pda_nil)))), ?_⟩
  rintro ds Q E ⟨⟨w, n⟩, rfl, h, hq⟩
  dsimp only at h
  walk_at "dk"
  refine ⟨(w, n), rfl, h, fun d z => z.elim, fun C ns vs ⟨e1, e2, e3⟩ => ?_⟩
  subst e1 e2 e3
  refine s_caught g.exm_LimitError_LimitError fun a1 d1 => ?_
  walk_at "dk"
  refine s_callE g.xc_LimitError ?_
  walk_at "dk"
  refine ⟨([("limit" : Str)], [.int 6], flLimitError), rfl, ki_LimitError g, fun z e => ?_⟩
  rw [fil_LimitError] at e
  subst e
  walk_at "dk"
  refine s_xf rfl rfl ?_
  walk_at "dk"
  refine ⟨by simp, ?_⟩
  refine DL.s_addL ⟨by simp, ?_⟩
  exact hq _ rfl
def bef (u v : List Nat) : Bool := decide (u.length < v.length) || (decide (u.length = v.length) && decide (u < v))
abbrev sd_is_before : SpD := mkSp (fun a : List Nat × List Nat => [.str a.1, .str a.2]) (fun a => a.1.length ≤ 1000 ∧ a.2.length ≤ 1000) (fun a d => d = .bl (bef a.1 a.2))
theorem ok_is_before {P : Program} [PrF P] {w : World} {K : PySem.W.Frag} {mg : Str → Option Value} {base : Heap} (g : Gf K mg) : Ok P w K mg base "is_before" 1 ["one", "other"] sd_is_before := by
  refine ok_mk (k := 0) g.d_is_before sc_is_before (fun ds Q E ⟨a, e, _⟩ => by rw [e]; rfl) (fun cdv A outer s H E m hr => ?_)
  have hu := hr.units
  have hu1 := Nat.lt_of_le_of_lt (Nat.add_le_add_left (by decide : 1 ≤ 64) _) hu
  have sc := sc_is_before
  refine ⟨_, (pdss_cons (pds_if (pdt_cmp o_ne (op_neU hu) (pd_len (pq_var 0) rfl (by rfl) g.b_len) (pd_len (pq_var 1) rfl (by rfl) g.b_len) (nomark _)) (pdss_one (pds_ret (pd_cmp o_lt op_ltU (pd_len (pq_var 0) rfl (by rfl) g.b_len) (pd_len (pq_var 1) rfl (by rfl) g.b_len) (nomark _)))) pdss_nil) (pdss_one (pds_ret (pd_cmp o_lt op_ltU (pd_var 0) (pd_var 1) (nomark _))))), ?_⟩
  rintro ds Q E ⟨⟨u, v⟩, rfl, ⟨h1, h2⟩, hq⟩
  dsimp only at h1 h2 hq
  walk_at "dk"
  by_cases e : u.length = v.length
  · rw [decide_eq_true (show (u.length : Int) = (v.length : Int) by omega)]
    walk_at "dk"
    refine hq _ (congrArg D.bl ?_)
    unfold bef
    rw [decide_eq_false (show ¬ u.length < v.length by omega), decide_eq_true e]
    rfl
  · rw [decide_eq_false (show ¬ (u.length : Int) = (v.length : Int) by omega)]
    walk_at "dk"
    refine hq _ (congrArg D.bl ?_)
    unfold bef
    rw [decide_eq_false e, Bool.false_and, Bool.or_false]
    exact decide_eq_decide.mpr ⟨fun h => by omega, fun h => by omega⟩
abbrev sd_law_earlier : SpD := mkSp (fun a : List Nat × List Nat => [.str a.1, .str a.2]) (fun a => a.1.length ≤ 1000 ∧ a.2.length ≤ 1000) (fun a d => d = .bl (bef a.1 a.2))
theorem ok_law_earlier {P : Program} [PrF P] {w : World} {K : PySem.W.Frag} {mg : Str → Option Value} {base : Heap} (g : Gf K mg) : Ok P w K mg base "_law_earlier" 1 ["one", "other"] sd_law_earlier := by
  refine ok_mk (k := 0) g.d_law_earlier sc_law_earlier (fun ds Q E ⟨a, e, _⟩ => by rw [e]; rfl) (fun cdv A outer s H E m hr => ?_)
  have hu := hr.units
  have hu1 := Nat.lt_of_le_of_lt (Nat.add_le_add_left (by decide : 1 ≤ 64) _) hu
  have sc := sc_law_earlier
  refine ⟨_, (pdss_one (pds_ret (pd_or (pd_cmp o_lt op_ltU (pd_len (pq_var 0) rfl (by rfl) g.b_len) (pd_len (pq_var 1) rfl (by rfl) g.b_len) (nomark _)) (pd_one (pd_and (pd_cmp o_eq (op_eqU hu) (pd_len (pq_var 0) rfl (by rfl) g.b_len) (pd_len (pq_var 1) rfl (by rfl) g.b_len) (nomark _)) (pd_one (pd_cmp o_lt op_ltU (pd_var 0) (pd_var 1) (nomark _)))))))), ?_⟩
  rintro ds Q E ⟨⟨u, v⟩, rfl, ⟨h1, h2⟩, hq⟩
  dsimp only at h1 h2 hq
  walk_at "dk"
  by_cases lt : u.length < v.length
  · rw [decide_eq_true (show (u.length : Int) < (v.length : Int) by omega)]
    walk_at "dk"
    refine hq _ ?_
    unfold bef
    rw [decide_eq_true lt]; rfl
  · rw [decide_eq_false (show ¬ (u.length : Int) < (v.length : Int) by omega)]
    walk_at "dk"
    by_cases e : u.length = v.length
    · rw [decide_eq_true (show (u.length : Int) = (v.length : Int) by omega)]
      walk_at "dk"
      refine hq _ ?_
      unfold bef
      rw [decide_eq_false lt, decide_eq_true e]; rfl
    · rw [decide_eq_false (show ¬ (u.length : Int) = (v.length : Int) by omega)]
      walk_at "dk"
      refine hq _ ?_
      unfold bef
      rw [decide_eq_false lt, decide_eq_false e]; rfl
abbrev sd_law_alphabet : SpD := mkSp (fun ls : List Nat => [.str ls]) (fun ls => ls.length ≤ 1000) (fun ls d => (okLetters ls → d = .lst [.str ls]) ∧ (¬ okLetters ls → d = .lst clsLettersError))
theorem ok_law_alphabet {P : Program} [PrF P] {w : World} {K : PySem.W.Frag} {mg : Str → Option Value} {base : Heap} (g : Gf K mg) : Ok P w K mg base "_law_alphabet" 3 ["text"] sd_law_alphabet := by
  refine ok_mk (k := 2) g.d_law_alphabet sc_law_alphabet (fun ds Q E ⟨a, e, _⟩ => by rw [e]; rfl) (fun cdv A outer s H E m hr => ?_)
  have hu := hr.units
  have hu1 := Nat.lt_of_le_of_lt (Nat.add_le_add_left (by decide : 1 ≤ 64) _) hu
  have sc := sc_law_alphabet
  refine ⟨_, (pdss_one (pds_try_as (i := 1) (c := .ref (He.ga K "LettersError")) rfl rfl sc.nd rfl rfl ⟨rfl, by decide, .inl g.gl_LettersError⟩ take0N (fun m1 wd1 pn1 xe1 tk hp => (pdss_one (pds_ret (pd_lst (pda_cons (pd_fnX tk (okx_check_letters (P := P) g) hr (by decide) (pda_cons (pd_var 0) pda_nil)) pda_nil))))) (fun a1 oe1 cls1 d1 pn1 hz hv => (pdss_one (pds_ret (pd_fnE (okh_law_classes (P := P) g) hr (by decide) hz hv (pda_cons (pd_var 1) pda_nil))))))), ?_⟩
  rintro ds Q E ⟨ls, rfl, h, hq⟩
  walk_at "dk"
  refine ⟨ls, rfl, h, fun d ⟨ho, e⟩ => ?_, fun C ns vs ⟨ho, e1, e2, e3⟩ => ?_⟩
  · subst e
    walk_at "dk"
    refine ⟨by simp, ?_⟩
    walk_at "dk"
    exact hq _ ⟨fun _ => rfl, fun z => (z ho).elim⟩
  · subst e1 e2 e3
    refine s_caught g.exm_LettersError_LettersError fun a1 d1 => ?_
    walk_at "dk"
    refine s_callE g.xc_LettersError ?_
    walk_at "dk"
    refine ⟨([], [], flLettersError), rfl, ki_LettersError g, fun z e => ?_⟩
    rw [fil_LettersError] at e
    subst e
    walk_at "dk"
    exact hq _ ⟨fun z => (ho z).elim, fun _ => rfl⟩
abbrev sd_law_spelled : SpD := mkSp (fun a : List Nat × List Nat => [.str a.1, .str a.2]) (fun a => a.1.length ≤ 1000) (fun a d => (inL a.1 a.2 → d = .lst [.str a.1]) ∧ ∀ i, BadAt a.1 a.2 i → d = .lst (clsLetterError ++ [.int (i : Nat)]))
theorem ok_law_spelled {P : Program} [PrF P] {w : World} {K : PySem.W.Frag} {mg : Str → Option Value} {base : Heap} (g : Gf K mg) : Ok P w K mg base "_law_spelled" 5 ["word", "letters"] sd_law_spelled := by
  refine ok_mk (k := 4) g.d_law_spelled sc_law_spelled (fun ds Q E ⟨a, e, _⟩ => by rw [e]; rfl) (fun cdv A outer s H E m hr => ?_)
  have hu := hr.units
  have hu1 := Nat.lt_of_le_of_lt (Nat.add_le_add_left (by decide : 1 ≤ 64) _) hu
  have sc := sc_law_spelled
  refine ⟨_, (pdss_one (pds_try_as (i := 2) (c := .ref (He.ga K "LetterError")) rfl rfl sc.nd rfl rfl ⟨rfl, by decide, .inl g.gl_LetterError⟩ take0N (fun m1 wd1 pn1 xe1 tk hp => (pdss_one (pds_ret (pd_lst (pda_cons (pd_fnX tk (okx_check_word (P := P) g) hr (by decide) (pda_cons (pd_var 0) (pda_cons (pd_var 1) pda_nil))) pda_nil))))) (fun a1 oe1 cls1 d1 pn1 hz hv => (pdss_one (pds_ret (pd_bin o_add op_addU (pd_fnE (okh_law_classes (P := P) g) hr (by decide) hz hv (pda_cons (pd_var 2) pda_nil)) (pd_lst (pda_cons (pd_xf g.xf_LetterError g.nof_LetterError_index hz hv (pv 2)) pda_nil)))))))), ?_⟩
  rintro ds Q E ⟨⟨w, ls⟩, rfl, h, hq⟩
  dsimp only at h hq
  walk_at "dk"
  refine ⟨(w, ls), rfl, trivial, fun d ⟨ho, e⟩ => ?_, fun C ns vs ⟨i, hb, e1, e2, e3⟩ => ?_⟩
  · subst e
    walk_at "dk"
    refine ⟨by simp, ?_⟩
    walk_at "dk"
    exact hq _ ⟨fun _ => rfl, fun i z => (z.not ho).elim⟩
  · subst e1 e2 e3
    refine s_caught g.exm_LetterError_LetterError fun a1 d1 => ?_
    walk_at "dk"
    refine s_callE g.xc_LetterError ?_
    walk_at "dk"
    refine ⟨([("index" : Str)], [.int (i : Nat)], flLetterError), rfl, ki_LetterError g, fun z e => ?_⟩
    rw [fil_LetterError] at e
    subst e
    walk_at "dk"
    refine s_xf rfl rfl ?_
    walk_at "dk"
    refine ⟨by simp, ?_⟩
    refine DL.s_addL ⟨by simp, ?_⟩
    exact hq _ ⟨fun z => (hb.not z).elim, fun j hj => by rw [hb.uniq hj]⟩
end W00
namespace W00
open PySem PySem.Spec L2 PyProof.Rows DL
open scoped List
local macro_rules | `(tactic| walk_at "d1") => `(tactic| with_reducible first
  | refine DL.s_seq ?_ | refine DL.s_asg ?_ | refine DL.s_gname ?_ | refine DL.s_gown ?_ | refine DL.s_ret ?_ | refine DL.s_retN ?_ | refine DL.s_drop ?_ | refine DL.s_ifs ?_ | refine DL.s_c ?_ | refine DL.s_op2 ?_ | refine DL.s_op1 ?_ | refine DL.s_nil ?_ | refine DL.s_cons ?_ | refine DL.s_next ?_
  | refine DL.s_call ?_ | refine DL.s_test ?_ | refine DL.s_truT ?_ | refine DL.s_and ?_ | refine DL.s_or ?_ | refine DL.s_not ?_ | refine DL.s_andV ?_ | refine DL.s_orV ?_ | refine DL.s_notV ?_ | refine DL.s_if ?_ | refine DL.s_lst ?_ | refine DL.s_tup ?_ | refine DL.s_slice ?_ | refine DL.s_nopart ?_ | refine DL.s_part ?_
  | refine DL.s_chain ?_ | refine DL.t_iany ?_ | refine DL.s_irng1 ?_ | refine DL.s_irng2 ?_ | refine DL.s_meth ?_ | refine DL.s_strT ?_ | refine DL.s_truB ?_ | refine DL.s_setF ?_ | refine DL.t_meth ?_ | refine DL.s_ienum ?_ | refine DL.s_enmS ?_ | refine DL.s_gcons ?_ | refine DL.s_gnil ?_ | refine DL.s_sort ?_ | refine DL.t_notinC ?_ | refine DL.t_inC ?_ | refine DL.s_itemS ?_ | refine DL.s_itemL ?_ | refine DL.s_addS ⟨by first | omega | (simp <;> omega), ?_⟩ | refine DL.s_lenS ⟨by omega, ?_⟩ | refine DL.s_ixS0 ?_ | refine DL.s_ixS1 ?_ | refine DL.s_ixT0 ?_ | refine DL.s_ixT1 ?_ | refine DL.s_max2 ?_ | refine DL.s_max2N ?_ | refine DL.s_find3 ?_ | refine DL.s_rfind ?_ | refine DL.s_set0 ?_ | refine DL.s_put ?_ | refine DL.s_fz ?_ | refine DL.s_make ?_ | refine DL.s_disp ?_ | refine DL.s_dpc ?_ | refine DL.s_dpn ?_ | refine DL.s_dict0 ?_ | refine DL.s_lcT2 ?_ | refine DL.s_lcT ?_ | refine DL.s_yes ?_
  | refine DL.s_addI ?_ | refine DL.s_I0 ?_ | refine DL.s_cmpI ?_ | refine DL.s_cmpS ?_ | refine DL.s_eqI ?_ | refine DL.s_neI ?_ | refine DL.s_eqB ?_ | refine DL.s_neB ?_ | refine DL.s_eqS ?_ | refine DL.s_neS ?_ | refine DL.s_isNon ?_ | refine DL.s_isnotNon ?_
  | refine DL.s_lenL ?_ | refine DL.s_lenT ?_ | refine DL.s_lenP ?_ | refine DL.s_intI ?_ | refine DL.s_intB ?_ | refine DL.s_listL ?_ | refine DL.s_listT ?_ | refine DL.s_tupL ?_ | refine DL.s_tupT ?_ | refine DL.s_raise ?_ | refine DL.s_mkE ?_ | refine DL.s_mk0 ?_ | refine DL.s_callX ?_ | refine DL.s_try ?_ | refine DL.s_ix0L ?_ | refine DL.s_ix1L ?_ | refine DL.s_neg ?_ | refine DL.s_listXL ?_ | refine DL.s_listXT ?_ | refine DL.s_step ?_ | refine DL.s_callB ?_ | refine DL.s_bnil ?_ | refine DL.s_bcons ?_ | refine DL.s_tab ?_ | refine DL.s_inTab ?_ | refine DL.s_inI ?_ | refine DL.s_seqO ?_)
local macro_rules | `(tactic| walk_at "d2") => `(tactic| first
  | ((with_reducible apply DL.s_var); exact rfl) | ((with_reducible apply DL.s_varO); exact rfl; rotate_left; exact rfl) | ((with_reducible apply DL.s_peek); exact rfl) | ((with_reducible apply DL.s_ixK); exact rfl) | ((with_reducible apply DL.s_ixJ); exact rfl; exact rfl)
  | ((with_reducible apply DL.s_ixV2); exact rfl) | ((with_reducible apply DL.s_ixV); exact ⟨_, rfl⟩) | ((with_reducible apply DL.s_isi); exact rfl) | ((with_reducible apply DL.s_isSome); exact rfl) | ((with_reducible apply DL.s_isnotSome); exact rfl) | ((with_reducible apply DL.s_gtup); exact rfl) | ((with_reducible apply DL.s_ixP); exact rfl) | ((with_reducible apply DL.s_setP); exact rfl; exact rfl) | ((with_reducible apply DL.s_retO); exact rfl))
local macro_rules | `(tactic| walk_at "dif") => `(tactic| with_reducible refine DL.s_ite (fun hb => ?_) (fun hb => ?_))
local macro_rules | `(tactic| walk_at "dgo") => `(tactic| repeat (first | walk_at "d1" | walk_at "d2" | (with_reducible refine DL.s_iteNT ?_) | (with_reducible refine DL.s_iteNF ?_) | (with_reducible refine DL.s_iteT ?_) | (with_reducible refine DL.s_iteF ?_) | dsimp only))
local macro_rules | `(tactic| walk_at "dgo1") => `(tactic| first | walk_at "d1" | walk_at "d2" | (with_reducible refine DL.s_iteNT ?_) | (with_reducible refine DL.s_iteNF ?_) | (with_reducible refine DL.s_iteT ?_) | (with_reducible refine DL.s_iteF ?_) | dsimp only)
local macro_rules | `(tactic| walk_at "dk") => `(tactic| repeat (first | walk_at "dgo1" | rw [dec_rfl'] | rw [dec_ne' _ (by decide)]))
local macro_rules | `(tactic| walk_at "nm") => `(tactic| simp only [List.map_cons, List.map_nil, List.set_cons_zero, List.set_cons_succ, List.cons_append, List.nil_append, List.length_cons, List.length_nil, List.replicate_succ, List.replicate_zero])
theorem s_varB {ρ : Ro} {i : Nat} {b : Bool} {d : D} {Q : D → Ro → Prop} (e : ρ[i]? = some (some (b, d))) (k : frzOk d = true) (h : Q d (ρ.set i (some (false, d)))) : dVar i ρ Q := by
  cases b with
  | true => exact s_varO e h k
  | false =>
    refine s_var e ?_
    have : ρ.set i (some (false, d)) = ρ := by
      refine List.ext_getElem? fun j => ?_
      by_cases z : j = i
      · subst z
        rw [List.getElem?_set_self (List.getElem?_eq_some_iff.mp e).1, e]
      · rw [List.getElem?_set_ne (Ne.symm z)]
    rwa [this] at h
theorem rowP_len {ls w : List Nat} (h : ls.length ≤ 3) {k : Nat} (hk : k ≤ 6) : (rowP ls w k).length ≤ 729 := Nat.le_trans (List.length_filter_le _ _) (row_len3 h hk)
theorem uptoP_len {ls w : List Nat} (h : ls.length ≤ 3) {k : Nat} (hk : k ≤ 6) : ((uptoW ls k).filter (isP w)).length ≤ 4096 := by
  refine Nat.le_trans (List.length_filter_le _ _) (Nat.le_trans (upto_len h) ?_)
  exact Nat.pow_le_pow_right (by decide) hk
abbrev sf_pieces_of : SpD := mkSp (fun a : List Nat × List Nat × Nat => [.str a.1, .int (a.2.2 : Nat)]) (fun a => a.1.length ≤ 900 ∧ (a.2.1.length ≤ 3 ∧ a.2.1.Pairwise (· < ·) ∧ ∀ c ∈ a.1, c ∈ a.2.1) ∧ a.2.2 ≤ 6) (fun a d => d = .lst (wds ((uptoW a.2.1 a.2.2).filter (isP a.1))))
theorem okf_pieces_of {P : Program} [PrF P] {w : World} {K : PySem.W.Frag} {mg : Str → Option Value} {base : Heap} (g : Gf K mg) : OkF P w K mg base "pieces_of" 4 ["word", "most"] sf_pieces_of := by
  refine okF_mk (k := 3) g.d_pieces_of sc_pieces_of (fun ds Q E ⟨a, e, _⟩ => by rw [e]; rfl) (fun cdv A outer s H E m hr => ?_)
  have hu := hr.units
  have hu1 := Nat.lt_of_le_of_lt (Nat.add_le_add_left (by decide : 1 ≤ 64) _) hu
  have sc := sc_pieces_of
  refine ⟨_, (pdo_cons (pds_if (pdt_not (pdt_chain o_le o_le op_leU op_leU pd_int (pd_var 1) (pd_cint g.k_MOST_PIECE))) (pdss_one pds_never) pdss_nil) (pdo_cons (pds_set (i := 2) sc.nd rfl (Or.inr rfl) (pd_fn (ok_contents (P := P) g) hr (by decide) (pda_cons (pd_var 0) pda_nil))) (pdo_cons (pds_setO (i := 3) sc.nd rfl (Or.inl rfl) (pf_lst (pda_cons (pd_str []) pda_nil))) (pdo_cons (pds_set (i := 4) sc.nd rfl (Or.inl rfl) (pd_lst (pda_cons (pd_str []) pda_nil))) (pdo_cons (pds_for PassesOwn.never rfl (pdi_range1 (by rfl) g.b_range (pda_cons (pd_var 1) pda_nil)) (pdg_name (i := 5) sc.nd rfl (Or.inl rfl)) (pdss_cons (pds_setLc2 (own := [("piece", 6), ("letter", 7)]) (vs1 := [7]) (i := 4) rfl sc.nd rfl rfl (sw_true rfl rfl rfl (by decide +kernel)) (pdi_any (pd_var 4)) (blkOk_by (N := ["word", "most", "letters", "found", "row", "_", "piece", "letter"]) (sc := defScope s_pieces_of) (by decide +kernel)) (by decide) (ctg_name (by decide)) (fun _ _ _ _ _ => pg_name (i := 6) sc.nd rfl (Or.inl rfl)) (fun _ _ _ _ _ _ => pdts_nil) (fun _ _ _ _ _ _ => (pdi_any (pd_var 2))) (ctg_name (by decide)) (fun _ _ _ _ _ => pg_name (i := 7) sc.nd rfl (Or.inl rfl)) (fun _ _ _ _ _ _ => pdts_one (pdt_tru (PD.pq (pd_fn (ok_is_piece (P := P) g) hr (by decide) (pda_cons (pd_bin o_add op_addU (pd_var 6) (pd_var 7)) (pda_cons (pd_var 0) pda_nil)))))) (fun _ _ _ _ _ _ => (pd_bin o_add op_addU (pd_var 6) (pd_var 7))) s) (pdss_one (pds_setO (i := 3) sc.nd rfl (Or.inl rfl) (pf_addL (pd_var 3) (pd_var 4)))))) (pdo_ret (pv 3))))))), ?_⟩
  rintro ds Q E ⟨⟨w, ls, n⟩, rfl, ⟨h1, ⟨h2, h3, h4⟩, h5⟩, hq⟩
  dsimp only at h1 h2 h3 h4 h5 hq
  walk_at "dk"
  rw [decide_eq_true (show (0 : Int) ≤ (n : Int) by omega)]
  walk_at "dk"
  rw [decide_eq_true (show (n : Int) ≤ 6 by omega)]
  walk_at "dk"
  refine ⟨(w, ls), rfl, ⟨by dsimp only; omega, by dsimp only; omega, h4⟩, fun d ⟨cs, e, c1, c2⟩ => ?_⟩
  subst e
  have hcs : cs = ls.filter fun c => decide (c ∈ w) := filter_sorted h3 h4 c1 c2
  have lcs : cs.length ≤ 3 := by rw [hcs]; exact Nat.le_trans (List.length_filter_le _ _) h2
  walk_at "dk"
  refine ⟨by simp, ?_⟩
  walk_at "dk"
  refine ⟨by simp, ?_⟩
  walk_at "dk"
  walk_at "nm"
  refine DL.s_for ?_
  walk_at "dk"
  refine DL.s_rng1 ⟨by omega, by omega⟩ ?_
  refine ⟨fun i ρ => ∃ (b : Bool) (x y z : SV), ρ = [some (false, .str w), some (false, .int (n : Nat)), some (false, .str cs), some (true, .lst (wds ((uptoW ls i).filter (isP w)))), some (b, .lst (wds (rowP ls w i))), x, y, z], ⟨false, none, none, none, ?_⟩, fun i d ρ e ⟨b, x, y, z, eρ⟩ => ?_, fun ρ ⟨b, x, y, z, eρ⟩ => ?_⟩
  · rw [uptoP_0, rowP_0]
    rfl
  · subst eρ
    obtain ⟨hi, rfl⟩ := rangeD_get e
    have hi : i < n := by omega
    have b0 := rowP_len (w := w) h2 (k := i) (by omega)
    have b1 := rowP_len (w := w) h2 (k := i + 1) (by omega)
    have b2 := uptoP_len (w := w) h2 (k := i) (by omega)
    have hw : ∀ v ∈ rowP ls w i, v.length = i := fun v hv => (row_mem.mp (List.mem_filter.mp hv).1).1
    walk_at "dk"
    walk_at "nm"
    refine s_lc2 ?_
    refine DL.t_iany ?_
    refine s_varB rfl rfl ?_
    walk_at "dk"
    walk_at "nm"
    refine ⟨fun j acc => acc = wds (((rowP ls w i).take j).flatMap fun u => (ext cs u).filter (isP w)), rfl, fun j d acc e ea => ?_, fun acc ea => ?_⟩
    · obtain ⟨v, ev, rfl⟩ := wds_get e
      have lv := hw v (List.mem_of_getElem? ev)
      have lt := (List.getElem?_eq_some_iff.mp ev).1
      subst ea
      refine s_lcT2 ?_
      walk_at "dk"
      refine ⟨rfl, fun k acc => acc = wds ((((rowP ls w i).take j).flatMap fun u => (ext cs u).filter (isP w)) ++ (ext (cs.take k) v).filter (isP w)), ?_, fun k d acc e ea => ?_, fun acc ea => ?_⟩
      · show wds _ = wds (_ ++ [])
        rw [List.append_nil]
      · obtain ⟨c, ec, rfl⟩ := chars_get e
        have ltk := (List.getElem?_eq_some_iff.mp ec).1
        subst ea
        refine s_lcT ?_
        walk_at "dk"
        refine ⟨(v ++ [c], w), rfl, ⟨by rw [List.length_append]; simp; omega, by dsimp only; omega⟩, fun d e => ?_⟩
        subst e
        dsimp only
        rw [ext_snoc v ec, List.filter_append, ← List.append_assoc]
        cases ep : isP w (v ++ [c]) with
        | true =>
          walk_at "dk"
          refine ⟨rfl, ?_, ?_⟩
          · have e0 : ((((rowP ls w i).take j).flatMap fun u => (ext cs u).filter (isP w)) ++ (ext (cs.take k) v).filter (isP w)).length ≤ 729 * 3 + 3 := by
              rw [List.length_append, List.length_flatMap]
              have e1 : ((ext (cs.take k) v).filter (isP w)).length ≤ 3 := Nat.le_trans (List.length_filter_le _ _) (by rw [ext_len, List.length_take]; omega)
              have e2 : (((rowP ls w i).take j).map fun u => ((ext cs u).filter (isP w)).length).sum ≤ ((rowP ls w i).take j).length * 3 := by
                generalize (rowP ls w i).take j = L
                induction L with
                | nil => simp
                | cons a L ih =>
                  have : ((ext cs a).filter (isP w)).length ≤ 3 := Nat.le_trans (List.length_filter_le _ _) (by rw [ext_len]; exact lcs)
                  simp only [List.map_cons, List.sum_cons, List.length_cons]
                  omega
              have e3 : ((rowP ls w i).take j).length ≤ 729 := by rw [List.length_take]; omega
              have e4 := Nat.mul_le_mul_right 3 e3
              omega
            rw [wds_len]; omega
          · rw [List.filter_cons, if_pos ep, List.filter_nil, ← wds_app (_ ++ _)]
            rfl
        | false =>
          walk_at "dk"
          refine ⟨rfl, ?_⟩
          rw [List.filter_cons, if_neg (by rw [ep]; simp), List.filter_nil, List.append_nil]
      · subst ea
        rw [List.length_map, List.take_length, flat_take _ ev]
    · subst ea
      rw [wds_len, List.take_length, ← rowP_next hcs]
      walk_at "dk"
      walk_at "nm"
      refine s_addF ⟨?_, ?_⟩
      · rw [wds_len, wds_len]; omega
      · rw [wds_app, ← uptoP_next]
        walk_at "dk"
        exact ⟨_, _, _, _, rfl⟩
  · subst eρ
    rw [rangeD_len]
    walk_at "dk"
    exact hq _ rfl
end W00
namespace W00
open PySem PySem.Spec L2 PyProof.Rows DL
open scoped List
local macro_rules | `(tactic| walk_at "d1") => `(tactic| with_reducible first
  | refine DL.s_seq ?_ | refine DL.s_asg ?_ | refine DL.s_gname ?_ | refine DL.s_gown ?_ | refine DL.s_ret ?_ | refine DL.s_retN ?_ | refine DL.s_drop ?_ | refine DL.s_ifs ?_ | refine DL.s_c ?_ | refine DL.s_op2 ?_ | refine DL.s_op1 ?_ | refine DL.s_nil ?_ | refine DL.s_cons ?_ | refine DL.s_next ?_
  | refine DL.s_call ?_ | refine DL.s_test ?_ | refine DL.s_truT ?_ | refine DL.s_and ?_ | refine DL.s_or ?_ | refine DL.s_not ?_ | refine DL.s_andV ?_ | refine DL.s_orV ?_ | refine DL.s_notV ?_ | refine DL.s_if ?_ | refine DL.s_lst ?_ | refine DL.s_tup ?_ | refine DL.s_slice ?_ | refine DL.s_nopart ?_ | refine DL.s_part ?_
  | refine DL.s_chain ?_ | refine DL.t_iany ?_ | refine DL.s_irng1 ?_ | refine DL.s_irng2 ?_ | refine DL.s_meth ?_ | refine DL.s_strT ?_ | refine DL.s_truB ?_ | refine DL.s_setF ?_ | refine DL.t_meth ?_ | refine DL.s_ienum ?_ | refine DL.s_enmS ?_ | refine DL.s_gcons ?_ | refine DL.s_gnil ?_ | refine DL.s_sort ?_ | refine DL.t_notinC ?_ | refine DL.t_inC ?_ | refine DL.s_itemS ?_ | refine DL.s_itemL ?_ | refine DL.s_addS ⟨by first | omega | (simp <;> omega), ?_⟩ | refine DL.s_lenS ⟨by omega, ?_⟩ | refine DL.s_ixS0 ?_ | refine DL.s_ixS1 ?_ | refine DL.s_ixT0 ?_ | refine DL.s_ixT1 ?_ | refine DL.s_max2 ?_ | refine DL.s_max2N ?_ | refine DL.s_find3 ?_ | refine DL.s_rfind ?_ | refine DL.s_set0 ?_ | refine DL.s_put ?_ | refine DL.s_fz ?_ | refine DL.s_make ?_ | refine DL.s_disp ?_ | refine DL.s_dpc ?_ | refine DL.s_dpn ?_ | refine DL.s_dict0 ?_ | refine DL.s_lcT2 ?_ | refine DL.s_lcT ?_ | refine DL.s_yes ?_
  | refine DL.s_addI ?_ | refine DL.s_I0 ?_ | refine DL.s_cmpI ?_ | refine DL.s_cmpS ?_ | refine DL.s_eqI ?_ | refine DL.s_neI ?_ | refine DL.s_eqB ?_ | refine DL.s_neB ?_ | refine DL.s_eqS ?_ | refine DL.s_neS ?_ | refine DL.s_isNon ?_ | refine DL.s_isnotNon ?_
  | refine DL.s_lenL ?_ | refine DL.s_lenT ?_ | refine DL.s_lenP ?_ | refine DL.s_intI ?_ | refine DL.s_intB ?_ | refine DL.s_listL ?_ | refine DL.s_listT ?_ | refine DL.s_tupL ?_ | refine DL.s_tupT ?_ | refine DL.s_raise ?_ | refine DL.s_mkE ?_ | refine DL.s_mk0 ?_ | refine DL.s_callX ?_ | refine DL.s_try ?_ | refine DL.s_ix0L ?_ | refine DL.s_ix1L ?_ | refine DL.s_neg ?_ | refine DL.s_listXL ?_ | refine DL.s_listXT ?_ | refine DL.s_step ?_ | refine DL.s_callB ?_ | refine DL.s_bnil ?_ | refine DL.s_bcons ?_ | refine DL.s_tab ?_ | refine DL.s_inTab ?_ | refine DL.s_inI ?_ | refine DL.s_seqO ?_)
local macro_rules | `(tactic| walk_at "d2") => `(tactic| first
  | ((with_reducible apply DL.s_var); exact rfl) | ((with_reducible apply DL.s_varO); exact rfl; rotate_left; exact rfl) | ((with_reducible apply DL.s_peek); exact rfl) | ((with_reducible apply DL.s_ixK); exact rfl) | ((with_reducible apply DL.s_ixJ); exact rfl; exact rfl)
  | ((with_reducible apply DL.s_ixV2); exact rfl) | ((with_reducible apply DL.s_ixV); exact ⟨_, rfl⟩) | ((with_reducible apply DL.s_isi); exact rfl) | ((with_reducible apply DL.s_isSome); exact rfl) | ((with_reducible apply DL.s_isnotSome); exact rfl) | ((with_reducible apply DL.s_gtup); exact rfl) | ((with_reducible apply DL.s_ixP); exact rfl) | ((with_reducible apply DL.s_setP); exact rfl; exact rfl) | ((with_reducible apply DL.s_retO); exact rfl))
local macro_rules | `(tactic| walk_at "dif") => `(tactic| with_reducible refine DL.s_ite (fun hb => ?_) (fun hb => ?_))
local macro_rules | `(tactic| walk_at "dgo") => `(tactic| repeat (first | walk_at "d1" | walk_at "d2" | (with_reducible refine DL.s_iteNT ?_) | (with_reducible refine DL.s_iteNF ?_) | (with_reducible refine DL.s_iteT ?_) | (with_reducible refine DL.s_iteF ?_) | dsimp only))
local macro_rules | `(tactic| walk_at "dgo1") => `(tactic| first | walk_at "d1" | walk_at "d2" | (with_reducible refine DL.s_iteNT ?_) | (with_reducible refine DL.s_iteNF ?_) | (with_reducible refine DL.s_iteT ?_) | (with_reducible refine DL.s_iteF ?_) | dsimp only)
local macro_rules | `(tactic| walk_at "dk") => `(tactic| repeat (first | walk_at "dgo1" | rw [dec_rfl'] | rw [dec_ne' _ (by decide)]))
local macro_rules | `(tactic| walk_at "nm") => `(tactic| simp only [List.map_cons, List.map_nil, List.set_cons_zero, List.set_cons_succ, List.cons_append, List.nil_append, List.length_cons, List.length_nil, List.replicate_succ, List.replicate_zero])
abbrev sd_law_long : SpD := mkSp (fun a : List Nat × Nat => [.tok, .str a.1, .int (a.2 : Nat)]) (fun a => 1 ≤ a.1.length ∧ a.1.length ≤ 1000 ∧ a.2 ≤ 200) (fun a d => ∃ w, d = .str w ∧ w.length ≤ a.2 ∧ ∀ c ∈ w, c ∈ a.1)
theorem rep_mem {a : List Nat} {n c : Nat} (h : c ∈ repL a n) : c ∈ a := by
  unfold repL at h
  obtain ⟨l, h1, h2⟩ := List.mem_flatten.mp h
  rw [List.eq_of_mem_replicate h1] at h2
  exact h2
theorem rep_len' (a : List Nat) (n : Nat) : (repL a n).length = n * a.length := by
  unfold repL
  rw [List.length_flatten, List.map_replicate, List.sum_replicate_nat]
theorem ok_law_long {P : Program} [PrF P] {w : World} {K : PySem.W.Frag} {mg : Str → Option Value} {base : Heap} (g : Gf K mg) : Ok P w K mg base "_law_long" 3 ["state", "letters", "most"] sd_law_long := by
  refine ok_mk (k := 2) g.d_law_long sc_law_long (fun ds Q E ⟨a, e, _⟩ => by rw [e]; rfl) (fun cdv A outer s H E m hr => ?_)
  have hu := hr.units
  have hu1 := Nat.lt_of_le_of_lt (Nat.add_le_add_left (by decide : 1 ≤ 64) _) hu
  have sc := sc_law_long
  refine ⟨_, (pdss_cons (pds_set (i := 3) sc.nd rfl (Or.inl rfl) (pd_fn (ok_law_draw (P := P) g) hr (by decide) (pda_cons (pd_var 0) (pda_cons (pd_bin o_add op_addU (pd_var 2) pd_int) pda_nil)))) (pdss_cons (pds_set (i := 4) sc.nd rfl (Or.inl rfl) (pd_fn (ok_law_word (P := P) g) hr (by decide) (pda_cons (pd_var 0) (pda_cons (pd_var 1) (pda_cons pd_int pda_nil))))) (pdss_cons (pds_set (i := 5) sc.nd rfl (Or.inl rfl) (pd_bin o_add op_addU (pd_ixV hu1 (pv 1) (pd_fn (ok_law_draw (P := P) g) hr (by decide) (pda_cons (pd_var 0) (pda_cons (pd_len (pq_var 1) rfl (by rfl) g.b_len) pda_nil)))) (pd_fn (ok_law_word (P := P) g) hr (by decide) (pda_cons (pd_var 0) (pda_cons (pd_var 1) (pda_cons pd_int pda_nil)))))) (pdss_one (pds_ret (pd_slice (pd_bin o_add op_addU (pd_var 4) (pd_bin o_mul op_mulU (pd_var 5) (pd_var 2))) pdo_none (pdo_some (pd_var 3)))))))), ?_⟩
  rintro ds Q E ⟨⟨ls, most⟩, rfl, ⟨h1, h2, h3⟩, hq⟩
  dsimp only at h1 h2 h3 hq
  walk_at "dk"
  refine ⟨(most : Int) + 1, rfl, ⟨by omega, by omega⟩, fun d ⟨v, e, v0, v1⟩ => ?_⟩
  subst e
  obtain ⟨size, rfl⟩ := Int.eq_ofNat_of_zero_le v0
  walk_at "dk"
  refine ⟨(ls, 7), rfl, ⟨h1, h2, by dsimp only; omega⟩, fun d ⟨first, e, l1, m1⟩ => ?_⟩
  subst e
  dsimp only at l1 m1
  walk_at "dk"
  refine ⟨(ls.length : Int), rfl, ⟨by omega, by omega⟩, fun d ⟨b, e, b0, b1⟩ => ?_⟩
  subst e
  obtain ⟨k, rfl⟩ := Int.eq_ofNat_of_zero_le b0
  have lt : k < ls.length := by omega
  walk_at "dk"
  refine DL.s_ixS (by omega) (atI_nat (List.getElem?_eq_getElem lt)) ?_
  walk_at "dk"
  refine ⟨(ls, 5), rfl, ⟨h1, h2, by dsimp only; omega⟩, fun d ⟨w2, e, l2, m2⟩ => ?_⟩
  subst e
  dsimp only at l2 m2
  walk_at "dk"
  have l3 : ([ls[k]] ++ w2).length ≤ 6 := by simp; omega
  refine s_mulS ⟨⟨by omega, by omega, ?_⟩, ?_⟩
  · rw [Int.toNat_natCast]
    have := Nat.mul_le_mul l3 h3
    omega
  rw [Int.toNat_natCast]
  have l4 : (repL ([ls[k]] ++ w2) most).length ≤ 1200 := by
    rw [rep_len']
    have := Nat.mul_le_mul h3 l3
    omega
  walk_at "dk"
  refine DL.s_slS ⟨by rw [List.length_append]; omega, ?_⟩
  rw [cut_take]
  refine hq _ ⟨_, rfl, by rw [List.length_take]; omega, fun c hc => ?_⟩
  rcases List.mem_append.mp (List.mem_of_mem_take hc) with z | z
  · exact m1 c z
  · rcases List.mem_append.mp (rep_mem z) with z | z
    · rw [List.mem_singleton] at z; rw [z]; exact List.getElem_mem lt
    · exact m2 c z
end W00
namespace W00
open PySem PySem.Spec L2 PyProof.Rows DL
open scoped List
local macro_rules | `(tactic| walk_at "d1") => `(tactic| with_reducible first
  | refine DL.s_seq ?_ | refine DL.s_asg ?_ | refine DL.s_gname ?_ | refine DL.s_gown ?_ | refine DL.s_ret ?_ | refine DL.s_retN ?_ | refine DL.s_drop ?_ | refine DL.s_ifs ?_ | refine DL.s_c ?_ | refine DL.s_op2 ?_ | refine DL.s_op1 ?_ | refine DL.s_nil ?_ | refine DL.s_cons ?_ | refine DL.s_next ?_
  | refine DL.s_call ?_ | refine DL.s_test ?_ | refine DL.s_truT ?_ | refine DL.s_and ?_ | refine DL.s_or ?_ | refine DL.s_not ?_ | refine DL.s_andV ?_ | refine DL.s_orV ?_ | refine DL.s_notV ?_ | refine DL.s_if ?_ | refine DL.s_lst ?_ | refine DL.s_tup ?_ | refine DL.s_slice ?_ | refine DL.s_nopart ?_ | refine DL.s_part ?_
  | refine DL.s_chain ?_ | refine DL.t_iany ?_ | refine DL.s_irng1 ?_ | refine DL.s_irng2 ?_ | refine DL.s_meth ?_ | refine DL.s_strT ?_ | refine DL.s_truB ?_ | refine DL.s_setF ?_ | refine DL.t_meth ?_ | refine DL.s_ienum ?_ | refine DL.s_enmS ?_ | refine DL.s_gcons ?_ | refine DL.s_gnil ?_ | refine DL.s_sort ?_ | refine DL.t_notinC ?_ | refine DL.t_inC ?_ | refine DL.s_itemS ?_ | refine DL.s_itemL ?_ | refine DL.s_addS ⟨by first | omega | (simp <;> omega), ?_⟩ | refine DL.s_lenS ⟨by omega, ?_⟩ | refine DL.s_ixS0 ?_ | refine DL.s_ixS1 ?_ | refine DL.s_ixT0 ?_ | refine DL.s_ixT1 ?_ | refine DL.s_max2 ?_ | refine DL.s_max2N ?_ | refine DL.s_find3 ?_ | refine DL.s_rfind ?_ | refine DL.s_set0 ?_ | refine DL.s_put ?_ | refine DL.s_fz ?_ | refine DL.s_make ?_ | refine DL.s_disp ?_ | refine DL.s_dpc ?_ | refine DL.s_dpn ?_ | refine DL.s_dict0 ?_ | refine DL.s_lcT2 ?_ | refine DL.s_lcT ?_ | refine DL.s_yes ?_
  | refine DL.s_addI ?_ | refine DL.s_I0 ?_ | refine DL.s_cmpI ?_ | refine DL.s_cmpS ?_ | refine DL.s_eqI ?_ | refine DL.s_neI ?_ | refine DL.s_eqB ?_ | refine DL.s_neB ?_ | refine DL.s_eqS ?_ | refine DL.s_neS ?_ | refine DL.s_isNon ?_ | refine DL.s_isnotNon ?_
  | refine DL.s_lenL ?_ | refine DL.s_lenT ?_ | refine DL.s_lenP ?_ | refine DL.s_intI ?_ | refine DL.s_intB ?_ | refine DL.s_listL ?_ | refine DL.s_listT ?_ | refine DL.s_tupL ?_ | refine DL.s_tupT ?_ | refine DL.s_raise ?_ | refine DL.s_mkE ?_ | refine DL.s_mk0 ?_ | refine DL.s_callX ?_ | refine DL.s_try ?_ | refine DL.s_ix0L ?_ | refine DL.s_ix1L ?_ | refine DL.s_neg ?_ | refine DL.s_listXL ?_ | refine DL.s_listXT ?_ | refine DL.s_step ?_ | refine DL.s_callB ?_ | refine DL.s_bnil ?_ | refine DL.s_bcons ?_ | refine DL.s_tab ?_ | refine DL.s_inTab ?_ | refine DL.s_inI ?_ | refine DL.s_seqO ?_)
local macro_rules | `(tactic| walk_at "d2") => `(tactic| first
  | ((with_reducible apply DL.s_var); exact rfl) | ((with_reducible apply DL.s_varO); exact rfl; rotate_left; exact rfl) | ((with_reducible apply DL.s_peek); exact rfl) | ((with_reducible apply DL.s_ixK); exact rfl) | ((with_reducible apply DL.s_ixJ); exact rfl; exact rfl)
  | ((with_reducible apply DL.s_ixV2); exact rfl) | ((with_reducible apply DL.s_ixV); exact ⟨_, rfl⟩) | ((with_reducible apply DL.s_isi); exact rfl) | ((with_reducible apply DL.s_isSome); exact rfl) | ((with_reducible apply DL.s_isnotSome); exact rfl) | ((with_reducible apply DL.s_gtup); exact rfl) | ((with_reducible apply DL.s_ixP); exact rfl) | ((with_reducible apply DL.s_setP); exact rfl; exact rfl) | ((with_reducible apply DL.s_retO); exact rfl))
local macro_rules | `(tactic| walk_at "dif") => `(tactic| with_reducible refine DL.s_ite (fun hb => ?_) (fun hb => ?_))
local macro_rules | `(tactic| walk_at "dgo") => `(tactic| repeat (first | walk_at "d1" | walk_at "d2" | (with_reducible refine DL.s_iteNT ?_) | (with_reducible refine DL.s_iteNF ?_) | (with_reducible refine DL.s_iteT ?_) | (with_reducible refine DL.s_iteF ?_) | dsimp only))
local macro_rules | `(tactic| walk_at "dgo1") => `(tactic| first | walk_at "d1" | walk_at "d2" | (with_reducible refine DL.s_iteNT ?_) | (with_reducible refine DL.s_iteNF ?_) | (with_reducible refine DL.s_iteT ?_) | (with_reducible refine DL.s_iteF ?_) | dsimp only)
local macro_rules | `(tactic| walk_at "dk") => `(tactic| repeat (first | walk_at "dgo1" | rw [dec_rfl'] | rw [dec_ne' _ (by decide)]))
local macro_rules | `(tactic| walk_at "nm") => `(tactic| try simp only [List.map_cons, List.map_nil, List.set_cons_zero, List.set_cons_succ, List.cons_append, List.nil_append, List.length_cons, List.length_nil, List.replicate_succ, List.replicate_zero])
theorem cut_drop {α : Type} (w : List α) (n : Nat) : cutG w (some (n : Int)) none = w.drop n := by
  unfold cutG
  rw [HT.sIx_none, HT.sIx_nat, List.take_of_length_le (by rw [List.length_drop]; exact Nat.le_refl _)]
  by_cases h : n ≤ w.length
  · rw [Nat.min_eq_left h]
  · rw [Nat.min_eq_right (by omega), List.drop_length, List.drop_eq_nil_of_le (by omega)]
abbrev baseL : List D := [.str [86, 97, 108, 117, 101, 69, 114, 114, 111, 114], .str [84, 111, 111, 108, 69, 114, 114, 111, 114]]
abbrev wrongT (ls : List Nat) (a z : Nat) : List (List Nat) := [[], ls ++ [121, 122, 33], [up1 a], [z] ++ ls, ls ++ [z], [97, 98, 99, 100]]
theorem wrong_bad {ls : List Nat} {a z : Nat} (ol : okLetters ls) (ra : 97 ≤ a ∧ a ≤ 122) (mz : z ∈ ls) : ∀ t ∈ wrongT ls a z, t.length ≤ 1000 ∧ ¬ okLetters t := by
  obtain ⟨l1, l3, lS, lR⟩ := ol
  intro t ht
  simp only [wrongT, List.mem_cons, List.not_mem_nil, or_false] at ht
  rcases ht with rfl | rfl | rfl | rfl | rfl | rfl
  · exact ⟨by simp, fun k => absurd k.1 (by simp)⟩
  · refine ⟨by simp; omega, fun k => ?_⟩
    have := k.2.2.2 33 (by simp)
    omega
  · refine ⟨by simp, fun k => ?_⟩
    have := k.2.2.2 (up1 a) (by simp)
    unfold up1 at this
    rw [if_pos ra] at this
    omega
  · refine ⟨by simp; omega, fun k => ?_⟩
    have := k.2.2.1
    rw [List.singleton_append, List.pairwise_cons] at this
    exact absurd (this.1 z mz) (Nat.lt_irrefl _)
  · refine ⟨by simp; omega, fun k => ?_⟩
    have := k.2.2.1
    rw [List.pairwise_append] at this
    exact absurd (this.2.2 z mz z (by simp)) (Nat.lt_irrefl _)
  · exact ⟨by simp, fun k => absurd k.2.1 (by simp)⟩
abbrev sd_law_plain_words : SpD := mkSp (fun a : List Nat × List Nat => [.tok, .str a.1, .str a.2]) (fun a => okLetters a.1 ∧ a.2.length ≤ 200 ∧ ∀ c ∈ a.2, c ∈ a.1) (fun a d => d = .bl true)
theorem ok_law_plain_words {P : Program} [PrF P] {w : World} {K : PySem.W.Frag} {mg : Str → Option Value} {base : Heap} (g : Gf K mg) : Ok P w K mg base "_law_plain_words" 6 ["state", "letters", "word"] sd_law_plain_words := by
  refine ok_mk (k := 5) g.d_law_plain_words sc_law_plain_words (fun ds Q E ⟨a, e, _⟩ => by rw [e]; rfl) (fun cdv A outer s H E m hr => ?_)
  have hu := hr.units
  have hu1 := Nat.lt_of_le_of_lt (Nat.add_le_add_left (by decide : 1 ≤ 64) _) hu
  have sc := sc_law_plain_words
  refine ⟨_, (pdss_cons (pds_set (i := 3) sc.nd rfl (Or.inl rfl) (pd_lst (pda_cons (pd_str [86, 97, 108, 117, 101, 69, 114, 114, 111, 114]) (pda_cons (pd_str [84, 111, 111, 108, 69, 114, 114, 111, 114]) pda_nil)))) (pdss_cons (pds_set (i := 4) sc.nd rfl (Or.inl rfl) (pd_lst (pda_cons (pd_str []) (pda_cons (pd_bin o_add op_addU (pd_var 1) (pd_str [121, 122, 33])) (pda_cons (pd_upper (pd_ixV hu1 (pv 1) pd_int)) (pda_cons (pd_bin o_add op_addU (pd_ixV hu1 (pv 1) (pd_neg pd_int)) (pd_var 1)) (pda_cons (pd_bin o_add op_addU (pd_var 1) (pd_ixV hu1 (pv 1) (pd_neg pd_int))) (pda_cons (pd_str [97, 98, 99, 100]) pda_nil)))))))) (pdss_cons (pds_for PassesOwn.never rfl (pdi_any (pd_var 4)) (pdg_name (i := 5) sc.nd rfl (Or.inl rfl)) (pdss_one (pds_if (pdt_not (pdt_tru (PD.pq (pd_fn (ok_law_same (P := P) g) hr (by decide) (pda_cons (pd_fn (ok_law_alphabet (P := P) g) hr (by decide) (pda_cons (pd_var 5) pda_nil)) (pda_cons (pd_bin o_add op_addU (pd_var 3) (pd_lst (pda_cons (pd_str [76, 101, 116, 116, 101, 114, 115, 69, 114, 114, 111, 114]) pda_nil))) pda_nil)))))) (pdss_one (pds_ret pd_bl)) pdss_nil))) (pdss_cons (pds_set (i := 6) sc.nd rfl (Or.inl rfl) (pd_slice (pd_var 2) pdo_none (pdo_some pd_int))) (pdss_cons (pds_set (i := 7) sc.nd rfl (Or.inl rfl) (pd_fn (ok_law_draw (P := P) g) hr (by decide) (pda_cons (pd_var 0) (pda_cons (pd_bin o_add op_addU (pd_len (pq_var 6) rfl (by rfl) g.b_len) pd_int) pda_nil)))) (pdss_cons (pds_set (i := 8) sc.nd rfl (Or.inl rfl) (pd_lst (pda_cons (pd_fn (ok_law_alphabet (P := P) g) hr (by decide) (pda_cons (pd_var 1) pda_nil)) (pda_cons (pd_fn (ok_law_spelled (P := P) g) hr (by decide) (pda_cons (pd_var 2) (pda_cons (pd_var 1) pda_nil))) (pda_cons (pd_fn (ok_law_spelled (P := P) g) hr (by decide) (pda_cons (pd_bin o_add op_addU (pd_bin o_add op_addU (pd_bin o_add op_addU (pd_slice (pd_var 6) pdo_none (pdo_some (pd_var 7))) (pd_str [63])) (pd_slice (pd_var 6) (pdo_some (pd_var 7)) pdo_none)) (pd_str [33])) (pda_cons (pd_var 1) pda_nil))) pda_nil))))) (pdss_cons (pds_if (pdt_not (pdt_tru (PD.pq (pd_fn (ok_law_same (P := P) g) hr (by decide) (pda_cons (pd_var 8) (pda_cons (pd_lst (pda_cons (pd_lst (pda_cons (pd_var 1) pda_nil)) (pda_cons (pd_lst (pda_cons (pd_var 2) pda_nil)) (pda_cons (pd_bin o_add op_addU (pd_var 3) (pd_lst (pda_cons (pd_str [76, 101, 116, 116, 101, 114, 69, 114, 114, 111, 114]) (pda_cons (pd_var 7) pda_nil)))) pda_nil)))) pda_nil)))))) (pdss_one (pds_ret pd_bl)) pdss_nil) (pdss_cons (pds_if (pdt_not (pdt_tru (PD.pq (pd_fn (ok_law_same (P := P) g) hr (by decide) (pda_cons (pd_fn (ok_contents (P := P) g) hr (by decide) (pda_cons (pd_var 2) pda_nil)) (pda_cons (pd_meth o_join (pd_str []) (pda_cons (pd_lc (own := [("letter", 12)]) rfl sc.nd (pdi_any (pd_var 1)) (blkOk_by (N := ["state", "letters", "word", "base", "wrong", "text", "near", "at", "told", "most", "pair", "due", "letter"]) (sc := defScope s_law_plain_words) (by decide +kernel)) (ctg_name (by decide)) (fun _ _ _ _ _ => pg_name (i := 12) sc.nd rfl (Or.inl rfl)) (fun _ _ _ _ _ _ => pdts_one (pdt_cmpq o_in (op_inU hu1) (pd_var 12) (PD.pq (pd_listX rfl (pq_var 2) rfl (by rfl) g.b_list)) (by rfl))) (fun _ _ _ _ _ _ => (pd_var 12)) s) pda_nil) (pe_bm PySem.F.plainAttrs_str PySem.F.slot_str_join PySem.F.type_str_join mt_join ((pd_str [])).pe ((pda_cons (pd_lc (own := [("letter", 12)]) rfl sc.nd (pdi_any (pd_var 1)) (blkOk_by (N := ["state", "letters", "word", "base", "wrong", "text", "near", "at", "told", "most", "pair", "due", "letter"]) (sc := defScope s_law_plain_words) (by decide +kernel)) (ctg_name (by decide)) (fun _ _ _ _ _ => pg_name (i := 12) sc.nd rfl (Or.inl rfl)) (fun _ _ _ _ _ _ => pdts_one (pdt_cmpq o_in (op_inU hu1) (pd_var 12) (PD.pq (pd_listX rfl (pq_var 2) rfl (by rfl) g.b_list)) (by rfl))) (fun _ _ _ _ _ _ => (pd_var 12)) s) pda_nil)).pe)) pda_nil)))))) (pdss_one (pds_ret pd_bl)) pdss_nil) (pdss_cons (pds_set (i := 9) sc.nd rfl (Or.inl rfl) (pd_fn (ok_law_draw (P := P) g) hr (by decide) (pda_cons (pd_var 0) (pda_cons (pd_ix hu1 (pd_lst (pda_cons pd_int (pda_cons pd_int (pda_cons pd_int pda_nil)))) (pd_bin o_sub op_sub (pd_len (pq_var 1) rfl (by rfl) g.b_len) pd_int)) pda_nil)))) (pdss_cons (pds_if (pdt_not (pdt_tru (PD.pq (pd_fn (ok_law_same (P := P) g) hr (by decide) (pda_cons (pd_lst (pda_cons (pd_listG1 (okg_short_words (P := P) g) hr (by decide) (pda_cons (pd_var 1) (pda_cons (pd_var 9) pda_nil)) g.b_list) (pda_cons (pd_cint g.k_SHORT) pda_nil))) (pda_cons (pd_lst (pda_cons (pd_fn (ok_law_words (P := P) g) hr (by decide) (pda_cons (pd_var 1) (pda_cons (pd_var 9) pda_nil))) (pda_cons pd_int pda_nil))) pda_nil)))))) (pdss_one (pds_ret pd_bl)) pdss_nil) (pdss_cons (pds_if (pdt_not (pdt_tru (PD.pq (pd_fn (ok_law_same (P := P) g) hr (by decide) (pda_cons (pd_listGd (okg_short_words (P := P) g) hr (by decide) (pda_cons (pd_var 1) pda_nil) g.b_list) (pda_cons (pd_fn (ok_law_words (P := P) g) hr (by decide) (pda_cons (pd_var 1) (pda_cons pd_int pda_nil))) pda_nil)))))) (pdss_one (pds_ret pd_bl)) pdss_nil) (pdss_cons (pds_for PassesOwn.never rfl (pdi_any (pd_lst (pda_cons (pd_lst (pda_cons (pd_var 2) (pda_cons (pd_slice (pd_var 2) (pdo_some pd_int) pdo_none) pda_nil))) (pda_cons (pd_lst (pda_cons (pd_step (pd_var 2) pdo_none pdo_none (pdo_some (pd_neg pd_int))) (pda_cons (pd_var 2) pda_nil))) (pda_cons (pd_lst (pda_cons (pd_var 2) (pda_cons (pd_var 2) pda_nil))) (pda_cons (pd_lst (pda_cons (pd_slice (pd_var 2) pdo_none (pdo_some (pd_var 7))) (pda_cons (pd_bin o_add op_addU (pd_slice (pd_var 2) pdo_none (pdo_some (pd_var 7))) (pd_ixV hu1 (pv 1) pd_int)) pda_nil))) pda_nil)))))) (pdg_name (i := 10) sc.nd rfl (Or.inl rfl)) (pdss_cons (pds_set (i := 11) sc.nd rfl (Or.inl rfl) (pd_lst (pda_cons (pd_fn (ok_law_earlier (P := P) g) hr (by decide) (pda_cons (pd_ixV hu1 (pv 10) pd_int) (pda_cons (pd_ixV hu1 (pv 10) pd_int) pda_nil))) (pda_cons (pd_fn (ok_law_earlier (P := P) g) hr (by decide) (pda_cons (pd_ixV hu1 (pv 10) pd_int) (pda_cons (pd_ixV hu1 (pv 10) pd_int) pda_nil))) pda_nil)))) (pdss_one (pds_if (pdt_not (pdt_tru (PD.pq (pd_fn (ok_law_same (P := P) g) hr (by decide) (pda_cons (pd_lst (pda_cons (pd_fn (ok_is_before (P := P) g) hr (by decide) (pda_cons (pd_ixV hu1 (pv 10) pd_int) (pda_cons (pd_ixV hu1 (pv 10) pd_int) pda_nil))) (pda_cons (pd_fn (ok_is_before (P := P) g) hr (by decide) (pda_cons (pd_ixV hu1 (pv 10) pd_int) (pda_cons (pd_ixV hu1 (pv 10) pd_int) pda_nil))) pda_nil))) (pda_cons (pd_var 11) pda_nil)))))) (pdss_one (pds_ret pd_bl)) pdss_nil)))) (pdss_one (pds_ret pd_bl)))))))))))))), ?_⟩
  rintro ds Q E ⟨⟨ls, w⟩, rfl, ⟨ol, h1, h2⟩, hq⟩
  dsimp only at ol h1 h2 hq
  obtain ⟨l1, l3, lS, lR⟩ := id ol
  walk_at "dk"
  walk_at "nm"
  refine ⟨by simp, ?_⟩
  walk_at "dk"
  walk_at "nm"
  obtain ⟨a, ea⟩ : ∃ a, ls[0]? = some a := ⟨_, List.getElem?_eq_getElem (by omega)⟩
  obtain ⟨z, ez⟩ : ∃ z, ls[ls.length - 1]? = some z := ⟨_, List.getElem?_eq_getElem (by omega)⟩
  have ea' : atI ls (0 : Int) = some a := (atI_nat ea : atI ls ((0 : Nat) : Int) = some a)
  have ez' : atI ls (-1) = some z := by rw [atI_m1 l1]; exact ez
  have ra := lR a (List.mem_of_getElem? ea)
  have mz := List.mem_of_getElem? ez
  refine s_upper (ρ1 := []) ?_
  walk_at "dk"
  refine DL.s_ixS (by omega) ea' ?_
  walk_at "dk"
  refine ⟨by simp; omega, by simp, ?_⟩
  walk_at "dk"
  refine DL.s_ixS (by omega) ez' ?_
  walk_at "dk"
  refine DL.s_ixS (by omega) ez' ?_
  walk_at "dk"
  refine ⟨by simp, ?_⟩
  walk_at "dk"
  have bad : ∀ t ∈ wrongT ls a z, t.length ≤ 1000 ∧ ¬ okLetters t := wrong_bad ol ra mz
  rw [show D.lst [.str [], .str (ls ++ [121, 122, 33]), .str (List.map up1 [a]), .str ([z] ++ ls), .str (ls ++ [z]), .str [97, 98, 99, 100]] = D.lst (wds (wrongT ls a z)) from rfl]
  generalize wrongT ls a z = wr at bad
  walk_at "nm"
  refine DL.s_for ?_
  walk_at "dk"
  refine ⟨fun i ρ => ∃ (x : SV), ρ = [some (false, .tok), some (false, .str ls), some (false, .str w), some (false, .lst baseL), some (false, .lst (wds wr)), x, none, none, none, none, none, none, none], ⟨_, rfl⟩, fun i d ρ e ⟨x, eρ⟩ => ?_, fun ρ ⟨x, eρ⟩ => ?_⟩
  · subst eρ
    obtain ⟨t, et, rfl⟩ := wds_get e
    obtain ⟨bt1, bt2⟩ := bad t (List.mem_of_getElem? et)
    walk_at "dk"
    refine ⟨t, rfl, bt1, fun d ⟨_, e⟩ => ?_⟩
    obtain rfl := e bt2
    walk_at "dk"
    refine ⟨by simp, ?_⟩
    refine DL.s_addL ⟨by simp, ?_⟩
    walk_at "dk"
    refine ⟨.lst clsLettersError, rfl, plain_lst (by simp) (by simp only [clsLettersError]; intro d hd; simp only [List.mem_cons, List.not_mem_nil, or_false] at hd; rcases hd with rfl | rfl | rfl <;> rfl), fun d e => ?_⟩
    subst e
    walk_at "dk"
    exact ⟨_, rfl⟩
  · subst eρ
    walk_at "dk"
    refine DL.s_slS ⟨by omega, ?_⟩
    rw [show (198 : Int) = ((198 : Nat) : Int) from rfl, cut_take]
    have ln : (w.take 198).length ≤ 198 := by rw [List.length_take]; omega
    have hn : ∀ c ∈ w.take 198, c ∈ ls := fun c hc => h2 c (List.mem_of_mem_take hc)
    generalize w.take 198 = nr at ln hn
    walk_at "dk"
    refine ⟨(nr.length : Int) + 1, rfl, ⟨by omega, by omega⟩, fun d ⟨v, e, v0, v1⟩ => ?_⟩
    subst e
    obtain ⟨at_, rfl⟩ := Int.eq_ofNat_of_zero_le v0
    walk_at "dk"
    walk_at "nm"
    refine ⟨ls, rfl, by omega, fun d ⟨e, _⟩ => ?_⟩
    obtain rfl := e ol
    walk_at "dk"
    refine ⟨(w, ls), rfl, by dsimp only; omega, fun d ⟨e, _⟩ => ?_⟩
    obtain rfl := e h2
    walk_at "dk"
    refine DL.s_slS ⟨by omega, ?_⟩
    rw [cut_take]
    have lt1 : (nr.take at_).length = at_ := by rw [List.length_take]; omega
    walk_at "dk"
    refine DL.s_slS ⟨by omega, ?_⟩
    rw [cut_drop]
    have lt2 : (nr.drop at_).length = nr.length - at_ := List.length_drop
    have hbad : BadAt (nr.take at_ ++ [63] ++ nr.drop at_ ++ [33]) ls at_ := by
      refine ⟨⟨63, ?_, fun k => by have := lR 63 k; omega⟩, fun j c hj hc => ?_⟩
      · rw [List.append_assoc, List.append_assoc, List.getElem?_append_right (by omega), lt1, Nat.sub_self]; rfl
      · rw [List.append_assoc, List.append_assoc, List.getElem?_append_left (by omega)] at hc
        exact hn c (List.mem_of_mem_take (List.mem_of_getElem? hc))
    have lbad : (nr.take at_ ++ [63] ++ nr.drop at_ ++ [33]).length ≤ 400 := by simp only [List.length_append, lt1, lt2, List.length_singleton]; omega
    walk_at "dk"
    refine ⟨(_, ls), rfl, by dsimp only; omega, fun d ⟨_, e⟩ => ?_⟩
    obtain rfl := e at_ hbad
    walk_at "dk"
    refine ⟨by simp, ?_⟩
    walk_at "dk"
    walk_at "nm"
    refine ⟨by simp, ?_⟩
    walk_at "dk"
    refine ⟨by simp, ?_⟩
    walk_at "dk"
    refine ⟨by simp, ?_⟩
    refine DL.s_addL ⟨by simp, ?_⟩
    walk_at "dk"
    refine ⟨by simp, ?_⟩
    refine ⟨.lst [.lst [.str ls], .lst [.str w], .lst (clsLetterError ++ [.int (at_ : Nat)])], rfl, rfl, fun d e => ?_⟩
    subst e
    walk_at "dk"
    walk_at "nm"
    refine ⟨(w, ls), rfl, ⟨by dsimp only; omega, by dsimp only; omega, h2⟩, fun d ⟨cs, e, c1, c2⟩ => ?_⟩
    subst e
    have hcs : cs = ls.filter fun c => decide (c ∈ w) := filter_sorted lS h2 c1 c2
    walk_at "dk"
    refine s_lc ?_
    walk_at "dk"
    refine s_lcAll (fun j acc => acc = ((ls.take j).filter fun c => decide (c ∈ w)).map fun c => D.str [c]) rfl (fun j d acc e ea => ?_) (fun acc ea => ?_)
    · obtain ⟨c, ec, rfl⟩ := chars_get e
      have ltc := (List.getElem?_eq_some_iff.mp ec).1
      refine s_lcT ?_
      walk_at "dk"
      refine s_listXS ⟨by omega, ?_⟩
      refine s_inL rfl (by simp [flatD]) ?_
      rw [if_neg Bool.false_ne_true, in_chars]
      rw [take_snoc ec, List.filter_append, List.filter_cons, List.filter_nil, List.map_append, ← ea]
      by_cases hm : c ∈ w
      · rw [decide_eq_true hm]
        walk_at "dk"
        refine ⟨rfl, ?_, rfl⟩
        rw [ea, List.length_map]
        refine Nat.lt_of_le_of_lt (List.length_filter_le _ _) ?_
        rw [List.length_take]; omega
      · rw [decide_eq_false hm]
        walk_at "dk"
        exact ⟨rfl, by rw [if_neg Bool.false_ne_true, List.map_nil, List.append_nil]⟩
    · rw [List.length_map, List.take_length, ← hcs] at ea
      subst ea
      have lcs : cs.length ≤ 3 := by rw [hcs]; exact Nat.le_trans (List.length_filter_le _ _) l3
      walk_at "dk"
      refine ⟨_, strsD_chars cs, ?_, ?_⟩
      · rw [flat_chars]; omega
      rw [flat_chars]
      walk_at "dk"
      refine ⟨.str cs, rfl, rfl, fun d e => ?_⟩
      subst e
      walk_at "dk"
      walk_at "nm"
      refine ⟨by simp, ?_⟩
      walk_at "dk"
      obtain ⟨b, eb, b1, b7⟩ : ∃ b : Nat, atI [D.int 7, D.int 7, D.int 6] ((ls.length : Int) - 1) = some (.int (b : Nat)) ∧ 1 ≤ b ∧ b ≤ 7 := by
        have : ls.length = 1 ∨ ls.length = 2 ∨ ls.length = 3 := by omega
        rcases this with e | e | e
        · rw [e]; exact ⟨7, rfl, by decide, by decide⟩
        · rw [e]; exact ⟨7, rfl, by decide, by decide⟩
        · rw [e]; exact ⟨6, rfl, by decide, by decide⟩
      refine DL.s_ixL eb ?_
      walk_at "dk"
      refine ⟨(b : Nat), rfl, ⟨by omega, by omega⟩, fun d ⟨v, e, v0, v1⟩ => ?_⟩
      subst e
      obtain ⟨n, rfl⟩ := Int.eq_ofNat_of_zero_le v0
      have n6 : n ≤ 6 := by omega
      have len_up : ∀ k, k ≤ 6 → (uptoW ls k).length ≤ 4096 := fun k hk => Nat.le_trans (upto_len l3) (Nat.pow_le_pow_right (by decide) hk)
      walk_at "dk"
      walk_at "nm"
      refine s_listG ?_
      walk_at "dk"
      refine ⟨(ls, n), rfl, ⟨l3, n6⟩, fun o e => ?_⟩
      subst e
      walk_at "dk"
      refine ⟨by simp, ?_⟩
      walk_at "dk"
      refine ⟨(ls, n), rfl, ⟨l3, n6⟩, fun d e => ?_⟩
      subst e
      dsimp only
      walk_at "dk"
      refine ⟨by simp, ?_⟩
      walk_at "dk"
      refine ⟨.lst [.lst (wds (uptoW ls n)), .int 3], rfl, plain_lst (by simp) (fun d hd => ?_), fun d e => ?_⟩
      · simp only [List.mem_cons, List.not_mem_nil, or_false] at hd
        rcases hd with rfl | rfl
        · exact plain_strs (by have := len_up n n6; omega)
        · rfl
      subst e
      walk_at "dk"
      refine s_listG ?_
      walk_at "dk"
      refine ⟨(ls, 3), rfl, ⟨l3, by dsimp only; omega⟩, fun o e => ?_⟩
      subst e
      walk_at "dk"
      refine ⟨(ls, 3), rfl, ⟨l3, by dsimp only; omega⟩, fun d e => ?_⟩
      subst e
      dsimp only
      walk_at "dk"
      refine ⟨.lst (wds (uptoW ls 3)), rfl, plain_strs (by have := len_up 3 (by omega); omega), fun d e => ?_⟩
      subst e
      walk_at "dk"
      refine DL.s_for ?_
      walk_at "dk"
      refine DL.s_slS ⟨by omega, ?_⟩
      have q1 := cutG_len w (some 1) none
      generalize cutG w (some 1) none = w1 at q1
      walk_at "dk"
      refine ⟨by simp, ?_⟩
      walk_at "dk"
      refine ⟨by decide, by omega, ?_⟩
      rw [stepS_rev]
      have q2 : w.reverse.length ≤ w.length := by rw [List.length_reverse]; exact Nat.le_refl _
      generalize w.reverse = w2 at q2
      walk_at "dk"
      refine ⟨by simp, ?_⟩
      walk_at "dk"
      refine ⟨by simp, ?_⟩
      walk_at "dk"
      refine DL.s_slS ⟨by omega, ?_⟩
      have q3 := cutG_len w none (some (at_ : Nat))
      walk_at "dk"
      refine DL.s_slS ⟨by omega, ?_⟩
      generalize cutG w none (some (at_ : Nat)) = w3 at q3
      walk_at "dk"
      refine DL.s_ixS (by omega) ea' ?_
      walk_at "dk"
      refine ⟨by simp, ?_⟩
      walk_at "dk"
      refine ⟨by simp, ?_⟩
      walk_at "dk"
      have hP : ∀ p ∈ [(w, w1), (w2, w), (w, w), (w3, w3 ++ [a])], p.1.length ≤ 1000 ∧ p.2.length ≤ 1000 := by
        intro p hp
        simp only [List.mem_cons, List.not_mem_nil, or_false] at hp
        rcases hp with rfl | rfl | rfl | rfl
        · exact ⟨by dsimp only; omega, by dsimp only; omega⟩
        · exact ⟨by dsimp only; omega, by dsimp only; omega⟩
        · exact ⟨by dsimp only; omega, by dsimp only; omega⟩
        · exact ⟨by dsimp only; omega, by simp; omega⟩
      rw [show [D.lst [D.str w, D.str w1], D.lst [D.str w2, D.str w], D.lst [D.str w, D.str w], D.lst [D.str w3, D.str (w3 ++ [a])]] = [(w, w1), (w2, w), (w, w), (w3, w3 ++ [a])].map (fun p => D.lst [.str p.1, .str p.2]) from rfl]
      generalize [(w, w1), (w2, w), (w, w), (w3, w3 ++ [a])] = ps at hP
      generalize D.lst [D.lst [D.str ls], D.lst [D.str w], D.lst [D.str [86, 97, 108, 117, 101, 69, 114, 114, 111, 114], D.str [84, 111, 111, 108, 69, 114, 114, 111, 114], D.str [76, 101, 116, 116, 101, 114, 69, 114, 114, 111, 114], D.int (at_ : Nat)]] = tl
      refine ⟨fun i ρ => ∃ (x10 x11 x12 : SV), ρ = [some (false, .tok), some (false, .str ls), some (false, .str w), some (false, .lst baseL), some (false, .lst (wds wr)), x, some (false, .str nr), some (false, .int (at_ : Nat)), some (false, tl), some (false, .int (n : Nat)), x10, x11, x12], ⟨_, _, _, rfl⟩, fun i d ρ e ⟨x10, x11, x12, eρ⟩ => ?_, fun ρ ⟨x10, x11, x12, eρ⟩ => ?_⟩
      · subst eρ
        obtain ⟨p, ep, rfl⟩ : ∃ p, ps[i]? = some p ∧ d = D.lst [.str p.1, .str p.2] := by
          rw [List.getElem?_map] at e
          cases q : ps[i]? with
          | none => rw [q] at e; cases e
          | some p => rw [q] at e; exact ⟨p, rfl, (Option.some.inj e).symm⟩
        obtain ⟨p1, p2⟩ := hP p (List.mem_of_getElem? ep)
        walk_at "dk"
        walk_at "nm"
        refine ⟨(p.1, p.2), rfl, ⟨p1, p2⟩, fun d e => ?_⟩
        subst e
        walk_at "dk"
        refine ⟨(p.2, p.1), rfl, ⟨p2, p1⟩, fun d e => ?_⟩
        subst e
        walk_at "dk"
        refine ⟨by simp, ?_⟩
        walk_at "dk"
        walk_at "nm"
        refine ⟨(p.1, p.2), rfl, ⟨p1, p2⟩, fun d e => ?_⟩
        subst e
        walk_at "dk"
        refine ⟨(p.2, p.1), rfl, ⟨p2, p1⟩, fun d e => ?_⟩
        subst e
        walk_at "dk"
        refine ⟨by simp, ?_⟩
        walk_at "dk"
        refine ⟨.lst [.bl (bef p.1 p.2), .bl (bef p.2 p.1)], rfl, rfl, fun d e => ?_⟩
        subst e
        walk_at "dk"
        exact ⟨_, _, _, rfl⟩
      · subst eρ
        walk_at "dk"
        exact hq _ rfl
end W00
namespace W00
open PySem PySem.Spec L2 PyProof.Rows DL
open scoped List
local macro_rules | `(tactic| walk_at "d1") => `(tactic| with_reducible first
  | refine DL.s_seq ?_ | refine DL.s_asg ?_ | refine DL.s_gname ?_ | refine DL.s_gown ?_ | refine DL.s_ret ?_ | refine DL.s_retN ?_ | refine DL.s_drop ?_ | refine DL.s_ifs ?_ | refine DL.s_c ?_ | refine DL.s_op2 ?_ | refine DL.s_op1 ?_ | refine DL.s_nil ?_ | refine DL.s_cons ?_ | refine DL.s_next ?_
  | refine DL.s_call ?_ | refine DL.s_test ?_ | refine DL.s_truT ?_ | refine DL.s_and ?_ | refine DL.s_or ?_ | refine DL.s_not ?_ | refine DL.s_andV ?_ | refine DL.s_orV ?_ | refine DL.s_notV ?_ | refine DL.s_if ?_ | refine DL.s_lst ?_ | refine DL.s_tup ?_ | refine DL.s_slice ?_ | refine DL.s_nopart ?_ | refine DL.s_part ?_
  | refine DL.s_chain ?_ | refine DL.t_iany ?_ | refine DL.s_irng1 ?_ | refine DL.s_irng2 ?_ | refine DL.s_meth ?_ | refine DL.s_strT ?_ | refine DL.s_truB ?_ | refine DL.s_setF ?_ | refine DL.t_meth ?_ | refine DL.s_ienum ?_ | refine DL.s_enmS ?_ | refine DL.s_gcons ?_ | refine DL.s_gnil ?_ | refine DL.s_sort ?_ | refine DL.t_notinC ?_ | refine DL.t_inC ?_ | refine DL.s_itemS ?_ | refine DL.s_itemL ?_ | refine DL.s_addS ⟨by first | omega | (simp <;> omega), ?_⟩ | refine DL.s_lenS ⟨by omega, ?_⟩ | refine DL.s_ixS0 ?_ | refine DL.s_ixS1 ?_ | refine DL.s_ixT0 ?_ | refine DL.s_ixT1 ?_ | refine DL.s_max2 ?_ | refine DL.s_max2N ?_ | refine DL.s_find3 ?_ | refine DL.s_rfind ?_ | refine DL.s_set0 ?_ | refine DL.s_put ?_ | refine DL.s_fz ?_ | refine DL.s_make ?_ | refine DL.s_disp ?_ | refine DL.s_dpc ?_ | refine DL.s_dpn ?_ | refine DL.s_dict0 ?_ | refine DL.s_lcT2 ?_ | refine DL.s_lcT ?_ | refine DL.s_yes ?_
  | refine DL.s_addI ?_ | refine DL.s_I0 ?_ | refine DL.s_cmpI ?_ | refine DL.s_cmpS ?_ | refine DL.s_eqI ?_ | refine DL.s_neI ?_ | refine DL.s_eqB ?_ | refine DL.s_neB ?_ | refine DL.s_eqS ?_ | refine DL.s_neS ?_ | refine DL.s_isNon ?_ | refine DL.s_isnotNon ?_
  | refine DL.s_lenL ?_ | refine DL.s_lenT ?_ | refine DL.s_lenP ?_ | refine DL.s_intI ?_ | refine DL.s_intB ?_ | refine DL.s_listL ?_ | refine DL.s_listT ?_ | refine DL.s_tupL ?_ | refine DL.s_tupT ?_ | refine DL.s_raise ?_ | refine DL.s_mkE ?_ | refine DL.s_mk0 ?_ | refine DL.s_callX ?_ | refine DL.s_try ?_ | refine DL.s_ix0L ?_ | refine DL.s_ix1L ?_ | refine DL.s_neg ?_ | refine DL.s_listXL ?_ | refine DL.s_listXT ?_ | refine DL.s_step ?_ | refine DL.s_callB ?_ | refine DL.s_bnil ?_ | refine DL.s_bcons ?_ | refine DL.s_tab ?_ | refine DL.s_inTab ?_ | refine DL.s_inI ?_ | refine DL.s_seqO ?_)
local macro_rules | `(tactic| walk_at "d2") => `(tactic| first
  | ((with_reducible apply DL.s_var); exact rfl) | ((with_reducible apply DL.s_varO); exact rfl; rotate_left; exact rfl) | ((with_reducible apply DL.s_peek); exact rfl) | ((with_reducible apply DL.s_ixK); exact rfl) | ((with_reducible apply DL.s_ixJ); exact rfl; exact rfl)
  | ((with_reducible apply DL.s_ixV2); exact rfl) | ((with_reducible apply DL.s_ixV); exact ⟨_, rfl⟩) | ((with_reducible apply DL.s_isi); exact rfl) | ((with_reducible apply DL.s_isSome); exact rfl) | ((with_reducible apply DL.s_isnotSome); exact rfl) | ((with_reducible apply DL.s_gtup); exact rfl) | ((with_reducible apply DL.s_ixP); exact rfl) | ((with_reducible apply DL.s_setP); exact rfl; exact rfl) | ((with_reducible apply DL.s_retO); exact rfl))
local macro_rules | `(tactic| walk_at "dif") => `(tactic| with_reducible refine DL.s_ite (fun hb => ?_) (fun hb => ?_))
local macro_rules | `(tactic| walk_at "dgo") => `(tactic| repeat (first | walk_at "d1" | walk_at "d2" | (with_reducible refine DL.s_iteNT ?_) | (with_reducible refine DL.s_iteNF ?_) | (with_reducible refine DL.s_iteT ?_) | (with_reducible refine DL.s_iteF ?_) | dsimp only))
local macro_rules | `(tactic| walk_at "dgo1") => `(tactic| first | walk_at "d1" | walk_at "d2" | (with_reducible refine DL.s_iteNT ?_) | (with_reducible refine DL.s_iteNF ?_) | (with_reducible refine DL.s_iteT ?_) | (with_reducible refine DL.s_iteF ?_) | dsimp only)
local macro_rules | `(tactic| walk_at "dk") => `(tactic| repeat (first | walk_at "dgo1" | rw [dec_rfl'] | rw [dec_ne' _ (by decide)]))
local macro_rules | `(tactic| walk_at "nm") => `(tactic| try simp only [List.map_cons, List.map_nil, List.set_cons_zero, List.set_cons_succ, List.cons_append, List.nil_append, List.length_cons, List.length_nil, List.replicate_succ, List.replicate_zero])
theorem plain_optT {n : Nat} {o : Option (List Nat)} (h : ∀ qs, o = some qs → qs.length ≤ 16000) : plainD (n + 1) (optT o) = true := by
  cases o with
  | none => exact plain_non
  | some qs =>
    refine plain_tup (by rw [List.length_map]; exact h qs rfl) fun d hd => ?_
    obtain ⟨q, _, rfl⟩ := List.mem_map.mp hd
    exact plain_int _
theorem body_law {P : Program} [PrF P] {w : World} {K : PySem.W.Frag} {mg : Str → Option Value} {base : Heap} (g : Gf K mg) (cdv : Value) (A : Around) (outer : List Env) (s : Shared) (H : Hp) (E : XK) (hr : Room 7 (A.deeper (envOfC "law" (defScope s_law) s.heap.objs.size (He.ga K "law") cdv))) : ∃ t, (∀ m, PDSs (cxOf CX0 P w K mg base ["script", "state", "letters", "word", "drawn", "step", "thin", "changed", "piece", "most", "due", "listed", "large", "told"] "law" (defScope s_law) (He.ga K "law") cdv A outer s H E).nox m (defBody s_law).tail t) ∧ t { nx := fun _ => False, rt := fun d _ => d = .bl true } ((List.replicate 14 none).set 1 (some (false, .tok))) := by
  have hu := hr.units
  have hu1 := Nat.lt_of_le_of_lt (Nat.add_le_add_left (by decide : 1 ≤ 64) _) hu
  have sc := sc_law
  refine ⟨_, fun m => (pdss_cons (pds_set (i := 2) sc.nd rfl (Or.inl rfl) (pd_fn (ok_law_letters (P := P) g) hr (by decide) (pda_cons (pd_var 1) (pda_cons pd_int pda_nil)))) (pdss_cons (pds_set (i := 3) sc.nd rfl (Or.inr rfl) (pd_fn (ok_law_long (P := P) g) hr (by decide) (pda_cons (pd_var 1) (pda_cons (pd_var 2) (pda_cons pd_int pda_nil))))) (pdss_cons (pds_set (i := 4) sc.nd rfl (Or.inl rfl) (pd_fn (ok_law_word (P := P) g) hr (by decide) (pda_cons (pd_var 1) (pda_cons (pd_var 2) (pda_cons pd_int pda_nil))))) (pdss_cons (pds_set (i := 5) sc.nd rfl (Or.inl rfl) (pd_bin o_add op_addU pd_int (pd_fn (ok_law_draw (P := P) g) hr (by decide) (pda_cons (pd_var 1) (pda_cons pd_int pda_nil))))) (pdss_cons (pds_set (i := 6) sc.nd rfl (Or.inl rfl) (pd_step (pd_var 3) (pdo_some (pd_fn (ok_law_draw (P := P) g) hr (by decide) (pda_cons (pd_var 1) (pda_cons pd_int pda_nil)))) pdo_none (pdo_some (pd_var 5)))) (pdss_cons (pds_set (i := 7) sc.nd rfl (Or.inl rfl) (pd_bin o_add op_addU (pd_slice (pd_var 6) pdo_none (pdo_some pd_int)) (pd_ixV hu1 (pv 2) (pd_fn (ok_law_draw (P := P) g) hr (by decide) (pda_cons (pd_var 1) (pda_cons (pd_len (pq_var 2) rfl (by rfl) g.b_len) pda_nil)))))) (pdss_cons (pds_for PassesOwn.never rfl (pdi_any (pd_lst (pda_cons (pd_var 4) (pda_cons (pd_var 6) (pda_cons (pd_var 7) (pda_cons (pd_var 3) (pda_cons (pd_str []) pda_nil))))))) (pdg_name (i := 8) sc.nd rfl (Or.inl rfl)) (pdss_cons (pds_set (i := 10) sc.nd rfl (Or.inl rfl) (pd_lst (pda_cons (pd_fn (ok_law_piece (P := P) g) hr (by decide) (pda_cons (pd_var 8) (pda_cons (pd_var 3) pda_nil))) (pda_cons (pd_fn (ok_law_first (P := P) g) hr (by decide) (pda_cons (pd_var 8) (pda_cons (pd_var 3) pda_nil))) (pda_cons (pd_fn (ok_law_last (P := P) g) hr (by decide) (pda_cons (pd_var 8) (pda_cons (pd_var 3) pda_nil))) (pda_cons (pd_fn (ok_law_ways (P := P) g) hr (by decide) (pda_cons (pd_var 8) (pda_cons (pd_var 3) pda_nil))) pda_nil)))))) (pdss_cons (pds_set (i := 13) sc.nd rfl (Or.inl rfl) (pd_lst (pda_cons (pd_fn (ok_is_piece (P := P) g) hr (by decide) (pda_cons (pd_var 8) (pda_cons (pd_var 3) pda_nil))) (pda_cons (pd_fn (ok_first_places (P := P) g) hr (by decide) (pda_cons (pd_var 8) (pda_cons (pd_var 3) pda_nil))) (pda_cons (pd_fn (ok_last_places (P := P) g) hr (by decide) (pda_cons (pd_var 8) (pda_cons (pd_var 3) pda_nil))) (pda_cons (pd_fn (ok_ways_of (P := P) g) hr (by decide) (pda_cons (pd_var 8) (pda_cons (pd_var 3) pda_nil))) pda_nil)))))) (pdss_one (pds_if (pdt_not (pdt_tru (PD.pq (pd_fn (ok_law_same (P := P) g) hr (by decide) (pda_cons (pd_var 13) (pda_cons (pd_var 10) pda_nil)))))) (pdss_one (pds_ret pd_bl)) pdss_nil))))) (pdss_cons (pds_set (i := 9) sc.nd rfl (Or.inl rfl) (pd_fn (ok_law_draw (P := P) g) hr (by decide) (pda_cons (pd_var 1) (pda_cons pd_int pda_nil)))) (pdss_cons (pds_setLc (own := [("piece", 8)]) (i := 10) rfl sc.nd rfl rfl (sw_true rfl rfl rfl (by decide +kernel)) (pdi_any (pd_fn (ok_law_words (P := P) g) hr (by decide) (pda_cons (pd_var 2) (pda_cons (pd_var 9) pda_nil)))) (blkOk_by (N := ["script", "state", "letters", "word", "drawn", "step", "thin", "changed", "piece", "most", "due", "listed", "large", "told"]) (sc := defScope s_law) (by decide +kernel)) (ctg_name (by decide)) (fun _ _ _ _ _ => pg_name (i := 8) sc.nd rfl (Or.inl rfl)) (fun _ _ _ _ _ _ => pdts_one (pdt_tru (PD.pq (pd_fn (ok_law_piece (P := P) g) hr (by decide) (pda_cons (pd_var 8) (pda_cons (pd_var 3) pda_nil)))))) (fun _ _ _ _ _ _ => (pd_var 8)) s) (pdss_cons (pds_setO (i := 11) sc.nd rfl (Or.inl rfl) (pf_fn (okf_pieces_of (P := P) g) hr (by decide) (pda_cons (pd_var 3) (pda_cons (pd_var 9) pda_nil)))) (pdss_cons (pds_if (pdt_not (pdt_tru (PD.pq (pd_fnB (ok_law_same (P := P) g) hr (by decide) (pdab_own (pv 11) (pdab_cons (pd_var 10) pdab_nil)))))) (pdss_one (pds_ret pd_bl)) pdss_nil) (pdss_cons (pds_append 11 (pd_str [115, 112, 111, 105, 108, 116])) (pdss_cons (pds_if (pdt_not (pdt_tru (PD.pq (pd_fn (ok_law_same (P := P) g) hr (by decide) (pda_cons (pf_fn (okf_pieces_of (P := P) g) hr (by decide) (pda_cons (pd_var 3) (pda_cons (pd_var 9) pda_nil))).fz (pda_cons (pd_var 10) pda_nil)))))) (pdss_one (pds_ret pd_bl)) pdss_nil) (pdss_cons (pds_if (pdt_not (pdt_tru (PD.pq (pd_fn (ok_law_plain_words (P := P) g) hr (by decide) (pda_cons (pd_var 1) (pda_cons (pd_var 2) (pda_cons (pd_var 3) pda_nil))))))) (pdss_one (pds_ret pd_bl)) pdss_nil) (pdss_cons (pds_set (i := 12) sc.nd rfl (Or.inl rfl) (pd_lst (pda_cons (pd_str [86, 97, 108, 117, 101, 69, 114, 114, 111, 114]) (pda_cons (pd_str [84, 111, 111, 108, 69, 114, 114, 111, 114]) (pda_cons (pd_str [76, 105, 109, 105, 116, 69, 114, 114, 111, 114]) (pda_cons pd_int pda_nil)))))) (pdss_one (pds_ret (pd_fn (ok_law_same (P := P) g) hr (by decide) (pda_cons (pd_lst (pda_cons (pd_fn (ok_law_refused (P := P) g) hr (by decide) (pda_cons (pd_var 3) (pda_cons (pd_neg pd_int) pda_nil))) (pda_cons (pd_fn (ok_law_refused (P := P) g) hr (by decide) (pda_cons (pd_var 3) (pda_cons pd_int pda_nil))) pda_nil))) (pda_cons (pd_lst (pda_cons (pd_var 12) (pda_cons (pd_var 12) pda_nil))) pda_nil)))))))))))))))))))), ?_⟩
  walk_at "nm"
  walk_at "dk"
  refine ⟨3, rfl, by decide, fun d ⟨ls, e, ol, ln⟩ => ?_⟩
  subst e
  obtain ⟨l1, l3, lS, lR⟩ := id ol
  walk_at "nm"
  walk_at "dk"
  refine ⟨(ls, 200), rfl, ⟨l1, by dsimp only; omega, by dsimp only; omega⟩, fun d ⟨w, e, wl, wm⟩ => ?_⟩
  subst e
  dsimp only at wl wm
  walk_at "nm"
  walk_at "dk"
  refine ⟨(ls, 8), rfl, ⟨l1, by dsimp only; omega, by dsimp only; omega⟩, fun d ⟨u0, e, ul, um⟩ => ?_⟩
  subst e
  dsimp only at ul um
  walk_at "nm"
  walk_at "dk"
  refine ⟨40, rfl, ⟨by decide, by decide⟩, fun d ⟨v, e, v0, v1⟩ => ?_⟩
  subst e
  walk_at "nm"
  walk_at "dk"
  refine ⟨5, rfl, ⟨by decide, by decide⟩, fun d ⟨v5, e, _, _⟩ => ?_⟩
  subst e
  walk_at "nm"
  walk_at "dk"
  refine ⟨by omega, by omega, ?_⟩
  have tl := stepS_len w (some v5) none (k := 1 + v) (by omega)
  generalize stepS w (some v5) none (1 + v) = th at tl
  walk_at "nm"
  walk_at "dk"
  refine DL.s_slS ⟨by omega, ?_⟩
  rw [show (199 : Int) = ((199 : Nat) : Int) from rfl, cut_take]
  have tl2 : (th.take 199).length ≤ 199 := by rw [List.length_take]; omega
  generalize th.take 199 = th2 at tl2
  walk_at "nm"
  walk_at "dk"
  refine ⟨(ls.length : Int), rfl, ⟨by omega, by omega⟩, fun d ⟨b, e, b0, b1⟩ => ?_⟩
  subst e
  obtain ⟨k, rfl⟩ := Int.eq_ofNat_of_zero_le b0
  obtain ⟨c, ec⟩ : ∃ c, ls[k]? = some c := ⟨_, List.getElem?_eq_getElem (by omega)⟩
  walk_at "dk"
  refine DL.s_ixS (by omega) (atI_nat ec) ?_
  walk_at "dk"
  walk_at "nm"
  refine DL.s_for ?_
  walk_at "dk"
  refine ⟨by simp, ?_⟩
  walk_at "dk"
  have hP : ∀ u ∈ [u0, th, th2 ++ [c], w, []], u.length ≤ 200 := by
    intro u hu
    simp only [List.mem_cons, List.not_mem_nil, or_false] at hu
    rcases hu with rfl | rfl | rfl | rfl | rfl
    · omega
    · omega
    · simp; omega
    · omega
    · simp
  rw [show [D.str u0, D.str th, D.str (th2 ++ [c]), D.str w, D.str []] = wds [u0, th, th2 ++ [c], w, []] from rfl]
  generalize [u0, th, th2 ++ [c], w, []] = us at hP
  refine ⟨fun i ρ => ∃ (x8 x10 x13 : SV), ρ = [none, some (false, .tok), some (false, .str ls), some (false, .str w), some (false, .str u0), some (false, .int (1 + v)), some (false, .str th), some (false, .str (th2 ++ [c])), x8, none, x10, none, none, x13], ⟨_, _, _, rfl⟩, fun i d ρ e ⟨x8, x10, x13, eρ⟩ => ?_, fun ρ ⟨x8, x10, x13, eρ⟩ => ?_⟩
  · subst eρ
    obtain ⟨u, eu, rfl⟩ := wds_get e
    have hu2 := hP u (List.mem_of_getElem? eu)
    walk_at "dk"
    refine ⟨(u, w), rfl, ⟨by dsimp only; omega, by dsimp only; omega⟩, fun d e => ?_⟩
    subst e
    walk_at "dk"
    refine ⟨(u, w), rfl, ⟨by dsimp only; omega, by dsimp only; omega⟩, fun d e => ?_⟩
    subst e
    walk_at "dk"
    refine ⟨(u, w), rfl, ⟨by dsimp only; omega, by dsimp only; omega⟩, fun d e => ?_⟩
    subst e
    walk_at "dk"
    refine ⟨(u, w), rfl, ⟨by dsimp only; omega, by dsimp only; omega⟩, fun d e => ?_⟩
    subst e
    walk_at "dk"
    refine ⟨by simp, ?_⟩
    walk_at "dk"
    walk_at "nm"
    refine ⟨(u, w), rfl, ⟨by dsimp only; omega, by dsimp only; omega⟩, fun d e => ?_⟩
    subst e
    walk_at "dk"
    refine ⟨(u, w), rfl, ⟨by dsimp only; omega, by dsimp only; omega⟩, fun d e => ?_⟩
    subst e
    walk_at "dk"
    refine ⟨(u, w), rfl, ⟨by dsimp only; omega, by dsimp only; omega⟩, fun d e => ?_⟩
    subst e
    walk_at "dk"
    refine ⟨(u, w), rfl, ⟨by dsimp only; omega, by dsimp only; omega⟩, fun d e => ?_⟩
    subst e
    walk_at "dk"
    refine ⟨by simp, ?_⟩
    walk_at "dk"
    walk_at "nm"
    refine ⟨.lst [.bl (isP w u), optT (fp w u 0), optT ((fpL w u.reverse (w.length + 1)).map List.reverse), .int (cn u w w.length u.length : Nat)], rfl, plain_lst (by simp) (fun d hd => ?_), fun d e => ?_⟩
    · simp only [List.mem_cons, List.not_mem_nil, or_false] at hd
      rcases hd with rfl | rfl | rfl | rfl
      · rfl
      · exact plain_optT fun qs e => by rw [fp_len e]; omega
      · refine plain_optT fun qs e => ?_
        rw [fpL_eq (Nat.le_refl _), Option.map_map] at e
        cases e2 : fp w.reverse u.reverse (w.length + 1 - (w.length + 1)) with
        | none => rw [e2] at e; cases e
        | some rs =>
          rw [e2] at e
          cases e
          have := fp_len e2
          simp only [Function.comp, List.length_reverse, List.length_map] at this ⊢
          omega
      · rfl
    subst e
    walk_at "dk"
    exact ⟨_, _, _, rfl⟩
  · subst eρ
    walk_at "dk"
    refine ⟨7, rfl, ⟨by decide, by decide⟩, fun d ⟨v7, e, v70, v71⟩ => ?_⟩
    subst e
    obtain ⟨n, rfl⟩ := Int.eq_ofNat_of_zero_le v70
    have n6 : n ≤ 6 := by omega
    have len_up : (uptoW ls n).length ≤ 4096 := Nat.le_trans (upto_len l3) (Nat.pow_le_pow_right (by decide) n6)
    walk_at "dk"
    walk_at "nm"
    refine s_lc ?_
    walk_at "dk"
    refine ⟨(ls, n), rfl, ⟨l3, n6⟩, fun d e => ?_⟩
    subst e
    dsimp only
    walk_at "dk"
    refine s_lcAll (fun j acc => acc = wds (((uptoW ls n).take j).filter (isP w))) rfl (fun j d acc e ea => ?_) (fun acc ea => ?_)
    · obtain ⟨u, eu, rfl⟩ := wds_get e
      have ltu := (List.getElem?_eq_some_iff.mp eu).1
      have lu : u.length ≤ n := (upto_mem.mp (List.mem_of_getElem? eu)).1
      refine s_lcT ?_
      walk_at "dk"
      walk_at "nm"
      refine ⟨(u, w), rfl, ⟨by dsimp only; omega, by dsimp only; omega⟩, fun d e => ?_⟩
      subst e
      dsimp only
      have hT : ((uptoW ls n).take (j + 1)).filter (isP w) = ((uptoW ls n).take j).filter (isP w) ++ [u].filter (isP w) := by
        rw [← List.filter_append, List.take_add_one, eu]; rfl
      have la : acc.length ≤ 4096 := by
        rw [ea, wds_len]
        refine Nat.le_trans (List.length_filter_le _ _) ?_
        rw [List.length_take]; omega
      rw [hT, ← wds_app, ← ea]
      cases e2 : decide (u <+ w) with
      | true =>
        rw [List.filter_cons, if_pos e2, List.filter_nil]
        walk_at "dk"
        exact ⟨rfl, by omega, rfl⟩
      | false =>
        rw [List.filter_cons, if_neg (by rw [show isP w u = false from e2]; simp), List.filter_nil]
        walk_at "dk"
        exact ⟨rfl, by rw [show wds [] = [] from rfl, List.append_nil]⟩
    · rw [wds_len, List.take_length] at ea
      subst ea
      have lP : ((uptoW ls n).filter (isP w)).length ≤ 4096 := Nat.le_trans (List.length_filter_le _ _) len_up
      generalize hR : (uptoW ls n).filter (isP w) = res at lP
      walk_at "dk"
      walk_at "nm"
      refine ⟨(w, ls, n), rfl, ⟨by dsimp only; omega, ⟨l3, lS, wm⟩, n6⟩, fun d e => ?_⟩
      dsimp only at e
      rw [hR] at e
      subst e
      walk_at "dk"
      walk_at "nm"
      refine s_bown rfl ?_
      walk_at "dk"
      have nt : noToks (wds res) = true := noToks_all fun d hd => by
        obtain ⟨u, _, rfl⟩ := List.mem_map.mp hd
        rfl
      refine ⟨⟨rfl, rfl, by simp, trivial⟩, by show (noToks (wds res) && (noToks (wds res) && true)) = true; rw [nt]; rfl, .lst (wds res), rfl, plain_strs (by omega), fun d e => ?_⟩
      subst e
      refine ⟨rfl, ?_⟩
      walk_at "dk"
      walk_at "nm"
      refine DL.s_append ⟨_, rfl⟩ ?_
      walk_at "dk"
      refine DL.s_appN rfl ⟨by rw [wds_len]; omega, ?_⟩
      walk_at "dk"
      walk_at "nm"
      generalize wds res ++ [D.str [115, 112, 111, 105, 108, 116]] = spt
      refine ⟨(w, ls, n), rfl, ⟨by dsimp only; omega, ⟨l3, lS, wm⟩, n6⟩, fun d e => ?_⟩
      dsimp only at e
      rw [hR] at e
      subst e
      refine ⟨rfl, ?_⟩
      walk_at "dk"
      walk_at "nm"
      refine ⟨.lst (wds res), rfl, plain_strs (by omega), fun d e => ?_⟩
      subst e
      walk_at "dk"
      walk_at "nm"
      refine ⟨(ls, w), rfl, ⟨ol, wl, wm⟩, fun d e => ?_⟩
      subst e
      walk_at "dk"
      refine ⟨by simp, ?_⟩
      walk_at "dk"
      walk_at "nm"
      refine ⟨(w, -1), rfl, .inl (by dsimp only; omega), fun d e => ?_⟩
      subst e
      walk_at "dk"
      refine ⟨(w, 7), rfl, .inr (by dsimp only; omega), fun d e => ?_⟩
      subst e
      walk_at "dk"
      refine ⟨by simp, ?_⟩
      walk_at "dk"
      refine ⟨by simp, ?_⟩
      walk_at "dk"
      refine ⟨.lst [.lst (clsLimitError ++ [.int 6]), .lst (clsLimitError ++ [.int 6])], rfl, rfl, fun d e => ?_⟩
      exact e
end W00
namespace W00
open PySem PySem.Spec L2 PyProof.Rows DL
open scoped List
local macro_rules | `(tactic| walk_at "d1") => `(tactic| with_reducible first
  | refine DL.s_seq ?_ | refine DL.s_asg ?_ | refine DL.s_gname ?_ | refine DL.s_gown ?_ | refine DL.s_ret ?_ | refine DL.s_retN ?_ | refine DL.s_drop ?_ | refine DL.s_ifs ?_ | refine DL.s_c ?_ | refine DL.s_op2 ?_ | refine DL.s_op1 ?_ | refine DL.s_nil ?_ | refine DL.s_cons ?_ | refine DL.s_next ?_
  | refine DL.s_call ?_ | refine DL.s_test ?_ | refine DL.s_truT ?_ | refine DL.s_and ?_ | refine DL.s_or ?_ | refine DL.s_not ?_ | refine DL.s_andV ?_ | refine DL.s_orV ?_ | refine DL.s_notV ?_ | refine DL.s_if ?_ | refine DL.s_lst ?_ | refine DL.s_tup ?_ | refine DL.s_slice ?_ | refine DL.s_nopart ?_ | refine DL.s_part ?_
  | refine DL.s_chain ?_ | refine DL.t_iany ?_ | refine DL.s_irng1 ?_ | refine DL.s_irng2 ?_ | refine DL.s_meth ?_ | refine DL.s_strT ?_ | refine DL.s_truB ?_ | refine DL.s_setF ?_ | refine DL.t_meth ?_ | refine DL.s_ienum ?_ | refine DL.s_enmS ?_ | refine DL.s_gcons ?_ | refine DL.s_gnil ?_ | refine DL.s_sort ?_ | refine DL.t_notinC ?_ | refine DL.t_inC ?_ | refine DL.s_itemS ?_ | refine DL.s_itemL ?_ | refine DL.s_addS ⟨by first | omega | (simp <;> omega), ?_⟩ | refine DL.s_lenS ⟨by omega, ?_⟩ | refine DL.s_ixS0 ?_ | refine DL.s_ixS1 ?_ | refine DL.s_ixT0 ?_ | refine DL.s_ixT1 ?_ | refine DL.s_max2 ?_ | refine DL.s_max2N ?_ | refine DL.s_find3 ?_ | refine DL.s_rfind ?_ | refine DL.s_set0 ?_ | refine DL.s_put ?_ | refine DL.s_fz ?_ | refine DL.s_make ?_ | refine DL.s_disp ?_ | refine DL.s_dpc ?_ | refine DL.s_dpn ?_ | refine DL.s_dict0 ?_ | refine DL.s_lcT2 ?_ | refine DL.s_lcT ?_ | refine DL.s_yes ?_
  | refine DL.s_addI ?_ | refine DL.s_I0 ?_ | refine DL.s_cmpI ?_ | refine DL.s_cmpS ?_ | refine DL.s_eqI ?_ | refine DL.s_neI ?_ | refine DL.s_eqB ?_ | refine DL.s_neB ?_ | refine DL.s_eqS ?_ | refine DL.s_neS ?_ | refine DL.s_isNon ?_ | refine DL.s_isnotNon ?_
  | refine DL.s_lenL ?_ | refine DL.s_lenT ?_ | refine DL.s_lenP ?_ | refine DL.s_intI ?_ | refine DL.s_intB ?_ | refine DL.s_listL ?_ | refine DL.s_listT ?_ | refine DL.s_tupL ?_ | refine DL.s_tupT ?_ | refine DL.s_raise ?_ | refine DL.s_mkE ?_ | refine DL.s_mk0 ?_ | refine DL.s_callX ?_ | refine DL.s_try ?_ | refine DL.s_ix0L ?_ | refine DL.s_ix1L ?_ | refine DL.s_neg ?_ | refine DL.s_listXL ?_ | refine DL.s_listXT ?_ | refine DL.s_step ?_ | refine DL.s_callB ?_ | refine DL.s_bnil ?_ | refine DL.s_bcons ?_ | refine DL.s_tab ?_ | refine DL.s_inTab ?_ | refine DL.s_inI ?_ | refine DL.s_seqO ?_)
local macro_rules | `(tactic| walk_at "d2") => `(tactic| first
  | ((with_reducible apply DL.s_var); exact rfl) | ((with_reducible apply DL.s_varO); exact rfl; rotate_left; exact rfl) | ((with_reducible apply DL.s_peek); exact rfl) | ((with_reducible apply DL.s_ixK); exact rfl) | ((with_reducible apply DL.s_ixJ); exact rfl; exact rfl)
  | ((with_reducible apply DL.s_ixV2); exact rfl) | ((with_reducible apply DL.s_ixV); exact ⟨_, rfl⟩) | ((with_reducible apply DL.s_isi); exact rfl) | ((with_reducible apply DL.s_isSome); exact rfl) | ((with_reducible apply DL.s_isnotSome); exact rfl) | ((with_reducible apply DL.s_gtup); exact rfl) | ((with_reducible apply DL.s_ixP); exact rfl) | ((with_reducible apply DL.s_setP); exact rfl; exact rfl) | ((with_reducible apply DL.s_retO); exact rfl))
local macro_rules | `(tactic| walk_at "dif") => `(tactic| with_reducible refine DL.s_ite (fun hb => ?_) (fun hb => ?_))
local macro_rules | `(tactic| walk_at "dgo") => `(tactic| repeat (first | walk_at "d1" | walk_at "d2" | (with_reducible refine DL.s_iteNT ?_) | (with_reducible refine DL.s_iteNF ?_) | (with_reducible refine DL.s_iteT ?_) | (with_reducible refine DL.s_iteF ?_) | dsimp only))
local macro_rules | `(tactic| walk_at "dgo1") => `(tactic| first | walk_at "d1" | walk_at "d2" | (with_reducible refine DL.s_iteNT ?_) | (with_reducible refine DL.s_iteNF ?_) | (with_reducible refine DL.s_iteT ?_) | (with_reducible refine DL.s_iteF ?_) | dsimp only)
local macro_rules | `(tactic| walk_at "dk") => `(tactic| repeat (first | walk_at "dgo1" | rw [dec_rfl'] | rw [dec_ne' _ (by decide)]))
local macro_rules | `(tactic| walk_at "nm") => `(tactic| try simp only [List.map_cons, List.map_nil, List.set_cons_zero, List.set_cons_succ, List.cons_append, List.nil_append, List.length_cons, List.length_nil, List.replicate_succ, List.replicate_zero])
section
variable {P : Program} [PrF P] {w : World} {K : PySem.W.Frag} {mg : Str → Option Value} {base : Heap}
theorem ok_law {fd : FuncData} (g : Gf K mg) (FD : FunD K "law" "law" (defArgs s_law) (defBody s_law) (defScope s_law) [] [] (He.ga K "law") fd) : FnOk P w K mg base CX0 8 (He.ga K "law") fd ["script"] (spLaw K) := by
  have sc := sc_law
  refine okLaw_mk (k := 7) (i := 1) FD sc (fn_law_new g) (by decide) rfl rfl (by decide) sc.nd rfl (fun cdv A outer s H E hr => ?_) (fun cdv A outer s H E hr => body_law g cdv A outer s H E hr)
  obtain ⟨fd1, F1, hb, gl, kp⟩ := fn_law_new (P := P) (w := w) (base := base) g
  exact ps_set (i := 1) sc.nd rfl (Or.inl rfl) (pe_call F1 (hr.mono (by decide)) rfl gl kp hb .nil pass0 (pa_cons (pv 0) pa_nil))
end
def d_check_letters : He.DefD := ⟨("check_letters", none), "check_letters", "check_letters", defArgs s_check_letters, defBody s_check_letters, defScope s_check_letters, [], []⟩
def d_check_word : He.DefD := ⟨("check_word", none), "check_word", "check_word", defArgs s_check_word, defBody s_check_word, defScope s_check_word, [], []⟩
def d_is_before : He.DefD := ⟨("is_before", none), "is_before", "is_before", defArgs s_is_before, defBody s_is_before, defScope s_is_before, [], []⟩
def d_contents : He.DefD := ⟨("contents", none), "contents", "contents", defArgs s_contents, defBody s_contents, defScope s_contents, [], []⟩
def d_short_words : He.DefD := ⟨("short_words", none), "short_words", "short_words", defArgs s_short_words, defBody s_short_words, defScope s_short_words, [.int 3], []⟩
def d_next_place : He.DefD := ⟨("next_place", none), "next_place", "next_place", defArgs s_next_place, defBody s_next_place, defScope s_next_place, [], []⟩
def d_last_place : He.DefD := ⟨("last_place", none), "last_place", "last_place", defArgs s_last_place, defBody s_last_place, defScope s_last_place, [], []⟩
def d_first_places : He.DefD := ⟨("first_places", none), "first_places", "first_places", defArgs s_first_places, defBody s_first_places, defScope s_first_places, [], []⟩
def d_last_places : He.DefD := ⟨("last_places", none), "last_places", "last_places", defArgs s_last_places, defBody s_last_places, defScope s_last_places, [], []⟩
def d_is_piece : He.DefD := ⟨("is_piece", none), "is_piece", "is_piece", defArgs s_is_piece, defBody s_is_piece, defScope s_is_piece, [], []⟩
def d_ways_of : He.DefD := ⟨("ways_of", none), "ways_of", "ways_of", defArgs s_ways_of, defBody s_ways_of, defScope s_ways_of, [], []⟩
def d_pieces_of : He.DefD := ⟨("pieces_of", none), "pieces_of", "pieces_of", defArgs s_pieces_of, defBody s_pieces_of, defScope s_pieces_of, [], []⟩
def d_law_classes : He.DefD := ⟨("_law_classes", none), "_law_classes", "_law_classes", defArgs s_law_classes, defBody s_law_classes, defScope s_law_classes, [], []⟩
def d_law_new : He.DefD := ⟨("_law_new", none), "_law_new", "_law_new", defArgs s_law_new, defBody s_law_new, defScope s_law_new, [], []⟩
def d_law_draw : He.DefD := ⟨("_law_draw", none), "_law_draw", "_law_draw", defArgs s_law_draw, defBody s_law_draw, defScope s_law_draw, [], []⟩
def d_law_letters : He.DefD := ⟨("_law_letters", none), "_law_letters", "_law_letters", defArgs s_law_letters, defBody s_law_letters, defScope s_law_letters, [], []⟩
def d_law_word : He.DefD := ⟨("_law_word", none), "_law_word", "_law_word", defArgs s_law_word, defBody s_law_word, defScope s_law_word, [], []⟩
def d_law_long : He.DefD := ⟨("_law_long", none), "_law_long", "_law_long", defArgs s_law_long, defBody s_law_long, defScope s_law_long, [], []⟩
def d_law_piece : He.DefD := ⟨("_law_piece", none), "_law_piece", "_law_piece", defArgs s_law_piece, defBody s_law_piece, defScope s_law_piece, [], []⟩
def d_law_same : He.DefD := ⟨("_law_same", none), "_law_same", "_law_same", defArgs s_law_same, defBody s_law_same, defScope s_law_same, [], []⟩
def d_law_words : He.DefD := ⟨("_law_words", none), "_law_words", "_law_words", defArgs s_law_words, defBody s_law_words, defScope s_law_words, [], []⟩
def d_law_first : He.DefD := ⟨("_law_first", none), "_law_first", "_law_first", defArgs s_law_first, defBody s_law_first, defScope s_law_first, [], []⟩
def d_law_last : He.DefD := ⟨("_law_last", none), "_law_last", "_law_last", defArgs s_law_last, defBody s_law_last, defScope s_law_last, [], []⟩
def d_law_ways : He.DefD := ⟨("_law_ways", none), "_law_ways", "_law_ways", defArgs s_law_ways, defBody s_law_ways, defScope s_law_ways, [], []⟩
def d_law_refused : He.DefD := ⟨("_law_refused", none), "_law_refused", "_law_refused", defArgs s_law_refused, defBody s_law_refused, defScope s_law_refused, [], []⟩
def d_law_earlier : He.DefD := ⟨("_law_earlier", none), "_law_earlier", "_law_earlier", defArgs s_law_earlier, defBody s_law_earlier, defScope s_law_earlier, [], []⟩
def d_law_alphabet : He.DefD := ⟨("_law_alphabet", none), "_law_alphabet", "_law_alphabet", defArgs s_law_alphabet, defBody s_law_alphabet, defScope s_law_alphabet, [], []⟩
def d_law_spelled : He.DefD := ⟨("_law_spelled", none), "_law_spelled", "_law_spelled", defArgs s_law_spelled, defBody s_law_spelled, defScope s_law_spelled, [], []⟩
def d_law_plain_words : He.DefD := ⟨("_law_plain_words", none), "_law_plain_words", "_law_plain_words", defArgs s_law_plain_words, defBody s_law_plain_words, defScope s_law_plain_words, [], []⟩
def d_law : He.DefD := ⟨("law", none), "law", "law", defArgs s_law, defBody s_law, defScope s_law, [], []⟩
def fn : List He.DefD := [d_check_letters, d_check_word, d_is_before, d_contents, d_short_words, d_next_place, d_last_place, d_first_places, d_last_places, d_is_piece, d_ways_of, d_pieces_of, d_law_classes, d_law_new, d_law_draw, d_law_letters, d_law_word, d_law_long, d_law_piece, d_law_same, d_law_words, d_law_first, d_law_last, d_law_ways, d_law_refused, d_law_earlier, d_law_alphabet, d_law_spelled, d_law_plain_words, d_law]
def fa : List He.Fa := [.glo "LimitError", .glo "LetterError", .glo "LettersError", .glo "ToolError", .glo "MixedLetters", .glo "TableError", .glo "ActionError", .glo "LassoError", .glo "StateError", .glo "RowError", .glo "NotStarFree", .glo "TextError", .glo "NameFault", .glo "LineError", .glo "CountsError", .glo "TooManyStates", .glo "TooManyActions", .glo "TooManyRows", .glo "ClashError", .glo "BreakError", .exc "LettersError", .exm "LetterError" "LetterError" true, .exm "LetterError" "LimitError" false, .exm "LetterError" "LettersError" false, .noat "LetterError" "index", .exm "LimitError" "LetterError" false, .exm "LimitError" "LimitError" true, .exm "LimitError" "LettersError" false, .noat "LimitError" "limit", .exm "LettersError" "LetterError" false, .exm "LettersError" "LimitError" false, .exm "LettersError" "LettersError" true, .free "ValueError", .free "bool", .free "enumerate", .free "int", .free "isinstance", .free "len", .free "list", .free "max", .free "range", .free "set", .free "sorted", .free "str", .free "super", .free "tuple", .int "MOST_LETTERS" 3, .int "MOST_PIECE" 6, .int "SHORT" 3, .str "SMALL" "abcdefghijklmnopqrstuvwxyz", .glo "check_letters", .glo "check_word", .glo "is_before", .glo "contents", .glo "short_words", .glo "next_place", .glo "last_place", .glo "first_places", .glo "last_places", .glo "is_piece", .glo "ways_of", .glo "pieces_of", .glo "_law_classes", .glo "_law_new", .glo "_law_draw", .glo "_law_letters", .glo "_law_word", .glo "_law_long", .glo "_law_piece", .glo "_law_same", .glo "_law_words", .glo "_law_first", .glo "_law_last", .glo "_law_ways", .glo "_law_refused", .glo "_law_earlier", .glo "_law_alphabet", .glo "_law_spelled", .glo "_law_plain_words", .glo "law"]
def fx0 : List (PySem.W.Frag → Bool) := [(fun K => iniB K "LimitError" "LimitError" "limit"), (fun K => iniB K "LetterError" "LetterError" "index"), (fun K => excB K (He.ga K "LetterError")), (fun K => decide (PySem.W.kitOne K (.ref (He.ga K "LetterError")) (.type "ValueError") = some true)), (fun K => decide (PySem.W.kitOne K (.ref (He.ga K "LetterError")) (.ref (He.ga K "ToolError")) = some true)), (fun K => decide (PySem.W.kitOne K (.ref (He.ga K "LetterError")) (.ref (He.ga K "LettersError")) = some false))]
def fx1 : List (PySem.W.Frag → Bool) := [(fun K => decide (PySem.W.kitOne K (.ref (He.ga K "LetterError")) (.ref (He.ga K "MixedLetters")) = some false)), (fun K => decide (PySem.W.kitOne K (.ref (He.ga K "LetterError")) (.ref (He.ga K "TableError")) = some false)), (fun K => decide (PySem.W.kitOne K (.ref (He.ga K "LetterError")) (.ref (He.ga K "ActionError")) = some false)), (fun K => decide (PySem.W.kitOne K (.ref (He.ga K "LetterError")) (.ref (He.ga K "LassoError")) = some false)), (fun K => decide (PySem.W.kitOne K (.ref (He.ga K "LetterError")) (.ref (He.ga K "LetterError")) = some true)), (fun K => decide (PySem.W.kitOne K (.ref (He.ga K "LetterError")) (.ref (He.ga K "StateError")) = some false))]
def fx2 : List (PySem.W.Frag → Bool) := [(fun K => decide (PySem.W.kitOne K (.ref (He.ga K "LetterError")) (.ref (He.ga K "RowError")) = some false)), (fun K => decide (PySem.W.kitOne K (.ref (He.ga K "LetterError")) (.ref (He.ga K "NotStarFree")) = some false)), (fun K => decide (PySem.W.kitOne K (.ref (He.ga K "LetterError")) (.ref (He.ga K "TextError")) = some false)), (fun K => decide (PySem.W.kitOne K (.ref (He.ga K "LetterError")) (.ref (He.ga K "NameFault")) = some false)), (fun K => decide (PySem.W.kitOne K (.ref (He.ga K "LetterError")) (.ref (He.ga K "LineError")) = some false)), (fun K => decide (PySem.W.kitOne K (.ref (He.ga K "LetterError")) (.ref (He.ga K "CountsError")) = some false))]
def fx3 : List (PySem.W.Frag → Bool) := [(fun K => decide (PySem.W.kitOne K (.ref (He.ga K "LetterError")) (.ref (He.ga K "LimitError")) = some false)), (fun K => decide (PySem.W.kitOne K (.ref (He.ga K "LetterError")) (.ref (He.ga K "TooManyStates")) = some false)), (fun K => decide (PySem.W.kitOne K (.ref (He.ga K "LetterError")) (.ref (He.ga K "TooManyActions")) = some false)), (fun K => decide (PySem.W.kitOne K (.ref (He.ga K "LetterError")) (.ref (He.ga K "TooManyRows")) = some false)), (fun K => decide (PySem.W.kitOne K (.ref (He.ga K "LetterError")) (.ref (He.ga K "ClashError")) = some false)), (fun K => decide (PySem.W.kitOne K (.ref (He.ga K "LetterError")) (.ref (He.ga K "BreakError")) = some false))]
def fx4 : List (PySem.W.Frag → Bool) := [(fun K => xfB K (He.ga K "LetterError")), (fun K => excB K (He.ga K "LimitError")), (fun K => decide (PySem.W.kitOne K (.ref (He.ga K "LimitError")) (.type "ValueError") = some true)), (fun K => decide (PySem.W.kitOne K (.ref (He.ga K "LimitError")) (.ref (He.ga K "ToolError")) = some true)), (fun K => decide (PySem.W.kitOne K (.ref (He.ga K "LimitError")) (.ref (He.ga K "LettersError")) = some false)), (fun K => decide (PySem.W.kitOne K (.ref (He.ga K "LimitError")) (.ref (He.ga K "MixedLetters")) = some false))]
def fx5 : List (PySem.W.Frag → Bool) := [(fun K => decide (PySem.W.kitOne K (.ref (He.ga K "LimitError")) (.ref (He.ga K "TableError")) = some false)), (fun K => decide (PySem.W.kitOne K (.ref (He.ga K "LimitError")) (.ref (He.ga K "ActionError")) = some false)), (fun K => decide (PySem.W.kitOne K (.ref (He.ga K "LimitError")) (.ref (He.ga K "LassoError")) = some false)), (fun K => decide (PySem.W.kitOne K (.ref (He.ga K "LimitError")) (.ref (He.ga K "LetterError")) = some false)), (fun K => decide (PySem.W.kitOne K (.ref (He.ga K "LimitError")) (.ref (He.ga K "StateError")) = some false)), (fun K => decide (PySem.W.kitOne K (.ref (He.ga K "LimitError")) (.ref (He.ga K "RowError")) = some false))]
def fx6 : List (PySem.W.Frag → Bool) := [(fun K => decide (PySem.W.kitOne K (.ref (He.ga K "LimitError")) (.ref (He.ga K "NotStarFree")) = some false)), (fun K => decide (PySem.W.kitOne K (.ref (He.ga K "LimitError")) (.ref (He.ga K "TextError")) = some false)), (fun K => decide (PySem.W.kitOne K (.ref (He.ga K "LimitError")) (.ref (He.ga K "NameFault")) = some false)), (fun K => decide (PySem.W.kitOne K (.ref (He.ga K "LimitError")) (.ref (He.ga K "LineError")) = some false)), (fun K => decide (PySem.W.kitOne K (.ref (He.ga K "LimitError")) (.ref (He.ga K "CountsError")) = some false)), (fun K => decide (PySem.W.kitOne K (.ref (He.ga K "LimitError")) (.ref (He.ga K "LimitError")) = some true))]
def fx7 : List (PySem.W.Frag → Bool) := [(fun K => decide (PySem.W.kitOne K (.ref (He.ga K "LimitError")) (.ref (He.ga K "TooManyStates")) = some false)), (fun K => decide (PySem.W.kitOne K (.ref (He.ga K "LimitError")) (.ref (He.ga K "TooManyActions")) = some false)), (fun K => decide (PySem.W.kitOne K (.ref (He.ga K "LimitError")) (.ref (He.ga K "TooManyRows")) = some false)), (fun K => decide (PySem.W.kitOne K (.ref (He.ga K "LimitError")) (.ref (He.ga K "ClashError")) = some false)), (fun K => decide (PySem.W.kitOne K (.ref (He.ga K "LimitError")) (.ref (He.ga K "BreakError")) = some false)), (fun K => xfB K (He.ga K "LimitError"))]
def fx8 : List (PySem.W.Frag → Bool) := [(fun K => excB K (He.ga K "LettersError")), (fun K => decide (PySem.W.kitOne K (.ref (He.ga K "LettersError")) (.type "ValueError") = some true)), (fun K => decide (PySem.W.kitOne K (.ref (He.ga K "LettersError")) (.ref (He.ga K "ToolError")) = some true)), (fun K => decide (PySem.W.kitOne K (.ref (He.ga K "LettersError")) (.ref (He.ga K "LettersError")) = some true)), (fun K => decide (PySem.W.kitOne K (.ref (He.ga K "LettersError")) (.ref (He.ga K "MixedLetters")) = some false)), (fun K => decide (PySem.W.kitOne K (.ref (He.ga K "LettersError")) (.ref (He.ga K "TableError")) = some false))]
def fx9 : List (PySem.W.Frag → Bool) := [(fun K => decide (PySem.W.kitOne K (.ref (He.ga K "LettersError")) (.ref (He.ga K "ActionError")) = some false)), (fun K => decide (PySem.W.kitOne K (.ref (He.ga K "LettersError")) (.ref (He.ga K "LassoError")) = some false)), (fun K => decide (PySem.W.kitOne K (.ref (He.ga K "LettersError")) (.ref (He.ga K "LetterError")) = some false)), (fun K => decide (PySem.W.kitOne K (.ref (He.ga K "LettersError")) (.ref (He.ga K "StateError")) = some false)), (fun K => decide (PySem.W.kitOne K (.ref (He.ga K "LettersError")) (.ref (He.ga K "RowError")) = some false)), (fun K => decide (PySem.W.kitOne K (.ref (He.ga K "LettersError")) (.ref (He.ga K "NotStarFree")) = some false))]
def fx10 : List (PySem.W.Frag → Bool) := [(fun K => decide (PySem.W.kitOne K (.ref (He.ga K "LettersError")) (.ref (He.ga K "TextError")) = some false)), (fun K => decide (PySem.W.kitOne K (.ref (He.ga K "LettersError")) (.ref (He.ga K "NameFault")) = some false)), (fun K => decide (PySem.W.kitOne K (.ref (He.ga K "LettersError")) (.ref (He.ga K "LineError")) = some false)), (fun K => decide (PySem.W.kitOne K (.ref (He.ga K "LettersError")) (.ref (He.ga K "CountsError")) = some false)), (fun K => decide (PySem.W.kitOne K (.ref (He.ga K "LettersError")) (.ref (He.ga K "LimitError")) = some false)), (fun K => decide (PySem.W.kitOne K (.ref (He.ga K "LettersError")) (.ref (He.ga K "TooManyStates")) = some false))]
def fx11 : List (PySem.W.Frag → Bool) := [(fun K => decide (PySem.W.kitOne K (.ref (He.ga K "LettersError")) (.ref (He.ga K "TooManyActions")) = some false)), (fun K => decide (PySem.W.kitOne K (.ref (He.ga K "LettersError")) (.ref (He.ga K "TooManyRows")) = some false)), (fun K => decide (PySem.W.kitOne K (.ref (He.ga K "LettersError")) (.ref (He.ga K "ClashError")) = some false)), (fun K => decide (PySem.W.kitOne K (.ref (He.ga K "LettersError")) (.ref (He.ga K "BreakError")) = some false))]
def fx : List (PySem.W.Frag → Bool) := fx0 ++ fx1 ++ fx2 ++ fx3 ++ fx4 ++ fx5 ++ fx6 ++ fx7 ++ fx8 ++ fx9 ++ fx10 ++ fx11
def fc : List DefC := [dc_LimitError, dc_LetterError]
abbrev SaysL (K : PySem.W.Frag) : Prop := SaysZ fa fn fx fc K
theorem gf_of {K : PySem.W.Frag} {h : Heap} {mg : Str → Option Value} (X : K.In h) (G : h.Ns mainGlobals mg) (cz : SaysL K) : Gf K mg := by
  have c : He.SaysD fa fn K := cz.d
  exact {
    xi_LimitError := cz.clo 0 (d := dc_LimitError) rfl
    xi_LetterError := cz.clo 1 (d := dc_LetterError) rfl
    xb_LimitError := (cz.bool 0 (f := (fun K => iniB K "LimitError" "LimitError" "limit")) rfl)
    xb_LetterError := (cz.bool 1 (f := (fun K => iniB K "LetterError" "LetterError" "index")) rfl)
    gl_LimitError := He.glo_ok X G (c.fact 0 (f := .glo "LimitError") rfl)
    gl_LetterError := He.glo_ok X G (c.fact 1 (f := .glo "LetterError") rfl)
    gl_LettersError := He.glo_ok X G (c.fact 2 (f := .glo "LettersError") rfl)
    gl_ToolError := He.glo_ok X G (c.fact 3 (f := .glo "ToolError") rfl)
    gl_MixedLetters := He.glo_ok X G (c.fact 4 (f := .glo "MixedLetters") rfl)
    gl_TableError := He.glo_ok X G (c.fact 5 (f := .glo "TableError") rfl)
    gl_ActionError := He.glo_ok X G (c.fact 6 (f := .glo "ActionError") rfl)
    gl_LassoError := He.glo_ok X G (c.fact 7 (f := .glo "LassoError") rfl)
    gl_StateError := He.glo_ok X G (c.fact 8 (f := .glo "StateError") rfl)
    gl_RowError := He.glo_ok X G (c.fact 9 (f := .glo "RowError") rfl)
    gl_NotStarFree := He.glo_ok X G (c.fact 10 (f := .glo "NotStarFree") rfl)
    gl_TextError := He.glo_ok X G (c.fact 11 (f := .glo "TextError") rfl)
    gl_NameFault := He.glo_ok X G (c.fact 12 (f := .glo "NameFault") rfl)
    gl_LineError := He.glo_ok X G (c.fact 13 (f := .glo "LineError") rfl)
    gl_CountsError := He.glo_ok X G (c.fact 14 (f := .glo "CountsError") rfl)
    gl_TooManyStates := He.glo_ok X G (c.fact 15 (f := .glo "TooManyStates") rfl)
    gl_TooManyActions := He.glo_ok X G (c.fact 16 (f := .glo "TooManyActions") rfl)
    gl_TooManyRows := He.glo_ok X G (c.fact 17 (f := .glo "TooManyRows") rfl)
    gl_ClashError := He.glo_ok X G (c.fact 18 (f := .glo "ClashError") rfl)
    gl_BreakError := He.glo_ok X G (c.fact 19 (f := .glo "BreakError") rfl)
    x0_LettersError := (let ⟨h1, h2, h3, h4⟩ := He.exc_ok (c.fact 20 (f := .exc "LettersError") rfl); ⟨h1, h2, h3, h4, He.glo_ok X G (c.fact 2 (f := .glo "LettersError") rfl)⟩)
    xc_LetterError := excB_ok (cz.bool 2 (f := (fun K => excB K (He.ga K "LetterError"))) rfl)
    exm_LetterError_LetterError := He.exm_ok (c.fact 21 (f := .exm "LetterError" "LetterError" true) rfl)
    exm_LetterError_LimitError := He.exm_ok (c.fact 22 (f := .exm "LetterError" "LimitError" false) rfl)
    exm_LetterError_LettersError := He.exm_ok (c.fact 23 (f := .exm "LetterError" "LettersError" false) rfl)
    kit_LetterError_ValueError := of_decide_eq_true (cz.bool 3 (f := (fun K => decide (PySem.W.kitOne K (.ref (He.ga K "LetterError")) (.type "ValueError") = some true))) rfl)
    kit_LetterError_ToolError := of_decide_eq_true (cz.bool 4 (f := (fun K => decide (PySem.W.kitOne K (.ref (He.ga K "LetterError")) (.ref (He.ga K "ToolError")) = some true))) rfl)
    kit_LetterError_LettersError := of_decide_eq_true (cz.bool 5 (f := (fun K => decide (PySem.W.kitOne K (.ref (He.ga K "LetterError")) (.ref (He.ga K "LettersError")) = some false))) rfl)
    kit_LetterError_MixedLetters := of_decide_eq_true (cz.bool 6 (f := (fun K => decide (PySem.W.kitOne K (.ref (He.ga K "LetterError")) (.ref (He.ga K "MixedLetters")) = some false))) rfl)
    kit_LetterError_TableError := of_decide_eq_true (cz.bool 7 (f := (fun K => decide (PySem.W.kitOne K (.ref (He.ga K "LetterError")) (.ref (He.ga K "TableError")) = some false))) rfl)
    kit_LetterError_ActionError := of_decide_eq_true (cz.bool 8 (f := (fun K => decide (PySem.W.kitOne K (.ref (He.ga K "LetterError")) (.ref (He.ga K "ActionError")) = some false))) rfl)
    kit_LetterError_LassoError := of_decide_eq_true (cz.bool 9 (f := (fun K => decide (PySem.W.kitOne K (.ref (He.ga K "LetterError")) (.ref (He.ga K "LassoError")) = some false))) rfl)
    kit_LetterError_LetterError := of_decide_eq_true (cz.bool 10 (f := (fun K => decide (PySem.W.kitOne K (.ref (He.ga K "LetterError")) (.ref (He.ga K "LetterError")) = some true))) rfl)
    kit_LetterError_StateError := of_decide_eq_true (cz.bool 11 (f := (fun K => decide (PySem.W.kitOne K (.ref (He.ga K "LetterError")) (.ref (He.ga K "StateError")) = some false))) rfl)
    kit_LetterError_RowError := of_decide_eq_true (cz.bool 12 (f := (fun K => decide (PySem.W.kitOne K (.ref (He.ga K "LetterError")) (.ref (He.ga K "RowError")) = some false))) rfl)
    kit_LetterError_NotStarFree := of_decide_eq_true (cz.bool 13 (f := (fun K => decide (PySem.W.kitOne K (.ref (He.ga K "LetterError")) (.ref (He.ga K "NotStarFree")) = some false))) rfl)
    kit_LetterError_TextError := of_decide_eq_true (cz.bool 14 (f := (fun K => decide (PySem.W.kitOne K (.ref (He.ga K "LetterError")) (.ref (He.ga K "TextError")) = some false))) rfl)
    kit_LetterError_NameFault := of_decide_eq_true (cz.bool 15 (f := (fun K => decide (PySem.W.kitOne K (.ref (He.ga K "LetterError")) (.ref (He.ga K "NameFault")) = some false))) rfl)
    kit_LetterError_LineError := of_decide_eq_true (cz.bool 16 (f := (fun K => decide (PySem.W.kitOne K (.ref (He.ga K "LetterError")) (.ref (He.ga K "LineError")) = some false))) rfl)
    kit_LetterError_CountsError := of_decide_eq_true (cz.bool 17 (f := (fun K => decide (PySem.W.kitOne K (.ref (He.ga K "LetterError")) (.ref (He.ga K "CountsError")) = some false))) rfl)
    kit_LetterError_LimitError := of_decide_eq_true (cz.bool 18 (f := (fun K => decide (PySem.W.kitOne K (.ref (He.ga K "LetterError")) (.ref (He.ga K "LimitError")) = some false))) rfl)
    kit_LetterError_TooManyStates := of_decide_eq_true (cz.bool 19 (f := (fun K => decide (PySem.W.kitOne K (.ref (He.ga K "LetterError")) (.ref (He.ga K "TooManyStates")) = some false))) rfl)
    kit_LetterError_TooManyActions := of_decide_eq_true (cz.bool 20 (f := (fun K => decide (PySem.W.kitOne K (.ref (He.ga K "LetterError")) (.ref (He.ga K "TooManyActions")) = some false))) rfl)
    kit_LetterError_TooManyRows := of_decide_eq_true (cz.bool 21 (f := (fun K => decide (PySem.W.kitOne K (.ref (He.ga K "LetterError")) (.ref (He.ga K "TooManyRows")) = some false))) rfl)
    kit_LetterError_ClashError := of_decide_eq_true (cz.bool 22 (f := (fun K => decide (PySem.W.kitOne K (.ref (He.ga K "LetterError")) (.ref (He.ga K "ClashError")) = some false))) rfl)
    kit_LetterError_BreakError := of_decide_eq_true (cz.bool 23 (f := (fun K => decide (PySem.W.kitOne K (.ref (He.ga K "LetterError")) (.ref (He.ga K "BreakError")) = some false))) rfl)
    xf_LetterError := xfB_ok (cz.bool 24 (f := (fun K => xfB K (He.ga K "LetterError"))) rfl)
    nof_LetterError_index := He.noat_ok (c.fact 24 (f := .noat "LetterError" "index") rfl)
    xc_LimitError := excB_ok (cz.bool 25 (f := (fun K => excB K (He.ga K "LimitError"))) rfl)
    exm_LimitError_LetterError := He.exm_ok (c.fact 25 (f := .exm "LimitError" "LetterError" false) rfl)
    exm_LimitError_LimitError := He.exm_ok (c.fact 26 (f := .exm "LimitError" "LimitError" true) rfl)
    exm_LimitError_LettersError := He.exm_ok (c.fact 27 (f := .exm "LimitError" "LettersError" false) rfl)
    kit_LimitError_ValueError := of_decide_eq_true (cz.bool 26 (f := (fun K => decide (PySem.W.kitOne K (.ref (He.ga K "LimitError")) (.type "ValueError") = some true))) rfl)
    kit_LimitError_ToolError := of_decide_eq_true (cz.bool 27 (f := (fun K => decide (PySem.W.kitOne K (.ref (He.ga K "LimitError")) (.ref (He.ga K "ToolError")) = some true))) rfl)
    kit_LimitError_LettersError := of_decide_eq_true (cz.bool 28 (f := (fun K => decide (PySem.W.kitOne K (.ref (He.ga K "LimitError")) (.ref (He.ga K "LettersError")) = some false))) rfl)
    kit_LimitError_MixedLetters := of_decide_eq_true (cz.bool 29 (f := (fun K => decide (PySem.W.kitOne K (.ref (He.ga K "LimitError")) (.ref (He.ga K "MixedLetters")) = some false))) rfl)
    kit_LimitError_TableError := of_decide_eq_true (cz.bool 30 (f := (fun K => decide (PySem.W.kitOne K (.ref (He.ga K "LimitError")) (.ref (He.ga K "TableError")) = some false))) rfl)
    kit_LimitError_ActionError := of_decide_eq_true (cz.bool 31 (f := (fun K => decide (PySem.W.kitOne K (.ref (He.ga K "LimitError")) (.ref (He.ga K "ActionError")) = some false))) rfl)
    kit_LimitError_LassoError := of_decide_eq_true (cz.bool 32 (f := (fun K => decide (PySem.W.kitOne K (.ref (He.ga K "LimitError")) (.ref (He.ga K "LassoError")) = some false))) rfl)
    kit_LimitError_LetterError := of_decide_eq_true (cz.bool 33 (f := (fun K => decide (PySem.W.kitOne K (.ref (He.ga K "LimitError")) (.ref (He.ga K "LetterError")) = some false))) rfl)
    kit_LimitError_StateError := of_decide_eq_true (cz.bool 34 (f := (fun K => decide (PySem.W.kitOne K (.ref (He.ga K "LimitError")) (.ref (He.ga K "StateError")) = some false))) rfl)
    kit_LimitError_RowError := of_decide_eq_true (cz.bool 35 (f := (fun K => decide (PySem.W.kitOne K (.ref (He.ga K "LimitError")) (.ref (He.ga K "RowError")) = some false))) rfl)
    kit_LimitError_NotStarFree := of_decide_eq_true (cz.bool 36 (f := (fun K => decide (PySem.W.kitOne K (.ref (He.ga K "LimitError")) (.ref (He.ga K "NotStarFree")) = some false))) rfl)
    kit_LimitError_TextError := of_decide_eq_true (cz.bool 37 (f := (fun K => decide (PySem.W.kitOne K (.ref (He.ga K "LimitError")) (.ref (He.ga K "TextError")) = some false))) rfl)
    kit_LimitError_NameFault := of_decide_eq_true (cz.bool 38 (f := (fun K => decide (PySem.W.kitOne K (.ref (He.ga K "LimitError")) (.ref (He.ga K "NameFault")) = some false))) rfl)
    kit_LimitError_LineError := of_decide_eq_true (cz.bool 39 (f := (fun K => decide (PySem.W.kitOne K (.ref (He.ga K "LimitError")) (.ref (He.ga K "LineError")) = some false))) rfl)
    kit_LimitError_CountsError := of_decide_eq_true (cz.bool 40 (f := (fun K => decide (PySem.W.kitOne K (.ref (He.ga K "LimitError")) (.ref (He.ga K "CountsError")) = some false))) rfl)
    kit_LimitError_LimitError := of_decide_eq_true (cz.bool 41 (f := (fun K => decide (PySem.W.kitOne K (.ref (He.ga K "LimitError")) (.ref (He.ga K "LimitError")) = some true))) rfl)
    kit_LimitError_TooManyStates := of_decide_eq_true (cz.bool 42 (f := (fun K => decide (PySem.W.kitOne K (.ref (He.ga K "LimitError")) (.ref (He.ga K "TooManyStates")) = some false))) rfl)
    kit_LimitError_TooManyActions := of_decide_eq_true (cz.bool 43 (f := (fun K => decide (PySem.W.kitOne K (.ref (He.ga K "LimitError")) (.ref (He.ga K "TooManyActions")) = some false))) rfl)
    kit_LimitError_TooManyRows := of_decide_eq_true (cz.bool 44 (f := (fun K => decide (PySem.W.kitOne K (.ref (He.ga K "LimitError")) (.ref (He.ga K "TooManyRows")) = some false))) rfl)
    kit_LimitError_ClashError := of_decide_eq_true (cz.bool 45 (f := (fun K => decide (PySem.W.kitOne K (.ref (He.ga K "LimitError")) (.ref (He.ga K "ClashError")) = some false))) rfl)
    kit_LimitError_BreakError := of_decide_eq_true (cz.bool 46 (f := (fun K => decide (PySem.W.kitOne K (.ref (He.ga K "LimitError")) (.ref (He.ga K "BreakError")) = some false))) rfl)
    xf_LimitError := xfB_ok (cz.bool 47 (f := (fun K => xfB K (He.ga K "LimitError"))) rfl)
    nof_LimitError_limit := He.noat_ok (c.fact 28 (f := .noat "LimitError" "limit") rfl)
    xc_LettersError := excB_ok (cz.bool 48 (f := (fun K => excB K (He.ga K "LettersError"))) rfl)
    exm_LettersError_LetterError := He.exm_ok (c.fact 29 (f := .exm "LettersError" "LetterError" false) rfl)
    exm_LettersError_LimitError := He.exm_ok (c.fact 30 (f := .exm "LettersError" "LimitError" false) rfl)
    exm_LettersError_LettersError := He.exm_ok (c.fact 31 (f := .exm "LettersError" "LettersError" true) rfl)
    kit_LettersError_ValueError := of_decide_eq_true (cz.bool 49 (f := (fun K => decide (PySem.W.kitOne K (.ref (He.ga K "LettersError")) (.type "ValueError") = some true))) rfl)
    kit_LettersError_ToolError := of_decide_eq_true (cz.bool 50 (f := (fun K => decide (PySem.W.kitOne K (.ref (He.ga K "LettersError")) (.ref (He.ga K "ToolError")) = some true))) rfl)
    kit_LettersError_LettersError := of_decide_eq_true (cz.bool 51 (f := (fun K => decide (PySem.W.kitOne K (.ref (He.ga K "LettersError")) (.ref (He.ga K "LettersError")) = some true))) rfl)
    kit_LettersError_MixedLetters := of_decide_eq_true (cz.bool 52 (f := (fun K => decide (PySem.W.kitOne K (.ref (He.ga K "LettersError")) (.ref (He.ga K "MixedLetters")) = some false))) rfl)
    kit_LettersError_TableError := of_decide_eq_true (cz.bool 53 (f := (fun K => decide (PySem.W.kitOne K (.ref (He.ga K "LettersError")) (.ref (He.ga K "TableError")) = some false))) rfl)
    kit_LettersError_ActionError := of_decide_eq_true (cz.bool 54 (f := (fun K => decide (PySem.W.kitOne K (.ref (He.ga K "LettersError")) (.ref (He.ga K "ActionError")) = some false))) rfl)
    kit_LettersError_LassoError := of_decide_eq_true (cz.bool 55 (f := (fun K => decide (PySem.W.kitOne K (.ref (He.ga K "LettersError")) (.ref (He.ga K "LassoError")) = some false))) rfl)
    kit_LettersError_LetterError := of_decide_eq_true (cz.bool 56 (f := (fun K => decide (PySem.W.kitOne K (.ref (He.ga K "LettersError")) (.ref (He.ga K "LetterError")) = some false))) rfl)
    kit_LettersError_StateError := of_decide_eq_true (cz.bool 57 (f := (fun K => decide (PySem.W.kitOne K (.ref (He.ga K "LettersError")) (.ref (He.ga K "StateError")) = some false))) rfl)
    kit_LettersError_RowError := of_decide_eq_true (cz.bool 58 (f := (fun K => decide (PySem.W.kitOne K (.ref (He.ga K "LettersError")) (.ref (He.ga K "RowError")) = some false))) rfl)
    kit_LettersError_NotStarFree := of_decide_eq_true (cz.bool 59 (f := (fun K => decide (PySem.W.kitOne K (.ref (He.ga K "LettersError")) (.ref (He.ga K "NotStarFree")) = some false))) rfl)
    kit_LettersError_TextError := of_decide_eq_true (cz.bool 60 (f := (fun K => decide (PySem.W.kitOne K (.ref (He.ga K "LettersError")) (.ref (He.ga K "TextError")) = some false))) rfl)
    kit_LettersError_NameFault := of_decide_eq_true (cz.bool 61 (f := (fun K => decide (PySem.W.kitOne K (.ref (He.ga K "LettersError")) (.ref (He.ga K "NameFault")) = some false))) rfl)
    kit_LettersError_LineError := of_decide_eq_true (cz.bool 62 (f := (fun K => decide (PySem.W.kitOne K (.ref (He.ga K "LettersError")) (.ref (He.ga K "LineError")) = some false))) rfl)
    kit_LettersError_CountsError := of_decide_eq_true (cz.bool 63 (f := (fun K => decide (PySem.W.kitOne K (.ref (He.ga K "LettersError")) (.ref (He.ga K "CountsError")) = some false))) rfl)
    kit_LettersError_LimitError := of_decide_eq_true (cz.bool 64 (f := (fun K => decide (PySem.W.kitOne K (.ref (He.ga K "LettersError")) (.ref (He.ga K "LimitError")) = some false))) rfl)
    kit_LettersError_TooManyStates := of_decide_eq_true (cz.bool 65 (f := (fun K => decide (PySem.W.kitOne K (.ref (He.ga K "LettersError")) (.ref (He.ga K "TooManyStates")) = some false))) rfl)
    kit_LettersError_TooManyActions := of_decide_eq_true (cz.bool 66 (f := (fun K => decide (PySem.W.kitOne K (.ref (He.ga K "LettersError")) (.ref (He.ga K "TooManyActions")) = some false))) rfl)
    kit_LettersError_TooManyRows := of_decide_eq_true (cz.bool 67 (f := (fun K => decide (PySem.W.kitOne K (.ref (He.ga K "LettersError")) (.ref (He.ga K "TooManyRows")) = some false))) rfl)
    kit_LettersError_ClashError := of_decide_eq_true (cz.bool 68 (f := (fun K => decide (PySem.W.kitOne K (.ref (He.ga K "LettersError")) (.ref (He.ga K "ClashError")) = some false))) rfl)
    kit_LettersError_BreakError := of_decide_eq_true (cz.bool 69 (f := (fun K => decide (PySem.W.kitOne K (.ref (He.ga K "LettersError")) (.ref (He.ga K "BreakError")) = some false))) rfl)
    b_ValueError := He.free_ok X G (c.fact 32 (f := .free "ValueError") rfl)
    b_bool := He.free_ok X G (c.fact 33 (f := .free "bool") rfl)
    b_enumerate := He.free_ok X G (c.fact 34 (f := .free "enumerate") rfl)
    b_int := He.free_ok X G (c.fact 35 (f := .free "int") rfl)
    b_isinstance := He.free_ok X G (c.fact 36 (f := .free "isinstance") rfl)
    b_len := He.free_ok X G (c.fact 37 (f := .free "len") rfl)
    b_list := He.free_ok X G (c.fact 38 (f := .free "list") rfl)
    b_max := He.free_ok X G (c.fact 39 (f := .free "max") rfl)
    b_range := He.free_ok X G (c.fact 40 (f := .free "range") rfl)
    b_set := He.free_ok X G (c.fact 41 (f := .free "set") rfl)
    b_sorted := He.free_ok X G (c.fact 42 (f := .free "sorted") rfl)
    b_str := He.free_ok X G (c.fact 43 (f := .free "str") rfl)
    b_super := He.free_ok X G (c.fact 44 (f := .free "super") rfl)
    b_tuple := He.free_ok X G (c.fact 45 (f := .free "tuple") rfl)
    k_MOST_LETTERS := He.int_ok X G (c.fact 46 (f := .int "MOST_LETTERS" 3) rfl)
    k_MOST_PIECE := He.int_ok X G (c.fact 47 (f := .int "MOST_PIECE" 6) rfl)
    k_SHORT := He.int_ok X G (c.fact 48 (f := .int "SHORT" 3) rfl)
    k_SMALL := He.str_ok X G (c.fact 49 (f := .str "SMALL" "abcdefghijklmnopqrstuvwxyz") rfl)
    d_check_letters := ⟨(let ⟨fd, F⟩ := c.def_ 0 (d := d_check_letters) rfl; ⟨fd, F, FunD.bindsN F fun _ _ _ _ _ _ us hl => match us, hl with | [_], _ => rfl⟩), He.glo_ok X G (c.fact 50 (f := .glo "check_letters") rfl)⟩
    d_check_word := ⟨(let ⟨fd, F⟩ := c.def_ 1 (d := d_check_word) rfl; ⟨fd, F, FunD.bindsN F fun _ _ _ _ _ _ us hl => match us, hl with | [_, _], _ => rfl⟩), He.glo_ok X G (c.fact 51 (f := .glo "check_word") rfl)⟩
    d_is_before := ⟨(let ⟨fd, F⟩ := c.def_ 2 (d := d_is_before) rfl; ⟨fd, F, FunD.bindsN F fun _ _ _ _ _ _ us hl => match us, hl with | [_, _], _ => rfl⟩), He.glo_ok X G (c.fact 52 (f := .glo "is_before") rfl)⟩
    d_contents := ⟨(let ⟨fd, F⟩ := c.def_ 3 (d := d_contents) rfl; ⟨fd, F, FunD.bindsN F fun _ _ _ _ _ _ us hl => match us, hl with | [_], _ => rfl⟩), He.glo_ok X G (c.fact 53 (f := .glo "contents") rfl)⟩
    d_short_words := ⟨(let ⟨fd, F⟩ := c.def_ 4 (d := d_short_words) rfl; let ⟨ds, hv, hb⟩ := (FunD.binds1 (ps := ["letters", "most"]) F 1 0 (by simp [He.DefD.dvs, d_short_words]) rfl (fun _ _ _ _ _ _ _ us its hl hi => match us, its, hl, hi with | [_], [_], _, _ => ⟨_, rfl, by first | rfl | kernel_rfl⟩)); ⟨_, fd, ds, F, fun _ _ => ⟨_, _, rfl, rfl, rfl⟩, (by obtain ⟨e, h1, h2⟩ := (FunD.binds1 (ps := ["letters", "most"]) F 2 1 (by simp [He.DefD.dvs, d_short_words]) rfl (fun _ _ _ _ _ _ _ us its hl hi => match us, its, hl, hi with | [_, _], [_], _, _ => ⟨_, rfl, by first | rfl | kernel_rfl⟩)); cases h1; exact h2), hv, hb⟩), He.glo_ok X G (c.fact 54 (f := .glo "short_words") rfl)⟩
    d_next_place := ⟨(let ⟨fd, F⟩ := c.def_ 5 (d := d_next_place) rfl; ⟨fd, F, FunD.bindsN F fun _ _ _ _ _ _ us hl => match us, hl with | [_, _, _], _ => rfl⟩), He.glo_ok X G (c.fact 55 (f := .glo "next_place") rfl)⟩
    d_last_place := ⟨(let ⟨fd, F⟩ := c.def_ 6 (d := d_last_place) rfl; ⟨fd, F, FunD.bindsN F fun _ _ _ _ _ _ us hl => match us, hl with | [_, _, _], _ => rfl⟩), He.glo_ok X G (c.fact 56 (f := .glo "last_place") rfl)⟩
    d_first_places := ⟨(let ⟨fd, F⟩ := c.def_ 7 (d := d_first_places) rfl; ⟨fd, F, FunD.bindsN F fun _ _ _ _ _ _ us hl => match us, hl with | [_, _], _ => rfl⟩), He.glo_ok X G (c.fact 57 (f := .glo "first_places") rfl)⟩
    d_last_places := ⟨(let ⟨fd, F⟩ := c.def_ 8 (d := d_last_places) rfl; ⟨fd, F, FunD.bindsN F fun _ _ _ _ _ _ us hl => match us, hl with | [_, _], _ => rfl⟩), He.glo_ok X G (c.fact 58 (f := .glo "last_places") rfl)⟩
    d_is_piece := ⟨(let ⟨fd, F⟩ := c.def_ 9 (d := d_is_piece) rfl; ⟨fd, F, FunD.bindsN F fun _ _ _ _ _ _ us hl => match us, hl with | [_, _], _ => rfl⟩), He.glo_ok X G (c.fact 59 (f := .glo "is_piece") rfl)⟩
    d_ways_of := ⟨(let ⟨fd, F⟩ := c.def_ 10 (d := d_ways_of) rfl; ⟨fd, F, FunD.bindsN F fun _ _ _ _ _ _ us hl => match us, hl with | [_, _], _ => rfl⟩), He.glo_ok X G (c.fact 60 (f := .glo "ways_of") rfl)⟩
    d_pieces_of := ⟨(let ⟨fd, F⟩ := c.def_ 11 (d := d_pieces_of) rfl; ⟨fd, F, FunD.bindsN F fun _ _ _ _ _ _ us hl => match us, hl with | [_, _], _ => rfl⟩), He.glo_ok X G (c.fact 61 (f := .glo "pieces_of") rfl)⟩
    d_law_classes := ⟨(let ⟨fd, F⟩ := c.def_ 12 (d := d_law_classes) rfl; ⟨fd, F, FunD.bindsN F fun _ _ _ _ _ _ us hl => match us, hl with | [_], _ => rfl⟩), He.glo_ok X G (c.fact 62 (f := .glo "_law_classes") rfl)⟩
    d_law_new := ⟨(let ⟨fd, F⟩ := c.def_ 13 (d := d_law_new) rfl; ⟨fd, F, FunD.bindsN F fun _ _ _ _ _ _ us hl => match us, hl with | [_], _ => rfl⟩), He.glo_ok X G (c.fact 63 (f := .glo "_law_new") rfl)⟩
    d_law_draw := ⟨(let ⟨fd, F⟩ := c.def_ 14 (d := d_law_draw) rfl; ⟨fd, F, FunD.bindsN F fun _ _ _ _ _ _ us hl => match us, hl with | [_, _], _ => rfl⟩), He.glo_ok X G (c.fact 64 (f := .glo "_law_draw") rfl)⟩
    d_law_letters := ⟨(let ⟨fd, F⟩ := c.def_ 15 (d := d_law_letters) rfl; ⟨fd, F, FunD.bindsN F fun _ _ _ _ _ _ us hl => match us, hl with | [_, _], _ => rfl⟩), He.glo_ok X G (c.fact 65 (f := .glo "_law_letters") rfl)⟩
    d_law_word := ⟨(let ⟨fd, F⟩ := c.def_ 16 (d := d_law_word) rfl; ⟨fd, F, FunD.bindsN F fun _ _ _ _ _ _ us hl => match us, hl with | [_, _, _], _ => rfl⟩), He.glo_ok X G (c.fact 66 (f := .glo "_law_word") rfl)⟩
    d_law_long := ⟨(let ⟨fd, F⟩ := c.def_ 17 (d := d_law_long) rfl; ⟨fd, F, FunD.bindsN F fun _ _ _ _ _ _ us hl => match us, hl with | [_, _, _], _ => rfl⟩), He.glo_ok X G (c.fact 67 (f := .glo "_law_long") rfl)⟩
    d_law_piece := ⟨(let ⟨fd, F⟩ := c.def_ 18 (d := d_law_piece) rfl; ⟨fd, F, FunD.bindsN F fun _ _ _ _ _ _ us hl => match us, hl with | [_, _], _ => rfl⟩), He.glo_ok X G (c.fact 68 (f := .glo "_law_piece") rfl)⟩
    d_law_same := ⟨(let ⟨fd, F⟩ := c.def_ 19 (d := d_law_same) rfl; ⟨fd, F, FunD.bindsN F fun _ _ _ _ _ _ us hl => match us, hl with | [_, _], _ => rfl⟩), He.glo_ok X G (c.fact 69 (f := .glo "_law_same") rfl)⟩
    d_law_words := ⟨(let ⟨fd, F⟩ := c.def_ 20 (d := d_law_words) rfl; ⟨fd, F, FunD.bindsN F fun _ _ _ _ _ _ us hl => match us, hl with | [_, _], _ => rfl⟩), He.glo_ok X G (c.fact 70 (f := .glo "_law_words") rfl)⟩
    d_law_first := ⟨(let ⟨fd, F⟩ := c.def_ 21 (d := d_law_first) rfl; ⟨fd, F, FunD.bindsN F fun _ _ _ _ _ _ us hl => match us, hl with | [_, _], _ => rfl⟩), He.glo_ok X G (c.fact 71 (f := .glo "_law_first") rfl)⟩
    d_law_last := ⟨(let ⟨fd, F⟩ := c.def_ 22 (d := d_law_last) rfl; ⟨fd, F, FunD.bindsN F fun _ _ _ _ _ _ us hl => match us, hl with | [_, _], _ => rfl⟩), He.glo_ok X G (c.fact 72 (f := .glo "_law_last") rfl)⟩
    d_law_ways := ⟨(let ⟨fd, F⟩ := c.def_ 23 (d := d_law_ways) rfl; ⟨fd, F, FunD.bindsN F fun _ _ _ _ _ _ us hl => match us, hl with | [_, _], _ => rfl⟩), He.glo_ok X G (c.fact 73 (f := .glo "_law_ways") rfl)⟩
    d_law_refused := ⟨(let ⟨fd, F⟩ := c.def_ 24 (d := d_law_refused) rfl; ⟨fd, F, FunD.bindsN F fun _ _ _ _ _ _ us hl => match us, hl with | [_, _], _ => rfl⟩), He.glo_ok X G (c.fact 74 (f := .glo "_law_refused") rfl)⟩
    d_law_earlier := ⟨(let ⟨fd, F⟩ := c.def_ 25 (d := d_law_earlier) rfl; ⟨fd, F, FunD.bindsN F fun _ _ _ _ _ _ us hl => match us, hl with | [_, _], _ => rfl⟩), He.glo_ok X G (c.fact 75 (f := .glo "_law_earlier") rfl)⟩
    d_law_alphabet := ⟨(let ⟨fd, F⟩ := c.def_ 26 (d := d_law_alphabet) rfl; ⟨fd, F, FunD.bindsN F fun _ _ _ _ _ _ us hl => match us, hl with | [_], _ => rfl⟩), He.glo_ok X G (c.fact 76 (f := .glo "_law_alphabet") rfl)⟩
    d_law_spelled := ⟨(let ⟨fd, F⟩ := c.def_ 27 (d := d_law_spelled) rfl; ⟨fd, F, FunD.bindsN F fun _ _ _ _ _ _ us hl => match us, hl with | [_, _], _ => rfl⟩), He.glo_ok X G (c.fact 77 (f := .glo "_law_spelled") rfl)⟩
    d_law_plain_words := ⟨(let ⟨fd, F⟩ := c.def_ 28 (d := d_law_plain_words) rfl; ⟨fd, F, FunD.bindsN F fun _ _ _ _ _ _ us hl => match us, hl with | [_, _, _], _ => rfl⟩), He.glo_ok X G (c.fact 78 (f := .glo "_law_plain_words") rfl)⟩
    d_law := ⟨(let ⟨fd, F⟩ := c.def_ 29 (d := d_law) rfl; ⟨fd, F, FunD.bindsN F fun _ _ _ _ _ _ us hl => match us, hl with | [_], _ => rfl⟩), He.glo_ok X G (c.fact 79 (f := .glo "law") rfl)⟩ }
def lo0 : List Str := ["ToolError", "LettersError", "LetterError", "MixedLetters", "StateError", "TableError", "RowError", "NotStarFree", "TextError", "NameFault", "LineError", "ClashError"]
def lo1 : List Str := ["ActionError", "LassoError", "LimitError", "TooManyStates", "TooManyActions", "TooManyRows", "BreakError", "CountsError", "MOST_LETTERS", "SHORT", "SMALL", "check_letters"]
def lo2 : List Str := ["check_word", "is_before", "contents", "short_words", "MOST_PIECE", "next_place", "last_place", "first_places", "last_places", "is_piece", "ways_of", "pieces_of"]
def lo3 : List Str := ["_law_classes", "_law_new", "_law_draw", "_law_letters", "_law_word", "_law_long", "_law_piece", "_law_same", "_law_words", "_law_first", "_law_last", "_law_ways"]
def lo4 : List Str := ["_law_refused", "_law_earlier", "_law_alphabet", "_law_spelled", "_law_plain_words"]
def lo : List Str := lo0 ++ lo1 ++ lo2 ++ lo3 ++ lo4
abbrev R : PySem.W.OpenRow := PySem.W.OpenLaw.row rwT
abbrev hk : PySem.W.Hook := hookZ 7 fa fn fx fc
def ob (s : PySem.W.SharedT) : AlZ := obsZG 7 fa fn fx fc (HandSHeadRun.getT s)
theorem ob_eq (s : PySem.W.SharedT) : ob s = hk.obs s.abs := obsZG_eq (HandSHeadRun.getT_eq s)
instance pf : PrF (PySem.Challenge.rw_turtlestold_k00_pieces_of_a_word).prog := ⟨by kernel_rfl, by kernel_rfl⟩
theorem run (w : World) : HandSHeadRun.RunEq R (PySem.W.view R.prog [57]) hk ob 12000 lo w := by
  intro os
  kernel_rfl
theorem law_fn {P : Program} [PrF P] {w : World} {K : PySem.W.Frag} {h : Heap} {mg : Str → Option Value} {f : Addr} (X : K.In h) (G : h.Ns mainGlobals mg) (hfa : mg ("law" : Str) = some (.ref f)) (c : SaysL K) :
    ∃ fd : FuncData, (∀ (s : Shared) (v : Value), BindsTo s fd ⟨[v], []⟩ [("script", v)]) ∧ ∀ base : Heap, K.In base → base.Ns mainGlobals mg → FnOk P w K mg base CX0 8 f fd ["script"] (spLaw K) := by
  have g := gf_of X G c
  obtain ⟨fd, F, _⟩ := g.d_law.ex
  have e := hfa.symm.trans g.d_law.gl
  cases e
  have b := FunD.bindsA (ps := ["script"]) F fun _ _ _ _ _ _ us hl => match us, hl with | [_], _ => rfl
  exact ⟨fd, fun s v => b s [v] rfl, fun base _ _ => ok_law g F⟩
end W00
open PySem PySem.W PySem.Calls PyProof.Rows
theorem PySem.Challenge.cw_turtlestold_k00_pieces_of_a_word_holds : PySem.Challenge.rw_turtlestold_k00_pieces_of_a_word.Holds := by
  w_on; o_law
  refine HandSHeadRun.head_any (r := OpenLaw.row PySem.Challenge.rw_turtlestold_k00_pieces_of_a_word) (q := view (OpenLaw.row PySem.Challenge.rw_turtlestold_k00_pieces_of_a_word).prog [57]) (H := W00.hk) (ob := W00.ob) (M := 12000) (loose := W00.lo) (d := HandSHeadRun.topDef (OpenLaw.row PySem.Challenge.rw_turtlestold_k00_pieces_of_a_word).prog 57) (kwd := []) W00.ob_eq
    (by kernel_rfl) (fun s => by kernel_rfl) W00.run (by kernel_rfl) (by kernel_rfl) (by kernel_rfl) (by rfl) (by first | assumption | decide +kernel) (by decide +kernel) ⟨rfl, rfl, rfl, rfl, rfl, by decide +kernel⟩ ?hw ?hc
  case hw => w_witness2
  case hc =>
    refine L2.walk_ofE (l := PySem.Challenge.rw_turtlestold_k00_pieces_of_a_word) (n := 63) (k := 8) (x := "script") (CX := L2.CX0) rfl (by decide) (by kernel_rfl) ⟨rfl, by decide, by decide⟩ ?F (fun _ _ _ _ z => z)
    intro w mg fa h Y G hmg0
    obtain ⟨K, KX, c⟩ := Y
    have hmg : mg ("law" : PySem.Str) = some (.ref fa) := by
      have e : (HandSHeadRun.topDef (OpenLaw.row PySem.Challenge.rw_turtlestold_k00_pieces_of_a_word).prog 57).name = ("law" : PySem.Str) := by kernel_rfl
      rw [← e]
      exact hmg0
    obtain ⟨fd, hb, hF⟩ := W00.law_fn (P := (PySem.Challenge.rw_turtlestold_k00_pieces_of_a_word).prog) (w := w) KX G hmg c
    exact ⟨K, fd, DL.spLaw K, KX, hb, fun H a ns hl _ hS => ⟨a, ns, rfl, hS, hl, fun _ => rfl⟩, hF⟩
