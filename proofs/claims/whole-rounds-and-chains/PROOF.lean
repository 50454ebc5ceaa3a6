import PyProof.Rows.All
import Wide.All
import OpenK.AllK
import Wide.FinOn
import KE.KStateDown
import Lean
import HandS.ForMost
import HandS.Lambda
import HandS.TupAny
import HandS.Style
import HandS.Walk
import HandS.Defaults
import HandS.Property
import HandS.Star
import HandS.Flow
import KE.GoesMore
import KE.GoesEnum
import HandS.IsInst
import PyProof.P3In
import HandS.DictComp
import HandS.More
import HandS.Text
import HandS.OwnEq
import HandS.Codes
import OpenK.KMeth
import PyProof.InstNe
import HandS.MakeKwOnly
import HandS.SortKw
import KE.SortKeyHeap
import KE.SortData
import KE.DataMinMax
import KE.DataMinKey
import KE.KLam
import HandS.Strs
import HandS.Conv
import KE.KDictList
import KE.KDictZip
import KE.GoesEnumKw
import PySem.Challenge.RW_needpegs_k63_whole_rounds_and_chains
import HandS.Head0
import HandS.Head1
import HandS.Head2
import HandS.HeadEnd
import HandS.HeadHook1
import HandS.HeadHook2
import HandS.HeadHook3
import HandS.HeadHook4
import HandS.HeadWalk
set_option Elab.async false
set_option linter.all false
set_option maxRecDepth 100000
set_option maxHeartbeats 2000000
/-! canonical readings over a family of contexts -/
namespace Nb
open PySem PySem.Spec PyProof.Rows L2

abbrev Fm := Cx → Prop
section
variable {F : Fm} {X : Cx} {e : Expr} {es : List Expr} {st : Stmt} {ss : List Stmt} {σ : L2.St} {H : Hp}

def WE (F : Fm) (e : Expr) : TE := fun σ H Q => ∃ (t : TE) (Q0 : VK), (∀ X, F X → PE X e t) ∧ t σ H Q0 ∧ ∀ v H', Q0 v H' → Q v H'
def WT (F : Fm) (e : Expr) : TT := fun σ H Q => ∃ (t : TT) (Q0 : Bool → Hp → Prop), (∀ X, F X → PT X e t) ∧ t σ H Q0 ∧ ∀ v H', Q0 v H' → Q v H'
def WW (F : Fm) (e : Expr) : TT := fun σ H Q => ∃ (t : TT) (Q0 : Bool → Hp → Prop), (∀ X, F X → PW X e t) ∧ t σ H Q0 ∧ ∀ v H', Q0 v H' → Q v H'
def WA (F : Fm) (es : List Expr) : TA := fun σ H Q => ∃ (t : TA) (Q0 : List V → Hp → Prop), (∀ X, F X → PA X es t) ∧ t σ H Q0 ∧ ∀ v H', Q0 v H' → Q v H'
def WG (F : Fm) (e : Expr) : TG := fun v σ H Q => ∃ (t : TG) (Q0 : L2.St → Hp → Prop), (∀ X, F X → PG X e t) ∧ t v σ H Q0 ∧ ∀ v H', Q0 v H' → Q v H'
def WI (F : Fm) (tg it : Expr) : TI := fun σ H R => ∃ (t : TI) (R0 : It → Hp → Prop), (∀ X, F X → PI X tg it t) ∧ t σ H R0 ∧ ∀ v H', R0 v H' → R v H'
def WTs (F : Fm) (es : List Expr) : TT := fun σ H Q => ∃ (t : TT) (Q0 : Bool → Hp → Prop), (∀ X, F X → PTs X es t) ∧ t σ H Q0 ∧ ∀ v H', Q0 v H' → Q v H'

/-- one wish below another -/
structure EndsLe (D D' : Ends) : Prop where
  nx : ∀ σ H, D.nx σ H → D'.nx σ H
  rt : ∀ v H, D.rt v H → D'.rt v H
  bk : ∀ σ H, D.bk σ H → D'.bk σ H
  ct : ∀ σ H, D.ct σ H → D'.ct σ H
theorem EndsLe.refl (D : Ends) : EndsLe D D := ⟨fun _ _ h => h, fun _ _ h => h, fun _ _ h => h, fun _ _ h => h⟩
def WS (F : Fm) (st : Stmt) : TS := fun D σ H => ∃ (t : TS) (D0 : Ends), (∀ X, F X → PS X st t) ∧ t D0 σ H ∧ EndsLe D0 D
def WSs (F : Fm) (ss : List Stmt) : TS := fun D σ H => ∃ (t : TS) (D0 : Ends), (∀ X, F X → PSs X ss t) ∧ t D0 σ H ∧ EndsLe D0 D

theorem we_of {t : TE} {Q : VK} (h : ∀ X, F X → PE X e t) (q : t σ H Q) : WE F e σ H Q := ⟨t, Q, h, q, fun _ _ x => x⟩
theorem wt_of {t : TT} {Q : Bool → Hp → Prop} (h : ∀ X, F X → PT X e t) (q : t σ H Q) : WT F e σ H Q := ⟨t, Q, h, q, fun _ _ x => x⟩
theorem ww_of {t : TT} {Q : Bool → Hp → Prop} (h : ∀ X, F X → PW X e t) (q : t σ H Q) : WW F e σ H Q := ⟨t, Q, h, q, fun _ _ x => x⟩
theorem wa_of {t : TA} {Q : List V → Hp → Prop} (h : ∀ X, F X → PA X es t) (q : t σ H Q) : WA F es σ H Q := ⟨t, Q, h, q, fun _ _ x => x⟩
theorem wg_of {t : TG} {v : V} {Q : L2.St → Hp → Prop} (h : ∀ X, F X → PG X e t) (q : t v σ H Q) : WG F e v σ H Q := ⟨t, Q, h, q, fun _ _ x => x⟩
theorem wi_of {tg it : Expr} {t : TI} {R : It → Hp → Prop} (h : ∀ X, F X → PI X tg it t) (q : t σ H R) : WI F tg it σ H R := ⟨t, R, h, q, fun _ _ x => x⟩
theorem wts_of {t : TT} {Q : Bool → Hp → Prop} (h : ∀ X, F X → PTs X es t) (q : t σ H Q) : WTs F es σ H Q := ⟨t, Q, h, q, fun _ _ x => x⟩
theorem ws_of {t : TS} {D : Ends} (h : ∀ X, F X → PS X st t) (q : t D σ H) : WS F st D σ H := ⟨t, D, h, q, EndsLe.refl D⟩
theorem wss_of {t : TS} {D : Ends} (h : ∀ X, F X → PSs X ss t) (q : t D σ H) : WSs F ss D σ H := ⟨t, D, h, q, EndsLe.refl D⟩

theorem WE.imp {Q Q' : VK} (h : WE F e σ H Q) (m : ∀ v H', Q v H' → Q' v H') : WE F e σ H Q' := by
  obtain ⟨t, Q0, h1, h2, h3⟩ := h
  exact ⟨t, Q0, h1, h2, fun v H' q => m _ _ (h3 v H' q)⟩
theorem WT.imp {Q Q' : Bool → Hp → Prop} (h : WT F e σ H Q) (m : ∀ v H', Q v H' → Q' v H') : WT F e σ H Q' := by
  obtain ⟨t, Q0, h1, h2, h3⟩ := h
  exact ⟨t, Q0, h1, h2, fun v H' q => m _ _ (h3 v H' q)⟩
theorem WA.imp {Q Q' : List V → Hp → Prop} (h : WA F es σ H Q) (m : ∀ v H', Q v H' → Q' v H') : WA F es σ H Q' := by
  obtain ⟨t, Q0, h1, h2, h3⟩ := h
  exact ⟨t, Q0, h1, h2, fun v H' q => m _ _ (h3 v H' q)⟩
theorem EndsLe.trans {A B C : Ends} (h : EndsLe A B) (k : EndsLe B C) : EndsLe A C := ⟨fun _ _ q => k.nx _ _ (h.nx _ _ q), fun _ _ q => k.rt _ _ (h.rt _ _ q), fun _ _ q => k.bk _ _ (h.bk _ _ q), fun _ _ q => k.ct _ _ (h.ct _ _ q)⟩
theorem WSs.imp {D D' : Ends} (h : WSs F ss D σ H) (m : EndsLe D D') : WSs F ss D' σ H := by
  obtain ⟨t, Q0, h1, h2, h3⟩ := h
  exact ⟨t, Q0, h1, h2, h3.trans m⟩

theorem we_pe (hX : F X) : PE X e (WE F e) := ⟨fun pins s σ H Q I h => by
  obtain ⟨t, Q0, h1, h2, h3⟩ := h
  exact thn ((h1 X hX).run pins s σ H Q0 I h2) fun u s' ⟨v, H', I', r, q⟩ => ⟨v, H', I', r, h3 _ _ q⟩⟩
theorem wt_pt (hX : F X) : PT X e (WT F e) := ⟨fun pins s σ H Q I h => by
  obtain ⟨t, Q0, h1, h2, h3⟩ := h
  exact thn ((h1 X hX).run pins s σ H Q0 I h2) fun u s' ⟨H', I', q⟩ => ⟨H', I', h3 _ _ q⟩⟩
theorem ww_pw (hX : F X) : PW X e (WW F e) := ⟨fun whole pins s σ H Q I h => by
  obtain ⟨t, Q0, h1, h2, h3⟩ := h
  exact thn ((h1 X hX).run whole pins s σ H Q0 I h2) fun u s' ⟨H', I', q⟩ => ⟨H', I', h3 _ _ q⟩⟩
theorem wa_pa (hX : F X) : PA X es (WA F es) := ⟨fun pos pins s σ H Q I h => by
  obtain ⟨t, Q0, h1, h2, h3⟩ := h
  exact thn ((h1 X hX).run pos pins s σ H Q0 I h2) fun u s' ⟨v, H', I', r, q⟩ => ⟨v, H', I', r, h3 _ _ q⟩⟩
theorem wg_pg (hX : F X) : PG X e (WG F e) := ⟨fun pins s σ H v u Q I r h => by
  obtain ⟨t, Q0, h1, h2, h3⟩ := h
  exact thn ((h1 X hX).run pins s σ H v u Q0 I r h2) fun _ s' ⟨σ', H', I', q⟩ => ⟨σ', H', I', h3 _ _ q⟩⟩
theorem wi_pi {tg it : Expr} (hX : F X) : PI X tg it (WI F tg it) := ⟨fun pins s σ H R I h => by
  obtain ⟨t, Q0, h1, h2, h3⟩ := h
  exact thn ((h1 X hX).run pins s σ H Q0 I h2) fun v s' q => thn q fun itv s2 ⟨it, fp, tn, J, H', e, I', T, t0, f, q⟩ => ⟨it, fp, tn, J, H', e, I', T, t0, f, h3 _ _ q⟩⟩
theorem wts_pts (hX : F X) : PTs X es (WTs F es) := ⟨fun pins s σ H Q I h => by
  obtain ⟨t, Q0, h1, h2, h3⟩ := h
  exact thn ((h1 X hX).run pins s σ H Q0 I h2) fun u s' ⟨H', I', q⟩ => ⟨H', I', h3 _ _ q⟩⟩
theorem SP.imp {pins : List (Addr × Obj)} {D D' : Ends} {f : Flow} {s : Shared} (h : SP X pins D f s) (m : EndsLe D D') : SP X pins D' f s := by
  cases f with
  | next => obtain ⟨σ', H', I, q⟩ := h; exact ⟨σ', H', I, m.nx _ _ q⟩
  | brk => obtain ⟨σ', H', I, q⟩ := h; exact ⟨σ', H', I, m.bk _ _ q⟩
  | cont => obtain ⟨σ', H', I, q⟩ := h; exact ⟨σ', H', I, m.ct _ _ q⟩
  | ret u => obtain ⟨v, σ', H', I, r, q⟩ := h; exact ⟨v, σ', H', I, r, m.rt _ _ q⟩
theorem ws_ps (hX : F X) : PS X st (WS F st) := ⟨fun pins s σ H D I h => by
  obtain ⟨t, D0, h1, h2, h3⟩ := h
  exact thn ((h1 X hX).run pins s σ H D0 I h2) fun f s' q => SP.imp q h3⟩
theorem wss_pss (hX : F X) : PSs X ss (WSs F ss) := ⟨fun pins s σ H D I h => by
  obtain ⟨t, D0, h1, h2, h3⟩ := h
  exact thn ((h1 X hX).run pins s σ H D0 I h2) fun f s' q => SP.imp q h3⟩

theorem wss_nil {D : Ends} (h : D.nx σ H) : WSs F [] D σ H := wss_of (fun _ _ => pss_nil) h
theorem wss_cons {D : Ends} (h : WS F st { D with nx := WSs F ss D } σ H) : WSs F (st :: ss) D σ H := wss_of (fun _ hX => pss_cons (ws_ps hX) (wss_pss hX)) h
end
end Nb
set_option Elab.async false
set_option linter.all false
set_option maxRecDepth 100000
set_option maxHeartbeats 2000000
/-! data, how the abstract heap bears them, what stays -/
namespace Nb
open PySem PySem.Spec PyProof.Rows L2

inductive D where
  | non | bl (b : Bool) | int (i : Int) | str (s : Str)
  | tup (l : List D) | lst (l : List D)
  | dct (ks : List Str) (l : List D)
  | dcT (ks : List (List Str)) (l : List D)
  | obj (c : Str) (fs : List Str) (l : List D)

def tkey (k : List Str) : List Key := k.map Sum.inr

mutual
def Rep (cl : Str → Addr) (B : Addr → Prop) : D → V → Hp → Prop
  | .non, v, _ => v = .non
  | .bl b, v, _ => v = .bl b
  | .int i, v, _ => v = .int i
  | .str s, v, _ => v = .str s
  | .tup l, v, H => ∃ a vs, v = .ref a ∧ ¬ B a ∧ H a = some (.tup vs) ∧ Reps cl B l vs H
  | .lst l, v, H => ∃ a vs, v = .ref a ∧ ¬ B a ∧ H a = some (.lst vs) ∧ Reps cl B l vs H
  | .dct ks l, v, H => ∃ a vs, v = .ref a ∧ ¬ B a ∧ ks.length = vs.length ∧ Rd H a (.dK ((ks.map Sum.inr).zip vs)) ∧ Reps cl B l vs H
  | .dcT ks l, v, H => ∃ a vs, v = .ref a ∧ ¬ B a ∧ ks.length = vs.length ∧ Rd H a (.dT ((ks.map tkey).zip vs)) ∧ Reps cl B l vs H
  | .obj c fs l, v, H => ∃ a dx vs, v = .ref a ∧ ¬ B a ∧ fs.length = vs.length ∧ H a = some (.ins (cl c) dx (fs.zip vs)) ∧ Reps cl B l vs H
def Reps (cl : Str → Addr) (B : Addr → Prop) : List D → List V → Hp → Prop
  | [], vs, _ => vs = []
  | d :: l, vs, H => ∃ v vs', vs = v :: vs' ∧ Rep cl B d v H ∧ Reps cl B l vs' H
end

section
variable {cl : Str → Addr} {B B' : Addr → Prop} {H H' : Hp}
theorem reps_nil {vs : List V} : Reps cl B [] vs H ↔ vs = [] := by simp [Reps]
theorem reps_cons {d : D} {l : List D} {vs : List V} : Reps cl B (d :: l) vs H ↔ ∃ v vs', vs = v :: vs' ∧ Rep cl B d v H ∧ Reps cl B l vs' H := by simp [Reps]
theorem Reps.cons {d : D} {l : List D} {v : V} {vs : List V} (h : Rep cl B d v H) (k : Reps cl B l vs H) : Reps cl B (d :: l) (v :: vs) H := reps_cons.mpr ⟨v, vs, rfl, h, k⟩
theorem Reps.nil : Reps cl B [] [] H := reps_nil.mpr rfl
theorem Reps.len : ∀ {l : List D} {vs : List V}, Reps cl B l vs H → l.length = vs.length
  | [], vs, h => by rw [reps_nil.mp h]; rfl
  | d :: l, vs, h => by
    obtain ⟨v, vs', rfl, _, rs⟩ := reps_cons.mp h
    show l.length + 1 = vs'.length + 1
    rw [Reps.len rs]
theorem Reps.get : ∀ {l : List D} {vs : List V} {i : Nat} {d : D}, Reps cl B l vs H → l[i]? = some d → ∃ v, vs[i]? = some v ∧ Rep cl B d v H
  | [], vs, i, d, h, e => by simp at e
  | d :: l, vs, 0, d', h, e => by
    obtain ⟨v, vs', rfl, r, rs⟩ := reps_cons.mp h
    simp at e; subst e
    exact ⟨v, rfl, r⟩
  | d :: l, vs, i + 1, d', h, e => by
    obtain ⟨v, vs', rfl, r, rs⟩ := reps_cons.mp h
    simp at e
    simpa using Reps.get rs e
theorem Reps.getV {l : List D} {vs : List V} {i : Nat} {v : V} (h : Reps cl B l vs H) (e : vs[i]? = some v) : ∃ d, l[i]? = some d ∧ Rep cl B d v H := by
  have hi : i < vs.length := (List.getElem?_eq_some_iff.mp e).1
  have hl : i < l.length := by rw [h.len]; exact hi
  obtain ⟨v', e', r⟩ := h.get (List.getElem?_eq_getElem hl)
  rw [e] at e'
  rw [Option.some.inj e']
  exact ⟨_, List.getElem?_eq_getElem hl, r⟩
theorem Reps.append : ∀ {l m : List D} {vs ws : List V}, Reps cl B l vs H → Reps cl B m ws H → Reps cl B (l ++ m) (vs ++ ws) H
  | [], m, vs, ws, h, k => by rw [reps_nil.mp h]; exact k
  | d :: l, m, vs, ws, h, k => by
    obtain ⟨v, vs', rfl, r, rs⟩ := reps_cons.mp h
    exact .cons r (Reps.append rs k)
theorem Reps.snoc {l : List D} {vs : List V} {d : D} {v : V} (h : Reps cl B l vs H) (k : Rep cl B d v H) : Reps cl B (l ++ [d]) (vs ++ [v]) H := h.append (.cons k .nil)
theorem Reps.set : ∀ {l : List D} {vs : List V} {d : D} {v : V} (i : Nat), Reps cl B l vs H → Rep cl B d v H → Reps cl B (l.set i d) (vs.set i v) H
  | [], vs, d, v, i, h, k => by rw [reps_nil.mp h]; exact .nil
  | d' :: l, vs, d, v, 0, h, k => by
    obtain ⟨v, vs', rfl, r, rs⟩ := reps_cons.mp h
    exact .cons k rs
  | d' :: l, vs, d, v, i + 1, h, k => by
    obtain ⟨v, vs', rfl, r, rs⟩ := reps_cons.mp h
    exact .cons r (Reps.set i rs k)
theorem Reps.drop : ∀ {l : List D} {vs : List V} (n : Nat), Reps cl B l vs H → Reps cl B (l.drop n) (vs.drop n) H
  | l, vs, 0, h => h
  | [], vs, n + 1, h => by rw [reps_nil.mp h]; exact .nil
  | d :: l, vs, n + 1, h => by
    obtain ⟨v, vs', rfl, r, rs⟩ := reps_cons.mp h
    exact Reps.drop n rs
theorem Reps.take : ∀ {l : List D} {vs : List V} (n : Nat), Reps cl B l vs H → Reps cl B (l.take n) (vs.take n) H
  | l, vs, 0, h => .nil
  | [], vs, n + 1, h => by rw [reps_nil.mp h]; exact .nil
  | d :: l, vs, n + 1, h => by
    obtain ⟨v, vs', rfl, r, rs⟩ := reps_cons.mp h
    exact .cons r (Reps.take n rs)
theorem Reps.eraseIdx : ∀ {l : List D} {vs : List V} (n : Nat), Reps cl B l vs H → Reps cl B (l.eraseIdx n) (vs.eraseIdx n) H
  | [], vs, n, h => by rw [reps_nil.mp h]; exact .nil
  | d :: l, vs, 0, h => by
    obtain ⟨v, vs', rfl, r, rs⟩ := reps_cons.mp h
    exact rs
  | d :: l, vs, n + 1, h => by
    obtain ⟨v, vs', rfl, r, rs⟩ := reps_cons.mp h
    exact .cons r (Reps.eraseIdx n rs)
theorem Reps.reverse : ∀ {l : List D} {vs : List V}, Reps cl B l vs H → Reps cl B l.reverse vs.reverse H
  | [], vs, h => by rw [reps_nil.mp h]; exact .nil
  | d :: l, vs, h => by
    obtain ⟨v, vs', rfl, r, rs⟩ := reps_cons.mp h
    rw [List.reverse_cons, List.reverse_cons]
    exact (Reps.reverse rs).snoc r
/-- plain values: what they are -/
theorem reps_str : ∀ {ss : List Str} {vs : List V}, Reps cl B (ss.map D.str) vs H ↔ vs = ss.map V.str
  | [], vs => by simp [Reps]
  | s :: ss, vs => by
    rw [List.map_cons, reps_cons, List.map_cons]
    constructor
    · rintro ⟨v, vs', rfl, r, rs⟩
      simp only [Rep] at r
      rw [r, reps_str.mp rs]
    · rintro rfl
      exact ⟨_, _, rfl, by simp [Rep], reps_str.mpr rfl⟩
theorem reps_int : ∀ {ss : List Int} {vs : List V}, Reps cl B (ss.map D.int) vs H ↔ vs = ss.map V.int
  | [], vs => by simp [Reps]
  | s :: ss, vs => by
    rw [List.map_cons, reps_cons, List.map_cons]
    constructor
    · rintro ⟨v, vs', rfl, r, rs⟩
      simp only [Rep] at r
      rw [r, reps_int.mp rs]
    · rintro rfl
      exact ⟨_, _, rfl, by simp [Rep], reps_int.mpr rfl⟩
theorem reps_bl : ∀ {ss : List Bool} {vs : List V}, Reps cl B (ss.map D.bl) vs H ↔ vs = ss.map V.bl
  | [], vs => by simp [Reps]
  | s :: ss, vs => by
    rw [List.map_cons, reps_cons, List.map_cons]
    constructor
    · rintro ⟨v, vs', rfl, r, rs⟩
      simp only [Rep] at r
      rw [r, reps_bl.mp rs]
    · rintro rfl
      exact ⟨_, _, rfl, by simp [Rep], reps_bl.mpr rfl⟩
end

/-! ### what stays -/
def Is3 (H : Hp) (a : Addr) : Prop := ∃ x y z : Int, H a = some (.lst [.int x, .int y, .int z])
/-- W: what may change; C: the boxes (lists of three ints), which stay such -/
structure Le (T : List (Addr × Str)) (W C : Addr → Prop) (H H' : Hp) : Prop where
  keep : ∀ a o, ¬ W a → H a = some o → (∀ ps, o ≠ .tbl ps) → H' a = some o
  dom : ∀ a, H a ≠ none → H' a ≠ none
  tabs : LamX.Tabs T H → LamX.Tabs T H'
  box : ∀ a, C a → Is3 H a → Is3 H' a
section
variable {T : List (Addr × Str)} {W W' C : Addr → Prop} {H H1 H2 : Hp} {cl : Str → Addr} {B : Addr → Prop}
theorem Le.refl : Le T W C H H := ⟨fun _ _ _ h _ => h, fun _ h => h, fun h => h, fun _ _ h => h⟩
theorem Le.trans (a : Le T W C H H1) (b : Le T W C H1 H2) : Le T W C H H2 := ⟨fun x o hw h n => b.keep x o hw (a.keep x o hw h n) n, fun x h => b.dom x (a.dom x h), fun h => b.tabs (a.tabs h), fun x hc h => b.box x hc (a.box x hc h)⟩
theorem Le.weak (a : Le T W C H H1) (h : ∀ x, W x → W' x) : Le T W' C H H1 := ⟨fun x o hw e n => a.keep x o (fun q => hw (h x q)) e n, a.dom, a.tabs, a.box⟩
theorem Le.fresh (a : Le T W C H H1) {p : Addr} (h : H1 p = none) : H p = none := by
  cases q : H p with
  | none => rfl
  | some o => exact absurd h (a.dom p (by rw [q]; simp))
theorem Le.new {p : Addr} {o : HO} (h : H p = none) : Le T W C H (upd H p o) := by
  have k : ∀ b u, H b = some u → upd H p o b = some u := fun b u e => by rw [upd_ne (ne_of_none e h)]; exact e
  refine ⟨fun a u _ e _ => k a u e, fun a ha => ?_, fun t => t.ext k, fun a _ ⟨x, y, z, e⟩ => ⟨x, y, z, k _ _ e⟩⟩
  cases q : H a with
  | none => exact absurd q ha
  | some u => rw [k a u q]; simp
theorem rd_ne_tbl {u : HO} {a : Addr} (hu : ∀ ps, u ≠ .tbl ps) (h : Rd H a u) : ∃ o, H a = some o ∧ (∀ ps, o ≠ .tbl ps) := by
  rcases h with h | ⟨o, h⟩
  · exact ⟨u, h, hu⟩
  · exact ⟨_, h, fun ps z => by cases z⟩
theorem Le.rd {u : HO} {a : Addr} (l : Le T W C H H1) (hw : ¬ W a) (hu : ∀ ps, u ≠ .tbl ps) (h : Rd H a u) : Rd H1 a u := by
  rcases h with h | ⟨o, h⟩
  · exact .inl (l.keep a _ hw h hu)
  · exact .inr ⟨o, l.keep a _ hw h fun ps z => by cases z⟩
end
section
variable {cl : Str → Addr} {B B' : Addr → Prop} {H H' : Hp}
def isSeq : HO → Bool
  | .lst _ | .tup _ | .ins _ _ _ => true
  | _ => false
def isDic : HO → Bool
  | .dK _ | .dT _ => true
  | _ => false
theorem isDic_tbl {u : HO} (h : isDic u = true) (ps : Array Value) : u ≠ .tbl ps := fun e => by rw [e] at h; cases h
theorem isSeq_tbl {u : HO} (h : isSeq u = true) (ps : Array Value) : u ≠ .tbl ps := fun e => by rw [e] at h; cases h
/-- what data lean on (tables are no data) -/
structure Kd (B' : Addr → Prop) (B : Addr → Prop) (H H' : Hp) : Prop where
  av : ∀ a, H a ≠ none → ¬ B a → ¬ B' a
  rd : ∀ a u, ¬ B a → isDic u = true → Rd H a u → Rd H' a u
  ex : ∀ a u, ¬ B a → isSeq u = true → H a = some u → H' a = some u
theorem rd_dom {a : Addr} {u : HO} (h : Rd H a u) : H a ≠ none := by
  rcases h with h | ⟨o, h⟩
  · rw [h]; simp
  · rw [h]; simp
mutual
theorem Rep.kd (k : Kd B' B H H') : ∀ (d : D) (v : V), Rep cl B d v H → Rep cl B' d v H'
  | .non, v, h => by simpa [Rep] using h
  | .bl b, v, h => by simpa [Rep] using h
  | .int b, v, h => by simpa [Rep] using h
  | .str b, v, h => by simpa [Rep] using h
  | .tup l, v, h => by
    simp only [Rep] at h ⊢
    obtain ⟨a, vs, e, nb, r, rs⟩ := h
    exact ⟨a, vs, e, k.av a (by rw [r]; simp) nb, k.ex a _ nb rfl r, Reps.kd k l vs rs⟩
  | .lst l, v, h => by
    simp only [Rep] at h ⊢
    obtain ⟨a, vs, e, nb, r, rs⟩ := h
    exact ⟨a, vs, e, k.av a (by rw [r]; simp) nb, k.ex a _ nb rfl r, Reps.kd k l vs rs⟩
  | .dct ks l, v, h => by
    simp only [Rep] at h ⊢
    obtain ⟨a, vs, e, nb, hl, r, rs⟩ := h
    exact ⟨a, vs, e, k.av a (rd_dom r) nb, hl, k.rd a _ nb rfl r, Reps.kd k l vs rs⟩
  | .dcT ks l, v, h => by
    simp only [Rep] at h ⊢
    obtain ⟨a, vs, e, nb, hl, r, rs⟩ := h
    exact ⟨a, vs, e, k.av a (rd_dom r) nb, hl, k.rd a _ nb rfl r, Reps.kd k l vs rs⟩
  | .obj c fs l, v, h => by
    simp only [Rep] at h ⊢
    obtain ⟨a, dx, vs, e, nb, hl, r, rs⟩ := h
    exact ⟨a, dx, vs, e, k.av a (by rw [r]; simp) nb, hl, k.ex a _ nb rfl r, Reps.kd k l vs rs⟩
theorem Reps.kd (k : Kd B' B H H') : ∀ (l : List D) (vs : List V), Reps cl B l vs H → Reps cl B' l vs H'
  | [], vs, h => by simpa [Reps] using h
  | d :: l, vs, h => by
    simp only [Reps] at h ⊢
    obtain ⟨v, vs', e, r, rs⟩ := h
    exact ⟨v, vs', e, Rep.kd k d v r, Reps.kd k l vs' rs⟩
end
variable {T : List (Addr × Str)} {W C : Addr → Prop}
theorem Le.kd (l : Le T W C H H') (h : ∀ a, W a → B a) (h' : ∀ a, B' a → H a ≠ none → B a) : Kd B' B H H' :=
  ⟨fun a ha nb z => nb (h' a z ha), fun a u hb hu r => l.rd (fun q => hb (h a q)) (isDic_tbl hu) r, fun a u hb hu e => l.keep a _ (fun q => hb (h a q)) e (isSeq_tbl hu)⟩
end
end Nb
set_option Elab.async false
set_option linter.all false
set_option maxRecDepth 100000
set_option maxHeartbeats 2000000
/-! what an expression evaluates to, over descriptions of the slots -/
namespace Nb
open PySem PySem.Spec PyProof.Rows L2

structure EC where
  P : Program
  w : World
  K : PySem.W.Frag
  mg : Str → Option Value
  base : Heap
  k : Nat
  N : List Str
  sc : Scope
  fn : Str → Bool
  T : List (Addr × Str)
  cl : Str → Addr
  B0 : Addr → Prop
  W : Addr → Prop
  C : Addr → Prop
  H0 : Hp
  /-- where lambdas are made: the def's code object, its name -/
  lam : Option (Addr × Str)

structure Fam (E : EC) (X : Cx) : Prop where
  prog : X.prog = E.P
  w : X.w = E.w
  K : X.K = E.K
  mg : X.mg = E.mg
  base : X.base = E.base
  N : X.N = E.N
  nd : X.N.Nodup
  calm : X.calm = true
  room : Room E.k X.A
  sc : X.env.scope = E.sc
  fn : X.fn = E.fn
  xe : X.xe = fun _ _ => False
  lam : ∀ z, E.lam = some z → X.env.code = .ref z.1 ∧ X.env.qual = z.2

/-- a value's description -/
inductive Ent where
  | d (x : D)
  /-- a list or dict of one's own, which may still be changed -/
  | own (p : Addr) (x : D)
  /-- a list of three ints -/
  | box (p : Addr)
  /-- a list of ints that is given from outside -/
  | scr (ns : List Int)
  /-- an instance that is being made -/
  | ins (p : Addr) (c : Str) (fs : List Str) (l : List D)
  /-- a list, dict or tuple whose own place may be one that changes -/
  | wk (x : D)
  /-- a class or a built-in type as a value -/
  | ty (v : V)
  /-- a dict with text keys, locked -/
  | lk (p : Addr) (ks : List Str) (l : List D)

section
variable (cl : Str → Addr) (B : Addr → Prop)
def Top : D → Addr → Hp → Prop
  | .lst l, p, H => ∃ vs, H p = some (.lst vs) ∧ Reps cl B l vs H
  | .dct ks l, p, H => ∃ vs, ks.length = vs.length ∧ H p = some (.dK ((ks.map Sum.inr).zip vs)) ∧ Reps cl B l vs H
  | .dcT ks l, p, H => ∃ vs, ks.length = vs.length ∧ H p = some (.dT ((ks.map tkey).zip vs)) ∧ Reps cl B l vs H
  | _, _, _ => False
def TopW : D → Addr → Hp → Prop
  | .lst l, p, H => ∃ vs, H p = some (.lst vs) ∧ Reps cl B l vs H
  | .tup l, p, H => ∃ vs, H p = some (.tup vs) ∧ Reps cl B l vs H
  | .dct ks l, p, H => ∃ vs, ks.length = vs.length ∧ Rd H p (.dK ((ks.map Sum.inr).zip vs)) ∧ Reps cl B l vs H
  | .dcT ks l, p, H => ∃ vs, ks.length = vs.length ∧ Rd H p (.dT ((ks.map tkey).zip vs)) ∧ Reps cl B l vs H
  | _, _, _ => False
end
def RE (E : EC) (B : Addr → Prop) : Ent → V → Hp → Prop
  | .d x, v, H => Rep E.cl B x v H
  | .own p x, v, H => v = .ref p ∧ ¬ E.C p ∧ ¬ E.B0 p ∧ E.H0 p = none ∧ Top E.cl B x p H
  | .box p, v, H => v = .ref p ∧ E.C p ∧ Is3 H p
  | .scr ns, v, H => ∃ a, v = .ref a ∧ ¬ E.C a ∧ SqL E.K H a (ns.map V.int)
  | .ins p c fs l, v, H => v = .ref p ∧ ¬ E.C p ∧ B p ∧ ∃ dx vs, fs.length = vs.length ∧ H p = some (.ins (E.cl c) dx (fs.zip vs)) ∧ Reps E.cl B l vs H
  | .wk x, v, H => ∃ p, v = .ref p ∧ ¬ E.C p ∧ TopW E.cl B x p H
  | .ty u, v, _ => v = u
  | .lk p ks l, v, H => v = .ref p ∧ ¬ E.C p ∧ ∃ od vs, ks.length = vs.length ∧ H p = some (.frz od (.dK ((ks.map Sum.inr).zip vs))) ∧ Reps E.cl B l vs H

/-- what else is to stay: objects as they are, data -/
structure Gh where
  raw : List (Addr × HO)
  dat : List (D × V)
/-- the slots, the heap -/
structure ER (E : EC) (B : Addr → Prop) (δ : List (Option Ent)) (γ : Gh) (σ : L2.St) (H : Hp) : Prop where
  le : Le E.T E.W E.C E.H0 H
  dom : ∀ a, B a → H a ≠ none
  sub : ∀ a, E.B0 a → B a
  cb : ∀ a, E.C a → B a
  cw : ∀ a, E.C a → E.W a
  tabs : LamX.Tabs E.T H
  at_ : ∀ (i : Nat) r, δ[i]? = some (some r) → ∃ v, σ[i]? = some (some v) ∧ RE E B r v H
  len : δ.length = σ.length
  gr : ∀ p ∈ γ.raw, ¬ E.C p.1 ∧ ¬ B p.1 ∧ (∀ ps, p.2 ≠ .tbl ps) ∧ H p.1 = some p.2
  gd : ∀ q ∈ γ.dat, Rep E.cl B q.1 q.2 H

abbrev LeC (E : EC) (H H' : Hp) : Prop := Le E.T E.C E.C H H'

section
variable {E : EC} {B B' : Addr → Prop} {δ : List (Option Ent)} {γ : Gh} {σ : L2.St} {H H' H2 : Hp} {v : V} {r : Ent} {x : D}
theorem rd_step {a : Addr} {u : HO} (l : LeC E H H2) (hc : ¬ E.C a) (h : Rd H a u) (hu : ∀ ps, u ≠ .tbl ps := by intro ps z; cases z) : Rd H2 a u := l.rd hc hu h
theorem LeC.kd (l : LeC E H H2) (hb : ∀ a, E.C a → B a) : Kd B B H H2 := Le.kd l hb fun _ h _ => h
theorem Top.imp {cl : Str → Addr} {x : D} {p : Addr} (h : Top cl B x p H) (k : Kd B' B H H2) (hp : ∀ u, H p = some u → (∀ ps, u ≠ .tbl ps) → H2 p = some u) : Top cl B' x p H2 := by
  cases x with
  | lst l => obtain ⟨vs, e, r⟩ := h; exact ⟨vs, hp _ e (fun ps z => by cases z), Reps.kd k _ _ r⟩
  | dct ks l => obtain ⟨vs, hl, e, r⟩ := h; exact ⟨vs, hl, hp _ e (fun ps z => by cases z), Reps.kd k _ _ r⟩
  | dcT ks l => obtain ⟨vs, hl, e, r⟩ := h; exact ⟨vs, hl, hp _ e (fun ps z => by cases z), Reps.kd k _ _ r⟩
  | _ => exact False.elim h
theorem TopW.imp {cl : Str → Addr} {x : D} {p : Addr} (h : TopW cl B x p H) (k : Kd B' B H H2) (hx : ∀ u, H p = some u → (∀ ps, u ≠ .tbl ps) → H2 p = some u) (hp : ∀ u, Rd H p u → (∀ ps, u ≠ .tbl ps) → Rd H2 p u) : TopW cl B' x p H2 := by
  cases x with
  | lst l => obtain ⟨vs, e, r⟩ := h; exact ⟨vs, hx _ e (fun ps z => by cases z), Reps.kd k _ _ r⟩
  | tup l => obtain ⟨vs, e, r⟩ := h; exact ⟨vs, hx _ e (fun ps z => by cases z), Reps.kd k _ _ r⟩
  | dct ks l => obtain ⟨vs, hl, e, r⟩ := h; exact ⟨vs, hl, hp _ e (fun ps z => by cases z), Reps.kd k _ _ r⟩
  | dcT ks l => obtain ⟨vs, hl, e, r⟩ := h; exact ⟨vs, hl, hp _ e (fun ps z => by cases z), Reps.kd k _ _ r⟩
  | _ => exact False.elim h
theorem Top.wk {cl : Str → Addr} {x : D} {p : Addr} (h : Top cl B x p H) : TopW cl B x p H := by
  cases x with
  | lst l => exact h
  | dct ks l => obtain ⟨vs, hl, e, r⟩ := h; exact ⟨vs, hl, .inl e, r⟩
  | dcT ks l => obtain ⟨vs, hl, e, r⟩ := h; exact ⟨vs, hl, .inl e, r⟩
  | _ => exact False.elim h
/-- the general step: B to B', the heap from H to H2 -/
theorem RE.imp (h : RE E B r v H) (k : Kd B' B H H2) (hp : ∀ p u, ¬ E.C p → H p = some u → (∀ ps, u ≠ .tbl ps) → H2 p = some u) (hb : ∀ p, E.C p → Is3 H p → Is3 H2 p) (hB : ∀ a, B a → B' a) : RE E B' r v H2 := by
  have hr : ∀ p u, ¬ E.C p → Rd H p u → (∀ ps, u ≠ .tbl ps) → Rd H2 p u := fun p u hc q hu => by
    rcases q with q | ⟨o, q⟩
    · exact .inl (hp p _ hc q hu)
    · exact .inr ⟨o, hp p _ hc q fun ps z => by cases z⟩
  cases r with
  | d x => exact Rep.kd k _ _ h
  | own p x => obtain ⟨e, h1, h2, h4, h5⟩ := h; exact ⟨e, h1, h2, h4, h5.imp k fun u => hp p u h1⟩
  | box p => obtain ⟨e, h1, h2⟩ := h; exact ⟨e, h1, hb p h1 h2⟩
  | scr ns =>
    obtain ⟨a, e, h1, h2⟩ := h
    refine ⟨a, e, h1, ?_⟩
    rcases h2 with h2 | h2
    · exact .inl (hr a _ h1 h2 fun ps z => by cases z)
    · exact .inr h2
  | ins p c fs l =>
    obtain ⟨e, h1, h2, dx, vs, hl, h3, h4⟩ := h
    exact ⟨e, h1, hB _ h2, dx, vs, hl, hp p _ h1 h3 (fun ps z => by cases z), Reps.kd k _ _ h4⟩
  | wk x => obtain ⟨p, e, h1, h2⟩ := h; exact ⟨p, e, h1, h2.imp k (fun u => hp p u h1) fun u => hr p u h1⟩
  | ty u => exact h
  | lk p ks l => obtain ⟨e, h1, od, vs, h2, h3, h4⟩ := h; exact ⟨e, h1, od, vs, h2, hp p _ h1 h3 (fun ps z => by cases z), Reps.kd k _ _ h4⟩
theorem RE.step (h : RE E B r v H) (l : LeC E H H2) (hb : ∀ a, E.C a → B a) : RE E B r v H2 :=
  h.imp (LeC.kd l hb) (fun p u hc q hu => l.keep p u hc q hu) (fun p hc => l.box p hc) fun _ h => h
theorem ER.step (h : ER E B δ γ σ H) (l : LeC E H H2) : ER E B δ γ σ H2 :=
  ⟨h.le.trans (l.weak h.cw), fun a ha => l.dom a (h.dom a ha), h.sub, h.cb, h.cw, l.tabs h.tabs, fun i r e => by
    obtain ⟨v, h1, h2⟩ := h.at_ i r e
    exact ⟨v, h1, h2.step l h.cb⟩, h.len, fun p hp => by
    obtain ⟨h1, h2, h3, h4⟩ := h.gr p hp
    exact ⟨h1, h2, h3, l.keep _ _ h1 h4 h3⟩, fun q hq => Rep.kd (LeC.kd l h.cb) _ _ (h.gd q hq)⟩
/-- one slot more -/
theorem ER.set (h : ER E B δ γ σ H) (i : Nat) (hv : RE E B r v H) : ER E B (δ.set i (some r)) γ (σ.set i (some v)) H :=
  ⟨h.le, h.dom, h.sub, h.cb, h.cw, h.tabs, fun j r' e => by
    by_cases hj : i = j
    · subst hj
      by_cases hi : i < δ.length
      · rw [List.getElem?_set_self hi] at e
        cases e
        exact ⟨v, List.getElem?_set_self (by rw [← h.len]; exact hi), hv⟩
      · rw [List.getElem?_eq_none (by simpa using hi)] at e
        cases e
    · rw [List.getElem?_set_ne hj] at e
      rw [List.getElem?_set_ne hj]
      exact h.at_ j r' e, by simpa using h.len, h.gr, h.gd⟩
/-- a slot forgotten -/
theorem ER.forget (h : ER E B δ γ σ H) (i : Nat) : ER E B (δ.set i none) γ σ H :=
  ⟨h.le, h.dom, h.sub, h.cb, h.cw, h.tabs, fun j r' e => by
    by_cases hj : i = j
    · subst hj
      by_cases hi : i < δ.length
      · rw [List.getElem?_set_self hi] at e
        cases e
      · rw [List.getElem?_eq_none (by simpa using hi)] at e
        cases e
    · rw [List.getElem?_set_ne hj] at e
      exact h.at_ j r' e, by simpa using h.len, h.gr, h.gd⟩
theorem ER.weak {δ' : List (Option Ent)} (h : ER E B δ γ σ H) (hl : δ'.length = δ.length) (w : ∀ (i : Nat) r, δ'[i]? = some (some r) → δ[i]? = some (some r)) : ER E B δ' γ σ H :=
  ⟨h.le, h.dom, h.sub, h.cb, h.cw, h.tabs, fun j r' e => h.at_ j r' (w j r' e), hl.trans h.len, h.gr, h.gd⟩
end

/-! ### judgements -/
def EVP (E : EC) (e : Expr) (δ : List (Option Ent)) (P : Ent → Prop) : Prop := ∀ (B : Addr → Prop) (γ : Gh) (σ : L2.St) (H : Hp), ER E B δ γ σ H → ∀ Q : VK, (∀ r v H2, P r → LeC E H H2 → RE E B r v H2 → Q v H2) → WE (Fam E) e σ H Q
def EV (E : EC) (e : Expr) (δ : List (Option Ent)) (r : Ent) : Prop := ∀ (B : Addr → Prop) (γ : Gh) (σ : L2.St) (H : Hp), ER E B δ γ σ H → ∀ Q : VK, (∀ v H2, LeC E H H2 → RE E B r v H2 → Q v H2) → WE (Fam E) e σ H Q
def ET (E : EC) (e : Expr) (δ : List (Option Ent)) (b : Bool) : Prop := ∀ (B : Addr → Prop) (γ : Gh) (σ : L2.St) (H : Hp), ER E B δ γ σ H → ∀ Q : Bool → Hp → Prop, (∀ H2, LeC E H H2 → Q b H2) → WT (Fam E) e σ H Q
/-- and, or as tests -/
def EWt (E : EC) (e : Expr) (δ : List (Option Ent)) (b : Bool) : Prop := ∀ (B : Addr → Prop) (γ : Gh) (σ : L2.St) (H : Hp), ER E B δ γ σ H → ∀ Q : Bool → Hp → Prop, (∀ H2, LeC E H H2 → Q b H2) → WW (Fam E) e σ H Q
inductive REs (E : EC) (B : Addr → Prop) (H : Hp) : List Ent → List V → Prop
  | nil : REs E B H [] []
  | cons {r : Ent} {v : V} {rs : List Ent} {vs : List V} : RE E B r v H → REs E B H rs vs → REs E B H (r :: rs) (v :: vs)
def EA (E : EC) (es : List Expr) (δ : List (Option Ent)) (rs : List Ent) : Prop := ∀ (B : Addr → Prop) (γ : Gh) (σ : L2.St) (H : Hp), ER E B δ γ σ H → ∀ Q : List V → Hp → Prop, (∀ vs H2, LeC E H H2 → REs E B H2 rs vs → Q vs H2) → WA (Fam E) es σ H Q
def EAP (E : EC) (es : List Expr) (δ : List (Option Ent)) (P : List Ent → Prop) : Prop := ∀ (B : Addr → Prop) (γ : Gh) (σ : L2.St) (H : Hp), ER E B δ γ σ H → ∀ Q : List V → Hp → Prop, (∀ rs vs H2, P rs → LeC E H H2 → REs E B H2 rs vs → Q vs H2) → WA (Fam E) es σ H Q

section
variable {E : EC} {B : Addr → Prop} {δ : List (Option Ent)} {σ : L2.St} {H H' H2 : Hp} {v : V} {r ra rb rc : Ent} {x : D} {e a b : Expr} {es : List Expr} {pos p : Pos} {P : Ent → Prop}
theorem EV.toP (h : EV E e δ r) (hp : P r) : EVP E e δ P := fun B γ σ H er Q q => h B γ σ H er Q fun v H2 l rv => q r v H2 hp l rv
theorem EVP.toV (h : EVP E e δ (fun r' => r' = r)) : EV E e δ r := fun B γ σ H er Q q => h B γ σ H er Q fun r' v H2 e l rv => by subst e; exact q v H2 l rv
theorem EVP.imp {P' : Ent → Prop} (h : EVP E e δ P) (m : ∀ r, P r → P' r) : EVP E e δ P' := fun B γ σ H er Q q => h B γ σ H er Q fun r v H2 hp l rv => q r v H2 (m r hp) l rv
/-- the same value otherwise told -/
theorem EV.as (h : EV E e δ ra) (m : ∀ B v H, (∀ a, E.C a → B a) → RE E B ra v H → RE E B rb v H) : EV E e δ rb := fun B γ σ H er Q q => h B γ σ H er Q fun v H2 l rv => q v H2 l (m B v H2 er.cb rv)
theorem EV.eq (h : EV E e δ ra) (m : ra = rb) : EV E e δ rb := m ▸ h
theorem EV.eqd {y : D} (h : EV E e δ (.d x)) (m : x = y) : EV E e δ (.d y) := m ▸ h
theorem ET.eq {b c : Bool} (h : ET E e δ b) (m : b = c) : ET E e δ c := m ▸ h
theorem EWt.t {b : Bool} (h : EWt E e δ b) : ET E e δ b := fun B γ σ H er Q q => wt_of (fun X hX => (ww_pw hX).pt) (h B γ σ H er Q q)

def isTop : D → Bool
  | .tup _ | .lst _ | .dct _ _ | .dcT _ _ => true
  | _ => false
theorem re_wk (hx : isTop x = true) (hb : ∀ a, E.C a → B a) (h : RE E B (.d x) v H) : RE E B (.wk x) v H := by
  cases x with
  | tup l => simp only [RE, Rep] at h; obtain ⟨a, vs, e, nb, r, rs⟩ := h; exact ⟨a, e, fun z => nb (hb a z), vs, r, rs⟩
  | lst l => simp only [RE, Rep] at h; obtain ⟨a, vs, e, nb, r, rs⟩ := h; exact ⟨a, e, fun z => nb (hb a z), vs, r, rs⟩
  | dct ks l => simp only [RE, Rep] at h; obtain ⟨a, vs, e, nb, hl, r, rs⟩ := h; exact ⟨a, e, fun z => nb (hb a z), vs, hl, r, rs⟩
  | dcT ks l => simp only [RE, Rep] at h; obtain ⟨a, vs, e, nb, hl, r, rs⟩ := h; exact ⟨a, e, fun z => nb (hb a z), vs, hl, r, rs⟩
  | _ => cases hx
theorem EV.wk (h : EV E e δ (.d x)) (hx : isTop x = true := by rfl) : EV E e δ (.wk x) := h.as fun B v H hb => re_wk hx hb
theorem EV.wko {p : Addr} (h : EV E e δ (.own p x)) : EV E e δ (.wk x) := h.as fun B v H hb ⟨e, h1, h2, h4, h5⟩ => ⟨p, e, h1, h5.wk⟩

/-! names, constants -/
theorem ev_var (i : Nat) {y : Str} (hN : E.N[i]? = some y) (hv : Vis E.sc y) (hδ : δ[i]? = some (some r)) (hd : (y == ("__debug__" : Str)) = false := by decide) (hcd : (y == ("__classdict__" : Str)) = false := by decide) : EV E (.Name y pos) δ r := fun B γ σ H er Q q => by
  obtain ⟨v, h1, h2⟩ := er.at_ i r hδ
  exact we_of (t := tVar i) (fun X hX => pe_var (by rw [hX.N]; exact hN) (by rw [hX.sc]; exact hv) hd hcd) ⟨v, h1, q v H Le.refl h2⟩
theorem ev_int {i : Int} {j : Nat} : EV E (.Constant (.int i) j pos) δ (.d (.int i)) := fun B γ σ H er Q q => we_of (fun X hX => pe_int) (q _ H Le.refl (by simp [RE, Rep]))
theorem ev_bl {i : Bool} {j : Nat} : EV E (.Constant (.bool i) j pos) δ (.d (.bl i)) := fun B γ σ H er Q q => we_of (fun X hX => pe_bl) (q _ H Le.refl (by simp [RE, Rep]))
theorem ev_non {j : Nat} : EV E (.Constant .none j pos) δ (.d .non) := fun B γ σ H er Q q => we_of (fun X hX => pe_non) (q _ H Le.refl (by simp [RE, Rep]))
theorem ev_str {i : Str} {j : Nat} : EV E (.Constant (.str i) j pos) δ (.d (.str i)) := fun B γ σ H er Q q => we_of (fun X hX => pe_str) (q _ H Le.refl (by simp [RE, Rep]))
def GlS (sc : Scope) (x : Str) : Prop := sc.names.lookup x = some .globalImplicit
theorem gl_of {X : Cx} {y : Str} (hX : Fam E X) (h : GlS E.sc y) : Gl X y := by
  show X.env.scope.names.lookup y = _
  rw [hX.sc]
  exact h
/-- a module's constant -/
theorem ev_glob {y : Str} {u : Value} {w : V} (hg : GlS E.sc y) (hm : E.mg y = some u) (hr : RelV w u) (he : ∀ B H, RE E B r w H) (hd : (y == ("__debug__" : Str)) = false := by decide) : EV E (.Name y pos) δ r := fun B γ σ H er Q q =>
  we_of (fun X hX => pe_glob (gl_of hX hg) (by rw [hX.mg]; exact hm) hr hd) (q _ H Le.refl (he B H))
theorem ev_gint {y : Str} {i : Int} (hg : GlS E.sc y) (hm : ∃ t, E.mg y = some (.int i t)) (hd : (y == ("__debug__" : Str)) = false := by decide) : EV E (.Name y pos) δ (.d (.int i)) := by
  obtain ⟨t, hm⟩ := hm
  exact ev_glob (w := .int i) hg hm ⟨t, rfl⟩ (fun B H => by simp [RE, Rep]) hd
theorem ev_gstr {y s : Str} (hg : GlS E.sc y) (hm : ∃ t, E.mg y = some (.str s t)) (hd : (y == ("__debug__" : Str)) = false := by decide) : EV E (.Name y pos) δ (.d (.str s)) := by
  obtain ⟨t, hm⟩ := hm
  exact ev_glob (w := .str s) hg hm ⟨t, rfl⟩ (fun B H => by simp [RE, Rep]) hd
theorem ev_gref {y : Str} {a : Addr} (hg : GlS E.sc y) (hm : E.mg y = some (.ref a)) (hd : (y == ("__debug__" : Str)) = false := by decide) : EV E (.Name y pos) δ (.ty (.ref a)) := ev_glob (w := .ref a) hg hm rfl (fun B H => rfl) hd
/-- a built-in type as a value -/
theorem ev_gty {y : Str} {n : String} (hg : GlS E.sc y) (hm : E.mg y = none) (hv : bootBuiltins y = some (.type n)) (hn : y ≠ "__name__" := by decide) (hd : (y == ("__debug__" : Str)) = false := by decide) : EV E (.Name y pos) δ (.ty (.ty n)) := fun B γ σ H er Q q =>
  we_of (t := tC (.ty n)) (fun X hX => pe_bltn (gl_of hX hg) (by rw [hX.mg]; exact hm) hv rfl hn hd) (q _ H Le.refl rfl)

/-! arguments -/
theorem ea_nil : EA E [] δ [] := fun B γ σ H er Q q => wa_of (fun X hX => pa_nil) (q [] H Le.refl .nil)
theorem ea_cons {rs : List Ent} (h : EV E e δ r) (hr : EA E es δ rs) (hs : ∀ env, starEach (e :: es) env = (false, eval e env) :: starEach es env := by intro _; rfl) : EA E (e :: es) δ (r :: rs) := fun B γ σ H er Q q =>
  wa_of (fun X hX => pa_cons (we_pe hX) (wa_pa hX) (hs _)) (h B γ σ H er _ fun v H1 l1 rv => hr B γ σ H1 (er.step l1) _ fun vs H2 l2 rvs => q _ H2 (l1.trans l2) (.cons (rv.step l2 er.cb) rvs))
theorem eap_nil {P : List Ent → Prop} (h : P []) : EAP E [] δ P := fun B γ σ H er Q q => wa_of (fun X hX => pa_nil) (q [] [] H h Le.refl .nil)
theorem eap_cons {P : Ent → Prop} {R S : List Ent → Prop} (h : EVP E e δ P) (hr : EAP E es δ R) (m : ∀ r rs, P r → R rs → S (r :: rs)) (hs : ∀ env, starEach (e :: es) env = (false, eval e env) :: starEach es env := by intro _; rfl) : EAP E (e :: es) δ S := fun B γ σ H er Q q =>
  wa_of (fun X hX => pa_cons (we_pe hX) (wa_pa hX) (hs _)) (h B γ σ H er _ fun r v H1 hp l1 rv => hr B γ σ H1 (er.step l1) _ fun rs vs H2 hR l2 rvs => q _ _ H2 (m r rs hp hR) (l1.trans l2) (.cons (rv.step l2 er.cb) rvs))
theorem EA.toP {rs : List Ent} {P : List Ent → Prop} (h : EA E es δ rs) (hp : P rs) : EAP E es δ P := fun B γ σ H er Q q => h B γ σ H er Q fun vs H2 l rv => q rs vs H2 hp l rv

/-! operations on values -/
def RO (E : EC) (r : R2) (ra rb rc : Ent) : Prop := ∀ (B : Addr → Prop) (x y : V) (H : Hp), (∀ a, B a → H a ≠ none) → (∀ a, E.C a → B a) → RE E B ra x H → RE E B rb y H → ∀ Q : VK, (∀ v H2, LeC E H H2 → RE E B rc v H2 → Q v H2) → r x y H Q
theorem ev_op {op : Operator} {t : R2} (ho : ∀ X, Fam E X → OpR X (binaryOp op) t) (ha : EV E a δ ra) (hb : EV E b δ rb) (hr : RO E t ra rb rc) : EV E (.BinOp a op b pos) δ rc := fun B γ σ H er Q q =>
  we_of (fun X hX => pe_op (ho X hX) (we_pe hX) (we_pe hX)) (ha B γ σ H er _ fun x H1 l1 rx => hb B γ σ H1 (er.step l1) _ fun y H2 l2 ry =>
    hr B x y H2 (((er.step l1).step l2)).dom er.cb (rx.step l2 er.cb) ry Q fun v H3 l3 rv => q v H3 ((l1.trans l2).trans l3) rv)
theorem evp_op {op : Operator} {t : R2} {P R S : Ent → Prop} (ho : ∀ X, Fam E X → OpR X (binaryOp op) t) (ha : EVP E a δ P) (hb : EVP E b δ R) (hr : ∀ ra rb, P ra → R rb → ∃ rc, S rc ∧ RO E t ra rb rc) : EVP E (.BinOp a op b pos) δ S := fun B γ σ H er Q q =>
  we_of (fun X hX => pe_op (ho X hX) (we_pe hX) (we_pe hX)) (ha B γ σ H er _ fun ra x H1 pa l1 rx => hb B γ σ H1 (er.step l1) _ fun rb y H2 pb l2 ry => by
    obtain ⟨rc, hs, hr⟩ := hr ra rb pa pb
    exact hr B x y H2 (((er.step l1).step l2)).dom er.cb (rx.step l2 er.cb) ry Q fun v H3 l3 rv => q rc v H3 hs ((l1.trans l2).trans l3) rv)
theorem ev_cmp {op : CmpOp} {t : R2} (ho : ∀ X, Fam E X → OpR X (compareOp op) t) (ha : EV E a δ ra) (hb : EV E b δ rb) (hr : RO E t ra rb rc) (hm : behindInMarks op b = false := by first | exact nomark _ | rfl) : EV E (.Compare a [op] [b] pos) δ rc := fun B γ σ H er Q q =>
  we_of (fun X hX => pe_cmpR (ho X hX) (we_pe hX) (we_pe hX) hm) (ha B γ σ H er _ fun x H1 l1 rx => hb B γ σ H1 (er.step l1) _ fun y H2 l2 ry =>
    hr B x y H2 (((er.step l1).step l2)).dom er.cb (rx.step l2 er.cb) ry Q fun v H3 l3 rv => q v H3 ((l1.trans l2).trans l3) rv)
theorem evp_cmp {op : CmpOp} {t : R2} {P R S : Ent → Prop} (ho : ∀ X, Fam E X → OpR X (compareOp op) t) (ha : EVP E a δ P) (hb : EVP E b δ R) (hr : ∀ ra rb, P ra → R rb → ∃ rc, S rc ∧ RO E t ra rb rc) (hm : behindInMarks op b = false := by first | exact nomark _ | rfl) : EVP E (.Compare a [op] [b] pos) δ S := fun B γ σ H er Q q =>
  we_of (fun X hX => pe_cmpR (ho X hX) (we_pe hX) (we_pe hX) hm) (ha B γ σ H er _ fun ra x H1 pa l1 rx => hb B γ σ H1 (er.step l1) _ fun rb y H2 pb l2 ry => by
    obtain ⟨rc, hs, hr⟩ := hr ra rb pa pb
    exact hr B x y H2 (((er.step l1).step l2)).dom er.cb (rx.step l2 er.cb) ry Q fun v H3 l3 rv => q rc v H3 hs ((l1.trans l2).trans l3) rv)
theorem ev_ix {t : R2} (ho : ∀ X, Fam E X → IxR X t) (ha : EV E a δ ra) (hb : EV E b δ rb) (hr : RO E t ra rb rc) (hs : PlainIx b) : EV E (.Subscript a b pos) δ rc := fun B γ σ H er Q q =>
  we_of (fun X hX => pe_ix (ho X hX) (we_pe hX) (we_pe hX) hs) (ha B γ σ H er _ fun x H1 l1 rx => hb B γ σ H1 (er.step l1) _ fun y H2 l2 ry =>
    hr B x y H2 (((er.step l1).step l2)).dom er.cb (rx.step l2 er.cb) ry Q fun v H3 l3 rv => q v H3 ((l1.trans l2).trans l3) rv)
theorem evp_ix {t : R2} {P R S : Ent → Prop} (ho : ∀ X, Fam E X → IxR X t) (ha : EVP E a δ P) (hb : EVP E b δ R) (hr : ∀ ra rb, P ra → R rb → ∃ rc, S rc ∧ RO E t ra rb rc) (hs : PlainIx b) : EVP E (.Subscript a b pos) δ S := fun B γ σ H er Q q =>
  we_of (fun X hX => pe_ix (ho X hX) (we_pe hX) (we_pe hX) hs) (ha B γ σ H er _ fun ra x H1 pa l1 rx => hb B γ σ H1 (er.step l1) _ fun rb y H2 pb l2 ry => by
    obtain ⟨rc, hs, hr⟩ := hr ra rb pa pb
    exact hr B x y H2 (((er.step l1).step l2)).dom er.cb (rx.step l2 er.cb) ry Q fun v H3 l3 rv => q rc v H3 hs ((l1.trans l2).trans l3) rv)
/-- calls of built-ins by values -/
def RCa (E : EC) (r : List V → Hp → VK → Prop) (rs : List Ent) (rc : Ent) : Prop := ∀ (B : Addr → Prop) (vs : List V) (H : Hp), (∀ a, B a → H a ≠ none) → (∀ a, E.C a → B a) → REs E B H rs vs → ∀ Q : VK, (∀ v H2, LeC E H H2 → RE E B rc v H2 → Q v H2) → r vs H Q
theorem ev_callB {y : Str} {id : String} {t : List V → Hp → VK → Prop} {rs : List Ent} (hc : ∀ X, Fam E X → CallR X (.builtin id) t) (hg : GlS E.sc y) (hm : E.mg y = none) (hv : bootBuiltins y = some (.builtin id)) (ha : EA E (e :: es) δ rs) (hr : RCa E t rs rc)
    (he : ∀ env, starEach (e :: es) env = (false, eval e env) :: starEach es env := by intro _; rfl) (hpl : ∀ env, (backTo pos (starEach es env)).any (·.1) = false := by intro _; rfl) (hn : y ≠ "__name__" := by decide) (hdb : (y == ("__debug__" : Str)) = false := by decide) :
    EV E (.Call (.Name y p) (e :: es) [] pos) δ rc := fun B γ σ H er Q q =>
  we_of (fun X hX => pe_callB (hc X hX) (gl_of hX hg) (by rw [hX.mg]; exact hm) hv (wa_pa hX) hn hdb (he _) (hpl _)) (ha B γ σ H er _ fun vs H1 l1 rv => hr B vs H1 (er.step l1).dom er.cb rv Q fun v H2 l2 r2 => q v H2 (l1.trans l2) r2)
theorem ev_callTy {y : Str} {id : String} {t : List V → Hp → VK → Prop} {rs : List Ent} (hc : ∀ X, Fam E X → CallR X (.type id) t) (hg : GlS E.sc y) (hm : E.mg y = none) (hv : bootBuiltins y = some (.type id)) (ha : EA E (e :: es) δ rs) (hr : RCa E t rs rc)
    (he : ∀ env, starEach (e :: es) env = (false, eval e env) :: starEach es env := by intro _; rfl) (hpl : ∀ env, (backTo pos (starEach es env)).any (·.1) = false := by intro _; rfl) (hn : y ≠ "__name__" := by decide) (hdb : (y == ("__debug__" : Str)) = false := by decide) :
    EV E (.Call (.Name y p) (e :: es) [] pos) δ rc := fun B γ σ H er Q q =>
  we_of (fun X hX => pe_callTy (hc X hX) (gl_of hX hg) (by rw [hX.mg]; exact hm) hv (wa_pa hX) hn hdb (he _) (hpl _)) (ha B γ σ H er _ fun vs H1 l1 rv => hr B vs H1 (er.step l1).dom er.cb rv Q fun v H2 l2 r2 => q v H2 (l1.trans l2) r2)

/-! truth -/
theorem et_v {c : Bool} (h : EV E e δ (.d (.bl c))) (he : ∀ env whole, isTrue e env whole = (do let v ← whole; standAt e.pos; holding [v] (truthy v)) := by intro _ _; rfl) : ET E e δ c := fun B γ σ H er Q q => wt_of (fun X hX => pt_val (we_pe hX) (he _)) (h B γ σ H er _ fun v H1 l1 rv => ⟨c, by simpa [RE, Rep] using rv, q H1 l1⟩)
theorem et_not {c : Bool} (h : ET E e δ c) : ET E (.UnaryOp .Not e pos) δ (!c) := fun B γ σ H er Q q => wt_of (fun X hX => pt_not (wt_pt hX)) (h B γ σ H er _ fun H1 l1 => q H1 l1)
theorem ew_and1 {c : Bool} (h : ET E e δ c) : EWt E (.BoolOp .And [e] pos) δ c := fun B γ σ H er Q q => ww_of (fun X hX => pw_and1 (wt_pt hX)) (h B γ σ H er _ fun H1 l1 => q H1 l1)
theorem ew_or1 {c : Bool} (h : ET E e δ c) : EWt E (.BoolOp .Or [e] pos) δ c := fun B γ σ H er Q q => ww_of (fun X hX => pw_or1 (wt_pt hX)) (h B γ σ H er _ fun H1 l1 => q H1 l1)
theorem ew_and {c d : Bool} (h : ET E a δ c) (k : c = true → EWt E (.BoolOp .And (b :: es) pos) δ d) : EWt E (.BoolOp .And (a :: b :: es) pos) δ (c && d) := fun B γ σ H er Q q => ww_of (fun X hX => pw_and (wt_pt hX) (ww_pw hX)) (h B γ σ H er _ fun H1 l1 => by
  cases c with
  | true => exact (if_pos rfl).mpr (k rfl B γ σ H1 (er.step l1) Q fun H2 l2 => q H2 (l1.trans l2))
  | false => exact (if_neg Bool.false_ne_true).mpr (q H1 l1))
theorem ew_or {c d : Bool} (h : ET E a δ c) (k : c = false → EWt E (.BoolOp .Or (b :: es) pos) δ d) : EWt E (.BoolOp .Or (a :: b :: es) pos) δ (c || d) := fun B γ σ H er Q q => ww_of (fun X hX => pw_or (wt_pt hX) (ww_pw hX)) (h B γ σ H er _ fun H1 l1 => by
  cases c with
  | true => exact (if_pos rfl).mpr (q H1 l1)
  | false => exact (if_neg Bool.false_ne_true).mpr (k rfl B γ σ H1 (er.step l1) Q fun H2 l2 => q H2 (l1.trans l2)))
theorem ev_one {op : BoolOp} (h : EV E e δ r) : EV E (.BoolOp op [e] pos) δ r := fun B γ σ H er Q q => we_of (fun X hX => pe_one (we_pe hX)) (h B γ σ H er Q q)
theorem ev_and {c d : Bool} (h : EV E a δ (.d (.bl c))) (k : c = true → EV E (.BoolOp .And (b :: es) pos) δ (.d (.bl d))) : EV E (.BoolOp .And (a :: b :: es) pos) δ (.d (.bl (c && d))) := fun B γ σ H er Q q => we_of (fun X hX => pe_and (we_pe hX) (we_pe hX)) (h B γ σ H er _ fun v H1 l1 rv => ⟨c, by simpa [RE, Rep] using rv, by
  cases c with
  | true => exact (if_pos rfl).mpr (k rfl B γ σ H1 (er.step l1) Q fun v H2 l2 r2 => q v H2 (l1.trans l2) r2)
  | false => exact (if_neg Bool.false_ne_true).mpr (q _ H1 l1 (by simp [RE, Rep]))⟩)
theorem ev_or {c d : Bool} (h : EV E a δ (.d (.bl c))) (k : c = false → EV E (.BoolOp .Or (b :: es) pos) δ (.d (.bl d))) : EV E (.BoolOp .Or (a :: b :: es) pos) δ (.d (.bl (c || d))) := fun B γ σ H er Q q => we_of (fun X hX => pe_or (we_pe hX) (we_pe hX)) (h B γ σ H er _ fun v H1 l1 rv => ⟨c, by simpa [RE, Rep] using rv, by
  cases c with
  | true => exact (if_pos rfl).mpr (q _ H1 l1 (by simp [RE, Rep]))
  | false => exact (if_neg Bool.false_ne_true).mpr (k rfl B γ σ H1 (er.step l1) Q fun v H2 l2 r2 => q v H2 (l1.trans l2) r2)⟩)
theorem ev_not {c : Bool} (h : EV E e δ (.d (.bl c))) : EV E (.UnaryOp .Not e pos) δ (.d (.bl (!c))) := fun B γ σ H er Q q => we_of (fun X hX => pe_not (we_pe hX)) (h B γ σ H er _ fun v H1 l1 rv => ⟨c, by simpa [RE, Rep] using rv, q _ H1 l1 (by simp [RE, Rep])⟩)
theorem ev_ite {t : Expr} {c : Bool} (h : ET E t δ c) (h1 : c = true → EV E a δ r) (h2 : c = false → EV E b δ r) : EV E (.IfExp t a b pos) δ r := fun B γ σ H er Q q => we_of (fun X hX => pe_ifExp (wt_pt hX) (we_pe hX) (we_pe hX)) (h B γ σ H er _ fun H1 l1 => by
  cases c with
  | true => exact (if_pos rfl).mpr (h1 rfl B γ σ H1 (er.step l1) Q fun v H2 l2 r2 => q v H2 (l1.trans l2) r2)
  | false => exact (if_neg Bool.false_ne_true).mpr (h2 rfl B γ σ H1 (er.step l1) Q fun v H2 l2 r2 => q v H2 (l1.trans l2) r2))
theorem et_cmp {op : CmpOp} {t : R2} {c : Bool} (ho : ∀ X, Fam E X → OpR X (compareOp op) t) (ha : EV E a δ ra) (hb : EV E b δ rb) (hr : RO E t ra rb (.d (.bl c))) (hm : behindInMarks op b = false := by first | exact nomark _ | rfl) : ET E (.Compare a [op] [b] pos) δ c := fun B γ σ H er Q q =>
  wt_of (fun X hX => pt_cmpR (ho X hX) (we_pe hX) (we_pe hX) hm) (ha B γ σ H er _ fun x H1 l1 rx => hb B γ σ H1 (er.step l1) _ fun y H2 l2 ry =>
    hr B x y H2 (((er.step l1).step l2)).dom er.cb (rx.step l2 er.cb) ry _ fun v H3 l3 rv => ⟨c, by simpa [RE, Rep] using rv, q H3 ((l1.trans l2).trans l3)⟩)
theorem ev_chain {op op' : CmpOp} {t t' : R2} {c : Expr} {k k' : Bool} (ho : ∀ X, Fam E X → OpR X (compareOp op) t) (ho' : ∀ X, Fam E X → OpR X (compareOp op') t') (ha : EV E a δ ra) (hb : EV E b δ rb) (hc : EV E c δ rc) (hr : RO E t ra rb (.d (.bl k))) (hr' : RO E t' rb rc (.d (.bl k')))
    (hm : lastMarks [op, op'] [b, c] = false := by with_unfolding_all rfl) : EV E (.Compare a [op, op'] [b, c] pos) δ (.d (.bl (k && k'))) := fun B γ σ H er Q q =>
  we_of (fun X hX => pe_chain (ho X hX) (ho' X hX) (we_pe hX) (we_pe hX) (we_pe hX) hm) (ha B γ σ H er _ fun x H1 l1 rx => hb B γ σ H1 (er.step l1) _ fun y H2 l2 ry =>
    hr B x y H2 (((er.step l1).step l2)).dom er.cb (rx.step l2 er.cb) ry _ fun v H3 l3 rv => ⟨k, by simpa [RE, Rep] using rv, by
      cases k with
      | true => exact (if_pos rfl).mpr (hc B γ σ H3 (((er.step l1).step l2).step l3) _ fun w H4 l4 rw => hr' B y w H4 ((((er.step l1).step l2).step l3).step l4).dom er.cb ((ry.step l3 er.cb).step l4 er.cb) rw _ fun v H5 l5 r5 => q v H5 ((((l1.trans l2).trans l3).trans l4).trans l5) r5)
      | false => exact (if_neg Bool.false_ne_true).mpr (q _ H3 ((l1.trans l2).trans l3) (by simp [RE, Rep]))⟩)
theorem et_chain {op op' : CmpOp} {t t' : R2} {c : Expr} {k k' : Bool} (ho : ∀ X, Fam E X → OpR X (compareOp op) t) (ho' : ∀ X, Fam E X → OpR X (compareOp op') t') (ha : EV E a δ ra) (hb : EV E b δ rb) (hc : EV E c δ rc) (hr : RO E t ra rb (.d (.bl k))) (hr' : RO E t' rb rc (.d (.bl k')))
    (hm : lastMarks [op, op'] [b, c] = false := by with_unfolding_all rfl) : ET E (.Compare a [op, op'] [b, c] pos) δ (k && k') := fun B γ σ H er Q q =>
  wt_of (fun X hX => pt_chain (ho X hX) (ho' X hX) (we_pe hX) (we_pe hX) (we_pe hX) hm) (ha B γ σ H er _ fun x H1 l1 rx => hb B γ σ H1 (er.step l1) _ fun y H2 l2 ry =>
    hr B x y H2 (((er.step l1).step l2)).dom er.cb (rx.step l2 er.cb) ry _ fun v H3 l3 rv => ⟨k, by simpa [RE, Rep] using rv, by
      cases k with
      | true => exact (if_pos rfl).mpr (hc B γ σ H3 (((er.step l1).step l2).step l3) _ fun w H4 l4 rw => hr' B y w H4 ((((er.step l1).step l2).step l3).step l4).dom er.cb ((ry.step l3 er.cb).step l4 er.cb) rw _ fun v H5 l5 r5 => ⟨k', by simpa [RE, Rep] using r5, q H5 ((((l1.trans l2).trans l3).trans l4).trans l5)⟩)
      | false => exact (if_neg Bool.false_ne_true).mpr ⟨false, rfl, q H3 ((l1.trans l2).trans l3)⟩⟩)
end
end Nb
set_option Elab.async false
set_option linter.all false
set_option maxRecDepth 100000
set_option maxHeartbeats 2000000
/-! rules by values -/
namespace Nb
open PySem PySem.Spec PyProof.Rows L2

theorem re_int {E : EC} {B : Addr → Prop} {i : Int} {v : V} {H : Hp} : RE E B (.d (.int i)) v H ↔ v = .int i := by simp [RE, Rep]
theorem re_bl {E : EC} {B : Addr → Prop} {i : Bool} {v : V} {H : Hp} : RE E B (.d (.bl i)) v H ↔ v = .bl i := by simp [RE, Rep]
theorem re_str {E : EC} {B : Addr → Prop} {i : Str} {v : V} {H : Hp} : RE E B (.d (.str i)) v H ↔ v = .str i := by simp [RE, Rep]
theorem re_non {E : EC} {B : Addr → Prop} {v : V} {H : Hp} : RE E B (.d .non) v H ↔ v = .non := by simp [RE, Rep]

section
variable {E : EC} {B : Addr → Prop} {δ : List (Option Ent)} {H H' H2 : Hp} {v : V} {r ra rb rc : Ent} {x : D} {e a b : Expr} {es : List Expr} {pos p : Pos} {P : Ent → Prop}
theorem LeC.new {p : Addr} {o : HO} (h : H p = none) : LeC E H (upd H p o) := Le.new h
/-- a new object told as data -/
theorem re_newT {vs : List V} {l : List D} {p : Addr} (dom : ∀ a, B a → H a ≠ none) (hp : H p = none) (cb : ∀ a, E.C a → B a) (r : Reps E.cl B l vs H) : RE E B (.d (.tup l)) (.ref p) (upd H p (.tup vs)) := by
  simp only [RE, Rep]
  exact ⟨p, vs, rfl, fun q => dom p q hp, upd_same, Reps.kd (LeC.kd (E := E) (LeC.new hp) cb) _ _ r⟩
theorem re_newL {vs : List V} {l : List D} {p : Addr} (dom : ∀ a, B a → H a ≠ none) (hp : H p = none) (cb : ∀ a, E.C a → B a) (r : Reps E.cl B l vs H) : RE E B (.d (.lst l)) (.ref p) (upd H p (.lst vs)) := by
  simp only [RE, Rep]
  exact ⟨p, vs, rfl, fun q => dom p q hp, upd_same, Reps.kd (LeC.kd (E := E) (LeC.new hp) cb) _ _ r⟩
/-- what stands at a list, a tuple -/
theorem wk_lst {l : List D} (h : RE E B (.wk (.lst l)) v H) : ∃ p vs, v = .ref p ∧ ¬ E.C p ∧ H p = some (.lst vs) ∧ Reps E.cl B l vs H := by
  obtain ⟨p, e, h1, vs, h2, h3⟩ := h
  exact ⟨p, vs, e, h1, h2, h3⟩
theorem wk_tup {l : List D} (h : RE E B (.wk (.tup l)) v H) : ∃ p vs, v = .ref p ∧ ¬ E.C p ∧ H p = some (.tup vs) ∧ Reps E.cl B l vs H := by
  obtain ⟨p, e, h1, vs, h2, h3⟩ := h
  exact ⟨p, vs, e, h1, h2, h3⟩
theorem re_tup {l : List D} (h : RE E B (.d (.tup l)) v H) : ∃ p vs, v = .ref p ∧ ¬ B p ∧ H p = some (.tup vs) ∧ Reps E.cl B l vs H := by
  simpa only [RE, Rep] using h
theorem re_lst {l : List D} (h : RE E B (.d (.lst l)) v H) : ∃ p vs, v = .ref p ∧ ¬ B p ∧ H p = some (.lst vs) ∧ Reps E.cl B l vs H := by
  simpa only [RE, Rep] using h
/-- a row of things: list or tuple -/
def seqOf : D → Option (List D)
  | .lst l => some l
  | .tup l => some l
  | _ => none
theorem wk_seq {l : List D} (hx : seqOf x = some l) (h : RE E B (.wk x) v H) : ∃ p vs, v = .ref p ∧ ¬ E.C p ∧ (H p = some (.lst vs) ∨ H p = some (.tup vs)) ∧ Reps E.cl B l vs H := by
  cases x with
  | lst l' => cases hx; obtain ⟨p, vs, e, h1, h2, h3⟩ := wk_lst h; exact ⟨p, vs, e, h1, .inl h2, h3⟩
  | tup l' => cases hx; obtain ⟨p, vs, e, h1, h2, h3⟩ := wk_tup h; exact ⟨p, vs, e, h1, .inr h2, h3⟩
  | _ => cases hx

/-! ints -/
theorem ro_I0 {g : Int → Int → V} {i j : Int} (hg : RE E (fun _ => True) rc (g i j) H ∨ True) (h : ∀ B H, RE E B rc (g i j) H) : RO E (rI0 g) (.d (.int i)) (.d (.int j)) rc := fun B x y H dom cb rx ry Q q => by
  rw [re_int] at rx ry
  exact ⟨i, j, rx, ry, q _ H Le.refl (h B H)⟩
theorem ro_I {C : Int → Int → Prop} {g : Int → Int → V} {i j : Int} (hc : C i j) (h : ∀ B H, RE E B rc (g i j) H) : RO E (rI C g) (.d (.int i)) (.d (.int j)) rc := fun B x y H dom cb rx ry Q q => by
  rw [re_int] at rx ry
  exact ⟨i, j, rx, ry, hc, q _ H Le.refl (h B H)⟩
theorem ro_II {g : Int → Int → Int} {i j : Int} : RO E (rI0 fun i j => .int (g i j)) (.d (.int i)) (.d (.int j)) (.d (.int (g i j))) := ro_I0 (H := fun _ => none) (.inr trivial) fun B H => re_int.mpr rfl
theorem ro_IB {g : Int → Int → Bool} {i j : Int} : RO E (rI0 fun i j => .bl (g i j)) (.d (.int i)) (.d (.int j)) (.d (.bl (g i j))) := ro_I0 (H := fun _ => none) (.inr trivial) fun B H => re_bl.mpr rfl
theorem ev_add {i j : Int} (ha : EV E a δ (.d (.int i))) (hb : EV E b δ (.d (.int j))) : EV E (.BinOp a .Add b pos) δ (.d (.int (i + j))) := ev_op (fun X hX => op_add) ha hb ro_II
theorem ev_sub {i j : Int} (ha : EV E a δ (.d (.int i))) (hb : EV E b δ (.d (.int j))) : EV E (.BinOp a .Sub b pos) δ (.d (.int (i - j))) := ev_op (fun X hX => op_sub) ha hb ro_II
theorem ro_mul {i j : Int} (hc : (-(2 ^ 64) < i ∧ i < 2 ^ 64) ∨ (-(2 ^ 64) < j ∧ j < 2 ^ 64)) : RO E (rI CMul fun i j => .int (i * j)) (.d (.int i)) (.d (.int j)) (.d (.int (i * j))) := ro_I hc fun B H => re_int.mpr rfl
theorem ev_mul {i j : Int} (ha : EV E a δ (.d (.int i))) (hb : EV E b δ (.d (.int j))) (hc : (-(2 ^ 64) < i ∧ i < 2 ^ 64) ∨ (-(2 ^ 64) < j ∧ j < 2 ^ 64)) : EV E (.BinOp a .Mult b pos) δ (.d (.int (i * j))) := ev_op (fun X hX => op_mul) ha hb (ro_mul hc)
theorem ev_mod {i j : Int} (ha : EV E a δ (.d (.int i))) (hb : EV E b δ (.d (.int j))) (hj : 0 < j) : EV E (.BinOp a .Mod b pos) δ (.d (.int (i % j))) := ev_op (fun X hX => op_mod) ha hb (ro_I hj fun B H => re_int.mpr rfl)
theorem ev_fdiv {i j : Int} (ha : EV E a δ (.d (.int i))) (hb : EV E b δ (.d (.int j))) (hj : j ≠ 0 ∧ j.natAbs < 1073741824) : EV E (.BinOp a .FloorDiv b pos) δ (.d (.int (i.fdiv j))) := ev_op (fun X hX => op_fdivN) ha hb (ro_I hj fun B H => re_int.mpr rfl)
theorem ev_pow {i j : Int} (ha : EV E a δ (.d (.int i))) (hb : EV E b δ (.d (.int j))) (hj : CPow i j) : EV E (.BinOp a .Pow b pos) δ (.d (.int (i ^ j.toNat))) := ev_op (fun X hX => op_pow) ha hb (ro_I hj fun B H => re_int.mpr rfl)
theorem ev_shl {i j : Int} (ha : EV E a δ (.d (.int i))) (hb : EV E b δ (.d (.int j))) (hj : CPow i j) : EV E (.BinOp a .LShift b pos) δ (.d (.int (i * 2 ^ j.toNat))) := ev_op (fun X hX => op_shl) ha hb (ro_I hj fun B H => re_int.mpr rfl)
theorem ev_shr {i j : Int} (ha : EV E a δ (.d (.int i))) (hb : EV E b δ (.d (.int j))) (hj : 0 ≤ j) : EV E (.BinOp a .RShift b pos) δ (.d (.int (i / 2 ^ j.toNat))) := ev_op (fun X hX => op_shr) ha hb (ro_I hj fun B H => re_int.mpr rfl)
theorem ev_band {i j : Int} (ha : EV E a δ (.d (.int i))) (hb : EV E b δ (.d (.int j))) : EV E (.BinOp a .BitAnd b pos) δ (.d (.int (Builtin.bitAnd i j))) := ev_op (fun X hX => op_and) ha hb ro_II
theorem ev_lt {i j : Int} (ha : EV E a δ (.d (.int i))) (hb : EV E b δ (.d (.int j))) : EV E (.Compare a [.Lt] [b] pos) δ (.d (.bl (decide (i < j)))) := ev_cmp (fun X hX => op_lt) ha hb ro_IB
theorem ev_gt {i j : Int} (ha : EV E a δ (.d (.int i))) (hb : EV E b δ (.d (.int j))) : EV E (.Compare a [.Gt] [b] pos) δ (.d (.bl (decide (j < i)))) := ev_cmp (fun X hX => op_gt) ha hb ro_IB
theorem ev_ge {i j : Int} (ha : EV E a δ (.d (.int i))) (hb : EV E b δ (.d (.int j))) : EV E (.Compare a [.GtE] [b] pos) δ (.d (.bl (decide (j ≤ i)))) := ev_cmp (fun X hX => op_ge) ha hb ro_IB
theorem et_lt {i j : Int} (ha : EV E a δ (.d (.int i))) (hb : EV E b δ (.d (.int j))) : ET E (.Compare a [.Lt] [b] pos) δ (decide (i < j)) := et_cmp (fun X hX => op_lt) ha hb ro_IB
theorem et_gt {i j : Int} (ha : EV E a δ (.d (.int i))) (hb : EV E b δ (.d (.int j))) : ET E (.Compare a [.Gt] [b] pos) δ (decide (j < i)) := et_cmp (fun X hX => op_gt) ha hb ro_IB
/-- == of plain things -/
def scD : D → D → Bool
  | .int _, .int _ => true
  | .bl _, .bl _ => true
  | .str _, .str _ => true
  | _, _ => false
def eqD : D → D → Bool
  | .int i, .int j => decide (i = j)
  | .bl i, .bl j => decide (i = j)
  | .str i, .str j => decide (i = j)
  | _, _ => false
theorem ro_eq {x y : D} (h : scD x y = true) : RO E rEq (.d x) (.d y) (.d (.bl (eqD x y))) := fun B u v H dom cb rx ry Q q => by
  cases x <;> cases y <;> first
    | (simp only [RE, Rep] at rx ry; subst rx ry; refine ⟨rfl, q _ H Le.refl (re_bl.mpr ?_)⟩; simp [eqD]; done)
    | cases h
theorem ro_ne {x y : D} (h : scD x y = true) : RO E rNe (.d x) (.d y) (.d (.bl (!eqD x y))) := fun B u v H dom cb rx ry Q q => by
  cases x <;> cases y <;> first
    | (simp only [RE, Rep] at rx ry; subst rx ry; refine ⟨rfl, q _ H Le.refl (re_bl.mpr ?_)⟩; simp [eqD]; done)
    | cases h
theorem ev_eq {x y : D} (ha : EV E a δ (.d x)) (hb : EV E b δ (.d y)) (h : scD x y = true := by rfl) : EV E (.Compare a [.Eq] [b] pos) δ (.d (.bl (eqD x y))) := ev_cmp (fun X hX => op_eq) ha hb (ro_eq h)
theorem et_eq {x y : D} (ha : EV E a δ (.d x)) (hb : EV E b δ (.d y)) (h : scD x y = true := by rfl) : ET E (.Compare a [.Eq] [b] pos) δ (eqD x y) := et_cmp (fun X hX => op_eq) ha hb (ro_eq h)
theorem ev_ne {x y : D} (ha : EV E a δ (.d x)) (hb : EV E b δ (.d y)) (h : scD x y = true := by rfl) : EV E (.Compare a [.NotEq] [b] pos) δ (.d (.bl (!eqD x y))) := ev_cmp (fun X hX => op_ne) ha hb (ro_ne h)
theorem et_ne {x y : D} (ha : EV E a δ (.d x)) (hb : EV E b δ (.d y)) (h : scD x y = true := by rfl) : ET E (.Compare a [.NotEq] [b] pos) δ (!eqD x y) := et_cmp (fun X hX => op_ne) ha hb (ro_ne h)
/-- is None -/
def isNon : D → Bool
  | .non => true
  | _ => false
theorem rep_non {cl : Str → Addr} : ∀ {x : D} {v : V}, Rep cl B x v H → (decide (v = .non)) = isNon x := fun {x v} h => by
  cases x <;> simp only [Rep] at h <;> first
    | (subst h; simp [isNon])
    | (obtain ⟨a, vs, e, _⟩ := h; subst e; simp [isNon])
    | (obtain ⟨a, dx, vs, e, _⟩ := h; subst e; simp [isNon])
theorem et_isN {x : D} {j : Nat} {p2 : Pos} (ha : EV E a δ (.d x)) : ET E (.Compare a [.Is] [.Constant .none j p2] pos) δ (isNon x) := et_cmp (fun X hX => op_isN) ha ev_non fun B u v H dom cb rx ry Q q => by
  rw [re_non] at ry
  exact ⟨ry, q _ H Le.refl (re_bl.mpr (by rw [rep_non rx]))⟩
theorem et_notN {x : D} {j : Nat} {p2 : Pos} (ha : EV E a δ (.d x)) : ET E (.Compare a [.IsNot] [.Constant .none j p2] pos) δ (!isNon x) := et_cmp (fun X hX => op_notN) ha ev_non fun B u v H dom cb rx ry Q q => by
  rw [re_non] at ry
  exact ⟨ry, q _ H Le.refl (re_bl.mpr (by rw [rep_non rx]))⟩
theorem ev_isN {x : D} {j : Nat} {p2 : Pos} (ha : EV E a δ (.d x)) : EV E (.Compare a [.Is] [.Constant .none j p2] pos) δ (.d (.bl (isNon x))) := ev_cmp (fun X hX => op_isN) ha ev_non fun B u v H dom cb rx ry Q q => by
  rw [re_non] at ry
  exact ⟨ry, q _ H Le.refl (re_bl.mpr (by rw [rep_non rx]))⟩
/-- is not True, is not False -/
theorem et_notB {c d : Bool} {j : Nat} {p2 : Pos} (ha : EV E a δ (.d (.bl c))) : ET E (.Compare a [.IsNot] [.Constant (.bool d) j p2] pos) δ (!decide (c = d)) := et_cmp (fun X hX => op_notBl) ha ev_bl fun B u v H dom cb rx ry Q q => by
  rw [re_bl] at rx ry
  exact ⟨c, d, rx, ry, q _ H Le.refl (re_bl.mpr rfl)⟩

/-! membership of texts -/
theorem inV_strs (s : Str) (ss : List Str) : inV (.str s) (ss.map V.str) = decide (s ∈ ss) := by
  unfold inV
  induction ss with
  | nil => simp
  | cons t ss ih =>
    rw [List.map_cons, List.any_cons, ih]
    show ((t == s) || _) = _
    by_cases h : t = s
    · subst h; simp
    · have h' : ¬ s = t := fun e => h e.symm
      simp [h, h']
theorem flat_strs (ss : List Str) : (ss.map V.str).all flatV = true := by
  induction ss with
  | nil => rfl
  | cons t ss ih => simpa [flatV] using ih
theorem ro_in {s : Str} {ss : List Str} {x : D} (hx : seqOf x = some (ss.map D.str)) : RO E (rIn E.K false) (.d (.str s)) (.wk x) (.d (.bl (decide (s ∈ ss)))) := fun B u v H dom cb rx ry Q q => by
  rw [re_str] at rx
  obtain ⟨p, vs, e, h1, h2, h3⟩ := wk_seq hx ry
  rw [reps_str] at h3
  subst h3 rx e
  exact ⟨p, _, rfl, h2.imp (fun h => .inl (.inl h)) (fun h => .inl (.inl h)), rfl, flat_strs ss, q _ H Le.refl (re_bl.mpr (by rw [if_neg Bool.false_ne_true, inV_strs]))⟩
theorem ro_ni {s : Str} {ss : List Str} {x : D} (hx : seqOf x = some (ss.map D.str)) : RO E (rIn E.K true) (.d (.str s)) (.wk x) (.d (.bl (!decide (s ∈ ss)))) := fun B u v H dom cb rx ry Q q => by
  rw [re_str] at rx
  obtain ⟨p, vs, e, h1, h2, h3⟩ := wk_seq hx ry
  rw [reps_str] at h3
  subst h3 rx e
  exact ⟨p, _, rfl, h2.imp (fun h => .inl (.inl h)) (fun h => .inl (.inl h)), rfl, flat_strs ss, q _ H Le.refl (re_bl.mpr (by rw [if_pos rfl, inV_strs]))⟩
theorem fam_K {X : Cx} (hX : Fam E X) {f : Value → Value → Sem Value} {r : PySem.W.Frag → R2} (h : OpR X f (r X.K)) : OpR X f (r E.K) := by rw [← hX.K]; exact h
theorem ev_in {s : Str} {ss : List Str} {x : D} (ha : EV E a δ (.d (.str s))) (hb : EV E b δ (.wk x)) (hx : seqOf x = some (ss.map D.str)) (hm : behindInMarks .In b = false := by rfl) : EV E (.Compare a [.In] [b] pos) δ (.d (.bl (decide (s ∈ ss)))) := ev_cmp (fun X hX => fam_K hX (r := fun K => rIn K false) op_in_seq) ha hb (ro_in hx) hm
theorem ev_ni {s : Str} {ss : List Str} {x : D} (ha : EV E a δ (.d (.str s))) (hb : EV E b δ (.wk x)) (hx : seqOf x = some (ss.map D.str)) (hm : behindInMarks .NotIn b = false := by rfl) : EV E (.Compare a [.NotIn] [b] pos) δ (.d (.bl (!decide (s ∈ ss)))) := ev_cmp (fun X hX => fam_K hX (r := fun K => rIn K true) op_notIn_seq) ha hb (ro_ni hx) hm
theorem et_in {s : Str} {ss : List Str} {x : D} (ha : EV E a δ (.d (.str s))) (hb : EV E b δ (.wk x)) (hx : seqOf x = some (ss.map D.str)) (hm : behindInMarks .In b = false := by rfl) : ET E (.Compare a [.In] [b] pos) δ (decide (s ∈ ss)) := et_cmp (fun X hX => fam_K hX (r := fun K => rIn K false) op_in_seq) ha hb (ro_in hx) hm
theorem et_ni {s : Str} {ss : List Str} {x : D} (ha : EV E a δ (.d (.str s))) (hb : EV E b δ (.wk x)) (hx : seqOf x = some (ss.map D.str)) (hm : behindInMarks .NotIn b = false := by rfl) : ET E (.Compare a [.NotIn] [b] pos) δ (!decide (s ∈ ss)) := et_cmp (fun X hX => fam_K hX (r := fun K => rIn K true) op_notIn_seq) ha hb (ro_ni hx) hm

/-! len, tuple, list, any, all -/
theorem REs.one {r : Ent} {vs : List V} (h : REs E B H [r] vs) : ∃ v, vs = [v] ∧ RE E B r v H := by
  cases h with
  | cons h t => cases t; exact ⟨_, rfl, h⟩
theorem REs.two {r s : Ent} {vs : List V} (h : REs E B H [r, s] vs) : ∃ v w, vs = [v, w] ∧ RE E B r v H ∧ RE E B s w H := by
  cases h with
  | cons h t => cases t with
    | cons h2 t => cases t; exact ⟨_, _, rfl, h, h2⟩
theorem ea_1 (h : EV E e δ r) (hs : ∀ env, starEach [e] env = (false, eval e env) :: starEach [] env := by intro _; rfl) : EA E [e] δ [r] := ea_cons h ea_nil hs
theorem fam_Kc {X : Cx} (hX : Fam E X) {f : Value} {r : PySem.W.Frag → List V → Hp → VK → Prop} (h : CallR X f (r X.K)) : CallR X f (r E.K) := by rw [← hX.K]; exact h
abbrev plainTo (pos : Pos) (e : Expr) : Prop := ∀ env, starEach [e] env = (false, eval e env) :: starEach [] env
theorem ev_len {l : List D} {x : D} (ha : EV E e δ (.wk x)) (hx : seqOf x = some l) (hg : GlS E.sc "len") (hm : E.mg "len" = none) (hs : ∀ env, starEach [e] env = (false, eval e env) :: starEach [] env := by intro _; rfl) : EV E (.Call (.Name "len" p) [e] [] pos) δ (.d (.int l.length)) :=
  ev_callB (fun X hX => fam_Kc hX (r := fun K xs H Q => ∃ p ys, xs = [.ref p] ∧ (SqL K H p ys ∨ SqT K H p ys) ∧ Q (.int ys.length) H) call_len_seq) hg hm boot_len (ea_1 ha hs) (fun B vs H dom cb rs Q q => by
    obtain ⟨v, rfl, rv⟩ := rs.one
    obtain ⟨p, ws, rfl, h1, h2, h3⟩ := wk_seq hx rv
    exact ⟨p, ws, rfl, h2.imp (fun h => .inl (.inl h)) (fun h => .inl (.inl h)), q _ H Le.refl (re_int.mpr (by rw [h3.len]))⟩) hs
theorem ev_lenS {s : Str} (ha : EV E e δ (.d (.str s))) (hz : s.length ≤ sizeLine) (hg : GlS E.sc "len") (hm : E.mg "len" = none) (hs : ∀ env, starEach [e] env = (false, eval e env) :: starEach [] env := by intro _; rfl) : EV E (.Call (.Name "len" p) [e] [] pos) δ (.d (.int s.length)) :=
  ev_callB (fun X hX => call_len_str) hg hm boot_len (ea_1 ha hs) (fun B vs H dom cb rs Q q => by
    obtain ⟨v, rfl, rv⟩ := rs.one
    rw [re_str] at rv
    subst rv
    exact ⟨s, rfl, hz, q _ H Le.refl (re_int.mpr rfl)⟩) hs
theorem ev_tupleL {l : List D} (ha : EV E e δ (.wk (.lst l))) (hg : GlS E.sc "tuple") (hm : E.mg "tuple" = none) (hs : ∀ env, starEach [e] env = (false, eval e env) :: starEach [] env := by intro _; rfl) : EV E (.Call (.Name "tuple" p) [e] [] pos) δ (.d (.tup l)) :=
  ev_callTy (fun X hX => fam_Kc hX (r := fun K xs H Q => ∃ p ys, xs = [.ref p] ∧ ((SqL K H p ys ∧ ∀ l, H l = none → Q (.ref l) (upd H l (.tup ys))) ∨ (SqT K H p ys ∧ Q (.ref p) H))) call_tuple_of) hg hm (by decide +kernel) (ea_1 ha hs) (fun B vs H dom cb rs Q q => by
    obtain ⟨v, rfl, rv⟩ := rs.one
    obtain ⟨p, ws, rfl, h1, h2, h3⟩ := wk_lst rv
    exact ⟨p, ws, rfl, .inl ⟨.inl (.inl h2), fun t ht => q _ _ (LeC.new ht) (re_newT dom ht cb h3)⟩⟩) hs
theorem ev_tupleT {l : List D} (ha : EV E e δ (.d (.tup l))) (hg : GlS E.sc "tuple") (hm : E.mg "tuple" = none) (hs : ∀ env, starEach [e] env = (false, eval e env) :: starEach [] env := by intro _; rfl) : EV E (.Call (.Name "tuple" p) [e] [] pos) δ (.d (.tup l)) :=
  ev_callTy (fun X hX => fam_Kc hX (r := fun K xs H Q => ∃ p ys, xs = [.ref p] ∧ ((SqL K H p ys ∧ ∀ l, H l = none → Q (.ref l) (upd H l (.tup ys))) ∨ (SqT K H p ys ∧ Q (.ref p) H))) call_tuple_of) hg hm (by decide +kernel) (ea_1 ha hs) (fun B vs H dom cb rs Q q => by
    obtain ⟨v, rfl, rv⟩ := rs.one
    obtain ⟨p, ws, rfl, h1, h2, h3⟩ := re_tup rv
    exact ⟨p, ws, rfl, .inr ⟨.inl (.inl h2), q _ _ Le.refl rv⟩⟩) hs
theorem ev_list {l : List D} {x : D} (ha : EV E e δ (.wk x)) (hx : seqOf x = some l) (hg : GlS E.sc "list") (hm : E.mg "list" = none) (hs : ∀ env, starEach [e] env = (false, eval e env) :: starEach [] env := by intro _; rfl) : EV E (.Call (.Name "list" p) [e] [] pos) δ (.d (.lst l)) :=
  ev_callTy (fun X hX => fam_Kc hX (r := fun K xs H Q => ∃ p ys, xs = [.ref p] ∧ (SqL K H p ys ∨ SqT K H p ys) ∧ ∀ l, H l = none → Q (.ref l) (upd H l (.lst ys))) call_list_of) hg hm (by decide +kernel) (ea_1 ha hs) (fun B vs H dom cb rs Q q => by
    obtain ⟨v, rfl, rv⟩ := rs.one
    obtain ⟨p, ws, rfl, h1, h2, h3⟩ := wk_seq hx rv
    exact ⟨p, ws, rfl, h2.imp (fun h => .inl (.inl h)) (fun h => .inl (.inl h)), fun t ht => q _ _ (LeC.new ht) (re_newL dom ht cb h3)⟩) hs
theorem ev_any {bs : List Bool} (ha : EV E e δ (.wk (.lst (bs.map D.bl)))) (hg : GlS E.sc "any") (hm : E.mg "any" = none) (hs : ∀ env, starEach [e] env = (false, eval e env) :: starEach [] env := by intro _; rfl) : EV E (.Call (.Name "any" p) [e] [] pos) δ (.d (.bl (bs.any id))) :=
  ev_callB (fun X hX => fam_Kc hX (r := rAny) (cr_any hX.calm)) hg hm (by decide +kernel) (ea_1 ha hs) (fun B vs H dom cb rs Q q => by
    obtain ⟨v, rfl, rv⟩ := rs.one
    obtain ⟨p, ws, rfl, h1, h2, h3⟩ := wk_lst rv
    rw [reps_bl] at h3
    subst h3
    exact ⟨p, bs, rfl, .inl (.inl h2), q _ H Le.refl (re_bl.mpr rfl)⟩) hs
theorem ev_all {bs : List Bool} (ha : EV E e δ (.wk (.lst (bs.map D.bl)))) (hg : GlS E.sc "all") (hm : E.mg "all" = none) (hs : ∀ env, starEach [e] env = (false, eval e env) :: starEach [] env := by intro _; rfl) : EV E (.Call (.Name "all" p) [e] [] pos) δ (.d (.bl (bs.all id))) :=
  ev_callB (fun X hX => fam_Kc hX (r := rAll) (cr_all hX.calm)) hg hm (by decide +kernel) (ea_1 ha hs) (fun B vs H dom cb rs Q q => by
    obtain ⟨v, rfl, rv⟩ := rs.one
    obtain ⟨p, ws, rfl, h1, h2, h3⟩ := wk_lst rv
    rw [reps_bl] at h3
    subst h3
    exact ⟨p, bs, rfl, .inl (.inl h2), q _ H Le.refl (re_bl.mpr rfl)⟩) hs
theorem ev_max2 {i j : Int} (ha : EV E a δ (.d (.int i))) (hb : EV E b δ (.d (.int j))) (hg : GlS E.sc "max") (hm : E.mg "max" = none) (hs : ∀ env, starEach [a, b] env = (false, eval a env) :: starEach [b] env := by intro _; rfl) (hs2 : ∀ env, starEach [b] env = (false, eval b env) :: starEach [] env := by intro _; rfl) (hpl : ∀ env, (backTo pos (starEach [b] env)).any (·.1) = false := by intro _; rfl) :
    EV E (.Call (.Name "max" p) [a, b] [] pos) δ (.d (.int (if j > i then j else i))) :=
  ev_callB (fun X hX => call_max2 hX.calm) hg hm (by decide +kernel) (ea_cons ha (ea_1 hb hs2) hs) (fun B vs H dom cb rs Q q => by
    obtain ⟨v, w, rfl, rv, rw'⟩ := rs.two
    rw [re_int] at rv rw'
    exact ⟨i, j, by rw [rv, rw'], q _ H Le.refl (re_int.mpr rfl)⟩) hs hpl
theorem ev_min2 {i j : Int} (ha : EV E a δ (.d (.int i))) (hb : EV E b δ (.d (.int j))) (hg : GlS E.sc "min") (hm : E.mg "min" = none) (hs : ∀ env, starEach [a, b] env = (false, eval a env) :: starEach [b] env := by intro _; rfl) (hs2 : ∀ env, starEach [b] env = (false, eval b env) :: starEach [] env := by intro _; rfl) (hpl : ∀ env, (backTo pos (starEach [b] env)).any (·.1) = false := by intro _; rfl) :
    EV E (.Call (.Name "min" p) [a, b] [] pos) δ (.d (.int (if j < i then j else i))) :=
  ev_callB (fun X hX => call_min2 hX.calm) hg hm (by decide +kernel) (ea_cons ha (ea_1 hb hs2) hs) (fun B vs H dom cb rs Q q => by
    obtain ⟨v, w, rfl, rv, rw'⟩ := rs.two
    rw [re_int] at rv rw'
    exact ⟨i, j, by rw [rv, rw'], q _ H Le.refl (re_int.mpr rfl)⟩) hs hpl
theorem ev_intB {c : Bool} (ha : EV E e δ (.d (.bl c))) (hg : GlS E.sc "int") (hm : E.mg "int" = none) (hs : ∀ env, starEach [e] env = (false, eval e env) :: starEach [] env := by intro _; rfl) : EV E (.Call (.Name "int" p) [e] [] pos) δ (.d (.int (if c then 1 else 0))) :=
  ev_callTy (fun X hX => call_int1) hg hm (by decide +kernel) (ea_1 ha hs) (fun B vs H dom cb rs Q q => by
    obtain ⟨v, rfl, rv⟩ := rs.one
    rw [re_bl] at rv
    subst rv
    exact .inr ⟨c, rfl, q _ H Le.refl (re_int.mpr rfl)⟩) hs
/-! indexes -/
theorem ro_ixL {l : List D} {i : Int} {y : D} (hy : atI l i = some y) : RO E (rIxL E.K) (.wk (.lst l)) (.d (.int i)) (.d y) := fun B u v H dom cb rx ry Q q => by
  rw [re_int] at ry
  obtain ⟨p, vs, rfl, h1, h2, h3⟩ := wk_lst rx
  unfold atI at hy
  cases hj : ixN l.length i with
  | none => rw [hj] at hy; cases hy
  | some j =>
    rw [hj] at hy
    obtain ⟨w, hw, rw'⟩ := h3.get (show l[j]? = some y from hy)
    exact ⟨p, vs, i, w, rfl, ry, .inl (.inl h2), by unfold atI; rw [← h3.len, hj]; exact hw, q _ H Le.refl rw'⟩
theorem ro_ixT {l : List D} {i : Int} {y : D} (hy : atI l i = some y) : RO E (rIxT E.K) (.wk (.tup l)) (.d (.int i)) (.d y) := fun B u v H dom cb rx ry Q q => by
  rw [re_int] at ry
  obtain ⟨p, vs, rfl, h1, h2, h3⟩ := wk_tup rx
  unfold atI at hy
  cases hj : ixN l.length i with
  | none => rw [hj] at hy; cases hy
  | some j =>
    rw [hj] at hy
    obtain ⟨w, hw, rw'⟩ := h3.get (show l[j]? = some y from hy)
    exact ⟨p, vs, i, w, rfl, ry, .inl (.inl h2), by unfold atI; rw [← h3.len, hj]; exact hw, q _ H Le.refl rw'⟩
theorem ro_ixS {s : Str} {i : Int} {c : Nat} (hz : s.length ≤ sizeLine) (hy : atI s.cps.toList i = some c) : RO E rIxS (.d (.str s)) (.d (.int i)) (.d (.str ⟨#[c]⟩)) := fun B u v H dom cb rx ry Q q => by
  rw [re_int] at ry
  rw [re_str] at rx
  exact ⟨s, i, c, rx, ry, hz, hy, q _ H Le.refl (re_str.mpr rfl)⟩
theorem fam_Ki {X : Cx} (hX : Fam E X) {r : PySem.W.Frag → R2} (h : IxR X (r X.K)) : IxR X (r E.K) := by rw [← hX.K]; exact h
theorem ev_ixL {l : List D} {i : Int} {y : D} (ha : EV E a δ (.wk (.lst l))) (hb : EV E b δ (.d (.int i))) (hy : atI l i = some y) (hs : PlainIx b := by exact fun _ _ => rfl) : EV E (.Subscript a b pos) δ (.d y) := ev_ix (fun X hX => fam_Ki hX (r := rIxL) ix_list) ha hb (ro_ixL hy) hs
theorem ev_ixT {l : List D} {i : Int} {y : D} (ha : EV E a δ (.wk (.tup l))) (hb : EV E b δ (.d (.int i))) (hy : atI l i = some y) (hs : PlainIx b := by exact fun _ _ => rfl) : EV E (.Subscript a b pos) δ (.d y) := ev_ix (fun X hX => fam_Ki hX (r := rIxT) ix_tup) ha hb (ro_ixT hy) hs
theorem ev_ixS {s : Str} {i : Int} {c : Nat} (ha : EV E a δ (.d (.str s))) (hb : EV E b δ (.d (.int i))) (hz : s.length ≤ sizeLine) (hy : atI s.cps.toList i = some c) (hs : PlainIx b := by exact fun _ _ => rfl) : EV E (.Subscript a b pos) δ (.d (.str ⟨#[c]⟩)) := ev_ix (fun X hX => ix_str) ha hb (ro_ixS hz hy) hs
/-! displays -/
theorem re_ds {ds : List D} {vs : List V} (h : REs E B H (ds.map Ent.d) vs) : Reps E.cl B ds vs H := by
  induction ds generalizing vs with
  | nil => cases h; exact .nil
  | cons d ds ih => cases h with
    | cons h t => exact .cons h (ih t)
theorem ev_tup {ds : List D} (ha : EA E es δ (ds.map Ent.d)) (hz : ds.length ≤ 1000) {x1 : Nat} : EV E (.Tuple es x1 pos) δ (.d (.tup ds)) := fun B γ σ H er Q q =>
  we_of (fun X hX => pe_tup (wa_pa hX)) (ha B γ σ H er _ fun vs H1 l1 rs => by
    have r := re_ds rs
    exact ⟨by rw [← r.len]; exact Nat.le_of_lt (small1000 hz), fun p hp => q _ _ (l1.trans (LeC.new hp)) (re_newT (er.step l1).dom hp er.cb r)⟩)
theorem ev_lst {ds : List D} (ha : EA E es δ (ds.map Ent.d)) (hz : ds.length ≤ 1000) : EV E (.List es pos) δ (.d (.lst ds)) := fun B γ σ H er Q q =>
  we_of (fun X hX => pe_lst (wa_pa hX)) (ha B γ σ H er _ fun vs H1 l1 rs => by
    have r := re_ds rs
    exact ⟨by rw [← r.len]; exact Nat.le_of_lt (small1000 hz), fun p hp => q _ _ (l1.trans (LeC.new hp)) (re_newL (er.step l1).dom hp er.cb r)⟩)
/-! sums of rows -/
theorem ev_catL {l m : List D} (ha : EV E a δ (.wk (.lst l))) (hb : EV E b δ (.wk (.lst m))) (hz : l.length + m.length ≤ 1000) : EV E (.BinOp a .Add b pos) δ (.d (.lst (l ++ m))) := ev_op (fun X hX => op_cat) ha hb fun B u v H dom cb rx ry Q q => by
  obtain ⟨p, vs, rfl, h1, h2, h3⟩ := wk_lst rx
  obtain ⟨p', vs', rfl, h1', h2', h3'⟩ := wk_lst ry
  exact ⟨p, p', vs, vs', rfl, rfl, h2, h2', by rw [← h3.len, ← h3'.len]; exact Nat.le_of_lt (small1000 hz), fun t ht => q _ _ (LeC.new ht) (re_newL dom ht cb (h3.append h3'))⟩
theorem ev_catS {s t : Str} (ha : EV E a δ (.d (.str s))) (hb : EV E b δ (.d (.str t))) (hz : s.length + t.length ≤ 1000) : EV E (.BinOp a .Add b pos) δ (.d (.str (s ++ t))) := ev_op (fun X hX => op_add_str) ha hb fun B u v H dom cb rx ry Q q => by
  rw [re_str] at rx ry
  exact ⟨s, t, rx, ry, Nat.le_of_lt (small1000 hz), q _ H Le.refl (re_str.mpr rfl)⟩
/-- a row given out again is a tuple, or a new one -/
theorem ev_catT {l m : List D} (ha : EV E a δ (.d (.tup l))) (hb : EV E b δ (.d (.tup m))) (hz : l.length + m.length ≤ 1000) : EV E (.BinOp a .Add b pos) δ (.d (.tup (l ++ m))) := ev_op (fun X hX => fam_K hX (r := rCatA) op_catA) ha hb fun B u v H dom cb rx ry Q q => by
  obtain ⟨p, vs, rfl, h1, h2, h3⟩ := re_tup rx
  obtain ⟨p', vs', rfl, h1', h2', h3'⟩ := re_tup ry
  refine ⟨p, p', vs, vs', rfl, rfl, .inl (.inl h2), .inl (.inl h2'), by rw [← h3.len, ← h3'.len]; exact Nat.le_of_lt (small1000 hz), fun e => ?_, fun e1 e2 => ?_, fun e1 e2 t ht => q _ _ (LeC.new ht) (re_newT dom ht cb (h3.append h3'))⟩
  · have hl : l = [] := List.eq_nil_of_length_eq_zero (by rw [h3.len, e]; rfl)
    subst hl
    exact q _ _ Le.refl ry
  · have hm : m = [] := List.eq_nil_of_length_eq_zero (by rw [h3'.len, e2]; rfl)
    subst hm
    exact q _ _ Le.refl (by rw [List.append_nil]; exact rx)
/-! [x] * k -/
theorem ev_repL {l : List D} {k : Int} (ha : EV E a δ (.wk (.lst l))) (hb : EV E b δ (.d (.int k))) (hk : 0 ≤ k ∧ k ≤ 1000) (hz : l.length * k.toNat ≤ 1000) : EV E (.BinOp a .Mult b pos) δ (.d (.lst (List.replicate k.toNat l).flatten)) := ev_op (fun X hX => op_rep) ha hb fun B u v H dom cb rx ry Q q => by
  rw [re_int] at ry
  obtain ⟨p, vs, rfl, h1, h2, h3⟩ := wk_lst rx
  refine ⟨p, k, vs, rfl, ry, h2, by omega, by omega, by rw [← h3.len]; exact Nat.le_of_lt (small1000 hz), fun t ht => q _ _ (LeC.new ht) (re_newL dom ht cb ?_)⟩
  have hh : ∀ n : Nat, Reps E.cl B (List.replicate n l).flatten (List.replicate n vs).flatten H := fun n => by
    induction n with
    | zero => exact .nil
    | succ n ih =>
      rw [List.replicate_succ, List.replicate_succ, List.flatten_cons, List.flatten_cons]
      exact h3.append ih
  exact hh _
end
end Nb
set_option Elab.async false
set_option linter.all false
set_option maxRecDepth 100000
set_option maxHeartbeats 2000000
/-! what is walked; targets; comprehensions -/
namespace Nb
open PySem PySem.Spec PyProof.Rows L2

/-- items: what the iterator gives; str: the source stays whatever is not in B -/
def EI (E : EC) (str : Bool) (tg it : Expr) (δ : List (Option Ent)) (items : List D) : Prop :=
  ∀ (B : Addr → Prop) (γ : Gh) (σ : L2.St) (H : Hp), ER E B δ γ σ H → ∀ R : It → Hp → Prop,
    (∀ (J : It) (H2 : Hp) (raw : List (Addr × HO)) (dat : List (D × V)) (G : Hp → Prop) (Y : Nat → Hp → V → Hp → Prop), LeC E H H2 →
      (∀ p ∈ raw, ¬ E.C p.1 ∧ (str = true → ¬ B p.1) ∧ (∀ ps, p.2 ≠ .tbl ps) ∧ H2 p.1 = some p.2) → (∀ q ∈ dat, Rep E.cl B q.1 q.2 H2) → Walk J items.length G Y → (∀ H', (∀ p ∈ raw, H' p.1 = some p.2) → G H') →
      (∀ (i : Nat) (d : D) (B' : Addr → Prop) (H' : Hp) (x : V) (H'' : Hp), items[i]? = some d → (∀ a, B' a → H' a ≠ none) → (∀ a, E.C a → B' a) → (∀ p ∈ raw, H' p.1 = some p.2) → (∀ q ∈ dat, Rep E.cl B' q.1 q.2 H') → Y i H' x H'' → LeC E H' H'' ∧ Rep E.cl B' d x H'') →
      R J H2) → WI (Fam E) tg it σ H R

section
variable {E : EC} {B : Addr → Prop} {δ : List (Option Ent)} {H H' H2 : Hp} {v : V} {r ra rb rc : Ent} {x : D} {e a b : Expr} {es : List Expr} {pos p : Pos} {P : Ent → Prop} {tg it : Expr} {items : List D}
theorem EI.eq {str : Bool} {items' : List D} (h : EI E str tg it δ items) (m : items = items') : EI E str tg it δ items' := m ▸ h
theorem ei_list_aux {str : Bool} {p : Addr} {vs : List V} {l : List D} (cb : ∀ a, E.C a → B a) (hc : ¬ E.C p) (hb : str = true → ¬ B p) (hp : H2 p = some (.lst vs)) (hr : Reps E.cl B l vs H2) {R : It → Hp → Prop}
    (q : ∀ (J : It) (H2 : Hp) (raw : List (Addr × HO)) (dat : List (D × V)) (G : Hp → Prop) (Y : Nat → Hp → V → Hp → Prop), LeC E H H2 →
      (∀ p ∈ raw, ¬ E.C p.1 ∧ (str = true → ¬ B p.1) ∧ (∀ ps, p.2 ≠ .tbl ps) ∧ H2 p.1 = some p.2) → (∀ q ∈ dat, Rep E.cl B q.1 q.2 H2) → Walk J l.length G Y → (∀ H', (∀ p ∈ raw, H' p.1 = some p.2) → G H') →
      (∀ (i : Nat) (d : D) (B' : Addr → Prop) (H' : Hp) (x : V) (H'' : Hp), l[i]? = some d → (∀ a, B' a → H' a ≠ none) → (∀ a, E.C a → B' a) → (∀ p ∈ raw, H' p.1 = some p.2) → (∀ q ∈ dat, Rep E.cl B' q.1 q.2 H') → Y i H' x H'' → LeC E H' H'' ∧ Rep E.cl B' d x H'') →
      R J H2) (l1 : LeC E H H2) : R (Itl E.K p) H2 := by
  refine q _ H2 [(p, .lst vs)] (l.zip vs) (fun H => SqL E.K H p vs) (YAt vs) l1 (fun z hz => ?_) (fun z hz => ?_) (by rw [hr.len]; exact walk_list) (fun H' h => .inl (.inl (h (p, _) List.mem_cons_self))) (fun i d B' H' x H'' hd dom cb' hraw hdat hy => ?_)
  · rw [List.mem_singleton.mp hz]
    exact ⟨hc, hb, (fun ps z => by cases z), hp⟩
  · obtain ⟨i, hi, e⟩ := List.mem_iff_getElem.mp hz
    have h1 : i < l.length := by rw [List.length_zip] at hi; omega
    have h2 : i < vs.length := by rw [List.length_zip] at hi; omega
    obtain ⟨w, hw, rw'⟩ := hr.get (List.getElem?_eq_getElem h1)
    rw [List.getElem?_eq_getElem h2] at hw
    rw [← e, List.getElem_zip]
    rw [Option.some.inj hw]
    exact rw'
  · obtain ⟨rfl, hx⟩ := hy
    refine ⟨Le.refl, hdat (d, x) ?_⟩
    have h1 : i < l.length := (List.getElem?_eq_some_iff.mp hd).1
    have h2 : i < vs.length := (List.getElem?_eq_some_iff.mp hx).1
    have e1 := (List.getElem?_eq_some_iff.mp hd).2
    have e2 := (List.getElem?_eq_some_iff.mp hx).2
    refine List.mem_iff_getElem.mpr ⟨i, by rw [List.length_zip]; omega, ?_⟩
    rw [List.getElem_zip, e1, e2]
theorem ei_tup_aux {str : Bool} {p : Addr} {vs : List V} {l : List D} (cb : ∀ a, E.C a → B a) (hc : ¬ E.C p) (hb : str = true → ¬ B p) (hp : H2 p = some (.tup vs)) (hr : Reps E.cl B l vs H2) {R : It → Hp → Prop}
    (q : ∀ (J : It) (H2 : Hp) (raw : List (Addr × HO)) (dat : List (D × V)) (G : Hp → Prop) (Y : Nat → Hp → V → Hp → Prop), LeC E H H2 →
      (∀ p ∈ raw, ¬ E.C p.1 ∧ (str = true → ¬ B p.1) ∧ (∀ ps, p.2 ≠ .tbl ps) ∧ H2 p.1 = some p.2) → (∀ q ∈ dat, Rep E.cl B q.1 q.2 H2) → Walk J l.length G Y → (∀ H', (∀ p ∈ raw, H' p.1 = some p.2) → G H') →
      (∀ (i : Nat) (d : D) (B' : Addr → Prop) (H' : Hp) (x : V) (H'' : Hp), l[i]? = some d → (∀ a, B' a → H' a ≠ none) → (∀ a, E.C a → B' a) → (∀ p ∈ raw, H' p.1 = some p.2) → (∀ q ∈ dat, Rep E.cl B' q.1 q.2 H') → Y i H' x H'' → LeC E H' H'' ∧ Rep E.cl B' d x H'') →
      R J H2) (l1 : LeC E H H2) : R (Itt E.K p) H2 := by
  refine q _ H2 [(p, .tup vs)] (l.zip vs) (fun H => SqT E.K H p vs) (YAt vs) l1 (fun z hz => ?_) (fun z hz => ?_) (by rw [hr.len]; exact walk_tup) (fun H' h => .inl (.inl (h (p, _) List.mem_cons_self))) (fun i d B' H' x H'' hd dom cb' hraw hdat hy => ?_)
  · rw [List.mem_singleton.mp hz]
    exact ⟨hc, hb, (fun ps z => by cases z), hp⟩
  · obtain ⟨i, hi, e⟩ := List.mem_iff_getElem.mp hz
    have h1 : i < l.length := by rw [List.length_zip] at hi; omega
    have h2 : i < vs.length := by rw [List.length_zip] at hi; omega
    obtain ⟨w, hw, rw'⟩ := hr.get (List.getElem?_eq_getElem h1)
    rw [List.getElem?_eq_getElem h2] at hw
    rw [← e, List.getElem_zip]
    rw [Option.some.inj hw]
    exact rw'
  · obtain ⟨rfl, hx⟩ := hy
    refine ⟨Le.refl, hdat (d, x) ?_⟩
    have h1 : i < l.length := (List.getElem?_eq_some_iff.mp hd).1
    have h2 : i < vs.length := (List.getElem?_eq_some_iff.mp hx).1
    have e1 := (List.getElem?_eq_some_iff.mp hd).2
    have e2 := (List.getElem?_eq_some_iff.mp hx).2
    refine List.mem_iff_getElem.mpr ⟨i, by rw [List.length_zip]; omega, ?_⟩
    rw [List.getElem_zip, e1, e2]
theorem fam_Kw {X : Cx} (hX : Fam E X) {r : PySem.W.Frag → TI} (h : PI X tg it (r X.K)) : PI X tg it (r E.K) := by rw [← hX.K]; exact h
theorem ei_list {l : List D} (h : EV E it δ (.d (.lst l))) : EI E true tg it δ l := fun B γ σ H er R q =>
  wi_of (fun X hX => fam_Kw hX (r := fun K => iList K (WE (Fam E) it)) (pi_list (we_pe hX))) (h B γ σ H er _ fun v H2 l1 rv => by
    obtain ⟨p, vs, rfl, hb, hp, hr⟩ := re_lst rv
    exact ⟨p, rfl, ⟨vs, .inl (.inl hp)⟩, ei_list_aux er.cb (fun z => hb (er.cb _ z)) (fun _ => hb) hp hr q l1⟩)
theorem ei_listw {l : List D} (h : EV E it δ (.wk (.lst l))) : EI E false tg it δ l := fun B γ σ H er R q =>
  wi_of (fun X hX => fam_Kw hX (r := fun K => iList K (WE (Fam E) it)) (pi_list (we_pe hX))) (h B γ σ H er _ fun v H2 l1 rv => by
    obtain ⟨p, vs, rfl, hb, hp, hr⟩ := wk_lst rv
    exact ⟨p, rfl, ⟨vs, .inl (.inl hp)⟩, ei_list_aux er.cb hb (fun z => by cases z) hp hr q l1⟩)
theorem ei_tup {l : List D} (h : EV E it δ (.d (.tup l))) : EI E true tg it δ l := fun B γ σ H er R q =>
  wi_of (fun X hX => fam_Kw hX (r := fun K => iTup K (WE (Fam E) it)) (pi_tup (we_pe hX))) (h B γ σ H er _ fun v H2 l1 rv => by
    obtain ⟨p, vs, rfl, hb, hp, hr⟩ := re_tup rv
    exact ⟨p, rfl, ⟨vs, .inl (.inl hp)⟩, ei_tup_aux er.cb (fun z => hb (er.cb _ z)) (fun _ => hb) hp hr q l1⟩)
theorem EI.weak (h : EI E true tg it δ items) : EI E false tg it δ items := fun B γ σ H er R q => h B γ σ H er R fun J H2 raw dat G Y l1 hr hd w hg hy => q J H2 raw dat G Y l1 (fun p hp => ⟨(hr p hp).1, (fun z => by cases z), (hr p hp).2.2⟩) hd w hg hy
/-- range(n), range(lo, hi) -/
def rngD (lo : Int) (n : Nat) : List D := (List.range n).map fun i => .int (lo + (i : Nat))
theorem ei_range_aux {lo : Int} {n : Nat} {str : Bool} {R : It → Hp → Prop}
    (q : ∀ (J : It) (H2 : Hp) (raw : List (Addr × HO)) (dat : List (D × V)) (G : Hp → Prop) (Y : Nat → Hp → V → Hp → Prop), LeC E H H2 →
      (∀ p ∈ raw, ¬ E.C p.1 ∧ (str = true → ¬ B p.1) ∧ (∀ ps, p.2 ≠ .tbl ps) ∧ H2 p.1 = some p.2) → (∀ q ∈ dat, Rep E.cl B q.1 q.2 H2) → Walk J (rngD lo n).length G Y → (∀ H', (∀ p ∈ raw, H' p.1 = some p.2) → G H') →
      (∀ (i : Nat) (d : D) (B' : Addr → Prop) (H' : Hp) (x : V) (H'' : Hp), (rngD lo n)[i]? = some d → (∀ a, B' a → H' a ≠ none) → (∀ a, E.C a → B' a) → (∀ p ∈ raw, H' p.1 = some p.2) → (∀ q ∈ dat, Rep E.cl B' q.1 q.2 H') → Y i H' x H'' → LeC E H' H'' ∧ Rep E.cl B' d x H'') →
      R J H2) (l1 : LeC E H H2) : R (Itr lo n) H2 := by
  have hl : (rngD lo n).length = n := by simp [rngD]
  refine q _ H2 [] [] (fun _ => True) (YFn fun i => .int (lo + i)) l1 (fun z hz => by cases hz) (fun z hz => by cases hz) (by rw [hl]; exact walk_range) (fun H' h => trivial) (fun i d B' H' x H'' hd dom cb' hraw hdat hy => ?_)
  obtain ⟨rfl, rfl⟩ := hy
  unfold rngD at hd
  rw [List.getElem?_map] at hd
  have hi : i < n := by
    have := (List.getElem?_eq_some_iff.mp (show ((List.range n).map fun i => D.int (lo + (i : Nat)))[i]? = some d by rw [List.getElem?_map]; exact hd)).1
    simpa using this
  rw [List.getElem?_range hi] at hd
  cases hd
  exact ⟨Le.refl, by simp [Rep]⟩
theorem ei_range1 {n : Int} (h : EV E e δ (.d (.int n))) (hn : n ≤ 100000 ∧ -100000 ≤ n) (hg : GlS E.sc "range") (hm : E.mg "range" = none) (hs : ∀ env, starEach [e] env = (false, eval e env) :: starEach [] env := by intro _; rfl) : EI E true tg (.Call (.Name "range" p) [e] [] pos) δ (rngD 0 n.toNat) := fun B γ σ H er R q =>
  wi_of (fun X hX => pi_range1 (gl_of hX hg) (by rw [hX.mg]; exact hm) (wa_pa hX) (hs _)) (ea_1 h hs B γ σ H er _ fun vs H2 l1 rs => by
    obtain ⟨v, rfl, rv⟩ := rs.one
    rw [re_int] at rv
    exact ⟨n, by rw [rv], by omega, by omega, ei_range_aux q l1⟩)
theorem ei_range2 {n m : Int} (h : EV E a δ (.d (.int m))) (h' : EV E b δ (.d (.int n))) (hn : n ≤ 100000 ∧ -100000 ≤ n ∧ m ≤ 100000 ∧ -100000 ≤ m) (hg : GlS E.sc "range") (hm : E.mg "range" = none) (hs : ∀ env, starEach [a, b] env = (false, eval a env) :: starEach [b] env := by intro _; rfl) (hs2 : ∀ env, starEach [b] env = (false, eval b env) :: starEach [] env := by intro _; rfl) :
    EI E true tg (.Call (.Name "range" p) [a, b] [] pos) δ (rngD m (n - m).toNat) := fun B γ σ H er R q =>
  wi_of (fun X hX => pi_range2 (gl_of hX hg) (by rw [hX.mg]; exact hm) (wa_pa hX) (by rw [hs, hs2]; rfl) (by rw [hs2]; rfl)) (ea_cons h (ea_1 h' hs2) hs B γ σ H er _ fun vs H2 l1 rs => by
    obtain ⟨v, w, rfl, rv, rw'⟩ := rs.two
    rw [re_int] at rv rw'
    exact ⟨m, n, by rw [rv, rw'], by omega, ei_range_aux q l1⟩)
/-- a text, sign by sign -/
def signs (s : Str) : List D := s.cps.toList.map fun c => .str ⟨#[c]⟩
theorem ei_str {s : Str} (h : EV E it δ (.d (.str s))) : EI E true tg it δ (signs s) := fun B γ σ H er R q =>
  wi_of (fun X hX => pi_str (we_pe hX)) (h B γ σ H er _ fun v H2 l1 rv => by
    rw [re_str] at rv
    refine ⟨s, rv, ?_⟩
    have hl : (signs s).length = s.cps.size := by simp [signs]
    refine q _ H2 [] [] (fun _ => True) _ l1 (fun z hz => by cases hz) (fun z hz => by cases hz) (by rw [hl]; exact walk_str) (fun H' h => trivial) (fun i d B' H' x H'' hd dom cb' hraw hdat hy => ?_)
    obtain ⟨rfl, c, hc, rfl⟩ := hy
    unfold signs at hd
    rw [List.getElem?_map, Array.getElem?_toList, hc] at hd
    cases hd
    exact ⟨Le.refl, by simp [Rep]⟩)

/-! targets -/
def setAll (δ : List (Option Ent)) : List (Nat × Ent) → List (Option Ent)
  | [] => δ
  | (j, r) :: l => setAll (δ.set j (some r)) l
def EG (E : EC) (tg : Expr) (r : Ent) (l : List (Nat × Ent)) : Prop := ∀ (B : Addr → Prop) (δ : List (Option Ent)) (γ : Gh) (σ : L2.St) (H : Hp) (v : V), ER E B δ γ σ H → RE E B r v H → ∀ Q : L2.St → Hp → Prop,
  (∀ σ2 H2, LeC E H H2 → ER E B (setAll δ l) γ σ2 H2 → (∀ j, (∀ q ∈ l, q.1 ≠ j) → σ2[j]? = σ[j]?) → σ2.length = σ.length → Q σ2 H2) → WG (Fam E) tg v σ H Q
def EGs (E : EC) (tgs : List Expr) (rs : List D) (l : List (Nat × Ent)) : Prop := ∀ X, Fam E X → ∃ t : TGs, PGs X tgs t ∧ ∀ (B : Addr → Prop) (δ : List (Option Ent)) (γ : Gh) (σ : L2.St) (H : Hp) (vs : List V), ER E B δ γ σ H → Reps E.cl B rs vs H → ∀ Q : L2.St → Hp → Prop,
  (∀ σ2 H2, LeC E H H2 → ER E B (setAll δ l) γ σ2 H2 → (∀ j, (∀ q ∈ l, q.1 ≠ j) → σ2[j]? = σ[j]?) → σ2.length = σ.length → Q σ2 H2) → t vs σ H Q
def WGs (F : Fm) (es : List Expr) : TGs := fun v σ H Q => ∃ (t : TGs) (Q0 : L2.St → Hp → Prop), (∀ X, F X → PGs X es t) ∧ t v σ H Q0 ∧ ∀ v H', Q0 v H' → Q v H'
theorem wgs_pgs {F : Fm} {X : Cx} (hX : F X) : PGs X es (WGs F es) := ⟨fun pins s σ H v u Q I r h => by
  obtain ⟨t, Q0, h1, h2, h3⟩ := h
  exact thn ((h1 X hX).run pins s σ H v u Q0 I r h2) fun _ s' ⟨σ', H', I', q⟩ => ⟨σ', H', I', h3 _ _ q⟩⟩
theorem wgs_of {F : Fm} {σ : L2.St} {t : TGs} {vs : List V} {Q : L2.St → Hp → Prop} (h : ∀ X, F X → PGs X es t) (q : t vs σ H Q) : WGs F es vs σ H Q := ⟨t, Q, h, q, fun _ _ x => x⟩
/-- several targets -/
def EGL (E : EC) (tgs : List Expr) (rs : List D) (l : List (Nat × Ent)) : Prop := ∀ (B : Addr → Prop) (δ : List (Option Ent)) (γ : Gh) (σ : L2.St) (H : Hp) (vs : List V), ER E B δ γ σ H → Reps E.cl B rs vs H → ∀ Q : L2.St → Hp → Prop,
  (∀ σ2 H2, LeC E H H2 → ER E B (setAll δ l) γ σ2 H2 → (∀ j, (∀ q ∈ l, q.1 ≠ j) → σ2[j]? = σ[j]?) → σ2.length = σ.length → Q σ2 H2) → WGs (Fam E) tgs vs σ H Q
theorem eg_name (i : Nat) {y : Str} (hi : E.N[i]? = some y) (hx : Loc E.sc y) (hf : E.fn y = true ∨ E.sc.names.lookup y = some .local := by first | exact .inl rfl | exact .inr rfl) : EG E (.Name y pos) r [(i, r)] := fun B δ γ σ H v er rv Q q =>
  wg_of (t := gName i) (fun X hX => pg_name hX.nd (by rw [hX.N]; exact hi) (by rw [hX.sc]; exact hx) (by rw [hX.fn, hX.sc]; exact hf)) (q _ H Le.refl (er.set i rv) (fun j hj => by
    have : i ≠ j := hj (i, r) (by simp)
    rw [List.getElem?_set_ne this]) (by simp))
theorem setAll_append {l m : List (Nat × Ent)} : ∀ {δ : List (Option Ent)}, setAll δ (l ++ m) = setAll (setAll δ l) m := by
  induction l with
  | nil => intro δ; rfl
  | cons q l ih => intro δ; obtain ⟨j, r⟩ := q; exact ih
theorem egl_nil : EGL E [] [] [] := fun B δ γ σ H vs er rs Q q => wgs_of (fun X hX => pgs_nil) ⟨reps_nil.mp rs, q σ H Le.refl er (fun _ _ => rfl) rfl⟩
theorem egl_cons {d : D} {ds : List D} {l m : List (Nat × Ent)} (h : EG E e (.d d) l) (hs : EGL E es ds m) (ha : ∀ env, (assignEach (e :: es) env).map (·.2) = assign e env :: (assignEach es env).map (·.2) := by intro _; rfl) : EGL E (e :: es) (d :: ds) (l ++ m) := fun B δ γ σ H vs er rs Q q => by
  obtain ⟨v, vs', rfl, rv, rs'⟩ := reps_cons.mp rs
  refine wgs_of (fun X hX => pgs_cons (wg_pg hX) (wgs_pgs hX) (ha _)) ⟨v, vs', rfl, h B δ γ σ H v er rv _ fun σ2 H2 l1 er2 hk hlen => ?_⟩
  refine hs B _ γ σ2 H2 vs' er2 (Reps.kd (LeC.kd l1 er.cb) _ _ rs') Q fun σ3 H3 l2 er3 hk2 hlen2 => ?_
  refine q σ3 H3 (l1.trans l2) (by rw [setAll_append]; exact er3) (fun j hj => ?_) (hlen2.trans hlen)
  rw [hk2 j fun z hz => hj z (List.mem_append_right _ hz), hk j fun z hz => hj z (List.mem_append_left _ hz)]
theorem eg_tup {ds : List D} {l : List (Nat × Ent)} {k : Nat} (h : EGL E es ds l) (hn : ∀ env, (assignEach es env).length = ds.length := by intro _; rfl) (hst : ∀ env, (assignEach es env).findIdx? (·.1) = none := by intro _; rfl) : EG E (.Tuple es k pos) (.d (.tup ds)) l := fun B δ γ σ H v er rv Q q => by
  obtain ⟨p, vs, rfl, hb, hp, hr⟩ := re_tup rv
  refine wg_of (t := gTup E.K ds.length (WGs (Fam E) es)) (fun X hX => by rw [← hX.K]; exact pg_tup hX.calm (wgs_pgs hX) (hn _) (hst _)) ⟨p, vs, rfl, .inl (.inl hp), hr.len.symm, h B δ γ σ H vs er hr Q q⟩
end

/-! comprehensions -/
/-- the block's context -/
def EC.blk (E : EC) (scope : Scope) : EC := { E with sc := relS scope E.sc, fn := fun x => scope.names.lookup x == some .cell, lam := none }
theorem relS_eq {scope : Scope} {env : Env} {C : Addr} {cl : List (Str × Addr)} : (compEnvC scope cl C env).scope = relS scope env.scope := rfl
theorem fam_blk {E : EC} {X : Cx} (hX : Fam E X) (scope : Scope) (s : Shared) (H : Hp) (C : Addr) (cl : List (Str × Addr)) (fp : List Addr) : Fam (E.blk scope) (X.blk s H scope (compEnvC scope cl C X.env) fp) :=
  ⟨hX.prog, hX.w, hX.K, hX.mg, hX.base, hX.N, hX.nd, hX.calm, hX.room, by rw [show (X.blk s H scope (compEnvC scope cl C X.env) fp).env.scope = relS scope X.env.scope from relS_eq, hX.sc]; rfl, rfl, rfl, fun z h => by cases h⟩
theorem ER.blk {E : EC} {scope : Scope} {B : Addr → Prop} {δ : List (Option Ent)} {γ : Gh} {σ : L2.St} {H : Hp} (h : ER E B δ γ σ H) : ER (E.blk scope) B δ γ σ H :=
  ⟨h.le, h.dom, h.sub, h.cb, h.cw, h.tabs, fun i r e => h.at_ i r e, h.len, h.gr, h.gd⟩
theorem ER.unblk {E : EC} {scope : Scope} {B : Addr → Prop} {δ : List (Option Ent)} {γ : Gh} {σ : L2.St} {H : Hp} (h : ER (E.blk scope) B δ γ σ H) : ER E B δ γ σ H :=
  ⟨h.le, h.dom, h.sub, h.cb, h.cw, h.tabs, fun i r e => h.at_ i r e, h.len, h.gr, h.gd⟩
def wipeD (δ : List (Option Ent)) : List Nat → List (Option Ent)
  | [] => δ
  | v :: vs => (wipeD δ vs).set v none
theorem ER.wipe {E : EC} {B : Addr → Prop} {δ : List (Option Ent)} {γ : Gh} {σ : L2.St} {H : Hp} (h : ER E B δ γ σ H) : ∀ vs : List Nat, ER E B (wipeD δ vs) γ (L2.wipe σ vs) H
  | [] => h
  | v :: vs => by
    have ih := ER.wipe h vs
    show ER E B ((wipeD δ vs).set v none) γ ((L2.wipe σ vs).set v none) H
    refine ⟨ih.le, ih.dom, ih.sub, ih.cb, ih.cw, ih.tabs, fun j r' e => ?_, by simpa using ih.len, ih.gr, ih.gd⟩
    by_cases hj : v = j
    · subst hj
      by_cases hi : v < (wipeD δ vs).length
      · rw [List.getElem?_set_self hi] at e
        cases e
      · rw [List.getElem?_eq_none (by simpa using hi)] at e
        cases e
    · rw [List.getElem?_set_ne hj] at e
      rw [List.getElem?_set_ne hj]
      exact ih.at_ j r' e
/-- B may be made larger by a new object -/
theorem ER.grow {E : EC} {B : Addr → Prop} {δ : List (Option Ent)} {γ : Gh} {σ : L2.St} {H H2 : Hp} (h : ER E B δ γ σ H) {p : Addr} (hp : H p = none) (l : LeC E H H2) (hp2 : H2 p ≠ none) : ER E (fun a => B a ∨ a = p) δ γ σ H2 := by
  have k : Kd (fun a => B a ∨ a = p) B H H2 := Le.kd l h.cb fun a ha hn => ha.elim (fun z => z) fun z => absurd hp (by rw [← z]; exact hn)
  have h2 := h.step l
  refine ⟨h2.le, fun a ha => ha.elim (h2.dom a) fun z => by rw [z]; exact hp2, fun a ha => .inl (h2.sub a ha), fun a ha => .inl (h2.cb a ha), h2.cw, h2.tabs, fun i r e => ?_, h2.len, fun z hz => ?_, fun q hq => Rep.kd k _ _ (h.gd q hq)⟩
  · obtain ⟨v, h1, h3⟩ := h.at_ i r e
    exact ⟨v, h1, h3.imp k (fun p u hc q hu => l.keep p u hc q hu) (fun p hc => l.box p hc) fun a => .inl⟩
  · obtain ⟨h1, h3, h4, h5⟩ := h2.gr z hz
    refine ⟨h1, fun q => q.elim h3 fun e => ?_, h4, h5⟩
    have := (h.gr z hz).2.2.2
    rw [e, hp] at this
    cases this
theorem ER.shrink {E : EC} {B B' : Addr → Prop} {δ : List (Option Ent)} {γ : Gh} {σ : L2.St} {H : Hp} (h : ER E B δ γ σ H) (hb : ∀ a, B' a → B a) (hs : ∀ a, E.B0 a → B' a) (hc : ∀ a, E.C a → B' a) (hi : ∀ (i : Nat) (r : Ent), δ[i]? = some (some r) → (∀ p c fs l, r ≠ Ent.ins p c fs l)) : ER E B' δ γ σ H := by
  have k : Kd B' B H H := ⟨fun a _ nb z => nb (hb a z), fun a u _ _ r => r, fun a u _ _ r => r⟩
  refine ⟨h.le, fun a ha => h.dom a (hb a ha), hs, hc, h.cw, h.tabs, fun i r e => ?_, h.len, fun z hz => ?_, fun q hq => Rep.kd k _ _ (h.gd q hq)⟩
  · obtain ⟨v, h1, h3⟩ := h.at_ i r e
    refine ⟨v, h1, ?_⟩
    cases r with
    | d x => exact Rep.kd k _ _ h3
    | own p x => obtain ⟨e, h1, h2, h4, h5⟩ := h3; exact ⟨e, h1, h2, h4, h5.imp k fun u z _ => z⟩
    | box p => exact h3
    | scr ns => exact h3
    | ins p c fs l => exact absurd rfl (hi _ _ e p c fs l)
    | wk x => obtain ⟨p, e, h1, h2⟩ := h3; exact ⟨p, e, h1, h2.imp k (fun u z _ => z) fun u z _ => z⟩
    | ty u => exact h3
    | lk p ks l => obtain ⟨e, h1, od, vs, h2, h4, h5⟩ := h3; exact ⟨e, h1, od, vs, h2, h4, Reps.kd k _ _ h5⟩
  · obtain ⟨h1, h3, h4, h5⟩ := h.gr z hz
    exact ⟨h1, fun q => h3 (hb _ q), h4, h5⟩

/-- tests of a clause -/
def ETs (E : EC) (es : List Expr) (δ : List (Option Ent)) (b : Bool) : Prop := ∀ (B : Addr → Prop) (γ : Gh) (σ : L2.St) (H : Hp), ER E B δ γ σ H → ∀ Q : Bool → Hp → Prop, (∀ H2, LeC E H H2 → Q b H2) → WTs (Fam E) es σ H Q
theorem ets_nil {E : EC} {δ : List (Option Ent)} : ETs E [] δ true := fun B γ σ H er Q q => wts_of (fun X hX => pts_nil) (q H Le.refl)
theorem ets_one {E : EC} {δ : List (Option Ent)} {c : Expr} {b : Bool} (h : ET E c δ b) : ETs E [c] δ b := fun B γ σ H er Q q => wts_of (fun X hX => pts_one (wt_pt hX)) (h B γ σ H er Q q)

/-- the list that a comprehension makes: P tells of the values of an item's element -/
inductive Made {τ : Type} (P : τ → D → Prop) (t : τ → Bool) : List τ → List D → Prop
  | nil : Made P t [] []
  | yes {d : τ} {y : D} {l : List τ} {m : List D} : t d = true → P d y → Made P t l m → Made P t (d :: l) (y :: m)
  | no {d : τ} {l : List τ} {m : List D} : t d = false → Made P t l m → Made P t (d :: l) m
section
variable {τ : Type} {P : τ → D → Prop} {t : τ → Bool}
theorem Made.snoc_yes {d : τ} {y : D} : ∀ {l : List τ} {m : List D}, Made P t l m → t d = true → P d y → Made P t (l ++ [d]) (m ++ [y])
  | _, _, .nil, h, k => .yes h k .nil
  | _, _, .yes h1 h2 h3, h, k => .yes h1 h2 (Made.snoc_yes h3 h k)
  | _, _, .no h1 h2, h, k => .no h1 (Made.snoc_yes h2 h k)
theorem Made.snoc_no {d : τ} : ∀ {l : List τ} {m : List D}, Made P t l m → t d = false → Made P t (l ++ [d]) m
  | _, _, .nil, h => .no h .nil
  | _, _, .yes h1 h2 h3, h => .yes h1 h2 (Made.snoc_no h3 h)
  | _, _, .no h1 h2, h => .no h1 (Made.snoc_no h2 h)
theorem Made.len : ∀ {l : List τ} {m : List D}, Made P t l m → m.length ≤ l.length
  | _, _, .nil => Nat.le_refl _
  | _, _, .yes _ _ h => Nat.succ_le_succ (Made.len h)
  | _, _, .no _ h => Nat.le_succ_of_le (Made.len h)
theorem Made.fn {f : τ → D} : ∀ {l : List τ} {m : List D}, Made (fun d y => y = f d) t l m → m = (l.filter t).map f
  | _, _, .nil => rfl
  | _, _, .yes h1 h2 h3 => by rw [List.filter_cons, if_pos h1, List.map_cons, h2, Made.fn h3]
  | _, _, .no h1 h2 => by rw [List.filter_cons, if_neg (by rw [h1]; exact Bool.false_ne_true), Made.fn h2]
end
theorem wipe_wipe {σ : L2.St} : ∀ {vs : List Nat} {σ2 : L2.St}, (∀ j, j ∉ vs → σ2[j]? = σ[j]?) → σ2.length = σ.length → L2.wipe σ2 vs = L2.wipe σ vs := by
  intro vs σ2 h hl
  apply List.ext_getElem?
  intro j
  have key : ∀ (τ : L2.St) (vs : List Nat), (L2.wipe τ vs)[j]? = if j ∈ vs ∧ j < τ.length then some none else τ[j]? := by
    intro τ vs
    induction vs with
    | nil => simp [L2.wipe]
    | cons v vs ih =>
      show ((L2.wipe τ vs).set v none)[j]? = _
      rw [List.getElem?_set]
      by_cases hv : v = j
      · subst hv
        rw [L2.wipe_length]
        by_cases hlt : v < τ.length
        · simp [hlt]
        · simp [hlt, List.getElem?_eq_none (Nat.le_of_not_lt hlt)]
      · rw [if_neg hv, ih]
        have : (j ∈ v :: vs) ↔ j ∈ vs := by simp [Ne.symm hv, show ¬ j = v from fun e => hv e.symm]
        simp only [this]
  rw [key, key, hl]
  by_cases hj : j ∈ vs ∧ j < σ.length
  · rw [if_pos hj, if_pos hj]
  · rw [if_neg hj, if_neg hj]
    by_cases h1 : j ∈ vs
    · have h2 : ¬ j < σ.length := fun z => hj ⟨h1, z⟩
      rw [List.getElem?_eq_none (Nat.le_of_not_lt h2), List.getElem?_eq_none (by rw [hl]; exact Nat.le_of_not_lt h2)]
    · exact h j h1

section
variable {E : EC} {δ : List (Option Ent)} {tg it elt : Expr} {ifs : List Expr} {scope : Scope} {own : List (Str × Nat)} {τ : Type} {xs : List τ} {c : τ → D} {pos : Pos}
/-- the reading of a comprehension, shared by its forms -/
theorem lc_read {td : τ → List (Nat × Ent)} {t : τ → Bool} {Pf : τ → D → Prop} (hi : EI E false tg it δ (xs.map c)) (hz : xs.length ≤ 1000)
    (hg : ∀ d ∈ xs, EG (E.blk scope) tg (.d (c d)) (td d)) (hown : ∀ d ∈ xs, ∀ q ∈ td d, q.1 ∈ own.map (·.2))
    (ht : ∀ d ∈ xs, ETs (E.blk scope) ifs (setAll (wipeD δ (own.map (·.2))) (td d)) (t d))
    (he : ∀ d ∈ xs, t d = true → EVP (E.blk scope) elt (setAll (wipeD δ (own.map (·.2))) (td d)) (fun r => ∃ y, r = .d y ∧ Pf d y))
    {B : Addr → Prop} {γ : Gh} {σ : L2.St} {H : Hp} (er : ER E B δ γ σ H) {Q : VK} (q : ∀ p m vs H2, H p = none → LeC E H H2 → Made Pf t xs m → H2 p = some (.lst vs) → Reps E.cl (fun a => B a ∨ a = p) m vs H2 → Q (.ref p) H2) :
    tLc (WI (Fam E) tg it) (WG (Fam (E.blk scope)) tg) (WTs (Fam (E.blk scope)) ifs) (WE (Fam (E.blk scope)) elt) (own.map (·.2)) σ H Q := by
  refine hi B γ σ H er _ fun J H2 raw dat G Y l1 hraw hdat w hG hY D hD => ?_
  have er1 := er.step l1
  have key : ∀ H', LeC E H2 H' → H' D ≠ none → ER E (fun a => B a ∨ a = D) δ γ σ H' := fun H' l hn => er1.grow hD l hn
  have hrawD : ∀ p ∈ raw, p.1 ≠ D := fun p hp z => by
    have := (hraw p hp).2.2.2
    rw [z, hD] at this
    cases this
  refine lc_it w (fun i H' => LeC E H2 H' ∧ ∃ m vs, Made Pf t (xs.take i) m ∧ H' D = some (.lst vs) ∧ Reps E.cl (fun a => B a ∨ a = D) m vs H') ⟨LeC.new hD, [], [], .nil, upd_same, .nil⟩
    (fun i H' hi' ⟨l2, m, vs, _, hDv, _⟩ => hG H' fun p hp => l2.keep _ _ (hraw p hp).1 (hraw p hp).2.2.2 (hraw p hp).2.2.1) (fun i x H' H'' hi' ⟨l2, m, vs, hm, hDv, hmr⟩ hy => ?_) (fun H' ⟨l2, m, vs, hm, hDv, hmr⟩ => ?_)
  · have hix : i < xs.length := by rw [List.length_map] at hi'; exact hi'
    have hdx : xs[i]? = some xs[i] := List.getElem?_eq_getElem hix
    have hd : (xs.map c)[i]? = some (c xs[i]) := by rw [List.getElem?_map, hdx]; rfl
    have hmem : xs[i] ∈ xs := List.getElem_mem hix
    have erD := key H' l2 (by rw [hDv]; simp)
    have kd : Kd (fun a => B a ∨ a = D) B H2 H' := Le.kd l2 er.cb fun a ha hn => ha.elim (fun z => z) fun z => absurd hD (by rw [← z]; exact hn)
    obtain ⟨l3, rx⟩ := hY i (c xs[i]) (fun a => B a ∨ a = D) H' x H'' hd erD.dom erD.cb (fun p hp => l2.keep _ _ (hraw p hp).1 (hraw p hp).2.2.2 (hraw p hp).2.2.1) (fun z hz => Rep.kd kd _ _ (hdat z hz)) hy
    have erD2 := (erD.step l3).wipe (own.map (·.2))
    refine hg _ hmem _ _ _ _ _ _ (ER.blk erD2) rx _ fun σ2 H3 l4 er2 hk hlen => ⟨?_, ?_⟩
    · refine wipe_wipe (σ := σ) (fun j hj => ?_) (hlen.trans (wipe_length σ _)) |>.trans rfl
      have hk' := hk j fun z hz e => hj (by rw [← e]; exact hown _ hmem z hz)
      rw [hk']
      have : ∀ (τ : L2.St) (ws : List Nat), j ∉ ws → (L2.wipe τ ws)[j]? = τ[j]? := by
        intro τ ws
        induction ws with
        | nil => intro _; rfl
        | cons v ws ih =>
          intro h
          show ((L2.wipe τ ws).set v none)[j]? = _
          rw [List.getElem?_set_ne (fun e => h (by rw [e]; exact List.mem_cons_self)), ih fun z => h (List.mem_cons_of_mem _ z)]
      exact this σ _ hj
    · refine ht _ hmem _ _ _ _ er2 _ fun H4 l5 => ?_
      have er3 := er2.step l5
      have lall : LeC E H2 H4 := ((l2.trans l3).trans (show LeC E H'' H3 from l4)).trans (show LeC E H3 H4 from l5)
      have hl : xs.take (i + 1) = xs.take i ++ [xs[i]] := by rw [List.take_succ, hdx]; rfl
      have nC : ¬ E.C D := fun z => er1.dom D (er1.cb D z) hD
      have hD4 : H4 D = some (.lst vs) := ((l3.trans (show LeC E H'' H3 from l4)).trans (show LeC E H3 H4 from l5)).keep D _ nC hDv fun ps z => by cases z
      have hm4 : Reps E.cl (fun a => B a ∨ a = D) m vs H4 := Reps.kd (LeC.kd ((l3.trans (show LeC E H'' H3 from l4)).trans (show LeC E H3 H4 from l5)) erD.cb) _ _ hmr
      cases htd : t xs[i] with
      | false =>
        refine (if_neg Bool.false_ne_true).mpr ⟨lall, m, vs, ?_, hD4, hm4⟩
        rw [hl]
        exact hm.snoc_no htd
      | true =>
        refine (if_pos rfl).mpr (he _ hmem htd _ _ _ _ er3 _ fun r y H5 hr l6 ry => ?_)
        obtain ⟨d', rfl, hP⟩ := hr
        have l6' : LeC E H4 H5 := l6
        have hD5 : H5 D = some (.lst vs) := l6'.keep D _ nC hD4 fun ps z => by cases z
        have hlen' : vs.length ≤ 1000 := by
          rw [← hmr.len]
          refine Nat.le_trans hm.len (Nat.le_trans ?_ hz)
          rw [List.length_take]
          omega
        have k2 : Kd (fun a => B a ∨ a = D) (fun a => B a ∨ a = D) H5 (upd H5 D (.lst (vs ++ [y]))) := ⟨fun a _ h => h, fun a u nb _ r => by
          have ne : a ≠ D := fun z => nb (.inr z)
          rcases r with r | ⟨o, r⟩
          · exact .inl (by rw [upd_ne ne]; exact r)
          · exact .inr ⟨o, by rw [upd_ne ne]; exact r⟩, fun a u nb _ r => by
          have ne : a ≠ D := fun z => nb (.inr z)
          rw [upd_ne ne]; exact r⟩
        refine ⟨vs, hD5, small1000 hlen', ?_, m ++ [d'], vs ++ [y], by rw [hl]; exact hm.snoc_yes htd hP, upd_same, Reps.kd k2 _ _ (Reps.snoc (Reps.kd (LeC.kd l6' erD.cb) _ _ hm4) ry)⟩
        have lz := lall.trans l6'
        refine ⟨fun a o hw e n => ?_, fun a ha => ?_, fun tb => ?_, fun a hc h3 => ?_⟩
        · rw [upd_ne (fun z => by rw [z, hD] at e; cases e)]
          exact lz.keep a o hw e n
        · by_cases z : a = D
          · rw [z, upd_same]; simp
          · rw [upd_ne z]; exact lz.dom a ha
        · have tb5 := lz.tabs tb
          intro pp hpp
          obtain ⟨ps, h1, h2, h3⟩ := tb5 pp hpp
          have ne : ∀ (c : Addr) (o : HO), H5 c = some o → (∀ xs, o ≠ .lst xs) → c ≠ D := fun c o e hn z => by
            rw [z, hD5] at e
            exact hn vs (Option.some.inj e).symm
          refine ⟨ps, by rw [upd_ne (ne _ _ h1 fun xs z => by cases z)]; exact h1, h2, fun pos cv hcv => ?_⟩
          obtain ⟨c, e1, e2⟩ := h3 pos cv hcv
          exact ⟨c, e1, by rw [upd_ne (ne _ _ e2 fun xs z => by unfold LamX.CodeO at z; cases z)]; exact e2⟩
        · obtain ⟨x1, y1, z1, e⟩ := lz.box a hc h3
          exact ⟨x1, y1, z1, by rw [upd_ne (fun z => nC (by rw [← z]; exact hc))]; exact e⟩
  · rw [List.length_map, List.take_length] at hm
    exact q D m vs H' (l1.fresh hD) (l1.trans l2) hm hDv hmr
theorem evp_lc {td : τ → List (Nat × Ent)} {t : τ → Bool} {Pf : τ → D → Prop} (own : List (Str × Nat)) (hi : EI E false tg it δ (xs.map c)) (hz : xs.length ≤ 1000) (ok : BlkOk E.N E.sc scope own)
    (hg : ∀ d ∈ xs, EG (E.blk scope) tg (.d (c d)) (td d)) (hown : ∀ d ∈ xs, ∀ q ∈ td d, q.1 ∈ own.map (·.2))
    (ht : ∀ d ∈ xs, ETs (E.blk scope) ifs (setAll (wipeD δ (own.map (·.2))) (td d)) (t d))
    (he : ∀ d ∈ xs, t d = true → EVP (E.blk scope) elt (setAll (wipeD δ (own.map (·.2))) (td d)) (fun r => ∃ y, r = .d y ∧ Pf d y))
    (hs : ∀ env x, foldedSetIterable it env x = pure x := by intro _ _; rfl) : EVP E (.ListComp elt [⟨tg, it, ifs, 0⟩] scope pos) δ (fun r => ∃ m, r = .d (.lst m) ∧ Made Pf t xs m) := fun B γ σ H er Q q =>
  we_of (t := tLc (WI (Fam E) tg it) (WG (Fam (E.blk scope)) tg) (WTs (Fam (E.blk scope)) ifs) (WE (Fam (E.blk scope)) elt) (own.map (·.2)))
    (fun X hX => pe_lc hX.calm hX.nd (wi_pi hX) (by rw [hX.N, hX.sc]; exact ok) (fun s H C cl fp => wg_pg (fam_blk hX scope s H C cl fp)) (fun s H C cl fp => wts_pts (fam_blk hX scope s H C cl fp)) (fun s H C cl fp => we_pe (fam_blk hX scope s H C cl fp)) (hs _))
    (lc_read hi hz hg hown ht he er fun p m vs H2 hp l hm hv hr => q _ _ H2 ⟨m, rfl, hm⟩ l (by
      simp only [RE, Rep]
      have k2 : Kd B (fun a => B a ∨ a = p) H2 H2 := ⟨fun a _ nb z => nb (.inl z), fun a u _ _ r => r, fun a u _ _ r => r⟩
      exact ⟨p, vs, rfl, fun z => er.dom p z hp, hv, Reps.kd k2 _ _ hr⟩))
theorem ev_lc {td : τ → List (Nat × Ent)} (xs : List τ) (c : τ → D) (t : τ → Bool) (f : τ → D) (own : List (Str × Nat)) (hi : EI E false tg it δ (xs.map c)) (hz : xs.length ≤ 1000) (ok : BlkOk E.N E.sc scope own)
    (hg : ∀ d ∈ xs, EG (E.blk scope) tg (.d (c d)) (td d)) (hown : ∀ d ∈ xs, ∀ q ∈ td d, q.1 ∈ own.map (·.2))
    (ht : ∀ d ∈ xs, ETs (E.blk scope) ifs (setAll (wipeD δ (own.map (·.2))) (td d)) (t d))
    (he : ∀ d ∈ xs, t d = true → EV (E.blk scope) elt (setAll (wipeD δ (own.map (·.2))) (td d)) (.d (f d)))
    (hs : ∀ env x, foldedSetIterable it env x = pure x := by intro _ _; rfl) : EV E (.ListComp elt [⟨tg, it, ifs, 0⟩] scope pos) δ (.d (.lst ((xs.filter t).map f))) :=
  EVP.toV ((evp_lc (Pf := fun d y => y = f d) own hi hz ok hg hown ht (fun d hd h => (he d hd h).toP ⟨_, rfl, rfl⟩) hs).imp fun r ⟨m, e, hm⟩ => by rw [e, hm.fn])
end
end Nb
set_option Elab.async false
set_option linter.all false
set_option maxRecDepth 100000
set_option maxHeartbeats 2000000
/-! statements, calls, a def's entry -/
namespace Nb
open PySem PySem.Spec PyProof.Rows L2

abbrev Ds := List (Option Ent)
structure Post where
  nx : Ds → Prop := fun _ => False
  rt : D → Prop := fun _ => False
  bk : Ds → Prop := fun _ => False
  ct : Ds → Prop := fun _ => False
structure Sat (E : EC) (B : Addr → Prop) (γ : Gh) (Ω : Post) (D : Ends) : Prop where
  nx : ∀ δ σ H, ER E B δ γ σ H → Ω.nx δ → D.nx σ H
  rt : ∀ d v H, Le E.T E.W E.C E.H0 H → Rep E.cl E.B0 d v H → Ω.rt d → D.rt v H
  bk : ∀ δ σ H, ER E B δ γ σ H → Ω.bk δ → D.bk σ H
  ct : ∀ δ σ H, ER E B δ γ σ H → Ω.ct δ → D.ct σ H
def SV (E : EC) (B Bo : Addr → Prop) (ss : List Stmt) (δ : Ds) (Ω : Post) : Prop := ∀ (γ : Gh) (σ : L2.St) (H : Hp), ER E B δ γ σ H → ∀ D : Ends, Sat E Bo γ Ω D → WSs (Fam E) ss D σ H

section
variable {E : EC} {B Bo : Addr → Prop} {δ : Ds} {Ω Ω' : Post} {ss : List Stmt} {H H' H2 : Hp} {v : V} {r ra rb rc : Ent} {x : D} {e a b c : Expr} {es : List Expr} {pos pos' p : Pos} {P : Ent → Prop} {tg it : Expr} {items : List D}
theorem sv_nil (h : ∀ γ σ H, ER E B δ γ σ H → ∃ δ', ER E Bo δ' γ σ H ∧ Ω.nx δ') : SV E B Bo [] δ Ω := fun γ σ H er D s => by
  obtain ⟨δ', e', n⟩ := h γ σ H er
  exact wss_nil (s.nx δ' σ H e' n)
theorem sv_end (h : Ω.nx δ) : SV E B B [] δ Ω := sv_nil fun γ σ H er => ⟨δ, er, h⟩
theorem sv_imp {δ' : Ds} {B1 : Addr → Prop} (h : SV E B1 Bo ss δ' Ω) (m : ∀ γ σ H, ER E B δ γ σ H → ER E B1 δ' γ σ H) : SV E B Bo ss δ Ω := fun γ σ H er D s => h γ σ H (m γ σ H er) D s
theorem sv_post (h : SV E B Bo ss δ Ω) (n : ∀ δ, Ω.nx δ → Ω'.nx δ) (r : ∀ d, Ω.rt d → Ω'.rt d) (b : ∀ δ, Ω.bk δ → Ω'.bk δ) (c : ∀ δ, Ω.ct δ → Ω'.ct δ) : SV E B Bo ss δ Ω' := fun γ σ H er D s =>
  h γ σ H er D ⟨fun δ σ H er q => s.nx δ σ H er (n δ q), fun d v H l rv q => s.rt d v H l rv (r d q), fun δ σ H er q => s.bk δ σ H er (b δ q), fun δ σ H er q => s.ct δ σ H er (c δ q)⟩
/-- one statement, then the rest -/
theorem wss_then {F : Fm} {st : Stmt} {D : Ends} {σ : L2.St} (h : WS F st { D with nx := WSs F ss D } σ H) : WSs F (st :: ss) D σ H := wss_cons h

/-- what is given back -/
def Back (E : EC) (P : D → Prop) (r : Ent) : Prop := (∃ d, r = .d d ∧ P d) ∨ ∃ p d, r = .own p d ∧ P d
theorem back_rep {P : D → Prop} (hb : Back E P r) (sub : ∀ a, E.B0 a → B a) (h : RE E B r v H) : ∃ d, P d ∧ Rep E.cl E.B0 d v H := by
  have k : Kd E.B0 B H H := ⟨fun a _ nb z => nb (sub a z), fun a u _ _ r => r, fun a u _ _ r => r⟩
  rcases hb with ⟨d, rfl, hp⟩ | ⟨p, d, rfl, hp⟩
  · exact ⟨d, hp, Rep.kd k _ _ h⟩
  · obtain ⟨e, h1, h2, h4, h5⟩ := h
    refine ⟨d, hp, ?_⟩
    cases d with
    | lst l => obtain ⟨vs, e1, r⟩ := h5; simp only [Rep]; exact ⟨p, vs, e, h2, e1, Reps.kd k _ _ r⟩
    | dct ks l => obtain ⟨vs, hl, e1, r⟩ := h5; simp only [Rep]; exact ⟨p, vs, e, h2, hl, .inl e1, Reps.kd k _ _ r⟩
    | dcT ks l => obtain ⟨vs, hl, e1, r⟩ := h5; simp only [Rep]; exact ⟨p, vs, e, h2, hl, .inl e1, Reps.kd k _ _ r⟩
    | _ => exact False.elim h5
theorem sv_ret (h : EVP E e δ (Back E Ω.rt)) : SV E B Bo (.Return (some e) pos :: ss) δ Ω := fun γ σ H er D s =>
  wss_then (ws_of (fun X hX => ps_ret (we_pe hX)) (h B γ σ H er _ fun r v H2 hb l rv => by
    obtain ⟨d, hp, rep⟩ := back_rep hb er.sub rv
    exact s.rt d v H2 (er.step l).le rep hp))
theorem sv_retd {d : D} (h : EV E e δ (.d d)) (hp : Ω.rt d) : SV E B Bo (.Return (some e) pos :: ss) δ Ω := sv_ret (h.toP (.inl ⟨d, rfl, hp⟩))
theorem sv_reto {p : Addr} {d : D} (h : EV E e δ (.own p d)) (hp : Ω.rt d) : SV E B Bo (.Return (some e) pos :: ss) δ Ω := sv_ret (h.toP (.inr ⟨p, d, rfl, hp⟩))
theorem sv_retN (h : Ω.rt .non) : SV E B Bo (.Return none pos :: ss) δ Ω := fun γ σ H er D s => wss_then (ws_of (fun X hX => ps_retN) (s.rt .non .non H er.le (by simp [Rep]) h))
/-- x = e -/
theorem sv_setP (i : Nat) {y : Str} (hi : E.N[i]? = some y) (hx : Loc E.sc y) (h : EVP E e δ P) (k : ∀ r, P r → SV E B Bo ss (δ.set i (some r)) Ω)
    (hs : ∀ env, swapsWith e (some (.Name y pos')) pos.line env = pure false := by intro _; rfl) (hf : E.fn y = true ∨ E.sc.names.lookup y = some .local := by first | exact .inl rfl | exact .inr rfl) : SV E B Bo (.Assign [.Name y pos'] e pos :: ss) δ Ω := fun γ σ H er D s =>
  wss_then (ws_of (t := tAsg (WE (Fam E) e) (gName i)) (fun X hX => ps_set hX.nd (by rw [hX.N]; exact hi) (by rw [hX.sc]; exact hx) (we_pe hX) (hs _) (by rw [hX.fn, hX.sc]; exact hf)) (h B γ σ H er _ fun r v H2 hp l rv => k r hp γ _ H2 ((er.step l).set i rv) D s))
theorem sv_set (i : Nat) {y : Str} (hi : E.N[i]? = some y) (hx : Loc E.sc y) (h : EV E e δ r) (k : SV E B Bo ss (δ.set i (some r)) Ω)
    (hs : ∀ env, swapsWith e (some (.Name y pos')) pos.line env = pure false := by intro _; rfl) (hf : E.fn y = true ∨ E.sc.names.lookup y = some .local := by first | exact .inl rfl | exact .inr rfl) : SV E B Bo (.Assign [.Name y pos'] e pos :: ss) δ Ω :=
  sv_setP i hi hx (h.toP (P := fun r' => r' = r) rfl) (fun r' e => by rw [e]; exact k) hs hf
/-- e, its value dropped -/
theorem sv_drop (h : EVP E e δ P) (k : SV E B Bo ss δ Ω) (hs : ∀ env, swapsWith e none pos.line env = pure false := by intro _; rfl) : SV E B Bo (.Expr e pos :: ss) δ Ω := fun γ σ H er D s =>
  wss_then (ws_of (fun X hX => ps_expr (we_pe hX) (hs _)) (h B γ σ H er _ fun r v H2 hp l rv => k γ _ H2 (er.step l) D s))
/-- if -/
theorem sv_if {cc : Bool} {aa bb : List Stmt} (h : ET E c δ cc) (h1 : cc = true → SV E B B aa δ { Ω with nx := fun δ' => SV E B Bo ss δ' Ω, bk := fun _ => False, ct := fun _ => False }) (h2 : cc = false → SV E B B bb δ { Ω with nx := fun δ' => SV E B Bo ss δ' Ω, bk := fun _ => False, ct := fun _ => False }) :
    SV E B Bo (.If c aa bb pos :: ss) δ Ω := fun γ σ H er D s => by
  have st : Sat E B γ { Ω with nx := fun δ' => SV E B Bo ss δ' Ω, bk := fun _ => False, ct := fun _ => False } { D with nx := WSs (Fam E) ss D } := ⟨fun δ' σ' H' er' q => q γ σ' H' er' D s, s.rt, fun _ _ _ _ q => q.elim, fun _ _ _ _ q => q.elim⟩
  refine wss_then (ws_of (fun X hX => ps_if (wt_pt hX) (wss_pss hX) (wss_pss hX)) (h B γ σ H er _ fun H2 l => ?_))
  cases cc with
  | true => exact (if_pos rfl).mpr (h1 rfl γ σ H2 (er.step l) _ st)
  | false => exact (if_neg Bool.false_ne_true).mpr (h2 rfl γ σ H2 (er.step l) _ st)
/-- an if whose test fails, no else -/
theorem sv_ifF {cc : Bool} {aa : List Stmt} (h : ET E c δ cc) (hc : cc = false) (k : SV E B Bo ss δ Ω) : SV E B Bo (.If c aa [] pos :: ss) δ Ω := sv_if h (fun z => by rw [hc] at z; cases z) fun _ => sv_end k
/-- an if without else whose body leaves -/
theorem sv_ifR {cc : Bool} {aa : List Stmt} (h : ET E c δ cc) (h1 : cc = true → SV E B B aa δ { Ω with nx := fun _ => False, bk := fun _ => False, ct := fun _ => False }) (k : cc = false → SV E B Bo ss δ Ω) : SV E B Bo (.If c aa [] pos :: ss) δ Ω :=
  sv_if h (fun z => sv_post (h1 z) (fun _ q => q.elim) (fun _ q => q) (fun _ q => q.elim) fun _ q => q.elim) fun z => sv_end (k z)
/-- for -/
theorem sv_for {τ : Type} (xs : List τ) (c : τ → D) (Inv : Nat → Ds → Prop) {td : τ → List (Nat × Ent)} {body : List Stmt} (hi : EI E true tg it δ (xs.map c)) (h0 : Inv 0 δ) (hg : ∀ d ∈ xs, EG E tg (.d (c d)) (td d))
    (step : ∀ (i : Nat) d δ', xs[i]? = some d → Inv i δ' → SV E B B body (setAll δ' (td d)) { nx := Inv (i + 1), ct := Inv (i + 1), bk := fun _ => False, rt := Ω.rt }) (hd : ∀ δ', Inv xs.length δ' → SV E B Bo ss δ' Ω)
    (hs : ∀ env x, foldedSetIterable it env x = pure x := by intro _ _; rfl) : SV E B Bo (.For tg it body [] pos :: ss) δ Ω := fun γ σ H er D s => by
  refine wss_then (ws_of (fun X hX => ps_for (by rw [hX.xe]; exact PassesOwn.never) hX.calm (wi_pi hX) (wg_pg hX) (wss_pss hX) (hs _)) (hi B γ σ H er _ fun J H2 raw dat G Y l1 hraw hdat w hG hY => ?_))
  have er1 := er.step l1
  have up : ∀ {δ' σ' H'}, ER E B δ' ⟨raw ++ γ.raw, dat ++ γ.dat⟩ σ' H' → ER E B δ' γ σ' H' := fun h => ⟨h.le, h.dom, h.sub, h.cb, h.cw, h.tabs, h.at_, h.len, fun p hp => h.gr p (List.mem_append_right _ hp), fun q hq => h.gd q (List.mem_append_right _ hq)⟩
  refine for_it w (fun i σ' H' => ∃ δ', ER E B δ' ⟨raw ++ γ.raw, dat ++ γ.dat⟩ σ' H' ∧ Inv i δ') ⟨δ, ⟨er1.le, er1.dom, er1.sub, er1.cb, er1.cw, er1.tabs, er1.at_, er1.len, fun p hp => ?_, fun q hq => ?_⟩, h0⟩ (fun i σ' H' _ ⟨δ', er', _⟩ => hG H' fun p hp => (er'.gr p (List.mem_append_left _ hp)).2.2.2)
    (fun i x σ' H' H'' hi' ⟨δ', er', inv⟩ hy => ?_) (fun σ' H' ⟨δ', er', inv⟩ => hd δ' (by rw [List.length_map] at inv; exact inv) γ σ' H' (up er') D s)
  · rcases List.mem_append.mp hp with hp | hp
    · exact ⟨(hraw p hp).1, (hraw p hp).2.1 rfl, (hraw p hp).2.2.1, (hraw p hp).2.2.2⟩
    · exact er1.gr p hp
  · rcases List.mem_append.mp hq with hq | hq
    · exact hdat q hq
    · exact er1.gd q hq
  · have hix : i < xs.length := by rw [List.length_map] at hi'; exact hi'
    have hdx : xs[i]? = some xs[i] := List.getElem?_eq_getElem hix
    have hd' : (xs.map c)[i]? = some (c xs[i]) := by rw [List.getElem?_map, hdx]; rfl
    obtain ⟨l3, rx⟩ := hY i (c xs[i]) B H' x H'' hd' er'.dom er'.cb (fun p hp => (er'.gr p (List.mem_append_left _ hp)).2.2.2) (fun q hq => er'.gd q (List.mem_append_left _ hq)) hy
    refine hg _ (List.getElem_mem hix) B δ' _ σ' H'' x (er'.step l3) rx _ fun σ2 H3 l4 er2 _ _ => ?_
    exact step i xs[i] δ' hdx inv _ σ2 H3 er2 _ ⟨fun δ2 σ2 H2 e2 q => ⟨δ2, e2, q⟩, s.rt, fun _ _ _ _ q => q.elim, fun δ2 σ2 H2 e2 q => ⟨δ2, e2, q⟩⟩
/-- while -/
theorem sv_while (W : Nat → Ds → Prop) {body : List Stmt} (h0 : ∃ m, W m δ) (step : ∀ m δ', W m δ' → ∃ cc, ET E c δ' cc ∧ (cc = true → SV E B B body δ' { nx := fun δ'' => ∃ m', m' < m ∧ W m' δ'', ct := fun δ'' => ∃ m', m' < m ∧ W m' δ'', bk := fun _ => False, rt := Ω.rt }) ∧ (cc = false → SV E B Bo ss δ' Ω)) :
    SV E B Bo (.While c body [] pos :: ss) δ Ω := fun γ σ H er D s => by
  refine wss_then (ws_of (fun X hX => ps_while (by rw [hX.xe]; exact PassesOwn.never) (wt_pt hX) (wss_pss hX)) ?_)
  obtain ⟨m0, w0⟩ := h0
  refine ⟨fun m σ' H' => ∃ δ', ER E B δ' γ σ' H' ∧ W m δ', ⟨m0, δ, er, w0⟩, fun m σ' H' ⟨δ', er', w⟩ => ?_⟩
  obtain ⟨cc, ht, h1, h2⟩ := step m δ' w
  refine ht B γ σ' H' er' _ fun H2 l => ?_
  have er2 := er'.step l
  cases cc with
  | true =>
    refine (if_pos rfl).mpr ⟨fun σ3 H3 => ∃ δ'', ER E B δ'' γ σ3 H3 ∧ ∃ m', m' < m ∧ W m' δ'', fun σ3 H3 ⟨δ'', e3, m', hm, w3⟩ => ⟨m', hm, δ'', e3, w3⟩, ?_⟩
    exact h1 rfl γ σ' H2 er2 _ ⟨fun δ2 σ2 H2 e2 q => ⟨δ2, e2, q⟩, s.rt, fun _ _ _ _ q => q.elim, fun δ2 σ2 H2 e2 q => ⟨δ2, e2, q⟩⟩
  | false => exact (if_neg Bool.false_ne_true).mpr (h2 rfl γ σ' H2 er2 D s)
end

/-! ### new lists and dicts of one's own -/
/-- e gives a new list or dict -/
def EN (E : EC) (e : Expr) (δ : Ds) (P : D → Prop) : Prop := ∀ (B : Addr → Prop) (γ : Gh) (σ : L2.St) (H : Hp), ER E B δ γ σ H → ∀ Q : VK, (∀ p d H2, H p = none → P d → LeC E H H2 → Top E.cl (fun a => B a ∨ a = p) d p H2 → Q (.ref p) H2) → WE (Fam E) e σ H Q
/-- no other slot may stand at p -/
def Apart (p : Addr) : Ds → Prop
  | [] => True
  | some (.own q _) :: δ => q ≠ p ∧ Apart p δ
  | some (.scr _) :: δ => False
  | some (.wk _) :: δ => False
  | _ :: δ => Apart p δ
theorem apart_at {p : Addr} : ∀ {δ : Ds} {i : Nat} {r : Ent}, Apart p δ → δ[i]? = some (some r) → (∀ q d, r = .own q d → q ≠ p) ∧ (∀ ns, r ≠ .scr ns) ∧ ∀ d, r ≠ .wk d
  | [], i, r, _, e => by simp at e
  | s :: δ, 0, r, h, e => by
    simp at e; subst e
    cases r with
    | own q d => exact ⟨(fun q' d' z => by cases z; exact h.1), (fun ns z => by cases z), (fun d z => by cases z)⟩
    | scr ns => exact h.elim
    | wk d => exact h.elim
    | _ => exact ⟨(fun q d z => by cases z), (fun ns z => by cases z), (fun d z => by cases z)⟩
  | s :: δ, i + 1, r, h, e => by
    have h' : Apart p δ := by
      cases s with
      | none => exact h
      | some s => cases s <;> first | exact h | exact h.2 | exact h.elim
    exact apart_at h' (by simpa using e)
section
variable {E : EC} {B Bo : Addr → Prop} {δ : Ds} {γ : Gh} {σ : L2.St} {Ω Ω' : Post} {ss : List Stmt} {H H' H2 : Hp} {v : V} {r ra rb rc : Ent} {x : D} {e a b c : Expr} {es : List Expr} {pos pos' : Pos} {P : D → Prop}
/-- the object at p changes, p in B -/
theorem mut_kd {p : Addr} {o : HO} (hp : B p) : Kd B B H (upd H p o) := ⟨fun a _ h => h, fun a u nb _ r => by
    have ne : a ≠ p := fun z => nb (by rw [z]; exact hp)
    rcases r with r | ⟨o, r⟩
    · exact .inl (by rw [upd_ne ne]; exact r)
    · exact .inr ⟨o, by rw [upd_ne ne]; exact r⟩, fun a u nb _ r => by
    have ne : a ≠ p := fun z => nb (by rw [z]; exact hp)
    rw [upd_ne ne]; exact r⟩
def notK : HO → Prop := fun o => (∀ ps, o ≠ .tbl ps) ∧ ∀ c q, o ≠ LamX.CodeO c q
theorem tabs_mut {T : List (Addr × Str)} {p : Addr} {o o' : HO} (h : H p = some o) (hn : notK o) (t : LamX.Tabs T H) : LamX.Tabs T (upd H p o') := by
  intro pp hpp
  obtain ⟨ps, h1, h2, h3⟩ := t pp hpp
  have ne1 : pp.1 ≠ p := fun z => by
    rw [z, h] at h1
    exact hn.1 ps (Option.some.inj h1)
  refine ⟨ps, by rw [upd_ne ne1]; exact h1, h2, fun pos cv hcv => ?_⟩
  obtain ⟨c, e1, e2⟩ := h3 pos cv hcv
  have ne2 : c ≠ p := fun z => by
    rw [z, h] at e2
    exact hn.2 c pp.2 (z ▸ Option.some.inj e2)
  exact ⟨c, e1, by rw [upd_ne ne2]; exact e2⟩
theorem notK_lst {xs : List V} : notK (.lst xs) := ⟨(fun ps z => by cases z), (fun c q z => by unfold LamX.CodeO at z; cases z)⟩
theorem notK_dK {xs : List (Key × V)} : notK (.dK xs) := ⟨(fun ps z => by cases z), (fun c q z => by unfold LamX.CodeO at z; cases z)⟩
theorem notK_dT {xs : List (List Key × V)} : notK (.dT xs) := ⟨(fun ps z => by cases z), (fun c q z => by unfold LamX.CodeO at z; cases z)⟩
theorem notK_ins {C dx : Addr} {fs : List (Str × V)} : notK (.ins C dx fs) := ⟨(fun ps z => by cases z), (fun c q z => by unfold LamX.CodeO at z; cases z)⟩
theorem top_obj {cl : Str → Addr} {d : D} {p : Addr} (h : Top cl B d p H) : ∃ o, H p = some o ∧ notK o := by
  cases d with
  | lst l => obtain ⟨vs, e, _⟩ := h; exact ⟨_, e, notK_lst⟩
  | dct ks l => obtain ⟨vs, _, e, _⟩ := h; exact ⟨_, e, notK_dK⟩
  | dcT ks l => obtain ⟨vs, _, e, _⟩ := h; exact ⟨_, e, notK_dT⟩
  | _ => exact h.elim
theorem ER.mut (er : ER E B δ γ σ H) {i : Nat} {p : Addr} {d d' : D} {o : HO} (hi : δ[i]? = some (some (.own p d))) (hp : B p) (ha : Apart p (δ.set i none)) (hn : Top E.cl B d' p (upd H p o)) : ER E B (δ.set i (some (.own p d'))) γ σ (upd H p o) := by
  obtain ⟨v, hv, ev, nC, nB0, h0, ht⟩ := er.at_ i _ hi
  obtain ⟨o1, ho1, hk1⟩ := top_obj ht
  have kd : Kd B B H (upd H p o) := mut_kd hp
  refine ⟨⟨fun a u hw e n => ?_, fun a ha => ?_, fun t => tabs_mut ho1 hk1 (er.le.tabs t), fun a hc h3 => ?_⟩, fun a ha => ?_, er.sub, er.cb, er.cw, tabs_mut ho1 hk1 er.tabs, fun j r' e => ?_, by simpa using er.len, fun z hz => ?_, fun q hq => Rep.kd kd _ _ (er.gd q hq)⟩
  · rw [upd_ne (fun z => by rw [z, h0] at e; cases e)]
    exact er.le.keep a u hw e n
  · by_cases z : a = p
    · rw [z, upd_same]; simp
    · rw [upd_ne z]; exact er.le.dom a ha
  · obtain ⟨x1, y1, z1, e⟩ := er.le.box a hc h3
    exact ⟨x1, y1, z1, by rw [upd_ne (fun z => nC (by rw [← z]; exact hc))]; exact e⟩
  · by_cases z : a = p
    · rw [z, upd_same]; simp
    · rw [upd_ne z]; exact er.dom a ha
  · by_cases hj : i = j
    · subst hj
      have hlt : i < δ.length := (List.getElem?_eq_some_iff.mp hi).1
      rw [List.getElem?_set_self hlt] at e
      cases e
      exact ⟨v, hv, ev, nC, nB0, h0, hn⟩
    · rw [List.getElem?_set_ne hj] at e
      obtain ⟨w, hw, rw'⟩ := er.at_ j r' e
      refine ⟨w, hw, ?_⟩
      obtain ⟨a1, a2, a3⟩ := apart_at ha (by rw [List.getElem?_set_ne hj]; exact e)
      cases r' with
      | d x => exact Rep.kd kd _ _ rw'
      | own q dq =>
        have ne := a1 q dq rfl
        obtain ⟨z1, z2, z3, z5, z6⟩ := rw'
        exact ⟨z1, z2, z3, z5, z6.imp kd fun u hu _ => by rw [upd_ne ne]; exact hu⟩
      | box q =>
        obtain ⟨z1, z2, x1, y1, w1, z3⟩ := rw'
        exact ⟨z1, z2, x1, y1, w1, by rw [upd_ne (fun z => nC (by rw [← z]; exact z2))]; exact z3⟩
      | scr ns => exact absurd rfl (a2 ns)
      | ins q c fs l =>
        obtain ⟨z1, z2, z3, dx, vs, hl, z4, z5⟩ := rw'
        refine ⟨z1, z2, z3, dx, vs, hl, ?_, Reps.kd kd _ _ z5⟩
        rw [upd_ne (fun z => ?_)]
        · exact z4
        · rw [z, ho1] at z4
          have := Option.some.inj z4
          cases d with
          | lst l => obtain ⟨vs, e, _⟩ := ht; rw [ho1] at e; rw [this] at e; cases e
          | dct ks l => obtain ⟨vs, _, e, _⟩ := ht; rw [ho1] at e; rw [this] at e; cases e
          | dcT ks l => obtain ⟨vs, _, e, _⟩ := ht; rw [ho1] at e; rw [this] at e; cases e
          | _ => exact ht.elim
      | wk dq => exact absurd rfl (a3 dq)
      | ty u => exact rw'
      | lk q ks l =>
        obtain ⟨z1, z2, od, vs, hl, z4, z5⟩ := rw'
        refine ⟨z1, z2, od, vs, hl, ?_, Reps.kd kd _ _ z5⟩
        rw [upd_ne (fun z => ?_)]
        · exact z4
        · rw [z, ho1] at z4
          have := Option.some.inj z4
          cases d with
          | lst l => obtain ⟨vs, e, _⟩ := ht; rw [ho1] at e; rw [this] at e; cases e
          | dct ks l => obtain ⟨vs, _, e, _⟩ := ht; rw [ho1] at e; rw [this] at e; cases e
          | dcT ks l => obtain ⟨vs, _, e, _⟩ := ht; rw [ho1] at e; rw [this] at e; cases e
          | _ => exact ht.elim
  · obtain ⟨z1, z2, z3, z4⟩ := er.gr z hz
    exact ⟨z1, z2, z3, by rw [upd_ne (fun q => z2 (by rw [q]; exact hp))]; exact z4⟩
/-- own things of δ stand apart from a new place -/
theorem apart_new {p : Addr} (er : ER E B δ γ σ H) (hp : H p = none) (hs : ∀ (i : Nat) (r : Ent), δ[i]? = some (some r) → (∀ ns, r ≠ .scr ns) ∧ ∀ d, r ≠ .wk d) : Apart p δ := by
  have key : ∀ δ' : Ds, (∀ (i : Nat) (r : Ent), δ'[i]? = some (some r) → ∃ j : Nat, δ[j]? = some (some r)) → Apart p δ' := by
    intro δ'
    induction δ' with
    | nil => intro _; trivial
    | cons s δ' ih =>
      intro h
      have ih' := ih fun i r e => h (i + 1) r (by simpa using e)
      cases s with
      | none => exact ih'
      | some s =>
        obtain ⟨j, hj⟩ := h 0 s rfl
        obtain ⟨s1, s2⟩ := hs j s hj
        cases s with
        | own q d =>
          refine ⟨fun z => ?_, ih'⟩
          obtain ⟨v, hv, ev, nC, nB0, h0, ht⟩ := er.at_ j _ hj
          obtain ⟨o, ho, _⟩ := top_obj ht
          rw [z, hp] at ho
          cases ho
        | scr ns => exact absurd rfl (s1 ns)
        | wk d => exact absurd rfl (s2 d)
        | _ => exact ih'
  exact key δ fun i r e => ⟨i, e⟩
/-- no script, no passing view among the slots -/
def noScr : Ds → Bool
  | [] => true
  | some (.scr _) :: _ => false
  | some (.wk _) :: _ => false
  | _ :: δ => noScr δ
theorem noScr_at : ∀ {δ : Ds} {i : Nat} {r : Ent}, noScr δ = true → δ[i]? = some (some r) → (∀ ns, r ≠ .scr ns) ∧ ∀ d, r ≠ .wk d
  | [], i, r, _, e => by simp at e
  | s :: δ, 0, r, h, e => by
    simp at e; subst e
    cases r with
    | scr ns => cases h
    | wk d => cases h
    | _ => exact ⟨(fun ns z => by cases z), (fun d z => by cases z)⟩
  | s :: δ, i + 1, r, h, e => by
    have h' : noScr δ = true := by
      cases s with
      | none => exact h
      | some s => cases s <;> first | exact h | cases h
    exact noScr_at h' (by simpa using e)
theorem en_step {Q : VK} (h : EN E e δ P) (er : ER E B δ γ σ H) (ns : noScr δ = true) (q : ∀ p d H2, P d → ¬ B p → Apart p δ → LeC E H H2 → ER E (fun a => B a ∨ a = p) δ γ σ H2 → RE E (fun a => B a ∨ a = p) (.own p d) (.ref p) H2 → Q (.ref p) H2) : WE (Fam E) e σ H Q :=
  h B γ σ H er Q fun p d H2 hp hd l ht => by
    have nB : ¬ B p := fun z => er.dom p z hp
    obtain ⟨o, ho, _⟩ := top_obj ht
    exact q p d H2 hd nB (apart_new er hp fun i r e => noScr_at ns e) l (er.grow hp l (by rw [ho]; simp)) ⟨rfl, fun z => nB (er.cb p z), fun z => nB (er.sub p z), er.le.fresh hp, ht⟩
end
end Nb
set_option Elab.async false
set_option linter.all false
set_option maxRecDepth 100000
set_option maxHeartbeats 2000000
/-! calls, a def's entry -/
namespace Nb
open PySem PySem.Spec PyProof.Rows L2

/-- what all defs share -/
structure Glob where
  P : Program
  w : World
  K : PySem.W.Frag
  mg : Str → Option Value
  base : Heap
  T : List (Addr × Str)
  cl : Str → Addr
def Glob.E (g : Glob) (k : Nat) (N : List Str) (sc : Scope) (B0 W C : Addr → Prop) (H0 : Hp) : EC := ⟨g.P, g.w, g.K, g.mg, g.base, k, N, sc, fun _ => true, g.T, g.cl, B0, W, C, H0, none⟩
/-- the same where lambdas are made -/
def Glob.EL (g : Glob) (lam : Addr × Str) (k : Nat) (N : List Str) (sc : Scope) (B0 W C : Addr → Prop) (H0 : Hp) : EC := ⟨g.P, g.w, g.K, g.mg, g.base, k, N, sc, fun _ => true, g.T, g.cl, B0, W, C, H0, some lam⟩
abbrev no : Addr → Prop := fun _ => False
/-- a promise over data: args of a type of one's own -/
def spP (g : Glob) {α : Type} (args : α → List D) (pre : α → Prop) (post : α → D → Prop) : Sp := fun vs H Q _ => ∃ (B : Addr → Prop) (a : α), (∀ x, B x → H x ≠ none) ∧ LamX.Tabs g.T H ∧ Reps g.cl B (args a) vs H ∧ pre a ∧
  ∀ v d H', Le g.T no no H H' → Rep g.cl B d v H' → post a d → Q v H'
/-- .. that turns a box, its first argument -/
def spB (g : Glob) {α : Type} (args : α → List D) (pre : α → Prop) (post : α → D → Prop) : Sp := fun vs H Q _ => ∃ (B : Addr → Prop) (b : Addr) (vs' : List V) (a : α), vs = .ref b :: vs' ∧ B b ∧ Is3 H b ∧ (∀ x, B x → H x ≠ none) ∧ LamX.Tabs g.T H ∧ Reps g.cl B (args a) vs' H ∧ pre a ∧
  ∀ v d H', Le g.T (fun x => x = b) (fun x => x = b) H H' → Rep g.cl B d v H' → post a d → Q v H'
/-- __init__ of the class c -/
def spI (g : Glob) (c : Str) {α : Type} (args : α → List D) (pre : α → Prop) (post : α → List Str → List D → Prop) : Sp := fun vs H Q _ => ∃ (B : Addr → Prop) (p dx : Addr) (vs' : List V) (a : α), vs = .ref p :: vs' ∧ B p ∧ (∀ x, B x → H x ≠ none) ∧ LamX.Tabs g.T H ∧ H p = some (.ins (g.cl c) dx []) ∧
  Reps g.cl B (args a) vs' H ∧ pre a ∧ ∀ H' fs l ws dx', Le g.T (fun x => x = p) no H H' → H' p = some (.ins (g.cl c) dx' (fs.zip ws)) → fs.length = ws.length → Reps g.cl B l ws H' → post a fs l → Q .non H'
/-- a def of the module -/
structure Fn (g : Glob) (k : Nat) (x : Str) (sp : Sp) : Prop where
  ex : ∃ (f : Addr) (fd : FuncData) (ps : List Str), FnOk g.P g.w g.K g.mg g.base CX0 k f fd ps sp ∧ g.mg x = some (.ref f) ∧ PySem.W.keepIn g.K (.ref f) = true ∧ Binds g.K fd ps []
/-- a method of a class -/
structure Me (g : Glob) (k : Nat) (c m : Str) (sp : Sp) : Prop where
  ex : ∃ (f : Addr) (fd : FuncData) (ps : List Str), FnOk g.P g.w g.K g.mg g.base CX0 k f fd ps sp ∧ Cls g.K (g.cl c) ∧ Meth g.K (g.cl c) m f ∧ Binds g.K fd ps []
/-- a class that is made by its name -/
structure Mak (g : Glob) (k : Nat) (c : Str) (sp : Sp) : Prop where
  ex : ∃ (f : Addr) (fd : FuncData) (ps : List Str), FnOk g.P g.w g.K g.mg g.base CX0 k f fd ps sp ∧ Mk g.K (g.cl c) f ∧ g.mg c = some (.ref (g.cl c)) ∧ Binds g.K fd ps []
/-- a property -/
structure Pr (g : Glob) (k : Nat) (c m : Str) (sp : Sp) : Prop where
  ex : ∃ (f q : Addr) (fd : FuncData) (ps : List Str), FnOk g.P g.w g.K g.mg g.base CX0 k f fd ps sp ∧ Cls g.K (g.cl c) ∧ PropOf g.K (g.cl c) m q f ∧ Binds g.K fd ps []
/-- instances are called -/
structure Cb (g : Glob) (k : Nat) (c : Str) (sp : Sp) : Prop where
  ex : ∃ (f : Addr) (fd : FuncData) (ps : List Str), FnOk g.P g.w g.K g.mg g.base CX0 k f fd ps sp ∧ StX.CallO g.K (g.cl c) f ∧ Binds g.K fd ps []

def slots (ds : List D) (n : Nat) : Ds := ds.map (fun d => some (Ent.d d)) ++ List.replicate n none
section
variable {g : Glob} {α : Type} {args : α → List D} {pre : α → Prop} {post : α → D → Prop} {k : Nat} {N ps : List Str} {st : Stmt} {x qual : Str} {f : Addr} {fd : FuncData}
theorem slots_at {E : EC} {B : Addr → Prop} {ds : List D} {vs : List V} {H : Hp} {n : Nat} (h : Reps E.cl B ds vs H) : ∀ (i : Nat) r, (slots ds n)[i]? = some (some r) → ∃ v, (vs.map some ++ List.replicate n none)[i]? = some (some v) ∧ RE E B r v H := by
  intro i r e
  unfold slots at e
  by_cases hi : i < ds.length
  · rw [List.getElem?_append_left (by simpa using hi), List.getElem?_map, List.getElem?_eq_getElem hi] at e
    cases e
    obtain ⟨v, hv, rv⟩ := h.get (List.getElem?_eq_getElem hi)
    have hv' : i < vs.length := (List.getElem?_eq_some_iff.mp hv).1
    exact ⟨v, by rw [List.getElem?_append_left (by simpa using hv'), List.getElem?_map, hv]; rfl, rv⟩
  · rw [List.getElem?_append_right (by simpa using hi), List.getElem?_replicate] at e
    split at e <;> cases e
theorem fam_of {P : Program} {w : World} {K : PySem.W.Frag} {mg : Str → Option Value} {base : Heap} {T : List (Addr × Str)} {cl : Str → Addr} {sc : Scope} {cdv : Value} {A : Around} {outer : List Env} {s : Shared} {H : Hp} {Ex : XK} {B0 W C : Addr → Prop} {H0 : Hp}
    (hd : N.Nodup) (hr : Room k (A.deeper (envOfC qual sc s.heap.objs.size f cdv))) : Fam (Glob.E ⟨P, w, K, mg, base, T, cl⟩ k N sc B0 W C H0) (cxOf CX0 P w K mg base N qual sc f cdv A outer s H Ex).nox :=
  ⟨rfl, rfl, rfl, rfl, rfl, rfl, hd, rfl, hr, rfl, rfl, rfl, fun z h => by cases h⟩
theorem ok_P (F : FunD g.K x qual (defArgs st) (defBody st) (defScope st) [] [] f fd) (S : FnScope N ps (defScope st)) (hl : ∀ a, (args a).length = ps.length) (hN : ps.length ≤ N.length)
    (body : ∀ (B0 : Addr → Prop) (H0 : Hp) (a : α), pre a → SV (g.E k N (defScope st) B0 no no H0) B0 B0 (defBody st) (slots (args a) (N.length - ps.length)) { rt := post a, nx := fun _ => post a .non }) :
    FnOk g.P g.w g.K g.mg g.base CX0 (k + 1) f fd ps (spP g args pre post) := by
  refine F.ok S (fun vs H Q E h => ?_) (fun cdv A outer s H vs Q E hr h => ?_)
  · obtain ⟨B, a, _, _, r, _⟩ := h
    rw [← r.len, hl]
  · obtain ⟨B, a, dom, tb, r, hp, q⟩ := h
    refine ⟨_, PSs.nox (wss_pss (fam_of (T := g.T) (cl := g.cl) (B0 := B) (W := no) (C := no) (H0 := H) S.nd hr)), ?_⟩
    refine body B H a hp ⟨[], []⟩ _ H ⟨Le.refl, dom, fun a h => h, fun _ h => h.elim, fun _ h => h.elim, tb, ?_, ?_, fun p hp => by simp at hp, fun q hq => by simp at hq⟩ _ ⟨fun δ σ H' er h => q .non .non H' er.le (by simp [Rep]) h, fun d v H' l rv h => q v d H' l rv h, fun _ _ _ _ h => h.elim, fun _ _ _ _ h => h.elim⟩
    · have e : L2.start N vs = vs.map some ++ List.replicate (N.length - ps.length) none := by unfold L2.start; rw [← r.len, hl]
      rw [e]
      exact slots_at r
    · unfold slots L2.start
      have := r.len
      have := hl a
      simp
      omega
theorem ok_B (F : FunD g.K x qual (defArgs st) (defBody st) (defScope st) [] [] f fd) (S : FnScope N ps (defScope st)) (hl : ∀ a, (args a).length + 1 = ps.length) (hN : ps.length ≤ N.length)
    (body : ∀ (B0 : Addr → Prop) (H0 : Hp) (b : Addr) (a : α), pre a → B0 b → SV (g.E k N (defScope st) B0 (fun x => x = b) (fun x => x = b) H0) B0 B0 (defBody st) (some (.box b) :: slots (args a) (N.length - ps.length)) { rt := post a, nx := fun _ => post a .non }) :
    FnOk g.P g.w g.K g.mg g.base CX0 (k + 1) f fd ps (spB g args pre post) := by
  refine F.ok S (fun vs H Q E h => ?_) (fun cdv A outer s H vs Q E hr h => ?_)
  · obtain ⟨B, b, vs', a, rfl, _, _, _, _, r, _⟩ := h
    rw [List.length_cons, ← r.len, hl]
  · obtain ⟨B, b, vs', a, rfl, hb, h3, dom, tb, r, hp, q⟩ := h
    refine ⟨_, PSs.nox (wss_pss (fam_of (T := g.T) (cl := g.cl) (B0 := B) (W := fun x => x = b) (C := fun x => x = b) (H0 := H) S.nd hr)), ?_⟩
    refine body B H b a hp hb ⟨[], []⟩ _ H ⟨Le.refl, dom, fun a h => h, fun z h => by rw [show z = b from h]; exact hb, fun _ h => h, tb, ?_, ?_, fun p hp => by simp at hp, fun q hq => by simp at hq⟩ _ ⟨fun δ σ H' er h => q .non .non H' er.le (by simp [Rep]) h, fun d v H' l rv h => q v d H' l rv h, fun _ _ _ _ h => h.elim, fun _ _ _ _ h => h.elim⟩
    · have e : L2.start N (.ref b :: vs') = some (.ref b) :: (vs'.map some ++ List.replicate (N.length - ps.length) none) := by unfold L2.start; rw [List.length_cons, ← r.len, hl]; rfl
      rw [e]
      intro i r' e'
      cases i with
      | zero =>
        simp at e'
        subst e'
        exact ⟨_, rfl, rfl, rfl, h3⟩
      | succ i =>
        obtain ⟨v, h1, h2⟩ := slots_at (E := Glob.E ⟨g.P, g.w, g.K, g.mg, g.base, g.T, g.cl⟩ k N (defScope st) B (fun x => x = b) (fun x => x = b) H) r i r' (by simpa using e')
        exact ⟨v, by simpa using h1, h2⟩
    · unfold slots L2.start
      have := r.len
      have := hl a
      simp
      omega
theorem ok_I {c : Str} {postI : α → List Str → List D → Prop} {dvs : List V} {kws : List (Str × V)} (F : FunD g.K x qual (defArgs st) (defBody st) (defScope st) dvs kws f fd) (S : FnScope N ps (defScope st)) (hl : ∀ a, (args a).length + 1 = ps.length) (hN : ps.length ≤ N.length)
    (body : ∀ (B0 : Addr → Prop) (H0 : Hp) (p : Addr) (a : α), pre a → B0 p → SV (g.E k N (defScope st) B0 (fun x => x = p) no H0) B0 B0 (defBody st) (some (.ins p c [] []) :: slots (args a) (N.length - ps.length)) { nx := fun δ => ∃ fs l, δ[0]? = some (some (.ins p c fs l)) ∧ postI a fs l }) :
    FnOk g.P g.w g.K g.mg g.base CX0 (k + 1) f fd ps (spI g c args pre postI) := by
  refine F.ok S (fun vs H Q E h => ?_) (fun cdv A outer s H vs Q E hr h => ?_)
  · obtain ⟨B, b, dx, vs', a, rfl, _, _, _, _, r, _⟩ := h
    rw [List.length_cons, ← r.len, hl]
  · obtain ⟨B, p, dx, vs', a, rfl, hb, dom, tb, h3, r, hp, q⟩ := h
    refine ⟨_, PSs.nox (wss_pss (fam_of (T := g.T) (cl := g.cl) (B0 := B) (W := fun x => x = p) (C := no) (H0 := H) S.nd hr)), ?_⟩
    refine body B H p a hp hb ⟨[], []⟩ _ H ⟨Le.refl, dom, fun a h => h, fun z h => h.elim, fun _ h => h.elim, tb, ?_, ?_, fun p hp => by simp at hp, fun q hq => by simp at hq⟩ _ ⟨fun δ σ H' er h => ?_, fun d v H' l rv h => h.elim, fun _ _ _ _ h => h.elim, fun _ _ _ _ h => h.elim⟩
    · have e : L2.start N (.ref p :: vs') = some (.ref p) :: (vs'.map some ++ List.replicate (N.length - ps.length) none) := by unfold L2.start; rw [List.length_cons, ← r.len, hl]; rfl
      rw [e]
      intro i r' e'
      cases i with
      | zero =>
        simp at e'
        subst e'
        exact ⟨_, rfl, rfl, (fun z => z), hb, dx, [], rfl, h3, .nil⟩
      | succ i =>
        obtain ⟨v, h1, h2⟩ := slots_at (E := Glob.E ⟨g.P, g.w, g.K, g.mg, g.base, g.T, g.cl⟩ k N (defScope st) B (fun x => x = p) no H) r i r' (by simpa using e')
        exact ⟨v, by simpa using h1, h2⟩
    · unfold slots L2.start
      have := r.len
      have := hl a
      simp
      omega
    · obtain ⟨fs, l, e1, e2⟩ := h
      obtain ⟨v, _, ev, _, _, dx', ws, hl', e3, rs⟩ := er.at_ 0 _ e1
      exact q H' fs l ws dx' er.le e3 hl' rs e2
end

/-! the calls -/
section
variable {E : EC} {g : Glob} {B : Addr → Prop} {δ : Ds} {H H' H2 : Hp} {v : V} {r : Ent} {e o : Expr} {es : List Expr} {pos p apos : Pos} {P : Ent → Prop} {α : Type} {args : α → List D} {pre : α → Prop} {post : α → D → Prop} {k : Nat} {x c m : Str}
/-- the context is one of g's -/
structure Of (E : EC) (g : Glob) : Prop where
  P : E.P = g.P
  w : E.w = g.w
  K : E.K = g.K
  mg : E.mg = g.mg
  base : E.base = g.base
  T : E.T = g.T
  cl : E.cl = g.cl
theorem of_E {k : Nat} {N : List Str} {sc : Scope} {B0 W C : Addr → Prop} {H0 : Hp} : Of (g.E k N sc B0 W C H0) g := ⟨rfl, rfl, rfl, rfl, rfl, rfl, rfl⟩
theorem Of.blk {scope : Scope} (h : Of E g) : Of (E.blk scope) g := ⟨h.P, h.w, h.K, h.mg, h.base, h.T, h.cl⟩
theorem fam_fn {X : Cx} (hX : Fam E X) (og : Of E g) {CX : CXT} {f : Addr} {fd : FuncData} {ps : List Str} {sp : Sp} (F : FnOk g.P g.w g.K g.mg g.base CX k f fd ps sp) : FnOk X.prog X.w X.K X.mg X.base CX k f fd ps sp := by
  rw [hX.prog, hX.w, hX.K, hX.mg, hX.base, og.P, og.w, og.K, og.mg, og.base]
  exact F
theorem le_no {T : List (Addr × Str)} {W C : Addr → Prop} (l : Le T no no H H') : Le T W C H H' := ⟨fun a o _ e n => l.keep a o (fun z => z) e n, l.dom, l.tabs, fun a _ ⟨x, y, z, e⟩ => ⟨x, y, z, l.keep a _ (fun z => z) e fun ps z => by cases z⟩⟩
/-- f(e, ..) -/
theorem evp_call (F : Fn g k x (spP g args pre post)) (og : Of E g) (hk : k ≤ E.k) (hg : GlS E.sc x) (ha : EAP E (e :: es) δ (fun rs => ∃ a, rs = (args a).map Ent.d ∧ pre a ∧ ∀ d, post a d → P (.d d)))
    (hdb : (x == ("__debug__" : Str)) = false := by decide) (he : ∀ env, starEach (e :: es) env = (false, eval e env) :: starEach es env := by intro _; rfl) (hpl : ∀ env, (backTo pos (starEach es env)).any (·.1) = false := by intro _; rfl) : EVP E (.Call (.Name x p) (e :: es) [] pos) δ P := fun B γ σ H er Q q => by
  obtain ⟨f, fd, ps, F, hm, kp, b⟩ := F.ex
  refine we_of (t := tCall (spP g args pre post) [] E0 (WA (Fam E) (e :: es))) (fun X hX => pe_call (fam_fn hX og F) (hX.room.mono hk) (gl_of hX hg) (by rw [hX.mg, og.mg]; exact hm) (by rw [hX.K, og.K]; exact kp) (by rw [hX.K, og.K]; exact b) .nil pass0 (wa_pa hX) hdb (he _) (hpl _)) ?_
  refine ha B γ σ H er _ fun rs vs H2 hrs l rvs => ?_
  obtain ⟨a, rfl, hp, hd⟩ := hrs
  have er2 := er.step l
  rw [List.append_nil]
  refine ⟨B, a, er2.dom, by rw [← og.T]; exact er2.tabs, by rw [← og.cl]; exact re_ds rvs, hp, fun v d H' l' rv hpost => q (.d d) v H' (hd d hpost) (l.trans (le_no (by rw [og.T]; exact l'))) (by show Rep E.cl B d v H'; rw [og.cl]; exact rv)⟩
theorem ev_call (a : α) {d : D} (F : Fn g k x (spP g args pre post)) (og : Of E g) (hk : k ≤ E.k) (hg : GlS E.sc x) (ha : EA E (e :: es) δ ((args a).map Ent.d)) (hp : pre a) (hd : ∀ d', post a d' → d' = d)
    (hdb : (x == ("__debug__" : Str)) = false := by decide) (he : ∀ env, starEach (e :: es) env = (false, eval e env) :: starEach es env := by intro _; rfl) (hpl : ∀ env, (backTo pos (starEach es env)).any (·.1) = false := by intro _; rfl) : EV E (.Call (.Name x p) (e :: es) [] pos) δ (.d d) :=
  EVP.toV (evp_call F og hk hg (ha.toP ⟨a, rfl, hp, fun d' h => by rw [hd d' h]⟩) hdb he hpl)
/-- a box turned -/
theorem evp_callB {b : Addr} (F : Fn g k x (spB g args pre post)) (og : Of E g) (hC : ∀ z, E.C z ↔ z = b) (hk : k ≤ E.k) (hg : GlS E.sc x) (ha : EAP E (e :: es) δ (fun rs => ∃ a, rs = .box b :: (args a).map Ent.d ∧ pre a ∧ ∀ d, post a d → P (.d d)))
    (hdb : (x == ("__debug__" : Str)) = false := by decide) (he : ∀ env, starEach (e :: es) env = (false, eval e env) :: starEach es env := by intro _; rfl) (hpl : ∀ env, (backTo pos (starEach es env)).any (·.1) = false := by intro _; rfl) : EVP E (.Call (.Name x p) (e :: es) [] pos) δ P := fun B γ σ H er Q q => by
  obtain ⟨f, fd, ps, F, hm, kp, bd⟩ := F.ex
  refine we_of (t := tCall (spB g args pre post) [] E0 (WA (Fam E) (e :: es))) (fun X hX => pe_call (fam_fn hX og F) (hX.room.mono hk) (gl_of hX hg) (by rw [hX.mg, og.mg]; exact hm) (by rw [hX.K, og.K]; exact kp) (by rw [hX.K, og.K]; exact bd) .nil pass0 (wa_pa hX) hdb (he _) (hpl _)) ?_
  refine ha B γ σ H er _ fun rs vs H2 hrs l rvs => ?_
  obtain ⟨a, rfl, hp, hd⟩ := hrs
  have er2 := er.step l
  rw [List.append_nil]
  cases rvs with
  | cons h0 t =>
    obtain ⟨e0, hc0, h3⟩ := h0
    subst e0
    have eC : E.C = fun x => x = b := funext fun z => propext (hC z)
    refine ⟨B, b, _, a, rfl, er2.cb b hc0, h3, er2.dom, by rw [← og.T]; exact er2.tabs, by rw [← og.cl]; exact re_ds t, hp, fun v d H' l' rv hpost => q (.d d) v H' (hd d hpost) (l.trans ?_) (by show Rep E.cl B d v H'; rw [og.cl]; exact rv)⟩
    show Le E.T E.C E.C H2 H'
    rw [eC, og.T]
    exact l'
/-- o.m(e, ..) -/
theorem evp_meth {fs : List Str} {l : List D} (F : Me g k c m (spP g args pre post)) (og : Of E g) (hk : k ≤ E.k) (ho : EV E o δ (.d (.obj c fs l))) (hm : fs.contains m = false) (ha : EAP E es δ (fun rs => ∃ a, .d (.obj c fs l) :: rs = (args a).map Ent.d ∧ pre a ∧ ∀ d, post a d → P (.d d)))
    (t : TE) (ht : ∀ X, Fam E X → ∀ {f : Addr} {fd : FuncData} {ps : List Str}, FnOk X.prog X.w X.K X.mg X.base CX0 k f fd ps (spP g args pre post) → Cls X.K (E.cl c) → Meth X.K (E.cl c) m f → Binds X.K fd ps [] → PE X e t)
    (hr : ∀ σ H Q, tMeth (E.cl c) m (spP g args pre post) [] E0 (WE (Fam E) o) (WA (Fam E) es) σ H Q → t σ H Q) : EVP E e δ P := fun B γ σ H er Q q => by
  obtain ⟨f, fd, ps, F, hc, hme, b⟩ := F.ex
  refine we_of (t := t) (fun X hX => ht X hX (fam_fn hX og F) (by rw [hX.K, og.K, og.cl]; exact hc) (by rw [hX.K, og.K, og.cl]; exact hme) (by rw [hX.K, og.K]; exact b)) (hr _ _ _ ?_)
  refine ho B γ σ H er _ fun v H1 l1 rv => ?_
  have rv0 := rv
  simp only [RE, Rep] at rv
  obtain ⟨p, dx, ws, rfl, nB, hlen, hp, rs⟩ := rv
  refine ⟨p, dx, _, rfl, hp, ?_, ?_⟩
  · have : ∀ (fs : List Str) (ws : List V), fs.contains m = false → (fs.zip ws).lookup m = none := by
      intro fs
      induction fs with
      | nil => intro ws _; rfl
      | cons a fs ih =>
        intro ws h
        cases ws with
        | nil => rfl
        | cons w ws =>
          rw [List.contains_cons, Bool.or_eq_false_iff] at h
          rw [List.zip_cons_cons, List.lookup_cons, h.1]
          exact ih ws h.2
    exact this fs ws hm
  · refine ha B γ σ H1 (er.step l1) _ fun rs vs H2 hrs l2 rvs => ?_
    obtain ⟨a, ea, hp', hd⟩ := hrs
    have er2 := (er.step l1).step l2
    rw [List.append_nil]
    have r2 : REs E B H2 ((args a).map Ent.d) (.ref p :: vs) := by
      rw [← ea]
      exact .cons (rv0.step l2 er.cb) rvs
    exact ⟨B, a, er2.dom, by rw [← og.T]; exact er2.tabs, by rw [← og.cl]; exact re_ds r2, hp', fun v d H' l' rv hpost => q (.d d) v H' (hd d hpost) ((l1.trans l2).trans (le_no (by rw [og.T]; exact l'))) (by show Rep E.cl B d v H'; rw [og.cl]; exact rv)⟩
theorem ev_meth {fs : List Str} {l : List D} (a : α) {d : D} {ds : List D} (F : Me g k c m (spP g args pre post)) (og : Of E g) (hk : k ≤ E.k) (ho : EV E o δ (.d (.obj c fs l))) (hm : fs.contains m = false) (ha : EA E (e :: es) δ (ds.map Ent.d)) (hds : .obj c fs l :: ds = args a) (hp : pre a) (hd : ∀ d', post a d' → d' = d)
    {pl : Sem Bool} (hst : ∀ env, starEach (e :: es) env = (false, eval e env) :: starEach es env := by intro _; rfl) (hpl : ∀ env, (backTo pos (starEach es env)).any (·.1) = false := by intro _; rfl)
    (plE : Env → Sem Bool) (ht : ∀ env, eval (.Call (.Attribute o m apos) (e :: es) [] pos) env = (do
      let ov ← eval o env
      standAt apos.atName
      let (f, first) ← holding [ov] (getMethod ov m (plE env))
      callWith pos f first (backTo pos (starEach (e :: es) env)) (backToKw pos (keywordEach [] env))) := by intro _; rfl) : EV E (.Call (.Attribute o m apos) (e :: es) [] pos) δ (.d d) :=
  EVP.toV (evp_meth F og hk ho hm (ha.toP ⟨a, by rw [← hds]; rfl, hp, fun d' h => by rw [hd d' h]⟩) (tMeth (E.cl c) m (spP g args pre post) [] E0 (WE (Fam E) o) (WA (Fam E) (e :: es)))
    (fun X hX f fd ps F hc hme b => pe_meth (we_pe hX) hc hme F (hX.room.mono hk) b .nil pass0 (wa_pa hX) (hst _) (hpl _) (ht _)) fun _ _ _ h => h)
/-- o.f -/
theorem lookup_zip {f : Str} : ∀ {fs : List Str} {l : List D} {ws : List V} {d : D} {cl : Str → Addr}, Reps cl B l ws H → (fs.zip l).lookup f = some d → ∃ v, (fs.zip ws).lookup f = some v ∧ Rep cl B d v H
  | [], l, ws, d, cl, h, e => by simp at e
  | a :: fs, [], ws, d, cl, h, e => by simp at e
  | a :: fs, x :: l, ws, d, cl, h, e => by
    obtain ⟨v, vs', rfl, r, rs⟩ := reps_cons.mp h
    rw [List.zip_cons_cons, List.lookup_cons] at e ⊢
    cases q : (f == a) with
    | true =>
      rw [q] at e
      cases e
      exact ⟨v, rfl, r⟩
    | false =>
      rw [q] at e
      exact lookup_zip rs e
theorem ev_fld {fs : List Str} {l : List D} {f : Str} {d : D} (og : Of E g) (hc : Cls g.K (g.cl c)) (hn : NoAttr g.K (g.cl c) f) (ho : EV E o δ (.d (.obj c fs l))) (hl : (fs.zip l).lookup f = some d) (hb : ∀ env, attributeBase o f env (eval o env) = eval o env := by intro _; rfl) : EV E (.Attribute o f pos) δ (.d d) := fun B γ σ H er Q q =>
  we_of (t := tFld E.K (WE (Fam E) o) f) (fun X hX => by rw [← hX.K]; exact pe_fld (we_pe hX) (hb _)) (ho B γ σ H er _ fun v H1 l1 rv => by
    simp only [RE, Rep] at rv
    obtain ⟨p, dx, ws, rfl, nB, hlen, hp, rs⟩ := rv
    obtain ⟨w, hw, rw'⟩ := lookup_zip rs hl
    exact ⟨p, _, dx, _, w, rfl, hp, by rw [og.K, og.cl]; exact hc, by rw [og.K, og.cl]; exact hn, hw, q w H1 l1 rw'⟩)
/-- a constant of the class -/
theorem ev_con {fs : List Str} {l : List D} {f : Str} {d : D} {w : V} {u : Value} (og : Of E g) (hc : Cls g.K (g.cl c)) (hn : Con g.K (g.cl c) f w u) (ho : EV E o δ (.d (.obj c fs l))) (hl : fs.contains f = false) (hd : ∀ B H, Rep E.cl B d w H) (hb : ∀ env, attributeBase o f env (eval o env) = eval o env := by intro _; rfl) : EV E (.Attribute o f pos) δ (.d d) := fun B γ σ H er Q q =>
  we_of (t := tCon E.K (WE (Fam E) o) f) (fun X hX => by rw [← hX.K]; exact pe_con (we_pe hX) (hb _)) (ho B γ σ H er _ fun v H1 l1 rv => by
    simp only [RE, Rep] at rv
    obtain ⟨p, dx, ws, rfl, nB, hlen, hp, rs⟩ := rv
    have : ∀ (fs : List Str) (ws : List V), fs.contains f = false → (fs.zip ws).lookup f = none := by
      intro fs
      induction fs with
      | nil => intro ws _; rfl
      | cons a fs ih =>
        intro ws h
        cases ws with
        | nil => rfl
        | cons w ws =>
          rw [List.contains_cons, Bool.or_eq_false_iff] at h
          rw [List.zip_cons_cons, List.lookup_cons, h.1]
          exact ih ws h.2
    exact ⟨p, _, dx, _, w, u, rfl, hp, by rw [og.K, og.cl]; exact hc, by rw [og.K, og.cl]; exact hn, this fs ws hl, q w H1 l1 (hd B H1)⟩)
theorem ev_coni {p : Addr} {fs : List Str} {l : List D} {f : Str} {d : D} {w : V} {u : Value} (og : Of E g) (hc : Cls g.K (g.cl c)) (hn : Con g.K (g.cl c) f w u) (ho : EV E o δ (.ins p c fs l)) (hl : fs.contains f = false) (hd : ∀ B H, Rep E.cl B d w H) (hb : ∀ env, attributeBase o f env (eval o env) = eval o env := by intro _; rfl) : EV E (.Attribute o f pos) δ (.d d) := fun B γ σ H er Q q =>
  we_of (t := tCon E.K (WE (Fam E) o) f) (fun X hX => by rw [← hX.K]; exact pe_con (we_pe hX) (hb _)) (ho B γ σ H er _ fun v H1 l1 rv => by
    obtain ⟨rfl, _, _, dx, ws, hlen, hp, rs⟩ := rv
    have : ∀ (fs : List Str) (ws : List V), fs.contains f = false → (fs.zip ws).lookup f = none := by
      intro fs
      induction fs with
      | nil => intro ws _; rfl
      | cons a fs ih =>
        intro ws h
        cases ws with
        | nil => rfl
        | cons w ws =>
          rw [List.contains_cons, Bool.or_eq_false_iff] at h
          rw [List.zip_cons_cons, List.lookup_cons, h.1]
          exact ih ws h.2
    exact ⟨p, _, dx, _, w, u, rfl, hp, by rw [og.K, og.cl]; exact hc, by rw [og.K, og.cl]; exact hn, this fs ws hl, q w H1 l1 (hd B H1)⟩)
/-- self.f of an instance being made -/
theorem ev_fldi {p : Addr} {fs : List Str} {l : List D} {f : Str} {d : D} (og : Of E g) (hc : Cls g.K (g.cl c)) (hn : NoAttr g.K (g.cl c) f) (ho : EV E o δ (.ins p c fs l)) (hl : (fs.zip l).lookup f = some d) (hb : ∀ env, attributeBase o f env (eval o env) = eval o env := by intro _; rfl) : EV E (.Attribute o f pos) δ (.d d) := fun B γ σ H er Q q =>
  we_of (t := tFld E.K (WE (Fam E) o) f) (fun X hX => by rw [← hX.K]; exact pe_fld (we_pe hX) (hb _)) (ho B γ σ H er _ fun v H1 l1 rv => by
    obtain ⟨rfl, _, _, dx, ws, hlen, hp, rs⟩ := rv
    obtain ⟨w, hw, rw'⟩ := lookup_zip rs hl
    exact ⟨p, _, dx, _, w, rfl, hp, by rw [og.K, og.cl]; exact hc, by rw [og.K, og.cl]; exact hn, hw, q w H1 l1 rw'⟩)
/-- a property -/
theorem ev_prop {fs : List Str} {l : List D} {f : Str} {d : D} (a : α) (F : Pr g k c f (spP g args pre post)) (og : Of E g) (hk : k + 1 ≤ E.k) (ho : EV E o δ (.d (.obj c fs l))) (hds : [.obj c fs l] = args a) (hp : pre a) (hd : ∀ d', post a d' → d' = d)
    (hb : ∀ env, attributeBase o f env (eval o env) = eval o env := by intro _; rfl) : EV E (.Attribute o f pos) δ (.d d) := fun B γ σ H er Q q => by
  obtain ⟨f, pa, fd, ps, F, hc, hpr, b⟩ := F.ex
  refine we_of (t := tProp (E.cl c) (spP g args pre post) [] E0 (WE (Fam E) o)) (fun X hX => pe_prop (we_pe hX) (by rw [hX.K, og.K, og.cl]; exact hc) (by rw [hX.K, og.K, og.cl]; exact hpr) (fam_fn hX og F) (hX.room.mono hk) (by rw [hX.K, og.K]; exact b) .nil pass0 (hb _)) ?_
  refine ho B γ σ H er _ fun v H1 l1 rv => ?_
  have rv0 := rv
  simp only [RE, Rep] at rv
  obtain ⟨p, dx, ws, rfl, nB, hlen, hp', rs⟩ := rv
  have er1 := er.step l1
  refine ⟨p, dx, _, rfl, hp', B, a, er1.dom, by rw [← og.T]; exact er1.tabs, by rw [← og.cl, ← hds]; exact .cons rv0 .nil, hp, fun v d' H' l' rv hpost => q v H' (l1.trans (le_no (by rw [og.T]; exact l'))) ?_⟩
  rw [← hd d' hpost]
  show Rep E.cl B d' v H'
  rw [og.cl]
  exact rv
/-- C(e, ..) -/
theorem evp_make {postI : α → List Str → List D → Prop} (F : Mak g k c (spI g c args pre postI)) (og : Of E g) (hk : k + 1 ≤ E.k) (hg : GlS E.sc c) (ha : EAP E (e :: es) δ (fun rs => ∃ a, rs = (args a).map Ent.d ∧ pre a ∧ ∀ fs l, postI a fs l → P (.d (.obj c fs l))))
    (hdb : (c == ("__debug__" : Str)) = false := by decide) (he : ∀ env, starEach (e :: es) env = (false, eval e env) :: starEach es env := by intro _; rfl) (hpl : ∀ env, (backTo pos (starEach es env)).any (·.1) = false := by intro _; rfl) : EVP E (.Call (.Name c p) (e :: es) [] pos) δ P := fun B γ σ H er Q q => by
  obtain ⟨f, fd, ps, F, hmk, hm, b⟩ := F.ex
  refine we_of (t := tMake (E.cl c) (spI g c args pre postI) [] E0 (WA (Fam E) (e :: es))) (fun X hX => pe_make (by rw [hX.K, og.K, og.cl]; exact hmk) (fam_fn hX og F) (hX.room.mono hk) (gl_of hX hg) (by rw [hX.mg, og.mg, og.cl]; exact hm) (by rw [hX.K, og.K]; exact b) .nil pass0 (wa_pa hX) hdb (he _) (hpl _)) ?_
  refine ha B γ σ H er _ fun rs vs H1 hrs l1 rvs => ?_
  obtain ⟨a, rfl, hp, hd⟩ := hrs
  have er1 := er.step l1
  intro x dx nx ndx nex
  have l2 : LeC E H1 (upd (upd H1 dx (.own x)) x (.ins (E.cl c) dx [])) := (LeC.new ndx).trans (LeC.new (by rw [upd_ne nex.symm]; exact nx))
  rw [List.append_nil]
  refine ⟨fun a => B a ∨ a = x, x, dx, vs, a, rfl, .inr rfl, fun a ha => ha.elim ((er1.step l2).dom a) fun z => by rw [z, upd_same]; simp, by rw [← og.T]; exact (er1.step l2).tabs, by rw [upd_same, og.cl], ?_, hp, fun H' fs l ws dx' l3 e3 hlen rs hpost => ⟨rfl, q _ _ H' (hd fs l hpost) ?_ ?_⟩⟩
  · have k2 : Kd (fun a => B a ∨ a = x) B H1 (upd (upd H1 dx (.own x)) x (.ins (E.cl c) dx [])) := Le.kd l2 er.cb fun a ha hn => ha.elim (fun z => z) fun z => absurd nx (by rw [← z]; exact hn)
    rw [← og.cl]
    exact Reps.kd k2 _ _ (re_ds rvs)
  · refine (l1.trans ?_)
    have key : ∀ a o, H1 a = some o → a ≠ x ∧ upd (upd H1 dx (.own x)) x (.ins (E.cl c) dx []) a = some o := fun a o e => by
      have h1 : a ≠ x := ne_of_none e nx
      exact ⟨h1, by rw [upd_ne h1, upd_ne (ne_of_none e ndx)]; exact e⟩
    refine ⟨fun a o _ e n => ?_, fun a ha => ?_, fun t => ?_, fun a _ ⟨x1, y1, z1, e⟩ => ?_⟩
    · obtain ⟨h1, h2⟩ := key a o e
      exact l3.keep a o h1 h2 n
    · cases q' : H1 a with
      | none => exact absurd q' ha
      | some o =>
        obtain ⟨h1, h2⟩ := key a o q'
        exact l3.dom a (by rw [h2]; simp)
    · rw [og.T] at t ⊢
      refine l3.tabs ?_
      have := l2.tabs (show LamX.Tabs E.T H1 by rw [og.T]; exact t)
      rw [og.T] at this
      exact this
    · obtain ⟨h1, h2⟩ := key a _ e
      exact ⟨x1, y1, z1, l3.keep a _ h1 h2 fun ps z => by cases z⟩
  · simp only [RE, Rep]
    have k3 : Kd B (fun a => B a ∨ a = x) H' H' := ⟨fun a _ nb z => nb (.inl z), fun a u _ _ r => r, fun a u _ _ r => r⟩
    refine ⟨x, dx', ws, rfl, fun z => er1.dom x z nx, hlen, by rw [og.cl]; exact e3, ?_⟩
    rw [og.cl]
    exact Reps.kd k3 _ _ rs
end
end Nb
set_option Elab.async false
set_option linter.all false
set_option maxRecDepth 100000
set_option maxHeartbeats 2000000
/-! own lists and dicts, several targets, slices, truth -/
namespace Nb
open PySem PySem.Spec PyProof.Rows L2

section
variable {E : EC} {B Bo : Addr → Prop} {δ : Ds} {γ : Gh} {σ : L2.St} {Ω Ω' : Post} {ss : List Stmt} {H H' H2 : Hp} {v : V} {r ra rb rc : Ent} {x : D} {e a b : Expr} {es : List Expr} {pos pos' p apos : Pos} {P : D → Prop}
/-! what is new -/
theorem EN.imp {P' : D → Prop} (h : EN E e δ P) (m : ∀ d, P d → P' d) : EN E e δ P' := fun B γ σ H er Q q => h B γ σ H er Q fun p d H2 hp hd l t => q p d H2 hp (m d hd) l t
theorem reps_grow {l : List D} {vs : List V} (er : ER E B δ γ σ H) {p : Addr} (hp : H p = none) (l1 : LeC E H H2) (rs : Reps E.cl B l vs H) : Reps E.cl (fun a => B a ∨ a = p) l vs H2 :=
  Reps.kd (Le.kd l1 er.cb fun a ha hn => ha.elim (fun z => z) fun z => absurd hp (by rw [← z]; exact hn)) _ _ rs
theorem en_lst {ds : List D} (ha : EA E es δ (ds.map Ent.d)) (hz : ds.length ≤ 1000) : EN E (.List es pos) δ (fun d => d = .lst ds) := fun B γ σ H er Q q =>
  we_of (fun X hX => pe_lst (wa_pa hX)) (ha B γ σ H er _ fun vs H1 l1 rs => by
    have r := re_ds rs
    exact ⟨by rw [← r.len]; exact Nat.le_of_lt (small1000 hz), fun p hp => q p _ _ (l1.fresh hp) rfl (l1.trans (LeC.new hp)) ⟨vs, upd_same, reps_grow (er.step l1) hp (LeC.new hp) r⟩⟩)
theorem en_nil : EN E (.List [] pos) δ (fun d => d = .lst []) := en_lst (ds := []) ea_nil (by simp)
theorem en_dct : EN E (.Dict [] [] pos) δ (fun d => d = .dct [] []) := fun B γ σ H er Q q =>
  we_of (fun X hX => pe_dnewK) (fun p hp => q p _ _ hp rfl (LeC.new hp) ⟨[], rfl, upd_same, .nil⟩)
theorem en_list {l : List D} {x : D} (ha : EV E e δ (.wk x)) (hx : seqOf x = some l) (hg : GlS E.sc "list") (hm : E.mg "list" = none) (hs : ∀ env, starEach [e] env = (false, eval e env) :: starEach [] env := by intro _; rfl) (hpl : ∀ env, (backTo pos (starEach [] env)).any (·.1) = false := by intro _; rfl) : EN E (.Call (.Name "list" p) [e] [] pos) δ (fun d => d = .lst l) := fun B γ σ H er Q q =>
  we_of (fun X hX => pe_callTy (fam_Kc hX (r := fun K xs H Q => ∃ p ys, xs = [.ref p] ∧ (SqL K H p ys ∨ SqT K H p ys) ∧ ∀ l, H l = none → Q (.ref l) (upd H l (.lst ys))) call_list_of) (gl_of hX hg) (by rw [hX.mg]; exact hm) (by decide +kernel) (wa_pa hX) (by decide) (by decide) (hs _) (hpl _)) (ea_1 ha hs B γ σ H er _ fun vs H1 l1 rs => by
    obtain ⟨v, rfl, rv⟩ := rs.one
    obtain ⟨p, ws, rfl, h1, h2, h3⟩ := wk_seq hx rv
    exact ⟨p, ws, rfl, h2.imp (fun h => .inl (.inl h)) (fun h => .inl (.inl h)), fun t ht => q t _ _ (l1.fresh ht) rfl (l1.trans (LeC.new ht)) ⟨ws, upd_same, reps_grow (er.step l1) ht (LeC.new ht) h3⟩⟩)
/-- a comprehension's list -/
theorem en_lc {tg it elt : Expr} {ifs : List Expr} {scope : Scope} {τ : Type} {xs : List τ} {c : τ → D} {td : τ → List (Nat × Ent)} {t : τ → Bool} {Pf : τ → D → Prop} (own : List (Str × Nat)) (hi : EI E false tg it δ (xs.map c)) (hz : xs.length ≤ 1000) (ok : BlkOk E.N E.sc scope own)
    (hg : ∀ d ∈ xs, EG (E.blk scope) tg (.d (c d)) (td d)) (hown : ∀ d ∈ xs, ∀ q ∈ td d, q.1 ∈ own.map (·.2))
    (ht : ∀ d ∈ xs, ETs (E.blk scope) ifs (setAll (wipeD δ (own.map (·.2))) (td d)) (t d))
    (he : ∀ d ∈ xs, t d = true → EVP (E.blk scope) elt (setAll (wipeD δ (own.map (·.2))) (td d)) (fun r => ∃ y, r = .d y ∧ Pf d y))
    (hs : ∀ env x, foldedSetIterable it env x = pure x := by intro _ _; rfl) : EN E (.ListComp elt [⟨tg, it, ifs, 0⟩] scope pos) δ (fun d => ∃ m, d = .lst m ∧ Made Pf t xs m) := fun B γ σ H er Q q =>
  we_of (t := tLc (WI (Fam E) tg it) (WG (Fam (E.blk scope)) tg) (WTs (Fam (E.blk scope)) ifs) (WE (Fam (E.blk scope)) elt) (own.map (·.2)))
    (fun X hX => pe_lc hX.calm hX.nd (wi_pi hX) (by rw [hX.N, hX.sc]; exact ok) (fun s H C cl fp => wg_pg (fam_blk hX scope s H C cl fp)) (fun s H C cl fp => wts_pts (fam_blk hX scope s H C cl fp)) (fun s H C cl fp => we_pe (fam_blk hX scope s H C cl fp)) (hs _))
    (lc_read hi hz hg hown ht he er fun p m vs H2 hp l hm hv hr => q p _ H2 hp ⟨m, rfl, hm⟩ l ⟨vs, hv, hr⟩)

/-- x = e, e new: one's own from now on -/
theorem sv_new (i : Nat) {y : Str} (hi : E.N[i]? = some y) (hx : Loc E.sc y) (h : EN E e δ P) (ns : noScr δ = true) (k : ∀ q d, P d → ¬ B q → Apart q δ → SV E (fun a => B a ∨ a = q) Bo ss (δ.set i (some (.own q d))) Ω)
    (hs : ∀ env, swapsWith e (some (.Name y pos')) pos.line env = pure false := by intro _; rfl) (hf : E.fn y = true ∨ E.sc.names.lookup y = some .local := by first | exact .inl rfl | exact .inr rfl) : SV E B Bo (.Assign [.Name y pos'] e pos :: ss) δ Ω := fun γ σ H er D s =>
  wss_then (ws_of (t := tAsg (WE (Fam E) e) (gName i)) (fun X hX => ps_set hX.nd (by rw [hX.N]; exact hi) (by rw [hX.sc]; exact hx) (we_pe hX) (hs _) (by rw [hX.fn, hX.sc]; exact hf)) (en_step h er ns fun q d H2 hd nB ap l er2 rv => k q d hd nB ap γ _ H2 (er2.set i rv) D s))
/-- x = [.. for ..] on one line: stored within -/
theorem sv_setLc {tg it elt : Expr} {ifs : List Expr} {scope : Scope} {τ : Type} {xs : List τ} {c : τ → D} {td : τ → List (Nat × Ent)} {t : τ → Bool} {Pf : τ → D → Prop} (i : Nat) {y : Str} {py : Pos} (hiN : E.N[i]? = some y) (hx : E.sc.names.lookup y = some .local) (hkind : E.sc.kind = .function) (own : List (Str × Nat)) (hi : EI E false tg it δ (xs.map c)) (hz : xs.length ≤ 1000) (ok : BlkOk E.N E.sc scope own)
    (hg : ∀ d ∈ xs, EG (E.blk scope) tg (.d (c d)) (td d)) (hown : ∀ d ∈ xs, ∀ q ∈ td d, q.1 ∈ own.map (·.2))
    (ht : ∀ d ∈ xs, ETs (E.blk scope) ifs (setAll (wipeD δ (own.map (·.2))) (td d)) (t d))
    (he : ∀ d ∈ xs, t d = true → EVP (E.blk scope) elt (setAll (wipeD δ (own.map (·.2))) (td d)) (fun r => ∃ y, r = .d y ∧ Pf d y))
    (k : ∀ m, Made Pf t xs m → SV E B Bo ss (δ.set i (some (.d (.lst m)))) Ω)
    (hl : (py.line == pos.line) = true := by rfl) (hown2 : (scope.names.any fun (n, k) => n == y && (k == .local || k == .cell)) = false := by decide +kernel) (hp : pos'.line = pos.line := by rfl)
    (hs : ∀ env x, foldedSetIterable it env x = pure x := by intro _ _; rfl) : SV E B Bo (.Assign [.Name y py] (.ListComp elt [⟨tg, it, ifs, 0⟩] scope pos) pos' :: ss) δ Ω := fun γ σ H er D s =>
  wss_then (ws_of (t := tAsg (tLc (WI (Fam E) tg it) (WG (Fam (E.blk scope)) tg) (WTs (Fam (E.blk scope)) ifs) (WE (Fam (E.blk scope)) elt) (own.map fun q : Str × Nat => q.2)) (gName i))
    (fun X hX => ps_setLc hX.calm hX.nd (by rw [hX.N]; exact hiN) (by rw [hX.sc]; exact hx) (sw_true (by rw [hX.sc]; exact hkind) (by rw [hX.sc]; exact hx) hl hown2) (wi_pi hX) (by rw [hX.N, hX.sc]; exact ok) (fun s H C cl fp => wg_pg (fam_blk hX scope s H C cl fp)) (fun s H C cl fp => wts_pts (fam_blk hX scope s H C cl fp)) (fun s H C cl fp => we_pe (fam_blk hX scope s H C cl fp)) (hs _))
    (show tLc (WI (Fam E) tg it) (WG (Fam (E.blk scope)) tg) (WTs (Fam (E.blk scope)) ifs) (WE (Fam (E.blk scope)) elt) (own.map (·.2)) σ H (fun x H1 => WSs (Fam E) ss D (σ.set i (some x)) H1) from
      lc_read hi hz hg hown ht he er fun p m vs H2 hp l hm hv hr => k m hm γ _ H2 ((er.step l).set i (by
      simp only [RE, Rep]
      have k2 : Kd B (fun a => B a ∨ a = p) H2 H2 := ⟨fun a _ nb z => nb (.inl z), fun a u _ _ r => r, fun a u _ _ r => r⟩
      exact ⟨p, vs, rfl, fun z => er.dom p z hp, hv, Reps.kd k2 _ _ hr⟩)) D s))

/-! x.append(e), x.extend(e) -/
theorem own_lst {q : Addr} {l : List D} (h : RE E B (.own q (.lst l)) v H) : v = .ref q ∧ ¬ E.C q ∧ ∃ vs, H q = some (.lst vs) ∧ Reps E.cl B l vs H := by
  obtain ⟨e, h1, h2, h4, vs, h5, h6⟩ := h
  exact ⟨e, h1, vs, h5, h6⟩
theorem upd_reps {q : Addr} {o : HO} {l : List D} {vs : List V} (hp : B q) (r : Reps E.cl B l vs H) : Reps E.cl B l vs (upd H q o) := Reps.kd (mut_kd hp) _ _ r
theorem upd_rep {q : Addr} {o : HO} {d : D} {v : V} (hp : B q) (r : Rep E.cl B d v H) : Rep E.cl B d v (upd H q o) := Rep.kd (mut_kd hp) _ _ r
theorem sv_append (i : Nat) {y : Str} {q : Addr} {l : List D} {py : Pos} (hN : E.N[i]? = some y) (hv : Vis E.sc y) (hδ : δ[i]? = some (some (.own q (.lst l)))) (hB : B q) (ha : Apart q (δ.set i none)) (hz : l.length < 1000) (h : EVP E e δ (fun r => ∃ d, r = .d d ∧ P d))
    (k : ∀ d, P d → SV E B Bo ss (δ.set i (some (.own q (.lst (l ++ [d]))))) Ω)
    (hd : (y == ("__debug__" : Str)) = false := by decide) (hcd : (y == ("__classdict__" : Str)) = false := by decide)
    (hfew : ∀ env, ((backTo p (starEach [e] env)).all (fun x => !x.1) && (backToKw p (keywordEach [] env)).all (fun x => x.1.isSome) && decide (([e] : List Expr).length + ([] : List Keyword).length + (if ([] : List Keyword).isEmpty then 0 else 1) < 30)) = true := by intro _; rfl)
    (hline : (apos.endLine == p.line) = true := by rfl) (hs : ∀ env, starEach [e] env = (false, eval e env) :: starEach [] env := by intro _; rfl) : SV E B Bo (.Expr (.Call (.Attribute (.Name y py) "append" apos) [e] [] p) pos :: ss) δ Ω := fun γ σ H er D s => by
  refine wss_then (ws_of (t := tDrop (tBM E.K "list" rAppend (WE (Fam E) (.Name y py)) (WA (Fam E) [e]))) (fun X hX => ps_expr (by rw [← hX.K]; exact pe_bm PySem.F.plainAttrs_list PySem.F.slot_list_append PySem.F.type_list_append mt_append (we_pe hX) (wa_pa hX) rfl (hfew _) hline (hs _) rfl) rfl) ?_)
  refine ev_var i hN hv hδ hd hcd B γ σ H er _ fun v H1 l1 rv => ?_
  obtain ⟨rfl, nC, vs0, h0, _⟩ := own_lst rv
  have er1 := er.step l1
  refine ⟨.inl ⟨rfl, vs0, .inl (.inl h0)⟩, ?_⟩
  refine wa_of (fun X hX => pa_cons (we_pe hX) (wa_pa hX) (hs _)) (h B γ σ H1 er1 _ fun r w H2 ⟨d, hr, hp⟩ l2 rw' => wa_of (fun X hX => pa_nil) ?_)
  subst hr
  have er2 := er1.step l2
  obtain ⟨_, _, vs, h2, r2⟩ := own_lst (rv.step l2 er.cb)
  refine ⟨q, vs, w, rfl, rfl, h2, by rw [← r2.len]; exact small1000 (Nat.le_of_lt hz), k d hp γ σ _ ?_ D s⟩
  exact er2.mut hδ hB ha ⟨vs ++ [w], upd_same, upd_reps hB (r2.snoc rw')⟩
theorem sv_extend (i : Nat) {y : Str} {q : Addr} {l : List D} {py : Pos} {Pm : List D → Prop} (hN : E.N[i]? = some y) (hv : Vis E.sc y) (hδ : δ[i]? = some (some (.own q (.lst l)))) (hB : B q) (ha : Apart q (δ.set i none)) (h : EVP E e δ (fun r => ∃ m, r = .d (.lst m) ∧ Pm m)) (hz : ∀ m, Pm m → l.length + m.length ≤ 1000)
    (k : ∀ m, Pm m → SV E B Bo ss (δ.set i (some (.own q (.lst (l ++ m))))) Ω)
    (hd : (y == ("__debug__" : Str)) = false := by decide) (hcd : (y == ("__classdict__" : Str)) = false := by decide)
    (hfew : ∀ env, ((backTo p (starEach [e] env)).all (fun x => !x.1) && (backToKw p (keywordEach [] env)).all (fun x => x.1.isSome) && decide (([e] : List Expr).length + ([] : List Keyword).length + (if ([] : List Keyword).isEmpty then 0 else 1) < 30)) = true := by intro _; rfl)
    (hline : (apos.endLine == p.line) = true := by rfl) (hs : ∀ env, starEach [e] env = (false, eval e env) :: starEach [] env := by intro _; rfl) : SV E B Bo (.Expr (.Call (.Attribute (.Name y py) "extend" apos) [e] [] p) pos :: ss) δ Ω := fun γ σ H er D s => by
  refine wss_then (ws_of (t := tDrop (tBM E.K "list" rExtend (WE (Fam E) (.Name y py)) (WA (Fam E) [e]))) (fun X hX => ps_expr (by rw [← hX.K]; exact pe_bm PySem.F.plainAttrs_list PySem.F.slot_list_extend PySem.F.type_list_extend mt_extend (we_pe hX) (wa_pa hX) rfl (hfew _) hline (hs _) rfl) rfl) ?_)
  refine ev_var i hN hv hδ hd hcd B γ σ H er _ fun v H1 l1 rv => ?_
  obtain ⟨rfl, nC, vs0, h0, _⟩ := own_lst rv
  have er1 := er.step l1
  refine ⟨.inl ⟨rfl, vs0, .inl (.inl h0)⟩, ?_⟩
  refine wa_of (fun X hX => pa_cons (we_pe hX) (wa_pa hX) (hs _)) (h B γ σ H1 er1 _ fun r w H2 ⟨m, hr, hp⟩ l2 rw' => wa_of (fun X hX => pa_nil) ?_)
  subst hr
  have er2 := er1.step l2
  obtain ⟨_, _, vs, h2, r2⟩ := own_lst (rv.step l2 er.cb)
  obtain ⟨pm, ws, rfl, nB, hm, rm⟩ := re_lst rw'
  refine ⟨q, pm, vs, ws, rfl, rfl, h2, hm, by rw [← r2.len, ← rm.len]; exact Nat.le_of_lt (small1000 (hz m hp)), k m hp γ σ _ ?_ D s⟩
  exact er2.mut hδ hB ha ⟨vs ++ ws, upd_same, upd_reps hB (r2.append rm)⟩

/-! dicts with text keys -/
def lookD : List Str → List D → Str → Option D
  | k :: ks, d :: l, s => if k = s then some d else lookD ks l s
  | _, _, _ => none
def putD : List Str → List D → Str → D → List Str × List D
  | k :: ks, d :: l, s, y => if k = s then (k :: ks, y :: l) else let (ks', l') := putD ks l s y; (k :: ks', d :: l')
  | _, _, s, y => ([s], [y])
theorem look_some {cl : Str → Addr} {s : Str} : ∀ {ks : List Str} {l : List D} {vs : List V} {d : D}, Reps cl B l vs H → lookD ks l s = some d → ∃ v, valV ((ks.map Sum.inr : List Key).zip vs) (Sum.inr s) = some v ∧ Rep cl B d v H
  | [], l, vs, d, h, e => by simp [lookD] at e
  | k :: ks, [], vs, d, h, e => by simp [lookD] at e
  | k :: ks, x :: l, vs, d, h, e => by
    obtain ⟨v, vs', rfl, r, rs⟩ := reps_cons.mp h
    unfold lookD at e
    by_cases hk : k = s
    · rw [if_pos hk] at e
      cases e
      exact ⟨v, by rw [List.map_cons, List.zip_cons_cons]; exact valV_pos (by simp [hk]), r⟩
    · rw [if_neg hk] at e
      obtain ⟨w, h1, h2⟩ := look_some rs e
      exact ⟨w, by rw [List.map_cons, List.zip_cons_cons, valV_neg (by simpa using hk)]; exact h1, h2⟩
theorem put_ok {cl : Str → Addr} {s : Str} {y : D} {w : V} (hw : Rep cl B y w H) : ∀ {ks : List Str} {l : List D} {vs : List V}, ks.length = vs.length → Reps cl B l vs H → ks.Nodup →
    ∃ ws, (putD ks l s y).1.length = ws.length ∧ putK ((ks.map Sum.inr : List Key).zip vs) (Sum.inr s) w = ((putD ks l s y).1.map Sum.inr : List Key).zip ws ∧ Reps cl B (putD ks l s y).2 ws H
  | [], l, vs, hl, h, nd => by
    have : vs = [] := List.eq_nil_of_length_eq_zero hl.symm
    subst this
    have : l = [] := List.eq_nil_of_length_eq_zero h.len
    subst this
    exact ⟨[w], rfl, rfl, .cons hw .nil⟩
  | k :: ks, [], vs, hl, h, nd => by
    rw [reps_nil.mp h] at hl
    cases hl
  | k :: ks, x :: l, vs, hl, h, nd => by
    obtain ⟨v, vs', rfl, r, rs⟩ := reps_cons.mp h
    have hl' : ks.length = vs'.length := by simpa using hl
    unfold putD
    by_cases hk : k = s
    · rw [if_pos hk]
      refine ⟨w :: vs', by simpa using hl', ?_, .cons hw rs⟩
      subst hk
      have nk : ∀ p ∈ (ks.map Sum.inr : List Key).zip vs', ¬ p.1 = Sum.inr k := fun p hp e => by
        have h1 := (List.of_mem_zip (a := p.1) (b := p.2) hp).1
        rw [e] at h1
        obtain ⟨z, hz, ez⟩ := List.mem_map.mp h1
        cases ez
        exact (List.nodup_cons.mp nd).1 hz
      unfold putK
      rw [if_pos (by simp)]
      rw [List.map_cons, List.zip_cons_cons, List.map_cons, if_pos rfl, List.zip_cons_cons]
      congr 1
      have e : ((ks.map Sum.inr : List Key).zip vs').map (fun kv => if kv.1 = Sum.inr k then (kv.1, w) else kv) = ((ks.map Sum.inr : List Key).zip vs').map id := List.map_congr_left fun p hp => if_neg (nk p hp)
      rw [e, List.map_id]
    · rw [if_neg hk]
      obtain ⟨ws, h1, h2, h3⟩ := put_ok hw hl' rs (List.nodup_cons.mp nd).2
      refine ⟨v :: ws, by simpa using h1, ?_, .cons r h3⟩
      have hk' : ¬ (Sum.inr k : Key) = Sum.inr s := by simpa using hk
      show putK ((Sum.inr k, v) :: (ks.map Sum.inr : List Key).zip vs') (Sum.inr s) w = (Sum.inr k, v) :: ((putD ks l s y).1.map Sum.inr : List Key).zip ws
      rw [← h2]
      unfold putK
      rw [List.any_cons, List.map_cons, if_neg hk', decide_eq_false hk', Bool.false_or]
      split <;> rfl
theorem ev_dget {ks : List Str} {l : List D} {s : Str} {d : D} (ha : EV E a δ (.wk (.dct ks l))) (hb : EV E b δ (.d (.str s))) (hl : lookD ks l s = some d) (hs : NoSl b) : EV E (.Subscript a b pos) δ (.d d) := fun B γ σ H er Q q =>
  we_of (t := tDGet (WE (Fam E) a) (WE (Fam E) b)) (fun X hX => pe_dget (hu_of hX.room) (we_pe hX) (we_pe hX) hs) (ha B γ σ H er _ fun x H1 l1 rx => hb B γ σ H1 (er.step l1) _ fun y H2 l2 ry => by
    obtain ⟨p, rfl, nC, vs, hlen, h1, h2⟩ := rx.step l2 er.cb
    rw [re_str] at ry
    obtain ⟨v, h3, h4⟩ := look_some h2 hl
    exact ⟨p, v, rfl, .inl ⟨_, Sum.inr s, h1, ry, h3.symm⟩, q v H2 (l1.trans l2) h4⟩)
/-- d[k] = e -/
theorem sv_dput (i : Nat) {y : Str} {q : Addr} {ks : List Str} {l : List D} {s : Str} {py : Pos} (hN : E.N[i]? = some y) (hv : Vis E.sc y) (hδ : δ[i]? = some (some (.own q (.dct ks l)))) (hB : B q) (hap : Apart q (δ.set i none)) (hz : ks.length < 1000) (nd : ks.Nodup) (hk : EV E b δ (.d (.str s))) (h : EVP E e δ (fun r => ∃ d, r = .d d ∧ P d))
    (k : ∀ d, P d → SV E B Bo ss (δ.set i (some (.own q (.dct (putD ks l s d).1 (putD ks l s d).2)))) Ω)
    (hd : (y == ("__debug__" : Str)) = false := by decide) (hcd : (y == ("__classdict__" : Str)) = false := by decide)
    (hs : ∀ env, swapsWith e (some (.Subscript (.Name y py) b pos')) pos.line env = pure false := by intro _; rfl) : SV E B Bo (.Assign [.Subscript (.Name y py) b pos'] e pos :: ss) δ Ω := fun γ σ H er D sat => by
  refine wss_then (ws_of (t := sDPut (WE (Fam E) (.Name y py)) (WE (Fam E) b) (WE (Fam E) e)) (fun X hX => ps_dput (hu_of hX.room) (we_pe hX) (we_pe hX) (we_pe hX) (hs _)) ?_)
  refine h B γ σ H er _ fun r w H1 ⟨d, hr, hp⟩ l1 rw' => ?_
  subst hr
  have er1 := er.step l1
  refine ev_var i hN hv hδ hd hcd B γ σ H1 er1 _ fun v H2 l2 rv => hk B γ σ H2 (er1.step l2) _ fun kv H3 l3 rk => ?_
  have er3 := (er1.step l2).step l3
  obtain ⟨rfl, nC, nB, h0, vs, hlen, h1, h2⟩ := rv.step l3 er.cb
  rw [re_str] at rk
  subst rk
  obtain ⟨ws, e1, e2, e3⟩ := put_ok (s := s) ((rw'.step l2 er.cb).step l3 er.cb) hlen h2 nd
  refine ⟨q, _, rfl, DPut.k (k := Sum.inr s) h1 (small1000 (by rw [List.length_zip, List.length_map]; omega)), k d hp γ σ _ ?_ D sat⟩
  rw [e2]
  exact er3.mut hδ hB hap ⟨ws, e1, upd_same, upd_reps hB e3⟩

/-! self.f = e in an instance being made -/
theorem putF_zip {f : Str} {w : V} : ∀ {fs : List Str} {ws : List V}, fs.length = ws.length → f ∉ fs → putF f w (fs.zip ws) = (fs ++ [f]).zip (ws ++ [w])
  | [], [], _, _ => rfl
  | [], _ :: _, h, _ => by cases h
  | _ :: _, [], h, _ => by cases h
  | a :: fs, b :: ws, h, hn => by
    have ih := putF_zip (w := w) (show fs.length = ws.length by simpa using h) (fun z => hn (List.mem_cons_of_mem _ z))
    show (if a = f then _ else (a, b) :: putF f w (fs.zip ws)) = _
    rw [if_neg (fun z => hn (by rw [z]; exact List.mem_cons_self)), ih]
    rfl
theorem sv_fld {g : Glob} (i : Nat) {y c f : Str} {q : Addr} {fs : List Str} {l : List D} {py : Pos} (og : Of E g) (hc : Cls g.K (g.cl c)) (hn : NoAttr g.K (g.cl c) f) (hW : E.W q) (hN : E.N[i]? = some y) (hv : Vis E.sc y) (hδ : δ[i]? = some (some (.ins q c fs l))) (hone : ∀ (j : Nat) c' fs' l', δ[j]? = some (some (.ins q c' fs' l')) → j = i) (hf : f ∉ fs) (hz : fs.length < 100) (h : EVP E e δ (fun r => ∃ d, r = .d d ∧ P d))
    (k : ∀ d, P d → SV E B Bo ss (δ.set i (some (.ins q c (fs ++ [f]) (l ++ [d])))) Ω) (ns : noScr δ = true)
    (hd : (y == ("__debug__" : Str)) = false := by decide) (hcd : (y == ("__classdict__" : Str)) = false := by decide)
    (hs : ∀ env, swapsWith e (some (.Attribute (.Name y py) f pos')) pos.line env = pure false := by intro _; rfl) : SV E B Bo (.Assign [.Attribute (.Name y py) f pos'] e pos :: ss) δ Ω := fun γ σ H er D sat => by
  refine wss_then (ws_of (t := sFld E.K (WE (Fam E) (.Name y py)) (WE (Fam E) e) f) (fun X hX => by rw [← hX.K]; exact ps_fld (we_pe hX) (we_pe hX) (hs _)) ?_)
  refine h B γ σ H er _ fun r w H1 ⟨d, hr, hp⟩ l1 rw' => ?_
  subst hr
  have er1 := er.step l1
  refine ev_var i hN hv hδ hd hcd B γ σ H1 er1 _ fun v H2 l2 rv => ?_
  have er2 := er1.step l2
  obtain ⟨v0, hv0, rfl, nC, hB, dx, ws, hlen, h1, h2⟩ := er2.at_ i _ hδ
  obtain ⟨ev, _⟩ := rv
  refine ⟨q, _, dx, _, ev, h1, by rw [og.K, og.cl]; exact hc, by rw [og.K, og.cl]; exact hn, by rw [List.length_zip]; omega, k d hp γ σ _ ?_ D sat⟩
  have kd : Kd B B H2 (upd H2 q (.ins (E.cl c) dx (putF f w (fs.zip ws)))) := mut_kd hB
  refine ⟨⟨fun a u hw e n => ?_, fun a ha => ?_, fun t => tabs_mut h1 notK_ins (er2.le.tabs t), fun a hc h3 => ?_⟩, fun a ha => ?_, er.sub, er.cb, er.cw, tabs_mut h1 notK_ins er2.tabs, fun j r' e => ?_, by simpa using er.len, fun z hz => ?_, fun q hq => Rep.kd kd _ _ (er2.gd q hq)⟩
  · rw [upd_ne (fun z => hw (by rw [z]; exact hW))]
    exact er2.le.keep a u hw e n
  · by_cases z : a = q
    · rw [z, upd_same]; simp
    · rw [upd_ne z]; exact er2.le.dom a ha
  · obtain ⟨x1, y1, z1, e⟩ := er2.le.box a hc h3
    exact ⟨x1, y1, z1, by rw [upd_ne (fun z => nC (by rw [← z]; exact hc))]; exact e⟩
  · by_cases z : a = q
    · rw [z, upd_same]; simp
    · rw [upd_ne z]; exact er2.dom a ha
  · by_cases hj : i = j
    · subst hj
      have hlt : i < δ.length := (List.getElem?_eq_some_iff.mp hδ).1
      rw [List.getElem?_set_self hlt] at e
      cases e
      refine ⟨_, hv0, rfl, nC, hB, dx, ws ++ [w], by simp [hlen], by rw [upd_same, putF_zip hlen hf], Reps.kd kd _ _ (h2.snoc (rw'.step l2 er.cb))⟩
    · rw [List.getElem?_set_ne hj] at e
      obtain ⟨w', hw, rw2⟩ := er2.at_ j r' e
      refine ⟨w', hw, ?_⟩
      cases r' with
      | d x => exact Rep.kd kd _ _ rw2
      | own q' dq =>
        obtain ⟨z1, z2, z3, z5, z6⟩ := rw2
        refine ⟨z1, z2, z3, z5, z6.imp kd fun u hu _ => ?_⟩
        rw [upd_ne (fun z => ?_)]
        · exact hu
        · obtain ⟨o, ho, _⟩ := top_obj z6
          rw [z, h1] at ho
          cases dq with
          | lst l => obtain ⟨vs, e, _⟩ := z6; rw [z, h1] at e; cases e
          | dct ks l => obtain ⟨vs, _, e, _⟩ := z6; rw [z, h1] at e; cases e
          | dcT ks l => obtain ⟨vs, _, e, _⟩ := z6; rw [z, h1] at e; cases e
          | _ => exact z6.elim
      | box q' =>
        obtain ⟨z1, z2, x1, y1, w1, z3⟩ := rw2
        exact ⟨z1, z2, x1, y1, w1, by rw [upd_ne (fun z => nC (by rw [← z]; exact z2))]; exact z3⟩
      | scr ns' => exact absurd rfl ((noScr_at ns e).1 ns')
      | ins q' c' fs' l' =>
        obtain ⟨z1, z2, z3, dx', vs, hl, z4, z5⟩ := rw2
        refine ⟨z1, z2, z3, dx', vs, hl, ?_, Reps.kd kd _ _ z5⟩
        rw [upd_ne (fun z => hj (hone j c' fs' l' (by rw [← z]; exact e)).symm)]
        exact z4
      | wk dq => exact absurd rfl ((noScr_at ns e).2 dq)
      | ty u => exact rw2
      | lk q' ks l =>
        obtain ⟨z1, z2, od, vs, hl, z4, z5⟩ := rw2
        refine ⟨z1, z2, od, vs, hl, ?_, Reps.kd kd _ _ z5⟩
        rw [upd_ne (fun z => by rw [z, h1] at z4; cases z4)]
        exact z4
  · obtain ⟨z1, z2, z3, z4⟩ := er2.gr z hz
    exact ⟨z1, z2, z3, by rw [upd_ne (fun q' => z2 (by rw [q']; exact hB))]; exact z4⟩
end
end Nb
set_option Elab.async false
set_option linter.all false
set_option maxRecDepth 100000
set_option maxHeartbeats 2000000
/-! enumerate(tuple), tuple[::-1] -/
namespace Nl
open PySem PySem.Spec PyProof.Rows
section
variable {prog : Program} {w : World} {A : Around} {E : Value → Shared → Prop} {s : Shared}
theorem meets_enumT (l : Addr) (items : Array Value) :
    Meets (Builtin.«enumerate.__new__» ⟨[.type "enumerate", .ref l], []⟩) (fun _ R s => s.heap.IsTuple l items ∧
      R (.ok (.ret (.ref (s.heap.push { cls := .type "tuple_iterator", data := .fields #[.ref l, .int 0 0] }).objs.size)))
        { s with heap := (s.heap.push { cls := .type "tuple_iterator", data := .fields #[.ref l, .int 0 0] }).push { cls := .type "enumerate", data := .fields #[.none, .bool false, .ref s.heap.objs.size, rawInt 0, .none, .none] } }) :=
  .of_wp fun prog w A R s h => by
    obtain ⟨hp, g, d, tk, os⟩ := s; obtain ⟨hl, h⟩ := h
    have hsub := sub_enumerate
    have hL : Heap.IsTuple (Shared.heap ⟨hp, g, d, tk, os⟩) l items := hl
    wp_walk using wpAny_pyIter_tuple hL
    refine wpAny_stack_any fun st => wpAny_pure ?_
    split
    · rename_i c _ _ _ _ _
      cases (c == Value.type "enumerate")
      · wp_walk using wpAny_pyIter_tuple hL
        exact ⟨_, rfl, h⟩
      · wp_walk using wpAny_pyIter_tuple hL
        exact ⟨_, rfl, h⟩
    · wp_walk using wpAny_pyIter_tuple hL
      exact ⟨_, rfl, h⟩
theorem call_enumT {l : Addr} {items : Array Value} {Q : Value → Shared → Prop} (hL : s.heap.IsTuple l items)
    (h : ∀ h', IsEnum h' (s.heap.objs.size + 1) s.heap.objs.size 0 .none → h'.IsTupleIter s.heap.objs.size l 0 → h'.objs.size = s.heap.objs.size + 2 →
      (∀ b o, s.heap.get? b = some o → h'.get? b = some o) → Q (.ref (s.heap.objs.size + 1)) { s with heap := h' }) :
    wpAny (model prog w) A (call (.type "enumerate") [.ref l]) Q E s := by
  refine callType_new F.called_enumerate (by decide) (F.typeCall_enumerate_1 _) (F.newCall_enumerate_1 _) (fun obj => F.args_object_init_2 obj _) F.entry_enumerate_new
    (meets_enumT l items) ⟨hL, ?_⟩
  have hz : (s.heap.push { cls := .type "tuple_iterator", data := .fields #[.ref l, .int 0 0] }).objs.size = s.heap.objs.size + 1 := Heap.size_push ..
  show _ ∧ _
  rw [hz]
  have he : IsEnum ((s.heap.push { cls := .type "tuple_iterator", data := .fields #[.ref l, .int 0 0] }).push
      { cls := .type "enumerate", data := .fields #[.none, .bool false, .ref s.heap.objs.size, rawInt 0, .none, .none] }) (s.heap.objs.size + 1) s.heap.objs.size 0 .none := by
    have := Heap.get?_push_size (s.heap.push { cls := .type "tuple_iterator", data := .fields #[.ref l, .int 0 0] })
      (o := { cls := .type "enumerate", data := .fields #[.none, .bool false, .ref s.heap.objs.size, rawInt 0, .none, .none] }) rfl
    rw [hz] at this; exact this
  refine ⟨⟨_, he, rfl⟩, h _ he ⟨_, Heap.get?_push_of_some _ (Heap.get?_push_size _ rfl), rfl, rfl⟩ (by rw [Heap.size_push, hz]) fun b o x => Heap.get?_push_of_some _ (Heap.get?_push_of_some _ x)⟩
theorem sliceApplied_rev {sl : Addr} {vl vu vs : Value} {n : Nat} {Q : Int × Int × Nat → Shared → Prop} (hs : s.heap.IsSliceOf sl vl vu vs) (pl : IsPart vl none) (pu : IsPart vu none) (ps : IsPart vs (some (-1)))
    (h : Q ((n : Int) - 1, -1, n) s) : wpAny (model prog w) A (Builtin.Slice.sliceApplied (.ref sl) (pure (n : Int))) Q E s := by
  obtain ⟨os, hos, hcs, hds⟩ := id hs
  unfold Builtin.Slice.sliceApplied Builtin.Slice.sliceFields
  refine wpAny_bind (wpAny_bind (wpAny_field hos hds (x := vl) rfl (wpAny_bind (wpAny_field hos hds (x := vu) rfl (wpAny_bind (wpAny_field hos hds (x := vs) rfl (wpAny_pure ?_)))))))
  refine wpAny_bind (HT.slicePart_ ps ?_)
  show wpAny _ _ (if ((-1 : Int) == 0) = true then _ else _) _ _ s
  rw [if_neg (by decide)]
  refine wpAny_bind (HT.slicePart_ pl (wpAny_bind (HT.slicePart_ pu (wpAny_bind (wpAny_pure ?_)))))
  show wpAny _ _ (match Builtin.Slice.sliceAdjust none none (-1) (n : Int) with | (lo, hi) => pure (lo, (-1 : Int), Builtin.Slice.slicePlaces lo hi (-1))) _ _ s
  have e : Builtin.Slice.sliceAdjust none none (-1) (n : Int) = ((n : Int) - 1, -1) := by
    unfold Builtin.Slice.sliceAdjust
    simp
  rw [e]
  have e2 : Builtin.Slice.slicePlaces ((n : Int) - 1) (-1) (-1) = n := by
    unfold Builtin.Slice.slicePlaces
    simp
    omega
  show wpAny _ _ (pure ((n : Int) - 1, (-1 : Int), Builtin.Slice.slicePlaces ((n : Int) - 1) (-1) (-1))) _ _ s
  rw [e2]
  exact wpAny_pure h
theorem pick_rev (xs : List Value) : ((List.range xs.length).filterMap fun (k : Nat) => xs.toArray[((xs.length : Int) - 1 + (k : Int) * -1).toNat]?) = xs.reverse := by
  apply List.ext_getElem?
  intro i
  have key : ∀ n, n ≤ xs.length → ((List.range n).filterMap fun (k : Nat) => xs.toArray[((xs.length : Int) - 1 + (k : Int) * -1).toNat]?) = xs.reverse.take n := by
    intro n
    induction n with
    | zero => intro _; simp
    | succ n ih =>
      intro hn
      rw [List.range_succ, List.filterMap_append, ih (by omega)]
      have hj : ((xs.length : Int) - 1 + (n : Int) * -1).toNat = xs.length - 1 - n := by omega
      have hlt : xs.length - 1 - n < xs.length := by omega
      have hr : xs.reverse[n]? = some xs[xs.length - 1 - n] := by
        rw [List.getElem?_reverse (by omega)]
        exact List.getElem?_eq_getElem hlt
      rw [List.take_succ, hr]
      have hf : xs.toArray[((xs.length : Int) - 1 + (n : Int) * -1).toNat]? = some xs[xs.length - 1 - n] := by
        rw [hj]
        simp [hlt]
      simp only [List.filterMap_cons, List.filterMap_nil, hf]
      rfl
  rw [key xs.length (Nat.le_refl _), List.take_of_length_le (by simp)]
theorem getItem_tup_rev {t sl : Addr} {items : Array Value} {vl vu vs : Value} {Q : Value → Shared → Prop} (ht : IsTup s.heap t items) (hs : s.heap.IsSliceOf sl vl vu vs) (pl : IsPart vl none) (pu : IsPart vu none) (ps : IsPart vs (some (-1)))
    (h : Q (.ref s.heap.objs.size) { s with heap := s.heap.push { cls := .type "tuple", data := .seq items.toList.reverse.toArray } }) (hsz : items.size ≤ sizeLine) : wpAny (model prog w) A (getItem (.ref t) (.ref sl)) Q E s := by
  have htake : sizeOk (.seq items.toList.reverse.toArray) := by
    show items.toList.reverse.toArray.size ≤ sizeLine
    rw [List.size_toArray, List.length_reverse, Array.length_toList]
    exact hsz
  obtain ⟨os, hos, hcs, hds⟩ := id hs
  have hTs : s.TypeIs (.ref sl) "slice" := ⟨os, hos, hcs⟩
  unfold getItem
  try with_reducible refine wpAny_holding ?_
  first | refine wpAny_bind (wpAny_pure ?_) | skip
  refine wpAny_bind (wpAny_sequenceKey ht.typeIs (by decide) ?_)
  refine wpAny_bind (wpAny_callSpecial?_slot (name := Str.ofString "__getitem__") ht.typeIs PyProof.Rows.slot_tuple_getitem
    (wpAny_call_entry PyProof.Rows.slot_tuple_getitem ht.typeIs entry_tuple_getitem ?_ (args_tuple_getitem _ _)))
  show wpAny _ _ (Builtin.Tuple.tupleItemsOf (.ref t) >>= _) _ _ s
  refine wpAny_bind (tupleItemsOf_ ht ?_)
  refine wpAny_bind (wpAny_typeOf hTs ?_)
  rw [if_pos (by decide)]
  refine wpAny_bind (sliceApplied_rev hs pl pu ps ?_)
  have hno : ¬ ((((items.size : Int) - 1) == 0 && (-1 : Int) == 1 && items.size == items.size) = true) := by simp
  show wpAny _ _ (if (((items.size : Int) - 1) == 0 && (-1 : Int) == 1 && items.size == items.size) = true then _ else _) _ _ s
  rw [if_neg hno]
  have hp := pick_rev items.toList
  rw [Array.length_toList, Array.toArray_toList] at hp
  rw [hp]
  first
    | exact wpAny_bind (m := Builtin.Tuple.tupleExact _) (wpAny_newObj_type (wpAny_pure ⟨_, rfl, wpAny_pure h⟩) htake)
    | exact wpAny_bind (m := Builtin.Tuple.tupleExact _) (wpAny_newObj_type (wpAny_bind (wpAny_pure (wpAny_pure ⟨_, rfl, wpAny_pure h⟩))) htake)
end
end Nl
namespace L2
open PySem PySem.Spec PyProof.Rows
def Iten (K : PySem.W.Frag) (a : Addr) : It :=
  ⟨fun i H => ∃ (xs : List V) (x : V), SqT K H a xs ∧ xs[i]? = some x, fun i H v H' => ∃ T x, v = .ref T ∧ H T = none ∧ H' = upd H T (.tup [.int (i : Nat), x]) ∧ ∀ xs, SqT K H a xs → xs[i]? = some x, fun i H => ∃ xs : List V, SqT K H a xs ∧ xs.length = i⟩
theorem turn_enumT {P : Program} {w : World} {K : PySem.W.Frag} {elts : List Expr} {kk : Nat} {tpos : Pos} (a e it : Addr) :
    Turn P w K (.Tuple elts kk tpos) (Iten K a) [e, it] e (fun i h => (∃ old, IsEnum h e it ((i : Nat) : Int) old) ∧ h.IsTupleIter it a i ∧ e ≠ it) where
  mem := by simp
  obj := fun i h st b hb => by
    obtain ⟨⟨old, he⟩, ⟨o, ho, hc, hd⟩, _⟩ := st
    have e' : b = e ∨ b = it := by simpa using hb
    rcases e' with z | z
    · rw [z]; exact ⟨_, he, fun v q => nomatch q⟩
    · rw [z]; exact ⟨o, ho, fun v q => by rw [hd] at q; cases q⟩
  keep := fun i h h' st k => let ⟨⟨old, he⟩, hi, hne⟩ := st; ⟨⟨old, k e (by simp) _ he⟩, hi.at fun o q => k it (by simp) o q, hne⟩
  item := by
    intro X hP hw hK hc i pins s σ H E I hf st hg
    subst hP hw hK
    obtain ⟨⟨old, he⟩, hit, hne⟩ := st
    obtain ⟨xs, x, hq, hx⟩ := hg
    obtain ⟨its, rv, p, hz⟩ := I.tuple hq
    obtain ⟨u, hu, ru⟩ := rv.get hx
    have hel : e < s.heap.objs.size := Heap.lt_size he
    have hil : it < s.heap.objs.size := by obtain ⟨_, q, _⟩ := hit; exact Heap.lt_size q
    have hai : a ≠ it := fun z => by
      obtain ⟨o1, q1, c1, _⟩ := hit
      obtain ⟨_, q2, c2, _⟩ := p
      rw [z, q1] at q2
      cases q2
      rw [c1] at c2
      exact absurd (Value.type.inj c2) (by decide)
    have hae : e ≠ a := fun z => by
      obtain ⟨_, q2, c2, _⟩ := p
      rw [← z, he] at q2
      cases q2
      exact absurd (Value.type.inj c2) (by decide)
    have hlt : i < its.toArray.size := by
      have := (List.getElem?_eq_some_iff.mp hu).1
      rw [List.size_toArray]; exact this
    refine wpAny_pyNext_enum_itemD (PySem.Draws.tuple (A := X.A.in1) (show X.A.in1.handled = none from I.ok.hd hc) it a hai its.toArray) he ⟨hit, p⟩ hlt hne (by simp [hne, hae]) fun y h' tk hy ho hst' hT hsz hk => ?_
    have ey : y = u := by
      have hu' : its.toArray[i]? = some u := by rw [← Array.getElem?_toList]; exact hu
      rw [hu'] at hy
      exact (Option.some.inj hy).symm
    subst ey
    refine ⟨_, rfl, wpAny_letOwnedTupleGo_enum (s := { s with heap := h', toks := tk + 1 }) ho fun h'' he' sb => ?_⟩
    have hT2 : h''.get? s.heap.objs.size = some { cls := .type "tuple", data := .seq #[.int i tk, y] } := (sb.2 _ (Nat.ne_of_gt hel)).trans hT
    have new : ObjOk X.prog X.w (upd H s.heap.objs.size (.tup [.int (i : Nat), x])) h'' s.heap.objs.size (.tup [.int (i : Nat), x]) :=
      ⟨by show 2 ≤ sizeLine; decide, [.int i tk, y], .cons ⟨_, rfl⟩ (.cons ru .nil), ⟨_, hT2, rfl, _, rfl⟩⟩
    have I1 : Inv X pins σ (upd H s.heap.objs.size (.tup [.int (i : Nat), x])) { s with heap := h'', toks := tk + 1 } :=
      I.turnedNew (ch := [e, it]) (fun b ob hb q => (sb.2 b (fun z => hb (by simp [z]))).trans (hk b ob (fun z => hb (by simp [z])) (fun z => hb (by simp [z])) q)) hf (Nat.le_refl _) new
    refine ⟨.ref s.heap.objs.size, _, I1, rfl, ⟨_, x, rfl, I.hok.fresh (Nat.le_refl _), rfl, fun ys hy => by rw [I.tuple_inj hy hq]; exact hx⟩, ⟨⟨y, ?_⟩, hst'.1.at fun o q => (sb.2 it (Ne.symm hne)).trans q, hne⟩, fun b hb => ?_⟩
    · have e1 : ((i + 1 : Nat) : Int) = (i : Int) + 1 := by omega
      rw [e1]; exact he'
    · have hb' : b < s.heap.objs.size := by
        have e' : b = e ∨ b = it := by simpa using hb
        rcases e' with z | z
        · rw [z]; exact hel
        · rw [z]; exact hil
      rw [upd_ne (Nat.ne_of_lt hb')]
      exact (hf b hb).1
  done := by
    intro X hP hw hK hc i pins s σ H E I hf st hg
    subst hP hw hK
    obtain ⟨⟨old, he⟩, hit, hne⟩ := st
    obtain ⟨xs, hq, hx⟩ := hg
    obtain ⟨its, rv, p, hz⟩ := I.tuple hq
    obtain ⟨f0, f1, f2, f3, f4, f5⟩ := hf it (by simp)
    have hl := rv.length
    have hai : a ≠ it := fun z => by
      obtain ⟨o1, q1, c1, _⟩ := hit
      obtain ⟨_, q2, c2, _⟩ := p
      rw [z, q1] at q2
      cases q2
      rw [c1] at c2
      exact absurd (Value.type.inj c2) (by decide)
    have hn : its.toArray.size = i := by rw [List.size_toArray, ← hl, hx]
    have hD := PySem.Draws.tuple (prog := X.prog) (w := X.w) (A := X.A.in1) (show X.A.in1.handled = none from I.ok.hd hc) it a hai its.toArray
    rw [hn] at hD
    exact wpAny_pyNext_enum_endD hD he ⟨hit, p⟩ fun h' eb => ⟨rfl, I.turned (t' := s.toks) (fun b o hb q => eb b o hb q) f0 f1 f3 f4 f5⟩
  self := fun A i s Q E st h => let ⟨⟨_, he⟩, _⟩ := st; wpAny_pyIter_enum he h
def iEnumT (K : PySem.W.Frag) (ta : TA) : TI := fun σ H R => ta σ H fun vs H1 => ∃ a xs, vs = [.ref a] ∧ SqT K H1 a xs ∧ R (Iten K a) H1
theorem pi_enumT {X : Cx} {e : Expr} {ta : TA} {p pos tpos : Pos} {elts : List Expr} {kk : Nat} (hg : Gl X "enumerate") (hm : X.mg "enumerate" = none) (ha : PA X [e] ta) (hs : starEach [e] X.env = [(false, eval e X.env)] := by rfl) :
    PI X (.Tuple elts kk tpos) (.Call (.Name "enumerate" p) [e] [] pos) (iEnumT X.K ta) := by
  refine ⟨fun pins s σ H R I h => ?_⟩
  refine Call_ (ld_blt I hg hm boot_enumerate (PyProof.Rows.callWith_type1 (thn (ha.run pos pins s σ H _ I h) fun us s1 ⟨vs, H1, I1, r1, q1⟩ => ?_) hs rfl))
  obtain ⟨a, xs, ex, hq, q⟩ := q1
  subst ex
  cases r1 with
  | cons r rr =>
    cases rr
    cases r
    obtain ⟨its, rv, p', hz⟩ := I1.tuple hq
    refine Nl.call_enumT p' fun h' he hit hsz hk => wpAny_pyIter_enum he ?_
    have I2 : Inv X pins σ H1 { s1 with heap := h' } := I1.kept (t' := s1.toks) hk
    refine ⟨s1.heap.objs.size + 1, [s1.heap.objs.size + 1, s1.heap.objs.size], _, _, H1, rfl, I2, turn_enumT a (s1.heap.objs.size + 1) s1.heap.objs.size, ⟨⟨.none, he⟩, hit, Nat.succ_ne_self _⟩, fun b hb => ?_, q⟩
    have e' : b = s1.heap.objs.size + 1 ∨ b = s1.heap.objs.size := by simpa using hb
    have hle : s1.heap.objs.size ≤ b := by
      rcases e' with z | z
      · rw [z]; exact Nat.le_add_right _ _
      · rw [z]; exact Nat.le_refl _
    exact I1.fpOk hle (I1.hok.fresh hle)
theorem walk_enumT {K : PySem.W.Frag} {a : Addr} {xs : List V} : Walk (Iten K a) xs.length (fun H => SqT K H a xs) (YPair (fun i => some (.int (i : Nat))) (fun i => xs[i]?)) := by
  refine ⟨fun i _ hi q => ⟨xs, xs[i], q, by simp [hi]⟩, fun _ q => ⟨xs, q, rfl⟩, fun i H v H' _ q y => ?_⟩
  obtain ⟨T, x, h1, h2, h3, h4⟩ := y
  exact ⟨T, .int (i : Nat), x, h1, h2, h3, rfl, h4 xs q⟩
/-- tuple[::-1] -/
def tRevT (K : PySem.W.Frag) (te : TE) : TE := fun σ H Q => te σ H fun x H1 => ∃ a xs, x = .ref a ∧ SqT K H1 a xs ∧ ∀ p, H1 p = none → Q (.ref p) (upd H1 p (.tup xs.reverse))
theorem pe_revT {X : Cx} {e : Expr} {te : TE} {k : Nat} {p1 p2 p3 pos : Pos} (he : PE X e te) : PE X (.Subscript e (.Slice none none (some (.UnaryOp .USub (.Constant (.int 1) k p1) p2)) p3) pos) (tRevT X.K te) := by
  refine ⟨fun pins s σ H Q I h => ?_⟩
  refine Subscript_ (thn (he.run pins s σ H _ I h) fun v s1 ⟨x, H1, I1, r1, q1⟩ => ?_)
  obtain ⟨a, xs, ex, hx, q⟩ := q1
  subst ex
  cases r1
  have hst : PO X (some (.UnaryOp .USub (.Constant (.int 1) k p1) p2)) (tPart (tUn (rU fun i => .int (-i)) (tC (.int 1)))) := po_some (pe_un un_neg pe_int)
  refine wpAny_Slice (thn (po_none.run pins s1 σ H1 (fun o H2 => o = none ∧ H2 = H1) I1 ⟨rfl, rfl⟩) fun vl s2 ⟨l, H2, I2, pl, el, e2⟩ => ?_)
  subst el e2
  refine thn (po_none.run pins s2 σ H2 (fun o H3 => o = none ∧ H3 = H2) I2 ⟨rfl, rfl⟩) fun vu s3 ⟨u, H3, I3, pu, eu, e3⟩ => ?_
  subst eu e3
  refine thn (hst.run pins s3 σ H3 (fun o H4 => o = some (-1) ∧ H4 = H3) I3 ⟨1, rfl, -1, rfl, rfl, rfl⟩) fun vs s4 ⟨o, H4, I4, ps, eo, e4⟩ => ?_
  subst eo e4
  have I5 : Inv X pins σ H4 { s4 with heap := s4.heap.push { cls := .type "slice", data := .fields #[vl, vu, vs] } } := I4.kept (t' := s4.toks) fun b ob q => Heap.get?_push_of_some _ q
  obtain ⟨its, r, ht, hz⟩ := I5.tuple hx
  have hlen := r.length
  show wpAny (model X.prog X.w) X.A (subscriptTail e (.Slice none none (some (.UnaryOp .USub (.Constant (.int 1) k p1) p2)) p3) (.ref a) (.ref s4.heap.objs.size)) (EP X pins σ Q) X.xe { s4 with heap := s4.heap.push { cls := .type "slice", data := .fields #[vl, vu, vs] } }
  refine tail_any (ops := [.ref a, .ref s4.heap.objs.size]) ht.typeIs PyProof.Rows.slot_tuple_getitem.lookup ?_ (by with_unfolding_all rfl)
  refine Nl.getItem_tup_rev ht (Heap.IsSliceOf.new _ vl vu vs) pl pu ps ?_ (by rw [List.size_toArray]; omega)
  refine ⟨.ref _, _, I5.laid (t' := s4.toks) (o := .tup xs.reverse) (fun b ob q => Heap.get?_push_of_some _ q) (Nat.le_refl _) ?_, rfl, q _ (I5.hok.fresh (Nat.le_refl _))⟩
  exact ⟨by rw [List.length_reverse]; exact hz, _, r.reverse, _, Heap.get?_push_size _ rfl, rfl, 0, rfl⟩
end L2
set_option Elab.async false
set_option linter.all false
set_option maxRecDepth 100000
set_option maxHeartbeats 2000000
/-! several targets, slices, truth, pop, boxes, isinstance, locks -/
namespace Nb
open PySem PySem.Spec PyProof.Rows L2

/-! ### what makes a value or a new thing -/
structure Lift (E : EC) (B B' : Addr → Prop) (H H2 : Hp) : Prop where
  er : ∀ δ γ σ, ER E B δ γ σ H → ER E B' δ γ σ H2
  re : ∀ r v, RE E B r v H → RE E B' r v H2
  le : LeC E H H2
def EM (E : EC) (e : Expr) (δ : Ds) (P : (Addr → Prop) → (Addr → Prop) → Ent → Prop) : Prop := ∀ (B : Addr → Prop) (γ : Gh) (σ : L2.St) (H : Hp), ER E B δ γ σ H → ∀ Q : VK, (∀ B' r v H2, P B B' r → Lift E B B' H H2 → RE E B' r v H2 → Q v H2) → WE (Fam E) e σ H Q
section
variable {E : EC} {B Bo B' : Addr → Prop} {δ : Ds} {γ : Gh} {σ : L2.St} {Ω Ω' : Post} {ss : List Stmt} {H H' H2 : Hp} {v : V} {r ra rb rc : Ent} {x : D} {e a b c : Expr} {es : List Expr} {pos pos' p apos : Pos} {P : D → Prop}
theorem EVP.toM {P : Ent → Prop} (h : EVP E e δ P) : EM E e δ (fun B B' r => B' = B ∧ P r) := fun B γ σ H er Q q => h B γ σ H er Q fun r v H2 hp l rv => q B r v H2 ⟨rfl, hp⟩ ⟨fun _ _ _ er => er.step l, fun _ _ rv => rv.step l er.cb, l⟩ rv
theorem EV.toM (h : EV E e δ r) : EM E e δ (fun B B' r' => B' = B ∧ r' = r) := (h.toP (P := fun r' => r' = r) rfl).toM
theorem RE.grow (er : ER E B δ γ σ H) {p : Addr} (hp : H p = none) (l : LeC E H H2) (h : RE E B r v H) : RE E (fun a => B a ∨ a = p) r v H2 := by
  have k : Kd (fun a => B a ∨ a = p) B H H2 := Le.kd l er.cb fun a ha hn => ha.elim (fun z => z) fun z => absurd hp (by rw [← z]; exact hn)
  exact h.imp k (fun p u hc q hu => l.keep p u hc q hu) (fun p hc => l.box p hc) fun a => .inl
theorem EN.toM (h : EN E e δ P) (ns : noScr δ = true) : EM E e δ (fun B B' r => ∃ q d, B' = (fun a => B a ∨ a = q) ∧ ¬ B q ∧ Apart q δ ∧ r = .own q d ∧ P d) := fun B γ σ H er Q q =>
  h B γ σ H er Q fun p d H2 hp hd l ht => by
    have nB : ¬ B p := fun z => er.dom p z hp
    obtain ⟨o, ho, _⟩ := top_obj ht
    have hn : H2 p ≠ none := by rw [ho]; simp
    exact q _ (.own p d) _ H2 ⟨p, d, rfl, nB, apart_new er hp (fun i r e => noScr_at ns e), rfl, hd⟩ ⟨fun δ' γ' σ' er' => er'.grow hp l hn, fun r v rv => rv.grow er hp l, l⟩ ⟨rfl, fun z => nB (er.cb p z), fun z => nB (er.sub p z), er.le.fresh hp, ht⟩
/-- x = e by EM -/
theorem sv_setM {P : (Addr → Prop) → (Addr → Prop) → Ent → Prop} (i : Nat) {y : Str} (hi : E.N[i]? = some y) (hx : Loc E.sc y) (h : EM E e δ P) (k : ∀ B' r, P B B' r → SV E B' Bo ss (δ.set i (some r)) Ω)
    (hs : ∀ env, swapsWith e (some (.Name y pos')) pos.line env = pure false := by intro _; rfl) (hf : E.fn y = true ∨ E.sc.names.lookup y = some .local := by first | exact .inl rfl | exact .inr rfl) : SV E B Bo (.Assign [.Name y pos'] e pos :: ss) δ Ω := fun γ σ H er D s =>
  wss_then (ws_of (t := tAsg (WE (Fam E) e) (gName i)) (fun X hX => ps_set hX.nd (by rw [hX.N]; exact hi) (by rw [hX.sc]; exact hx) (we_pe hX) (hs _) (by rw [hX.fn, hX.sc]; exact hf)) (h B γ σ H er _ fun B' r v H2 hp l rv => k B' r hp γ _ H2 ((l.er _ _ _ er).set i rv) D s))
/-- x, y = a, b -/
theorem sv_par {P R : (Addr → Prop) → (Addr → Prop) → Ent → Prop} (i j : Nat) {y z : Str} {py pz pt : Pos} {kt k2 pt2} (hi : E.N[i]? = some y) (hj : E.N[j]? = some z) (hx : E.sc.names.lookup y = some .local) (hx2 : E.sc.names.lookup z = some .local) (ha : EM E a δ P) (hb : EM E b δ R)
    (k : ∀ B1 r B2 r2, P B B1 r → R B1 B2 r2 → SV E B2 Bo ss ((δ.set i (some r)).set j (some r2)) Ω) (hij : i ≠ j := by decide)
    (hw : ∀ env, env.scope = E.sc → swappedStores [.Tuple [.Name y py, .Name z pz] kt pt] (.Tuple [a, b] k2 pt2) env = pure (some [y, z]))
    (hs : ∀ env, swapsWithSole [.Tuple [.Name y py, .Name z pz] kt pt] (.Tuple [a, b] k2 pt2) pos.line env = pure false := by intro _; rfl)
    (h1 : ∀ env, starEach [a, b] env = (false, eval a env) :: starEach [b] env := by intro _; rfl) (h2 : ∀ env, starEach [b] env = (false, eval b env) :: starEach [] env := by intro _; rfl) :
    SV E B Bo (.Assign [.Tuple [.Name y py, .Name z pz] kt pt] (.Tuple [a, b] k2 pt2) pos :: ss) δ Ω := fun γ σ H er D s => by
  refine wss_then (ws_of (fun X hX => ps_par hX.calm hX.nd (by rw [hX.N]; exact hi) (by rw [hX.N]; exact hj) hij (by rw [hX.sc]; exact hx) (by rw [hX.sc]; exact hx2) (pa_cons (we_pe hX) (pa_cons (we_pe hX) pa_nil (h2 _)) (h1 _)) (hw _ hX.sc) (hs _)) ?_)
  refine ha B γ σ H er _ fun B1 r v H1 hp l rv => hb B1 γ σ H1 (l.er _ _ _ er) _ fun B2 r2 v2 H2 hp2 l2 rv2 => ?_
  exact ⟨v, v2, rfl, k B1 r B2 r2 hp hp2 γ _ H2 (((l2.er _ _ _ (l.er _ _ _ er)).set i (l2.re _ _ rv)).set j rv2) D s⟩
/-- x, y, z = a, b, c -/
theorem sv_par3 {P R S : (Addr → Prop) → (Addr → Prop) → Ent → Prop} (i j l : Nat) {y z w : Str} {py pz pw pt : Pos} {kt k2 pt2} (hi : E.N[i]? = some y) (hj : E.N[j]? = some z) (hl : E.N[l]? = some w) (hx : E.sc.names.lookup y = some .local) (hx2 : E.sc.names.lookup z = some .local) (hx3 : E.sc.names.lookup w = some .local)
    (ha : EM E a δ P) (hb : EM E b δ R) (hc : EM E c δ S)
    (k : ∀ B1 r B2 r2 B3 r3, P B B1 r → R B1 B2 r2 → S B2 B3 r3 → SV E B3 Bo ss (((δ.set i (some r)).set j (some r2)).set l (some r3)) Ω) (hij : i ≠ j := by decide) (hil : i ≠ l := by decide) (hjl : j ≠ l := by decide)
    (hw : ∀ env, env.scope = E.sc → swappedStores [.Tuple [.Name y py, .Name z pz, .Name w pw] kt pt] (.Tuple [a, b, c] k2 pt2) env = pure (some [y, z, w]))
    (hs : ∀ env, swapsWithSole [.Tuple [.Name y py, .Name z pz, .Name w pw] kt pt] (.Tuple [a, b, c] k2 pt2) pos.line env = pure false := by intro _; rfl)
    (h1 : ∀ env, starEach [a, b, c] env = (false, eval a env) :: starEach [b, c] env := by intro _; rfl) (h2 : ∀ env, starEach [b, c] env = (false, eval b env) :: starEach [c] env := by intro _; rfl) (h3 : ∀ env, starEach [c] env = (false, eval c env) :: starEach [] env := by intro _; rfl) :
    SV E B Bo (.Assign [.Tuple [.Name y py, .Name z pz, .Name w pw] kt pt] (.Tuple [a, b, c] k2 pt2) pos :: ss) δ Ω := fun γ σ H er D s => by
  refine wss_then (ws_of (fun X hX => ps_par3 hX.calm hX.nd (by rw [hX.N]; exact hi) (by rw [hX.N]; exact hj) (by rw [hX.N]; exact hl) hij hil hjl (by rw [hX.sc]; exact hx) (by rw [hX.sc]; exact hx2) (by rw [hX.sc]; exact hx3) (pa_cons (we_pe hX) (pa_cons (we_pe hX) (pa_cons (we_pe hX) pa_nil (h3 _)) (h2 _)) (h1 _)) (hw _ hX.sc) (hs _)) ?_)
  refine ha B γ σ H er _ fun B1 r v H1 hp l1 rv => hb B1 γ σ H1 (l1.er _ _ _ er) _ fun B2 r2 v2 H2 hp2 l2 rv2 => hc B2 γ σ H2 (l2.er _ _ _ (l1.er _ _ _ er)) _ fun B3 r3 v3 H3 hp3 l3 rv3 => ?_
  exact ⟨v, v2, v3, rfl, k B1 r B2 r2 B3 r3 hp hp2 hp3 γ _ H3 ((((l3.er _ _ _ (l2.er _ _ _ (l1.er _ _ _ er))).set i (l3.re _ _ (l2.re _ _ rv))).set j (l3.re _ _ rv2)).set l rv3) D s⟩
/-- an own thing is one's own no longer -/
theorem er_freeze (er : ER E B δ γ σ H) {i : Nat} {q : Addr} {d : D} (hδ : δ[i]? = some (some (.own q d))) (hi : ∀ (i : Nat) (r : Ent), δ[i]? = some (some r) → (∀ p c fs l, r ≠ Ent.ins p c fs l)) : ER E (fun a => B a ∧ a ≠ q) (δ.set i (some (.d d))) γ σ H := by
  obtain ⟨v, hv, rv⟩ := er.at_ i _ hδ
  have h1 := er.shrink (B' := fun a => B a ∧ a ≠ q) (fun a h => h.1) (fun a h => ⟨er.sub a h, fun z => rv.2.2.1 (by rw [← z]; exact h)⟩) (fun a h => ⟨er.cb a h, fun z => rv.2.1 (by rw [← z]; exact h)⟩) hi
  have h2 := h1.set (v := v) (r := .d d) i (by
    obtain ⟨e, _, _, _, ht⟩ := rv
    have k : Kd (fun a => B a ∧ a ≠ q) B H H := ⟨fun a _ nb z => nb z.1, fun a u _ _ r => r, fun a u _ _ r => r⟩
    have nq : ¬ (B q ∧ q ≠ q) := fun z => z.2 rfl
    cases d with
    | lst l => obtain ⟨vs, e1, r⟩ := ht; simp only [RE, Rep]; exact ⟨q, vs, e, nq, e1, Reps.kd k _ _ r⟩
    | dct ks l => obtain ⟨vs, hl, e1, r⟩ := ht; simp only [RE, Rep]; exact ⟨q, vs, e, nq, hl, .inl e1, Reps.kd k _ _ r⟩
    | dcT ks l => obtain ⟨vs, hl, e1, r⟩ := ht; simp only [RE, Rep]; exact ⟨q, vs, e, nq, hl, .inl e1, Reps.kd k _ _ r⟩
    | _ => exact ht.elim)
  have e : σ.set i (some v) = σ := by
    apply List.ext_getElem?
    intro j
    by_cases hj : i = j
    · subst hj
      have hlt : i < σ.length := (List.getElem?_eq_some_iff.mp hv).1
      rw [List.getElem?_set_self hlt, hv]
    · rw [List.getElem?_set_ne hj]
  rw [e] at h2
  exact h2
def noIns : Ds → Bool
  | [] => true
  | some (.ins _ _ _ _) :: _ => false
  | _ :: δ => noIns δ
theorem noIns_at : ∀ {δ : Ds}, noIns δ = true → ∀ (i : Nat) (r : Ent), δ[i]? = some (some r) → ∀ p c fs l, r ≠ Ent.ins p c fs l
  | [], h, i, r, e => by simp at e
  | s :: δ, h, 0, r, e => by
    simp at e; subst e
    intro p c fs l z
    subst z
    cases h
  | s :: δ, h, i + 1, r, e => by
    have h' : noIns δ = true := by
      cases s with
      | none => exact h
      | some s => cases s <;> first | exact h | cases h
    exact noIns_at h' i r (by simpa using e)
theorem sv_freeze (i : Nat) {q : Addr} {d : D} (hδ : δ[i]? = some (some (.own q d))) (k : SV E (fun a => B a ∧ a ≠ q) Bo ss (δ.set i (some (.d d))) Ω) (hi : noIns δ = true := by rfl) : SV E B Bo ss δ Ω := sv_imp k fun γ σ H er => er_freeze er hδ (noIns_at hi)
theorem sv_forget (i : Nat) (k : SV E B Bo ss (δ.set i none) Ω) : SV E B Bo ss δ Ω := sv_imp k fun γ σ H er => er.forget i
theorem sv_shrink {B1 : Addr → Prop} (k : SV E B1 Bo ss δ Ω) (hb : ∀ a, B1 a → B a) (hs : ∀ a, E.B0 a → B1 a) (hc : ∀ a, E.C a → B1 a) (hi : noIns δ = true := by rfl) : SV E B Bo ss δ Ω := sv_imp k fun γ σ H er => er.shrink hb hs hc (noIns_at hi)

/-! ### slices -/
def EO (E : EC) (e : Option Expr) (δ : Ds) (o : Option Int) : Prop := match e with
  | none => o = none
  | some e => ∃ i, o = some i ∧ EV E e δ (.d (.int i))
theorem eo_none : EO E none δ none := rfl
theorem eo_some {i : Int} (h : EV E e δ (.d (.int i))) : EO E (some e) δ (some i) := ⟨i, rfl, h⟩
def tOf (F : Fm) : Option Expr → TO
  | none => tNoPart
  | some e => tPart (WE F e)
theorem po_of {X : Cx} {F : Fm} (hX : F X) : ∀ o : Option Expr, PO X o (tOf F o)
  | none => po_none
  | some e => po_some (we_pe hX)
theorem eo_run {o : Option Expr} {i : Option Int} (h : EO E o δ i) (er : ER E B δ γ σ H) {Q : Option Int → Hp → Prop} (q : ∀ H2, LeC E H H2 → Q i H2) : tOf (Fam E) o σ H Q := by
  cases o with
  | none => rw [show i = none from h] at q; exact q H Le.refl
  | some e =>
    obtain ⟨j, rfl, h⟩ := h
    exact h B γ σ H er _ fun v H2 l rv => ⟨j, re_int.mp rv, q H2 l⟩
def cutD {α : Type} (xs : List α) (lo hi : Option Int) : List α := (xs.drop (HT.sIx xs.length 0 lo)).take (HT.sIx xs.length xs.length hi - HT.sIx xs.length 0 lo)
theorem cutD_to {α : Type} {xs : List α} {n : Nat} : cutD xs none (some (n : Int)) = xs.take n := by
  unfold cutD
  rw [HT.sIx_none, HT.sIx_nat, List.drop_zero, Nat.sub_zero]
  by_cases h : n ≤ xs.length
  · rw [Nat.min_eq_left h]
  · rw [Nat.min_eq_right (by omega), List.take_of_length_le (Nat.le_refl _), List.take_of_length_le (by omega)]
theorem cutD_from {α : Type} {xs : List α} {n : Nat} : cutD xs (some (n : Int)) none = xs.drop n := by
  unfold cutD
  rw [HT.sIx_none, HT.sIx_nat]
  by_cases h : n ≤ xs.length
  · rw [Nat.min_eq_left h, List.take_of_length_le (by simp)]
  · rw [Nat.min_eq_right (by omega), List.drop_of_length_le (Nat.le_refl _), List.drop_of_length_le (show xs.length ≤ n by omega)]
    simp
theorem cutD_map {α β : Type} (f : α → β) {xs : List α} {lo hi : Option Int} : cutD (xs.map f) lo hi = (cutD xs lo hi).map f := by
  unfold cutD
  rw [List.length_map, List.map_take, List.map_drop]
theorem reps_cut {l : List D} {vs : List V} {lo hi : Option Int} (h : Reps E.cl B l vs H) : Reps E.cl B (cutD l lo hi) (cutV vs lo hi) H := by
  unfold cutD cutV
  rw [← h.len]
  exact Reps.take _ (Reps.drop _ h)
theorem fam_Ks {X : Cx} (hX : Fam E X) {r : PySem.W.Frag → V → Option Int → Option Int → Hp → VK → Prop} (h : SlR X (r X.K)) : SlR X (r E.K) := by rw [← hX.K]; exact h
theorem ev_slL {l : List D} {lo hi : Option Expr} {i j : Option Int} {p2 : Pos} (ha : EV E a δ (.wk (.lst l))) (h1 : EO E lo δ i) (h2 : EO E hi δ j) : EV E (.Subscript a (.Slice lo hi none p2) pos) δ (.d (.lst (cutD l i j))) := fun B γ σ H er Q q =>
  we_of (t := L2.tSl (rSlL E.K) (WE (Fam E) a) (tOf (Fam E) lo) (tOf (Fam E) hi)) (fun X hX => pe_slice (fam_Ks hX (r := rSlL) sl_list) (we_pe hX) (po_of hX lo) (po_of hX hi)) (ha B γ σ H er _ fun v H1 l1 rv => eo_run h1 (er.step l1) fun H2 l2 => eo_run h2 ((er.step l1).step l2) fun H3 l3 => by
    obtain ⟨p, vs, rfl, nc, h3, h4⟩ := wk_lst ((rv.step l2 er.cb).step l3 er.cb)
    have er3 := ((er.step l1).step l2).step l3
    exact ⟨p, vs, rfl, .inl (.inl h3), fun t ht => q _ _ (((l1.trans l2).trans l3).trans (LeC.new ht)) (re_newL er3.dom ht er.cb (reps_cut h4))⟩)
theorem ev_slT {l : List D} {lo hi : Option Expr} {i j : Option Int} {p2 : Pos} (ha : EV E a δ (.d (.tup l))) (h1 : EO E lo δ i) (h2 : EO E hi δ j) : EV E (.Subscript a (.Slice lo hi none p2) pos) δ (.d (.tup (cutD l i j))) := fun B γ σ H er Q q =>
  we_of (t := L2.tSl (rSlA E.K) (WE (Fam E) a) (tOf (Fam E) lo) (tOf (Fam E) hi)) (fun X hX => pe_slice (fam_Ks hX (r := rSlA) sl_tupA) (we_pe hX) (po_of hX lo) (po_of hX hi)) (ha B γ σ H er _ fun v H1 l1 rv => eo_run h1 (er.step l1) fun H2 l2 => eo_run h2 ((er.step l1).step l2) fun H3 l3 => by
    have rv3 := (rv.step l2 er.cb).step l3 er.cb
    have rv3' := rv3
    obtain ⟨p, vs, rfl, nb, h3, h4⟩ := re_tup rv3
    have er3 := ((er.step l1).step l2).step l3
    refine ⟨p, vs, rfl, .inl (.inl h3), fun hw => q _ _ ((l1.trans l2).trans l3) ?_, fun hw t ht => q _ _ (((l1.trans l2).trans l3).trans (LeC.new ht)) (re_newT er3.dom ht er.cb (reps_cut h4))⟩
    have e : cutD l i j = l := by
      unfold cutD
      rw [← h4.len] at hw
      rw [hw.1, hw.2, List.drop_zero, Nat.sub_zero, List.take_of_length_le (Nat.le_refl _)]
    rw [e]
    exact rv3')
theorem ev_slS {s : Str} {lo hi : Option Expr} {i j : Option Int} {p2 : Pos} (ha : EV E a δ (.d (.str s))) (hz : s.length ≤ sizeLine) (h1 : EO E lo δ i) (h2 : EO E hi δ j) : EV E (.Subscript a (.Slice lo hi none p2) pos) δ (.d (.str (cutS s i j))) := fun B γ σ H er Q q =>
  we_of (t := L2.tSl rSlS (WE (Fam E) a) (tOf (Fam E) lo) (tOf (Fam E) hi)) (fun X hX => pe_slice sl_str (we_pe hX) (po_of hX lo) (po_of hX hi)) (ha B γ σ H er _ fun v H1 l1 rv => eo_run h1 (er.step l1) fun H2 l2 => eo_run h2 ((er.step l1).step l2) fun H3 l3 => by
    rw [re_str] at rv
    exact ⟨s, rv, hz, q _ _ ((l1.trans l2).trans l3) (re_str.mpr rfl)⟩)
theorem ev_revL {l : List D} {k : Nat} {p1 p2 p3 : Pos} (ha : EV E a δ (.wk (.lst l))) : EV E (.Subscript a (.Slice none none (some (.UnaryOp .USub (.Constant (.int 1) k p1) p2)) p3) pos) δ (.d (.lst l.reverse)) := fun B γ σ H er Q q =>
  we_of (t := tRevL E.K (WE (Fam E) a)) (fun X hX => by rw [← hX.K]; exact pe_revL (we_pe hX)) (ha B γ σ H er _ fun v H1 l1 rv => by
    obtain ⟨p, vs, rfl, nc, h3, h4⟩ := wk_lst rv
    exact ⟨p, vs, rfl, .inl (.inl h3), fun t ht => q _ _ (l1.trans (LeC.new ht)) (re_newL (er.step l1).dom ht er.cb h4.reverse)⟩)

/-! ### truth of a row -/
theorem tru_seq {l : List D} {K : PySem.W.Frag} {x : D} (hx : seqOf x = some l) (h : RE E B (.wk x) v H) (hK : K = E.K) : TruV K v H (!l.isEmpty) := by
  obtain ⟨p, vs, rfl, h1, h2, h3⟩ := wk_seq hx h
  have e : (!l.isEmpty) = !vs.isEmpty := by
    cases l with
    | nil => rw [reps_nil.mp h3]; rfl
    | cons d l => obtain ⟨v, vs', rfl, _, _⟩ := reps_cons.mp h3; rfl
  rcases h2 with h2 | h2
  · exact .inl ⟨vs, .inl (.inl h2), e⟩
  · exact .inr (.inl ⟨vs, .inl (.inl h2), e⟩)
theorem et_seq {l : List D} {x : D} (h : EV E e δ (.wk x)) (hx : seqOf x = some l) (he : ∀ env whole, isTrue e env whole = (do let v ← whole; standAt e.pos; holding [v] (truthy v)) := by intro _ _; rfl) : ET E e δ (!l.isEmpty) := fun B γ σ H er Q q =>
  wt_of (t := fun σ H Q => WE (Fam E) e σ H fun x H' => ∃ k, TruV E.K x H' k ∧ Q k H') (fun X hX => by rw [← hX.K]; exact pt_truth (we_pe hX) (he _)) (h B γ σ H er _ fun v H1 l1 rv => ⟨_, tru_seq hx rv rfl, q H1 l1⟩)
/-- a test of which nothing is known -/
def ETU (E : EC) (e : Expr) (δ : Ds) : Prop := ∀ (B : Addr → Prop) (γ : Gh) (σ : L2.St) (H : Hp), ER E B δ γ σ H → ∀ Q : Bool → Hp → Prop, (∀ c H2, LeC E H H2 → Q c H2) → WT (Fam E) e σ H Q
theorem sv_ifU {aa bb : List Stmt} (h : ETU E c δ) (h1 : SV E B B aa δ { Ω with nx := fun δ' => SV E B Bo ss δ' Ω, bk := fun _ => False, ct := fun _ => False }) (h2 : SV E B B bb δ { Ω with nx := fun δ' => SV E B Bo ss δ' Ω, bk := fun _ => False, ct := fun _ => False }) :
    SV E B Bo (.If c aa bb pos :: ss) δ Ω := fun γ σ H er D s => by
  have st : Sat E B γ { Ω with nx := fun δ' => SV E B Bo ss δ' Ω, bk := fun _ => False, ct := fun _ => False } { D with nx := WSs (Fam E) ss D } := ⟨fun δ' σ' H' er' q => q γ σ' H' er' D s, s.rt, fun _ _ _ _ q => q.elim, fun _ _ _ _ q => q.elim⟩
  refine wss_then (ws_of (fun X hX => ps_if (wt_pt hX) (wss_pss hX) (wss_pss hX)) (h B γ σ H er _ fun cc H2 l => ?_))
  cases cc with
  | true => exact (if_pos rfl).mpr (h1 γ σ H2 (er.step l) _ st)
  | false => exact (if_neg Bool.false_ne_true).mpr (h2 γ σ H2 (er.step l) _ st)
def anyInt (r : Ent) : Prop := ∃ i, r = .d (.int i)
theorem etu_gt {j : Int} (ha : EVP E a δ anyInt) (hb : EV E b δ (.d (.int j))) (hm : behindInMarks .Gt b = false := by first | exact nomark _ | rfl) : ETU E (.Compare a [.Gt] [b] pos) δ := fun B γ σ H er Q q =>
  wt_of (fun X hX => pt_cmpR op_gt (we_pe hX) (we_pe hX) hm) (ha B γ σ H er _ fun ra x H1 ⟨i, hi⟩ l1 rx => by
    subst hi
    rw [re_int] at rx
    refine hb B γ σ H1 (er.step l1) _ fun y H2 l2 ry => ?_
    rw [re_int] at ry
    exact ⟨i, j, rx, ry, decide (j < i), rfl, q _ H2 (l1.trans l2)⟩)
theorem etu_lt {j : Int} (ha : EVP E a δ anyInt) (hb : EV E b δ (.d (.int j))) (hm : behindInMarks .Lt b = false := by first | exact nomark _ | rfl) : ETU E (.Compare a [.Lt] [b] pos) δ := fun B γ σ H er Q q =>
  wt_of (fun X hX => pt_cmpR op_lt (we_pe hX) (we_pe hX) hm) (ha B γ σ H er _ fun ra x H1 ⟨i, hi⟩ l1 rx => by
    subst hi
    rw [re_int] at rx
    refine hb B γ σ H1 (er.step l1) _ fun y H2 l2 ry => ?_
    rw [re_int] at ry
    exact ⟨i, j, rx, ry, decide (i < j), rfl, q _ H2 (l1.trans l2)⟩)
/-! ### the box -/
theorem evp_boxix {b0 : Addr} {i : Int} (ha : EV E a δ (.box b0)) (hb : EV E b δ (.d (.int i))) (hi : i = 0 ∨ i = 1 ∨ i = 2) (hs : PlainIx b := by exact fun _ _ => rfl) : EVP E (.Subscript a b pos) δ anyInt := fun B γ σ H er Q q =>
  we_of (fun X hX => pe_ix (fam_Ki hX (r := rIxL) ix_list) (we_pe hX) (we_pe hX) hs) (ha B γ σ H er _ fun v H1 l1 rv => hb B γ σ H1 (er.step l1) _ fun y H2 l2 ry => by
    obtain ⟨rfl, hc, x, y', z, e⟩ := rv.step l2 er.cb
    rw [re_int] at ry
    rcases hi with rfl | rfl | rfl
    · exact ⟨b0, _, 0, .int x, rfl, ry, .inl (.inl e), rfl, q (.d (.int x)) _ H2 ⟨x, rfl⟩ (l1.trans l2) (re_int.mpr rfl)⟩
    · exact ⟨b0, _, 1, .int y', rfl, ry, .inl (.inl e), rfl, q (.d (.int y')) _ H2 ⟨y', rfl⟩ (l1.trans l2) (re_int.mpr rfl)⟩
    · exact ⟨b0, _, 2, .int z, rfl, ry, .inl (.inl e), rfl, q (.d (.int z)) _ H2 ⟨z, rfl⟩ (l1.trans l2) (re_int.mpr rfl)⟩)
/-- any whole numbers -/
theorem evp_addU (ha : EVP E a δ anyInt) (hb : EVP E b δ anyInt) : EVP E (.BinOp a .Add b pos) δ anyInt := evp_op (fun X hX => op_add) ha hb fun ra rb ⟨i, hi⟩ ⟨j, hj⟩ => ⟨.d (.int (i + j)), ⟨_, rfl⟩, by subst hi hj; exact ro_II⟩
theorem evp_mulU {j : Int} (ha : EVP E a δ anyInt) (hb : EV E b δ (.d (.int j))) (hj : -(2 ^ 64) < j ∧ j < 2 ^ 64) : EVP E (.BinOp a .Mult b pos) δ anyInt := evp_op (fun X hX => op_mul) ha (hb.toP (P := fun r => r = .d (.int j)) rfl) fun ra rb ⟨i, hi⟩ hj' => ⟨.d (.int (i * j)), ⟨_, rfl⟩, by subst hi hj'; exact ro_mul (.inr hj)⟩
theorem evp_mulU2 {j : Int} (ha : EV E a δ (.d (.int j))) (hb : EVP E b δ anyInt) (hj : -(2 ^ 64) < j ∧ j < 2 ^ 64) : EVP E (.BinOp a .Mult b pos) δ anyInt := evp_op (fun X hX => op_mul) (ha.toP (P := fun r => r = .d (.int j)) rfl) hb fun ra rb hj' ⟨i, hi⟩ => ⟨.d (.int (j * i)), ⟨_, rfl⟩, by subst hi hj'; exact ro_mul (.inl hj)⟩
theorem evp_modU {j : Int} (ha : EVP E a δ anyInt) (hb : EV E b δ (.d (.int j))) (hj : 0 < j) : EVP E (.BinOp a .Mod b pos) δ (fun r => ∃ i, r = .d (.int i) ∧ 0 ≤ i ∧ i < j) := evp_op (fun X hX => op_mod) ha (hb.toP (P := fun r => r = .d (.int j)) rfl) fun ra rb ⟨i, hi⟩ hj' => ⟨.d (.int (i % j)), ⟨_, rfl, Int.emod_nonneg _ (by omega), Int.emod_lt_of_pos _ hj⟩, by subst hi hj'; exact ro_I hj fun B H => re_int.mpr rfl⟩
theorem evp_fdivU {j : Int} (ha : EVP E a δ anyInt) (hb : EV E b δ (.d (.int j))) (hj : j ≠ 0 ∧ j.natAbs < 1073741824) : EVP E (.BinOp a .FloorDiv b pos) δ anyInt := evp_op (fun X hX => op_fdivN) ha (hb.toP (P := fun r => r = .d (.int j)) rfl) fun ra rb ⟨i, hi⟩ hj' => ⟨.d (.int (i.fdiv j)), ⟨_, rfl⟩, by subst hi hj'; exact ro_I hj fun B H => re_int.mpr rfl⟩
/-- box[i] = e -/
theorem sv_boxset (n : Nat) {y : Str} {b0 : Addr} {i : Int} {py : Pos} (hN : E.N[n]? = some y) (hv : Vis E.sc y) (hδ : δ[n]? = some (some (.box b0))) (hC : E.C b0) (hb : EV E b δ (.d (.int i))) (hi : i = 0 ∨ i = 1 ∨ i = 2) (h : EVP E e δ anyInt) (k : SV E B Bo ss δ Ω)
    (hd : (y == ("__debug__" : Str)) = false := by decide) (hcd : (y == ("__classdict__" : Str)) = false := by decide)
    (hs : ∀ env, swapsWithSole [.Subscript (.Name y py) b pos'] e pos.line env = pure false := by intro _; rfl) (hw : ∀ env, swappedStores [.Subscript (.Name y py) b pos'] e env = pure none := by intro _; rfl)
    (h1 : ∀ env, (assignEach [.Subscript (.Name y py) b pos'] env).map (·.2) = [assign (.Subscript (.Name y py) b pos') env] := by intro _; rfl)
    (ha : ∀ env v, assign (.Subscript (.Name y py) b pos') env v = (do
      let ov ← holding [v] (eval (.Name y py) env)
      let iv ← holding [v, ov] (eval b env)
      standAt pos'
      holding [v, ov, iv] (setItem ov iv v)
      release [v, ov, iv] []) := by intro _ _; rfl) : SV E B Bo (.Assign [.Subscript (.Name y py) b pos'] e pos :: ss) δ Ω := fun γ σ H er D sat => by
  refine wss_then (ws_of (t := tAsg (WE (Fam E) e) (gSub (WE (Fam E) (.Name y py)) (WE (Fam E) b) rSetL)) (fun X hX => ps_asg (we_pe hX) (pg_sub (we_pe hX) (we_pe hX) set_list (ha _)) (hs _) (hw _) (h1 _)) ?_)
  refine h B γ σ H er _ fun r w H1 ⟨m, hr⟩ l1 rw' => ?_
  subst hr
  rw [re_int] at rw'
  have er1 := er.step l1
  refine ev_var n hN hv hδ hd hcd B γ σ H1 er1 _ fun v H2 l2 rv => hb B γ σ H2 (er1.step l2) _ fun iv H3 l3 ri => ?_
  have er3 := (er1.step l2).step l3
  obtain ⟨rfl, hc, x1, y1, z1, e0⟩ := rv.step l3 er.cb
  rw [re_int] at ri
  have key : ∀ o, o = HO.lst [.int m, .int y1, .int z1] ∨ o = .lst [.int x1, .int m, .int z1] ∨ o = .lst [.int x1, .int y1, .int m] → LeC E H3 (upd H3 b0 o) := fun o ho => by
    refine ⟨fun a u hw e n => ?_, fun a ha => ?_, fun t => tabs_mut e0 notK_lst t, fun a hc' h3 => ?_⟩
    · rw [upd_ne (fun z => hw (by rw [z]; exact hc))]; exact e
    · by_cases z : a = b0
      · rw [z, upd_same]; simp
      · rw [upd_ne z]; exact ha
    · by_cases z : a = b0
      · subst z
        rcases ho with rfl | rfl | rfl
        · exact ⟨_, _, _, upd_same⟩
        · exact ⟨_, _, _, upd_same⟩
        · exact ⟨_, _, _, upd_same⟩
      · obtain ⟨x2, y2, z2, e2⟩ := h3
        exact ⟨x2, y2, z2, by rw [upd_ne z]; exact e2⟩
  subst rw'
  rcases hi with rfl | rfl | rfl
  · exact ⟨b0, _, 0, 0, rfl, ri, e0, rfl, k γ σ _ (er3.step (key _ (.inl rfl))) D sat⟩
  · exact ⟨b0, _, 1, 1, rfl, ri, e0, rfl, k γ σ _ (er3.step (key _ (.inr (.inl rfl)))) D sat⟩
  · exact ⟨b0, _, 2, 2, rfl, ri, e0, rfl, k γ σ _ (er3.step (key _ (.inr (.inr rfl)))) D sat⟩
end
end Nb
set_option Elab.async false
set_option linter.all false
set_option maxRecDepth 100000
set_option maxHeartbeats 2000000
/-! == and in of data -/
namespace Nb
open PySem PySem.Spec PyProof.Rows L2

mutual
def pyD : D → PyData
  | .non => .none
  | .bl b => .bool b
  | .int i => .int i
  | .str s => .str s
  | .tup l => .tuple (pyDs l)
  | .lst l => .list (pyDs l)
  | .dct _ _ => .none
  | .dcT _ _ => .none
  | .obj _ _ _ => .none
def pyDs : List D → List PyData
  | [] => []
  | d :: l => pyD d :: pyDs l
end
mutual
/-- plain data: whole numbers, texts, rows of such; nested at most n deep -/
def okD : Nat → D → Bool
  | _, .int _ => true
  | _, .str s => PyData.strOk s
  | n + 1, .tup l => okDs n l
  | n + 1, .lst l => okDs n l
  | _, _ => false
def okDs : Nat → List D → Bool
  | _, [] => true
  | n, d :: l => okD n d && okDs n l
end
mutual
theorem okD_lay : ∀ (n : Nat) (d : D), okD n d = true → (pyD d).canLay0 = true ∧ (pyD d).depth ≤ n
  | _, .int i, h => by simp [pyD, PyData.canLay0, PyData.depth]
  | _, .str s, h => by
    have h' : PyData.strOk s = true := by simpa [okD] using h
    simp [pyD, PyData.canLay0, PyData.depth, h']
  | n + 1, .tup l, h => by
    obtain ⟨h1, h2⟩ := okDs_lay n l (by simpa [okD] using h)
    simp [pyD, PyData.canLay0, PyData.depth, h1]
    omega
  | n + 1, .lst l, h => by
    obtain ⟨h1, h2⟩ := okDs_lay n l (by simpa [okD] using h)
    simp [pyD, PyData.canLay0, PyData.depth, h1]
    omega
  | _, .non, h => by simp [okD] at h
  | _, .bl _, h => by simp [okD] at h
  | _, .dct _ _, h => by simp [okD] at h
  | _, .dcT _ _, h => by simp [okD] at h
  | _, .obj _ _ _, h => by simp [okD] at h
  | 0, .tup _, h => by simp [okD] at h
  | 0, .lst _, h => by simp [okD] at h
theorem okDs_lay : ∀ (n : Nat) (l : List D), okDs n l = true → PyData.canLayAll0 (pyDs l) = true ∧ PyData.depthAll (pyDs l) ≤ n
  | _, [], h => by simp [pyDs, PyData.canLayAll0, PyData.depthAll]
  | n, d :: l, h => by
    have h' : okD n d = true ∧ okDs n l = true := by simpa [okDs] using h
    obtain ⟨h1, h2⟩ := okD_lay n d h'.1
    obtain ⟨h3, h4⟩ := okDs_lay n l h'.2
    simp [pyDs, PyData.canLayAll0, PyData.depthAll, h1, h3]
    omega
end
mutual
theorem eqv_iff : ∀ (n m : Nat) (d e : D), okD n d = true → okD m e = true → (PyData.eqv (pyD d) (pyD e) = true ↔ d = e)
  | n, m, .int i, .int j, _, _ => by simp [pyD, PyData.eqv]
  | n, m, .str i, .str j, _, _ => by simp [pyD, PyData.eqv]
  | n + 1, m + 1, .tup l, .tup k, h, h' => by
    have := eqvs_iff n m l k (by simpa [okD] using h) (by simpa [okD] using h')
    simp [pyD, PyData.eqv, this]
  | n + 1, m + 1, .lst l, .lst k, h, h' => by
    have := eqvs_iff n m l k (by simpa [okD] using h) (by simpa [okD] using h')
    simp [pyD, PyData.eqv, this]
  | n, m, .int i, .str j, _, _ => by simp [pyD, PyData.eqv]
  | n, m, .int i, .tup j, _, _ => by simp [pyD, PyData.eqv]
  | n, m, .int i, .lst j, _, _ => by simp [pyD, PyData.eqv]
  | n, m, .str i, .int j, _, _ => by simp [pyD, PyData.eqv]
  | n, m, .str i, .tup j, _, _ => by simp [pyD, PyData.eqv]
  | n, m, .str i, .lst j, _, _ => by simp [pyD, PyData.eqv]
  | n, m, .tup i, .int j, _, _ => by simp [pyD, PyData.eqv]
  | n, m, .tup i, .str j, _, _ => by simp [pyD, PyData.eqv]
  | n, m, .tup i, .lst j, _, _ => by simp [pyD, PyData.eqv]
  | n, m, .lst i, .int j, _, _ => by simp [pyD, PyData.eqv]
  | n, m, .lst i, .str j, _, _ => by simp [pyD, PyData.eqv]
  | n, m, .lst i, .tup j, _, _ => by simp [pyD, PyData.eqv]
  | 0, _, .tup _, _, h, _ => by simp [okD] at h
  | 0, _, .lst _, _, h, _ => by simp [okD] at h
  | _, 0, _, .tup _, _, h => by simp [okD] at h
  | _, 0, _, .lst _, _, h => by simp [okD] at h
  | _, _, .non, _, h, _ => by simp [okD] at h
  | _, _, .bl _, _, h, _ => by simp [okD] at h
  | _, _, .dct _ _, _, h, _ => by simp [okD] at h
  | _, _, .dcT _ _, _, h, _ => by simp [okD] at h
  | _, _, .obj _ _ _, _, h, _ => by simp [okD] at h
  | _, _, _, .non, _, h => by simp [okD] at h
  | _, _, _, .bl _, _, h => by simp [okD] at h
  | _, _, _, .dct _ _, _, h => by simp [okD] at h
  | _, _, _, .dcT _ _, _, h => by simp [okD] at h
  | _, _, _, .obj _ _ _, _, h => by simp [okD] at h
theorem eqvs_iff : ∀ (n m : Nat) (l k : List D), okDs n l = true → okDs m k = true → (PyData.eqvAll (pyDs l) (pyDs k) = true ↔ l = k)
  | _, _, [], [], _, _ => by simp [pyDs, PyData.eqvAll]
  | _, _, [], d :: k, _, _ => by simp [pyDs, PyData.eqvAll]
  | _, _, d :: k, [], _, _ => by simp [pyDs, PyData.eqvAll]
  | n, m, d :: l, e :: k, h, h' => by
    have h1 : okD n d = true ∧ okDs n l = true := by simpa [okDs] using h
    have h2 : okD m e = true ∧ okDs m k = true := by simpa [okDs] using h'
    have := eqv_iff n m d e h1.1 h2.1
    have := eqvs_iff n m l k h1.2 h2.2
    simp [pyDs, PyData.eqvAll, *]
end
section
variable {cl : Str → Addr} {B : Addr → Prop} {K : PySem.W.Frag} {H : Hp}
mutual
theorem rep_dp : ∀ (n : Nat) (d : D) (v : V), okD n d = true → Rep cl B d v H → Dp K H v (pyD d)
  | _, .int i, v, h, r => by simp only [Rep] at r; subst r; simp only [pyD]; exact .int i
  | _, .str i, v, h, r => by simp only [Rep] at r; subst r; simp only [pyD]; exact .str i
  | n + 1, .tup l, v, h, r => by
    simp only [Rep] at r
    obtain ⟨a, vs, rfl, _, h1, h2⟩ := r
    simp only [pyD]
    exact .tup (.inl (.inl h1)) (reps_dp n l vs (by simpa [okD] using h) h2)
  | n + 1, .lst l, v, h, r => by
    simp only [Rep] at r
    obtain ⟨a, vs, rfl, _, h1, h2⟩ := r
    simp only [pyD]
    exact .lst (.inl (.inl h1)) (reps_dp n l vs (by simpa [okD] using h) h2)
  | _, .non, _, h, _ => by simp [okD] at h
  | _, .bl _, _, h, _ => by simp [okD] at h
  | _, .dct _ _, _, h, _ => by simp [okD] at h
  | _, .dcT _ _, _, h, _ => by simp [okD] at h
  | _, .obj _ _ _, _, h, _ => by simp [okD] at h
  | 0, .tup _, _, h, _ => by simp [okD] at h
  | 0, .lst _, _, h, _ => by simp [okD] at h
theorem reps_dp : ∀ (n : Nat) (l : List D) (vs : List V), okDs n l = true → Reps cl B l vs H → DpAll K H vs (pyDs l)
  | _, [], vs, _, r => by rw [reps_nil.mp r]; simp only [pyDs]; exact .nil
  | n, d :: l, vs, h, r => by
    obtain ⟨v, vs', rfl, r1, r2⟩ := reps_cons.mp r
    have h1 : okD n d = true ∧ okDs n l = true := by simpa [okDs] using h
    simp only [pyDs]
    exact .cons (rep_dp n d v h1.1 r1) (reps_dp n l vs' h1.2 r2)
end
end
theorem wk_dp {E : EC} {B : Addr → Prop} {n : Nat} {x : D} {v : V} {H : Hp} (h : okD n x = true) (r : RE E B (.wk x) v H) : Dp E.K H v (pyD x) := by
  cases x with
  | lst l =>
    obtain ⟨p, vs, rfl, _, h1, h2⟩ := wk_lst r
    cases n with
    | zero => simp [okD] at h
    | succ n => simp only [pyD]; exact .lst (.inl (.inl h1)) (reps_dp n l vs (by simpa [okD] using h) h2)
  | tup l =>
    obtain ⟨p, vs, rfl, _, h1, h2⟩ := wk_tup r
    cases n with
    | zero => simp [okD] at h
    | succ n => simp only [pyD]; exact .tup (.inl (.inl h1)) (reps_dp n l vs (by simpa [okD] using h) h2)
  | _ => simp [okD] at h <;> obtain ⟨p, _, _, hh⟩ := r <;> exact hh.elim
theorem okD_shaped {n : Nat} {d : D} (h : okD n d = true) (hn : n ≤ 64) : SeqAt.shaped (pyD d) = true := by
  obtain ⟨h1, h2⟩ := okD_lay n d h
  unfold SeqAt.shaped
  simp [h1]
  omega
section
variable {E : EC} {B : Addr → Prop} {δ : Ds} {H H' H2 : Hp} {v : V} {r ra rb rc : Ent} {x y : D} {e a b : Expr} {es : List Expr} {pos p : Pos} {c : Bool} {n m : Nat}
theorem un_of {X : Cx} (hX : Fam E X) : X.A.units + 64 < cLine := by have := hX.room.un; omega
theorem eqv_is {c : Bool} (hx : okD n x = true) (hy : okD m y = true) (hc : c = true ↔ x = y) : PyData.eqv (pyD x) (pyD y) = c := by
  have := eqv_iff n m x y hx hy
  cases c <;> cases h : PyData.eqv (pyD x) (pyD y) <;> simp_all
theorem ro_eqD (n m : Nat) (hx : okD n x = true) (hy : okD m y = true) (hn : n ≤ 64) (hm : m ≤ 64) (hc : c = true ↔ x = y) : RO E (rEqD E.K) (.wk x) (.wk y) (.d (.bl c)) := fun B u v H dom cb rx ry Q q =>
  ⟨pyD x, pyD y, wk_dp hx rx, wk_dp hy ry, okD_shaped hx hn, okD_shaped hy hm, q _ H Le.refl (re_bl.mpr (by rw [eqv_is hx hy hc]))⟩
theorem ro_neD (n m : Nat) (hx : okD n x = true) (hy : okD m y = true) (hn : n ≤ 64) (hm : m ≤ 64) (hc : c = true ↔ x = y) : RO E (rNeD E.K) (.wk x) (.wk y) (.d (.bl (!c))) := fun B u v H dom cb rx ry Q q =>
  ⟨pyD x, pyD y, wk_dp hx rx, wk_dp hy ry, okD_shaped hx hn, okD_shaped hy hm, q _ H Le.refl (re_bl.mpr (by rw [eqv_is hx hy hc]))⟩
theorem ev_eqD (n m : Nat) (ha : EV E a δ (.wk x)) (hb : EV E b δ (.wk y)) (hx : okD n x = true) (hy : okD m y = true) (hc : c = true ↔ x = y) (hn : n ≤ 64 := by decide) (hm : m ≤ 64 := by decide) : EV E (.Compare a [.Eq] [b] pos) δ (.d (.bl c)) := ev_cmp (fun X hX => fam_K hX (r := rEqD) (op_eqD (un_of hX))) ha hb (ro_eqD n m hx hy hn hm hc)
theorem et_eqD (n m : Nat) (ha : EV E a δ (.wk x)) (hb : EV E b δ (.wk y)) (hx : okD n x = true) (hy : okD m y = true) (hc : c = true ↔ x = y) (hn : n ≤ 64 := by decide) (hm : m ≤ 64 := by decide) : ET E (.Compare a [.Eq] [b] pos) δ c := et_cmp (fun X hX => fam_K hX (r := rEqD) (op_eqD (un_of hX))) ha hb (ro_eqD n m hx hy hn hm hc)
theorem ev_neD (n m : Nat) (ha : EV E a δ (.wk x)) (hb : EV E b δ (.wk y)) (hx : okD n x = true) (hy : okD m y = true) (hc : c = true ↔ x = y) (hn : n ≤ 64 := by decide) (hm : m ≤ 64 := by decide) : EV E (.Compare a [.NotEq] [b] pos) δ (.d (.bl (!c))) := ev_cmp (fun X hX => fam_K hX (r := rNeD) (op_neD (un_of hX))) ha hb (ro_neD n m hx hy hn hm hc)
theorem et_neD (n m : Nat) (ha : EV E a δ (.wk x)) (hb : EV E b δ (.wk y)) (hx : okD n x = true) (hy : okD m y = true) (hc : c = true ↔ x = y) (hn : n ≤ 64 := by decide) (hm : m ≤ 64 := by decide) : ET E (.Compare a [.NotEq] [b] pos) δ (!c) := et_cmp (fun X hX => fam_K hX (r := rNeD) (op_neD (un_of hX))) ha hb (ro_neD n m hx hy hn hm hc)
/-- a tuple of anything against the empty tuple -/
def rNeE (K : PySem.W.Frag) : R2 := fun x y H Q => ∃ a b xs, x = .ref a ∧ y = .ref b ∧ SqT K H a xs ∧ SqT K H b [] ∧ Q (.bl (!xs.isEmpty)) H
theorem op_neE {X : Cx} (hu : X.A.units < cLine) : OpR X (compareOp .NotEq) (rNeE X.K) := by
  intro pins s σ H x y v u Q I rx ry h
  obtain ⟨a, b, xs, rfl, rfl, ha, hb, q⟩ := h
  cases rx
  cases ry
  obtain ⟨its, r1, p1, _⟩ := I.tuple ha
  obtain ⟨its2, r2, p2, _⟩ := I.tuple hb
  cases r2
  refine PySem.SeqAt.RcNeAt.tuples (e := fun _ => true) p1 p2 hu (fun j h1 h2 => by simp at h2) X.prog X.w X.xe _ ?_
  refine ⟨.bl (!xs.isEmpty), H, I, ?_, q⟩
  show Value.bool _ = Value.bool _
  cases r1 with
  | nil => rfl
  | cons _ _ => simp
theorem et_neE {l : List D} (ha : EV E a δ (.d (.tup l))) (hb : EV E b δ (.d (.tup []))) : ET E (.Compare a [.NotEq] [b] pos) δ (!l.isEmpty) := et_cmp (fun X hX => fam_K hX (r := rNeE) (op_neE (by have := un_of hX; omega))) ha hb fun B u v H dom cb rx ry Q q => by
  obtain ⟨p1, vs, rfl, _, h1, h2⟩ := re_tup rx
  obtain ⟨p2, ws, rfl, _, h3, h4⟩ := re_tup ry
  rw [reps_nil.mp h4] at h3
  refine ⟨p1, p2, vs, rfl, rfl, .inl (.inl h1), .inl (.inl h3), q _ H Le.refl (re_bl.mpr ?_)⟩
  cases l with
  | nil => rw [reps_nil.mp h2]; rfl
  | cons d l => obtain ⟨v, vs', rfl, _, _⟩ := reps_cons.mp h2; rfl
/-- x in a tuple of data -/
def rInD (K : PySem.W.Frag) : R2 := fun x y H Q => ∃ d es, Dp K H x d ∧ Dp K H y (.tuple es) ∧ SeqAt.shaped d = true ∧ SeqAt.shaped (.tuple es) = true ∧ Q (.bl (es.any fun e => PyData.eqv e d)) H
theorem op_inD {X : Cx} (hu : X.A.units + 66 < cLine) : OpR X (compareOp .In) (rInD X.K) := by
  intro pins s σ H x y v u Q I rx ry h
  obtain ⟨d, es, hd, he, sd, se, q⟩ := h
  obtain ⟨as, r1⟩ := Dp.reads I d x v hd rx
  obtain ⟨bs, r2⟩ := Dp.reads I _ y u he ry
  have h1 := SeqAt.canLay_of_shaped sd
  have h2 : PyData.canLayAll0 es = true := by have := SeqAt.canLay_of_shaped se; simpa [PyData.canLay0] using this
  refine SeqAt.in_tuple_reads r2 r1 h2 h1 ?_ ⟨.bl _, H, I, rfl, q⟩
  have h3 := SeqAt.depth_of_shaped sd
  have h4 : min (PyData.depthAll es) d.depth ≤ d.depth := Nat.min_le_right _ _
  omega
theorem any_iff {d : D} (hd : okD n d = true) : ∀ {l : List D}, okDs m l = true → ((pyDs l).any (fun e => PyData.eqv e (pyD d)) = true ↔ d ∈ l)
  | [], _ => by simp [pyDs]
  | e :: l, h => by
    have h1 : okD m e = true ∧ okDs m l = true := by simpa [okDs] using h
    have i1 := eqv_iff m n e d h1.1 hd
    have i2 := any_iff hd h1.2
    simp only [pyDs, List.any_cons, Bool.or_eq_true, i1, i2, List.mem_cons]
    constructor
    · rintro (h | h)
      · exact .inl h.symm
      · exact .inr h
    · rintro (h | h)
      · exact .inl h.symm
      · exact .inr h
theorem ev_inD {l : List D} (n m : Nat) (ha : EV E a δ (.d x)) (hb : EV E b δ (.d (.tup l))) (hx : okD n x = true) (hy : okDs m l = true) (hc : c = true ↔ x ∈ l) (hn : n ≤ 64 := by decide) (hm : m ≤ 63 := by decide) (hmk : behindInMarks .In b = false := by rfl) : EV E (.Compare a [.In] [b] pos) δ (.d (.bl c)) :=
  ev_cmp (fun X hX => fam_K hX (r := rInD) (op_inD (by have := hX.room.un; omega))) ha hb (fun B u v H dom cb rx ry Q q => by
    have hy' : okD (m + 1) (.tup l) = true := by simpa [okD] using hy
    have h2 := rep_dp (K := E.K) (m + 1) _ _ hy' ry
    simp only [pyD] at h2
    have h3 := okD_shaped hy' (by omega)
    simp only [pyD] at h3
    refine ⟨pyD x, pyDs l, rep_dp n _ _ hx rx, h2, okD_shaped hx hn, h3, q _ H Le.refl (re_bl.mpr ?_)⟩
    have := any_iff hx hy
    cases c <;> cases h : (pyDs l).any (fun e => PyData.eqv e (pyD x)) <;> simp_all) hmk
/-- texts that are texts -/
def okS (ss : List Str) : Bool := ss.all PyData.strOk
theorem okDs_map {α : Type} {f : α → D} : ∀ {l : List α}, (∀ x ∈ l, okD n (f x) = true) → okDs n (l.map f) = true
  | [], _ => rfl
  | x :: l, h => by
    rw [List.map_cons]
    simp [okDs, h x (by simp), okDs_map fun y hy => h y (List.mem_cons_of_mem _ hy)]
theorem okDs_str {ss : List Str} (h : okS ss = true) : okDs n (ss.map D.str) = true := okDs_map fun x hx => by
  have := List.all_eq_true.mp h x hx
  cases n <;> simpa [okD] using this
theorem okDs_int {ss : List Int} : okDs n (ss.map D.int) = true := okDs_map fun x hx => by cases n <;> simp [okD]
end
end Nb
set_option Elab.async false
set_option linter.all false
set_option maxRecDepth 100000
set_option maxHeartbeats 2000000
/-! enumerate, locks, dict comprehensions, isinstance, pop, join -/
namespace Nb
open PySem PySem.Spec PyProof.Rows L2

section
variable {E : EC} {B Bo B' : Addr → Prop} {δ : Ds} {γ : Gh} {σ : L2.St} {Ω Ω' : Post} {ss : List Stmt} {H H' H2 : Hp} {v : V} {r ra rb rc : Ent} {x : D} {e a b c it tg : Expr} {es : List Expr} {pos pos' p apos : Pos} {P : D → Prop}

theorem ev_revT {l : List D} {k : Nat} {p1 p2 p3 : Pos} (ha : EV E a δ (.d (.tup l))) : EV E (.Subscript a (.Slice none none (some (.UnaryOp .USub (.Constant (.int 1) k p1) p2)) p3) pos) δ (.d (.tup l.reverse)) := fun B γ σ H er Q q =>
  we_of (t := tRevT E.K (WE (Fam E) a)) (fun X hX => by rw [← hX.K]; exact pe_revT (we_pe hX)) (ha B γ σ H er _ fun v H1 l1 rv => by
    obtain ⟨p, vs, rfl, nc, h3, h4⟩ := re_tup rv
    exact ⟨p, vs, rfl, .inl (.inl h3), fun t ht => q _ _ (l1.trans (LeC.new ht)) (re_newT (er.step l1).dom ht er.cb h4.reverse)⟩)
/-! ### enumerate(tuple) -/
def enumD (l : List D) : List D := l.zipIdx.map fun q => .tup [.int (q.2 : Nat), q.1]
theorem enumD_map {τ : Type} (f : τ → D) (xs : List τ) : enumD (xs.map f) = xs.zipIdx.map fun q => .tup [.int (q.2 : Nat), f q.1] := by
  unfold enumD
  rw [List.zipIdx_map, List.map_map]
  rfl
theorem zip_mem {l : List D} {vs : List V} (h : Reps E.cl B l vs H) {q : D × V} (hq : q ∈ l.zip vs) : Rep E.cl B q.1 q.2 H := by
  obtain ⟨i, hi, e⟩ := List.mem_iff_getElem.mp hq
  have h1 : i < l.length := by rw [List.length_zip] at hi; omega
  have h2 : i < vs.length := by rw [List.length_zip] at hi; omega
  obtain ⟨w, hw, rw'⟩ := h.get (List.getElem?_eq_getElem h1)
  rw [List.getElem?_eq_getElem h2] at hw
  rw [← e, List.getElem_zip]
  rw [Option.some.inj hw]
  exact rw'
theorem mem_zip {l : List D} {vs : List V} {i : Nat} {d : D} {x : V} (h1 : l[i]? = some d) (h2 : vs[i]? = some x) : (d, x) ∈ l.zip vs := by
  obtain ⟨a1, e1⟩ := List.getElem?_eq_some_iff.mp h1
  obtain ⟨a2, e2⟩ := List.getElem?_eq_some_iff.mp h2
  refine List.mem_iff_getElem.mpr ⟨i, by rw [List.length_zip]; omega, ?_⟩
  rw [List.getElem_zip, e1, e2]
/-- a new pair -/
theorem rep_pair {T : Addr} {y z : V} {d1 d2 : D} (dom : ∀ a, B a → H a ≠ none) (hT : H T = none) (cb : ∀ a, E.C a → B a) (r1 : Rep E.cl B d1 y H) (r2 : Rep E.cl B d2 z H) : LeC E H (upd H T (.tup [y, z])) ∧ Rep E.cl B (.tup [d1, d2]) (.ref T) (upd H T (.tup [y, z])) :=
  ⟨LeC.new hT, re_newT (E := E) dom hT cb (.cons r1 (.cons r2 .nil))⟩
theorem ei_enum {l : List D} {elts : List Expr} {kk : Nat} {tpos : Pos} (h : EV E e δ (.d (.tup l))) (hg : GlS E.sc "enumerate") (hm : E.mg "enumerate" = none) (hs : ∀ env, starEach [e] env = (false, eval e env) :: starEach [] env := by intro _; rfl) (hs2 : ∀ env, starEach [e] env = [(false, eval e env)] := by intro _; rfl) : EI E true (.Tuple elts kk tpos) (.Call (.Name "enumerate" p) [e] [] pos) δ (enumD l) := fun B γ σ H er R q =>
  wi_of (fun X hX => fam_Kw hX (r := fun K => iEnumT K (WA (Fam E) [e])) (pi_enumT (gl_of hX hg) (by rw [hX.mg]; exact hm) (wa_pa hX) (hs2 _))) (ea_1 h hs B γ σ H er _ fun vs H2 l1 rs => by
    obtain ⟨v, rfl, rv⟩ := rs.one
    obtain ⟨p, vs, rfl, hb, hp, hr⟩ := re_tup rv
    have hlen : (enumD l).length = vs.length := by unfold enumD; rw [List.length_map, List.length_zipIdx, hr.len]
    refine ⟨p, vs, rfl, .inl (.inl hp), q _ H2 [(p, .tup vs)] (l.zip vs) (fun H => SqT E.K H p vs) _ l1 (fun z hz => ?_) (fun z hz => zip_mem hr hz) (by rw [hlen]; exact walk_enumT) (fun H' h => .inl (.inl (h (p, _) List.mem_cons_self))) (fun i d B' H' x H'' hd dom cb' hraw hdat hy => ?_)⟩
    · rw [List.mem_singleton.mp hz]
      exact ⟨fun z => hb (er.cb _ z), fun _ => hb, (fun ps z => by cases z), hp⟩
    · obtain ⟨T, y, z, rfl, hT, rfl, h1, h2⟩ := hy
      cases h1
      unfold enumD at hd
      rw [List.getElem?_map, List.getElem?_zipIdx] at hd
      cases hl : l[i]? with
      | none => rw [hl] at hd; cases hd
      | some d0 =>
        rw [hl] at hd
        have hd' : D.tup [.int ((0 + i : Nat) : Int), d0] = d := by simpa using hd
        rw [← hd', Nat.zero_add]
        exact rep_pair dom hT cb' (by simp [Rep]) (hdat _ (mem_zip hl h2)))
/-! ### locked dicts -/
def EC.at (E : EC) (H0' : Hp) : EC := { E with H0 := H0' }
theorem fam_at {E : EC} {H0' : Hp} : Fam (E.at H0') = Fam E := funext fun X => propext ⟨fun h => ⟨h.prog, h.w, h.K, h.mg, h.base, h.N, h.nd, h.calm, h.room, h.sc, h.fn, h.xe, h.lam⟩, fun h => ⟨h.prog, h.w, h.K, h.mg, h.base, h.N, h.nd, h.calm, h.room, h.sc, h.fn, h.xe, h.lam⟩⟩
theorem fam_atb {E : EC} {H0' : Hp} {scope : Scope} : Fam ((E.at H0').blk scope) = Fam (E.blk scope) := fam_at (E := E.blk scope)
theorem Of.at {E : EC} {g : Glob} {H0' : Hp} (h : Of E g) : Of (E.at H0') g := ⟨h.P, h.w, h.K, h.mg, h.base, h.T, h.cl⟩
def unown : Option Ent → Option Ent
  | some (.own _ x) => some (.wk x)
  | some (.scr ns) => some (.scr ns)
  | o => o
theorem lk_re {E : EC} {H0' Hl : Hp} {B : Addr → Prop} {r : Ent} {v : V} {H : Hp} {p : Addr} {od : Obj} {kvs : List (Key × V)} (hp : H p = some (.dK kvs)) (nC : ¬ E.C p) (nB : ¬ B p) (hl : Hl = upd H p (.frz od (.dK kvs))) (h : RE E B r v H) :
    ∀ r', unown (some r) = some r' → RE (E.at H0') B r' v Hl := by
  intro r' e
  subst hl
  have k : Kd B B H (upd H p (.frz od (.dK kvs))) := by
    refine ⟨fun _ _ h => h, fun a u nb hd r => ?_, fun a u nb hs r => ?_⟩
    · by_cases z : a = p
      · subst z
        rcases r with r | ⟨o, r⟩
        · rw [hp] at r
          cases r
          exact .inr ⟨od, upd_same⟩
        · rw [hp] at r
          cases r
      · rcases r with r | ⟨o, r⟩
        · exact .inl (by rw [upd_ne z]; exact r)
        · exact .inr ⟨o, by rw [upd_ne z]; exact r⟩
    · have z : a ≠ p := fun z => by
        rw [z, hp] at r
        rw [← Option.some.inj r] at hs
        cases hs
      rw [upd_ne z]
      exact r
  have rdk : ∀ a u, Rd H a u → isDic u = true → Rd (upd H p (.frz od (.dK kvs))) a u := fun a u r hd => by
    by_cases z : a = p
    · subst z
      rcases r with r | ⟨o, r⟩
      · rw [hp] at r
        cases r
        exact .inr ⟨od, upd_same⟩
      · rw [hp] at r
        cases r
    · rcases r with r | ⟨o, r⟩
      · exact .inl (by rw [upd_ne z]; exact r)
      · exact .inr ⟨o, by rw [upd_ne z]; exact r⟩
  have ex : ∀ a o, H a = some o → (∀ q, o ≠ .dK q) → upd H p (.frz od (.dK kvs)) a = some o := fun a o e n => by
    have z : a ≠ p := fun z => by
      rw [z, hp] at e
      exact n kvs (Option.some.inj e).symm
    rw [upd_ne z]
    exact e
  have topw : ∀ (x : D) (a : Addr), TopW E.cl B x a H → TopW E.cl B x a (upd H p (.frz od (.dK kvs))) := fun x a h => by
    cases x with
    | lst l => obtain ⟨vs, e1, r⟩ := h; exact ⟨vs, ex _ _ e1 (fun q z => by cases z), Reps.kd k _ _ r⟩
    | tup l => obtain ⟨vs, e1, r⟩ := h; exact ⟨vs, ex _ _ e1 (fun q z => by cases z), Reps.kd k _ _ r⟩
    | dct ks l => obtain ⟨vs, hl, e1, r⟩ := h; exact ⟨vs, hl, rdk _ _ e1 rfl, Reps.kd k _ _ r⟩
    | dcT ks l => obtain ⟨vs, hl, e1, r⟩ := h; exact ⟨vs, hl, rdk _ _ e1 rfl, Reps.kd k _ _ r⟩
    | _ => exact h.elim
  cases r with
  | d x => cases e; exact Rep.kd k _ _ h
  | own q x =>
    cases e
    obtain ⟨e, h1, h2, h4, h5⟩ := h
    exact ⟨q, e, h1, topw _ _ h5.wk⟩
  | box q =>
    cases e
    obtain ⟨e, h1, x1, y1, z1, h2⟩ := h
    exact ⟨e, h1, x1, y1, z1, ex _ _ h2 (fun q z => by cases z)⟩
  | scr ns =>
    cases e
    obtain ⟨a, e, h1, h2⟩ := h
    refine ⟨a, e, h1, ?_⟩
    rcases h2 with h2 | h2
    · refine .inl ?_
      rcases h2 with r | ⟨o, r⟩
      · exact .inl (ex _ _ r (fun q z => by cases z))
      · exact .inr ⟨o, ex _ _ r (fun q z => by cases z)⟩
    · exact .inr h2
  | ins q c fs l =>
    cases e
    obtain ⟨e, h1, h2, dx, vs, hl, h3, h4⟩ := h
    exact ⟨e, h1, h2, dx, vs, hl, ex _ _ h3 (fun q z => by cases z), Reps.kd k _ _ h4⟩
  | wk x =>
    cases e
    obtain ⟨q, e, h1, h2⟩ := h
    exact ⟨q, e, h1, topw _ _ h2⟩
  | ty u => cases e; exact h
  | lk q ks l =>
    cases e
    obtain ⟨e, h1, od2, vs, h2, h3, h4⟩ := h
    exact ⟨e, h1, od2, vs, h2, ex _ _ h3 (fun q z => by cases z), Reps.kd k _ _ h4⟩
theorem notK_frz {o : Obj} {u : HO} : notK (.frz o u) := ⟨(fun ps z => by cases z), (fun c q z => by unfold LamX.CodeO at z; cases z)⟩
/-- e reads the dict of slot i turn by turn -/
theorem lock_te (i : Nat) {ks : List Str} {l : List D} (hδ : δ[i]? = some (some (.d (.dct ks l)))) (te : TE) (h : ∀ p H0' B γ σ H, ER (E.at H0') B ((δ.map unown).set i (some (.lk p ks l))) γ σ H → ∀ Q : VK, (∀ y v H2, P y → LeC E H H2 → Rep E.cl B y v H2 → Q v H2) → te σ H Q)
    {B : Addr → Prop} {γ : Gh} {σ : L2.St} {H : Hp} (er : ER E B δ γ σ H) {Q : VK} (q : ∀ y v H2, P y → LeC E H H2 → Rep E.cl B y v H2 → Q v H2) : te σ H Q ∨ tLockE te σ H Q := by
  obtain ⟨v, hv, rv⟩ := er.at_ i _ hδ
  simp only [RE, Rep] at rv
  obtain ⟨p, vs, rfl, nB, hlen, hrd, hrs⟩ := rv
  have nC : ¬ E.C p := fun z => nB (er.cb p z)
  have core : ∀ (Hl : Hp) (H0' : Hp) (od : Obj), LamX.Tabs E.T Hl → Hl p = some (.frz od (.dK ((ks.map Sum.inr).zip vs))) → (∀ a, H a ≠ none → Hl a ≠ none) → Le E.T E.W E.C H0' Hl → (∀ (r r' : Ent) (v : V), unown (some r) = some r' → RE E B r v H → RE (E.at H0') B r' v Hl) → Reps E.cl B l vs Hl →
      ER (E.at H0') B ((δ.map unown).set i (some (.lk p ks l))) ⟨[], []⟩ σ Hl := fun Hl H0' od tb hp dm le hre hrs' => by
    refine ⟨le, fun a ha => dm a (er.dom a ha), er.sub, er.cb, er.cw, tb, fun j r e => ?_, by simpa using er.len, (fun _ hz => by cases hz), (fun _ hz => by cases hz)⟩
    by_cases hj : i = j
    · subst hj
      have hlt : i < (δ.map unown).length := by rw [List.length_map]; exact (List.getElem?_eq_some_iff.mp hδ).1
      rw [List.getElem?_set_self hlt] at e
      cases e
      exact ⟨_, hv, rfl, nC, od, vs, hlen, hp, hrs'⟩
    · rw [List.getElem?_set_ne hj, List.getElem?_map] at e
      cases hd : δ[j]? with
      | none => rw [hd] at e; cases e
      | some o =>
        rw [hd] at e
        cases o with
        | none => cases e
        | some r0 =>
          obtain ⟨w, hw, rw'⟩ := er.at_ j r0 hd
          exact ⟨w, hw, hre r0 r w (by simpa using e) rw'⟩
  rcases hrd with hp | ⟨od, hp⟩
  · refine .inr ⟨p, _, hp, trivial, fun od => ?_⟩
    have hrel : ∀ (H0' : Hp) (r r' : Ent) (v : V), unown (some r) = some r' → RE E B r v H → RE (E.at H0') B r' v (upd H p (.frz od (.dK ((ks.map Sum.inr).zip vs)))) := fun H0' r r' v hu hr => lk_re (E := E) (H0' := H0') hp nC nB rfl hr r' hu
    have tb : LamX.Tabs E.T (upd H p (.frz od (.dK ((ks.map Sum.inr).zip vs)))) := tabs_mut hp notK_dK er.tabs
    have hrs' : Reps E.cl B l vs (upd H p (.frz od (.dK ((ks.map Sum.inr).zip vs)))) := by
      have := hrel H (.d (.tup l)) (.d (.tup l))
      have k : Kd B B H (upd H p (.frz od (.dK ((ks.map Sum.inr).zip vs)))) := by
        refine ⟨fun _ _ h => h, fun a u nb hd r => ?_, fun a u nb hs r => ?_⟩
        · by_cases z : a = p
          · subst z
            rcases r with r | ⟨o, r⟩
            · rw [hp] at r
              cases r
              exact .inr ⟨od, upd_same⟩
            · rw [hp] at r
              cases r
          · rcases r with r | ⟨o, r⟩
            · exact .inl (by rw [upd_ne z]; exact r)
            · exact .inr ⟨o, by rw [upd_ne z]; exact r⟩
        · have z : a ≠ p := fun z => by
            rw [z, hp] at r
            rw [← Option.some.inj r] at hs
            cases hs
          rw [upd_ne z]
          exact r
      exact Reps.kd k _ _ hrs
    have er' := core _ (upd H p (.frz od (.dK ((ks.map Sum.inr).zip vs)))) od tb upd_same (fun a ha => by
      by_cases z : a = p
      · rw [z, upd_same]; simp
      · rw [upd_ne z]; exact ha) Le.refl (hrel _) hrs'
    have hh := h p (upd H p (.frz od (.dK ((ks.map Sum.inr).zip vs)))) B _ σ _ er'
    refine hh _ fun y v H2 hy l2 rv2 => ?_
    have hk : H2 p = some (.frz od (.dK ((ks.map Sum.inr).zip vs))) := l2.keep p _ nC upd_same fun ps z => by cases z
    refine ⟨hk, q y v _ hy ?_ ?_⟩
    · refine ⟨fun a o hw e n => ?_, fun a ha => ?_, fun t => tabs_mut hk notK_frz (l2.tabs tb), fun a hc ⟨x1, y1, z1, e⟩ => ?_⟩
      · by_cases z : a = p
        · subst z
          rw [hp] at e
          cases e
          exact upd_same
        · rw [upd_ne z]
          exact l2.keep a o hw (by rw [upd_ne z]; exact e) n
      · by_cases z : a = p
        · rw [z, upd_same]; simp
        · rw [upd_ne z]
          exact l2.dom a (by rw [upd_ne z]; exact ha)
      · have z : a ≠ p := fun z => nC (by rw [← z]; exact hc)
        obtain ⟨x2, y2, z2, e2⟩ := l2.box a hc ⟨x1, y1, z1, by rw [upd_ne z]; exact e⟩
        exact ⟨x2, y2, z2, by rw [upd_ne z]; exact e2⟩
    · have k : Kd B B H2 (upd H2 p (.dK ((ks.map Sum.inr).zip vs))) := by
        refine ⟨fun _ _ h => h, fun a u nb hd r => ?_, fun a u nb hs r => ?_⟩
        · by_cases z : a = p
          · subst z
            rcases r with r | ⟨o, r⟩
            · rw [hk] at r
              rw [← Option.some.inj r] at hd
              cases hd
            · rw [hk] at r
              cases r
              exact .inl upd_same
          · rcases r with r | ⟨o, r⟩
            · exact .inl (by rw [upd_ne z]; exact r)
            · exact .inr ⟨o, by rw [upd_ne z]; exact r⟩
        · have z : a ≠ p := fun z => by
            rw [z, hk] at r
            rw [← Option.some.inj r] at hs
            cases hs
          rw [upd_ne z]
          exact r
      exact Rep.kd (cl := E.cl) k y v rv2
  · have same : ∀ (r r' : Ent) (v : V), unown (some r) = some r' → RE E B r v H → RE (E.at H) B r' v H := fun r r' v hu hr => by
      cases r <;> cases hu <;> first
        | exact hr
        | (obtain ⟨e, h1, h2, h4, h5⟩ := hr; exact ⟨_, e, h1, h5.wk⟩)
    have er' := core H H od er.tabs hp (fun a ha => ha) Le.refl same hrs
    exact .inl (h p H B _ σ _ er' _ fun y v H2 hy l2 rv2 => q y v H2 hy l2 rv2)
theorem evp_lock (i : Nat) {ks : List Str} {l : List D} (hδ : δ[i]? = some (some (.d (.dct ks l)))) (h : ∀ p H0', EVP (E.at H0') e ((δ.map unown).set i (some (.lk p ks l))) (fun r => ∃ y, r = .d y ∧ P y)) : EVP E e δ (fun r => ∃ y, r = .d y ∧ P y) := fun B γ σ H er Q q => by
  rcases lock_te (P := P) i hδ (WE (Fam E) e) (fun p H0' B γ σ H er Q q => by
    have hh := h p H0' B γ σ H er Q
    rw [fam_at] at hh
    exact hh fun r v H2 ⟨y, hr, hy⟩ l2 rv2 => by
      subst hr
      exact q y v H2 hy l2 rv2) er (Q := Q) (fun y v H2 hy l rv => q (.d y) v H2 ⟨y, rfl, hy⟩ l rv) with k | k
  · exact k
  · exact we_of (t := tLockE (WE (Fam E) e)) (fun X hX => pe_lock (we_pe hX)) k
theorem ev_lock (i : Nat) {ks : List Str} {l : List D} {y : D} (hδ : δ[i]? = some (some (.d (.dct ks l)))) (h : ∀ p H0', EV (E.at H0') e ((δ.map unown).set i (some (.lk p ks l))) (.d y)) : EV E e δ (.d y) :=
  EVP.toV ((evp_lock (P := fun z => z = y) i hδ fun p H0' => (h p H0').toP ⟨y, rfl, rfl⟩).imp fun r ⟨z, e, h⟩ => by rw [e, h])
end
end Nb
set_option Elab.async false
set_option linter.all false
set_option maxRecDepth 100000
set_option maxHeartbeats 2000000
/-! dicts walked, dict comprehensions, pop, isinstance -/
namespace Nb
open PySem PySem.Spec PyProof.Rows L2

section
variable {E : EC} {B Bo B' : Addr → Prop} {δ : Ds} {γ : Gh} {σ : L2.St} {Ω Ω' : Post} {ss : List Stmt} {H H' H2 : Hp} {v : V} {r ra rb rc : Ent} {x : D} {e a b c it tg : Expr} {es : List Expr} {pos pos' p apos : Pos} {P : D → Prop}
theorem zip_key {ks : List Str} {vs : List V} {i : Nat} {k : Key} {v : V} (h : ((ks.map Sum.inr : List Key).zip vs)[i]? = some (k, v)) : ∃ s, ks[i]? = some s ∧ k = Sum.inr s ∧ vs[i]? = some v := by
  rw [List.getElem?_zip_eq_some] at h
  obtain ⟨h1, h2⟩ := h
  rw [List.getElem?_map] at h1
  cases hk : ks[i]? with
  | none => rw [hk] at h1; cases h1
  | some s => rw [hk] at h1; cases h1; exact ⟨s, rfl, rfl, h2⟩
theorem ei_keys {q : Addr} {ks : List Str} {l : List D} (h : EV E it δ (.lk q ks l)) : EI E false tg it δ (ks.map D.str) := fun B γ σ H er R k =>
  wi_of (fun X hX => pi_keys (we_pe hX)) (h B γ σ H er _ fun v H2 l1 rv => by
    obtain ⟨rfl, nC, od, vs, hlen, hp, hr⟩ := rv
    refine ⟨q, od, rfl, .inl ⟨_, hp, k _ H2 [(q, .frz od (.dK ((ks.map Sum.inr).zip vs)))] [] _ _ l1 (fun z hz => ?_) (fun z hz => by cases hz) (by rw [List.length_map, hlen, show vs.length = ((ks.map Sum.inr : List Key).zip vs).length by rw [List.length_zip, List.length_map, hlen]; omega]; exact walk_keys) (fun H' h => h (q, _) List.mem_cons_self) (fun i d B' H' x H'' hd dom cb' hraw hdat hy => ?_)⟩⟩
    · rw [List.mem_singleton.mp hz]
      exact ⟨nC, (fun z => by cases z), (fun ps z => by cases z), hp⟩
    · obtain ⟨rfl, k0, v0, h1, rfl⟩ := hy
      obtain ⟨s, h2, rfl, h3⟩ := zip_key h1
      rw [List.getElem?_map, h2] at hd
      cases hd
      exact ⟨Le.refl, by simp only [Rep]; rfl⟩)
theorem ei_values {q : Addr} {ks : List Str} {l : List D} {cpos : Pos} (h : EV E a δ (.lk q ks l)) (hbase : ∀ env, attributeBase a "values" env (eval a env) = eval a env := by intro _; rfl) (hline : (apos.endLine == cpos.line) = true := by rfl) : EI E false tg (.Call (.Attribute a "values" apos) [] [] cpos) δ l := fun B γ σ H er R k =>
  wi_of (fun X hX => pi_values (we_pe hX) (hbase _) hline) (h B γ σ H er _ fun v H2 l1 rv => by
    obtain ⟨rfl, nC, od, vs, hlen, hp, hr⟩ := rv
    refine ⟨q, od, _, rfl, hp, k _ H2 [(q, .frz od (.dK ((ks.map Sum.inr).zip vs)))] (l.zip vs) _ _ l1 (fun z hz => ?_) (fun z hz => zip_mem hr hz) (by rw [hr.len, show vs.length = ((ks.map Sum.inr : List Key).zip vs).length by rw [List.length_zip, List.length_map, hlen]; omega]; exact walk_values) (fun H' h => h (q, _) List.mem_cons_self) (fun i d B' H' x H'' hd dom cb' hraw hdat hy => ?_)⟩
    · rw [List.mem_singleton.mp hz]
      exact ⟨nC, (fun z => by cases z), (fun ps z => by cases z), hp⟩
    · obtain ⟨rfl, k0, h1⟩ := hy
      obtain ⟨s, h2, rfl, h3⟩ := zip_key h1
      exact ⟨Le.refl, hdat (d, x) (mem_zip hd h3)⟩)
def itemsD (ks : List Str) (l : List D) : List D := (ks.zip l).map fun q => .tup [.str q.1, q.2]
theorem ei_items {q : Addr} {ks : List Str} {l : List D} {cpos : Pos} {elts : List Expr} {kk : Nat} {tpos : Pos} (h : EV E a δ (.lk q ks l)) (hbase : ∀ env, attributeBase a "items" env (eval a env) = eval a env := by intro _; rfl) (hline : (apos.endLine == cpos.line) = true := by rfl) : EI E false (.Tuple elts kk tpos) (.Call (.Attribute a "items" apos) [] [] cpos) δ (itemsD ks l) := fun B γ σ H er R k =>
  wi_of (fun X hX => pi_items (we_pe hX) (hbase _) hline) (h B γ σ H er _ fun v H2 l1 rv => by
    obtain ⟨rfl, nC, od, vs, hlen, hp, hr⟩ := rv
    have e1 : (itemsD ks l).length = ((ks.map Sum.inr : List Key).zip vs).length := by
      unfold itemsD
      rw [List.length_map, List.length_zip, List.length_zip, List.length_map, hr.len]
    refine ⟨q, od, _, rfl, hp, k _ H2 [(q, .frz od (.dK ((ks.map Sum.inr).zip vs)))] (l.zip vs) _ _ l1 (fun z hz => ?_) (fun z hz => zip_mem hr hz) (by rw [e1]; exact walk_items) (fun H' h => h (q, _) List.mem_cons_self) (fun i d B' H' x H'' hd dom cb' hraw hdat hy => ?_)⟩
    · rw [List.mem_singleton.mp hz]
      exact ⟨nC, (fun z => by cases z), (fun ps z => by cases z), hp⟩
    · obtain ⟨T, y, z, rfl, hT, rfl, h1, h2⟩ := hy
      have h1 : ((ks.map Sum.inr : List Key).zip vs)[i]?.map (fun kv => kV kv.1) = some y := h1
      have h2 : ((ks.map Sum.inr : List Key).zip vs)[i]?.map Prod.snd = some z := h2
      cases hkv : ((ks.map Sum.inr : List Key).zip vs)[i]? with
      | none => rw [hkv] at h1; cases h1
      | some kv =>
        rw [hkv] at h1 h2
        obtain ⟨k0, v0⟩ := kv
        obtain ⟨s, h3, rfl, h4⟩ := zip_key hkv
        cases h1
        cases h2
        unfold itemsD at hd
        rw [List.getElem?_map] at hd
        cases hz : (ks.zip l)[i]? with
        | none => rw [hz] at hd; cases hd
        | some q2 =>
          rw [hz] at hd
          obtain ⟨s', d'⟩ := q2
          obtain ⟨h5, h6⟩ := List.getElem?_zip_eq_some.mp hz
          rw [h3] at h5
          cases h5
          cases hd
          exact rep_pair dom hT cb' (by simp only [Rep]; rfl) (hdat _ (mem_zip h6 h4)))
/-! ### dict comprehensions with text keys, all different -/
section
variable {kx vx elt : Expr} {scope : Scope} {own : List (Str × Nat)} {τ : Type} {xs : List τ} {cc : τ → D} {kf : τ → Str} {vf : τ → D}
theorem putK_new {ks : List Str} {vs : List V} {k : Str} {v : V} (hl : ks.length = vs.length) (hk : k ∉ ks) : putK ((ks.map Sum.inr : List Key).zip vs) (Sum.inr k) v = ((ks ++ [k]).map Sum.inr : List Key).zip (vs ++ [v]) := by
  unfold putK
  have : ¬ ((((ks.map Sum.inr : List Key).zip vs).any fun kv => decide (kv.1 = Sum.inr k)) = true) := fun h => by
    obtain ⟨p, hp, e⟩ := List.any_eq_true.mp h
    have h1 := (List.of_mem_zip (a := p.1) (b := p.2) hp).1
    rw [of_decide_eq_true e] at h1
    obtain ⟨z, hz, ez⟩ := List.mem_map.mp h1
    cases ez
    exact hk hz
  rw [if_neg this, List.map_append, List.zip_append (by simpa using hl)]
  rfl
theorem dc_read {td : τ → List (Nat × Ent)} (hi : EI E false tg it δ (xs.map cc)) (hz : xs.length ≤ 1000) (nd : (xs.map kf).Nodup)
    (hg : ∀ d ∈ xs, EG (E.blk scope) tg (.d (cc d)) (td d)) (hown : ∀ d ∈ xs, ∀ q ∈ td d, q.1 ∈ own.map (·.2))
    (hk : ∀ d ∈ xs, EV (E.blk scope) kx (setAll (wipeD δ (own.map (·.2))) (td d)) (.d (.str (kf d))))
    (he : ∀ d ∈ xs, EV (E.blk scope) vx (setAll (wipeD δ (own.map (·.2))) (td d)) (.d (vf d)))
    {B : Addr → Prop} {γ : Gh} {σ : L2.St} {H : Hp} (er : ER E B δ γ σ H) {Q : VK} (q : ∀ p vs H2, H p = none → LeC E H H2 → (xs.map kf).length = vs.length → H2 p = some (.dK (((xs.map kf).map Sum.inr).zip vs)) → Reps E.cl (fun a => B a ∨ a = p) (xs.map vf) vs H2 → Q (.ref p) H2) :
    tDc (WI (Fam E) tg it) (WG (Fam (E.blk scope)) tg) (WTs (Fam (E.blk scope)) []) (WE (Fam (E.blk scope)) kx) (WE (Fam (E.blk scope)) vx) (own.map (·.2)) σ H Q := by
  refine hi B γ σ H er _ fun J H2 raw dat G Y l1 hraw hdat w hG hY D hD => ?_
  have er1 := er.step l1
  have key : ∀ H', LeC E H2 H' → H' D ≠ none → ER E (fun a => B a ∨ a = D) δ γ σ H' := fun H' l hn => er1.grow hD l hn
  have nC : ¬ E.C D := fun z => er1.dom D (er1.cb D z) hD
  let Pv : Nat → Hp → Prop := fun i H' => LeC E H2 H' ∧ ∃ vs, ((xs.take i).map kf).length = vs.length ∧ H' D = some (.dK ((((xs.take i).map kf).map Sum.inr).zip vs)) ∧ Reps E.cl (fun a => B a ∨ a = D) ((xs.take i).map vf) vs H'
  refine ⟨fun i m H' => m = xs.length - i ∧ i ≤ xs.length ∧ Pv i H', ⟨xs.length, by simp, Nat.zero_le _, LeC.new hD, [], rfl, upd_same, .nil⟩, ?_⟩
  rintro i m H' ⟨rfl, hi', l2, vs, hlen, hDv, hmr⟩
  have hg0 : G H' := hG H' fun p hp => l2.keep _ _ (hraw p hp).1 (hraw p hp).2.2.2 (hraw p hp).2.2.1
  by_cases hlt : i < xs.length
  · refine .inr ⟨w.goes i H' (by rw [List.length_map]; exact hlt) hg0, Pv (i + 1), fun H'' p' => ⟨xs.length - (i + 1), by omega, rfl, hlt, p'⟩, fun x H'' y => ?_⟩
    have hdx : xs[i]? = some xs[i] := List.getElem?_eq_getElem hlt
    have hd : (xs.map cc)[i]? = some (cc xs[i]) := by rw [List.getElem?_map, hdx]; rfl
    have hmem : xs[i] ∈ xs := List.getElem_mem hlt
    have erD := key H' l2 (by rw [hDv]; simp)
    have kd : Kd (fun a => B a ∨ a = D) B H2 H' := Le.kd l2 er.cb fun a ha hn => ha.elim (fun z => z) fun z => absurd hD (by rw [← z]; exact hn)
    obtain ⟨l3, rx⟩ := hY i (cc xs[i]) (fun a => B a ∨ a = D) H' x H'' hd erD.dom erD.cb (fun p hp => l2.keep _ _ (hraw p hp).1 (hraw p hp).2.2.2 (hraw p hp).2.2.1) (fun z hz => Rep.kd kd _ _ (hdat z hz)) (w.yields i H' x H'' (by rw [List.length_map]; exact hlt) hg0 y)
    have erD2 := (erD.step l3).wipe (own.map (·.2))
    refine hg _ hmem _ _ _ _ _ _ (ER.blk erD2) rx _ fun σ2 H3 l4 er2 hk2 hlen2 => ⟨?_, ?_⟩
    · refine wipe_wipe (σ := σ) (fun j hj => ?_) (hlen2.trans (wipe_length σ _)) |>.trans rfl
      have hk' := hk2 j fun z hz e => hj (by rw [← e]; exact hown _ hmem z hz)
      rw [hk']
      have : ∀ (τ : L2.St) (ws : List Nat), j ∉ ws → (L2.wipe τ ws)[j]? = τ[j]? := by
        intro τ ws
        induction ws with
        | nil => intro _; rfl
        | cons v ws ih =>
          intro h
          show ((L2.wipe τ ws).set v none)[j]? = _
          rw [List.getElem?_set_ne (fun e => h (by rw [e]; exact List.mem_cons_self)), ih fun z => h (List.mem_cons_of_mem _ z)]
      exact this σ _ hj
    · refine ets_nil _ _ _ _ er2 _ fun H4 l5 => (if_pos rfl).mpr ?_
      have er3 := er2.step l5
      refine hk _ hmem _ _ _ _ er3 _ fun kv H5 l6 rk => he _ hmem _ _ _ _ (er3.step l6) _ fun y2 H6 l7 ry => ?_
      rw [re_str] at rk
      have lz : LeC E H' H6 := (((l3.trans (show LeC E H'' H3 from l4)).trans (show LeC E H3 H4 from l5)).trans (show LeC E H4 H5 from l6)).trans (show LeC E H5 H6 from l7)
      have lall : LeC E H2 H6 := l2.trans lz
      have hl : xs.take (i + 1) = xs.take i ++ [xs[i]] := by rw [List.take_succ, hdx]; rfl
      have hD6 : H6 D = some (.dK ((((xs.take i).map kf).map Sum.inr).zip vs)) := lz.keep D _ nC hDv fun ps z => by cases z
      have hnew : kf xs[i] ∉ (xs.take i).map kf := by
        have hsub : ((xs.take (i + 1)).map kf).Nodup := by rw [List.map_take]; exact List.Nodup.sublist (List.take_sublist _ _) nd
        rw [hl, List.map_append, List.nodup_append] at hsub
        intro hh
        exact hsub.2.2 _ hh (kf xs[i]) (by simp) rfl
      have k2 : Kd (fun a => B a ∨ a = D) (fun a => B a ∨ a = D) H6 (upd H6 D (.dK ((((xs.take (i + 1)).map kf).map Sum.inr).zip (vs ++ [y2])))) := mut_kd (.inr rfl)
      have hz' : vs.length ≤ 1000 := by rw [← hlen, List.length_map, List.length_take]; omega
      refine ⟨_, Sum.inr (kf xs[i]), rk, hD6, small1000 (by rw [List.length_zip, List.length_map]; omega), ?_⟩
      rw [putK_new hlen hnew]
      have hl2 : (xs.take i).map kf ++ [kf xs[i]] = (xs.take (i + 1)).map kf := by rw [hl, List.map_append]; rfl
      have hl3 : (xs.take (i + 1)).map vf = (xs.take i).map vf ++ [vf xs[i]] := by rw [hl, List.map_append]; rfl
      rw [hl2]
      refine ⟨?_, vs ++ [y2], by rw [← hl2, List.length_append, List.length_append, hlen]; rfl, upd_same, ?_⟩
      · refine ⟨fun a o hw e n => ?_, fun a ha => ?_, fun tb => tabs_mut hD6 notK_dK (lall.tabs tb), fun a hc h3 => ?_⟩
        · rw [upd_ne (fun z => by rw [z, hD] at e; cases e)]
          exact lall.keep a o hw e n
        · by_cases z : a = D
          · rw [z, upd_same]; simp
          · rw [upd_ne z]; exact lall.dom a ha
        · obtain ⟨x1, y1, z1, e⟩ := lall.box a hc h3
          exact ⟨x1, y1, z1, by rw [upd_ne (fun z => nC (by rw [← z]; exact hc))]; exact e⟩
      · rw [hl3]
        exact Reps.kd k2 _ _ (Reps.snoc (Reps.kd (LeC.kd lz erD.cb) _ _ hmr) ry)
  · have hie : i = xs.length := by omega
    subst hie
    refine .inl ⟨?_, ?_⟩
    · have := w.stops H' hg0
      rw [List.length_map] at this
      exact this
    · rw [List.take_length] at hlen hDv hmr
      exact q D vs H' (l1.fresh hD) (l1.trans l2) hlen hDv hmr
theorem ev_dc {td : τ → List (Nat × Ent)} (xs : List τ) (cc : τ → D) (kf : τ → Str) (vf : τ → D) (own : List (Str × Nat)) (hi : EI E false tg it δ (xs.map cc)) (hz : xs.length ≤ 1000) (nd : (xs.map kf).Nodup) (ok : BlkOk E.N E.sc scope own)
    (hg : ∀ d ∈ xs, EG (E.blk scope) tg (.d (cc d)) (td d)) (hown : ∀ d ∈ xs, ∀ q ∈ td d, q.1 ∈ own.map (·.2))
    (hk : ∀ d ∈ xs, EV (E.blk scope) kx (setAll (wipeD δ (own.map (·.2))) (td d)) (.d (.str (kf d))))
    (he : ∀ d ∈ xs, EV (E.blk scope) vx (setAll (wipeD δ (own.map (·.2))) (td d)) (.d (vf d)))
    (hs : ∀ env x, foldedSetIterable it env x = pure x := by intro _ _; rfl) : EV E (.DictComp kx vx [⟨tg, it, [], 0⟩] scope pos) δ (.d (.dct (xs.map kf) (xs.map vf))) := fun B γ σ H er Q q =>
  we_of (t := tDc (WI (Fam E) tg it) (WG (Fam (E.blk scope)) tg) (WTs (Fam (E.blk scope)) []) (WE (Fam (E.blk scope)) kx) (WE (Fam (E.blk scope)) vx) (own.map (·.2)))
    (fun X hX => pe_dc hX.calm hX.nd (wi_pi hX) (by rw [hX.N, hX.sc]; exact ok) (fun s H C cl fp => wg_pg (fam_blk hX scope s H C cl fp)) (fun s H C cl fp => wts_pts (fam_blk hX scope s H C cl fp)) (fun s H C cl fp => we_pe (fam_blk hX scope s H C cl fp)) (fun s H C cl fp => we_pe (fam_blk hX scope s H C cl fp)) (hs _))
    (dc_read hi hz nd hg hown hk he er fun p vs H2 hp l hlen hv hr => q _ H2 l (by
      simp only [RE, Rep]
      have k2 : Kd B (fun a => B a ∨ a = p) H2 H2 := ⟨fun a _ nb z => nb (.inl z), fun a u _ _ r => r, fun a u _ _ r => r⟩
      exact ⟨p, vs, rfl, fun z => er.dom p z hp, hlen, .inl hv, Reps.kd k2 _ _ hr⟩))
end
end
end Nb
set_option Elab.async false
set_option linter.all false
set_option maxRecDepth 100000
set_option maxHeartbeats 2000000
namespace L2
open PySem PySem.Spec PyProof.Rows
section
variable {X : Cx}
theorem ps_setDc {i : Nat} {y : Str} {py : Pos} {kx vx tg iter : Expr} {ifs : List Expr} {scope : Scope} {own : List (Str × Nat)} {pos spos : Pos} {wi : TI} {g : TG} {tt : TT} {tk tv : TE} (hc : X.calm = true) (hN : X.N.Nodup) (hy : X.N[i]? = some y) (hyl : X.env.scope.names.lookup y = some .local)
    (hsw : swapsWith (.DictComp kx vx [⟨tg, iter, ifs, 0⟩] scope pos) (some (.Name y py)) spos.line X.env = pure true) (hi : PI X tg iter wi) (ok : BlkOk X.N X.env.scope scope own)
    (hg : ∀ (s : Shared) (H : Hp) (C : Addr) (cl : List (Str × Addr)) (fp : List Addr), PG (X.blk s H scope (compEnvC scope cl C X.env) fp) tg g) (ht : ∀ (s : Shared) (H : Hp) (C : Addr) (cl : List (Str × Addr)) (fp : List Addr), PTs (X.blk s H scope (compEnvC scope cl C X.env) fp) ifs tt)
    (hk : ∀ (s : Shared) (H : Hp) (C : Addr) (cl : List (Str × Addr)) (fp : List Addr), PE (X.blk s H scope (compEnvC scope cl C X.env) fp) kx tk)
    (he : ∀ (s : Shared) (H : Hp) (C : Addr) (cl : List (Str × Addr)) (fp : List Addr), PE (X.blk s H scope (compEnvC scope cl C X.env) fp) vx tv) (hs : ∀ x, foldedSetIterable iter X.env x = pure x := by intro _; rfl) :
    PS X (.Assign [.Name y py] (.DictComp kx vx [⟨tg, iter, ifs, 0⟩] scope pos) spos) (tAsg (tDc wi g tt tk tv (own.map (·.2))) (gName i)) := by
  refine ⟨fun pins s σ H D I h => ?_⟩
  rw [exec_Assign_Name_used _ _ _ _ hsw]
  refine wpAny_bind (wpAny_standAt (wpAny_bind ?_))
  show wpAny _ X.A (do let _ ← comprehension (.DictComp kx vx [⟨tg, iter, ifs, 0⟩] scope pos) scope X.env (firstIterPos [⟨tg, iter, ifs, 0⟩] pos) newDict false (eval iter X.env) (some (assign (.Name y py) X.env))) _ _ s
  have h : tDc wi g tt tk tv (own.map (·.2)) σ H (fun x H1 => gName i x σ H1 D.nx) := h
  refine wpAny_bind (thn (dc_core (Qf := fun _ s' => SP X pins D .next s') hc hN I hi ok hg ht hk he hs h fun L C s' m H' I' q hn f => ?_) fun _ s' hq => wpAny_pure (wpAny_pure hq))
  show wpAny _ _ (assign (.Name y py) X.env (.ref L)) _ _ _
  refine wpAny_assign_Name (store_ok2 (v := V.ref L) I' hN hy (.inl hyl) rfl (fun s2 I2 ⟨a, sb, ha⟩ => ?_) (.inr hyl))
  obtain ⟨f0, f1, f2, f3, f4, f5⟩ := f
  have haC : C ≠ a := by
    rcases ha with z | z
    · rw [z]; exact f1
    · exact fun e => f4 y a z e.symm
  refine ⟨m, hn.sameBut sb haC, fun h3 sb3 => ?_⟩
  exact ⟨_, H', I2.turned (t' := s2.toks) (fun b o hb e => (sb3.2 b hb).trans e) f0 f1 f3 f4 f5, q⟩
theorem sw_trueD {kx vx : Expr} {gs : List Comprehension} {scope : Scope} {pos py : Pos} {y : Str} {l : Nat} {env : Env} (hk : env.scope.kind = .function) (hy : env.scope.names.lookup y = some .local) (hl : (py.line == pos.line) = true)
    (ha : (scope.names.any fun (n, k) => n == y && (k == .local || k == .cell)) = false) : swapsWith (.DictComp kx vx gs scope pos) (some (.Name y py)) l env = pure true := by
  have ky : env.kindOf y = some .local := hy
  have hb : env.blockKind = .function := by unfold Env.blockKind; rw [hk]; rfl
  unfold swapsWith
  simp only [hb, ky, ha, Expr.pos, hl]
  rfl
end
end L2
/-! dicts stored, list(d), dict(pairs), tuple keys -/
namespace Nb
open PySem PySem.Spec PyProof.Rows L2
section
variable {E : EC} {B Bo B' : Addr → Prop} {δ : Ds} {γ : Gh} {σ : L2.St} {Ω Ω' : Post} {ss : List Stmt} {H H' H2 : Hp} {v : V} {r ra rb rc : Ent} {x : D} {e a b c it tg : Expr} {es : List Expr} {pos pos' p apos py : Pos} {P : D → Prop}
section
variable {kx vx elt : Expr} {scope : Scope} {own : List (Str × Nat)} {τ : Type} {xs : List τ} {cc : τ → D} {kf : τ → Str} {vf : τ → D}
theorem sv_setDc {td : τ → List (Nat × Ent)} (i : Nat) {y : Str} (xs : List τ) (cc : τ → D) (kf : τ → Str) (vf : τ → D) (hiN : E.N[i]? = some y) (hx : E.sc.names.lookup y = some .local) (hkind : E.sc.kind = .function) (own : List (Str × Nat)) (hi : EI E false tg it δ (xs.map cc)) (hz : xs.length ≤ 1000) (nd : (xs.map kf).Nodup) (ok : BlkOk E.N E.sc scope own)
    (hg : ∀ d ∈ xs, EG (E.blk scope) tg (.d (cc d)) (td d)) (hown : ∀ d ∈ xs, ∀ q ∈ td d, q.1 ∈ own.map (·.2))
    (hk : ∀ d ∈ xs, EV (E.blk scope) kx (setAll (wipeD δ (own.map (·.2))) (td d)) (.d (.str (kf d))))
    (he : ∀ d ∈ xs, EV (E.blk scope) vx (setAll (wipeD δ (own.map (·.2))) (td d)) (.d (vf d)))
    (k : SV E B Bo ss (δ.set i (some (.d (.dct (xs.map kf) (xs.map vf))))) Ω)
    (hl : (py.line == pos.line) = true := by rfl) (hown2 : (scope.names.any fun (n, k) => n == y && (k == .local || k == .cell)) = false := by decide +kernel)
    (hs : ∀ env x, foldedSetIterable it env x = pure x := by intro _ _; rfl) : SV E B Bo (.Assign [.Name y py] (.DictComp kx vx [⟨tg, it, [], 0⟩] scope pos) pos' :: ss) δ Ω := fun γ σ H er D s =>
  wss_then (ws_of (t := tAsg (tDc (WI (Fam E) tg it) (WG (Fam (E.blk scope)) tg) (WTs (Fam (E.blk scope)) []) (WE (Fam (E.blk scope)) kx) (WE (Fam (E.blk scope)) vx) (own.map fun q : Str × Nat => q.2)) (gName i))
    (fun X hX => ps_setDc hX.calm hX.nd (by rw [hX.N]; exact hiN) (by rw [hX.sc]; exact hx) (sw_trueD (by rw [hX.sc]; exact hkind) (by rw [hX.sc]; exact hx) hl hown2) (wi_pi hX) (by rw [hX.N, hX.sc]; exact ok) (fun s H C cl fp => wg_pg (fam_blk hX scope s H C cl fp)) (fun s H C cl fp => wts_pts (fam_blk hX scope s H C cl fp)) (fun s H C cl fp => we_pe (fam_blk hX scope s H C cl fp)) (fun s H C cl fp => we_pe (fam_blk hX scope s H C cl fp)) (hs _))
    (show tDc (WI (Fam E) tg it) (WG (Fam (E.blk scope)) tg) (WTs (Fam (E.blk scope)) []) (WE (Fam (E.blk scope)) kx) (WE (Fam (E.blk scope)) vx) (own.map (·.2)) σ H (fun x H1 => WSs (Fam E) ss D (σ.set i (some x)) H1) from
      dc_read hi hz nd hg hown hk he er fun p vs H2 hp l hlen hv hr => k γ _ H2 ((er.step l).set i (by
      simp only [RE, Rep]
      have k2 : Kd B (fun a => B a ∨ a = p) H2 H2 := ⟨fun a _ nb z => nb (.inl z), fun a u _ _ r => r, fun a u _ _ r => r⟩
      exact ⟨p, vs, rfl, fun z => er.dom p z hp, hlen, .inl hv, Reps.kd k2 _ _ hr⟩)) D s))
/-- the dict of slot j is walked within -/
theorem sv_setDcL {td : τ → List (Nat × Ent)} (i j : Nat) {y : Str} {ks : List Str} {l : List D} (xs : List τ) (cc : τ → D) (kf : τ → Str) (vf : τ → D) (hiN : E.N[i]? = some y) (hx : E.sc.names.lookup y = some .local) (hkind : E.sc.kind = .function) (own : List (Str × Nat)) (hδ : δ[j]? = some (some (.d (.dct ks l))))
    (hi : ∀ p H0', EI (E.at H0') false tg it ((δ.map unown).set j (some (.lk p ks l))) (xs.map cc)) (hz : xs.length ≤ 1000) (nd : (xs.map kf).Nodup) (ok : BlkOk E.N E.sc scope own)
    (hg : ∀ H0', ∀ d ∈ xs, EG ((E.at H0').blk scope) tg (.d (cc d)) (td d)) (hown : ∀ d ∈ xs, ∀ q ∈ td d, q.1 ∈ own.map (·.2))
    (hk : ∀ p H0', ∀ d ∈ xs, EV ((E.at H0').blk scope) kx (setAll (wipeD ((δ.map unown).set j (some (.lk p ks l))) (own.map (·.2))) (td d)) (.d (.str (kf d))))
    (he : ∀ p H0', ∀ d ∈ xs, EV ((E.at H0').blk scope) vx (setAll (wipeD ((δ.map unown).set j (some (.lk p ks l))) (own.map (·.2))) (td d)) (.d (vf d)))
    (k : SV E B Bo ss (δ.set i (some (.d (.dct (xs.map kf) (xs.map vf))))) Ω)
    (hl : (py.line == pos.line) = true := by rfl) (hown2 : (scope.names.any fun (n, k) => n == y && (k == .local || k == .cell)) = false := by decide +kernel)
    (hs : ∀ env x, foldedSetIterable it env x = pure x := by intro _ _; rfl) : SV E B Bo (.Assign [.Name y py] (.DictComp kx vx [⟨tg, it, [], 0⟩] scope pos) pos' :: ss) δ Ω := fun γ σ H er D s => by
  have base : ∀ X, Fam E X → PS X (.Assign [.Name y py] (.DictComp kx vx [⟨tg, it, [], 0⟩] scope pos) pos') (tAsg (tDc (WI (Fam E) tg it) (WG (Fam (E.blk scope)) tg) (WTs (Fam (E.blk scope)) []) (WE (Fam (E.blk scope)) kx) (WE (Fam (E.blk scope)) vx) (own.map fun q : Str × Nat => q.2)) (gName i)) :=
    fun X hX => ps_setDc hX.calm hX.nd (by rw [hX.N]; exact hiN) (by rw [hX.sc]; exact hx) (sw_trueD (by rw [hX.sc]; exact hkind) (by rw [hX.sc]; exact hx) hl hown2) (wi_pi hX) (by rw [hX.N, hX.sc]; exact ok) (fun s H C cl fp => wg_pg (fam_blk hX scope s H C cl fp)) (fun s H C cl fp => wts_pts (fam_blk hX scope s H C cl fp)) (fun s H C cl fp => we_pe (fam_blk hX scope s H C cl fp)) (fun s H C cl fp => we_pe (fam_blk hX scope s H C cl fp)) (hs _)
  rcases lock_te (P := fun z => z = .dct (xs.map kf) (xs.map vf)) j hδ (tDc (WI (Fam E) tg it) (WG (Fam (E.blk scope)) tg) (WTs (Fam (E.blk scope)) []) (WE (Fam (E.blk scope)) kx) (WE (Fam (E.blk scope)) vx) (own.map fun q : Str × Nat => q.2)) (fun p H0' B γ σ H er Q q => by
    have h := dc_read (Q := Q) (hi p H0') hz nd (hg H0') hown (hk p H0') (he p H0') er fun p vs H2 hp l hlen hv hr => q _ _ H2 rfl l (by
      simp only [Rep]
      have k2 : Kd B (fun a => B a ∨ a = p) H2 H2 := ⟨fun a _ nb z => nb (.inl z), fun a u _ _ r => r, fun a u _ _ r => r⟩
      exact ⟨p, vs, rfl, fun z => er.dom p z hp, hlen, .inl hv, Reps.kd k2 _ _ hr⟩)
    rw [fam_at, fam_atb] at h
    exact h) er (Q := fun x H1 => WSs (Fam E) ss D (σ.set i (some x)) H1) (fun z v H2 hz l rv => by
    subst hz
    exact k γ _ H2 ((er.step l).set i (show RE E B (.d (.dct (xs.map kf) (xs.map vf))) v H2 from rv)) D s) with h | h
  · exact wss_then (ws_of base h)
  · exact wss_then (ws_of (fun X hX => ps_lock (base X hX)) h)
end
/-! list(d) -/
theorem zip_keys {ks : List Str} {vs : List V} (h : ks.length = vs.length) : (((ks.map Sum.inr : List Key).zip vs).map fun kv => kV kv.1) = ks.map V.str := by
  rw [show (fun kv : Key × V => kV kv.1) = kV ∘ Prod.fst from rfl, ← List.map_map, List.map_fst_zip (by simp [h]), List.map_map]
  rfl
theorem en_listD {ks : List Str} {l : List D} (ha : EV E e δ (.wk (.dct ks l))) (hg : GlS E.sc "list") (hm : E.mg "list" = none) (hs : ∀ env, starEach [e] env = (false, eval e env) :: starEach [] env := by intro _; rfl) (hpl : ∀ env, (backTo pos (starEach [] env)).any (·.1) = false := by intro _; rfl) : EN E (.Call (.Name "list" p) [e] [] pos) δ (fun d => d = .lst (ks.map D.str)) := fun B γ σ H er Q q =>
  we_of (fun X hX => pe_callTy (call_listD hX.calm) (gl_of hX hg) (by rw [hX.mg]; exact hm) (by decide +kernel) (wa_pa hX) (by decide) (by decide) (hs _) (hpl _)) (ea_1 ha hs B γ σ H er _ fun vs H1 l1 rs => by
    obtain ⟨v, rfl, rv⟩ := rs.one
    obtain ⟨p, rfl, nC, ws, hlen, hrd, hr⟩ := rv
    exact ⟨p, _, rfl, hrd, fun t ht => q t _ _ (l1.fresh ht) rfl (l1.trans (LeC.new ht)) ⟨ks.map V.str, by rw [upd_same, zip_keys hlen], reps_str.mpr rfl⟩⟩)
theorem ev_listD {ks : List Str} {l : List D} (ha : EV E e δ (.wk (.dct ks l))) (hg : GlS E.sc "list") (hm : E.mg "list" = none) (hs : ∀ env, starEach [e] env = (false, eval e env) :: starEach [] env := by intro _; rfl) : EV E (.Call (.Name "list" p) [e] [] pos) δ (.d (.lst (ks.map D.str))) := 
  ev_callTy (fun X hX => call_listD hX.calm) hg hm (by decide +kernel) (ea_1 ha hs) (fun B vs H dom cb rs Q q => by
    obtain ⟨v, rfl, rv⟩ := rs.one
    obtain ⟨p, rfl, nC, ws, hlen, hrd, hr⟩ := rv
    exact ⟨p, _, rfl, hrd, fun t ht => q _ _ (LeC.new ht) (re_newL dom ht cb (by rw [zip_keys hlen]; exact reps_str.mpr rfl))⟩) hs
/-! dict([(k, v), ..]) -/
theorem mergeK_new : ∀ (ks : List Str) (vs : List V) (ks0 : List Str) (vs0 : List V), ks.length = vs.length → ks0.length = vs0.length → (ks0 ++ ks).Nodup → mergeK ((ks0.map Sum.inr : List Key).zip vs0) ((ks.map Sum.inr : List Key).zip vs) = ((ks0 ++ ks).map Sum.inr : List Key).zip (vs0 ++ vs)
  | [], vs, ks0, vs0, h, h0, nd => by
    have : vs = [] := List.eq_nil_of_length_eq_zero h.symm
    subst this
    simp [mergeK]
  | k :: ks, [], ks0, vs0, h, h0, nd => by cases h
  | k :: ks, v :: vs, ks0, vs0, h, h0, nd => by
    have hk : k ∉ ks0 := fun z => by
      rw [List.nodup_append] at nd
      exact nd.2.2 k z k (by simp) rfl
    have ih := mergeK_new ks vs (ks0 ++ [k]) (vs0 ++ [v]) (by simpa using h) (by simp [h0]) (by simpa using nd)
    show mergeK (putK ((ks0.map Sum.inr : List Key).zip vs0) (Sum.inr k) v) ((ks.map Sum.inr : List Key).zip vs) = _
    rw [putK_new h0 hk, ih]
    simp
theorem pairs_of {τ : Type} {kf : τ → Str} {vf : τ → D} {K : PySem.W.Frag} : ∀ {xs : List τ} {vs : List V}, Reps E.cl B (xs.map fun z => .tup [.str (kf z), vf z]) vs H → ∃ (ps : List Addr) (ws : List V), vs = ps.map V.ref ∧ xs.length = ws.length ∧ Paired (fun p kv => SqT K H p [kV kv.1, kv.2]) ps (((xs.map kf).map Sum.inr : List Key).zip ws) ∧ Reps E.cl B (xs.map vf) ws H
  | [], vs, h => ⟨[], [], by rw [reps_nil.mp h]; rfl, rfl, .nil, .nil⟩
  | z :: xs, vs, h => by
    rw [List.map_cons] at h
    obtain ⟨v, vs', rfl, r, rs⟩ := reps_cons.mp h
    obtain ⟨ps, ws, rfl, hl, hp, hr⟩ := pairs_of rs
    simp only [Rep] at r
    obtain ⟨a, us, rfl, nb, ha, hu⟩ := r
    obtain ⟨u1, us1, rfl, r1, hu⟩ := reps_cons.mp hu
    obtain ⟨u2, us2, rfl, r2, hu⟩ := reps_cons.mp hu
    rw [reps_nil.mp hu] at ha
    simp only [Rep] at r1
    subst r1
    exact ⟨a :: ps, u2 :: ws, rfl, by simp [hl], .cons (.inl (.inl ha)) hp, .cons r2 hr⟩
theorem en_dictP {τ : Type} (xs : List τ) (kf : τ → Str) (vf : τ → D) (ha : EV E e δ (.d (.lst (xs.map fun z => .tup [.str (kf z), vf z])))) (nd : (xs.map kf).Nodup) (hg : GlS E.sc "dict") (hm : E.mg "dict" = none) (hs : ∀ env, starEach [e] env = (false, eval e env) :: starEach [] env := by intro _; rfl) (hpl : ∀ env, (backTo pos (starEach [] env)).any (·.1) = false := by intro _; rfl) :
    EN E (.Call (.Name "dict" p) [e] [] pos) δ (fun d => d = .dct (xs.map kf) (xs.map vf)) := fun B γ σ H er Q q =>
  we_of (fun X hX => pe_callTy (fam_Kc hX (r := fun K xs H Q => ∃ (a : Addr) (ps : List Addr) (kvs : List (Key × V)), xs = [.ref a] ∧ SqL K H a (ps.map V.ref) ∧ Paired (fun p kv => SqT K H p [kV kv.1, kv.2]) ps kvs ∧ ∀ p, H p = none → Q (.ref p) (upd H p (.dK (mergeK [] kvs)))) (call_dictP hX.calm)) (gl_of hX hg) (by rw [hX.mg]; exact hm) (by decide +kernel) (wa_pa hX) (by decide) (by decide) (hs _) (hpl _)) (ea_1 ha hs B γ σ H er _ fun vs H1 l1 rs => by
    obtain ⟨v, rfl, rv⟩ := rs.one
    obtain ⟨p, vs, rfl, nb, h1, h2⟩ := re_lst rv
    obtain ⟨ps, ws, rfl, hl, hp, hr⟩ := pairs_of (K := E.K) h2
    have hl' : (xs.map kf).length = ws.length := by rw [List.length_map, hl]
    have hmg := mergeK_new (xs.map kf) ws [] [] hl' rfl (by simpa using nd)
    have hmg : mergeK [] (((xs.map kf).map Sum.inr : List Key).zip ws) = ((xs.map kf).map Sum.inr : List Key).zip ws := by simpa using hmg
    refine ⟨p, ps, _, rfl, .inl (.inl h1), hp, fun t ht => q t _ _ (l1.fresh ht) rfl (l1.trans (LeC.new ht)) ⟨ws, hl', by rw [upd_same, hmg], reps_grow (er.step l1) ht (LeC.new ht) hr⟩⟩)
end
end Nb
set_option Elab.async false
set_option linter.all false
set_option maxRecDepth 100000
set_option maxHeartbeats 2000000
namespace L2
open PySem PySem.Spec PyProof.Rows
section
variable {X : Cx}
theorem d_dictSetT {pins : List (Addr × Obj)} {σ : St} {H : Hp} {s : Shared} {E : Value → Shared → Prop} {a b : Addr} {kvs : List (List Key × V)} {k : List Key} {v : V} {u r : Value} {Q : Unit → Shared → Prop} (hu : X.A.units + 1 < cLine) (I : Inv X pins σ H s) (e : H a = some (.dT kvs)) (eb : H b = some (.tup (k.map kV))) (l : kvs.length < sizeLine)
    (ry : u = .ref b) (rv : RelV v r) (h : ∀ s', Inv X pins σ (upd H a (.dT (putK kvs k v))) s' → Q () s') : wpAny (model X.prog X.w) X.A (dictSet a u r) Q E s := by
  subst ry
  obtain ⟨z, hd, xs, rel, dd⟩ := dt_of I.hok e
  have hz : xs.length ≤ sizeLine := by rw [← Paired.length rel]; exact z
  have hl : (putK kvs k v).length ≤ sizeLine := by have := length_putK kvs k v; omega
  refine wpAny_dictSet_heap (hsz := hz) (show X.A.units < cLine by omega) (key_of I.hok eb) dd fun h' dd' hs => h _ ?_
  obtain ⟨q, es, ep, hq, h2, h3, h4, _, h5⟩ := dd'
  refine d_write I (by rw [e]; exact True.intro) hs ⟨q, hq⟩ ⟨hl, hd, _, (rel.put k eb rv).keeps fun c ys ec => ?_, q, es, ep, hq, h2, h3, h4, h5⟩
  rw [upd_ne (ne_of ec e (fun z => nomatch z))]
  exact ec
def tDispT (tk tv : TE) : TE := fun σ H Q => ∀ p, H p = none → tk σ (upd H p (.dT [])) fun y H1 => tv σ H1 fun z H2 => H2 p = some (.dT []) ∧ ∃ (k : List Key) (b : Addr), y = .ref b ∧ H2 b = some (.tup (k.map kV)) ∧ Q (.ref p) (upd H2 p (.dT [(k, z)]))
theorem pe_dispT {k v : Expr} {pos : Pos} {tk tv : TE} (hu : X.A.units + 1 < cLine) (hk : PE X k tk) (hv : PE X v tv) : PE X (.Dict [some k] [v] pos) (tDispT tk tv) := by
  refine ⟨fun pins s σ H Q I q => ?_⟩
  have hn := I.hok.fresh (Nat.le_refl s.heap.objs.size)
  have I1 := I.laid (a := s.heap.objs.size) (o := .dT []) (h' := s.heap.push { cls := .type "dict", data := .dict #[] }) (t' := s.toks) (fun _ _ q => Heap.get?_push_of_some _ q) (Nat.le_refl _) (dt_empty s.heap I.big)
  have hn1 := pairTrees_length [some k] [v] X.env pos rfl rfl
  rw [arm_eval_Dict, zip_pairTrees [some k] [v] X.env pos rfl rfl, dictDisplay_pairs _ (by intro he; rw [he] at hn1; cases hn1) (by rw [hn1]; simp)]
  refine wpAny_bind (wpAny_standAt (wpAny_bind ?_))
  unfold subDict
  refine wpAny_bind (wpAny_alloc ?_)
  refine wpAny_bind (wpAny_holding ?_)
  rw [if_pos (by rw [hn1]; simp)]
  refine wpAny_bind (pairTrees_cons_walk (thn (hk.run pins _ σ _ _ I1 (q _ hn)) fun u s1 ⟨y, H1, I1, r1, q1⟩ => (thn (hv.run pins s1 σ H1 _ I1 q1) fun w2 s2 ⟨z, H2, I2, r2, e2, kk, b, ey, eb, q2⟩ => (pairTrees_nil_walk ?_))))
  subst ey
  refine wpAny_holding ?_
  rw [List.forIn_cons]
  refine wpAny_bind (wpAny_bind (wpAny_bind (d_dictSetT hu I2 e2 eb (by simp [sizeLine_eq]) r1 r2 fun s3 I3 => wpAny_pure ?_)))
  dsimp only
  rw [List.forIn_nil]
  exact wpAny_pure (wpAny_pure (wpAny_pure (wpAny_pure ⟨.ref s.heap.objs.size, _, I3, rfl, q2⟩)))
end
end L2
/-! tuple keys, pop, isinstance, join -/
namespace Nb
open PySem PySem.Spec PyProof.Rows L2
section
variable {E : EC} {B Bo B' : Addr → Prop} {δ : Ds} {γ : Gh} {σ : L2.St} {Ω Ω' : Post} {ss : List Stmt} {H H' H2 : Hp} {v : V} {r ra rb rc : Ent} {x : D} {e a b c it tg : Expr} {es : List Expr} {pos pos' p apos py : Pos} {P : D → Prop}
theorem tkey_kV (s : List Str) : (tkey s).map kV = s.map V.str := by
  unfold tkey
  rw [List.map_map]
  rfl
theorem tkey_inj {s t : List Str} (h : tkey s = tkey t) : s = t := by
  unfold tkey at h
  exact List.map_inj_right (fun x y e => by cases e; rfl) |>.mp h
theorem re_sT {s : List Str} (h : RE E B (.d (.tup (s.map D.str))) v H) : ∃ q, v = .ref q ∧ H q = some (.tup ((tkey s).map kV)) := by
  obtain ⟨p, vs, rfl, _, h1, h2⟩ := re_tup h
  rw [reps_str] at h2
  subst h2
  exact ⟨p, rfl, by rw [tkey_kV]; exact h1⟩
theorem en_dispT {k w : Expr} {s : List Str} {d : D} (hk : EV E k δ (.d (.tup (s.map D.str)))) (hw : EV E w δ (.d d)) : EN E (.Dict [some k] [w] pos) δ (fun z => z = .dcT [s] [d]) := fun B γ σ H er Q q =>
  we_of (t := tDispT (WE (Fam E) k) (WE (Fam E) w)) (fun X hX => pe_dispT (hu_of hX.room) (we_pe hX) (we_pe hX)) (fun p hp => by
    have erp := er.grow (H2 := upd H p (.dT [])) hp (LeC.new hp) (by rw [upd_same]; simp)
    refine hk _ γ σ _ erp _ fun y H1 l1 ry => hw _ γ σ H1 (erp.step l1) _ fun z H2 l2 rz => ?_
    have nC : ¬ E.C p := fun z => er.dom p (er.cb p z) hp
    have lz := l1.trans l2
    have e2 : H2 p = some (.dT []) := lz.keep p _ nC upd_same fun ps z => by cases z
    obtain ⟨qk, rfl, hq⟩ := re_sT (ry.step l2 erp.cb)
    refine ⟨e2, tkey s, qk, rfl, hq, q p _ _ hp rfl ?_ ⟨[z], rfl, by rw [upd_same]; rfl, .cons ?_ .nil⟩⟩
    · have lall : LeC E H H2 := (LeC.new hp).trans lz
      refine ⟨fun a o hw e n => ?_, fun a ha => ?_, fun tb => tabs_mut e2 ⟨(fun ps z => by cases z), (fun c q z => by unfold LamX.CodeO at z; cases z)⟩ (lall.tabs tb), fun a hc h3 => ?_⟩
      · rw [upd_ne (fun z => by rw [z, hp] at e; cases e)]
        exact lall.keep a o hw e n
      · by_cases z : a = p
        · rw [z, upd_same]; simp
        · rw [upd_ne z]; exact lall.dom a ha
      · obtain ⟨x1, y1, z1, e⟩ := lall.box a hc h3
        exact ⟨x1, y1, z1, by rw [upd_ne (fun z => nC (by rw [← z]; exact hc))]; exact e⟩
    · exact Rep.kd (mut_kd (.inr rfl)) _ _ rz)
def lookT : List (List Str) → List D → List Str → Option D
  | k :: ks, d :: l, s => if k = s then some d else lookT ks l s
  | _, _, _ => none
def putT : List (List Str) → List D → List Str → D → List (List Str) × List D
  | k :: ks, d :: l, s, y => if k = s then (k :: ks, y :: l) else let (ks', l') := putT ks l s y; (k :: ks', d :: l')
  | _, _, s, y => ([s], [y])
theorem lookT_val {cl : Str → Addr} {s : List Str} : ∀ {ks : List (List Str)} {l : List D} {vs : List V}, ks.length = vs.length → Reps cl B l vs H → 
    match lookT ks l s with
    | some d => ∃ v, valV ((ks.map tkey).zip vs) (tkey s) = some v ∧ Rep cl B d v H
    | none => valV ((ks.map tkey).zip vs) (tkey s) = none
  | [], l, vs, _, h => by simp [lookT, valV_nil]
  | k :: ks, [], vs, hl, h => by rw [reps_nil.mp h] at hl; cases hl
  | k :: ks, x :: l, vs, hl, h => by
    obtain ⟨v, vs', rfl, r, rs⟩ := reps_cons.mp h
    unfold lookT
    by_cases hk : k = s
    · rw [if_pos hk]
      exact ⟨v, by rw [List.map_cons, List.zip_cons_cons]; exact valV_pos (by simp [hk]), r⟩
    · rw [if_neg hk]
      have ih := lookT_val (s := s) (show ks.length = vs'.length by simpa using hl) rs
      rw [List.map_cons, List.zip_cons_cons, valV_neg (fun z => hk (tkey_inj z))]
      exact ih
theorem lookT_mem {s : List Str} : ∀ {ks : List (List Str)} {l : List D}, ks.length = l.length → ((lookT ks l s).isSome = decide (s ∈ ks))
  | [], l, _ => by simp [lookT]
  | k :: ks, [], h => by cases h
  | k :: ks, x :: l, h => by
    unfold lookT
    by_cases hk : k = s
    · simp [hk]
    · have hk' : ¬ s = k := fun z => hk z.symm
      rw [if_neg hk, lookT_mem (by simpa using h)]
      simp [hk']
/-- s not in d -/
theorem et_niT {ks : List (List Str)} {l : List D} {s : List Str} (ha : EV E a δ (.d (.tup (s.map D.str)))) (hb : EV E b δ (.wk (.dcT ks l))) (hl : ks.length = l.length) (hm : behindInMarks .NotIn b = false := by rfl) : ET E (.Compare a [.NotIn] [b] pos) δ (!decide (s ∈ ks)) := fun B γ σ H er Q q =>
  wt_of (fun X hX => pt_cmp (pc_dnotin (hu_of hX.room) (we_pe hX) (we_pe hX)) hm) (ha B γ σ H er _ fun y H1 l1 ry => hb B γ σ H1 (er.step l1) _ fun x H2 l2 rx => by
    obtain ⟨qk, rfl, hq⟩ := re_sT (ry.step l2 er.cb)
    obtain ⟨p, rfl, nC, vs, hlen, h1, h2⟩ := rx
    have hv := lookT_val (s := s) hlen h2
    have hm := lookT_mem (s := s) hl
    refine ⟨p, valV ((ks.map tkey).zip vs) (tkey s), rfl, .inr ⟨_, tkey s, qk, h1, rfl, hq, rfl⟩, _, rfl, ?_⟩
    have e : (valV ((ks.map tkey).zip vs) (tkey s)).isSome = decide (s ∈ ks) := by
      rw [← hm]
      cases hh : lookT ks l s with
      | none => rw [hh] at hv; rw [hv]; rfl
      | some d => rw [hh] at hv; obtain ⟨v, e, _⟩ := hv; rw [e]; rfl
    rw [e]
    exact q H2 (l1.trans l2))
/-- d[s] -/
theorem ev_tget {ks : List (List Str)} {l : List D} {s : List Str} {d : D} (ha : EV E a δ (.wk (.dcT ks l))) (hb : EV E b δ (.d (.tup (s.map D.str)))) (hl : lookT ks l s = some d) (hs : NoSl b) : EV E (.Subscript a b pos) δ (.d d) := fun B γ σ H er Q q =>
  we_of (t := tDGet (WE (Fam E) a) (WE (Fam E) b)) (fun X hX => pe_dget (hu_of hX.room) (we_pe hX) (we_pe hX) hs) (ha B γ σ H er _ fun x H1 l1 rx => hb B γ σ H1 (er.step l1) _ fun y H2 l2 ry => by
    obtain ⟨p, rfl, nC, vs, hlen, h1, h2⟩ := rx.step l2 er.cb
    obtain ⟨qk, rfl, hq⟩ := re_sT ry
    have hv := lookT_val (s := s) hlen h2
    rw [hl] at hv
    obtain ⟨v, h3, h4⟩ := hv
    exact ⟨p, v, rfl, .inr ⟨_, tkey s, qk, h1, rfl, hq, h3.symm⟩, q v H2 (l1.trans l2) h4⟩)
theorem putT_new {s : List Str} {y : D} : ∀ {ks : List (List Str)} {l : List D}, ks.length = l.length → s ∉ ks → putT ks l s y = (ks ++ [s], l ++ [y])
  | [], [], _, _ => rfl
  | [], _ :: _, h, _ => by cases h
  | _ :: _, [], h, _ => by cases h
  | k :: ks, d :: l, h, hn => by
    unfold putT
    rw [if_neg (fun z => hn (by rw [z]; simp)), putT_new (by simpa using h) (fun z => hn (List.mem_cons_of_mem _ z))]
    rfl
/-- d[s] = e, s new -/
theorem sv_tput (i : Nat) {y : Str} {q : Addr} {ks : List (List Str)} {l : List D} {s : List Str} {d : D} (hN : E.N[i]? = some y) (hv : Vis E.sc y) (hδ : δ[i]? = some (some (.own q (.dcT ks l)))) (hB : B q) (hap : Apart q (δ.set i none)) (hz : ks.length < 1000) (hnew : s ∉ ks) (hk : EV E b δ (.d (.tup (s.map D.str)))) (h : EV E e δ (.d d))
    (k : SV E B Bo ss (δ.set i (some (.own q (.dcT (ks ++ [s]) (l ++ [d]))))) Ω)
    (hd : (y == ("__debug__" : Str)) = false := by decide) (hcd : (y == ("__classdict__" : Str)) = false := by decide)
    (hs : ∀ env, swapsWith e (some (.Subscript (.Name y py) b pos')) pos.line env = pure false := by intro _; rfl) : SV E B Bo (.Assign [.Subscript (.Name y py) b pos'] e pos :: ss) δ Ω := fun γ σ H er D sat => by
  refine wss_then (ws_of (t := sDPut (WE (Fam E) (.Name y py)) (WE (Fam E) b) (WE (Fam E) e)) (fun X hX => ps_dput (hu_of hX.room) (we_pe hX) (we_pe hX) (we_pe hX) (hs _)) ?_)
  refine h B γ σ H er _ fun w H1 l1 rw' => ?_
  have er1 := er.step l1
  refine ev_var i hN hv hδ hd hcd B γ σ H1 er1 _ fun v H2 l2 rv => hk B γ σ H2 (er1.step l2) _ fun kv H3 l3 rk => ?_
  have er3 := (er1.step l2).step l3
  obtain ⟨rfl, nC, nB, h0, vs, hlen, h1, h2⟩ := rv.step l3 er.cb
  obtain ⟨qk, rfl, hq⟩ := re_sT rk
  have hput : putK ((ks.map tkey).zip vs) (tkey s) w = ((ks ++ [s]).map tkey).zip (vs ++ [w]) := by
    unfold putK
    have : ¬ ((((ks.map tkey).zip vs).any fun kv => decide (kv.1 = tkey s)) = true) := fun h => by
      obtain ⟨p, hp, e⟩ := List.any_eq_true.mp h
      have h1 := (List.of_mem_zip (a := p.1) (b := p.2) hp).1
      rw [of_decide_eq_true e] at h1
      obtain ⟨z, hz, ez⟩ := List.mem_map.mp h1
      rw [tkey_inj ez] at hz
      exact hnew hz
    rw [if_neg this, List.map_append, List.zip_append (by simpa using hlen)]
    rfl
  refine ⟨q, _, rfl, DPut.t (k := tkey s) h1 hq (small1000 (by rw [List.length_zip, List.length_map]; omega)), k γ σ _ ?_ D sat⟩
  rw [hput]
  exact er3.mut hδ hB hap ⟨vs ++ [w], by simp [hlen], upd_same, upd_reps hB (h2.snoc ((rw'.step l2 er.cb).step l3 er.cb))⟩
/-! x.append(y.pop(e)) -/
theorem seqIx {k : Int} {n : Nat} (h0 : 0 ≤ k) (h1 : k < n) : seqIndex? k n = some k.toNat := by
  unfold seqIndex?
  simp [h0, h1, Int.not_lt.mpr h0]
theorem sv_pop (i j : Nat) {y z : Str} {q q2 : Addr} {l m : List D} {py pz pp ap2 : Pos} (hij : i ≠ j) (hN : E.N[i]? = some y) (hv : Vis E.sc y) (hδ : δ[i]? = some (some (.own q (.lst l)))) (hB : B q) (hN2 : E.N[j]? = some z) (hv2 : Vis E.sc z) (hδ2 : δ[j]? = some (some (.own q2 (.lst m)))) (hB2 : B q2) (ha2 : Apart q2 (δ.set j none)) (ha : ∀ m', Apart q ((δ.set j (some (.own q2 (.lst m')))).set i none)) (hz : l.length < 1000) (hz2 : m.length ≤ 1000)
    (h : EVP E e δ (fun r => ∃ k : Int, r = .d (.int k) ∧ 0 ≤ k ∧ k < m.length))
    (k : ∀ (n : Nat) d, m[n]? = some d → SV E B Bo ss ((δ.set j (some (.own q2 (.lst (m.eraseIdx n))))).set i (some (.own q (.lst (l ++ [d]))))) Ω)
    (hd : (y == ("__debug__" : Str)) = false := by decide) (hcd : (y == ("__classdict__" : Str)) = false := by decide) (hd2 : (z == ("__debug__" : Str)) = false := by decide) (hcd2 : (z == ("__classdict__" : Str)) = false := by decide)
    (hfew : ∀ env, ((backTo p (starEach [.Call (.Attribute (.Name z pz) "pop" ap2) [e] [] pp] env)).all (fun x => !x.1) && (backToKw p (keywordEach [] env)).all (fun x => x.1.isSome) && decide (([.Call (.Attribute (.Name z pz) "pop" ap2) [e] [] pp] : List Expr).length + ([] : List Keyword).length + (if ([] : List Keyword).isEmpty then 0 else 1) < 30)) = true := by intro _; rfl)
    (hfew2 : ∀ env, ((backTo pp (starEach [e] env)).all (fun x => !x.1) && (backToKw pp (keywordEach [] env)).all (fun x => x.1.isSome) && decide (([e] : List Expr).length + ([] : List Keyword).length + (if ([] : List Keyword).isEmpty then 0 else 1) < 30)) = true := by intro _; rfl)
    (hline : (apos.endLine == p.line) = true := by rfl) (hline2 : (ap2.endLine == pp.line) = true := by rfl) (hs : ∀ env, starEach [e] env = (false, eval e env) :: starEach [] env := by intro _; rfl) : SV E B Bo (.Expr (.Call (.Attribute (.Name y py) "append" apos) [.Call (.Attribute (.Name z pz) "pop" ap2) [e] [] pp] [] p) pos :: ss) δ Ω := fun γ σ H er D s => by
  refine wss_then (ws_of (t := tDrop (tBM E.K "list" rAppend (WE (Fam E) (.Name y py)) (WA (Fam E) [.Call (.Attribute (.Name z pz) "pop" ap2) [e] [] pp]))) (fun X hX => ps_expr (by rw [← hX.K]; exact pe_bm PySem.F.plainAttrs_list PySem.F.slot_list_append PySem.F.type_list_append mt_append (we_pe hX) (wa_pa hX) rfl (hfew _) hline rfl rfl) rfl) ?_)
  refine ev_var i hN hv hδ hd hcd B γ σ H er _ fun v H1 l1 rv => ?_
  obtain ⟨rfl, nC, vs0, h0, _⟩ := own_lst rv
  have er1 := er.step l1
  refine ⟨.inl ⟨rfl, vs0, .inl (.inl h0)⟩, ?_⟩
  refine wa_of (t := tCons (tBM E.K "list" rPopAt (WE (Fam E) (.Name z pz)) (WA (Fam E) [e])) tNil) (fun X hX => pa_cons (by rw [← hX.K]; exact pe_bm PySem.F.plainAttrs_list PySem.F.slot_list_pop PySem.F.type_list_pop mt_popAt (we_pe hX) (wa_pa hX) rfl (hfew2 _) hline2 (hs _) rfl) pa_nil rfl) ?_
  refine ev_var j hN2 hv2 hδ2 hd2 hcd2 B γ σ H1 er1 _ fun v2 H2 l2 rv2 => ?_
  obtain ⟨rfl, nC2, us0, h02, _⟩ := own_lst rv2
  have er2 := er1.step l2
  refine ⟨.inl ⟨rfl, us0, .inl (.inl h02)⟩, ?_⟩
  refine wa_of (fun X hX => pa_cons (we_pe hX) pa_nil (hs _)) (h B γ σ H2 er2 _ fun r w H3 ⟨n, hr, hn0, hn1⟩ l3 rw' => ?_)
  subst hr
  rw [re_int] at rw'
  subst rw'
  have er3 := er2.step l3
  obtain ⟨_, _, us, h3, r3⟩ := own_lst (rv2.step l3 er.cb)
  have hlt : n.toNat < m.length := by omega
  obtain ⟨x, hx, rx⟩ := r3.get (List.getElem?_eq_getElem hlt)
  have hlen := r3.len
  have er4 := er3.mut (o := .lst (us.eraseIdx n.toNat)) (d' := .lst (m.eraseIdx n.toNat)) hδ2 hB2 ha2 ⟨us.eraseIdx n.toNat, upd_same, upd_reps hB2 (r3.eraseIdx _)⟩
  refine ⟨q2, us, n, n.toNat, x, rfl, rfl, h3, by omega, by omega, by rw [← hlen]; exact seqIx hn0 hn1, hx, ?_⟩
  have hδ' : (δ.set j (some (.own q2 (.lst (m.eraseIdx n.toNat)))))[i]? = some (some (.own q (.lst l))) := by rw [List.getElem?_set_ne (Ne.symm hij)]; exact hδ
  obtain ⟨v0, hv0, rv0⟩ := er4.at_ i _ hδ'
  obtain ⟨e0, _, vs, h5, r5⟩ := own_lst rv0
  refine ⟨q, vs, x, rfl, rfl, h5, by rw [← r5.len]; exact small1000 (Nat.le_of_lt hz), k n.toNat _ (List.getElem?_eq_getElem hlt) γ σ _ ?_ D s⟩
  exact er4.mut hδ' hB (ha _) ⟨vs ++ [x], upd_same, upd_reps hB (r5.snoc (upd_rep hB2 rx))⟩
/-! join -/
theorem ev_join {s : Str} {ys : List Str} (ha : EV E a δ (.d (.str s))) (hb : EV E b δ (.d (.lst (ys.map D.str)))) (hz : (ys.map (·.length)).sum + ys.length * s.length ≤ 16777216) (hs : ∀ env, starEach [b] env = [(false, eval b env)] := by intro _; rfl) (hbase : ∀ env, attributeBase a "join" env (eval a env) = eval a env := by intro _; rfl) (hline : (apos.endLine == pos.line) = true := by rfl) : EV E (.Call (.Attribute a "join" apos) [b] [] pos) δ (.d (.str (Txt.join s ys))) := fun B γ σ H er Q q =>
  we_of (t := tM1 (fun x xs H Q => ∃ a p, ∃ ys : List Str, x = .str a ∧ xs = [.ref p] ∧ (SqL E.K H p (ys.map V.str) ∨ SqT E.K H p (ys.map V.str)) ∧ (ys.map (·.length)).sum + ys.length * a.length ≤ 16777216 ∧ Q (.str (Txt.join a ys)) H) (WE (Fam E) a) (WE (Fam E) b)) (fun X hX => by rw [← hX.K]; exact pe_join (we_pe hX) (we_pe hX) (hs _) (hbase _) hline) (ha B γ σ H er _ fun x H1 l1 rx => by
    rw [re_str] at rx
    refine ⟨⟨s, rx⟩, ?_⟩
    refine hb B γ σ H1 (er.step l1) _ fun y H2 l2 ry => ?_
    obtain ⟨p, vs, rfl, _, h1, h2⟩ := re_lst ry
    rw [reps_str] at h2
    subst h2
    exact ⟨s, p, ys, rx, rfl, .inl (.inl (.inl h1)), hz, q _ H2 (l1.trans l2) (re_str.mpr rfl)⟩)
end
end Nb
set_option Elab.async false
set_option linter.all false
set_option maxRecDepth 100000
set_option maxHeartbeats 2000000
/-! own operators -/
namespace Nl
open PySem PySem.W PySem.Calls PyProof.Rows
theorem ifBound_B {M : Model} {A : Around} {E : Value → Shared → Prop} {s : Shared} {K : Frag} {x C : Addr} {ox : Obj} {od : Option Obj} {args : List Value} {Q : Option Value → Shared → Prop} (X : K.In s.heap) (I : InstAt s.heap x ox C od) (hs : findIn K (.ref C) "__ne__" = some (some (.builtin "object.__ne__")))
    (h : wpAny M A (call (.builtin "object.__ne__") (.ref x :: args)) (fun v => Q (some v)) E s) : wpAny M A (callSpecialIfBound? (.ref x) "__ne__" args) Q E s := by
  have hb : bindSpecial (.builtin "object.__ne__") (.ref x) = pure (.builtin "object.__ne__", [.ref x]) := PySem.F.cmp_object.ne.bind _
  simp only [callSpecialIfBound?, bindSpecialIfBound?]
  refine wpAny_holding (wpAny_bind (wpAny_bind (wpAny_bind (I.type.here ((looks_findIn X hs).here ?_)))))
  refine wpAny_bind (wpAny_askSetting (wpAny_ite ?_))
  have fin : wpAny M A (call (.builtin "object.__ne__") ([.ref x] ++ args) >>= fun v => pure (some v)) Q E s := wpAny_bind (wpAny_mono h (fun v s' h' => wpAny_pure h') fun _ _ h' => h')
  split
  · rw [hb]
    exact wpAny_bind (wpAny_pure (wpAny_pure fin))
  · rw [hb]
    exact wpAny_tryCatch (wpAny_bind (wpAny_pure (wpAny_pure fin)))
theorem ne_K {prog : Program} {w : World} {A : Around} {E : Value → Shared → Prop} {s : Shared} {K : Frag} {x C L f : Addr} {h₀ : Heap} {m : Str → Option Value} {ox : Obj} {od : Option Obj} {b : Value} {Q : Value → Shared → Prop}
    (hu : A.units + 1 < cLine) (F : Fr h₀ L s.heap m) (X₀ : K.In h₀) (I : InstAt s.heap x ox C od) (hb : Looks (model prog w) s.heap (typeOf b) (.ref C)) (hn : findIn K (.ref C) "__ne__" = some (some (.builtin "object.__ne__")))
    (hs : findIn K (.ref C) "__eq__" = some (some (.ref f))) (hf : isFn K (.ref f) = true) (hm : mroIn K C (.type "object") = some true)
    (h : wpAny (model prog w) A.in1 (call (.ref f) [.ref x, b]) (fun v s' => ∃ c, v = .bool c ∧ Q (.bool (!c)) s') E s) : wpAny (model prog w) A (richCompare .NotEq (.ref x) b) Q E s := by
  have X := X₀.keeps F.keep
  have sub : Looks (model prog w) s.heap (isInstance (.ref x) (.type "object")) true := I.type.andThen (looks_mroIn X hm)
  have one : wpAny (model prog w) A (tryCompare (.ref x) "__ne__" b) (fun r s' => ∃ v, r = some v ∧ Q v s') E s := by
    unfold tryCompare
    refine wpAny_bind (ifBound_B X I hn ?_)
    refine wpAny_call (codeAny_call_builtin PySem.F.cmp_object.ne.plain PySem.F.cmpEntry_ne (@check_slot (model prog w) _ _ s "object.__ne__" "object" "__ne__" (.ref x) [b] [] _ PySem.F.cmpKind_ne PySem.F.cmpSplit_ne sub (PySem.F.cmpArgs_ne (.ref x) b) ?_))
    have hc : wpAny (model prog w) A.in1 (callSpecialIfBound? (.ref x) (Str.ofString "__eq__") [b]) (fun r s' => ∃ c, r = some (.bool c) ∧ Q (.bool (!c)) s') E s :=
      ifBound_K X I hs hf (wpAny_mono h (fun v s' hv => by obtain ⟨c, rfl, q⟩ := hv; exact ⟨c, rfl, q⟩) fun _ _ e => e)
    show wpAny _ A.in1 (cRoomFor "comparison" [.ref x, b] >>= fun _ => callSpecialIfBound? (.ref x) (Str.ofString "__eq__") [b] >>= _) _ _ s
    refine wpAny_bind (wpAny_cRoomFor (show A.units + 1 < cLine from hu) (wpAny_bind (wpAny_mono hc (fun r s' hr => ?_) fun _ _ e => e)))
    obtain ⟨c, rfl, q⟩ := hr
    show wpAny _ A.in1 (truthy (.bool c) >>= fun t => ret (.bool (!t))) _ _ s'
    refine wpAny_bind (wpAny_truthy_bool ?_)
    exact wpAny_pure (wpAny_pure ⟨_, rfl, q⟩)
  unfold richCompare
  simp only [oneThing_ref]
  refine wpAny_holding (wpAny_bind (wpAny_cRoomFor (by omega) ?_))
  refine wpAny_bind (I.type.here (wpAny_bind (hb.here ?_)))
  split
  · rename_i q
    simp at q
  · refine wpAny_bind (wpAny_pure ?_)
    simp only [Bool.false_eq_true, if_false]
    refine wpAny_bind (wpAny_mono one (fun r s' z => ?_) fun _ _ e => e)
    obtain ⟨v, rfl, hq⟩ := z
    exact wpAny_pure hq
end Nl
namespace L2
open PySem PySem.Spec PyProof.Rows
section
variable {X : Cx} {k : Nat} {f C : Addr} {fd : FuncData} {ps : List Str} {sp : Sp}
theorem run_at {A : Around} {pins : List (Addr × Obj)} {σ : St} {H : Hp} {s : Shared} {Q : VK} {us : List Value} {vs : List V} (F : FnOk X.prog X.w X.K X.mg X.base CX0 k f fd ps sp) (sb : Sub X k A) (hb : Binds X.K fd ps [])
    (I : Inv X pins σ H s) (r : Vals vs us) (h : sp vs H Q E0) : wpAny (model X.prog X.w) A (call (.ref f) us) (EP X pins σ Q) X.xe s := by
  have e0 : Env0 X.prog X.w X.K X.mg X.base A X.stack s H := by
    have e := I.env0
    exact ⟨by rw [sb.fr]; exact e.frames, e.mod, e.bs, e.bsz, e.funs, e.frf, e.hok, e.bare⟩
  have hl : us.length = ps.length := by rw [← r.length]; exact F.len _ _ _ _ h
  refine wpAny_call (codeAny_mono (F.run A X.stack s H ⟨us, []⟩ us vs Q E0 sb.room e0 (by
    have := hb s us I.kIn (by simpa using hl)
    simpa using this) r h) fun r s' hq => ?_)
  cases r with
  | error e => exact pass0 pins σ H s e s' I hq
  | ok fl =>
    cases fl with
    | ret u => exact I.after hq
    | next => exact False.elim hq
    | brk => exact False.elim hq
    | cont => exact False.elim hq
theorem relV_back {x : V} {v : Value} (r : RelV x v) : v ≠ .notImplemented := by
  intro e
  subst e
  cases x <;> first
    | (obtain ⟨_, q⟩ := r; cases q)
    | cases r
theorem back_ep {pins : List (Addr × Obj)} {σ : St} {Q : VK} {v : Value} {s' : Shared} (h : EP X pins σ Q v s') : PySem.W.CmpBack (EP X pins σ Q) v s' := by
  obtain ⟨x, H', I, r, q⟩ := h
  have ne := relV_back r
  cases v <;> first
    | exact absurd rfl ne
    | exact ⟨x, H', I, r, q⟩
theorem inst_of {pins : List (Addr × Obj)} {σ : St} {H : Hp} {s : Shared} {a dx : Addr} {fs : List (Str × V)} (I : Inv X pins σ H s) (e : H a = some (.ins C dx fs)) : ∃ ox od, PySem.W.InstAt s.heap a ox C od := by
  obtain ⟨mA, J, _⟩ := ins_get I.hok e
  obtain ⟨od, J, _⟩ := J.look
  exact ⟨_, _, J⟩
/-- -x -/
def rNeg (C : Addr) (sp : Sp) : V → Hp → VK → Prop := fun x H Q => ∃ a dx fs, x = .ref a ∧ H a = some (.ins C dx fs) ∧ sp [.ref a] H Q E0
theorem un_own (F : FnOk X.prog X.w X.K X.mg X.base CX0 k f fd ps sp) (hr : Room k X.A) (hb : Binds X.K fd ps []) (hs : PySem.W.findIn X.K (.ref C) "__neg__" = some (some (.ref f))) (hf : PySem.W.isFn X.K (.ref f) = true) : UnR X (unaryOp .USub) (rNeg C sp) := by
  intro pins s σ H x v Q I rx h
  obtain ⟨a, dx, fs, rfl, ha, hsp⟩ := h
  cases rx
  obtain ⟨ox, od, J⟩ := inst_of I ha
  unfold unaryOp
  refine wpAny_holding ?_
  dsimp only
  rw [if_neg (by decide)]
  refine wpAny_bind (PySem.W.special_fn I.kIn J hs (beq_iff_eq.mp hf) ?_)
  exact wpAny_mono (run_at F ⟨hr, rfl⟩ hb I (.cons (a := V.ref a) rfl .nil) hsp) (fun v s' q => wpAny_pure q) fun _ _ e => e
/-- x op y, both of the class -/
def rBin (C : Addr) (sp : Sp) : R2 := fun x y H Q => ∃ a b dx dy fs gs, x = .ref a ∧ y = .ref b ∧ H a = some (.ins C dx fs) ∧ H b = some (.ins C dy gs) ∧ sp [.ref a, .ref b] H Q E0
theorem bin_own {op : Operator} (F : FnOk X.prog X.w X.K X.mg X.base CX0 k f fd ps sp) (hr : Room k X.A) (hb : Binds X.K fd ps []) (hc : PySem.W.selfFirst X.K C = true) (hs : PySem.W.findIn X.K (.ref C) (PySem.dunder op.info.2) = some (some (.ref f))) (hf : PySem.W.isFn X.K (.ref f) = true) : OpR X (binaryOp op) (rBin C sp) := by
  intro pins s σ H x y v u Q I rx ry h
  obtain ⟨a, b, dx, dy, fs, gs, rfl, rfl, ha, hb', hsp⟩ := h
  cases rx
  cases ry
  obtain ⟨ox, od, J⟩ := inst_of I ha
  obtain ⟨oy, od', J'⟩ := inst_of I hb'
  obtain ⟨m, hF⟩ := I.fr
  exact PySem.W.binop_K hF I.ok.mod.kin J J'.type hc hs hf (wpAny_mono (run_at F ⟨hr, rfl⟩ hb I (.cons (a := V.ref a) rfl (.cons (a := V.ref b) rfl .nil)) hsp) (fun v s' q => back_ep q) fun _ _ e => e)
theorem eq_own (F : FnOk X.prog X.w X.K X.mg X.base CX0 k f fd ps sp) (hr : Room k X.A) (hb : Binds X.K fd ps []) (hs : PySem.W.findIn X.K (.ref C) "__eq__" = some (some (.ref f))) (hf : PySem.W.isFn X.K (.ref f) = true) : OpR X (compareOp .Eq) (rBin C sp) := by
  intro pins s σ H x y v u Q I rx ry h
  obtain ⟨a, b, dx, dy, fs, gs, rfl, rfl, ha, hb', hsp⟩ := h
  cases rx
  cases ry
  obtain ⟨ox, od, J⟩ := inst_of I ha
  obtain ⟨oy, od', J'⟩ := inst_of I hb'
  obtain ⟨m, hF⟩ := I.fr
  show wpAny _ _ (richCompare .Eq _ _) _ _ _
  exact PySem.W.cmp_K (op := .Eq) (tb := .ref C) (by have := hr.un; omega) hF I.ok.mod.kin J J'.type (by simp [PySem.W.notFirst]) hs hf (wpAny_mono (run_at F ⟨hr, rfl⟩ hb I (.cons (a := V.ref a) rfl (.cons (a := V.ref b) rfl .nil)) hsp) (fun v s' q => back_ep q) fun _ _ e => e)
def rBinN (C : Addr) (sp : Sp) : R2 := fun x y H Q => ∃ a b dx dy fs gs, x = .ref a ∧ y = .ref b ∧ H a = some (.ins C dx fs) ∧ H b = some (.ins C dy gs) ∧ sp [.ref a, .ref b] H (fun v H' => ∃ c, v = .bl c ∧ Q (.bl (!c)) H') E0
theorem ne_own (F : FnOk X.prog X.w X.K X.mg X.base CX0 k f fd ps sp) (hr : Room (k + 1) X.A) (hb : Binds X.K fd ps []) (hn : PySem.W.findIn X.K (.ref C) "__ne__" = some (some (.builtin "object.__ne__"))) (hm : PySem.W.mroIn X.K C (.type "object") = some true)
    (hs : PySem.W.findIn X.K (.ref C) "__eq__" = some (some (.ref f))) (hf : PySem.W.isFn X.K (.ref f) = true) : OpR X (compareOp .NotEq) (rBinN C sp) := by
  intro pins s σ H x y v u Q I rx ry h
  obtain ⟨a, b, dx, dy, fs, gs, rfl, rfl, ha, hb', hsp⟩ := h
  cases rx
  cases ry
  obtain ⟨ox, od, J⟩ := inst_of I ha
  obtain ⟨oy, od', J'⟩ := inst_of I hb'
  obtain ⟨m, hF⟩ := I.fr
  show wpAny _ _ (richCompare .NotEq _ _) _ _ _
  refine Nl.ne_K (by have := hr.un; omega) hF I.ok.mod.kin J J'.type hn hs hf hm (wpAny_mono (run_at F (Sub.in1 (⟨hr, rfl⟩ : Sub X (k + 1) X.A)) hb I (.cons (a := V.ref a) rfl (.cons (a := V.ref b) rfl .nil)) hsp) (fun v s' q => ?_) fun _ _ e => e)
  obtain ⟨x, H', I', r, c, rfl, q⟩ := q
  cases r
  exact ⟨c, rfl, .bl (!c), H', I', rfl, q⟩
/-- v in x -/
def rOwnIn (C : Addr) (sp : Sp) : R2 := fun v x H Q => ∃ a dx fs, x = .ref a ∧ H a = some (.ins C dx fs) ∧ sp [.ref a, v] H (fun r H' => ∃ c, r = .bl c ∧ Q (.bl c) H') E0
theorem in_own (F : FnOk X.prog X.w X.K X.mg X.base CX0 k f fd ps sp) (hr : Room k X.A) (hb : Binds X.K fd ps []) (hs : PySem.W.findIn X.K (.ref C) "__contains__" = some (some (.ref f))) (hf : PySem.W.isFn X.K (.ref f) = true) : OpR X (compareOp .In) (rOwnIn C sp) := by
  intro pins s σ H v x uv ux Q I rv rx h
  obtain ⟨a, dx, fs, rfl, ha, hsp⟩ := h
  cases rx
  obtain ⟨ox, od, J⟩ := inst_of I ha
  obtain ⟨m, hF⟩ := I.fr
  refine PySem.W.in_K hF I.ok.mod.kin J hs hf (wpAny_mono (run_at F ⟨hr, rfl⟩ hb I (.cons (a := V.ref a) rfl (.cons rv .nil)) hsp) (fun v s' q => ?_) fun _ _ e => e)
  obtain ⟨x, H', I', r, c, rfl, q⟩ := q
  cases r
  exact wpAny_truthy_bool ⟨.bl c, H', I', rfl, q⟩
end
end L2
set_option Elab.async false
set_option linter.all false
set_option maxRecDepth 100000
set_option maxHeartbeats 2000000
/-! isinstance, own operators, calls of instances, keywords -/
namespace Nb
open PySem PySem.Spec PyProof.Rows L2
/-- an own operator -/
structure Ow (g : Glob) (k : Nat) (c m : Str) (sp : Sp) : Prop where
  ex : ∃ (f : Addr) (fd : FuncData) (ps : List Str), FnOk g.P g.w g.K g.mg g.base CX0 k f fd ps sp ∧ PySem.W.findIn g.K (.ref (g.cl c)) m = some (some (.ref f)) ∧ PySem.W.isFn g.K (.ref f) = true ∧ Binds g.K fd ps []
/-- what isinstance asks of a class -/
structure Kl (g : Glob) (c : Str) : Prop where
  cl : Cls g.K (g.cl c)
  ha : PySem.W.findIn g.K (.ref (g.cl c)) "__class__" = some (some (.builtin "object.__class__"))
  hn : PySem.W.specialIn g.K (.builtin "object.__class__") "__get__" = some (some (.builtin "getset_descriptor.__get__"))
  htk : PySem.W.takesIn g.K (.builtin "object.__class__") = some true
  hm : PySem.W.mroIn g.K (g.cl c) (.type "object") = some true
section
variable {E : EC} {g : Glob} {B Bo B' : Addr → Prop} {δ : Ds} {γ : Gh} {σ : L2.St} {Ω Ω' : Post} {ss : List Stmt} {H H' H2 : Hp} {v : V} {r ra rb rc : Ent} {x y d : D} {e a b c it tg o : Expr} {es : List Expr} {pos pos' p apos py : Pos} {P : D → Prop}
/-! isinstance -/
def tyD (cl : Str → Addr) : D → Value
  | .non => .type "NoneType"
  | .bl _ => .type "bool"
  | .int _ => .type "int"
  | .str _ => .type "str"
  | .tup _ => .type "tuple"
  | .lst _ => .type "list"
  | .dct _ _ => .type "dict"
  | .dcT _ _ => .type "dict"
  | .obj c _ _ => .ref (cl c)
/-- told of the value: no class of its own, or one that isinstance can read -/
def TyOk (g : Glob) : D → Prop
  | .obj c _ _ => Kl g c
  | .dcT _ _ => False
  | _ => True
theorem tyD_tyX (og : Of E g) {x : D} (hk : TyOk g x) (r : Rep E.cl B x v H) : TyX E.K H v (tyD E.cl x) := by
  cases x with
  | non => simp only [Rep] at r; subst r; exact .base .non
  | bl b => simp only [Rep] at r; subst r; exact .base (.bl b)
  | int b => simp only [Rep] at r; subst r; exact .base (.int b)
  | str b => simp only [Rep] at r; subst r; exact .base (.str b)
  | tup l => simp only [Rep] at r; obtain ⟨a, vs, rfl, _, h, _⟩ := r; exact .base (.tup h)
  | lst l => simp only [Rep] at r; obtain ⟨a, vs, rfl, _, h, _⟩ := r; exact .base (.lst h)
  | dct ks l =>
    simp only [Rep] at r
    obtain ⟨a, vs, rfl, _, _, h, _⟩ := r
    rcases h with h | ⟨o, h⟩
    · exact .base (.dK h)
    · exact .fDict h
  | dcT ks l => exact hk.elim
  | obj c fs l =>
    simp only [Rep] at r
    obtain ⟨a, dx, vs, rfl, _, _, h, _⟩ := r
    obtain ⟨k1, k2, k3, k4, k5⟩ := (show Kl g c from hk)
    refine .base ?_
    show TyOf E.K H (.ref a) (.ref (E.cl c))
    rw [og.K]
    rw [og.cl] at h ⊢
    exact .ins h k1 k2 k3 k4 k5
theorem ev_isi {u : V} {w : Value} {t : Bool} (og : Of E g) (ha : EV E a δ (.d x)) (hb : EV E b δ (.ty u)) (hk : TyOk g x) (hu : ClsV u w) (ht : PySem.W.kitOne g.K (tyD g.cl x) w = some t) (hg : GlS E.sc "isinstance") (hm : E.mg "isinstance" = none)
    (hs : ∀ env, starEach [a, b] env = (false, eval a env) :: starEach [b] env := by intro _; rfl) (hs2 : ∀ env, starEach [b] env = (false, eval b env) :: starEach [] env := by intro _; rfl) (hpl : ∀ env, (backTo pos (starEach [b] env)).any (·.1) = false := by intro _; rfl) : EV E (.Call (.Name "isinstance" p) [a, b] [] pos) δ (.d (.bl t)) :=
  ev_callB (fun X hX => fam_Kc hX (r := rIsi) call_isi) hg hm (by decide +kernel) (ea_cons ha (ea_1 hb hs2) hs) (fun B vs H dom cb rs Q q => by
    obtain ⟨v, w', rfl, rv, rw'⟩ := rs.two
    have e : w' = u := rw'
    subst e
    exact ⟨v, w', _, w, t, rfl, hu, tyD_tyX og hk rv, by rw [og.K, og.cl]; exact ht, q _ H Le.refl (re_bl.mpr rfl)⟩) hs hpl
theorem et_isi {u : V} {w : Value} {t : Bool} (og : Of E g) (ha : EV E a δ (.d x)) (hb : EV E b δ (.ty u)) (hk : TyOk g x) (hu : ClsV u w) (ht : PySem.W.kitOne g.K (tyD g.cl x) w = some t) (hg : GlS E.sc "isinstance") (hm : E.mg "isinstance" = none)
    (hs : ∀ env, starEach [a, b] env = (false, eval a env) :: starEach [b] env := by intro _; rfl) (hs2 : ∀ env, starEach [b] env = (false, eval b env) :: starEach [] env := by intro _; rfl) (hpl : ∀ env, (backTo pos (starEach [b] env)).any (·.1) = false := by intro _; rfl) : ET E (.Call (.Name "isinstance" p) [a, b] [] pos) δ t :=
  et_v (ev_isi og ha hb hk hu ht hg hm hs hs2 hpl)
/-- isinstance(x, (c, d)) -/
theorem ev_isi2 {u u' : V} {w w' : Value} {t : Bool} {k1 : Nat} {p2 : Pos} {b c : Expr} (og : Of E g) (ha : EV E a δ (.d x)) (hb : EV E b δ (.ty u)) (hc : EV E c δ (.ty u')) (hk : TyOk g x) (hu : ClsV u w) (hu' : ClsV u' w') (ht : PySem.W.kitAny g.K (tyD g.cl x) [w, w'] = some t) (hg : GlS E.sc "isinstance") (hm : E.mg "isinstance" = none)
    (hs : ∀ env, starEach [a, .Tuple [b, c] k1 p2] env = (false, eval a env) :: starEach [.Tuple [b, c] k1 p2] env := by intro _; rfl) (hs2 : ∀ env, starEach [.Tuple [b, c] k1 p2] env = (false, eval (.Tuple [b, c] k1 p2) env) :: starEach [] env := by intro _; rfl) (hpl : ∀ env, (backTo pos (starEach [.Tuple [b, c] k1 p2] env)).any (·.1) = false := by intro _; rfl)
    (hs3 : ∀ env, starEach [b, c] env = (false, eval b env) :: starEach [c] env := by intro _; rfl) (hs4 : ∀ env, starEach [c] env = (false, eval c env) :: starEach [] env := by intro _; rfl) : EV E (.Call (.Name "isinstance" p) [a, .Tuple [b, c] k1 p2] [] pos) δ (.d (.bl t)) := fun B γ σ H er Q q =>
  we_of (fun X hX => pe_callB (fam_Kc hX (r := rIsiT) call_isiT) (gl_of hX hg) (by rw [hX.mg]; exact hm) (by decide +kernel) (pa_cons (we_pe hX) (pa_cons (pe_tup (pa_cons (we_pe hX) (pa_cons (we_pe hX) pa_nil (hs4 _)) (hs3 _))) pa_nil (hs2 _)) (hs _)) (by decide) (by decide) (hs _) (hpl _))
    (ha B γ σ H er _ fun v H1 l1 rv => hb B γ σ H1 (er.step l1) _ fun v2 H2 l2 rv2 => hc B γ σ H2 ((er.step l1).step l2) _ fun v3 H3 l3 rv3 => by
      have e : v2 = u := rv2
      have e' : v3 = u' := rv3
      subst e e'
      have er3 := ((er.step l1).step l2).step l3
      refine ⟨by show 2 ≤ sizeLine; decide, fun tp htp => ⟨v, tp, [v2, v3], _, [w, w'], t, rfl, upd_same, .cons hu (.cons hu' .nil), tyD_tyX (B := B) og hk (Rep.kd (LeC.kd (E := E) (LeC.new htp) er.cb) _ _ ((rv.step l2 er.cb).step l3 er.cb)), by rw [og.K, og.cl]; exact ht, q _ _ (((l1.trans l2).trans l3).trans (LeC.new htp)) (re_bl.mpr rfl)⟩⟩)
theorem et_isi2 {u u' : V} {w w' : Value} {t : Bool} {k1 : Nat} {p2 : Pos} {b c : Expr} (og : Of E g) (ha : EV E a δ (.d x)) (hb : EV E b δ (.ty u)) (hc : EV E c δ (.ty u')) (hk : TyOk g x) (hu : ClsV u w) (hu' : ClsV u' w') (ht : PySem.W.kitAny g.K (tyD g.cl x) [w, w'] = some t) (hg : GlS E.sc "isinstance") (hm : E.mg "isinstance" = none)
    (hs : ∀ env, starEach [a, .Tuple [b, c] k1 p2] env = (false, eval a env) :: starEach [.Tuple [b, c] k1 p2] env := by intro _; rfl) (hs2 : ∀ env, starEach [.Tuple [b, c] k1 p2] env = (false, eval (.Tuple [b, c] k1 p2) env) :: starEach [] env := by intro _; rfl) (hpl : ∀ env, (backTo pos (starEach [.Tuple [b, c] k1 p2] env)).any (·.1) = false := by intro _; rfl)
    (hs3 : ∀ env, starEach [b, c] env = (false, eval b env) :: starEach [c] env := by intro _; rfl) (hs4 : ∀ env, starEach [c] env = (false, eval c env) :: starEach [] env := by intro _; rfl) : ET E (.Call (.Name "isinstance" p) [a, .Tuple [b, c] k1 p2] [] pos) δ t :=
  et_v (ev_isi2 og ha hb hc hk hu hu' ht hg hm hs hs2 hpl hs3 hs4)
/-! own operators -/
section
variable {α : Type} {args : α → List D} {pre : α → Prop} {post : α → D → Prop} {k : Nat} {c m : Str} {fs fs' : List Str} {l l' : List D}
theorem sp_run (og : Of E g) (er : ER E B δ γ σ H) {ds : List D} {vs : List V} (i : α) (hi : args i = ds) (hr : Reps E.cl B ds vs H) (hp : pre i) {Q : VK} {X : XK} (q : ∀ v d H', LeC E H H' → RE E B (.d d) v H' → post i d → Q v H') : spP g args pre post vs H Q X :=
  ⟨B, i, er.dom, by rw [← og.T]; exact er.tabs, by rw [← og.cl, hi]; exact hr, hp, fun v d H' l rv h => q v d H' (le_no (by rw [og.T]; exact l)) (by show Rep E.cl B d v H'; rw [og.cl]; exact rv) h⟩
theorem obj_re (h : RE E B (.d (.obj c fs l)) v H) : ∃ a dx ws, v = .ref a ∧ H a = some (.ins (E.cl c) dx (fs.zip ws)) := by
  simp only [RE, Rep] at h
  obtain ⟨a, dx, ws, rfl, _, _, h, _⟩ := h
  exact ⟨a, dx, ws, rfl, h⟩
theorem ev_neg (i : α) (F : Ow g k c "__neg__" (spP g args pre post)) (og : Of E g) (hk : k ≤ E.k) (ha : EV E a δ (.d (.obj c fs l))) (hi : args i = [.obj c fs l]) (hp : pre i) (hd : ∀ d', post i d' → d' = d) : EV E (.UnaryOp .USub a pos) δ (.d d) := fun B γ σ H er Q q => by
  obtain ⟨f, fd, ps, F, h1, h2, h3⟩ := F.ex
  refine we_of (t := tUn (rNeg (E.cl c) (spP g args pre post)) (WE (Fam E) a)) (fun X hX => pe_un (un_own (fam_fn hX og F) (hX.room.mono hk) (by rw [hX.K, og.K]; exact h3) (by rw [hX.K, og.K, og.cl]; exact h1) (by rw [hX.K, og.K]; exact h2)) (we_pe hX)) ?_
  refine ha B γ σ H er _ fun v H1 l1 rv => ?_
  have rv0 := rv
  obtain ⟨a, dx, ws, rfl, h⟩ := obj_re rv
  exact ⟨a, dx, _, rfl, h, sp_run og (er.step l1) i hi (.cons rv0 .nil) hp fun v d' H' l rd hpost => q v H' (l1.trans l) (by rw [← hd d' hpost]; exact rd)⟩
theorem ev_bin {op : Operator} (i : α) (F : Ow g k c (PySem.dunder op.info.2) (spP g args pre post)) (og : Of E g) (hk : k ≤ E.k) (hc : PySem.W.selfFirst g.K (g.cl c) = true) (ha : EV E a δ (.d (.obj c fs l))) (hb : EV E b δ (.d (.obj c fs' l'))) (hi : args i = [.obj c fs l, .obj c fs' l']) (hp : pre i) (hd : ∀ d', post i d' → d' = d) : EV E (.BinOp a op b pos) δ (.d d) := fun B γ σ H er Q q => by
  obtain ⟨f, fd, ps, F, h1, h2, h3⟩ := F.ex
  refine we_of (fun X hX => pe_op (r := rBin (E.cl c) (spP g args pre post)) (bin_own (fam_fn hX og F) (hX.room.mono hk) (by rw [hX.K, og.K]; exact h3) (by rw [hX.K, og.K, og.cl]; exact hc) (by rw [hX.K, og.K, og.cl]; exact h1) (by rw [hX.K, og.K]; exact h2)) (we_pe hX) (we_pe hX)) ?_
  refine ha B γ σ H er _ fun v H1 l1 rv => hb B γ σ H1 (er.step l1) _ fun v2 H2 l2 rv2 => ?_
  have rv1 := rv.step l2 er.cb
  have rv0 := rv1
  have rv20 := rv2
  obtain ⟨a, dx, ws, rfl, h⟩ := obj_re rv1
  obtain ⟨b, dy, ws', rfl, h'⟩ := obj_re rv2
  exact ⟨a, b, dx, dy, _, _, rfl, rfl, h, h', sp_run og ((er.step l1).step l2) i hi (.cons rv0 (.cons rv20 .nil)) hp fun v d' H' l rd hpost => q v H' ((l1.trans l2).trans l) (by rw [← hd d' hpost]; exact rd)⟩
theorem ev_eqO (i : α) (F : Ow g k c "__eq__" (spP g args pre post)) (og : Of E g) (hk : k ≤ E.k) (ha : EV E a δ (.d (.obj c fs l))) (hb : EV E b δ (.d (.obj c fs' l'))) (hi : args i = [.obj c fs l, .obj c fs' l']) (hp : pre i) (hd : ∀ d', post i d' → d' = d) (hm : behindInMarks .Eq b = false := by first | exact nomark _ | rfl) : EV E (.Compare a [.Eq] [b] pos) δ (.d d) := fun B γ σ H er Q q => by
  obtain ⟨f, fd, ps, F, h1, h2, h3⟩ := F.ex
  refine we_of (fun X hX => pe_cmpR (eq_own (C := E.cl c) (fam_fn hX og F) (hX.room.mono hk) (by rw [hX.K, og.K]; exact h3) (by rw [hX.K, og.K, og.cl]; exact h1) (by rw [hX.K, og.K]; exact h2)) (we_pe hX) (we_pe hX) hm) ?_
  refine ha B γ σ H er _ fun v H1 l1 rv => hb B γ σ H1 (er.step l1) _ fun v2 H2 l2 rv2 => ?_
  have rv1 := rv.step l2 er.cb
  have rv0 := rv1
  have rv20 := rv2
  obtain ⟨a, dx, ws, rfl, h⟩ := obj_re rv1
  obtain ⟨b, dy, ws', rfl, h'⟩ := obj_re rv2
  exact ⟨a, b, dx, dy, _, _, rfl, rfl, h, h', sp_run og ((er.step l1).step l2) i hi (.cons rv0 (.cons rv20 .nil)) hp fun v d' H' l rd hpost => q v H' ((l1.trans l2).trans l) (by rw [← hd d' hpost]; exact rd)⟩
theorem et_neO {t : Bool} (i : α) (F : Ow g k c "__eq__" (spP g args pre post)) (kl : Kl g c) (hne : PySem.W.findIn g.K (.ref (g.cl c)) "__ne__" = some (some (.builtin "object.__ne__"))) (og : Of E g) (hk : k + 1 ≤ E.k) (ha : EV E a δ (.d (.obj c fs l))) (hb : EV E b δ (.d (.obj c fs' l'))) (hi : args i = [.obj c fs l, .obj c fs' l']) (hp : pre i) (hd : ∀ d', post i d' → d' = .bl t) (hm : behindInMarks .NotEq b = false := by first | exact nomark _ | rfl) : ET E (.Compare a [.NotEq] [b] pos) δ (!t) := fun B γ σ H er Q q => by
  obtain ⟨f, fd, ps, F, h1, h2, h3⟩ := F.ex
  refine wt_of (fun X hX => pt_cmpR (ne_own (C := E.cl c) (fam_fn hX og F) (hX.room.mono hk) (by rw [hX.K, og.K]; exact h3) (by rw [hX.K, og.K, og.cl]; exact hne) (by rw [hX.K, og.K, og.cl]; exact kl.hm) (by rw [hX.K, og.K, og.cl]; exact h1) (by rw [hX.K, og.K]; exact h2)) (we_pe hX) (we_pe hX) hm) ?_
  refine ha B γ σ H er _ fun v H1 l1 rv => hb B γ σ H1 (er.step l1) _ fun v2 H2 l2 rv2 => ?_
  have rv1 := rv.step l2 er.cb
  have rv0 := rv1
  have rv20 := rv2
  obtain ⟨a, dx, ws, rfl, h⟩ := obj_re rv1
  obtain ⟨b, dy, ws', rfl, h'⟩ := obj_re rv2
  exact ⟨a, b, dx, dy, _, _, rfl, rfl, h, h', sp_run og ((er.step l1).step l2) i hi (.cons rv0 (.cons rv20 .nil)) hp fun v d' H' l rd hpost => ⟨t, by rw [hd d' hpost] at rd; exact re_bl.mp rd, !t, rfl, q H' ((l1.trans l2).trans l)⟩⟩
theorem ev_inO {t : Bool} (i : α) (F : Ow g k c "__contains__" (spP g args pre post)) (og : Of E g) (hk : k ≤ E.k) (ha : EV E a δ (.d x)) (hb : EV E b δ (.d (.obj c fs l))) (hi : args i = [.obj c fs l, x]) (hp : pre i) (hd : ∀ d', post i d' → d' = .bl t) (hm : behindInMarks .In b = false := by rfl) : EV E (.Compare a [.In] [b] pos) δ (.d (.bl t)) := fun B γ σ H er Q q => by
  obtain ⟨f, fd, ps, F, h1, h2, h3⟩ := F.ex
  refine we_of (fun X hX => pe_cmpR (in_own (C := E.cl c) (fam_fn hX og F) (hX.room.mono hk) (by rw [hX.K, og.K]; exact h3) (by rw [hX.K, og.K, og.cl]; exact h1) (by rw [hX.K, og.K]; exact h2)) (we_pe hX) (we_pe hX) hm) ?_
  refine ha B γ σ H er _ fun v H1 l1 rv => hb B γ σ H1 (er.step l1) _ fun v2 H2 l2 rv2 => ?_
  have rv1 : Rep E.cl B x v H2 := rv.step l2 er.cb
  have rv20 := rv2
  obtain ⟨a, dx, ws, rfl, h⟩ := obj_re rv2
  exact ⟨a, dx, _, rfl, h, sp_run og ((er.step l1).step l2) i hi (.cons rv20 (.cons rv1 .nil)) hp fun v d' H' l rd hpost => ⟨t, by rw [hd d' hpost] at rd; exact re_bl.mp rd, q _ H' ((l1.trans l2).trans l) (re_bl.mpr rfl)⟩⟩
theorem et_inO {t : Bool} (i : α) (F : Ow g k c "__contains__" (spP g args pre post)) (og : Of E g) (hk : k ≤ E.k) (ha : EV E a δ (.d x)) (hb : EV E b δ (.d (.obj c fs l))) (hi : args i = [.obj c fs l, x]) (hp : pre i) (hd : ∀ d', post i d' → d' = .bl t) (hm : behindInMarks .In b = false := by rfl) : ET E (.Compare a [.In] [b] pos) δ t := fun B γ σ H er Q q => by
  obtain ⟨f, fd, ps, F, h1, h2, h3⟩ := F.ex
  refine wt_of (fun X hX => pt_cmpR (in_own (C := E.cl c) (fam_fn hX og F) (hX.room.mono hk) (by rw [hX.K, og.K]; exact h3) (by rw [hX.K, og.K, og.cl]; exact h1) (by rw [hX.K, og.K]; exact h2)) (we_pe hX) (we_pe hX) hm) ?_
  refine ha B γ σ H er _ fun v H1 l1 rv => hb B γ σ H1 (er.step l1) _ fun v2 H2 l2 rv2 => ?_
  have rv1 : Rep E.cl B x v H2 := rv.step l2 er.cb
  have rv20 := rv2
  obtain ⟨a, dx, ws, rfl, h⟩ := obj_re rv2
  exact ⟨a, dx, _, rfl, h, sp_run og ((er.step l1).step l2) i hi (.cons rv20 (.cons rv1 .nil)) hp fun v d' H' l rd hpost => ⟨t, by rw [hd d' hpost] at rd; exact re_bl.mp rd, t, rfl, q H' ((l1.trans l2).trans l)⟩⟩
def tCo (C : Addr) (sp : Sp) (tf : TE) (t : TA) : TE := fun σ H Q => tf σ H fun y H1 => ∃ a, y = V.ref a ∧ t σ H1 fun vs H2 => ((∃ dx vs, SlX.Slt H2 a C dx vs) ∨ ∃ dx fs, H2 a = some (.ins C dx fs)) ∧ sp (V.ref a :: vs) H2 Q E0
/-- an instance called: o(e) -/
theorem ev_callO {ds : List D} (i : α) (F : Cb g k c (spP g args pre post)) (og : Of E g) (hk : k ≤ E.k) (ho : EV E o δ (.d (.obj c fs l))) (ha : EA E (e :: es) δ (ds.map Ent.d)) (hi : args i = .obj c fs l :: ds) (hp : pre i) (hd : ∀ d', post i d' → d' = d)
    (ht : ∀ env, eval (.Call o (e :: es) [] pos) env = (do callWith pos (← eval o env) [] (backTo pos (starEach (e :: es) env)) (backToKw pos (keywordEach [] env))) := by intro _; rfl)
    (he : ∀ env, starEach (e :: es) env = (false, eval e env) :: starEach es env := by intro _; rfl) (hpl : ∀ env, (backTo pos (starEach es env)).any (·.1) = false := by intro _; rfl) : EV E (.Call o (e :: es) [] pos) δ (.d d) := fun B γ σ H er Q q => by
  obtain ⟨f, fd, ps, F, h1, h2⟩ := F.ex
  have FR : FnR g.P g.w g.K g.mg g.base CX0 k f (spP g args pre post) := fun A outer s H us vs Q E hr e0 r hs => by
    have h := FnOk.raw F h2 (dvs := []) .nil A outer s H us vs Q E hr e0 r (by show spP g args pre post (vs ++ []) H Q E; rw [List.append_nil]; exact hs)
    exact h
  refine we_of (t := tCo (E.cl c) (spP g args pre post) (WE (Fam E) o) (WA (Fam E) (e :: es))) (fun X hX => by
    have hF : FnR X.prog X.w X.K X.mg X.base CX0 k f (spP g args pre post) := by
      rw [hX.prog, hX.w, hX.K, hX.mg, hX.base, og.P, og.w, og.K, og.mg, og.base]
      exact FR
    exact StX.pe_callO (we_pe hX) (by rw [hX.K, og.K, og.cl]; exact h1) hF (hX.room.mono hk) pass0 (wa_pa hX) (ht _) (he _) (hpl _)) ?_
  refine ho B γ σ H er _ fun v H1 l1 rv => ?_
  obtain ⟨a, dx, ws, rfl, h⟩ := obj_re rv
  refine ⟨a, rfl, ha B γ σ H1 (er.step l1) _ fun vs H2 l2 rvs => ?_⟩
  have rv2 := rv.step l2 er.cb
  have rv20 := rv2
  obtain ⟨a', dx', ws', e', h'⟩ := obj_re rv2
  cases e'
  exact ⟨.inr ⟨dx', _, h'⟩, sp_run og ((er.step l1).step l2) i hi (.cons rv20 (re_ds rvs)) hp fun v d' H' l rd hpost => q v H' ((l1.trans l2).trans l) (by rw [← hd d' hpost]; exact rd)⟩
/-- C(e, .., k = v, ..) -/
structure MakK (g : Glob) (k : Nat) (c : Str) (n : Nat) (ks : List Str) (sp : Sp) : Prop where
  ex : ∃ (f : Addr) (fd : FuncData) (ps : List Str) (gf : List Value → List Value → List Value), FnOk g.P g.w g.K g.mg g.base CX0 k f fd ps sp ∧ Mk g.K (g.cl c) f ∧ g.mg c = some (.ref (g.cl c)) ∧ KBn g.K fd ps (n + 1) ks gf (fun vs zs => vs ++ zs)
/-- keyword arguments -/
def WK (F : Fm) (kws : List Keyword) : TA := fun σ H Q => ∃ (t : TA) (Q0 : List V → Hp → Prop), (∀ X, F X → PK X kws t) ∧ t σ H Q0 ∧ ∀ v H', Q0 v H' → Q v H'
def EK (E : EC) (kws : List Keyword) (δ : Ds) (rs : List Ent) : Prop := ∀ (B : Addr → Prop) (γ : Gh) (σ : L2.St) (H : Hp), ER E B δ γ σ H → ∀ Q : List V → Hp → Prop, (∀ vs H2, LeC E H H2 → REs E B H2 rs vs → Q vs H2) → WK (Fam E) kws σ H Q
theorem wk_pk {F : Fm} {X : Cx} {kws : List Keyword} (hX : F X) : PK X kws (WK F kws) := ⟨fun pos pins s σ H Q I h => by
  obtain ⟨t, Q0, h1, h2, h3⟩ := h
  exact thn ((h1 X hX).run pos pins s σ H Q0 I h2) fun u s' ⟨v, H', I', r, q⟩ => ⟨v, H', I', r, h3 _ _ q⟩⟩
theorem wk_of {F : Fm} {kws : List Keyword} {σ : L2.St} {t : TA} {Q : List V → Hp → Prop} (h : ∀ X, F X → PK X kws t) (q : t σ H Q) : WK F kws σ H Q := ⟨t, Q, h, q, fun _ _ x => x⟩
theorem ek_nil : EK E [] δ [] := fun B γ σ H er Q q => wk_of (fun X hX => pk_nil) (q [] H Le.refl .nil)
theorem ek_cons {kws : List Keyword} {nm : Option Str} {kpos : Pos} {rs : List Ent} (h : EV E e δ r) (hr : EK E kws δ rs) : EK E (⟨nm, e, kpos⟩ :: kws) δ (r :: rs) := fun B γ σ H er Q q =>
  wk_of (fun X hX => pk_cons (we_pe hX) (wk_pk hX)) (h B γ σ H er _ fun v H1 l1 rv => hr B γ σ H1 (er.step l1) _ fun vs H2 l2 rvs => q _ H2 (l1.trans l2) (.cons (rv.step l2 er.cb) rvs))
theorem REs.imp {rs : List Ent} {vs : List V} (h : REs E B H rs vs) (m : ∀ r v, RE E B r v H → RE E B' r v H2) : REs E B' H2 rs vs := by
  induction h with
  | nil => exact .nil
  | cons h t ih => exact .cons (m _ _ h) ih
theorem REs.append {rs rs' : List Ent} {vs vs' : List V} (h : REs E B H rs vs) (h' : REs E B H rs' vs') : REs E B H (rs ++ rs') (vs ++ vs') := by
  induction h with
  | nil => exact h'
  | cons h t ih => exact .cons h ih
theorem REs.length {rs : List Ent} {vs : List V} (h : REs E B H rs vs) : vs.length = rs.length := by
  induction h with
  | nil => rfl
  | cons h t ih => simp [ih]
theorem evp_makeK {P : Ent → Prop} {postI : α → List Str → List D → Prop} {kws : List Keyword} {ks : List Str} {ds zs : List D} {n : Nat} (i : α) (F : MakK g k c n ks (spI g c args pre postI)) (og : Of E g) (hk : k + 1 ≤ E.k) (hg : GlS E.sc c) (ha : EA E (e :: es) δ (ds.map Ent.d)) (hz : EK E kws δ (zs.map Ent.d)) (hn : ds.length = n) (hm : zs.length = ks.length) (hi : args i = ds ++ zs) (hp : pre i) (hd : ∀ fs l, postI i fs l → P (.d (.obj c fs l)))
    (hall : ∀ env, (backToKw pos (keywordEach kws env)).all (·.1.isSome) = true := by intro _; rfl) (hks : ∀ env, (backToKw pos (keywordEach kws env)).filterMap (·.1) = ks := by intro _; rfl) (hdb : (c == ("__debug__" : Str)) = false := by decide)
    (he : ∀ env, starEach (e :: es) env = (false, eval e env) :: starEach es env := by intro _; rfl) (hpl : ∀ env, ((backTo pos (starEach (e :: es) env)).any (·.1) || (backToKw pos (keywordEach kws env)).any (·.1.isNone)) = false := by intro _; rfl) : EVP E (.Call (.Name c p) (e :: es) kws pos) δ P := fun B γ σ H er Q q => by
  obtain ⟨f, fd, ps, gf, F, hmk, hmg, b⟩ := F.ex
  refine we_of (t := tMakeK (E.cl c) n ks.length (spI g c args pre postI) (fun vs zs => vs ++ zs) E0 (WA (Fam E) (e :: es)) (WK (Fam E) kws)) (fun X hX => pe_makeK (by rw [hX.K, og.K, og.cl]; exact hmk) (fam_fn hX og F) (hX.room.mono hk) (gl_of hX hg) (by rw [hX.mg, og.mg, og.cl]; exact hmg) (by rw [hX.K, og.K]; exact b) pass0 (wa_pa hX) (wk_pk hX) (hall _) (hks _) hdb (he _) (hpl _)) ?_
  refine ha B γ σ H er _ fun vs H0 l0 rvs => hz B γ σ H0 (er.step l0) _ fun zv H1 l1' rzs => ?_
  have l1 := l0.trans l1'
  have er1 := er.step l1
  have rall : REs E B H1 ((ds ++ zs).map Ent.d) (vs ++ zv) := by
    rw [List.map_append]
    exact (rvs.imp fun r v rv => rv.step l1' er.cb).append rzs
  refine ⟨by rw [rvs.length, List.length_map, hn], by rw [rzs.length, List.length_map, hm], ?_⟩
  intro x dx nx ndx nex
  have l2 : LeC E H1 (upd (upd H1 dx (.own x)) x (.ins (E.cl c) dx [])) := (LeC.new ndx).trans (LeC.new (by rw [upd_ne nex.symm]; exact nx))
  refine ⟨fun a => B a ∨ a = x, x, dx, vs ++ zv, i, rfl, .inr rfl, fun a ha => ha.elim ((er1.step l2).dom a) fun z => by rw [z, upd_same]; simp, by rw [← og.T]; exact (er1.step l2).tabs, by rw [upd_same, og.cl], ?_, hp, fun H' fs l ws dx' l3 e3 hlen rs hpost => ⟨rfl, q _ _ H' (hd fs l hpost) ?_ ?_⟩⟩
  · have k2 : Kd (fun a => B a ∨ a = x) B H1 (upd (upd H1 dx (.own x)) x (.ins (E.cl c) dx [])) := Le.kd l2 er.cb fun a ha hn => ha.elim (fun z => z) fun z => absurd nx (by rw [← z]; exact hn)
    rw [← og.cl, hi]
    exact Reps.kd k2 _ _ (re_ds rall)
  · refine (l1.trans ?_)
    have key : ∀ a o, H1 a = some o → a ≠ x ∧ upd (upd H1 dx (.own x)) x (.ins (E.cl c) dx []) a = some o := fun a o e => by
      have h1 : a ≠ x := ne_of_none e nx
      exact ⟨h1, by rw [upd_ne h1, upd_ne (ne_of_none e ndx)]; exact e⟩
    refine ⟨fun a o _ e n => ?_, fun a ha => ?_, fun t => ?_, fun a _ ⟨x1, y1, z1, e⟩ => ?_⟩
    · obtain ⟨h1, h2⟩ := key a o e
      exact l3.keep a o h1 h2 n
    · cases q' : H1 a with
      | none => exact absurd q' ha
      | some o =>
        obtain ⟨h1, h2⟩ := key a o q'
        exact l3.dom a (by rw [h2]; simp)
    · rw [og.T] at t ⊢
      refine l3.tabs ?_
      have := l2.tabs (show LamX.Tabs E.T H1 by rw [og.T]; exact t)
      rw [og.T] at this
      exact this
    · obtain ⟨h1, h2⟩ := key a _ e
      exact ⟨x1, y1, z1, l3.keep a _ h1 h2 fun ps z => by cases z⟩
  · simp only [RE, Rep]
    have k3 : Kd B (fun a => B a ∨ a = x) H' H' := ⟨fun a _ nb z => nb (.inl z), fun a u _ _ r => r, fun a u _ _ r => r⟩
    refine ⟨x, dx', ws, rfl, fun z => er1.dom x z nx, hlen, by rw [og.cl]; exact e3, ?_⟩
    rw [og.cl]
    exact Reps.kd k3 _ _ rs
end
end
end Nb
set_option Elab.async false
set_option linter.all false
set_option maxRecDepth 100000
set_option maxHeartbeats 2000000
/-! a lambda of one name as key -/
namespace Nl
open PySem PySem.W PySem.Calls PyProof.Rows
section
variable {prog : Program} {w : World} {A : Around} {s : Shared} {f c' : Addr} {qual y : Str} {params : Arguments} {body : Expr} {scope : Scope} {cl : List (Str × Addr)} {pm ctv v : Value}
theorem lam_call {k : PyData} (hroom : A.depth < recursionLimit) (hlim : s.heap.NoLimit) (ho : s.heap.get? f = some (kla_obj "<lambda>" qual params body scope cl pm c' ctv)) (hcd : s.heap.CodeRec (.ref c') qual)
    (hbind : bindArgs (kla_fn "<lambda>" qual params body scope cl pm (.ref c') ctv) ⟨[v], []⟩ = pure [(y, v)]) (hloc : scope.names.lookup y = some .local) (hcell : ∀ x ∈ scope.names, x.2 ≠ .cell) (hk : scope.kind = .function) (hco : scope.isCoroutine = false) (hgen : scope.isGenerator = false)
    (hbody : ∀ L h₁ tk, h₁.Ns L (fun z => ([(y, v)] : List (Str × Value)).reverse.lookup z) → (∀ b o, s.heap.get? b = some o → h₁.get? b = some o) →
      wpAny (model prog w) (A.deeper (envX qual scope L f (.ref c') cl)) (eval body (envX qual scope L f (.ref c') cl)) (KeyPure k { s with heap := h₁, toks := tk }) (fun _ _ => False) { s with heap := h₁, toks := tk }) :
    wpAny (model prog w) A (call (.ref f) [v]) (KeyPure k s) (fun _ _ => False) s := by
  refine wpAny_call (kla_callFunE hroom ho rfl hco hgen rfl hcd ?_)
  rw [hbind]
  refine wpAny_pure (wpAny_newFunctionEnv hcell (fun x hx => by rw [List.mem_singleton.mp hx]; exact hloc) (fun h₁ hns hsb => ⟨hlim.fresh _ hsb, ?_⟩) hk)
  show codeAny _ _ (.expr body (envX qual scope s.heap.objs.size f (.ref c') cl)) _ _
  have kp : ∀ b o, s.heap.get? b = some o → h₁.get? b = some o := fun b o e => hsb.extBut b o (Nat.ne_of_lt (Heap.lt_size e)) (Heap.get?_push_of_some _ e)
  refine kla_codeExpr (wpAny_mono (hbody _ h₁ _ hns kp) (fun r s' hq => ?_) fun _ _ e => e.elim)
  obtain ⟨h', tk, rfl, hx, hr⟩ := hq
  exact ⟨h', tk, rfl, fun b o e => hx b o (kp b o e), hr⟩
end
section
variable {prog : Program} {w : World} {A : Around} {s : Shared} {E : Value → Shared → Prop} {env : Env} {d y z : Str} {a : Addr} {p1 p2 p3 p4 p5 : Pos} {Q : Value → Shared → Prop} {K : Type} [DecidableEq K] {knd : KeyKind prog w K}
/-- d[y] in a lambda's body -/
theorem body_get {v : Value} {kk : K} {fm : K → Option Value} (hk : env.scope.kind = .function) (hd : env.scope.names.lookup d = some .free) {c : Addr} (hc : env.cells.lookup d = some c) (hcell : s.heap.IsCell c (some (.ref a))) (hy : env.scope.names.lookup y = some .local) {m : Str → Option Value} (hns : s.heap.Ns env.locals m) {u : Value} (hm : m y = some u)
    (hkey : knd.is kk u = true) (hmap : s.heap.MapOf knd a fm) (hv : fm kk = some v) (h : ∀ tk, Q v { s with toks := tk })
    (d1 : (d == ("__debug__" : Str)) = false) (d2 : (d == ("__classdict__" : Str)) = false) (y1 : (y == ("__debug__" : Str)) = false) :
    wpAny (model prog w) A (eval (.Subscript (.Name d p1) (.Name y p2) p3) env) Q E s := by
  refine L2.subD_of PySem.F.slot_dict_getitem.lookup (fun _ _ => rfl) (wpAny_Name (wpAny_loadName_free hk hd hc hcell (wpAny_Name (wpAny_loadName_local hk hy hns hm ⟨hmap.typeIs, ?_⟩) y1) d2) d1)
  exact wpAny_getItem_of hkey hmap hv (h _)
end
end Nl
namespace LamX
open PySem PySem.Spec PyProof.Rows L2
section
variable {X : Cx} {pins : List (Addr × Obj)} {σ : L2.St} {H : Hp} {s : Shared}
theorem lam_make3 {T : List (Addr × Str)} {c P : Addr} {params : Arguments} {body : Expr} {scope : Scope} {pos : Pos} {E : Value → Shared → Prop} {Q : Value → Shared → Prop} (I : Inv X pins σ H s) (TB : TabB X.base X.mg c P) (hcode : X.env.code = .ref c)
    (hm : (P, X.env.qual ++ "<lambda>") ∈ T) (hu : ∀ p ∈ T, p.1 = P → p.2 = X.env.qual ++ "<lambda>") (hT : Tabs T H) (hdef : defaultsOf params X.env = ([], [])) (hfree : ∀ y ∈ scope.names, y.2 = .free → ∃ c, X.env.cells.lookup y.1 = some c)
    (h : ∀ (f c' : Addr) (pm ctv : Value) (H1 : Hp) (s' : Shared), Inv X pins σ H1 s' → ExtN H H1 → (∀ b, H b ≠ none → H1 b ≠ none) → Tabs T H1 →
      s'.heap.get? f = some (PySem.W.kla_obj "<lambda>" (X.env.qual ++ "<lambda>") params body scope (cloFrom X.env.cells scope.names []) pm c' ctv) → H1 f = none → f ∉ frs X.stack → H1 c' = some (CodeO c' (X.env.qual ++ "<lambda>")) → Q (.ref f) s') :
    wpAny (model X.prog X.w) X.A (eval (.Lambda params body scope pos) X.env) Q E s := by
  obtain ⟨ps, hP, ht, ha⟩ := hT _ hm
  refine PySem.W.kla_eval hdef ?_
  have bP : s.heap.BuiltinsAt X.mg P := TB.bm.keeps I.bk
  have hP' : s.heap.get? P = some { cls := .none, data := .fields ps } := I.hok P _ hP
  have nofr : ∀ f, s.heap.objs.size ≤ f → f ∉ frs X.stack := fun f hf z => by
    rcases List.mem_cons.mp (I.stkSub _ z) with e | e
    · have h1 := I.lt
      rw [← e] at h1
      exact Nat.lt_irrefl _ (Nat.lt_of_lt_of_le h1 hf)
    · exact I.nofs hf e
  cases hc : codeAmong pos ps.toList with
  | none =>
    refine PySem.W.kla_makeFunction (mg := X.mg) (c := c) (P := P) (ps := ps) (closure_ok hfree) I.ok.glob (I.mod.glob.keeps I.bk) hcode (TB.code.keeps I.bk) hP' ht hc TB.gP bP fun c' ctv h' tk hx hge hlt hrec htb => ?_
    obtain ⟨c2, oc, vs, t, e2, hoc, hd, hv⟩ := hrec
    cases e2
    have hsz : s.heap.objs.size ≤ h'.objs.size := Nat.le_trans hge (Nat.le_of_lt hlt)
    have nC : H c' = none := I.hok.fresh hge
    have I1 := inv_table (t' := tk) (more := #[rawInt pos.line, rawInt pos.col, .ref c']) (h' := h'.push (PySem.W.kla_obj "<lambda>" (X.env.qual ++ "<lambda>") params body scope (cloFrom X.env.cells scope.names []) ((X.mg "__name__").getD .none) c' ctv)) I hP
      (fun b o hb e => Heap.get?_push_of_some _ (hx b o hb e)) (Heap.get?_push_of_some _ htb) hge ⟨oc, vs, t, Heap.get?_push_of_some _ hoc, hd, hv⟩
    have hE : ExtN H (upd (upd H P (.tbl (ps ++ #[rawInt pos.line, rawInt pos.col, .ref c']))) c' (CodeO c' (X.env.qual ++ "<lambda>"))) := fun b o e n => by
      rw [upd_ne (ne_of_none e nC), upd_ne (fun z => n ps (Option.some.inj (e.symm.trans (by rw [z]; exact hP))))]
      exact e
    have eL : (ps ++ #[rawInt pos.line, rawInt pos.col, .ref c']).toList = ps.toList ++ [rawInt pos.line, rawInt pos.col, .ref c'] := by simp
    refine h h'.objs.size c' ((X.mg "__name__").getD .none) ctv _ _ I1 hE (fun b hb => ?_) (fun p hp => ?_) (Heap.get?_push_size _ rfl) ?_ (nofr _ hsz) upd_same
    · by_cases h1 : b = c'
      · rw [h1, upd_same]; simp
      · by_cases h2 : b = P
        · rw [upd_ne h1, h2, upd_same]; simp
        · rw [upd_ne h1, upd_ne h2]; exact hb
    · by_cases hb : p.1 = P
      · rw [hu p hp hb, hb]
        refine ⟨_, by rw [upd_ne (ne_of_none hP nC), upd_same], by rw [eL]; exact PySem.TriplesOk_snoc _ _ _ _ ht, fun p' cv hcv => ?_⟩
        rw [eL] at hcv
        rcases among_app _ ht hcv with z | z
        · obtain ⟨c0, e1, e2⟩ := ha p' cv z
          exact ⟨c0, e1, hE _ _ e2 codeO_ne⟩
        · exact ⟨c', z, upd_same⟩
      · obtain ⟨ps', a1, a2, a3⟩ := hT p hp
        refine ⟨ps', by rw [upd_ne (ne_of_none a1 nC), upd_ne hb]; exact a1, a2, fun p' cv hcv => ?_⟩
        obtain ⟨c0, e1, e2⟩ := a3 p' cv hcv
        exact ⟨c0, e1, hE _ _ e2 codeO_ne⟩
    · have n1 : h'.objs.size ≠ c' := Nat.ne_of_gt hlt
      have n2 : h'.objs.size ≠ P := Nat.ne_of_gt (Nat.lt_of_lt_of_le (Heap.lt_size hP') hsz)
      rw [upd_ne n1, upd_ne n2]
      exact I.hok.fresh hsz
  | some cv =>
    obtain ⟨c', e, hco⟩ := ha pos cv hc
    subst e
    refine PySem.W.kla_makeFunctionHit (mg := X.mg) (c := c) (P := P) (ps := ps) (closure_ok hfree) I.ok.glob (I.mod.glob.keeps I.bk) hcode (TB.code.keeps I.bk) hP' ht hc bP fun ctv h' tk hx hsz => ?_
    have I1 : Inv X pins σ H { s with heap := h'.push (PySem.W.kla_obj "<lambda>" (X.env.qual ++ "<lambda>") params body scope (cloFrom X.env.cells scope.names []) ((X.mg "__name__").getD .none) c' ctv), toks := tk } := I.kept fun b o e => Heap.get?_push_of_some _ (hx b o e)
    exact h h'.objs.size c' ((X.mg "__name__").getD .none) ctv H _ I1 (ExtN.refl H) (fun _ h => h) hT (Heap.get?_push_size _ rfl) (I.hok.fresh hsz) (nofr _ hsz) hco
/-- what a lambda of one name y and one captured dict d asks of the scopes -/
structure Lam1 (sc scope : Scope) (d y : Str) : Prop where
  kind : scope.kind = .function
  co : scope.isCoroutine = false
  gen : scope.isGenerator = false
  cell : ∀ x ∈ scope.names, x.2 ≠ .cell
  yl : scope.names.lookup y = some .local
  df : scope.names.lookup d = some .free
  fr : ∀ x ∈ scope.names, x.2 = .free → x.1 = d
  dc : sc.names.lookup d = some .cell
/-- the cell of d holds the dict -/
theorem cell_of {i : Nat} {d : Str} {a : Addr} (I : Inv X pins σ H s) (hN : X.N[i]? = some d) (hσ : σ[i]? = some (some (.ref a))) (hd : X.env.scope.names.lookup d = some .cell) : ∃ c, X.env.cells.lookup d = some c ∧ s.heap.IsCell c (some (.ref a)) := by
  obtain ⟨m, hn, hl⟩ := I.loc
  obtain ⟨u, r, l⟩ := hl i d _ hN hσ (.inr (.inl hd))
  cases r
  rcases l with ⟨k, _⟩ | ⟨_, c, h1, h2⟩
  · have k' : X.env.scope.names.lookup d = some .local := k
    rw [hd] at k'
    cases k'
  · exact ⟨c, h1, h2⟩
theorem clo_of {scope : Scope} {d y : Str} {c : Addr} (L : Lam1 X.env.scope scope d y) (hc : X.env.cells.lookup d = some c) : (cloFrom X.env.cells scope.names []).lookup d = some c := by
  have hm : (d, NameKind.free) ∈ scope.names := PySem.mem_of_lookup L.df
  obtain ⟨c2, h2⟩ := mem_lookup (cloFrom_has (cells := X.env.cells) (acc := []) hm)
  rcases cloFrom_mem (PySem.mem_of_lookup h2) with hm | ⟨h1, h3⟩
  · cases hm
  · rw [h2, h3]
    rw [show X.env.cells.lookup d = some c from hc]
    rfl
end
end LamX
set_option Elab.async false
set_option linter.all false
set_option maxRecDepth 100000
set_option maxHeartbeats 2000000
/-! sorted(xs, key=lambda y: len(d[y])), max(xs, key=lambda y: d[y]), max(xs, default=k) -/
namespace LamX
open PySem PySem.Spec PyProof.Rows L2
section
variable {X : Cx} {pins : List (Addr × Obj)} {σ : L2.St} {H : Hp} {s : Shared}
/-- the lambda as it stands: its object, its captured cell -/
structure Lamb (X : Cx) (s : Shared) (f c' : Addr) (qual : Str) (params : Arguments) (body : Expr) (scope : Scope) (cl : List (Str × Addr)) (pm ctv : Value) (d : Str) (a : Addr) : Prop where
  ob : s.heap.get? f = some (PySem.W.kla_obj "<lambda>" qual params body scope cl pm c' ctv)
  code : s.heap.CodeRec (.ref c') qual
  cell : ∃ c, cl.lookup d = some c ∧ s.heap.IsCell c (some (.ref a))
theorem Lamb.at {f c' : Addr} {qual : Str} {params : Arguments} {body : Expr} {scope : Scope} {cl : List (Str × Addr)} {pm ctv : Value} {d : Str} {a : Addr} (l : Lamb X s f c' qual params body scope cl pm ctv d a) {h : Heap} {tk : Nat} (k : ∀ b o, s.heap.get? b = some o → h.get? b = some o) : Lamb X { s with heap := h, toks := tk } f c' qual params body scope cl pm ctv d a := by
  obtain ⟨o, ⟨c2, oc, vs, t, e, h1, h2, h3⟩, c, hc, oo, ho, hd⟩ := l
  exact ⟨k _ _ o, ⟨c2, oc, vs, t, e, k _ _ h1, h2, h3⟩, c, hc, oo, k _ _ ho, hd⟩
variable {f c' : Addr} {qual d y : Str} {params : Arguments} {body : Expr} {sc scope : Scope} {cl : List (Str × Addr)} {pm ctv : Value} {a : Addr} {p1 p2 p3 p4 p5 : Pos}
abbrev bindLam (params : Arguments) (body : Expr) (scope : Scope) (y : Str) : Prop := ∀ (q : Str) (cl : List (Str × Addr)) (pm cv ctv v : Value), bindArgs (PySem.W.kla_fn "<lambda>" q params body scope cl pm cv ctv) ⟨[v], []⟩ = pure [(y, v)]
/-- lambda y: d[y], an int -/
theorem key_get {A : Around} (I : Inv X pins σ H s) (L : Lam1 sc scope d y) (hb : bindLam params (.Subscript (.Name d p1) (.Name y p2) p3) scope y) (l : Lamb X s f c' qual params (.Subscript (.Name d p1) (.Name y p2) p3) scope cl pm ctv d a) {kvs : List (Key × V)} (hd : Rd H a (.dK kvs)) {z : Str} {n : Int} (hz : valV kvs (Sum.inr z) = some (.int n)) (hroom : A.depth < recursionLimit)
    {h : Heap} {tk : Nat} (k : ∀ b o, s.heap.get? b = some o → h.get? b = some o) {t : Tok} (d1 : (d == ("__debug__" : Str)) = false) (d2 : (d == ("__classdict__" : Str)) = false) (y1 : (y == ("__debug__" : Str)) = false) :
    wpAny (model X.prog X.w) A (call (.ref f) [.str z t]) (PySem.W.KeyPure (.int n) { s with heap := h, toks := tk }) (fun _ _ => False) { s with heap := h, toks := tk } := by
  obtain ⟨zz, lo, vs, rel, dd⟩ := dk_rd I.hok hd
  have l' := l.at (tk := tk) k
  refine Nl.lam_call hroom (I.nolimit.keeps k) l'.ob l'.code (hb _ _ _ _ _ _) L.yl L.cell L.kind L.co L.gen fun Lo h₁ tk1 hns kp => ?_
  obtain ⟨c, hc, hcell⟩ := l'.cell
  obtain ⟨oo, ho, hdd⟩ := hcell
  obtain ⟨w', hw, rw'⟩ := RelO.some_of (v := V.int n) (o := valueAt vs (Sum.inr z)) (by rw [← hz]; exact rel.val (Sum.inr z))
  obtain ⟨tw, rfl⟩ := rw'
  refine Nl.body_get (knd := mixKind X.prog X.w) (fm := valueAt vs) (kk := Sum.inr z) (u := .str z t) L.kind L.df hc ⟨oo, kp _ _ ho, hdd⟩ L.yl hns (by simp) (kV_is (k := Sum.inr z) ⟨t, rfl⟩) (dd.at fun o e => kp _ _ (k _ _ e)).mapOf hw (fun tk2 => ?_) d1 d2 y1
  exact ⟨h₁, tk2, rfl, fun _ _ e => e, .int _ _⟩
/-- lambda y: len(d[y]), a list -/
theorem key_len {A : Around} (I : Inv X pins σ H s) (L : Lam1 sc scope d y) (hb : bindLam params (.Call (.Name "len" p4) [.Subscript (.Name d p1) (.Name y p2) p3] [] p5) scope y) (l : Lamb X s f c' qual params (.Call (.Name "len" p4) [.Subscript (.Name d p1) (.Name y p2) p3] [] p5) scope cl pm ctv d a) {kvs : List (Key × V)} (hd : Rd H a (.dK kvs)) {z : Str} {q : Addr} {ys : List V} (hz : valV kvs (Sum.inr z) = some (.ref q)) (hq : SqL X.K H q ys) (hroom : A.depth < recursionLimit)
    (hg : scope.names.lookup ("len" : Str) = some .globalImplicit) (hm : X.mg "len" = none)
    {h : Heap} {tk : Nat} (k : ∀ b o, s.heap.get? b = some o → h.get? b = some o) {t : Tok} (d1 : (d == ("__debug__" : Str)) = false) (d2 : (d == ("__classdict__" : Str)) = false) (y1 : (y == ("__debug__" : Str)) = false) :
    wpAny (model X.prog X.w) A (call (.ref f) [.str z t]) (PySem.W.KeyPure (.int ys.length) { s with heap := h, toks := tk }) (fun _ _ => False) { s with heap := h, toks := tk } := by
  obtain ⟨zz, lo, vs, rel, dd⟩ := dk_rd I.hok hd
  obtain ⟨its, r', pl, hzl⟩ := I.list hq
  have l' := l.at (tk := tk) k
  refine Nl.lam_call hroom (I.nolimit.keeps k) l'.ob l'.code (hb _ _ _ _ _ _) L.yl L.cell L.kind L.co L.gen fun Lo h₁ tk1 hns kp => ?_
  obtain ⟨c, hc, hcell⟩ := l'.cell
  obtain ⟨oo, ho, hdd⟩ := hcell
  obtain ⟨w', hw, rw'⟩ := RelO.some_of (v := V.ref q) (o := valueAt vs (Sum.inr z)) (by rw [← hz]; exact rel.val (Sum.inr z))
  cases rw'
  obtain ⟨mb, g1, g2⟩ := I.mod.blt
  have k2 : ∀ b o, s.heap.get? b = some o → h₁.get? b = some o := fun b o e => kp _ _ (k _ _ e)
  refine Call_ (Calls.Name_function_global L.kind hg (Calls.loadGlobal_builtin (mg := X.mg) ((I.mod.glob.keeps I.bk).keeps k2) hm ((g1.keeps I.bk).keeps k2) ((g2 "len" (by decide)).trans boot_len) ?_) (by decide))
  refine PyProof.Rows.callWith_builtin1 (PyProof.Rows.args_cons ?_ rfl) rfl rfl
  refine Nl.body_get (knd := mixKind X.prog X.w) (fm := valueAt vs) (kk := Sum.inr z) (u := .str z t) L.kind L.df hc ⟨oo, kp _ _ ho, hdd⟩ L.yl hns (by simp) (kV_is (k := Sum.inr z) ⟨t, rfl⟩) (dd.at fun o e => k2 _ _ e).mapOf hw (fun tk2 => ?_) d1 d2 y1
  refine PyProof.Rows.args_nil ?_
  have hlen := r'.length
  refine Calls.call_len_list (pl.isList.at fun o e => k2 _ _ e) (by rw [List.size_toArray, ← hlen]; have := line63; omega) ?_
  refine ⟨h₁, _, rfl, fun _ _ e => e, ?_⟩
  rw [List.size_toArray, ← hlen]
  exact .int _ _
end
end LamX
set_option Elab.async false
set_option linter.all false
set_option maxRecDepth 100000
set_option maxHeartbeats 2000000
namespace LamX
open PySem PySem.Spec PyProof.Rows L2
abbrev isS (v : Value) (k : Str) : Prop := ∃ t, v = Value.str k t
theorem vals_each : ∀ {ks : List Str} {us : List Value}, Vals (ks.map V.str) us → PySem.W.EachIs isS us ks
  | [], _, h => by cases h; exact .nil
  | k :: ks, _, h => by
    rw [List.map_cons] at h
    cases h with
    | cons r t => exact .cons r (vals_each t)
theorem each_vals : ∀ {ks : List Str} {us : List Value}, PySem.W.EachIs isS us ks → Vals (ks.map V.str) us
  | [], _, h => by cases h; exact .nil
  | k :: ks, _, h => by
    cases h with
    | cons r t => exact .cons r (each_vals t)
theorem ExtN.sqL {K : PySem.W.Frag} {H H' : Hp} {a : Addr} {xs : List V} (e : ExtN H H') (h : SqL K H a xs) : SqL K H' a xs := by
  rcases h with h | h
  · refine .inl ?_
    rcases h with h | ⟨o, h⟩
    · exact .inl (e _ _ h fun ps z => by cases z)
    · exact .inr ⟨o, e _ _ h fun ps z => by cases z⟩
  · exact .inr h
theorem ExtN.rd {H H' : Hp} {a : Addr} {kvs : List (Key × V)} (e : ExtN H H') (h : Rd H a (.dK kvs)) : Rd H' a (.dK kvs) := by
  rcases h with h | ⟨o, h⟩
  · exact .inl (e _ _ h fun ps z => by cases z)
  · exact .inr ⟨o, e _ _ h fun ps z => by cases z⟩
def tSortLen (K : PySem.W.Frag) (T : List (Addr × Str)) (i : Nat) (te : TE) : TE := fun σ H Q => te σ H fun x H1 => ∃ (l : Addr) (ks : List Str) (a : Addr) (kvs : List (Key × V)) (rows : Str → Nat), x = .ref l ∧ SqL K H1 l (ks.map V.str) ∧ σ[i]? = some (some (.ref a)) ∧ Rd H1 a (.dK kvs) ∧
  (∀ k ∈ ks, ∃ q ys, valV kvs (Sum.inr k) = some (.ref q) ∧ SqL K H1 q ys ∧ rows k = ys.length) ∧ ks.length ≤ 1000 ∧ Tabs T H1 ∧
  ∀ (H2 : Hp) (ks' : List Str) (p : Addr), ExtN H1 H2 → (∀ b, H1 b ≠ none → H2 b ≠ none) → Tabs T H2 → ks'.Perm ks → ks'.Pairwise (fun a b => rows a ≤ rows b) → H2 p = none → Q (.ref p) (upd H2 p (.lst (ks'.map V.str)))
def tMaxGet (K : PySem.W.Frag) (T : List (Addr × Str)) (i : Nat) (te : TE) : TE := fun σ H Q => te σ H fun x H1 => ∃ (l : Addr) (ks : List Str) (a : Addr) (kvs : List (Key × V)) (val : Str → Int), x = .ref l ∧ SqL K H1 l (ks.map V.str) ∧ σ[i]? = some (some (.ref a)) ∧ Rd H1 a (.dK kvs) ∧
  (∀ k ∈ ks, valV kvs (Sum.inr k) = some (.int (val k))) ∧ ks ≠ [] ∧ Tabs T H1 ∧
  ∀ (H2 : Hp) (k : Str), ExtN H1 H2 → (∀ b, H1 b ≠ none → H2 b ≠ none) → Tabs T H2 → k ∈ ks → (∀ k' ∈ ks, val k' ≤ val k) → Q (.str k) H2
section
variable {X : Cx} {T : List (Addr × Str)} {c P : Addr} {params : Arguments} {scope : Scope} {d y : Str} {e : Expr} {te : TE} {i : Nat} {p1 p2 p3 p4 p5 q1 lp kp pos : Pos}
structure LamC (X : Cx) (T : List (Addr × Str)) (c P : Addr) (params : Arguments) (scope : Scope) (d y : Str) (i : Nat) : Prop where
  TB : TabB X.base X.mg c P
  code : X.env.code = .ref c
  tab : (P, X.env.qual ++ "<lambda>") ∈ T
  un : ∀ p ∈ T, p.1 = P → p.2 = X.env.qual ++ "<lambda>"
  L : Lam1 X.env.scope scope d y
  dfl : defaultsOf params X.env = ([], [])
  N : X.N[i]? = some d
  d1 : (d == ("__debug__" : Str)) = false
  d2 : (d == ("__classdict__" : Str)) = false
  y1 : (y == ("__debug__" : Str)) = false
/-- the lambda is made ahead of the call -/
theorem lam_arg {body : Expr} (C : LamC X T c P params scope d y i) {pins : List (Addr × Obj)} {σ : L2.St} {H : Hp} {s : Shared} {a : Addr} (I : Inv X pins σ H s) (ha : σ[i]? = some (some (.ref a))) (hT : Tabs T H) {Q : List Value → Shared → Prop} {E : Value → Shared → Prop}
    (h : ∀ (f c' : Addr) (pm ctv : Value) (H1 : Hp) (s' : Shared), Inv X pins σ H1 s' → ExtN H H1 → (∀ b, H b ≠ none → H1 b ≠ none) → Tabs T H1 → Lamb X s' f c' (X.env.qual ++ "<lambda>") params body scope (cloFrom X.env.cells scope.names []) pm ctv d a → Q [.ref f] s') :
    wpAny (model X.prog X.w) X.A (evalAll ((backToKw pos (keywordEach [⟨some "key", .Lambda params body scope lp, kp⟩] X.env)).map (·.2))) Q E s := by
  show wpAny _ _ (evalAll ((do let v ← eval (.Lambda params body scope lp) X.env; standAt pos; pure v) :: (backToKw pos (keywordEach [] X.env)).map (·.2))) _ _ s
  obtain ⟨cc, hc, hcell⟩ := cell_of I C.N ha C.L.dc
  have hfree : ∀ y ∈ scope.names, y.2 = .free → ∃ c, X.env.cells.lookup y.1 = some c := fun z hz e => by
    rw [C.L.fr z hz e]
    exact ⟨cc, hc⟩
  refine wpAny_evalAll_cons (wpAny_bind (lam_make3 I C.TB C.code C.tab C.un hT C.dfl hfree fun f c' pm ctv H1 s' I1 e1 dm t1 ho hf hfr hco => wpAny_bind (wpAny_standAt (wpAny_pure (wpAny_evalAll_nil ?_)))))
  obtain ⟨⟨oc, vs, t, hoc, hdc, hvc⟩, _, _⟩ := I1.hok c' _ hco
  obtain ⟨c2, hc2, hcell2⟩ := cell_of I1 C.N ha C.L.dc
  exact h f c' pm ctv H1 s' I1 e1 dm t1 ⟨ho, ⟨c', oc, vs, t, rfl, hoc, hdc, hvc⟩, c2, clo_of C.L hc2, hcell2⟩
theorem pe_sortLen (C : LamC X T c P params scope d y i) (hc : X.calm = true) (hu : X.A.units + 10 < cLine) (hdp : X.A.depth < recursionLimit) (hb : bindLam params (.Call (.Name "len" p4) [.Subscript (.Name d p1) (.Name y p2) p3] [] p5) scope y) (hl : scope.names.lookup ("len" : Str) = some .globalImplicit) (hml : X.mg "len" = none)
    (hg : Gl X "sorted") (hm : X.mg "sorted" = none) (he : PE X e te)
    (hs : starEach [e] X.env = (false, eval e X.env) :: starEach [] X.env := by rfl) :
    PE X (.Call (.Name "sorted" q1) [e] [⟨some "key", .Lambda params (.Call (.Name "len" p4) [.Subscript (.Name d p1) (.Name y p2) p3] [] p5) scope lp, kp⟩] pos) (tSortLen X.K T i te) := by
  refine ⟨fun pins s σ H Q I h => ?_⟩
  refine wpAny_Call_Name_kw (ld_blt (u := .builtin "sorted") I hg hm (by decide +kernel) ?_ (by decide) (by decide))
  have hA : wpAny (model X.prog X.w) X.A (spliced (backTo pos (starEach [e] X.env))) (fun us s1 => ∃ v u H1, us = [u] ∧ Inv X pins σ H1 s1 ∧ RelV v u ∧ (fun x H1 => ∃ (l : Addr) (ks : List Str) (a : Addr) (kvs : List (Key × V)) (rows : Str → Nat), x = .ref l ∧ SqL X.K H1 l (ks.map V.str) ∧ σ[i]? = some (some (.ref a)) ∧ Rd H1 a (.dK kvs) ∧
      (∀ k ∈ ks, ∃ q ys, valV kvs (Sum.inr k) = some (.ref q) ∧ SqL X.K H1 q ys ∧ rows k = ys.length) ∧ ks.length ≤ 1000 ∧ Tabs T H1 ∧
      ∀ (H2 : Hp) (ks' : List Str) (p : Addr), ExtN H1 H2 → (∀ b, H1 b ≠ none → H2 b ≠ none) → Tabs T H2 → ks'.Perm ks → ks'.Pairwise (fun a b => rows a ≤ rows b) → H2 p = none → Q (.ref p) (upd H2 p (.lst (ks'.map V.str)))) v H1) X.xe s :=
    PyProof.Rows.args_cons (thn (he.run pins s σ H _ I h) fun v s1 ⟨x, H1, I1, r1, q1⟩ => PyProof.Rows.args_nil ⟨x, v, H1, rfl, I1, r1, q1⟩) hs
  refine PyProof.Rows.callWith_kw (thn hA fun us s1 ⟨x, u, H1, eu, I1, r1, q1⟩ => ?_) (by rw [hs]; rfl) (by rw [hs]; rfl) rfl rfl
  subst eu
  obtain ⟨l, ks, a, kvs, rows, rfl, hq, ha, hd, hrow, hz, hT, q⟩ := q1
  cases r1
  refine lam_arg C I1 ha hT fun f c' pm ctv H2 s2 I2 e2 dm t2 lam => ?_
  show wpAny _ _ (call (.builtin "sorted") [.ref l] [(Str.ofString "key", .ref f)]) _ _ s2
  obtain ⟨its, rv, pl, hzl⟩ := I2.list (e2.sqL hq)
  refine PySem.W.sorted_key_data (b := false) (R := isS) (bs := ks) (fun k => .int (rows k)) pl.isList (vals_each rv) (PySem.W.AllAlike.of fun _ _ => by simp [PySem.W.alike]) (PySem.W.Sortable.others fun b => ⟨by simp, by simp⟩) (Nat.le_of_lt (small1000 hz)) (fun z hz => ?_) (ksk_s1 _ _) (fun _ => ksk_l1 _ _) (fun _ => ksk_t1 _ _)
    (fun v k ⟨t, ev⟩ hk hh tk kp => ?_) fun out cc h' tk kp hn hD hlen eo => ?_
  · show X.A.units + 2 + 0 < cLine
    omega
  · subst ev
    obtain ⟨q0, ys, hv, hqy, er⟩ := hrow k hk
    have := key_len (A := X.A.in1.in1) I2 C.L hb lam (e2.rd hd) hv (e2.sqL hqy) hdp hl hml kp (t := t) (tk := tk) C.d1 C.d2 C.y1
    rw [er]
    exact this
  · rw [PySem.W.dataLe_int (β := Str) fun k => ((rows k : Nat) : Int)] at eo
    have rv' := each_vals eo
    have hp : (ks.mergeSort fun a b => decide (((rows a : Nat) : Int) ≤ ((rows b : Nat) : Int))).Perm ks := List.mergeSort_perm _ _
    have hso : (ks.mergeSort fun a b => decide (((rows a : Nat) : Int) ≤ ((rows b : Nat) : Int))).Pairwise (fun a b => rows a ≤ rows b) := by
      have := List.pairwise_mergeSort (le := fun a b => decide (((rows a : Nat) : Int) ≤ ((rows b : Nat) : Int))) (fun a b c => by simp; omega) (fun a b => by simp; omega) ks
      exact this.imp fun h => by simpa using h
    have hnone : H2 (s2.heap.objs.size + 1) = none := I2.hok.fresh (Nat.le_succ _)
    refine ⟨.ref (s2.heap.objs.size + 1), _, I2.laid (t' := tk) (o := .lst _) kp (Nat.le_succ _) ?_, rfl, q H2 _ (s2.heap.objs.size + 1) e2 dm t2 hp hso hnone⟩
    refine ⟨by rw [List.length_map, hp.length_eq]; exact Nat.le_of_lt (small1000 hz), out, cc, rv', hD⟩
theorem argBest_max (val : Nat → Int) : ∀ n j, j ≤ n → val j ≤ val (argBest (fun i j => decide (val j < val i)) n)
  | 0, j, h => by
    have : j = 0 := by omega
    subst this
    exact Int.le_refl _
  | n + 1, j, h => by
    show val j ≤ val (if decide (val (argBest (fun i j => decide (val j < val i)) n) < val (n + 1)) = true then n + 1 else argBest (fun i j => decide (val j < val i)) n)
    by_cases hc : val (argBest (fun i j => decide (val j < val i)) n) < val (n + 1)
    · rw [if_pos (by simpa using hc)]
      by_cases hj : j = n + 1
      · rw [hj]; exact Int.le_refl _
      · have := argBest_max val n j (by omega)
        omega
    · rw [if_neg (by simpa using hc)]
      by_cases hj : j = n + 1
      · rw [hj]; omega
      · exact argBest_max val n j (by omega)
theorem argBest_le (bt : Nat → Nat → Bool) : ∀ n, argBest bt n ≤ n
  | 0 => Nat.le_refl _
  | n + 1 => by
    show (if bt (n + 1) (argBest bt n) = true then n + 1 else argBest bt n) ≤ n + 1
    have := argBest_le bt n
    split <;> omega
theorem pe_maxGet (C : LamC X T c P params scope d y i) (hc : X.calm = true) (hu : X.A.units + 10 < cLine) (hdp : X.A.depth < recursionLimit) (hb : bindLam params (.Subscript (.Name d p1) (.Name y p2) p3) scope y)
    (hg : Gl X "max") (hm : X.mg "max" = none) (he : PE X e te)
    (hs : starEach [e] X.env = (false, eval e X.env) :: starEach [] X.env := by rfl) :
    PE X (.Call (.Name "max" q1) [e] [⟨some "key", .Lambda params (.Subscript (.Name d p1) (.Name y p2) p3) scope lp, kp⟩] pos) (tMaxGet X.K T i te) := by
  refine ⟨fun pins s σ H Q I h => ?_⟩
  refine wpAny_Call_Name_kw (ld_blt (u := .builtin "max") I hg hm (by decide +kernel) ?_ (by decide) (by decide))
  have hA : wpAny (model X.prog X.w) X.A (spliced (backTo pos (starEach [e] X.env))) (fun us s1 => ∃ v u H1, us = [u] ∧ Inv X pins σ H1 s1 ∧ RelV v u ∧ (fun x H1 => ∃ (l : Addr) (ks : List Str) (a : Addr) (kvs : List (Key × V)) (val : Str → Int), x = .ref l ∧ SqL X.K H1 l (ks.map V.str) ∧ σ[i]? = some (some (.ref a)) ∧ Rd H1 a (.dK kvs) ∧
      (∀ k ∈ ks, valV kvs (Sum.inr k) = some (.int (val k))) ∧ ks ≠ [] ∧ Tabs T H1 ∧
      ∀ (H2 : Hp) (k : Str), ExtN H1 H2 → (∀ b, H1 b ≠ none → H2 b ≠ none) → Tabs T H2 → k ∈ ks → (∀ k' ∈ ks, val k' ≤ val k) → Q (.str k) H2) v H1) X.xe s :=
    PyProof.Rows.args_cons (thn (he.run pins s σ H _ I h) fun v s1 ⟨x, H1, I1, r1, q1⟩ => PyProof.Rows.args_nil ⟨x, v, H1, rfl, I1, r1, q1⟩) hs
  refine PyProof.Rows.callWith_kw (thn hA fun us s1 ⟨x, u, H1, eu, I1, r1, q1⟩ => ?_) (by rw [hs]; rfl) (by rw [hs]; rfl) rfl rfl
  subst eu
  obtain ⟨l, ks, a, kvs, val, rfl, hq, ha, hd, hval, hne, hT, q⟩ := q1
  cases r1
  refine lam_arg C I1 ha hT fun f c' pm ctv H2 s2 I2 e2 dm t2 lam => ?_
  show wpAny _ _ (call (.builtin "max") [.ref l] [(Str.ofString "key", .ref f)]) _ _ s2
  obtain ⟨its, rv, pl, hzl⟩ := I2.list (e2.sqL hq)
  have hlen : ks.length = its.length := by have := rv.length; simpa using this
  have hh : X.A.in1.handled = none := I2.ok.hd hc
  have hat : ∀ (j : Nat) (v : Value), its[j]? = some v → ∃ k t, ks[j]? = some k ∧ v = .str k t := fun j v e => by
    have hj : j < ks.length := by rw [hlen]; exact (List.getElem?_eq_some_iff.mp e).1
    obtain ⟨u, hu', ru⟩ := rv.get (show (ks.map V.str)[j]? = some (.str ks[j]) by rw [List.getElem?_map, List.getElem?_eq_getElem hj]; rfl)
    rw [e] at hu'
    obtain ⟨t, et⟩ := ru
    exact ⟨ks[j], t, List.getElem?_eq_getElem hj, by rw [Option.some.inj hu', et]⟩
  have hpos : 0 < its.length := by rw [← hlen]; exact List.length_pos_iff.mpr hne
  refine call_max_walkK (PySem.W.iter_listW (A := X.A.in1) hh pl.isList fun s3 e3 W st hfp hw hk => ?_)
  let vf : Nat → Int := fun j => match ks[j]? with | some k => val k | none => 0
  refine ⟨_, _, _, _, its.toArray.size, _, _, (fun s' => ∃ h' tk, s' = { s2 with heap := h', toks := tk } ∧ ∀ b o, s2.heap.get? b = some o → h'.get? b = some o), (fun j k _ => ∃ t, k = .int (vf j) t), (fun i j => decide (vf j < vf i)), rfl, W, st, hfp, by rw [List.size_toArray]; exact hpos, ⟨fun s4 s5 ⟨h', tk, e4, k4⟩ m => ?_, fun i k s4 s5 hv m => hv, fun j v s4 o Q4 E4 hj hP ⟨h', tk, e4, k4⟩ hst hS hQ => ?_, fun i j ki kj s4 Q4 E4 _ ⟨t, e1⟩ ⟨t', e2⟩ hQ => ?_⟩, ⟨_, _, e3, fun b o e => Heap.get?_push_of_some _ e⟩, fun v s4 hP ⟨h', tk, e4, k4⟩ => ?_⟩
  · subst e4
    obtain ⟨hp5, g5, d5, t5, o5⟩ := s5
    have h1 : g5 = s2.gens := m.gens
    have h2 : d5 = s2.drawn := m.drawn
    have h3 : o5 = s2.os := m.os
    subst h1 h2 h3
    refine ⟨hp5, t5, rfl, fun b ob eb => m.heap b ob (fun hb => ?_) (k4 b ob eb)⟩
    have hlt := Heap.lt_size eb
    rw [e3] at hb
    rcases List.mem_cons.mp hb with z | z
    · rw [z] at hlt
      have : s2.heap.objs.size ≤ (s2.heap.push { cls := .type "list_iterator", data := .fields #[.ref l, .int 0 0] }).objs.size := by rw [Heap.size_push]; exact Nat.le_succ _
      exact Nat.lt_irrefl _ (Nat.lt_of_lt_of_le hlt this)
    · rw [List.mem_singleton.mp z] at hlt
      exact Nat.lt_irrefl _ hlt
  · subst e4
    obtain ⟨k, t, hk', rfl⟩ := hat j v (by rw [← Array.getElem?_toList] at hP; exact hP)
    have hmem : k ∈ ks := List.mem_of_getElem? hk'
    have := key_get (A := X.A.in1) I2 C.L hb lam (e2.rd hd) (hval k hmem) hdp k4 (t := t) (tk := tk) C.d1 C.d2 C.y1
    refine wpAny_mono this (fun r s5 hr => ?_) fun _ _ e => e.elim
    obtain ⟨h5, tk5, rfl, k5, rr⟩ := hr
    cases rr
    have ev : vf j = val k := by show (match ks[j]? with | some k => val k | none => 0) = val k; rw [hk']
    exact hQ _ _ ⟨h5, tk5, rfl, fun b o e => k5 b o (k4 b o e)⟩ ⟨hst.1.at fun o e => k5 _ _ e, hst.2.at fun o e => k5 _ _ e⟩ (k5 _ _ hS) ⟨_, congrArg (fun n => Value.int n _) ev.symm⟩ fun _ _ z => z
  · subst e1 e2
    show wpAny _ _ (compareOp .Gt (.int (vf i) t) (.int (vf j) t')) _ _ _
    exact PyProof.Rows.gt_int hQ
  · subst e4
    obtain ⟨k, t, hk', rfl⟩ := hat _ v (by rw [← Array.getElem?_toList] at hP; exact hP)
    have hmem : k ∈ ks := List.mem_of_getElem? hk'
    refine ⟨.str k, H2, I2.kept (t' := tk) k4, ⟨t, rfl⟩, q H2 k e2 dm t2 hmem fun k2 hk2 => ?_⟩
    obtain ⟨j2, hj2, ej2⟩ := List.mem_iff_getElem.mp hk2
    have hle : j2 ≤ its.toArray.size - 1 := by rw [List.size_toArray, ← hlen]; omega
    have hmax := argBest_max vf (its.toArray.size - 1) j2 hle
    have v1 : vf j2 = val k2 := by show (match ks[j2]? with | some k => val k | none => 0) = val k2; rw [List.getElem?_eq_getElem hj2, ej2]
    have v2 : vf (argBest (fun i j => decide (vf j < vf i)) (its.toArray.size - 1)) = val k := by
      show (match ks[argBest (fun i j => decide (vf j < vf i)) (its.toArray.size - 1)]? with | some k => val k | none => 0) = val k
      rw [hk']
    rw [v1, v2] at hmax
    exact hmax
end
end LamX
set_option Elab.async false
set_option linter.all false
set_option maxRecDepth 100000
set_option maxHeartbeats 2000000
namespace L2
open PySem PySem.Spec PyProof.Rows
/-- max(xs, default=k), xs a list of ints -/
def tMaxD (K : PySem.W.Frag) (te td : TE) : TE := fun σ H Q => te σ H fun x H1 => td σ H1 fun z H2 => ∃ (l : Addr) (ns : List Int), x = .ref l ∧ SqL K H2 l (ns.map V.int) ∧ (ns = [] → Q z H2) ∧ ∀ m, m ∈ ns → (∀ n ∈ ns, n ≤ m) → Q (.int m) H2
theorem maxD_int (x : Int) : ∀ xs : List Int, ∃ m, PySem.W.maxD (.int x) (xs.map PyData.int) = .int m ∧ m ∈ x :: xs ∧ ∀ n ∈ x :: xs, n ≤ m := by
  intro xs
  induction xs generalizing x with
  | nil => exact ⟨x, rfl, by simp, by simp⟩
  | cons y ys ih =>
    have e : PySem.W.maxD (.int x) ((y :: ys).map PyData.int) = PySem.W.maxD (.int (if x < y then y else x)) (ys.map PyData.int) := by
      unfold PySem.W.maxD
      rw [List.map_cons, List.foldl_cons]
      rw [PySem.W.dataLt_int]
      by_cases h : x < y
      · simp [h]
      · simp [h]
    obtain ⟨m, h1, h2, h3⟩ := ih (if x < y then y else x)
    refine ⟨m, by rw [e, h1], ?_, fun n hn => ?_⟩
    · by_cases h : x < y
      · rw [if_pos h] at h2
        exact List.mem_cons_of_mem _ h2
      · rw [if_neg h] at h2
        rcases List.mem_cons.mp h2 with z | z
        · rw [z]; simp
        · simp [z]
    · have h4 := h3 (if x < y then y else x) (by simp)
      rcases List.mem_cons.mp hn with z | z
      · rw [z]
        by_cases h : x < y
        · rw [if_pos h] at h4; omega
        · rw [if_neg h] at h4; exact h4
      · rcases List.mem_cons.mp z with z | z
        · rw [z]
          by_cases h : x < y
          · rw [if_pos h] at h4; exact h4
          · rw [if_neg h] at h4; omega
        · exact h3 n (List.mem_cons_of_mem _ z)
section
variable {X : Cx} {e z : Expr} {te td : TE} {q1 kp pos : Pos}
theorem pe_maxD (hc : X.calm = true) (hu : X.A.units + 10 < cLine) (hg : Gl X "max") (hm : X.mg "max" = none) (he : PE X e te) (hz : PE X z td) (hs : starEach [e] X.env = (false, eval e X.env) :: starEach [] X.env := by rfl) :
    PE X (.Call (.Name "max" q1) [e] [⟨some "default", z, kp⟩] pos) (tMaxD X.K te td) := by
  refine ⟨fun pins s σ H Q I h => ?_⟩
  refine wpAny_Call_Name_kw (ld_blt (u := .builtin "max") I hg hm (by decide +kernel) ?_ (by decide) (by decide))
  have hA : wpAny (model X.prog X.w) X.A (spliced (backTo pos (starEach [e] X.env))) (fun us s1 => ∃ v u H1, us = [u] ∧ Inv X pins σ H1 s1 ∧ RelV v u ∧ (fun x H1 => td σ H1 fun z H2 => ∃ (l : Addr) (ns : List Int), x = .ref l ∧ SqL X.K H2 l (ns.map V.int) ∧ (ns = [] → Q z H2) ∧ ∀ m, m ∈ ns → (∀ n ∈ ns, n ≤ m) → Q (.int m) H2) v H1) X.xe s :=
    PyProof.Rows.args_cons (thn (he.run pins s σ H _ I h) fun v s1 ⟨x, H1, I1, r1, q1⟩ => PyProof.Rows.args_nil ⟨x, v, H1, rfl, I1, r1, q1⟩) hs
  refine PyProof.Rows.callWith_kw (thn hA fun us s1 ⟨x, u, H1, eu, I1, r1, q1⟩ => ?_) (by rw [hs]; rfl) (by rw [hs]; rfl) rfl rfl
  subst eu
  show wpAny _ _ (evalAll ((do let v ← eval z X.env; standAt pos; pure v) :: (backToKw pos (keywordEach [] X.env)).map (·.2))) _ _ s1
  refine wpAny_evalAll_cons (wpAny_bind (thn (hz.run pins s1 σ H1 _ I1 q1) fun dv s2 ⟨y, H2, I2, r2, l, ns, ex, hq, q0, qm⟩ => wpAny_bind (wpAny_standAt (wpAny_pure (wpAny_evalAll_nil ?_)))))
  subst ex
  cases r1
  show wpAny _ _ (call (.builtin "max") [.ref l] [(Str.ofString "default", dv)]) _ _ s2
  have hd : Dp X.K H2 (.ref l) (.list (ns.map PyData.int)) := by
    refine .lst hq ?_
    clear q0 qm hq
    induction ns with
    | nil => exact .nil
    | cons n ns ih => exact .cons (.int n) ih
  obtain ⟨as, hr⟩ := Dp.reads I2 _ _ _ hd (show RelV (.ref l) (.ref l) from rfl)
  cases hr with
  | @list _ oo vs nn _ as' h1 h2 h3 h4 =>
    have hl : s2.heap.IsList l vs := ⟨_, h1, h2, _, h3⟩
    have hdep : PyData.depthAll (ns.map PyData.int) = 0 := by
      clear q0 qm hq hd h4
      induction ns with
      | nil => rfl
      | cons n ns ih => simp [PyData.depthAll, PyData.depth, ih]
    refine PySem.W.max_list_default (I2.ok.hd hc) hl h4 ⟨fun a ha b hb => ?_, fun a ha => ?_⟩ (by rw [hdep]; omega) (fun e0 h' tk kp => ?_) (fun y0 ys j v h' tk bs e0 hv hrd kp => ?_)
    · obtain ⟨n1, _, rfl⟩ := List.mem_map.mp ha
      obtain ⟨n2, _, rfl⟩ := List.mem_map.mp hb
      simp [PySem.W.alike]
    · obtain ⟨n1, _, rfl⟩ := List.mem_map.mp ha
      simp
    · have : ns = [] := List.map_eq_nil_iff.mp e0
      exact ⟨y, H2, I2.kept (t' := tk) kp, r2, q0 this⟩
    · cases ns with
      | nil => cases e0
      | cons n ns =>
        rw [List.map_cons] at e0
        injection e0 with e1 e2
        subst e1 e2
        obtain ⟨m, em, h5, h6⟩ := maxD_int n ns
        rw [em] at hrd
        cases hrd
        exact ⟨.int m, H2, I2.kept (t' := tk) kp, ⟨_, rfl⟩, qm m h5 h6⟩
end
end L2
/-! sorted, max by a key; max with a default -/
namespace Nb
open PySem PySem.Spec PyProof.Rows L2
section
variable {E : EC} {g : Glob} {B Bo B' : Addr → Prop} {δ : Ds} {γ : Gh} {σ : L2.St} {H H' H2 : Hp} {v : V} {r : Ent} {x y d : D} {e a b c : Expr} {pos p : Pos}
theorem evp_maxD {l : List Int} {z : Expr} {n : Int} {kp : Pos} (ha : EV E e δ (.d (.lst (l.map D.int)))) (hz : EV E z δ (.d (.int n))) (hg : GlS E.sc "max") (hm : E.mg "max" = none) (hs : ∀ env, starEach [e] env = (false, eval e env) :: starEach [] env := by intro _; rfl) :
    EVP E (.Call (.Name "max" p) [e] [⟨some "default", z, kp⟩] pos) δ (fun r => ∃ m, r = .d (.int m) ∧ ((l = [] ∧ m = n) ∨ (m ∈ l ∧ ∀ k ∈ l, k ≤ m))) := fun B γ σ H er Q q =>
  we_of (t := tMaxD E.K (WE (Fam E) e) (WE (Fam E) z)) (fun X hX => by rw [← hX.K]; exact pe_maxD hX.calm (by have := hX.room.un; omega) (gl_of hX hg) (by rw [hX.mg]; exact hm) (we_pe hX) (we_pe hX) (hs _)) (ha B γ σ H er _ fun v H1 l1 rv => hz B γ σ H1 (er.step l1) _ fun w H2 l2 rw' => by
    obtain ⟨p, vs, rfl, _, h1, h2⟩ := re_lst (rv.step l2 er.cb)
    rw [reps_int] at h2
    subst h2
    rw [re_int] at rw'
    subst rw'
    exact ⟨p, l, rfl, .inl (.inl h1), fun e0 => q (.d (.int n)) _ H2 ⟨n, rfl, .inl ⟨e0, rfl⟩⟩ (l1.trans l2) (re_int.mpr rfl), fun m hm hmax => q (.d (.int m)) _ H2 ⟨m, rfl, .inr ⟨hm, hmax⟩⟩ (l1.trans l2) (re_int.mpr rfl)⟩)
/-- what a lambda as key asks -/
structure LamE (E : EC) (c P : Addr) (qual : Str) (params : Arguments) (scope : Scope) (d y : Str) (i : Nat) : Prop where
  lam : E.lam = some (c, qual)
  TB : LamX.TabB E.base E.mg c P
  tab : (P, qual ++ "<lambda>") ∈ E.T
  un : ∀ p ∈ E.T, p.1 = P → p.2 = qual ++ "<lambda>"
  L : LamX.Lam1 E.sc scope d y
  dfl : ∀ env, defaultsOf params env = ([], [])
  N : E.N[i]? = some d
  d1 : (d == ("__debug__" : Str)) = false
  d2 : (d == ("__classdict__" : Str)) = false
  y1 : (y == ("__debug__" : Str)) = false
theorem LamE.at {c P : Addr} {qual : Str} {params : Arguments} {scope : Scope} {d y : Str} {i : Nat} (C : LamE E c P qual params scope d y i) {X : Cx} (hX : Fam E X) : LamX.LamC X E.T c P params scope d y i := by
  obtain ⟨h1, h2⟩ := hX.lam _ C.lam
  exact ⟨by rw [hX.base, hX.mg]; exact C.TB, h1, by rw [h2]; exact C.tab, by rw [h2]; exact C.un, by rw [hX.sc]; exact C.L, C.dfl _, by rw [hX.N]; exact C.N, C.d1, C.d2, C.y1⟩
theorem le_ext (e : LamX.ExtN H H2) (dm : ∀ b, H b ≠ none → H2 b ≠ none) (t : LamX.Tabs E.T H2) : LeC E H H2 :=
  ⟨fun a o _ h n => e a o h n, dm, fun _ => t, fun a _ ⟨x, y, z, h⟩ => ⟨x, y, z, e _ _ h fun ps q => by cases q⟩⟩
section
variable {c P : Addr} {qual : Str} {params : Arguments} {scope : Scope} {dn y : Str} {i : Nat} {p1 p2 p3 p4 p5 lp kp : Pos}
theorem evp_sortLen {ks dk : List Str} {dl : List D} {x : D} (rows : Str → List D) (C : LamE E c P qual params scope dn y i) (hb : LamX.bindLam params (.Call (.Name "len" p4) [.Subscript (.Name dn p1) (.Name y p2) p3] [] p5) scope y) (hl : scope.names.lookup ("len" : Str) = some .globalImplicit) (hml : E.mg "len" = none) (hg : GlS E.sc "sorted") (hm : E.mg "sorted" = none)
    (ha : EV E e δ (.wk (.lst (ks.map D.str)))) (hδ : δ[i]? = some (some (.d (.dct dk dl)))) (hrow : ∀ k ∈ ks, lookD dk dl k = some (.lst (rows k))) (hz : ks.length ≤ 1000)
    (hs : ∀ env, starEach [e] env = (false, eval e env) :: starEach [] env := by intro _; rfl) :
    EVP E (.Call (.Name "sorted" p) [e] [⟨some "key", .Lambda params (.Call (.Name "len" p4) [.Subscript (.Name dn p1) (.Name y p2) p3] [] p5) scope lp, kp⟩] pos) δ (fun r => ∃ ks' : List Str, r = .d (.lst (ks'.map D.str)) ∧ ks'.Perm ks ∧ ks'.Pairwise (fun a b => (rows a).length ≤ (rows b).length)) := fun B γ σ H er Q q =>
  we_of (t := LamX.tSortLen E.K E.T i (WE (Fam E) e)) (fun X hX => by rw [← hX.K]; exact LamX.pe_sortLen (C.at hX) hX.calm (by have := hX.room.un; omega) (by have := hX.room.dp; omega) hb hl (by rw [hX.mg]; exact hml) (gl_of hX hg) (by rw [hX.mg]; exact hm) (we_pe hX) (hs _)) (ha B γ σ H er _ fun v H1 l1 rv => by
    have er1 := er.step l1
    obtain ⟨pl, vs, rfl, nC, h1, h2⟩ := wk_lst rv
    rw [reps_str] at h2
    subst h2
    obtain ⟨w, hw, rw'⟩ := er1.at_ i _ hδ
    simp only [RE, Rep] at rw'
    obtain ⟨a, ws, rfl, nB, hlen, hrd, hrs⟩ := rw'
    refine ⟨pl, ks, a, _, fun k => (rows k).length, rfl, .inl (.inl h1), hw, hrd, fun k hk => ?_, hz, er1.tabs, fun H2 ks' pp e2 dm t2 hp hso hn => ?_⟩
    · obtain ⟨u, hu, ru⟩ := look_some hrs (hrow k hk)
      simp only [Rep] at ru
      obtain ⟨qa, us, rfl, _, hq, hus⟩ := ru
      exact ⟨qa, us, hu, .inl (.inl hq), hus.len⟩
    · have l2 := le_ext (E := E) e2 dm t2
      exact q (.d (.lst (ks'.map D.str))) _ _ ⟨ks', rfl, hp, hso⟩ ((l1.trans l2).trans (LeC.new hn)) (re_newL (er1.step l2).dom hn er.cb (reps_str.mpr rfl)))
theorem evp_maxGet {ks dk : List Str} {dl : List D} {x : D} (val : Str → Int) (C : LamE E c P qual params scope dn y i) (hb : LamX.bindLam params (.Subscript (.Name dn p1) (.Name y p2) p3) scope y) (hg : GlS E.sc "max") (hm : E.mg "max" = none)
    (ha : EV E e δ (.wk (.lst (ks.map D.str)))) (hδ : δ[i]? = some (some (.d (.dct dk dl)))) (hval : ∀ k ∈ ks, lookD dk dl k = some (.int (val k))) (hne : ks ≠ [])
    (hs : ∀ env, starEach [e] env = (false, eval e env) :: starEach [] env := by intro _; rfl) :
    EVP E (.Call (.Name "max" p) [e] [⟨some "key", .Lambda params (.Subscript (.Name dn p1) (.Name y p2) p3) scope lp, kp⟩] pos) δ (fun r => ∃ k : Str, r = .d (.str k) ∧ k ∈ ks ∧ ∀ k' ∈ ks, val k' ≤ val k) := fun B γ σ H er Q q =>
  we_of (t := LamX.tMaxGet E.K E.T i (WE (Fam E) e)) (fun X hX => by rw [← hX.K]; exact LamX.pe_maxGet (C.at hX) hX.calm (by have := hX.room.un; omega) (by have := hX.room.dp; omega) hb (gl_of hX hg) (by rw [hX.mg]; exact hm) (we_pe hX) (hs _)) (ha B γ σ H er _ fun v H1 l1 rv => by
    have er1 := er.step l1
    obtain ⟨pl, vs, rfl, nC, h1, h2⟩ := wk_lst rv
    rw [reps_str] at h2
    subst h2
    obtain ⟨w, hw, rw'⟩ := er1.at_ i _ hδ
    simp only [RE, Rep] at rw'
    obtain ⟨a, ws, rfl, nB, hlen, hrd, hrs⟩ := rw'
    refine ⟨pl, ks, a, _, val, rfl, .inl (.inl h1), hw, hrd, fun k hk => ?_, hne, er1.tabs, fun H2 k e2 dm t2 hk hmax => ?_⟩
    · obtain ⟨u, hu, ru⟩ := look_some hrs (hval k hk)
      simp only [Rep] at ru
      rw [hu, ru]
    · have l2 := le_ext (E := E) e2 dm t2
      exact q (.d (.str k)) _ _ ⟨k, rfl, hk, hmax⟩ (l1.trans l2) (re_str.mpr rfl))
end
end
/-- a def whose code object is known, entered -/
structure FunC (K : PySem.W.Frag) (x qual : Str) (params : Arguments) (body : List Stmt) (scope : Scope) (f : Addr) (fd : FuncData) (c : Addr) : Prop where
  ex : ∃ (oc : Value) (od : Option Addr) (kV doc pm : Value) (an : Option Addr) (ct : Value) (osl : Array (Option Value)), fd = PySem.W.fnOf x qual params body scope .none kV doc pm an (.ref c) ct ∧ K.lookup f = some ⟨oc, od, .func fd, osl⟩ ∧ PySem.W.codeIn K (.ref c) qual = true
section
variable {g : Glob} {α : Type} {args : α → List D} {pre : α → Prop} {post : α → D → Prop} {k : Nat} {N ps : List Str} {st : Stmt} {x qual : Str} {f : Addr} {fd : FuncData} {c : Addr}
theorem fam_ofL {P : Program} {w : World} {K : PySem.W.Frag} {mg : Str → Option Value} {base : Heap} {T : List (Addr × Str)} {cl : Str → Addr} {sc : Scope} {A : Around} {outer : List Env} {s : Shared} {H : Hp} {Ex : XK} {B0 W C : Addr → Prop} {H0 : Hp}
    (hd : N.Nodup) (hr : Room k (A.deeper (envOfC qual sc s.heap.objs.size f (.ref c)))) : Fam (Glob.EL ⟨P, w, K, mg, base, T, cl⟩ (c, qual ++ ".<locals>.") k N sc B0 W C H0) (cxOf CX0 P w K mg base N qual sc f (.ref c) A outer s H Ex).nox :=
  ⟨rfl, rfl, rfl, rfl, rfl, rfl, hd, rfl, hr, rfl, rfl, rfl, fun z h => by cases h; exact ⟨rfl, rfl⟩⟩
theorem ok_PL (F : FunC g.K x qual (defArgs st) (defBody st) (defScope st) f fd c) (S : FnScope N ps (defScope st)) (hl : ∀ a, (args a).length = ps.length) (hN : ps.length ≤ N.length)
    (body : ∀ (B0 : Addr → Prop) (H0 : Hp) (a : α), pre a → SV (g.EL (c, qual ++ ".<locals>.") k N (defScope st) B0 no no H0) B0 B0 (defBody st) (slots (args a) (N.length - ps.length)) { rt := post a, nx := fun _ => post a .non }) :
    FnOk g.P g.w g.K g.mg g.base CX0 (k + 1) f fd ps (spP g args pre post) := by
  obtain ⟨oc, od, kV, doc, pm, an, ct, osl, rfl, lk, hcd⟩ := F.ex
  refine fn_of lk hcd S (fun vs H Q E h => ?_) (fun A outer s H vs Q E hr h => ?_)
  · obtain ⟨B, a, _, _, r, _⟩ := h
    rw [← r.len, hl]
  · obtain ⟨B, a, dom, tb, r, hp, q⟩ := h
    refine ⟨_, PSs.nox (wss_pss (fam_ofL (T := g.T) (cl := g.cl) (B0 := B) (W := no) (C := no) (H0 := H) S.nd hr)), ?_⟩
    refine body B H a hp ⟨[], []⟩ _ H ⟨Le.refl, dom, fun a h => h, fun _ h => h.elim, fun _ h => h.elim, tb, ?_, ?_, fun p hp => by simp at hp, fun q hq => by simp at hq⟩ _ ⟨fun δ σ H' er h => q .non .non H' er.le (by simp [Rep]) h, fun d v H' l rv h => q v d H' l rv h, fun _ _ _ _ h => h.elim, fun _ _ _ _ h => h.elim⟩
    · have e : L2.start N vs = vs.map some ++ List.replicate (N.length - ps.length) none := by unfold L2.start; rw [← r.len, hl]
      rw [e]
      exact slots_at r
    · unfold slots L2.start
      have := r.len
      have := hl a
      simp
      omega
end
theorem of_EL {g : Glob} {lam : Addr × Str} {k : Nat} {N : List Str} {sc : Scope} {B0 W C : Addr → Prop} {H0 : Hp} : Of (g.EL lam k N sc B0 W C H0) g := ⟨rfl, rfl, rfl, rfl, rfl, rfl, rfl⟩
end Nb
set_option Elab.async false
set_option linter.all false
set_option maxRecDepth 100000
/-! len(set(xs)), xs a list of different texts -/
namespace SS
open PySem PySem.Spec PyProof.Rows
section
variable {prog : Program} {w : World} {A : Around} {R : Result → Shared → Prop} {I : Addr} {fp wr : List Addr} {G : Array GenState → Array GenState → Prop} {n : Nat} {P : Nat → Value → Prop} {St : Nat → Shared → Prop}
theorem loopStrN (W : WalksS prog w A.in1 I fp wr G n P St) (S : Addr) (hSf : S ∉ fp) (xs : List Str) (hsz : xs.length = n) (hn1 : n ≤ 1000) (nd : xs.Nodup)
    (hval : ∀ i v, P i v → ∃ t, v = .str (xs.getD i Str.empty) t) :
    ∀ (k i : Nat) (s : Shared), n - i = k → i ≤ n → St i s →
      s.heap.SetOf (PySem.strKind prog w) S (fun k' => (xs.take i).any (· == k')) i →
      (∀ s', Moved (S :: wr) G s s' → s'.heap.SetOf (PySem.strKind prog w) S (fun k' => (xs.take n).any (· == k')) n → R (.ok (.ret .none)) s') →
      codeAny (model prog w) A (.builtin "set.update.loop" ⟨[.ref S, .ref I], []⟩) R s := by
  have hSw : S ∉ wr := fun h => hSf (W.sub _ h)
  have hsub : ∀ b ∈ wr, b ∈ S :: wr := fun b hb => List.mem_cons_of_mem _ hb
  intro k
  induction k with
  | zero =>
    intro i s hk hi hst hS hR
    have hin : i = n := by omega
    subst hin
    refine codeAny_builtin PyProof.Rows.F.entry_set_update_loop ?_
    rw [Around.under_plainId PyProof.Rows.F.plain_set_update_loop _]
    show wpAny _ A.in1 (pyNext (.ref I) >>= _) _ _ s
    refine wpAny_bind (W.done s _ _ hst fun s' hm => ?_)
    show wpAny _ A.in1 (ret Value.none) _ _ s'
    exact wpAny_pure (hR s' (hm.mono hsub) (by
      obtain ⟨o, es, ep, t, ho, rest⟩ := hS
      exact ⟨o, es, ep, t, hm.heap S _ hSw ho, rest⟩))
  | succ k ih =>
    intro i s hk hi hst hS hR
    have hlt : i < n := by omega
    refine codeAny_builtin PyProof.Rows.F.entry_set_update_loop ?_
    rw [Around.under_plainId PyProof.Rows.F.plain_set_update_loop _]
    show wpAny _ A.in1 (pyNext (.ref I) >>= _) _ _ s
    refine wpAny_bind (W.item i s _ _ hlt hst fun v s' hP hst' hm => ?_)
    obtain ⟨t, rfl⟩ := hval i v hP
    have hS' : s'.heap.SetOf (PySem.strKind prog w) S (fun k' => (xs.take i).any (· == k')) i := by
      obtain ⟨o, es, ep, tb, ho, rest⟩ := hS
      exact ⟨o, es, ep, tb, hm.heap S _ hSw ho, rest⟩
    show wpAny _ A.in1 (holding [Value.str (xs.getD i Str.empty) t] (setAdd S (.str (xs.getD i Str.empty) t)) >>= _) _ _ s'
    refine wpAny_bind (wpAny_holding ?_)
    unfold setAdd
    refine wpAny_holding ?_
    refine wpAny_bind ((PySem.strKind prog w).pyHash (k := xs.getD i Str.empty) (strKind_is _ _ _ _) ?_)
    refine wpAny_setAddHashed_of (knd := PySem.strKind prog w) (s := { s' with toks := s'.toks + 1 }) (strKind_is _ _ _ _) rfl hS' (by unfold scanBound; omega) fun h' hsb hS2 => ?_
    have hSi : h'.SetOf (PySem.strKind prog w) S (fun k' => (xs.take (i + 1)).any (· == k')) (i + 1) := by
      have hlx : i < xs.length := by omega
      have hget : xs.getD i Str.empty = xs[i] := by simp [hlx]
      have hnew : ((xs.take i).any (· == xs[i])) = false := by
        rw [List.any_eq_false]
        intro z hz e
        obtain ⟨j, hj, ej⟩ := List.mem_iff_getElem.mp hz
        rw [List.length_take] at hj
        rw [List.getElem_take] at ej
        have e2 : z = xs[i] := by simpa using e
        rw [← ej] at e2
        have := (List.getElem_inj nd).mp e2
        omega
      refine SetOf_congr hS2 (fun k' => ?_) (by rw [hget]; show (if ((xs.take i).any (· == xs[i])) = true then i else i + 1) = i + 1; rw [hnew]; simp)
      show ((xs.take i).any (· == k') || decide (k' = xs.getD i Str.empty)) = (xs.take (i + 1)).any (· == k')
      rw [List.take_succ, List.any_append, hget, List.getElem?_eq_getElem hlx]
      by_cases e : k' = xs[i]
      · subst e; simp
      · have hb : (xs[i] == k') = false := by simpa [beq_iff_eq] using (fun h' : xs[i] = k' => e h'.symm)
        simp [hb, e]
    refine wpAny_pure ⟨plainId_quiet PyProof.Rows.F.plain_set_update_loop _, ih (i + 1) _ (by omega) hlt (W.frame _ s' _ _ hst' (Nat.le_succ _) fun b hb o e => ?_) hSi fun s'' hm'' hS'' => ?_⟩
    · rw [hsb.2 b (fun h : b = S => hSf (by rw [← h]; exact hb))]; exact e
    · refine hR s'' (Moved.trans W.gtrans ((hm.mono hsub).then_heap (Nat.le_succ _) fun b o hb e => ?_) hm'') hS''
      rw [hsb.2 b (fun h : b = S => hb (by rw [h]; exact List.mem_cons_self))]; exact e
end

section
variable {prog : Program} {w : World} {A : Around} {E : Value → Shared → Prop} {s : Shared}
set_option maxHeartbeats 3200000 in
theorem call_set_listN {l : Addr} {items : Array Value} {xs : List Str} {Q : Value → Shared → Prop}
    (hh : A.handled = none) (hl : s.heap.IsList l items) (hi : PyProof.Rows.StrsAre items.toList xs) (hn1 : xs.length ≤ 1000) (nd : xs.Nodup)
    (h : ∀ (h' : Heap) (tk : Nat), h'.SetOf (PySem.strKind prog w) s.heap.objs.size (fun k' => (xs.take items.size).any (· == k')) items.size →
      (∀ b o, b < s.heap.objs.size → s.heap.get? b = some o → h'.get? b = some o) → Q (.ref s.heap.objs.size) { s with heap := h', toks := tk }) :
    wpAny (model prog w) A (call (.type "set") [.ref l]) Q E s := by
  obtain ⟨c, tl, hmro⟩ := PySem.F.called_set.mro
  have hmade := PySem.F.called_set.made
  have hsub := PySem.F.called_set.sub
  refine wpAny_call (codeAny_of_tree ?_)
  show wpAny _ _ (callAny (.type "set") _) _ _ _
  refine wpAny_pure ⟨Code.quiet_builtin _ (by decide +kernel), codeAny_builtin PySem.F.entry_type_call ?_⟩
  rw [Around.under_plain (weight_type_call_type "set" [.ref l] []) rfl]
  have h1 := PySem.F.called_set.notType
  have h2 := PySem.F.called_set.canCreate
  have hct := PySem.F.typeCall_set_1 (.ref l)
  repeat (any_goals (first | assumption | wp_step))

  refine codeAny_mono (code_set_new_1 (.ref l) (E := E) (Q₁ := fun obj s₁ => ∃ led : Bool, obj = .ref s.heap.objs.size ∧ s₁ = { s with heap := s.heap.push { cls := .type "set", dict := none, data := .set #[] 0 (.fresh 0 0 led) } }) fun led => ⟨led, rfl, rfl⟩) fun r s₁ hr => ?_
  cases r with
  | error e => exact hr
  | ok fl =>
    cases fl with
    | ret obj =>
      obtain ⟨led, rfl, rfl⟩ := hr
      have hS : (s.heap.push { cls := .type "set", dict := none, data := .set #[] 0 (.fresh 0 0 led) }).get? s.heap.objs.size = some { cls := .type "set", dict := none, data := .set #[] 0 (.fresh 0 0 led) } := Heap.get?_push_size _ rfl
      have hT : Shared.TypeIs { s with heap := s.heap.push { cls := .type "set", dict := none, data := .set #[] 0 (.fresh 0 0 led) } } (.ref s.heap.objs.size) "set" := ⟨_, hS, rfl⟩
      have hli := PySem.F.called_set.init.lookup
      have hbi := PySem.F.called_set.init.bind (.ref s.heap.objs.size)
      repeat (any_goals (first | assumption | wp_step))

      refine codeAny_mono (codeAny_call_builtin (R := wants (fun r s₂ => r = .none ∧ ∃ h' tk, s₂ = { s with heap := h', toks := tk } ∧
          h'.SetOf (PySem.strKind prog w) s.heap.objs.size (fun k' => (xs.take items.size).any (· == k')) items.size ∧
          (∀ b o, b < s.heap.objs.size → s.heap.get? b = some o → h'.get? b = some o)) E) PySem.F.called_set.init.plain PySem.F.entry_set_init (check_set_init_1 hT ?_)) fun r₂ s₂ hr₂ => ?_
      · obtain ⟨ol, hol, hcl, nl, hdl⟩ := hl
        obtain ⟨ocls, odict, odata, oslots⟩ := ol
        simp only at hcl hdl
        subst hcl; subst hdl
        have hol' : (s.heap.push { cls := .type "set", dict := none, data := .set #[] 0 (.fresh 0 0 led) }).get? l = some { cls := .type "list", dict := odict, data := .seq items nl, slots := oslots } := Heap.get?_push_of_some _ hol
        have hsls := PySem.F.sub_list_set
        have hslf := PySem.F.sub_list_frozenset
        have hne : (Value.type "list" == Value.type "dict") = false := by decide
        have hl1 : (s.heap.push { cls := .type "set", dict := none, data := .set #[] 0 (.fresh 0 0 led) }).IsList l items := ⟨_, hol', rfl, nl, rfl⟩
        unfold Builtin.«set.__init__» noKeywords Builtin.Frozenset.updateFrom
        generalize hPI : pyIter = PI
        wp_walk
        subst hPI

        refine wpAny_pyIter_list hl1 ?_
        refine wpAny_bind (wpAny_runValue ?_)
        have hlS : l < s.heap.objs.size := Heap.lt_size hol
        have hh3 : A.in1.in1.in1.handled = none := by simp [hh]
        have hneI : l ≠ (s.heap.push { cls := .type "set", dict := none, data := .set #[] 0 (.fresh 0 0 led) }).objs.size := by
          rw [Heap.size_push]; exact Nat.ne_of_lt (Nat.lt_succ_of_lt hlS)
        have hSf : s.heap.objs.size ∉ [(s.heap.push { cls := .type "set", dict := none, data := .set #[] 0 (.fresh 0 0 led) }).objs.size, l] := by
          rw [Heap.size_push]; simp only [List.mem_cons, List.mem_singleton, List.not_mem_nil, or_false, not_or]
          exact ⟨Nat.ne_of_lt (Nat.lt_succ_self _), Nat.ne_of_gt hlS⟩
        have hsz : xs.length = items.size := by rw [← StrsAre.len_eq hi, Array.length_toList]
        have hval : ∀ (i : Nat) (v : Value), items[i]? = some v → ∃ t, v = .str (xs.getD i Str.empty) t := fun i v hv => strs_at hi i v (by rw [Array.getElem?_toList]; exact hv)
        refine loopStrN ((Walks.list hh3 _ l hneI items).toS) s.heap.objs.size
          hSf xs hsz (by rw [← hsz]; exact hn1) nd hval (items.size - 0) 0 _ (by omega) (Nat.zero_le _)
          ⟨⟨_, Heap.get?_push_size _ rfl, rfl, rfl⟩, (hl1.push _)⟩ ?hS0 ?hR
        case hS0 =>
          have hget : ((s.heap.push { cls := .type "set", dict := none, data := .set #[] 0 (.fresh 0 0 led) }).push { cls := .type "list_iterator", data := .fields #[.ref l, .int 0 0] }).get? s.heap.objs.size
              = some { cls := .type "set", dict := none, data := .set #[] 0 (.fresh 0 0 led) } := Heap.get?_push_of_some _ hS
          exact PyProof.Rows.SetOf_congr ((PyProof.Rows.setObjOf_fresh (knd := PySem.strKind prog w) led).setOf hget (by unfold scanBound; omega)) (fun _ => rfl) rfl
        case hR =>
          intro s' hm hS'
          obtain ⟨h', g', d', tk', os'⟩ := s'
          have eg : g' = s.gens := hm.gens
          have ed : d' = s.drawn := hm.drawn
          have eo : os' = s.os := hm.os
          subst eg; subst ed; subst eo
          show wpAny _ _ _ _ _ _
          refine wpAny_pure ?_
          show wpAny _ _ (ret Value.none) _ _ _
          refine wpAny_pure ⟨rfl, h', tk', rfl, hS', fun b o hb e => ?_⟩
          have hb1 : b ≠ s.heap.objs.size := Nat.ne_of_lt hb
          have hb2 : b ≠ (s.heap.push { cls := .type "set", dict := none, data := .set #[] 0 (.fresh 0 0 led) }).objs.size := by
            rw [Heap.size_push]; exact Nat.ne_of_lt (Nat.lt_succ_of_lt hb)
          exact hm.heap b o (by simp only [List.mem_cons, List.mem_singleton, List.not_mem_nil, or_false, not_or]; exact ⟨hb1, hb2⟩) (Heap.get?_push_of_some _ (Heap.get?_push_of_some _ e))

      · cases r₂ with
        | error e => exact hr₂
        | ok fl₂ =>
          cases fl₂ with
          | ret r =>
            obtain ⟨rfl, h', tk, rfl, hS', hk'⟩ := hr₂
            repeat (any_goals (first | assumption | wp_step))
            exact h _ _ hS' hk'
          | _ => exact hr₂.elim
    | _ => exact hr.elim

end
end SS
namespace L2
open PySem PySem.Spec PyProof.Rows
def tLenSetN (K : PySem.W.Frag) (ta : TE) : TE := fun σ H Q => ta σ H fun x H1 => ∃ l, ∃ xs : List Str, x = .ref l ∧ SqL K H1 l (xs.map V.str) ∧ xs.Nodup ∧ xs.length ≤ 1000 ∧ Q (.int xs.length) H1
theorem pe_lenSetN {X : Cx} {a : Expr} {ta : TE} {p p2 q pos : Pos} (hc : X.calm = true) (hg : Gl X "len") (hm : X.mg "len" = none) (hg2 : Gl X "set") (hm2 : X.mg "set" = none) (ha : PE X a ta)
    (na : starEach [a] X.env = (false, eval a X.env) :: starEach [] X.env := by rfl) : PE X (.Call (.Name "len" p) [.Call (.Name "set" p2) [a] [] q] [] pos) (tLenSetN X.K ta) := by
  refine ⟨fun pins s σ H Q I h => ?_⟩
  refine Call_ (ld_blt I hg hm boot_len ?_)
  refine PyProof.Rows.callWith_builtin1 (PyProof.Rows.args_cons ?_ rfl) rfl rfl
  refine Call_ (ld_blt I hg2 hm2 boot_set ?_)
  refine PyProof.Rows.callWith_type1 (PyProof.Rows.args_cons (thn (ha.run pins s σ H _ I h) fun v s1 ⟨x, H1, I1, r1, q1⟩ => PyProof.Rows.args_nil ?_) na) na rfl
  obtain ⟨l, xs, rfl, hq, nd, h1, q1⟩ := q1
  cases r1
  obtain ⟨its, r, pl, hz⟩ := I1.list hq
  refine SS.call_set_listN (I1.ok.hd hc) pl.isList (by simpa using strsAre_of r) h1 nd fun h' tk hS hk => ?_
  refine PyProof.Rows.args_nil ?_
  have hl : its.toArray.size = xs.length := by rw [List.size_toArray, ← r.length, List.length_map]
  rw [hl] at hS
  obtain ⟨o, es, ep, t, ho, hex, hd, _, _, _, hf, hn⟩ := hS
  have I2 : Inv X pins σ H1 { s1 with heap := h', toks := tk } := I1.kept fun b o e => hk b o (Heap.lt_size e) e
  exact call_len_set ho hex hd hf (by rw [hn] <;> omega) ⟨.int xs.length, H1, I2.tok _, ⟨_, by rw [hn]⟩, q1⟩
end L2
set_option Elab.async false
set_option linter.all false
set_option maxRecDepth 100000
set_option maxHeartbeats 2000000
/-! tuple(d.values()) -/
namespace Nl
open PySem PySem.W PySem.Calls PyProof.Rows
section
variable {prog : Program} {w : World} {A : Around} {E : Value → Shared → Prop} {s : Shared} {T : String} {r d : Addr} {n : Nat} {P : Nat → Value → Prop} {OK : Heap → Prop}
theorem collect_src {Q : List Value → Shared → Prop} (K : KdlSrc prog w T r d n P OK) (hh : A.handled = none) (hok : OK s.heap) (hn : n ≤ sizeLine)
    (hQ : ∀ (h' : Heap) (tk : Nat) (acc : Array Value), (∀ b o, s.heap.get? b = some o → h'.get? b = some o) → ItemsOf P acc n → Q acc.toList { s with heap := h', toks := tk }) :
    wpAny (model prog w) A (collect (.ref r)) Q E s := by
  unfold collect
  refine wpAny_bind (wpAny_runValue (codeAny_builtin F.entry_proto_collect ?_))
  rw [Around.under_plainId F.plain_proto_collect _]
  show wpAny _ A.in1 (newList [] >>= fun l => again (.builtin "list.__iadd__" ⟨[l, .ref r], []⟩)) _ _ s
  refine wpAny_bind (wpAny_newObj_type ?_)
  refine wpAny_pure ⟨plainId_quiet F.plain_list_iadd _, codeAny_builtin F.entry_list_iadd ?_⟩
  rw [Around.under_plainId F.plain_list_iadd _]
  show wpAny _ A.in1 (Builtin.List.listExtendWith (.ref s.heap.objs.size) (.ref r) (.ref s.heap.objs.size)) _ _ _
  have hS : (s.heap.push { cls := .type "list", data := .seq ([] : List Value).toArray }).get? s.heap.objs.size = some { cls := .type "list", data := .seq #[] 0 } := Heap.get?_push_size _ rfl
  have hlt := K.there _ hok
  refine wpAny_mono (kdl_extend (A := A) (R := fun rr s' => rr = .ok (.ret (.ref s.heap.objs.size)) ∧ ∃ (h' : Heap) (tk : Nat) (acc : Array Value) (c' : Nat), s' = { s with heap := h', toks := tk } ∧
      (∀ b o, s.heap.get? b = some o → h'.get? b = some o) ∧ h'.get? s.heap.objs.size = some { cls := .type "list", dict := none, data := .seq acc c', slots := #[] } ∧ ItemsOf P acc n)
    (s := { s with heap := s.heap.push { cls := .type "list", data := .seq ([] : List Value).toArray } }) K hh (K.keep _ _ hok fun b _ o e => Heap.get?_push_of_some _ e) s.heap.objs.size (Nat.ne_of_gt hlt.1) (Nat.ne_of_gt hlt.2) (.ref s.heap.objs.size) 0 hS
    (fun h' tk acc c' hk e hi => ⟨rfl, h', tk, acc, c', rfl, fun b o q => hk b o (Nat.ne_of_lt (Heap.lt_size q)) (Heap.get?_push_of_some _ q), e, hi⟩) hn) (fun fin s' h => ?_) (fun e s' h => ?_)
  · cases fin with
    | done f =>
      obtain ⟨e, h', tk, acc, c', rfl, hk, hS', hi⟩ := h
      cases e
      show wpAny _ A (load s.heap.objs.size >>= _) _ _ _
      exact wpAny_bind (wpAny_load hS' (wpAny_pure (hQ h' tk acc hk hi)))
    | again c' =>
      refine ⟨h.1, codeAny_mono h.2 fun rr s'' hr' => ?_⟩
      obtain ⟨rfl, h', tk, acc, c', rfl, hk, hS', hi⟩ := hr'
      show wpAny _ A (load s.heap.objs.size >>= _) _ _ _
      exact wpAny_bind (wpAny_load hS' (wpAny_pure (hQ h' tk acc hk hi)))
  · exact absurd h.1 (by simp)
theorem code_tuple_vals {Q₁ : Value → Shared → Prop} (K : KdlSrc prog w "dict_values" r d n P OK) (hh : A.handled = none) (hok : OK s.heap) (hn : n ≤ sizeLine)
    (h : ∀ (h' : Heap) (tk : Nat) (acc : Array Value), (∀ b o, s.heap.get? b = some o → h'.get? b = some o) → ItemsOf P acc n → Q₁ (.ref h'.objs.size) { s with heap := h'.push { cls := .type "tuple", data := .seq acc }, toks := tk }) :
    codeAny (model prog w) A (.call (.builtin "tuple.__new__") ⟨[.type "tuple", .ref r], []⟩) (wants Q₁ E) s := by
  refine codeAny_of_tree ?_
  show wpAny _ A.in1 (do checkBuiltinCall "tuple.__new__" ⟨[.type "tuple", .ref r], []⟩; again (.builtin "tuple.__new__" ⟨[.type "tuple", .ref r], []⟩)) _ _ s
  refine wpAny_bind (wpAny_of_eq (F.newCall_tuple_1 _) (wpAny_pure ⟨plainId_quiet F.plain_tuple_new _, codeAny_builtin F.entry_tuple_new ?_⟩))
  rw [Around.under_plainId F.plain_tuple_new _]
  have hsub := sub_tuple_self
  have hinit := init_tuple_lookup
  have hmh := madeHere_tuple
  have hTI : s.TypeIs (.ref r) "dict_values" := K.type s hok
  have hh1 : A.in1.handled = none := hh
  wp_walk using wpAny_typeOf hTI, collect_src (A := A.in1) K hh1 hok hn
  intro h' tk acc hk hacc
  show wpAny _ _ (Builtin.Tuple.tupleExact acc.toList.toArray >>= fun v => ret v) _ _ _
  unfold Builtin.Tuple.tupleExact
  refine wpAny_bind (wpAny_newObj_type ?_ (by show acc.toList.toArray.size ≤ sizeLine; simp only [Array.toArray_toList]; rw [hacc.1]; exact hn))
  refine wpAny_pure ?_
  have e : acc.toList.toArray = acc := by simp
  rw [e]
  exact h h' tk acc hk hacc
theorem call_tuple_vals {Q : Value → Shared → Prop} (K : KdlSrc prog w "dict_values" r d n P OK) (hh : A.handled = none) (hok : OK s.heap) (hn : n ≤ sizeLine)
    (hQ : ∀ (h' : Heap) (tk : Nat) (acc : Array Value), (∀ b o, s.heap.get? b = some o → h'.get? b = some o) → ItemsOf P acc n → Q (.ref h'.objs.size) { s with heap := h'.push { cls := .type "tuple", data := .seq acc }, toks := tk }) :
    wpAny (model prog w) A (call (.type "tuple") [.ref r]) Q E s := by
  refine callType_codes (Q₁ := fun obj s₁ => s₁.TypeIs obj "tuple" ∧ Q obj s₁) F.called_tuple (F.typeCall_tuple_1 _) F.entry_object_init
    (code_tuple_vals (A := A.in1) K hh hok hn fun h' tk acc hk hacc => ⟨⟨_, Heap.get?_push_size _ rfl, rfl⟩, hQ h' tk acc hk hacc⟩) fun obj s₁ h₁ => ?_
  exact ⟨h₁.1, F.args_object_init_2 obj _, object_init_meets F.called_tuple.init.lookup F.called_tuple.made (by decide) prog w A.in1 _ s₁ ⟨h₁.1, rfl, h₁.2⟩⟩
end
end Nl
namespace L2
open PySem PySem.Spec PyProof.Rows
section
variable {X : Cx} {a : Expr} {ta : TE}
def tTupVals (ta : TE) : TE := fun σ H Q => ta σ H fun x H1 => ∃ (d : Addr) (kvs : List (Key × V)), x = .ref d ∧ Rd H1 d (.dK kvs) ∧ ∀ p, H1 p = none → Q (.ref p) (upd H1 p (.tup (kvs.map Prod.snd)))
theorem vals_atV : ∀ {kvs : List (Key × V)} {vs : List (Key × Value)} {us : List Value}, KV kvs vs → us.length = vs.length → (∀ (j : Nat) (v : Value), us[j]? = some v → ∃ k, vs[j]? = some (k, v)) → Vals (kvs.map Prod.snd) us
  | [], vs, us, h, hl, _ => by
    cases h
    have : us = [] := List.eq_nil_of_length_eq_zero hl
    subst this
    exact .nil
  | kv :: kvs, _, us, h, hl, hu => by
    cases h with
    | @cons _ q _ qs r t =>
      cases us with
      | nil => cases hl
      | cons u us =>
        obtain ⟨k, e⟩ := hu 0 u rfl
        have e : q = (k, u) := by simpa using e
        rw [List.map_cons]
        refine .cons ?_ (vals_atV t (by simpa using hl) fun j v hv => hu (j + 1) v (by simpa using hv))
        have := r.2
        rw [e] at this
        exact this
theorem pe_tupVals {p pos apos cpos : Pos} (hc : X.calm = true) (hg : Gl X "tuple") (hm : X.mg "tuple" = none) (ha : PE X a ta) (hbase : attributeBase a "values" X.env (eval a X.env) = eval a X.env := by rfl) (hline : (apos.endLine == cpos.line) = true := by rfl)
    (na : starEach [.Call (.Attribute a "values" apos) [] [] cpos] X.env = (false, eval (.Call (.Attribute a "values" apos) [] [] cpos) X.env) :: starEach [] X.env := by rfl) :
    PE X (.Call (.Name "tuple" p) [.Call (.Attribute a "values" apos) [] [] cpos] [] pos) (tTupVals ta) := by
  refine ⟨fun pins s σ H Q I h => ?_⟩
  refine Call_ (ld_blt I hg hm boot_tuple ?_)
  refine PyProof.Rows.callWith_type1 (PyProof.Rows.args_cons ?_ na) na rfl
  refine wpAny_Call_method (T := "dict") (id := "dict.values") hbase rfl hline F.plainAttrs_dict F.slot_dict_values F.type_dict_values (thn (ha.run pins s σ H _ I h) fun u s1 ⟨x, H1, I1, rx, d, kvs, ex, hd, q⟩ => ?_)
  subst ex
  obtain rfl : u = Value.ref d := rx
  obtain ⟨z, lo, vs, rel, dd⟩ := dk_rd I1.hok hd
  refine ⟨dd.typeIs, dd.mapOf.noDict, ?_⟩
  have I2 : Inv X pins σ H1 { s1 with heap := s1.heap.push { cls := .type "dict_values", data := .fields #[.ref d] } } := I1.kept (t' := s1.toks) fun b ob q => Heap.get?_push_of_some _ q
  have fin : wpAny (model X.prog X.w) X.A (spliced (backTo pos (starEach [] X.env))) (fun us s2 => wpAny (model X.prog X.w) X.A (call (.type "tuple") (Value.ref s1.heap.objs.size :: us)) (EP X pins σ Q) X.xe s2) X.xe { s1 with heap := s1.heap.push { cls := .type "dict_values", data := .fields #[.ref d] } } := by
    refine PyProof.Rows.args_nil ?_
    obtain ⟨ep, hat⟩ := dd.dictAt
    refine Nl.call_tuple_vals (PySem.W.kdl_values (knd := mixKind X.prog X.w) (kvs := vs) (ep := ep) (r := s1.heap.objs.size) (d := d)) (I2.ok.hd hc) ⟨⟨_, Heap.get?_push_size _ rfl, rfl, rfl⟩, hat.push _⟩ (by rw [← rel.length]; exact z) fun h' tk acc hk hacc => ?_
    have I3 : Inv X pins σ H1 { s1 with heap := h', toks := tk } := I2.kept hk
    have hv : Vals (kvs.map Prod.snd) acc.toList := vals_atV rel (by rw [Array.length_toList]; exact hacc.1) fun j v e => hacc.2 j v (by rw [← Array.getElem?_toList]; exact e)
    refine ⟨.ref h'.objs.size, upd H1 h'.objs.size (.tup (kvs.map Prod.snd)), I3.laid (t' := tk) (fun b o e => Heap.get?_push_of_some _ e) (Nat.le_refl _) ?_, rfl, q _ (I3.hok.fresh (Nat.le_refl _))⟩
    exact ⟨by rw [List.length_map]; exact z, acc.toList, hv, _, Heap.get?_push_size _ rfl, rfl, 0, by simp⟩
  show wpAny _ _ (callWith cpos (.builtin "dict.values") [.ref d] [] []) _ X.xe s1
  exact method_meetsIn F.slot_dict_values F.entry_dict_values rfl (PySem.evalArgs_none ⟨rfl, dd.typeIs, F.args_dict_values_1 _, _, meets_dict_values (mixKind X.prog X.w) d lo, ⟨vs, dd⟩, fin⟩)
end
end L2
set_option Elab.async false
open PySem.W (kdx_alive)
set_option linter.all false
set_option maxRecDepth 100000
set_option maxHeartbeats 4000000
/-! dict(zip(xs, ys, strict=True)), two tuples of one length -/
namespace PySem
abbrev IsZipS (h : Heap) (z TI TO : Addr) (f0 : Value) (f : Bool) : Prop :=
  h.get? z = some { cls := .type "zip", dict := none, data := .fields #[f0, .bool f, .bool true, .ref TI, .ref TO], slots := #[] }
section
variable {prog : Program} {w : World} {A : Around} {E : Value → Shared → Prop} {s : Shared}
variable {z TI TO i1 i2 : Addr} {fp1 fp2 : List Addr} {n i : Nat} {P1 P2 : Nat → Value → Prop} {St1 St2 : Nat → Heap → Prop} {a1 a2 : Value}
theorem nextOrEnd_item {it : Addr} {fp : List Addr} {n : Nat} {P : Nat → Value → Prop} {St : Nat → Heap → Prop} {Q : Option Value → Shared → Prop} (D : Draws prog w A it fp n P St) (hi : i < n) (st : St i s.heap)
    (h : ∀ x h' tk, P i x → St (i + 1) h' → Heap.SameBut it s.heap h' → Q (some x) { s with heap := h', toks := tk }) : wpAny (model prog w) A (Builtin.SmallTypes.nextOrEnd (.ref it)) Q E s := by
  unfold Builtin.SmallTypes.nextOrEnd
  exact wpAny_bind (wpAny_attempt (D.item i s _ _ hi st fun x h' tk hx hs sb => wpAny_pure (h x h' tk hx hs sb)))
theorem nextOrEnd_done {it : Addr} {fp : List Addr} {n : Nat} {P : Nat → Value → Prop} {St : Nat → Heap → Prop} {Q : Option Value → Shared → Prop} (D : Draws prog w A it fp n P St) (st : St n s.heap)
    (h : ∀ h', Heap.ExtBut it s.heap h' → Q none { s with heap := h' }) : wpAny (model prog w) A (Builtin.SmallTypes.nextOrEnd (.ref it)) Q E s := by
  unfold Builtin.SmallTypes.nextOrEnd
  refine wpAny_bind (wpAny_attempt (D.done s _ _ st fun h' e hq he => ?_))
  obtain ⟨o, ho, hc⟩ := he
  refine wpAny_bind (wpAny_isInstance (T := "StopIteration") (b := true) ⟨o, ho, hc⟩ isSubtype_stop ?_)
  exact wpAny_pure (h h' hq)
theorem zipS_item {Q : Value → Shared → Prop} (S : ZipSep2 z TI TO i1 i2 fp1 fp2) (D1 : Draws prog w A i1 fp1 n P1 St1) (D2 : Draws prog w A i2 fp2 n P2 St2)
    (hz : IsZipS s.heap z TI TO .none false) (hTI : IsTupOf2 s.heap TI (.ref i1) (.ref i2)) (hTO : IsTupOf2 s.heap TO a1 a2) (st1 : St1 i s.heap) (st2 : St2 i s.heap) (hlt : i < n)
    (hQ : ∀ x1 x2 h' tk, P1 i x1 → P2 i x2 → IsZipS h' z TI TO (rawInt s.heap.objs.size) false → IsTupOf2 h' TO x1 x2 → St1 (i + 1) h' → St2 (i + 1) h' → IsTupOf2 h' s.heap.objs.size x1 x2 → h'.objs.size = s.heap.objs.size + 1 →
      (∀ c o, c ≠ z → c ≠ TO → c ≠ i1 → c ≠ i2 → s.heap.get? c = some o → h'.get? c = some o) → Q (.ref s.heap.objs.size) { s with heap := h', toks := tk }) :
    wpAny (model prog w) A (Builtin.«zip.__next__» ⟨[.ref z], []⟩) (fun fin s' => ∃ v, fin = .done (.ret v) ∧ Q v s') E s := by
  obtain ⟨hp, g, d, tk0, os⟩ := s
  show wpAny _ _ (field (.ref z) 2 >>= _) _ _ _
  refine wpAny_bind (wpAny_field hz rfl (x := .bool true) rfl ?_)
  show wpAny _ _ (field (.ref z) 3 >>= _) _ _ _
  refine wpAny_bind (wpAny_field hz rfl (x := .ref TI) rfl ?_)
  refine wpAny_bind (wpAny_seqItems hTI rfl ?_)
  show wpAny _ _ (Builtin.SmallTypes.ownedTupleIsFree (.ref z) >>= _) _ _ _
  refine wpAny_bind ?_
  unfold Builtin.SmallTypes.ownedTupleIsFree
  refine wpAny_bind (wpAny_field hz rfl (x := .none) rfl (wpAny_pure ?_))
  simp only [if_true]
  refine wpAny_bind (wpAny_rule ?_)
  refine wpAny_bind (wpAny_field hz rfl (x := .ref TO) rfl ?_)
  refine wpAny_bind (wpAny_setField_rec hz (by simp) fun g0 hz0 hs0 => ?_)
  replace hz0 : IsZipS g0 z TI TO .ellipsis false := hz0
  replace hs0 : Heap.SameBut z hp g0 := hs0
  refine wpAny_bind ?_
  simp only [List.zipIdx_cons, List.zipIdx_nil, List.forIn_cons, List.forIn_nil]
  refine wpAny_bind (wpAny_bind (wpAny_onRaise ?_))
  show wpAny _ _ (Builtin.SmallTypes.nextOrEnd (.ref i1)) _ _ ⟨g0, g, d, tk0, os⟩
  refine nextOrEnd_item D1 hlt (D1.over st1 hs0 S.zf1) fun x1 p1 tk1 hx1 sn1 hp1 => ?_
  replace hp1 : Heap.SameBut i1 g0 p1 := hp1
  have hU1 : IsTupOf2 p1 TO a1 a2 := hp1.extBut _ _ S.Ti1 (hs0.extBut _ _ S.TOz hTO)
  refine wpAny_bind (wpAny_seqItems (s := ⟨p1, g, d, tk1, os⟩) hU1 rfl ?_)
  refine wpAny_bind (updateSeq_IsTupOf2 (s := ⟨p1, g, d, tk1, os⟩) hU1 fun g1 hT1 hs1 => ?_)
  replace hT1 : IsTupOf2 g1 TO x1 a2 := hT1
  replace hs1 : Heap.SameBut TO p1 g1 := hs1
  refine wpAny_bind (wpAny_letGo (wpAny_pure ?_))
  refine wpAny_bind (wpAny_bind (wpAny_onRaise ?_))
  show wpAny _ _ (Builtin.SmallTypes.nextOrEnd (.ref i2)) _ _ ⟨g1, g, d, tk1, os⟩
  refine nextOrEnd_item D2 hlt (D2.over (D2.over (D2.over st2 hs0 S.zf2) hp1 S.sep1_2) hs1 S.Tf2) fun x2 p2 tk2 hx2 sn2 hp2 => ?_
  replace hp2 : Heap.SameBut i2 g1 p2 := hp2
  have hU2 : IsTupOf2 p2 TO x1 a2 := hp2.extBut _ _ S.Ti2 hT1
  refine wpAny_bind (wpAny_seqItems (s := ⟨p2, g, d, tk2, os⟩) hU2 rfl ?_)
  refine wpAny_bind (updateSeq_IsTupOf2 (s := ⟨p2, g, d, tk2, os⟩) hU2 fun g2 hT2 hs2 => ?_)
  replace hT2 : IsTupOf2 g2 TO x1 x2 := hT2
  replace hs2 : Heap.SameBut TO p2 g2 := hs2
  refine wpAny_bind (wpAny_letGo (wpAny_pure (wpAny_pure ?_)))
  refine wpAny_bind (wpAny_seqItems (s := ⟨g2, g, d, tk2, os⟩) hT2 rfl ?_)
  refine wpAny_bind (wpAny_newTuple ?_)
  have hsz : g2.objs.size = hp.objs.size := by rw [hs2.1, hp2.1, hs1.1, hp1.1, hs0.1]
  have hzz : IsZipS g2 z TI TO .ellipsis false := (hs2.extBut _ _ S.TOz.symm (hp2.extBut _ _ S.zi2 (hs1.extBut _ _ S.TOz.symm (hp1.extBut _ _ S.zi1 hz0))))
  have hkk : ∀ c o, c ≠ z → c ≠ TO → c ≠ i1 → c ≠ i2 → hp.get? c = some o → g2.get? c = some o := fun c o cz cT c1 c2 e =>
    (hs2.extBut _ _ cT (hp2.extBut _ _ c2 (hs1.extBut _ _ cT (hp1.extBut _ _ c1 (hs0.extBut _ _ cz e)))))
  have hj1 : St1 (i + 1) g2 := (D1.over (D1.over (D1.over sn1 hs1 S.Tf1) hp2 S.sep2_1) hs2 S.Tf1)
  have hj2 : St2 (i + 1) g2 := (D2.over sn2 hs2 S.Tf2)
  have hzlt : z < g2.objs.size := Heap.lt_size hzz
  show wpAny _ _ (Builtin.SmallTypes.ownedTupleHandOut (.ref z) (.ref g2.objs.size) >>= _) _ _ ⟨g2.push { cls := .type "tuple", data := .seq #[x1, x2] }, g, d, tk2, os⟩
  refine wpAny_bind ?_
  unfold Builtin.SmallTypes.ownedTupleHandOut
  have hz₆ : IsZipS (g2.push { cls := .type "tuple", data := .seq #[x1, x2] }) z TI TO .ellipsis false := Heap.get?_push_of_some _ hzz
  refine wpAny_bind (wpAny_setField_rec hz₆ (by simp) fun h₇ hz₇ hs₇ => ?_)
  replace hz₇ : IsZipS h₇ z TI TO (rawInt g2.objs.size) false := hz₇
  refine wpAny_setField_rec hz₇ (by simp) fun h₈ hz₈ hs₈ => ?_
  replace hz₈ : IsZipS h₈ z TI TO (rawInt g2.objs.size) false := hz₈
  replace hs₇ : Heap.SameBut z (g2.push { cls := .type "tuple", data := .seq #[x1, x2] }) h₇ := hs₇
  replace hs₈ : Heap.SameBut z h₇ h₈ := hs₈
  have up : ∀ c o, c ≠ z → g2.get? c = some o → h₈.get? c = some o := fun c o c1 e => hs₈.extBut _ _ c1 (hs₇.extBut _ _ c1 (Heap.get?_push_of_some _ e))
  have hT₈ : IsTupOf2 h₈ g2.objs.size x1 x2 := hs₈.extBut _ _ (Nat.ne_of_gt hzlt) (hs₇.extBut _ _ (Nat.ne_of_gt hzlt) (Heap.get?_push_size _ rfl))
  have hz8 : h₈.objs.size = g2.objs.size + 1 := by rw [hs₈.1, hs₇.1, Heap.size_push]
  rw [hsz] at hz₈ hT₈ hz8
  refine wpAny_pure ⟨_, rfl, ?_⟩
  show Q (.ref g2.objs.size) ⟨h₈, g, d, tk2, os⟩
  rw [hsz]
  exact hQ x1 x2 h₈ tk2 hx1 hx2 hz₈ (up _ _ S.TOz hT2) (D1.frame _ _ _ hj1 fun b hb o e => up b o (fun q => S.zf1 (q ▸ hb)) e) (D2.frame _ _ _ hj2 fun b hb o e => up b o (fun q => S.zf2 (q ▸ hb)) e) hT₈ hz8 fun c o cz cT c1 c2 e => up c o cz (hkk c o cz cT c1 c2 e)
open Builtin Builtin.SmallTypes in
theorem zEnd_wp {a : Value} {b : Addr} {zb : Nat → String} {f : List Value → Nat → Sem Fin} {Q : Fin → Shared → Prop} (D : Draws prog w A b fp2 n P2 St2) (st : St2 n s.heap)
    (hX : f = fun its i => (do
      if i > 0 then
        rule "zip.__next__.shorter"; raiseError "ValueError" s!"zip() argument {i + 1} is shorter than {zb i}"
      for (it, j) in (its.drop 1).zipIdx 1 do
        if (← nextOrEnd it).isSome then
          rule "zip.__next__.longer"; raiseError "ValueError" s!"zip() argument {j + 1} is longer than {zb j}"
      rule "zip.__next__.all-ended"; stopIteration))
    (hh : A.handled = none) (hE : ∀ h' e, (∀ c o, c ≠ b → s.heap.get? c = some o → h'.get? c = some o) → (∃ o, h'.get? e = some o ∧ o.cls = .type "StopIteration") → E (.ref e) { s with heap := h' }) :
    wpAny (model prog w) A (f [a, .ref b] 0) Q E s := by
  subst hX
  have e : List.zipIdx (List.drop 1 [a, Value.ref b]) 1 = [(Value.ref b, 1)] := rfl
  simp only [e, Nat.lt_irrefl, gt_iff_lt, if_false]
  simp only [List.forIn_cons, List.forIn_nil]
  refine wpAny_bind (wpAny_bind (wpAny_bind (nextOrEnd_done D st fun h' hp => ?_)))
  replace hp : Heap.ExtBut b s.heap h' := hp
  simp only [Option.isSome_none, Bool.false_eq_true, if_false]
  refine wpAny_pure (wpAny_pure (wpAny_bind (wpAny_rule ?_)))
  unfold stopIteration
  refine wpAny_bind ?_
  simp only [newExc, newTuple]
  refine wpAny_bind (wpAny_newObj_type ?_ (by size_fits))
  refine wpAny_bind (m := firstArgMember _ _) (wpAny_of_eq (a := Value.none) (by first | rfl | (simp only [firstArgMember]; rfl)) ?_)
  refine wpAny_newObj_type ?_ (by size_fits)
  simp only [raiseNew]
  refine wpAny_bind (wpAny_handled ?_)
  rw [hh]
  refine wpAny_bind (wpAny_pure (wpAny_throw ?_))
  exact hE _ _ (fun c o hc e => Heap.get?_push_of_some _ (Heap.get?_push_of_some _ (hp c o hc e))) ⟨_, Heap.get?_push_size _ rfl, rfl⟩
theorem zipS_end {Q : Fin → Shared → Prop} (hh : A.handled = none) (S : ZipSep2 z TI TO i1 i2 fp1 fp2) (D1 : Draws prog w A i1 fp1 n P1 St1) (D2 : Draws prog w A i2 fp2 n P2 St2)
    (hz : IsZipS s.heap z TI TO .none false) (hTI : IsTupOf2 s.heap TI (.ref i1) (.ref i2)) (hTO : IsTupOf2 s.heap TO a1 a2) (st1 : St1 n s.heap) (st2 : St2 n s.heap)
    (hE : ∀ h' tk e, (∀ c o, c ≠ z → c ≠ TO → c ≠ i1 → c ≠ i2 → s.heap.get? c = some o → h'.get? c = some o) → (∃ o, h'.get? e = some o ∧ o.cls = .type "StopIteration") → E (.ref e) { s with heap := h', toks := tk }) :
    wpAny (model prog w) A (Builtin.«zip.__next__» ⟨[.ref z], []⟩) Q E s := by
  obtain ⟨hp, g, d, tk0, os⟩ := s
  show wpAny _ _ (field (.ref z) 2 >>= _) _ _ _
  refine wpAny_bind (wpAny_field hz rfl (x := .bool true) rfl ?_)
  show wpAny _ _ (field (.ref z) 3 >>= _) _ _ _
  refine wpAny_bind (wpAny_field hz rfl (x := .ref TI) rfl ?_)
  refine wpAny_bind (wpAny_seqItems hTI rfl ?_)
  show wpAny _ _ (Builtin.SmallTypes.ownedTupleIsFree (.ref z) >>= _) _ _ _
  refine wpAny_bind ?_
  unfold Builtin.SmallTypes.ownedTupleIsFree
  refine wpAny_bind (wpAny_field hz rfl (x := .none) rfl (wpAny_pure ?_))
  simp only [if_true]
  refine wpAny_bind (wpAny_rule ?_)
  refine wpAny_bind (wpAny_field hz rfl (x := .ref TO) rfl ?_)
  refine wpAny_bind (wpAny_setField_rec hz (by simp) fun g0 hz0 hs0 => ?_)
  replace hz0 : IsZipS g0 z TI TO .ellipsis false := hz0
  replace hs0 : Heap.SameBut z hp g0 := hs0
  refine wpAny_bind ?_
  simp only [List.zipIdx_cons, List.zipIdx_nil, List.forIn_cons, List.forIn_nil]
  refine wpAny_bind (wpAny_bind (wpAny_onRaise ?_))
  show wpAny _ _ (Builtin.SmallTypes.nextOrEnd (.ref i1)) _ _ ⟨g0, g, d, tk0, os⟩
  refine nextOrEnd_done D1 (D1.over st1 hs0 S.zf1) fun p1 hp1 => ?_
  replace hp1 : Heap.ExtBut i1 g0 p1 := hp1
  show wpAny _ _ (setField (.ref z) 0 .none >>= _) _ _ ⟨p1, g, d, tk0, os⟩
  refine wpAny_bind (wpAny_setField_rec (hp1 _ _ S.zi1 hz0) (by simp) fun g1 hz1 hs1 => ?_)
  replace hs1 : Heap.SameBut z p1 g1 := hs1
  refine wpAny_bind ?_
  have hz2 : St2 n g1 := D2.over (D2.frame _ _ _ (D2.over st2 hs0 S.zf2) fun b hb o e => hp1 _ _ (fun q => S.sep1_2 (q ▸ hb)) e) hs1 S.zf2
  refine zEnd_wp (s := ⟨g1, g, d, tk0, os⟩) D2 hz2 rfl hh fun h' e hk he => ?_
  exact hE h' tk0 e (fun c o cz cT c1 c2 x => hk c o c2 (hs1.extBut _ _ cz (hp1 _ _ c1 (hs0.extBut _ _ cz x)))) he

theorem tupleHeld_zipS {T : Addr} {f : Bool} {oT : Obj} {Q : Bool → Shared → Prop} (hz : IsZipS s.heap z TI TO (rawInt T) f) (hT : s.heap.get? T = some oT)
    (h : ∀ h', IsZipS h' z TI TO (rawInt T) true → Heap.SameBut z s.heap h' → Q false { s with heap := h' }) : wpAny (model prog w) A (Builtin.SmallTypes.ownedTupleIsFree (.ref z)) Q E s := by
  unfold Builtin.SmallTypes.ownedTupleIsFree
  refine wpAny_bind (wpAny_field hz rfl (x := rawInt T) rfl ?_)
  show wpAny _ _ (loadIfAlive ((T : Int).toNat) >>= _) _ _ _
  rw [Int.toNat_natCast]
  refine wpAny_bind (kdx_alive hT ?_)
  simp only [Option.isNone_some, Bool.false_eq_true, if_false]
  refine wpAny_bind (wpAny_field hz rfl (x := .bool f) rfl ?_)
  cases f with
  | true =>
    rw [if_neg (show ¬ ((Value.bool true != Value.bool true) = true) from Bool.false_ne_true)]
    exact wpAny_pure (h s.heap hz (Heap.SameBut.refl _ _))
  | false =>
    rw [if_pos (show (Value.bool false != Value.bool true) = true from rfl)]
    exact wpAny_bind (wpAny_setField_rec hz (by simp) fun h₁ hz₁ hs₁ => wpAny_pure (h h₁ hz₁ hs₁))
theorem zipS_item_held {T : Addr} {f : Bool} {oT : Obj} {Q : Value → Shared → Prop} (S : ZipSep2 z TI TO i1 i2 fp1 fp2) (D1 : Draws prog w A i1 fp1 n P1 St1) (D2 : Draws prog w A i2 fp2 n P2 St2)
    (hz : IsZipS s.heap z TI TO (rawInt T) f) (hT : s.heap.get? T = some oT) (hTI : IsTupOf2 s.heap TI (.ref i1) (.ref i2)) (st1 : St1 i s.heap) (st2 : St2 i s.heap) (hlt : i < n)
    (hQ : ∀ x1 x2 h' tk, P1 i x1 → P2 i x2 → IsZipS h' z TI TO (rawInt T) true → St1 (i + 1) h' → St2 (i + 1) h' → IsTupOf2 h' s.heap.objs.size x1 x2 → h'.objs.size = s.heap.objs.size + 1 →
      (∀ c o, c ≠ z → c ≠ i1 → c ≠ i2 → s.heap.get? c = some o → h'.get? c = some o) → Q (.ref s.heap.objs.size) { s with heap := h', toks := tk }) :
    wpAny (model prog w) A (Builtin.«zip.__next__» ⟨[.ref z], []⟩) (fun fin s' => ∃ v, fin = .done (.ret v) ∧ Q v s') E s := by
  obtain ⟨hp, g, d, tk0, os⟩ := s
  show wpAny _ _ (field (.ref z) 2 >>= _) _ _ _
  refine wpAny_bind (wpAny_field hz rfl (x := .bool true) rfl ?_)
  show wpAny _ _ (field (.ref z) 3 >>= _) _ _ _
  refine wpAny_bind (wpAny_field hz rfl (x := .ref TI) rfl ?_)
  refine wpAny_bind (wpAny_seqItems hTI rfl ?_)
  show wpAny _ _ (Builtin.SmallTypes.ownedTupleIsFree (.ref z) >>= _) _ _ _
  refine wpAny_bind (tupleHeld_zipS hz hT fun g0 hz0 hs0 => ?_)
  replace hs0 : Heap.SameBut z hp g0 := hs0
  simp only [Bool.false_eq_true, if_false]
  refine wpAny_bind ?_
  rw [← Array.forIn_toList]
  simp only [List.forIn_cons, List.forIn_nil]
  refine wpAny_bind (wpAny_bind (wpAny_holding ?_))
  show wpAny _ _ (Builtin.SmallTypes.nextOrEnd (.ref i1)) _ _ ⟨g0, g, d, tk0, os⟩
  refine nextOrEnd_item D1 hlt (D1.over st1 hs0 S.zf1) fun x1 p1 tk1 hx1 sn1 hp1 => ?_
  replace hp1 : Heap.SameBut i1 g0 p1 := hp1
  refine wpAny_pure ?_
  refine wpAny_bind (wpAny_bind (wpAny_holding ?_))
  show wpAny _ _ (Builtin.SmallTypes.nextOrEnd (.ref i2)) _ _ ⟨p1, g, d, tk1, os⟩
  refine nextOrEnd_item D2 hlt (D2.over (D2.over st2 hs0 S.zf2) hp1 S.sep1_2) fun x2 p2 tk2 hx2 sn2 hp2 => ?_
  replace hp2 : Heap.SameBut i2 p1 p2 := hp2
  refine wpAny_pure (wpAny_pure ?_)
  show wpAny _ _ (newTuple [x1, x2] >>= _) _ _ _
  refine wpAny_bind (wpAny_newTuple ?_)
  have hsz : p2.objs.size = hp.objs.size := by rw [hp2.1, hp1.1, hs0.1]
  have hk : ∀ c o, c ≠ z → c ≠ i1 → c ≠ i2 → hp.get? c = some o → p2.get? c = some o := fun c o cz c1 c2 e => hp2.extBut _ _ c2 (hp1.extBut _ _ c1 (hs0.extBut _ _ cz e))
  have hz2 : IsZipS p2 z TI TO (rawInt T) true := hp2.extBut _ _ (fun q => S.zf2 (q ▸ S.mem2)) (hp1.extBut _ _ (fun q => S.zf1 (q ▸ S.mem1)) hz0)
  have up : ∀ c o, p2.get? c = some o → (p2.push { cls := .type "tuple", data := .seq #[x1, x2] }).get? c = some o := fun c o e => Heap.get?_push_of_some _ e
  refine wpAny_pure ⟨_, rfl, ?_⟩
  show Q (.ref p2.objs.size) ⟨p2.push { cls := .type "tuple", data := .seq #[x1, x2] }, g, d, tk2, os⟩
  have ht : IsTupOf2 (p2.push { cls := .type "tuple", data := .seq #[x1, x2] }) p2.objs.size x1 x2 := Heap.get?_push_size _ rfl
  have h4 : (p2.push { cls := .type "tuple", data := .seq #[x1, x2] }).objs.size = p2.objs.size + 1 := Heap.size_push ..
  rw [hsz] at ht h4 ⊢
  exact hQ x1 x2 _ tk2 hx1 hx2 (up _ _ hz2) (D1.frame _ _ _ (D1.over sn1 hp2 S.sep2_1) fun b _ o e => up b o e) (D2.frame _ _ _ sn2 fun b _ o e => up b o e) ht h4 fun c o cz c1 c2 e => up c o (hk c o cz c1 c2 e)
theorem zipS_end_held {T : Addr} {f : Bool} {oT : Obj} {Q : Fin → Shared → Prop} (hh : A.handled = none) (S : ZipSep2 z TI TO i1 i2 fp1 fp2) (D1 : Draws prog w A i1 fp1 n P1 St1) (D2 : Draws prog w A i2 fp2 n P2 St2)
    (hz : IsZipS s.heap z TI TO (rawInt T) f) (hT : s.heap.get? T = some oT) (hTI : IsTupOf2 s.heap TI (.ref i1) (.ref i2)) (st1 : St1 n s.heap) (st2 : St2 n s.heap)
    (hE : ∀ h' tk e, (∀ c o, c ≠ z → c ≠ i1 → c ≠ i2 → s.heap.get? c = some o → h'.get? c = some o) → (∃ o, h'.get? e = some o ∧ o.cls = .type "StopIteration") → E (.ref e) { s with heap := h', toks := tk }) :
    wpAny (model prog w) A (Builtin.«zip.__next__» ⟨[.ref z], []⟩) Q E s := by
  obtain ⟨hp, g, d, tk0, os⟩ := s
  show wpAny _ _ (field (.ref z) 2 >>= _) _ _ _
  refine wpAny_bind (wpAny_field hz rfl (x := .bool true) rfl ?_)
  show wpAny _ _ (field (.ref z) 3 >>= _) _ _ _
  refine wpAny_bind (wpAny_field hz rfl (x := .ref TI) rfl ?_)
  refine wpAny_bind (wpAny_seqItems hTI rfl ?_)
  show wpAny _ _ (Builtin.SmallTypes.ownedTupleIsFree (.ref z) >>= _) _ _ _
  refine wpAny_bind (tupleHeld_zipS hz hT fun g0 hz0 hs0 => ?_)
  replace hs0 : Heap.SameBut z hp g0 := hs0
  simp only [Bool.false_eq_true, if_false]
  refine wpAny_bind ?_
  rw [← Array.forIn_toList]
  simp only [List.forIn_cons, List.forIn_nil]
  refine wpAny_bind (wpAny_bind (wpAny_holding ?_))
  show wpAny _ _ (Builtin.SmallTypes.nextOrEnd (.ref i1)) _ _ ⟨g0, g, d, tk0, os⟩
  refine nextOrEnd_done D1 (D1.over st1 hs0 S.zf1) fun p1 hp1 => ?_
  replace hp1 : Heap.ExtBut i1 g0 p1 := hp1
  have hz2 : St2 n p1 := D2.frame _ _ _ (D2.over st2 hs0 S.zf2) fun b hb o e => hp1 _ _ (fun q => S.sep1_2 (q ▸ hb)) e
  refine wpAny_bind ?_
  refine zEnd_wp (s := ⟨p1, g, d, tk0, os⟩) D2 hz2 rfl hh fun h' e hk he => ?_
  exact hE h' tk0 e (fun c o cz c1 c2 x => hk c o c2 (hp1 _ _ c1 (hs0.extBut _ _ cz x))) he
end
section
variable {prog : Program} {w : World} {A : Around} {E : Value → Shared → Prop} {s : Shared}
variable {z TI TO i1 i2 : Addr} {fp1 fp2 : List Addr} {n i : Nat} {P1 P2 : Nat → Value → Prop} {St1 St2 : Nat → Heap → Prop} {a1 a2 : Value}

variable {Q : Option Value → Shared → Prop}
theorem pyNext_zipS_item (S : ZipSep2 z TI TO i1 i2 fp1 fp2) (D1 : Draws prog w A.in1 i1 fp1 n P1 St1) (D2 : Draws prog w A.in1 i2 fp2 n P2 St2)
    (hz : IsZipS s.heap z TI TO .none false) (hTI : IsTupOf2 s.heap TI (.ref i1) (.ref i2)) (hTO : IsTupOf2 s.heap TO a1 a2) (st1 : St1 i s.heap) (st2 : St2 i s.heap) (hlt : i < n)
    (hQ : ∀ x1 x2 h' tk, P1 i x1 → P2 i x2 → IsZipS h' z TI TO (rawInt s.heap.objs.size) false → IsTupOf2 h' TO x1 x2 → St1 (i + 1) h' → St2 (i + 1) h' → IsTupOf2 h' s.heap.objs.size x1 x2 → h'.objs.size = s.heap.objs.size + 1 →
      (∀ c o, c ≠ z → c ≠ TO → c ≠ i1 → c ≠ i2 → s.heap.get? c = some o → h'.get? c = some o) → Q (some (.ref s.heap.objs.size)) { s with heap := h', toks := tk }) :
    wpAny (model prog w) A (pyNext (.ref z)) Q E s := by
  have hTy : s.TypeIs (.ref z) "zip" := ⟨_, hz, rfl⟩
  unfold pyNext
  exact wpAny_bind (wpAny_attempt (wpAny_callSpecial?_slot (name := Str.ofString "__next__") hTy F.slot_zip_next
    (wpAny_call_entry F.slot_zip_next hTy F.entry_zip_next
      (zipS_item S D1 D2 hz hTI hTO st1 st2 hlt fun x1 x2 h' tk b1 b2 b3 b4 b5 b6 b7 b8 b9 => wpAny_pure (hQ x1 x2 h' tk b1 b2 b3 b4 b5 b6 b7 b8 b9)) (F.args_zip_next_1 _))))
theorem pyNext_zipS_end (hh : A.handled = none) (S : ZipSep2 z TI TO i1 i2 fp1 fp2) (D1 : Draws prog w A.in1 i1 fp1 n P1 St1) (D2 : Draws prog w A.in1 i2 fp2 n P2 St2)
    (hz : IsZipS s.heap z TI TO .none false) (hTI : IsTupOf2 s.heap TI (.ref i1) (.ref i2)) (hTO : IsTupOf2 s.heap TO a1 a2) (st1 : St1 n s.heap) (st2 : St2 n s.heap)
    (hQ : ∀ h' tk, (∀ c o, c ≠ z → c ≠ TO → c ≠ i1 → c ≠ i2 → s.heap.get? c = some o → h'.get? c = some o) → Q none { s with heap := h', toks := tk }) : wpAny (model prog w) A (pyNext (.ref z)) Q E s := by
  have hTy : s.TypeIs (.ref z) "zip" := ⟨_, hz, rfl⟩
  unfold pyNext
  refine wpAny_bind (wpAny_attempt (wpAny_callSpecial?_slot (name := Str.ofString "__next__") hTy F.slot_zip_next
    (wpAny_call_entry F.slot_zip_next hTy F.entry_zip_next (zipS_end hh S D1 D2 hz hTI hTO st1 st2 fun h' tk e hk he => ?_) (F.args_zip_next_1 _))))
  obtain ⟨o, ho, hc⟩ := he
  refine wpAny_bind (wpAny_isInstance (T := "StopIteration") (b := true) ⟨o, ho, hc⟩ isSubtype_stop ?_)
  exact wpAny_pure (hQ _ _ hk)
theorem pyNext_zipS_item_held {T : Addr} {f : Bool} {oT : Obj} (S : ZipSep2 z TI TO i1 i2 fp1 fp2) (D1 : Draws prog w A.in1 i1 fp1 n P1 St1) (D2 : Draws prog w A.in1 i2 fp2 n P2 St2)
    (hz : IsZipS s.heap z TI TO (rawInt T) f) (hT : s.heap.get? T = some oT) (hTI : IsTupOf2 s.heap TI (.ref i1) (.ref i2)) (st1 : St1 i s.heap) (st2 : St2 i s.heap) (hlt : i < n)
    (hQ : ∀ x1 x2 h' tk, P1 i x1 → P2 i x2 → IsZipS h' z TI TO (rawInt T) true → St1 (i + 1) h' → St2 (i + 1) h' → IsTupOf2 h' s.heap.objs.size x1 x2 → h'.objs.size = s.heap.objs.size + 1 →
      (∀ c o, c ≠ z → c ≠ i1 → c ≠ i2 → s.heap.get? c = some o → h'.get? c = some o) → Q (some (.ref s.heap.objs.size)) { s with heap := h', toks := tk }) :
    wpAny (model prog w) A (pyNext (.ref z)) Q E s := by
  have hTy : s.TypeIs (.ref z) "zip" := ⟨_, hz, rfl⟩
  unfold pyNext
  exact wpAny_bind (wpAny_attempt (wpAny_callSpecial?_slot (name := Str.ofString "__next__") hTy F.slot_zip_next
    (wpAny_call_entry F.slot_zip_next hTy F.entry_zip_next
      (zipS_item_held S D1 D2 hz hT hTI st1 st2 hlt fun x1 x2 h' tk b1 b2 b3 b4 b5 b6 b7 b8 => wpAny_pure (hQ x1 x2 h' tk b1 b2 b3 b4 b5 b6 b7 b8)) (F.args_zip_next_1 _))))
theorem pyNext_zipS_end_held {T : Addr} {f : Bool} {oT : Obj} (hh : A.handled = none) (S : ZipSep2 z TI TO i1 i2 fp1 fp2) (D1 : Draws prog w A.in1 i1 fp1 n P1 St1) (D2 : Draws prog w A.in1 i2 fp2 n P2 St2)
    (hz : IsZipS s.heap z TI TO (rawInt T) f) (hT : s.heap.get? T = some oT) (hTI : IsTupOf2 s.heap TI (.ref i1) (.ref i2)) (st1 : St1 n s.heap) (st2 : St2 n s.heap)
    (hQ : ∀ h' tk, (∀ c o, c ≠ z → c ≠ i1 → c ≠ i2 → s.heap.get? c = some o → h'.get? c = some o) → Q none { s with heap := h', toks := tk }) : wpAny (model prog w) A (pyNext (.ref z)) Q E s := by
  have hTy : s.TypeIs (.ref z) "zip" := ⟨_, hz, rfl⟩
  unfold pyNext
  refine wpAny_bind (wpAny_attempt (wpAny_callSpecial?_slot (name := Str.ofString "__next__") hTy F.slot_zip_next
    (wpAny_call_entry F.slot_zip_next hTy F.entry_zip_next (zipS_end_held hh S D1 D2 hz hT hTI st1 st2 fun h' tk e hk he => ?_) (F.args_zip_next_1 _))))
  obtain ⟨o, ho, hc⟩ := he
  refine wpAny_bind (wpAny_isInstance (T := "StopIteration") (b := true) ⟨o, ho, hc⟩ isSubtype_stop ?_)
  exact wpAny_pure (hQ _ _ hk)
theorem pyIter_zipS {f0 : Value} {Q : Value → Shared → Prop} (hz : IsZipS s.heap z TI TO f0 false) (h : Q (.ref z) s) : wpAny (model prog w) A (pyIter (.ref z)) Q E s := by
  have hT : s.TypeIs (.ref z) "zip" := ⟨_, hz, rfl⟩
  refine wpAny_pyIter_slot hT F.slot_zip_iter (wpAny_call_entry F.slot_zip_iter hT F.entry_zip_iter ?_ (F.args_zip_iter_1 _))
  show wpAny _ _ (ret (.ref z)) _ _ s
  exact wpAny_pure ⟨_, rfl, "zip", _, hT, F.slot_zip_next.lookup, h⟩
end
section
variable {prog : Program} {w : World}
theorem PairArg.zipS (z TI TO i1 i2 t1 t2 : Addr) (S : ZipSep2 z TI TO i1 i2 [i1, t1] [i2, t2]) (xs ys : Array Value) (hxy : ys.size = xs.size)
    (n1 : t1 ≠ i1) (n2 : t2 ≠ i2) :
    PairArg prog w "zip" z [z, TI, TO, i1, i2, t1, t2] [z, TO, i1, i2] xs.size (fun i k v => xs[i]? = some k ∧ ys[i]? = some v)
      (fun h => IsZipS h z TI TO .none false ∧ IsTupOf2 h TI (.ref i1) (.ref i2) ∧ (∃ a b, IsTupOf2 h TO a b) ∧ (h.IsTupleIter i1 t1 0 ∧ h.IsTuple t1 xs) ∧ (h.IsTupleIter i2 t2 0 ∧ h.IsTuple t2 ys)) where
  type := fun s ok => ⟨_, ok.1, rfl⟩
  notDict := by decide
  keep := fun h h' ok hk => by
    obtain ⟨hz, hTI, ⟨a, b, hTO⟩, ⟨h1, hl1⟩, ⟨h2, hl2⟩⟩ := ok
    exact ⟨hk _ _ hz, hk _ _ hTI, ⟨a, b, hk _ _ hTO⟩, ⟨h1.at fun o e => hk _ o e, hl1.at fun o e => hk _ o e⟩, ⟨h2.at fun o e => hk _ o e, hl2.at fun o e => hk _ o e⟩⟩
  there := fun h ok b hb => by
    obtain ⟨hz, hTI, ⟨a, c, hTO⟩, ⟨⟨o1, h1, _⟩, ⟨o3, hl1, _⟩⟩, ⟨⟨o2, h2, _⟩, ⟨o4, hl2, _⟩⟩⟩ := ok
    simp only [List.mem_cons, List.not_mem_nil, or_false] at hb
    rcases hb with rfl | rfl | rfl | rfl | rfl | rfl | rfl
    all_goals first | exact ⟨_, hz⟩ | exact ⟨_, hTI⟩ | exact ⟨_, hTO⟩ | exact ⟨_, h1⟩ | exact ⟨_, h2⟩ | exact ⟨_, hl1⟩ | exact ⟨_, hl2⟩
  sub := fun b hb => by simp at hb ⊢; rcases hb with rfl | rfl | rfl | rfl <;> simp
  noKeys := fun A s Q E hA ok h => getAttrOr_miss_zip ok.1 rfl rfl rfl zip_no_keys (by decide +kernel) hA h
  iter := fun A s d Q E hA ok hd hdf h => by
    obtain ⟨hz, hTI, ⟨a, b, hTO⟩, st1, st2⟩ := ok
    simp only [List.mem_cons, List.not_mem_nil, or_false, not_or] at hdf
    obtain ⟨dz, dTI, dTO, di1, di2, dl1, dl2⟩ := hdf
    have D1 : Draws prog w A.in1 i1 [i1, t1] xs.size _ _ := Draws.tuple (A := A.in1) hA i1 t1 n1 xs
    have D2 : Draws prog w A.in1 i2 [i2, t2] xs.size _ _ := hxy ▸ Draws.tuple (A := A.in1) hA i2 t2 n2 ys
    have ez : z ≠ i1 := fun q => S.zf1 (q ▸ S.mem1)
    have ez2 : z ≠ i2 := fun q => S.zf2 (q ▸ S.mem2)
    refine pyIter_zipS hz (h z [z, TO, i1, i2] (fun i h => IsTupOf2 h TI (.ref i1) (.ref i2) ∧ (h.IsTupleIter i1 t1 i ∧ h.IsTuple t1 xs) ∧ (h.IsTupleIter i2 t2 i ∧ h.IsTuple t2 ys) ∧
      ((IsZipS h z TI TO .none false ∧ ∃ a b, IsTupOf2 h TO a b) ∨ ∃ (T : Addr) (f : Bool) (oT : Obj), IsZipS h z TI TO (rawInt T) f ∧ h.get? T = some oT ∧ T ≠ z ∧ T ≠ i1 ∧ T ≠ i2 ∧ T ≠ d)) s.heap s.toks ?_
      ⟨hTI, st1, st2, .inl ⟨hz, a, b, hTO⟩⟩ (fun _ _ e => e) fun b hb => .inl hb)
    exact {
      off := fun hm => by
        simp only [List.mem_cons, List.not_mem_nil, or_false] at hm
        rcases hm with e | e | e | e
        · exact dz e
        · exact dTO e
        · exact di1 e
        · exact di2 e
      frame := fun i h₁ h₂ st hk => by
        obtain ⟨hTI, ⟨h1, hl1⟩, ⟨h2, hl2⟩, hz⟩ := st
        refine ⟨hk _ _ (Ne.symm dTI) hTI, ⟨h1.at fun o e => hk _ o (Ne.symm di1) e, hl1.at fun o e => hk _ o (Ne.symm dl1) e⟩, ⟨h2.at fun o e => hk _ o (Ne.symm di2) e, hl2.at fun o e => hk _ o (Ne.symm dl2) e⟩, ?_⟩
        rcases hz with ⟨hz, a, b, hTO⟩ | ⟨T, f, oT, hz, hT, r1, r2, r3, r4⟩
        · exact .inl ⟨hk _ _ (Ne.symm dz) hz, a, b, hk _ _ (Ne.symm dTO) hTO⟩
        · exact .inr ⟨T, f, oT, hk _ _ (Ne.symm dz) hz, hk _ _ r4 hT, r1, r2, r3, r4⟩
      item := fun i s₁ Q₁ E₁ hi st hds hQ => by
        obtain ⟨hTI, st1, st2, hz⟩ := st
        have lt : ∀ {c o}, s₁.heap.get? c = some o → s₁.heap.objs.size ≠ c := fun e => Nat.ne_of_gt (Heap.lt_size e)
        have m1 : s₁.heap.objs.size ≠ i1 := let ⟨_, e, _⟩ := st1.1; lt e
        have m2 : s₁.heap.objs.size ≠ i2 := let ⟨_, e, _⟩ := st2.1; lt e
        rcases hz with ⟨hz, a, b, hTO⟩ | ⟨T, f, oT, hz, hT, r1, r2, r3, r4⟩
        · refine pyNext_zipS_item S D1 D2 hz hTI hTO st1 st2 hi fun x1 x2 h' tk b1 b2 a1 a2 a3 a4 a5 a6 hk => ?_
          exact hQ s₁.heap.objs.size _ _ h' tk ⟨b1, b2⟩ (.inl ⟨_, a5, rfl, _, rfl⟩)
            ⟨hk _ _ S.TIz S.TITO S.TIi1 S.TIi2 hTI, a3, a4, .inr ⟨s₁.heap.objs.size, false, _, a1, a5, lt hz, m1, m2, Nat.ne_of_gt hds⟩⟩
            fun c o hc e => hk c o (fun x => hc (by simp [x])) (fun x => hc (by simp [x])) (fun x => hc (by simp [x])) (fun x => hc (by simp [x])) e
        · refine pyNext_zipS_item_held S D1 D2 hz hT hTI st1 st2 hi fun x1 x2 h' tk b1 b2 a1 a3 a4 a5 a6 hk => ?_
          exact hQ s₁.heap.objs.size _ _ h' tk ⟨b1, b2⟩ (.inl ⟨_, a5, rfl, _, rfl⟩)
            ⟨hk _ _ S.TIz S.TIi1 S.TIi2 hTI, a3, a4, .inr ⟨T, true, oT, a1, hk _ _ r1 r2 r3 hT, r1, r2, r3, r4⟩⟩
            fun c o hc e => hk c o (fun x => hc (by simp [x])) (fun x => hc (by simp [x])) (fun x => hc (by simp [x])) e
      done := fun s₁ Q₁ E₁ st hQ => by
        obtain ⟨hTI, st1, st2, hz⟩ := st
        rcases hz with ⟨hz, a, b, hTO⟩ | ⟨T, f, oT, hz, hT, r1, r2, r3, r4⟩
        · exact pyNext_zipS_end hA S D1 D2 hz hTI hTO st1 st2 fun h' tk hk => hQ h' tk fun c o hc e => hk c o (fun x => hc (by simp [x])) (fun x => hc (by simp [x])) (fun x => hc (by simp [x])) (fun x => hc (by simp [x])) e
        · exact pyNext_zipS_end_held hA S D1 D2 hz hT hTI st1 st2 fun h' tk hk => hQ h' tk fun c o hc e => hk c o (fun x => hc (by simp [x])) (fun x => hc (by simp [x])) (fun x => hc (by simp [x])) e }
end

namespace F
theorem typeCall_zip_strict (a b c : Value) : checkTypeCall "zip" ⟨[a, b], [(Str.ofString "strict", c)]⟩ = pure () := by kernel_rfl
theorem newCall_zip_strict (a b c : Value) : checkBuiltinCall "zip.__new__" ⟨[.type "zip", a, b], [(Str.ofString "strict", c)]⟩ = pure () := by kernel_rfl
theorem args_object_init_strict (obj a b c : Value) : argsOk "object.__init__" ⟨[obj, a, b], [(Str.ofString "strict", c)]⟩ := by unfold argsOk; kernel_rfl
end F
abbrev gzS2 (h : Heap) (o1 o2 : Obj) : Heap := (gzO2 h o1 o2).push { cls := .type "zip", data := .fields #[.none, .bool false, .bool true, .ref ((h.push o1).push o2).objs.size, .ref (gzT2 h o1 o2).objs.size] }
theorem meets_zip_newS {v1 v2 : Value} {o1 o2 : Obj} {H1 H2 : Heap → Prop} (B1 : Begins v1 o1 H1) (B2 : Begins v2 o2 H2) :
    Meets (Builtin.«zip.__new__» ⟨[.type "zip", v1, v2], [(Str.ofString "strict", .bool true)]⟩) (fun _ R s => (H1 s.heap ∧ H2 s.heap) ∧
      R (.ok (.ret (.ref (gzO2 s.heap o1 o2).objs.size))) { s with heap := gzS2 s.heap o1 o2 }) :=
  .of_wp fun prog w A R s h => by
    obtain ⟨hp, g, d, tk, os⟩ := s; obtain ⟨⟨h1, h2⟩, h⟩ := h
    have hsub := sub_zip
    have q1 : ∀ {A' : Around} {E : Value → Shared → Prop} {Q : Value → Shared → Prop}, Q (.ref hp.objs.size) ⟨(hp.push o1), g, d, tk, os⟩ → wpAny (model prog w) A' (pyIter v1) Q E ⟨hp, g, d, tk, os⟩ :=
      fun q => B1.iter prog w _ _ ⟨hp, g, d, tk, os⟩ _ (B1.keeps _ _ h1 fun b o' e => e) q
    have q2 : ∀ {A' : Around} {E : Value → Shared → Prop} {Q : Value → Shared → Prop}, Q (.ref (hp.push o1).objs.size) ⟨((hp.push o1).push o2), g, d, tk, os⟩ → wpAny (model prog w) A' (pyIter v2) Q E ⟨(hp.push o1), g, d, tk, os⟩ :=
      fun q => B2.iter prog w _ _ ⟨(hp.push o1), g, d, tk, os⟩ _ (B2.keeps _ _ h2 fun b o' e => (Heap.get?_push_of_some _ e)) q
    have e1 : (Str.ofString "strict" == ("strict" : Str)) = true := by decide +kernel
    have e2 : (Str.ofString "strict" != ("strict" : Str)) = false := by decide +kernel
    have e3 : (("strict" : Str) == Str.ofString "strict") = true := by decide +kernel
    wp_walk using q1, q2
    exact ⟨_, rfl, h⟩
end PySem
set_option Elab.async false
set_option linter.all false
set_option maxRecDepth 100000
set_option maxHeartbeats 2000000
/-! dict(zip(xs, ys, strict=True)) as an expression -/
namespace PySem
section
variable {prog : Program} {w : World} {A : Around} {E : Value → Shared → Prop} {s : Shared}
theorem zipS_begins2 {v1 v2 : Value} {o1 o2 : Obj} {H1 H2 : Heap → Prop} {Q : Value → Shared → Prop} (B1 : Begins v1 o1 H1) (B2 : Begins v2 o2 H2) (h1 : H1 s.heap) (h2 : H2 s.heap)
    (h : ∀ h', IsZipS h' (s.heap.objs.size + 4) (s.heap.objs.size + 2) (s.heap.objs.size + 3) .none false → IsTupOf2 h' (s.heap.objs.size + 2) (.ref s.heap.objs.size) (.ref (s.heap.objs.size + 1)) →
      IsTupOf2 h' (s.heap.objs.size + 3) .none .none → h'.get? s.heap.objs.size = some o1 → h'.get? (s.heap.objs.size + 1) = some o2 → h'.objs.size = s.heap.objs.size + 5 →
      (∀ c o, s.heap.get? c = some o → h'.get? c = some o) → Q (.ref (s.heap.objs.size + 4)) { s with heap := h' }) :
    wpAny (model prog w) A (call (.type "zip") [v1, v2] [(Str.ofString "strict", .bool true)]) Q E s := by
  refine callType_newKw F.called_zip (by decide) (F.typeCall_zip_strict _ _ _) (F.newCall_zip_strict _ _ _) (fun obj => F.args_object_init_strict obj _ _ _) F.entry_zip_new
    (meets_zip_newS B1 B2) ⟨⟨h1, h2⟩, ?_⟩
  have z1 : (s.heap.push o1).objs.size = s.heap.objs.size + 1 := by rw [Heap.size_push]
  have z2 : ((s.heap.push o1).push o2).objs.size = s.heap.objs.size + 2 := by rw [Heap.size_push, z1]
  have zT : (gzT2 s.heap o1 o2).objs.size = s.heap.objs.size + 3 := by rw [Heap.size_push, z2]
  have zO : (gzO2 s.heap o1 o2).objs.size = s.heap.objs.size + 4 := by rw [Heap.size_push, zT]
  have zZ : (gzS2 s.heap o1 o2).objs.size = s.heap.objs.size + 5 := by rw [Heap.size_push, zO]
  have gZ : (gzS2 s.heap o1 o2).get? (gzO2 s.heap o1 o2).objs.size = some { cls := .type "zip", data := .fields #[.none, .bool false, .bool true, .ref ((s.heap.push o1).push o2).objs.size, .ref (gzT2 s.heap o1 o2).objs.size] } := Heap.get?_push_size _ rfl
  have gO : (gzS2 s.heap o1 o2).get? (gzT2 s.heap o1 o2).objs.size = some { cls := .type "tuple", data := .seq #[.none, .none] } := Heap.get?_push_of_some _ (Heap.get?_push_size _ rfl)
  have gT : (gzS2 s.heap o1 o2).get? ((s.heap.push o1).push o2).objs.size = some { cls := .type "tuple", data := .seq #[.ref s.heap.objs.size, .ref (s.heap.push o1).objs.size] } := Heap.get?_push_of_some _ (Heap.get?_push_of_some _ (Heap.get?_push_size _ rfl))
  have g1 : (gzS2 s.heap o1 o2).get? s.heap.objs.size = some o1 := Heap.get?_push_of_some _ (Heap.get?_push_of_some _ (Heap.get?_push_of_some _ (Heap.get?_push_of_some _ (Heap.get?_push_size _ B1.free))))
  have g2 : (gzS2 s.heap o1 o2).get? (s.heap.push o1).objs.size = some o2 := Heap.get?_push_of_some _ (Heap.get?_push_of_some _ (Heap.get?_push_of_some _ (Heap.get?_push_size _ B2.free)))
  have kk : ∀ c o, s.heap.get? c = some o → (gzS2 s.heap o1 o2).get? c = some o := fun c o e => Heap.get?_push_of_some _ (Heap.get?_push_of_some _ (Heap.get?_push_of_some _ (Heap.get?_push_of_some _ (Heap.get?_push_of_some _ e))))
  show _ ∧ _
  rw [zO] at gZ ⊢
  rw [z2, zT] at gZ
  rw [zT] at gO
  rw [z2, z1] at gT
  rw [z1] at g2
  exact ⟨⟨_, gZ, rfl⟩, h _ gZ gT gO g1 g2 zZ kk⟩
theorem callWith_typeKw {M : Model} {A : Around} {E : Value → Shared → Prop} {s : Shared} {env : Env} {pos : Pos} {T : String} {e : Expr} {rest : List Expr} {kws : List Keyword} {Q : Value → Shared → Prop}
    (h : wpAny M A (spliced (backTo pos (starEach (e :: rest) env))) (fun vs s₁ => wpAny M A (evalAll ((backToKw pos (keywordEach kws env)).map (·.2)))
      (fun kvs s₂ => wpAny M A (call (.type T) vs (((backToKw pos (keywordEach kws env)).filterMap (·.1)).zip kvs)) Q E s₂) E s₁) E s)
    (he : backTo pos (starEach (e :: rest) env) = (false, eval e env) :: backTo pos (starEach rest env))
    (hplain : (backTo pos (starEach (e :: rest) env)).any (·.1) = false)
    (hall : (backToKw pos (keywordEach kws env)).all (·.1.isSome) = true)
    (hkw : (backToKw pos (keywordEach kws env)).any (·.1.isNone) = false) :
    wpAny M A (callWith pos (.type T) [] (backTo pos (starEach (e :: rest) env)) (backToKw pos (keywordEach kws env))) Q E s := by
  unfold callWith
  refine wpAny_bind (wpAny_holding (wpAny_mono (Q := fun a s₁ => wpAny M A (call (.type T) a.pos a.kw) Q E s₁) ?_ (fun a s₁ h₁ => wpAny_bind (wpAny_standAt ?_)) fun _ _ x => x))
  · rw [he] at h ⊢
    exact PyProof.Rows.evalArgs_kwB hall h
  · simp only [hplain, hkw, Bool.or_false]
    refine wpAny_bind (wpAny_pure ?_)
    exact wpAny_bind (wpAny_mono h₁ (fun r s₂ hr => wpAny_bind (wpAny_holding (wpAny_point (wpAny_pure hr)))) fun _ _ x => x)
end
end PySem
namespace L2
open PySem PySem.Spec PyProof.Rows
section
variable {X : Cx} {a b c : Expr} {ta tb tc : TE} {p p1 kp pos cpos : Pos}
/-- dict(zip(a, b, strict=c)): a row of distinct texts, a row of as many values, c the constant True -/
def tDictZip (K : PySem.W.Frag) (ta tb tc : TE) : TE := fun σ H Q => ta σ H fun x H1 => tb σ H1 fun y H2 => tc σ H2 fun z H3 => ∃ (l1 l2 : Addr) (ks : List Str) (vs : List V), x = .ref l1 ∧ y = .ref l2 ∧ z = .bl true ∧
  SqT K H3 l1 (ks.map V.str) ∧ SqT K H3 l2 vs ∧ ks.length = vs.length ∧ ∀ p, H3 p = none → Q (.ref p) (upd H3 p (.dK (mergeK [] ((ks.map Sum.inr : List Key).zip vs))))
theorem zip_pairs : ∀ {ks : List Str} {vs : List V} {us ws : List Value}, Vals (ks.map V.str) us → Vals vs ws → ks.length = vs.length → KV ((ks.map Sum.inr : List Key).zip vs) ((ks.map Sum.inr : List Key).zip ws) ∧
    ∀ (i : Nat) (k v : Value), us[i]? = some k → ws[i]? = some v → ∃ q, ((ks.map Sum.inr : List Key).zip ws)[i]? = some (q, v) ∧ keyIs q k = true
  | [], [], us, ws, h1, h2, _ => by
    cases h1; cases h2
    exact ⟨.nil, fun i k v e => by simp at e⟩
  | [], _ :: _, _, _, _, _, h => by cases h
  | _ :: _, [], _, _, _, _, h => by cases h
  | k :: ks, v :: vs, us, ws, h1, h2, hl => by
    rw [List.map_cons] at h1
    cases h1 with
    | @cons _ u _ us r1 t1 =>
      cases h2 with
      | @cons _ w _ ws r2 t2 =>
        obtain ⟨g1, g2⟩ := zip_pairs t1 t2 (by simpa using hl)
        refine ⟨?_, fun i k' v' e1 e2 => ?_⟩
        · rw [List.map_cons, List.zip_cons_cons, List.zip_cons_cons]
          exact .cons ⟨rfl, r2⟩ g1
        · cases i with
          | zero =>
            simp only [List.getElem?_cons_zero, Option.some.injEq] at e1 e2
            subst e1; subst e2
            obtain ⟨t, rfl⟩ := r1
            exact ⟨.inr k, by simp, by simp [keyIs, Value.isStrOf]⟩
          | succ i =>
            simp only [List.getElem?_cons_succ] at e1 e2
            obtain ⟨q, e3, e4⟩ := g2 i k' v' e1 e2
            exact ⟨q, by simpa using e3, e4⟩
theorem nm2 {x a b : Nat} (h1 : x ≠ a) (h2 : x ≠ b) : x ∉ [a, b] := by simp [h1, h2]
theorem sep_of {n l1 l2 : Nat} (h1 : l1 < n) (h2 : l2 < n) : ZipSep2 (n + 4) (n + 2) (n + 3) n (n + 1) [n, l1] [n + 1, l2] where
  TIz := (by omega : (n+2:Nat) ≠ n+4)
  TOz := (by omega : (n+3:Nat) ≠ n+4)
  TITO := (by omega : (n+2:Nat) ≠ n+3)
  TIi1 := (by omega : (n+2:Nat) ≠ n)
  mem1 := by simp
  zf1 := nm2 (by omega) (by omega)
  Tf1 := nm2 (by omega) (by omega)
  TIi2 := (by omega : (n+2:Nat) ≠ n+1)
  mem2 := by simp
  zf2 := nm2 (by omega) (by omega)
  Tf2 := nm2 (by omega) (by omega)
  sep1_2 := nm2 (by omega) (by omega)
  sep2_1 := nm2 (by omega) (by omega)
theorem pe_dictZip (hcal : X.calm = true) (hg : Gl X "dict") (hm : X.mg "dict" = none) (hg1 : Gl X "zip") (hm1 : X.mg "zip" = none) (ha : PE X a ta) (hb : PE X b tb) (hc : PE X c tc)
    (hs : starEach [a, b] X.env = (false, eval a X.env) :: starEach [b] X.env := by rfl) (hs2 : starEach [b] X.env = (false, eval b X.env) :: starEach [] X.env := by rfl)
    (na : starEach [.Call (.Name "zip" p1) [a, b] [⟨some "strict", c, kp⟩] cpos] X.env = (false, eval (.Call (.Name "zip" p1) [a, b] [⟨some "strict", c, kp⟩] cpos) X.env) :: starEach [] X.env := by rfl) :
    PE X (.Call (.Name "dict" p) [.Call (.Name "zip" p1) [a, b] [⟨some "strict", c, kp⟩] cpos] [] pos) (tDictZip X.K ta tb tc) := by
  refine ⟨fun pins s σ H Q I h => ?_⟩
  refine Call_ (ld_blt (u := .type "dict") I hg hm (by decide +kernel) ?_)
  refine PyProof.Rows.callWith_type1 (PyProof.Rows.args_cons ?_ na) na rfl
  refine wpAny_Call_Name_kw (ld_blt (u := .type "zip") I hg1 hm1 (by decide +kernel) ?_ (by decide) (by decide))
  have hA : wpAny (model X.prog X.w) X.A (spliced (backTo cpos (starEach [a, b] X.env))) (fun us s1 => ∃ x y u v H2, us = [u, v] ∧ Inv X pins σ H2 s1 ∧ RelV x u ∧ RelV y v ∧ (tc σ H2 fun z H3 => ∃ (l1 l2 : Addr) (ks : List Str) (vs : List V), x = .ref l1 ∧ y = .ref l2 ∧ z = .bl true ∧
      SqT X.K H3 l1 (ks.map V.str) ∧ SqT X.K H3 l2 vs ∧ ks.length = vs.length ∧ ∀ p, H3 p = none → Q (.ref p) (upd H3 p (.dK (mergeK [] ((ks.map Sum.inr : List Key).zip vs)))))) X.xe s :=
    PyProof.Rows.args_cons (thn (ha.run pins s σ H _ I h) fun u s1 ⟨x, H1, I1, r1, q1⟩ => PyProof.Rows.args_cons (thn (hb.run pins s1 σ H1 _ I1 q1) fun v s2 ⟨y, H2, I2, r2, q2⟩ => PyProof.Rows.args_nil ⟨x, y, u, v, H2, rfl, I2, r1, r2, q2⟩) hs2) hs
  refine PySem.callWith_typeKw (thn hA fun us s1 ⟨x, y, u, v, H1, eu, I1, r1, r2, q1⟩ => ?_) (by rw [hs]; rfl) (by rw [hs, hs2]; rfl) rfl rfl
  subst eu
  show wpAny _ _ (evalAll ((do let v ← eval c X.env; standAt cpos; pure v) :: (backToKw cpos (keywordEach [] X.env)).map (·.2))) _ _ s1
  refine wpAny_evalAll_cons (wpAny_bind (thn (hc.run pins s1 σ H1 _ I1 q1) fun dv s2 ⟨z, H2, I2, r3, l1, l2, ks, vs, ex, ey, ez, g1, g2, hl, q⟩ => wpAny_bind (wpAny_standAt (wpAny_pure (wpAny_evalAll_nil ?_)))))
  subst ex; subst ey; subst ez
  cases r1; cases r2; cases r3
  show wpAny _ _ (call (.type "zip") [.ref l1, .ref l2] [(Str.ofString "strict", .bool true)]) _ _ s2
  obtain ⟨us, ru, pu, zu⟩ := I2.tuple g1
  obtain ⟨ws, rw', pw, zw⟩ := I2.tuple g2
  have hu : s2.heap.IsTuple l1 us.toArray := by
    obtain ⟨o, e1, e2, n, e3⟩ := pu; exact ⟨o, e1, e2, n, e3⟩
  have hw : s2.heap.IsTuple l2 ws.toArray := by
    obtain ⟨o, e1, e2, n, e3⟩ := pw; exact ⟨o, e1, e2, n, e3⟩
  have n1 : l1 < s2.heap.objs.size := let ⟨_, e, _⟩ := hu; Heap.lt_size e
  have n2 : l2 < s2.heap.objs.size := let ⟨_, e, _⟩ := hw; Heap.lt_size e
  have lu : us.length = ks.length := by have := ru.length; simpa using this.symm
  have lw : ws.length = vs.length := by have := rw'.length; simpa using this.symm
  refine PySem.zipS_begins2 (begins_tuple l1 us.toArray) (begins_tuple l2 ws.toArray) hu hw fun h' hz hTI hTO ho1 ho2 hsz hk => ?_
  refine PyProof.Rows.args_nil ?_
  obtain ⟨gk, gr⟩ := zip_pairs ru rw' hl
  have S := sep_of n1 n2
  have it1 : h'.IsTupleIter s2.heap.objs.size l1 0 := ⟨_, ho1, rfl, rfl⟩
  have it2 : h'.IsTupleIter (s2.heap.objs.size + 1) l2 0 := ⟨_, ho2, rfl, rfl⟩
  refine PySem.call_dict_pairs (knd := mixKind X.prog X.w) (kvs := (ks.map Sum.inr : List Key).zip ws) (PySem.PairArg.zipS _ _ _ _ _ l1 l2 S us.toArray ws.toArray (by simp; omega) (Nat.ne_of_lt n1) (Nat.ne_of_lt (Nat.lt_succ_of_lt n2))) (I2.ok.hd hcal)
    ⟨hz, hTI, ⟨_, _, hTO⟩, ⟨it1, hu.at fun o e => hk _ o e⟩, ⟨it2, hw.at fun o e => hk _ o e⟩⟩
    ⟨by simp; omega, fun i k v ⟨e1, e2⟩ => gr i k v (by simpa using e1) (by simpa using e2)⟩ (by simp; rw [lu]; simpa using zu) fun h'' tk hd'' hk2 => ?_
  have keep : ∀ b o, s2.heap.get? b = some o → h''.get? b = some o := fun b o e => hk2 b o (fun hb => by
    have hlt : b < s2.heap.objs.size := Heap.lt_size e
    simp only [List.mem_cons, List.not_mem_nil, or_false] at hb
    rcases hb with q | q | q | q
    · exact absurd (q ▸ hlt : s2.heap.objs.size + 4 < s2.heap.objs.size) (by omega)
    · exact absurd (q ▸ hlt : s2.heap.objs.size + 3 < s2.heap.objs.size) (by omega)
    · exact absurd (q ▸ hlt : s2.heap.objs.size < s2.heap.objs.size) (by omega)
    · exact absurd (q ▸ hlt : s2.heap.objs.size + 1 < s2.heap.objs.size) (by omega)) (hk b o e)
  have hmd : (h'.objs.size == sysModules) = false := beq_eq_false_iff_ne.mpr (Nat.ne_of_gt (show sysModules < h'.objs.size by rw [hsz]; exact Nat.lt_of_lt_of_le I2.big (Nat.le_add_right _ 5)))
  have hlen : (mergeK [] ((ks.map Sum.inr : List Key).zip vs)).length ≤ sizeLine := by
    refine Nat.le_trans (length_mergeK _ []) ?_
    simp only [List.length_nil, Nat.zero_add, List.length_zip, List.length_map]
    have : ks.length ≤ sizeLine := by simpa using zu
    omega
  exact ⟨.ref h'.objs.size, upd H2 h'.objs.size (.dK (mergeK [] ((ks.map Sum.inr : List Key).zip vs))), I2.laid (t' := tk) keep (by rw [hsz]; omega) (show ObjOk X.prog X.w _ _ _ (.dK (mergeK [] ((ks.map Sum.inr : List Key).zip vs))) from ⟨hlen, hmd, merged [] ((ks.map Sum.inr : List Key).zip ws), KV.merge gk .nil, hd''⟩), rfl, q _ (I2.hok.fresh (by rw [hsz]; omega))⟩
end
end L2
set_option Elab.async false
set_option linter.all false
set_option maxRecDepth 100000
set_option maxHeartbeats 2000000
namespace L2
open PySem PySem.Spec PyProof.Rows
theorem boot_sorted : bootBuiltins "sorted" = some (.builtin "sorted") := by decide +kernel
/-- sorted(xs): only a permutation is told -/
def tSortP (K : PySem.W.Frag) (te : TE) : TE := fun σ H Q => te σ H fun x H1 => ∃ (l : Addr) (vs : List V) (ds : List PyData), x = .ref l ∧ SqL K H1 l vs ∧ DpAll K H1 vs ds ∧ PySem.W.AllAlike ds ∧ PySem.W.Sortable ds ∧ vs.length ≤ 1000 ∧ (∀ d ∈ ds, d.depth ≤ 4) ∧
  ∀ (p : Addr) (vs' : List V), H1 p = none → vs'.Perm vs → Q (.ref p) (upd H1 p (.lst vs'))
section
variable {X : Cx} {e : Expr} {te : TE} {q1 pos : Pos}
theorem dp_each {pins : List (Addr × Obj)} {σ : St} {H : Hp} {s : Shared} (I : Inv X pins σ H s) : ∀ {vs : List V} {ds : List PyData} {us : List Value}, DpAll X.K H vs ds → Vals vs us →
    PySem.W.EachIs (fun u (b : V × PyData) => RelV b.1 u) us (vs.zip ds) ∧ PySem.W.EachIs (fun u (b : V × PyData) => ∃ as, Reads s.heap u b.2 as) us (vs.zip ds) ∧ (vs.zip ds).map Prod.snd = ds ∧ (vs.zip ds).map Prod.fst = vs
  | _, _, _, .nil, .nil => ⟨.nil, .nil, rfl, rfl⟩
  | _, _, _, .cons h1 h2, .cons r1 r2 => by
    obtain ⟨a, b, c, d⟩ := dp_each I h2 r2
    refine ⟨.cons r1 a, .cons (Dp.reads I _ _ _ h1 r1) b, ?_, ?_⟩
    · simp [c]
    · simp [d]
theorem each_back : ∀ {bs : List (V × PyData)} {us : List Value}, PySem.W.EachIs (fun u (b : V × PyData) => RelV b.1 u) us bs → Vals (bs.map Prod.fst) us
  | _, _, .nil => .nil
  | _, _, .cons h t => .cons h (each_back t)
theorem pe_sortP (hc : X.calm = true) (hu : X.A.units + 10 < cLine) (hg : Gl X "sorted") (hm : X.mg "sorted" = none) (he : PE X e te)
    (hs : starEach [e] X.env = (false, eval e X.env) :: starEach [] X.env := by rfl) : PE X (.Call (.Name "sorted" q1) [e] [] pos) (tSortP X.K te) := by
  refine ⟨fun pins s σ H Q I h => ?_⟩
  refine Call_ (ld_blt I hg hm boot_sorted ?_)
  refine PyProof.Rows.callWith_builtin1 (PyProof.Rows.args_cons (thn (he.run pins s σ H _ I h) fun u s1 ⟨x, H1, I1, r1, l, vs, ds, ex, hq, hd, hal, hk, hz, hdep, q⟩ => PyProof.Rows.args_nil ?_) hs) hs rfl
  subst ex
  cases r1
  obtain ⟨its, rv, pl, hzl⟩ := I1.list hq
  obtain ⟨g1, g2, g3, g4⟩ := dp_each I1 hd rv
  have hlen : (vs.zip ds).length = vs.length := by rw [← List.length_map (f := Prod.fst), g4]
  have hlt : vs.length ≤ sizeLine := Nat.le_of_lt (small1000 hz)
  refine PySem.W.sorted_data (enc := Prod.snd) pl.isList g1 g2 (by rw [g3]; exact hal) (by rw [g3]; exact hk) (by rw [hlen]; exact hlt) (fun b hb => ?_) fun out hlo eo => ?_
  · have : b.2 ∈ ds := by rw [← g3]; exact List.mem_map_of_mem hb
    have := hdep _ this
    omega
  · have hp : ((vs.zip ds).mergeSort (PySem.W.dataLe false Prod.snd)).Perm (vs.zip ds) := List.mergeSort_perm _ _
    have rv' := each_back eo
    have hp2 : (((vs.zip ds).mergeSort (PySem.W.dataLe false Prod.snd)).map Prod.fst).Perm vs := by
      have := hp.map Prod.fst
      rwa [g4] at this
    obtain ⟨cc, hD⟩ := sortedAll_at s1.heap its out.toArray
    have hnone : H1 (s1.heap.objs.size + 1) = none := I1.hok.fresh (Nat.le_succ _)
    refine ⟨.ref (s1.heap.objs.size + 1), _, I1.laid (t' := s1.toks) (o := .lst _) (fun b o q => sortedAll_old q) (Nat.le_succ _) ?_, rfl, q (s1.heap.objs.size + 1) _ hnone hp2⟩
    exact ⟨by rw [hp2.length_eq]; exact hlt, out, cc, rv', hD⟩
end
end L2
namespace Nb
open PySem PySem.Spec PyProof.Rows L2
section
variable {E : EC} {e a b z : Expr} {δ : Ds} {p p1 p2 q q1 pos cpos apos kp : Pos}
theorem ev_lenSet {xs : List Str} {x : D} (ha : EV E e δ (.wk x)) (hx : x = .lst (xs.map D.str)) (nd : xs.Nodup) (hz : xs.length ≤ 1000) (hg : GlS E.sc "len") (hm : E.mg "len" = none) (hg2 : GlS E.sc "set") (hm2 : E.mg "set" = none)
    (hs : ∀ env, starEach [e] env = (false, eval e env) :: starEach [] env := by intro _; rfl) : EV E (.Call (.Name "len" p) [.Call (.Name "set" p2) [e] [] q] [] pos) δ (.d (.int xs.length)) := fun B γ σ H er Q k =>
  we_of (t := tLenSetN E.K (WE (Fam E) e)) (fun X hX => by rw [← hX.K]; exact pe_lenSetN hX.calm (gl_of hX hg) (by rw [hX.mg]; exact hm) (gl_of hX hg2) (by rw [hX.mg]; exact hm2) (we_pe hX) (hs _)) (ha B γ σ H er _ fun v H1 l1 rv => by
    subst hx
    obtain ⟨p, vs, rfl, _, h1, h2⟩ := wk_lst rv
    rw [reps_str] at h2
    subst h2
    exact ⟨p, xs, rfl, .inl (.inl h1), nd, hz, k _ H1 l1 (re_int.mpr rfl)⟩)
theorem ev_tupVals {ks : List Str} {l : List D} (ha : EV E e δ (.d (.dct ks l))) (hg : GlS E.sc "tuple") (hm : E.mg "tuple" = none) (hbase : ∀ env, attributeBase e "values" env (eval e env) = eval e env := by intro _; rfl) (hline : (apos.endLine == cpos.line) = true := by rfl)
    (na : ∀ env, starEach [.Call (.Attribute e "values" apos) [] [] cpos] env = (false, eval (.Call (.Attribute e "values" apos) [] [] cpos) env) :: starEach [] env := by intro _; rfl) :
    EV E (.Call (.Name "tuple" p) [.Call (.Attribute e "values" apos) [] [] cpos] [] pos) δ (.d (.tup l)) := fun B γ σ H er Q k =>
  we_of (t := tTupVals (WE (Fam E) e)) (fun X hX => pe_tupVals hX.calm (gl_of hX hg) (by rw [hX.mg]; exact hm) (we_pe hX) (hbase _) hline (na _)) (ha B γ σ H er _ fun v H1 l1 rv => by
    simp only [RE, Rep] at rv
    obtain ⟨d, vs, rfl, nB, hl, hd, rs⟩ := rv
    have er1 := er.step l1
    refine ⟨d, _, rfl, hd, fun p hp => ?_⟩
    have e : List.map Prod.snd (((ks.map Sum.inr : List Key)).zip vs) = vs := List.map_snd_zip (by rw [List.length_map]; omega)
    rw [e]
    exact k _ _ (l1.trans (LeC.new hp)) (re_newT er1.dom hp er1.cb rs))
/-- dict(zip(a, b, strict=True)) -/
theorem en_dictZip {ks : List Str} {l : List D} (ha : EV E a δ (.d (.tup (ks.map D.str)))) (hb : EV E b δ (.d (.tup l))) (hz : EV E z δ (.d (.bl true))) (hl : ks.length = l.length) (nd : ks.Nodup) (hg : GlS E.sc "dict") (hm : E.mg "dict" = none) (hg1 : GlS E.sc "zip") (hm1 : E.mg "zip" = none)
    (hs : ∀ env, starEach [a, b] env = (false, eval a env) :: starEach [b] env := by intro _; rfl) (hs2 : ∀ env, starEach [b] env = (false, eval b env) :: starEach [] env := by intro _; rfl)
    (na : ∀ env, starEach [.Call (.Name "zip" p1) [a, b] [⟨some "strict", z, kp⟩] cpos] env = (false, eval (.Call (.Name "zip" p1) [a, b] [⟨some "strict", z, kp⟩] cpos) env) :: starEach [] env := by intro _; rfl) :
    EN E (.Call (.Name "dict" p) [.Call (.Name "zip" p1) [a, b] [⟨some "strict", z, kp⟩] cpos] [] pos) δ (fun d => d = .dct ks l) := fun B γ σ H er Q k =>
  we_of (t := tDictZip E.K (WE (Fam E) a) (WE (Fam E) b) (WE (Fam E) z)) (fun X hX => by rw [← hX.K]; exact pe_dictZip hX.calm (gl_of hX hg) (by rw [hX.mg]; exact hm) (gl_of hX hg1) (by rw [hX.mg]; exact hm1) (we_pe hX) (we_pe hX) (we_pe hX) (hs _) (hs2 _) (na _)) (ha B γ σ H er _ fun v H1 l1 rv => hb B γ σ H1 (er.step l1) _ fun w H2 l2 rw' => hz B γ σ H2 ((er.step l1).step l2) _ fun u H3 l3 ru => by
    have er3 := ((er.step l1).step l2).step l3
    obtain ⟨q1, vs, rfl, _, h1, h2⟩ := re_tup ((rv.step l2 er.cb).step l3 er.cb)
    obtain ⟨q2, ws, rfl, _, h3, h4⟩ := re_tup (rw'.step l3 er.cb)
    rw [reps_str] at h2
    subst h2
    rw [re_bl] at ru
    subst ru
    have hlw : ks.length = ws.length := by rw [hl, h4.len]
    have hmg := mergeK_new ks ws [] [] hlw rfl (by simpa using nd)
    have hmg : mergeK [] (((ks).map Sum.inr : List Key).zip ws) = ((ks).map Sum.inr : List Key).zip ws := by simpa using hmg
    refine ⟨q1, q2, ks, ws, rfl, rfl, rfl, .inl (.inl h1), .inl (.inl h3), hlw, fun t ht => ?_⟩
    have l := (l1.trans l2).trans l3
    exact k t _ _ (l.fresh ht) rfl (l.trans (LeC.new ht)) ⟨ws, hlw, by rw [upd_same, hmg], reps_grow er3 ht (LeC.new ht) h4⟩)
/-- sorted(rows of (number, row of numbers)): some order -/
theorem dp_ints {K : PySem.W.Frag} {H : Hp} : ∀ (ns : List Int), DpAll K H (ns.map V.int) (ns.map PyData.int)
  | [] => .nil
  | n :: ns => .cons (.int n) (dp_ints ns)
theorem dp_rows {B : Addr → Prop} {H : Hp} : ∀ {rs : List (Int × List Int)} {vs : List V}, Reps E.cl B (rs.map fun r => .tup [.int r.1, .tup (r.2.map D.int)]) vs H → DpAll E.K H vs (rs.map fun r => PyData.tuple [.int r.1, .tuple (r.2.map PyData.int)])
  | [], vs, h => by rw [reps_nil.mp h]; exact .nil
  | r :: rs, vs, h => by
    obtain ⟨v, vs', rfl, hr, hrs⟩ := reps_cons.mp h
    refine .cons ?_ (dp_rows hrs)
    simp only [Rep, reps_cons, reps_nil] at hr
    obtain ⟨a, ws, rfl, _, ha, u1, w1, rfl, rfl, u2, w2, rfl, ⟨a2, ws2, rfl, _, ha2, h2⟩, rfl⟩ := hr
    rw [reps_int] at h2
    subst h2
    exact .tup (.inl (.inl ha)) (.cons (.int _) (.cons (.tup (.inl (.inl ha2)) (dp_ints _)) .nil))
theorem depthAll_ints : ∀ (ns : List Int), PyData.depthAll (ns.map PyData.int) = 0
  | [] => rfl
  | n :: ns => by simp [PyData.depthAll, PyData.depth, depthAll_ints ns]
theorem alike_ints : ∀ (ns ms : List Int), PySem.W.alikeAll (ns.map PyData.int) (ms.map PyData.int) = true
  | [], ms => by simp [PySem.W.alikeAll]
  | n :: ns, [] => by simp [PySem.W.alikeAll]
  | n :: ns, m :: ms => by simp [PySem.W.alikeAll, PySem.W.alike, alike_ints ns ms]
theorem reps_perm {cl : Str → Addr} {B : Addr → Prop} {H : Hp} {ws vs : List V} (h : ws.Perm vs) : ∀ {l : List D}, Reps cl B l vs H → ∃ m, m.Perm l ∧ Reps cl B m ws H := by
  induction h with
  | nil => intro l h; exact ⟨l, .refl _, h⟩
  | @cons x ws vs _ ih =>
    intro l h
    cases l with
    | nil => exact absurd (reps_nil.mp h) (by simp)
    | cons d l =>
      obtain ⟨v, vs', e, r, rs⟩ := reps_cons.mp h
      injection e with e1 e2
      subst e1; subst e2
      obtain ⟨m, h1, h2⟩ := ih rs
      exact ⟨d :: m, h1.cons d, .cons r h2⟩
  | swap x y vs =>
    intro l h
    cases l with
    | nil => exact absurd (reps_nil.mp h) (by simp)
    | cons d l =>
      obtain ⟨v, vs', e, r, rs⟩ := reps_cons.mp h
      injection e with e1 e2
      subst e1; subst e2
      cases l with
      | nil => exact absurd (reps_nil.mp rs) (by simp)
      | cons d2 l =>
        obtain ⟨v, vs', e, r2, rs⟩ := reps_cons.mp rs
        injection e with e1 e2
        subst e1; subst e2
        exact ⟨d2 :: d :: l, List.Perm.swap _ _ _, .cons r2 (.cons r rs)⟩
  | trans _ _ ih1 ih2 =>
    intro l h
    obtain ⟨m, h1, h2⟩ := ih2 h
    obtain ⟨m', h3, h4⟩ := ih1 h2
    exact ⟨m', h3.trans h1, h4⟩
theorem perm_map_inv {α β : Type} {f : α → β} {m : List β} {xs : List α} (h : m.Perm (xs.map f)) : ∃ ys : List α, ys.Perm xs ∧ m = ys.map f := by
  generalize hl : xs.map f = l at h
  induction h generalizing xs with
  | nil => exact ⟨xs, .refl _, hl.symm⟩
  | @cons x ws vs _ ih =>
    cases xs with
    | nil => cases hl
    | cons a xs =>
      rw [List.map_cons] at hl
      injection hl with e1 e2
      obtain ⟨ys, h1, h2⟩ := ih e2
      exact ⟨a :: ys, h1.cons a, by rw [List.map_cons, e1, h2]⟩
  | swap x y vs =>
    cases xs with
    | nil => cases hl
    | cons a xs =>
      rw [List.map_cons] at hl
      injection hl with e1 e2
      cases xs with
      | nil => cases e2
      | cons b xs =>
        rw [List.map_cons] at e2
        injection e2 with e3 e4
        exact ⟨b :: a :: xs, List.Perm.swap _ _ _, by rw [List.map_cons, List.map_cons, e1, e3, e4]⟩
  | trans _ _ ih1 ih2 =>
    obtain ⟨ys, h1, h2⟩ := ih2 hl
    obtain ⟨zs, h3, h4⟩ := ih1 h2.symm
    exact ⟨zs, h3.trans h1, h4⟩
theorem evp_sortIT {rs : List (Int × List Int)} (ha : EV E e δ (.wk (.lst (rs.map fun r => .tup [.int r.1, .tup (r.2.map D.int)])))) (hz : rs.length ≤ 1000) (hg : GlS E.sc "sorted") (hm : E.mg "sorted" = none)
    (hs : ∀ env, starEach [e] env = (false, eval e env) :: starEach [] env := by intro _; rfl) :
    EVP E (.Call (.Name "sorted" p) [e] [] pos) δ (fun r => ∃ rs' : List (Int × List Int), rs'.Perm rs ∧ r = .d (.lst (rs'.map fun r => .tup [.int r.1, .tup (r.2.map D.int)]))) := fun B γ σ H er Q k =>
  we_of (t := tSortP E.K (WE (Fam E) e)) (fun X hX => by rw [← hX.K]; exact pe_sortP hX.calm (by have := hX.room.un; omega) (gl_of hX hg) (by rw [hX.mg]; exact hm) (we_pe hX) (hs _)) (ha B γ σ H er _ fun v H1 l1 rv => by
    have er1 := er.step l1
    obtain ⟨p, vs, rfl, _, h1, h2⟩ := wk_lst rv
    have hlen : vs.length = rs.length := by rw [← h2.len, List.length_map]
    refine ⟨p, vs, rs.map fun r => PyData.tuple [.int r.1, .tuple (r.2.map PyData.int)], rfl, .inl (.inl h1), dp_rows h2, PySem.W.AllAlike.of fun _ _ => by simp [PySem.W.alike, PySem.W.alikeAll, alike_ints], PySem.W.Sortable.tuples fun _ => ⟨_, _, rfl⟩, by omega, fun d hd => ?_, fun t vs' ht hp => ?_⟩
    · obtain ⟨r, _, rfl⟩ := List.mem_map.mp hd
      simp [PyData.depth, PyData.depthAll, depthAll_ints]
    · obtain ⟨m, h3, h4⟩ := reps_perm hp h2
      obtain ⟨rs', h5, rfl⟩ := perm_map_inv h3
      exact k _ _ _ ⟨rs', h5, rfl⟩ (l1.trans (LeC.new ht)) (re_newL er1.dom ht er1.cb h4))
end
end Nb
set_option Elab.async false
set_option linter.all false
set_option maxRecDepth 100000
set_option maxHeartbeats 2000000
/-! the text by places -/
namespace Nb
open PySem PySem.Spec PyProof.Rows L2
def top (i : Nat) : Stmt := PySem.Challenge.pw_needpegs_k63_whole_rounds_and_chains.main.body.getD i (.Pass ⟨0, 0, 0, 0⟩)
/-- a def of the module as it stands behind the top -/
structure Df (g : Glob) (x : Str) (st : Stmt) : Prop where
  ex : ∃ (f : Addr) (fd : FuncData), FunD g.K x x (defArgs st) (defBody st) (defScope st) [] [] f fd ∧ g.mg x = some (.ref f)
/-- a method -/
structure Dm (g : Glob) (c m q : Str) (st : Stmt) : Prop where
  ex : ∃ (f : Addr) (fd : FuncData), FunD g.K m q (defArgs st) (defBody st) (defScope st) [] [] f fd ∧ Cls g.K (g.cl c) ∧ Meth g.K (g.cl c) m f
structure Bi (g : Glob) : Prop where
  len : g.mg "len" = none
  tuple : g.mg "tuple" = none
  list : g.mg "list" = none
  any : g.mg "any" = none
  all : g.mg "all" = none
  max : g.mg "max" = none
  min : g.mg "min" = none
  range : g.mg "range" = none
  enum : g.mg "enumerate" = none
  isi : g.mg "isinstance" = none
  sorted : g.mg "sorted" = none
  dict : g.mg "dict" = none
  zip : g.mg "zip" = none
  set : g.mg "set" = none
  int : g.mg "int" = none
  str : g.mg "str" = none
  bool : g.mg "bool" = none

def sL (ss : List Str) : D := .lst (ss.map D.str)
def sT (ss : List Str) : D := .tup (ss.map D.str)
section
variable {g : Glob} {x : Str} {st : Stmt} {k : Nat} {N ps : List Str} {α : Type} {args : α → List D} {pre : α → Prop} {post : α → D → Prop}
abbrev bindsTo (x qual : Str) (st : Stmt) (ps : List Str) : Prop := ∀ (kV doc pm : Value) (an : Option Addr) (cdv ct : Value) (us : List Value), us.length = ps.length → bindArgs (PySem.W.fnOf x qual (defArgs st) (defBody st) (defScope st) .none kV doc pm an cdv ct) ⟨us, []⟩ = pure (ps.zip us)
theorem Df.fn (F : Df g x st) (S : FnScope N ps (defScope st)) (hb : bindsTo x x st ps) (hl : ∀ a, (args a).length = ps.length) (hN : ps.length ≤ N.length)
    (body : ∀ (B0 : Addr → Prop) (H0 : Hp) (a : α), pre a → SV (g.E k N (defScope st) B0 no no H0) B0 B0 (defBody st) (slots (args a) (N.length - ps.length)) { rt := post a, nx := fun _ => post a .non }) : Fn g (k + 1) x (spP g args pre post) := by
  obtain ⟨f, fd, F, hm⟩ := F.ex
  exact ⟨f, fd, ps, ok_P F S hl hN body, hm, F.kp, F.bindsN hb⟩
end
end Nb
set_option Elab.async false
set_option linter.all false
set_option maxRecDepth 100000
set_option maxHeartbeats 2000000
namespace Nb
open PySem PySem.Spec PyProof.Rows L2
section
variable {E : EC} {δ : Ds} {pos p : Pos} {a b e : Expr} {r : Ent}
theorem vr (i : Nat) {y : Str} {r : Ent} (hN : E.N[i]? = some y := by rfl) (hv : Vis E.sc y := by first | exact .inl rfl | exact .inr (.inl rfl) | exact .inr (.inr rfl)) (hδ : δ[i]? = some (some r) := by rfl) (hd : (y == ("__debug__" : Str)) = false := by decide) (hcd : (y == ("__classdict__" : Str)) = false := by decide) : EV E (.Name y pos) δ r := ev_var i hN hv hδ hd hcd
/-- a sign or text in a text -/
theorem ro_inS {s t : Str} {c : Bool} (hc : (!(Builtin.Str.occurrences t s 0 t.length 1).isEmpty) = c) : RO E (fun x y H Q => ∃ i j, x = V.str i ∧ y = V.str j ∧ Q (.bl (!(Builtin.Str.occurrences j i 0 j.length 1).isEmpty)) H) (.d (.str s)) (.d (.str t)) (.d (.bl c)) := fun B u v H dom cb rx ry Q q => by
  rw [re_str] at rx ry
  exact ⟨s, t, rx, ry, q _ H Le.refl (by rw [re_bl, hc])⟩
theorem ev_inS {s t : Str} {c : Bool} (ha : EV E a δ (.d (.str s))) (hb : EV E b δ (.d (.str t))) (hc : (!(Builtin.Str.occurrences t s 0 t.length 1).isEmpty) = c) (hm : behindInMarks .In b = false := by rfl) : EV E (.Compare a [.In] [b] pos) δ (.d (.bl c)) :=
  ev_cmp (fun X hX => op_in_str) ha hb (ro_inS hc) hm
theorem EV.eqb {c d : Bool} (h : EV E e δ (.d (.bl c))) (m : c = d) : EV E e δ (.d (.bl d)) := m ▸ h
theorem ET.eqb {c d : Bool} (h : ET E e δ c) (m : c = d) : ET E e δ d := m ▸ h
theorem ev_le2 {i j k : Int} {x : Expr} (ha : EV E a δ (.d (.int i))) (hb : EV E b δ (.d (.int j))) (hc : EV E x δ (.d (.int k))) (hm : lastMarks [.LtE, .LtE] [b, x] = false := by with_unfolding_all rfl) : EV E (.Compare a [.LtE, .LtE] [b, x] pos) δ (.d (.bl (decide (i ≤ j) && decide (j ≤ k)))) :=
  ev_chain (fun X hX => op_le) (fun X hX => op_le) ha hb hc (ro_IB (g := fun i j => decide (i ≤ j))) (ro_IB (g := fun i j => decide (i ≤ j))) hm
theorem et_le2 {i j k : Int} {x : Expr} (ha : EV E a δ (.d (.int i))) (hb : EV E b δ (.d (.int j))) (hc : EV E x δ (.d (.int k))) (hm : lastMarks [.LtE, .LtE] [b, x] = false := by with_unfolding_all rfl) : ET E (.Compare a [.LtE, .LtE] [b, x] pos) δ (decide (i ≤ j) && decide (j ≤ k)) :=
  et_chain (fun X hX => op_le) (fun X hX => op_le) ha hb hc (ro_IB (g := fun i j => decide (i ≤ j))) (ro_IB (g := fun i j => decide (i ≤ j))) hm
/-- [f for x in xs], [f for x in xs if t] -/
theorem ev_lc0 {tg it elt : Expr} {scope : Scope} {τ : Type} {td : τ → List (Nat × Ent)} (xs : List τ) (c : τ → D) (f : τ → D) (own : List (Str × Nat)) (hi : EI E false tg it δ (xs.map c)) (hz : xs.length ≤ 1000) (ok : BlkOk E.N E.sc scope own)
    (hg : ∀ d ∈ xs, EG (E.blk scope) tg (.d (c d)) (td d)) (hown : ∀ d ∈ xs, ∀ q ∈ td d, q.1 ∈ own.map (·.2))
    (he : ∀ d ∈ xs, EV (E.blk scope) elt (setAll (wipeD δ (own.map (·.2))) (td d)) (.d (f d)))
    (hs : ∀ env x, foldedSetIterable it env x = pure x := by intro _ _; rfl) : EV E (.ListComp elt [⟨tg, it, [], 0⟩] scope pos) δ (.d (.lst (xs.map f))) :=
  (ev_lc xs c (fun _ => true) f own hi hz ok hg hown (fun d hd => ets_nil) (fun d hd _ => he d hd) hs).eqd (by rw [List.filter_eq_self.mpr (fun _ _ => rfl)])
theorem ev_lc1 {tg it elt cnd : Expr} {scope : Scope} {τ : Type} {td : τ → List (Nat × Ent)} (xs : List τ) (c : τ → D) (t : τ → Bool) (f : τ → D) (own : List (Str × Nat)) (hi : EI E false tg it δ (xs.map c)) (hz : xs.length ≤ 1000) (ok : BlkOk E.N E.sc scope own)
    (hg : ∀ d ∈ xs, EG (E.blk scope) tg (.d (c d)) (td d)) (hown : ∀ d ∈ xs, ∀ q ∈ td d, q.1 ∈ own.map (·.2))
    (ht : ∀ d ∈ xs, ET (E.blk scope) cnd (setAll (wipeD δ (own.map (·.2))) (td d)) (t d))
    (he : ∀ d ∈ xs, t d = true → EV (E.blk scope) elt (setAll (wipeD δ (own.map (·.2))) (td d)) (.d (f d)))
    (hs : ∀ env x, foldedSetIterable it env x = pure x := by intro _ _; rfl) : EV E (.ListComp elt [⟨tg, it, [cnd], 0⟩] scope pos) δ (.d (.lst ((xs.filter t).map f))) :=
  ev_lc xs c t f own hi hz ok hg hown (fun d hd => ets_one (ht d hd)) he hs
theorem ev_allM {τ : Type} {xs : List τ} {f : τ → Bool} (ha : EV E e δ (.d (.lst (xs.map fun x => .bl (f x))))) (hg : GlS E.sc "all") (hm : E.mg "all" = none) (hs : ∀ env, starEach [e] env = (false, eval e env) :: starEach [] env := by intro _; rfl) : EV E (.Call (.Name "all" p) [e] [] pos) δ (.d (.bl (xs.all f))) :=
  (ev_all (bs := xs.map f) (EV.wk (ha.eqd (by simp [Function.comp_def]))) hg hm hs).eqb (by simp [List.all_map])
theorem ev_anyM {τ : Type} {xs : List τ} {f : τ → Bool} (ha : EV E e δ (.d (.lst (xs.map fun x => .bl (f x))))) (hg : GlS E.sc "any") (hm : E.mg "any" = none) (hs : ∀ env, starEach [e] env = (false, eval e env) :: starEach [] env := by intro _; rfl) : EV E (.Call (.Name "any" p) [e] [] pos) δ (.d (.bl (xs.any f))) :=
  (ev_any (bs := xs.map f) (EV.wk (ha.eqd (by simp [Function.comp_def]))) hg hm hs).eqb (by simp [List.any_map])
end
/-- a name as is_name wants it -/
def okName (s : Str) : Prop := 1 ≤ s.length ∧ s.length ≤ 6 ∧ ∀ c ∈ s.cps.toList, 97 ≤ c ∧ c ≤ 122
def letters : Str := "abcdefghijklmnopqrstuvwxyz"
theorem in_letters {c : Nat} (h1 : 97 ≤ c) (h2 : c ≤ 122) : (!(Builtin.Str.occurrences letters ⟨#[c]⟩ 0 letters.length 1).isEmpty) = true := by
  have key : ∀ i : Fin 26, (!(Builtin.Str.occurrences letters ⟨#[97 + i.val]⟩ 0 letters.length 1).isEmpty) = true := by decide +kernel
  have := key ⟨c - 97, by omega⟩
  simpa [show 97 + (c - 97) = c by omega] using this
/-- the constants of the module -/
structure Co (g : Glob) : Prop where
  letters : ∃ t, g.mg "LETTERS" = some (.str letters t)
  longest : ∃ t, g.mg "LONGEST_NAME" = some (.int 6 t)
  cost : ∃ t, g.mg "MOST_COST" = some (.int 1000 t)
theorem strs_one {s : Str} : s.cps.toList.length = s.length := by simp [Str.length]

/-! is_name -/
theorem scIsName : FnScope ["text", "sign"] ["text"] (defScope (top 19)) := ⟨rfl, rfl, rfl, by decide +kernel, rfl, by decide +kernel, by decide +kernel⟩
def spIsName (g : Glob) : Sp := spP g (α := Str) (fun s => [.str s]) okName (fun _ d => d = .bl true)
theorem fn_isName {g : Glob} (F : Df g "is_name" (top 19)) (b : Bi g) (co : Co g) : Fn g 1 "is_name" (spIsName g) := by
  refine F.fn scIsName (fun _ _ _ _ _ _ us hl => match us, hl with | [_], _ => rfl) (fun a => rfl) (by decide) fun B0 H0 s hs => ?_
  obtain ⟨h1, h2, h3⟩ := hs
  have hz : s.length ≤ sizeLine := by rw [sizeLine_eq]; omega
  refine sv_retd (d := .bl true) ?_ rfl
  refine (ev_and (c := true) (d := true) ((ev_le2 ev_int (ev_lenS (vr 0) hz (by rfl) b.len) (ev_gint (by rfl) co.longest)).eqb ?_) fun _ => ev_one ?_)
  · simp; omega
  · refine (ev_allM (ev_lc0 (td := fun c => [(1, .d (.str ⟨#[c]⟩))]) s.cps.toList (fun c => .str ⟨#[c]⟩) (fun _ => .bl true) [("sign", 1)] (ei_str (vr 0)).weak (by rw [strs_one]; omega) (blkOk_by (by kernel_rfl)) (fun d hd => eg_name 1 (by rfl) (.inl (by rfl))) (fun d hd q hq => by simp at hq; subst hq; simp) (fun d hd => ?_)) (by rfl) b.all).eqb (by simp)
    exact ev_inS (vr 1) (ev_gstr (by rfl) co.letters) (in_letters (h3 d hd).1 (h3 d hd).2)

/-! is_integer: of ints -/
theorem scIsInt : FnScope ["value"] ["value"] (defScope (top 18)) := ⟨rfl, rfl, rfl, by decide +kernel, rfl, by decide +kernel, by decide +kernel⟩
def spIsInt (g : Glob) : Sp := spP g (α := Int) (fun s => [.int s]) (fun _ => True) (fun _ d => d = .bl true)
theorem fn_isInt {g : Glob} (F : Df g "is_integer" (top 18)) (b : Bi g) : Fn g 1 "is_integer" (spIsInt g) := by
  refine F.fn scIsInt (fun _ _ _ _ _ _ us hl => match us, hl with | [_], _ => rfl) (fun a => rfl) (by decide) fun B0 H0 s hs => ?_
  refine sv_retd (d := .bl true) ?_ rfl
  refine (ev_and (c := true) (d := true) (ev_isi (x := .int s) of_E (vr 0) (ev_gty (n := "int") (by rfl) b.int (by decide +kernel)) trivial (.ty _) rfl (by rfl) b.isi) fun _ => ev_one ?_)
  exact ev_not (ev_isi (t := false) (x := .int s) of_E (vr 0) (ev_gty (n := "bool") (by rfl) b.bool (by decide +kernel)) trivial (.ty _) rfl (by rfl) b.isi)

/-! are_strings: of rows of texts -/
theorem scAreStr : FnScope ["value", "item"] ["value"] (defScope (top 21)) := ⟨rfl, rfl, rfl, by decide +kernel, rfl, by decide +kernel, by decide +kernel⟩
def spAreStr (g : Glob) : Sp := spP g (α := List Str) (fun s => [sT s]) (fun s => s.length ≤ 1000) (fun _ d => d = .bl true)
theorem fn_areStr {g : Glob} (F : Df g "are_strings" (top 21)) (b : Bi g) : Fn g 1 "are_strings" (spAreStr g) := by
  refine F.fn scAreStr (fun _ _ _ _ _ _ us hl => match us, hl with | [_], _ => rfl) (fun a => rfl) (by decide) fun B0 H0 s hs => ?_
  refine sv_retd (d := .bl true) ?_ rfl
  refine (ev_and (c := true) (d := true) (ev_isi2 (x := sT s) of_E (vr 0) (ev_gty (n := "tuple") (by rfl) b.tuple (by decide +kernel)) (ev_gty (n := "list") (by rfl) b.list (by decide +kernel)) trivial (.ty _) (.ty _) rfl (by rfl) b.isi) fun _ => ev_one ?_)
  refine (ev_allM (ev_lc0 (td := fun c => [(1, .d (.str c))]) s D.str (fun _ => .bl true) [("item", 1)] (ei_tup (l := s.map D.str) (vr 0)).weak hs (blkOk_by (by kernel_rfl)) (fun d hd => eg_name 1 (by rfl) (.inl (by rfl))) (fun d hd q hq => by simp at hq; subst hq; simp) (fun d hd => ?_)) (by rfl) b.all).eqb (by simp)
  exact ev_isi (x := .str d) of_E.blk (vr 1) (ev_gty (n := "str") (by rfl) b.str (by decide +kernel)) trivial (.ty _) rfl (by rfl) b.isi
end Nb
set_option Elab.async false
set_option linter.all false
set_option maxRecDepth 100000
set_option maxHeartbeats 2000000
namespace Nb
open PySem PySem.Spec PyProof.Rows L2
def pD (q : Str × Str) : D := .tup [.str q.1, .str q.2]
def psT (ps : List (Str × Str)) : D := .tup (ps.map pD)
section
variable {E : EC} {δ : Ds} {pos p : Pos} {a b e : Expr} {r : Ent}
/-- targets (x, y) -/
theorem eg_two {d1 d2 : D} {x y : Str} (i j : Nat) {p1 p2 pos : Pos} {kk : Nat} (hi : E.N[i]? = some x) (hj : E.N[j]? = some y) (hx : Loc E.sc x) (hy : Loc E.sc y) (hf1 : E.fn x = true ∨ E.sc.names.lookup x = some .local := by first | exact .inl rfl | exact .inr rfl) (hf2 : E.fn y = true ∨ E.sc.names.lookup y = some .local := by first | exact .inl rfl | exact .inr rfl) :
    EG E (.Tuple [.Name x p1, .Name y p2] kk pos) (.d (.tup [d1, d2])) [(i, .d d1), (j, .d d2)] :=
  eg_tup (egl_cons (eg_name i hi hx hf1) (egl_cons (eg_name j hj hy hf2) egl_nil))
end
theorem kk {a b : Nat} (h : Nat.ble a b = true := by rfl) : a ≤ b := Nat.le_of_ble_eq_true h
/-! are_pairs -/
theorem scArePairs : FnScope ["value", "pair"] ["value"] (defScope (top 22)) := ⟨rfl, rfl, rfl, by decide +kernel, rfl, by decide +kernel, by decide +kernel⟩
def spArePairs (g : Glob) : Sp := spP g (α := List (Str × Str)) (fun s => [psT s]) (fun s => s.length ≤ 1000) (fun _ d => d = .bl true)
theorem fn_arePairs {g : Glob} (F : Df g "are_pairs" (top 22)) (b : Bi g) (h1 : Fn g 1 "are_strings" (spAreStr g)) : Fn g 2 "are_pairs" (spArePairs g) := by
  refine F.fn scArePairs (fun _ _ _ _ _ _ us hl => match us, hl with | [_], _ => rfl) (fun a => rfl) (by decide) fun B0 H0 s hs => ?_
  refine sv_ifF (cc := false) ((et_not (et_isi2 (t := true) (x := psT s) of_E (vr 0) (ev_gty (n := "tuple") (by rfl) b.tuple (by decide +kernel)) (ev_gty (n := "list") (by rfl) b.list (by decide +kernel)) trivial (.ty _) (.ty _) rfl (by rfl) b.isi))) rfl ?_
  refine sv_retd (d := .bl true) ?_ rfl
  refine (ev_allM (ev_lc0 (td := fun c => [(1, .d (pD c))]) s pD (fun _ => .bl true) [("pair", 1)] (ei_tup (l := s.map pD) (vr 0)).weak hs (blkOk_by (by kernel_rfl)) (fun d hd => eg_name 1 (by rfl) (.inl (by rfl))) (fun d hd q hq => by simp at hq; subst hq; simp) (fun d hd => ?_)) (by rfl) b.all).eqb (by simp)
  refine (ev_and (c := true) (d := true) (ev_isi (x := pD d) of_E.blk (vr 1) (ev_gty (n := "tuple") (by rfl) b.tuple (by decide +kernel)) trivial (.ty _) rfl (by rfl) b.isi) fun _ => (ev_and (c := true) (d := true) ((ev_eq (ev_len (x := pD d) (l := [.str d.1, .str d.2]) (EV.wk (vr 1)) rfl (by rfl) b.len) ev_int).eqb (by rfl)) fun _ => ev_one ?_))
  exact ev_call (α := List Str) [d.1, d.2] h1 of_E.blk (Nat.le_refl 1) (by rfl) (ea_1 (vr 1)) (show 2 ≤ 1000 by decide) (fun d' h => h)

def iT (ns : List Int) : D := .tup (ns.map D.int)
/-! check_form -/
structure Parts where
  pegs : List Str
  needs : List (Str × Str)
  bars : List (Str × Str)
  costs : List Int
theorem scForm : FnScope ["pegs", "needs", "bars", "costs", "has_costs", "cost"] ["pegs", "needs", "bars", "costs"] (defScope (top 49)) := ⟨rfl, rfl, rfl, by decide +kernel, rfl, by decide +kernel, by decide +kernel⟩
def spForm (g : Glob) : Sp := spP g (α := Parts) (fun s => [sT s.pegs, psT s.needs, psT s.bars, iT s.costs]) (fun s => s.pegs.length ≤ 1000 ∧ s.needs.length ≤ 1000 ∧ s.bars.length ≤ 1000 ∧ s.costs.length ≤ 1000) (fun _ d => d = .non)
theorem fn_form {g : Glob} (F : Df g "check_form" (top 49)) (b : Bi g) (h1 : Fn g 1 "is_integer" (spIsInt g)) (h2 : Fn g 1 "are_strings" (spAreStr g)) (h3 : Fn g 2 "are_pairs" (spArePairs g)) : Fn g 3 "check_form" (spForm g) := by
  refine F.fn scForm (fun _ _ _ _ _ _ us hl => match us, hl with | [_, _, _, _], _ => rfl) (fun a => rfl) (by decide) fun B0 H0 s hs => ?_
  obtain ⟨z1, z2, z3, z4⟩ := hs
  refine sv_set 4 (r := .d (.bl true)) (by rfl) (.inl (by rfl)) (ev_or (c := false) (d := true) (ev_isN (x := iT s.costs) (vr 3)) fun _ => ev_one (ev_and (c := true) (d := true) (ev_isi2 (x := iT s.costs) of_E (vr 3) (ev_gty (n := "tuple") (by rfl) b.tuple (by decide +kernel)) (ev_gty (n := "list") (by rfl) b.list (by decide +kernel)) trivial (.ty _) (.ty _) rfl (by rfl) b.isi) fun _ => ev_one ?_)) ?_
  · refine (ev_allM (ev_lc0 (td := fun c => [(5, .d (.int c))]) s.costs D.int (fun _ => .bl true) [("cost", 5)] (ei_tup (l := s.costs.map D.int) (vr 3)).weak z4 (blkOk_by (by kernel_rfl)) (fun d hd => eg_name 5 (by rfl) (.inl (by rfl))) (fun d hd q hq => by simp at hq; subst hq; simp) (fun d hd => ?_)) (by rfl) b.all).eqb (by simp)
    exact ev_call (α := Int) d h1 of_E.blk kk (by rfl) (ea_1 (vr 5)) trivial (fun d' h => h)
  · refine sv_ifF (cc := false) (EWt.t (ew_or (c := false) (d := false) (et_not (et_v (c := true) (ev_call (α := List Str) s.pegs h2 of_E kk (by rfl) (ea_1 (vr 0)) z1 (fun d' h => h)))) fun _ => ew_or (c := false) (d := false) (et_not (et_v (c := true) (ev_call (α := List (Str × Str)) s.needs h3 of_E kk (by rfl) (ea_1 (vr 1)) z2 (fun d' h => h)))) fun _ => ew_or (c := false) (d := false) (et_not (et_v (c := true) (ev_call (α := List (Str × Str)) s.bars h3 of_E kk (by rfl) (ea_1 (vr 2)) z3 (fun d' h => h)))) fun _ => ew_or1 (et_not (et_v (c := true) (vr 4))))) rfl ?_
    exact sv_end rfl

/-! check_pegs -/
theorem scPegs : FnScope ["pegs", "costs", "most", "at", "peg", "cost"] ["pegs", "costs", "most"] (defScope (top 50)) := ⟨rfl, rfl, rfl, by decide +kernel, rfl, by decide +kernel, by decide +kernel⟩
structure OkPegs (s : Parts) : Prop where
  few : s.pegs.length ≤ 12
  names : ∀ p ∈ s.pegs, okName p
  nd : s.pegs.Nodup
  len : s.costs.length = s.pegs.length
  cost : ∀ c ∈ s.costs, 1 ≤ c ∧ c ≤ 1000
def spPegs (g : Glob) : Sp := spP g (α := Parts) (fun s => [sT s.pegs, iT s.costs, .int 12]) OkPegs (fun _ d => d = .non)
theorem nodup_at {s : List Str} (nd : s.Nodup) {i : Nat} {p : Str} (h : s[i]? = some p) : p ∉ s.take i := by
  intro hm
  obtain ⟨j, hj, e⟩ := List.mem_iff_getElem.mp hm
  have hj' : j < i := by rw [List.length_take] at hj; omega
  have hjl : j < s.length := by rw [List.length_take] at hj; omega
  obtain ⟨hi, e2⟩ := List.getElem?_eq_some_iff.mp h
  rw [List.getElem_take] at e
  have := (List.getElem_inj nd).mp (e.trans e2.symm)
  omega
theorem zipIdx_at {α : Type} {s : List α} {i : Nat} {q : α × Nat} (h : s.zipIdx[i]? = some q) : s[i]? = some q.1 ∧ q.2 = i := by
  rw [List.getElem?_zipIdx] at h
  cases e : s[i]? with
  | none => rw [e] at h; cases h
  | some x => rw [e] at h; cases h; simp
theorem fn_pegs {g : Glob} (F : Df g "check_pegs" (top 50)) (b : Bi g) (co : Co g) (h1 : Fn g 1 "is_name" (spIsName g)) : Fn g 2 "check_pegs" (spPegs g) := by
  refine F.fn scPegs (fun _ _ _ _ _ _ us hl => match us, hl with | [_, _, _], _ => rfl) (fun a => rfl) (by decide) fun B0 H0 s hs => ?_
  refine sv_ifF (cc := false) ((et_gt (ev_len (x := sT s.pegs) (l := s.pegs.map D.str) (EV.wk (vr 0)) rfl (by rfl) b.len) (vr 2)).eqb ?_) rfl ?_
  · have := hs.few; simp; omega
  refine sv_for s.pegs.zipIdx (fun q => .tup [.int (q.2 : Nat), .str q.1]) (fun i δ' => ∃ x y, δ' = [some (.d (sT s.pegs)), some (.d (iT s.costs)), some (.d (.int 12)), x, y, none]) (td := fun q => [(3, .d (.int (q.2 : Nat))), (4, .d (.str q.1))])
    ((ei_enum (l := s.pegs.map D.str) (vr 0) (by rfl) b.enum).eq (enumD_map _ _)) ⟨none, none, rfl⟩ (fun d hd => eg_two 3 4 (by rfl) (by rfl) (.inl (by rfl)) (.inl (by rfl))) ?_ ?_
  · rintro i q δ' hq ⟨x, y, rfl⟩
    obtain ⟨e1, e2⟩ := zipIdx_at hq
    have hm : q.1 ∈ s.pegs := List.mem_of_getElem? e1
    refine sv_ifF (cc := false) (EWt.t (ew_or (c := false) (d := false) (et_not (et_v (c := true) (ev_call (α := Str) q.1 h1 of_E kk (by rfl) (ea_1 (vr 4)) (hs.names _ hm) (fun d' h => h)))) fun _ => ew_or1 ((et_in (ss := s.pegs.take i) (vr 4) (EV.wk (ev_slT (l := s.pegs.map D.str) (vr 0) eo_none (eo_some (vr 3)))) ?_).eqb ?_))) rfl ?_
    · show some (cutD (s.pegs.map D.str) none (some ((q.2 : Nat) : Int))) = _
      rw [cutD_map, cutD_to, e2]
    · exact decide_eq_false (nodup_at hs.nd e1)
    · exact sv_end ⟨_, _, rfl⟩
  · rintro δ' ⟨x, y, rfl⟩
    refine sv_ifF (cc := false) ((et_ne (ev_len (x := iT s.costs) (l := s.costs.map D.int) (EV.wk (vr 1)) rfl (by rfl) b.len) (ev_len (x := sT s.pegs) (l := s.pegs.map D.str) (EV.wk (vr 0)) rfl (by rfl) b.len)).eqb ?_) rfl ?_
    · simp [eqD, hs.len]
    refine sv_for s.costs.zipIdx (fun q => .tup [.int (q.2 : Nat), .int q.1]) (fun i δ' => ∃ x y z, δ' = [some (.d (sT s.pegs)), some (.d (iT s.costs)), some (.d (.int 12)), x, y, z]) (td := fun q => [(3, .d (.int (q.2 : Nat))), (5, .d (.int q.1))])
      ((ei_enum (l := s.costs.map D.int) (vr 1) (by rfl) b.enum).eq (enumD_map _ _)) ⟨_, _, _, rfl⟩ (fun d hd => eg_two 3 5 (by rfl) (by rfl) (.inl (by rfl)) (.inl (by rfl))) ?_ ?_
    · rintro i q δ' hq ⟨x, y, z, rfl⟩
      obtain ⟨e1, e2⟩ := zipIdx_at hq
      have hm : q.1 ∈ s.costs := List.mem_of_getElem? e1
      refine sv_ifF (cc := false) (et_not ((et_le2 ev_int (vr 5) (ev_gint (by rfl) co.cost)).eqb (d := true) ?_)) rfl (sv_end ⟨_, _, _, rfl⟩)
      have := hs.cost _ hm
      simp; omega
    · rintro δ' ⟨x, y, z, rfl⟩
      exact sv_end rfl
/-! check_pairs -/
theorem scPairs : FnScope ["pegs", "pairs", "word", "at", "one", "other"] ["pegs", "pairs", "word"] (defScope (top 51)) := ⟨rfl, rfl, rfl, by decide +kernel, rfl, by decide +kernel, by decide +kernel⟩
def spPairs (g : Glob) : Sp := spP g (α := List Str × List (Str × Str) × Str) (fun s => [sT s.1, psT s.2.1, .str s.2.2]) (fun s => s.2.1.length ≤ 1000 ∧ ∀ q ∈ s.2.1, q.1 ∈ s.1 ∧ q.2 ∈ s.1 ∧ q.1 ≠ q.2) (fun _ d => d = .non)
theorem fn_pairs {g : Glob} (F : Df g "check_pairs" (top 51)) (b : Bi g) : Fn g 1 "check_pairs" (spPairs g) := by
  refine F.fn scPairs (fun _ _ _ _ _ _ us hl => match us, hl with | [_, _, _], _ => rfl) (fun a => rfl) (by decide) fun B0 H0 s hs => ?_
  obtain ⟨pegs, pairs, word⟩ := s
  obtain ⟨hz, hs⟩ := hs
  refine sv_for pairs.zipIdx (fun q => .tup [.int (q.2 : Nat), pD q.1]) (fun i δ' => ∃ x y z, δ' = [some (.d (sT pegs)), some (.d (psT pairs)), some (.d (.str word)), x, y, z]) (td := fun q => [(3, .d (.int (q.2 : Nat))), (4, .d (.str q.1.1)), (5, .d (.str q.1.2))])
    ((ei_enum (l := pairs.map pD) (vr 1) (by rfl) b.enum).eq (enumD_map _ _)) ⟨none, none, none, rfl⟩ (fun d hd => eg_tup (egl_cons (eg_name 3 (by rfl) (.inl (by rfl))) (egl_cons (l := [(4, .d (.str d.1.1)), (5, .d (.str d.1.2))]) (eg_two 4 5 (by rfl) (by rfl) (.inl (by rfl)) (.inl (by rfl))) egl_nil))) ?_ ?_
  · rintro i q δ' hq ⟨x, y, z, rfl⟩
    obtain ⟨e1, e2⟩ := zipIdx_at hq
    obtain ⟨m1, m2, m3⟩ := hs _ (List.mem_of_getElem? e1)
    refine sv_ifF (cc := false) (EWt.t (ew_or (c := false) (d := false) ((et_ni (ss := pegs) (vr 4) (EV.wk (x := sT pegs) (vr 0)) rfl).eqb (by simp [show q.1.1 ∈ pegs from m1])) fun _ => ew_or (c := false) (d := false) ((et_ni (ss := pegs) (vr 5) (EV.wk (x := sT pegs) (vr 0)) rfl).eqb (by simp [show q.1.2 ∈ pegs from m2])) fun _ => ew_or1 ((et_eq (vr 4) (vr 5)).eqb ?_))) rfl (sv_end ⟨_, _, _, rfl⟩)
    simp [eqD, m3]
  · rintro δ' ⟨x, y, z, rfl⟩
    exact sv_end rfl
end Nb
set_option Elab.async false
set_option linter.all false
set_option maxRecDepth 100000
set_option maxHeartbeats 2000000
namespace Nb
open PySem PySem.Spec PyProof.Rows L2
section
variable {E : EC} {δ : Ds} {pos p : Pos} {a b e : Expr} {r : Ent}
theorem EV.lkw {p : Addr} {ks : List Str} {l : List D} (h : EV E e δ (.lk p ks l)) : EV E e δ (.wk (.dct ks l)) := h.as fun B v H hb ⟨e, h1, od, vs, h2, h3, h4⟩ => ⟨p, e, h1, vs, h2, .inr ⟨od, h3⟩, h4⟩
end
theorem sw_cellD {kx vx : Expr} {gs : List Comprehension} {scope : Scope} {pos py : Pos} {y : Str} {l : Nat} {env : Env} (hy : env.scope.names.lookup y = some .cell) : swapsWith (.DictComp kx vx gs scope pos) (some (.Name y py)) l env = pure false := by
  have ky : env.kindOf y = some .cell := hy
  unfold swapsWith
  simp only [ky, show ((some NameKind.cell : Option NameKind) == some NameKind.local) = false from rfl, Bool.and_false, Bool.false_and]
theorem sw_cellL {e : Expr} {gs : List Comprehension} {scope : Scope} {pos py : Pos} {y : Str} {l : Nat} {env : Env} (hy : env.scope.names.lookup y = some .cell) : swapsWith (.ListComp e gs scope pos) (some (.Name y py)) l env = pure false := by
  have ky : env.kindOf y = some .cell := hy
  unfold swapsWith
  simp only [ky, show ((some NameKind.cell : Option NameKind) == some NameKind.local) = false from rfl, Bool.and_false, Bool.false_and]
section
variable {E : EC} {B Bo : Addr → Prop} {δ : Ds} {Ω : Post} {ss : List Stmt} {e : Expr} {pos pos' py : Pos} {r : Ent}
/-- y = e, y a cell -/
theorem sv_setPc {P : Ent → Prop} (i : Nat) {y : Str} (hi : E.N[i]? = some y) (hx : Loc E.sc y) (h : EVP E e δ P) (k : ∀ r, P r → SV E B Bo ss (δ.set i (some r)) Ω)
    (hs : ∀ env : Env, env.scope = E.sc → swapsWith e (some (.Name y pos')) pos.line env = pure false) (hf : E.fn y = true ∨ E.sc.names.lookup y = some .local := by first | exact .inl rfl | exact .inr rfl) : SV E B Bo (.Assign [.Name y pos'] e pos :: ss) δ Ω := fun γ σ H er D s =>
  wss_then (ws_of (t := tAsg (WE (Fam E) e) (gName i)) (fun X hX => ps_set hX.nd (by rw [hX.N]; exact hi) (by rw [hX.sc]; exact hx) (we_pe hX) (hs _ hX.sc) (by rw [hX.fn, hX.sc]; exact hf)) (h B γ σ H er _ fun r v H2 hp l rv => k r hp γ _ H2 ((er.step l).set i rv) D s))
theorem sv_setc (i : Nat) {y : Str} (hi : E.N[i]? = some y) (hx : Loc E.sc y) (h : EV E e δ r) (k : SV E B Bo ss (δ.set i (some r)) Ω)
    (hs : ∀ env : Env, env.scope = E.sc → swapsWith e (some (.Name y pos')) pos.line env = pure false) (hf : E.fn y = true ∨ E.sc.names.lookup y = some .local := by first | exact .inl rfl | exact .inr rfl) : SV E B Bo (.Assign [.Name y pos'] e pos :: ss) δ Ω :=
  sv_setPc i hi hx (h.toP (P := fun r' => r' = r) rfl) (fun r' e => by rw [e]; exact k) hs hf
end
theorem lookD_map {f : Str → D} : ∀ {ks : List Str} {p : Str}, p ∈ ks → lookD ks (ks.map f) p = some (f p)
  | k :: ks, p, h => by
    show (if k = p then some (f k) else lookD ks (ks.map f) p) = _
    by_cases e : k = p
    · rw [if_pos e, e]
    · rw [if_neg e]
      exact lookD_map ((List.mem_cons.mp h).resolve_left fun z => e z.symm)
/-- a dict from names to lists, to tuples -/
def rowsD (ks : List Str) (R : Str → List Str) : D := .dct ks (ks.map fun p => sL (R p))
def rowsT (ks : List Str) (R : Str → List Str) : D := .dct ks (ks.map fun p => sT (R p))
/-! longer_row -/
theorem scLonger : FnScope ["row", "peg", "needed", "other"] ["row", "peg", "needed"] (defScope (top 53)) := ⟨rfl, rfl, rfl, by decide +kernel, rfl, by decide +kernel, by decide +kernel⟩
def longerRow (row : List Str) (peg : Str) (needed : List Str) : List Str := if peg ∈ row then row ++ needed.filter (fun o => !decide (o ∈ row)) else row
def spLonger (g : Glob) : Sp := spP g (α := List Str × Str × List Str) (fun a => [sL a.1, .str a.2.1, sL a.2.2]) (fun a => a.1.length + a.2.2.length ≤ 1000) (fun a d => d = sL (longerRow a.1 a.2.1 a.2.2))
theorem fn_longer {g : Glob} (F : Df g "longer_row" (top 53)) : Fn g 1 "longer_row" (spLonger g) := by
  refine F.fn scLonger (fun _ _ _ _ _ _ us hl => match us, hl with | [_, _, _], _ => rfl) (fun a => rfl) (by decide) fun B0 H0 a ha => ?_
  obtain ⟨row, peg, needed⟩ := a
  simp only at ha
  refine sv_retd (d := sL (longerRow row peg needed)) ?_ rfl
  refine ev_ite (c := decide (peg ∈ row)) (et_in (vr 1) (EV.wk (x := sL row) (vr 0)) rfl) (fun h => ?_) (fun h => ?_)
  · have hp : peg ∈ row := of_decide_eq_true h
    have hf := List.length_filter_le (fun o => !decide (o ∈ row)) needed
    refine (ev_catL (l := row.map D.str) (m := (needed.filter (fun o => !decide (o ∈ row))).map D.str) (EV.wk (vr 0)) (EV.wk (ev_lc1 (td := fun d => [(3, .d (.str d))]) needed D.str (fun o => !decide (o ∈ row)) D.str [("other", 3)] (ei_listw (l := needed.map D.str) (EV.wk (vr 2))) (by omega) (blkOk_by (by kernel_rfl)) (fun d hd => eg_name 3 rfl (.inl rfl)) (fun d hd q hq => by simp at hq; subst hq; simp) (fun d hd => et_ni (vr 3) (EV.wk (x := sL row) (vr 0)) rfl) (fun d hd _ => vr 3))) ?_).eqd ?_
    · simp; omega
    · simp [longerRow, hp, sL]
  · have hp : ¬ peg ∈ row := of_decide_eq_false h
    exact (vr 0).eqd (by simp [longerRow, hp])
/-! needed_rows -/
theorem scNeeded : FnScope ["pegs", "needs", "rows", "at", "peg", "needed", "own", "row"] ["pegs", "needs"] (defScope (top 52)) := ⟨rfl, rfl, rfl, by decide +kernel, rfl, by decide +kernel, by decide +kernel⟩
def stepR (R : Str → List Str) (q : Str × Str) : Str → List Str := fun p => longerRow (R p) q.1 (R q.2)
def rowsAt (needs : List (Str × Str)) : Str → List Str := needs.foldl stepR fun p => [p]
structure OkNeeds (pegs : List Str) (needs : List (Str × Str)) : Prop where
  few : pegs.length ≤ 1000
  nd : pegs.Nodup
  many : needs.length ≤ 1000
  ins : ∀ q ∈ needs, q.1 ∈ pegs ∧ q.2 ∈ pegs
  short : ∀ i, ∀ p ∈ pegs, (rowsAt (needs.take i) p).length ≤ 500
  noCircle : ∀ (i : Nat) (q : Str × Str), needs[i]? = some q → q.1 ∉ rowsAt (needs.take i) q.2
def spNeeded (g : Glob) : Sp := spP g (α := List Str × List (Str × Str)) (fun a => [sT a.1, psT a.2]) (fun a => OkNeeds a.1 a.2) (fun a d => d = rowsD a.1 (rowsAt a.2))
theorem take_succ_at {α : Type} {l : List α} {i : Nat} {x : α} (h : l[i]? = some x) : l.take (i + 1) = l.take i ++ [x] := by
  obtain ⟨hi, e⟩ := List.getElem?_eq_some_iff.mp h
  rw [List.take_succ, h]
  rfl
theorem items_map {ks : List Str} {f : Str → D} : itemsD ks (ks.map f) = ks.map fun k => .tup [.str k, f k] := by
  unfold itemsD
  induction ks with
  | nil => rfl
  | cons k ks ih => simp at ih ⊢; exact ih
theorem fn_needed {g : Glob} (F : Df g "needed_rows" (top 52)) (b : Bi g) (h1 : Fn g 1 "longer_row" (spLonger g)) : Fn g 2 "needed_rows" (spNeeded g) := by
  refine F.fn scNeeded (fun _ _ _ _ _ _ us hl => match us, hl with | [_, _], _ => rfl) (fun a => rfl) (by decide) fun B0 H0 a ha => ?_
  obtain ⟨pegs, needs⟩ := a
  obtain ⟨few, nd, many, ins, short, noC⟩ := ha
  dsimp only at few nd many ins short noC
  refine sv_setc 2 (r := .d (rowsD pegs fun p => [p])) (by rfl) (.inr (by rfl)) ((ev_dc (td := fun d => [(4, .d (.str d))]) pegs D.str (fun p => p) (fun p => sL [p]) [("peg", 4)] (ei_tup (l := pegs.map D.str) (vr 0)).weak few (by simpa using nd) (blkOk_by (by kernel_rfl)) (fun d hd => eg_name 4 rfl (.inl rfl)) (fun d hd q hq => by simp at hq; subst hq; simp) (fun d hd => vr 4) (fun d hd => ev_lst (ds := [.str d]) (ea_1 (vr 4)) (by simp))).eqd (by rw [List.map_id']; rfl)) ?_ (fun env h => sw_cellD (by rw [h]; rfl))
  refine sv_for needs.zipIdx (fun q => .tup [.int (q.2 : Nat), pD q.1]) (fun i δ' => ∃ x y z, δ' = [some (.d (sT pegs)), some (.d (psT needs)), some (.d (rowsD pegs (rowsAt (needs.take i)))), x, y, z, none, none]) (td := fun q => [(3, .d (.int (q.2 : Nat))), (4, .d (.str q.1.1)), (5, .d (.str q.1.2))])
    ((ei_enum (l := needs.map pD) (vr 1) (by rfl) b.enum).eq (enumD_map _ _)) ⟨none, none, none, rfl⟩ (fun d hd => eg_tup (egl_cons (eg_name 3 (by rfl) (.inl (by rfl))) (egl_cons (l := [(4, .d (.str d.1.1)), (5, .d (.str d.1.2))]) (eg_two 4 5 (by rfl) (by rfl) (.inr (by rfl)) (.inr (by rfl))) egl_nil))) ?_ ?_
  · rintro i q δ' hq ⟨x, y, z, rfl⟩
    obtain ⟨e1, e2⟩ := zipIdx_at hq
    obtain ⟨m1, m2⟩ := ins _ (List.mem_of_getElem? e1)
    have nC := noC i q.1 e1
    have nx : rowsAt (needs.take (i + 1)) = stepR (rowsAt (needs.take i)) q.1 := by
      rw [take_succ_at e1]; unfold rowsAt; rw [List.foldl_append]; rfl
    generalize hR : rowsAt (needs.take i) = R at *
    refine sv_ifF (cc := false) ((et_in (ss := R q.1.2) (vr 4) (EV.wk (x := sL (R q.1.2)) (ev_dget (ks := pegs) (l := pegs.map fun p => sL (R p)) (EV.wk (x := rowsD pegs R) (vr 2)) (vr 5) (lookD_map m2) (by exact fun _ _ => rfl))) rfl).eqb (by simp [nC])) rfl ?_
    refine sv_setc 2 (r := .d (rowsD pegs (stepR R q.1))) (by rfl) (.inr (by rfl)) (ev_lock 2 (ks := pegs) (l := pegs.map fun p => sL (R p)) (by rfl) fun p H0' => (ev_dc (td := fun d => [(6, .d (.str d)), (7, .d (sL (R d)))]) pegs (fun d => .tup [.str d, sL (R d)]) (fun p => p) (fun p => sL (stepR R q.1 p)) [("own", 6), ("row", 7)]
      ((ei_items (vr 2)).eq items_map) few (by simpa using nd) (blkOk_by (by kernel_rfl)) (fun d hd => eg_two 6 7 (by rfl) (by rfl) (.inl (by rfl)) (.inl (by rfl))) (fun d hd z hz => by simp at hz; rcases hz with rfl | rfl <;> simp) (fun d hd => vr 6) (fun d hd => ?_)).eqd (by rw [List.map_id']; rfl)) ?_ (fun env h => sw_cellD (by rw [h]; rfl))
    · refine ev_call (α := List Str × Str × List Str) (R d, q.1.1, R q.1.2) h1 of_E.at.blk kk (by rfl) (ea_cons (vr 7) (ea_cons (vr 4) (ea_1 (ev_dget (ks := pegs) (l := pegs.map fun p => sL (R p)) (EV.lkw (vr 2)) (vr 5) (lookD_map m2) (by exact fun _ _ => rfl))))) ?_ (fun d' h => h)
      have s1 := short i d hd
      have s2 := short i q.1.2 m2
      rw [hR] at s1 s2
      simp only; omega
    · exact sv_end ⟨_, _, _, by rw [nx]; rfl⟩
  · rintro δ' ⟨x, y, z, rfl⟩
    refine sv_retd (vr 2) ?_
    rw [List.length_zipIdx, List.take_length]
end Nb
set_option Elab.async false
set_option linter.all false
set_option maxRecDepth 100000
set_option maxHeartbeats 2000000
namespace Nb
open PySem PySem.Spec PyProof.Rows L2
/-! barred_in -/
theorem scBarred : FnScope ["row", "other_row", "bars", "a", "b"] ["row", "other_row", "bars"] (defScope (top 54)) := ⟨rfl, rfl, rfl, by decide +kernel, rfl, by decide +kernel, by decide +kernel⟩
def barredIn (r o : List Str) (bars : List (Str × Str)) : Bool := bars.any fun q => (decide (q.1 ∈ r) && decide (q.2 ∈ o)) || (decide (q.2 ∈ r) && decide (q.1 ∈ o))
def spBarred (g : Glob) : Sp := spP g (α := List Str × List Str × List (Str × Str)) (fun s => [sL s.1, sL s.2.1, psT s.2.2]) (fun s => s.2.2.length ≤ 1000) (fun s d => d = .bl (barredIn s.1 s.2.1 s.2.2))
theorem fn_barred {g : Glob} (F : Df g "barred_in" (top 54)) (b : Bi g) : Fn g 1 "barred_in" (spBarred g) := by
  refine F.fn scBarred (fun _ _ _ _ _ _ us hl => match us, hl with | [_, _, _], _ => rfl) (fun a => rfl) (by decide) fun B0 H0 s hs => ?_
  obtain ⟨r, o, bars⟩ := s
  refine sv_retd (d := .bl (barredIn r o bars)) ?_ rfl
  refine ev_anyM (ev_lc0 (td := fun c => [(3, .d (.str c.1)), (4, .d (.str c.2))]) bars pD (fun q => .bl ((decide (q.1 ∈ r) && decide (q.2 ∈ o)) || (decide (q.2 ∈ r) && decide (q.1 ∈ o)))) [("a", 3), ("b", 4)] (ei_tup (l := bars.map pD) (vr 2)).weak hs (blkOk_by (by kernel_rfl)) (fun d hd => eg_two 3 4 (by rfl) (by rfl) (.inl (by rfl)) (.inl (by rfl))) (fun d hd q hq => by simp at hq; rcases hq with rfl | rfl <;> simp) (fun d hd => ?_)) (by rfl) b.any
  exact ev_or (ev_and (ev_in (vr 3) (EV.wk (x := sL r) (vr 0)) rfl) fun _ => ev_one (ev_in (vr 4) (EV.wk (x := sL o) (vr 1)) rfl)) fun _ => ev_one (ev_and (ev_in (vr 4) (EV.wk (x := sL r) (vr 0)) rfl) fun _ => ev_one (ev_in (vr 3) (EV.wk (x := sL o) (vr 1)) rfl))
/-! check_dead -/
theorem scDead : FnScope ["pegs", "rows", "bars", "at", "peg"] ["pegs", "rows", "bars"] (defScope (top 55)) := ⟨rfl, rfl, rfl, by decide +kernel, rfl, by decide +kernel, by decide +kernel⟩
structure Rws where
  pegs : List Str
  R : Str → List Str
  bars : List (Str × Str)
def spDead (g : Glob) : Sp := spP g (α := Rws) (fun s => [sT s.pegs, rowsD s.pegs s.R, psT s.bars]) (fun s => s.bars.length ≤ 1000 ∧ ∀ p ∈ s.pegs, barredIn (s.R p) (s.R p) s.bars = false) (fun s d => d = .non)
theorem fn_dead {g : Glob} (F : Df g "check_dead" (top 55)) (b : Bi g) (h1 : Fn g 1 "barred_in" (spBarred g)) : Fn g 2 "check_dead" (spDead g) := by
  refine F.fn scDead (fun _ _ _ _ _ _ us hl => match us, hl with | [_, _, _], _ => rfl) (fun a => rfl) (by decide) fun B0 H0 s hs => ?_
  obtain ⟨hz, hs⟩ := hs
  refine sv_for s.pegs.zipIdx (fun q => .tup [.int (q.2 : Nat), .str q.1]) (fun i δ' => ∃ x y, δ' = [some (.d (sT s.pegs)), some (.d (rowsD s.pegs s.R)), some (.d (psT s.bars)), x, y]) (td := fun q => [(3, .d (.int (q.2 : Nat))), (4, .d (.str q.1))])
    ((ei_enum (l := s.pegs.map D.str) (vr 0) (by rfl) b.enum).eq (enumD_map _ _)) ⟨none, none, rfl⟩ (fun d hd => eg_two 3 4 (by rfl) (by rfl) (.inl (by rfl)) (.inl (by rfl))) ?_ ?_
  · rintro i q δ' hq ⟨x, y, rfl⟩
    obtain ⟨e1, e2⟩ := zipIdx_at hq
    have hm : q.1 ∈ s.pegs := List.mem_of_getElem? e1
    refine sv_ifF (cc := false) (et_v (ev_call (α := List Str × List Str × List (Str × Str)) (s.R q.1, s.R q.1, s.bars) h1 of_E kk (by rfl) (ea_cons (ev_dget (ks := s.pegs) (l := s.pegs.map fun p => sL (s.R p)) (EV.wk (x := rowsD s.pegs s.R) (vr 1)) (vr 4) (lookD_map hm) (by exact fun _ _ => rfl)) (ea_cons (ev_dget (ks := s.pegs) (l := s.pegs.map fun p => sL (s.R p)) (EV.wk (x := rowsD s.pegs s.R) (vr 1)) (vr 4) (lookD_map hm) (by exact fun _ _ => rfl)) (ea_1 (vr 2)))) hz (fun d' h => by rw [h, hs _ hm]))) rfl (sv_end ⟨_, _, rfl⟩)
  · rintro δ' ⟨x, y, rfl⟩
    exact sv_end rfl
/-! clash_pairs -/
theorem scClash : FnScope ["pegs", "rows", "bars", "found", "at", "one", "other"] ["pegs", "rows", "bars"] (defScope (top 56)) := ⟨rfl, rfl, rfl, by decide +kernel, rfl, by decide +kernel, by decide +kernel⟩
def clashPairs (pegs : List Str) (R : Str → List Str) (bars : List (Str × Str)) : List (Str × Str) :=
  pegs.zipIdx.flatMap fun q => ((pegs.drop (q.2 + 1)).filter fun o => barredIn (R q.1) (R o) bars).map fun o => (q.1, o)
def spClashP (g : Glob) : Sp := spP g (α := Rws) (fun s => [sT s.pegs, rowsD s.pegs s.R, psT s.bars]) (fun s => s.bars.length ≤ 1000 ∧ s.pegs.length ≤ 12) (fun s d => d = psT (clashPairs s.pegs s.R s.bars))
theorem flatMap_len {α β : Type} {f : α → List β} {n : Nat} : ∀ {l : List α}, (∀ x ∈ l, (f x).length ≤ n) → (l.flatMap f).length ≤ l.length * n
  | [], _ => by simp
  | x :: l, h => by
    have h1 := h x (by simp)
    have h2 := flatMap_len (f := f) (n := n) (l := l) fun y hy => h y (by simp [hy])
    rw [List.flatMap_cons, List.length_append, List.length_cons, Nat.succ_mul]
    omega
theorem fn_clashP {g : Glob} (F : Df g "clash_pairs" (top 56)) (b : Bi g) (h1 : Fn g 1 "barred_in" (spBarred g)) : Fn g 2 "clash_pairs" (spClashP g) := by
  refine F.fn scClash (fun _ _ _ _ _ _ us hl => match us, hl with | [_, _, _], _ => rfl) (fun a => rfl) (by decide) fun B0 H0 s hs => ?_
  obtain ⟨hz, hf⟩ := hs
  let row : (Str × Nat) → List (Str × Str) := fun q => ((s.pegs.drop (q.2 + 1)).filter fun o => barredIn (s.R q.1) (s.R o) s.bars).map fun o => (q.1, o)
  have hrow : ∀ q, (row q).length ≤ 12 := fun q => by
    show (List.map _ _).length ≤ 12
    rw [List.length_map]
    refine Nat.le_trans (List.length_filter_le _ _) ?_
    rw [List.length_drop]; omega
  refine sv_new 3 (by rfl) (.inl (by rfl)) en_nil (by rfl) fun q d hd nB ap => ?_
  subst hd
  refine sv_for s.pegs.zipIdx (fun q => .tup [.int (q.2 : Nat), .str q.1]) (fun i δ' => ∃ x y, δ' = [some (.d (sT s.pegs)), some (.d (rowsD s.pegs s.R)), some (.d (psT s.bars)), some (.own q (.lst (((s.pegs.zipIdx.take i).flatMap row).map pD))), x, y, none]) (td := fun q => [(4, .d (.int (q.2 : Nat))), (5, .d (.str q.1))])
    ((ei_enum (l := s.pegs.map D.str) (vr 0) (by rfl) b.enum).eq (enumD_map _ _)) ⟨none, none, rfl⟩ (fun d hd => eg_two 4 5 (by rfl) (by rfl) (.inl (by rfl)) (.inr (by rfl))) ?_ ?_
  · rintro i u δ' hq ⟨x, y, rfl⟩
    obtain ⟨e1, e2⟩ := zipIdx_at hq
    have hm : u.1 ∈ s.pegs := List.mem_of_getElem? e1
    have hlen : ((s.pegs.zipIdx.take i).flatMap row).length ≤ 144 := by
      refine Nat.le_trans (flatMap_len fun x _ => hrow x) ?_
      have : (s.pegs.zipIdx.take i).length ≤ 12 := by rw [List.length_take, List.length_zipIdx]; omega
      omega
    refine sv_extend 3 (Pm := fun m => m = (row u).map pD) (by rfl) (.inl (by rfl)) (by rfl) (.inr rfl) (by trivial) ((ev_lc1 (td := fun c => [(6, .d (.str c))]) (s.pegs.drop (u.2 + 1)) D.str (fun o => barredIn (s.R u.1) (s.R o) s.bars) (fun o => pD (u.1, o)) [("other", 6)] (EI.eq (EI.weak (ei_tup (ev_slT (l := s.pegs.map D.str) (vr 0) (eo_some (ev_add (vr 4) ev_int)) eo_none))) ?_) ?_ (blkOk_by (by kernel_rfl)) (fun d hd => eg_name 6 rfl (.inl rfl)) (fun d hd q hq => by simp at hq; subst hq; simp) (fun d hd => ?_) (fun d hd _ => ev_tup (ds := [.str u.1, .str d]) (ea_cons (vr 5) (ea_1 (vr 6))) (by simp))).toP ⟨_, rfl, ?_⟩) (fun m hm => ?_) (fun m hm => ?_)
    · rw [show (((u.2 : Nat) : Int) + 1) = ((u.2 + 1 : Nat) : Int) by omega, cutD_map, cutD_from]
    · rw [List.length_drop]; omega
    · have hd' : d ∈ s.pegs := List.mem_of_mem_drop hd
      exact et_v (ev_call (α := List Str × List Str × List (Str × Str)) (s.R u.1, s.R d, s.bars) h1 of_E.blk kk (by rfl) (ea_cons (ev_dget (ks := s.pegs) (l := s.pegs.map fun p => sL (s.R p)) (EV.wk (x := rowsD s.pegs s.R) (vr 1)) (vr 5) (lookD_map hm) (by exact fun _ _ => rfl)) (ea_cons (ev_dget (ks := s.pegs) (l := s.pegs.map fun p => sL (s.R p)) (EV.wk (x := rowsD s.pegs s.R) (vr 1)) (vr 6) (lookD_map hd') (by exact fun _ _ => rfl)) (ea_1 (vr 2)))) hz (fun d' h => h))
    · show _ = List.map pD (List.map _ _)
      rw [List.map_map]
      rfl
    · subst hm
      have := hrow u
      rw [List.length_map, List.length_map]; omega
    · subst hm
      refine sv_end ⟨some (.d (.int (u.2 : Nat))), some (.d (.str u.1)), ?_⟩
      have e : List.map pD ((s.pegs.zipIdx.take i).flatMap row) ++ List.map pD (row u) = ((s.pegs.zipIdx.take (i + 1)).flatMap row).map pD := by
        rw [take_succ_at hq, List.flatMap_append, List.map_append]
        simp
      rw [e]
      rfl
  · rintro δ' ⟨x, y, rfl⟩
    refine sv_retd (ev_tupleL (EV.wko (vr 3)) (by rfl) b.tuple) ?_
    rw [List.take_length]
    rfl
end Nb
set_option Elab.async false
set_option linter.all false
set_option maxRecDepth 100000
set_option maxHeartbeats 2000000
/-! methods, properties, constructors -/
namespace Nb
open PySem PySem.Spec PyProof.Rows L2
/-- a property's getter -/
structure Dp (g : Glob) (c m q : Str) (st : Stmt) : Prop where
  ex : ∃ (f pq : Addr) (fd : FuncData), FunD g.K m q (defArgs st) (defBody st) (defScope st) [] [] f fd ∧ Cls g.K (g.cl c) ∧ PropOf g.K (g.cl c) m pq f
/-- __call__ -/
structure Dcb (g : Glob) (c q : Str) (st : Stmt) : Prop where
  ex : ∃ (f : Addr) (fd : FuncData), FunD g.K "__call__" q (defArgs st) (defBody st) (defScope st) [] [] f fd ∧ StX.CallO g.K (g.cl c) f
/-- __init__ -/
structure Dn (g : Glob) (c q : Str) (st : Stmt) (kws : List (Str × V)) : Prop where
  ex : ∃ (f : Addr) (fd : FuncData), FunD g.K "__init__" q (defArgs st) (defBody st) (defScope st) [] kws f fd ∧ Mk g.K (g.cl c) f ∧ g.mg c = some (.ref (g.cl c))
section
variable {g : Glob} {c m q : Str} {st : Stmt} {k : Nat} {N ps : List Str} {α : Type} {args : α → List D} {pre : α → Prop} {post : α → D → Prop} {postI : α → List Str → List D → Prop} {kws : List (Str × V)}
theorem Dm.me (F : Dm g c m q st) (S : FnScope N ps (defScope st)) (hb : bindsTo m q st ps) (hl : ∀ a, (args a).length = ps.length) (hN : ps.length ≤ N.length)
    (body : ∀ (B0 : Addr → Prop) (H0 : Hp) (a : α), pre a → SV (g.E k N (defScope st) B0 no no H0) B0 B0 (defBody st) (slots (args a) (N.length - ps.length)) { rt := post a, nx := fun _ => post a .non }) : Me g (k + 1) c m (spP g args pre post) := by
  obtain ⟨f, fd, F, hc, hm⟩ := F.ex
  exact ⟨f, fd, ps, ok_P F S hl hN body, hc, hm, F.bindsN hb⟩
theorem Me.ow {sp : Sp} (F : Me g k c m sp) : Ow g k c m sp := by
  obtain ⟨f, fd, ps, h1, h2, h3, h4⟩ := F.ex
  exact ⟨f, fd, ps, h1, h3.at_, h3.fn, h4⟩
theorem Dp.pr (F : Dp g c m q st) (S : FnScope N ps (defScope st)) (hb : bindsTo m q st ps) (hl : ∀ a, (args a).length = ps.length) (hN : ps.length ≤ N.length)
    (body : ∀ (B0 : Addr → Prop) (H0 : Hp) (a : α), pre a → SV (g.E k N (defScope st) B0 no no H0) B0 B0 (defBody st) (slots (args a) (N.length - ps.length)) { rt := post a, nx := fun _ => post a .non }) : Pr g (k + 1) c m (spP g args pre post) := by
  obtain ⟨f, pq, fd, F, hc, hm⟩ := F.ex
  exact ⟨f, pq, fd, ps, ok_P F S hl hN body, hc, hm, F.bindsN hb⟩
theorem Dcb.cb (F : Dcb g c q st) (S : FnScope N ps (defScope st)) (hb : bindsTo "__call__" q st ps) (hl : ∀ a, (args a).length = ps.length) (hN : ps.length ≤ N.length)
    (body : ∀ (B0 : Addr → Prop) (H0 : Hp) (a : α), pre a → SV (g.E k N (defScope st) B0 no no H0) B0 B0 (defBody st) (slots (args a) (N.length - ps.length)) { rt := post a, nx := fun _ => post a .non }) : Cb g (k + 1) c (spP g args pre post) := by
  obtain ⟨f, fd, F, hm⟩ := F.ex
  exact ⟨f, fd, ps, ok_P F S hl hN body, hm, F.bindsN hb⟩
theorem Dn.mak (F : Dn g c q st []) (S : FnScope N ps (defScope st)) (hb : bindsTo "__init__" q st ps) (hl : ∀ a, (args a).length + 1 = ps.length) (hN : ps.length ≤ N.length)
    (body : ∀ (B0 : Addr → Prop) (H0 : Hp) (p : Addr) (a : α), pre a → B0 p → SV (g.E k N (defScope st) B0 (fun x => x = p) no H0) B0 B0 (defBody st) (some (.ins p c [] []) :: slots (args a) (N.length - ps.length)) { nx := fun δ => ∃ fs l, δ[0]? = some (some (.ins p c fs l)) ∧ postI a fs l }) : Mak g (k + 1) c (spI g c args pre postI) := by
  obtain ⟨f, fd, F, hk, hm⟩ := F.ex
  exact ⟨f, fd, ps, ok_I F S hl hN body, hk, hm, F.bindsN hb⟩
theorem Dn.makK {n : Nat} {ks : List Str} (F : Dn g c q st kws) (S : FnScope N ps (defScope st)) (hk : kws ≠ [])
    (hb : ∀ (D : Addr) (doc pm : Value) (an : Option Addr) (cdv ct : Value) (us ws : List Value), us.length = n + 1 → ws.length = ks.length →
      KwChain D [] (bindArgs (PySem.W.fnOf "__init__" q (defArgs st) (defBody st) (defScope st) .none (.ref D) doc pm an cdv ct) ⟨us, ks.zip ws⟩) (ps.zip (us ++ ws)))
    (hl : ∀ a, (args a).length + 1 = ps.length) (hN : ps.length ≤ N.length)
    (body : ∀ (B0 : Addr → Prop) (H0 : Hp) (p : Addr) (a : α), pre a → B0 p → SV (g.E k N (defScope st) B0 (fun x => x = p) no H0) B0 B0 (defBody st) (some (.ins p c [] []) :: slots (args a) (N.length - ps.length)) { nx := fun δ => ∃ fs l, δ[0]? = some (some (.ins p c fs l)) ∧ postI a fs l }) : MakK g (k + 1) c n ks (spI g c args pre postI) := by
  obtain ⟨f, fd, F, hmk, hm⟩ := F.ex
  obtain ⟨mv, hK⟩ := F.kbinds0 (ps := ps) (n + 1) ks [] (fun us _ ws => us ++ ws) hk (fun q h => by cases h) (fun r1 _ r2 => r1.append r2) (fun D doc pm an cdv ct us mv ws l1 l2 l3 => by
    have : mv = [] := List.eq_nil_of_length_eq_zero l2
    subst this
    exact hb D doc pm an cdv ct us ws l1 l3)
  exact ⟨f, fd, ps, _, ok_I F S hl hN body, hmk, hm, hK⟩
end
end Nb
set_option Elab.async false
set_option linter.all false
set_option maxRecDepth 100000
set_option maxHeartbeats 2000000
namespace Nb
open PySem PySem.Spec PyProof.Rows L2
def clsBody : Stmt → List Stmt
  | .ClassDef _ _ _ body _ _ _ _ _ _ _ => body
  | _ => []
def mem (i j : Nat) : Stmt := (clsBody (top i)).getD j (.Pass ⟨0, 0, 0, 0⟩)
section
variable {E : EC} {δ : Ds} {pos p : Pos} {a b e : Expr} {r : Ent} {P : D → Prop}
theorem EN.toD (h : EN E e δ P) : EVP E e δ (fun r => ∃ d, r = .d d ∧ P d) := fun B γ σ H er Q q => h B γ σ H er Q fun p d H2 hp hd l ht => q (.d d) _ H2 ⟨d, rfl, hd⟩ l (by
  have nB : ¬ B p := fun z => er.dom p z hp
  have k2 : Kd B (fun a => B a ∨ a = p) H2 H2 := ⟨fun a _ nb z => nb (.inl z), fun a u _ _ r => r, fun a u _ _ r => r⟩
  cases d with
  | lst l => obtain ⟨vs, e1, r⟩ := ht; simp only [RE, Rep]; exact ⟨p, vs, rfl, nB, e1, Reps.kd k2 _ _ r⟩
  | dct ks l => obtain ⟨vs, hl, e1, r⟩ := ht; simp only [RE, Rep]; exact ⟨p, vs, rfl, nB, hl, .inl e1, Reps.kd k2 _ _ r⟩
  | dcT ks l => obtain ⟨vs, hl, e1, r⟩ := ht; simp only [RE, Rep]; exact ⟨p, vs, rfl, nB, hl, .inl e1, Reps.kd k2 _ _ r⟩
  | _ => exact False.elim ht)
theorem EN.toE {d : D} (h : EN E e δ (fun z => z = d)) : EV E e δ (.d d) := EVP.toV (h.toD.imp fun r ⟨z, e1, e2⟩ => by rw [e1, e2])
theorem EV.pd {d : D} (h : EV E e δ (.d d)) : EVP E e δ (fun r => ∃ z, r = .d z ∧ z = d) := h.toP ⟨d, rfl, rfl⟩
end
theorem one0 {δ : Ds} {p : Addr} (h : noIns δ.tail = true) : ∀ (j : Nat) c' fs' l', δ[j]? = some (some (Ent.ins p c' fs' l')) → j = 0 := by
  intro j c' fs' l' e
  cases j with
  | zero => rfl
  | succ j =>
    exfalso
    refine noIns_at h j _ ?_ p c' fs' l' rfl
    rw [List.getElem?_tail]
    exact e
/-! the board -/
structure Bd where
  order : List Str
  prices : List Int
  row : Str → List Str
  clashes : List (Str × Str)
def bdFs : List Str := ["order", "prices", "rows", "clashes", "key"]
def Bd.key (b : Bd) : D := .tup [sT b.order, iT b.prices, .tup (b.order.map fun p => sT (b.row p)), psT b.clashes]
def Bd.l (b : Bd) : List D := [sT b.order, .dct b.order (b.prices.map D.int), rowsT b.order b.row, psT b.clashes, b.key]
def Bd.d (b : Bd) : D := .obj "Board" bdFs b.l
def mkBd (s : Parts) : Bd := ⟨s.pegs, s.costs, fun p => s.pegs.filter fun o => decide (o ∈ rowsAt s.needs p), clashPairs s.pegs (rowsAt s.needs) s.bars⟩
structure OkParts (s : Parts) : Prop where
  pegs : OkPegs s
  needs : OkNeeds s.pegs s.needs
  ends : ∀ q ∈ s.needs, q.1 ∈ s.pegs ∧ q.2 ∈ s.pegs ∧ q.1 ≠ q.2
  bars : s.bars.length ≤ 1000 ∧ ∀ q ∈ s.bars, q.1 ∈ s.pegs ∧ q.2 ∈ s.pegs ∧ q.1 ≠ q.2
  dead : ∀ p ∈ s.pegs, barredIn (rowsAt s.needs p) (rowsAt s.needs p) s.bars = false
/-- what is known of the class Board -/
structure KBd (g : Glob) : Prop where
  cls : Cls g.K (g.cl "Board")
  na : ∀ f ∈ bdFs, NoAttr g.K (g.cl "Board") f
  most : ∃ u, Con g.K (g.cl "Board") "MOST" (.int 12) u
theorem scBdInit : FnScope ["self", "pegs", "needs", "bars", "costs", "prices", "peg", "rows", "other"] ["self", "pegs", "needs", "bars", "costs"] (defScope (mem 63 1)) := ⟨rfl, rfl, rfl, by decide +kernel, rfl, by decide +kernel, by decide +kernel⟩
def spBdInit (g : Glob) : Sp := spI g "Board" (α := Parts) (fun s => [sT s.pegs, psT s.needs, psT s.bars, iT s.costs]) OkParts (fun s fs l => fs = bdFs ∧ l = (mkBd s).l)
section
variable {g : Glob} {kws : List (Str × V)}
theorem mk_board (F : Dn g "Board" "Board.__init__" (mem 63 1) kws) (hk : kws ≠ []) (b : Bi g) (kb : KBd g)
    (h1 : Fn g 3 "check_form" (spForm g)) (h2 : Fn g 2 "check_pegs" (spPegs g)) (h3 : Fn g 1 "check_pairs" (spPairs g)) (h4 : Fn g 2 "needed_rows" (spNeeded g)) (h5 : Fn g 2 "check_dead" (spDead g)) (h6 : Fn g 2 "clash_pairs" (spClashP g)) :
    MakK g 4 "Board" 1 ["needs", "bars", "costs"] (spBdInit g) := by
  refine F.makK scBdInit hk ?_ (fun a => rfl) (by decide) fun B0 H0 p s hs hp => ?_
  · intro D doc pm an cdv ct us ws l1 l2
    match us, ws, l1, l2 with
    | [_, _], [_, _, _], _, _ => rfl
  refine sv_drop (ev_call (α := Parts) s h1 of_E kk (by rfl) (ea_cons (vr 1) (ea_cons (vr 2) (ea_cons (vr 3) (ea_1 (vr 4))))) ?_ (fun d' h => h)).pd ?_
  · have := hs.pegs.few
    have := hs.pegs.len
    exact ⟨by omega, hs.needs.many, hs.bars.1, by omega⟩
  refine sv_set 5 (r := .d (iT s.costs)) (by rfl) (.inl (by rfl)) (ev_ite (c := false) (et_isN (x := iT s.costs) (vr 4)) (fun h => by cases h) fun _ => vr 4) ?_
  obtain ⟨u, hcon⟩ := kb.most
  refine sv_drop (ev_call (α := Parts) s h2 of_E kk (by rfl) (ea_cons (vr 1) (ea_cons (vr 5) (ea_1 (ev_coni of_E kb.cls hcon (vr 0) rfl (fun _ _ => rfl))))) hs.pegs (fun d' h => h)).pd ?_
  refine sv_drop (ev_call (α := List Str × List (Str × Str) × Str) (s.pegs, s.needs, "need") h3 of_E kk (by rfl) (ea_cons (vr 1) (ea_cons (vr 2) (ea_1 ev_str))) ⟨hs.needs.many, hs.ends⟩ (fun d' h => h)).pd ?_
  refine sv_set 7 (r := .d (rowsD s.pegs (rowsAt s.needs))) (by rfl) (.inr (by rfl)) (ev_call (α := List Str × List (Str × Str)) (s.pegs, s.needs) h4 of_E kk (by rfl) (ea_cons (vr 1) (ea_1 (vr 2))) hs.needs (fun d' h => h)) ?_
  refine sv_drop (ev_call (α := List Str × List (Str × Str) × Str) (s.pegs, s.bars, "bar") h3 of_E kk (by rfl) (ea_cons (vr 1) (ea_cons (vr 3) (ea_1 ev_str))) hs.bars (fun d' h => h)).pd ?_
  refine sv_drop (ev_call (α := Rws) ⟨s.pegs, rowsAt s.needs, s.bars⟩ h5 of_E kk (by rfl) (ea_cons (vr 1) (ea_cons (vr 7) (ea_1 (vr 3)))) ⟨hs.bars.1, hs.dead⟩ (fun d' h => h)).pd ?_
  have few := hs.pegs.few
  have lenp := hs.pegs.len
  refine sv_fld 0 of_E kb.cls (kb.na "order" (by decide)) rfl (by rfl) (.inl (by rfl)) (by rfl) (one0 (by rfl)) (by decide) (by decide) (ev_tupleT (vr 1) (by rfl) b.tuple).pd (fun d hd => ?_) (by rfl)
  subst hd
  refine sv_fld 0 of_E kb.cls (kb.na "prices" (by decide)) rfl (by rfl) (.inl (by rfl)) (by rfl) (one0 (by rfl)) (by decide) (by decide) (en_dictZip (ks := s.pegs) (l := s.costs.map D.int) (vr 1) (vr 5) ev_bl (by simp [lenp]) hs.pegs.nd (by rfl) b.dict (by rfl) b.zip).toD (fun d hd => ?_) (by rfl)
  subst hd
  refine sv_fld 0 of_E kb.cls (kb.na "rows" (by decide)) rfl (by rfl) (.inl (by rfl)) (by rfl) (one0 (by rfl)) (by decide) (by decide)
    (ev_dc (td := fun d => [(6, .d (.str d))]) s.pegs D.str (fun p => p) (fun p => sT ((mkBd s).row p)) [("peg", 6)] (ei_tup (l := s.pegs.map D.str) (vr 1)).weak (by omega) (by simpa using hs.pegs.nd) (blkOk_by (by kernel_rfl)) (fun d hd => eg_name 6 rfl (.inr rfl)) (fun d hd q hq => by simp at hq; subst hq; simp) (fun d hd => vr 6)
      (fun d hd => ev_tupleL (EV.wk (ev_lc1 (td := fun o => [(8, .d (.str o))]) s.pegs D.str (fun o => decide (o ∈ rowsAt s.needs d)) D.str [("other", 8)] (ei_tup (l := s.pegs.map D.str) (vr 1)).weak (by omega) (blkOk_by (by kernel_rfl)) (fun d hd => eg_name 8 rfl (.inl rfl)) (fun d hd q hq => by simp at hq; subst hq; simp)
        (fun o ho => et_in (ss := rowsAt s.needs d) (vr 8) (EV.wk (x := sL (rowsAt s.needs d)) (ev_dget (ks := s.pegs) (l := s.pegs.map fun p => sL (rowsAt s.needs p)) (EV.wk (x := rowsD s.pegs (rowsAt s.needs)) (vr 7)) (vr 6) (lookD_map hd) (by exact fun _ _ => rfl))) rfl) (fun o ho _ => vr 8))) (by rfl) (by exact b.tuple))).pd (fun d hd => ?_) (by rfl)
  subst hd
  rw [List.map_id']
  refine sv_fld 0 of_E kb.cls (kb.na "clashes" (by decide)) rfl (by rfl) (.inl (by rfl)) (by rfl) (one0 (by rfl)) (by decide) (by decide)
    (ev_call (α := Rws) ⟨s.pegs, rowsAt s.needs, s.bars⟩ h6 of_E kk (by rfl) (ea_cons (ev_fldi (d := sT s.pegs) of_E kb.cls (kb.na "order" (by decide)) (vr 0) (by rfl)) (ea_cons (vr 7) (ea_1 (vr 3)))) ⟨hs.bars.1, few⟩ (fun d' h => h)).pd (fun d hd => ?_) (by rfl)
  subst hd
  refine sv_fld 0 of_E kb.cls (kb.na "key" (by decide)) rfl (by rfl) (.inl (by rfl)) (by rfl) (one0 (by rfl)) (by decide) (by decide)
    (ev_tup (ds := [sT s.pegs, iT s.costs, .tup (s.pegs.map fun p => sT ((mkBd s).row p)), psT (mkBd s).clashes]) (ea_cons (ev_fldi (d := sT s.pegs) of_E kb.cls (kb.na "order" (by decide)) (vr 0) (by rfl)) (ea_cons (ev_tupleT (vr 5) (by rfl) b.tuple) (ea_cons (ev_tupVals (ks := s.pegs) (ev_fldi (d := rowsT s.pegs (mkBd s).row) of_E kb.cls (kb.na "rows" (by decide)) (vr 0) (by rfl)) (by rfl) b.tuple) (ea_1 (ev_fldi (d := psT (mkBd s).clashes) of_E kb.cls (kb.na "clashes" (by decide)) (vr 0) (by rfl)))))) (by simp)).pd (fun d hd => ?_) (by rfl)
  subst hd
  exact sv_end ⟨_, _, rfl, rfl, rfl⟩
end
end Nb
set_option Elab.async false
set_option linter.all false
set_option maxRecDepth 100000
set_option maxHeartbeats 2000000
namespace Nb
open PySem PySem.Spec PyProof.Rows L2
theorem strOk_name {s : Str} (h : okName s) : PyData.strOk s = true := by
  obtain ⟨h1, h2, h3⟩ := h
  unfold PyData.strOk
  rw [← Array.all_toList, List.all_eq_true]
  intro x hx
  have := h3 x hx
  simp; omega
section
variable {E : EC} {g : Glob} {δ : Ds} {e o : Expr} {es : List Expr} {pos p apos : Pos} {α : Type} {args : α → List D} {pre : α → Prop} {post : α → D → Prop} {k : Nat} {c m : Str}
theorem ev_mt {fs : List Str} {l : List D} (a : α) {d : D} {ds : List D} (F : Me g k c m (spP g args pre post)) (og : Of E g) (hk : k ≤ E.k) (ho : EV E o δ (.d (.obj c fs l))) (hm : fs.contains m = false) (ha : EA E (e :: es) δ (ds.map Ent.d)) (hds : .obj c fs l :: ds = args a) (hp : pre a) (hd : ∀ d', post a d' → d' = d)
    (hst : ∀ env, starEach (e :: es) env = (false, eval e env) :: starEach es env := by intro _; rfl) (hpl : ∀ env, (backTo pos (starEach es env)).any (·.1) = false := by intro _; rfl)
    (ht : ∀ env, eval (.Call (.Attribute o m apos) (e :: es) [] pos) env = (do
      let ov ← eval o env
      standAt apos.atName
      let (f, first) ← holding [ov] (getMethod ov m (do let r ← importBound o env; pure (r.getD true)))
      callWith pos f first (backTo pos (starEach (e :: es) env)) (backToKw pos (keywordEach [] env))) := by intro _; rfl) : EV E (.Call (.Attribute o m apos) (e :: es) [] pos) δ (.d d) :=
  ev_meth (pl := pure true) a F og hk ho hm ha hds hp hd hst hpl (fun env => do let r ← importBound o env; pure (r.getD true)) ht
end
structure OkBd (b : Bd) : Prop where
  few : b.order.length ≤ 12
  nd : b.order.Nodup
  names : ∀ p ∈ b.order, okName p
  plen : b.prices.length = b.order.length
  sub : ∀ p ∈ b.order, ∀ o ∈ b.row p, o ∈ b.order
  rlen : ∀ p ∈ b.order, (b.row p).length ≤ 12
  cin : ∀ q ∈ b.clashes, q.1 ∈ b.order ∧ q.2 ∈ b.order
  clen : b.clashes.length ≤ 144
  irr : ∀ q ∈ b.clashes, q.1 ≠ q.2
theorem okD_str {n : Nat} {s : Str} (h : okName s) : okD n (.str s) = true := by
  have := strOk_name h
  cases n <;> simpa [okD] using this
theorem okDs_names {n : Nat} {ss : List Str} (h : ∀ s ∈ ss, okName s) : okDs n (ss.map D.str) = true := okDs_map fun x hx => okD_str (h x hx)
theorem okD_pairs {n : Nat} {cs : List (Str × Str)} (h : ∀ q ∈ cs, okName q.1 ∧ okName q.2) : okDs (n + 1) (cs.map pD) = true := okDs_map fun x hx => by
  show okDs n [.str x.1, .str x.2] = true
  simp [okDs, okD_str (h x hx).1, okD_str (h x hx).2]
theorem OkBd.key {b : Bd} (h : OkBd b) : okD 4 b.key = true := by
  have nm : ∀ p ∈ b.order, ∀ o ∈ b.row p, okName o := fun p hp o ho => h.names o (h.sub p hp o ho)
  have e1 : okD 3 (sT b.order) = true := okDs_names (n := 2) h.names
  have e2 : okD 3 (iT b.prices) = true := okDs_int (n := 2)
  have e3 : okD 3 (.tup (b.order.map fun p => sT (b.row p))) = true := okDs_map (n := 2) fun x hx => okDs_names (n := 1) (nm x hx)
  have e4 : okD 3 (psT b.clashes) = true := okD_pairs (n := 1) fun q hq => ⟨h.names _ (h.cin q hq).1, h.names _ (h.cin q hq).2⟩
  show okDs 3 [sT b.order, iT b.prices, .tup (b.order.map fun p => sT (b.row p)), psT b.clashes] = true
  simp [okDs, e1, e2, e3, e4]
section
variable {g : Glob}
/-! the methods -/
theorem scBdPegs : FnScope ["self"] ["self"] (defScope (mem 63 9)) := ⟨rfl, rfl, rfl, by decide +kernel, rfl, by decide +kernel, by decide +kernel⟩
def spBdPegs (g : Glob) : Sp := spP g (α := Bd) (fun b => [b.d]) (fun _ => True) (fun b d => d = sT b.order)
theorem pr_pegs (F : Dp g "Board" "pegs" "Board.pegs" (mem 63 9)) (kb : KBd g) : Pr g 1 "Board" "pegs" (spBdPegs g) :=
  F.pr scBdPegs (fun _ _ _ _ _ _ us hl => match us, hl with | [_], _ => rfl) (fun a => rfl) (by decide) fun B0 H0 b hb =>
    sv_retd (ev_fld (d := sT b.order) of_E kb.cls (kb.na "order" (by decide)) (fs := bdFs) (l := b.l) (vr 0) (by rfl)) rfl
theorem scReq : FnScope ["self", "peg"] ["self", "peg"] (defScope (mem 63 11)) := ⟨rfl, rfl, rfl, by decide +kernel, rfl, by decide +kernel, by decide +kernel⟩
def spReq (g : Glob) : Sp := spP g (α := Bd × Str) (fun a => [a.1.d, .str a.2]) (fun a => a.2 ∈ a.1.order) (fun b d => d = .non)
theorem me_require (F : Dm g "Board" "require" "Board.require" (mem 63 11)) (kb : KBd g) : Me g 1 "Board" "require" (spReq g) :=
  F.me scReq (fun _ _ _ _ _ _ us hl => match us, hl with | [_, _], _ => rfl) (fun a => rfl) (by decide) fun B0 H0 a ha =>
    sv_ifF (cc := false) ((et_ni (ss := a.1.order) (vr 1) (EV.wk (x := sT a.1.order) (ev_fld of_E kb.cls (kb.na "order" (by decide)) (fs := bdFs) (l := a.1.l) (vr 0) (by rfl))) rfl).eqb (by simp [show a.2 ∈ a.1.order from ha])) rfl (sv_end rfl)
theorem scBelow : FnScope ["self", "peg"] ["self", "peg"] (defScope (mem 63 13)) := ⟨rfl, rfl, rfl, by decide +kernel, rfl, by decide +kernel, by decide +kernel⟩
def spBelow (g : Glob) : Sp := spP g (α := Bd × Str) (fun a => [a.1.d, .str a.2]) (fun a => a.2 ∈ a.1.order) (fun a d => d = sT (a.1.row a.2))
theorem me_below (F : Dm g "Board" "below" "Board.below" (mem 63 13)) (kb : KBd g) (h1 : Me g 1 "Board" "require" (spReq g)) : Me g 2 "Board" "below" (spBelow g) :=
  F.me scBelow (fun _ _ _ _ _ _ us hl => match us, hl with | [_, _], _ => rfl) (fun a => rfl) (by decide) fun B0 H0 a ha =>
    sv_drop (ev_mt (α := Bd × Str) (d := .non) (ds := [.str a.2]) (fs := bdFs) (l := a.1.l) a h1 of_E kk (vr 0) rfl (ea_1 (vr 1)) rfl ha (fun d' h => h)).pd
    (sv_retd (ev_dget (ks := a.1.order) (l := a.1.order.map fun p => sT (a.1.row p)) (EV.wk (x := rowsT a.1.order a.1.row) (ev_fld of_E kb.cls (kb.na "rows" (by decide)) (fs := bdFs) (l := a.1.l) (vr 0) (by rfl))) (vr 1) (lookD_map ha) (by exact fun _ _ => rfl)) rfl)
theorem scAbove : FnScope ["self", "peg", "other"] ["self", "peg"] (defScope (mem 63 14)) := ⟨rfl, rfl, rfl, by decide +kernel, rfl, by decide +kernel, by decide +kernel⟩
def above (b : Bd) (p : Str) : List Str := b.order.filter fun o => decide (p ∈ b.row o)
def spAbove (g : Glob) : Sp := spP g (α := Bd × Str) (fun a => [a.1.d, .str a.2]) (fun a => OkBd a.1 ∧ a.2 ∈ a.1.order) (fun a d => d = sT (above a.1 a.2))
theorem me_above (F : Dm g "Board" "above" "Board.above" (mem 63 14)) (kb : KBd g) (b : Bi g) (h1 : Me g 1 "Board" "require" (spReq g)) : Me g 2 "Board" "above" (spAbove g) :=
  F.me scAbove (fun _ _ _ _ _ _ us hl => match us, hl with | [_, _], _ => rfl) (fun a => rfl) (by decide) fun B0 H0 a ⟨ok, ha⟩ => by
    refine sv_drop (ev_mt (α := Bd × Str) (d := .non) (ds := [.str a.2]) (fs := bdFs) (l := a.1.l) a h1 of_E kk (vr 0) rfl (ea_1 (vr 1)) rfl ha (fun d' h => h)).pd ?_
    refine sv_retd (ev_tupleL (EV.wk (ev_lc1 (td := fun o => [(2, .d (.str o))]) a.1.order D.str (fun o => decide (a.2 ∈ a.1.row o)) D.str [("other", 2)] (ei_tup (l := a.1.order.map D.str) (ev_fld of_E kb.cls (kb.na "order" (by decide)) (fs := bdFs) (l := a.1.l) (vr 0) (by rfl))).weak (by have := ok.few; omega) (blkOk_by (by kernel_rfl)) (fun d hd => eg_name 2 rfl (.inl rfl)) (fun d hd q hq => by simp at hq; subst hq; simp) (fun o ho => ?_) (fun o ho _ => vr 2))) (by rfl) b.tuple) rfl
    exact et_in (ss := a.1.row o) (vr 1) (EV.wk (x := sT (a.1.row o)) (ev_dget (ks := a.1.order) (l := a.1.order.map fun p => sT (a.1.row p)) (EV.wk (x := rowsT a.1.order a.1.row) (ev_fld of_E.blk kb.cls (kb.na "rows" (by decide)) (fs := bdFs) (l := a.1.l) (vr 0) (by rfl))) (vr 2) (lookD_map ho) (by exact fun _ _ => rfl))) rfl
theorem scNeeds : FnScope ["self", "peg", "other"] ["self", "peg", "other"] (defScope (mem 63 15)) := ⟨rfl, rfl, rfl, by decide +kernel, rfl, by decide +kernel, by decide +kernel⟩
def wants (b : Bd) (p o : Str) : Bool := !decide (p = o) && decide (o ∈ b.row p)
def spNeeds (g : Glob) : Sp := spP g (α := Bd × Str × Str) (fun a => [a.1.d, .str a.2.1, .str a.2.2]) (fun a => a.2.1 ∈ a.1.order ∧ a.2.2 ∈ a.1.order) (fun a d => d = .bl (wants a.1 a.2.1 a.2.2))
theorem me_needs (F : Dm g "Board" "needs" "Board.needs" (mem 63 15)) (kb : KBd g) (h1 : Me g 1 "Board" "require" (spReq g)) : Me g 2 "Board" "needs" (spNeeds g) :=
  F.me scNeeds (fun _ _ _ _ _ _ us hl => match us, hl with | [_, _, _], _ => rfl) (fun a => rfl) (by decide) fun B0 H0 a ⟨ha1, ha2⟩ => by
    obtain ⟨b, p, o⟩ := a
    refine sv_drop (ev_mt (α := Bd × Str) (d := .non) (ds := [.str p]) (fs := bdFs) (l := b.l) (b, p) h1 of_E kk (vr 0) rfl (ea_1 (vr 1)) rfl ha1 (fun d' h => h)).pd ?_
    refine sv_drop (ev_mt (α := Bd × Str) (d := .non) (ds := [.str o]) (fs := bdFs) (l := b.l) (b, o) h1 of_E kk (vr 0) rfl (ea_1 (vr 2)) rfl ha2 (fun d' h => h)).pd ?_
    refine sv_retd (ev_and ((ev_ne (vr 1) (vr 2)).eqb (d := !decide (p = o)) (by simp [eqD])) fun _ => ev_one (ev_in (ss := b.row p) (vr 2) (EV.wk (x := sT (b.row p)) (ev_dget (ks := b.order) (l := b.order.map fun p => sT (b.row p)) (EV.wk (x := rowsT b.order b.row) (ev_fld of_E kb.cls (kb.na "rows" (by decide)) (fs := bdFs) (l := b.l) (vr 0) (by rfl))) (vr 1) (lookD_map ha1) (by exact fun _ _ => rfl))) rfl)) rfl
theorem scClashM : FnScope ["self", "peg", "other"] ["self", "peg", "other"] (defScope (mem 63 16)) := ⟨rfl, rfl, rfl, by decide +kernel, rfl, by decide +kernel, by decide +kernel⟩
def clash (b : Bd) (p o : Str) : Bool := decide ((p, o) ∈ b.clashes) || decide ((o, p) ∈ b.clashes)
def spClash (g : Glob) : Sp := spP g (α := Bd × Str × Str) (fun a => [a.1.d, .str a.2.1, .str a.2.2]) (fun a => OkBd a.1 ∧ a.2.1 ∈ a.1.order ∧ a.2.2 ∈ a.1.order) (fun a d => d = .bl (clash a.1 a.2.1 a.2.2))
theorem pD_inj {p q : Str × Str} (h : pD p = pD q) : p = q := by
  obtain ⟨a, b⟩ := p
  obtain ⟨c, d⟩ := q
  simp only [pD, D.tup.injEq, List.cons.injEq, D.str.injEq, and_true] at h
  rw [h.1, h.2]
theorem pD_mem {q : Str × Str} {cs : List (Str × Str)} : pD q ∈ cs.map pD ↔ q ∈ cs := by
  rw [List.mem_map]
  exact ⟨fun ⟨r, hr, e⟩ => by rw [← pD_inj e]; exact hr, fun h => ⟨q, h, rfl⟩⟩
theorem me_clash (F : Dm g "Board" "clash" "Board.clash" (mem 63 16)) (kb : KBd g) (h1 : Me g 1 "Board" "require" (spReq g)) : Me g 2 "Board" "clash" (spClash g) :=
  F.me scClashM (fun _ _ _ _ _ _ us hl => match us, hl with | [_, _, _], _ => rfl) (fun a => rfl) (by decide) fun B0 H0 a ⟨ok, ha1, ha2⟩ => by
    obtain ⟨b, p, o⟩ := a
    have n1 : okName p := ok.names p ha1
    have n2 : okName o := ok.names o ha2
    have ncs : okDs 2 (b.clashes.map pD) = true := okD_pairs (n := 1) fun q hq => ⟨ok.names _ (ok.cin q hq).1, ok.names _ (ok.cin q hq).2⟩
    refine sv_drop (ev_mt (α := Bd × Str) (d := .non) (ds := [.str p]) (fs := bdFs) (l := b.l) (b, p) h1 of_E kk (vr 0) rfl (ea_1 (vr 1)) rfl ha1 (fun d' h => h)).pd ?_
    refine sv_drop (ev_mt (α := Bd × Str) (d := .non) (ds := [.str o]) (fs := bdFs) (l := b.l) (b, o) h1 of_E kk (vr 0) rfl (ea_1 (vr 2)) rfl ha2 (fun d' h => h)).pd ?_
    refine sv_retd (ev_or (c := decide ((p, o) ∈ b.clashes)) (d := decide ((o, p) ∈ b.clashes)) (ev_inD (x := pD (p, o)) (l := b.clashes.map pD) 2 2 (ev_tup (ds := [.str p, .str o]) (ea_cons (vr 1) (ea_1 (vr 2))) (by simp)) (ev_fld of_E kb.cls (kb.na "clashes" (by decide)) (fs := bdFs) (l := b.l) (vr 0) (by rfl)) ?_ ncs ?_) fun _ => ev_one (ev_inD (x := pD (o, p)) (l := b.clashes.map pD) 2 2 (ev_tup (ds := [.str o, .str p]) (ea_cons (vr 2) (ea_1 (vr 1))) (by simp)) (ev_fld of_E kb.cls (kb.na "clashes" (by decide)) (fs := bdFs) (l := b.l) (vr 0) (by rfl)) ?_ ncs ?_)) rfl
    · show okDs 1 [.str p, .str o] = true
      simp [okDs, okD_str n1, okD_str n2]
    · rw [pD_mem]; simp
    · show okDs 1 [.str o, .str p] = true
      simp [okDs, okD_str n1, okD_str n2]
    · rw [pD_mem]; simp
/-! a board is itself -/
theorem scBdEq : FnScope ["self", "other"] ["self", "other"] (defScope (mem 63 4)) := ⟨rfl, rfl, rfl, by decide +kernel, rfl, by decide +kernel, by decide +kernel⟩
def spBdEq (g : Glob) : Sp := spP g (α := Bd) (fun b => [b.d, b.d]) OkBd (fun b d => d = .bl true)
theorem me_bdEq (F : Dm g "Board" "__eq__" "Board.__eq__" (mem 63 4)) (kb : KBd g) (kl : Kl g "Board") (hm : g.mg "Board" = some (.ref (g.cl "Board"))) (b : Bi g) : Me g 1 "Board" "__eq__" (spBdEq g) :=
  F.me scBdEq (fun _ _ _ _ _ _ us hl => match us, hl with | [_, _], _ => rfl) (fun a => rfl) (by decide) fun B0 H0 a ok => by
    have ht : PySem.W.kitOne g.K (tyD g.cl a.d) (.ref (g.cl "Board")) = some true := by
      show PySem.W.kitOne g.K (.ref (g.cl "Board")) (.ref (g.cl "Board")) = some true
      unfold PySem.W.kitOne
      rw [if_pos (by simp)]
    refine sv_retd (d := .bl true) (ev_and (c := true) (d := true) (ev_isi (x := a.d) of_E (vr 1) (ev_gref (by rfl) hm) kl (.own _) ht (by rfl) b.isi) fun _ => ev_one (ev_eqD (x := a.key) (y := a.key) 4 4 (EV.wk (x := a.key) (ev_fld of_E kb.cls (kb.na "key" (by decide)) (fs := bdFs) (l := a.l) (vr 0) (by rfl))) (EV.wk (x := a.key) (ev_fld of_E kb.cls (kb.na "key" (by decide)) (fs := bdFs) (l := a.l) (vr 1) (by rfl))) ok.key ok.key (by simp))) rfl
end
end Nb
set_option Elab.async false
set_option linter.all false
set_option maxRecDepth 100000
set_option maxHeartbeats 2000000
namespace Nb
open PySem PySem.Spec PyProof.Rows L2
/-- a row of texts, tuple or list -/
def sQ (t : Bool) (l : List Str) : D := if t then sT l else sL l
section
variable {E : EC} {δ : Ds} {tg it e : Expr} {t : Bool} {l : List Str}
theorem ei_sQ (h : EV E it δ (.d (sQ t l))) : EI E true tg it δ (l.map D.str) := by
  cases t with
  | true => exact ei_tup h
  | false => exact ei_list h
theorem seqOf_sQ : seqOf (sQ t l) = some (l.map D.str) := by cases t <;> rfl
theorem EV.wkQ (h : EV E e δ (.d (sQ t l))) : EV E e δ (.wk (sQ t l)) := h.wk (by cases t <;> rfl)
theorem ET.wh {c d : Bool} (h : EV E e δ (.d (.bl c))) (m : c = d) (he : ∀ env whole, isTrue e env whole = (do let v ← whole; standAt e.pos; holding [v] (truthy v)) := by intro _ _; rfl) : ET E e δ d := m ▸ et_v h he
end
def canJoin (b : Bd) (p : Str) (below row : List Str) : Bool := !((below.filter fun o => !decide (o = p)).any fun o => !decide (o ∈ row)) && !(row.any fun o => clash b p o)
section
variable {g : Glob}
theorem scJoin : FnScope ["board", "peg", "below", "row", "other"] ["board", "peg", "below", "row"] (defScope (top 59)) := ⟨rfl, rfl, rfl, by decide +kernel, rfl, by decide +kernel, by decide +kernel⟩
structure JoinA where
  b : Bd
  p : Str
  below : List Str
  row : List Str
def spJoin (g : Glob) : Sp := spP g (α := JoinA) (fun a => [a.b.d, .str a.p, sT a.below, sT a.row]) (fun a => OkBd a.b ∧ a.p ∈ a.b.order ∧ (∀ o ∈ a.row, o ∈ a.b.order) ∧ a.below.length ≤ 1000 ∧ a.row.length ≤ 1000) (fun a d => d = .bl (canJoin a.b a.p a.below a.row))
theorem fn_join (F : Df g "can_join" (top 59)) (b : Bi g) (h1 : Me g 2 "Board" "clash" (spClash g)) : Fn g 3 "can_join" (spJoin g) := by
  refine F.fn scJoin (fun _ _ _ _ _ _ us hl => match us, hl with | [_, _, _, _], _ => rfl) (fun a => rfl) (by decide) fun B0 H0 a ⟨ok, hp, hr, z1, z2⟩ => ?_
  obtain ⟨bd, p, below, row⟩ := a
  dsimp only at ok hp hr z1 z2
  refine sv_ifR (cc := (below.filter fun o => !decide (o = p)).any fun o => !decide (o ∈ row)) (et_v (ev_anyM (ev_lc1 (td := fun o => [(4, .d (.str o))]) below D.str (fun o => !decide (o = p)) (fun o => .bl (!decide (o ∈ row))) [("other", 4)] (ei_tup (l := below.map D.str) (vr 2)).weak z1 (blkOk_by (by kernel_rfl)) (fun d hd => eg_name 4 rfl (.inl rfl)) (fun d hd q hq => by simp at hq; subst hq; simp)
      (fun o ho => (et_ne (vr 4) (vr 1)).eqb (by simp [eqD])) (fun o ho _ => ev_ni (vr 4) (EV.wk (x := sT row) (vr 3)) rfl)) (by rfl) b.any)) (fun h => ?_) (fun h => ?_)
  · exact sv_retd ev_bl (by show _ = D.bl (canJoin bd p below row); unfold canJoin; rw [h]; rfl)
  · refine sv_retd (ev_not (ev_anyM (ev_lc0 (td := fun o => [(4, .d (.str o))]) row D.str (fun o => .bl (clash bd p o)) [("other", 4)] (ei_tup (l := row.map D.str) (vr 3)).weak z2 (blkOk_by (by kernel_rfl)) (fun d hd => eg_name 4 rfl (.inl rfl)) (fun d hd q hq => by simp at hq; subst hq; simp) (fun o ho => ?_)) (by rfl) b.any)) (by show _ = D.bl (canJoin bd p below row); unfold canJoin; rw [h]; rfl)
    exact ev_mt (α := Bd × Str × Str) (ds := [.str p, .str o]) (fs := bdFs) (l := bd.l) (bd, p, o) h1 of_E.blk kk (vr 0) rfl (ea_cons (vr 1) (ea_1 (vr 4))) rfl ⟨ok, hp, hr o ho⟩ (fun d' h => h)
/-! stands -/
def stFs : List Str := ["ground", "members"]
def stD (b : Bd) (ms : List Str) : D := .obj "Stand" stFs [b.d, sT ms]
structure OkSt (b : Bd) (ms : List Str) : Prop where
  ok : OkBd b
  sub : ms.Sublist b.order
  need : ∀ p ∈ ms, ∀ o ∈ b.row p, o ∈ ms
  free : ∀ p ∈ ms, ∀ o ∈ ms, clash b p o = false
theorem OkSt.ins {b : Bd} {ms : List Str} (h : OkSt b ms) : ∀ p ∈ ms, p ∈ b.order := fun p hp => h.sub.subset hp
theorem OkSt.len {b : Bd} {ms : List Str} (h : OkSt b ms) : ms.length ≤ 12 := Nat.le_trans h.sub.length_le h.ok.few
theorem scMem : FnScope ["board", "members", "peg", "needed", "at", "other"] ["board", "members"] (defScope (top 60)) := ⟨rfl, rfl, rfl, by decide +kernel, rfl, by decide +kernel, by decide +kernel⟩
def spMem (g : Glob) : Sp := spP g (α := Bd × List Str) (fun a => [a.1.d, sT a.2]) (fun a => OkSt a.1 a.2) (fun a d => d = .non)
theorem fn_members (F : Df g "check_members" (top 60)) (b : Bi g) (h1 : Me g 2 "Board" "clash" (spClash g)) (h2 : Me g 2 "Board" "below" (spBelow g)) : Fn g 3 "check_members" (spMem g) := by
  refine F.fn scMem (fun _ _ _ _ _ _ us hl => match us, hl with | [_, _], _ => rfl) (fun a => rfl) (by decide) fun B0 H0 a ok => ?_
  obtain ⟨bd, ms⟩ := a
  refine sv_for ms D.str (fun i δ' => ∃ x y, δ' = [some (.d bd.d), some (.d (sT ms)), x, y, none, none]) (td := fun q => [(2, .d (.str q))]) (ei_tup (l := ms.map D.str) (vr 1)) ⟨none, none, rfl⟩ (fun d hd => eg_name 2 rfl (.inl rfl)) ?_ ?_
  · rintro i p δ' hp ⟨x, y, rfl⟩
    have hm : p ∈ ms := List.mem_of_getElem? hp
    refine sv_for (bd.row p) D.str (fun i δ' => ∃ y, δ' = [some (.d bd.d), some (.d (sT ms)), some (.d (.str p)), y, none, none]) (td := fun q => [(3, .d (.str q))]) (ei_tup (l := (bd.row p).map D.str) (ev_mt (α := Bd × Str) (d := sT (bd.row p)) (ds := [.str p]) (fs := bdFs) (l := bd.l) (bd, p) h2 of_E kk (vr 0) rfl (ea_1 (vr 2)) rfl (ok.ins p hm) (fun d' h => h))) ⟨_, rfl⟩ (fun d hd => eg_name 3 rfl (.inl rfl)) ?_ ?_
    · rintro j o δ' ho ⟨y, rfl⟩
      have hm2 : o ∈ ms := ok.need p hm o (List.mem_of_getElem? ho)
      exact sv_ifF (cc := false) ((et_ni (ss := ms) (vr 3) (EV.wk (x := sT ms) (vr 1)) rfl).eqb (by simp [hm2])) rfl (sv_end ⟨_, rfl⟩)
    · rintro δ' ⟨y, rfl⟩
      exact sv_end ⟨_, _, rfl⟩
  · rintro δ' ⟨x, y, rfl⟩
    refine sv_for ms.zipIdx (fun q => .tup [.int (q.2 : Nat), .str q.1]) (fun i δ' => ∃ x y z w, δ' = [some (.d bd.d), some (.d (sT ms)), x, y, z, w]) (td := fun q => [(4, .d (.int (q.2 : Nat))), (2, .d (.str q.1))])
      ((ei_enum (l := ms.map D.str) (vr 1) (by rfl) b.enum).eq (enumD_map _ _)) ⟨_, _, _, _, rfl⟩ (fun d hd => eg_two 4 2 (by rfl) (by rfl) (.inl (by rfl)) (.inl (by rfl))) ?_ ?_
    · rintro i q δ' hq ⟨x, y, z, w, rfl⟩
      obtain ⟨e1, e2⟩ := zipIdx_at hq
      have hm : q.1 ∈ ms := List.mem_of_getElem? e1
      refine sv_for (ms.drop (q.2 + 1)) D.str (fun i δ' => ∃ w, δ' = [some (.d bd.d), some (.d (sT ms)), some (.d (.str q.1)), y, some (.d (.int (q.2 : Nat))), w]) (td := fun q => [(5, .d (.str q))]) (EI.eq (ei_tup (ev_slT (l := ms.map D.str) (vr 1) (eo_some (ev_add (vr 4) ev_int)) eo_none)) ?_) ⟨_, rfl⟩ (fun d hd => eg_name 5 rfl (.inl rfl)) ?_ ?_
      · rw [show (((q.2 : Nat) : Int) + 1) = ((q.2 + 1 : Nat) : Int) by omega, cutD_map, cutD_from]
      · rintro j o δ' ho ⟨w, rfl⟩
        have hm2 : o ∈ ms := List.mem_of_mem_drop (List.mem_of_getElem? ho)
        exact sv_ifF (cc := false) (ET.wh (ev_mt (α := Bd × Str × Str) (ds := [.str q.1, .str o]) (fs := bdFs) (l := bd.l) (bd, q.1, o) h1 of_E kk (vr 0) rfl (ea_cons (vr 2) (ea_1 (vr 5))) rfl ⟨ok.ok, ok.ins _ hm, ok.ins _ hm2⟩ (fun d' h => h)) (ok.free _ hm _ hm2)) rfl (sv_end ⟨_, rfl⟩)
      · rintro δ' ⟨w, rfl⟩
        exact sv_end ⟨_, _, _, _, rfl⟩
    · rintro δ' ⟨x, y, z, w, rfl⟩
      exact sv_end rfl
end
end Nb
set_option Elab.async false
set_option linter.all false
set_option maxRecDepth 100000
set_option maxHeartbeats 2000000
namespace Nb
open PySem PySem.Spec PyProof.Rows L2
structure KSt (g : Glob) : Prop where
  cls : Cls g.K (g.cl "Stand")
  na : ∀ f ∈ stFs, NoAttr g.K (g.cl "Stand") f
  kl : Kl g "Stand"
  mg : g.mg "Stand" = some (.ref (g.cl "Stand"))
section
variable {g : Glob}
def mem5 (b : Bd) (pegs : List Str) : List Str := b.order.filter fun p => decide (p ∈ pegs)
/-! Stand.__init__ -/
theorem scStInit : FnScope ["self", "board", "pegs", "peg", "members"] ["self", "board", "pegs"] (defScope (mem 61 0)) := ⟨rfl, rfl, rfl, by decide +kernel, rfl, by decide +kernel, by decide +kernel⟩
structure StA where
  b : Bd
  t : Bool
  pegs : List Str
def spStInit (g : Glob) : Sp := spI g "Stand" (α := StA) (fun a => [a.b.d, sQ a.t a.pegs]) (fun a => (∀ p ∈ a.pegs, p ∈ a.b.order) ∧ OkSt a.b (mem5 a.b a.pegs)) (fun a fs l => fs = stFs ∧ l = [a.b.d, sT (mem5 a.b a.pegs)])
theorem mk_stand (F : Dn g "Stand" "Stand.__init__" (mem 61 0) []) (ks : KSt g) (b : Bi g) (h1 : Me g 1 "Board" "require" (spReq g)) (h2 : Pr g 1 "Board" "pegs" (spBdPegs g)) (h3 : Fn g 3 "check_members" (spMem g)) : Mak g 4 "Stand" (spStInit g) := by
  refine F.mak scStInit (fun _ _ _ _ _ _ us hl => match us, hl with | [_, _, _], _ => rfl) (fun a => rfl) (by decide) fun B0 H0 q a ⟨hin, ok⟩ hq => ?_
  refine sv_for a.pegs D.str (fun i δ' => ∃ x, δ' = [some (.ins q "Stand" [] []), some (.d a.b.d), some (.d (sQ a.t a.pegs)), x, none]) (td := fun p => [(3, .d (.str p))]) (ei_sQ (vr 2)) ⟨none, rfl⟩ (fun d hd => eg_name 3 rfl (.inl rfl)) ?_ ?_
  · rintro i p δ' hp ⟨x, rfl⟩
    exact sv_drop (ev_mt (α := Bd × Str) (d := .non) (ds := [.str p]) (fs := bdFs) (l := a.b.l) (a.b, p) h1 of_E kk (vr 1) rfl (ea_1 (vr 3)) rfl (hin p (List.mem_of_getElem? hp)) (fun d' h => h)).pd (sv_end ⟨_, rfl⟩)
  · rintro δ' ⟨x, rfl⟩
    refine sv_forget 3 ?_
    refine sv_set 4 (r := .d (sT (mem5 a.b a.pegs))) (by rfl) (.inl (by rfl)) (ev_tupleL (EV.wk (ev_lc1 (td := fun o => [(3, .d (.str o))]) a.b.order D.str (fun o => decide (o ∈ a.pegs)) D.str [("peg", 3)] (ei_tup (l := a.b.order.map D.str) (ev_prop (α := Bd) (d := sT a.b.order) a.b h2 of_E kk (fs := bdFs) (l := a.b.l) (vr 1) rfl trivial (fun d' h => h))).weak (by have := ok.ok.few; omega) (blkOk_by (by kernel_rfl)) (fun d hd => eg_name 3 rfl (.inl rfl)) (fun d hd q hq => by simp at hq; subst hq; simp) (fun o ho => et_in (ss := a.pegs) (vr 3) (EV.wkQ (t := a.t) (vr 2)) seqOf_sQ) (fun o ho _ => vr 3))) (by rfl) b.tuple) ?_
    refine sv_drop (ev_call (α := Bd × List Str) (a.b, mem5 a.b a.pegs) h3 of_E kk (by rfl) (ea_cons (vr 1) (ea_1 (vr 4))) ok (fun d' h => h)).pd ?_
    refine sv_fld 0 of_E ks.cls (ks.na "ground" (by decide)) rfl (by rfl) (.inl (by rfl)) (by rfl) (one0 (by rfl)) (by decide) (by decide) (EV.pd (vr 1)) (fun d hd => ?_) (by rfl)
    subst hd
    refine sv_fld 0 of_E ks.cls (ks.na "members" (by decide)) rfl (by rfl) (.inl (by rfl)) (by rfl) (one0 (by rfl)) (by decide) (by decide) (EV.pd (vr 4)) (fun d hd => ?_) (by rfl)
    subst hd
    exact sv_end ⟨_, _, rfl, rfl, rfl⟩
theorem ev_ground {E : EC} {δ : Ds} {o : Expr} {pos : Pos} {b : Bd} {ms : List Str} (ks : KSt g) (og : Of E g) (h : EV E o δ (.d (stD b ms))) (hb : ∀ env, attributeBase o "ground" env (eval o env) = eval o env := by intro _; rfl) : EV E (.Attribute o "ground" pos) δ (.d b.d) :=
  ev_fld og ks.cls (ks.na "ground" (by decide)) (fs := stFs) (l := [b.d, sT ms]) h (by rfl) hb
theorem ev_members {E : EC} {δ : Ds} {o : Expr} {pos : Pos} {b : Bd} {ms : List Str} (ks : KSt g) (og : Of E g) (h : EV E o δ (.d (stD b ms))) (hb : ∀ env, attributeBase o "members" env (eval o env) = eval o env := by intro _; rfl) : EV E (.Attribute o "members" pos) δ (.d (sT ms)) :=
  ev_fld og ks.cls (ks.na "members" (by decide)) (fs := stFs) (l := [b.d, sT ms]) h (by rfl) hb
/-! Stand.board, __contains__, __eq__ -/
theorem scStBd : FnScope ["self"] ["self"] (defScope (mem 61 11)) := ⟨rfl, rfl, rfl, by decide +kernel, rfl, by decide +kernel, by decide +kernel⟩
def spStBd (g : Glob) : Sp := spP g (α := Bd × List Str) (fun a => [stD a.1 a.2]) (fun _ => True) (fun a d => d = a.1.d)
theorem pr_board (F : Dp g "Stand" "board" "Stand.board" (mem 61 11)) (ks : KSt g) : Pr g 1 "Stand" "board" (spStBd g) :=
  F.pr scStBd (fun _ _ _ _ _ _ us hl => match us, hl with | [_], _ => rfl) (fun a => rfl) (by decide) fun B0 H0 a _ => sv_retd (ev_ground ks of_E (vr 0)) rfl
theorem scStIn : FnScope ["self", "peg"] ["self", "peg"] (defScope (mem 61 3)) := ⟨rfl, rfl, rfl, by decide +kernel, rfl, by decide +kernel, by decide +kernel⟩
structure SPeg where
  b : Bd
  ms : List Str
  p : Str
def spStIn (g : Glob) : Sp := spP g (α := SPeg) (fun a => [stD a.b a.ms, .str a.p]) (fun _ => True) (fun a d => d = .bl (decide (a.p ∈ a.ms)))
theorem me_stIn (F : Dm g "Stand" "__contains__" "Stand.__contains__" (mem 61 3)) (ks : KSt g) : Me g 1 "Stand" "__contains__" (spStIn g) :=
  F.me scStIn (fun _ _ _ _ _ _ us hl => match us, hl with | [_, _], _ => rfl) (fun a => rfl) (by decide) fun B0 H0 a _ => sv_retd (ev_in (ss := a.ms) (vr 1) (EV.wk (x := sT a.ms) (ev_members ks of_E (vr 0))) rfl) rfl
theorem scStEq : FnScope ["self", "other"] ["self", "other"] (defScope (mem 61 4)) := ⟨rfl, rfl, rfl, by decide +kernel, rfl, by decide +kernel, by decide +kernel⟩
structure STwo where
  b : Bd
  s : List Str
  t : List Str
def spStEq (g : Glob) : Sp := spP g (α := STwo) (fun a => [stD a.b a.s, stD a.b a.t]) (fun a => OkSt a.b a.s ∧ OkSt a.b a.t) (fun a d => d = .bl (decide (a.s = a.t)))
theorem sT_inj {s t : List Str} (h : sT s = sT t) : s = t := by
  have h : s.map D.str = t.map D.str := by simpa [sT] using h
  exact (List.map_inj_right (fun x y e => by simpa using e)).mp h
theorem me_stEq (F : Dm g "Stand" "__eq__" "Stand.__eq__" (mem 61 4)) (ks : KSt g) (b : Bi g) (h1 : Me g 1 "Board" "__eq__" (spBdEq g)) : Me g 2 "Stand" "__eq__" (spStEq g) :=
  F.me scStEq (fun _ _ _ _ _ _ us hl => match us, hl with | [_, _], _ => rfl) (fun a => rfl) (by decide) fun B0 H0 a ⟨ok1, ok2⟩ => by
    have ht : PySem.W.kitOne g.K (tyD g.cl (stD a.b a.t)) (.ref (g.cl "Stand")) = some true := by
      show PySem.W.kitOne g.K (.ref (g.cl "Stand")) (.ref (g.cl "Stand")) = some true
      unfold PySem.W.kitOne
      rw [if_pos (by simp)]
    have n1 : okD 2 (sT a.s) = true := okDs_names (n := 1) fun s hs => ok1.ok.names s (ok1.ins s hs)
    have n2 : okD 2 (sT a.t) = true := okDs_names (n := 1) fun s hs => ok2.ok.names s (ok2.ins s hs)
    refine sv_retd ((ev_and (c := true) (d := decide (a.s = a.t)) (ev_isi (x := stD a.b a.t) of_E (vr 1) (ev_gref (by rfl) ks.mg) ks.kl (.own _) ht (by rfl) b.isi) fun _ => (ev_and (c := true) (d := decide (a.s = a.t)) (ev_eqO (α := Bd) (fs := bdFs) (l := a.b.l) (fs' := bdFs) (l' := a.b.l) a.b h1.ow of_E kk (ev_ground ks of_E (vr 0)) (ev_ground ks of_E (vr 1)) rfl ok1.ok (fun d' h => h)) fun _ => ev_one (ev_eqD (x := sT a.s) (y := sT a.t) 2 2 (EV.wk (x := sT a.s) (ev_members ks of_E (vr 0))) (EV.wk (x := sT a.t) (ev_members ks of_E (vr 1))) n1 n2 ?_))).eqb (by simp)) rfl
    rw [decide_eq_true_iff]
    exact ⟨fun e => by rw [e], sT_inj⟩
/-! check_board -/
theorem scChk : FnScope ["board", "thing"] ["board", "thing"] (defScope (top 28)) := ⟨rfl, rfl, rfl, by decide +kernel, rfl, by decide +kernel, by decide +kernel⟩
def spChk (g : Glob) : Sp := spP g (α := Bd × List Str) (fun a => [a.1.d, stD a.1 a.2]) (fun a => OkBd a.1) (fun a d => d = .non)
structure NeB (g : Glob) : Prop where
  ne : PySem.W.findIn g.K (.ref (g.cl "Board")) "__ne__" = some (some (.builtin "object.__ne__"))
theorem fn_chk (F : Df g "check_board" (top 28)) (kl : Kl g "Board") (nb : NeB g) (h1 : Me g 1 "Board" "__eq__" (spBdEq g)) (h2 : Pr g 1 "Stand" "board" (spStBd g)) : Fn g 3 "check_board" (spChk g) := by
  refine F.fn scChk (fun _ _ _ _ _ _ us hl => match us, hl with | [_, _], _ => rfl) (fun a => rfl) (by decide) fun B0 H0 a ok => ?_
  exact sv_ifF (cc := false) (et_neO (α := Bd) (t := true) (fs := bdFs) (l := a.1.l) (fs' := bdFs) (l' := a.1.l) a.1 h1.ow kl nb.ne of_E kk (ev_prop (α := Bd × List Str) (d := a.1.d) a h2 of_E kk (fs := stFs) (l := [a.1.d, sT a.2]) (vr 1) rfl trivial (fun d' h => h)) (vr 0) rfl ok (fun d' h => h)) rfl (sv_end rfl)
/-! Stand.__xor__ -/
theorem scXor : FnScope ["self", "other", "peg"] ["self", "other"] (defScope (mem 61 8)) := ⟨rfl, rfl, rfl, by decide +kernel, rfl, by decide +kernel, by decide +kernel⟩
def unlike (b : Bd) (s t : List Str) : List Str := b.order.filter fun p => decide (p ∈ s) != decide (p ∈ t)
def spXor (g : Glob) : Sp := spP g (α := STwo) (fun a => [stD a.b a.s, stD a.b a.t]) (fun a => OkBd a.b) (fun a d => d = sT (unlike a.b a.s a.t))
theorem me_xor (F : Dm g "Stand" "__xor__" "Stand.__xor__" (mem 61 8)) (ks : KSt g) (b : Bi g) (h1 : Fn g 3 "check_board" (spChk g)) (h2 : Pr g 1 "Board" "pegs" (spBdPegs g)) : Me g 4 "Stand" "__xor__" (spXor g) :=
  F.me scXor (fun _ _ _ _ _ _ us hl => match us, hl with | [_, _], _ => rfl) (fun a => rfl) (by decide) fun B0 H0 a ok => by
    refine sv_drop (ev_call (α := Bd × List Str) (a.b, a.t) h1 of_E kk (by rfl) (ea_cons (ev_ground ks of_E (vr 0)) (ea_1 (vr 1))) ok (fun d' h => h)).pd ?_
    refine sv_retd (ev_tupleL (EV.wk (ev_lc1 (td := fun o => [(2, .d (.str o))]) a.b.order D.str (fun p => decide (p ∈ a.s) != decide (p ∈ a.t)) D.str [("peg", 2)] (ei_tup (l := a.b.order.map D.str) (ev_prop (α := Bd) (d := sT a.b.order) a.b h2 of_E kk (fs := bdFs) (l := a.b.l) (ev_ground ks of_E (vr 0)) rfl trivial (fun d' h => h))).weak (by have := ok.few; omega) (blkOk_by (by kernel_rfl)) (fun d hd => eg_name 2 rfl (.inl rfl)) (fun d hd q hq => by simp at hq; subst hq; simp) (fun o ho => ?_) (fun o ho _ => vr 2))) (by rfl) b.tuple) rfl
    refine (et_ne (x := .bl (decide (o ∈ a.s))) (y := .bl (decide (o ∈ a.t))) (ev_in (ss := a.s) (vr 2) (EV.wk (x := sT a.s) (ev_members ks of_E.blk (vr 0))) rfl) (ev_in (ss := a.t) (vr 2) (EV.wk (x := sT a.t) (ev_members ks of_E.blk (vr 1))) rfl)).eqb ?_
    simp only [eqD]
    cases decide (o ∈ a.s) <;> cases decide (o ∈ a.t) <;> rfl
end
end Nb
set_option Elab.async false
set_option linter.all false
set_option maxRecDepth 100000
set_option maxHeartbeats 2000000
namespace Nb
open PySem PySem.Spec PyProof.Rows L2
section
variable {g : Glob}
theorem ev_mkSt {E : EC} {δ : Ds} {e1 e2 : Expr} {p pos : Pos} {b : Bd} {t : Bool} {pegs ms : List Str} (F : Mak g 4 "Stand" (spStInit g)) (og : Of E g) (hk : 5 ≤ E.k) (hg : GlS E.sc "Stand") (h1 : EV E e1 δ (.d b.d)) (h2 : EV E e2 δ (.d (sQ t pegs))) (hin : ∀ p ∈ pegs, p ∈ b.order) (ok : OkSt b ms) (hms : mem5 b pegs = ms)
    (he : ∀ env, starEach [e1, e2] env = (false, eval e1 env) :: starEach [e2] env := by intro _; rfl) (he2 : ∀ env, starEach [e2] env = (false, eval e2 env) :: starEach [] env := by intro _; rfl) (hpl : ∀ env, (backTo pos (starEach [e2] env)).any (·.1) = false := by intro _; rfl) : EV E (.Call (.Name "Stand" p) [e1, e2] [] pos) δ (.d (stD b ms)) :=
  EVP.toV (evp_make F og hk hg ((ea_cons h1 (ea_1 h2 he2) he).toP ⟨⟨b, t, pegs⟩, rfl, ⟨hin, by rw [hms]; exact ok⟩, fun fs l ⟨e1, e2⟩ => by rw [e1, e2, hms]; rfl⟩) (by decide) he hpl)
/-! Board.__call__ -/
theorem scBdCall : FnScope ["self", "pegs"] ["self", "pegs"] (defScope (mem 63 6)) := ⟨rfl, rfl, rfl, by decide +kernel, rfl, by decide +kernel, by decide +kernel⟩
def spBdCall (g : Glob) : Sp := spP g (α := Bd × List Str) (fun a => [a.1.d, sT a.2]) (fun a => OkSt a.1 a.2) (fun a d => d = stD a.1 a.2)
theorem mem5_self {b : Bd} {ms : List Str} (nd : b.order.Nodup) (h : ms.Sublist b.order) : mem5 b ms = ms := by
  unfold mem5
  generalize b.order = l at h nd
  induction h with
  | slnil => rfl
  | @cons l1 l2 a h ih =>
    have nd' := List.nodup_cons.mp nd
    have ha : a ∉ l1 := fun z => nd'.1 (h.subset z)
    rw [List.filter_cons, if_neg (by simp [ha])]
    exact ih nd'.2
  | @cons_cons l1 l2 a h ih =>
    have nd' := List.nodup_cons.mp nd
    rw [List.filter_cons, if_pos (by simp)]
    congr 1
    rw [← ih nd'.2]
    refine List.filter_congr fun x hx => ?_
    have hxa : x ≠ a := fun z => nd'.1 (z ▸ hx)
    rw [ih nd'.2]
    simp [hxa]
theorem cb_board (F : Dcb g "Board" "Board.__call__" (mem 63 6)) (h1 : Mak g 4 "Stand" (spStInit g)) : Cb g 6 "Board" (spBdCall g) :=
  F.cb scBdCall (fun _ _ _ _ _ _ us hl => match us, hl with | [_, _], _ => rfl) (fun a => rfl) (by decide) fun B0 H0 a ok =>
    sv_retd (ev_mkSt (b := a.1) (t := true) (pegs := a.2) h1 of_E kk (by rfl) (vr 0) (vr 1) ok.ins ok (mem5_self ok.ok.nd ok.sub)) rfl
/-! needed_by, takes_in, free, loose -/
def neededBy (b : Bd) (ms : List Str) (p : Str) : List Str := (above b p).filter fun o => !decide (o = p) && decide (o ∈ ms)
theorem atI0 (x : D) (l : List D) : atI (x :: l) 0 = some x := by
  unfold atI ixN
  rw [if_pos (by simp), if_pos (by simp)]
  rfl
def headD : List Str → D
  | [] => .non
  | x :: _ => .str x
theorem scNby : FnScope ["self", "peg", "above", "other"] ["self", "peg"] (defScope (mem 61 16)) := ⟨rfl, rfl, rfl, by decide +kernel, rfl, by decide +kernel, by decide +kernel⟩
def spNby (g : Glob) : Sp := spP g (α := SPeg) (fun a => [stD a.b a.ms, .str a.p]) (fun a => OkBd a.b ∧ a.p ∈ a.b.order) (fun a d => d = headD (neededBy a.b a.ms a.p))
theorem above_len {b : Bd} (ok : OkBd b) (p : Str) : (above b p).length ≤ 12 := Nat.le_trans (List.length_filter_le _ _) ok.few
theorem me_nby (F : Dm g "Stand" "needed_by" "Stand.needed_by" (mem 61 16)) (ks : KSt g) (h1 : Me g 2 "Board" "above" (spAbove g)) : Me g 3 "Stand" "needed_by" (spNby g) :=
  F.me scNby (fun _ _ _ _ _ _ us hl => match us, hl with | [_, _], _ => rfl) (fun a => rfl) (by decide) fun B0 H0 a ⟨ok, hp⟩ => by
    have hz := above_len ok a.p
    refine sv_setLc 2 (td := fun o => [(3, .d (.str o))]) (xs := above a.b a.p) (c := D.str) (t := fun o => !decide (o = a.p) && decide (o ∈ a.ms)) (Pf := fun o y => y = .str o) (by rfl) (by rfl) (by rfl) [("other", 3)] (ei_tup (l := (above a.b a.p).map D.str) (ev_mt (α := Bd × Str) (d := sT (above a.b a.p)) (ds := [.str a.p]) (fs := bdFs) (l := a.b.l) (a.b, a.p) h1 of_E kk (ev_ground ks of_E (vr 0)) rfl (ea_1 (vr 1)) rfl ⟨ok, hp⟩ (fun d' h => h))).weak (by omega) (blkOk_by (by kernel_rfl)) (fun d hd => eg_name 3 rfl (.inl rfl)) (fun d hd q hq => by simp at hq; subst hq; simp)
      (fun o ho => ets_one (EWt.t (ew_and ((et_ne (vr 3) (vr 1)).eqb (by simp [eqD])) fun _ => ew_and1 (et_in (ss := a.ms) (vr 3) (EV.wk (x := sT a.ms) (ev_members ks of_E.blk (vr 0))) rfl)))) (fun o ho _ => (vr 3 : EV _ _ _ (.d (.str o))).toP ⟨_, rfl, rfl⟩) fun m hm => ?_
    rw [hm.fn (f := D.str)]
    show SV _ _ _ _ ([some (.d (stD a.b a.ms)), some (.d (.str a.p)), some (.d (sL (neededBy a.b a.ms a.p))), none]) _
    refine sv_retd (d := headD (neededBy a.b a.ms a.p)) (ev_ite (c := !((neededBy a.b a.ms a.p).map D.str).isEmpty) (et_seq (l := (neededBy a.b a.ms a.p).map D.str) (EV.wk (x := sL (neededBy a.b a.ms a.p)) (vr 2)) rfl) (fun h => ?_) (fun h => ?_)) rfl
    · cases e : neededBy a.b a.ms a.p with
      | nil => rw [e] at h; cases h
      | cons x l => exact ev_ixL (l := (x :: l).map D.str) (EV.wk (x := sL (x :: l)) (vr 2)) ev_int (atI0 _ _)
    · cases e : neededBy a.b a.ms a.p with
      | nil => exact ev_non
      | cons x l => rw [e] at h; cases h
theorem scTakes : FnScope ["self", "peg"] ["self", "peg"] (defScope (mem 61 15)) := ⟨rfl, rfl, rfl, by decide +kernel, rfl, by decide +kernel, by decide +kernel⟩
def takes (b : Bd) (ms : List Str) (p : Str) : Bool := canJoin b p (b.row p) ms
def spTakes (g : Glob) : Sp := spP g (α := SPeg) (fun a => [stD a.b a.ms, .str a.p]) (fun a => OkSt a.b a.ms ∧ a.p ∈ a.b.order) (fun a d => d = .bl (takes a.b a.ms a.p))
theorem me_takes (F : Dm g "Stand" "takes_in" "Stand.takes_in" (mem 61 15)) (ks : KSt g) (h1 : Me g 2 "Board" "below" (spBelow g)) (h2 : Fn g 3 "can_join" (spJoin g)) : Me g 4 "Stand" "takes_in" (spTakes g) :=
  F.me scTakes (fun _ _ _ _ _ _ us hl => match us, hl with | [_, _], _ => rfl) (fun a => rfl) (by decide) fun B0 H0 a ⟨ok, hp⟩ => by
    refine sv_retd (ev_call (α := JoinA) ⟨a.b, a.p, a.b.row a.p, a.ms⟩ h2 of_E kk (by rfl) (ea_cons (ev_ground ks of_E (vr 0)) (ea_cons (vr 1) (ea_cons (ev_mt (α := Bd × Str) (d := sT (a.b.row a.p)) (ds := [.str a.p]) (fs := bdFs) (l := a.b.l) (a.b, a.p) h1 of_E kk (ev_ground ks of_E (vr 0)) rfl (ea_1 (vr 1)) rfl hp (fun d' h => h)) (ea_1 (ev_members ks of_E (vr 0)))))) ⟨ok.ok, hp, ok.ins, by have := ok.ok.rlen _ hp; show (a.b.row a.p).length ≤ 1000; omega, by have := ok.len; show a.ms.length ≤ 1000; omega⟩ (fun d' h => h)) rfl
theorem scFree : FnScope ["self", "peg"] ["self"] (defScope (mem 61 13)) := ⟨rfl, rfl, rfl, by decide +kernel, rfl, by decide +kernel, by decide +kernel⟩
def freeL (b : Bd) (ms : List Str) : List Str := b.order.filter fun p => !decide (p ∈ ms) && takes b ms p
def spFree (g : Glob) : Sp := spP g (α := Bd × List Str) (fun a => [stD a.1 a.2]) (fun a => OkSt a.1 a.2) (fun a d => d = sT (freeL a.1 a.2))
theorem pr_free (F : Dp g "Stand" "free" "Stand.free" (mem 61 13)) (ks : KSt g) (b : Bi g) (h1 : Pr g 1 "Board" "pegs" (spBdPegs g)) (h2 : Me g 4 "Stand" "takes_in" (spTakes g)) : Pr g 5 "Stand" "free" (spFree g) :=
  F.pr scFree (fun _ _ _ _ _ _ us hl => match us, hl with | [_], _ => rfl) (fun a => rfl) (by decide) fun B0 H0 a ok => by
    refine sv_retd (ev_tupleL (EV.wk (ev_lc1 (td := fun o => [(1, .d (.str o))]) a.1.order D.str (fun p => !decide (p ∈ a.2) && takes a.1 a.2 p) D.str [("peg", 1)] (ei_tup (l := a.1.order.map D.str) (ev_prop (α := Bd) (d := sT a.1.order) a.1 h1 of_E kk (fs := bdFs) (l := a.1.l) (ev_ground ks of_E (vr 0)) rfl trivial (fun d' h => h))).weak (by have := ok.ok.few; omega) (blkOk_by (by kernel_rfl)) (fun d hd => eg_name 1 rfl (.inl rfl)) (fun d hd q hq => by simp at hq; subst hq; simp)
      (fun o ho => EWt.t (ew_and (et_ni (ss := a.2) (vr 1) (EV.wk (x := sT a.2) (ev_members ks of_E.blk (vr 0))) rfl) fun _ => ew_and1 (et_v (ev_mt (α := SPeg) (ds := [.str o]) (fs := stFs) (l := [a.1.d, sT a.2]) ⟨a.1, a.2, o⟩ h2 of_E.blk kk (vr 0) rfl (ea_1 (vr 1)) rfl ⟨ok, ho⟩ (fun d' h => h))))) (fun o ho _ => vr 1))) (by rfl) b.tuple) rfl
theorem scLoose : FnScope ["self", "peg"] ["self"] (defScope (mem 61 14)) := ⟨rfl, rfl, rfl, by decide +kernel, rfl, by decide +kernel, by decide +kernel⟩
def looseL (b : Bd) (ms : List Str) : List Str := ms.filter fun p => (neededBy b ms p).isEmpty
def spLoose (g : Glob) : Sp := spP g (α := Bd × List Str) (fun a => [stD a.1 a.2]) (fun a => OkSt a.1 a.2) (fun a d => d = sT (looseL a.1 a.2))
theorem pr_loose (F : Dp g "Stand" "loose" "Stand.loose" (mem 61 14)) (ks : KSt g) (b : Bi g) (h2 : Me g 3 "Stand" "needed_by" (spNby g)) : Pr g 4 "Stand" "loose" (spLoose g) :=
  F.pr scLoose (fun _ _ _ _ _ _ us hl => match us, hl with | [_], _ => rfl) (fun a => rfl) (by decide) fun B0 H0 a ok => by
    refine sv_retd (ev_tupleL (EV.wk (ev_lc1 (td := fun o => [(1, .d (.str o))]) a.2 D.str (fun p => (neededBy a.1 a.2 p).isEmpty) D.str [("peg", 1)] (ei_tup (l := a.2.map D.str) (ev_members ks of_E (vr 0))).weak (by have := ok.len; omega) (blkOk_by (by kernel_rfl)) (fun d hd => eg_name 1 rfl (.inl rfl)) (fun d hd q hq => by simp at hq; subst hq; simp)
      (fun o ho => (et_isN (x := headD (neededBy a.1 a.2 o)) (ev_mt (α := SPeg) (ds := [.str o]) (fs := stFs) (l := [a.1.d, sT a.2]) ⟨a.1, a.2, o⟩ h2 of_E.blk kk (vr 0) rfl (ea_1 (vr 1)) rfl ⟨ok.ok, ok.ins o ho⟩ (fun d' h => h))).eqb (by cases neededBy a.1 a.2 o <;> rfl)) (fun o ho _ => vr 1))) (by rfl) b.tuple) rfl
/-! with_peg, without_peg -/
theorem scWith : FnScope ["self", "peg", "needed", "other"] ["self", "peg"] (defScope (mem 61 19)) := ⟨rfl, rfl, rfl, by decide +kernel, rfl, by decide +kernel, by decide +kernel⟩
structure CanPut (b : Bd) (ms : List Str) (p : Str) : Prop where
  st : OkSt b ms
  inb : p ∈ b.order
  out : p ∉ ms
  takes : takes b ms p = true
  res : OkSt b (mem5 b (ms ++ [p]))
def spWith (g : Glob) : Sp := spP g (α := SPeg) (fun a => [stD a.b a.ms, .str a.p]) (fun a => CanPut a.b a.ms a.p) (fun a d => d = stD a.b (mem5 a.b (a.ms ++ [a.p])))
theorem takes_iff {b : Bd} {ms : List Str} {p : Str} : takes b ms p = true ↔ (∀ o ∈ b.row p, o ≠ p → o ∈ ms) ∧ ∀ o ∈ ms, clash b p o = false := by
  unfold takes canJoin
  simp only [Bool.and_eq_true, Bool.not_eq_true', List.any_eq_false, List.mem_filter, decide_eq_true_iff, Bool.not_eq_true, decide_eq_false_iff_not, Decidable.not_not, and_imp]
theorem me_with (F : Dm g "Stand" "with_peg" "Stand.with_peg" (mem 61 19)) (ks : KSt g) (h1 : Me g 1 "Board" "require" (spReq g)) (h2 : Me g 2 "Board" "below" (spBelow g)) (h3 : Me g 2 "Board" "clash" (spClash g)) (h4 : Mak g 4 "Stand" (spStInit g)) : Me g 6 "Stand" "with_peg" (spWith g) :=
  F.me scWith (fun _ _ _ _ _ _ us hl => match us, hl with | [_, _], _ => rfl) (fun a => rfl) (by decide) fun B0 H0 a ok => by
    obtain ⟨b, ms, p⟩ := a
    obtain ⟨st, inb, out, tk, res⟩ := ok
    dsimp only at st inb out tk res
    obtain ⟨t1, t2⟩ := takes_iff.mp tk
    refine sv_drop (ev_mt (α := Bd × Str) (d := .non) (ds := [.str p]) (fs := bdFs) (l := b.l) (b, p) h1 of_E kk (ev_ground ks of_E (vr 0)) rfl (ea_1 (vr 1)) rfl inb (fun d' h => h)).pd ?_
    refine sv_ifF (cc := false) ((et_in (ss := ms) (vr 1) (EV.wk (x := sT ms) (ev_members ks of_E (vr 0))) rfl).eqb (by simp [out])) rfl ?_
    refine sv_for (b.row p) D.str (fun i δ' => ∃ x, δ' = [some (.d (stD b ms)), some (.d (.str p)), x, none]) (td := fun q => [(2, .d (.str q))]) (ei_tup (l := (b.row p).map D.str) (ev_mt (α := Bd × Str) (d := sT (b.row p)) (ds := [.str p]) (fs := bdFs) (l := b.l) (b, p) h2 of_E kk (ev_ground ks of_E (vr 0)) rfl (ea_1 (vr 1)) rfl inb (fun d' h => h))) ⟨none, rfl⟩ (fun d hd => eg_name 2 rfl (.inl rfl)) ?_ ?_
    · rintro j o δ' ho ⟨x, rfl⟩
      have hm := List.mem_of_getElem? ho
      refine sv_ifF (cc := false) ((EWt.t (ew_and (c := !decide (o = p)) (d := !decide (o ∈ ms)) ((et_ne (vr 2) (vr 1)).eqb (by simp [eqD])) fun _ => ew_and1 (et_ni (ss := ms) (vr 2) (EV.wk (x := sT ms) (ev_members ks of_E (vr 0))) rfl))).eqb ?_) rfl (sv_end ⟨_, rfl⟩)
      by_cases e : o = p
      · simp [e]
      · simp [e, t1 o hm e]
    · rintro δ' ⟨x, rfl⟩
      refine sv_for ms D.str (fun i δ' => ∃ x y, δ' = [some (.d (stD b ms)), some (.d (.str p)), x, y]) (td := fun q => [(3, .d (.str q))]) (ei_tup (l := ms.map D.str) (ev_members ks of_E (vr 0))) ⟨_, _, rfl⟩ (fun d hd => eg_name 3 rfl (.inl rfl)) ?_ ?_
      · rintro j o δ' ho ⟨x, y, rfl⟩
        have hm := List.mem_of_getElem? ho
        exact sv_ifF (cc := false) (ET.wh (ev_mt (α := Bd × Str × Str) (ds := [.str p, .str o]) (fs := bdFs) (l := b.l) (b, p, o) h3 of_E kk (ev_ground ks of_E (vr 0)) rfl (ea_cons (vr 1) (ea_1 (vr 3))) rfl ⟨st.ok, inb, st.ins o hm⟩ (fun d' h => h)) (t2 o hm)) rfl (sv_end ⟨_, _, rfl⟩)
      · rintro δ' ⟨x, y, rfl⟩
        refine sv_retd (ev_mkSt (b := b) (t := true) (pegs := ms ++ [p]) h4 of_E kk (by rfl) (ev_ground ks of_E (vr 0)) ((ev_catT (l := ms.map D.str) (m := [.str p]) (ev_members ks of_E (vr 0)) (ev_tup (ds := [.str p]) (ea_1 (vr 1)) (by simp)) ?_).eqd ?_) ?_ res rfl) rfl
        · have := st.len; simp; omega
        · simp [sQ, sT]
        · intro o ho
          rcases List.mem_append.mp ho with h | h
          · exact st.ins o h
          · rw [List.mem_singleton.mp h]; exact inb
theorem scWithout : FnScope ["self", "peg", "by", "other"] ["self", "peg"] (defScope (mem 61 20)) := ⟨rfl, rfl, rfl, by decide +kernel, rfl, by decide +kernel, by decide +kernel⟩
def less (ms : List Str) (p : Str) : List Str := ms.filter fun o => !decide (o = p)
structure CanTake (b : Bd) (ms : List Str) (p : Str) : Prop where
  st : OkSt b ms
  inm : p ∈ ms
  nby : neededBy b ms p = []
  res : OkSt b (less ms p)
def spWithout (g : Glob) : Sp := spP g (α := SPeg) (fun a => [stD a.b a.ms, .str a.p]) (fun a => CanTake a.b a.ms a.p) (fun a d => d = stD a.b (less a.ms a.p))
theorem me_without (F : Dm g "Stand" "without_peg" "Stand.without_peg" (mem 61 20)) (ks : KSt g) (h1 : Me g 1 "Board" "require" (spReq g)) (h2 : Me g 3 "Stand" "needed_by" (spNby g)) (h4 : Mak g 4 "Stand" (spStInit g)) : Me g 6 "Stand" "without_peg" (spWithout g) :=
  F.me scWithout (fun _ _ _ _ _ _ us hl => match us, hl with | [_, _], _ => rfl) (fun a => rfl) (by decide) fun B0 H0 a ok => by
    obtain ⟨b, ms, p⟩ := a
    obtain ⟨st, inm, nby, res⟩ := ok
    dsimp only at st inm nby res
    have inb := st.ins p inm
    refine sv_drop (ev_mt (α := Bd × Str) (d := .non) (ds := [.str p]) (fs := bdFs) (l := b.l) (b, p) h1 of_E kk (ev_ground ks of_E (vr 0)) rfl (ea_1 (vr 1)) rfl inb (fun d' h => h)).pd ?_
    refine sv_ifF (cc := false) ((et_ni (ss := ms) (vr 1) (EV.wk (x := sT ms) (ev_members ks of_E (vr 0))) rfl).eqb (by simp [inm])) rfl ?_
    refine sv_set 2 (r := .d .non) (by rfl) (.inl (by rfl)) (ev_mt (α := SPeg) (ds := [.str p]) (fs := stFs) (l := [b.d, sT ms]) ⟨b, ms, p⟩ h2 of_E kk (vr 0) rfl (ea_1 (vr 1)) rfl ⟨st.ok, inb⟩ (fun d' h => by rw [h]; show headD (neededBy b ms p) = _; rw [nby]; rfl)) ?_
    refine sv_ifF (cc := false) (et_notN (x := .non) (vr 2)) rfl ?_
    have hl : (less ms p).Sublist ms := List.filter_sublist
    refine sv_retd (ev_mkSt (b := b) (t := false) (pegs := less ms p) h4 of_E kk (by rfl) (ev_ground ks of_E (vr 0)) (ev_lc1 (td := fun o => [(3, .d (.str o))]) ms D.str (fun o => !decide (o = p)) D.str [("other", 3)] (ei_tup (l := ms.map D.str) (ev_members ks of_E (vr 0))).weak (by have := st.len; omega) (blkOk_by (by kernel_rfl)) (fun d hd => eg_name 3 rfl (.inl rfl)) (fun d hd q hq => by simp at hq; subst hq; simp) (fun o ho => (et_ne (vr 3) (vr 1)).eqb (by simp [eqD])) (fun o ho _ => vr 3)) (fun o ho => st.ins o (hl.subset ho)) res (mem5_self st.ok.nd (hl.trans st.sub))) rfl
end
end Nb
set_option Elab.async false
set_option linter.all false
set_option maxRecDepth 100000
set_option maxHeartbeats 2000000
namespace Nb
open PySem PySem.Spec PyProof.Rows L2
/-! turns -/
def tnN (t : Bool) : Str := if t then "Put" else "Take"
def tnD (t : Bool × Str) : D := .obj (tnN t.1) ["peg"] [.str t.2]
structure KTn (g : Glob) (c s : Str) : Prop where
  cls : Cls g.K (g.cl c)
  na : NoAttr g.K (g.cl c) "peg"
  sign : ∃ u, Con g.K (g.cl c) "sign" (.str s) u
  kl : Kl g c
  mg : g.mg c = some (.ref (g.cl c))
structure KTns (g : Glob) : Prop where
  put : KTn g "Put" "+"
  take : KTn g "Take" "-"
def tnS (t : Bool) : Str := if t then "+" else "-"
theorem KTns.at {g : Glob} (k : KTns g) (t : Bool) : KTn g (tnN t) (tnS t) := by cases t; exact k.take; exact k.put
section
variable {g : Glob}
theorem ev_peg {E : EC} {δ : Ds} {o : Expr} {pos : Pos} {t : Bool × Str} (kt : KTns g) (og : Of E g) (h : EV E o δ (.d (tnD t))) (hb : ∀ env, attributeBase o "peg" env (eval o env) = eval o env := by intro _; rfl) : EV E (.Attribute o "peg" pos) δ (.d (.str t.2)) :=
  ev_fld og (kt.at t.1).cls (kt.at t.1).na (fs := ["peg"]) (l := [.str t.2]) h (by rfl) hb
theorem ev_sign {E : EC} {δ : Ds} {o : Expr} {pos : Pos} {t : Bool × Str} (kt : KTns g) (og : Of E g) (h : EV E o δ (.d (tnD t))) (hb : ∀ env, attributeBase o "sign" env (eval o env) = eval o env := by intro _; rfl) : EV E (.Attribute o "sign" pos) δ (.d (.str (tnS t.1))) := by
  obtain ⟨u, hc⟩ := (kt.at t.1).sign
  exact ev_con og (kt.at t.1).cls hc h (by rfl) (fun B H => by simp [Rep]) hb
theorem et_plus {E : EC} {δ : Ds} {a b : Expr} {pos : Pos} {t : Bool} (ha : EV E a δ (.d (.str (tnS t)))) (hb : EV E b δ (.d (.str "+"))) (hm : behindInMarks .Eq b = false := by first | exact nomark _ | rfl) : ET E (.Compare a [.Eq] [b] pos) δ t :=
  (et_eq ha hb).eqb (by cases t <;> decide)
/-! Put, Take: made, turned about -/
theorem scPutI : FnScope ["self", "peg"] ["self", "peg"] (defScope (mem 25 1)) := ⟨rfl, rfl, rfl, by decide +kernel, rfl, by decide +kernel, by decide +kernel⟩
theorem scTakeI : FnScope ["self", "peg"] ["self", "peg"] (defScope (mem 26 1)) := ⟨rfl, rfl, rfl, by decide +kernel, rfl, by decide +kernel, by decide +kernel⟩
def spTnI (g : Glob) (t : Bool) : Sp := spI g (tnN t) (α := Str) (fun a => [.str a]) (fun _ => True) (fun a fs l => fs = [("peg" : Str)] ∧ l = [.str a])
theorem mk_put (F : Dn g "Put" "Put.__init__" (mem 25 1) []) (kt : KTns g) : Mak g 1 "Put" (spTnI g true) :=
  F.mak scPutI (fun _ _ _ _ _ _ us hl => match us, hl with | [_, _], _ => rfl) (fun a => rfl) (by decide) fun B0 H0 q a _ hq =>
    sv_fld 0 of_E kt.put.cls kt.put.na rfl (by rfl) (.inl (by rfl)) (by rfl) (one0 (by rfl)) (by simp) (by decide) (EV.pd (vr 1)) (fun d hd => by subst hd; exact sv_end ⟨_, _, rfl, rfl, rfl⟩) (by rfl)
theorem mk_take (F : Dn g "Take" "Take.__init__" (mem 26 1) []) (kt : KTns g) : Mak g 1 "Take" (spTnI g false) :=
  F.mak scTakeI (fun _ _ _ _ _ _ us hl => match us, hl with | [_, _], _ => rfl) (fun a => rfl) (by decide) fun B0 H0 q a _ hq =>
    sv_fld 0 of_E kt.take.cls kt.take.na rfl (by rfl) (.inl (by rfl)) (by rfl) (one0 (by rfl)) (by simp) (by decide) (EV.pd (vr 1)) (fun d hd => by subst hd; exact sv_end ⟨_, _, rfl, rfl, rfl⟩) (by rfl)
theorem ev_mkTn {E : EC} {δ : Ds} {e1 : Expr} {p pos : Pos} {a : Str} {c : Str} (t : Bool) (hc : tnN t = c) (F : Mak g 1 c (spTnI g t)) (og : Of E g) (hk : 2 ≤ E.k) (hg : GlS E.sc c) (h1 : EV E e1 δ (.d (.str a))) (hdb : (c == ("__debug__" : Str)) = false := by decide)
    (he : ∀ env, starEach [e1] env = (false, eval e1 env) :: starEach [] env := by intro _; rfl) (hpl : ∀ env, (backTo pos (starEach [] env)).any (·.1) = false := by intro _; rfl) : EV E (.Call (.Name c p) [e1] [] pos) δ (.d (tnD (t, a))) := by
  subst hc
  exact EVP.toV (evp_make F og hk hg ((ea_1 h1 he).toP ⟨a, rfl, trivial, fun fs l ⟨e1, e2⟩ => by rw [e1, e2]; rfl⟩) hdb he hpl)
theorem scPutN : FnScope ["self"] ["self"] (defScope (mem 25 3)) := ⟨rfl, rfl, rfl, by decide +kernel, rfl, by decide +kernel, by decide +kernel⟩
theorem scTakeN : FnScope ["self"] ["self"] (defScope (mem 26 3)) := ⟨rfl, rfl, rfl, by decide +kernel, rfl, by decide +kernel, by decide +kernel⟩
def spNeg (g : Glob) (t : Bool) : Sp := spP g (α := Str) (fun a => [tnD (t, a)]) (fun _ => True) (fun a d => d = tnD (!t, a))
theorem me_putN (F : Dm g "Put" "__neg__" "Put.__neg__" (mem 25 3)) (kt : KTns g) (h1 : Mak g 1 "Take" (spTnI g false)) : Me g 3 "Put" "__neg__" (spNeg g true) :=
  F.me scPutN (fun _ _ _ _ _ _ us hl => match us, hl with | [_], _ => rfl) (fun a => rfl) (by decide) fun B0 H0 a _ => sv_retd (ev_mkTn false rfl h1 of_E kk (by rfl) (ev_peg (t := (true, a)) kt of_E (vr 0))) rfl
theorem me_takeN (F : Dm g "Take" "__neg__" "Take.__neg__" (mem 26 3)) (kt : KTns g) (h1 : Mak g 1 "Put" (spTnI g true)) : Me g 3 "Take" "__neg__" (spNeg g false) :=
  F.me scTakeN (fun _ _ _ _ _ _ us hl => match us, hl with | [_], _ => rfl) (fun a => rfl) (by decide) fun B0 H0 a _ => sv_retd (ev_mkTn true rfl h1 of_E kk (by rfl) (ev_peg (t := (false, a)) kt of_E (vr 0))) rfl
/-! turned, can_turn -/
def applyT (b : Bd) (ms : List Str) (t : Bool × Str) : List Str := if t.1 then mem5 b (ms ++ [t.2]) else less ms t.2
def canT (b : Bd) (ms : List Str) (t : Bool × Str) : Bool := if t.1 then decide (t.2 ∈ freeL b ms) else decide (t.2 ∈ looseL b ms)
def CanTurn (b : Bd) (ms : List Str) (t : Bool × Str) : Prop := if t.1 then CanPut b ms t.2 else CanTake b ms t.2
structure TnA where
  b : Bd
  ms : List Str
  t : Bool × Str
theorem scTurned : FnScope ["stand", "turn"] ["stand", "turn"] (defScope (top 30)) := ⟨rfl, rfl, rfl, by decide +kernel, rfl, by decide +kernel, by decide +kernel⟩
def spTurned (g : Glob) : Sp := spP g (α := TnA) (fun a => [stD a.b a.ms, tnD a.t]) (fun a => CanTurn a.b a.ms a.t) (fun a d => d = stD a.b (applyT a.b a.ms a.t))
theorem fn_turned (F : Df g "turned" (top 30)) (kt : KTns g) (h1 : Me g 6 "Stand" "with_peg" (spWith g)) (h2 : Me g 6 "Stand" "without_peg" (spWithout g)) : Fn g 7 "turned" (spTurned g) := by
  refine F.fn scTurned (fun _ _ _ _ _ _ us hl => match us, hl with | [_, _], _ => rfl) (fun a => rfl) (by decide) fun B0 H0 a ok => ?_
  obtain ⟨b, ms, t, p⟩ := a
  refine sv_retd (ev_ite (c := t) (et_plus (ev_sign (t := (t, p)) kt of_E (vr 1)) ev_str) (fun h => ?_) (fun h => ?_)) rfl
  · subst h
    exact ev_mt (α := SPeg) (ds := [.str p]) (fs := stFs) (l := [b.d, sT ms]) ⟨b, ms, p⟩ h1 of_E kk (vr 0) rfl (ea_1 (ev_peg (t := (true, p)) kt of_E (vr 1))) rfl ok (fun d' h => h)
  · subst h
    exact ev_mt (α := SPeg) (ds := [.str p]) (fs := stFs) (l := [b.d, sT ms]) ⟨b, ms, p⟩ h2 of_E kk (vr 0) rfl (ea_1 (ev_peg (t := (false, p)) kt of_E (vr 1))) rfl ok (fun d' h => h)
theorem scCan : FnScope ["stand", "turn"] ["stand", "turn"] (defScope (top 32)) := ⟨rfl, rfl, rfl, by decide +kernel, rfl, by decide +kernel, by decide +kernel⟩
def spCan (g : Glob) : Sp := spP g (α := TnA) (fun a => [stD a.b a.ms, tnD a.t]) (fun a => OkSt a.b a.ms) (fun a d => d = .bl (canT a.b a.ms a.t))
theorem fn_can (F : Df g "can_turn" (top 32)) (kt : KTns g) (h1 : Pr g 5 "Stand" "free" (spFree g)) (h2 : Pr g 4 "Stand" "loose" (spLoose g)) : Fn g 7 "can_turn" (spCan g) := by
  refine F.fn scCan (fun _ _ _ _ _ _ us hl => match us, hl with | [_, _], _ => rfl) (fun a => rfl) (by decide) fun B0 H0 a ok => ?_
  obtain ⟨b, ms, t, p⟩ := a
  refine sv_retd (EV.eqb (ev_in (s := p) (ss := if t then freeL b ms else looseL b ms) (x := sT (if t then freeL b ms else looseL b ms)) (ev_peg (t := (t, p)) kt of_E (vr 1)) (EV.wk (ev_ite (c := t) (et_plus (ev_sign (t := (t, p)) kt of_E (vr 1)) ev_str) (fun h => ?_) (fun h => ?_))) rfl) ?_) rfl
  · subst h
    exact ev_prop (α := Bd × List Str) (d := sT (freeL b ms)) (b, ms) h1 of_E kk (fs := stFs) (l := [b.d, sT ms]) (vr 0) rfl ok (fun d' h => h)
  · subst h
    exact ev_prop (α := Bd × List Str) (d := sT (looseL b ms)) (b, ms) h2 of_E kk (fs := stFs) (l := [b.d, sT ms]) (vr 0) rfl ok (fun d' h => h)
  · cases t <;> rfl
/-! check_pair, comes_before, earlier_pegs, turn_of -/
theorem scPair : FnScope ["a", "b"] ["a", "b"] (defScope (top 34)) := ⟨rfl, rfl, rfl, by decide +kernel, rfl, by decide +kernel, by decide +kernel⟩
def spPair (g : Glob) : Sp := spP g (α := STwo) (fun a => [stD a.b a.s, stD a.b a.t]) (fun a => OkBd a.b) (fun a d => d = .non)
theorem fn_pair (F : Df g "check_pair" (top 34)) (kl : Kl g "Board") (nb : NeB g) (h1 : Me g 1 "Board" "__eq__" (spBdEq g)) (h2 : Pr g 1 "Stand" "board" (spStBd g)) : Fn g 3 "check_pair" (spPair g) := by
  refine F.fn scPair (fun _ _ _ _ _ _ us hl => match us, hl with | [_, _], _ => rfl) (fun a => rfl) (by decide) fun B0 H0 a ok => ?_
  exact sv_ifF (cc := false) (et_neO (α := Bd) (t := true) (fs := bdFs) (l := a.b.l) (fs' := bdFs) (l' := a.b.l) a.b h1.ow kl nb.ne of_E kk (ev_prop (α := Bd × List Str) (d := a.b.d) (a.b, a.s) h2 of_E kk (fs := stFs) (l := [a.b.d, sT a.s]) (vr 0) rfl trivial (fun d' h => h)) (ev_prop (α := Bd × List Str) (d := a.b.d) (a.b, a.t) h2 of_E kk (fs := stFs) (l := [a.b.d, sT a.t]) (vr 1) rfl trivial (fun d' h => h)) rfl ok (fun d' h => h)) rfl (sv_end rfl)
theorem scBefore : FnScope ["x", "y", "b", "board"] ["x", "y", "b"] (defScope (top 35)) := ⟨rfl, rfl, rfl, by decide +kernel, rfl, by decide +kernel, by decide +kernel⟩
def before (b : Bd) (t : List Str) (x y : Str) : Bool := if x ∈ t then decide (y ∈ t) && wants b y x else if y ∈ t then clash b x y else wants b x y
structure BfA where
  x : Str
  y : Str
  b : Bd
  t : List Str
def spBefore (g : Glob) : Sp := spP g (α := BfA) (fun a => [.str a.x, .str a.y, stD a.b a.t]) (fun a => OkBd a.b ∧ a.x ∈ a.b.order ∧ a.y ∈ a.b.order) (fun a d => d = .bl (before a.b a.t a.x a.y))
theorem fn_before (F : Df g "comes_before" (top 35)) (h1 : Pr g 1 "Stand" "board" (spStBd g)) (h2 : Me g 1 "Stand" "__contains__" (spStIn g)) (h3 : Me g 2 "Board" "needs" (spNeeds g)) (h4 : Me g 2 "Board" "clash" (spClash g)) : Fn g 3 "comes_before" (spBefore g) := by
  refine F.fn scBefore (fun _ _ _ _ _ _ us hl => match us, hl with | [_, _, _], _ => rfl) (fun a => rfl) (by decide) fun B0 H0 a ⟨ok, hx, hy⟩ => ?_
  obtain ⟨x, y, b, t⟩ := a
  refine sv_set 3 (r := .d b.d) (by rfl) (.inl (by rfl)) (ev_prop (α := Bd × List Str) (d := b.d) (b, t) h1 of_E kk (fs := stFs) (l := [b.d, sT t]) (vr 2) rfl trivial (fun d' h => h)) ?_
  refine sv_ifR (cc := decide (x ∈ t)) (et_inO (α := SPeg) (x := .str x) (fs := stFs) (l := [b.d, sT t]) ⟨b, t, x⟩ h2.ow of_E kk (vr 0) (vr 2) rfl trivial (fun d' h => h)) (fun h => ?_) (fun h => ?_)
  · have hp : x ∈ t := of_decide_eq_true h
    refine sv_retd (ev_and (ev_inO (α := SPeg) (x := .str y) (fs := stFs) (l := [b.d, sT t]) ⟨b, t, y⟩ h2.ow of_E kk (vr 1) (vr 2) rfl trivial (fun d' h => h)) fun _ => ev_one (ev_mt (α := Bd × Str × Str) (d := .bl (wants b y x)) (ds := [.str y, .str x]) (fs := bdFs) (l := b.l) (b, y, x) h3 of_E kk (vr 3) rfl (ea_cons (vr 1) (ea_1 (vr 0))) rfl ⟨hy, hx⟩ (fun d' h => h))) ?_
    show _ = D.bl (before b t x y)
    unfold before
    rw [if_pos hp]
  · have hp : ¬ x ∈ t := of_decide_eq_false h
    refine sv_retd (d := .bl (before b t x y)) (ev_ite (c := decide (y ∈ t)) (et_inO (α := SPeg) (x := .str y) (fs := stFs) (l := [b.d, sT t]) ⟨b, t, y⟩ h2.ow of_E kk (vr 1) (vr 2) rfl trivial (fun d' h => h)) (fun h => ?_) (fun h => ?_)) rfl
    · have hq : y ∈ t := of_decide_eq_true h
      exact (ev_mt (α := Bd × Str × Str) (d := .bl (clash b x y)) (ds := [.str x, .str y]) (fs := bdFs) (l := b.l) (b, x, y) h4 of_E kk (vr 3) rfl (ea_cons (vr 0) (ea_1 (vr 1))) rfl ⟨ok, hx, hy⟩ (fun d' h => h)).eqb (by unfold before; rw [if_neg hp, if_pos hq])
    · have hq : ¬ y ∈ t := of_decide_eq_false h
      exact (ev_mt (α := Bd × Str × Str) (d := .bl (wants b x y)) (ds := [.str x, .str y]) (fs := bdFs) (l := b.l) (b, x, y) h3 of_E kk (vr 3) rfl (ea_cons (vr 0) (ea_1 (vr 1))) rfl ⟨hx, hy⟩ (fun d' h => h)).eqb (by unfold before; rw [if_neg hp, if_neg hq])
theorem scEarlier : FnScope ["a", "b", "unlike", "y", "x"] ["a", "b"] (defScope (top 36)) := ⟨rfl, rfl, rfl, by decide +kernel, rfl, by decide +kernel, by decide +kernel⟩
def earlier (b : Bd) (s t : List Str) (y : Str) : List Str := (unlike b s t).filter fun x => !decide (x = y) && before b t x y
def spEarlier (g : Glob) : Sp := spP g (α := STwo) (fun a => [stD a.b a.s, stD a.b a.t]) (fun a => OkBd a.b) (fun a d => d = rowsD (unlike a.b a.s a.t) (earlier a.b a.s a.t))
theorem unlike_len {b : Bd} (ok : OkBd b) (s t : List Str) : (unlike b s t).length ≤ 12 := Nat.le_trans (List.length_filter_le _ _) ok.few
theorem unlike_in {b : Bd} {s t : List Str} {x : Str} (h : x ∈ unlike b s t) : x ∈ b.order := (List.mem_filter.mp h).1
theorem fn_earlier (F : Df g "earlier_pegs" (top 36)) (h1 : Me g 4 "Stand" "__xor__" (spXor g)) (hsf : PySem.W.selfFirst g.K (g.cl "Stand") = true) (h2 : Fn g 3 "comes_before" (spBefore g)) : Fn g 5 "earlier_pegs" (spEarlier g) := by
  refine F.fn scEarlier (fun _ _ _ _ _ _ us hl => match us, hl with | [_, _], _ => rfl) (fun a => rfl) (by decide) fun B0 H0 a ok => ?_
  have hz := unlike_len ok a.s a.t
  refine sv_set 2 (r := .d (sT (unlike a.b a.s a.t))) (by rfl) (.inr (by rfl)) (ev_bin (op := .BitXor) (α := STwo) (fs := stFs) (l := [a.b.d, sT a.s]) (fs' := stFs) (l' := [a.b.d, sT a.t]) a h1.ow of_E kk hsf (vr 0) (vr 1) rfl ok (fun d' h => h)) ?_
  refine sv_retd ((ev_dc (td := fun d => [(3, .d (.str d))]) (unlike a.b a.s a.t) D.str (fun p => p) (fun p => sL (earlier a.b a.s a.t p)) [("y", 3)] (ei_tup (l := (unlike a.b a.s a.t).map D.str) (vr 2)).weak (by omega) (by rw [List.map_id']; exact ok.nd.filter _) (blkOk_by (by kernel_rfl)) (fun d hd => eg_name 3 rfl (.inr rfl)) (fun d hd q hq => by simp at hq; subst hq; simp) (fun d hd => vr 3) (fun d hd => ?_)).eqd (by rw [List.map_id']; rfl)) rfl
  refine ev_lc1 (td := fun o => [(4, .d (.str o))]) (unlike a.b a.s a.t) D.str (fun x => !decide (x = d) && before a.b a.t x d) D.str [("x", 4)] (ei_tup (l := (unlike a.b a.s a.t).map D.str) (vr 2)).weak (by omega) (blkOk_by (by kernel_rfl)) (fun d hd => eg_name 4 rfl (.inl rfl)) (fun d hd q hq => by simp at hq; subst hq; simp) (fun x hx => ?_) (fun o ho _ => vr 4)
  exact EWt.t (ew_and ((et_ne (vr 4) (vr 3)).eqb (by simp [eqD])) fun _ => ew_and1 (et_v (ev_call (α := BfA) ⟨x, d, a.b, a.t⟩ h2 of_E.blk.blk kk (by rfl) (ea_cons (vr 4) (ea_cons (vr 3) (ea_1 (vr 1)))) ⟨ok, unlike_in hx, unlike_in hd⟩ (fun d' h => h))))
theorem scTof : FnScope ["peg", "b"] ["peg", "b"] (defScope (top 37)) := ⟨rfl, rfl, rfl, by decide +kernel, rfl, by decide +kernel, by decide +kernel⟩
def turnOf (t : List Str) (p : Str) : Bool × Str := (decide (p ∈ t), p)
structure PgA where
  p : Str
  b : Bd
  t : List Str
def spTof (g : Glob) : Sp := spP g (α := PgA) (fun a => [.str a.p, stD a.b a.t]) (fun _ => True) (fun a d => d = tnD (turnOf a.t a.p))
theorem fn_tof (F : Df g "turn_of" (top 37)) (h1 : Mak g 1 "Put" (spTnI g true)) (h2 : Mak g 1 "Take" (spTnI g false)) (h3 : Me g 1 "Stand" "__contains__" (spStIn g)) : Fn g 3 "turn_of" (spTof g) := by
  refine F.fn scTof (fun _ _ _ _ _ _ us hl => match us, hl with | [_, _], _ => rfl) (fun a => rfl) (by decide) fun B0 H0 a _ => ?_
  obtain ⟨p, b, t⟩ := a
  refine sv_retd (d := tnD (turnOf t p)) (ev_ite (c := decide (p ∈ t)) (et_inO (α := SPeg) (x := .str p) (fs := stFs) (l := [b.d, sT t]) ⟨b, t, p⟩ h3.ow of_E kk (vr 0) (vr 1) rfl trivial (fun d' h => h)) (fun h => ?_) (fun h => ?_)) rfl
  · exact (ev_mkTn true rfl h1 of_E kk (by rfl) (vr 0)).eqd (by unfold turnOf; rw [h])
  · exact (ev_mkTn false rfl h2 of_E kk (by rfl) (vr 0)).eqd (by unfold turnOf; rw [h])
end
end Nb
set_option Elab.async false
set_option linter.all false
set_option maxRecDepth 100000
set_option maxHeartbeats 2000000
namespace Nb
open PySem PySem.Spec PyProof.Rows L2
abbrev Tn := Bool × Str
def tsT (ts : List Tn) : D := .tup (ts.map tnD)
def rsT (rs : List (List Tn)) : D := .tup (rs.map tsT)
theorem clash_comm (b : Bd) (p q : Str) : clash b p q = clash b q p := by unfold clash; rw [Bool.or_comm]
theorem clash_irr {b : Bd} (ok : OkBd b) (p : Str) : clash b p p = false := by
  unfold clash
  have : (p, p) ∉ b.clashes := fun h => ok.irr _ h rfl
  simp [this]
theorem mem_mem5 {b : Bd} {l : List Str} {p : Str} : p ∈ mem5 b l ↔ p ∈ b.order ∧ p ∈ l := by unfold mem5; simp
theorem can_put {b : Bd} {ms : List Str} {p : Str} (st : OkSt b ms) (h : p ∈ freeL b ms) : CanPut b ms p := by
  unfold freeL at h
  simp only [List.mem_filter, Bool.and_eq_true, Bool.not_eq_true', decide_eq_false_iff_not] at h
  obtain ⟨h1, h2, h3⟩ := h
  obtain ⟨t1, t2⟩ := takes_iff.mp h3
  refine ⟨st, h1, h2, h3, st.ok, List.filter_sublist, fun q hq o ho => ?_, fun q hq o ho => ?_⟩
  · obtain ⟨q1, q2⟩ := mem_mem5.mp hq
    refine mem_mem5.mpr ⟨st.ok.sub q q1 o ho, ?_⟩
    rcases List.mem_append.mp q2 with q2 | q2
    · exact List.mem_append_left _ (st.need q q2 o ho)
    · rw [List.mem_singleton] at q2
      subst q2
      by_cases e : o = q
      · exact List.mem_append_right _ (by simp [e])
      · exact List.mem_append_left _ (t1 o ho e)
  · obtain ⟨q1, q2⟩ := mem_mem5.mp hq
    obtain ⟨o1, o2⟩ := mem_mem5.mp ho
    rcases List.mem_append.mp q2 with q2 | q2 <;> rcases List.mem_append.mp o2 with o2 | o2
    · exact st.free q q2 o o2
    · rw [List.mem_singleton.mp o2, clash_comm]; exact t2 q q2
    · rw [List.mem_singleton.mp q2]; exact t2 o o2
    · rw [List.mem_singleton.mp q2, List.mem_singleton.mp o2]; exact clash_irr st.ok p
theorem mem_above {b : Bd} {p o : Str} : o ∈ above b p ↔ o ∈ b.order ∧ p ∈ b.row o := by unfold above; simp
theorem nby_nil {b : Bd} {ms : List Str} {p : Str} : neededBy b ms p = [] ↔ ∀ o ∈ b.order, o ∈ ms → o ≠ p → p ∉ b.row o := by
  unfold neededBy
  rw [List.filter_eq_nil_iff]
  constructor
  · intro h o ho hm hne hr
    exact h o (mem_above.mpr ⟨ho, hr⟩) (by simp [hne, hm])
  · intro h o ho
    obtain ⟨h1, h2⟩ := mem_above.mp ho
    intro hh
    simp only [Bool.and_eq_true, Bool.not_eq_true', decide_eq_false_iff_not, decide_eq_true_iff] at hh
    exact h o h1 hh.2 hh.1 h2
theorem mem_less {ms : List Str} {p o : Str} : o ∈ less ms p ↔ o ∈ ms ∧ o ≠ p := by unfold less; simp
theorem can_take {b : Bd} {ms : List Str} {p : Str} (st : OkSt b ms) (h : p ∈ looseL b ms) : CanTake b ms p := by
  unfold looseL at h
  simp only [List.mem_filter, List.isEmpty_iff] at h
  obtain ⟨h1, h2⟩ := h
  refine ⟨st, h1, h2, st.ok, List.filter_sublist.trans st.sub, fun q hq o ho => ?_, fun q hq o ho => ?_⟩
  · obtain ⟨q1, q2⟩ := mem_less.mp hq
    refine mem_less.mpr ⟨st.need q q1 o ho, fun e => ?_⟩
    subst e
    exact nby_nil.mp h2 q (st.ins q q1) q1 q2 ho
  · exact st.free q (mem_less.mp hq).1 o (mem_less.mp ho).1
theorem can_turn {b : Bd} {ms : List Str} {t : Tn} (st : OkSt b ms) (h : canT b ms t = true) : CanTurn b ms t := by
  obtain ⟨c, p⟩ := t
  unfold canT at h
  unfold CanTurn
  cases c with
  | true => exact can_put st (by simpa using h)
  | false => exact can_take st (by simpa using h)
theorem CanTurn.st {b : Bd} {ms : List Str} {t : Tn} (h : CanTurn b ms t) : OkSt b (applyT b ms t) := by
  obtain ⟨c, p⟩ := t
  cases c with
  | true => exact CanPut.res h
  | false => exact CanTake.res h
section
variable {g : Glob}
/-! are_turns -/
structure TkNe (g : Glob) : Prop where
  ne : PySem.W.kitOne g.K (.ref (g.cl "Take")) (.ref (g.cl "Put")) = some false
theorem kit_self (K : PySem.W.Frag) (v : Value) (h : (v == v) = true) : PySem.W.kitOne K v v = some true := by unfold PySem.W.kitOne; rw [if_pos h]
theorem scArT : FnScope ["value", "turn"] ["value"] (defScope (top 42)) := ⟨rfl, rfl, rfl, by decide +kernel, rfl, by decide +kernel, by decide +kernel⟩
def spArT (g : Glob) : Sp := spP g (α := List Tn) (fun a => [tsT a]) (fun a => a.length ≤ 1000) (fun a d => d = .bl true)
theorem fn_arT (F : Df g "are_turns" (top 42)) (b : Bi g) (kt : KTns g) (tn : TkNe g) : Fn g 1 "are_turns" (spArT g) := by
  refine F.fn scArT (fun _ _ _ _ _ _ us hl => match us, hl with | [_], _ => rfl) (fun a => rfl) (by decide) fun B0 H0 a ha => ?_
  refine sv_retd (d := .bl true) (ev_and (c := true) (d := true) (ev_isi (x := tsT a) of_E (vr 0) (ev_gty (n := "tuple") (by rfl) b.tuple (by decide +kernel)) trivial (.ty _) rfl (by rfl) b.isi) fun _ => ev_one ((ev_allM (ev_lc0 (td := fun c => [(1, .d (tnD c))]) a tnD (fun _ => .bl true) [("turn", 1)] (ei_tup (l := a.map tnD) (vr 0)).weak ha (blkOk_by (by kernel_rfl)) (fun d hd => eg_name 1 (by rfl) (.inl (by rfl))) (fun d hd q hq => by simp at hq; subst hq; simp) (fun d hd => ?_)) (by rfl) b.all).eqb (by simp))) rfl
  obtain ⟨c, p⟩ := d
  have hk : PySem.W.kitAny g.K (tyD g.cl (tnD (c, p))) [.ref (g.cl "Put"), .ref (g.cl "Take")] = some true := by
    cases c with
    | true =>
      show PySem.W.kitAny g.K (.ref (g.cl "Put")) _ = _
      unfold PySem.W.kitAny
      rw [kit_self _ _ (by simp)]
    | false =>
      show PySem.W.kitAny g.K (.ref (g.cl "Take")) _ = _
      unfold PySem.W.kitAny
      rw [tn.ne]
      show PySem.W.kitAny g.K (.ref (g.cl "Take")) _ = _
      unfold PySem.W.kitAny
      rw [kit_self _ _ (by simp)]
  exact ev_isi2 (x := tnD (c, p)) of_E.blk (vr 1) (ev_gref (by rfl) kt.put.mg) (ev_gref (by rfl) kt.take.mg) (kt.at c).kl (.own _) (.own _) hk (by rfl) b.isi
/-! is_round -/
def others (ts : List Tn) (i : Nat) : List Tn := ts.take i ++ ts.drop (i + 1)
def isRound (b : Bd) (ms : List Str) (ts : List Tn) : Bool := !ts.isEmpty && ts.all (canT b ms) && ts.zipIdx.all fun q => (others ts q.2).all (canT b (applyT b ms q.1))
structure RdA where
  b : Bd
  ms : List Str
  ts : List Tn
theorem scRound : FnScope ["stand", "turns", "pegs", "at", "first", "after", "turn"] ["stand", "turns"] (defScope (top 41)) := ⟨rfl, rfl, rfl, by decide +kernel, rfl, by decide +kernel, by decide +kernel⟩
def spRound (g : Glob) : Sp := spP g (α := RdA) (fun a => [stD a.b a.ms, tsT a.ts]) (fun a => OkSt a.b a.ms ∧ a.ts.length ≤ 12 ∧ (a.ts.map (·.2)).Nodup) (fun a d => d = .bl (isRound a.b a.ms a.ts))
theorem all_take {α : Type} {p : α → Bool} {l : List α} {i : Nat} {x : α} (h : l[i]? = some x) (h1 : (l.take i).all p = true) (h2 : p x = true) : (l.take (i + 1)).all p = true := by
  rw [take_succ_at h, List.all_append, h1]
  simp [h2]
theorem all_not {α : Type} {p : α → Bool} {l : List α} {i : Nat} {x : α} (h : l[i]? = some x) (h2 : p x = false) : l.all p = false := by
  rw [List.all_eq_false]
  exact ⟨x, List.mem_of_getElem? h, by simp [h2]⟩
theorem fn_round (F : Df g "is_round" (top 41)) (b : Bi g) (kt : KTns g) (h1 : Fn g 7 "can_turn" (spCan g)) (h2 : Fn g 7 "turned" (spTurned g)) : Fn g 8 "is_round" (spRound g) := by
  refine F.fn scRound (fun _ _ _ _ _ _ us hl => match us, hl with | [_, _], _ => rfl) (fun a => rfl) (by decide) fun B0 H0 a ⟨st, hz, nd⟩ => ?_
  obtain ⟨bd, ms, ts⟩ := a
  dsimp only at st hz nd
  refine sv_setLc 2 (td := fun t => [(6, .d (tnD t))]) (xs := ts) (c := tnD) (t := fun _ => true) (Pf := fun t y => y = .str t.2) (by rfl) (by rfl) (by rfl) [("turn", 6)] (ei_tup (l := ts.map tnD) (vr 1)).weak (by omega) (blkOk_by (by kernel_rfl)) (fun d hd => eg_name 6 rfl (.inl rfl)) (fun d hd q hq => by simp at hq; subst hq; simp)
    (fun o ho => ets_nil) (fun o ho _ => (ev_peg kt of_E.blk (vr 6) : EV _ _ _ (.d (.str o.2))).toP ⟨_, rfl, rfl⟩) fun m hm => ?_
  have em : m = ts.map fun t => D.str t.2 := by
    have := Made.fn (f := fun t : Tn => D.str t.2) hm
    rw [List.filter_eq_self.mpr (fun _ _ => rfl)] at this
    exact this
  rw [em]
  have e0 : (ts.map fun t => D.str t.2) = (ts.map (·.2)).map D.str := by rw [List.map_map]; rfl
  rw [e0]
  show SV _ _ _ _ ([some (.d (stD bd ms)), some (.d (tsT ts)), some (.d (sL (ts.map (·.2)))), none, none, none, none]) _
  refine sv_ifR (cc := ts.isEmpty || (false || !ts.all (canT bd ms))) (EWt.t (ew_or ((et_eq (ev_len (x := tsT ts) (l := ts.map tnD) (EV.wk (vr 1)) rfl (by rfl) b.len) ev_int).eqb ?_) fun _ => ew_or ((et_lt (ev_lenSet (xs := ts.map (·.2)) (EV.wk (x := sL (ts.map (·.2))) (vr 2)) rfl nd (by simp; omega) (by rfl) b.len (by rfl) b.set) (ev_len (x := sL (ts.map (·.2))) (l := (ts.map (·.2)).map D.str) (EV.wk (vr 2)) rfl (by rfl) b.len)).eqb ?_) fun _ => ew_or1 (et_not (et_v (ev_allM (ev_lc0 (td := fun t => [(6, .d (tnD t))]) ts tnD (fun t => .bl (canT bd ms t)) [("turn", 6)] (ei_tup (l := ts.map tnD) (vr 1)).weak (by omega) (blkOk_by (by kernel_rfl)) (fun d hd => eg_name 6 rfl (.inl rfl)) (fun d hd q hq => by simp at hq; subst hq; simp) (fun t ht => ?_)) (by rfl) b.all))))) (fun h => ?_) (fun h => ?_)
  · simp only [eqD, List.length_map]
    cases ts with
    | nil => rfl
    | cons t ts => simp; omega
  · simp
  · exact ev_call (α := TnA) ⟨bd, ms, t⟩ h1 of_E.blk kk (by rfl) (ea_cons (vr 0) (ea_1 (vr 6))) st (fun d' h => h)
  · refine sv_retd ev_bl ?_
    show _ = D.bl (isRound bd ms ts)
    unfold isRound
    cases e1 : ts.isEmpty
    · rw [e1] at h
      simp only [Bool.false_or, Bool.not_eq_true'] at h
      rw [h]; rfl
    · rfl
  · have h' : ts.isEmpty = false ∧ ts.all (canT bd ms) = true := by simpa using h
    obtain ⟨e1, e2⟩ := h'
    have key : isRound bd ms ts = ts.zipIdx.all fun q => (others ts q.2).all (canT bd (applyT bd ms q.1)) := by unfold isRound; rw [e1, e2]; rfl
    refine sv_for ts.zipIdx (fun q => .tup [.int (q.2 : Nat), tnD q.1]) (fun i δ' => (∃ x y z, δ' = [some (.d (stD bd ms)), some (.d (tsT ts)), some (.d (sL (ts.map (·.2)))), x, y, z, none]) ∧ (ts.zipIdx.take i).all (fun q => (others ts q.2).all (canT bd (applyT bd ms q.1))) = true) (td := fun q => [(3, .d (.int (q.2 : Nat))), (4, .d (tnD q.1))])
      ((ei_enum (l := ts.map tnD) (vr 1) (by rfl) b.enum).eq (enumD_map _ _)) ⟨⟨none, none, none, rfl⟩, rfl⟩ (fun d hd => eg_two 3 4 (by rfl) (by rfl) (.inl (by rfl)) (.inl (by rfl))) ?_ ?_
    · rintro i q δ' hq ⟨⟨x, y, z, rfl⟩, hi⟩
      obtain ⟨q1, q2⟩ := zipIdx_at hq
      have hm : q.1 ∈ ts := List.mem_of_getElem? q1
      have ct : CanTurn bd ms q.1 := Nb.can_turn st (List.all_eq_true.mp e2 _ hm)
      refine sv_set 5 (r := .d (stD bd (applyT bd ms q.1))) (by rfl) (.inr (by rfl)) (ev_call (α := TnA) ⟨bd, ms, q.1⟩ h2 of_E kk (by rfl) (ea_cons (vr 0) (ea_1 (vr 4))) ct (fun d' h => h)) ?_
      have hlen : (others ts q.2).length ≤ 24 := by unfold others; rw [List.length_append, List.length_take, List.length_drop]; omega
      refine sv_ifR (cc := !(others ts q.2).all (canT bd (applyT bd ms q.1))) (et_not (et_v (ev_allM (ev_lc0 (td := fun t => [(6, .d (tnD t))]) (others ts q.2) tnD (fun t => .bl (canT bd (applyT bd ms q.1) t)) [("turn", 6)] (EI.weak (EI.eq (ei_tup (ev_catT (ev_slT (l := ts.map tnD) (vr 1) eo_none (eo_some (vr 3))) (ev_slT (l := ts.map tnD) (vr 1) (eo_some (ev_add (vr 3) ev_int)) eo_none) ?_)) ?_)) (by omega) (blkOk_by (by kernel_rfl)) (fun d hd => eg_name 6 rfl (.inl rfl)) (fun d hd q hq => by simp at hq; subst hq; simp) (fun t ht => ?_)) (by rfl) b.all))) (fun h => ?_) (fun h => ?_)
      · rw [show (((q.2 : Nat) : Int) + 1) = ((q.2 + 1 : Nat) : Int) by omega, cutD_map, cutD_to, cutD_map, cutD_from, List.length_map, List.length_map, List.length_take, List.length_drop]; omega
      · rw [show (((q.2 : Nat) : Int) + 1) = ((q.2 + 1 : Nat) : Int) by omega, cutD_map, cutD_to, cutD_map, cutD_from, ← List.map_append]; rfl
      · exact ev_call (α := TnA) ⟨bd, applyT bd ms q.1, t⟩ h1 of_E.blk kk (by rfl) (ea_cons (vr 5) (ea_1 (vr 6))) ct.st (fun d' h => h)
      · refine sv_retd ev_bl ?_
        show _ = D.bl (isRound bd ms ts)
        rw [key, all_not hq (by simpa using h)]
      · exact sv_end ⟨⟨_, _, _, rfl⟩, all_take hq hi (by simpa using h)⟩
    · rintro δ' ⟨⟨x, y, z, rfl⟩, hi⟩
      refine sv_retd ev_bl ?_
      rw [List.take_length] at hi
      show _ = D.bl (isRound bd ms ts)
      rw [key, hi]
end
end Nb
set_option Elab.async false
set_option linter.all false
set_option maxRecDepth 100000
set_option maxHeartbeats 2000000
namespace Nb
open PySem PySem.Spec PyProof.Rows L2
def applyR (b : Bd) (s : List Str) (r : List Tn) : List Str := r.foldl (applyT b) s
def lead (b : Bd) : List Str → List (List Tn) → List Str → Bool
  | s, [], t => decide (s = t)
  | s, r :: rs, t => isRound b s r && lead b (applyR b s r) rs t
/-- the turns may be made one behind another -/
def SeqOk (b : Bd) (s : List Str) (r : List Tn) : Prop := ∀ (i : Nat) (t : Tn), r[i]? = some t → CanTurn b (applyR b s (r.take i)) t
/-- a round's turns may be made one behind another (shown apart) -/
def RoundSeq : Prop := ∀ (b : Bd) (s : List Str) (r : List Tn), OkSt b s → (r.map (·.2)).Nodup → isRound b s r = true → SeqOk b s r
theorem applyR_succ {b : Bd} {s : List Str} {r : List Tn} {i : Nat} {t : Tn} (h : r[i]? = some t) : applyR b s (r.take (i + 1)) = applyT b (applyR b s (r.take i)) t := by
  unfold applyR
  rw [take_succ_at h, List.foldl_append]
  rfl
theorem SeqOk.st {b : Bd} {s : List Str} {r : List Tn} (st : OkSt b s) (h : SeqOk b s r) : ∀ i, i ≤ r.length → OkSt b (applyR b s (r.take i))
  | 0, _ => st
  | i + 1, hi => by
    have e := List.getElem?_eq_getElem (show i < r.length by omega)
    rw [applyR_succ e]
    exact (h i _ e).st
structure LdA where
  b : Bd
  s : List Str
  t : List Str
  rs : List (List Tn)
structure OkLd (a : LdA) : Prop where
  s : OkSt a.b a.s
  t : OkSt a.b a.t
  few : a.rs.length ≤ 100
  rs : ∀ r ∈ a.rs, r.length ≤ 12 ∧ (r.map (·.2)).Nodup
section
variable {g : Glob}
theorem scLead : FnScope ["a", "b", "value", "stand", "turns", "turn"] ["a", "b", "value"] (defScope (top 43)) := ⟨rfl, rfl, rfl, by decide +kernel, rfl, by decide +kernel, by decide +kernel⟩
def spLead (g : Glob) : Sp := spP g (α := LdA) (fun a => [stD a.b a.s, stD a.b a.t, rsT a.rs]) OkLd (fun a d => d = .bl (lead a.b a.s a.rs a.t))
theorem fn_lead (hseq : RoundSeq) (F : Df g "rounds_lead" (top 43)) (b : Bi g) (h1 : Fn g 3 "check_pair" (spPair g)) (h2 : Fn g 1 "are_turns" (spArT g)) (h3 : Fn g 8 "is_round" (spRound g)) (h4 : Fn g 7 "turned" (spTurned g)) (h5 : Me g 2 "Stand" "__eq__" (spStEq g)) : Fn g 9 "rounds_lead" (spLead g) := by
  refine F.fn scLead (fun _ _ _ _ _ _ us hl => match us, hl with | [_, _, _], _ => rfl) (fun a => rfl) (by decide) fun B0 H0 a ok => ?_
  obtain ⟨bd, s, t, rs⟩ := a
  obtain ⟨os, ot, few, hrs⟩ := ok
  dsimp only at os ot few hrs
  refine sv_drop (ev_call (α := STwo) ⟨bd, s, t⟩ h1 of_E kk (by rfl) (ea_cons (vr 0) (ea_1 (vr 1))) os.ok (fun d' h => h)).pd ?_
  refine sv_ifF (cc := false) (et_not (et_isi (t := true) (x := rsT rs) of_E (vr 2) (ev_gty (n := "tuple") (by rfl) b.tuple (by decide +kernel)) trivial (.ty _) rfl (by rfl) b.isi)) rfl ?_
  refine sv_set 3 (r := .d (stD bd s)) (by rfl) (.inl (by rfl)) (vr 0) ?_
  refine sv_for rs tsT (fun i δ' => ∃ u x y, δ' = [some (.d (stD bd s)), some (.d (stD bd t)), some (.d (rsT rs)), some (.d (stD bd u)), x, y] ∧ OkSt bd u ∧ lead bd s rs t = lead bd u (rs.drop i) t) (td := fun r => [(4, .d (tsT r))]) (ei_tup (l := rs.map tsT) (vr 2)) ⟨s, none, none, rfl, os, rfl⟩ (fun d hd => eg_name 4 rfl (.inl rfl)) ?_ ?_
  · rintro i r δ' hr ⟨u, x, y, rfl, ou, hu⟩
    have hm := List.mem_of_getElem? hr
    obtain ⟨z1, z2⟩ := hrs r hm
    have hdrop : rs.drop i = r :: rs.drop (i + 1) := by
      obtain ⟨hi, e⟩ := List.getElem?_eq_some_iff.mp hr
      rw [← e]
      exact List.drop_eq_getElem_cons hi
    rw [hdrop] at hu
    refine sv_ifR (cc := false || !isRound bd u r) (EWt.t (ew_or (et_not (et_v (c := true) (ev_call (α := List Tn) r h2 of_E kk (by rfl) (ea_1 (vr 4)) (show r.length ≤ 1000 by omega) (fun d' h => h)))) fun _ => ew_or1 (et_not (et_v (ev_call (α := RdA) ⟨bd, u, r⟩ h3 of_E kk (by rfl) (ea_cons (vr 3) (ea_1 (vr 4))) ⟨ou, z1, z2⟩ (fun d' h => h)))))) (fun h => ?_) (fun h => ?_)
    · have h' : isRound bd u r = false := by simpa using h
      refine sv_retd ev_bl ?_
      show _ = D.bl (lead bd s rs t)
      rw [hu]
      show _ = D.bl (isRound bd u r && lead bd (applyR bd u r) (rs.drop (i + 1)) t)
      rw [h']
      rfl
    · have h' : isRound bd u r = true := by simpa using h
      have sq := hseq bd u r ou z2 h'
      refine sv_for r tnD (fun j δ' => ∃ y, δ' = [some (.d (stD bd s)), some (.d (stD bd t)), some (.d (rsT rs)), some (.d (stD bd (applyR bd u (r.take j)))), some (.d (tsT r)), y]) (td := fun q => [(5, .d (tnD q))]) (ei_tup (l := r.map tnD) (vr 4)) ⟨_, rfl⟩ (fun d hd => eg_name 5 rfl (.inl rfl)) ?_ ?_
      · rintro j q δ' hq ⟨y, rfl⟩
        refine sv_set 3 (r := .d (stD bd (applyT bd (applyR bd u (r.take j)) q))) (by rfl) (.inl (by rfl)) (ev_call (α := TnA) ⟨bd, applyR bd u (r.take j), q⟩ h4 of_E kk (by rfl) (ea_cons (vr 3) (ea_1 (vr 5))) (sq j q hq) (fun d' h => h)) ?_
        exact sv_end ⟨_, by rw [applyR_succ hq]; rfl⟩
      · rintro δ' ⟨y, rfl⟩
        refine sv_end ⟨applyR bd u (r.take r.length), _, _, rfl, sq.st ou _ (Nat.le_refl _), ?_⟩
        rw [hu, List.take_length]
        show (isRound bd u r && _) = _
        rw [h']
        rfl
  · rintro δ' ⟨u, x, y, rfl, ou, hu⟩
    rw [List.drop_length] at hu
    refine sv_retd (ev_eqO (α := STwo) (fs := stFs) (l := [bd.d, sT u]) (fs' := stFs) (l' := [bd.d, sT t]) ⟨bd, u, t⟩ h5.ow of_E kk (vr 3) (vr 1) rfl ⟨ou, ot⟩ (fun d' h => h)) ?_
    show _ = D.bl (lead bd s rs t)
    rw [hu]
    rfl
end
end Nb
set_option Elab.async false
set_option linter.all false
set_option maxRecDepth 100000
set_option maxHeartbeats 2000000
namespace Nb
open PySem PySem.Spec PyProof.Rows L2
section
variable {E : EC} {B Bo : Addr → Prop} {δ : Ds} {Ω : Post} {ss : List Stmt} {tg it e : Expr} {pos p : Pos}
theorem ei_listP {τ : Type} {c : τ → D} {Pi : List τ → Prop} (h : EVP E it δ (fun r => ∃ xs : List τ, r = .d (.lst (xs.map c)) ∧ Pi xs)) (B : Addr → Prop) (γ : Gh) (σ : L2.St) (H : Hp) (er : ER E B δ γ σ H) (R : It → Hp → Prop)
    (q : ∀ xs : List τ, Pi xs → ∀ (J : It) (H2 : Hp) (raw : List (Addr × HO)) (dat : List (D × V)) (G : Hp → Prop) (Y : Nat → Hp → V → Hp → Prop), LeC E H H2 →
      (∀ p ∈ raw, ¬ E.C p.1 ∧ (true = true → ¬ B p.1) ∧ (∀ ps, p.2 ≠ .tbl ps) ∧ H2 p.1 = some p.2) → (∀ q ∈ dat, Rep E.cl B q.1 q.2 H2) → Walk J (xs.map c).length G Y → (∀ H', (∀ p ∈ raw, H' p.1 = some p.2) → G H') →
      (∀ (i : Nat) (d : D) (B' : Addr → Prop) (H' : Hp) (x : V) (H'' : Hp), (xs.map c)[i]? = some d → (∀ a, B' a → H' a ≠ none) → (∀ a, E.C a → B' a) → (∀ p ∈ raw, H' p.1 = some p.2) → (∀ q ∈ dat, Rep E.cl B' q.1 q.2 H') → Y i H' x H'' → LeC E H' H'' ∧ Rep E.cl B' d x H'') →
      R J H2) : WI (Fam E) tg it σ H R :=
  wi_of (fun X hX => fam_Kw hX (r := fun K => iList K (WE (Fam E) it)) (pi_list (we_pe hX))) (h B γ σ H er _ fun r v H2 ⟨xs, hr0, hpi⟩ l1 rv => by
    subst hr0
    obtain ⟨p, vs, rfl, hb, hp, hr⟩ := re_lst rv
    exact ⟨p, rfl, ⟨vs, .inl (.inl hp)⟩, ei_list_aux er.cb (fun z => hb (er.cb _ z)) (fun _ => hb) hp hr (q xs hpi) l1⟩)
/-- for over a list of which not all is told -/
theorem sv_forP {τ : Type} (c : τ → D) (Pi : List τ → Prop) (Inv : List τ → Nat → Ds → Prop) {td : τ → List (Nat × Ent)} {body : List Stmt} (hi : EVP E it δ (fun r => ∃ xs : List τ, r = .d (.lst (xs.map c)) ∧ Pi xs)) (h0 : ∀ xs, Pi xs → Inv xs 0 δ) (hg : ∀ xs, Pi xs → ∀ d ∈ xs, EG E tg (.d (c d)) (td d))
    (step : ∀ xs, Pi xs → ∀ (i : Nat) d δ', xs[i]? = some d → Inv xs i δ' → SV E B B body (setAll δ' (td d)) { nx := Inv xs (i + 1), ct := Inv xs (i + 1), bk := fun _ => False, rt := Ω.rt }) (hd : ∀ xs, Pi xs → ∀ δ', Inv xs xs.length δ' → SV E B Bo ss δ' Ω)
    (hs : ∀ env x, foldedSetIterable it env x = pure x := by intro _ _; rfl) : SV E B Bo (.For tg it body [] pos :: ss) δ Ω := fun γ σ H er D s => by
  refine wss_then (ws_of (fun X hX => ps_for (by rw [hX.xe]; exact PassesOwn.never) hX.calm (wi_pi hX) (wg_pg hX) (wss_pss hX) (hs _)) (ei_listP hi B γ σ H er _ fun xs hp J H2 raw dat G Y l1 hraw hdat w hG hY => ?_))
  have er1 := er.step l1
  have up : ∀ {δ' σ' H'}, ER E B δ' ⟨raw ++ γ.raw, dat ++ γ.dat⟩ σ' H' → ER E B δ' γ σ' H' := fun h => ⟨h.le, h.dom, h.sub, h.cb, h.cw, h.tabs, h.at_, h.len, fun p hp => h.gr p (List.mem_append_right _ hp), fun q hq => h.gd q (List.mem_append_right _ hq)⟩
  refine for_it w (fun i σ' H' => ∃ δ', ER E B δ' ⟨raw ++ γ.raw, dat ++ γ.dat⟩ σ' H' ∧ Inv xs i δ') ⟨δ, ⟨er1.le, er1.dom, er1.sub, er1.cb, er1.cw, er1.tabs, er1.at_, er1.len, fun p hp => ?_, fun q hq => ?_⟩, h0 xs hp⟩ (fun i σ' H' _ ⟨δ', er', _⟩ => hG H' fun p hp => (er'.gr p (List.mem_append_left _ hp)).2.2.2)
    (fun i x σ' H' H'' hi' ⟨δ', er', inv⟩ hy => ?_) (fun σ' H' ⟨δ', er', inv⟩ => hd xs hp δ' (by rw [List.length_map] at inv; exact inv) γ σ' H' (up er') D s)
  · rcases List.mem_append.mp hp with hp | hp
    · exact ⟨(hraw p hp).1, (hraw p hp).2.1 rfl, (hraw p hp).2.2.1, (hraw p hp).2.2.2⟩
    · exact er1.gr p hp
  · rcases List.mem_append.mp hq with hq | hq
    · exact hdat q hq
    · exact er1.gd q hq
  · have hix : i < xs.length := by rw [List.length_map] at hi'; exact hi'
    have hdx : xs[i]? = some xs[i] := List.getElem?_eq_getElem hix
    have hd' : (xs.map c)[i]? = some (c xs[i]) := by rw [List.getElem?_map, hdx]; rfl
    obtain ⟨l3, rx⟩ := hY i (c xs[i]) B H' x H'' hd' er'.dom er'.cb (fun p hp => (er'.gr p (List.mem_append_left _ hp)).2.2.2) (fun q hq => er'.gd q (List.mem_append_left _ hq)) hy
    refine hg xs hp _ (List.getElem_mem hix) B δ' _ σ' H'' x (er'.step l3) rx _ fun σ2 H3 l4 er2 _ _ => ?_
    exact step xs hp i xs[i] δ' hdx inv _ σ2 H3 er2 _ ⟨fun δ2 σ2 H2 e2 q => ⟨δ2, e2, q⟩, s.rt, fun _ _ _ _ q => q.elim, fun δ2 σ2 H2 e2 q => ⟨δ2, e2, q⟩⟩
end
theorem putD_new {s : Str} {y : D} : ∀ {ks : List Str} {l : List D}, ks.length = l.length → s ∉ ks → putD ks l s y = (ks ++ [s], l ++ [y])
  | [], [], _, _ => rfl
  | k :: ks, d :: l, hl, hs => by
    have hk : k ≠ s := fun e => hs (by simp [e])
    show (if k = s then _ else _) = _
    rw [if_neg hk, putD_new (ks := ks) (l := l) (by simpa using hl) (fun h => hs (by simp [h]))]
    rfl
  | [], _ :: _, h, _ => by cases h
  | _ :: _, [], h, _ => by cases h
/-! heights -/
/-- a def that makes a lambda -/
structure Dl (g : Glob) (x : Str) (st : Stmt) (ps : List Str) : Prop where
  ex : ∃ (f : Addr) (fd : FuncData) (c P : Addr), FunC g.K x x (defArgs st) (defBody st) (defScope st) f fd c ∧ g.mg x = some (.ref f) ∧ PySem.W.keepIn g.K (.ref f) = true ∧ Binds g.K fd ps [] ∧
    LamX.TabB g.base g.mg c P ∧ (P, (x ++ ".<locals>.") ++ "<lambda>") ∈ g.T ∧ ∀ p ∈ g.T, p.1 = P → p.2 = (x ++ ".<locals>.") ++ "<lambda>"
structure HtA where
  U : List Str
  R : Str → List Str
  h : Str → Nat
structure OkHt (a : HtA) : Prop where
  nd : a.U.Nodup
  few : a.U.length ≤ 12
  sub : ∀ y ∈ a.U, ∀ x ∈ a.R y, x ∈ a.U
  len : ∀ y ∈ a.U, (a.R y).length ≤ 12
  dec : ∀ y ∈ a.U, ∀ x ∈ a.R y, (a.R x).length < (a.R y).length
  zero : ∀ y ∈ a.U, a.R y = [] → a.h y = 0
  some : ∀ y ∈ a.U, a.R y ≠ [] → ∃ x ∈ a.R y, a.h y = a.h x + 1
  most : ∀ y ∈ a.U, ∀ x ∈ a.R y, a.h x + 1 ≤ a.h y
def htD (ks : List Str) (h : Str → Nat) : D := .dct ks (ks.map fun p => .int (h p : Nat))
theorem scHt : FnScope ["earlier", "found", "peg", "other"] ["earlier"] (defScope (top 38)) := ⟨rfl, rfl, rfl, by decide +kernel, rfl, by decide +kernel, by decide +kernel⟩
def spHt (g : Glob) : Sp := spP g (α := HtA) (fun a => [rowsD a.U a.R]) OkHt (fun a d => ∃ ks, ks.Perm a.U ∧ d = htD ks a.h)
theorem early {a : HtA} (ok : OkHt a) {ks : List Str} (hp : ks.Perm a.U) (hs : ks.Pairwise fun x y => (a.R x).length ≤ (a.R y).length) {i : Nat} {p x : Str} (hi : ks[i]? = some p) (hx : x ∈ a.R p) : x ∈ ks.take i := by
  have pm : p ∈ a.U := hp.subset (List.mem_of_getElem? hi)
  have xm : x ∈ ks := hp.symm.subset (ok.sub p pm x hx)
  obtain ⟨j, hj, e⟩ := List.mem_iff_getElem.mp xm
  obtain ⟨hi', ei⟩ := List.getElem?_eq_some_iff.mp hi
  have hlt := ok.dec p pm x hx
  have hji : j < i := by
    refine Classical.byContradiction fun hn => ?_
    by_cases e2 : j = i
    · subst e2
      rw [e] at ei
      rw [ei] at hlt
      omega
    · have := List.pairwise_iff_getElem.mp hs i j hi' hj (by omega)
      rw [ei, e] at this
      omega
  exact List.mem_iff_getElem.mpr ⟨j, by rw [List.length_take]; omega, by rw [List.getElem_take]; exact e⟩
section
variable {g : Glob}
theorem fn_ht (F : Dl g "heights" (top 38) ["earlier"]) (b : Bi g) : Fn g 2 "heights" (spHt g) := by
  obtain ⟨f, fd, c, P, F, hm, kp, hb, TB, tab, un⟩ := F.ex
  refine ⟨f, fd, _, ok_PL (k := 1) F scHt (fun a => rfl) (by decide) fun B0 H0 a ok => ?_, hm, kp, hb⟩
  refine sv_new 1 (by rfl) (.inr (by rfl)) en_dct (by rfl) fun q d hd nB ap => ?_
  subst hd
  refine sv_forP D.str (fun ks => ks.Perm a.U ∧ ks.Pairwise fun x y => (a.R x).length ≤ (a.R y).length) (fun ks i δ' => ∃ x, δ' = [some (.d (rowsD a.U a.R)), some (.own q (htD (ks.take i) a.h)), x, none]) (td := fun p => [(2, .d (.str p))])
    ((evp_sortLen (ks := a.U) (dk := a.U) (dl := a.U.map fun p => sL (a.R p)) (i := 0) (dn := "earlier") (y := "own") (x := .non) (fun k => (a.R k).map D.str) ⟨rfl, TB, tab, un, ⟨rfl, rfl, rfl, by decide +kernel, by decide +kernel, by decide +kernel, by decide +kernel, by rfl⟩, fun env => rfl, rfl, by decide, by decide, by decide⟩ (fun _ _ _ _ _ _ => rfl) (by rfl) b.len (by rfl) b.sorted (EV.wk (ev_listD (ks := a.U) (EV.wk (x := rowsD a.U a.R) (vr 0)) (by rfl) b.list)) (by rfl) (fun k hk => lookD_map hk) (by have := ok.few; omega)).imp fun r ⟨ks, e, hp, hs⟩ => ⟨ks, e, hp, by simpa using hs⟩)
    (fun ks hk => ⟨none, rfl⟩) (fun ks hk d hd => eg_name 2 rfl (.inl rfl)) ?_ ?_
  · rintro ks ⟨hp, hs⟩ i p δ' hi ⟨x, rfl⟩
    have pm : p ∈ a.U := hp.subset (List.mem_of_getElem? hi)
    have nd : ks.Nodup := hp.symm.nodup ok.nd
    have hz := ok.len p pm
    have hkl : ks.length ≤ 12 := by rw [hp.length_eq]; exact ok.few
    refine sv_dput 1 (P := fun d => d = .int (a.h p : Nat)) (by rfl) (.inr (.inl (by rfl))) (by rfl) (.inr rfl) (by trivial) (by rw [List.length_take]; omega) (nd.sublist (List.take_sublist _ _)) (vr 2) ((evp_maxD (l := (a.R p).map fun x => ((a.h x + 1 : Nat) : Int)) (n := 0) ((ev_lc0 (td := fun o => [(3, .d (.str o))]) (a.R p) D.str (fun x => .int ((a.h x + 1 : Nat) : Int)) [("other", 3)] (ei_list (l := (a.R p).map D.str) (ev_dget (ks := a.U) (l := a.U.map fun p => sL (a.R p)) (EV.wk (x := rowsD a.U a.R) (vr 0)) (vr 2) (lookD_map pm) (by exact fun _ _ => rfl))).weak (by omega) (blkOk_by (by kernel_rfl)) (fun d hd => eg_name 3 rfl (.inl rfl)) (fun d hd q hq => by simp at hq; subst hq; simp) (fun o ho => ?_)).eqd (by rw [List.map_map]; rfl)) ev_int (by rfl) b.max).imp ?_) fun d hd => ?_
    · exact (ev_add (ev_dget (ks := ks.take i) (l := (ks.take i).map fun p => .int (a.h p : Nat)) (EV.wko (x := htD (ks.take i) a.h) (vr 1)) (vr 3) (lookD_map (early ok hp hs hi ho)) (by exact fun _ _ => rfl)) ev_int).eqd (by congr 1)
    · rintro r ⟨m, rfl, hm⟩
      refine ⟨_, rfl, ?_⟩
      congr 1
      rcases hm with ⟨h1, h2⟩ | ⟨h1, h2⟩
      · rw [h2, ok.zero p pm (List.map_eq_nil_iff.mp h1)]; rfl
      · obtain ⟨y, hy, e⟩ := List.mem_map.mp h1
        have hne : a.R p ≠ [] := fun z => by rw [z] at hy; cases hy
        obtain ⟨x0, hx0, e0⟩ := ok.some p pm hne
        have m1 := ok.most p pm y hy
        have m2 := h2 _ (List.mem_map.mpr ⟨x0, hx0, rfl⟩)
        omega
    · subst hd
      refine sv_end ⟨some (.d (.str p)), ?_⟩
      have hnot : p ∉ ks.take i := nodup_at nd hi
      rw [putD_new (by simp) hnot]
      have e : htD (ks.take (i + 1)) a.h = .dct (ks.take i ++ [p]) ((ks.take i).map (fun p => D.int (a.h p : Nat)) ++ [.int (a.h p : Nat)]) := by
        unfold htD
        rw [take_succ_at hi, List.map_append]
        rfl
      rw [e]
      rfl
  · rintro ks ⟨hp, hs⟩ δ' ⟨x, rfl⟩
    rw [List.take_length]
    exact sv_reto (vr 1) ⟨ks, hp, rfl⟩
end
end Nb
set_option Elab.async false
set_option linter.all false
set_option maxRecDepth 100000
set_option maxHeartbeats 2000000
namespace Nb
open PySem PySem.Spec PyProof.Rows L2
section
variable {g : Glob}
/-! rounds -/
def topH (U : List Str) (h : Str → Nat) : Nat := U.foldr (fun p m => max (h p + 1) m) 0
theorem topH_le {U : List Str} {h : Str → Nat} : ∀ p ∈ U, h p + 1 ≤ topH U h := by
  induction U with
  | nil => intro p hp; cases hp
  | cons x U ih =>
    intro p hp
    show _ ≤ max (h x + 1) (topH U h)
    rcases List.mem_cons.mp hp with e | e
    · subst e; omega
    · have := ih p e; omega
theorem topH_at {U : List Str} {h : Str → Nat} (hne : U ≠ []) : ∃ p ∈ U, topH U h = h p + 1 := by
  induction U with
  | nil => exact absurd rfl hne
  | cons x U ih =>
    by_cases e : U = []
    · subst e; exact ⟨x, by simp, by show max (h x + 1) 0 = _; omega⟩
    · obtain ⟨p, hp, e2⟩ := ih e
      show ∃ q ∈ x :: U, max (h x + 1) (topH U h) = h q + 1
      by_cases c : h x + 1 ≤ topH U h
      · exact ⟨p, by simp [hp], by omega⟩
      · exact ⟨x, by simp, by omega⟩
theorem topH_eq {U ks : List Str} {h : Str → Nat} (hp : ks.Perm U) {m : Int} (hm : (ks.map (fun p => ((h p + 1 : Nat) : Int)) = [] ∧ m = 0) ∨ (m ∈ ks.map (fun p => ((h p + 1 : Nat) : Int)) ∧ ∀ k ∈ ks.map (fun p => ((h p + 1 : Nat) : Int)), k ≤ m)) : m = (topH U h : Nat) := by
  rcases hm with ⟨h1, h2⟩ | ⟨h1, h2⟩
  · have e : ks = [] := List.map_eq_nil_iff.mp h1
    subst e
    rw [List.nil_perm.mp hp, h2]
    rfl
  · obtain ⟨p, hpk, e⟩ := List.mem_map.mp h1
    have pU := hp.subset hpk
    have hne : U ≠ [] := fun z => by rw [z] at pU; cases pU
    obtain ⟨q, hq, e2⟩ := topH_at (h := h) hne
    have l1 := topH_le (h := h) p pU
    have l2 := h2 _ (List.mem_map.mpr ⟨q, hp.symm.subset hq, rfl⟩)
    omega
def roundsOf (U t : List Str) (h : Str → Nat) : List (List Tn) := (List.range (topH U h)).map fun i => (U.filter fun p => decide (h p = i)).map (turnOf t)
structure RnA where
  b : Bd
  s : List Str
  t : List Str
  h : Str → Nat
def RnA.ht (a : RnA) : HtA := ⟨unlike a.b a.s a.t, earlier a.b a.s a.t, a.h⟩
def spRounds (g : Glob) : Sp := spP g (α := RnA) (fun a => [stD a.b a.s, stD a.b a.t]) (fun a => OkBd a.b ∧ OkHt a.ht ∧ topH (unlike a.b a.s a.t) a.h ≤ 12) (fun a d => d = rsT (roundsOf (unlike a.b a.s a.t) a.t a.h))
theorem scRounds : FnScope ["a", "b", "earlier", "found", "many", "height", "at", "peg"] ["a", "b"] (defScope (top 39)) := ⟨rfl, rfl, rfl, by decide +kernel, rfl, by decide +kernel, by decide +kernel⟩
theorem fn_rounds (F : Df g "rounds" (top 39)) (b : Bi g) (h1 : Fn g 5 "earlier_pegs" (spEarlier g)) (h2 : Fn g 2 "heights" (spHt g)) (h3 : Fn g 3 "turn_of" (spTof g)) : Fn g 6 "rounds" (spRounds g) := by
  refine F.fn scRounds (fun _ _ _ _ _ _ us hl => match us, hl with | [_, _], _ => rfl) (fun a => rfl) (by decide) fun B0 H0 a ⟨ok, ht, hm⟩ => ?_
  obtain ⟨bd, s, t, h⟩ := a
  dsimp only at ok hm
  have hz := unlike_len ok s t
  refine sv_set 2 (r := .d (rowsD (unlike bd s t) (earlier bd s t))) (by rfl) (.inr (by rfl)) (ev_call (α := STwo) ⟨bd, s, t⟩ h1 of_E kk (by rfl) (ea_cons (vr 0) (ea_1 (vr 1))) ok (fun d' h => h)) ?_
  refine sv_setP 3 (P := fun r => ∃ ks : List Str, ks.Perm (unlike bd s t) ∧ r = .d (htD ks h)) (by rfl) (.inr (by rfl)) (evp_call (α := HtA) h2 of_E kk (by rfl) ((ea_1 (vr 2)).toP ⟨(RnA.mk bd s t h).ht, rfl, ht, fun d ⟨ks, hp, e⟩ => ⟨ks, hp, by rw [e]; rfl⟩⟩)) fun r ⟨ks, hp, hr⟩ => ?_
  subst hr
  have hkl : ks.length ≤ 12 := by rw [hp.length_eq]; exact hz
  refine sv_setP 4 (P := fun r => r = .d (.int (topH (unlike bd s t) h : Nat))) (by rfl) (.inl (by rfl)) ((evp_maxD (l := ks.map fun p => ((h p + 1 : Nat) : Int)) (n := 0) (ev_lock 3 (ks := ks) (l := ks.map fun p => .int (h p : Nat)) (by rfl) fun q H0' => (ev_lc0 (td := fun p => [(5, .d (.int (h p : Nat)))]) ks (fun p => D.int (h p : Nat)) (fun p => .int ((h p + 1 : Nat) : Int)) [("height", 5)] (ei_values (vr 3)) (by omega) (blkOk_by (by kernel_rfl)) (fun d hd => eg_name 5 rfl (.inl rfl)) (fun d hd q hq => by simp at hq; subst hq; simp) (fun o ho => (ev_add (vr 5) ev_int).eqd (by congr 1))).eqd (by rw [List.map_map]; rfl)) ev_int (by rfl) b.max).imp fun r ⟨m, e, hm⟩ => by rw [e, topH_eq hp hm]) fun r hr => ?_
  subst hr
  refine sv_retd ((ev_tupleL (EV.wk (ev_lc0 (td := fun i => [(6, .d (.int (0 + (i : Nat))))]) (List.range (topH (unlike bd s t) h)) (fun i => .int (0 + (i : Nat))) (fun i => tsT (((unlike bd s t).filter fun p => decide (h p = i)).map (turnOf t))) [("at", 6)] (EI.weak (EI.eq (ei_range1 (vr 4) (by omega) (by rfl) b.range) ?_)) (by rw [List.length_range]; omega) (blkOk_by (by kernel_rfl)) (fun d hd => eg_name 6 rfl (.inr rfl)) (fun d hd q hq => by simp at hq; subst hq; simp) (fun i hi => ?_))) (by rfl) b.tuple).eqd ?_) rfl
  · rw [Int.toNat_natCast]; rfl
  · refine (ev_tupleL (EV.wk (ev_lock 2 (ks := unlike bd s t) (l := (unlike bd s t).map fun p => sL (earlier bd s t p)) (by rfl) fun q H0' => ev_lc1 (td := fun p => [(7, .d (.str p))]) (unlike bd s t) D.str (fun p => decide (h p = i)) (fun p => tnD (turnOf t p)) [("peg", 7)] (ei_keys (vr 2)) (by omega) (blkOk_by (by kernel_rfl)) (fun d hd => eg_name 7 rfl (.inl rfl)) (fun d hd q hq => by simp at hq; subst hq; simp) (fun p hpU => ?_) (fun p hpU _ => ?_))) (by rfl) b.tuple).eqd ?_
    · refine (et_eq (ev_dget (ks := ks) (l := ks.map fun p => .int (h p : Nat)) (EV.wk (x := htD ks h) (vr 3)) (vr 7) (lookD_map (hp.symm.subset hpU)) (by exact fun _ _ => rfl)) (vr 6)).eqb ?_
      simp only [eqD]
      simp
      omega
    · exact ev_call (α := PgA) ⟨p, bd, t⟩ h3 of_E.blk.at.blk kk (by rfl) (ea_cons (vr 7) (ea_1 (vr 1))) trivial (fun d' h => h)
    · show D.tup _ = D.tup _
      rw [List.map_map]
      rfl
  · show D.tup _ = D.tup _
    unfold roundsOf
    rw [List.map_map]
    rfl
end
section
variable {E : EC} {B Bo : Addr → Prop} {δ : Ds} {Ω : Post} {ss : List Stmt} {a b : Expr} {pos : Pos}
/-- y, z = a, b where not both names are plain locals: by way of a tuple -/
theorem sv_parC {P R : (Addr → Prop) → (Addr → Prop) → Ent → Prop} (i j : Nat) {y z : Str} {py pz pt : Pos} {kt k2 : Nat} {pt2 : Pos} (hi : E.N[i]? = some y) (hj : E.N[j]? = some z) (hx : Loc E.sc y) (hx2 : Loc E.sc z) (ha : EM E a δ P) (hb : EM E b δ R)
    (k : ∀ B1 r B2 r2, P B B1 r → R B1 B2 r2 → SV E B2 Bo ss ((δ.set i (some r)).set j (some r2)) Ω)
    (hw : ∀ env : Env, env.scope = E.sc → swappedStores [.Tuple [.Name y py, .Name z pz] kt pt] (.Tuple [a, b] k2 pt2) env = pure none)
    (hf1 : E.fn y = true ∨ E.sc.names.lookup y = some .local := by first | exact .inl rfl | exact .inr rfl) (hf2 : E.fn z = true ∨ E.sc.names.lookup z = some .local := by first | exact .inl rfl | exact .inr rfl)
    (hs : ∀ env, swapsWithSole [.Tuple [.Name y py, .Name z pz] kt pt] (.Tuple [a, b] k2 pt2) pos.line env = pure false := by intro _; rfl)
    (h1 : ∀ env, starEach [a, b] env = (false, eval a env) :: starEach [b] env := by intro _; rfl) (h2 : ∀ env, starEach [b] env = (false, eval b env) :: starEach [] env := by intro _; rfl) :
    SV E B Bo (.Assign [.Tuple [.Name y py, .Name z pz] kt pt] (.Tuple [a, b] k2 pt2) pos :: ss) δ Ω := fun γ σ H er D s => by
  refine wss_then (ws_of (fun X hX => ps_asg (pe_tup (pa_cons (we_pe hX) (pa_cons (we_pe hX) pa_nil (h2 _)) (h1 _))) (by
    have := pg_tup (pos := pt) (k := kt) hX.calm (pgs_cons (pg_name (pos := py) hX.nd (by rw [hX.N]; exact hi) (by rw [hX.sc]; exact hx) (by rw [hX.fn, hX.sc]; exact hf1)) (pgs_cons (pg_name (pos := pz) hX.nd (by rw [hX.N]; exact hj) (by rw [hX.sc]; exact hx2) (by rw [hX.fn, hX.sc]; exact hf2)) pgs_nil rfl) rfl) (n := 2) rfl rfl
    rw [hX.K] at this
    exact this) (hs _) (hw _ hX.sc) rfl) ?_)
  refine ha B γ σ H er _ fun B1 r v H1 hp l rv => hb B1 γ σ H1 (l.er _ _ _ er) _ fun B2 r2 v2 H2 hp2 l2 rv2 => ?_
  have er2 := l2.er _ _ _ (l.er _ _ _ er)
  refine ⟨by show 2 ≤ sizeLine; rw [sizeLine_eq]; decide, fun T hT => ?_⟩
  have l3 : LeC E H2 (upd H2 T (.tup [v, v2])) := LeC.new hT
  refine ⟨T, [v, v2], rfl, .inl (.inl upd_same), rfl, ?_⟩
  refine ⟨v, [v2], rfl, ?_⟩
  refine ⟨v2, [], rfl, ?_⟩
  exact ⟨rfl, k B1 r B2 r2 hp hp2 γ _ _ (((er2.step l3).set i ((l2.re _ _ rv).step l3 er2.cb)).set j (rv2.step l3 er2.cb)) D s⟩
end
end Nb
set_option Elab.async false
set_option linter.all false
set_option maxRecDepth 100000
set_option maxHeartbeats 2000000
namespace Nb
open PySem PySem.Spec PyProof.Rows L2
theorem sw_noneC {y z : Str} {py pz pt : Pos} {kt k2 : Nat} {pt2 : Pos} {a b : Expr} {env : Env} (hy : env.scope.names.lookup y = some .cell) (ha : (match a with | .Starred .. => true | _ => false) = false) (hb : (match b with | .Starred .. => true | _ => false) = false) :
    swappedStores [.Tuple [.Name y py, .Name z pz] kt pt] (.Tuple [a, b] k2 pt2) env = pure none := by
  have ky : env.kindOf y = some .cell := hy
  unfold swappedStores
  simp only [List.length_cons, List.length_nil, List.filterMap_cons, List.filterMap_nil, ky]
  simp only [show ((some NameKind.cell : Option NameKind) == some NameKind.local) = false from rfl, Bool.false_and, Bool.false_eq_true, if_false]
  split
  · rfl
  · split
    · rfl
    · split
      · rfl
      · rfl
theorem topH_perm {U ks : List Str} {h : Str → Nat} (hp : ks.Perm U) : topH ks h = topH U h := by
  by_cases e : U = []
  · subst e; rw [List.perm_nil.mp hp]
  · have e2 : ks ≠ [] := fun z => e (by rw [z] at hp; exact List.nil_perm.mp hp)
    obtain ⟨p, h1, h2⟩ := topH_at (h := h) e
    obtain ⟨q, h3, h4⟩ := topH_at (h := h) e2
    have l1 := topH_le (h := h) p (hp.symm.subset h1)
    have l2 := topH_le (h := h) q (hp.subset h3)
    omega
theorem topH_row {a : HtA} (ok : OkHt a) {p : Str} (hp : p ∈ a.U) : topH (a.R p) a.h = a.h p := by
  by_cases e : a.R p = []
  · rw [ok.zero p hp e, e]; rfl
  · obtain ⟨x, hx, hx2⟩ := ok.some p hp e
    obtain ⟨y, hy, hy2⟩ := topH_at (h := a.h) e
    have l1 := topH_le (h := a.h) x hx
    have l2 := ok.most p hp y hy
    omega
section
variable {g : Glob}
theorem scChain : FnScope ["a", "b", "earlier", "found", "chain", "left", "last"] ["a", "b"] (defScope (top 40)) := ⟨rfl, rfl, rfl, by decide +kernel, rfl, by decide +kernel, by decide +kernel⟩
def spChain (g : Glob) : Sp := spP g (α := RnA) (fun a => [stD a.b a.s, stD a.b a.t]) (fun a => OkBd a.b ∧ OkHt a.ht ∧ topH (unlike a.b a.s a.t) a.h ≤ 12) (fun a d => ∃ l : List Str, d = sT l ∧ l.length = topH (unlike a.b a.s a.t) a.h)
theorem fn_chain (F : Dl g "longest_chain" (top 40) ["a", "b"]) (b : Bi g) (h1 : Fn g 5 "earlier_pegs" (spEarlier g)) (h2 : Fn g 2 "heights" (spHt g)) : Fn g 6 "longest_chain" (spChain g) := by
  obtain ⟨f, fd, c, P, F, hm, kp, hb, TB, tab, un⟩ := F.ex
  refine ⟨f, fd, _, ok_PL (k := 5) F scChain (fun a => rfl) (by decide) fun B0 H0 a ⟨ok, ht, hmany⟩ => ?_, hm, kp, hb⟩
  obtain ⟨bd, s, t, h⟩ := a
  dsimp only at ok hmany
  have hz := unlike_len ok s t
  refine sv_set 2 (r := .d (rowsD (unlike bd s t) (earlier bd s t))) (by rfl) (.inl (by rfl)) (ev_call (α := STwo) ⟨bd, s, t⟩ h1 of_EL kk (by rfl) (ea_cons (vr 0) (ea_1 (vr 1))) ok (fun d' h => h)) ?_
  refine sv_parC 3 4 (by rfl) (by rfl) (.inr (by rfl)) (.inl (by rfl)) (EVP.toM (P := fun r => ∃ ks : List Str, ks.Perm (unlike bd s t) ∧ r = .d (htD ks h)) (evp_call (α := HtA) h2 of_EL kk (by rfl) ((ea_1 (vr 2)).toP ⟨(RnA.mk bd s t h).ht, rfl, ht, fun d ⟨ks, hp, e⟩ => ⟨ks, hp, by rw [e]; rfl⟩⟩))) (EN.toM en_nil (by rfl)) (fun B1 r B2 r2 hp1 hp2 => ?_) (fun env he => sw_noneC (by rw [he]; rfl) rfl rfl)
  obtain ⟨e1, ks, hp, hr⟩ := hp1
  obtain ⟨q, d, e2, nB, ap, hr2, hd⟩ := hp2
  subst e1; subst e2; subst hr; subst hr2; subst hd
  have hkl : ks.length ≤ 12 := by rw [hp.length_eq]; exact hz
  refine sv_set 5 (r := .d (sL ks)) (by rfl) (.inl (by rfl)) (ev_listD (ks := ks) (EV.wk (x := htD ks h) (vr 3)) (by rfl) b.list) ?_
  refine sv_while (fun m δ' => ∃ (L ch : List Str) (x : Option Ent), δ' = [some (.d (stD bd s)), some (.d (stD bd t)), some (.d (rowsD (unlike bd s t) (earlier bd s t))), some (.d (htD ks h)), some (.own q (.lst (ch.map D.str))), some (.d (sL L)), x] ∧ (∀ p ∈ L, p ∈ unlike bd s t) ∧ m = topH L h ∧ ch.length + topH L h = topH (unlike bd s t) h)
    ⟨topH ks h, ks, [], none, rfl, fun p hpk => hp.subset hpk, rfl, by rw [topH_perm hp]; simp⟩ ?_
  rintro m δ' ⟨L, ch, x, rfl, hL, rfl, hlen⟩
  refine ⟨!(L.map D.str).isEmpty, et_seq (l := L.map D.str) (EV.wk (x := sL L) (vr 5)) rfl, fun hc => ?_, fun hc => ?_⟩
  · have hne : L ≠ [] := fun z => by rw [z] at hc; cases hc
    refine sv_setP 6 (P := fun r => ∃ k : Str, r = .d (.str k) ∧ k ∈ L ∧ ∀ k' ∈ L, ((h k' : Nat) : Int) ≤ (h k : Nat)) (by rfl) (.inl (by rfl)) (evp_maxGet (ks := L) (dk := ks) (dl := ks.map fun p => .int (h p : Nat)) (i := 3) (dn := "found") (y := "peg") (x := .non) (fun k => ((h k : Nat) : Int)) ⟨rfl, TB, tab, un, ⟨rfl, rfl, rfl, by decide +kernel, by decide +kernel, by decide +kernel, by decide +kernel, by rfl⟩, fun env => rfl, rfl, by decide, by decide, by decide⟩ (fun _ _ _ _ _ _ => rfl) (by rfl) b.max (EV.wk (x := sL L) (vr 5)) (by rfl) (fun k hk => lookD_map (hp.symm.subset (hL k hk))) hne) fun r ⟨k, hr, hkL, hmax⟩ => ?_
    subst hr
    have hkU := hL k hkL
    have htop : topH L h = h k + 1 := by
      obtain ⟨p, h3, h4⟩ := topH_at (h := h) hne
      have l1 := topH_le (h := h) k hkL
      have l2 := hmax p h3
      omega
    have hrow : topH (earlier bd s t k) h = h k := topH_row ht hkU
    refine sv_append 4 (P := fun d => d = .str k) (by rfl) (.inl (by rfl)) (by rfl) (.inr rfl) (by trivial) (by rw [List.length_map]; omega) (EV.pd (vr 6)) fun d hd => ?_
    subst hd
    refine sv_set 5 (r := .d (sL (earlier bd s t k))) (by rfl) (.inl (by rfl)) (ev_dget (ks := unlike bd s t) (l := (unlike bd s t).map fun p => sL (earlier bd s t p)) (EV.wk (x := rowsD (unlike bd s t) (earlier bd s t)) (vr 2)) (vr 6) (lookD_map hkU) (by exact fun _ _ => rfl)) ?_
    refine sv_end ⟨h k, by rw [htop]; omega, earlier bd s t k, ch ++ [k], some (.d (.str k)), ?_, fun p hpk => ht.sub k hkU p hpk, hrow.symm, ?_⟩
    · rw [List.map_append]; rfl
    · rw [List.length_append, hrow]; simp; omega
  · have hL0 : L = [] := by
      cases L with
      | nil => rfl
      | cons p L => cases hc
    subst hL0
    refine sv_retd (d := sT ch.reverse) ((ev_tupleL (EV.wk (ev_revL (l := ch.map D.str) (EV.wko (vr 4)))) (by rfl) b.tuple).eqd (by rw [← List.map_reverse]; rfl)) ⟨ch.reverse, rfl, ?_⟩
    rw [List.length_reverse]
    simpa [topH] using hlen
end
end Nb
set_option Elab.async false
set_option linter.all false
set_option maxRecDepth 100000
set_option maxHeartbeats 2000000
namespace Nb
open PySem PySem.Spec PyProof.Rows L2
section
variable {g : Glob} {x : Str} {st : Stmt} {k : Nat} {N ps : List Str} {α : Type} {args : α → List D} {pre : α → Prop} {post : α → D → Prop}
theorem Df.fnB (F : Df g x st) (S : FnScope N ps (defScope st)) (hb : bindsTo x x st ps) (hl : ∀ a, (args a).length + 1 = ps.length) (hN : ps.length ≤ N.length)
    (body : ∀ (B0 : Addr → Prop) (H0 : Hp) (b : Addr) (a : α), pre a → B0 b → SV (g.E k N (defScope st) B0 (fun x => x = b) (fun x => x = b) H0) B0 B0 (defBody st) (some (.box b) :: slots (args a) (N.length - ps.length)) { rt := post a, nx := fun _ => post a .non }) : Fn g (k + 1) x (spB g args pre post) := by
  obtain ⟨f, fd, F, hm⟩ := F.ex
  exact ⟨f, fd, ps, ok_B F S hl hN body, hm, F.kp, F.bindsN hb⟩
end
section
variable {g : Glob}
/-! _law_take -/
theorem scTake : FnScope ["_law_box_here", "_law_many", "_law_digit", "_law_one"] ["_law_box_here", "_law_many"] (defScope (top 70)) := ⟨rfl, rfl, rfl, by decide +kernel, rfl, by decide +kernel, by decide +kernel⟩
def spTake (g : Glob) : Sp := spB g (α := Nat) (fun n => [.int n]) (fun n => 1 ≤ n ∧ n ≤ 100000) (fun n d => ∃ i : Nat, d = .int i ∧ i < n)
theorem fn_take (F : Df g "_law_take" (top 70)) : Fn g 1 "_law_take" (spTake g) := by
  refine F.fnB scTake (fun _ _ _ _ _ _ us hl => match us, hl with | [_, _], _ => rfl) (fun a => rfl) (by decide) fun B0 H0 b n ⟨h1, h2⟩ hb => ?_
  have hj : (0 : Int) < (n : Nat) := by omega
  have fin : ∀ (r : Ent), (∃ i, r = .d (.int i) ∧ 0 ≤ i ∧ i < ((n : Nat) : Int)) → Back (g.E 0 ["_law_box_here", "_law_many", "_law_digit", "_law_one"] (defScope (top 70)) B0 (fun x => x = b) (fun x => x = b) H0) (fun d => ∃ i : Nat, d = .int i ∧ i < n) r := by
    rintro r ⟨i, e, h3, h4⟩
    exact .inl ⟨_, e, i.toNat, by rw [Int.toNat_of_nonneg h3], by omega⟩
  refine sv_ifU (etu_gt (j := 0) (evp_boxix (b0 := b) (vr 0) ev_int (.inl rfl)) ev_int) ?_ (sv_end ?_)
  · refine sv_setP 2 (by rfl) (.inl (by rfl)) (evp_modU (evp_boxix (b0 := b) (vr 0) ev_int (.inl rfl)) (vr 1) hj) fun r hr => ?_
    refine sv_boxset 0 (b0 := b) (i := 0) (by rfl) (.inl (by rfl)) (by rfl) rfl ev_int (.inl rfl) (evp_fdivU (evp_boxix (b0 := b) (vr 0) ev_int (.inl rfl)) (vr 1) ⟨by omega, by omega⟩) ?_
    exact sv_ret ((vr 2 : EV _ _ _ r).toP (fin r hr))
  · refine sv_boxset 0 (b0 := b) (i := 2) (by rfl) (.inl (by rfl)) (by rfl) rfl ev_int (.inr (.inr rfl)) (evp_addU (evp_boxix (b0 := b) (vr 0) ev_int (.inr (.inr rfl))) (ev_int.toP ⟨_, rfl⟩)) ?_
    refine sv_setP 3 (P := anyInt) (by rfl) (.inl (by rfl)) ((evp_modU (evp_mulU (evp_addU (evp_boxix (b0 := b) (vr 0) ev_int (.inr (.inl rfl))) (evp_mulU2 ev_int (evp_boxix (b0 := b) (vr 0) ev_int (.inr (.inr rfl))) (by decide))) ev_int (by decide)) ev_int (by decide)).imp fun r ⟨i, e, _⟩ => ⟨i, e⟩) fun r hr => ?_
    refine sv_boxset 0 (b0 := b) (i := 1) (by rfl) (.inl (by rfl)) (by rfl) rfl ev_int (.inr (.inl rfl)) (evp_addU ((evp_modU (evp_addU (evp_mulU ((vr 3 : EV _ _ _ r).toP hr) ev_int (by decide)) (ev_int.toP ⟨_, rfl⟩)) ev_int (by decide)).imp fun r ⟨i, e, _⟩ => ⟨i, e⟩) (ev_int.toP ⟨_, rfl⟩)) ?_
    exact sv_ret ((evp_modU (evp_fdivU (evp_addU (evp_mulU ((vr 3 : EV _ _ _ r).toP hr) ev_int (by decide)) (evp_boxix (b0 := b) (vr 0) ev_int (.inr (.inl rfl)))) ev_int (by decide)) (vr 1) hj).imp fin)
end
end Nb
set_option Elab.async false
set_option linter.all false
set_option maxRecDepth 100000
set_option maxHeartbeats 2000000
namespace Nb
open PySem PySem.Spec PyProof.Rows L2
theorem sw_two {y z : Str} {py pz pt : Pos} {kt k2 : Nat} {pt2 : Pos} {a b : Expr} {env : Env} (hk : env.scope.kind = .function) (hy : env.scope.names.lookup y = some .local) (hz : env.scope.names.lookup z = some .local) (hl : (pz.line == py.line) = true) (hne : [y, z].eraseDups.length = 2)
    (hst : ([a, b].any fun | .Starred .. => true | _ => false) = false) (hf : [a, b].all (foldedForSure 8) = false) (hc : [a, b].all (constantsAlone 8) = false) :
    swappedStores [.Tuple [.Name y py, .Name z pz] kt pt] (.Tuple [a, b] k2 pt2) env = pure (some [y, z]) := by
  have ky : env.kindOf y = some .local := hy
  have kz : env.kindOf z = some .local := hz
  have hb : env.blockKind = .function := by unfold Env.blockKind; rw [hk]; rfl
  unfold swappedStores
  have e1 : ((some NameKind.local : Option NameKind) == some NameKind.local) = true := rfl
  have e2 : (py.line == py.line) = true := by simp
  have e3 : ((Expr.Name y py).pos.line) = py.line := rfl
  simp only [List.length_cons, List.length_nil, hb, List.filterMap_cons, List.filterMap_nil, ky, kz, List.head?_cons, Option.map_some, Option.getD_some, e1, e3, e2, hl, hf, hc, Bool.true_and, if_true, Bool.false_eq_true, if_false, hne]
  rw [if_neg (by decide)]
  split
  · rename_i h
    exact absurd (Eq.trans (Eq.symm hst) h) (by decide)
  · rfl
theorem okDs_iff {n : Nat} : ∀ {l : List D}, okDs n l = true ↔ ∀ x ∈ l, okD n x = true
  | [] => by simp [okDs]
  | d :: l => by
    have := okDs_iff (n := n) (l := l)
    simp [okDs, this]
section
variable {g : Glob}
/-! _law_mixed -/
theorem scMixed : FnScope ["_law_box_here", "_law_things", "_law_left", "_law_found"] ["_law_box_here", "_law_things"] (defScope (top 71)) := ⟨rfl, rfl, rfl, by decide +kernel, rfl, by decide +kernel, by decide +kernel⟩
structure MxA where
  t : Bool
  l : List D
def mxD (t : Bool) (l : List D) : D := if t then .tup l else .lst l
def spMixed (g : Glob) : Sp := spB g (α := MxA) (fun a => [mxD a.t a.l]) (fun a => a.l.length ≤ 999 ∧ okDs 8 a.l = true) (fun a d => ∃ l, d = .lst l ∧ l.Perm a.l)
theorem erase_perm {α : Type} {d : α} : ∀ {l : List α} {n : Nat}, l[n]? = some d → (d :: l.eraseIdx n).Perm l
  | [], n, h => by simp at h
  | x :: l, 0, h => by
    have : x = d := by simpa using h
    subst this
    exact .refl _
  | x :: l, n + 1, h => by
    have ih := erase_perm (l := l) (n := n) (by simpa using h)
    rw [List.eraseIdx_cons_succ]
    exact (List.Perm.swap _ _ _).trans (ih.cons x)
theorem perm_move {α : Type} {f l : List α} {n : Nat} {d : α} (h : l[n]? = some d) : (f ++ [d] ++ l.eraseIdx n).Perm (f ++ l) := by
  rw [List.append_assoc]
  exact List.Perm.append_left f (erase_perm h)
theorem fn_mixed (F : Df g "_law_mixed" (top 71)) (b : Bi g) (h1 : Fn g 1 "_law_take" (spTake g)) : Fn g 2 "_law_mixed" (spMixed g) := by
  refine F.fnB scMixed (fun _ _ _ _ _ _ us hl => match us, hl with | [_, _], _ => rfl) (fun a => rfl) (by decide) fun B0 H0 bx a ⟨hz, hok⟩ hb => ?_
  obtain ⟨t, l⟩ := a
  dsimp only at hz hok
  have hsq : seqOf (mxD t l) = some l := by cases t <;> rfl
  refine sv_par 2 3 (by rfl) (by rfl) (by rfl) (by rfl) (EN.toM (en_list (x := mxD t l) (l := l) (EV.wk (vr 1) (by cases t <;> rfl)) hsq (by rfl) b.list) (by cases t <;> rfl)) (EN.toM en_nil (by cases t <;> rfl)) (fun B1 r B2 r2 hp1 hp2 => ?_) (by decide) (fun env he => sw_two (by rw [he]; rfl) (by rw [he]; rfl) (by rw [he]; rfl) (by rfl) (by decide +kernel) (by rfl) (by decide +kernel) (by decide +kernel))
  obtain ⟨q, d, e1, nB, ap, hr, hd⟩ := hp1
  obtain ⟨q2, d2, e2, nB2, ap2, hr2, hd2⟩ := hp2
  subst e1; subst e2; subst hr; subst hr2; subst hd; subst hd2
  have hne : q2 ≠ q := fun z => nB2 (.inr z)
  refine sv_while (fun m δ' => ∃ left found : List D, δ' = [some (.box bx), some (.d (mxD t l)), some (.own q (.lst left)), some (.own q2 (.lst found))] ∧ m = left.length ∧ (found ++ left).Perm l) ⟨l.length, l, [], rfl, rfl, by simp⟩ ?_
  rintro m δ' ⟨left, found, rfl, rfl, hp⟩
  have hlen : found.length + left.length = l.length := by rw [← List.length_append]; exact hp.length_eq
  have okl : okD 9 (.lst left) = true := by
    show okDs 8 left = true
    exact okDs_iff.mpr fun x hx => okDs_iff.mp hok x (hp.subset (List.mem_append_right _ hx))
  refine ⟨!left.isEmpty, et_neD (x := .lst left) (y := .lst []) 9 9 (EV.wko (vr 2)) (EV.wk (x := .lst []) (ev_lst (ds := []) ea_nil (by simp))) okl rfl (by cases left <;> simp), fun hc => ?_, fun hc => ?_⟩
  · have hne0 : left ≠ [] := fun z => by rw [z] at hc; cases hc
    have hpos : 0 < left.length := List.length_pos_iff.mpr hne0
    refine sv_pop 3 2 (by decide) (by rfl) (.inl (by rfl)) (by rfl) (.inr rfl) (by rfl) (.inl (by rfl)) (by rfl) (.inl (.inr rfl)) ⟨hne, trivial⟩ (fun m' => ⟨Ne.symm hne, trivial⟩) (by omega) (by omega) (evp_callB (b := bx) h1 of_E (fun z => Iff.rfl) kk (by rfl) (EA.toP (ea_cons (vr 0) (ea_1 (ev_len (x := .lst left) (l := left) (EV.wko (vr 2)) rfl (by rfl) b.len))) ⟨left.length, rfl, ⟨by omega, by omega⟩, fun d ⟨i, e, hi⟩ => ⟨i, by rw [e], by omega, by omega⟩⟩)) fun n d hd => ?_
    refine sv_end ⟨left.length - 1, by omega, left.eraseIdx n, found ++ [d], rfl, ?_, ?_⟩
    · have := (List.getElem?_eq_some_iff.mp hd).1
      rw [List.length_eraseIdx_of_lt this]
    · exact (perm_move hd).trans hp
  · have h0 : left = [] := by
      cases left with
      | nil => rfl
      | cons x l => cases hc
    subst h0
    exact sv_reto (vr 3) ⟨found, rfl, by simpa using hp⟩
end
end Nb
set_option Elab.async false
set_option linter.all false
set_option maxRecDepth 100000
set_option maxHeartbeats 2000000
namespace Nb
open PySem PySem.Spec PyProof.Rows L2
section
variable {g : Glob}
theorem okD_ones {α : Type} (l : List α) : okD 2 (.lst (l.map fun _ => D.int 1)) = true := okDs_map (n := 1) fun x _ => by simp [okD]
theorem ones_nil {α : Type} {l : List α} : D.lst (l.map fun _ => D.int 1) = .lst [] ↔ l = [] := by simp
theorem filter_nil_any {α : Type} {l : List α} {p : α → Bool} : l.filter p = [] ↔ l.any p = false := by
  rw [List.filter_eq_nil_iff, List.any_eq_false]
/-! _law_is_barred -/
theorem scLBar : FnScope ["_law_row", "_law_other", "_law_blocks", "_law_a", "_law_b"] ["_law_row", "_law_other", "_law_blocks"] (defScope (top 74)) := ⟨rfl, rfl, rfl, by decide +kernel, rfl, by decide +kernel, by decide +kernel⟩
def psL (ps : List (Str × Str)) : D := .lst (ps.map pD)
def spLBar (g : Glob) : Sp := spP g (α := List Str × List Str × List (Str × Str)) (fun s => [sT s.1, sT s.2.1, psL s.2.2]) (fun s => s.2.2.length ≤ 1000) (fun s d => d = .bl (barredIn s.1 s.2.1 s.2.2))
theorem fn_lbar (F : Df g "_law_is_barred" (top 74)) : Fn g 1 "_law_is_barred" (spLBar g) := by
  refine F.fn scLBar (fun _ _ _ _ _ _ us hl => match us, hl with | [_, _, _], _ => rfl) (fun a => rfl) (by decide) fun B0 H0 s hs => ?_
  obtain ⟨r, o, bars⟩ := s
  refine sv_retd (d := .bl (barredIn r o bars)) ((ev_neD (c := !(barredIn r o bars)) (y := .lst []) 2 2 (EV.wk (ev_lc1 (td := fun c => [(3, .d (.str c.1)), (4, .d (.str c.2))]) bars pD (fun q => (decide (q.1 ∈ r) && decide (q.2 ∈ o)) || (decide (q.2 ∈ r) && decide (q.1 ∈ o))) (fun _ => .int 1) [("_law_a", 3), ("_law_b", 4)] (ei_list (l := bars.map pD) (vr 2)).weak hs (blkOk_by (by kernel_rfl)) (fun d hd => eg_two 3 4 (by rfl) (by rfl) (.inl (by rfl)) (.inl (by rfl))) (fun d hd q hq => by simp at hq; rcases hq with rfl | rfl <;> simp) (fun d hd => ?_) (fun d hd _ => ev_int))) (EV.wk (x := .lst []) (ev_lst (ds := []) ea_nil (by simp))) (okD_ones _) rfl ?_).eqb (by simp)) rfl
  · exact EWt.t (ew_or (EWt.t (ew_and (et_in (vr 3) (EV.wk (x := sT r) (vr 0)) rfl) fun _ => ew_and1 (et_in (vr 4) (EV.wk (x := sT o) (vr 1)) rfl))) fun _ => ew_or1 (EWt.t (ew_and (et_in (vr 4) (EV.wk (x := sT r) (vr 0)) rfl) fun _ => ew_and1 (et_in (vr 3) (EV.wk (x := sT o) (vr 1)) rfl))))
  · rw [ones_nil, filter_nil_any]
    unfold barredIn
    simp
/-! _law_is_stand -/
def partsD (s : Parts) : D := .tup [sT s.pegs, psT s.needs, psT s.bars, iT s.costs]
def isStand (s : Parts) (row : List Str) : Bool := !(s.needs.any fun q => decide (q.1 ∈ row) && !decide (q.2 ∈ row)) && !(s.bars.any fun q => decide (q.1 ∈ row) && decide (q.2 ∈ row))
structure LsA where
  s : Parts
  t : Bool
  row : List Str
theorem scLSt : FnScope ["_law_parts_here", "_law_row", "_law_peg", "_law_needed", "_law_a", "_law_b"] ["_law_parts_here", "_law_row"] (defScope (top 77)) := ⟨rfl, rfl, rfl, by decide +kernel, rfl, by decide +kernel, by decide +kernel⟩
def spLSt (g : Glob) : Sp := spP g (α := LsA) (fun a => [partsD a.s, sQ a.t a.row]) (fun a => a.s.needs.length ≤ 1000 ∧ a.s.bars.length ≤ 1000) (fun a d => d = .bl (isStand a.s a.row))
theorem fn_lst (F : Df g "_law_is_stand" (top 77)) : Fn g 1 "_law_is_stand" (spLSt g) := by
  refine F.fn scLSt (fun _ _ _ _ _ _ us hl => match us, hl with | [_, _], _ => rfl) (fun a => rfl) (by decide) fun B0 H0 a ⟨z1, z2⟩ => ?_
  obtain ⟨s, t, row⟩ := a
  dsimp only at z1 z2
  refine sv_ifR (cc := s.needs.any fun q => decide (q.1 ∈ row) && !decide (q.2 ∈ row)) ((et_neD (c := !(s.needs.any fun q => decide (q.1 ∈ row) && !decide (q.2 ∈ row))) (y := .lst []) 2 2 (EV.wk (ev_lc1 (td := fun c => [(2, .d (.str c.1)), (3, .d (.str c.2))]) s.needs pD (fun q => decide (q.1 ∈ row) && !decide (q.2 ∈ row)) (fun _ => .int 1) [("_law_peg", 2), ("_law_needed", 3)] (ei_tup (l := s.needs.map pD) (ev_ixT (l := [sT s.pegs, psT s.needs, psT s.bars, iT s.costs]) (EV.wk (x := partsD s) (vr 0)) ev_int (by rfl))).weak z1 (blkOk_by (by kernel_rfl)) (fun d hd => eg_two 2 3 (by rfl) (by rfl) (.inl (by rfl)) (.inl (by rfl))) (fun d hd q hq => by simp at hq; rcases hq with rfl | rfl <;> simp)
    (fun d hd => EWt.t (ew_and (et_in (vr 2) (EV.wkQ (t := t) (vr 1)) seqOf_sQ) fun _ => ew_and1 (et_ni (vr 3) (EV.wkQ (t := t) (vr 1)) seqOf_sQ))) (fun d hd _ => ev_int))) (EV.wk (x := .lst []) (ev_lst (ds := []) ea_nil (by simp))) (okD_ones _) rfl ?_).eqb (by simp)) (fun h => ?_) (fun h => ?_)
  · rw [ones_nil, filter_nil_any]
    simp
  · exact sv_retd ev_bl (by show _ = D.bl (isStand s row); unfold isStand; rw [h]; rfl)
  · refine sv_retd (d := .bl (isStand s row)) ((ev_eqD (c := !(s.bars.any fun q => decide (q.1 ∈ row) && decide (q.2 ∈ row))) (y := .lst []) 2 2 (EV.wk (ev_lc1 (td := fun c => [(4, .d (.str c.1)), (5, .d (.str c.2))]) s.bars pD (fun q => decide (q.1 ∈ row) && decide (q.2 ∈ row)) (fun _ => .int 1) [("_law_a", 4), ("_law_b", 5)] (ei_tup (l := s.bars.map pD) (ev_ixT (l := [sT s.pegs, psT s.needs, psT s.bars, iT s.costs]) (EV.wk (x := partsD s) (vr 0)) ev_int (by rfl))).weak z2 (blkOk_by (by kernel_rfl)) (fun d hd => eg_two 4 5 (by rfl) (by rfl) (.inl (by rfl)) (.inl (by rfl))) (fun d hd q hq => by simp at hq; rcases hq with rfl | rfl <;> simp)
      (fun d hd => EWt.t (ew_and (et_in (vr 4) (EV.wkQ (t := t) (vr 1)) seqOf_sQ) fun _ => ew_and1 (et_in (vr 5) (EV.wkQ (t := t) (vr 1)) seqOf_sQ))) (fun d hd _ => ev_int))) (EV.wk (x := .lst []) (ev_lst (ds := []) ea_nil (by simp))) (okD_ones _) rfl ?_).eqb (by unfold isStand; rw [h]; rfl)) rfl
    rw [ones_nil, filter_nil_any]
    simp
/-! _law_board -/
theorem scLBd : FnScope ["_law_parts_here"] ["_law_parts_here"] (defScope (top 76)) := ⟨rfl, rfl, rfl, by decide +kernel, rfl, by decide +kernel, by decide +kernel⟩
def spLBd (g : Glob) : Sp := spP g (α := Parts) (fun s => [partsD s]) OkParts (fun s d => d = (mkBd s).d)
theorem fn_lbd (F : Df g "_law_board" (top 76)) (h1 : MakK g 4 "Board" 1 ["needs", "bars", "costs"] (spBdInit g)) : Fn g 6 "_law_board" (spLBd g) := by
  refine F.fn scLBd (fun _ _ _ _ _ _ us hl => match us, hl with | [_], _ => rfl) (fun a => rfl) (by decide) fun B0 H0 s ok => ?_
  have ix : ∀ (i : Int) (y : D), atI [sT s.pegs, psT s.needs, psT s.bars, iT s.costs] i = some y → ∀ {p1 p2 p3 : Pos} {j : Nat}, EV (g.E 5 ["_law_parts_here"] (defScope (top 76)) B0 no no H0) (.Subscript (.Name "_law_parts_here" p1) (.Constant (.int i) j p2) p3) (slots [partsD s] 0) (.d y) := fun i y h _ _ _ _ =>
    ev_ixT (l := [sT s.pegs, psT s.needs, psT s.bars, iT s.costs]) (EV.wk (x := partsD s) (vr 0)) ev_int h
  refine sv_retd (EVP.toV (evp_makeK (α := Parts) (ds := [sT s.pegs]) (zs := [psT s.needs, psT s.bars, iT s.costs]) s h1 of_E kk (by rfl) (ea_1 (ix 0 _ (by rfl))) (ek_cons (ix 1 _ (by rfl)) (ek_cons (ix 2 _ (by rfl)) (ek_cons (ix 3 _ (by rfl)) ek_nil))) rfl rfl rfl ok (fun fs l ⟨e1, e2⟩ => by rw [e1, e2]; rfl))) rfl
end
end Nb
set_option Elab.async false
set_option linter.all false
set_option maxRecDepth 100000
set_option maxHeartbeats 2000000
namespace Nb
open PySem PySem.Spec PyProof.Rows L2
theorem len_le_of {α : Type} [DecidableEq α] : ∀ {l m : List α}, l.Nodup → (∀ x ∈ l, x ∈ m) → l.length ≤ m.length
  | [], m, _, _ => Nat.zero_le _
  | a :: l, m, nd, h => by
    have nd' := List.nodup_cons.mp nd
    have ha : a ∈ m := h a (by simp)
    have ih := len_le_of (l := l) (m := m.erase a) nd'.2 fun x hx => (List.mem_erase_of_ne (fun e : x = a => nd'.1 (by rw [← e]; exact hx))).mpr (h x (by simp [hx]))
    rw [List.length_erase_of_mem ha] at ih
    have := List.length_pos_of_mem ha
    simp only [List.length_cons]
    omega
def RowOk (pegs : List Str) (R : Str → List Str) : Prop := ∀ p ∈ pegs, (R p).Nodup ∧ ∀ x ∈ R p, x ∈ pegs
def lawStep (R : Str → List Str) (q : Str × Str) : Str → List Str := fun p => if p = q.1 then R q.1 ++ (R q.2).filter (fun o => !decide (o ∈ R q.1)) else R p
theorem RowOk.step {pegs : List Str} {R : Str → List Str} (h : RowOk pegs R) {q : Str × Str} (h1 : q.1 ∈ pegs) (h2 : q.2 ∈ pegs) : RowOk pegs (lawStep R q) := by
  intro p hp
  unfold lawStep
  by_cases e : p = q.1
  · rw [if_pos e]
    refine ⟨?_, fun x hx => ?_⟩
    · rw [List.nodup_append]
      refine ⟨(h q.1 h1).1, (h q.2 h2).1.filter _, fun x hx y hy z => ?_⟩
      subst z
      have := (List.mem_filter.mp hy).2
      simp at this
      exact this hx
    · rcases List.mem_append.mp hx with hx | hx
      · exact (h q.1 h1).2 x hx
      · exact (h q.2 h2).2 x (List.mem_filter.mp hx).1
  · rw [if_neg e]; exact h p hp
theorem RowOk.len {pegs : List Str} {R : Str → List Str} (h : RowOk pegs R) {p : Str} (hp : p ∈ pegs) : (R p).length ≤ pegs.length := len_le_of (h p hp).1 (h p hp).2
theorem RowOk.start (pegs : List Str) : RowOk pegs fun p => [p] := fun p hp => ⟨by simp, fun x hx => by rw [List.mem_singleton.mp hx]; exact hp⟩
theorem RowOk.all {pegs : List Str} : ∀ {ws : List (Str × Str)} {R : Str → List Str}, RowOk pegs R → (∀ q ∈ ws, q.1 ∈ pegs ∧ q.2 ∈ pegs) → RowOk pegs (ws.foldl lawStep R)
  | [], R, h, _ => h
  | q :: ws, R, h, hw => RowOk.all (ws := ws) (h.step (hw q (by simp)).1 (hw q (by simp)).2) fun q' hq => hw q' (by simp [hq])
def lawTurn (ws : List (Str × Str)) (R : Str → List Str) : Nat → Str → List Str
  | 0 => R
  | n + 1 => ws.foldl lawStep (lawTurn ws R n)
theorem RowOk.turn {pegs : List Str} {ws : List (Str × Str)} (hw : ∀ q ∈ ws, q.1 ∈ pegs ∧ q.2 ∈ pegs) : ∀ n, RowOk pegs (lawTurn ws (fun p => [p]) n)
  | 0 => RowOk.start pegs
  | n + 1 => (RowOk.turn hw n).all hw
def lawRows (pegs : List Str) (ws : List (Str × Str)) (p : Str) : List Str := pegs.filter fun o => decide (o ∈ lawTurn ws (fun p => [p]) pegs.length p)
theorem putD_map {f : Str → D} {p : Str} {d : D} : ∀ {ks : List Str}, ks.Nodup → p ∈ ks → putD ks (ks.map f) p d = (ks, ks.map fun k => if k = p then d else f k)
  | [], _, h => by cases h
  | k :: ks, nd, h => by
    have nd' := List.nodup_cons.mp nd
    show (if k = p then (k :: ks, d :: ks.map f) else _) = _
    by_cases e : k = p
    · rw [if_pos e]
      have : (ks.map fun k => if k = p then d else f k) = ks.map f := List.map_congr_left fun x hx => if_neg (fun z : x = p => nd'.1 (by rw [e, ← z]; exact hx))
      rw [List.map_cons, if_pos e, this]
    · rw [if_neg e, putD_map (ks := ks) nd'.2 ((List.mem_cons.mp h).resolve_left fun z => e z.symm)]
      rw [List.map_cons, if_neg e]
section
variable {g : Glob}
theorem scLRow : FnScope ["_law_pegs", "_law_wants", "_law_found", "_law_turn", "_law_peg", "_law_needed", "_law_one"] ["_law_pegs", "_law_wants"] (defScope (top 73)) := ⟨rfl, rfl, rfl, by decide +kernel, rfl, by decide +kernel, by decide +kernel⟩
def spLRow (g : Glob) : Sp := spP g (α := List Str × List (Str × Str)) (fun a => [sL a.1, psL a.2]) (fun a => a.1.length ≤ 12 ∧ a.1.Nodup ∧ a.2.length ≤ 1000 ∧ ∀ q ∈ a.2, q.1 ∈ a.1 ∧ q.2 ∈ a.1) (fun a d => d = rowsT a.1 (lawRows a.1 a.2))
theorem fn_lrow (F : Df g "_law_rows" (top 73)) (b : Bi g) : Fn g 1 "_law_rows" (spLRow g) := by
  refine F.fn scLRow (fun _ _ _ _ _ _ us hl => match us, hl with | [_, _], _ => rfl) (fun a => rfl) (by decide) fun B0 H0 a ⟨few, nd, many, ins⟩ => ?_
  obtain ⟨pegs, ws⟩ := a
  dsimp only at few nd many ins
  refine sv_new 2 (by rfl) (.inr (by rfl)) (en_dictP pegs (fun p => p) (fun p => sL [p]) (ev_lc0 (td := fun p => [(4, .d (.str p))]) pegs D.str (fun p => .tup [.str p, sL [p]]) [("_law_peg", 4)] (ei_list (l := pegs.map D.str) (vr 0)).weak (by omega) (blkOk_by (by kernel_rfl)) (fun d hd => eg_name 4 rfl (.inl rfl)) (fun d hd q hq => by simp at hq; subst hq; simp) (fun d hd => ev_tup (ds := [.str d, sL [d]]) (ea_cons (vr 4) (ea_1 (ev_lst (ds := [.str d]) (ea_1 (vr 4)) (by simp)))) (by simp))) (by rw [List.map_id']; exact nd) (by rfl) b.dict) (by rfl) fun q d hd nB ap => ?_
  rw [List.map_id'] at hd
  subst hd
  refine sv_for (List.range pegs.length) (fun i => .int (0 + (i : Nat))) (fun i δ' => ∃ x y z, δ' = [some (.d (sL pegs)), some (.d (psL ws)), some (.own q (rowsD pegs (lawTurn ws (fun p => [p]) i))), x, y, z, none]) (td := fun i => [(3, .d (.int (0 + (i : Nat))))]) (EI.eq (ei_range1 (ev_len (x := sL pegs) (l := pegs.map D.str) (EV.wk (vr 0)) rfl (by rfl) b.len) (by simp; omega) (by rfl) b.range) (by simp [rngD])) ⟨none, none, none, rfl⟩ (fun d hd => eg_name 3 rfl (.inl rfl)) ?_ ?_
  · rintro i n δ' hn ⟨x, y, z, rfl⟩
    refine sv_for ws pD (fun j δ' => ∃ y z, δ' = [some (.d (sL pegs)), some (.d (psL ws)), some (.own q (rowsD pegs ((ws.take j).foldl lawStep (lawTurn ws (fun p => [p]) i)))), some (.d (.int (0 + (n : Nat)))), y, z, none]) (td := fun q => [(4, .d (.str q.1)), (5, .d (.str q.2))]) (ei_list (l := ws.map pD) (vr 1)) ⟨_, _, rfl⟩ (fun d hd => eg_two 4 5 (by rfl) (by rfl) (.inr (by rfl)) (.inl (by rfl))) ?_ ?_
    · rintro j w δ' hw ⟨y, z, rfl⟩
      obtain ⟨m1, m2⟩ := ins w (List.mem_of_getElem? hw)
      have rok : RowOk pegs ((ws.take j).foldl lawStep (lawTurn ws (fun p => [p]) i)) := (RowOk.turn ins i).all fun q hq => ins q (List.mem_of_mem_take hq)
      have nx : (ws.take (j + 1)).foldl lawStep (lawTurn ws (fun p => [p]) i) = lawStep ((ws.take j).foldl lawStep (lawTurn ws (fun p => [p]) i)) w := by rw [take_succ_at hw, List.foldl_append]; rfl
      rw [nx]
      generalize (ws.take j).foldl lawStep (lawTurn ws (fun p => [p]) i) = R at rok ⊢
      have l1 := rok.len m1
      have l2 := rok.len m2
      have l3 := List.length_filter_le (fun o => !decide (o ∈ R w.1)) (R w.2)
      refine sv_dput 2 (P := fun d => d = sL (R w.1 ++ (R w.2).filter fun o => !decide (o ∈ R w.1))) (by rfl) (.inr (.inl (by rfl))) (by rfl) (.inr rfl) (by trivial) (by omega) nd (vr 4) ((EV.eqd (ev_catL (l := (R w.1).map D.str) (m := ((R w.2).filter fun o => !decide (o ∈ R w.1)).map D.str) (EV.wk (ev_dget (d := sL (R w.1)) (ks := pegs) (l := pegs.map fun p => sL (R p)) (EV.wko (x := rowsD pegs R) (vr 2)) (vr 4) (lookD_map m1) (by exact fun _ _ => rfl))) (EV.wk (ev_lc1 (td := fun o => [(6, .d (.str o))]) (R w.2) D.str (fun o => !decide (o ∈ R w.1)) D.str [("_law_one", 6)] (ei_list (l := (R w.2).map D.str) (ev_dget (d := sL (R w.2)) (ks := pegs) (l := pegs.map fun p => sL (R p)) (EV.wko (x := rowsD pegs R) (vr 2)) (vr 5) (lookD_map m2) (by exact fun _ _ => rfl))).weak (by omega) (blkOk_by (by kernel_rfl)) (fun d hd => eg_name 6 rfl (.inl rfl)) (fun d hd q hq => by simp at hq; subst hq; simp) (fun o ho => et_ni (ss := R w.1) (vr 6) (EV.wk (x := sL (R w.1)) (ev_dget (ks := pegs) (l := pegs.map fun p => sL (R p)) (EV.wko (x := rowsD pegs R) (vr 2)) (vr 4) (lookD_map m1) (by exact fun _ _ => rfl))) rfl) (fun o ho _ => vr 6))) (by rw [List.length_map, List.length_map]; omega)) (by rw [← List.map_append]; rfl)).pd) fun d hd => ?_
      subst hd
      refine sv_end ⟨some (.d (.str w.1)), some (.d (.str w.2)), ?_⟩
      rw [putD_map nd m1]
      have e : rowsD pegs (lawStep R w) = .dct pegs (pegs.map fun k => if k = w.1 then sL (R w.1 ++ (R w.2).filter fun o => !decide (o ∈ R w.1)) else sL (R k)) := by
        unfold rowsD lawStep
        congr 1
        refine List.map_congr_left fun k hk => ?_
        by_cases e : k = w.1
        · rw [if_pos e, if_pos e]
        · rw [if_neg e, if_neg e]
      rw [e]
      rfl
    · rintro δ' ⟨y, z, rfl⟩
      rw [List.take_length]
      exact sv_end ⟨_, _, _, rfl⟩
  · rintro δ' ⟨x, y, z, rfl⟩
    rw [List.length_range]
    refine sv_retd (EN.toE ((en_dictP pegs (fun p => p) (fun p => sT (lawRows pegs ws p)) (ev_lc0 (td := fun p => [(4, .d (.str p))]) pegs D.str (fun p => .tup [.str p, sT (lawRows pegs ws p)]) [("_law_peg", 4)] (ei_list (l := pegs.map D.str) (vr 0)).weak (by omega) (blkOk_by (by kernel_rfl)) (fun d hd => eg_name 4 rfl (.inr rfl)) (fun d hd q hq => by simp at hq; subst hq; simp) (fun p hp => ev_tup (ds := [.str p, sT (lawRows pegs ws p)]) (ea_cons (vr 4) (ea_1 (ev_tupleL (EV.wk (ev_lc1 (td := fun o => [(6, .d (.str o))]) pegs D.str (fun o => decide (o ∈ lawTurn ws (fun p => [p]) pegs.length p)) D.str [("_law_one", 6)] (ei_list (l := pegs.map D.str) (vr 0)).weak (by omega) (blkOk_by (by kernel_rfl)) (fun d hd => eg_name 6 rfl (.inl rfl)) (fun d hd q hq => by simp at hq; subst hq; simp) (fun o ho => et_in (ss := lawTurn ws (fun p => [p]) pegs.length p) (vr 6) (EV.wk (x := sL (lawTurn ws (fun p => [p]) pegs.length p)) (ev_dget (ks := pegs) (l := pegs.map fun p => sL (lawTurn ws (fun p => [p]) pegs.length p)) (EV.wko (x := rowsD pegs (lawTurn ws (fun p => [p]) pegs.length)) (vr 2)) (vr 4) (lookD_map hp) (by exact fun _ _ => rfl))) rfl) (fun o ho _ => vr 6))) (by rfl) (by exact b.tuple)))) (by simp))) (by rw [List.map_id']; exact nd) (by rfl) b.dict).imp fun d hd => by rw [hd, List.map_id']; rfl)) rfl
end
end Nb
set_option Elab.async false
set_option linter.all false
set_option maxRecDepth 100000
set_option maxHeartbeats 2000000
namespace Nb
open PySem PySem.Spec PyProof.Rows L2
section
variable {E : EC} {δ : Ds} {tg it elt : Expr} {ifs : List Expr} {scope : Scope} {own : List (Str × Nat)} {τ : Type} {c : τ → D} {pos : Pos} {Pi : List τ → Prop}
/-- a comprehension over a list of which not all is told -/
theorem lc_readP {td : τ → List (Nat × Ent)} {t : τ → Bool} {Pf : τ → D → Prop} (hi : EVP E it δ (fun r => ∃ xs : List τ, r = .d (.lst (xs.map c)) ∧ Pi xs)) (hz : ∀ xs, Pi xs → xs.length ≤ 1000)
    (hg : ∀ xs, Pi xs → ∀ d ∈ xs, EG (E.blk scope) tg (.d (c d)) (td d)) (hown : ∀ xs, Pi xs → ∀ d ∈ xs, ∀ q ∈ td d, q.1 ∈ own.map (·.2))
    (ht : ∀ xs, Pi xs → ∀ d ∈ xs, ETs (E.blk scope) ifs (setAll (wipeD δ (own.map (·.2))) (td d)) (t d))
    (he : ∀ xs, Pi xs → ∀ d ∈ xs, t d = true → EVP (E.blk scope) elt (setAll (wipeD δ (own.map (·.2))) (td d)) (fun r => ∃ y, r = .d y ∧ Pf d y))
    {B : Addr → Prop} {γ : Gh} {σ : L2.St} {H : Hp} (er : ER E B δ γ σ H) {Q : VK} (q : ∀ xs, Pi xs → ∀ p m vs H2, H p = none → LeC E H H2 → Made Pf t xs m → H2 p = some (.lst vs) → Reps E.cl (fun a => B a ∨ a = p) m vs H2 → Q (.ref p) H2) :
    tLc (WI (Fam E) tg it) (WG (Fam (E.blk scope)) tg) (WTs (Fam (E.blk scope)) ifs) (WE (Fam (E.blk scope)) elt) (own.map (·.2)) σ H Q := by
  refine ei_listP hi B γ σ H er _ fun xs hpi J H2 raw dat G Y l1 hraw hdat w hG hY D hD => ?_
  have hz := hz xs hpi
  have hg := hg xs hpi
  have hown := hown xs hpi
  have ht := ht xs hpi
  have he := he xs hpi
  have er1 := er.step l1
  have key : ∀ H', LeC E H2 H' → H' D ≠ none → ER E (fun a => B a ∨ a = D) δ γ σ H' := fun H' l hn => er1.grow hD l hn
  have hrawD : ∀ p ∈ raw, p.1 ≠ D := fun p hp z => by
    have := (hraw p hp).2.2.2
    rw [z, hD] at this
    cases this
  refine lc_it w (fun i H' => LeC E H2 H' ∧ ∃ m vs, Made Pf t (xs.take i) m ∧ H' D = some (.lst vs) ∧ Reps E.cl (fun a => B a ∨ a = D) m vs H') ⟨LeC.new hD, [], [], .nil, upd_same, .nil⟩
    (fun i H' hi' ⟨l2, m, vs, _, hDv, _⟩ => hG H' fun p hp => l2.keep _ _ (hraw p hp).1 (hraw p hp).2.2.2 (hraw p hp).2.2.1) (fun i x H' H'' hi' ⟨l2, m, vs, hm, hDv, hmr⟩ hy => ?_) (fun H' ⟨l2, m, vs, hm, hDv, hmr⟩ => ?_)
  · have hix : i < xs.length := by rw [List.length_map] at hi'; exact hi'
    have hdx : xs[i]? = some xs[i] := List.getElem?_eq_getElem hix
    have hd : (xs.map c)[i]? = some (c xs[i]) := by rw [List.getElem?_map, hdx]; rfl
    have hmem : xs[i] ∈ xs := List.getElem_mem hix
    have erD := key H' l2 (by rw [hDv]; simp)
    have kd : Kd (fun a => B a ∨ a = D) B H2 H' := Le.kd l2 er.cb fun a ha hn => ha.elim (fun z => z) fun z => absurd hD (by rw [← z]; exact hn)
    obtain ⟨l3, rx⟩ := hY i (c xs[i]) (fun a => B a ∨ a = D) H' x H'' hd erD.dom erD.cb (fun p hp => l2.keep _ _ (hraw p hp).1 (hraw p hp).2.2.2 (hraw p hp).2.2.1) (fun z hz => Rep.kd kd _ _ (hdat z hz)) hy
    have erD2 := (erD.step l3).wipe (own.map (·.2))
    refine hg _ hmem _ _ _ _ _ _ (ER.blk erD2) rx _ fun σ2 H3 l4 er2 hk hlen => ⟨?_, ?_⟩
    · refine wipe_wipe (σ := σ) (fun j hj => ?_) (hlen.trans (wipe_length σ _)) |>.trans rfl
      have hk' := hk j fun z hz e => hj (by rw [← e]; exact hown _ hmem z hz)
      rw [hk']
      have : ∀ (τ : L2.St) (ws : List Nat), j ∉ ws → (L2.wipe τ ws)[j]? = τ[j]? := by
        intro τ ws
        induction ws with
        | nil => intro _; rfl
        | cons v ws ih =>
          intro h
          show ((L2.wipe τ ws).set v none)[j]? = _
          rw [List.getElem?_set_ne (fun e => h (by rw [e]; exact List.mem_cons_self)), ih fun z => h (List.mem_cons_of_mem _ z)]
      exact this σ _ hj
    · refine ht _ hmem _ _ _ _ er2 _ fun H4 l5 => ?_
      have er3 := er2.step l5
      have lall : LeC E H2 H4 := ((l2.trans l3).trans (show LeC E H'' H3 from l4)).trans (show LeC E H3 H4 from l5)
      have hl : xs.take (i + 1) = xs.take i ++ [xs[i]] := by rw [List.take_succ, hdx]; rfl
      have nC : ¬ E.C D := fun z => er1.dom D (er1.cb D z) hD
      have hD4 : H4 D = some (.lst vs) := ((l3.trans (show LeC E H'' H3 from l4)).trans (show LeC E H3 H4 from l5)).keep D _ nC hDv fun ps z => by cases z
      have hm4 : Reps E.cl (fun a => B a ∨ a = D) m vs H4 := Reps.kd (LeC.kd ((l3.trans (show LeC E H'' H3 from l4)).trans (show LeC E H3 H4 from l5)) erD.cb) _ _ hmr
      cases htd : t xs[i] with
      | false =>
        refine (if_neg Bool.false_ne_true).mpr ⟨lall, m, vs, ?_, hD4, hm4⟩
        rw [hl]
        exact hm.snoc_no htd
      | true =>
        refine (if_pos rfl).mpr (he _ hmem htd _ _ _ _ er3 _ fun r y H5 hr l6 ry => ?_)
        obtain ⟨d', rfl, hP⟩ := hr
        have l6' : LeC E H4 H5 := l6
        have hD5 : H5 D = some (.lst vs) := l6'.keep D _ nC hD4 fun ps z => by cases z
        have hlen' : vs.length ≤ 1000 := by
          rw [← hmr.len]
          refine Nat.le_trans hm.len (Nat.le_trans ?_ hz)
          rw [List.length_take]
          omega
        have k2 : Kd (fun a => B a ∨ a = D) (fun a => B a ∨ a = D) H5 (upd H5 D (.lst (vs ++ [y]))) := ⟨fun a _ h => h, fun a u nb _ r => by
          have ne : a ≠ D := fun z => nb (.inr z)
          rcases r with r | ⟨o, r⟩
          · exact .inl (by rw [upd_ne ne]; exact r)
          · exact .inr ⟨o, by rw [upd_ne ne]; exact r⟩, fun a u nb _ r => by
          have ne : a ≠ D := fun z => nb (.inr z)
          rw [upd_ne ne]; exact r⟩
        refine ⟨vs, hD5, small1000 hlen', ?_, m ++ [d'], vs ++ [y], by rw [hl]; exact hm.snoc_yes htd hP, upd_same, Reps.kd k2 _ _ (Reps.snoc (Reps.kd (LeC.kd l6' erD.cb) _ _ hm4) ry)⟩
        have lz := lall.trans l6'
        refine ⟨fun a o hw e n => ?_, fun a ha => ?_, fun tb => ?_, fun a hc h3 => ?_⟩
        · rw [upd_ne (fun z => by rw [z, hD] at e; cases e)]
          exact lz.keep a o hw e n
        · by_cases z : a = D
          · rw [z, upd_same]; simp
          · rw [upd_ne z]; exact lz.dom a ha
        · have tb5 := lz.tabs tb
          intro pp hpp
          obtain ⟨ps, h1, h2, h3⟩ := tb5 pp hpp
          have ne : ∀ (c : Addr) (o : HO), H5 c = some o → (∀ xs, o ≠ .lst xs) → c ≠ D := fun c o e hn z => by
            rw [z, hD5] at e
            exact hn vs (Option.some.inj e).symm
          refine ⟨ps, by rw [upd_ne (ne _ _ h1 fun xs z => by cases z)]; exact h1, h2, fun pos cv hcv => ?_⟩
          obtain ⟨c, e1, e2⟩ := h3 pos cv hcv
          exact ⟨c, e1, by rw [upd_ne (ne _ _ e2 fun xs z => by unfold LamX.CodeO at z; cases z)]; exact e2⟩
        · obtain ⟨x1, y1, z1, e⟩ := lz.box a hc h3
          exact ⟨x1, y1, z1, by rw [upd_ne (fun z => nC (by rw [← z]; exact hc))]; exact e⟩
  · rw [List.length_map, List.take_length] at hm
    exact q xs hpi D m vs H' (l1.fresh hD) (l1.trans l2) hm hDv hmr
theorem evp_lcP {td : τ → List (Nat × Ent)} (f : τ → D) (own : List (Str × Nat)) (hi : EVP E it δ (fun r => ∃ xs : List τ, r = .d (.lst (xs.map c)) ∧ Pi xs)) (hz : ∀ xs, Pi xs → xs.length ≤ 1000) (ok : BlkOk E.N E.sc scope own)
    (hg : ∀ xs, Pi xs → ∀ d ∈ xs, EG (E.blk scope) tg (.d (c d)) (td d)) (hown : ∀ xs, Pi xs → ∀ d ∈ xs, ∀ q ∈ td d, q.1 ∈ own.map (·.2))
    (he : ∀ xs, Pi xs → ∀ d ∈ xs, EV (E.blk scope) elt (setAll (wipeD δ (own.map (·.2))) (td d)) (.d (f d)))
    (hs : ∀ env x, foldedSetIterable it env x = pure x := by intro _ _; rfl) : EVP E (.ListComp elt [⟨tg, it, [], 0⟩] scope pos) δ (fun r => ∃ xs, Pi xs ∧ r = .d (.lst (xs.map f))) := fun B γ σ H er Q q =>
  we_of (t := tLc (WI (Fam E) tg it) (WG (Fam (E.blk scope)) tg) (WTs (Fam (E.blk scope)) []) (WE (Fam (E.blk scope)) elt) (own.map (·.2)))
    (fun X hX => pe_lc hX.calm hX.nd (wi_pi hX) (by rw [hX.N, hX.sc]; exact ok) (fun s H C cl fp => wg_pg (fam_blk hX scope s H C cl fp)) (fun s H C cl fp => wts_pts (fam_blk hX scope s H C cl fp)) (fun s H C cl fp => we_pe (fam_blk hX scope s H C cl fp)) (hs _))
    (lc_readP (Pf := fun d y => y = f d) (t := fun _ => true) hi hz hg hown (fun xs hp d hd => ets_nil) (fun xs hp d hd _ => (he xs hp d hd).toP ⟨_, rfl, rfl⟩) er fun xs hpi p m vs H2 hp l hm hv hr => q (.d (.lst m)) _ H2 ⟨xs, hpi, by
        have := hm.fn
        rw [List.filter_eq_self.mpr (fun _ _ => rfl)] at this
        rw [this]⟩ l (by
      simp only [RE, Rep]
      have k2 : Kd B (fun a => B a ∨ a = p) H2 H2 := ⟨fun a _ nb z => nb (.inl z), fun a u _ _ r => r, fun a u _ _ r => r⟩
      exact ⟨p, vs, rfl, fun z => er.dom p z hp, hv, Reps.kd k2 _ _ hr⟩))
end
/-- bit k of a mask, as the law reads it -/
def bit (m k : Nat) : Bool := decide (Builtin.bitAnd ((m : Int) / 2 ^ k) 1 = 1)
def spots (n m : Nat) : List Nat := (List.range n).filter fun k => bit m k
def pick (pegs : List Str) (ks : List Nat) : List Str := ks.map fun k => pegs.getD k Str.empty
theorem atI_nat {l : List D} {k : Nat} {d : D} (h : l[k]? = some d) : atI l (k : Nat) = some d := by
  have hk : k < l.length := (List.getElem?_eq_some_iff.mp h).1
  unfold atI ixN
  rw [if_pos (by omega), if_pos (by omega)]
  simpa using h
theorem peg_at {pegs : List Str} {k : Nat} (h : k < pegs.length) : (pegs.map D.str)[k]? = some (.str (pegs.getD k Str.empty)) := by
  rw [List.getElem?_map, List.getElem?_eq_getElem h]
  simp [List.getD, h]
theorem spots_lt {n m k : Nat} (h : k ∈ spots n m) : k < n := by
  have := (List.mem_filter.mp h).1
  simpa using this
theorem spots_len (n m : Nat) : (spots n m).length ≤ n := Nat.le_trans (List.length_filter_le _ _) (by simp)
def setsOf (s : Parts) : List (List Str) := ((List.range (2 ^ s.pegs.length)).map fun m => pick s.pegs (spots s.pegs.length m)).filter (isStand s)
section
variable {g : Glob}
theorem scSets : FnScope ["_law_parts_here", "_law_pegs", "_law_found", "_law_mask", "_law_spots", "_law_k", "_law_many"] ["_law_parts_here"] (defScope (top 79)) := ⟨rfl, rfl, rfl, by decide +kernel, rfl, by decide +kernel, by decide +kernel⟩
def spSets (g : Glob) : Sp := spP g (α := Parts) (fun s => [partsD s]) (fun s => s.pegs.length ≤ 8 ∧ s.needs.length ≤ 1000 ∧ s.bars.length ≤ 1000) (fun s d => ∃ l : List (List Str), d = .lst (l.map sT) ∧ l.Perm (setsOf s))
def maskI (s : Parts) (m : Nat) : Int × List Int := (((spots s.pegs.length m).length : Nat), (spots s.pegs.length m).map fun k => ((k : Nat) : Int))
end
end Nb
set_option Elab.async false
set_option linter.all false
set_option maxRecDepth 100000
set_option maxHeartbeats 2000000
namespace Nb
open PySem PySem.Spec PyProof.Rows L2
def kD (ks : List Nat) : D := .tup (ks.map fun k => .int (k : Nat))
def itD (r : Int × List Int) : D := .tup [.int r.1, .tup (r.2.map D.int)]
theorem kD_it (ks : List Nat) : kD ks = .tup ((ks.map fun k => ((k : Nat) : Int)).map D.int) := by unfold kD; rw [List.map_map]; rfl
section
variable {E : EC} {δ : Ds} {g : Glob}
theorem fn_sets (F : Df g "_law_sets" (top 79)) (b : Bi g) (h1 : Fn g 1 "_law_is_stand" (spLSt g)) : Fn g 2 "_law_sets" (spSets g) := by
  refine F.fn scSets (fun _ _ _ _ _ _ us hl => match us, hl with | [_], _ => rfl) (fun a => rfl) (by decide) fun B0 H0 s ⟨hz, z1, z2⟩ => ?_
  have h256 : 2 ^ s.pegs.length ≤ 256 := Nat.pow_le_pow_right (n := 2) (by decide) hz
  have hpw : (1 * (2 : Int) ^ s.pegs.length) = ((2 ^ s.pegs.length : Nat) : Int) := by rw [Int.one_mul]; simp
  refine sv_parC 1 2 (by rfl) (by rfl) (.inr (by rfl)) (.inl (by rfl)) (EV.toM (r := .d (sT s.pegs)) (ev_ixT (l := [sT s.pegs, psT s.needs, psT s.bars, iT s.costs]) (EV.wk (x := partsD s) (vr 0)) ev_int (by rfl))) (EN.toM en_nil (by rfl)) (fun B1 r B2 r2 hp1 hp2 => ?_) (fun env he => sw_noneC (by rw [he]; rfl) rfl rfl)
  obtain ⟨e1, hr⟩ := hp1
  obtain ⟨q, d, e2, nB, ap, hr2, hd⟩ := hp2
  subst e1; subst e2; subst hr; subst hr2; subst hd
  let ok : Nat → Bool := fun m => isStand s (pick s.pegs (spots s.pegs.length m))
  have hfl : ∀ i, ((List.range i).filter ok).length ≤ i := fun i => Nat.le_trans (List.length_filter_le _ _) (by simp)
  refine sv_for (List.range (2 ^ s.pegs.length)) (fun i => .int (0 + (i : Nat))) (fun i δ' => ∃ x y, δ' = [some (.d (partsD s)), some (.d (sT s.pegs)), some (.own q (.lst (((List.range i).filter ok).map fun m => itD (maskI s m)))), x, y, none, none]) (td := fun i => [(3, .d (.int (0 + (i : Nat))))]) (EI.eq (ei_range1 (ev_shl ev_int (ev_len (x := sT s.pegs) (l := s.pegs.map D.str) (EV.wk (vr 1)) rfl (by rfl) b.len) ⟨by omega, by simp; omega, by decide⟩) ?_ (by rfl) b.range) ?_) ⟨none, none, rfl⟩ (fun d hd => eg_name 3 rfl (.inr rfl)) ?_ ?_
  · rw [List.length_map, Int.toNat_natCast, hpw]
    generalize 2 ^ s.pegs.length = M at h256
    constructor <;> omega
  · rw [List.length_map, Int.toNat_natCast]
    unfold rngD
    rw [hpw, Int.toNat_natCast]
  · rintro i m δ' hm ⟨x, y, rfl⟩
    have him : m = i := by
      have := List.getElem?_eq_some_iff.mp hm
      obtain ⟨h1, h2⟩ := this
      simpa using h2.symm
    have hi : i < 2 ^ s.pegs.length := by
      have := (List.getElem?_eq_some_iff.mp hm).1
      simpa using this
    subst him
    refine sv_set 4 (r := .d (kD (spots s.pegs.length m))) (by rfl) (.inl (by rfl)) ((ev_tupleL (EV.wk (ev_lc1 (td := fun k => [(5, .d (.int (0 + (k : Nat))))]) (List.range s.pegs.length) (fun k => .int (0 + (k : Nat))) (fun k => bit m k) (fun k => .int (0 + (k : Nat))) [("_law_k", 5)] (EI.weak (EI.eq (ei_range1 (ev_len (x := sT s.pegs) (l := s.pegs.map D.str) (EV.wk (vr 1)) rfl (by rfl) b.len) (by simp; omega) (by rfl) b.range) (by simp [rngD]))) (by simp; omega) (blkOk_by (by kernel_rfl)) (fun d hd => eg_name 5 rfl (.inl rfl)) (fun d hd q hq => by simp at hq; subst hq; simp) (fun k hk => ?_) (fun k hk _ => vr 5))) (by rfl) b.tuple).eqd ?_) ?_
    · refine (et_eq (ev_band (ev_shr (vr 3) (vr 5) (by omega)) ev_int) ev_int).eqb ?_
      simp only [eqD, bit]
      rw [show ((0 : Int) + (k : Nat)).toNat = k by omega, Int.zero_add]
    · unfold kD spots
      simp
    · have hpk : (pick s.pegs (spots s.pegs.length m)) = (spots s.pegs.length m).map fun k => s.pegs.getD k Str.empty := rfl
      have hsl := spots_len s.pegs.length m
      refine sv_if (cc := ok m) (et_v (ev_call (α := LsA) ⟨s, false, pick s.pegs (spots s.pegs.length m)⟩ h1 of_E kk (by rfl) (ea_cons (vr 0) (ea_1 ((ev_lc0 (td := fun k => [(5, .d (.int (k : Nat)))]) (spots s.pegs.length m) (fun k => .int (k : Nat)) (fun k => .str (s.pegs.getD k Str.empty)) [("_law_k", 5)] (ei_tup (vr 4)).weak (by omega) (blkOk_by (by kernel_rfl)) (fun d hd => eg_name 5 rfl (.inl rfl)) (fun d hd q hq => by simp at hq; subst hq; simp) (fun k hk => ev_ixT (l := s.pegs.map D.str) (EV.wk (x := sT s.pegs) (vr 1)) (vr 5) (atI_nat (peg_at (spots_lt hk))))).eqd (by unfold pick sQ sL; rw [List.map_map]; rfl)))) ⟨z1, z2⟩ (fun d' h => h))) (fun h => ?_) (fun h => ?_)
      · refine sv_append 2 (P := fun d => d = itD (maskI s m)) (by rfl) (.inl (by rfl)) (by rfl) (.inr rfl) (by trivial) (by rw [List.length_map]; have := hfl m; omega) (EV.pd ((ev_tup (ds := [.int (spots s.pegs.length m).length, kD (spots s.pegs.length m)]) (ea_cons ((ev_len (x := kD (spots s.pegs.length m)) (l := (spots s.pegs.length m).map fun k => .int (k : Nat)) (EV.wk (vr 4)) rfl (by rfl) b.len).eqd (by rw [List.length_map])) (ea_1 (vr 4))) (by simp)).eqd (by rw [kD_it]; rfl))) fun d hd => ?_
        subst hd
        refine sv_end (sv_end ⟨some (.d (.int (0 + (m : Nat)))), some (.d (kD (spots s.pegs.length m))), ?_⟩)
        have e : ((List.range (m + 1)).filter ok).map (fun m => itD (maskI s m)) = ((List.range m).filter ok).map (fun m => itD (maskI s m)) ++ [itD (maskI s m)] := by
          rw [List.range_succ, List.filter_append, List.filter_cons, if_pos h, List.map_append]; rfl
        rw [e]
        rfl
      · refine sv_end (sv_end ⟨some (.d (.int (0 + (m : Nat)))), some (.d (kD (spots s.pegs.length m))), ?_⟩)
        have e : (List.range (m + 1)).filter ok = (List.range m).filter ok := by
          rw [List.range_succ, List.filter_append, List.filter_cons, if_neg (by rw [h]; decide)]; simp
        rw [e]
        rfl
  · rintro δ' ⟨x, y, rfl⟩
    rw [List.length_range]
    let rs : List (Int × List Int) := ((List.range (2 ^ s.pegs.length)).filter ok).map (maskI s)
    have hrs : ∀ r ∈ rs, ∃ m, r = maskI s m := fun r hr => by
      obtain ⟨m, _, e⟩ := List.mem_map.mp hr
      exact ⟨m, e.symm⟩
    have hrl : rs.length ≤ 256 := by
      show (List.map _ _).length ≤ 256
      rw [List.length_map]; have := hfl (2 ^ s.pegs.length); omega
    refine sv_ret ((evp_lcP (c := itD) (Pi := fun rs' => rs'.Perm rs) (td := fun r => [(6, .d (.int r.1)), (4, .d (.tup (r.2.map D.int)))]) (fun r => sT (pick s.pegs (r.2.map Int.toNat))) [("_law_many", 6), ("_law_spots", 4)] ((evp_sortIT (rs := rs) ((EV.wko (x := .lst (((List.range (2 ^ s.pegs.length)).filter ok).map fun m => itD (maskI s m))) (vr 2)).eq (by show _ = Ent.wk (.lst (List.map itD (List.map (maskI s) _))); rw [List.map_map]; rfl)) (by omega) (by rfl) b.sorted).imp fun r ⟨rs', hp, e⟩ => ⟨rs', e, hp⟩) (fun rs' hp => by rw [hp.length_eq]; omega) (blkOk_by (by kernel_rfl)) (fun rs' hp d hd => eg_two 6 4 (by rfl) (by rfl) (.inl (by rfl)) (.inl (by rfl))) (fun rs' hp d hd q hq => by simp at hq; rcases hq with rfl | rfl <;> simp) (fun rs' hp r hr => ?_)).imp fun r ⟨rs', hp, e⟩ => .inl ⟨_, e, rs'.map fun r => pick s.pegs (r.2.map Int.toNat), by rw [List.map_map]; rfl, ?_⟩)
    · obtain ⟨m, e⟩ := hrs r (hp.subset hr)
      subst e
      have hsl := spots_len s.pegs.length m
      refine (ev_tupleL (EV.wk (ev_lc0 (td := fun k => [(5, .d (.int k))]) (maskI s m).2 D.int (fun k => .str (s.pegs.getD k.toNat Str.empty)) [("_law_k", 5)] (ei_tup (vr 4)).weak (by show (List.map _ _).length ≤ 1000; rw [List.length_map]; omega) (blkOk_by (by kernel_rfl)) (fun d hd => eg_name 5 rfl (.inl rfl)) (fun d hd q hq => by simp at hq; subst hq; simp) (fun k hk => ?_))) (by rfl) (by exact b.tuple)).eqd (by unfold pick sT; rw [List.map_map, List.map_map]; rfl)
      obtain ⟨j, hj, e⟩ := List.mem_map.mp hk
      subst e
      exact ev_ixT (l := s.pegs.map D.str) (EV.wk (x := sT s.pegs) (vr 1)) (vr 5) (atI_nat (peg_at (spots_lt hj)))
    · refine (hp.map _).trans ?_
      have e2 : rs.map (fun r => pick s.pegs (r.2.map Int.toNat)) = setsOf s := by
        show List.map _ (List.map _ _) = _
        unfold setsOf
        rw [List.map_map, List.filter_map]
        refine List.map_congr_left fun m hm => ?_
        show pick s.pegs ((maskI s m).2.map Int.toNat) = _
        unfold maskI
        rw [List.map_map]
        congr 1
        simp [Function.comp_def]
      rw [e2]
end
end Nb
set_option Elab.async false
set_option linter.all false
set_option maxRecDepth 100000
set_option maxHeartbeats 2000000
namespace Nb
open PySem PySem.Spec PyProof.Rows L2
/-- the row with the pegs of a mask turned -/
def flipM (pegs row : List Str) (m : Nat) : List Str := (pegs.zipIdx.filter fun q => decide (q.1 ∈ row) != bit m q.2).map (·.1)
def within (p m : Nat) : Bool := decide (Builtin.bitAnd (p : Int) m = p)
def roundOk (s : Parts) (row : List Str) (m : Nat) : Bool := (List.range (2 ^ s.pegs.length)).all fun p => !(within p m && !isStand s (flipM s.pegs row p))
def roundAfter (s : Parts) (row : List Str) : List (List Str) := (((List.range (2 ^ s.pegs.length - 1)).map (· + 1)).filter (roundOk s row)).map (flipM s.pegs row)
def afD (s : Parts) (row : List Str) (m : Nat) : D := .tup [.bl (isStand s (flipM s.pegs row m)), sT (flipM s.pegs row m)]
section
variable {g : Glob}
structure RaA where
  s : Parts
  row : List Str
theorem scRa : FnScope ["_law_parts_here", "_law_row", "_law_pegs", "_law_found", "_law_after", "_law_mask", "_law_more", "_law_n", "_law_peg", "_law_part"] ["_law_parts_here", "_law_row"] (defScope (top 80)) := ⟨rfl, rfl, rfl, by decide +kernel, rfl, by decide +kernel, by decide +kernel⟩
def spRa (g : Glob) : Sp := spP g (α := RaA) (fun a => [partsD a.s, sT a.row]) (fun a => a.s.pegs.length ≤ 8 ∧ a.s.needs.length ≤ 1000 ∧ a.s.bars.length ≤ 1000) (fun a d => d = .lst ((roundAfter a.s a.row).map sT))
theorem fn_ra (F : Df g "_law_round_after" (top 80)) (b : Bi g) (h1 : Fn g 1 "_law_is_stand" (spLSt g)) : Fn g 2 "_law_round_after" (spRa g) := by
  refine F.fn scRa (fun _ _ _ _ _ _ us hl => match us, hl with | [_, _], _ => rfl) (fun a => rfl) (by decide) fun B0 H0 a ⟨hz, z1, z2⟩ => ?_
  obtain ⟨s, row⟩ := a
  dsimp only at hz z1 z2
  have h256 : 2 ^ s.pegs.length ≤ 256 := Nat.pow_le_pow_right (n := 2) (by decide) hz
  have hpw : (1 * (2 : Int) ^ s.pegs.length) = ((2 ^ s.pegs.length : Nat) : Int) := by rw [Int.one_mul]; simp
  refine sv_par 2 3 (by rfl) (by rfl) (by rfl) (by rfl) (EV.toM (r := .d (sT s.pegs)) (ev_ixT (l := [sT s.pegs, psT s.needs, psT s.bars, iT s.costs]) (EV.wk (x := partsD s) (vr 0)) ev_int (by rfl))) (EN.toM en_nil (by rfl)) (fun B1 r B2 r2 hp1 hp2 => ?_) (by decide) (fun env he => sw_two (by rw [he]; rfl) (by rw [he]; rfl) (by rw [he]; rfl) (by rfl) (by decide +kernel) (by rfl) (by decide +kernel) (by decide +kernel))
  obtain ⟨e1, hr⟩ := hp1
  obtain ⟨q, d, e2, nB, ap, hr2, hd⟩ := hp2
  subst e1; subst e2; subst hr; subst hr2; subst hd
  refine sv_new 4 (by rfl) (.inr (by rfl)) en_nil (by rfl) fun q2 d hd nB2 ap2 => ?_
  subst hd
  have hne : q ≠ q2 := fun z => nB2 (.inr z.symm)
  refine sv_for (List.range (2 ^ s.pegs.length)) (fun i => .int (0 + (i : Nat))) (fun i δ' => ∃ x y, δ' = [some (.d (partsD s)), some (.d (sT row)), some (.d (sT s.pegs)), some (.own q (.lst [])), some (.own q2 (.lst ((List.range i).map (afD s row)))), x, y, none, none, none]) (td := fun i => [(5, .d (.int (0 + (i : Nat))))]) (EI.eq (ei_range1 (ev_shl ev_int (ev_len (x := sT s.pegs) (l := s.pegs.map D.str) (EV.wk (vr 2)) rfl (by rfl) b.len) ⟨by omega, by simp; omega, by decide⟩) ?_ (by rfl) b.range) ?_) ⟨none, none, rfl⟩ (fun d hd => eg_name 5 rfl (.inr rfl)) ?_ ?_
  · rw [List.length_map, Int.toNat_natCast, hpw]
    generalize 2 ^ s.pegs.length = M at h256
    constructor <;> omega
  · rw [List.length_map, Int.toNat_natCast]
    unfold rngD
    rw [hpw, Int.toNat_natCast]
  · rintro i m δ' hm ⟨x, y, rfl⟩
    have him : m = i := by
      obtain ⟨h1, h2⟩ := List.getElem?_eq_some_iff.mp hm
      simpa using h2.symm
    have hi : i < 2 ^ s.pegs.length := by
      have := (List.getElem?_eq_some_iff.mp hm).1
      simpa using this
    subst him
    refine sv_set 6 (r := .d (sT (flipM s.pegs row m))) (by rfl) (.inl (by rfl)) ((ev_tupleL (EV.wk (ev_lc1 (td := fun q => [(7, .d (.int (q.2 : Nat))), (8, .d (.str q.1))]) s.pegs.zipIdx (fun q => .tup [.int (q.2 : Nat), .str q.1]) (fun q => decide (q.1 ∈ row) != bit m q.2) (fun q => .str q.1) [("_law_n", 7), ("_law_peg", 8)] (EI.weak (EI.eq (ei_enum (l := s.pegs.map D.str) (vr 2) (by rfl) b.enum) (enumD_map _ _))) (by rw [List.length_zipIdx]; omega) (blkOk_by (by kernel_rfl)) (fun d hd => eg_two 7 8 (by rfl) (by rfl) (.inl (by rfl)) (.inl (by rfl))) (fun d hd q hq => by simp at hq; rcases hq with rfl | rfl <;> simp) (fun q hq => ?_) (fun q hq _ => vr 8))) (by rfl) b.tuple).eqd (by unfold flipM sT; rw [List.map_map]; rfl)) ?_
    · refine (et_ne (x := .bl (decide (q.1 ∈ row))) (y := .bl (bit m q.2)) (ev_in (ss := row) (vr 8) (EV.wk (x := sT row) (vr 1)) rfl) ((ev_eq (ev_band (ev_shr (vr 5) (vr 7) (by omega)) ev_int) ev_int).eqb ?_)).eqb ?_
      · simp only [eqD, bit]
        rw [Int.toNat_natCast, Int.zero_add]
      · simp only [eqD]
        cases decide (q.1 ∈ row) <;> cases bit m q.2 <;> rfl
    · refine sv_append 4 (P := fun d => d = afD s row m) (by rfl) (.inr (.inl (by rfl))) (by rfl) (.inr rfl) ⟨hne, trivial⟩ (by simp; omega) (EV.pd (ev_tup (ds := [.bl (isStand s (flipM s.pegs row m)), sT (flipM s.pegs row m)]) (ea_cons (ev_call (α := LsA) ⟨s, true, flipM s.pegs row m⟩ h1 of_E kk (by rfl) (ea_cons (vr 0) (ea_1 (vr 6))) ⟨z1, z2⟩ (fun d' h => h)) (ea_1 (vr 6))) (by simp))) fun d hd => ?_
      subst hd
      refine sv_end ⟨some (.d (.int (0 + (m : Nat)))), some (.d (sT (flipM s.pegs row m))), ?_⟩
      rw [List.range_succ, List.map_append]
      rfl
  · rintro δ' ⟨x, y, rfl⟩
    rw [List.length_range]
    let ok : Nat → Bool := fun m => roundOk s row (m + 1)
    have hfl : ∀ i, ((List.range i).filter ok).length ≤ i := fun i => Nat.le_trans (List.length_filter_le _ _) (by simp)
    have haf : ∀ k, k < 2 ^ s.pegs.length → atI ((List.range (2 ^ s.pegs.length)).map (afD s row)) (k : Nat) = some (afD s row k) := fun k hk => atI_nat (by rw [List.getElem?_map, List.getElem?_range hk]; rfl)
    have hpos : 1 ≤ 2 ^ s.pegs.length := Nat.one_le_two_pow
    refine sv_forget 6 ?_
    refine sv_for (List.range (2 ^ s.pegs.length - 1)) (fun i => .int (1 + (i : Nat))) (fun i δ' => ∃ x, δ' = [some (.d (partsD s)), some (.d (sT row)), some (.d (sT s.pegs)), some (.own q (.lst ((((List.range i).filter ok).map fun m => sT (flipM s.pegs row (m + 1)))))), some (.own q2 (.lst ((List.range (2 ^ s.pegs.length)).map (afD s row)))), x, none, none, none, none]) (td := fun i => [(5, .d (.int (1 + (i : Nat))))]) (EI.eq (ei_range2 ev_int (ev_shl ev_int (ev_len (x := sT s.pegs) (l := s.pegs.map D.str) (EV.wk (vr 2)) rfl (by rfl) b.len) ⟨by omega, by simp; omega, by decide⟩) ?_ (by rfl) b.range) ?_) ⟨_, rfl⟩ (fun d hd => eg_name 5 rfl (.inr rfl)) ?_ ?_
    · rw [List.length_map, Int.toNat_natCast, hpw]
      generalize 2 ^ s.pegs.length = M at h256
      refine ⟨?_, ?_, ?_, ?_⟩ <;> omega
    · rw [List.length_map, Int.toNat_natCast, hpw]
      unfold rngD
      generalize 2 ^ s.pegs.length = M at hpos
      rw [show (((M : Nat) : Int) - 1).toNat = M - 1 by omega]
    · rintro i m δ' hm ⟨x, rfl⟩
      have him : m = i := by
        obtain ⟨h1, h2⟩ := List.getElem?_eq_some_iff.mp hm
        simpa using h2.symm
      have hi : i < 2 ^ s.pegs.length - 1 := by
        have := (List.getElem?_eq_some_iff.mp hm).1
        simpa using this
      subst him
      have e1m : ((1 : Int) + (m : Nat)) = ((m + 1 : Nat) : Int) := by omega
      refine sv_if (cc := ok m) ((et_eqD (c := ok m) (y := .lst []) 2 2 (EV.wk (ev_lc1 (td := fun k => [(9, .d (.int (0 + (k : Nat))))]) (List.range (2 ^ s.pegs.length)) (fun k => .int (0 + (k : Nat))) (fun k => within k (m + 1) && !isStand s (flipM s.pegs row k)) (fun k => .int (0 + (k : Nat))) [("_law_part", 9)] (EI.weak (EI.eq (ei_range1 (ev_shl ev_int (ev_len (x := sT s.pegs) (l := s.pegs.map D.str) (EV.wk (vr 2)) rfl (by rfl) b.len) ⟨by omega, by simp; omega, by decide⟩) ?_ (by rfl) b.range) ?_)) (by simp; omega) (blkOk_by (by kernel_rfl)) (fun d hd => eg_name 9 rfl (.inl rfl)) (fun d hd q hq => by simp at hq; subst hq; simp) (fun k hk => ?_) (fun k hk _ => vr 9))) (EV.wk (x := .lst []) (ev_lst (ds := []) ea_nil (by simp))) ?_ rfl ?_)) (fun h => ?_) (fun h => ?_)
      · rw [List.length_map, Int.toNat_natCast, hpw]
        generalize 2 ^ s.pegs.length = M at h256
        constructor <;> omega
      · rw [List.length_map, Int.toNat_natCast]
        unfold rngD
        rw [hpw, Int.toNat_natCast]
      · have hk' : k < 2 ^ s.pegs.length := by simpa using hk
        refine EWt.t (ew_and ((et_eq (ev_band (vr 9) (vr 5)) (vr 9)).eqb ?_) fun _ => ew_and1 (et_not (et_v (ev_ixT (l := [.bl (isStand s (flipM s.pegs row k)), sT (flipM s.pegs row k)]) (EV.wk (x := afD s row k) (ev_ixL (l := (List.range (2 ^ s.pegs.length)).map (afD s row)) (EV.wko (vr 4)) (vr 9) (by rw [Int.zero_add]; exact haf k hk'))) ev_int (by rfl)))))
        simp only [eqD, within]
        rw [Int.zero_add, e1m]
      · exact okDs_map (n := 1) fun x _ => by simp [okD]
      · show roundOk s row (m + 1) = true ↔ _
        unfold roundOk
        simp only [D.lst.injEq, List.map_eq_nil_iff, List.filter_eq_nil_iff, List.all_eq_true, Bool.not_eq_true, Bool.not_eq_true']
      · refine sv_append 3 (P := fun d => d = sT (flipM s.pegs row (m + 1))) (by rfl) (.inl (by rfl)) (by rfl) (.inl (.inr rfl)) ⟨Ne.symm hne, trivial⟩ (by rw [List.length_map]; have := hfl m; omega) (EV.pd (ev_ixT (l := [.bl (isStand s (flipM s.pegs row (m + 1))), sT (flipM s.pegs row (m + 1))]) (EV.wk (x := afD s row (m + 1)) (ev_ixL (l := (List.range (2 ^ s.pegs.length)).map (afD s row)) (EV.wko (vr 4)) (vr 5) (by rw [e1m]; exact haf (m + 1) (by omega)))) ev_int (by rfl))) fun d hd => ?_
        subst hd
        refine sv_end (sv_end ⟨some (.d (.int (1 + (m : Nat)))), ?_⟩)
        have e : ((List.range (m + 1)).filter ok).map (fun m => sT (flipM s.pegs row (m + 1))) = ((List.range m).filter ok).map (fun m => sT (flipM s.pegs row (m + 1))) ++ [sT (flipM s.pegs row (m + 1))] := by
          rw [List.range_succ, List.filter_append, List.filter_cons, if_pos h, List.map_append]; rfl
        rw [e]
        rfl
      · refine sv_end (sv_end ⟨some (.d (.int (1 + (m : Nat)))), ?_⟩)
        have e : (List.range (m + 1)).filter ok = (List.range m).filter ok := by
          rw [List.range_succ, List.filter_append, List.filter_cons, if_neg (by rw [h]; decide)]; simp
        rw [e]
        rfl
    · rintro δ' ⟨x, rfl⟩
      rw [List.length_range]
      refine sv_reto (vr 3) ?_
      show D.lst _ = D.lst _
      unfold roundAfter
      rw [List.filter_map, List.map_map, List.map_map]
      rfl
end
end Nb
set_option Elab.async false
set_option linter.all false
set_option maxRecDepth 100000
set_option maxHeartbeats 2000000
namespace Nb
open PySem PySem.Spec PyProof.Rows L2
/-- paths of rounds, told by the law's own rounds -/
def Reach (s : Parts) (a : List Str) : Nat → List Str → Prop
  | 0, t => t = a
  | n + 1, t => ∃ r, Reach s a n r ∧ t ∈ roundAfter s r
def Dist (s : Parts) (a : List Str) (n : Nat) (t : List Str) : Prop := Reach s a n t ∧ ∀ m, m < n → ¬ Reach s a m t
theorem dist_of {s : Parts} {a t : List Str} : ∀ {n : Nat}, Reach s a n t → ∃ m, m ≤ n ∧ Dist s a m t := by
  intro n
  induction n using Nat.strongRecOn with
  | _ n ih =>
    intro h
    by_cases e : ∃ m, m < n ∧ Reach s a m t
    · obtain ⟨m, h1, h2⟩ := e
      obtain ⟨k, h3, h4⟩ := ih m h1 h2
      exact ⟨k, by omega, h4⟩
    · exact ⟨n, Nat.le_refl _, h, fun m hm hr => e ⟨m, hm, hr⟩⟩
theorem dist_inj {s : Parts} {a t : List Str} {n m : Nat} (h : Dist s a n t) (k : Dist s a m t) : n = m := by
  rcases Nat.lt_trichotomy n m with e | e | e
  · exact absurd h.1 (k.2 n e)
  · exact e
  · exact absurd k.1 (h.2 m e)
/-- what is found before the round n + 1 -/
structure Bfs (s : Parts) (a : List Str) (n : Nat) (ks : List (List Str)) (vs : List Nat) : Prop where
  nd : ks.Nodup
  len : ks.length = vs.length
  val : ∀ q ∈ ks.zip vs, Dist s a q.2 q.1
  all : ∀ m t, m ≤ n → Reach s a m t → t ∈ ks
def Lay (s : Parts) (a : List Str) (n : Nat) (layer : List (List Str)) : Prop := ∀ t, t ∈ layer ↔ Dist s a n t
theorem bfs_start (s : Parts) (a : List Str) : Bfs s a 0 [a] [0] where
  nd := by simp
  len := rfl
  val := fun q hq => by
    simp at hq
    subst hq
    exact ⟨rfl, fun m hm => absurd hm (Nat.not_lt_zero _)⟩
  all := fun m t hm h => by
    have : m = 0 := by omega
    subst this
    simp [show t = a from h]
theorem lay_start (s : Parts) (a : List Str) : Lay s a 0 [a] := fun t => by
  simp only [List.mem_singleton]
  exact ⟨fun e => ⟨e, fun m hm => absurd hm (Nat.not_lt_zero _)⟩, fun h => h.1⟩
/-- amid the round n + 1: seen is done -/
structure Amid (s : Parts) (a : List Str) (n : Nat) (sn : List (List Str)) (ks : List (List Str)) (vs : List Nat) (fu : List (List Str)) : Prop where
  bf : Bfs s a n ks vs
  seen : ∀ t ∈ sn, t ∈ ks
  fur : ∀ t ∈ fu, Dist s a (n + 1) t
  new : ∀ t ∈ ks, t ∈ fu ∨ ∃ m, m ≤ n ∧ Reach s a m t
theorem amid_old {s : Parts} {a : List Str} {n : Nat} {seen ks fur : List (List Str)} {vs : List Nat} {t : List Str} (h : Amid s a n seen ks vs fur) (ht : t ∈ ks) : Amid s a n (seen ++ [t]) ks vs fur :=
  ⟨h.bf, fun x hx => (List.mem_append.mp hx).elim (h.seen x) fun e => by rw [List.mem_singleton.mp e]; exact ht, h.fur, h.new⟩
theorem amid_new {s : Parts} {a : List Str} {n : Nat} {seen ks fur : List (List Str)} {vs : List Nat} {t : List Str} (h : Amid s a n seen ks vs fur) (ht : t ∉ ks) (hr : Reach s a (n + 1) t) : Amid s a n (seen ++ [t]) (ks ++ [t]) (vs ++ [n + 1]) (fur ++ [t]) := by
  have hd : Dist s a (n + 1) t := ⟨hr, fun m hm hm2 => ht (h.bf.all m t (by omega) hm2)⟩
  refine ⟨⟨?_, by simp [h.bf.len], fun q hq => ?_, fun m x hm hx => List.mem_append_left _ (h.bf.all m x hm hx)⟩, fun x hx => ?_, fun x hx => ?_, fun x hx => ?_⟩
  · rw [List.nodup_append]
    exact ⟨h.bf.nd, by simp, fun x hx y hy e => ht (by rw [← List.mem_singleton.mp hy, ← e]; exact hx)⟩
  · rw [List.zip_append h.bf.len] at hq
    rcases List.mem_append.mp hq with hq | hq
    · exact h.bf.val q hq
    · simp at hq
      subst hq
      exact hd
  · rcases List.mem_append.mp hx with hx | hx
    · exact List.mem_append_left _ (h.seen x hx)
    · exact List.mem_append_right _ hx
  · rcases List.mem_append.mp hx with hx | hx
    · exact h.fur x hx
    · rw [List.mem_singleton.mp hx]; exact hd
  · rcases List.mem_append.mp hx with hx | hx
    · rcases h.new x hx with h1 | h1
      · exact .inl (List.mem_append_left _ h1)
      · exact .inr h1
    · exact .inl (List.mem_append_right _ hx)
theorem amid_start {s : Parts} {a : List Str} {n : Nat} {ks : List (List Str)} {vs : List Nat} (h : Bfs s a n ks vs) (hle : ∀ q ∈ ks.zip vs, q.2 ≤ n) : Amid s a n [] ks vs [] :=
  ⟨h, fun t ht => (by cases ht), fun t ht => (by cases ht), fun t ht => .inr (by
    obtain ⟨i, hi, e⟩ := List.mem_iff_getElem.mp ht
    have hv : i < vs.length := by rw [← h.len]; exact hi
    have hm : (ks[i], vs[i]) ∈ ks.zip vs := List.mem_iff_getElem.mpr ⟨i, by rw [List.length_zip]; omega, by simp⟩
    have h1 := h.val _ hm
    have h2 := hle _ hm
    rw [e] at h1
    exact ⟨vs[i], h2, h1.1⟩)⟩
/-- the round is done: every row behind the layer is seen -/
theorem amid_end {s : Parts} {a : List Str} {n : Nat} {seen ks fur layer : List (List Str)} {vs : List Nat} (h : Amid s a n seen ks vs fur) (hl : Lay s a n layer) (hs : ∀ r ∈ layer, ∀ t ∈ roundAfter s r, t ∈ seen) : Bfs s a (n + 1) ks vs ∧ Lay s a (n + 1) fur := by
  have hall : ∀ m t, m ≤ n + 1 → Reach s a m t → t ∈ ks := by
    intro m t hm hr
    by_cases e : m ≤ n
    · exact h.bf.all m t e hr
    · have : m = n + 1 := by omega
      subst this
      obtain ⟨r, h1, h2⟩ := hr
      obtain ⟨k, h3, h4⟩ := dist_of h1
      by_cases e2 : k = n
      · subst e2
        exact h.seen t (hs r ((hl r).mpr h4) t h2)
      · exact h.bf.all (k + 1) t (by omega) ⟨r, h4.1, h2⟩
  refine ⟨⟨h.bf.nd, h.bf.len, h.bf.val, hall⟩, fun t => ⟨h.fur t, fun hd => ?_⟩⟩
  rcases h.new t (hall (n + 1) t (Nat.le_refl _) hd.1) with h1 | ⟨m, h1, h2⟩
  · exact h1
  · exact absurd h2 (hd.2 m (by omega))
/-- no row is n rounds away: all is found -/
theorem bfs_end {s : Parts} {a : List Str} {n : Nat} {ks : List (List Str)} {vs : List Nat} (h : Bfs s a n ks vs) (hl : Lay s a n []) : ∀ m t, Reach s a m t → t ∈ ks := by
  have key : ∀ m t, Reach s a m t → ∃ k, k ≤ n ∧ Reach s a k t := by
    intro m
    induction m with
    | zero => intro t ht; exact ⟨0, Nat.zero_le _, ht⟩
    | succ m ih =>
      intro t ⟨r, h1, h2⟩
      obtain ⟨k, h3, h4⟩ := ih r h1
      obtain ⟨j, h5, h6⟩ := dist_of h4
      have : j ≠ n := fun e => by
        subst e
        have := (hl r).mpr h6
        cases this
      exact ⟨j + 1, by omega, r, h6.1, h2⟩
  intro m t ht
  obtain ⟨k, h1, h2⟩ := key m t ht
  exact h.all k t h1 h2
end Nb
set_option Elab.async false
set_option linter.all false
set_option maxRecDepth 100000
set_option maxHeartbeats 2000000
namespace Nb
open PySem PySem.Spec PyProof.Rows L2
theorem sw_three {y z x : Str} {py pz px pt : Pos} {kt k2 : Nat} {pt2 : Pos} {a b c : Expr} {env : Env} (hk : env.scope.kind = .function) (hy : env.scope.names.lookup y = some .local) (hz : env.scope.names.lookup z = some .local) (hx : env.scope.names.lookup x = some .local) (hl : (pz.line == py.line) = true) (hl2 : (px.line == py.line) = true) (hne : [y, z, x].eraseDups.length = 3)
    (hst : ([a, b, c].any fun | .Starred .. => true | _ => false) = false) (hf : [a, b, c].all (foldedForSure 8) = false) (hc : [a, b, c].all (constantsAlone 8) = false) :
    swappedStores [.Tuple [.Name y py, .Name z pz, .Name x px] kt pt] (.Tuple [a, b, c] k2 pt2) env = pure (some [y, z, x]) := by
  have ky : env.kindOf y = some .local := hy
  have kz : env.kindOf z = some .local := hz
  have kx : env.kindOf x = some .local := hx
  have hb : env.blockKind = .function := by unfold Env.blockKind; rw [hk]; rfl
  unfold swappedStores
  have e1 : ((some NameKind.local : Option NameKind) == some NameKind.local) = true := rfl
  have e2 : (py.line == py.line) = true := by simp
  have e3 : ((Expr.Name y py).pos.line) = py.line := rfl
  simp only [List.length_cons, List.length_nil, hb, List.filterMap_cons, List.filterMap_nil, ky, kz, kx, List.head?_cons, Option.map_some, Option.getD_some, e1, e3, e2, hl, hl2, hf, hc, Bool.true_and, if_true, Bool.false_eq_true, if_false, hne]
  rw [if_neg (by decide)]
  split
  · rename_i h
    exact absurd (Eq.trans (Eq.symm hst) h) (by decide)
  · rfl
section
variable {g : Glob}
structure FwA where
  s : Parts
  a : List Str
  U : List (List Str)
structure OkFw (w : FwA) : Prop where
  sz : w.s.pegs.length ≤ 8 ∧ w.s.needs.length ≤ 1000 ∧ w.s.bars.length ≤ 1000
  few : w.U.length ≤ 500
  start : w.a ∈ w.U
  names : ∀ t ∈ w.U, ∀ p ∈ t, okName p
  next : ∀ r ∈ w.U, ∀ t ∈ roundAfter w.s r, t ∈ w.U
def fwD (ks : List (List Str)) (vs : List Nat) : D := .dcT ks (vs.map fun v => .int (v : Nat))
theorem scFw : FnScope ["_law_parts_here", "_law_start", "_law_found", "_law_layer", "_law_many", "_law_further", "_law_row", "_law_more"] ["_law_parts_here", "_law_start"] (defScope (top 81)) := ⟨rfl, rfl, rfl, by decide +kernel, rfl, by decide +kernel, by decide +kernel⟩
def spFw (g : Glob) : Sp := spP g (α := FwA) (fun w => [partsD w.s, sT w.a]) OkFw (fun w d => ∃ ks vs, d = fwD ks vs ∧ ks.length = vs.length ∧ ks.Nodup ∧ (∀ q ∈ ks.zip vs, Dist w.s w.a q.2 q.1) ∧ ∀ m t, Reach w.s w.a m t → t ∈ ks)
theorem fn_fw (F : Df g "_law_fewest" (top 81)) (h1 : Fn g 2 "_law_round_after" (spRa g)) : Fn g 3 "_law_fewest" (spFw g) := by
  refine F.fn scFw (fun _ _ _ _ _ _ us hl => match us, hl with | [_, _], _ => rfl) (fun a => rfl) (by decide) fun B0 H0 w ok => ?_
  obtain ⟨s, a, U⟩ := w
  obtain ⟨⟨hz, z1, z2⟩, few, start, names, next⟩ := ok
  dsimp only at hz z1 z2 few start names next
  refine sv_par3 2 3 4 (by rfl) (by rfl) (by rfl) (by rfl) (by rfl) (by rfl) (EN.toM (en_dispT (s := a) (d := .int 0) (vr 1) ev_int) (by rfl)) (EV.toM (r := .d (.lst [sT a])) (ev_lst (ds := [sT a]) (ea_1 (vr 1)) (by simp))) (EV.toM (r := .d (.int 0)) ev_int) (fun B1 r1 B2 r2 B3 r3 hp1 hp2 hp3 => ?_) (by decide) (by decide) (by decide) (fun env he => sw_three (by rw [he]; rfl) (by rw [he]; rfl) (by rw [he]; rfl) (by rw [he]; rfl) (by rfl) (by rfl) (by decide +kernel) (by rfl) (by decide +kernel) (by decide +kernel))
  obtain ⟨q, d, e1, nB, ap, hr, hd⟩ := hp1
  obtain ⟨e2, hr2⟩ := hp2
  obtain ⟨e3, hr3⟩ := hp3
  subst e1; subst hr; subst hd; subst e2; subst hr2; subst e3; subst hr3
  have inU : ∀ m t, Reach s a m t → t ∈ U := by
    intro m
    induction m with
    | zero => intro t ht; rw [show t = a from ht]; exact start
    | succ m ih => intro t ⟨r, h2, h3⟩; exact next r (ih r h2) t h3
  refine sv_while (fun m δ' => ∃ n ks vs layer, δ' = [some (.d (partsD s)), some (.d (sT a)), some (.own q (fwD ks vs)), some (.d (.lst (layer.map sT))), some (.d (.int (n : Nat))), none, none, none] ∧ Bfs s a n ks vs ∧ (∀ z ∈ ks.zip vs, z.2 ≤ n) ∧ Lay s a n layer ∧ m = (501 - ks.length) * 2 + (if layer = [] then 0 else 1))
    ⟨_, 0, [a], [0], [a], rfl, bfs_start s a, fun z hz => by simp at hz; subst hz; exact Nat.le_refl _, lay_start s a, rfl⟩ ?_
  rintro m δ' ⟨n, ks, vs, layer, rfl, bf, hle, hl, rfl⟩
  have kU : ∀ {ks : List (List Str)} {vs : List Nat}, ks.length = vs.length → (∀ z ∈ ks.zip vs, Dist s a z.2 z.1) → ∀ t ∈ ks, t ∈ U := fun {ks vs} hlen hv t ht => by
    obtain ⟨i, hi, e⟩ := List.mem_iff_getElem.mp ht
    have hi2 : i < vs.length := by rw [← hlen]; exact hi
    have := hv (ks[i], vs[i]) (List.mem_iff_getElem.mpr ⟨i, by rw [List.length_zip]; omega, by simp⟩)
    rw [e] at this
    exact inU _ _ this.1
  have lU : ∀ r ∈ layer, r ∈ U := fun r hr => inU _ _ ((hl r).mp hr).1
  have okl : okD 4 (.lst (layer.map sT)) = true := okDs_map (n := 3) fun r hr => okDs_names (n := 2) (names r (lU r hr))
  refine ⟨!layer.isEmpty, et_neD (x := .lst (layer.map sT)) (y := .lst []) 4 4 (EV.wk (vr 3)) (EV.wk (x := .lst []) (ev_lst (ds := []) ea_nil (by simp))) okl rfl (by cases layer <;> simp), fun hc => ?_, fun hc => ?_⟩
  · have hne0 : layer ≠ [] := fun z => by rw [z] at hc; cases hc
    refine sv_par 5 4 (by rfl) (by rfl) (by rfl) (by rfl) (EN.toM en_nil (by rfl)) (EV.toM (r := .d (.int ((n + 1 : Nat) : Int))) ((ev_add (vr 4) ev_int).eqd (by congr 1))) (fun B1 r1 B2 r2 hp1 hp2 => ?_) (by decide) (fun env he => sw_two (by rw [he]; rfl) (by rw [he]; rfl) (by rw [he]; rfl) (by rfl) (by decide +kernel) (by rfl) (by decide +kernel) (by decide +kernel))
    obtain ⟨q5, d5, e1, nB5, ap5, hr5, hd5⟩ := hp1
    obtain ⟨e2, hr2⟩ := hp2
    subst e1; subst hr5; subst hd5; subst e2; subst hr2
    have hq : q ≠ q5 := fun z => nB5 (.inr z.symm)
    have ks0 : ks.length ≤ 500 := Nat.le_trans (len_le_of bf.nd (kU bf.len bf.val)) few
    refine sv_for layer sT (fun i δ' => ∃ ks' vs' fu y z, δ' = [some (.d (partsD s)), some (.d (sT a)), some (.own q (fwD ks' vs')), some (.d (.lst (layer.map sT))), some (.d (.int ((n + 1 : Nat) : Int))), some (.own q5 (.lst (fu.map sT))), y, z] ∧ Amid s a n ((layer.take i).flatMap (roundAfter s)) ks' vs' fu ∧ (∀ z ∈ ks'.zip vs', z.2 ≤ n + 1) ∧ ks'.length = ks.length + fu.length)
      (td := fun r => [(6, .d (sT r))]) (ei_list (l := layer.map sT) (vr 3)) ⟨ks, vs, [], none, none, rfl, amid_start bf hle, fun z hz => Nat.le_succ_of_le (hle z hz), by simp⟩ (fun d hd => eg_name 6 rfl (.inl rfl)) ?_ ?_
    · rintro i r δ' hr ⟨ks1, vs1, fu1, y, z, rfl, am1, hle1, hlen1⟩
      have hrl : r ∈ layer := List.mem_of_getElem? hr
      have hrd := (hl r).mp hrl
      refine sv_for (roundAfter s r) sT (fun j δ' => ∃ ks' vs' fu z, δ' = [some (.d (partsD s)), some (.d (sT a)), some (.own q (fwD ks' vs')), some (.d (.lst (layer.map sT))), some (.d (.int ((n + 1 : Nat) : Int))), some (.own q5 (.lst (fu.map sT))), some (.d (sT r)), z] ∧ Amid s a n ((layer.take i).flatMap (roundAfter s) ++ (roundAfter s r).take j) ks' vs' fu ∧ (∀ z ∈ ks'.zip vs', z.2 ≤ n + 1) ∧ ks'.length = ks.length + fu.length)
        (td := fun t => [(7, .d (sT t))]) (ei_list (l := (roundAfter s r).map sT) (ev_call (α := RaA) ⟨s, r⟩ h1 of_E kk (by rfl) (ea_cons (vr 0) (ea_1 (vr 6))) ⟨hz, z1, z2⟩ (fun d' h => h))) ⟨ks1, vs1, fu1, _, rfl, by simpa using am1, hle1, hlen1⟩ (fun d hd => eg_name 7 rfl (.inl rfl)) ?_ ?_
      · rintro j t δ' ht ⟨ks2, vs2, fu2, z, rfl, am2, hle2, hlen2⟩
        have htr : Reach s a (n + 1) t := ⟨r, hrd.1, List.mem_of_getElem? ht⟩
        have hk2 : ks2.length ≤ 500 := Nat.le_trans (len_le_of am2.bf.nd (kU am2.bf.len am2.bf.val)) few
        have enx : (layer.take i).flatMap (roundAfter s) ++ (roundAfter s r).take (j + 1) = ((layer.take i).flatMap (roundAfter s) ++ (roundAfter s r).take j) ++ [t] := by rw [take_succ_at ht, List.append_assoc]
        refine sv_if (cc := !decide (t ∈ ks2)) (et_niT (ks := ks2) (l := vs2.map fun v => .int (v : Nat)) (vr 7) (EV.wko (x := fwD ks2 vs2) (vr 2)) (by rw [List.length_map]; exact am2.bf.len)) (fun h => ?_) (fun h => ?_)
        · have hn : t ∉ ks2 := by simpa using h
          refine sv_tput 2 (ks := ks2) (l := vs2.map fun v => .int (v : Nat)) (s := t) (d := .int ((n + 1 : Nat) : Int)) (by rfl) (.inl (by rfl)) (by rfl) (.inl (.inr rfl)) ⟨Ne.symm hq, trivial⟩ (by omega) hn (vr 7) (vr 4) ?_
          refine sv_append 5 (P := fun d => d = sT t) (by rfl) (.inl (by rfl)) (by rfl) (.inr rfl) ⟨hq, trivial⟩ (by rw [List.length_map]; omega) (EV.pd (vr 7)) fun d hd => ?_
          subst hd
          refine sv_end (sv_end ⟨ks2 ++ [t], vs2 ++ [n + 1], fu2 ++ [t], some (.d (sT t)), ?_, by rw [enx]; exact amid_new am2 hn htr, fun z hz => ?_, by rw [List.length_append, List.length_append, hlen2]; rfl⟩)
          · have e3 : fwD (ks2 ++ [t]) (vs2 ++ [n + 1]) = .dcT (ks2 ++ [t]) ((vs2.map fun v => D.int (v : Nat)) ++ [.int ((n + 1 : Nat) : Int)]) := by unfold fwD; rw [List.map_append]; rfl
            rw [e3, List.map_append]
            rfl
          · rw [List.zip_append am2.bf.len] at hz
            rcases List.mem_append.mp hz with hz | hz
            · exact hle2 z hz
            · simp at hz; subst hz; exact Nat.le_refl _
        · have hn : t ∈ ks2 := by simpa using h
          exact sv_end (sv_end ⟨ks2, vs2, fu2, some (.d (sT t)), rfl, by rw [enx]; exact amid_old am2 hn, hle2, hlen2⟩)
      · rintro δ' ⟨ks2, vs2, fu2, z, rfl, am2, hle2, hlen2⟩
        refine sv_end ⟨ks2, vs2, fu2, _, _, rfl, ?_, hle2, hlen2⟩
        rw [List.take_length] at am2
        rw [take_succ_at hr, List.flatMap_append]
        simpa using am2
    · rintro δ' ⟨ks2, vs2, fu2, y, z, rfl, am2, hle2, hlen2⟩
      rw [List.take_length] at am2
      obtain ⟨bf2, hl2⟩ := amid_end am2 hl fun r hr t ht => List.mem_flatMap.mpr ⟨r, hr, ht⟩
      have hk2 : ks2.length ≤ 500 := Nat.le_trans (len_le_of bf2.nd (kU bf2.len bf2.val)) few
      refine sv_forget 6 (sv_forget 7 ?_)
      refine sv_freeze 5 (q := q5) (d := .lst (fu2.map sT)) (by rfl) ?_
      refine sv_set 3 (r := .d (.lst (fu2.map sT))) (by rfl) (.inl (by rfl)) (vr 5) ?_
      refine sv_forget 5 ?_
      refine sv_shrink (B1 := fun a => B0 a ∨ a = q) ?_ (fun x hx => ⟨.inl hx, fun e => nB5 (e ▸ hx)⟩) (fun x hx => .inl hx) (fun x hx => hx.elim)
      refine sv_end ⟨_, ?_, n + 1, ks2, vs2, fu2, rfl, bf2, hle2, hl2, rfl⟩
      rw [if_neg hne0]
      by_cases e : fu2 = []
      · rw [if_pos e]
        omega
      · rw [if_neg e]
        have := List.length_pos_iff.mpr e
        omega
  · have h0 : layer = [] := by
      cases layer with
      | nil => rfl
      | cons p L => cases hc
    subst h0
    exact sv_reto (vr 2) ⟨ks, vs, rfl, bf.len, bf.nd, bf.val, bfs_end bf hl⟩
end
end Nb
set_option Elab.async false
set_option linter.all false
set_option maxRecDepth 100000
set_option maxHeartbeats 2000000
namespace Nb
/-! rounds on a plain board: needs and clashes as relations, stands as predicates -/
structure PBd {α : Type} (ne cl : α → α → Prop) : Prop where
  irr : ∀ x, ¬ ne x x
  tr : ∀ x y z, ne x y → ne y z → ne x z
  sym : ∀ x y, cl x y → cl y x
  up : ∀ x y z, ne x y → cl y z → cl x z
structure PSt {α : Type} (ne cl : α → α → Prop) (S : α → Prop) : Prop where
  dn : ∀ x y, S x → ne x y → S y
  fr : ∀ x y, S x → S y → ¬ cl x y
/-- what must be turned ahead on the way to t -/
def pbef {α : Type} (ne cl : α → α → Prop) (t : α → Prop) (x y : α) : Prop := (t x ∧ t y ∧ ne y x) ∨ (¬ t x ∧ t y ∧ cl x y) ∨ (¬ t x ∧ ¬ t y ∧ ne x y)
def pdif {α : Type} (a t : α → Prop) (x : α) : Prop := ¬ (a x ↔ t x)
section
variable {α : Type} {ne cl : α → α → Prop} {a t S T R : α → Prop}
theorem pbef_tr (B : PBd ne cl) {x y z : α} (h : pbef ne cl t x y) (k : pbef ne cl t y z) : pbef ne cl t x z := by
  rcases h with ⟨h1, h2, h3⟩ | ⟨h1, h2, h3⟩ | ⟨h1, h2, h3⟩ <;> rcases k with ⟨k1, k2, k3⟩ | ⟨k1, k2, k3⟩ | ⟨k1, k2, k3⟩
  · exact .inl ⟨h1, k2, B.tr _ _ _ k3 h3⟩
  · exact absurd h2 k1
  · exact absurd h2 k1
  · exact .inr (.inl ⟨h1, k2, B.sym _ _ (B.up _ _ _ k3 (B.sym _ _ h3))⟩)
  · exact absurd h2 k1
  · exact absurd h2 k1
  · exact absurd k1 h2
  · exact .inr (.inl ⟨h1, k2, B.up _ _ _ h3 k3⟩)
  · exact .inr (.inr ⟨h1, k2, B.tr _ _ _ h3 k3⟩)
theorem pbef_irr (B : PBd ne cl) {x : α} : ¬ pbef ne cl t x x := by
  rintro (⟨h1, h2, h3⟩ | ⟨h1, h2, h3⟩ | ⟨h1, h2, h3⟩)
  · exact B.irr _ h3
  · exact h1 h2
  · exact B.irr _ h3
/-- no stand has a later peg turned and an earlier one not -/
theorem no_skip (B : PBd ne cl) {x y : α} (hS : PSt ne cl S) (h : pbef ne cl t x y) (hx : pdif a t x) (h1 : S y ↔ t y) (h2 : S x ↔ a x) : False := by
  unfold pdif at hx
  rcases h with ⟨k1, k2, k3⟩ | ⟨k1, k2, k3⟩ | ⟨k1, k2, k3⟩
  · have := hS.dn _ _ (h1.mpr k2) k3
    exact hx ⟨fun _ => k1, fun _ => h2.mp this⟩
  · have ax : a x := Classical.byContradiction fun z => hx ⟨fun z2 => absurd z2 z, fun z2 => absurd z2 k1⟩
    exact hS.fr _ _ (h2.mpr ax) (h1.mpr k2) k3
  · have ax : a x := Classical.byContradiction fun z => hx ⟨fun z2 => absurd z2 z, fun z2 => absurd z2 k1⟩
    exact k2 (h1.mp (hS.dn _ _ (h2.mpr ax) k3))
/-- some of the pegs turned, with each all that come before it -/
theorem part_stand (B : PBd ne cl) {C : α → Prop} (ha : PSt ne cl a) (ht : PSt ne cl t) (hC : ∀ x, C x → pdif a t x) (hd : ∀ x y, C y → pdif a t x → pbef ne cl t x y → C x) (h1 : ∀ x, C x → (R x ↔ t x)) (h2 : ∀ x, ¬ C x → (R x ↔ a x)) : PSt ne cl R := by
  have dif : ∀ x, a x → ¬ t x → pdif a t x := fun x h k e => k (e.mp h)
  have dif2 : ∀ x, ¬ a x → t x → pdif a t x := fun x h k e => h (e.mpr k)
  refine ⟨fun x y hx hn => ?_, fun x y hx hy hc => ?_⟩
  · by_cases cx : C x <;> by_cases cy : C y
    · exact (h1 y cy).mpr (ht.dn _ _ ((h1 x cx).mp hx) hn)
    · have ty := ht.dn _ _ ((h1 x cx).mp hx) hn
      refine (h2 y cy).mpr (Classical.byContradiction fun ay => cy (hd y x cx (dif2 y ay ty) (.inl ⟨ty, (h1 x cx).mp hx, hn⟩)))
    · have ay := ha.dn _ _ ((h2 x cx).mp hx) hn
      refine (h1 y cy).mpr (Classical.byContradiction fun ty => ?_)
      have tx : ¬ t x := fun z => ty (ht.dn _ _ z hn)
      exact cx (hd x y cy (dif x ((h2 x cx).mp hx) tx) (.inr (.inr ⟨tx, ty, hn⟩)))
    · exact (h2 y cy).mpr (ha.dn _ _ ((h2 x cx).mp hx) hn)
  · have key : ∀ x y, C x → ¬ C y → t x → a y → cl x y → False := fun x y cx cy tx ay hc => by
      have ty : ¬ t y := fun z => ht.fr _ _ tx z hc
      exact cy (hd y x cx (dif y ay ty) (.inr (.inl ⟨ty, tx, B.sym _ _ hc⟩)))
    by_cases cx : C x <;> by_cases cy : C y
    · exact ht.fr _ _ ((h1 x cx).mp hx) ((h1 y cy).mp hy) hc
    · exact key x y cx cy ((h1 x cx).mp hx) ((h2 y cy).mp hy) hc
    · exact key y x cy cx ((h1 y cy).mp hy) ((h2 x cx).mp hx) (B.sym _ _ hc)
    · exact ha.fr _ _ ((h2 x cx).mp hx) ((h2 y cy).mp hy) hc
/-- a round: every mixture of the two is a stand -/
def PRd (ne cl : α → α → Prop) (S T : α → Prop) : Prop := ∀ R : α → Prop, (∀ x, (R x ↔ S x) ∨ (R x ↔ T x)) → PSt ne cl R
theorem PRd.symm (h : PRd ne cl S T) : PRd ne cl T S := fun R hR => h R fun x => (hR x).symm
theorem PRd.l (h : PRd ne cl S T) : PSt ne cl S := h S fun x => .inl Iff.rfl
theorem PRd.r (h : PRd ne cl S T) : PSt ne cl T := h T fun x => .inr Iff.rfl
/-- a chain of n + 1 pegs of the difference order that ends with y -/
def PCh (ne cl : α → α → Prop) (a t : α → Prop) : Nat → α → Prop
  | 0, y => pdif a t y
  | n + 1, y => pdif a t y ∧ ∃ x, PCh ne cl a t n x ∧ pbef ne cl t x y
theorem PCh.dif : ∀ {n : Nat} {y : α}, PCh ne cl a t n y → pdif a t y
  | 0, _, h => h
  | _ + 1, _, h => h.1
theorem rd_same (B : PBd ne cl) (h : PRd ne cl S T) {x y : α} (hx : pdif a T x) (hb : pbef ne cl T x y) : S x ↔ T x := by
  refine Classical.byContradiction fun hn => ?_
  have hxa : S x ↔ a x := by
    unfold pdif at hx
    by_cases e1 : S x <;> by_cases e2 : T x <;> by_cases e3 : a x <;> simp_all
  have hne : y ≠ x := fun e => pbef_irr B (e ▸ hb)
  refine no_skip B (S := fun z => (z = x ∧ S z) ∨ (z ≠ x ∧ T z)) (h _ fun z => ?_) hb hx (by simp [hne]) (by simpa using hxa)
  by_cases e : z = x
  · subst e; simp
  · simp [e]
theorem ch_back (B : PBd ne cl) (h : PRd ne cl S T) : ∀ {n : Nat} {x : α}, PCh ne cl a T n x → (S x ↔ T x) → PCh ne cl a S n x
  | 0, x, hc, e => fun z => hc (z.trans e)
  | n + 1, x, ⟨hd, y, hy, hb⟩, e => by
    have ey := rd_same B h hy.dif hb
    refine ⟨fun z => hd (z.trans e), y, ch_back B h hy ey, ?_⟩
    unfold pbef at hb ⊢
    rw [e, ey]
    exact hb
/-- one round makes the longest chain longer by one at most -/
theorem ch_step (B : PBd ne cl) (h : PRd ne cl S T) {n : Nat} {y : α} (hc : PCh ne cl a T (n + 1) y) : ∃ x, PCh ne cl a S n x := by
  obtain ⟨hd, x, hx, hb⟩ := hc
  exact ⟨x, ch_back B h hx (rd_same B h hx.dif hb)⟩
end
section
variable {α : Type} {ne cl : α → α → Prop} {a t S T R : α → Prop} {h : α → Nat}
structure PHt (ne cl : α → α → Prop) (a t : α → Prop) (h : α → Nat) : Prop where
  lt : ∀ x y, pdif a t x → pdif a t y → pbef ne cl t x y → h x < h y
  dn : ∀ y n, pdif a t y → h y = n + 1 → ∃ x, pdif a t x ∧ pbef ne cl t x y ∧ h x = n
/-- the pegs of less height are turned -/
def play (a t : α → Prop) (h : α → Nat) (k : Nat) (x : α) : Prop := (h x < k ∧ t x) ∨ (¬ h x < k ∧ a x)
theorem play_lt {k : Nat} {x : α} (e : h x < k) : play a t h k x ↔ t x := by unfold play; simp [e]
theorem play_ge {k : Nat} {x : α} (e : ¬ h x < k) : play a t h k x ↔ a x := by unfold play; simp [e]
theorem lay_rd (B : PBd ne cl) (H : PHt ne cl a t h) (ha : PSt ne cl a) (ht : PSt ne cl t) (k : Nat) : PRd ne cl (play a t h k) (play a t h (k + 1)) := by
  intro R hR
  have same : ∀ x, ¬ pdif a t x → (R x ↔ a x) := fun x hx => by
    have e : a x ↔ t x := Classical.not_not.mp hx
    rcases hR x with z | z
    · refine z.trans ?_
      by_cases c : h x < k
      · exact (play_lt c).trans e.symm
      · exact play_ge c
    · refine z.trans ?_
      by_cases c : h x < k + 1
      · exact (play_lt c).trans e.symm
      · exact play_ge c
  refine part_stand B (C := fun x => pdif a t x ∧ (R x ↔ t x)) ha ht (fun x hx => hx.1) (fun x y hy hx hb => ⟨hx, ?_⟩) (fun x hx => hx.2) (fun x hx => ?_)
  · have h1 : h y < k + 1 := Classical.byContradiction fun c => by
      have e : R y ↔ a y := by
        rcases hR y with z | z
        · exact z.trans (play_ge (by omega))
        · exact z.trans (play_ge c)
      exact hy.1 (e.symm.trans hy.2)
    have h2 := H.lt x y hx hy.1 hb
    rcases hR x with z | z
    · exact z.trans (play_lt (by omega))
    · exact z.trans (play_lt (by omega))
  · by_cases c : pdif a t x
    · have h1 : ¬ (R x ↔ t x) := fun z => hx ⟨c, z⟩
      unfold pdif at c
      by_cases e1 : R x <;> by_cases e2 : t x <;> by_cases e3 : a x <;> simp_all
    · exact same x c
theorem ch_le (H : PHt ne cl a t h) : ∀ {n : Nat} {y : α}, PCh ne cl a t n y → n ≤ h y
  | 0, _, _ => Nat.zero_le _
  | n + 1, y, ⟨hd, x, hx, hb⟩ => by
    have h1 := ch_le H hx
    have h2 := H.lt x y hx.dif hd hb
    omega
theorem ch_at (H : PHt ne cl a t h) : ∀ {n : Nat} {y : α}, pdif a t y → h y = n → PCh ne cl a t n y
  | 0, _, hd, _ => hd
  | n + 1, y, hd, e => by
    obtain ⟨x, h1, h2, h3⟩ := H.dn y n hd e
    exact ⟨hd, x, ch_at H h1 h3, h2⟩
/-- each lower height is taken -/
theorem ht_all (H : PHt ne cl a t h) : ∀ {n : Nat} {y : α}, pdif a t y → h y = n → ∀ i, i ≤ n → ∃ x, pdif a t x ∧ h x = i
  | 0, y, hd, e, i, hi => ⟨y, hd, by omega⟩
  | n + 1, y, hd, e, i, hi => by
    by_cases c : i = n + 1
    · exact ⟨y, hd, by omega⟩
    · obtain ⟨x, h1, h2, h3⟩ := H.dn y n hd e
      exact ht_all H h1 h3 i (by omega)
theorem play_zero : play a t h 0 = a := by
  funext x
  exact propext (play_ge (by omega))
end
end Nb
set_option Elab.async false
set_option linter.all false
set_option maxRecDepth 100000
set_option maxHeartbeats 2000000
namespace Nb
open PySem
/-! the rows of the rules -/
structure RInv (R : Str → List Str) (W : List (Str × Str)) : Prop where
  self : ∀ p, p ∈ R p
  tr : ∀ x y z, y ∈ R x → z ∈ R y → z ∈ R x
  edge : ∀ q ∈ W, q.2 ∈ R q.1
  sub : ∀ Q : Str → Str → Prop, (∀ x, Q x x) → (∀ x y z, Q x y → Q y z → Q x z) → (∀ q ∈ W, Q q.1 q.2) → ∀ p y, y ∈ R p → Q p y
theorem mem_longer {r n : List Str} {p x : Str} : x ∈ longerRow r p n ↔ x ∈ r ∨ (p ∈ r ∧ x ∈ n) := by
  unfold longerRow
  by_cases e : p ∈ r
  · rw [if_pos e, List.mem_append, List.mem_filter]
    by_cases c : x ∈ r <;> simp [e, c]
  · rw [if_neg e]; simp [e]
theorem RInv.step {R : Str → List Str} {W : List (Str × Str)} (h : RInv R W) (q : Str × Str) : RInv (stepR R q) (W ++ [q]) := by
  have m : ∀ p x, x ∈ stepR R q p ↔ x ∈ R p ∨ (q.1 ∈ R p ∧ x ∈ R q.2) := fun p x => mem_longer
  refine ⟨fun p => (m p p).mpr (.inl (h.self p)), fun x y z hy hz => ?_, fun e he => ?_, fun Q rf tr ed p y hy => ?_⟩
  · rw [m] at hy hz ⊢
    rcases hy with hy | ⟨hy1, hy2⟩ <;> rcases hz with hz | ⟨hz1, hz2⟩
    · exact .inl (h.tr x y z hy hz)
    · exact .inr ⟨h.tr x y _ hy hz1, hz2⟩
    · exact .inr ⟨hy1, h.tr _ y z hy2 hz⟩
    · exact .inr ⟨hy1, hz2⟩
  · rw [m]
    rcases List.mem_append.mp he with he | he
    · exact .inl (h.edge e he)
    · rw [List.mem_singleton.mp he]
      exact .inr ⟨h.self _, h.self _⟩
  · rw [m] at hy
    have hs := h.sub Q rf tr fun q hq => ed q (List.mem_append_left _ hq)
    rcases hy with hy | ⟨h1, h2⟩
    · exact hs p y hy
    · exact tr _ _ _ (hs p q.1 h1) (tr _ _ _ (ed q (by simp)) (hs q.2 y h2))
theorem RInv.fold : ∀ {ws : List (Str × Str)} {R : Str → List Str} {W : List (Str × Str)}, RInv R W → RInv (ws.foldl stepR R) (W ++ ws)
  | [], R, W, h => by simpa using h
  | q :: ws, R, W, h => by
    have := RInv.fold (ws := ws) (h.step q)
    rw [List.append_assoc] at this
    exact this
theorem rows_inv (ws : List (Str × Str)) : RInv (rowsAt ws) ws := by
  have h0 : RInv (fun p => [p]) [] := ⟨fun p => by simp, fun x y z hy hz => by
    rw [List.mem_singleton] at hy hz ⊢
    rw [hz, hy], fun q hq => (by cases hq), fun Q rf _ _ p y hy => by rw [List.mem_singleton.mp hy]; exact rf p⟩
  have := RInv.fold (ws := ws) h0
  rw [List.nil_append] at this
  exact this
theorem rows_ok {pegs : List Str} : ∀ {ws : List (Str × Str)} {R : Str → List Str}, RowOk pegs R → (∀ q ∈ ws, q.1 ∈ pegs ∧ q.2 ∈ pegs) → RowOk pegs (ws.foldl stepR R)
  | [], R, h, _ => h
  | q :: ws, R, h, hw => by
    refine rows_ok (ws := ws) (R := stepR R q) (fun p hp => ⟨?_, fun x hx => ?_⟩) fun q' hq => hw q' (by simp [hq])
    · show (longerRow (R p) q.1 (R q.2)).Nodup
      unfold longerRow
      by_cases e : q.1 ∈ R p
      · rw [if_pos e, List.nodup_append]
        refine ⟨(h p hp).1, ((h q.2 (hw q (by simp)).2).1).filter _, fun x hx y hy z => ?_⟩
        subst z
        have := (List.mem_filter.mp hy).2
        simp at this
        exact this hx
      · rw [if_neg e]; exact (h p hp).1
    · rcases mem_longer.mp hx with hx | ⟨h1, h2⟩
      · exact (h p hp).2 x hx
      · exact (h q.2 (hw q (by simp)).2).2 x h2
/-! the law's rows hold the rules' rows -/
def Pth (ws : List (Str × Str)) : Nat → Str → Str → Prop
  | 0, p, x => x = p
  | k + 1, p, x => ∃ q ∈ ws, q.1 = p ∧ Pth ws k q.2 x
theorem Pth.app {ws : List (Str × Str)} : ∀ {k j : Nat} {p x y : Str}, Pth ws k p x → Pth ws j x y → Pth ws (k + j) p y
  | 0, j, p, x, y, h, g => by rw [Nat.zero_add]; rw [show x = p from h] at g; exact g
  | k + 1, j, p, x, y, ⟨q, h1, h2, h3⟩, g => by
    rw [Nat.succ_add]
    exact ⟨q, h1, h2, Pth.app h3 g⟩
theorem rows_path {ws : List (Str × Str)} {p y : Str} (h : y ∈ rowsAt ws p) : ∃ k, Pth ws k p y :=
  (rows_inv ws).sub (fun p y => ∃ k, Pth ws k p y) (fun x => ⟨0, rfl⟩) (fun x y z ⟨k, hk⟩ ⟨j, hj⟩ => ⟨k + j, hk.app hj⟩) (fun q hq => ⟨1, q, hq, rfl, rfl⟩) p y h
theorem path_rank {ws : List (Str × Str)} {r : Str → Nat} (hr : ∀ q ∈ ws, r q.2 < r q.1) : ∀ {k : Nat} {p y : Str}, Pth ws k p y → k + r y ≤ r p
  | 0, p, y, h => by rw [show y = p from h]; omega
  | k + 1, p, y, ⟨q, h1, h2, h3⟩ => by
    have := path_rank hr h3
    have := hr q h1
    rw [← h2]
    omega
theorem lawStep_sub {R : Str → List Str} {q : Str × Str} {p x : Str} (h : x ∈ R p) : x ∈ lawStep R q p := by
  unfold lawStep
  by_cases e : p = q.1
  · rw [if_pos e]; exact List.mem_append_left _ (by rw [← e]; exact h)
  · rw [if_neg e]; exact h
theorem lawStep_edge {R : Str → List Str} {q : Str × Str} {x : Str} (h : x ∈ R q.2) : x ∈ lawStep R q q.1 := by
  unfold lawStep
  rw [if_pos rfl]
  by_cases c : x ∈ R q.1
  · exact List.mem_append_left _ c
  · exact List.mem_append_right _ (List.mem_filter.mpr ⟨h, by simpa using c⟩)
theorem lawFold_sub : ∀ {ws : List (Str × Str)} {R : Str → List Str} {p x : Str}, x ∈ R p → x ∈ ws.foldl lawStep R p
  | [], R, p, x, h => h
  | q :: ws, R, p, x, h => lawFold_sub (ws := ws) (lawStep_sub h)
theorem lawFold_edge : ∀ {ws : List (Str × Str)} {R : Str → List Str} {q : Str × Str} {x : Str}, q ∈ ws → x ∈ R q.2 → x ∈ ws.foldl lawStep R q.1
  | e :: ws, R, q, x, hq, h => by
    rcases List.mem_cons.mp hq with z | z
    · subst z; exact lawFold_sub (ws := ws) (lawStep_edge h)
    · exact lawFold_edge (ws := ws) z (lawStep_sub h)
theorem lawTurn_path {ws : List (Str × Str)} : ∀ {n k : Nat} {p x : Str}, k ≤ n → Pth ws k p x → x ∈ lawTurn ws (fun p => [p]) n p
  | 0, k, p, x, hk, h => by
    have : k = 0 := by omega
    subst this
    rw [show x = p from h]; show p ∈ [p]; simp
  | n + 1, 0, p, x, _, h => lawFold_sub (lawTurn_path (n := n) (k := 0) (Nat.zero_le _) h)
  | n + 1, k + 1, p, x, hk, ⟨q, h1, h2, h3⟩ => by
    subst h2
    exact lawFold_edge h1 (lawTurn_path (by omega) h3)
theorem barredIn_sub {r r' o o' : List Str} {bars : List (Str × Str)} (h1 : ∀ x ∈ r, x ∈ r') (h2 : ∀ x ∈ o, x ∈ o') (h : barredIn r o bars = true) : barredIn r' o' bars = true := by
  unfold barredIn at h ⊢
  rw [List.any_eq_true] at h ⊢
  obtain ⟨q, hq, h⟩ := h
  refine ⟨q, hq, ?_⟩
  simp only [Bool.or_eq_true, Bool.and_eq_true, decide_eq_true_iff] at h ⊢
  rcases h with ⟨a, b⟩ | ⟨a, b⟩
  · exact .inl ⟨h1 _ a, h2 _ b⟩
  · exact .inr ⟨h1 _ a, h2 _ b⟩
theorem barredIn_comm {r o : List Str} {bars : List (Str × Str)} : barredIn r o bars = barredIn o r bars := by
  unfold barredIn
  congr 1
  funext q
  rw [Bool.or_comm, Bool.and_comm, Bool.and_comm (decide (q.1 ∈ r))]
end Nb
set_option Elab.async false
set_option linter.all false
set_option maxRecDepth 100000
set_option maxHeartbeats 2000000
namespace Nb
open PySem
/-- what is known of drawn parts -/
structure Drawn (s : Parts) : Prop where
  few : s.pegs.length ≤ 8
  names : ∀ p ∈ s.pegs, okName p
  nd : s.pegs.Nodup
  len : s.costs.length = s.pegs.length
  cost : ∀ c ∈ s.costs, 1 ≤ c ∧ c ≤ 1000
  nmany : s.needs.length ≤ 1000
  bmany : s.bars.length ≤ 1000
  ends : ∀ q ∈ s.needs, q.1 ∈ s.pegs ∧ q.2 ∈ s.pegs
  bends : ∀ q ∈ s.bars, q.1 ∈ s.pegs ∧ q.2 ∈ s.pegs ∧ q.1 ≠ q.2
  rank : ∃ r : Str → Nat, (∀ p ∈ s.pegs, r p < s.pegs.length) ∧ ∀ q ∈ s.needs, r q.2 < r q.1
  dead : ∀ p ∈ s.pegs, barredIn (lawRows s.pegs s.needs p) (lawRows s.pegs s.needs p) s.bars = false
section
variable {s : Parts}
theorem Drawn.rowOk (h : Drawn s) : RowOk s.pegs (rowsAt s.needs) := rows_ok (RowOk.start s.pegs) h.ends
theorem Drawn.nodead (h : Drawn s) : ∀ p ∈ s.pegs, barredIn (rowsAt s.needs p) (rowsAt s.needs p) s.bars = false := by
  intro p hp
  cases e : barredIn (rowsAt s.needs p) (rowsAt s.needs p) s.bars with
  | false => rfl
  | true =>
    obtain ⟨r, r1, r2⟩ := h.rank
    have sub : ∀ x ∈ rowsAt s.needs p, x ∈ lawRows s.pegs s.needs p := fun x hx => by
      obtain ⟨k, hk⟩ := rows_path hx
      have h1 := path_rank r2 hk
      have h2 := r1 p hp
      unfold lawRows
      exact List.mem_filter.mpr ⟨(h.rowOk p hp).2 x hx, by simpa using lawTurn_path (by omega) hk⟩
    rw [← h.dead p hp]
    exact (barredIn_sub sub sub e).symm
theorem Drawn.anti (h : Drawn s) {x y : Str} (h1 : y ∈ rowsAt s.needs x) (h2 : x ∈ rowsAt s.needs y) : x = y := by
  obtain ⟨r, _, r2⟩ := h.rank
  obtain ⟨k, hk⟩ := rows_path h1
  obtain ⟨j, hj⟩ := rows_path h2
  have e1 := path_rank r2 hk
  have e2 := path_rank r2 hj
  have : k = 0 := by omega
  subst this
  exact (show y = x from hk).symm
theorem Drawn.okNeeds (h : Drawn s) : OkNeeds s.pegs s.needs := by
  refine ⟨by have := h.few; omega, h.nd, h.nmany, h.ends, fun i p hp => ?_, fun i q hq => ?_⟩
  · have := (rows_ok (RowOk.start s.pegs) (ws := s.needs.take i) fun q hq => h.ends q (List.mem_of_mem_take hq)).len hp
    have e : (rowsAt (s.needs.take i) p).length ≤ s.pegs.length := this
    have := h.few
    omega
  · obtain ⟨r, _, r2⟩ := h.rank
    intro hc
    obtain ⟨k, hk⟩ := rows_path hc
    have e1 := path_rank (fun q hq => r2 q (List.mem_of_mem_take hq)) hk
    have e2 := r2 q (List.mem_of_getElem? hq)
    omega
theorem Drawn.ne (h : Drawn s) : ∀ q ∈ s.needs, q.1 ≠ q.2 := fun q hq e => by
  obtain ⟨r, _, r2⟩ := h.rank
  have := r2 q hq
  rw [e] at this
  omega
theorem Drawn.okParts (h : Drawn s) : OkParts s where
  pegs := ⟨by have := h.few; omega, h.names, h.nd, h.len, h.cost⟩
  needs := h.okNeeds
  ends := fun q hq => ⟨(h.ends q hq).1, (h.ends q hq).2, h.ne q hq⟩
  bars := ⟨h.bmany, h.bends⟩
  dead := h.nodead
/-! the board -/
theorem mem_row {p o : Str} : o ∈ (mkBd s).row p ↔ o ∈ s.pegs ∧ o ∈ rowsAt s.needs p := by
  show o ∈ s.pegs.filter _ ↔ _
  simp
theorem mem_clash {p o : Str} : (p, o) ∈ (mkBd s).clashes ↔ ∃ i j : Nat, i < j ∧ s.pegs[i]? = some p ∧ s.pegs[j]? = some o ∧ barredIn (rowsAt s.needs p) (rowsAt s.needs o) s.bars = true := by
  show (p, o) ∈ clashPairs s.pegs (rowsAt s.needs) s.bars ↔ _
  unfold clashPairs
  simp only [List.mem_flatMap, List.mem_map, List.mem_filter]
  constructor
  · rintro ⟨q, hq, o', ⟨h1, h2⟩, e⟩
    obtain ⟨e1, e2⟩ := Prod.mk.injEq .. ▸ e
    subst e1; subst e2
    obtain ⟨i, hi⟩ := List.getElem?_of_mem hq
    obtain ⟨z1, z2⟩ := zipIdx_at hi
    obtain ⟨j, hj⟩ := List.getElem?_of_mem h1
    rw [List.getElem?_drop, z2] at hj
    exact ⟨i, i + 1 + j, by omega, z1, hj, h2⟩
  · rintro ⟨i, j, hij, h1, h2, h3⟩
    refine ⟨(p, i), ?_, o, ⟨?_, h3⟩, rfl⟩
    · obtain ⟨hi, e⟩ := List.getElem?_eq_some_iff.mp h1
      exact List.mem_iff_getElem.mpr ⟨i, by simpa using hi, by simp [e]⟩
    · refine List.mem_of_getElem? (i := j - (i + 1)) ?_
      rw [List.getElem?_drop]
      rw [show i + 1 + (j - (i + 1)) = j by omega]
      exact h2
theorem clash_iff (nd : s.pegs.Nodup) {p o : Str} : clash (mkBd s) p o = true ↔ p ∈ s.pegs ∧ o ∈ s.pegs ∧ p ≠ o ∧ barredIn (rowsAt s.needs p) (rowsAt s.needs o) s.bars = true := by
  unfold clash
  simp only [Bool.or_eq_true, decide_eq_true_iff, mem_clash]
  have dis : ∀ {i j : Nat} {p o : Str}, i < j → s.pegs[i]? = some p → s.pegs[j]? = some o → p ≠ o := fun {i j p o} hij h1 h2 e => by
    subst e
    obtain ⟨hi, e1⟩ := List.getElem?_eq_some_iff.mp h1
    obtain ⟨hj, e2⟩ := List.getElem?_eq_some_iff.mp h2
    have := (List.getElem_inj nd (h₀ := hi) (h₁ := hj)).mp (e1.trans e2.symm)
    omega
  constructor
  · rintro (⟨i, j, hij, h1, h2, h3⟩ | ⟨i, j, hij, h1, h2, h3⟩)
    · exact ⟨List.mem_of_getElem? h1, List.mem_of_getElem? h2, dis hij h1 h2, h3⟩
    · exact ⟨List.mem_of_getElem? h2, List.mem_of_getElem? h1, (dis hij h1 h2).symm, by rw [barredIn_comm]; exact h3⟩
  · rintro ⟨h1, h2, h3, h4⟩
    obtain ⟨i, hi⟩ := List.getElem?_of_mem h1
    obtain ⟨j, hj⟩ := List.getElem?_of_mem h2
    rcases Nat.lt_trichotomy i j with c | c | c
    · exact .inl ⟨i, j, c, hi, hj, h4⟩
    · subst c
      rw [hi] at hj
      exact absurd (Option.some.inj hj) h3
    · exact .inr ⟨j, i, c, hj, hi, by rw [barredIn_comm]; exact h4⟩
theorem clash_len {pegs : List Str} {R : Str → List Str} {bars : List (Str × Str)} (h : pegs.length ≤ 8) : (clashPairs pegs R bars).length ≤ 64 := by
  unfold clashPairs
  refine Nat.le_trans (flatMap_len (n := 8) fun q hq => ?_) (by rw [List.length_zipIdx]; omega)
  rw [List.length_map]
  refine Nat.le_trans (List.length_filter_le _ _) ?_
  rw [List.length_drop]
  omega
theorem Drawn.okBd (h : Drawn s) : OkBd (mkBd s) where
  few := by show s.pegs.length ≤ 12; have := h.few; omega
  nd := h.nd
  names := h.names
  plen := h.len
  sub := fun p hp o ho => (mem_row.mp ho).1
  rlen := fun p hp => Nat.le_trans (List.length_filter_le _ _) (by have := h.few; omega)
  cin := fun q hq => by
    obtain ⟨i, j, _, h1, h2, _⟩ := mem_clash.mp (show (q.1, q.2) ∈ _ from hq)
    exact ⟨List.mem_of_getElem? h1, List.mem_of_getElem? h2⟩
  clen := Nat.le_trans (clash_len h.few) (by omega)
  irr := fun q hq => ((clash_iff h.nd).mp (show clash (mkBd s) q.1 q.2 = true by unfold clash; rw [decide_eq_true (show (q.1, q.2) ∈ _ from hq)]; rfl)).2.2.1
/-- needs and clashes of a board as relations -/
def bne (b : Bd) (x y : Str) : Prop := wants b x y = true
def bcl (b : Bd) (x y : Str) : Prop := clash b x y = true
theorem bne_iff {b : Bd} {x y : Str} : bne b x y ↔ x ≠ y ∧ y ∈ b.row x := by unfold bne wants; simp
theorem Drawn.pbd (h : Drawn s) : PBd (bne (mkBd s)) (bcl (mkBd s)) where
  irr := fun x hx => (bne_iff.mp hx).1 rfl
  tr := fun x y z h1 h2 => by
    obtain ⟨a1, a2⟩ := bne_iff.mp h1
    obtain ⟨b1, b2⟩ := bne_iff.mp h2
    obtain ⟨a3, a4⟩ := mem_row.mp a2
    obtain ⟨b3, b4⟩ := mem_row.mp b2
    refine bne_iff.mpr ⟨fun e => ?_, mem_row.mpr ⟨b3, (rows_inv s.needs).tr _ _ _ a4 b4⟩⟩
    subst e
    exact a1 (h.anti a4 b4)
  sym := fun x y h1 => by unfold bcl at h1 ⊢; rw [clash_comm]; exact h1
  up := fun x y z h1 h2 => by
    obtain ⟨a1, a2⟩ := bne_iff.mp h1
    obtain ⟨a3, a4⟩ := mem_row.mp a2
    obtain ⟨c1, c2, c3, c4⟩ := (clash_iff h.nd).mp h2
    have hx : x ∈ s.pegs := Classical.byContradiction fun hn => by
      refine a1 ?_
      have : y ∈ [x] := by
        obtain ⟨k, hk⟩ := rows_path a4
        cases k with
        | zero => rw [show y = x from hk]; simp
        | succ k =>
          obtain ⟨q, q1, q2, _⟩ := hk
          exact absurd (q2 ▸ (h.ends q q1).1) hn
      rw [List.mem_singleton.mp this]
    have sub : ∀ w ∈ rowsAt s.needs y, w ∈ rowsAt s.needs x := fun w hw => (rows_inv s.needs).tr _ _ _ a4 hw
    have hb := barredIn_sub sub (fun w hw => hw) c4
    refine (clash_iff h.nd).mpr ⟨hx, c2, fun e => ?_, hb⟩
    subst e
    have := h.nodead x hx
    rw [barredIn_sub (fun w hw => hw) sub (by rw [barredIn_comm]; exact c4) |> fun z => barredIn_sub sub (fun w hw => hw) c4] at this
    cases this
/-- a stand as a predicate -/
theorem OkSt.pst {b : Bd} {ms : List Str} (h : OkSt b ms) : PSt (bne b) (bcl b) (fun x => x ∈ ms) :=
  ⟨fun x y hx hn => h.need x hx y (bne_iff.mp hn).2, fun x y hx hy hc => by
    have := h.free x hx y hy
    rw [show clash b x y = true from hc] at this
    cases this⟩
theorem okSt_of {b : Bd} (ok : OkBd b) {ms : List Str} (hs : ms.Sublist b.order) (h : PSt (bne b) (bcl b) (fun x => x ∈ ms)) : OkSt b ms :=
  ⟨ok, hs, fun p hp o ho => by
    by_cases e : p = o
    · rw [← e]; exact hp
    · exact h.dn p o hp (bne_iff.mpr ⟨e, ho⟩), fun p hp o ho => by
    cases e : clash b p o with
    | false => rfl
    | true => exact absurd e (h.fr p o hp ho)⟩
theorem isStand_iff {row : List Str} : isStand s row = true ↔ (∀ q ∈ s.needs, q.1 ∈ row → q.2 ∈ row) ∧ ∀ q ∈ s.bars, q.1 ∈ row → q.2 ∉ row := by
  unfold isStand
  simp only [Bool.and_eq_true, Bool.not_eq_true', List.any_eq_false, decide_eq_true_iff, Bool.not_eq_true', decide_eq_false_iff_not, not_and, Decidable.not_not]
/-- the law's own test of a stand -/
theorem Drawn.stand (h : Drawn s) {row : List Str} (hr : ∀ p ∈ row, p ∈ s.pegs) : isStand s row = true ↔ PSt (bne (mkBd s)) (bcl (mkBd s)) (fun x => x ∈ row) := by
  rw [isStand_iff]
  constructor
  · rintro ⟨h1, h2⟩
    have cl : ∀ p ∈ row, ∀ o ∈ rowsAt s.needs p, o ∈ row := fun p hp o ho =>
      (rows_inv s.needs).sub (fun x y => x ∈ row → y ∈ row) (fun x hx => hx) (fun x y z f g hx => g (f hx)) (fun q hq => h1 q hq) p o ho hp
    refine ⟨fun x y hx hn => cl x hx y (mem_row.mp (bne_iff.mp hn).2).2, fun x y hx hy hc => ?_⟩
    obtain ⟨_, _, _, hb⟩ := (clash_iff h.nd).mp hc
    unfold barredIn at hb
    rw [List.any_eq_true] at hb
    obtain ⟨q, hq, hb⟩ := hb
    simp only [Bool.or_eq_true, Bool.and_eq_true, decide_eq_true_iff] at hb
    rcases hb with ⟨b1, b2⟩ | ⟨b1, b2⟩
    · exact h2 q hq (cl x hx _ b1) (cl y hy _ b2)
    · exact h2 q hq (cl y hy _ b2) (cl x hx _ b1)
  · intro hp
    refine ⟨fun q hq h1 => hp.dn q.1 q.2 h1 (bne_iff.mpr ⟨h.ne q hq, mem_row.mpr ⟨(h.ends q hq).2, (rows_inv s.needs).edge q hq⟩⟩), fun q hq h1 h2 => ?_⟩
    obtain ⟨b1, b2, b3⟩ := h.bends q hq
    refine hp.fr q.1 q.2 h1 h2 ((clash_iff h.nd).mpr ⟨b1, b2, b3, ?_⟩)
    unfold barredIn
    rw [List.any_eq_true]
    exact ⟨q, hq, by simp [(rows_inv s.needs).self]⟩
end
end Nb
set_option Elab.async false
set_option linter.all false
set_option maxRecDepth 100000
set_option maxHeartbeats 2000000
namespace Nb
open PySem
theorem before_iff {b : Bd} {t : List Str} {x y : Str} : before b t x y = true ↔ pbef (bne b) (bcl b) (fun p => p ∈ t) x y := by
  unfold before pbef bne bcl
  by_cases e1 : x ∈ t <;> by_cases e2 : y ∈ t <;> simp [e1, e2]
theorem mem_unlike {b : Bd} {s t : List Str} {x : Str} : x ∈ unlike b s t ↔ x ∈ b.order ∧ pdif (fun p => p ∈ s) (fun p => p ∈ t) x := by
  unfold unlike pdif
  rw [List.mem_filter]
  by_cases e1 : x ∈ s <;> by_cases e2 : x ∈ t <;> simp [e1, e2]
theorem filter_len_lt {α : Type} {p q : α → Bool} : ∀ {l : List α}, (∀ x ∈ l, p x = true → q x = true) → (∃ z ∈ l, q z = true ∧ p z = false) → (l.filter p).length < (l.filter q).length
  | [], _, ⟨z, hz, _⟩ => by cases hz
  | x :: l, h, ⟨z, hz, h1, h2⟩ => by
    have le : ∀ {l : List α}, (∀ x ∈ l, p x = true → q x = true) → (l.filter p).length ≤ (l.filter q).length := by
      intro l
      induction l with
      | nil => intro _; exact Nat.le_refl _
      | cons x l ih =>
        intro h
        have := ih fun y hy => h y (by simp [hy])
        rw [List.filter_cons, List.filter_cons]
        cases e : p x
        · cases q x <;> simp <;> omega
        · rw [h x (by simp) e]; simp; omega
    rcases List.mem_cons.mp hz with e | e
    · subst e
      have := le (l := l) fun y hy => h y (by simp [hy])
      rw [List.filter_cons, List.filter_cons, h1, h2]
      simp; omega
    · have := filter_len_lt (l := l) (fun y hy => h y (by simp [hy])) ⟨z, e, h1, h2⟩
      rw [List.filter_cons, List.filter_cons]
      cases c : p x
      · cases q x <;> simp <;> omega
      · rw [h x (by simp) c]; simp; omega
theorem topH_congr {h k : Str → Nat} : ∀ {U : List Str}, (∀ p ∈ U, h p = k p) → topH U h = topH U k
  | [], _ => rfl
  | x :: U, e => by
    show max (h x + 1) (topH U h) = max (k x + 1) (topH U k)
    rw [e x (by simp), topH_congr (U := U) fun p hp => e p (by simp [hp])]
/-- heights, by so many steps -/
def hF (R : Str → List Str) : Nat → Str → Nat
  | 0, _ => 0
  | n + 1, y => topH (R y) (hF R n)
theorem hF_st {U : List Str} {R : Str → List Str} (sub : ∀ y ∈ U, ∀ x ∈ R y, x ∈ U) (dec : ∀ y ∈ U, ∀ x ∈ R y, (R x).length < (R y).length) : ∀ {n m : Nat} {y : Str}, y ∈ U → (R y).length ≤ n → n ≤ m → hF R m y = hF R n y
  | 0, 0, y, _, _, _ => rfl
  | 0, m + 1, y, _, h, _ => by
    have : R y = [] := List.length_eq_zero_iff.mp (by omega)
    show topH (R y) _ = 0
    rw [this]; rfl
  | n + 1, m + 1, y, hy, h, hm => by
    show topH (R y) _ = topH (R y) _
    refine topH_congr fun x hx => hF_st sub dec (sub y hy x hx) ?_ (by omega)
    have := dec y hy x hx
    omega
def hOf (b : Bd) (s t : List Str) : Str → Nat := hF (earlier b s t) 12
section
variable {s : Parts} {a t : List Str}
theorem mem_earlier {b : Bd} {x y : Str} : x ∈ earlier b a t y ↔ x ∈ unlike b a t ∧ x ≠ y ∧ pbef (bne b) (bcl b) (fun p => p ∈ t) x y := by
  unfold earlier
  rw [List.mem_filter, Bool.and_eq_true, before_iff]
  simp
theorem earlier_lt {b : Bd} (B : PBd (bne b) (bcl b)) {x y : Str} (h : x ∈ earlier b a t y) : (earlier b a t x).length < (earlier b a t y).length := by
  obtain ⟨h1, h2, h3⟩ := mem_earlier.mp h
  unfold earlier
  refine filter_len_lt (fun z hz hp => ?_) ⟨x, h1, ?_, by simp⟩
  · rw [Bool.and_eq_true, before_iff] at hp ⊢
    have := pbef_tr B hp.2 h3
    refine ⟨?_, this⟩
    have : z ≠ y := fun e => pbef_irr B (e ▸ this)
    simpa using this
  · rw [Bool.and_eq_true, before_iff]
    exact ⟨by simpa using h2, h3⟩
theorem earlier_few {b : Bd} {y : Str} (h : y ∈ unlike b a t) : (earlier b a t y).length < (unlike b a t).length := by
  have e : unlike b a t = (unlike b a t).filter fun _ => true := by rw [List.filter_eq_self.mpr fun _ _ => rfl]
  conv => rhs; rw [e]
  unfold earlier
  exact filter_len_lt (fun _ _ _ => rfl) ⟨y, h, rfl, by simp⟩
theorem okHt {b : Bd} (ok : OkBd b) (B : PBd (bne b) (bcl b)) : OkHt ⟨unlike b a t, earlier b a t, hOf b a t⟩ := by
  have few : (unlike b a t).length ≤ 12 := unlike_len ok a t
  have sub : ∀ y ∈ unlike b a t, ∀ x ∈ earlier b a t y, x ∈ unlike b a t := fun y _ x hx => (mem_earlier.mp hx).1
  have dec : ∀ y ∈ unlike b a t, ∀ x ∈ earlier b a t y, (earlier b a t x).length < (earlier b a t y).length := fun y _ x hx => earlier_lt B hx
  have st : ∀ y ∈ unlike b a t, ∀ x ∈ earlier b a t y, hF (earlier b a t) 11 x = hOf b a t x := fun y hy x hx => by
    have h1 := earlier_few hy
    have h2 := dec y hy x hx
    exact (hF_st sub dec (sub y hy x hx) (by omega) (by omega)).symm
  have eq : ∀ y ∈ unlike b a t, hOf b a t y = topH (earlier b a t y) (hOf b a t) := fun y hy => topH_congr (st y hy)
  exact ⟨ok.nd.filter _, few, sub, fun y hy => by have h1 := earlier_few hy; show (earlier b a t y).length ≤ 12; omega, dec, fun y hy e => by
      have e' : earlier b a t y = [] := e
      show hOf b a t y = 0
      rw [eq y hy, e']; rfl,
    fun y hy e => by
      obtain ⟨x, h1, h2⟩ := topH_at (h := hOf b a t) e
      exact ⟨x, h1, (eq y hy).trans h2⟩,
    fun y hy x hx => by
      have := topH_le (h := hOf b a t) x hx
      rw [← eq y hy] at this
      exact this⟩
theorem ht_len {b : Bd} (ok : OkBd b) (B : PBd (bne b) (bcl b)) : ∀ {n : Nat} {y : Str}, y ∈ unlike b a t → (earlier b a t y).length ≤ n → hOf b a t y ≤ n := by
  intro n
  induction n with
  | zero =>
    intro y hy h
    have : earlier b a t y = [] := List.length_eq_zero_iff.mp (by omega)
    have := (okHt (a := a) (t := t) ok B).zero y hy this
    exact Nat.le_of_eq this
  | succ n ih =>
    intro y hy h
    by_cases e : earlier b a t y = []
    · have : hOf b a t y = 0 := (okHt (a := a) (t := t) ok B).zero y hy e
      omega
    · obtain ⟨x, h1, h2⟩ := (okHt (a := a) (t := t) ok B).some y hy e
      have h3 := earlier_lt B h1
      have h4 := ih (mem_earlier.mp h1).1 (by omega)
      have h2' : hOf b a t y = hOf b a t x + 1 := h2
      omega
def topOf (b : Bd) (a t : List Str) : Nat := topH (unlike b a t) (hOf b a t)
theorem top_few {b : Bd} (ok : OkBd b) (B : PBd (bne b) (bcl b)) : topOf b a t ≤ 12 := by
  by_cases e : unlike b a t = []
  · unfold topOf; rw [e]; exact Nat.zero_le _
  · obtain ⟨y, hy, h2⟩ := topH_at (h := hOf b a t) e
    have h1 := earlier_few hy
    have h3 := ht_len ok B hy (Nat.le_refl _)
    have h4 : (unlike b a t).length ≤ 12 := unlike_len ok a t
    unfold topOf
    omega
theorem pht {b : Bd} (B : PBd (bne b) (bcl b)) (ha : OkSt b a) (ht : OkSt b t) : PHt (bne b) (bcl b) (fun p => p ∈ a) (fun p => p ∈ t) (hOf b a t) := by
  have inU : ∀ x, pdif (fun p => p ∈ a) (fun p => p ∈ t) x → x ∈ unlike b a t := fun x hx => by
    refine mem_unlike.mpr ⟨?_, hx⟩
    by_cases e : x ∈ a
    · exact ha.ins x e
    · by_cases e2 : x ∈ t
      · exact ht.ins x e2
      · exact absurd ⟨fun z => absurd z e, fun z => absurd z e2⟩ hx
  have H := okHt (a := a) (t := t) ha.ok B
  refine ⟨fun x y hx hy hb => ?_, fun y n hy hn => ?_⟩
  · have := H.most y (inU y hy) x (mem_earlier.mpr ⟨inU x hx, fun e => pbef_irr B (e ▸ hb), hb⟩)
    exact this
  · have e : earlier b a t y ≠ [] := fun e => by
      have : hOf b a t y = 0 := H.zero y (inU y hy) e
      omega
    obtain ⟨x, h1, h2⟩ := H.some y (inU y hy) e
    obtain ⟨h3, h4, h5⟩ := mem_earlier.mp h1
    have h2' : hOf b a t y = hOf b a t x + 1 := h2
    exact ⟨x, (mem_unlike.mp h3).2, h5, by omega⟩
theorem dif_in {b : Bd} (ha : OkSt b a) (ht : OkSt b t) {x : Str} (hx : pdif (fun p => p ∈ a) (fun p => p ∈ t) x) : x ∈ unlike b a t := by
  refine mem_unlike.mpr ⟨?_, hx⟩
  by_cases e : x ∈ a
  · exact ha.ins x e
  · by_cases e2 : x ∈ t
    · exact ht.ins x e2
    · exact absurd ⟨fun z => absurd z e, fun z => absurd z e2⟩ hx
/-- so many pegs are in a longest chain -/
theorem top_iff {b : Bd} (B : PBd (bne b) (bcl b)) (ha : OkSt b a) (ht : OkSt b t) (n : Nat) : topOf b a t ≤ n ↔ ∀ m y, PCh (bne b) (bcl b) (fun p => p ∈ a) (fun p => p ∈ t) m y → m < n := by
  have H := pht B ha ht
  constructor
  · intro h m y hc
    have h1 := ch_le H hc
    have h2 := topH_le (h := hOf b a t) y (dif_in ha ht hc.dif)
    unfold topOf at h
    omega
  · intro h
    by_cases e : unlike b a t = []
    · unfold topOf; rw [e]; exact Nat.zero_le _
    · obtain ⟨y, hy, h2⟩ := topH_at (h := hOf b a t) e
      have := h _ y (ch_at H (mem_unlike.mp hy).2 rfl)
      unfold topOf
      omega
end
end Nb
set_option Elab.async false
set_option linter.all false
set_option maxRecDepth 100000
set_option maxHeartbeats 2000000
namespace Nb
open PySem
theorem sub_self {P : List Str} (nd : P.Nodup) {l : List Str} (h : l.Sublist P) : P.filter (fun p => decide (p ∈ l)) = l :=
  mem5_self (b := ⟨P, [], fun _ => [], []⟩) nd h
theorem sub_eq {P : List Str} (nd : P.Nodup) {l m : List Str} (h1 : l.Sublist P) (h2 : m.Sublist P) (e : ∀ x, x ∈ l ↔ x ∈ m) : l = m := by
  rw [← sub_self nd h1, ← sub_self nd h2]
  congr 1
  funext x
  exact decide_eq_decide.mpr (e x)
theorem bitAnd_nat (x y : Nat) : Builtin.bitAnd (x : Int) (y : Int) = ((x &&& y : Nat) : Int) := by
  unfold Builtin.bitAnd
  have h1 : decide ((0 : Int) ≤ (x : Nat)) = true := by simp
  have h2 : decide ((0 : Int) ≤ (y : Nat)) = true := by simp
  rw [h1, h2]
  simp
theorem bit_eq (m k : Nat) : bit m k = m.testBit k := by
  unfold bit
  have e : ((m : Int) / 2 ^ k) = ((m / 2 ^ k : Nat) : Int) := by simp
  rw [e, show (1 : Int) = ((1 : Nat) : Int) from rfl, bitAnd_nat, Nat.testBit_eq_decide_div_mod_eq, Nat.and_one_is_mod]
  exact decide_eq_decide.mpr (by omega)
theorem within_iff {p m : Nat} : within p m = true ↔ ∀ i, p.testBit i = true → m.testBit i = true := by
  unfold within
  rw [decide_eq_true_iff, bitAnd_nat]
  constructor
  · intro h i hi
    have h' : p &&& m = p := by omega
    have := Nat.testBit_and p m i
    rw [h', hi] at this
    simpa using this.symm
  · intro h
    have : p &&& m = p := Nat.eq_of_testBit_eq fun i => by
      rw [Nat.testBit_and]
      cases e : p.testBit i
      · rfl
      · rw [h i e]; rfl
    rw [this]
/-- a mask for each choice -/
def mkMask (f : Nat → Bool) : Nat → Nat
  | 0 => 0
  | n + 1 => 2 * mkMask (fun i => f (i + 1)) n + (f 0).toNat
theorem mkMask_lt : ∀ {n : Nat} {f : Nat → Bool}, mkMask f n < 2 ^ n
  | 0, _ => by show 0 < 1; omega
  | n + 1, f => by
    have := mkMask_lt (n := n) (f := fun i => f (i + 1))
    show 2 * mkMask _ n + (f 0).toNat < 2 ^ (n + 1)
    have h2 : (f 0).toNat ≤ 1 := by cases f 0 <;> simp
    rw [Nat.pow_succ]
    omega
theorem mkMask_bit : ∀ {n i : Nat} {f : Nat → Bool}, i < n → (mkMask f n).testBit i = f i
  | n + 1, 0, f, _ => by
    show (2 * mkMask _ n + (f 0).toNat).testBit 0 = f 0
    rw [Nat.testBit_zero]
    cases f 0 <;> simp <;> omega
  | n + 1, i + 1, f, h => by
    show (2 * mkMask (fun i => f (i + 1)) n + (f 0).toNat).testBit (i + 1) = f (i + 1)
    rw [Nat.testBit_succ]
    have e : (2 * mkMask (fun i => f (i + 1)) n + (f 0).toNat) / 2 = mkMask (fun i => f (i + 1)) n := by cases f 0 <;> simp <;> omega
    rw [e]
    exact mkMask_bit (f := fun i => f (i + 1)) (by omega)
theorem mem_flip {pegs row : List Str} {m : Nat} {x : Str} : x ∈ flipM pegs row m ↔ ∃ i : Nat, pegs[i]? = some x ∧ (decide (x ∈ row) != m.testBit i) = true := by
  unfold flipM
  rw [List.mem_map]
  constructor
  · rintro ⟨q, hq, e⟩
    obtain ⟨h1, h2⟩ := List.mem_filter.mp hq
    obtain ⟨i, hi⟩ := List.getElem?_of_mem h1
    obtain ⟨z1, z2⟩ := zipIdx_at hi
    subst e
    exact ⟨i, z1, by rw [bit_eq, z2] at h2; exact h2⟩
  · rintro ⟨i, h1, h2⟩
    obtain ⟨hi, e⟩ := List.getElem?_eq_some_iff.mp h1
    refine ⟨(x, i), List.mem_filter.mpr ⟨List.mem_iff_getElem.mpr ⟨i, by simpa using hi, by simp [e]⟩, by rw [bit_eq]; exact h2⟩, rfl⟩
theorem flip_sub {pegs row : List Str} {m : Nat} : (flipM pegs row m).Sublist pegs := by
  unfold flipM
  have h : ((pegs.zipIdx.filter fun q => decide (q.1 ∈ row) != bit m q.2).map (·.1)).Sublist (pegs.zipIdx.map (·.1)) := List.filter_sublist.map _
  have e : pegs.zipIdx.map (·.1) = pegs := by simp
  rw [e] at h
  exact h
theorem nd_idx {P : List Str} (nd : P.Nodup) {i j : Nat} {x : Str} (h1 : P[i]? = some x) (h2 : P[j]? = some x) : i = j := by
  obtain ⟨hi, e1⟩ := List.getElem?_eq_some_iff.mp h1
  obtain ⟨hj, e2⟩ := List.getElem?_eq_some_iff.mp h2
  exact (List.getElem_inj nd (h₀ := hi) (h₁ := hj)).mp (e1.trans e2.symm)
theorem mem_flip_at {pegs row : List Str} (nd : pegs.Nodup) {m i : Nat} {x : Str} (h : pegs[i]? = some x) : x ∈ flipM pegs row m ↔ (decide (x ∈ row) != m.testBit i) = true := by
  rw [mem_flip]
  exact ⟨fun ⟨j, h1, h2⟩ => by rw [nd_idx nd h h1]; exact h2, fun h2 => ⟨i, h, h2⟩⟩
section
variable {s : Parts} {r t : List Str}
theorem mem_after : t ∈ roundAfter s r ↔ ∃ m, 1 ≤ m ∧ m < 2 ^ s.pegs.length ∧ (∀ p, p < 2 ^ s.pegs.length → within p m = true → isStand s (flipM s.pegs r p) = true) ∧ flipM s.pegs r m = t := by
  unfold roundAfter roundOk
  simp only [List.mem_map, List.mem_filter, List.mem_range, List.all_eq_true, Bool.not_eq_true', Bool.and_eq_false_iff, Bool.not_eq_false']
  constructor
  · rintro ⟨m, ⟨⟨k, hk, e⟩, h⟩, rfl⟩
    refine ⟨m, by omega, by omega, fun p hp hw => ?_, rfl⟩
    rcases h p hp with z | z
    · rw [hw] at z; cases z
    · exact z
  · rintro ⟨m, h1, h2, h, rfl⟩
    refine ⟨m, ⟨⟨m - 1, by omega, by omega⟩, fun p hp => ?_⟩, rfl⟩
    cases e : within p m
    · exact .inl rfl
    · exact .inr (h p hp e)
theorem Drawn.rd_of (h : Drawn s) (hr : r.Sublist s.pegs) (ht : t ∈ roundAfter s r) : PRd (bne (mkBd s)) (bcl (mkBd s)) (fun x => x ∈ r) (fun x => x ∈ t) := by
  obtain ⟨m, _, _, hs, e⟩ := mem_after.mp ht
  subst e
  intro R hR
  classical
  have out : ∀ x, R x → x ∈ s.pegs := fun x hx => by
    rcases hR x with z | z
    · exact hr.subset (z.mp hx)
    · exact flip_sub.subset (z.mp hx)
  let f : Nat → Bool := fun i => (s.pegs[i]?).any fun x => decide (R x) != decide (x ∈ r)
  have hf : ∀ {i : Nat} {x : Str}, s.pegs[i]? = some x → (mkMask f s.pegs.length).testBit i = (decide (R x) != decide (x ∈ r)) := fun {i x} hx => by
    rw [mkMask_bit (List.getElem?_eq_some_iff.mp hx).1]
    show (s.pegs[i]?).any _ = _
    rw [hx]; rfl
  have hm : ∀ x, x ∈ flipM s.pegs r (mkMask f s.pegs.length) ↔ R x := fun x => by
    constructor
    · intro hx
      obtain ⟨i, hi, hb⟩ := mem_flip.mp hx
      rw [hf hi] at hb
      by_cases c : R x
      · exact c
      · simp [c] at hb
    · intro hx
      obtain ⟨i, hi⟩ := List.getElem?_of_mem (out x hx)
      refine mem_flip.mpr ⟨i, hi, ?_⟩
      rw [hf hi]
      by_cases c : x ∈ r <;> simp [hx, c]
  have hw : within (mkMask f s.pegs.length) m = true := within_iff.mpr fun i hi => by
    by_cases c : i < s.pegs.length
    · have hx := List.getElem?_eq_getElem c
      rw [hf hx] at hi
      rcases hR s.pegs[i] with z | z
      · have z' : R s.pegs[i] ↔ s.pegs[i] ∈ r := z
        by_cases c1 : s.pegs[i] ∈ r <;> simp [z', c1] at hi
      · have z' : R s.pegs[i] ↔ (decide (s.pegs[i] ∈ r) != m.testBit i) = true := Iff.trans z (mem_flip_at h.nd hx)
        by_cases c1 : s.pegs[i] ∈ r <;> cases c2 : m.testBit i <;> simp [z', c1, c2] at hi ⊢
    · have : (mkMask f s.pegs.length).testBit i = false := Nat.testBit_lt_two_pow (Nat.lt_of_lt_of_le mkMask_lt (Nat.pow_le_pow_right (by decide) (by omega)))
      rw [this] at hi
      cases hi
  have := (h.stand fun p hp => flip_sub.subset hp).mp (hs _ mkMask_lt hw)
  rw [show (fun x => x ∈ flipM s.pegs r (mkMask f s.pegs.length)) = R from funext fun x => propext (hm x)] at this
  exact this
theorem Drawn.rd_to (h : Drawn s) (hr : r.Sublist s.pegs) (ht : t.Sublist s.pegs) (hne : r ≠ t) (hp : PRd (bne (mkBd s)) (bcl (mkBd s)) (fun x => x ∈ r) (fun x => x ∈ t)) : t ∈ roundAfter s r := by
  let f : Nat → Bool := fun i => (s.pegs[i]?).any fun x => decide (x ∈ t) != decide (x ∈ r)
  have hf : ∀ {i : Nat} {x : Str}, s.pegs[i]? = some x → (mkMask f s.pegs.length).testBit i = (decide (x ∈ t) != decide (x ∈ r)) := fun {i x} hx => by
    rw [mkMask_bit (List.getElem?_eq_some_iff.mp hx).1]
    show (s.pegs[i]?).any _ = _
    rw [hx]; rfl
  have e : flipM s.pegs r (mkMask f s.pegs.length) = t := by
    refine sub_eq h.nd flip_sub ht fun x => ?_
    constructor
    · intro hx
      obtain ⟨i, hi, hb⟩ := mem_flip.mp hx
      rw [hf hi] at hb
      by_cases c : x ∈ t
      · exact c
      · simp [c] at hb
    · intro hx
      obtain ⟨i, hi⟩ := List.getElem?_of_mem (ht.subset hx)
      refine mem_flip.mpr ⟨i, hi, ?_⟩
      rw [hf hi]
      by_cases c : x ∈ r <;> simp [hx, c]
  refine mem_after.mpr ⟨mkMask f s.pegs.length, ?_, mkMask_lt, fun p hpl hw => ?_, e⟩
  · refine Classical.byContradiction fun hn => hne ?_
    have z : mkMask f s.pegs.length = 0 := by omega
    rw [← e, z]
    refine (sub_eq h.nd flip_sub hr fun x => ?_).symm
    rw [mem_flip]
    constructor
    · rintro ⟨i, hi, hb⟩
      rw [Nat.zero_testBit] at hb
      simpa using hb
    · intro hx
      obtain ⟨i, hi⟩ := List.getElem?_of_mem (hr.subset hx)
      exact ⟨i, hi, by rw [Nat.zero_testBit]; simpa using hx⟩
  · refine (h.stand fun q hq => flip_sub.subset hq).mpr (hp _ fun x => ?_)
    by_cases c : x ∈ s.pegs
    · obtain ⟨i, hi⟩ := List.getElem?_of_mem c
      rw [mem_flip_at h.nd hi]
      cases c2 : p.testBit i
      · left; simp
      · right
        have := within_iff.mp hw i c2
        rw [hf hi] at this
        by_cases c3 : x ∈ t <;> by_cases c4 : x ∈ r <;> simp [c3, c4] at this ⊢
    · left
      exact ⟨fun z => absurd (flip_sub.subset z) c, fun z => absurd (hr.subset z) c⟩
end
end Nb
set_option Elab.async false
set_option linter.all false
set_option maxRecDepth 100000
set_option maxHeartbeats 2000000
namespace Nb
open PySem
section
variable {s : Parts} {a t : List Str}
/-- the pegs of less height are turned: as a row -/
def layL (s : Parts) (a t : List Str) (k : Nat) : List Str := s.pegs.filter fun x => (decide (hOf (mkBd s) a t x < k) && decide (x ∈ t)) || (!decide (hOf (mkBd s) a t x < k) && decide (x ∈ a))
theorem mem_lay (ha : a.Sublist s.pegs) (ht : t.Sublist s.pegs) {k : Nat} {x : Str} : x ∈ layL s a t k ↔ play (fun p => p ∈ a) (fun p => p ∈ t) (hOf (mkBd s) a t) k x := by
  unfold layL play
  rw [List.mem_filter]
  simp only [Bool.or_eq_true, Bool.and_eq_true, Bool.not_eq_true', decide_eq_true_iff, decide_eq_false_iff_not]
  exact ⟨fun h => h.2, fun h => ⟨h.elim (fun z => ht.subset z.2) fun z => ha.subset z.2, h⟩⟩
theorem lay_fun (ha : a.Sublist s.pegs) (ht : t.Sublist s.pegs) (k : Nat) : (fun x => x ∈ layL s a t k) = play (fun p => p ∈ a) (fun p => p ∈ t) (hOf (mkBd s) a t) k := funext fun x => propext (mem_lay ha ht)
theorem lay_sub {k : Nat} : (layL s a t k).Sublist s.pegs := List.filter_sublist
theorem lay_zero (nd : s.pegs.Nodup) (ha : a.Sublist s.pegs) (ht : t.Sublist s.pegs) : layL s a t 0 = a :=
  sub_eq nd lay_sub ha fun x => (mem_lay ha ht).trans (play_ge (by omega))
theorem OkSt.subp (h : OkSt (mkBd s) a) : a.Sublist s.pegs := h.sub
theorem lay_top (nd : s.pegs.Nodup) (ha : OkSt (mkBd s) a) (ht : OkSt (mkBd s) t) {k : Nat} (hk : topOf (mkBd s) a t ≤ k) : layL s a t k = t := by
  refine sub_eq nd lay_sub ht.subp fun x => (mem_lay ha.subp ht.subp).trans ?_
  by_cases c : pdif (fun p => p ∈ a) (fun p => p ∈ t) x
  · have := topH_le (h := hOf (mkBd s) a t) x (dif_in ha ht c)
    unfold topOf at hk
    exact play_lt (by omega)
  · have e : x ∈ a ↔ x ∈ t := Classical.not_not.mp c
    by_cases c2 : hOf (mkBd s) a t x < k
    · exact play_lt c2
    · exact (play_ge c2).trans e
theorem Drawn.layRd (h : Drawn s) (ha : OkSt (mkBd s) a) (ht : OkSt (mkBd s) t) (k : Nat) : PRd (bne (mkBd s)) (bcl (mkBd s)) (fun x => x ∈ layL s a t k) (fun x => x ∈ layL s a t (k + 1)) := by
  rw [lay_fun ha.subp ht.subp, lay_fun ha.subp ht.subp]
  exact lay_rd h.pbd (pht h.pbd ha ht) ha.pst ht.pst k
theorem Drawn.layOk (h : Drawn s) (ha : OkSt (mkBd s) a) (ht : OkSt (mkBd s) t) (k : Nat) : OkSt (mkBd s) (layL s a t k) := okSt_of h.okBd lay_sub (h.layRd ha ht k).l
/-- each layer up to the top has a peg -/
theorem Drawn.layPeg (h : Drawn s) (ha : OkSt (mkBd s) a) (ht : OkSt (mkBd s) t) {i : Nat} (hi : i < topOf (mkBd s) a t) : ∃ x ∈ unlike (mkBd s) a t, hOf (mkBd s) a t x = i := by
  have hne : unlike (mkBd s) a t ≠ [] := fun e => by
    unfold topOf at hi
    rw [e] at hi
    exact absurd hi (Nat.not_lt_zero _)
  obtain ⟨y, hy, e⟩ := topH_at (h := hOf (mkBd s) a t) hne
  unfold topOf at hi
  obtain ⟨x, h1, h2⟩ := ht_all (pht h.pbd ha ht) (mem_unlike.mp hy).2 rfl i (by omega)
  exact ⟨x, dif_in ha ht h1, h2⟩
theorem Drawn.layNe (h : Drawn s) (ha : OkSt (mkBd s) a) (ht : OkSt (mkBd s) t) {i : Nat} (hi : i < topOf (mkBd s) a t) : layL s a t i ≠ layL s a t (i + 1) := fun e => by
  obtain ⟨x, hx, e2⟩ := h.layPeg ha ht hi
  have h1 : x ∈ layL s a t i ↔ x ∈ a := (mem_lay ha.subp ht.subp).trans (play_ge (by omega))
  have h2 : x ∈ layL s a t (i + 1) ↔ x ∈ t := (mem_lay ha.subp ht.subp).trans (play_lt (by omega))
  rw [e] at h1
  exact (mem_unlike.mp hx).2 (h1.symm.trans h2)
/-- the layers lead from the one to the other -/
theorem Drawn.reach (h : Drawn s) (ha : OkSt (mkBd s) a) (ht : OkSt (mkBd s) t) : ∀ k, k ≤ topOf (mkBd s) a t → Reach s a k (layL s a t k)
  | 0, _ => lay_zero h.nd ha.subp ht.subp
  | k + 1, hk => ⟨layL s a t k, h.reach ha ht k (by omega), h.rd_to lay_sub lay_sub (h.layNe ha ht (by omega)) (h.layRd ha ht k)⟩
theorem Drawn.reachTop (h : Drawn s) (ha : OkSt (mkBd s) a) (ht : OkSt (mkBd s) t) : Reach s a (topOf (mkBd s) a t) t := by
  have := h.reach ha ht _ (Nat.le_refl _)
  rw [lay_top h.nd ha ht (Nat.le_refl _)] at this
  exact this
theorem after_sub {r : List Str} (ht : t ∈ roundAfter s r) : t.Sublist s.pegs := by
  obtain ⟨m, _, _, _, e⟩ := mem_after.mp ht
  rw [← e]
  exact flip_sub
theorem Drawn.afterOk (h : Drawn s) {r : List Str} (hr : r.Sublist s.pegs) (ht : t ∈ roundAfter s r) : OkSt (mkBd s) t := okSt_of h.okBd (after_sub ht) (h.rd_of hr ht).r
theorem Drawn.reachOk (h : Drawn s) (ha : OkSt (mkBd s) a) : ∀ {n : Nat} {t : List Str}, Reach s a n t → OkSt (mkBd s) t
  | 0, t, e => by rw [show t = a from e]; exact ha
  | n + 1, t, ⟨r, h1, h2⟩ => h.afterOk (h.reachOk ha h1).subp h2
/-- no fewer rounds than a longest chain has pegs -/
theorem Drawn.reachLe (h : Drawn s) (ha : OkSt (mkBd s) a) : ∀ {n : Nat} {t : List Str}, Reach s a n t → topOf (mkBd s) a t ≤ n
  | 0, t, e => by
    rw [show t = a from e, top_iff h.pbd ha ha]
    intro m y hc
    exact absurd Iff.rfl hc.dif
  | n + 1, t, ⟨r, h1, h2⟩ => by
    have hr := h.reachOk ha h1
    have ht := h.afterOk hr.subp h2
    have ih := (top_iff h.pbd ha hr n).mp (h.reachLe ha h1)
    rw [top_iff h.pbd ha ht]
    intro m y hc
    cases m with
    | zero => omega
    | succ m =>
      obtain ⟨x, hx⟩ := ch_step h.pbd (h.rd_of hr.subp h2) hc
      have := ih m x hx
      omega
theorem Drawn.dist (h : Drawn s) (ha : OkSt (mkBd s) a) (ht : OkSt (mkBd s) t) : Dist s a (topOf (mkBd s) a t) t :=
  ⟨h.reachTop ha ht, fun m hm hr => by have := h.reachLe ha hr; omega⟩
/-- the way back -/
theorem Drawn.after_symm (h : Drawn s) {r t : List Str} (hr : OkSt (mkBd s) r) (ht : t ∈ roundAfter s r) : r ∈ roundAfter s t := by
  have hp := h.rd_of hr.subp ht
  by_cases e : t = r
  · exact absurd ht (by
      intro hc
      obtain ⟨m, h1, h2, _, h3⟩ := mem_after.mp hc
      rw [e] at h3
      obtain ⟨i, hi⟩ : ∃ i, m.testBit i = true := Classical.byContradiction fun hn => by
        have : m = 0 := Nat.eq_of_testBit_eq fun i => by
          rw [Nat.zero_testBit]
          cases c : m.testBit i
          · rfl
          · exact absurd ⟨i, c⟩ hn
        omega
      have hil : i < s.pegs.length := Classical.byContradiction fun hn => by
        rw [Nat.testBit_lt_two_pow (Nat.lt_of_lt_of_le h2 (Nat.pow_le_pow_right (by decide) (by omega)))] at hi
        cases hi
      have hx := List.getElem?_eq_getElem hil
      have := mem_flip_at (row := r) (m := m) h.nd hx
      rw [h3, hi] at this
      by_cases c : s.pegs[i] ∈ r <;> simp [c] at this)
  · exact h.rd_to (after_sub ht) hr.subp e hp.symm
theorem reach_cons {s : Parts} : ∀ {n : Nat} {r t u : List Str}, t ∈ roundAfter s r → Reach s t n u → Reach s r (n + 1) u
  | 0, r, t, u, h, e => ⟨r, rfl, by rw [show u = t from e]; exact h⟩
  | n + 1, r, t, u, h, ⟨v, h1, h2⟩ => ⟨v, reach_cons h h1, h2⟩
theorem Drawn.reach_symm (h : Drawn s) (ha : OkSt (mkBd s) a) : ∀ {n : Nat} {t : List Str}, Reach s a n t → Reach s t n a
  | 0, t, e => (show t = a from e).symm
  | n + 1, t, ⟨r, h1, h2⟩ => reach_cons (h.after_symm (h.reachOk ha h1) h2) (h.reach_symm ha h1)
theorem Drawn.top_symm (h : Drawn s) (ha : OkSt (mkBd s) a) (ht : OkSt (mkBd s) t) : topOf (mkBd s) t a = topOf (mkBd s) a t := by
  have h1 := h.reachLe ha (h.reach_symm ht (h.reachTop ht ha))
  have h2 := h.reachLe ht (h.reach_symm ha (h.reachTop ha ht))
  omega
end
end Nb
set_option Elab.async false
set_option linter.all false
set_option maxRecDepth 100000
set_option maxHeartbeats 2000000
namespace Nb
open PySem
theorem canPut_iff {b : Bd} {ms : List Str} {p : Str} : canT b ms (true, p) = true ↔ p ∈ b.order ∧ p ∉ ms ∧ (∀ o ∈ b.row p, o ≠ p → o ∈ ms) ∧ ∀ o ∈ ms, clash b p o = false := by
  show decide (p ∈ freeL b ms) = true ↔ _
  rw [decide_eq_true_iff]
  unfold freeL
  rw [List.mem_filter, Bool.and_eq_true, takes_iff]
  simp
theorem canTake_iff {b : Bd} {ms : List Str} {p : Str} : canT b ms (false, p) = true ↔ p ∈ ms ∧ ∀ o ∈ b.order, o ∈ ms → o ≠ p → p ∉ b.row o := by
  show decide (p ∈ looseL b ms) = true ↔ _
  rw [decide_eq_true_iff]
  unfold looseL
  rw [List.mem_filter, List.isEmpty_iff, nby_nil]
theorem mem_put {b : Bd} {ms : List Str} {p x : Str} : x ∈ applyT b ms (true, p) ↔ x ∈ b.order ∧ (x ∈ ms ∨ x = p) := by
  show x ∈ mem5 b (ms ++ [p]) ↔ _
  rw [mem_mem5]; simp
theorem mem_take {b : Bd} {ms : List Str} {p x : Str} : x ∈ applyT b ms (false, p) ↔ x ∈ ms ∧ x ≠ p := by
  show x ∈ less ms p ↔ _
  exact mem_less
theorem applyT_ne {b : Bd} {ms : List Str} {c : Bool} {p x : Str} (hx : x ∈ b.order) (h : x ≠ p) : x ∈ applyT b ms (c, p) ↔ x ∈ ms := by
  cases c
  · rw [mem_take]; simp [h]
  · rw [mem_put]; simp [h, hx]
theorem applyT_eq {b : Bd} {ms : List Str} {c : Bool} {p : Str} (hx : p ∈ b.order) : p ∈ applyT b ms (c, p) ↔ c = true := by
  cases c
  · rw [mem_take]; simp
  · rw [mem_put]; simp [hx]
theorem applyR_no {b : Bd} {x : Str} (hx : x ∈ b.order) : ∀ {l : List Tn} {ms : List Str}, x ∉ l.map (·.2) → (x ∈ applyR b ms l ↔ x ∈ ms)
  | [], ms, _ => Iff.rfl
  | (c, p) :: l, ms, h => by
    have h' : ¬ (x = p) ∧ x ∉ l.map (·.2) := by
      rw [List.map_cons, List.mem_cons, not_or] at h
      exact h
    exact (applyR_no hx (l := l) (ms := applyT b ms (c, p)) h'.2).trans (applyT_ne hx h'.1)
theorem mem_applyR {b : Bd} {x : Str} (hx : x ∈ b.order) : ∀ {l : List Tn} {ms : List Str}, (l.map (·.2)).Nodup → (x ∈ applyR b ms l ↔ (true, x) ∈ l ∨ (x ∈ ms ∧ (false, x) ∉ l))
  | [], ms, _ => by show x ∈ ms ↔ _; simp
  | (c, p) :: l, ms, nd => by
    rw [List.map_cons, List.nodup_cons] at nd
    show x ∈ applyR b (applyT b ms (c, p)) l ↔ _
    by_cases e : x = p
    · subst e
      have n1 : ∀ d, (d, x) ∉ l := fun d hd => nd.1 (List.mem_map.mpr ⟨(d, x), hd, rfl⟩)
      rw [applyR_no hx nd.1, applyT_eq hx]
      have n2 := n1 true
      have n3 := n1 false
      cases c <;> simp [n2, n3]
    · rw [mem_applyR hx nd.2, applyT_ne hx e]
      simp [e]
theorem isRound_iff {b : Bd} {ms : List Str} {ts : List Tn} : isRound b ms ts = true ↔ ts ≠ [] ∧ (∀ t ∈ ts, canT b ms t = true) ∧ ∀ (i j : Nat) (p q : Tn), i ≠ j → ts[i]? = some p → ts[j]? = some q → canT b (applyT b ms p) q = true := by
  unfold isRound
  rw [Bool.and_eq_true, Bool.and_eq_true, List.all_eq_true, List.all_eq_true]
  constructor
  · rintro ⟨⟨h1, h2⟩, h3⟩
    refine ⟨fun e => by rw [e] at h1; simp at h1, h2, fun i j p q hij hi hj => ?_⟩
    obtain ⟨hi', e⟩ := List.getElem?_eq_some_iff.mp hi
    have := h3 (p, i) (List.mem_iff_getElem.mpr ⟨i, by simpa using hi', by simp [e]⟩)
    rw [List.all_eq_true] at this
    refine this q ?_
    unfold others
    rw [List.mem_append]
    rcases Nat.lt_or_gt_of_ne hij with c | c
    · right
      refine List.mem_of_getElem? (i := j - (i + 1)) ?_
      rw [List.getElem?_drop, show i + 1 + (j - (i + 1)) = j by omega]
      exact hj
    · left
      refine List.mem_of_getElem? (i := j) ?_
      rw [List.getElem?_take_of_lt c]
      exact hj
  · rintro ⟨h1, h2, h3⟩
    refine ⟨⟨by cases ts with
      | nil => exact absurd rfl h1
      | cons t ts => rfl, h2⟩, fun q hq => ?_⟩
    obtain ⟨i, hi⟩ := List.getElem?_of_mem hq
    obtain ⟨z1, z2⟩ := zipIdx_at hi
    rw [List.all_eq_true]
    intro x hx
    unfold others at hx
    rcases List.mem_append.mp hx with hx | hx
    · obtain ⟨j, hj⟩ := List.getElem?_of_mem hx
      have hl := (List.getElem?_eq_some_iff.mp hj).1
      rw [List.length_take] at hl
      rw [List.getElem?_take_of_lt (by omega)] at hj
      exact h3 i j q.1 x (by omega) z1 hj
    · obtain ⟨j, hj⟩ := List.getElem?_of_mem hx
      rw [List.getElem?_drop] at hj
      exact h3 i (q.2 + 1 + j) q.1 x (by omega) z1 hj
theorem nd_tn {r : List Tn} (nd : (r.map (·.2)).Nodup) {i j : Nat} {p : Str} {c d : Bool} (hi : r[i]? = some (c, p)) (hj : r[j]? = some (d, p)) : i = j := by
  refine nd_idx (x := p) nd ?_ ?_
  · rw [List.getElem?_map, hi]; rfl
  · rw [List.getElem?_map, hj]; rfl
theorem in_take {r : List Tn} {i : Nat} {t : Tn} (h : t ∈ r.take i) : ∃ j, j < i ∧ r[j]? = some t := by
  obtain ⟨j, hj⟩ := List.getElem?_of_mem h
  have hl := (List.getElem?_eq_some_iff.mp hj).1
  rw [List.length_take] at hl
  rw [List.getElem?_take_of_lt (by omega)] at hj
  exact ⟨j, by omega, hj⟩
theorem roundSeq : RoundSeq := by
  intro b s r st nd hr
  obtain ⟨h1, h2, h3⟩ := isRound_iff.mp hr
  have key : ∀ (i : Nat) (t : Tn), OkSt b (applyR b s (r.take i)) → r[i]? = some t → CanTurn b (applyR b s (r.take i)) t := by
    rintro i ⟨c, p⟩ oi hi
    have c0 := h2 _ (List.mem_of_getElem? hi)
    have ndi : ((r.take i).map (·.2)).Nodup := by
      rw [List.map_take]
      exact nd.sublist (List.take_sublist _ _)
    have no : ∀ d, (d, p) ∉ r.take i := fun d hd => by
      obtain ⟨j, hj, e⟩ := in_take hd
      have := nd_tn nd hi e
      omega
    have pr : ∀ {q : Tn}, q ∈ r.take i → canT b (applyT b s q) (c, p) = true := fun {q} hq => by
      obtain ⟨j, hj, e⟩ := in_take hq
      exact h3 j i q (c, p) (by omega) e hi
    refine Nb.can_turn oi ?_
    cases c with
    | true =>
      obtain ⟨z1, z2, z3, z4⟩ := canPut_iff.mp c0
      refine canPut_iff.mpr ⟨z1, fun hp => ?_, fun o ho hne => ?_, fun o ho => ?_⟩
      · rcases (mem_applyR z1 ndi).mp hp with h | h
        · exact no _ h
        · exact z2 h.1
      · have os := z3 o ho hne
        refine (mem_applyR (st.ins o os) ndi).mpr (.inr ⟨os, fun hf => ?_⟩)
        have := (canPut_iff.mp (pr hf)).2.2.1 o ho hne
        exact (mem_take.mp this).2 rfl
      · have oo := oi.ins o ho
        rcases (mem_applyR oo ndi).mp ho with h | h
        · exact (canPut_iff.mp (pr h)).2.2.2 o (mem_put.mpr ⟨oo, .inr rfl⟩)
        · exact z4 o h.1
    | false =>
      obtain ⟨z1, z2⟩ := canTake_iff.mp c0
      refine canTake_iff.mpr ⟨(mem_applyR (st.ins p z1) ndi).mpr (.inr ⟨z1, no _⟩), fun o oo ho hne => ?_⟩
      rcases (mem_applyR oo ndi).mp ho with h | h
      · exact (canTake_iff.mp (pr h)).2 o oo (mem_put.mpr ⟨oo, .inr rfl⟩) hne
      · exact z2 o oo h.1 hne
  have ok : ∀ i, i ≤ r.length → OkSt b (applyR b s (r.take i)) := by
    intro i
    induction i with
    | zero => intro _; exact st
    | succ i ih =>
      intro hi
      have e := List.getElem?_eq_getElem (show i < r.length by omega)
      rw [applyR_succ e]
      exact (key i _ (ih (by omega)) e).st
  intro i t hi
  exact key i t (ok i (by have := (List.getElem?_eq_some_iff.mp hi).1; omega)) hi
/-- a turn can be made where what it leads to is a stand -/
theorem canT_of {b : Bd} {S : List Str} (st : OkSt b S) {c : Bool} {p : Str} (hp : p ∈ b.order) (hc : c = true ↔ p ∉ S) (h : PSt (bne b) (bcl b) (fun x => (x = p ∧ c = true) ∨ (x ≠ p ∧ x ∈ S))) : canT b S (c, p) = true := by
  cases c with
  | true =>
    have np := hc.mp rfl
    refine canPut_iff.mpr ⟨hp, np, fun o ho hne => ?_, fun o ho => ?_⟩
    · rcases h.dn p o (.inl ⟨rfl, rfl⟩) (bne_iff.mpr ⟨fun e => hne e.symm, ho⟩) with z | z
      · exact absurd z.1 hne
      · exact z.2
    · cases e : clash b p o with
      | false => rfl
      | true => exact absurd e (h.fr p o (.inl ⟨rfl, rfl⟩) (.inr ⟨fun e => np (e ▸ ho), ho⟩))
  | false =>
    have ip : p ∈ S := Classical.byContradiction fun z => by have := hc.mpr z; cases this
    refine canTake_iff.mpr ⟨ip, fun o oo ho hne hr => ?_⟩
    rcases h.dn o p (.inr ⟨hne, ho⟩) (bne_iff.mpr ⟨hne, hr⟩) with z | z
    · cases z.2
    · exact z.1 rfl
section
variable {b : Bd} {S T : List Str} {ps : List Str}
/-- the turns of a round, each on the way to the next stand -/
theorem round_to (ok : OkBd b) (hp : PRd (bne b) (bcl b) (fun x => x ∈ S) (fun x => x ∈ T)) (sS : S.Sublist b.order) (sT : T.Sublist b.order) (nd : ps.Nodup) (hps : ∀ p, p ∈ ps ↔ p ∈ b.order ∧ pdif (fun x => x ∈ S) (fun x => x ∈ T) p) (hne : ps ≠ []) :
    isRound b S (ps.map (turnOf T)) = true ∧ applyR b S (ps.map (turnOf T)) = T := by
  have oS : OkSt b S := okSt_of ok sS hp.l
  have e2 : (ps.map (turnOf T)).map (·.2) = ps := by rw [List.map_map]; exact List.map_id' ps
  have one : ∀ p ∈ ps, canT b S (turnOf T p) = true := fun p h => by
    obtain ⟨h1, h2⟩ := (hps p).mp h
    refine canT_of oS h1 ?_ (hp _ fun x => ?_)
    · rw [decide_eq_true_iff]
      unfold pdif at h2
      by_cases c1 : p ∈ S <;> by_cases c2 : p ∈ T <;> simp_all
    · by_cases e : x = p
      · subst e; right; simp
      · left; simp [e]
  have hr : isRound b S (ps.map (turnOf T)) = true := by
    refine isRound_iff.mpr ⟨fun e => hne (List.map_eq_nil_iff.mp e), fun t ht => ?_, fun i j t u hij hi hj => ?_⟩
    · obtain ⟨p, h, e⟩ := List.mem_map.mp ht
      rw [← e]; exact one p h
    · rw [List.getElem?_map] at hi hj
      obtain ⟨p, hp1, e1⟩ := Option.map_eq_some_iff.mp hi
      obtain ⟨q, hq1, e2⟩ := Option.map_eq_some_iff.mp hj
      subst e1; subst e2
      have ip := List.mem_of_getElem? hp1
      have iq := List.mem_of_getElem? hq1
      obtain ⟨p1, p2⟩ := (hps p).mp ip
      obtain ⟨q1, q2⟩ := (hps q).mp iq
      have hqp : q ≠ p := fun e => hij (by subst e; exact nd_idx nd hp1 hq1)
      have oA : OkSt b (applyT b S (turnOf T p)) := (Nb.can_turn oS (one p ip)).st
      have mA : ∀ x, x ∈ applyT b S (turnOf T p) ↔ (x = p ∧ x ∈ T) ∨ (x ≠ p ∧ x ∈ S) := fun x => by
        by_cases c : x ∈ b.order
        · by_cases e : x = p
          · subst e
            rw [show turnOf T x = (decide (x ∈ T), x) from rfl, applyT_eq c]; simp
          · rw [show turnOf T p = (decide (p ∈ T), p) from rfl, applyT_ne c e]; simp [e]
        · exact ⟨fun z => absurd (oA.ins x z) c, fun z => z.elim (fun w => absurd (sT.subset w.2) c) fun w => absurd (sS.subset w.2) c⟩
      refine canT_of oA q1 ?_ (hp _ fun x => ?_)
      · rw [decide_eq_true_iff, mA]
        unfold pdif at q2
        by_cases c1 : q ∈ S <;> by_cases c2 : q ∈ T <;> simp_all
      · by_cases e : x = q
        · subst e; right; simp
        · by_cases e3 : x = p
          · subst e3; right; simp [e, mA]
          · left; simp [e, e3, mA]
  refine ⟨hr, ?_⟩
  have sq := roundSeq b S _ oS (by rw [e2]; exact nd) hr
  have oE := sq.st oS (ps.map (turnOf T)).length (Nat.le_refl _)
  rw [List.take_length] at oE
  refine sub_eq ok.nd oE.sub sT fun x => ?_
  by_cases c : x ∈ b.order
  · rw [mem_applyR c (by rw [e2]; exact nd)]
    have m : ∀ d, (d, x) ∈ ps.map (turnOf T) ↔ x ∈ ps ∧ decide (x ∈ T) = d := fun d => by
      rw [List.mem_map]
      constructor
      · rintro ⟨p, h1, h2⟩
        have h3 : decide (p ∈ T) = d ∧ p = x := by simpa [turnOf] using h2
        rw [← h3.2]; exact ⟨h1, h3.1⟩
      · rintro ⟨h1, h2⟩
        exact ⟨x, h1, by unfold turnOf; rw [h2]⟩
    rw [m, m, hps]
    unfold pdif
    by_cases c1 : x ∈ S <;> by_cases c2 : x ∈ T <;> simp [c, c1, c2]
  · exact ⟨fun z => absurd (oE.ins x z) c, fun z => absurd (sT.subset z) c⟩
end
end Nb
set_option Elab.async false
set_option linter.all false
set_option maxRecDepth 100000
set_option maxHeartbeats 2000000
namespace Nb
open PySem
def negT (t : Tn) : Tn := (!t.1, t.2)
section
variable {s : Parts} {a t : List Str}
theorem layer_dif (ha : a.Sublist s.pegs) (ht : t.Sublist s.pegs) {k : Nat} {p : Str} : pdif (fun x => x ∈ layL s a t k) (fun x => x ∈ layL s a t (k + 1)) p ↔ pdif (fun x => x ∈ a) (fun x => x ∈ t) p ∧ hOf (mkBd s) a t p = k := by
  rw [lay_fun ha ht, lay_fun ha ht]
  unfold pdif
  by_cases c : hOf (mkBd s) a t p = k
  · have e1 : play (fun p => p ∈ a) (fun p => p ∈ t) (hOf (mkBd s) a t) k p ↔ p ∈ a := play_ge (by omega)
    have e2 : play (fun p => p ∈ a) (fun p => p ∈ t) (hOf (mkBd s) a t) (k + 1) p ↔ p ∈ t := play_lt (by omega)
    rw [e1, e2]
    simp [c]
  · by_cases d : hOf (mkBd s) a t p < k
    · have e1 : play (fun p => p ∈ a) (fun p => p ∈ t) (hOf (mkBd s) a t) k p ↔ p ∈ t := play_lt d
      have e2 : play (fun p => p ∈ a) (fun p => p ∈ t) (hOf (mkBd s) a t) (k + 1) p ↔ p ∈ t := play_lt (by omega)
      rw [e1, e2]
      simp [c]
    · have e1 : play (fun p => p ∈ a) (fun p => p ∈ t) (hOf (mkBd s) a t) k p ↔ p ∈ a := play_ge d
      have e2 : play (fun p => p ∈ a) (fun p => p ∈ t) (hOf (mkBd s) a t) (k + 1) p ↔ p ∈ a := play_ge (by omega)
      rw [e1, e2]
      simp [c]
def layerP (s : Parts) (a t : List Str) (i : Nat) : List Str := (unlike (mkBd s) a t).filter fun p => decide (hOf (mkBd s) a t p = i)
theorem mem_layer {i : Nat} {p : Str} : p ∈ layerP s a t i ↔ p ∈ (mkBd s).order ∧ pdif (fun x => x ∈ a) (fun x => x ∈ t) p ∧ hOf (mkBd s) a t p = i := by
  unfold layerP
  rw [List.mem_filter, mem_unlike, decide_eq_true_iff]
  exact ⟨fun ⟨⟨h1, h2⟩, h3⟩ => ⟨h1, h2, h3⟩, fun ⟨h1, h2, h3⟩ => ⟨⟨h1, h2⟩, h3⟩⟩
theorem Drawn.layer_ne (h : Drawn s) (ha : OkSt (mkBd s) a) (ht : OkSt (mkBd s) t) {i : Nat} (hi : i < topOf (mkBd s) a t) : layerP s a t i ≠ [] := fun e => by
  obtain ⟨x, h1, h2⟩ := h.layPeg ha ht hi
  have : x ∈ layerP s a t i := List.mem_filter.mpr ⟨h1, by simpa using h2⟩
  rw [e] at this
  cases this
theorem layer_nd (nd : s.pegs.Nodup) {i : Nat} : (layerP s a t i).Nodup := by
  have h1 : (unlike (mkBd s) a t).Nodup := List.Pairwise.filter _ nd
  exact List.Pairwise.filter _ h1
theorem turns_to (ha : a.Sublist s.pegs) (ht : t.Sublist s.pegs) {i : Nat} : (layerP s a t i).map (turnOf (layL s a t (i + 1))) = (layerP s a t i).map (turnOf t) := by
  refine List.map_congr_left fun p hp => ?_
  obtain ⟨_, _, h3⟩ := mem_layer.mp hp
  have e : p ∈ layL s a t (i + 1) ↔ p ∈ t := (mem_lay ha ht).trans (play_lt (by omega))
  unfold turnOf
  rw [decide_eq_decide.mpr e]
theorem turns_back (ha : a.Sublist s.pegs) (ht : t.Sublist s.pegs) {i : Nat} : (layerP s a t i).map (turnOf (layL s a t i)) = ((layerP s a t i).map (turnOf t)).map negT := by
  rw [List.map_map]
  refine List.map_congr_left fun p hp => ?_
  obtain ⟨_, h2, h3⟩ := mem_layer.mp hp
  have e : p ∈ layL s a t i ↔ p ∈ a := (mem_lay ha ht).trans (play_ge (by omega))
  show (decide (p ∈ layL s a t i), p) = (!decide (p ∈ t), p)
  congr 1
  have h2' : ¬ (p ∈ a ↔ p ∈ t) := h2
  by_cases c1 : p ∈ a <;> by_cases c2 : p ∈ t <;> simp_all
theorem Drawn.step_to (h : Drawn s) (ha : OkSt (mkBd s) a) (ht : OkSt (mkBd s) t) {i : Nat} (hi : i < topOf (mkBd s) a t) :
    isRound (mkBd s) (layL s a t i) ((layerP s a t i).map (turnOf t)) = true ∧ applyR (mkBd s) (layL s a t i) ((layerP s a t i).map (turnOf t)) = layL s a t (i + 1) := by
  have := round_to h.okBd (h.layRd ha ht i) lay_sub lay_sub (layer_nd h.nd) (fun p => by rw [mem_layer, layer_dif ha.subp ht.subp]) (h.layer_ne ha ht hi)
  rw [turns_to ha.subp ht.subp] at this
  exact this
theorem Drawn.step_back (h : Drawn s) (ha : OkSt (mkBd s) a) (ht : OkSt (mkBd s) t) {i : Nat} (hi : i < topOf (mkBd s) a t) :
    isRound (mkBd s) (layL s a t (i + 1)) (((layerP s a t i).map (turnOf t)).map negT) = true ∧ applyR (mkBd s) (layL s a t (i + 1)) (((layerP s a t i).map (turnOf t)).map negT) = layL s a t i := by
  have := round_to h.okBd (h.layRd ha ht i).symm lay_sub lay_sub (layer_nd h.nd) (fun p => by
    rw [mem_layer, ← layer_dif ha.subp ht.subp]
    unfold pdif
    exact ⟨fun ⟨h1, h2⟩ => ⟨h1, fun z => h2 z.symm⟩, fun ⟨h1, h2⟩ => ⟨h1, fun z => h2 z.symm⟩⟩) (h.layer_ne ha ht hi)
  rw [turns_back ha.subp ht.subp] at this
  exact this
/-- the program's rounds -/
def theRounds (s : Parts) (a t : List Str) : List (List Tn) := roundsOf (unlike (mkBd s) a t) t (hOf (mkBd s) a t)
theorem rounds_eq : theRounds s a t = (List.range (topOf (mkBd s) a t)).map fun i => (layerP s a t i).map (turnOf t) := rfl
theorem rounds_len : (theRounds s a t).length = topOf (mkBd s) a t := by rw [rounds_eq]; simp
theorem Drawn.lead_to (h : Drawn s) (ha : OkSt (mkBd s) a) (ht : OkSt (mkBd s) t) : ∀ (k i : Nat), i + k = topOf (mkBd s) a t → lead (mkBd s) (layL s a t i) ((List.range' i k).map fun i => (layerP s a t i).map (turnOf t)) t = true
  | 0, i, e => by
    show decide (layL s a t i = t) = true
    rw [lay_top h.nd ha ht (by omega)]
    simp
  | k + 1, i, e => by
    obtain ⟨h1, h2⟩ := h.step_to ha ht (i := i) (by omega)
    rw [List.range'_succ, List.map_cons]
    show (isRound _ _ _ && lead _ (applyR _ _ _) _ t) = true
    rw [h1, h2]
    exact h.lead_to ha ht k (i + 1) (by omega)
theorem Drawn.leads (h : Drawn s) (ha : OkSt (mkBd s) a) (ht : OkSt (mkBd s) t) : lead (mkBd s) a (theRounds s a t) t = true := by
  have := h.lead_to ha ht _ 0 (Nat.zero_add _)
  rw [lay_zero h.nd ha.subp ht.subp, ← List.range_eq_range'] at this
  exact this
theorem Drawn.lead_from (h : Drawn s) (ha : OkSt (mkBd s) a) (ht : OkSt (mkBd s) t) : ∀ i, i ≤ topOf (mkBd s) a t → lead (mkBd s) (layL s a t i) ((List.range i).reverse.map fun i => ((layerP s a t i).map (turnOf t)).map negT) a = true
  | 0, _ => by
    show decide (layL s a t 0 = a) = true
    rw [lay_zero h.nd ha.subp ht.subp]
    simp
  | i + 1, e => by
    obtain ⟨h1, h2⟩ := h.step_back ha ht (i := i) (by omega)
    rw [List.range_succ, List.reverse_append, List.reverse_cons, List.reverse_nil, List.nil_append, List.map_append, List.map_cons, List.map_nil, List.singleton_append]
    show (isRound _ _ _ && lead _ (applyR _ _ _) _ a) = true
    rw [h1, h2]
    exact h.lead_from ha ht i (by omega)
def aboutOf (rs : List (List Tn)) : List (List Tn) := rs.reverse.map fun r => r.map negT
theorem Drawn.leads_back (h : Drawn s) (ha : OkSt (mkBd s) a) (ht : OkSt (mkBd s) t) : lead (mkBd s) t (aboutOf (theRounds s a t)) a = true := by
  have := h.lead_from ha ht _ (Nat.le_refl _)
  rw [lay_top h.nd ha ht (Nat.le_refl _)] at this
  unfold aboutOf
  rw [rounds_eq, ← List.map_reverse, List.map_map]
  exact this
theorem lead_keeps {b : Bd} {x : Str} (hx : x ∈ b.order) : ∀ {rs : List (List Tn)} {u v : List Str}, (∀ r ∈ rs, x ∉ r.map (·.2)) → lead b u rs v = true → (x ∈ u ↔ x ∈ v)
  | [], u, v, _, h => by
    have : u = v := of_decide_eq_true h
    rw [this]
  | r :: rs, u, v, hr, h => by
    have h' : isRound b u r = true ∧ lead b (applyR b u r) rs v = true := Bool.and_eq_true_iff.mp h
    exact (applyR_no hx (hr r (by simp))).symm.trans (lead_keeps hx (fun r' h => hr r' (by simp [h])) h'.2)
theorem Drawn.tail_not (h : Drawn s) (ha : OkSt (mkBd s) a) (ht : OkSt (mkBd s) t) (hne : theRounds s a t ≠ []) : lead (mkBd s) a ((theRounds s a t).drop 1) t = false := by
  cases e : lead (mkBd s) a ((theRounds s a t).drop 1) t with
  | false => rfl
  | true =>
    have hpos : 0 < topOf (mkBd s) a t := by
      rw [← rounds_len]
      exact List.length_pos_iff.mpr hne
    obtain ⟨x, h1, h2⟩ := h.layPeg ha ht hpos
    obtain ⟨h3, h4⟩ := mem_unlike.mp h1
    refine absurd (lead_keeps h3 (fun r hr => ?_) e) h4
    obtain ⟨j, hj⟩ := List.getElem?_of_mem hr
    rw [List.getElem?_drop, rounds_eq, List.getElem?_map] at hj
    obtain ⟨i, hi, e2⟩ := Option.map_eq_some_iff.mp hj
    have hi' : i = 1 + j := by
      obtain ⟨hl, e3⟩ := List.getElem?_eq_some_iff.mp hi
      simpa using e3.symm
    subst e2
    rw [List.map_map]
    intro hm
    obtain ⟨p, hp, e4⟩ := List.mem_map.mp hm
    have e5 : p = x := e4
    subst e5
    have := (mem_layer.mp hp).2.2
    omega
/-! what the walks ask -/
theorem Drawn.okRn (h : Drawn s) : OkBd (mkBd s) ∧ OkHt (RnA.mk (mkBd s) a t (hOf (mkBd s) a t)).ht ∧ topH (unlike (mkBd s) a t) (hOf (mkBd s) a t) ≤ 12 :=
  ⟨h.okBd, okHt h.okBd h.pbd, top_few h.okBd h.pbd⟩
theorem rounds_each (nd : s.pegs.Nodup) (few : s.pegs.length ≤ 8) : ∀ r ∈ theRounds s a t, r.length ≤ 12 ∧ (r.map (·.2)).Nodup := by
  intro r hr
  rw [rounds_eq] at hr
  obtain ⟨i, _, e⟩ := List.mem_map.mp hr
  subst e
  refine ⟨?_, ?_⟩
  · rw [List.length_map]
    refine Nat.le_trans (List.length_filter_le _ _) (Nat.le_trans (List.length_filter_le _ _) ?_)
    show s.pegs.length ≤ 12
    omega
  · rw [List.map_map]
    exact (List.map_id' (layerP s a t i)).symm ▸ layer_nd nd
theorem Drawn.okLd (h : Drawn s) (ha : OkSt (mkBd s) a) (ht : OkSt (mkBd s) t) : OkLd ⟨mkBd s, a, t, theRounds s a t⟩ :=
  ⟨ha, ht, by show (theRounds s a t).length ≤ 100; rw [rounds_len]; have := top_few (a := a) (t := t) h.okBd h.pbd; omega, rounds_each h.nd h.few⟩
theorem Drawn.okLdBack (h : Drawn s) (ha : OkSt (mkBd s) a) (ht : OkSt (mkBd s) t) : OkLd ⟨mkBd s, t, a, aboutOf (theRounds s a t)⟩ := by
  refine ⟨ht, ha, ?_, fun r hr => ?_⟩
  · show (aboutOf (theRounds s a t)).length ≤ 100
    unfold aboutOf
    rw [List.length_map, List.length_reverse, rounds_len]
    have := top_few (a := a) (t := t) h.okBd h.pbd
    omega
  · obtain ⟨r', h1, e⟩ := List.mem_map.mp hr
    obtain ⟨z1, z2⟩ := rounds_each h.nd h.few r' (List.mem_reverse.mp h1)
    subst e
    refine ⟨by rw [List.length_map]; exact z1, ?_⟩
    rw [List.map_map]
    exact z2
theorem Drawn.okLdTail (h : Drawn s) (ha : OkSt (mkBd s) a) (ht : OkSt (mkBd s) t) : OkLd ⟨mkBd s, a, t, (theRounds s a t).drop 1⟩ := by
  have := h.okLd ha ht
  exact ⟨ha, ht, by have := this.few; show ((theRounds s a t).drop 1).length ≤ 100; rw [List.length_drop]; exact Nat.le_trans (Nat.sub_le _ _) this, fun r hr => this.rs r (List.mem_of_mem_drop hr)⟩
/-! the law's sets -/
theorem mem_pick {P : List Str} {m : Nat} : pick P (spots P.length m) = P.zipIdx.filterMap fun q => if bit m q.2 then some q.1 else none := by
  unfold pick spots
  have e : P.zipIdx = (List.range P.length).map fun k => (P.getD k Str.empty, k) := by
    refine List.ext_getElem? fun k => ?_
    rw [List.getElem?_map]
    by_cases c : k < P.length
    · rw [List.getElem?_range c, List.getElem?_zipIdx, List.getElem?_eq_getElem c]
      simp [List.getD, c]
    · rw [List.getElem?_eq_none (by simpa using c), List.getElem?_eq_none (by simpa using c)]; rfl
  rw [e, List.filterMap_map]
  generalize List.range P.length = L
  induction L with
  | nil => rfl
  | cons k L ih =>
    rw [List.filter_cons, List.filterMap_cons]
    cases c : bit m k
    · simpa [c] using ih
    · simpa [c] using ih
theorem pick_flip {P : List Str} {m : Nat} : pick P (spots P.length m) = flipM P [] m := by
  rw [mem_pick]
  unfold flipM
  generalize P.zipIdx = L
  induction L with
  | nil => rfl
  | cons q L ih =>
    rw [List.filterMap_cons, List.filter_cons]
    cases c : bit m q.2 <;> simp [c, ih]
theorem Drawn.setOk (h : Drawn s) (ht : t ∈ setsOf s) : OkSt (mkBd s) t := by
  obtain ⟨h1, h2⟩ := List.mem_filter.mp ht
  obtain ⟨m, _, e⟩ := List.mem_map.mp h1
  rw [pick_flip] at e
  have sub : t.Sublist s.pegs := by rw [← e]; exact flip_sub
  exact okSt_of h.okBd sub ((h.stand fun p hp => sub.subset hp).mp h2)
theorem Drawn.setIn (h : Drawn s) (ht : OkSt (mkBd s) t) : t ∈ setsOf s := by
  let f : Nat → Bool := fun i => (s.pegs[i]?).any fun x => decide (x ∈ t)
  refine List.mem_filter.mpr ⟨List.mem_map.mpr ⟨mkMask f s.pegs.length, List.mem_range.mpr mkMask_lt, ?_⟩, (h.stand fun p hp => ht.subp.subset hp).mpr ht.pst⟩
  rw [pick_flip]
  refine sub_eq h.nd flip_sub ht.subp fun x => ?_
  rw [mem_flip]
  have hf : ∀ {i : Nat} {x : Str}, s.pegs[i]? = some x → (mkMask f s.pegs.length).testBit i = decide (x ∈ t) := fun {i x} hx => by
    rw [mkMask_bit (List.getElem?_eq_some_iff.mp hx).1]
    show (s.pegs[i]?).any _ = _
    rw [hx]; rfl
  constructor
  · rintro ⟨i, hi, hb⟩
    rw [hf hi] at hb
    simpa using hb
  · intro hx
    obtain ⟨i, hi⟩ := List.getElem?_of_mem (ht.subp.subset hx)
    exact ⟨i, hi, by rw [hf hi]; simpa using hx⟩
theorem sets_len (few : s.pegs.length ≤ 8) : (setsOf s).length ≤ 256 := by
  unfold setsOf
  refine Nat.le_trans (List.length_filter_le _ _) ?_
  rw [List.length_map, List.length_range]
  exact Nat.pow_le_pow_right (n := 2) (by decide) few
end
end Nb
set_option Elab.async false
set_option linter.all false
set_option maxRecDepth 100000
set_option maxHeartbeats 2000000
namespace Nb
open PySem PySem.Spec PyProof.Rows L2
section
variable {E : EC} {B Bo : Addr → Prop} {δ : Ds} {Ω : Post} {ss : List Stmt} {H H' H2 : Hp} {e a b : Expr} {pos p : Pos}
/-! a script: a list of ints from outside -/
theorem ev_lenScr {ns : List Int} (ha : EV E e δ (.scr ns)) (hg : GlS E.sc "len") (hm : E.mg "len" = none) (hs : ∀ env, starEach [e] env = (false, eval e env) :: starEach [] env := by intro _; rfl) : EV E (.Call (.Name "len" p) [e] [] pos) δ (.d (.int ns.length)) :=
  ev_callB (fun X hX => fam_Kc hX (r := fun K xs H Q => ∃ p ys, xs = [.ref p] ∧ (SqL K H p ys ∨ SqT K H p ys) ∧ Q (.int ys.length) H) call_len_seq) hg hm boot_len (ea_1 ha hs) (fun B vs H dom cb rs Q q => by
    obtain ⟨v, rfl, rv⟩ := rs.one
    obtain ⟨p, rfl, h1, h2⟩ := rv
    exact ⟨p, _, rfl, .inl h2, q _ H Le.refl (re_int.mpr (by rw [List.length_map]))⟩) hs
theorem evp_ixScr {ns : List Int} {i : Nat} (ha : EV E a δ (.scr ns)) (hb : EV E b δ (.d (.int i))) (hi : i < ns.length) (hs : PlainIx b := by exact fun _ _ => rfl) : EVP E (.Subscript a b pos) δ anyInt := fun B γ σ H er Q q =>
  we_of (fun X hX => pe_ix (fam_Ki hX (r := rIxL) ix_list) (we_pe hX) (we_pe hX) hs) (ha B γ σ H er _ fun v H1 l1 rv => hb B γ σ H1 (er.step l1) _ fun y H2 l2 ry => by
    obtain ⟨a, rfl, hc, h⟩ := rv.step l2 er.cb
    rw [re_int] at ry
    have e1 : (ns.map V.int)[i]? = some (V.int ns[i]) := by rw [List.getElem?_map, List.getElem?_eq_getElem hi]; rfl
    exact ⟨a, _, (i : Int), .int ns[i], rfl, ry, h, by unfold atI ixN; rw [if_pos (by omega), if_pos (by rw [List.length_map]; omega)]; simpa using e1, q (.d (.int ns[i])) _ H2 ⟨_, rfl⟩ (l1.trans l2) (re_int.mpr rfl)⟩)
end
def isBox (d : D) : Prop := ∃ x y z : Int, d = .lst [.int x, .int y, .int z]
def spBx (g : Glob) : Sp := fun vs H Q _ => ∃ (a : Addr) (ns : List Int) (k : Nat), vs = [.ref a, .int k] ∧ SqL g.K H a (ns.map V.int) ∧ k ≤ 1000 ∧ LamX.Tabs g.T H ∧ ∀ p H', Le g.T no no H H' → H p = none → Is3 H' p → Q (.ref p) H'
section
variable {g : Glob}
theorem scBox : FnScope ["_law_script", "_law_k", "_law_cell", "_law_seed"] ["_law_script", "_law_k"] (defScope (top 69)) := ⟨rfl, rfl, rfl, by decide +kernel, rfl, by decide +kernel, by decide +kernel⟩
theorem sv_box (b : Bi g) (B0 : Addr → Prop) (H0 : Hp) (ns : List Int) (k : Nat) (hk : k ≤ 1000) : SV (g.E 0 ["_law_script", "_law_k", "_law_cell", "_law_seed"] (defScope (top 69)) B0 no no H0) B0 B0 (defBody (top 69)) [some (.scr ns), some (.d (.int k)), none, none] { rt := isBox } := by
  refine sv_setP 2 (P := anyInt) (by rfl) (.inl (by rfl)) (evp_addU (evp_mulU2 ev_int ((vr 1 : EV _ _ _ (.d (.int k))).toP ⟨_, rfl⟩) (by decide)) (ev_int.toP ⟨_, rfl⟩)) fun r ⟨i, hr⟩ => ?_
  subst hr
  have tail : ∀ c : Int, SV (g.E 0 ["_law_script", "_law_k", "_law_cell", "_law_seed"] (defScope (top 69)) B0 no no H0) B0 B0 ((defBody (top 69)).drop 2) [some (.scr ns), some (.d (.int k)), some (.d (.int c)), none] { rt := isBox } := fun c => by
    refine sv_setP 3 (P := anyInt) (by rfl) (.inl (by rfl)) (evp_addU ((evp_modU (evp_addU (evp_mulU ((evp_modU ((vr 2 : EV _ _ _ (.d (.int c))).toP ⟨_, rfl⟩) ev_int (by decide)).imp fun r ⟨i, e, _⟩ => ⟨i, e⟩) ev_int (by decide)) (evp_mulU2 ev_int ((vr 1 : EV _ _ _ (.d (.int k))).toP ⟨_, rfl⟩) (by decide))) ev_int (by decide)).imp fun r ⟨i, e, _⟩ => ⟨i, e⟩) (ev_int.toP ⟨_, rfl⟩)) fun r ⟨s, hr⟩ => ?_
    subst hr
    refine sv_retd (d := .lst [.int (if decide ((10 : Int) ^ (18 : Int).toNat ≤ c) then c else 0), .int s, .int 0]) (ev_lst (ds := [_, _, _]) (ea_cons ?_ (ea_cons (vr 3) (ea_1 ev_int))) (by simp)) ⟨_, _, _, rfl⟩
    refine ev_ixL (l := [.int 0, .int c]) (EV.wk (x := .lst [.int 0, .int c]) (ev_lst (ds := [.int 0, .int c]) (ea_cons ev_int (ea_1 (vr 2))) (by simp))) (ev_intB (ev_ge (vr 2) (ev_pow ev_int ev_int ⟨by decide, by decide, by decide⟩)) (by rfl) b.int) ?_
    cases decide ((10 : Int) ^ (18 : Int).toNat ≤ c) <;> rfl
  refine sv_if (cc := decide ((k : Int) < (ns.length : Nat))) (et_lt (vr 1) (ev_lenScr (vr 0) (by rfl) b.len)) (fun h => ?_) (fun h => ?_)
  · refine sv_setP 2 (P := anyInt) (by rfl) (.inl (by rfl)) (evp_ixScr (vr 0) (vr 1) (by have := of_decide_eq_true h; omega)) fun r ⟨c, hr⟩ => ?_
    subst hr
    exact sv_end (tail c)
  · refine sv_if (cc := decide ((0 : Int) < (ns.length : Nat))) (et_gt (ev_lenScr (vr 0) (by rfl) b.len) ev_int) (fun h2 => ?_) (fun h2 => sv_end (sv_end (tail i)))
    have hpos : (0 : Int) < (ns.length : Nat) := of_decide_eq_true h2
    have hmod : ((k : Int) % (ns.length : Nat)) = ((k % ns.length : Nat) : Int) := by simp
    refine sv_setP 2 (P := anyInt) (by rfl) (.inl (by rfl)) (evp_addU ((vr 2 : EV _ _ _ (.d (.int i))).toP ⟨_, rfl⟩) (evp_mulU ((evp_modU (evp_ixScr (i := k % ns.length) (vr 0) ((ev_mod (vr 1) (ev_lenScr (vr 0) (by rfl) b.len) hpos).eqd (by rw [hmod])) (Nat.mod_lt _ (by omega))) ev_int (by decide)).imp fun r ⟨i, e, _⟩ => ⟨i, e⟩) ev_int (by decide))) fun r ⟨c, hr⟩ => ?_
    subst hr
    exact sv_end (sv_end (tail c))
theorem fn_box (F : Df g "_law_box" (top 69)) (b : Bi g) : Fn g 1 "_law_box" (spBx g) := by
  obtain ⟨f, fd, F, hm⟩ := F.ex
  refine ⟨f, fd, _, F.ok scBox (fun vs H Q E h => ?_) (fun cdv A outer s H vs Q E hr h => ?_), hm, F.kp, F.bindsN (fun _ _ _ _ _ _ us hl => match us, hl with | [_, _], _ => rfl)⟩
  · obtain ⟨a, ns, k, rfl, _⟩ := h
    rfl
  · obtain ⟨a, ns, k, rfl, hS, hk, tb, q⟩ := h
    refine ⟨_, PSs.nox (wss_pss (fam_of (T := g.T) (cl := g.cl) (B0 := fun x => H x ≠ none) (W := no) (C := no) (H0 := H) scBox.nd hr)), ?_⟩
    refine sv_box b (fun x => H x ≠ none) H ns k hk ⟨[], []⟩ _ H ⟨Le.refl, fun a h => h, fun a h => h, fun _ h => h.elim, fun _ h => h.elim, tb, ?_, rfl, fun p hp => by simp at hp, fun q hq => by simp at hq⟩ _ ⟨fun δ σ H' er h => h.elim, fun d v H' l rv h => ?_, fun _ _ _ _ h => h.elim, fun _ _ _ _ h => h.elim⟩
    · intro i r' e'
      match i with
      | 0 => simp at e'; subst e'; exact ⟨_, rfl, a, rfl, (fun z => z), hS⟩
      | 1 => simp at e'; subst e'; exact ⟨_, rfl, re_int.mpr rfl⟩
      | 2 => simp at e'
      | 3 => simp at e'
      | n + 4 => simp at e'
    · obtain ⟨x, y, z, rfl⟩ := h
      simp only [Rep] at rv
      obtain ⟨p, vs, rfl, nB, e, rs⟩ := rv
      have e2 : vs = [.int x, .int y, .int z] := reps_int.mp (show Reps _ _ ([x, y, z].map D.int) vs H' from rs)
      refine q p H' l (Classical.not_not.mp nB) ⟨x, y, z, by rw [← e2]; exact e⟩
end
end Nb
set_option Elab.async false
set_option linter.all false
set_option maxRecDepth 100000
set_option maxHeartbeats 2000000
namespace Nb
open PySem PySem.Spec PyProof.Rows L2
section
variable {E : EC} {B Bo : Addr → Prop} {δ : Ds} {Ω : Post} {ss : List Stmt} {H H' H2 : Hp} {tg it e a b elt : Expr} {es : List Expr} {pos p apos : Pos}
/-! what is not wholly told -/
def EIU (E : EC) (str : Bool) (tg it : Expr) (δ : Ds) (Pi : List D → Prop) : Prop := ∀ (B : Addr → Prop) (γ : Gh) (σ : L2.St) (H : Hp), ER E B δ γ σ H → ∀ R : It → Hp → Prop,
  (∀ l, Pi l → ∀ (J : It) (H2 : Hp) (raw : List (Addr × HO)) (dat : List (D × V)) (G : Hp → Prop) (Y : Nat → Hp → V → Hp → Prop), LeC E H H2 →
      (∀ p ∈ raw, ¬ E.C p.1 ∧ (str = true → ¬ B p.1) ∧ (∀ ps, p.2 ≠ .tbl ps) ∧ H2 p.1 = some p.2) → (∀ q ∈ dat, Rep E.cl B q.1 q.2 H2) → Walk J l.length G Y → (∀ H', (∀ p ∈ raw, H' p.1 = some p.2) → G H') →
      (∀ (i : Nat) (d : D) (B' : Addr → Prop) (H' : Hp) (x : V) (H'' : Hp), l[i]? = some d → (∀ a, B' a → H' a ≠ none) → (∀ a, E.C a → B' a) → (∀ p ∈ raw, H' p.1 = some p.2) → (∀ q ∈ dat, Rep E.cl B' q.1 q.2 H') → Y i H' x H'' → LeC E H' H'' ∧ Rep E.cl B' d x H'') →
      R J H2) → WI (Fam E) tg it σ H R
theorem EIU.weak {Pi : List D → Prop} (h : EIU E true tg it δ Pi) : EIU E false tg it δ Pi := fun B γ σ H er R q => h B γ σ H er R fun l hl J H2 raw dat G Y l1 hr hd w hg hy => q l hl J H2 raw dat G Y l1 (fun p hp => ⟨(hr p hp).1, (fun z => by cases z), (hr p hp).2.2⟩) hd w hg hy
theorem EIU.imp {str : Bool} {Pi Pj : List D → Prop} (h : EIU E str tg it δ Pi) (m : ∀ l, Pi l → Pj l) : EIU E str tg it δ Pj := fun B γ σ H er R q => h B γ σ H er R fun l hl => q l (m l hl)
theorem eiu_range {P : Nat → Prop} (h : EVP E e δ (fun r => ∃ n : Nat, r = .d (.int (n : Nat)) ∧ n ≤ 100000 ∧ P n)) (hg : GlS E.sc "range") (hm : E.mg "range" = none) (hs : ∀ env, starEach [e] env = (false, eval e env) :: starEach [] env := by intro _; rfl) : EIU E true tg (.Call (.Name "range" p) [e] [] pos) δ (fun l => ∃ xs : List Nat, l = xs.map (fun i => D.int (0 + (i : Nat))) ∧ ∃ n, xs = List.range n ∧ n ≤ 100000 ∧ P n) := fun B γ σ H er R q =>
  wi_of (fun X hX => pi_range1 (gl_of hX hg) (by rw [hX.mg]; exact hm) (wa_pa hX) (hs _)) (eap_cons (R := fun rs => rs = []) (S := fun rs => ∃ n : Nat, rs = [.d (.int (n : Nat))] ∧ n ≤ 100000 ∧ P n) h (eap_nil rfl) (fun r rs ⟨n, e1, e2, e3⟩ e4 => ⟨n, by rw [e1, e4], e2, e3⟩) hs B γ σ H er _ fun rs vs H2 ⟨n, ers, hn, hP⟩ l1 rvs => by
    subst ers
    obtain ⟨v, rfl, rv⟩ := rvs.one
    rw [re_int] at rv
    exact ⟨(n : Int), by rw [rv], by omega, by omega, ei_range_aux (n := n) (q (rngD 0 n) ⟨List.range n, rfl, n, rfl, hn, hP⟩) l1⟩)
theorem eiu_list {τ : Type} {c : τ → D} {Pi : List τ → Prop} (h : EVP E it δ (fun r => ∃ xs : List τ, r = .d (.lst (xs.map c)) ∧ Pi xs)) : EIU E true tg it δ (fun l => ∃ xs : List τ, l = xs.map c ∧ Pi xs) := fun B γ σ H er R q =>
  ei_listP h B γ σ H er R fun xs hp => q _ ⟨xs, rfl, hp⟩
theorem sv_forU {τ : Type} (c : τ → D) (Pi : List τ → Prop) (Inv : List τ → Nat → Ds → Prop) {td : τ → List (Nat × Ent)} {body : List Stmt} (hi : EIU E true tg it δ (fun l => ∃ xs : List τ, l = xs.map c ∧ Pi xs)) (h0 : ∀ xs, Pi xs → Inv xs 0 δ) (hg : ∀ xs, Pi xs → ∀ d ∈ xs, EG E tg (.d (c d)) (td d))
    (step : ∀ xs, Pi xs → ∀ (i : Nat) d δ', xs[i]? = some d → Inv xs i δ' → SV E B B body (setAll δ' (td d)) { nx := Inv xs (i + 1), ct := Inv xs (i + 1), bk := fun _ => False, rt := Ω.rt }) (hd : ∀ xs, Pi xs → ∀ δ', Inv xs xs.length δ' → SV E B Bo ss δ' Ω)
    (hs : ∀ env x, foldedSetIterable it env x = pure x := by intro _ _; rfl) : SV E B Bo (.For tg it body [] pos :: ss) δ Ω := fun γ σ H er D s => by
  refine wss_then (ws_of (fun X hX => ps_for (by rw [hX.xe]; exact PassesOwn.never) hX.calm (wi_pi hX) (wg_pg hX) (wss_pss hX) (hs _)) (hi B γ σ H er _ fun l ⟨xs, el, hp⟩ J H2 raw dat G Y l1 hraw hdat w hG hY => ?_))
  subst el
  have er1 := er.step l1
  have up : ∀ {δ' σ' H'}, ER E B δ' ⟨raw ++ γ.raw, dat ++ γ.dat⟩ σ' H' → ER E B δ' γ σ' H' := fun h => ⟨h.le, h.dom, h.sub, h.cb, h.cw, h.tabs, h.at_, h.len, fun p hp => h.gr p (List.mem_append_right _ hp), fun q hq => h.gd q (List.mem_append_right _ hq)⟩
  refine for_it w (fun i σ' H' => ∃ δ', ER E B δ' ⟨raw ++ γ.raw, dat ++ γ.dat⟩ σ' H' ∧ Inv xs i δ') ⟨δ, ⟨er1.le, er1.dom, er1.sub, er1.cb, er1.cw, er1.tabs, er1.at_, er1.len, fun p hp => ?_, fun q hq => ?_⟩, h0 xs hp⟩ (fun i σ' H' _ ⟨δ', er', _⟩ => hG H' fun p hp => (er'.gr p (List.mem_append_left _ hp)).2.2.2)
    (fun i x σ' H' H'' hi' ⟨δ', er', inv⟩ hy => ?_) (fun σ' H' ⟨δ', er', inv⟩ => hd xs hp δ' (by rw [List.length_map] at inv; exact inv) γ σ' H' (up er') D s)
  · rcases List.mem_append.mp hp with hp | hp
    · exact ⟨(hraw p hp).1, (hraw p hp).2.1 rfl, (hraw p hp).2.2.1, (hraw p hp).2.2.2⟩
    · exact er1.gr p hp
  · rcases List.mem_append.mp hq with hq | hq
    · exact hdat q hq
    · exact er1.gd q hq
  · have hix : i < xs.length := by rw [List.length_map] at hi'; exact hi'
    have hdx : xs[i]? = some xs[i] := List.getElem?_eq_getElem hix
    have hd' : (xs.map c)[i]? = some (c xs[i]) := by rw [List.getElem?_map, hdx]; rfl
    obtain ⟨l3, rx⟩ := hY i (c xs[i]) B H' x H'' hd' er'.dom er'.cb (fun p hp => (er'.gr p (List.mem_append_left _ hp)).2.2.2) (fun q hq => er'.gd q (List.mem_append_left _ hq)) hy
    refine hg xs hp _ (List.getElem_mem hix) B δ' _ σ' H'' x (er'.step l3) rx _ fun σ2 H3 l4 er2 _ _ => ?_
    exact step xs hp i xs[i] δ' hdx inv _ σ2 H3 er2 _ ⟨fun δ2 σ2 H2 e2 q => ⟨δ2, e2, q⟩, s.rt, fun _ _ _ _ q => q.elim, fun δ2 σ2 H2 e2 q => ⟨δ2, e2, q⟩⟩
/-- a comprehension over a list of which not all is told -/
theorem lc_readU {τ : Type} {c : τ → D} {Pi : List τ → Prop} {scope : Scope} {own : List (Str × Nat)} {ifs : List Expr} {td : τ → List (Nat × Ent)} {t : τ → Bool} {Pf : τ → D → Prop} (hi : EIU E false tg it δ (fun l => ∃ xs : List τ, l = xs.map c ∧ Pi xs)) (hz : ∀ xs, Pi xs → xs.length ≤ 1000)
    (hg : ∀ xs, Pi xs → ∀ d ∈ xs, EG (E.blk scope) tg (.d (c d)) (td d)) (hown : ∀ xs, Pi xs → ∀ d ∈ xs, ∀ q ∈ td d, q.1 ∈ own.map (·.2))
    (ht : ∀ xs, Pi xs → ∀ d ∈ xs, ETs (E.blk scope) ifs (setAll (wipeD δ (own.map (·.2))) (td d)) (t d))
    (he : ∀ xs, Pi xs → ∀ d ∈ xs, t d = true → EVP (E.blk scope) elt (setAll (wipeD δ (own.map (·.2))) (td d)) (fun r => ∃ y, r = .d y ∧ Pf d y))
    {B : Addr → Prop} {γ : Gh} {σ : L2.St} {H : Hp} (er : ER E B δ γ σ H) {Q : VK} (q : ∀ xs, Pi xs → ∀ p m vs H2, H p = none → LeC E H H2 → Made Pf t xs m → H2 p = some (.lst vs) → Reps E.cl (fun a => B a ∨ a = p) m vs H2 → Q (.ref p) H2) :
    tLc (WI (Fam E) tg it) (WG (Fam (E.blk scope)) tg) (WTs (Fam (E.blk scope)) ifs) (WE (Fam (E.blk scope)) elt) (own.map (·.2)) σ H Q := by
  refine hi B γ σ H er _ fun l ⟨xs, el, hpi⟩ J H2 raw dat G Y l1 hraw hdat w hG hY D hD => ?_
  subst el
  have hz := hz xs hpi
  have hg := hg xs hpi
  have hown := hown xs hpi
  have ht := ht xs hpi
  have he := he xs hpi
  have er1 := er.step l1
  have key : ∀ H', LeC E H2 H' → H' D ≠ none → ER E (fun a => B a ∨ a = D) δ γ σ H' := fun H' l hn => er1.grow hD l hn
  have hrawD : ∀ p ∈ raw, p.1 ≠ D := fun p hp z => by
    have := (hraw p hp).2.2.2
    rw [z, hD] at this
    cases this
  refine lc_it w (fun i H' => LeC E H2 H' ∧ ∃ m vs, Made Pf t (xs.take i) m ∧ H' D = some (.lst vs) ∧ Reps E.cl (fun a => B a ∨ a = D) m vs H') ⟨LeC.new hD, [], [], .nil, upd_same, .nil⟩
    (fun i H' hi' ⟨l2, m, vs, _, hDv, _⟩ => hG H' fun p hp => l2.keep _ _ (hraw p hp).1 (hraw p hp).2.2.2 (hraw p hp).2.2.1) (fun i x H' H'' hi' ⟨l2, m, vs, hm, hDv, hmr⟩ hy => ?_) (fun H' ⟨l2, m, vs, hm, hDv, hmr⟩ => ?_)
  · have hix : i < xs.length := by rw [List.length_map] at hi'; exact hi'
    have hdx : xs[i]? = some xs[i] := List.getElem?_eq_getElem hix
    have hd : (xs.map c)[i]? = some (c xs[i]) := by rw [List.getElem?_map, hdx]; rfl
    have hmem : xs[i] ∈ xs := List.getElem_mem hix
    have erD := key H' l2 (by rw [hDv]; simp)
    have kd : Kd (fun a => B a ∨ a = D) B H2 H' := Le.kd l2 er.cb fun a ha hn => ha.elim (fun z => z) fun z => absurd hD (by rw [← z]; exact hn)
    obtain ⟨l3, rx⟩ := hY i (c xs[i]) (fun a => B a ∨ a = D) H' x H'' hd erD.dom erD.cb (fun p hp => l2.keep _ _ (hraw p hp).1 (hraw p hp).2.2.2 (hraw p hp).2.2.1) (fun z hz => Rep.kd kd _ _ (hdat z hz)) hy
    have erD2 := (erD.step l3).wipe (own.map (·.2))
    refine hg _ hmem _ _ _ _ _ _ (ER.blk erD2) rx _ fun σ2 H3 l4 er2 hk hlen => ⟨?_, ?_⟩
    · refine wipe_wipe (σ := σ) (fun j hj => ?_) (hlen.trans (wipe_length σ _)) |>.trans rfl
      have hk' := hk j fun z hz e => hj (by rw [← e]; exact hown _ hmem z hz)
      rw [hk']
      have : ∀ (τ : L2.St) (ws : List Nat), j ∉ ws → (L2.wipe τ ws)[j]? = τ[j]? := by
        intro τ ws
        induction ws with
        | nil => intro _; rfl
        | cons v ws ih =>
          intro h
          show ((L2.wipe τ ws).set v none)[j]? = _
          rw [List.getElem?_set_ne (fun e => h (by rw [e]; exact List.mem_cons_self)), ih fun z => h (List.mem_cons_of_mem _ z)]
      exact this σ _ hj
    · refine ht _ hmem _ _ _ _ er2 _ fun H4 l5 => ?_
      have er3 := er2.step l5
      have lall : LeC E H2 H4 := ((l2.trans l3).trans (show LeC E H'' H3 from l4)).trans (show LeC E H3 H4 from l5)
      have hl : xs.take (i + 1) = xs.take i ++ [xs[i]] := by rw [List.take_succ, hdx]; rfl
      have nC : ¬ E.C D := fun z => er1.dom D (er1.cb D z) hD
      have hD4 : H4 D = some (.lst vs) := ((l3.trans (show LeC E H'' H3 from l4)).trans (show LeC E H3 H4 from l5)).keep D _ nC hDv fun ps z => by cases z
      have hm4 : Reps E.cl (fun a => B a ∨ a = D) m vs H4 := Reps.kd (LeC.kd ((l3.trans (show LeC E H'' H3 from l4)).trans (show LeC E H3 H4 from l5)) erD.cb) _ _ hmr
      cases htd : t xs[i] with
      | false =>
        refine (if_neg Bool.false_ne_true).mpr ⟨lall, m, vs, ?_, hD4, hm4⟩
        rw [hl]
        exact hm.snoc_no htd
      | true =>
        refine (if_pos rfl).mpr (he _ hmem htd _ _ _ _ er3 _ fun r y H5 hr l6 ry => ?_)
        obtain ⟨d', rfl, hP⟩ := hr
        have l6' : LeC E H4 H5 := l6
        have hD5 : H5 D = some (.lst vs) := l6'.keep D _ nC hD4 fun ps z => by cases z
        have hlen' : vs.length ≤ 1000 := by
          rw [← hmr.len]
          refine Nat.le_trans hm.len (Nat.le_trans ?_ hz)
          rw [List.length_take]
          omega
        have k2 : Kd (fun a => B a ∨ a = D) (fun a => B a ∨ a = D) H5 (upd H5 D (.lst (vs ++ [y]))) := ⟨fun a _ h => h, fun a u nb _ r => by
          have ne : a ≠ D := fun z => nb (.inr z)
          rcases r with r | ⟨o, r⟩
          · exact .inl (by rw [upd_ne ne]; exact r)
          · exact .inr ⟨o, by rw [upd_ne ne]; exact r⟩, fun a u nb _ r => by
          have ne : a ≠ D := fun z => nb (.inr z)
          rw [upd_ne ne]; exact r⟩
        refine ⟨vs, hD5, small1000 hlen', ?_, m ++ [d'], vs ++ [y], by rw [hl]; exact hm.snoc_yes htd hP, upd_same, Reps.kd k2 _ _ (Reps.snoc (Reps.kd (LeC.kd l6' erD.cb) _ _ hm4) ry)⟩
        have lz := lall.trans l6'
        refine ⟨fun a o hw e n => ?_, fun a ha => ?_, fun tb => ?_, fun a hc h3 => ?_⟩
        · rw [upd_ne (fun z => by rw [z, hD] at e; cases e)]
          exact lz.keep a o hw e n
        · by_cases z : a = D
          · rw [z, upd_same]; simp
          · rw [upd_ne z]; exact lz.dom a ha
        · have tb5 := lz.tabs tb
          intro pp hpp
          obtain ⟨ps, h1, h2, h3⟩ := tb5 pp hpp
          have ne : ∀ (c : Addr) (o : HO), H5 c = some o → (∀ xs, o ≠ .lst xs) → c ≠ D := fun c o e hn z => by
            rw [z, hD5] at e
            exact hn vs (Option.some.inj e).symm
          refine ⟨ps, by rw [upd_ne (ne _ _ h1 fun xs z => by cases z)]; exact h1, h2, fun pos cv hcv => ?_⟩
          obtain ⟨c, e1, e2⟩ := h3 pos cv hcv
          exact ⟨c, e1, by rw [upd_ne (ne _ _ e2 fun xs z => by unfold LamX.CodeO at z; cases z)]; exact e2⟩
        · obtain ⟨x1, y1, z1, e⟩ := lz.box a hc h3
          exact ⟨x1, y1, z1, by rw [upd_ne (fun z => nC (by rw [← z]; exact hc))]; exact e⟩
  · rw [List.length_map, List.take_length] at hm
    exact q xs hpi D m vs H' (l1.fresh hD) (l1.trans l2) hm hDv hmr
theorem evp_lcU {τ : Type} {c : τ → D} {Pi : List τ → Prop} {scope : Scope} {ifs : List Expr} {td : τ → List (Nat × Ent)} {t : τ → Bool} {Pf : τ → D → Prop} (own : List (Str × Nat)) (hi : EIU E false tg it δ (fun l => ∃ xs : List τ, l = xs.map c ∧ Pi xs)) (hz : ∀ xs, Pi xs → xs.length ≤ 1000) (ok : BlkOk E.N E.sc scope own)
    (hg : ∀ xs, Pi xs → ∀ d ∈ xs, EG (E.blk scope) tg (.d (c d)) (td d)) (hown : ∀ xs, Pi xs → ∀ d ∈ xs, ∀ q ∈ td d, q.1 ∈ own.map (·.2))
    (ht : ∀ xs, Pi xs → ∀ d ∈ xs, ETs (E.blk scope) ifs (setAll (wipeD δ (own.map (·.2))) (td d)) (t d))
    (he : ∀ xs, Pi xs → ∀ d ∈ xs, t d = true → EVP (E.blk scope) elt (setAll (wipeD δ (own.map (·.2))) (td d)) (fun r => ∃ y, r = .d y ∧ Pf d y))
    (hs : ∀ env x, foldedSetIterable it env x = pure x := by intro _ _; rfl) : EVP E (.ListComp elt [⟨tg, it, ifs, 0⟩] scope pos) δ (fun r => ∃ xs m, Pi xs ∧ r = .d (.lst m) ∧ Made Pf t xs m) := fun B γ σ H er Q q =>
  we_of (t := tLc (WI (Fam E) tg it) (WG (Fam (E.blk scope)) tg) (WTs (Fam (E.blk scope)) ifs) (WE (Fam (E.blk scope)) elt) (own.map (·.2)))
    (fun X hX => pe_lc hX.calm hX.nd (wi_pi hX) (by rw [hX.N, hX.sc]; exact ok) (fun s H C cl fp => wg_pg (fam_blk hX scope s H C cl fp)) (fun s H C cl fp => wts_pts (fam_blk hX scope s H C cl fp)) (fun s H C cl fp => we_pe (fam_blk hX scope s H C cl fp)) (hs _))
    (lc_readU hi hz hg hown ht he er fun xs hpi p m vs H2 hp l hm hv hr => q (.d (.lst m)) _ H2 ⟨xs, m, hpi, rfl, hm⟩ l (by
      simp only [RE, Rep]
      have k2 : Kd B (fun a => B a ∨ a = p) H2 H2 := ⟨fun a _ nb z => nb (.inl z), fun a u _ _ r => r, fun a u _ _ r => r⟩
      exact ⟨p, vs, rfl, fun z => er.dom p z hp, hv, Reps.kd k2 _ _ hr⟩))
/-- .. where the list is wholly told -/
theorem evp_lcK {τ : Type} {scope : Scope} {ifs : List Expr} {td : τ → List (Nat × Ent)} (xs : List τ) (c : τ → D) (Pf : τ → D → Prop) (own : List (Str × Nat)) (hi : EI E false tg it δ (xs.map c)) (hz : xs.length ≤ 1000) (ok : BlkOk E.N E.sc scope own)
    (hg : ∀ d ∈ xs, EG (E.blk scope) tg (.d (c d)) (td d)) (hown : ∀ d ∈ xs, ∀ q ∈ td d, q.1 ∈ own.map (·.2))
    (he : ∀ d ∈ xs, EVP (E.blk scope) elt (setAll (wipeD δ (own.map (·.2))) (td d)) (fun r => ∃ y, r = .d y ∧ Pf d y))
    (hs : ∀ env x, foldedSetIterable it env x = pure x := by intro _ _; rfl) : EVP E (.ListComp elt [⟨tg, it, [], 0⟩] scope pos) δ (fun r => ∃ m, r = .d (.lst m) ∧ Made Pf (fun _ => true) xs m) :=
  evp_lc (t := fun _ => true) own hi hz ok hg hown (fun _ _ => ets_nil) (fun d hd _ => he d hd) hs
/-! displays, indexes, slices, join of what is not wholly told -/
theorem evp_lst {P : List D → Prop} (ha : EAP E es δ (fun rs => ∃ ds, rs = ds.map Ent.d ∧ ds.length ≤ 1000 ∧ P ds)) : EVP E (.List es pos) δ (fun r => ∃ ds, r = .d (.lst ds) ∧ P ds) := fun B γ σ H er Q q =>
  we_of (fun X hX => pe_lst (wa_pa hX)) (ha B γ σ H er _ fun rs vs H1 ⟨ds, e, hz, hP⟩ l1 rvs => by
    subst e
    have r := re_ds rvs
    exact ⟨by rw [← r.len]; exact Nat.le_of_lt (small1000 hz), fun p hp => q (.d (.lst ds)) _ _ ⟨ds, rfl, hP⟩ (l1.trans (LeC.new hp)) (re_newL (er.step l1).dom hp er.cb r)⟩)
theorem evp_tup {P : List D → Prop} {x1 : Nat} (ha : EAP E es δ (fun rs => ∃ ds, rs = ds.map Ent.d ∧ ds.length ≤ 1000 ∧ P ds)) : EVP E (.Tuple es x1 pos) δ (fun r => ∃ ds, r = .d (.tup ds) ∧ P ds) := fun B γ σ H er Q q =>
  we_of (fun X hX => pe_tup (wa_pa hX)) (ha B γ σ H er _ fun rs vs H1 ⟨ds, e, hz, hP⟩ l1 rvs => by
    subst e
    have r := re_ds rvs
    exact ⟨by rw [← r.len]; exact Nat.le_of_lt (small1000 hz), fun p hp => q (.d (.tup ds)) _ _ ⟨ds, rfl, hP⟩ (l1.trans (LeC.new hp)) (re_newT (er.step l1).dom hp er.cb r)⟩)
/-- two, of which one is taken -/
theorem eap_two {P R : D → Prop} {c : Expr} (h1 : EVP E a δ (fun r => ∃ d, r = .d d ∧ P d)) (h2 : EVP E b δ (fun r => ∃ d, r = .d d ∧ R d)) (hs : ∀ env, starEach [a, b] env = (false, eval a env) :: starEach [b] env := by intro _; rfl) (hs2 : ∀ env, starEach [b] env = (false, eval b env) :: starEach [] env := by intro _; rfl) :
    EAP E [a, b] δ (fun rs => ∃ ds, rs = ds.map Ent.d ∧ ds.length ≤ 1000 ∧ ∃ x y, ds = [x, y] ∧ P x ∧ R y) :=
  eap_cons (R := fun rs => ∃ y, rs = [.d y] ∧ R y) h1 (eap_cons (R := fun rs => rs = []) h2 (eap_nil rfl) (fun r rs ⟨y, e1, e2⟩ e3 => ⟨y, by rw [e1, e3], e2⟩) hs2) (fun r rs ⟨x, e1, e2⟩ ⟨y, e3, e4⟩ => ⟨[x, y], by rw [e1, e3]; rfl, by simp, x, y, rfl, e2, e4⟩) hs
theorem evp_ixLU {P : List D → Prop} {R : Int → Prop} {S : D → Prop} (ha : EVP E a δ (fun r => ∃ ds, r = .d (.lst ds) ∧ P ds)) (hb : EVP E b δ (fun r => ∃ i, r = .d (.int i) ∧ R i)) (h : ∀ ds i, P ds → R i → ∃ y, atI ds i = some y ∧ S y) (hs : PlainIx b := by exact fun _ _ => rfl) : EVP E (.Subscript a b pos) δ (fun r => ∃ y, r = .d y ∧ S y) :=
  evp_ix (fun X hX => fam_Ki hX (r := rIxL) ix_list) ha hb (fun ra rb ⟨ds, e1, hP⟩ ⟨i, e2, hR⟩ => by
    subst e1; subst e2
    obtain ⟨y, hy, hS⟩ := h ds i hP hR
    exact ⟨.d y, ⟨y, rfl, hS⟩, fun B u v H dom cb rx ry Q q => ro_ixL hy B u v H dom cb (re_wk rfl cb rx) ry Q q⟩) hs
theorem evp_ixTU {P : List D → Prop} {R : Int → Prop} {S : D → Prop} (ha : EVP E a δ (fun r => ∃ ds, r = .d (.tup ds) ∧ P ds)) (hb : EVP E b δ (fun r => ∃ i, r = .d (.int i) ∧ R i)) (h : ∀ ds i, P ds → R i → ∃ y, atI ds i = some y ∧ S y) (hs : PlainIx b := by exact fun _ _ => rfl) : EVP E (.Subscript a b pos) δ (fun r => ∃ y, r = .d y ∧ S y) :=
  evp_ix (fun X hX => fam_Ki hX (r := rIxT) ix_tup) ha hb (fun ra rb ⟨ds, e1, hP⟩ ⟨i, e2, hR⟩ => by
    subst e1; subst e2
    obtain ⟨y, hy, hS⟩ := h ds i hP hR
    exact ⟨.d y, ⟨y, rfl, hS⟩, fun B u v H dom cb rx ry Q q => ro_ixT hy B u v H dom cb (re_wk rfl cb rx) ry Q q⟩) hs
theorem evp_ixSU {s : Str} {R : Int → Prop} {S : Nat → Prop} (ha : EV E a δ (.d (.str s))) (hz : s.length ≤ sizeLine) (hb : EVP E b δ (fun r => ∃ i, r = .d (.int i) ∧ R i)) (h : ∀ i, R i → ∃ c, atI s.cps.toList i = some c ∧ S c) (hs : PlainIx b := by exact fun _ _ => rfl) : EVP E (.Subscript a b pos) δ (fun r => ∃ c, r = .d (.str ⟨#[c]⟩) ∧ S c) :=
  evp_ix (fun X hX => ix_str) (ha.toP (P := fun r => r = .d (.str s)) rfl) hb (fun ra rb e1 ⟨i, e2, hR⟩ => by
    subst e1; subst e2
    obtain ⟨c, hc, hS⟩ := h i hR
    exact ⟨.d (.str ⟨#[c]⟩), ⟨c, rfl, hS⟩, ro_ixS hz hc⟩) hs
/-- [e, f][int(c)] -/
theorem evp_pick {P R S : D → Prop} {c : Bool} {t : Expr} {p2 p3 : Pos} (h1 : EVP E a δ (fun r => ∃ d, r = .d d ∧ P d)) (h2 : EVP E b δ (fun r => ∃ d, r = .d d ∧ R d)) (hc : EV E t δ (.d (.int (if c then 1 else 0)))) (m1 : c = false → ∀ d, P d → S d) (m2 : c = true → ∀ d, R d → S d)
    (hs : ∀ env, starEach [a, b] env = (false, eval a env) :: starEach [b] env := by intro _; rfl) (hs2 : ∀ env, starEach [b] env = (false, eval b env) :: starEach [] env := by intro _; rfl) (hp : PlainIx t := by exact fun _ _ => rfl) :
    EVP E (.Subscript (.List [a, b] p2) t p3) δ (fun r => ∃ d, r = .d d ∧ S d) :=
  evp_ixLU (evp_lst (eap_two (c := a) h1 h2 hs hs2)) (hc.toP (P := fun r => ∃ i, r = .d (.int i) ∧ i = if c then 1 else 0) ⟨_, rfl, rfl⟩) (fun ds i ⟨x, y, e, hP, hR⟩ hi => by
    subst e; subst hi
    cases c with
    | false => exact ⟨x, rfl, m1 rfl x hP⟩
    | true => exact ⟨y, rfl, m2 rfl y hR⟩) hp
theorem evp_slLU {P : List D → Prop} {lo hi : Option Expr} {i j : Option Int} {p2 : Pos} (ha : EVP E a δ (fun r => ∃ l, r = .d (.lst l) ∧ P l)) (h1 : EO E lo δ i) (h2 : EO E hi δ j) : EVP E (.Subscript a (.Slice lo hi none p2) pos) δ (fun r => ∃ l, r = .d (.lst (cutD l i j)) ∧ P l) := fun B γ σ H er Q q =>
  we_of (t := L2.tSl (rSlL E.K) (WE (Fam E) a) (tOf (Fam E) lo) (tOf (Fam E) hi)) (fun X hX => pe_slice (fam_Ks hX (r := rSlL) sl_list) (we_pe hX) (po_of hX lo) (po_of hX hi)) (ha B γ σ H er _ fun r v H1 ⟨l, hr, hP⟩ l1 rv => by
    subst hr
    exact eo_run h1 (er.step l1) fun H2 l2 => eo_run h2 ((er.step l1).step l2) fun H3 l3 => by
      obtain ⟨p, vs, rfl, nc, h3, h4⟩ := wk_lst (re_wk rfl er.cb ((rv.step l2 er.cb).step l3 er.cb))
      have er3 := ((er.step l1).step l2).step l3
      exact ⟨p, vs, rfl, .inl (.inl h3), fun t ht => q (.d (.lst (cutD l i j))) _ _ ⟨l, rfl, hP⟩ (((l1.trans l2).trans l3).trans (LeC.new ht)) (re_newL er3.dom ht er.cb (reps_cut h4))⟩)
theorem evp_joinU {s : Str} {P : List Str → Prop} (ha : EV E a δ (.d (.str s))) (hb : EVP E b δ (fun r => ∃ ys : List Str, r = .d (.lst (ys.map D.str)) ∧ P ys)) (hz : ∀ ys, P ys → (ys.map (·.length)).sum + ys.length * s.length ≤ 16777216) (hs : ∀ env, starEach [b] env = [(false, eval b env)] := by intro _; rfl) (hbase : ∀ env, attributeBase a "join" env (eval a env) = eval a env := by intro _; rfl) (hline : (apos.endLine == pos.line) = true := by rfl) : EVP E (.Call (.Attribute a "join" apos) [b] [] pos) δ (fun r => ∃ ys, r = .d (.str (Txt.join s ys)) ∧ P ys) := fun B γ σ H er Q q =>
  we_of (t := tM1 (fun x xs H Q => ∃ a p, ∃ ys : List Str, x = .str a ∧ xs = [.ref p] ∧ (SqL E.K H p (ys.map V.str) ∨ SqT E.K H p (ys.map V.str)) ∧ (ys.map (·.length)).sum + ys.length * a.length ≤ 16777216 ∧ Q (.str (Txt.join a ys)) H) (WE (Fam E) a) (WE (Fam E) b)) (fun X hX => by rw [← hX.K]; exact pe_join (we_pe hX) (we_pe hX) (hs _) (hbase _) hline) (ha B γ σ H er _ fun x H1 l1 rx => by
    rw [re_str] at rx
    refine ⟨⟨s, rx⟩, ?_⟩
    refine hb B γ σ H1 (er.step l1) _ fun r y H2 ⟨ys, hr, hP⟩ l2 ry => ?_
    subst hr
    obtain ⟨p, vs, rfl, _, h1, h2⟩ := re_lst ry
    rw [reps_str] at h2
    subst h2
    exact ⟨s, p, ys, rx, rfl, .inl (.inl (.inl h1)), hz ys hP, q (.d (.str (Txt.join s ys))) _ H2 ⟨ys, rfl, hP⟩ (l1.trans l2) (re_str.mpr rfl)⟩)
end
end Nb
set_option Elab.async false
set_option linter.all false
set_option maxRecDepth 100000
set_option maxHeartbeats 2000000
namespace Nb
open PySem PySem.Spec PyProof.Rows L2
/-! texts as rows of signs -/
abbrev Str.l (s : Str) : List Nat := s.cps.toList
theorem str_ext {s t : Str} (h : s.cps.toList = t.cps.toList) : s = t := by
  cases s; cases t
  congr 1
  exact Array.toList_inj.mp h
theorem cat_l (s t : Str) : (s ++ t).cps.toList = s.cps.toList ++ t.cps.toList := by
  show (s.cps ++ t.cps).toList = _
  simp
theorem str_len (s : Str) : s.length = s.cps.toList.length := by simp [Str.length]
theorem cut_to_l (s : Str) (n : Nat) : (cutS s none (some (n : Nat))).cps.toList = s.cps.toList.take n := by
  have : (cutS s none (some (n : Nat))).cps.toList = cutD s.cps.toList none (some (n : Nat)) := by
    unfold cutS cutD
    simp [Str.length]
  rw [this, cutD_to]
theorem cut_from_l (s : Str) (n : Nat) : (cutS s (some (n : Nat)) none).cps.toList = s.cps.toList.drop n := by
  have : (cutS s (some (n : Nat)) none).cps.toList = cutD s.cps.toList (some (n : Nat)) none := by
    unfold cutS cutD
    simp [Str.length]
  rw [this, cutD_from]
theorem join_l (ys : List Str) : (Txt.join ⟨#[]⟩ ys).cps.toList = ys.flatMap (fun y => y.cps.toList) := by
  show (Builtin.Str.glued _ ys).cps.toList = _
  unfold Builtin.Str.glued
  have key : ∀ (l : List Str) (a : Array Nat), (l.foldl (fun acc p => acc ++ (#[] : Array Nat) ++ p.cps) a).toList = a.toList ++ l.flatMap (fun y => y.cps.toList) := by
    intro l
    induction l with
    | nil => intro a; simp
    | cons x l ih => intro a; rw [List.foldl_cons, ih]; simp
  cases ys with
  | nil => rfl
  | cons y ys =>
    have := key ys y.cps
    simpa using this
def lowC (c : Nat) : Prop := 97 ≤ c ∧ c ≤ 122
theorem letters_at {i : Int} (h0 : 0 ≤ i) (h1 : i < 26) : atI letters.cps.toList i = some (97 + i.toNat) := by
  have e : letters.cps.toList = (List.range 26).map (97 + ·) := by decide +kernel
  obtain ⟨n, rfl⟩ := Int.eq_ofNat_of_zero_le h0
  rw [e]
  unfold atI ixN
  rw [if_pos (by omega), if_pos (by simp; omega)]
  have : n < 26 := by omega
  simp [this]
/-! the names -/
def okStem (form : Nat) (s : Str) : Prop := (∀ c ∈ s.cps.toList, lowC c) ∧ s.cps.toList.length ≤ 5 ∧ (form = 4 ∨ s.cps.toList.length ≤ 4)
def letK (first : Nat) (k : Nat) : Str := ⟨#[97 + (first + 7 * k) % 26]⟩
def insK (stem : Str) (spot first k : Nat) : Str := cutS stem none (some (spot : Nat)) ++ letK first k ++ cutS stem (some (spot : Nat)) none
def nmK (form : Nat) (stem : Str) (spot first k : Nat) : Str := if form = 1 ∧ k % 2 = 1 then insK stem spot first (k - 1) ++ letK first k else insK stem spot first k
theorem ins_l (stem : Str) (spot first k : Nat) : (insK stem spot first k).cps.toList = stem.cps.toList.take spot ++ [97 + (first + 7 * k) % 26] ++ stem.cps.toList.drop spot := by
  unfold insK
  rw [cat_l, cat_l, cut_to_l, cut_from_l]
  rfl
theorem ins_len (stem : Str) (spot first k : Nat) : (insK stem spot first k).cps.toList.length = stem.cps.toList.length + 1 := by
  rw [ins_l]
  simp only [List.length_append, List.length_take, List.length_drop, List.length_cons, List.length_nil]
  omega
theorem ins_inj {stem : Str} {spot first i j : Nat} (hi : i < 5) (hj : j < 5) (h : insK stem spot first i = insK stem spot first j) : i = j := by
  have e := congrArg (fun s : Str => s.cps.toList) h
  rw [ins_l, ins_l, List.append_assoc, List.append_assoc] at e
  have e2 := List.append_cancel_left e
  have e3 : 97 + (first + 7 * i) % 26 = 97 + (first + 7 * j) % 26 := by
    have := (List.cons.inj e2).1
    exact this
  omega
theorem nm_cat {stem : Str} {spot first i j : Nat} (h : insK stem spot first i ++ letK first (i + 1) = insK stem spot first j ++ letK first (j + 1)) : insK stem spot first i = insK stem spot first j := by
  have e := congrArg (fun s : Str => s.cps.toList) h
  rw [cat_l, cat_l] at e
  exact str_ext (List.append_inj_left e (by rw [ins_len, ins_len]))
theorem nm_inj {form : Nat} {stem : Str} {spot first i j : Nat} (hi : i < 5) (hj : j < 5) (h : nmK form stem spot first i = nmK form stem spot first j) : i = j := by
  unfold nmK at h
  have len1 : ∀ k, (insK stem spot first (k - 1) ++ letK first k).cps.toList.length = stem.cps.toList.length + 2 := fun k => by rw [cat_l, List.length_append, ins_len]; rfl
  by_cases a : form = 1 ∧ i % 2 = 1 <;> by_cases b : form = 1 ∧ j % 2 = 1
  · rw [if_pos a, if_pos b] at h
    obtain ⟨x, rfl⟩ : ∃ x, i = x + 1 := ⟨i - 1, by omega⟩
    obtain ⟨y, rfl⟩ : ∃ y, j = y + 1 := ⟨j - 1, by omega⟩
    have := ins_inj (by omega) (by omega) (nm_cat h)
    omega
  · rw [if_pos a, if_neg b] at h
    have e := congrArg (fun s : Str => s.cps.toList.length) h
    rw [len1, ins_len] at e
    omega
  · rw [if_neg a, if_pos b] at h
    have e := congrArg (fun s : Str => s.cps.toList.length) h
    rw [len1, ins_len] at e
    omega
  · rw [if_neg a, if_neg b] at h
    exact ins_inj hi hj h
theorem let_low (first k : Nat) : lowC (97 + (first + 7 * k) % 26) := by unfold lowC; omega
theorem ins_low {form : Nat} {stem : Str} (h : okStem form stem) {spot first k : Nat} : ∀ c ∈ (insK stem spot first k).cps.toList, lowC c := by
  rw [ins_l]
  intro c hc
  rcases List.mem_append.mp hc with hc | hc
  · rcases List.mem_append.mp hc with hc | hc
    · exact h.1 c (List.mem_of_mem_take hc)
    · rw [List.mem_singleton.mp hc]; exact let_low first k
  · exact h.1 c (List.mem_of_mem_drop hc)
theorem nm_ok {form : Nat} {stem : Str} (h : okStem form stem) {spot first k : Nat} : okName (nmK form stem spot first k) := by
  obtain ⟨h1, h2, h3⟩ := h
  unfold nmK okName
  by_cases a : form = 1 ∧ k % 2 = 1
  · rw [if_pos a]
    refine ⟨?_, ?_, fun c hc => ?_⟩
    · rw [str_len, cat_l, List.length_append, ins_len]; omega
    · rw [str_len, cat_l, List.length_append, ins_len]
      have : (letK first k).cps.toList.length = 1 := rfl
      omega
    · rw [cat_l] at hc
      rcases List.mem_append.mp hc with hc | hc
      · exact ins_low ⟨h1, h2, h3⟩ c hc
      · have : c = 97 + (first + 7 * k) % 26 := by simpa [letK] using hc
        rw [this]; exact let_low first k
  · rw [if_neg a]
    refine ⟨?_, ?_, fun c hc => ins_low ⟨h1, h2, h3⟩ c hc⟩
    · rw [str_len, ins_len]; omega
    · rw [str_len, ins_len]; omega
def nmsOk (n : Nat) (names : List Str) : Prop := names.length = n ∧ names.Nodup ∧ ∀ p ∈ names, okName p
theorem nms_ok {form : Nat} {stem : Str} (h : okStem form stem) {spot first n : Nat} (hn : n ≤ 5) : nmsOk n ((List.range n).map (nmK form stem spot first)) := by
  refine ⟨by simp, ?_, fun p hp => ?_⟩
  · unfold List.Nodup
    rw [List.pairwise_map]
    refine (List.nodup_range (n := n)).imp_of_mem fun {i j} hi hj hne => fun e => hne (nm_inj (by have := List.mem_range.mp hi; omega) (by have := List.mem_range.mp hj; omega) e)
  · obtain ⟨k, _, e⟩ := List.mem_map.mp hp
    rw [← e]
    exact nm_ok h
def unStr : D → Str
  | .str s => s
  | _ => ⟨#[]⟩
theorem perm_strs {l : List D} {ws : List Str} (h : l.Perm (ws.map D.str)) : ∃ us : List Str, l = us.map D.str ∧ us.Perm ws := by
  refine ⟨l.map unStr, ?_, ?_⟩
  · rw [List.map_map]
    have : ∀ d ∈ l, (D.str ∘ unStr) d = d := fun d hd => by
      obtain ⟨w, _, e⟩ := List.mem_map.mp (h.subset hd)
      rw [← e]; rfl
    rw [List.map_congr_left this, List.map_id']
  · have := h.map unStr
    rw [List.map_map] at this
    have e : ws.map (unStr ∘ D.str) = ws := by
      conv => rhs; rw [← List.map_id' ws]
      exact List.map_congr_left fun w _ => rfl
    rw [e] at this
    exact this
theorem nmsOk.perm {n : Nat} {a b : List Str} (h : nmsOk n a) (p : b.Perm a) : nmsOk n b := ⟨by rw [p.length_eq]; exact h.1, p.symm.nodup h.2.1, fun x hx => h.2.2 x (p.subset hx)⟩
theorem made_strs {τ : Type} {Pf : τ → D → Prop} {Good : Str → Prop} (g : ∀ d y, Pf d y → ∃ s, y = .str s ∧ Good s) : ∀ {xs : List τ} {m : List D}, Made Pf (fun _ => true) xs m → ∃ ys : List Str, m = ys.map D.str ∧ ys.length = xs.length ∧ ∀ s ∈ ys, Good s
  | _, _, .nil => ⟨[], rfl, rfl, fun _ h => by cases h⟩
  | _, _, .yes _ hP hm => by
    obtain ⟨s, e, hs⟩ := g _ _ hP
    obtain ⟨ys, e2, hl, hg⟩ := made_strs g hm
    exact ⟨s :: ys, by rw [e, e2]; rfl, by rw [List.length_cons, List.length_cons, hl], fun x hx => (List.mem_cons.mp hx).elim (fun z => z ▸ hs) (hg x)⟩
  | _, _, .no h _ => by cases h
def words12 : List Str := ["peg", "needs", "bars", "enter", "leave", "walk", "obey", "gather", "undo", "best", "show", "table"]
theorem words_ok : nmsOk 12 words12 := by
  refine ⟨by decide, by decide +kernel, ?_⟩
  have h : ∀ p ∈ words12, 1 ≤ p.length ∧ p.length ≤ 6 ∧ ∀ c ∈ p.cps.toList, 97 ≤ c ∧ c ≤ 122 := by decide +kernel
  exact h
end Nb
set_option Elab.async false
set_option linter.all false
set_option maxRecDepth 100000
set_option maxHeartbeats 2000000
namespace Nb
open PySem PySem.Spec PyProof.Rows L2
section
variable {g : Glob}
section
variable {E : EC} {δ : Ds} {e1 e2 : Expr} {pos p : Pos} {b : Addr}
theorem evp_takeU {P : Nat → Prop} (h1 : Fn g 1 "_law_take" (spTake g)) (og : Of E g) (hC : ∀ z, E.C z ↔ z = b) (hk : 1 ≤ E.k) (hg : GlS E.sc "_law_take") (hb : EV E e1 δ (.box b)) (he : EVP E e2 δ (fun r => ∃ n : Nat, r = .d (.int (n : Nat)) ∧ (1 ≤ n ∧ n ≤ 100000) ∧ P n))
    (hs : ∀ env, starEach [e1, e2] env = (false, eval e1 env) :: starEach [e2] env := by intro _; rfl) (hs2 : ∀ env, starEach [e2] env = (false, eval e2 env) :: starEach [] env := by intro _; rfl) (hpl : ∀ env, (backTo pos (starEach [e2] env)).any (·.1) = false := by intro _; rfl) :
    EVP E (.Call (.Name "_law_take" p) [e1, e2] [] pos) δ (fun r => ∃ i n : Nat, r = .d (.int (i : Nat)) ∧ i < n ∧ P n) :=
  evp_callB h1 og hC hk hg (eap_cons (P := fun r => r = .box b) (R := fun rs => ∃ n : Nat, rs = [.d (.int (n : Nat))] ∧ (1 ≤ n ∧ n ≤ 100000) ∧ P n) (hb.toP rfl) (eap_cons (R := fun rs => rs = []) he (eap_nil rfl) (fun r rs ⟨n, e, h2, h3⟩ e3 => ⟨n, by rw [e, e3], h2, h3⟩) hs2) (fun r rs e ⟨n, e3, h2, h3⟩ => ⟨n, by rw [e, e3]; rfl, h2, fun d ⟨i, e5, h5⟩ => ⟨i, n, by rw [e5], h5, h3⟩⟩) hs) (by decide) hs hpl
theorem evp_take {n : Nat} (h1 : Fn g 1 "_law_take" (spTake g)) (og : Of E g) (hC : ∀ z, E.C z ↔ z = b) (hk : 1 ≤ E.k) (hg : GlS E.sc "_law_take") (hb : EV E e1 δ (.box b)) (he : EV E e2 δ (.d (.int (n : Nat)))) (hn : 1 ≤ n ∧ n ≤ 100000)
    (hs : ∀ env, starEach [e1, e2] env = (false, eval e1 env) :: starEach [e2] env := by intro _; rfl) (hs2 : ∀ env, starEach [e2] env = (false, eval e2 env) :: starEach [] env := by intro _; rfl) (hpl : ∀ env, (backTo pos (starEach [e2] env)).any (·.1) = false := by intro _; rfl) :
    EVP E (.Call (.Name "_law_take" p) [e1, e2] [] pos) δ (fun r => ∃ i : Nat, r = .d (.int (i : Nat)) ∧ i < n) :=
  (evp_takeU (P := fun m => m = n) h1 og hC hk hg hb (he.toP ⟨n, rfl, hn, rfl⟩) hs hs2 hpl).imp fun r ⟨i, m, e, h, h3⟩ => ⟨i, e, h3 ▸ h⟩
end
theorem ev_negI {E : EC} {δ : Ds} {e : Expr} {pos : Pos} {i : Int} (ha : EV E e δ (.d (.int i))) : EV E (.UnaryOp .USub e pos) δ (.d (.int (-i))) := fun B γ σ H er Q q =>
  we_of (fun X hX => pe_un un_neg (we_pe hX)) (ha B γ σ H er _ fun v H1 l rv => ⟨i, re_int.mp rv, q _ H1 l (re_int.mpr rfl)⟩)
/-! _law_names -/
theorem scNms : FnScope ["_law_box_here", "_law_many", "_law_letters", "_law_form", "_law_words", "_law_k", "_law_stem", "_law_spot", "_law_first", "_law_found", "_law_letter", "_law_name"] ["_law_box_here", "_law_many"] (defScope (top 72)) := ⟨rfl, rfl, rfl, by decide +kernel, rfl, by decide +kernel, by decide +kernel⟩
def spNms (g : Glob) : Sp := spB g (α := Nat) (fun n => [.int n]) (fun n => n ≤ 5) (fun n d => ∃ l, d = sL l ∧ nmsOk n l)
theorem fn_names (F : Df g "_law_names" (top 72)) (b : Bi g) (h1 : Fn g 1 "_law_take" (spTake g)) (h2 : Fn g 2 "_law_mixed" (spMixed g)) : Fn g 3 "_law_names" (spNms g) := by
  refine F.fnB scNms (fun _ _ _ _ _ _ us hl => match us, hl with | [_, _], _ => rfl) (fun a => rfl) (by decide) fun B0 H0 bx n hn hb => ?_
  refine sv_parC 2 3 (by rfl) (by rfl) (.inr (by rfl)) (.inl (by rfl)) (EV.toM (r := .d (.str letters)) ev_str) (EVP.toM (evp_take (n := 5) h1 of_E (fun z => Iff.rfl) kk (by rfl) (vr 0) ev_int (by decide))) (fun B1 r B2 r2 hp1 hp2 => ?_) (fun env he => sw_noneC (by rw [he]; rfl) rfl rfl)
  obtain ⟨e1, hr⟩ := hp1
  obtain ⟨e2, form, hr2, hform⟩ := hp2
  subst e1; subst e2; subst hr; subst hr2
  refine sv_ifR (cc := decide ((form : Int) = 0)) ((et_eq (vr 3) ev_int).eqb (by simp [eqD])) (fun h => ?_) (fun h => ?_)
  · refine sv_set 4 (r := .d (sL words12)) (by rfl) (.inl (by rfl)) (ev_lst (ds := words12.map D.str) (ea_cons ev_str (ea_cons ev_str (ea_cons ev_str (ea_cons ev_str (ea_cons ev_str (ea_cons ev_str (ea_cons ev_str (ea_cons ev_str (ea_cons ev_str (ea_cons ev_str (ea_cons ev_str (ea_1 ev_str)))))))))))) (by decide)) ?_
    refine sv_ret ((evp_slLU (P := fun l => ∃ us : List Str, l = us.map D.str ∧ us.Perm words12) (i := none) (j := some (n : Nat)) ((evp_callB (P := fun r => ∃ l, r = .d (.lst l) ∧ ∃ us : List Str, l = us.map D.str ∧ us.Perm words12) h2 of_E (fun z => Iff.rfl) kk (by rfl) (EA.toP (ea_cons (vr 0) (ea_1 (vr 4))) ⟨⟨false, words12.map D.str⟩, rfl, ⟨by decide, okDs_names (n := 7) words_ok.2.2⟩, fun d ⟨l, e, hp⟩ => ⟨l, by rw [e], perm_strs hp⟩⟩))) eo_none (eo_some (vr 1))).imp fun r ⟨l, e, us, el, hp⟩ => .inl ⟨_, e, us.take n, ?_, ?_⟩)
    · rw [el, cutD_map, cutD_to]; rfl
    · have ok := words_ok.perm hp
      refine ⟨?_, ok.2.1.sublist (List.take_sublist _ _), fun p hp => ok.2.2 p (List.mem_of_mem_take hp)⟩
      rw [List.length_take, ok.1]
      omega
  · refine sv_setP 6 (P := fun r => ∃ st : Str, r = .d (.str st) ∧ okStem form st) (by rfl) (.inl (by rfl)) ((evp_joinU (s := ⟨#[]⟩) (P := fun ys => (∀ y ∈ ys, ∃ c, y = ⟨#[c]⟩ ∧ lowC c) ∧ ys.length ≤ 5 ∧ (form = 4 ∨ ys.length ≤ 4)) ev_str ((evp_lcU (c := fun i : Nat => D.int (0 + (i : Nat))) (Pi := fun xs => ∃ m, xs = List.range m ∧ m ≤ 100000 ∧ (m ≤ 5 ∧ (form = 4 ∨ m ≤ 4))) (t := fun _ => true) (Pf := fun (i : Nat) y => ∃ s, y = .str s ∧ ∃ c, s = ⟨#[c]⟩ ∧ lowC c) (td := fun i => [(5, .d (.int (0 + (i : Nat))))]) [("_law_k", 5)]
        (EIU.weak (eiu_range (P := fun m => m ≤ 5 ∧ (form = 4 ∨ m ≤ 4)) ((evp_pick (c := decide ((form : Int) = 4)) (P := fun d => ∃ m : Nat, d = .int (m : Nat) ∧ m ≤ 4) (R := fun d => d = .int 5) (S := fun d => ∃ m : Nat, d = .int (m : Nat) ∧ m ≤ 100000 ∧ m ≤ 5 ∧ (form = 4 ∨ m ≤ 4)) ((evp_take (n := 5) h1 of_E (fun z => Iff.rfl) kk (by rfl) (vr 0) ev_int (by decide)).imp fun r ⟨i, e, hi⟩ => ⟨_, e, i, rfl, by omega⟩) (ev_int.toP ⟨_, rfl, rfl⟩)
          ((ev_intB ((ev_eq (vr 3) ev_int).eqb (by simp [eqD])) (by rfl) b.int)) (fun hc d ⟨m, e, hm⟩ => ⟨m, e, by omega, by omega, .inr hm⟩) (fun hc d e => ⟨5, e, by omega, by omega, .inl (by have := of_decide_eq_true hc; omega)⟩)).imp fun r ⟨d, e, m, em, q⟩ => ⟨m, by rw [e, em], q⟩) (by rfl) b.range))
        (fun xs ⟨m, e, _, hm⟩ => by rw [e, List.length_range]; omega) (blkOk_by (by kernel_rfl)) (fun xs hp d hd => eg_name 5 rfl (.inl rfl)) (fun xs hp d hd q hq => by simp at hq; subst hq; simp) (fun xs hp d hd => ets_nil) (fun xs hp d hd _ => ?_)).imp fun r ⟨xs, m, ⟨k, ek, _, hk⟩, e, hm⟩ => ?_) (fun ys ⟨hy, hl, _⟩ => ?_)).imp fun r ⟨ys, e, hy, hl, hf⟩ => ⟨_, e, ?_⟩) fun r ⟨st, hr, hst⟩ => ?_
    · exact (evp_ixSU (s := letters) (R := fun i => 0 ≤ i ∧ i < 26) (S := lowC) (vr 2) (by rw [sizeLine_eq]; decide) ((evp_take (n := 26) h1 of_E.blk (fun z => Iff.rfl) kk (by rfl) (vr 0) ev_int (by decide)).imp fun r ⟨i, e, hi⟩ => ⟨_, e, by omega, by omega⟩) (fun i ⟨hi0, hi1⟩ => ⟨_, letters_at hi0 hi1, by unfold lowC; omega⟩)).imp fun r ⟨c, e, hc⟩ => ⟨_, e, _, rfl, c, rfl, hc⟩
    · obtain ⟨ys, e2, hl, hg⟩ := made_strs (Good := fun s => ∃ c, s = ⟨#[c]⟩ ∧ lowC c) (fun d y ⟨s, es, hc⟩ => ⟨s, es, hc⟩) hm
      rw [ek, List.length_range] at hl
      exact ⟨ys, by rw [e, e2], hg, by omega, hk.2.imp id fun z => by omega⟩
    · have key : ∀ (ys : List Str), (∀ y ∈ ys, ∃ c, y = ⟨#[c]⟩ ∧ lowC c) → (ys.map (·.length)).sum = ys.length := by
        intro ys
        induction ys with
        | nil => intro _; rfl
        | cons y ys ih =>
          intro h
          obtain ⟨c, e, _⟩ := h y (by simp)
          rw [List.map_cons, List.sum_cons, ih fun z hz => h z (by simp [hz]), e]
          show 1 + ys.length = ys.length + 1
          omega
      rw [key ys hy]
      show ys.length + ys.length * 0 ≤ _
      omega
    · have key : ∀ (ys : List Str), (∀ y ∈ ys, ∃ c, y = ⟨#[c]⟩ ∧ lowC c) → (∀ c ∈ ys.flatMap (fun y => y.cps.toList), lowC c) ∧ (ys.flatMap (fun y => y.cps.toList)).length = ys.length := by
        intro ys
        induction ys with
        | nil => intro _; exact ⟨fun c hc => (by cases hc), rfl⟩
        | cons y ys ih =>
          intro h
          obtain ⟨c, e, hc⟩ := h y (by simp)
          obtain ⟨i1, i2⟩ := ih fun z hz => h z (by simp [hz])
          rw [List.flatMap_cons, e]
          refine ⟨fun d hd => ?_, ?_⟩
          · rcases List.mem_append.mp hd with hd | hd
            · have : d = c := by simpa using hd
              rw [this]; exact hc
            · exact i1 d hd
          · rw [List.length_append, i2]
            show 1 + ys.length = ys.length + 1
            omega
      obtain ⟨k1, k2⟩ := key ys hy
      unfold okStem
      rw [join_l]
      exact ⟨k1, by omega, hf.imp id fun z => by omega⟩
    subst hr
    have hlen : st.length ≤ 5 := by rw [str_len]; exact hst.2.1
    refine sv_par 7 8 (by rfl) (by rfl) (by rfl) (by rfl) (EVP.toM (P := fun r => ∃ i : Nat, r = .d (.int (i : Nat))) ((evp_pick (c := decide ((form : Int) = 4)) (P := fun d => ∃ m : Nat, d = .int (m : Nat)) (R := fun d => ∃ m : Nat, d = .int (m : Nat)) (S := fun d => ∃ m : Nat, d = .int (m : Nat)) ((evp_take (n := st.length + 1) h1 of_E (fun z => Iff.rfl) kk (by rfl) (vr 0) ((ev_add (ev_lenS (vr 6) (by rw [sizeLine_eq]; omega) (by rfl) b.len) ev_int).eqd (by congr 1)) (by omega)).imp fun r ⟨i, e, hi⟩ => ⟨_, e, i, rfl⟩) (ev_int.toP ⟨_, rfl, 5, rfl⟩)
          ((ev_intB ((ev_eq (vr 3) ev_int).eqb (by simp [eqD])) (by rfl) b.int)) (fun hc d h => h) (fun hc d h => h)).imp fun r ⟨d, e, m, em⟩ => ⟨m, by rw [e, em]⟩))
      (EVP.toM (evp_take (n := 26) h1 of_E (fun z => Iff.rfl) kk (by rfl) (vr 0) ev_int (by decide))) (fun B1 r B2 r2 hp1 hp2 => ?_) (by decide) (fun env he => sw_two (by rw [he]; rfl) (by rw [he]; rfl) (by rw [he]; rfl) (by rfl) (by decide +kernel) (by rfl) (by decide +kernel) (by decide +kernel))
    obtain ⟨e1, spot, hr⟩ := hp1
    obtain ⟨e2, first, hr2, hfirst⟩ := hp2
    subst e1; subst e2; subst hr; subst hr2
    refine sv_new 9 (by rfl) (.inl (by rfl)) en_nil (by rfl) fun q d hd nB ap => ?_
    subst hd
    refine sv_for (List.range n) (fun i => .int (0 + (i : Nat))) (fun i δ' => ∃ x y z, δ' = [some (.box bx), some (.d (.int n)), some (.d (.str letters)), some (.d (.int form)), none, x, some (.d (.str st)), some (.d (.int spot)), some (.d (.int first)), some (.own q (.lst ((List.range i).map fun k => .str (nmK form st spot first k)))), y, z]) (td := fun i => [(5, .d (.int (0 + (i : Nat))))]) (EI.eq (ei_range1 (vr 1) (by omega) (by rfl) b.range) (by simp [rngD])) ⟨none, none, none, rfl⟩ (fun d hd => eg_name 5 rfl (.inl rfl)) ?_ ?_
    · rintro i k δ' hk ⟨x, y, z, rfl⟩
      obtain ⟨hki, hkk⟩ := List.getElem?_eq_some_iff.mp hk
      have hik : k = i := by simpa using hkk.symm
      have hin : i < n := by simpa using hki
      subst hik
      have hmod : ((first : Int) + 7 * (0 + (k : Nat))) % 26 = (((first + 7 * k) % 26 : Nat) : Int) := by omega
      refine sv_set 10 (r := .d (.str (letK first k))) (by rfl) (.inl (by rfl)) (ev_ixS (vr 2) (ev_mod (ev_add (vr 8) (ev_mul ev_int (vr 5) (.inl (by decide)))) ev_int (by decide)) (by rw [sizeLine_eq]; decide) (by rw [hmod]; exact letters_at (by omega) (by omega))) ?_
      have hcz : ∀ i j, (cutS st i j).length ≤ 5 := fun i j => Nat.le_trans (cutS_length st i j) hlen
      refine sv_set 11 (r := .d (.str (insK st spot first k))) (by rfl) (.inl (by rfl)) (ev_catS (ev_catS (ev_slS (vr 6) (by rw [sizeLine_eq]; omega) eo_none (eo_some (vr 7))) (vr 10) ?_) (ev_slS (vr 6) (by rw [sizeLine_eq]; omega) (eo_some (vr 7)) eo_none) ?_) ?_
      · have := hcz none (some (spot : Nat))
        show _ + 1 ≤ 1000
        omega
      · have h3 := hcz none (some (spot : Nat))
        have h4 := hcz (some (spot : Nat)) none
        have h5 : (cutS st none (some (spot : Nat)) ++ letK first k).length = (cutS st none (some (spot : Nat))).length + 1 := by
          rw [str_len, cat_l, List.length_append, ← str_len]; rfl
        rw [h5]
        omega
      refine sv_if (cc := decide ((form : Int) = 1) && decide (((k % 2 : Nat) : Int) = 1)) (EWt.t (ew_and ((et_eq (vr 3) ev_int).eqb (by simp [eqD])) fun _ => ew_and1 ((et_eq (ev_mod (vr 5) ev_int (by decide)) ev_int).eqb ?_))) (fun h => ?_) (fun h => ?_)
      · simp only [eqD]
        refine decide_eq_decide.mpr ?_
        omega
      · obtain ⟨hc1, hc2⟩ := Bool.and_eq_true_iff.mp h
        have c1 : form = 1 := by have := of_decide_eq_true hc1; omega
        have c2 : k % 2 = 1 := by have := of_decide_eq_true hc2; omega
        obtain ⟨j, rfl⟩ : ∃ j, k = j + 1 := ⟨k - 1, by omega⟩
        have hprev : nmK form st spot first j = insK st spot first j := by
          unfold nmK
          rw [if_neg (by omega)]
        have hlast : atI ((List.range (j + 1)).map fun k => D.str (nmK form st spot first k)) (-1) = some (.str (insK st spot first j)) := by
          unfold atI ixN
          rw [List.length_map, List.length_range, if_neg (by omega), if_pos (by omega)]
          simp
          exact ⟨j, by rw [show (-1 + ((j : Int) + 1)).toNat = j by omega]; simp, hprev⟩
        have hil : (insK st spot first j).length ≤ 6 := by rw [str_len, ins_len]; have := hst.2.1; omega
        refine sv_set 11 (r := .d (.str (insK st spot first j ++ letK first (j + 1)))) (by rfl) (.inl (by rfl)) (ev_catS (ev_ixL (l := (List.range (j + 1)).map fun k => .str (nmK form st spot first k)) (EV.wko (vr 9)) (ev_negI ev_int) hlast) (vr 10) ?_) ?_
        · show _ + 1 ≤ 1000
          omega
        · have hs : insK st spot first j ++ letK first (j + 1) = nmK form st spot first (j + 1) := by
            unfold nmK
            rw [if_pos ⟨c1, c2⟩]
            rfl
          rw [hs]
          refine sv_end ?_
          refine sv_append 9 (P := fun d => d = .str (nmK form st spot first (j + 1))) (by rfl) (.inl (by rfl)) (by rfl) (.inr rfl) (by trivial) (by simp; omega) (EV.pd ((vr 11).eqd rfl)) fun d hd => ?_
          subst hd
          refine sv_end ⟨some (.d (.int (0 + ((j + 1 : Nat) : Nat)))), some (.d (.str (letK first (j + 1)))), some (.d (.str (nmK form st spot first (j + 1)))), ?_⟩
          rw [show List.range (j + 1 + 1) = List.range (j + 1) ++ [j + 1] from List.range_succ, List.map_append]
          rfl
      · have hs : insK st spot first k = nmK form st spot first k := by
          unfold nmK
          rw [if_neg]
          rintro ⟨c1, c2⟩
          rw [c1, c2] at h
          cases h
        rw [hs]
        refine sv_end ?_
        refine sv_append 9 (P := fun d => d = .str (nmK form st spot first k)) (by rfl) (.inl (by rfl)) (by rfl) (.inr rfl) (by trivial) (by simp; omega) (EV.pd ((vr 11).eqd rfl)) fun d hd => ?_
        subst hd
        refine sv_end ⟨some (.d (.int (0 + (k : Nat)))), some (.d (.str (letK first k))), some (.d (.str (nmK form st spot first k))), ?_⟩
        rw [List.range_succ, List.map_append]
        rfl
    · rintro δ' ⟨x, y, z, rfl⟩
      rw [List.length_range]
      refine sv_forget 5 (sv_forget 10 (sv_forget 11 ?_))
      refine sv_freeze 9 (q := q) (d := sL ((List.range n).map (nmK form st spot first))) (by show _ = some (some (Ent.own q (sL _))); unfold sL; rw [List.map_map]; rfl) ?_
      refine sv_ret (evp_callB (P := Back _ _) h2 of_E (fun z => Iff.rfl) kk (by rfl) (EA.toP (ea_cons (vr 0) (ea_1 (vr 9))) ⟨⟨false, ((List.range n).map (nmK form st spot first)).map D.str⟩, rfl, ⟨by simp; omega, okDs_names (n := 8) (nms_ok (spot := spot) (first := first) hst hn).2.2⟩, fun d ⟨l, e, hp⟩ => ?_⟩))
      obtain ⟨us, e2, hp2⟩ := perm_strs hp
      exact .inl ⟨_, rfl, us, by rw [e, e2]; rfl, (nms_ok hst hn).perm hp2⟩
end
end Nb
set_option Elab.async false
set_option linter.all false
set_option maxRecDepth 100000
set_option maxHeartbeats 2000000
namespace Nb
open PySem PySem.Spec PyProof.Rows L2
section
variable {E : EC} {B Bo : Addr → Prop} {δ : Ds} {Ω : Post} {ss : List Stmt} {a b c : Expr} {pos : Pos}
/-- y, z, w = a, b, c where not all names are plain locals: by way of a tuple -/
theorem sv_par3C {P R S : (Addr → Prop) → (Addr → Prop) → Ent → Prop} (i j l : Nat) {y z w : Str} {py pz pw pt : Pos} {kt k2 : Nat} {pt2 : Pos} (hi : E.N[i]? = some y) (hj : E.N[j]? = some z) (hl : E.N[l]? = some w) (hx : Loc E.sc y) (hx2 : Loc E.sc z) (hx3 : Loc E.sc w) (ha : EM E a δ P) (hb : EM E b δ R) (hc : EM E c δ S)
    (k : ∀ B1 r B2 r2 B3 r3, P B B1 r → R B1 B2 r2 → S B2 B3 r3 → SV E B3 Bo ss (((δ.set i (some r)).set j (some r2)).set l (some r3)) Ω)
    (hw : ∀ env : Env, env.scope = E.sc → swappedStores [.Tuple [.Name y py, .Name z pz, .Name w pw] kt pt] (.Tuple [a, b, c] k2 pt2) env = pure none)
    (hf1 : E.fn y = true ∨ E.sc.names.lookup y = some .local := by first | exact .inl rfl | exact .inr rfl) (hf2 : E.fn z = true ∨ E.sc.names.lookup z = some .local := by first | exact .inl rfl | exact .inr rfl) (hf3 : E.fn w = true ∨ E.sc.names.lookup w = some .local := by first | exact .inl rfl | exact .inr rfl)
    (hs : ∀ env, swapsWithSole [.Tuple [.Name y py, .Name z pz, .Name w pw] kt pt] (.Tuple [a, b, c] k2 pt2) pos.line env = pure false := by intro _; rfl)
    (h1 : ∀ env, starEach [a, b, c] env = (false, eval a env) :: starEach [b, c] env := by intro _; rfl) (h2 : ∀ env, starEach [b, c] env = (false, eval b env) :: starEach [c] env := by intro _; rfl) (h3 : ∀ env, starEach [c] env = (false, eval c env) :: starEach [] env := by intro _; rfl) :
    SV E B Bo (.Assign [.Tuple [.Name y py, .Name z pz, .Name w pw] kt pt] (.Tuple [a, b, c] k2 pt2) pos :: ss) δ Ω := fun γ σ H er D s => by
  refine wss_then (ws_of (fun X hX => ps_asg (pe_tup (pa_cons (we_pe hX) (pa_cons (we_pe hX) (pa_cons (we_pe hX) pa_nil (h3 _)) (h2 _)) (h1 _))) (by
    have := pg_tup (pos := pt) (k := kt) hX.calm (pgs_cons (pg_name (pos := py) hX.nd (by rw [hX.N]; exact hi) (by rw [hX.sc]; exact hx) (by rw [hX.fn, hX.sc]; exact hf1)) (pgs_cons (pg_name (pos := pz) hX.nd (by rw [hX.N]; exact hj) (by rw [hX.sc]; exact hx2) (by rw [hX.fn, hX.sc]; exact hf2)) (pgs_cons (pg_name (pos := pw) hX.nd (by rw [hX.N]; exact hl) (by rw [hX.sc]; exact hx3) (by rw [hX.fn, hX.sc]; exact hf3)) pgs_nil rfl) rfl) rfl) (n := 3) rfl rfl
    rw [hX.K] at this
    exact this) (hs _) (hw _ hX.sc) rfl) ?_)
  refine ha B γ σ H er _ fun B1 r v H1 hp l1 rv => hb B1 γ σ H1 (l1.er _ _ _ er) _ fun B2 r2 v2 H2 hp2 l2 rv2 => hc B2 γ σ H2 (l2.er _ _ _ (l1.er _ _ _ er)) _ fun B3 r3 v3 H3 hp3 l3 rv3 => ?_
  have er3 := l3.er _ _ _ (l2.er _ _ _ (l1.er _ _ _ er))
  refine ⟨by show 3 ≤ sizeLine; rw [sizeLine_eq]; decide, fun T hT => ?_⟩
  have l4 : LeC E H3 (upd H3 T (.tup [v, v2, v3])) := LeC.new hT
  refine ⟨T, [v, v2, v3], rfl, .inl (.inl upd_same), rfl, ?_⟩
  refine ⟨v, [v2, v3], rfl, ?_⟩
  refine ⟨v2, [v3], rfl, ?_⟩
  refine ⟨v3, [], rfl, ?_⟩
  exact ⟨rfl, k B1 r B2 r2 B3 r3 hp hp2 hp3 γ _ _ ((((er3.step l4).set i ((l3.re _ _ (l2.re _ _ rv)).step l4 er3.cb)).set j ((l3.re _ _ rv2).step l4 er3.cb)).set l (rv3.step l4 er3.cb)) D s⟩
end
theorem sw_noneC3 {y z w : Str} {py pz pw pt : Pos} {kt k2 : Nat} {pt2 : Pos} {a b c : Expr} {env : Env} (hy : env.scope.names.lookup y = some .local) (hz : env.scope.names.lookup z = some .local) (hw : env.scope.names.lookup w = some .cell) (ha : (match a with | .Starred .. => true | _ => false) = false) (hb : (match b with | .Starred .. => true | _ => false) = false) (hc : (match c with | .Starred .. => true | _ => false) = false) (hl : (pz.line == py.line) = true) :
    swappedStores [.Tuple [.Name y py, .Name z pz, .Name w pw] kt pt] (.Tuple [a, b, c] k2 pt2) env = pure none := by
  have ky : env.kindOf y = some .local := hy
  have kz : env.kindOf z = some .local := hz
  have kw : env.kindOf w = some .cell := hw
  unfold swappedStores
  have e1 : ((some NameKind.local : Option NameKind) == some NameKind.local) = true := rfl
  have e2 : (py.line == py.line) = true := by simp
  have e3 : ((Expr.Name y py).pos.line) = py.line := rfl
  simp only [List.length_cons, List.length_nil, List.filterMap_cons, List.filterMap_nil, ky, kz, kw, List.head?_cons, Option.map_some, Option.getD_some, e1, e2, e3, hl]
  simp only [show ((some NameKind.cell : Option NameKind) == some NameKind.local) = false from rfl, Bool.true_and, Bool.false_and, Bool.false_eq_true, if_false, if_true]
  split
  · rfl
  · split
    · rfl
    · rfl
/-! drawn parts, plain -/
theorem made_ints {τ : Type} {Pf : τ → D → Prop} {Good : Int → Prop} (g : ∀ d y, Pf d y → ∃ s, y = .int s ∧ Good s) : ∀ {xs : List τ} {m : List D}, Made Pf (fun _ => true) xs m → ∃ ys : List Int, m = ys.map D.int ∧ ys.length = xs.length ∧ ∀ s ∈ ys, Good s
  | _, _, .nil => ⟨[], rfl, rfl, fun _ h => by cases h⟩
  | _, _, .yes _ hP hm => by
    obtain ⟨s, e, hs⟩ := g _ _ hP
    obtain ⟨ys, e2, hl, hg⟩ := made_ints g hm
    exact ⟨s :: ys, by rw [e, e2]; rfl, by rw [List.length_cons, List.length_cons, hl], fun x hx => (List.mem_cons.mp hx).elim (fun z => z ▸ hs) (hg x)⟩
  | _, _, .no h _ => by cases h
/-- a want: from a later to an earlier peg of the order -/
def WantOk (od : List Str) (q : Str × Str) : Prop := ∃ i j : Nat, j ≤ i ∧ od[i]? = some q.1 ∧ od[j]? = some q.2
theorem rank_of {od ws : List Str} {qs : List (Str × Str)} (nd : od.Nodup) (h : ∀ q ∈ qs, WantOk od q ∧ q.1 ≠ q.2) : ∃ r : Str → Nat, (∀ p ∈ od, r p < od.length) ∧ ∀ q ∈ qs, r q.2 < r q.1 := by
  classical
  let r : Str → Nat := fun p => if h : ∃ i : Nat, od[i]? = some p then h.choose else 0
  have hr : ∀ {i : Nat} {p : Str}, od[i]? = some p → r p = i := fun {i p} hi => by
    have hx : ∃ i : Nat, od[i]? = some p := ⟨i, hi⟩
    show (if h : ∃ i : Nat, od[i]? = some p then h.choose else 0) = i
    rw [dif_pos hx]
    exact nd_idx nd hx.choose_spec hi
  refine ⟨r, fun p hp => ?_, fun q hq => ?_⟩
  · obtain ⟨i, hi⟩ := List.getElem?_of_mem hp
    rw [hr hi]
    exact (List.getElem?_eq_some_iff.mp hi).1
  · obtain ⟨⟨i, j, hij, h1, h2⟩, hne⟩ := h q hq
    rw [hr h1, hr h2]
    refine Nat.lt_of_le_of_ne hij fun e => hne ?_
    subst e
    rw [h1] at h2
    exact Option.some.inj h2
def BlockOk (pegs : List Str) (q : Str × Str) : Prop := q.1 ∈ pegs ∧ q.2 ∈ pegs ∧ q.1 ≠ q.2
theorem drawn_of {l od : List Str} {ws bs : List (Str × Str)} {cs : List Int} (hl : l.length ≤ 5) (ok : nmsOk l.length l) (hp : od.Perm l) (h1 : ws.length ≤ 1000) (h2 : bs.length ≤ 1000) (hw : ∀ q ∈ ws, WantOk od q ∧ q.1 ≠ q.2) (hb : ∀ q ∈ bs, BlockOk l q) (hd : ∀ p ∈ l, barredIn (lawRows l ws p) (lawRows l ws p) bs = false) (hc : cs.length = l.length) (hcs : ∀ c ∈ cs, 1 ≤ c ∧ c ≤ 1000) : Drawn ⟨l, ws, bs, cs⟩ where
  few := Nat.le_trans hl (by decide)
  names := ok.2.2
  nd := ok.2.1
  len := hc
  cost := hcs
  nmany := h1
  bmany := h2
  ends := fun q hq => by
    obtain ⟨⟨i, j, _, e1, e2⟩, _⟩ := hw q hq
    exact ⟨hp.subset (List.mem_of_getElem? e1), hp.subset (List.mem_of_getElem? e2)⟩
  bends := fun q hq => hb q hq
  rank := by
    obtain ⟨r, r1, r2⟩ := rank_of (ws := l) (hp.symm.nodup ok.2.1) hw
    exact ⟨r, fun p hpp => by have := r1 p (hp.symm.subset hpp); rw [hp.length_eq] at this; exact this, r2⟩
  dead := hd
end Nb
set_option Elab.async false
set_option linter.all false
set_option maxRecDepth 100000
set_option maxHeartbeats 2000000
namespace Nb
open PySem PySem.Spec PyProof.Rows L2
section
variable {g : Glob}
section
variable {E : EC} {δ : Ds} {e t : Expr}
theorem evp_many {m : Nat} {j1 j2 j3 : Nat} {p1 p2 p3 p4 p5 p6 p7 : Pos} (ht : EVP E t δ (fun r => ∃ i : Nat, r = .d (.int (i : Nat)) ∧ i < 2)) (hl : EV E e δ (.d (.int (m : Nat)))) (hm : m ≤ 5) (hp : PlainIx t := by exact fun _ _ => rfl) :
    EVP E (.BinOp (.BinOp (.Subscript (.List [.Constant (.int 1) j1 p1, .Constant (.int 2) j2 p2] p3) t p4) .Mult e p5) .Add (.Constant (.int 1) j3 p6) p7) δ (fun r => ∃ n : Nat, r = .d (.int (n : Nat)) ∧ (1 ≤ n ∧ n ≤ 100000) ∧ (n ≤ 11 ∧ (m = 0 → n = 1))) := by
  have h1 : EVP E (.Subscript (.List [.Constant (.int 1) j1 p1, .Constant (.int 2) j2 p2] p3) t p4) δ (fun r => ∃ y, r = .d y ∧ ∃ k : Nat, y = .int (k : Nat) ∧ k ≤ 2) :=
    evp_ixLU (P := fun ds => ds = [.int 1, .int 2]) (R := fun i => i = 0 ∨ i = 1) ((ev_lst (ds := [.int 1, .int 2]) (ea_cons ev_int (ea_1 ev_int)) (by decide)).toP ⟨_, rfl, rfl⟩) (ht.imp fun r ⟨i, e, hi⟩ => ⟨_, e, by omega⟩) (fun ds i hd hi => by
      subst hd
      rcases hi with rfl | rfl
      · exact ⟨.int 1, rfl, 1, rfl, by decide⟩
      · exact ⟨.int 2, rfl, 2, rfl, by decide⟩) hp
  have h2 : EVP E (.BinOp (.Subscript (.List [.Constant (.int 1) j1 p1, .Constant (.int 2) j2 p2] p3) t p4) .Mult e p5) δ (fun r => ∃ k : Nat, r = .d (.int ((k * m : Nat) : Int)) ∧ k ≤ 2) :=
    evp_op (fun X hX => op_mul) h1 (hl.toP (P := fun r => r = .d (.int (m : Nat))) rfl) fun ra rb ⟨y, e1, k, e2, hk⟩ e3 => ⟨.d (.int ((k : Int) * (m : Nat))), ⟨k, by rw [Int.natCast_mul], hk⟩, by
      subst e1; subst e2; subst e3
      exact ro_mul (.inr ⟨by omega, by omega⟩)⟩
  exact evp_op (fun X hX => op_add) h2 (ev_int.toP (P := fun r => r = .d (.int 1)) rfl) fun ra rb ⟨k, e1, hk⟩ e2 => ⟨.d (.int (((k * m : Nat) : Int) + 1)), ⟨k * m + 1, by congr 1, ⟨by omega, by
    have : k * m ≤ 2 * 5 := Nat.mul_le_mul hk hm
    omega⟩, by
    have : k * m ≤ 2 * 5 := Nat.mul_le_mul hk hm
    omega, fun z => by rw [z]; rfl⟩, by
    subst e1; subst e2
    exact ro_II⟩
end
theorem scPt : FnScope ["_law_box_here", "_law_most", "_law_pegs", "_law_order", "_law_wants", "_law_blocks", "_law_turn", "_law_late", "_law_rows_here", "_law_pair", "_law_dead", "_law_prices", "_law_peg", "_law_needed"] ["_law_box_here", "_law_most"] (defScope (top 75)) := ⟨rfl, rfl, rfl, by decide +kernel, rfl, by decide +kernel, by decide +kernel⟩
def spPt (g : Glob) : Sp := spB g (α := Unit) (fun _ => [.int 5]) (fun _ => True) (fun _ d => ∃ s, d = partsD s ∧ Drawn s ∧ s.pegs.length ≤ 5)
theorem fn_parts (F : Df g "_law_parts" (top 75)) (b : Bi g) (h1 : Fn g 1 "_law_take" (spTake g)) (h2 : Fn g 2 "_law_mixed" (spMixed g)) (h3 : Fn g 3 "_law_names" (spNms g)) (h4 : Fn g 1 "_law_rows" (spLRow g)) (h5 : Fn g 1 "_law_is_barred" (spLBar g)) : Fn g 4 "_law_parts" (spPt g) := by
  refine F.fnB scPt (fun _ _ _ _ _ _ us hl => match us, hl with | [_, _], _ => rfl) (fun a => rfl) (by decide) fun B0 H0 bx _ _ hb => ?_
  refine sv_setP 2 (P := fun r => ∃ l : List Str, r = .d (sL l) ∧ l.length ≤ 5 ∧ nmsOk l.length l) (by rfl) (.inl (by rfl)) (evp_callB h3 of_E (fun z => Iff.rfl) kk (by rfl) (eap_cons (P := fun r => r = .box bx) (R := fun rs => ∃ n : Nat, rs = [.d (.int (n : Nat))] ∧ n ≤ 5) ((vr 0 : EV _ _ _ (.box bx)).toP rfl) (eap_cons (R := fun rs => rs = []) (evp_take (n := 6) h1 of_E (fun z => Iff.rfl) kk (by rfl) (vr 0) ((ev_add (vr 1) ev_int).eqd (by rfl)) (by decide)) (eap_nil rfl) (fun r rs ⟨n, e, hn⟩ e3 => ⟨n, by rw [e, e3], by omega⟩)) (fun r rs e ⟨n, e3, hn⟩ => ⟨n, by rw [e, e3]; rfl, hn, fun d ⟨l, e5, hl⟩ => ⟨l, by rw [e5], by rw [hl.1]; exact hn, by rw [hl.1]; exact hl⟩⟩))) fun r ⟨l, hr, hl5, hl⟩ => ?_
  subst hr
  refine sv_par3C 3 4 5 (by rfl) (by rfl) (by rfl) (.inl (by rfl)) (.inl (by rfl)) (.inr (by rfl)) (EVP.toM (P := fun r => ∃ od : List Str, r = .d (sL od) ∧ od.Perm l) (evp_callB h2 of_E (fun z => Iff.rfl) kk (by rfl) (EA.toP (ea_cons (vr 0) (ea_1 (vr 2))) ⟨⟨false, l.map D.str⟩, rfl, ⟨by simp; omega, okDs_names (n := 8) hl.2.2⟩, fun d ⟨m, e, hp⟩ => by
    obtain ⟨us, e2, hp2⟩ := perm_strs hp
    exact ⟨us, by rw [e, e2]; rfl, hp2⟩⟩))) (EN.toM en_nil (by rfl)) (EN.toM en_nil (by rfl)) (fun B1 r1 B2 r2 B3 r3 hp1 hp2 hp3 => ?_) (fun env he => sw_noneC3 (by rw [he]; rfl) (by rw [he]; rfl) (by rw [he]; rfl) rfl rfl rfl (by rfl))
  obtain ⟨e1, od, hr1, hod⟩ := hp1
  obtain ⟨q, d, e2, nB, ap, hr2, hd⟩ := hp2
  obtain ⟨q2, d2, e3, nB2, ap2, hr3, hd2⟩ := hp3
  subst e1; subst hr1; subst e2; subst hr2; subst hd; subst e3; subst hr3; subst hd2
  have hne : q2 ≠ q := fun z => nB2 (.inr z)
  have odl : od.length = l.length := hod.length_eq
  refine sv_forU (fun i : Nat => D.int (0 + (i : Nat))) (fun xs => ∃ m, xs = List.range m ∧ m ≤ 100000 ∧ (m ≤ 10 ∧ (l.length = 0 → m = 0))) (fun xs i δ' => ∃ ws x y, δ' = [some (.box bx), some (.d (.int 5)), some (.d (sL l)), some (.d (sL od)), some (.own q (.lst (ws.map pD))), some (.own q2 (.lst [])), x, y, none, none, none, none, none, none] ∧ ws.length ≤ i ∧ ∀ w ∈ ws, WantOk od w) (td := fun i => [(6, .d (.int (0 + (i : Nat))))])
    (eiu_range (P := fun m => m ≤ 10 ∧ (l.length = 0 → m = 0)) ((evp_takeU (P := fun n => n ≤ 11 ∧ (l.length = 0 → n = 1)) h1 of_E (fun z => Iff.rfl) kk (by rfl) (vr 0) (evp_many (m := l.length) (evp_take (n := 2) h1 of_E (fun z => Iff.rfl) kk (by rfl) (vr 0) ev_int (by decide)) ((ev_len (x := sL l) (l := l.map D.str) (EV.wk (vr 2)) rfl (by rfl) b.len).eqd (by rw [List.length_map])) hl5)).imp fun r ⟨i, n, e, hi, hn, hz⟩ => ⟨i, e, by omega, by omega, fun z => by have := hz z; omega⟩) (by rfl) b.range)
    (fun xs _ => ⟨[], none, none, rfl, Nat.le_refl _, fun w hw => (by cases hw)⟩) (fun xs _ d hd => eg_name 6 rfl (.inl rfl)) ?_ ?_
  · rintro xs ⟨m, rfl, _, hm10, hmz⟩ i k δ' hk ⟨ws, x, y, rfl, hwl, hw⟩
    have hik : i < m := by have := (List.getElem?_eq_some_iff.mp hk).1; simpa using this
    have hpos : 0 < od.length := by
      rw [odl]
      refine Nat.pos_of_ne_zero fun z => ?_
      have := hmz z
      omega
    refine sv_setP 7 (P := fun r => ∃ la : Nat, r = .d (.int (la : Nat)) ∧ la < od.length) (by rfl) (.inl (by rfl)) (evp_take (n := od.length) h1 of_E (fun z => Iff.rfl) kk (by rfl) (vr 0) ((ev_len (x := sL od) (l := od.map D.str) (EV.wk (vr 3)) rfl (by rfl) b.len).eqd (by rw [List.length_map])) (by omega)) fun r ⟨la, hr, hla⟩ => ?_
    subst hr
    refine sv_extend 4 (Pm := fun m => ∃ w : Str × Str, m = [pD w] ∧ WantOk od w) (by rfl) (.inl (by rfl)) (by rfl) (.inl (.inr rfl)) ⟨hne, trivial⟩ (evp_lst (P := fun m => ∃ w : Str × Str, m = [pD w] ∧ WantOk od w) (eap_cons (P := fun r => ∃ ds, r = .d (.tup ds) ∧ ∃ w : Str × Str, ds = [.str w.1, .str w.2] ∧ WantOk od w) (R := fun rs => rs = []) (evp_tup (eap_cons (P := fun r => r = .d (.str od[la])) (R := fun rs => ∃ (s : Str) (j : Nat), rs = [.d (.str s)] ∧ j ≤ la ∧ od[j]? = some s) ((ev_ixL (l := od.map D.str) (EV.wk (x := sL od) (vr 3)) (vr 7) (atI_nat (by rw [List.getElem?_map, List.getElem?_eq_getElem hla]; rfl))).toP rfl)
      (eap_cons (P := fun r => ∃ y, r = .d y ∧ ∃ (s : Str) (j : Nat), y = .str s ∧ j ≤ la ∧ od[j]? = some s) (R := fun rs => rs = []) (evp_ixLU (P := fun ds => ds = od.map D.str) (R := fun i => ∃ j : Nat, i = (j : Nat) ∧ j ≤ la) ((vr 3 : EV _ _ _ (.d (sL od))).toP ⟨_, rfl, rfl⟩) ((evp_take (n := la + 1) h1 of_E (fun z => Iff.rfl) kk (by rfl) (vr 0) ((ev_add (vr 7) ev_int).eqd (by congr 1)) (by omega)).imp fun r ⟨i, e, hi⟩ => ⟨_, e, i, rfl, by omega⟩) (fun ds i hd ⟨j, hj, hjl⟩ => ?_)) (eap_nil rfl) (fun r rs ⟨y, e, s, j, ey, h⟩ e3 => ⟨s, j, by rw [e, ey, e3], h⟩)) (fun r rs e ⟨s, j, e3, hj, hs⟩ => ⟨[.str od[la], .str s], by rw [e, e3]; rfl, by simp, (od[la], s), rfl, la, j, hj, List.getElem?_eq_getElem hla, hs⟩))) (eap_nil rfl) (fun r rs ⟨ds, e, w, ed, hw⟩ e3 => ⟨[pD w], by rw [e, e3, ed]; rfl, by simp, w, rfl, hw⟩))) (fun m ⟨w, e, _⟩ => by rw [e, List.length_map]; simp; omega) fun m ⟨w, em, hw1⟩ => ?_
    · subst hd; subst hj
      have hj2 : j < od.length := by omega
      exact ⟨.str od[j], atI_nat (by rw [List.getElem?_map, List.getElem?_eq_getElem hj2]; rfl), od[j], j, rfl, hjl, List.getElem?_eq_getElem hj2⟩
    · subst em
      refine sv_end ⟨ws ++ [w], some (.d (.int (0 + (k : Nat)))), some (.d (.int la)), by rw [List.map_append]; rfl, by simp; omega, fun v hv => ?_⟩
      rcases List.mem_append.mp hv with hv | hv
      · exact hw v hv
      · rw [List.mem_singleton.mp hv]; exact hw1
  rintro xs ⟨m, rfl, _, hm10, _⟩ δ' ⟨ws, x, y, rfl, hwl, hw⟩
  rw [List.length_range] at hwl
  refine sv_setLc 4 (td := fun w => [(12, .d (.str w.1)), (13, .d (.str w.2))]) (xs := ws) (c := pD) (t := fun w => !decide (w.1 = w.2)) (Pf := fun w y => y = pD w) (by rfl) (by rfl) (by rfl) [("_law_peg", 12), ("_law_needed", 13)] (ei_listw (EV.wko (vr 4))) (by omega) (blkOk_by (by kernel_rfl)) (fun d hd => eg_two 12 13 (by rfl) (by rfl) (.inl (by rfl)) (.inl (by rfl))) (fun d hd q hq => by simp at hq; rcases hq with rfl | rfl <;> simp)
    (fun w hw => ets_one ((et_ne (vr 12) (vr 13)).eqb (by simp [eqD]))) (fun w hw _ => (ev_tup (ds := [.str w.1, .str w.2]) (ea_cons (vr 12) (ea_1 (vr 13))) (by simp)).toP ⟨_, rfl, rfl⟩) fun m' hm' => ?_
  rw [show m' = (ws.filter fun w => !decide (w.1 = w.2)).map pD from hm'.fn]
  generalize hws : ws.filter (fun w => !decide (w.1 = w.2)) = wz
  have hwz : ∀ w ∈ wz, WantOk od w ∧ w.1 ≠ w.2 := fun w h => by
    rw [← hws] at h
    obtain ⟨z1, z2⟩ := List.mem_filter.mp h
    exact ⟨hw w z1, by simpa using z2⟩
  have hwzl : wz.length ≤ 10 := by rw [← hws]; exact Nat.le_trans (List.length_filter_le _ _) (by omega)
  have hwzin : ∀ w ∈ wz, w.1 ∈ l ∧ w.2 ∈ l := fun w h => by
    obtain ⟨⟨i, j, _, z1, z2⟩, _⟩ := hwz w h
    exact ⟨hod.subset (List.mem_of_getElem? z1), hod.subset (List.mem_of_getElem? z2)⟩
  refine sv_set 8 (r := .d (rowsT l (lawRows l wz))) (by rfl) (.inr (by rfl)) (ev_call (α := List Str × List (Str × Str)) (l, wz) h4 of_E kk (by rfl) (ea_cons (vr 2) (ea_1 (vr 4))) ⟨by show l.length ≤ 12; omega, hl.2.1, by show wz.length ≤ 1000; omega, hwzin⟩ (fun d' h => h)) ?_
  refine sv_forget 7 ?_
  refine sv_forU (fun i : Nat => D.int (0 + (i : Nat))) (fun xs => ∃ m, xs = List.range m ∧ m ≤ 100000 ∧ (m ≤ 10 ∧ (l.length = 0 → m = 0))) (fun xs i δ' => ∃ bs x z w, δ' = [some (.box bx), some (.d (.int 5)), some (.d (sL l)), some (.d (sL od)), some (.d (.lst (wz.map pD))), some (.own q2 (.lst (bs.map pD))), x, none, some (.d (rowsT l (lawRows l wz))), z, w, none, none, none] ∧ bs.length ≤ i ∧ (∀ p ∈ bs, BlockOk l p) ∧ ∀ p ∈ l, barredIn (lawRows l wz p) (lawRows l wz p) bs = false) (td := fun i => [(6, .d (.int (0 + (i : Nat))))])
    (eiu_range (P := fun m => m ≤ 10 ∧ (l.length = 0 → m = 0)) ((evp_takeU (P := fun n => n ≤ 11 ∧ (l.length = 0 → n = 1)) h1 of_E (fun z => Iff.rfl) kk (by rfl) (vr 0) (evp_many (m := l.length) (evp_take (n := 2) h1 of_E (fun z => Iff.rfl) kk (by rfl) (vr 0) ev_int (by decide)) ((ev_len (x := sL l) (l := l.map D.str) (EV.wk (vr 2)) rfl (by rfl) b.len).eqd (by rw [List.length_map])) hl5)).imp fun r ⟨i, n, e, hi, hn, hz⟩ => ⟨i, e, by omega, by omega, fun z => by have := hz z; omega⟩) (by rfl) b.range)
    (fun xs _ => ⟨[], _, none, none, rfl, Nat.le_refl _, (fun p hp => (by cases hp)), fun p hp => rfl⟩) (fun xs _ d hd => eg_name 6 rfl (.inl rfl)) ?_ ?_
  · rintro xs ⟨m, rfl, _, hm10, hmz⟩ i k δ' hk ⟨bs, x, z, w, rfl, hbl, hbs, hdead⟩
    have hik : i < m := by have := (List.getElem?_eq_some_iff.mp hk).1; simpa using this
    have hpos : 0 < l.length := by
      refine Nat.pos_of_ne_zero fun z => ?_
      have := hmz z
      omega
    have one : ∀ {t : Expr} {e : Expr} {p1 : Pos} {δ : Ds}, EV (g.E 3 ["_law_box_here", "_law_most", "_law_pegs", "_law_order", "_law_wants", "_law_blocks", "_law_turn", "_law_late", "_law_rows_here", "_law_pair", "_law_dead", "_law_prices", "_law_peg", "_law_needed"] (defScope (top 75)) B1 (fun x => x = bx) (fun x => x = bx) H0) e δ (.d (sL l)) → EVP (g.E 3 ["_law_box_here", "_law_most", "_law_pegs", "_law_order", "_law_wants", "_law_blocks", "_law_turn", "_law_late", "_law_rows_here", "_law_pair", "_law_dead", "_law_prices", "_law_peg", "_law_needed"] (defScope (top 75)) B1 (fun x => x = bx) (fun x => x = bx) H0) t δ (fun r => ∃ i : Nat, r = .d (.int (i : Nat)) ∧ i < l.length) → PlainIx t → EVP (g.E 3 ["_law_box_here", "_law_most", "_law_pegs", "_law_order", "_law_wants", "_law_blocks", "_law_turn", "_law_late", "_law_rows_here", "_law_pair", "_law_dead", "_law_prices", "_law_peg", "_law_needed"] (defScope (top 75)) B1 (fun x => x = bx) (fun x => x = bx) H0) (.Subscript e t p1) δ (fun r => ∃ y, r = .d y ∧ ∃ s, y = .str s ∧ s ∈ l) := fun ha hb hp =>
      evp_ixLU (P := fun ds => ds = l.map D.str) (R := fun i => ∃ j : Nat, i = (j : Nat) ∧ j < l.length) (ha.toP ⟨_, rfl, rfl⟩) (hb.imp fun r ⟨i, e, hi⟩ => ⟨_, e, i, rfl, hi⟩) (fun ds i hd ⟨j, hj, hjl⟩ => by
        subst hd; subst hj
        exact ⟨.str l[j], atI_nat (by rw [List.getElem?_map, List.getElem?_eq_getElem hjl]; rfl), l[j], rfl, List.getElem_mem hjl⟩) hp
    refine sv_setP 9 (P := fun r => ∃ w : Str × Str, r = .d (pD w) ∧ w.1 ∈ l ∧ w.2 ∈ l) (by rfl) (.inr (by rfl)) ((evp_tup (P := fun ds => ∃ w : Str × Str, ds = [.str w.1, .str w.2] ∧ w.1 ∈ l ∧ w.2 ∈ l) (eap_cons (P := fun r => ∃ y, r = .d y ∧ ∃ s, y = .str s ∧ s ∈ l) (R := fun rs => ∃ s, rs = [.d (.str s)] ∧ s ∈ l) (one (vr 2) (evp_take (n := l.length) h1 of_E (fun z => Iff.rfl) kk (by rfl) (vr 0) ((ev_len (x := sL l) (l := l.map D.str) (EV.wk (vr 2)) rfl (by rfl) b.len).eqd (by rw [List.length_map])) (by omega)) (fun _ _ => rfl))
      (eap_cons (P := fun r => ∃ y, r = .d y ∧ ∃ s, y = .str s ∧ s ∈ l) (R := fun rs => rs = []) (one (vr 2) (evp_take (n := l.length) h1 of_E (fun z => Iff.rfl) kk (by rfl) (vr 0) ((ev_len (x := sL l) (l := l.map D.str) (EV.wk (vr 2)) rfl (by rfl) b.len).eqd (by rw [List.length_map])) (by omega)) (fun _ _ => rfl)) (eap_nil rfl) (fun r rs ⟨y, e, s, ey, h⟩ e3 => ⟨s, by rw [e, ey, e3], h⟩)) (fun r rs ⟨y, e, s, ey, h⟩ ⟨s2, e3, h3⟩ => ⟨[.str s, .str s2], by rw [e, ey, e3]; rfl, by simp, (s, s2), rfl, h, h3⟩))).imp fun r ⟨ds, e, w, ed, h⟩ => ⟨w, by rw [e, ed]; rfl, h⟩) fun r ⟨pr, hr, hp1, hp2⟩ => ?_
    subst hr
    have hcat : bs.map pD ++ [pD pr] = (bs ++ [pr]).map pD := by rw [List.map_append]; rfl
    refine sv_setLc 10 (td := fun p => [(12, .d (.str p))]) (xs := l) (c := D.str) (t := fun p => barredIn (lawRows l wz p) (lawRows l wz p) (bs ++ [pr])) (Pf := fun p y => y = .str p) (by rfl) (by rfl) (by rfl) [("_law_peg", 12)] (ei_list (l := l.map D.str) (vr 2)).weak (by omega) (blkOk_by (by kernel_rfl)) (fun d hd => eg_name 12 rfl (.inl rfl)) (fun d hd q hq => by simp at hq; subst hq; simp)
      (fun p hp => ets_one (et_v (ev_call (α := List Str × List Str × List (Str × Str)) (lawRows l wz p, lawRows l wz p, bs ++ [pr]) h5 of_E.blk kk (by rfl) (ea_cons (ev_dget (d := sT (lawRows l wz p)) (ks := l) (l := l.map fun p => sT (lawRows l wz p)) (EV.wk (x := rowsT l (lawRows l wz)) (vr 8)) (vr 12) (lookD_map hp) (by exact fun _ _ => rfl)) (ea_cons (ev_dget (d := sT (lawRows l wz p)) (ks := l) (l := l.map fun p => sT (lawRows l wz p)) (EV.wk (x := rowsT l (lawRows l wz)) (vr 8)) (vr 12) (lookD_map hp) (by exact fun _ _ => rfl)) (ea_1 ((ev_catL (l := bs.map pD) (m := [pD pr]) (EV.wko (vr 5)) (EV.wk (x := .lst [pD pr]) (ev_lst (ds := [pD pr]) (ea_1 (vr 9)) (by simp))) (by simp; omega)).eqd (by rw [hcat]; rfl))))) (show (bs ++ [pr]).length ≤ 1000 by simp; omega) (fun d' h => h)))) (fun p hp _ => (vr 12 : EV _ _ _ (.d (.str p))).toP ⟨_, rfl, rfl⟩) fun m' hm' => ?_
    rw [show m' = (l.filter fun p => barredIn (lawRows l wz p) (lawRows l wz p) (bs ++ [pr])).map D.str from hm'.fn]
    refine sv_if (cc := !decide (pr.1 = pr.2) && (l.filter fun p => barredIn (lawRows l wz p) (lawRows l wz p) (bs ++ [pr])).isEmpty) (EWt.t (ew_and ((et_ne (x := .str pr.1) (y := .str pr.2) (ev_ixT (l := [.str pr.1, .str pr.2]) (EV.wk (x := pD pr) (vr 9)) ev_int (by rfl)) (ev_ixT (l := [.str pr.1, .str pr.2]) (EV.wk (x := pD pr) (vr 9)) ev_int (by rfl))).eqb (by simp [eqD])) fun _ => ew_and1 (et_eqD (x := .lst ((l.filter fun p => barredIn (lawRows l wz p) (lawRows l wz p) (bs ++ [pr])).map D.str)) (y := .lst []) 4 2 (EV.wk (vr 10)) (EV.wk (x := .lst []) (ev_lst (ds := []) ea_nil (by simp))) (okDs_names (n := 3) fun p hp => hl.2.2 p (List.mem_filter.mp hp).1) rfl (by simp)))) (fun h => ?_) (fun h => ?_)
    · obtain ⟨hc1, hc2⟩ := Bool.and_eq_true_iff.mp h
      have hne2 : pr.1 ≠ pr.2 := by simpa using hc1
      have hall : ∀ p ∈ l, barredIn (lawRows l wz p) (lawRows l wz p) (bs ++ [pr]) = false := by
        rw [List.isEmpty_iff, List.filter_eq_nil_iff] at hc2
        exact fun p hp => by simpa using hc2 p hp
      refine sv_append 5 (P := fun d => d = pD pr) (by rfl) (.inr (.inl (by rfl))) (by rfl) (.inr rfl) (by trivial) (by rw [List.length_map]; omega) (EV.pd (vr 9)) fun d hd => ?_
      subst hd
      refine sv_end (sv_end ⟨bs ++ [pr], some (.d (.int (0 + (k : Nat)))), some (.d (pD pr)), some (.d (.lst ((l.filter fun p => barredIn (lawRows l wz p) (lawRows l wz p) (bs ++ [pr])).map D.str))), by rw [← hcat]; rfl, by simp; omega, fun p hp => ?_, hall⟩)
      rcases List.mem_append.mp hp with hp | hp
      · exact hbs p hp
      · rw [List.mem_singleton.mp hp]; exact ⟨hp1, hp2, hne2⟩
    · exact sv_end (sv_end ⟨bs, some (.d (.int (0 + (k : Nat)))), some (.d (pD pr)), some (.d (.lst ((l.filter fun p => barredIn (lawRows l wz p) (lawRows l wz p) (bs ++ [pr])).map D.str))), rfl, by omega, hbs, hdead⟩)
  rintro xs ⟨m2, rfl, _, hm210, _⟩ δ' ⟨bs, x, z, w, rfl, hbl, hbs, hdead⟩
  rw [List.length_range] at hbl
  refine sv_setLc 11 (td := fun p => [(12, .d (.str p))]) (xs := l) (c := D.str) (t := fun p => true) (Pf := fun p y => ∃ c : Int, y = .int c ∧ (1 ≤ c ∧ c ≤ 1000)) (by rfl) (by rfl) (by rfl) [("_law_peg", 12)] (ei_list (l := l.map D.str) (vr 2)).weak (by omega) (blkOk_by (by kernel_rfl)) (fun d hd => eg_name 12 rfl (.inl rfl)) (fun d hd q hq => by simp at hq; subst hq; simp)
    (fun p hp => ets_nil) (fun p hp _ => ?_) fun m' hm' => ?_
  · refine evp_op (fun X hX => op_add) (ev_int.toP (P := fun r => r = .d (.int 1)) rfl) (evp_takeU (P := fun n => n ≤ 1000) h1 of_E.blk (fun z => Iff.rfl) kk (by rfl) (vr 0) ((evp_ixLU (P := fun ds => ds = [.int 1, .int 3, .int 1000]) (R := fun i => i = 0 ∨ i = 1 ∨ i = 2) (S := fun y => ∃ n : Nat, y = .int (n : Nat) ∧ 1 ≤ n ∧ n ≤ 1000) ((ev_lst (ds := [.int 1, .int 3, .int 1000]) (ea_cons ev_int (ea_cons ev_int (ea_1 ev_int))) (by decide)).toP ⟨_, rfl, rfl⟩) ((evp_take (n := 3) h1 of_E.blk (fun z => Iff.rfl) kk (by rfl) (vr 0) ev_int (by decide)).imp fun r ⟨i, e, hi⟩ => ⟨_, e, by omega⟩) (fun ds i hd hi => ?_)).imp fun r ⟨y, e, n, ey, h1, h2⟩ => ⟨n, by rw [e, ey], ⟨h1, by omega⟩, h2⟩)) fun ra rb e1 ⟨i, n, e2, hi, hn⟩ => ⟨.d (.int (1 + (i : Nat))), ⟨_, rfl, _, rfl, by omega, by omega⟩, by
      subst e1; subst e2
      exact ro_II⟩
    subst hd
    rcases hi with rfl | rfl | rfl
    · exact ⟨.int 1, rfl, 1, rfl, by decide, by decide⟩
    · exact ⟨.int 3, rfl, 3, rfl, by decide, by decide⟩
    · exact ⟨.int 1000, rfl, 1000, rfl, by decide, by decide⟩
  · obtain ⟨cs, em, hcl, hcs⟩ := made_ints (Good := fun c => 1 ≤ c ∧ c ≤ 1000) (fun p y ⟨c, e, h⟩ => ⟨c, e, h⟩) hm'
    subst em
    have dr : Drawn ⟨l, wz, bs, cs⟩ := drawn_of hl5 hl hod (by omega) (by omega) hwz hbs hdead hcl hcs
    exact sv_retd (d := partsD ⟨l, wz, bs, cs⟩) (ev_tup (ds := [sT l, psT wz, psT bs, iT cs]) (ea_cons (ev_tupleL (EV.wk (x := sL l) (vr 2)) (by rfl) b.tuple) (ea_cons (ev_tupleL (EV.wk (x := .lst (wz.map pD)) (vr 4)) (by rfl) b.tuple) (ea_cons (ev_tupleL (l := bs.map pD) (EV.wko (vr 5)) (by rfl) b.tuple) (ea_1 (ev_tupleL (EV.wk (x := .lst (cs.map D.int)) (vr 11)) (by rfl) b.tuple))))) (by simp)) ⟨_, rfl, dr, hl5⟩
end
end Nb
set_option Elab.async false
set_option linter.all false
set_option maxRecDepth 100000
set_option maxHeartbeats 2000000
namespace Nb
open PySem PySem.Spec PyProof.Rows L2
section
variable {g : Glob}
theorem fam_frame {kk : Nat} {N : List Str} {sc : Scope} {B0 B1 W W1 C C1 : Addr → Prop} {H0 H1 : Hp} (X : Cx) (h : Fam (g.E kk N sc B0 W C H0) X) : Fam (g.E kk N sc B1 W1 C1 H1) X :=
  ⟨h.prog, h.w, h.K, h.mg, h.base, h.N, h.nd, h.calm, h.room, h.sc, h.fn, h.xe, fun z e => by cases e⟩
theorem wss_fam {F F' : Fm} {ss : List Stmt} {D : Ends} {σ : L2.St} {H : Hp} (m : ∀ X, F' X → F X) (h : WSs F ss D σ H) : WSs F' ss D σ H := by
  obtain ⟨t, D0, h1, h2, h3⟩ := h
  exact ⟨t, D0, fun X hX => h1 X (m X hX), h2, h3⟩
/-- box = _law_box(script, k), and what stands behind it: the box is one's own from there on -/
theorem sv_inBox {kk : Nat} {N : List Str} {sc : Scope} {B0 B : Addr → Prop} {H0 : Hp} {ns : List Int} {k : Nat} {δ : Ds} {Ω : Post} {ss : List Stmt} {e1 e2 : Expr} {y : Str} {pos pos' p p2 : Pos} (i : Nat) (hi : N[i]? = some y) (hx : Loc sc y) (hi0 : i ≠ 0)
    (F : Fn g 1 "_law_box" (spBx g)) (hk : 1 ≤ kk) (hg : GlS sc "_law_box") (ha : EV (g.E kk N sc B0 no no H0) e1 δ (.scr ns)) (hb : EV (g.E kk N sc B0 no no H0) e2 δ (.d (.int (k : Nat)))) (hkk : k ≤ 1000)
    (h0 : δ[0]? = some (some (.scr ns))) (ho : ∀ j, j ≠ 0 → ∀ r, δ[j]? = some (some r) → ∃ d, r = .d d)
    (cont : ∀ (p : Addr) (H1 : Hp) (v : V), SV (g.E kk N sc (fun a => B a ∨ a = p) (fun x => x = p) (fun x => x = p) H1) (fun a => B a ∨ a = p) (fun a => B a ∨ a = p) ss ((δ.set 0 (some (.ty v))).set i (some (.box p))) { nx := fun δ'' => δ''[0]? = some (some (.ty v)) ∧ δ''.length = δ.length, rt := Ω.rt })
    (nx : Ω.nx (some (.scr ns) :: List.replicate (δ.length - 1) none))
    (hs : ∀ env, swapsWith (.Call (.Name "_law_box" p) [e1, e2] [] p2) (some (.Name y pos')) pos.line env = pure false := by intro _; rfl) (hst : ∀ env, starEach [e1, e2] env = (false, eval e1 env) :: starEach [e2] env := by intro _; rfl) (hst2 : ∀ env, starEach [e2] env = (false, eval e2 env) :: starEach [] env := by intro _; rfl) (hpl : ∀ env, (backTo p2 (starEach [e2] env)).any (·.1) = false := by intro _; rfl) :
    SV (g.E kk N sc B0 no no H0) B B (.Assign [.Name y pos'] (.Call (.Name "_law_box" p) [e1, e2] [] p2) pos :: ss) δ Ω := fun γ σ H er D s => by
  obtain ⟨f, fd, ps, Fk, hm, kp, bd⟩ := F.ex
  refine wss_then (ws_of (t := tAsg (tCall (spBx g) [] E0 (WA (Fam (g.E kk N sc B0 no no H0)) [e1, e2])) (gName i)) (fun X hX => ps_set hX.nd (by rw [hX.N]; exact hi) (by rw [hX.sc]; exact hx) (pe_call (fam_fn hX of_E Fk) (hX.room.mono hk) (gl_of hX hg) (by rw [hX.mg]; exact hm) (by rw [hX.K]; exact kp) (by rw [hX.K]; exact bd) .nil pass0 (wa_pa hX) (by decide) (hst _) (hpl _)) (hs _) (by rw [hX.fn, hX.sc]; exact .inl rfl)) ?_)
  refine (ea_cons ha (ea_1 hb hst2) hst : EA _ _ _ [.scr ns, .d (.int (k : Nat))]) B γ σ H er _ fun vs H1 l1 rvs => ?_
  have er1 := er.step l1
  obtain ⟨v, w, rfl, rv, rw'⟩ := rvs.two
  obtain ⟨a, rfl, _, hS⟩ := rv
  rw [re_int] at rw'
  subst rw'
  rw [List.append_nil]
  refine ⟨a, ns, k, rfl, hS, hkk, er1.tabs, fun q H2 l2 hq h3 => ?_⟩
  have hqn : H2 q ≠ none := by obtain ⟨x, y, z, e⟩ := h3; rw [e]; simp
  have l2' : LeC (g.E kk N sc B0 no no H0) H1 H2 := l2
  have er2 := er1.grow hq l2' hqn
  -- the script's place
  obtain ⟨v0, hv0, rv0⟩ := er1.at_ 0 _ h0
  obtain ⟨a0, rfl, _, hS0⟩ := rv0
  have hlen : 0 < δ.length := (List.getElem?_eq_some_iff.mp h0).1
  have hil : ∀ {r : Option Ent}, (δ.set 0 r)[0]? = some r := fun {r} => List.getElem?_set_self hlen
  have ger : ER (g.E kk N sc (fun a => B a ∨ a = q) (fun x => x = q) (fun x => x = q) H2) (fun a => B a ∨ a = q) ((δ.set 0 (some (.ty (.ref a0)))).set i (some (.box q))) γ (σ.set i (some (.ref q))) H2 := by
    refine ⟨Le.refl, er2.dom, fun a h => h, fun a h => .inr h, fun a h => h, er2.tabs, fun j r e => ?_, by simpa using er2.len, fun z hz => ?_, er2.gd⟩
    · by_cases hj : i = j
      · subst hj
        by_cases hiL : i < δ.length
        · rw [List.getElem?_set_self (by simpa using hiL)] at e
          cases e
          exact ⟨_, List.getElem?_set_self (by rw [← er2.len]; exact hiL), rfl, rfl, h3⟩
        · rw [List.getElem?_eq_none (by simpa using hiL)] at e
          cases e
      · rw [List.getElem?_set_ne hj] at e
        rw [List.getElem?_set_ne hj]
        by_cases hj0 : j = 0
        · subst hj0
          rw [hil] at e
          cases e
          exact ⟨_, hv0, rfl⟩
        · rw [List.getElem?_set_ne (Ne.symm hj0)] at e
          obtain ⟨d, rfl⟩ := ho j hj0 r e
          obtain ⟨u, hu, ru⟩ := er2.at_ j _ e
          exact ⟨u, hu, ru⟩
    · obtain ⟨z1, z2, z3, z4⟩ := er2.gr z hz
      exact ⟨fun e => z2 (.inr e), z2, z3, z4⟩
  have hSq : ∀ {H' : Hp}, Le g.T (fun x => x = q) (fun x => x = q) H2 H' → SqL g.K H' a0 (ns.map V.int) := fun {H'} l3 => by
    rcases hS0 with h | h
    · have hne : a0 ≠ q := fun e => rd_dom h (by rw [e]; exact hq)
      exact .inl (l3.rd hne (fun ps z => by cases z) (l2'.rd (fun z => z) (fun ps z => by cases z) h))
    · exact .inr h
  have lall : ∀ {H' : Hp}, Le g.T (fun x => x = q) (fun x => x = q) H2 H' → Le g.T no no H0 H' := fun {H'} l3 => by
    have l02 : Le g.T no no H0 H2 := er2.le
    have hq0 : H0 q = none := er1.le.fresh hq
    exact ⟨fun a o _ e n => l3.keep a o (fun z => by rw [show a = q from z, hq0] at e; cases e) (l02.keep a o (fun z => z) e n) n, fun a h => l3.dom a (l02.dom a h), fun t => l3.tabs (l02.tabs t), fun _ h => h.elim⟩
  refine wss_fam (F := Fam (g.E kk N sc (fun a => B a ∨ a = q) (fun x => x = q) (fun x => x = q) H2)) (fun X hX => fam_frame X hX) (cont q H2 (.ref a0) γ _ H2 ger D ⟨fun δ'' σ' H' er' hn => ?_, fun d v H' l3 rd hr => ?_, fun _ _ _ _ h => h.elim, fun _ _ _ _ h => h.elim⟩)
  · obtain ⟨hn0, hnl⟩ := hn
    obtain ⟨u, hu, ru⟩ := er'.at_ 0 _ hn0
    have ru' : u = .ref a0 := ru
    subst ru'
    have k2 : Kd B (fun a => B a ∨ a = q) H' H' := ⟨fun a _ nb z => nb (.inl z), fun a u _ _ r => r, fun a u _ _ r => r⟩
    refine s.nx _ σ' H' ⟨lall er'.le, fun a h => er'.dom a (.inl h), er.sub, fun _ h => h.elim, fun _ h => h.elim, er'.tabs, fun j r e => ?_, ?_, fun z hz => ?_, fun z hz => Rep.kd k2 _ _ (er'.gd z hz)⟩ nx
    · match j with
      | 0 =>
        simp at e
        subst e
        exact ⟨_, hu, a0, rfl, (fun z => z), hSq er'.le⟩
      | j + 1 =>
        rw [List.getElem?_cons_succ, List.getElem?_replicate] at e
        split at e <;> cases e
    · rw [List.length_cons, List.length_replicate, ← er'.len, hnl]
      omega
    · obtain ⟨z1, z2, z3, z4⟩ := er'.gr z hz
      exact ⟨fun h => h, fun h => z2 (.inl h), z3, z4⟩
  · have k2 : Kd B0 (fun a => B a ∨ a = q) H' H' := ⟨fun a _ nb z => nb (.inl (er.sub a z)), fun a u _ _ r => r, fun a u _ _ r => r⟩
    exact s.rt d v H' (lall l3) (Rep.kd k2 _ _ rd) hr
end
end Nb
set_option Elab.async false
set_option linter.all false
set_option maxRecDepth 100000
set_option maxHeartbeats 2000000
namespace Nb
open PySem PySem.Spec PyProof.Rows L2
def unTup : D → List Str
  | .tup l => l.map unStr
  | _ => []
theorem perm_tups {l : List D} {ws : List (List Str)} (h : l.Perm (ws.map sT)) : ∃ us : List (List Str), l = us.map sT ∧ us.Perm ws := by
  have un : ∀ w : List Str, unTup (sT w) = w := fun w => by
    show (w.map D.str).map unStr = w
    rw [List.map_map]
    exact List.map_id' w
  refine ⟨l.map unTup, ?_, ?_⟩
  · rw [List.map_map]
    have : ∀ d ∈ l, (sT ∘ unTup) d = d := fun d hd => by
      obtain ⟨w, _, e⟩ := List.mem_map.mp (h.subset hd)
      rw [← e]
      show sT (unTup (sT w)) = sT w
      rw [un]
    rw [List.map_congr_left this, List.map_id']
  · have := h.map unTup
    rw [List.map_map] at this
    have e : ws.map (unTup ∘ sT) = ws := by
      conv => rhs; rw [← List.map_id' ws]
      exact List.map_congr_left fun w _ => un w
    rw [e] at this
    exact this
theorem lookT_at {n : Nat} : ∀ {ks : List (List Str)} {vs : List Nat} {t : List Str}, ks.length = vs.length → t ∈ ks → (∀ q ∈ ks.zip vs, q.1 = t → q.2 = n) → lookT ks (vs.map fun v => D.int (v : Nat)) t = some (.int (n : Nat))
  | [], _, _, _, h, _ => by cases h
  | k :: ks, [], _, h, _, _ => by cases h
  | k :: ks, v :: vs, t, hl, ht, h => by
    show (if k = t then some (D.int (v : Nat)) else _) = _
    by_cases e : k = t
    · rw [if_pos e]
      have := h (k, v) (by simp) e
      rw [← this]
    · rw [if_neg e]
      exact lookT_at (ks := ks) (vs := vs) (by simpa using hl) ((List.mem_cons.mp ht).resolve_left fun z => e z.symm) fun q hq => h q (by simp [hq])
def allD : Ds → Bool
  | [] => true
  | none :: δ => allD δ
  | some (.d _) :: δ => allD δ
  | _ => false
theorem allD_at : ∀ {δ : Ds}, allD δ = true → ∀ (j : Nat) r, δ[j]? = some (some r) → ∃ d, r = .d d
  | [], _, j, r, e => by simp at e
  | none :: δ, h, 0, r, e => by simp at e
  | none :: δ, h, j + 1, r, e => allD_at (δ := δ) h j r (by simpa using e)
  | some (.d d) :: δ, h, 0, r, e => by simp at e; exact ⟨d, e.symm⟩
  | some (.d d) :: δ, h, j + 1, r, e => allD_at (δ := δ) h j r (by simpa using e)
  | some (.own _ _) :: _, h, _, _, _ => by cases h
  | some (.box _) :: _, h, _, _, _ => by cases h
  | some (.scr _) :: _, h, _, _, _ => by cases h
  | some (.ins _ _ _ _) :: _, h, _, _, _ => by cases h
  | some (.wk _) :: _, h, _, _, _ => by cases h
  | some (.ty _) :: _, h, _, _, _ => by cases h
  | some (.lk _ _ _) :: _, h, _, _, _ => by cases h
section
variable {E : EC} {δ : Ds} {e : Expr} {pos p : Pos}
theorem ev_lenU {n : Nat} (ha : EVP E e δ (fun r => ∃ l, r = .d (.tup l) ∧ l.length = n)) (hg : GlS E.sc "len") (hm : E.mg "len" = none) (hs : ∀ env, starEach [e] env = (false, eval e env) :: starEach [] env := by intro _; rfl) (hpl : ∀ env, (backTo pos (starEach [] env)).any (·.1) = false := by intro _; rfl) : EV E (.Call (.Name "len" p) [e] [] pos) δ (.d (.int (n : Nat))) := fun B γ σ H er Q q =>
  we_of (fun X hX => pe_callB (fam_Kc hX (r := fun K xs H Q => ∃ p ys, xs = [.ref p] ∧ (SqL K H p ys ∨ SqT K H p ys) ∧ Q (.int ys.length) H) call_len_seq) (gl_of hX hg) (by rw [hX.mg]; exact hm) boot_len (wa_pa hX) (by decide) (by decide) (hs _) (hpl _)) (wa_of (fun X hX => pa_cons (we_pe hX) pa_nil (hs _)) (ha B γ σ H er _ fun r v H1 ⟨l, hr, hl⟩ l1 rv => by
    subst hr
    obtain ⟨a, vs, rfl, _, h1, h2⟩ := re_tup rv
    refine ⟨a, vs, rfl, .inr (.inl (.inl h1)), q _ H1 l1 (re_int.mpr ?_)⟩
    rw [← h2.len, hl]))
end
end Nb
set_option Elab.async false
set_option linter.all false
set_option maxRecDepth 100000
set_option maxHeartbeats 2000000
namespace Nb
open PySem PySem.Spec PyProof.Rows L2
/-- what the law calls -/
structure Calls (g : Glob) : Prop where
  box : Fn g 1 "_law_box" (spBx g)
  mixed : Fn g 2 "_law_mixed" (spMixed g)
  parts : Fn g 4 "_law_parts" (spPt g)
  board : Fn g 6 "_law_board" (spLBd g)
  sets : Fn g 2 "_law_sets" (spSets g)
  fewest : Fn g 3 "_law_fewest" (spFw g)
  call : Cb g 6 "Board" (spBdCall g)
  rounds : Fn g 6 "rounds" (spRounds g)
  chain : Fn g 6 "longest_chain" (spChain g)
  leads : Fn g 9 "rounds_lead" (spLead g)
  putN : Me g 3 "Put" "__neg__" (spNeg g true)
  takeN : Me g 3 "Take" "__neg__" (spNeg g false)
def lawN : List Str := ["_law_script", "_law_k", "_law_box_here", "_law_parts_here", "_law_board_here", "_law_every", "_law_start", "_law_fewest_here", "_law_row", "_law_a", "_law_b", "_law_there", "_law_back", "_law_turned_about", "_law_turn", "_law_one"]
theorem scLaw : FnScope ["_law_script", "_law_k", "_law_box_here", "_law_parts_here", "_law_board_here", "_law_every", "_law_start", "_law_fewest_here", "_law_row", "_law_a", "_law_b", "_law_there", "_law_back", "_law_turned_about", "_law_turn", "_law_one"] ["_law_script"] (defScope (top 82)) := ⟨rfl, rfl, rfl, by decide +kernel, rfl, by decide +kernel, by decide +kernel⟩
section
variable {g : Glob}
theorem ev_negTn {E : EC} {δ : Ds} {e : Expr} {pos : Pos} {t : Tn} (c : Calls g) (og : Of E g) (hk : 3 ≤ E.k) (ha : EV E e δ (.d (tnD t))) : EV E (.UnaryOp .USub e pos) δ (.d (tnD (negT t))) := by
  obtain ⟨b, p⟩ := t
  cases b with
  | true => exact ev_neg (α := Str) p c.putN.ow og hk ha rfl trivial (fun d' h => h)
  | false => exact ev_neg (α := Str) p c.takeN.ow og hk ha rfl trivial (fun d' h => h)
theorem sv_law (c : Calls g) (b : Bi g) (B0 : Addr → Prop) (H0 : Hp) (ns : List Int) : SV (g.E 9 ["_law_script", "_law_k", "_law_box_here", "_law_parts_here", "_law_board_here", "_law_every", "_law_start", "_law_fewest_here", "_law_row", "_law_a", "_law_b", "_law_there", "_law_back", "_law_turned_about", "_law_turn", "_law_one"] (defScope (top 82)) B0 no no H0) B0 B0 (defBody (top 82)) (some (.scr ns) :: List.replicate 15 none) { rt := fun d => d = .bl true } := by
  have hmx : ∃ n : Nat, (if (if (ns.length : Int) < 3 then ((ns.length : Nat) : Int) else 3) > 1 then (if (ns.length : Int) < 3 then ((ns.length : Nat) : Int) else 3) else 1) = (n : Int) ∧ n ≤ 3 := by
    by_cases h : (ns.length : Int) < 3
    · rw [if_pos h]
      by_cases h2 : ((ns.length : Nat) : Int) > 1
      · rw [if_pos h2]; exact ⟨ns.length, rfl, by omega⟩
      · rw [if_neg h2]; exact ⟨1, rfl, by omega⟩
    · rw [if_neg h, if_pos (by decide)]
      exact ⟨3, rfl, by omega⟩
  obtain ⟨n, hn, hn3⟩ := hmx
  refine sv_for (List.range n) (fun i => .int (0 + (i : Nat))) (fun i δ' => δ' = some (.scr ns) :: List.replicate 15 none) (td := fun i => [(1, .d (.int (0 + (i : Nat))))]) (EI.eq (ei_range1 ((ev_max2 ev_int (ev_min2 ev_int (ev_lenScr (vr 0) (by rfl) b.len) (by rfl) b.min) (by rfl) b.max).eqd (by rw [hn])) (by omega) (by rfl) b.range) (by simp [rngD])) rfl (fun d hd => eg_name 1 rfl (.inl rfl)) ?_ ?_
  · rintro i k δ' hk rfl
    have hk3 : k < n := by
      obtain ⟨h1, h2⟩ := List.getElem?_eq_some_iff.mp hk
      have : k = i := by simpa using h2.symm
      rw [this]
      simpa using h1
    refine sv_inBox 2 (by rfl) (.inl (by rfl)) (by decide) c.box kk (by rfl) (vr 0) ((vr 1 : EV _ _ _ (.d (.int (0 + (k : Nat))))).eqd (by rw [Int.zero_add])) (by omega) (by rfl) (fun j hj r e => ?_) (fun bx H1 v => ?_) rfl
    · match j with
      | 0 => exact absurd rfl hj
      | j + 1 => exact allD_at (δ := [some (.d (.int (0 + (k : Nat)))), none, none, none, none, none, none, none, none, none, none, none, none, none, none]) (by rfl) j r e
    refine sv_setP 3 (P := fun r => ∃ s, r = .d (partsD s) ∧ Drawn s ∧ s.pegs.length ≤ 5) (by rfl) (.inl (by rfl)) (evp_callB c.parts of_E (fun z => Iff.rfl) kk (by rfl) (EA.toP (ea_cons (vr 2) (ea_1 ev_int)) ⟨(), rfl, trivial, fun d ⟨s, e, h⟩ => ⟨s, by rw [e], h⟩⟩)) fun r ⟨s, hr, dr, few⟩ => ?_
    subst hr
    have okw : ∀ t ∈ setsOf s, OkSt (mkBd s) t := fun t ht => dr.setOk ht
    have sl : (setsOf s).length ≤ 256 := sets_len dr.few
    have nms : ∀ t ∈ setsOf s, ∀ p ∈ t, okName p := fun t ht p hp => dr.names p ((okw t ht).subp.subset hp)
    refine sv_par 4 5 (by rfl) (by rfl) (by rfl) (by rfl) (EV.toM (r := .d (mkBd s).d) (ev_call (α := Parts) s c.board of_E kk (by rfl) (ea_1 (vr 3)) dr.okParts (fun d' h => h))) (EVP.toM (P := fun r => ∃ l : List (List Str), r = .d (.lst (l.map sT)) ∧ l.Perm (setsOf s)) (evp_call c.sets of_E kk (by rfl) (EA.toP (ea_1 (vr 3)) ⟨s, rfl, ⟨dr.few, dr.nmany, dr.bmany⟩, fun d ⟨l, e, h⟩ => ⟨l, by rw [e], h⟩⟩))) (fun B1 r B2 r2 hp1 hp2 => ?_) (by decide) (fun env he => sw_two (by rw [he]; rfl) (by rw [he]; rfl) (by rw [he]; rfl) (by rfl) (by decide +kernel) (by rfl) (by decide +kernel) (by decide +kernel))
    obtain ⟨e1, hr⟩ := hp1
    obtain ⟨e2, every, hr2, hev⟩ := hp2
    subst e1; subst e2; subst hr; subst hr2
    have evl : every.length ≤ 256 := by rw [hev.length_eq]; exact sl
    have evo : okDs 8 (every.map sT) = true := okDs_map (n := 8) fun t ht => okDs_names (n := 7) (nms t (hev.subset ht))
    refine sv_forU sT (fun xs => ∀ t ∈ xs, t ∈ setsOf s) (fun xs i δ' => ∃ a b c d e f g h, δ' = [some (.ty v), some (.d (.int (0 + (k : Nat)))), some (.box bx), some (.d (partsD s)), some (.d (mkBd s).d), some (.d (.lst (every.map sT))), a, b, c, d, e, f, g, h, none, none]) (td := fun t => [(6, .d (sT t))])
      (eiu_list ((evp_slLU (P := fun l => ∃ us : List (List Str), l = us.map sT ∧ us.Perm every) (i := none) (j := some ((4 : Nat) : Int)) (evp_callB c.mixed of_E (fun z => Iff.rfl) kk (by rfl) (EA.toP (ea_cons (vr 2) (ea_1 (vr 5))) ⟨⟨false, every.map sT⟩, rfl, ⟨by rw [List.length_map]; omega, evo⟩, fun d ⟨l, e, hp⟩ => ⟨l, by rw [e], perm_tups hp⟩⟩)) eo_none (eo_some ev_int)).imp fun r ⟨l, e, us, el, hp⟩ => ⟨us.take 4, by rw [e, el, cutD_map, cutD_to], fun t ht => hev.subset (hp.subset (List.mem_of_mem_take ht))⟩))
      (fun xs _ => ⟨none, none, none, none, none, none, none, none, rfl⟩) (fun xs _ d hd => eg_name 6 rfl (.inl rfl)) ?_ ?_
    · rintro xs hxs i0 start δ' hst ⟨a1, a2, a3, a4, a5, a6, a7, a8, rfl⟩
      have hs := hxs start (List.mem_of_getElem? hst)
      have oS := okw start hs
      have okfw : OkFw ⟨s, start, setsOf s⟩ := ⟨⟨dr.few, dr.nmany, dr.bmany⟩, by show (setsOf s).length ≤ 500; omega, hs, nms, fun r hr t ht => dr.setIn (dr.afterOk (okw r hr).subp ht)⟩
      refine sv_setP 7 (P := fun r => ∃ ks vs, r = .d (fwD ks vs) ∧ ks.length = vs.length ∧ (∀ q ∈ ks.zip vs, Dist s start q.2 q.1) ∧ ∀ m t, Reach s start m t → t ∈ ks) (by rfl) (.inl (by rfl)) (evp_call c.fewest of_E kk (by rfl) (EA.toP (ea_cons (vr 3) (ea_1 (vr 6))) ⟨⟨s, start, setsOf s⟩, rfl, okfw, fun d ⟨ks, vs, e, h1, _, h3, h4⟩ => ⟨ks, vs, by rw [e], h1, h3, h4⟩⟩)) fun r ⟨ks, vs, hr, hkl, hdist, hreach⟩ => ?_
      subst hr
      refine sv_forU sT (fun xs => ∀ t ∈ xs, t ∈ setsOf s) (fun xs i δ' => ∃ a b c d e f, δ' = [some (.ty v), some (.d (.int (0 + (k : Nat)))), some (.box bx), some (.d (partsD s)), some (.d (mkBd s).d), some (.d (.lst (every.map sT))), some (.d (sT start)), some (.d (fwD ks vs)), a, b, c, d, e, f, none, none]) (td := fun t => [(8, .d (sT t))])
        (eiu_list ((evp_slLU (P := fun l => ∃ us : List (List Str), l = us.map sT ∧ us.Perm every) (i := none) (j := some ((12 : Nat) : Int)) (evp_callB c.mixed of_E (fun z => Iff.rfl) kk (by rfl) (EA.toP (ea_cons (vr 2) (ea_1 (vr 5))) ⟨⟨false, every.map sT⟩, rfl, ⟨by rw [List.length_map]; omega, evo⟩, fun d ⟨l, e, hp⟩ => ⟨l, by rw [e], perm_tups hp⟩⟩)) eo_none (eo_some ev_int)).imp fun r ⟨l, e, us, el, hp⟩ => ⟨us.take 12, by rw [e, el, cutD_map, cutD_to], fun t ht => hev.subset (hp.subset (List.mem_of_mem_take ht))⟩))
        (fun xs _ => ⟨_, _, _, _, _, _, rfl⟩) (fun xs _ d hd => eg_name 8 rfl (.inl rfl)) ?_ ?_
      · rintro xs2 hxs2 j0 row δ' hrow ⟨b1, b2, b3, b4, b5, b6, rfl⟩
        have hr := hxs2 row (List.mem_of_getElem? hrow)
        have oR := okw row hr
        refine sv_par 9 10 (by rfl) (by rfl) (by rfl) (by rfl) (EV.toM (r := .d (stD (mkBd s) start)) (ev_callO (α := Bd × List Str) (ds := [sT start]) (fs := bdFs) (l := (mkBd s).l) (mkBd s, start) c.call of_E kk (vr 4) (ea_1 (vr 6)) rfl oS (fun d' h => h))) (EV.toM (r := .d (stD (mkBd s) row)) (ev_callO (α := Bd × List Str) (ds := [sT row]) (fs := bdFs) (l := (mkBd s).l) (mkBd s, row) c.call of_E kk (vr 4) (ea_1 (vr 8)) rfl oR (fun d' h => h))) (fun B1 r B2 r2 hp1 hp2 => ?_) (by decide) (fun env he => sw_two (by rw [he]; rfl) (by rw [he]; rfl) (by rw [he]; rfl) (by rfl) (by decide +kernel) (by rfl) (by decide +kernel) (by decide +kernel))
        obtain ⟨e1, hr1⟩ := hp1
        obtain ⟨e2, hr2⟩ := hp2
        subst e1; subst e2; subst hr1; subst hr2
        refine sv_par 11 12 (by rfl) (by rfl) (by rfl) (by rfl) (EV.toM (r := .d (rsT (theRounds s start row))) (ev_call (α := RnA) ⟨mkBd s, start, row, hOf (mkBd s) start row⟩ c.rounds of_E kk (by rfl) (ea_cons (vr 9) (ea_1 (vr 10))) dr.okRn (fun d' h => h))) (EV.toM (r := .d (rsT (theRounds s row start))) (ev_call (α := RnA) ⟨mkBd s, row, start, hOf (mkBd s) row start⟩ c.rounds of_E kk (by rfl) (ea_cons (vr 10) (ea_1 (vr 9))) dr.okRn (fun d' h => h))) (fun B1 r B2 r2 hp1 hp2 => ?_) (by decide) (fun env he => sw_two (by rw [he]; rfl) (by rw [he]; rfl) (by rw [he]; rfl) (by rfl) (by decide +kernel) (by rfl) (by decide +kernel) (by decide +kernel))
        obtain ⟨e1, hr1⟩ := hp1
        obtain ⟨e2, hr2⟩ := hp2
        subst e1; subst e2; subst hr1; subst hr2
        have l1 : (theRounds s start row).length = topOf (mkBd s) start row := rounds_len
        have l2 : (theRounds s row start).length = topOf (mkBd s) start row := by rw [rounds_len]; exact dr.top_symm oS oR
        have htop : topOf (mkBd s) start row ≤ 12 := top_few dr.okBd dr.pbd
        have hlook : lookT ks (vs.map fun v => D.int (v : Nat)) row = some (.int (topOf (mkBd s) start row : Nat)) := lookT_at hkl (hreach _ _ (dr.reachTop oS oR)) fun q hq e => by
          have h1 := hdist q hq
          rw [e] at h1
          exact dist_inj h1 (dr.dist oS oR)
        refine sv_ifF (cc := !true) (et_neD (c := true) (x := .lst [.int (topOf (mkBd s) start row : Nat), .int (topOf (mkBd s) start row : Nat), .int (topOf (mkBd s) start row : Nat)]) (y := .lst [.int (topOf (mkBd s) start row : Nat), .int (topOf (mkBd s) start row : Nat), .int (topOf (mkBd s) start row : Nat)]) 2 2 (EV.wk (ev_lst (ds := [_, _, _]) (ea_cons ((ev_len (x := rsT (theRounds s start row)) (l := (theRounds s start row).map tsT) (EV.wk (vr 11)) rfl (by rfl) b.len).eqd (by rw [List.length_map, l1])) (ea_cons ((ev_len (x := rsT (theRounds s row start)) (l := (theRounds s row start).map tsT) (EV.wk (vr 12)) rfl (by rfl) b.len).eqd (by rw [List.length_map, l2])) (ea_1 (ev_lenU ((evp_call (P := fun r => ∃ l, r = .d (.tup l) ∧ l.length = topOf (mkBd s) start row) c.chain of_E kk (by rfl) (EA.toP (ea_cons (vr 9) (ea_1 (vr 10))) ⟨⟨mkBd s, start, row, hOf (mkBd s) start row⟩, rfl, dr.okRn, fun d ⟨l, e, h⟩ => ⟨l.map D.str, by rw [e]; rfl, by rw [List.length_map]; exact h⟩⟩))) (by rfl) b.len)))) (by simp)))
          (EV.wk ((ev_repL (l := [.int (topOf (mkBd s) start row : Nat)]) (EV.wk (x := .lst [.int (topOf (mkBd s) start row : Nat)]) (ev_lst (ds := [_]) (ea_1 (ev_tget (ks := ks) (l := vs.map fun v => .int (v : Nat)) (EV.wk (x := fwD ks vs) (vr 7)) (vr 8) hlook (by exact fun _ _ => rfl))) (by simp))) ev_int (by decide) (by show 1 * 3 ≤ 1000; decide)).eqd (by rfl))) (by rfl) (by rfl) (by simp)) rfl ?_
        have rlen : (theRounds s start row).length ≤ 12 := by omega
        have reach : ∀ r ∈ theRounds s start row, r.length ≤ 12 := fun r hr => (rounds_each dr.nd dr.few r hr).1
        refine sv_set 13 (r := .d (rsT (aboutOf (theRounds s start row)))) (by rfl) (.inl (by rfl)) ((ev_tupleL (EV.wk (ev_lc0 (td := fun r => [(15, .d (tsT r))]) (theRounds s start row).reverse tsT (fun r => tsT (r.map negT)) [("_law_one", 15)] (EI.eq (ei_tup (ev_revT (l := (theRounds s start row).map tsT) (vr 11))) (by rw [List.map_reverse])).weak (by rw [List.length_reverse]; omega) (blkOk_by (by kernel_rfl)) (fun d hd => eg_name 15 rfl (.inl rfl)) (fun d hd q hq => by simp at hq; subst hq; simp) (fun r hr => ?_))) (by rfl) b.tuple).eqd (by unfold aboutOf rsT; rw [List.map_map]; rfl)) ?_
        · have := reach r (List.mem_reverse.mp hr)
          exact (ev_tupleL (EV.wk (ev_lc0 (td := fun t => [(14, .d (tnD t))]) r tnD (fun t => tnD (negT t)) [("_law_turn", 14)] (ei_tup (l := r.map tnD) (vr 15)).weak (by omega) (blkOk_by (by kernel_rfl)) (fun d hd => eg_name 14 rfl (.inl rfl)) (fun d hd q hq => by simp at hq; subst hq; simp) (fun t ht => ev_negTn c of_E.blk.blk kk (vr 14)))) (by rfl) (by exact b.tuple)).eqd (by unfold tsT; rw [List.map_map]; rfl)
        refine sv_ifF (cc := !decide (true = true) || !decide (true = true)) (EWt.t (ew_or (et_notB (ev_call (α := LdA) (d := .bl true) ⟨mkBd s, start, row, theRounds s start row⟩ c.leads of_E kk (by rfl) (ea_cons (vr 9) (ea_cons (vr 10) (ea_1 (vr 11)))) (dr.okLd oS oR) (fun d' h => by rw [show d' = _ from h, dr.leads oS oR]))) fun _ => ew_or1 (et_notB (ev_call (α := LdA) (d := .bl true) ⟨mkBd s, row, start, aboutOf (theRounds s start row)⟩ c.leads of_E kk (by rfl) (ea_cons (vr 10) (ea_cons (vr 9) (ea_1 (vr 13)))) (dr.okLdBack oS oR) (fun d' h => by rw [show d' = _ from h, dr.leads_back oS oR]))))) rfl ?_
        by_cases hemp : theRounds s start row = []
        · refine sv_ifF (cc := (!((theRounds s start row).map tsT).isEmpty) && !decide (false = false)) (EWt.t (ew_and (et_neE (l := (theRounds s start row).map tsT) (vr 11) (ev_tup (ds := []) ea_nil (by simp))) fun h => ?_)) (by simp) (sv_end ⟨_, _, _, _, _, _, rfl⟩)
          rw [hemp] at h
          cases h
        · refine sv_ifF (cc := (!((theRounds s start row).map tsT).isEmpty) && !decide (false = false)) (EWt.t (ew_and (et_neE (l := (theRounds s start row).map tsT) (vr 11) (ev_tup (ds := []) ea_nil (by simp))) fun h => ew_and1 (et_notB (ev_call (α := LdA) (d := .bl false) ⟨mkBd s, start, row, (theRounds s start row).drop 1⟩ c.leads of_E kk (by rfl) (ea_cons (vr 9) (ea_cons (vr 10) (ea_1 ((ev_slT (l := (theRounds s start row).map tsT) (i := some ((1 : Nat) : Int)) (vr 11) (eo_some ev_int) eo_none).eqd (by rw [cutD_map, cutD_from]; rfl))))) (dr.okLdTail oS oR) (fun d' h => by rw [show d' = _ from h, dr.tail_not oS oR hemp]))))) (by simp) (sv_end ⟨_, _, _, _, _, _, rfl⟩)
      · rintro xs2 hxs2 δ' ⟨b1, b2, b3, b4, b5, b6, rfl⟩
        exact sv_end ⟨_, _, _, _, _, _, _, _, rfl⟩
    · rintro xs hxs δ' ⟨a1, a2, a3, a4, a5, a6, a7, a8, rfl⟩
      exact sv_end ⟨rfl, rfl⟩
  · rintro δ' rfl
    exact sv_retd ev_bl rfl
def spLaw (g : Glob) : Sp := fun vs H Q _ => ∃ (a : Addr) (ns : List Int), vs = [.ref a] ∧ SqL g.K H a (ns.map V.int) ∧ LamX.Tabs g.T H ∧ ∀ H', Q (.bl true) H'
theorem ok_law (c : Calls g) (b : Bi g) {f : Addr} {fd : FuncData} (F : FunD g.K "law" "law" (defArgs (top 82)) (defBody (top 82)) (defScope (top 82)) [] [] f fd) : FnOk g.P g.w g.K g.mg g.base CX0 10 f fd ["_law_script"] (spLaw g) := by
  refine F.ok scLaw (fun vs H Q E h => ?_) (fun cdv A outer s H vs Q E hr h => ?_)
  · obtain ⟨a, ns, rfl, _⟩ := h
    rfl
  · obtain ⟨a, ns, rfl, hS, tb, q⟩ := h
    refine ⟨_, PSs.nox (wss_pss (fam_of (T := g.T) (cl := g.cl) (B0 := fun _ => False) (W := no) (C := no) (H0 := H) scLaw.nd hr)), ?_⟩
    refine sv_law c b (fun _ => False) H ns ⟨[], []⟩ _ H ⟨Le.refl, fun a h => h.elim, fun a h => h, fun _ h => h.elim, fun _ h => h.elim, tb, ?_, rfl, fun p hp => by simp at hp, fun q hq => by simp at hq⟩ _ ⟨fun δ σ H' er h => h.elim, fun d v H' l rv h => ?_, fun _ _ _ _ h => h.elim, fun _ _ _ _ h => h.elim⟩
    · intro i r' e'
      match i with
      | 0 => simp at e'; subst e'; exact ⟨_, rfl, a, rfl, (fun z => z), hS⟩
      | i + 1 =>
        rw [List.getElem?_cons_succ, List.getElem?_replicate] at e'
        split at e' <;> cases e'
    · rw [show d = .bl true from h] at rv
      have : v = .bl true := by simpa [Rep] using rv
      rw [this]
      exact q H'
end
end Nb
set_option Elab.async false
set_option linter.all false
set_option maxRecDepth 100000
set_option maxHeartbeats 2000000
/-! what the head is asked -/
namespace Nb
open PySem PySem.Spec PyProof.Rows L2
abbrev Frg := PySem.W.Frag
/-- the def that stands at a place -/
def fnWA (K : Frg) (a : Addr) : He.FnW := match K.lookup a with
  | some ⟨_, _, .func fd, _⟩ => some (fd.name, fd.qualname, fd.params, fd.body, fd.scope, fd.globals, fd.closure, fd.builtins)
  | _ => none
def fnOkA (K : Frg) (a : Addr) (q : Str) : Bool := PySem.W.keepIn K (.ref a) && match K.lookup a with
  | some ⟨_, _, .func fd, _⟩ => PySem.W.codeIn K fd.code q && (He.dflB K fd.defaults [] && He.kwdB K fd.kwdefaults [])
  | _ => false
def fnVal (x q : Str) (st : Stmt) : He.FnW := some (x, q, defArgs st, FuncBody.stmts (defBody st), defScope st, mainGlobals, [], builtinsNs)
theorem fnA {K : Frg} {a : Addr} {x q : Str} {st : Stmt} (h : fnWA K a = fnVal x q st) (h2 : fnOkA K a q = true) : ∃ fd, FunD K x q (defArgs st) (defBody st) (defScope st) [] [] a fd := by
  unfold fnWA fnVal at h
  unfold fnOkA at h2
  obtain ⟨k1, k2⟩ := Bool.and_eq_true_iff.mp h2
  cases e : K.lookup a with
  | none => rw [e] at h; cases h
  | some o =>
    obtain ⟨oc, od, dt, osl⟩ := o
    rw [e] at h k2
    cases dt with
    | func fd =>
      obtain ⟨n1, n2, n3, n4, n5, n6, n7, n8, n9, n10, n11, n12, n13, n14, n15⟩ := fd
      obtain ⟨c1, c2⟩ := Bool.and_eq_true_iff.mp k2
      obtain ⟨c2, c3⟩ := Bool.and_eq_true_iff.mp c2
      simp only [Option.some.injEq, Prod.mk.injEq] at h
      obtain ⟨e1, e2, e3, e4, e5, e6, e7, e8⟩ := h
      subst e1; subst e2; subst e3; subst e4; subst e5; subst e6; subst e7; subst e8
      exact ⟨_, ⟨oc, od, n8, n9, n10, n11, n12, n13, n14, osl, rfl, e, c1, He.dflB_ok c2, He.kwdB_ok c3⟩, k1⟩
    | _ => cases h
/-- the getter of a property -/
def pgA (K : Frg) (c m : Str) : Addr := match PySem.W.recIn K (He.ma K (He.ga K c) m) "property" with
  | some (.ref g :: _) => g
  | _ => 0
def propB (K : Frg) (c m q : Str) : Bool := fnOkA K (pgA K c m) q && (He.eqO (PySem.W.findIn K (.ref (He.ga K c)) m) (some (some (.ref (He.ma K (He.ga K c) m)))) && (He.eqO (PySem.W.specialIn K (.ref (He.ma K (He.ga K c) m)) "__get__") (some (some (.builtin "property.__get__"))) && (decide (PySem.W.takesIn K (.ref (He.ma K (He.ga K c) m)) = some true) && match PySem.W.recIn K (He.ma K (He.ga K c) m) "property" with
  | some (.ref g :: _) => true
  | _ => false)))
theorem propA {K : Frg} {c m q : Str} {st : Stmt} (h : fnWA K (pgA K c m) = fnVal m q st) (h2 : propB K c m q = true) : ∃ fd, FunD K m q (defArgs st) (defBody st) (defScope st) [] [] (pgA K c m) fd ∧ PropOf K (He.ga K c) m (He.ma K (He.ga K c) m) (pgA K c m) := by
  unfold propB at h2
  obtain ⟨h1, h2⟩ := Bool.and_eq_true_iff.mp h2
  obtain ⟨h3, h2⟩ := Bool.and_eq_true_iff.mp h2
  obtain ⟨h4, h2⟩ := Bool.and_eq_true_iff.mp h2
  obtain ⟨h5, h2⟩ := Bool.and_eq_true_iff.mp h2
  obtain ⟨fd, F⟩ := fnA h h1
  refine ⟨fd, F, He.eqO_ok h3, He.eqO_ok h4, of_decide_eq_true h5, ?_⟩
  unfold pgA
  split at h2
  · rename_i g rest e
    rw [e]
    exact ⟨_, rfl⟩
  · cases h2
/-- the kw default of a name -/
def kwA (f : Str × Option Str) (x : Str) (K : Frg) : Addr := match K.lookup (He.fAd K f) with
  | some ⟨_, _, .func fd, _⟩ => (match fd.kwdefaults with
    | .ref D => (match PySem.W.nsIn K D x with
      | some (some (.ref a)) => a
      | _ => 0)
    | _ => 0)
  | _ => 0
def klB (K : Frg) (c : Str) : Bool := He.eqO (PySem.W.findIn K (.ref (He.ga K c)) "__class__") (some (some (.builtin "object.__class__"))) && (He.eqO (PySem.W.specialIn K (.builtin "object.__class__") "__get__") (some (some (.builtin "getset_descriptor.__get__"))) && (decide (PySem.W.takesIn K (.builtin "object.__class__") = some true) && decide (PySem.W.mroIn K (He.ga K c) (.type "object") = some true)))
def callB (K : Frg) (c : Str) : Bool := He.eqO (PySem.W.findIn K (.ref (He.ga K c)) "__call__") (some (some (.ref (He.ma K (He.ga K c) "__call__")))) && (PySem.W.isFn K (.ref (He.ma K (He.ga K c) "__call__")) && PySem.W.fnIn K (He.ma K (He.ga K c) "__call__"))
/-! the lists -/
def dfn (x : Str) (i : Nat) : He.DefD := ⟨(x, none), x, x, defArgs (top i), defBody (top i), defScope (top i), [], []⟩
def dme (c m q : Str) (i j : Nat) : He.DefD := ⟨(c, some m), m, q, defArgs (mem i j), defBody (mem i j), defScope (mem i j), [], []⟩
def bdKws : List (Str × He.Dv) := [("needs", .adr (kwA ("Board", some "__init__") "needs")), ("bars", .adr (kwA ("Board", some "__init__") "bars")), ("costs", .non)]
def dBdI : He.DefD := ⟨("Board", some "__init__"), "__init__", "Board.__init__", defArgs (mem 63 1), defBody (mem 63 1), defScope (mem 63 1), [], bdKws⟩
def fnl0 : List He.DefD := [dfn "is_integer" 18, dfn "is_name" 19, dfn "are_strings" 21, dfn "are_pairs" 22, dfn "check_board" 28, dfn "turned" 30, dfn "can_turn" 32, dfn "check_pair" 34, dfn "comes_before" 35, dfn "earlier_pegs" 36, dfn "turn_of" 37, dfn "heights" 38, dfn "rounds" 39, dfn "longest_chain" 40, dfn "is_round" 41, dfn "are_turns" 42, dfn "rounds_lead" 43, dfn "check_form" 49, dfn "check_pegs" 50, dfn "check_pairs" 51, dfn "needed_rows" 52, dfn "longer_row" 53, dfn "barred_in" 54, dfn "check_dead" 55, dfn "clash_pairs" 56, dfn "can_join" 59, dfn "check_members" 60]
def fnl1 : List He.DefD := [dfn "_law_box" 69, dfn "_law_take" 70, dfn "_law_mixed" 71, dfn "_law_names" 72, dfn "_law_rows" 73, dfn "_law_is_barred" 74, dfn "_law_parts" 75, dfn "_law_board" 76, dfn "_law_is_stand" 77, dfn "_law_sets" 79, dfn "_law_round_after" 80, dfn "_law_fewest" 81, dfn "law" 82]
def fnl2 : List He.DefD := [dBdI, dme "Board" "__eq__" "Board.__eq__" 63 4, dme "Board" "__call__" "Board.__call__" 63 6, dme "Board" "require" "Board.require" 63 11, dme "Board" "below" "Board.below" 63 13, dme "Board" "above" "Board.above" 63 14, dme "Board" "needs" "Board.needs" 63 15, dme "Board" "clash" "Board.clash" 63 16,
  dme "Stand" "__init__" "Stand.__init__" 61 0, dme "Stand" "__contains__" "Stand.__contains__" 61 3, dme "Stand" "__eq__" "Stand.__eq__" 61 4, dme "Stand" "__xor__" "Stand.__xor__" 61 8, dme "Stand" "takes_in" "Stand.takes_in" 61 15, dme "Stand" "needed_by" "Stand.needed_by" 61 16, dme "Stand" "with_peg" "Stand.with_peg" 61 19, dme "Stand" "without_peg" "Stand.without_peg" 61 20,
  dme "Put" "__init__" "Put.__init__" 25 1, dme "Put" "__neg__" "Put.__neg__" 25 3, dme "Take" "__init__" "Take.__init__" 26 1, dme "Take" "__neg__" "Take.__neg__" 26 3]
def fnl : List He.DefD := fnl0 ++ fnl1 ++ fnl2
def gloN : List Str := ["is_integer", "is_name", "are_strings", "are_pairs", "check_board", "turned", "can_turn", "check_pair", "comes_before", "earlier_pegs", "turn_of", "heights", "rounds", "longest_chain", "is_round", "are_turns", "rounds_lead", "check_form", "check_pegs", "check_pairs", "needed_rows", "longer_row", "barred_in", "check_dead", "clash_pairs", "can_join", "check_members"]
def gloN2 : List Str := ["_law_box", "_law_take", "_law_mixed", "_law_names", "_law_rows", "_law_is_barred", "_law_parts", "_law_board", "_law_is_stand", "_law_sets", "_law_round_after", "_law_fewest", "law", "Board", "Stand", "Put", "Take"]
def freeN : List Str := ["len", "tuple", "list", "any", "all", "max", "min", "range", "enumerate", "isinstance", "sorted", "dict", "zip", "set", "int", "str", "bool"]
def metN : List (Str × Str) := [("Board", "__eq__"), ("Board", "require"), ("Board", "below"), ("Board", "above"), ("Board", "needs"), ("Board", "clash"), ("Stand", "__contains__"), ("Stand", "__eq__"), ("Stand", "__xor__"), ("Stand", "takes_in"), ("Stand", "needed_by"), ("Stand", "with_peg"), ("Stand", "without_peg"), ("Put", "__neg__"), ("Take", "__neg__")]
def noaN : List (Str × Str) := [("Board", "order"), ("Board", "prices"), ("Board", "rows"), ("Board", "clashes"), ("Board", "key"), ("Stand", "ground"), ("Stand", "members"), ("Put", "peg"), ("Take", "peg")]
def clsN : List Str := ["Board", "Stand", "Put", "Take"]
def fal : List He.Fa := gloN.map .glo ++ gloN2.map .glo ++ freeN.map .free ++ metN.map (fun q => .meth q.1 q.2) ++ noaN.map (fun q => .noat q.1 q.2) ++ clsN.map .cls ++ clsN.map .mkr ++ [.str "LETTERS" "abcdefghijklmnopqrstuvwxyz", .int "LONGEST_NAME" 6, .int "MOST_COST" 1000]
def prN : List (Str × Str × Str × Nat × Nat) := [("Board", "pegs", "Board.pegs", 63, 9), ("Stand", "board", "Stand.board", 61, 11), ("Stand", "free", "Stand.free", 61, 13), ("Stand", "loose", "Stand.loose", 61, 14)]
def tfl : List He.Defn := [("heights", none), ("longest_chain", none)]
def exl (K : Frg) : Bool := He.conB K "Board" "MOST" (.int 12) && (He.conB K "Put" "sign" (.str "+") && (He.conB K "Take" "sign" (.str "-") && (clsN.all (klB K) && (He.eqO (PySem.W.findIn K (.ref (He.ga K "Board")) "__ne__") (some (some (.builtin "object.__ne__"))) && (PySem.W.selfFirst K (He.ga K "Stand") && (decide (PySem.W.kitOne K (.ref (He.ga K "Take")) (.ref (He.ga K "Put")) = some false) && (callB K "Board" && (prN.all (fun q => propB K q.1 q.2.1 q.2.2.1) && decide ((He.cT K ("heights", none)).2 ≠ (He.cT K ("longest_chain", none)).2)))))))))
def prObs (K : Frg) : List He.FnW := prN.map fun q => fnWA K (pgA K q.1 q.2.1)
def prVal : List He.FnW := prN.map fun q => fnVal q.2.1 q.2.2.1 (mem q.2.2.2.1 q.2.2.2.2)
/-- the places that the facts look at -/
def lit0 : List Addr := [3, 1004, 828, 302, 349, 253, 1003, 827, 301, 348, 252, 213, 218, 228, 233, 358, 372, 485, 492, 499, 504, 511, 516, 521, 528, 533, 538, 545, 597, 604, 611, 616, 621, 626, 633, 638]
def lit1 : List Addr := [648, 655, 1035, 1042, 1049, 1054, 1059, 1064, 1069, 1076, 1081, 1091, 1096, 1103, 1108, 212, 217, 227, 232, 357, 371, 484, 491, 498, 503, 510, 515, 520, 527, 532, 537, 544, 596, 603, 610, 615]
def lit2 : List Addr := [620, 625, 632, 637, 647, 654, 1034, 1041, 1048, 1053, 1058, 1063, 1068, 1075, 1080, 1090, 1095, 1102, 1107, 271, 285, 318, 332, 667, 688, 695, 719, 739, 753, 759, 766, 771, 792, 797, 847, 868]
def lit3 : List Addr := [882, 902, 917, 931, 936, 943, 950, 270, 284, 317, 331, 666, 687, 694, 718, 738, 752, 758, 765, 770, 791, 796, 846, 842, 867, 881, 901, 916, 930, 935, 942, 949, 737, 751, 757, 900]
def lits : List Addr := lit0 ++ lit1 ++ lit2 ++ lit3
def keyN (g : Addr → Option Obj) : Frg := He.frT g lits
/-- the hook: the kit's own facts, with the getters of properties -/
def hkN : PySem.W.Hook where
  α := He.AlX × List He.FnW
  obs := fun s => ((He.obsT fal fnl [] (keyN s.heap.get?), exl (keyN s.heap.get?) && He.tabsB s.heap.get? tfl (keyN s.heap.get?)), prObs (keyN s.heap.get?))
  val := fun w => (He.valX fnl [] w, prVal)
  says := fun w h => ∃ K, K.In h ∧ He.SaysX fal fnl [] tfl exl w h K ∧ prObs K = prVal
  of := fun w s e => by
    obtain ⟨e1, e2⟩ := Prod.mk.inj e
    obtain ⟨e3, e4⟩ := Prod.mk.inj e1
    obtain ⟨e5, e6⟩ := Bool.and_eq_true_iff.mp e4
    have key : ∀ p ∈ tfl, PySem.W.codeHdIn (keyN s.heap.get?) (He.cT (keyN s.heap.get?) p).1 (He.cT (keyN s.heap.get?) p).2 = true ∧ ∃ o, s.heap.get? (He.cT (keyN s.heap.get?) p).2 = some o ∧ He.emptyTab o = true := fun p hp => by
      have h := List.all_eq_true.mp e6 p hp
      obtain ⟨h1, h2⟩ := Bool.and_eq_true_iff.mp h
      refine ⟨h1, ?_⟩
      split at h2
      · rename_i o eo
        exact ⟨o, eo, h2⟩
      · cases h2
    refine ⟨keyN s.heap.get?, He.frT_in, ⟨e3, e5, fun p hp => (key p hp).1, fun p hp => ?_, fun p hp => ?_⟩, e2⟩
    · obtain ⟨_, o, h1, h2⟩ := key p hp
      exact He.frT_none h1 h2
    · obtain ⟨_, o, h1, h2⟩ := key p hp
      rw [h1, He.emptyTab_eq h2]
  keeps := fun w h h' ⟨K, k1, k2, k3⟩ m => ⟨K, fun a o e => m a o (k1 a o e), ⟨k2.t, k2.more, k2.hd, k2.out, fun p hp => m _ _ (k2.empty p hp)⟩, k3⟩
def obN (s : PySem.W.SharedT) : He.AlX × List He.FnW := ((He.obsT fal fnl [] (keyN (HandSHeadRun.getT s)), exl (keyN (HandSHeadRun.getT s)) && He.tabsB (HandSHeadRun.getT s) tfl (keyN (HandSHeadRun.getT s))), prObs (keyN (HandSHeadRun.getT s)))
theorem obN_eq (s : PySem.W.SharedT) : obN s = hkN.obs s.abs := by
  have e : HandSHeadRun.getT s = s.abs.heap.get? := funext fun a => HandSHeadRun.getT_eq s a
  unfold obN
  rw [e]
  rfl
end Nb
set_option Elab.async false
set_option linter.all false
set_option maxRecDepth 100000
set_option maxHeartbeats 0
namespace Nb
open PySem PySem.W PySem.Calls PyProof.Rows
abbrev R : OpenRow := OpenLaw.row PySem.Challenge.rw_needpegs_k63_whole_rounds_and_chains
abbrev qv : Program := view R.prog [82]
def names0 : List PySem.Str := ["_wall", "PegError", "NoBoard", "NoText", "NoTurn", "Missing", "Needed", "Barred", "NoMatch", "Stuck", "NoPeg", "LETTERS", "DIGITS", "LONGEST_NAME", "LONGEST_FIGURE", "MOST_COST", "is_integer", "is_name", "is_figure", "are_strings", "are_pairs", "Turn", "Put", "Take", "check_board", "stand_after", "turned", "Way", "can_turn", "check_pair"]
def names1 : List PySem.Str := ["comes_before", "earlier_pegs", "turn_of", "heights", "rounds", "longest_chain", "is_round", "are_turns", "rounds_lead", "MOST_PEGS", "BoardText", "board_parts", "check_form", "check_pegs", "check_pairs", "needed_rows", "longer_row", "barred_in", "check_dead", "clash_pairs", "member_rows", "can_join", "check_members", "Stand", "Board", "need_pairs", "part_of", "check_union", "united", "_law_box"]
def names2 : List PySem.Str := ["_law_take", "_law_mixed", "_law_names", "_law_rows", "_law_is_barred", "_law_parts", "_law_board", "_law_is_stand", "_law_some_stand", "_law_sets", "_law_round_after", "_law_fewest"]
def namesL : List PySem.Str := names0 ++ names1 ++ names2
theorem head_run (w : World) : HandSHeadRun.RunEq R qv hkN obN 20000 namesL w := by
  intro os
  kernel_rfl
end Nb
set_option Elab.async false
set_option linter.all false
set_option maxRecDepth 100000
set_option maxHeartbeats 2000000
/-! from the facts of the head to what the law calls -/
namespace Nb
open PySem PySem.Spec PyProof.Rows L2
def tabL (K : Frg) : List (Addr × Str) := [((He.cT K ("heights", none)).2, ("heights" ++ ".<locals>.") ++ "<lambda>"), ((He.cT K ("longest_chain", none)).2, ("longest_chain" ++ ".<locals>.") ++ "<lambda>")]
def glb (P : Program) (w : World) (K : Frg) (mg : Str → Option Value) (base : Heap) : Glob := ⟨P, w, K, mg, base, tabL K, He.ga K⟩
/-- what is known of the heap behind the top -/
structure Known (w : World) (K : Frg) (mg : Str → Option Value) (base : Heap) : Prop where
  kin : K.In base
  ns : base.Ns mainGlobals mg
  says : He.SaysT fal fnl [] w K
  more : exl K = true
  pr : prObs K = prVal
  tabs : ∀ p ∈ tfl, LamX.TabB base mg (He.cT K p).1 (He.cT K p).2
section
variable {P : Program} {w : World} {K : Frg} {mg : Str → Option Value} {base : Heap}
theorem Known.exs (k : Known w K mg base) : He.conB K "Board" "MOST" (.int 12) = true ∧ He.conB K "Put" "sign" (.str "+") = true ∧ He.conB K "Take" "sign" (.str "-") = true ∧ (∀ c ∈ clsN, klB K c = true) ∧ PySem.W.findIn K (.ref (He.ga K "Board")) "__ne__" = some (some (.builtin "object.__ne__")) ∧ PySem.W.selfFirst K (He.ga K "Stand") = true ∧ PySem.W.kitOne K (.ref (He.ga K "Take")) (.ref (He.ga K "Put")) = some false ∧ callB K "Board" = true ∧ (∀ q ∈ prN, propB K q.1 q.2.1 q.2.2.1 = true) ∧ (He.cT K ("heights", none)).2 ≠ (He.cT K ("longest_chain", none)).2 := by
  have h := k.more
  unfold exl at h
  simp only [Bool.and_eq_true, List.all_eq_true, decide_eq_true_iff] at h
  obtain ⟨h1, h2, h3, h4, h5, h6, h7, h8, h9, h10⟩ := h
  exact ⟨h1, h2, h3, h4, He.eqO_ok h5, h6, h7, h8, h9, h10⟩
theorem Known.glo (k : Known w K mg base) {x : Str} (i : Nat) (h : fal[i]? = some (.glo x)) : mg x = some (.ref (He.ga K x)) := He.glo_ok k.kin k.ns (k.says.d.fact i h)
theorem Known.df (k : Known w K mg base) {x : Str} {n : Nat} (i j : Nat) (h : fnl[i]? = some (dfn x n)) (h2 : fal[j]? = some (.glo x)) : Df (glb P w K mg base) x (top n) := by
  obtain ⟨fd, F⟩ := k.says.d.def_ i h
  exact ⟨He.ga K x, fd, F, k.glo j h2⟩
theorem Known.fun_ (k : Known w K mg base) {x : Str} {n : Nat} (i : Nat) (h : fnl[i]? = some (dfn x n)) : ∃ fd, FunD K x x (defArgs (top n)) (defBody (top n)) (defScope (top n)) [] [] (He.ga K x) fd := k.says.d.def_ i h
theorem Known.cls (k : Known w K mg base) {c : Str} (i : Nat) (h : fal[i]? = some (.cls c)) : Cls K (He.ga K c) := He.cls_ok (k.says.d.fact i h)
theorem Known.noa (k : Known w K mg base) {c f : Str} (i : Nat) (h : fal[i]? = some (.noat c f)) : NoAttr K (He.ga K c) f := He.noat_ok (k.says.d.fact i h)
theorem Known.dm (k : Known w K mg base) {c m q : Str} {a b : Nat} (i j l : Nat) (h : fnl[i]? = some (dme c m q a b)) (h2 : fal[j]? = some (.meth c m)) (h3 : fal[l]? = some (.cls c)) : Dm (glb P w K mg base) c m q (mem a b) := by
  obtain ⟨fd, F⟩ := k.says.d.def_ i h
  exact ⟨He.ma K (He.ga K c) m, fd, F, k.cls l h3, He.meth_ok (k.says.d.fact j h2)⟩
theorem Known.dn (k : Known w K mg base) {c q : Str} {a b : Nat} (i j l : Nat) (h : fnl[i]? = some (dme c "__init__" q a b)) (h2 : fal[j]? = some (.mkr c)) (h3 : fal[l]? = some (.glo c)) : Dn (glb P w K mg base) c q (mem a b) [] := by
  obtain ⟨fd, F⟩ := k.says.d.def_ i h
  exact ⟨He.ma K (He.ga K c) "__init__", fd, F, He.mkr_ok (k.says.d.fact j h2), k.glo l h3⟩
theorem Known.dp (k : Known w K mg base) {c m q : Str} {a b : Nat} (i l : Nat) (h : prN[i]? = some (c, m, q, a, b)) (h3 : fal[l]? = some (.cls c)) : Dp (glb P w K mg base) c m q (mem a b) := by
  have e := congrArg (fun l : List He.FnW => l[i]?) k.pr
  have e1 : (prObs K)[i]? = some (fnWA K (pgA K c m)) := by unfold prObs; rw [List.getElem?_map, h]; rfl
  have e2 : prVal[i]? = some (fnVal m q (mem a b)) := by unfold prVal; rw [List.getElem?_map, h]; rfl
  have e3 : fnWA K (pgA K c m) = fnVal m q (mem a b) := Option.some.inj (e1.symm.trans (Eq.trans e e2))
  obtain ⟨fd, F, po⟩ := propA e3 (k.exs.2.2.2.2.2.2.2.2.1 _ (List.mem_of_getElem? h))
  exact ⟨pgA K c m, He.ma K (He.ga K c) m, fd, F, k.cls l h3, po⟩
theorem Known.dl (k : Known w K mg base) {x : Str} {n : Nat} {ps : List Str} (i j : Nat) (h : fnl[i]? = some (dfn x n)) (h2 : fal[j]? = some (.glo x)) (hp : (x, none) ∈ tfl) (hb : bindsTo x x (top n) ps) (hm : ((He.cT K (x, none)).2, (x ++ ".<locals>.") ++ "<lambda>") ∈ tabL K) (hu : ∀ p ∈ tabL K, p.1 = (He.cT K (x, none)).2 → p.2 = (x ++ ".<locals>.") ++ "<lambda>") : Dl (glb P w K mg base) x (top n) ps := by
  obtain ⟨fd, F⟩ := k.fun_ i h
  obtain ⟨⟨oc, od, dV, kV, doc, pm, an, cdv, ct, osl, e1, lk, hcd, dfl, kwd⟩, kp⟩ := F
  obtain ⟨c, ec⟩ := He.codeIn_ref hcd
  subst ec
  have edV : dV = .none := by
    rcases dfl with ⟨_, z⟩ | ⟨z, _⟩
    · exact z
    · exact absurd rfl z
  subst edV
  have hc : He.codeOf K (x, none) = c := He.codeOf_eq (p := (x, none)) lk (by rw [e1])
  have tb := k.tabs (x, none) hp
  have e2 : (He.cT K (x, none)).1 = c := hc
  rw [e2] at tb
  refine ⟨He.ga K x, fd, c, (He.cT K (x, none)).2, ⟨oc, od, kV, doc, pm, an, ct, osl, e1, lk, hcd⟩, k.glo j h2, kp, ?_, tb, hm, hu⟩
  exact FunD.bindsN ⟨⟨oc, od, .none, kV, doc, pm, an, .ref c, ct, osl, e1, lk, hcd, dfl, kwd⟩, kp⟩ hb
theorem Known.kl (k : Known w K mg base) {c : Str} (l : Nat) (h : c ∈ clsN) (h3 : fal[l]? = some (.cls c)) : Kl (glb P w K mg base) c := by
  have e := k.exs.2.2.2.1 c h
  unfold klB at e
  simp only [Bool.and_eq_true, decide_eq_true_iff] at e
  obtain ⟨e1, e2, e3, e4⟩ := e
  exact ⟨k.cls l h3, He.eqO_ok e1, He.eqO_ok e2, e3, e4⟩
theorem Known.bi (k : Known w K mg base) : Bi (glb P w K mg base) where
  len := He.free_ok k.kin k.ns (k.says.d.fact 44 rfl)
  tuple := He.free_ok k.kin k.ns (k.says.d.fact 45 rfl)
  list := He.free_ok k.kin k.ns (k.says.d.fact 46 rfl)
  any := He.free_ok k.kin k.ns (k.says.d.fact 47 rfl)
  all := He.free_ok k.kin k.ns (k.says.d.fact 48 rfl)
  max := He.free_ok k.kin k.ns (k.says.d.fact 49 rfl)
  min := He.free_ok k.kin k.ns (k.says.d.fact 50 rfl)
  range := He.free_ok k.kin k.ns (k.says.d.fact 51 rfl)
  enum := He.free_ok k.kin k.ns (k.says.d.fact 52 rfl)
  isi := He.free_ok k.kin k.ns (k.says.d.fact 53 rfl)
  sorted := He.free_ok k.kin k.ns (k.says.d.fact 54 rfl)
  dict := He.free_ok k.kin k.ns (k.says.d.fact 55 rfl)
  zip := He.free_ok k.kin k.ns (k.says.d.fact 56 rfl)
  set := He.free_ok k.kin k.ns (k.says.d.fact 57 rfl)
  int := He.free_ok k.kin k.ns (k.says.d.fact 58 rfl)
  str := He.free_ok k.kin k.ns (k.says.d.fact 59 rfl)
  bool := He.free_ok k.kin k.ns (k.says.d.fact 60 rfl)
theorem Known.co (k : Known w K mg base) : Co (glb P w K mg base) where
  letters := He.str_ok k.kin k.ns (k.says.d.fact 93 rfl)
  longest := He.int_ok k.kin k.ns (k.says.d.fact 94 rfl)
  cost := He.int_ok k.kin k.ns (k.says.d.fact 95 rfl)
theorem Known.kbd (k : Known w K mg base) : KBd (glb P w K mg base) where
  cls := k.cls 85 rfl
  na := fun f hf => by
    have h : f = "order" ∨ f = "prices" ∨ f = "rows" ∨ f = "clashes" ∨ f = "key" := by simpa [bdFs] using hf
    rcases h with rfl | rfl | rfl | rfl | rfl
    · exact k.noa 76 rfl
    · exact k.noa 77 rfl
    · exact k.noa 78 rfl
    · exact k.noa 79 rfl
    · exact k.noa 80 rfl
  most := He.conB_ok k.exs.1 (by decide +kernel)
theorem Known.kst (k : Known w K mg base) : KSt (glb P w K mg base) where
  cls := k.cls 86 rfl
  na := fun f hf => by
    have h : f = "ground" ∨ f = "members" := by simpa [stFs] using hf
    rcases h with rfl | rfl
    · exact k.noa 81 rfl
    · exact k.noa 82 rfl
  kl := k.kl 86 (by decide +kernel) rfl
  mg := k.glo 41 rfl
theorem Known.ktn (k : Known w K mg base) : KTns (glb P w K mg base) where
  put := ⟨k.cls 87 rfl, k.noa 83 rfl, He.conB_ok k.exs.2.1 (by decide +kernel), k.kl 87 (by decide +kernel) rfl, k.glo 42 rfl⟩
  take := ⟨k.cls 88 rfl, k.noa 84 rfl, He.conB_ok k.exs.2.2.1 (by decide +kernel), k.kl 88 (by decide +kernel) rfl, k.glo 43 rfl⟩
theorem Known.cb (k : Known w K mg base) : Dcb (glb P w K mg base) "Board" "Board.__call__" (mem 63 6) := by
  obtain ⟨fd, F⟩ := k.says.d.def_ 42 (d := dme "Board" "__call__" "Board.__call__" 63 6) rfl
  have e := k.exs.2.2.2.2.2.2.2.1
  unfold callB at e
  simp only [Bool.and_eq_true] at e
  exact ⟨He.ma K (He.ga K "Board") "__call__", fd, F, He.eqO_ok e.1, e.2.1, e.2.2⟩
theorem Known.dnB (k : Known w K mg base) : Dn (glb P w K mg base) "Board" "Board.__init__" (mem 63 1) (He.DefD.kws K dBdI) := by
  obtain ⟨fd, F⟩ := k.says.d.def_ 40 (d := dBdI) rfl
  exact ⟨He.ma K (He.ga K "Board") "__init__", fd, F, He.mkr_ok (k.says.d.fact 89 rfl), k.glo 40 rfl⟩
theorem Known.calls (k : Known w K mg base) : Calls (glb P w K mg base) := by
  have b : Bi (glb P w K mg base) := k.bi
  have co : Co (glb P w K mg base) := k.co
  have kb : KBd (glb P w K mg base) := k.kbd
  have ks : KSt (glb P w K mg base) := k.kst
  have kt : KTns (glb P w K mg base) := k.ktn
  have kl : Kl (glb P w K mg base) "Board" := k.kl 85 (by decide +kernel) rfl
  have nb : NeB (glb P w K mg base) := ⟨k.exs.2.2.2.2.1⟩
  have tn : TkNe (glb P w K mg base) := ⟨k.exs.2.2.2.2.2.2.1⟩
  have sf : PySem.W.selfFirst (glb P w K mg base).K ((glb P w K mg base).cl "Stand") = true := k.exs.2.2.2.2.2.1
  have hm : (glb P w K mg base).mg "Board" = some (.ref ((glb P w K mg base).cl "Board")) := k.glo 40 rfl
  have isInt := fn_isInt (k.df 0 0 rfl rfl) b
  have isName := fn_isName (k.df 1 1 rfl rfl) b co
  have areStr := fn_areStr (k.df 2 2 rfl rfl) b
  have arePairs := fn_arePairs (k.df 3 3 rfl rfl) b areStr
  have form := fn_form (k.df 17 17 rfl rfl) b isInt areStr arePairs
  have pegs := fn_pegs (k.df 18 18 rfl rfl) b co isName
  have pairs := fn_pairs (k.df 19 19 rfl rfl) b
  have longer := fn_longer (g := glb P w K mg base) (k.df 21 21 rfl rfl)
  have needed := fn_needed (k.df 20 20 rfl rfl) b longer
  have barred := fn_barred (k.df 22 22 rfl rfl) b
  have dead := fn_dead (k.df 23 23 rfl rfl) b barred
  have clashP := fn_clashP (k.df 24 24 rfl rfl) b barred
  have mkB := mk_board k.dnB (fun h => by cases h) b kb form pegs pairs needed dead clashP
  have bPegs := pr_pegs (k.dp 0 85 rfl rfl) kb
  have req := me_require (k.dm 43 62 85 rfl rfl rfl) kb
  have below := me_below (k.dm 44 63 85 rfl rfl rfl) kb req
  have above := me_above (k.dm 45 64 85 rfl rfl rfl) kb b req
  have needs := me_needs (k.dm 46 65 85 rfl rfl rfl) kb req
  have clash := me_clash (k.dm 47 66 85 rfl rfl rfl) kb req
  have bdEq := me_bdEq (k.dm 41 61 85 rfl rfl rfl) kb kl hm b
  have join := fn_join (k.df 25 25 rfl rfl) b clash
  have members := fn_members (k.df 26 26 rfl rfl) b clash below
  have mkS := mk_stand (k.dn 48 90 41 rfl rfl rfl) ks b req bPegs members
  have sBoard := pr_board (k.dp 1 86 rfl rfl) ks
  have stIn := me_stIn (k.dm 49 67 86 rfl rfl rfl) ks
  have stEq := me_stEq (k.dm 50 68 86 rfl rfl rfl) ks b bdEq
  have chk := fn_chk (k.df 4 4 rfl rfl) kl nb bdEq sBoard
  have xor := me_xor (k.dm 51 69 86 rfl rfl rfl) ks b chk bPegs
  have call := cb_board k.cb mkS
  have nby := me_nby (k.dm 53 71 86 rfl rfl rfl) ks above
  have takes := me_takes (k.dm 52 70 86 rfl rfl rfl) ks below join
  have free := pr_free (k.dp 2 86 rfl rfl) ks b bPegs takes
  have loose := pr_loose (k.dp 3 86 rfl rfl) ks b nby
  have withP := me_with (k.dm 54 72 86 rfl rfl rfl) ks req below clash mkS
  have without := me_without (k.dm 55 73 86 rfl rfl rfl) ks req nby mkS
  have mkPut := mk_put (k.dn 56 91 42 rfl rfl rfl) kt
  have mkTake := mk_take (k.dn 58 92 43 rfl rfl rfl) kt
  have putN := me_putN (k.dm 57 74 87 rfl rfl rfl) kt mkTake
  have takeN := me_takeN (k.dm 59 75 88 rfl rfl rfl) kt mkPut
  have turned := fn_turned (k.df 5 5 rfl rfl) kt withP without
  have can := fn_can (k.df 6 6 rfl rfl) kt free loose
  have pair := fn_pair (k.df 7 7 rfl rfl) kl nb bdEq sBoard
  have before := fn_before (k.df 8 8 rfl rfl) sBoard stIn needs clash
  have earlier := fn_earlier (k.df 9 9 rfl rfl) xor sf before
  have tof := fn_tof (k.df 10 10 rfl rfl) mkPut mkTake stIn
  have arT := fn_arT (k.df 15 15 rfl rfl) b kt tn
  have round := fn_round (k.df 14 14 rfl rfl) b kt can turned
  have lead := fn_lead roundSeq (k.df 16 16 rfl rfl) b pair arT round turned stEq
  have ne := k.exs.2.2.2.2.2.2.2.2.2
  have ht := fn_ht (k.dl 11 11 rfl rfl (by simp [tfl]) (fun _ _ _ _ _ _ us hl => match us, hl with | [_], _ => rfl) (by simp [tabL]) (fun p hp e => by
    rcases List.mem_cons.mp hp with z | z
    · rw [z]
    · rw [List.mem_singleton.mp z] at e
      exact absurd e.symm ne)) b
  have rounds := fn_rounds (k.df 12 12 rfl rfl) b earlier ht tof
  have chain := fn_chain (k.dl 13 13 rfl rfl (by simp [tfl]) (fun _ _ _ _ _ _ us hl => match us, hl with | [_, _], _ => rfl) (by simp [tabL]) (fun p hp e => by
    rcases List.mem_cons.mp hp with z | z
    · rw [z] at e
      exact absurd e ne
    · rw [List.mem_singleton.mp z])) b earlier ht
  have box := fn_box (k.df 27 27 rfl rfl) b
  have take := fn_take (g := glb P w K mg base) (k.df 28 28 rfl rfl)
  have mixed := fn_mixed (k.df 29 29 rfl rfl) b take
  have names := fn_names (k.df 30 30 rfl rfl) b take mixed
  have lrow := fn_lrow (k.df 31 31 rfl rfl) b
  have lbar := fn_lbar (g := glb P w K mg base) (k.df 32 32 rfl rfl)
  have parts := fn_parts (k.df 33 33 rfl rfl) b take mixed names lrow lbar
  have lbd := fn_lbd (k.df 34 34 rfl rfl) mkB
  have lst := fn_lst (g := glb P w K mg base) (k.df 35 35 rfl rfl)
  have sets := fn_sets (k.df 36 36 rfl rfl) b lst
  have ra := fn_ra (k.df 37 37 rfl rfl) b lst
  have fw := fn_fw (k.df 38 38 rfl rfl) ra
  exact ⟨box, mixed, parts, lbd, sets, fw, call, rounds, chain, lead, putN, takeN⟩
theorem Known.law (k : Known w K mg base) : ∃ fd, FunD K "law" "law" (defArgs (top 82)) (defBody (top 82)) (defScope (top 82)) [] [] (He.ga K "law") fd := k.fun_ 39 rfl
theorem Known.gLaw (k : Known w K mg base) : mg "law" = some (.ref (He.ga K "law")) := k.glo 39 rfl
end
end Nb
set_option Elab.async false
set_option linter.all false
set_option maxRecDepth 100000
set_option maxHeartbeats 2000000
namespace Nb
open PySem PySem.Spec PyProof.Rows L2
theorem tabs_start {T : List (Addr × Str)} {H : Hp} (h : ∀ p ∈ T, H p.1 = some (.tbl #[])) : LamX.Tabs T H := fun p hp => ⟨#[], h p hp, trivial, fun pos cv e => by cases e⟩
theorem law_at {w : World} {mg : Str → Option Value} {fa : Addr} {h : Heap} (Y : (hkN).says w h) (G : h.Ns mainGlobals mg) (hmg : mg "law" = some (.ref fa)) : ∃ K, K.In h ∧ LamX.LawAtS PySem.Challenge.rw_needpegs_k63_whole_rounds_and_chains w K CX0 10 63 "_law_script" mg fa h := by
  obtain ⟨K, kin, sx, pr⟩ := Y
  refine ⟨K, kin, ?_⟩
  obtain ⟨fd, F⟩ := sx.t.d.def_ 39 (d := dfn "law" 82) rfl
  have efa : fa = He.ga K "law" := by
    have e := hmg.symm.trans (He.glo_ok kin G (sx.t.d.fact 39 (f := .glo "law") rfl))
    cases e
    rfl
  subst efa
  have b := FunD.bindsA (ps := ["_law_script"]) F fun _ _ _ _ _ _ us hl => match us, hl with | [_], _ => rfl
  refine ⟨fd, tfl.map (He.cT K), spLaw (glb PySem.Challenge.rw_needpegs_k63_whole_rounds_and_chains.prog w K mg h), fun p hp => ?_, fun p hp => ?_, fun p hp => ?_, fun s u => b s [u] rfl, fun H a ns hl hz ht hS => ⟨a, ns, rfl, hS, tabs_start fun p hp => ?_, fun _ => rfl⟩, fun base kb nb tb => ?_⟩
  · obtain ⟨q, hq, e⟩ := List.mem_map.mp hp
    rw [← e]
    exact sx.empty q hq
  · obtain ⟨q, hq, e⟩ := List.mem_map.mp hp
    rw [← e]
    exact sx.out q hq
  · obtain ⟨q, hq, e⟩ := List.mem_map.mp hp
    rw [← e]
    exact PySem.W.codeHd_of_K kin (sx.hd q hq)
  · rcases List.mem_cons.mp hp with z | z
    · rw [z]
      exact ht (He.cT K ("heights", none)) (List.mem_map.mpr ⟨_, by simp [tfl], rfl⟩)
    · rw [List.mem_singleton.mp z]
      exact ht (He.cT K ("longest_chain", none)) (List.mem_map.mpr ⟨_, by simp [tfl], rfl⟩)
  · have k : Known w K mg base := ⟨kb, nb, sx.t, sx.more, pr, fun p hp => tb _ (List.mem_map.mpr ⟨p, hp, rfl⟩)⟩
    exact ok_law (g := glb PySem.Challenge.rw_needpegs_k63_whole_rounds_and_chains.prog w K mg base) k.calls k.bi F
end Nb
set_option Elab.async false
set_option linter.all false
set_option maxRecDepth 100000
set_option maxHeartbeats 0
open PySem PySem.W PySem.Calls PyProof.Rows
theorem PySem.Challenge.cw_needpegs_k63_whole_rounds_and_chains_holds : PySem.Challenge.rw_needpegs_k63_whole_rounds_and_chains.Holds := by
  w_on; o_law
  refine HandSHeadRun.head_any (r := OpenLaw.row PySem.Challenge.rw_needpegs_k63_whole_rounds_and_chains) (q := Nb.qv) (H := Nb.hkN) (ob := Nb.obN) (M := 20000) (loose := Nb.namesL) (d := HandSHeadRun.topDef (OpenLaw.row PySem.Challenge.rw_needpegs_k63_whole_rounds_and_chains).prog 82) (kwd := []) Nb.obN_eq
    (by kernel_rfl) (fun s => by kernel_rfl) Nb.head_run (by kernel_rfl) (by kernel_rfl) (by kernel_rfl) (by rfl) (by first | assumption | decide +kernel) (by decide +kernel) ⟨rfl, rfl, rfl, rfl, rfl, by decide +kernel⟩ ?hw ?hc
  case hw => w_witness2
  case hc =>
    refine LamX.walk_ofTsE (l := PySem.Challenge.rw_needpegs_k63_whole_rounds_and_chains) (n := 63) (k := 10) (x := "_law_script") (CX := fun _ => L2.CX0) rfl (by decide) (by kernel_rfl) ⟨rfl, by decide, by decide⟩ ?F (fun _ _ _ _ _ z => z)
    intro w mg fa h Y G hmg0
    have hmg : mg ("law" : PySem.Str) = some (.ref fa) := by
      have e : (HandSHeadRun.topDef (OpenLaw.row PySem.Challenge.rw_needpegs_k63_whole_rounds_and_chains).prog 82).name = ("law" : PySem.Str) := by kernel_rfl
      rw [← e]
      exact hmg0
    exact Nb.law_at Y G hmg
