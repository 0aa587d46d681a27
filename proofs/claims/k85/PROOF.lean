import PyProof.Rows.All
import Wide.All
import OpenK.AllK
import Wide.FinOn
import HandS.ForMost
import HandS.Evl
import HandS.IsInst
import HandS.Zip
import HandS.TupAny
import HandS.Deep
import HandS.Style
import HandS.Flow
import HandS.RaiseMore
import OpenK.KOps
import KE.LtData
import KE.SortKeyHeap
import PyProof.CollectIter
import HandS.More
import HandS.SetFor
import PySem.Challenge.RW_findquestion_k85_whole_one_book_of_two
import HandS.MakeKwOnly
import KE.KDictKeyed
import KE.KeyNested
import HandS.DictComp
import HandS.TupLen
import HandS.Small
import HandS.SortKw
import HandS.Conv
import HandS.EndTab
import PyProof.Rows.SeqMore
import KE.KDictCopyH
import PyProof.DictMoreH
import PyProof.DictRoadsH
set_option Elab.async false
set_option linter.all false
set_option maxRecDepth 100000
set_option maxHeartbeats 4000000
/-! The data layer: readings of expressions and statements as plain functions over PyData. -/
namespace DL
open PySem PySem.Spec PyProof.Rows L2 Evl

/-! ### what a value reads as, in a heap -/
mutual
inductive RD (K : PySem.W.Frag) (H : Hp) : V → PyData → Prop
  | non : RD K H .non .none
  | bl (b : Bool) : RD K H (.bl b) (.bool b)
  | int (i : Int) : RD K H (.int i) (.int i)
  | str (x : Str) : RD K H (.str x) (.str x)
  | lst {a : Addr} {xs : List V} {ds : List PyData} : SqL K H a xs → RDs K H xs ds → RD K H (.ref a) (.list ds)
  | tup {a : Addr} {xs : List V} {ds : List PyData} : SqT K H a xs → RDs K H xs ds → RD K H (.ref a) (.tuple ds)
  | ins {a C dx : Addr} {fs : List (Str × V)} {kvs : List (PyData × PyData)} : H a = some (.ins C dx fs) → RDf K H fs kvs → RD K H (.ref a) (.dict ((.none, .int (C : Nat)) :: kvs))
  | opq (a : Addr) : RD K H (.ref a) (.dict [(.none, .none), (.none, .int (a : Nat))])
inductive RDs (K : PySem.W.Frag) (H : Hp) : List V → List PyData → Prop
  | nil : RDs K H [] []
  | cons {v : V} {vs : List V} {d : PyData} {ds : List PyData} : RD K H v d → RDs K H vs ds → RDs K H (v :: vs) (d :: ds)
inductive RDf (K : PySem.W.Frag) (H : Hp) : List (Str × V) → List (PyData × PyData) → Prop
  | nil : RDf K H [] []
  | cons {f : Str} {v : V} {fs : List (Str × V)} {d : PyData} {kvs : List (PyData × PyData)} : RD K H v d → RDf K H fs kvs → RDf K H ((f, v) :: fs) ((.str f, d) :: kvs)
end

mutual
theorem RD.mono {K : PySem.W.Frag} {H H' : Hp} (e : Ex H H') : ∀ {v : V} {d : PyData}, RD K H v d → RD K H' v d
  | _, _, .non => .non
  | _, _, .bl b => .bl b
  | _, _, .int i => .int i
  | _, _, .str x => .str x
  | _, _, .lst h r => .lst (ex_l e h) (RDs.mono e r)
  | _, _, .tup h r => .tup (ex_t e h) (RDs.mono e r)
  | _, _, .ins h r => .ins (e _ _ h) (RDf.mono e r)
  | _, _, .opq a => .opq a
theorem RDs.mono {K : PySem.W.Frag} {H H' : Hp} (e : Ex H H') : ∀ {vs : List V} {ds : List PyData}, RDs K H vs ds → RDs K H' vs ds
  | _, _, .nil => .nil
  | _, _, .cons h r => .cons (RD.mono e h) (RDs.mono e r)
theorem RDf.mono {K : PySem.W.Frag} {H H' : Hp} (e : Ex H H') : ∀ {fs : List (Str × V)} {kvs : List (PyData × PyData)}, RDf K H fs kvs → RDf K H' fs kvs
  | _, _, .nil => .nil
  | _, _, .cons h r => .cons (RD.mono e h) (RDf.mono e r)
end

theorem RDs.length {K : PySem.W.Frag} {H : Hp} : ∀ {vs : List V} {ds : List PyData}, RDs K H vs ds → vs.length = ds.length
  | _, _, .nil => rfl
  | _, _, .cons _ r => congrArg (· + 1) (RDs.length r)
theorem RDs.get {K : PySem.W.Frag} {H : Hp} : ∀ {vs : List V} {ds : List PyData}, RDs K H vs ds → ∀ (i : Nat) (d : PyData), ds[i]? = some d → ∃ v, vs[i]? = some v ∧ RD K H v d
  | _, _, .nil, _, _, h => by simp at h
  | _, _, .cons r _, 0, _, h => ⟨_, rfl, by
    have e := Option.some.inj h
    rw [← e]
    exact r⟩
  | _, _, .cons _ r, i + 1, d, h => RDs.get r i d h
theorem RDs.get' {K : PySem.W.Frag} {H : Hp} : ∀ {vs : List V} {ds : List PyData}, RDs K H vs ds → ∀ (i : Nat) (v : V), vs[i]? = some v → ∃ d, ds[i]? = some d ∧ RD K H v d
  | _, _, .nil, _, _, h => by simp at h
  | _, _, .cons r _, 0, _, h => ⟨_, rfl, by
    have e := Option.some.inj h
    rw [← e]
    exact r⟩
  | _, _, .cons _ r, i + 1, d, h => RDs.get' r i d h
theorem RDs.append {K : PySem.W.Frag} {H : Hp} : ∀ {vs us : List V} {ds es : List PyData}, RDs K H vs ds → RDs K H us es → RDs K H (vs ++ us) (ds ++ es)
  | _, _, _, _, .nil, s => s
  | _, _, _, _, .cons r t, s => .cons r (RDs.append t s)
theorem RDs.take {K : PySem.W.Frag} {H : Hp} : ∀ {vs : List V} {ds : List PyData} (n : Nat), RDs K H vs ds → RDs K H (vs.take n) (ds.take n)
  | _, _, 0, _ => .nil
  | _, _, _ + 1, .nil => .nil
  | _, _, n + 1, .cons r t => .cons r (RDs.take n t)
theorem RDs.drop {K : PySem.W.Frag} {H : Hp} : ∀ {vs : List V} {ds : List PyData} (n : Nat), RDs K H vs ds → RDs K H (vs.drop n) (ds.drop n)
  | _, _, 0, r => r
  | _, _, _ + 1, .nil => .nil
  | _, _, n + 1, .cons _ t => RDs.drop n t

/-- data without instances is data of the deep equality's reading -/
def noIns : PyData → Bool
  | .dict _ => false
  | .list xs => noInsAll xs
  | .tuple xs => noInsAll xs
  | _ => true
where noInsAll : List PyData → Bool
  | [] => true
  | x :: xs => noIns x && noInsAll xs
mutual
theorem RD.dp {K : PySem.W.Frag} {H : Hp} : ∀ (d : PyData) (v : V), noIns d = true → RD K H v d → Dp K H v d
  | .none, _, _, h => by cases h; exact .non
  | .bool b, _, _, h => by cases h; exact .bl b
  | .int i, _, _, h => by cases h; exact .int i
  | .str x, _, _, h => by cases h; exact .str x
  | .list ds, _, n, h => by
    cases h with
    | lst hs ha => exact .lst hs (RDs.dp ds _ (by simpa [noIns] using n) ha)
  | .tuple ds, _, n, h => by
    cases h with
    | tup hs ha => exact .tup hs (RDs.dp ds _ (by simpa [noIns] using n) ha)
  | .dict _, _, n, _ => by simp [noIns] at n
theorem RDs.dp {K : PySem.W.Frag} {H : Hp} : ∀ (ds : List PyData) (vs : List V), noIns.noInsAll ds = true → RDs K H vs ds → DpAll K H vs ds
  | [], _, _, h => by cases h; exact .nil
  | d :: ds, _, n, h => by
    cases h with
    | cons h1 h2 =>
      simp only [noIns.noInsAll, Bool.and_eq_true] at n
      exact .cons (RD.dp d _ n.1 h1) (RDs.dp ds _ n.2 h2)
end

/-! ### heaps: G the part that data reads, H the whole -/
structure Go (G H G' H' : Hp) : Prop where
  hh : Ex H H'
  gh : Ex G' H'
  gg : Ex G G'
  fr : ∀ a o, G' a = some o → G a = some o ∨ H a = none
theorem Go.refl {G H : Hp} (e : Ex G H) : Go G H G H := ⟨Ex.refl H, e, Ex.refl G, fun _ _ h => .inl h⟩
theorem Go.trans {G H G1 H1 G2 H2 : Hp} (a : Go G H G1 H1) (b : Go G1 H1 G2 H2) : Go G H G2 H2 :=
  ⟨a.hh.trans b.hh, b.gh, a.gg.trans b.gg, fun x o h => by
    rcases b.fr x o h with z | z
    · exact a.fr x o z
    · exact .inr (fresh_back a.hh z)⟩
/-- a new object, read as data -/
theorem Go.new {G H : Hp} {p : Addr} {o : HO} (e : Ex G H) (hp : H p = none) : Go G H (upd G p o) (upd H p o) := by
  have gp : G p = none := fresh_back e hp
  refine ⟨Ex.new hp, fun a u h => ?_, Ex.new gp, fun a u h => ?_⟩
  · by_cases ha : a = p
    · subst ha; rw [upd_same] at h ⊢; exact h
    · rw [upd_ne ha] at h ⊢; exact e a u h
  · by_cases ha : a = p
    · subst ha; exact .inr hp
    · rw [upd_ne ha] at h; exact .inl h
/-- a new object, not data -/
theorem Go.own {G H : Hp} {p : Addr} {o : HO} (e : Ex G H) (hp : H p = none) : Go G H G (upd H p o) :=
  ⟨Ex.new hp, e.trans (Ex.new hp), Ex.refl G, fun _ _ h => .inl h⟩

/-! ### slots -/
abbrev DE := List (Option PyData)
abbrev DF := DE → Option PyData
def sl (ρ : DE) (i : Nat) : Option PyData := (ρ[i]?).join
structure EnvR (K : PySem.W.Frag) (G : Hp) (σ : L2.St) (ρ : DE) : Prop where
  len : ρ.length = σ.length
  get : ∀ (i : Nat) (d : PyData), ρ[i]? = some (some d) → ∃ v, σ[i]? = some (some v) ∧ RD K G v d
theorem EnvR.mono {K : PySem.W.Frag} {G G' : Hp} {σ : L2.St} {ρ : DE} (r : EnvR K G σ ρ) (e : Ex G G') : EnvR K G' σ ρ :=
  ⟨r.len, fun i d h => by
    obtain ⟨v, h1, h2⟩ := r.get i d h
    exact ⟨v, h1, h2.mono e⟩⟩
theorem EnvR.set {K : PySem.W.Frag} {G : Hp} {σ : L2.St} {ρ : DE} {v : V} {d : PyData} (r : EnvR K G σ ρ) (h : RD K G v d) (i : Nat) : EnvR K G (σ.set i (some v)) (ρ.set i (some d)) := by
  refine ⟨by rw [List.length_set, List.length_set, r.len], fun j e hj => ?_⟩
  by_cases hij : i = j
  · subst hij
    by_cases hi : i < ρ.length
    · rw [List.getElem?_set_self hi] at hj
      cases hj
      exact ⟨v, by rw [List.getElem?_set_self (by rw [← r.len]; exact hi)], h⟩
    · rw [List.getElem?_eq_none (by rw [List.length_set]; omega)] at hj
      cases hj
  · rw [List.getElem?_set_ne hij] at hj
    obtain ⟨w, h1, h2⟩ := r.get j e hj
    exact ⟨w, by rw [List.getElem?_set_ne hij]; exact h1, h2⟩
def wipeD (ρ : DE) : List Nat → DE
  | [] => ρ
  | v :: vs => (wipeD ρ vs).set v none
theorem EnvR.forget {K : PySem.W.Frag} {G : Hp} {σ : L2.St} {ρ : DE} (r : EnvR K G σ ρ) (i : Nat) : EnvR K G (σ.set i none) (ρ.set i none) := by
  refine ⟨by rw [List.length_set, List.length_set, r.len], fun j e hj => ?_⟩
  by_cases hij : i = j
  · subst hij
    by_cases hi : i < ρ.length
    · rw [List.getElem?_set_self hi] at hj
      cases hj
    · rw [List.getElem?_eq_none (by rw [List.length_set]; omega)] at hj
      cases hj
  · rw [List.getElem?_set_ne hij] at hj
    obtain ⟨w, h1, h2⟩ := r.get j e hj
    exact ⟨w, by rw [List.getElem?_set_ne hij]; exact h1, h2⟩
theorem EnvR.wipe {K : PySem.W.Frag} {G : Hp} {σ : L2.St} {ρ : DE} (r : EnvR K G σ ρ) : ∀ vs : List Nat, EnvR K G (L2.wipe σ vs) (wipeD ρ vs)
  | [] => r
  | v :: vs => (r.wipe vs).forget v
theorem sl_get {ρ : DE} {i : Nat} {d : PyData} (h : sl ρ i = some d) : ρ[i]? = some (some d) := by
  unfold sl at h
  cases e : ρ[i]? with
  | none => rw [e] at h; cases h
  | some o =>
    rw [e] at h
    cases o with
    | none => cases h
    | some x => cases h; rfl

/-! ### the readings -/
def DQ (K : PySem.W.Frag) (G H : Hp) (d : PyData) (Q : VK) : Prop := ∀ v H' G', Go G H G' H' → RD K G' v d → Q v H'
def tD (K : PySem.W.Frag) (F : DF) : TE := fun σ H Q => ∃ G ρ d, Ex G H ∧ EnvR K G σ ρ ∧ F ρ = some d ∧ DQ K G H d Q
def tDs (K : PySem.W.Frag) (F : DE → Option (List PyData)) : TA := fun σ H Q => ∃ G ρ ds, Ex G H ∧ EnvR K G σ ρ ∧ F ρ = some ds ∧ ∀ vs H' G', Go G H G' H' → RDs K G' vs ds → Q vs H'
def tDT (K : PySem.W.Frag) (T : DE → Option Bool) : TT := fun σ H Q => ∃ G ρ b, Ex G H ∧ EnvR K G σ ρ ∧ T ρ = some b ∧ ∀ H' G', Go G H G' H' → Q b H'
abbrev PD (X : Cx) (e : Expr) (F : DF) : Prop := PE X e (tD X.K F)
abbrev PDs (X : Cx) (es : List Expr) (F : DE → Option (List PyData)) : Prop := PA X es (tDs X.K F)
abbrev PDT (X : Cx) (e : Expr) (T : DE → Option Bool) : Prop := PT X e (tDT X.K T)
abbrev PDW (X : Cx) (e : Expr) (T : DE → Option Bool) : Prop := PW X e (tDT X.K T)
theorem weakE {X : Cx} {e : Expr} {t t' : TE} (h : PE X e t) (w : ∀ σ H Q, t' σ H Q → t σ H Q) : PE X e t' := ⟨fun pins s σ H Q I q => h.run pins s σ H Q I (w σ H Q q)⟩
theorem weakT {X : Cx} {e : Expr} {t t' : TT} (h : PT X e t) (w : ∀ σ H Q, t' σ H Q → t σ H Q) : PT X e t' := ⟨fun pins s σ H Q I q => h.run pins s σ H Q I (w σ H Q q)⟩
theorem weakW {X : Cx} {e : Expr} {t t' : TT} (h : PW X e t) (w : ∀ σ H Q, t' σ H Q → t σ H Q) : PW X e t' := ⟨fun wh pins s σ H Q I q => h.run wh pins s σ H Q I (w σ H Q q)⟩
theorem weakA {X : Cx} {e : List Expr} {t t' : TA} (h : PA X e t) (w : ∀ σ H Q, t' σ H Q → t σ H Q) : PA X e t' := ⟨fun p pins s σ H Q I q => h.run p pins s σ H Q I (w σ H Q q)⟩
theorem weakS {X : Cx} {e : Stmt} {t t' : TS} (h : PS X e t) (w : ∀ D σ H, t' D σ H → t D σ H) : PS X e t' := ⟨fun pins s σ H D I q => h.run pins s σ H D I (w D σ H q)⟩
theorem weakSs {X : Cx} {e : List Stmt} {t t' : TS} (h : PSs X e t) (w : ∀ D σ H, t' D σ H → t D σ H) : PSs X e t' := ⟨fun pins s σ H D I q => h.run pins s σ H D I (w D σ H q)⟩

section
variable {X : Cx} {a b c e : Expr} {es : List Expr} {F F1 F2 F3 : DF} {T T1 T2 : DE → Option Bool} {pos : Pos}
/-- code that is never reached -/
theorem pd_never : PD X e (fun _ => none) := ⟨fun _ _ _ _ _ _ h => by
  obtain ⟨_, _, _, _, _, h, _⟩ := h
  cases h⟩
theorem pdt_never : PDT X e (fun _ => none) := ⟨fun _ _ _ _ _ _ h => by
  obtain ⟨_, _, _, _, _, h, _⟩ := h
  cases h⟩
theorem pd_var {i : Nat} (h : PE X e (tVar i)) : PD X e (fun ρ => sl ρ i) := weakE h fun σ H Q => by
  rintro ⟨G, ρ, d, eg, er, hf, q⟩
  obtain ⟨v, h1, h2⟩ := er.get i d (sl_get hf)
  exact ⟨v, h1, q v H G (Go.refl eg) h2⟩
theorem pd_const {v : V} {d : PyData} (h : PE X e (tC v)) (hd : ∀ G, RD X.K G v d) : PD X e (fun _ => some d) := weakE h fun σ H Q => by
  rintro ⟨G, ρ, d', eg, er, hf, q⟩
  cases hf
  exact q v H G (Go.refl eg) (hd G)
theorem pd_int {i : Int} {j pos} : PD X (.Constant (.int i) j pos) (fun _ => some (.int i)) := pd_const pe_int fun _ => .int i
theorem pd_bl {i : Bool} {j pos} : PD X (.Constant (.bool i) j pos) (fun _ => some (.bool i)) := pd_const pe_bl fun _ => .bl i
theorem pd_str {i : Str} {j pos} : PD X (.Constant (.str i) j pos) (fun _ => some (.str i)) := pd_const pe_str fun _ => .str i
theorem pd_non {j pos} : PD X (.Constant .none j pos) (fun _ => some .none) := pd_const pe_non fun _ => .non
theorem pds_nil : PDs X [] (fun _ => some []) := weakA pa_nil fun σ H Q => by
  rintro ⟨G, ρ, d', eg, er, hf, q⟩
  cases hf
  exact q [] H G (Go.refl eg) .nil
theorem pds_cons {Fs : DE → Option (List PyData)} (h : PD X e F) (hr : PDs X es Fs) (hs : starEach (e :: es) X.env = (false, eval e X.env) :: starEach es X.env := by rfl) :
    PDs X (e :: es) (fun ρ => (F ρ).bind fun d => (Fs ρ).bind fun ds => some (d :: ds)) := weakA (pa_cons h hr hs) fun σ H Q => by
  rintro ⟨G, ρ, ds, eg, er, hf, q⟩
  obtain ⟨d, h1, hf⟩ := Option.bind_eq_some_iff.mp hf
  obtain ⟨ds', h2, hf⟩ := Option.bind_eq_some_iff.mp hf
  cases hf
  exact ⟨G, ρ, d, eg, er, h1, fun v H1 G1 g1 r1 => ⟨G1, ρ, ds', g1.gh, er.mono g1.gg, h2, fun vs H2 G2 g2 r2 => q (v :: vs) H2 G2 (g1.trans g2) (.cons (r1.mono g2.gg) r2)⟩⟩
theorem small_line {n : Nat} (h : n ≤ 100000) : n ≤ sizeLine := sz_of h
def tupD (ds : List PyData) : Option PyData := if ds.length ≤ 100000 then some (.tuple ds) else none
def lstD (ds : List PyData) : Option PyData := if ds.length ≤ 100000 then some (.list ds) else none
theorem tupD_some {ds : List PyData} {d : PyData} (h : tupD ds = some d) : d = .tuple ds ∧ ds.length ≤ 100000 := by
  unfold tupD at h
  split at h
  · cases h; exact ⟨rfl, by assumption⟩
  · cases h
theorem lstD_some {ds : List PyData} {d : PyData} (h : lstD ds = some d) : d = .list ds ∧ ds.length ≤ 100000 := by
  unfold lstD at h
  split at h
  · cases h; exact ⟨rfl, by assumption⟩
  · cases h
theorem rd_newT {K : PySem.W.Frag} {G : Hp} {p : Addr} {vs : List V} {ds : List PyData} (hp : G p = none) (r : RDs K G vs ds) : RD K (upd G p (.tup vs)) (.ref p) (.tuple ds) :=
  .tup (SqT.of upd_same) (r.mono (Ex.new hp))
theorem rd_newL {K : PySem.W.Frag} {G : Hp} {p : Addr} {vs : List V} {ds : List PyData} (hp : G p = none) (r : RDs K G vs ds) : RD K (upd G p (.lst vs)) (.ref p) (.list ds) :=
  .lst (SqL.of upd_same) (r.mono (Ex.new hp))
theorem pd_tup {Fs : DE → Option (List PyData)} {x1} (h : PDs X es Fs) : PD X (.Tuple es x1 pos) (fun ρ => (Fs ρ).bind tupD) := weakE (pe_tup h) fun σ H Q => by
  rintro ⟨G, ρ, d, eg, er, hf, q⟩
  obtain ⟨ds, h1, hf⟩ := Option.bind_eq_some_iff.mp hf
  obtain ⟨rfl, hl⟩ := tupD_some hf
  refine ⟨G, ρ, ds, eg, er, h1, fun vs H1 G1 g1 r1 => ⟨sz_of (by rw [r1.length]; exact hl), fun p hp => ?_⟩⟩
  exact q _ _ _ (g1.trans (Go.new g1.gh hp)) (rd_newT (fresh_back g1.gh hp) r1)
theorem pd_lst {Fs : DE → Option (List PyData)} (h : PDs X es Fs) : PD X (.List es pos) (fun ρ => (Fs ρ).bind lstD) := weakE (pe_lst h) fun σ H Q => by
  rintro ⟨G, ρ, d, eg, er, hf, q⟩
  obtain ⟨ds, h1, hf⟩ := Option.bind_eq_some_iff.mp hf
  obtain ⟨rfl, hl⟩ := lstD_some hf
  refine ⟨G, ρ, ds, eg, er, h1, fun vs H1 G1 g1 r1 => ⟨sz_of (by rw [r1.length]; exact hl), fun p hp => ?_⟩⟩
  exact q _ _ _ (g1.trans (Go.new g1.gh hp)) (rd_newL (fresh_back g1.gh hp) r1)

/-! ### operators -/
abbrev D2 := PyData → PyData → Option PyData
def rD2 (K : PySem.W.Frag) (g : D2) : R2 := fun x y H Q => ∃ G d e r, Ex G H ∧ RD K G x d ∧ RD K G y e ∧ g d e = some r ∧ DQ K G H r Q
def OD (X : Cx) (f : Value → Value → Sem Value) (g : D2) : Prop := OpR X f (rD2 X.K g)
theorem OD.weak {f : Value → Value → Sem Value} {r : R2} {g : D2} (h : OpR X f r) (w : ∀ x y H Q, rD2 X.K g x y H Q → r x y H Q) : OD X f g := fun pins s σ H x y v u Q I rx ry q => h pins s σ H x y v u Q I rx ry (w x y H Q q)
def b2 (g : D2) (F1 F2 : DF) : DF := fun ρ => (F1 ρ).bind fun x => (F2 ρ).bind fun y => g x y
theorem two_in {K : PySem.W.Frag} {g : D2} {σ : L2.St} {H : Hp} {Q : VK} (h : tD K (b2 g F1 F2) σ H Q) : tOp (rD2 K g) (tD K F1) (tD K F2) σ H Q := by
  obtain ⟨G, ρ, d, eg, er, hf, q⟩ := h
  obtain ⟨x, h1, hf⟩ := Option.bind_eq_some_iff.mp hf
  obtain ⟨y, h2, hf⟩ := Option.bind_eq_some_iff.mp hf
  exact ⟨G, ρ, x, eg, er, h1, fun v H1 G1 g1 r1 => ⟨G1, ρ, y, g1.gh, er.mono g1.gg, h2, fun u H2 G2 g2 r2 => ⟨G2, x, y, d, g2.gh, r1.mono g2.gg, r2, hf, fun v' H3 G3 g3 r3 => q v' H3 G3 ((g1.trans g2).trans g3) r3⟩⟩⟩
theorem pd_op {op : Operator} {g : D2} (ho : OD X (binaryOp op) g) (ha : PD X a F1) (hb : PD X b F2) : PD X (.BinOp a op b pos) (b2 g F1 F2) := weakE (pe_op ho ha hb) fun _ _ _ => two_in
theorem pd_cmp {op : CmpOp} {g : D2} (ho : OD X (compareOp op) g) (ha : PD X a F1) (hb : PD X b F2) (hm : behindInMarks op b = false) : PD X (.Compare a [op] [b] pos) (b2 g F1 F2) := weakE (pe_cmpR ho ha hb hm) fun _ _ _ => two_in
def asB : PyData → Option Bool
  | .bool b => some b
  | _ => none
theorem asB_some {d : PyData} {b : Bool} (h : asB d = some b) : d = .bool b := by
  cases d <;> simp [asB] at h
  rw [h]
theorem test_in {K : PySem.W.Frag} {σ : L2.St} {H : Hp} {Q : Bool → Hp → Prop} (h : tDT K (fun ρ => (F ρ).bind asB) σ H Q) : tD K F σ H (fun x H' => ∃ k, x = .bl k ∧ Q k H') := by
  obtain ⟨G, ρ, d, eg, er, hf, q⟩ := h
  obtain ⟨x, h1, hf⟩ := Option.bind_eq_some_iff.mp hf
  refine ⟨G, ρ, x, eg, er, h1, fun v H1 G1 g1 r1 => ?_⟩
  rw [asB_some hf] at r1
  cases r1
  exact ⟨d, rfl, q H1 G1 g1⟩
theorem pdt_cmp {op : CmpOp} {g : D2} (ho : OD X (compareOp op) g) (ha : PD X a F1) (hb : PD X b F2) (hm : behindInMarks op b = false) : PDT X (.Compare a [op] [b] pos) (fun ρ => (b2 g F1 F2 ρ).bind asB) :=
  weakT (pt_cmpR ho ha hb hm) fun _ _ _ h => two_in (test_in h)
theorem pdt_val (h : PD X e F) (he : ∀ whole, isTrue e X.env whole = (do let v ← whole; standAt e.pos; holding [v] (truthy v)) := by intro _; rfl) : PDT X e (fun ρ => (F ρ).bind asB) :=
  weakT (pt_val h he) fun _ _ _ h => test_in h
/-! chains -/
def chD (g g' : D2) (F1 F2 F3 : DF) : DF := fun ρ => (F1 ρ).bind fun x => (F2 ρ).bind fun y => (g x y).bind fun k => (asB k).bind fun k => if k = true then (F3 ρ).bind fun z => g' y z else some (.bool false)
end
end DL

set_option Elab.async false
set_option linter.all false
set_option maxRecDepth 100000
set_option maxHeartbeats 4000000
namespace DL
open PySem PySem.Spec PyProof.Rows L2 Evl
section
variable {X : Cx} {a b c e : Expr} {es rest : List Expr} {F F1 F2 F3 : DF} {T T1 T2 : DE → Option Bool} {pos : Pos}
theorem chain_in {K : PySem.W.Frag} {g g' : D2} {σ : L2.St} {H : Hp} {Q : VK} (h : tD K (chD g g' F1 F2 F3) σ H Q) : tChain (rD2 K g) (rD2 K g') (tD K F1) (tD K F2) (tD K F3) σ H Q := by
  obtain ⟨G, ρ, d, eg, er, hf, q⟩ := h
  obtain ⟨x, h1, hf⟩ := Option.bind_eq_some_iff.mp hf
  obtain ⟨y, h2, hf⟩ := Option.bind_eq_some_iff.mp hf
  obtain ⟨k0, h3, hf⟩ := Option.bind_eq_some_iff.mp hf
  obtain ⟨k, h4, hf⟩ := Option.bind_eq_some_iff.mp hf
  rw [asB_some h4] at h3
  refine ⟨G, ρ, x, eg, er, h1, fun v H1 G1 g1 r1 => ⟨G1, ρ, y, g1.gh, er.mono g1.gg, h2, fun u H2 G2 g2 r2 => ⟨G2, x, y, .bool k, g2.gh, r1.mono g2.gg, r2, h3, fun v' H3 G3 g3 r3 => ?_⟩⟩⟩
  cases r3
  refine ⟨k, rfl, ?_⟩
  cases k with
  | true =>
    rw [if_pos rfl] at hf ⊢
    obtain ⟨z, h5, hf⟩ := Option.bind_eq_some_iff.mp hf
    exact ⟨G3, ρ, z, g3.gh, er.mono ((g1.trans g2).trans g3).gg, h5, fun w H4 G4 g4 r4 => ⟨G4, y, z, d, g4.gh, r2.mono (g3.trans g4).gg, r4, hf, fun v5 H5 G5 g5 r5 => q v5 H5 G5 ((((g1.trans g2).trans g3).trans g4).trans g5) r5⟩⟩
  | false =>
    rw [if_neg Bool.false_ne_true] at hf ⊢
    cases hf
    exact q _ H3 G3 ((g1.trans g2).trans g3) (.bl false)
theorem pd_chain {op op' : CmpOp} {g g' : D2} (ho : OD X (compareOp op) g) (ho' : OD X (compareOp op') g') (ha : PD X a F1) (hb : PD X b F2) (hc : PD X c F3)
    (hm : lastMarks [op, op'] [b, c] = false := by with_unfolding_all rfl) : PD X (.Compare a [op, op'] [b, c] pos) (chD g g' F1 F2 F3) := weakE (pe_chain ho ho' ha hb hc hm) fun _ _ _ => chain_in
theorem pdt_chain {op op' : CmpOp} {g g' : D2} (ho : OD X (compareOp op) g) (ho' : OD X (compareOp op') g') (ha : PD X a F1) (hb : PD X b F2) (hc : PD X c F3)
    (hm : lastMarks [op, op'] [b, c] = false := by with_unfolding_all rfl) : PDT X (.Compare a [op, op'] [b, c] pos) (fun ρ => (chD g g' F1 F2 F3 ρ).bind asB) := weakT (pt_chain ho ho' ha hb hc hm) fun _ _ _ h => chain_in (test_in h)

/-! ### and, or, not -/
def andT (T1 T2 : DE → Option Bool) : DE → Option Bool := fun ρ => (T1 ρ).bind fun k => if k = true then T2 ρ else some false
def orT (T1 T2 : DE → Option Bool) : DE → Option Bool := fun ρ => (T1 ρ).bind fun k => if k = true then some true else T2 ρ
theorem pdw_and1 (ha : PDT X a T) : PDW X (.BoolOp .And [a] pos) T := pw_and1 ha
theorem pdw_or1 (ha : PDT X a T) : PDW X (.BoolOp .Or [a] pos) T := pw_or1 ha
theorem pdw_and (ha : PDT X a T1) (hb : PDW X (.BoolOp .And (b :: rest) pos) T2) : PDW X (.BoolOp .And (a :: b :: rest) pos) (andT T1 T2) := weakW (pw_and ha hb) fun σ H Q => by
  rintro ⟨G, ρ, d, eg, er, hf, q⟩
  obtain ⟨k, h1, hf⟩ := Option.bind_eq_some_iff.mp hf
  refine ⟨G, ρ, k, eg, er, h1, fun H1 G1 g1 => ?_⟩
  cases k with
  | true =>
    rw [if_pos rfl] at hf ⊢
    exact ⟨G1, ρ, d, g1.gh, er.mono g1.gg, hf, fun H2 G2 g2 => q H2 G2 (g1.trans g2)⟩
  | false =>
    rw [if_neg Bool.false_ne_true] at hf ⊢
    cases hf
    exact q H1 G1 g1
theorem pdw_or (ha : PDT X a T1) (hb : PDW X (.BoolOp .Or (b :: rest) pos) T2) : PDW X (.BoolOp .Or (a :: b :: rest) pos) (orT T1 T2) := weakW (pw_or ha hb) fun σ H Q => by
  rintro ⟨G, ρ, d, eg, er, hf, q⟩
  obtain ⟨k, h1, hf⟩ := Option.bind_eq_some_iff.mp hf
  refine ⟨G, ρ, k, eg, er, h1, fun H1 G1 g1 => ?_⟩
  cases k with
  | true =>
    rw [if_pos rfl] at hf ⊢
    cases hf
    exact q H1 G1 g1
  | false =>
    rw [if_neg Bool.false_ne_true] at hf ⊢
    exact ⟨G1, ρ, d, g1.gh, er.mono g1.gg, hf, fun H2 G2 g2 => q H2 G2 (g1.trans g2)⟩
theorem pdt_of (h : PDW X a T) : PDT X a T := h.pt
def notT (T : DE → Option Bool) : DE → Option Bool := fun ρ => (T ρ).map (!·)
theorem pdt_not (ha : PDT X a T) : PDT X (.UnaryOp .Not a pos) (notT T) := weakT (pt_not ha) fun σ H Q => by
  rintro ⟨G, ρ, d, eg, er, hf, q⟩
  obtain ⟨k, h1, rfl⟩ := Option.map_eq_some_iff.mp hf
  exact ⟨G, ρ, k, eg, er, h1, q⟩
/-- as values -/
def andV (F1 F2 : DF) : DF := fun ρ => (F1 ρ).bind fun x => (asB x).bind fun k => if k = true then F2 ρ else some (.bool false)
def orV (F1 F2 : DF) : DF := fun ρ => (F1 ρ).bind fun x => (asB x).bind fun k => if k = true then some (.bool true) else F2 ρ
def notV (F : DF) : DF := fun ρ => (F ρ).bind fun x => (asB x).bind fun k => some (.bool (!k))
theorem pd_one {op} (h : PD X a F) : PD X (.BoolOp op [a] pos) F := pe_one h
theorem pd_and (ha : PD X a F1) (hb : PD X (.BoolOp .And (b :: rest) pos) F2) : PD X (.BoolOp .And (a :: b :: rest) pos) (andV F1 F2) := weakE (pe_and ha hb) fun σ H Q => by
  rintro ⟨G, ρ, d, eg, er, hf, q⟩
  obtain ⟨x, h1, hf⟩ := Option.bind_eq_some_iff.mp hf
  obtain ⟨k, h2, hf⟩ := Option.bind_eq_some_iff.mp hf
  rw [asB_some h2] at h1
  refine ⟨G, ρ, _, eg, er, h1, fun v H1 G1 g1 r1 => ?_⟩
  cases r1
  refine ⟨k, rfl, ?_⟩
  cases k with
  | true =>
    rw [if_pos rfl] at hf ⊢
    exact ⟨G1, ρ, d, g1.gh, er.mono g1.gg, hf, fun v H2 G2 g2 r2 => q v H2 G2 (g1.trans g2) r2⟩
  | false =>
    rw [if_neg Bool.false_ne_true] at hf ⊢
    cases hf
    exact q _ H1 G1 g1 (.bl false)
theorem pd_or (ha : PD X a F1) (hb : PD X (.BoolOp .Or (b :: rest) pos) F2) : PD X (.BoolOp .Or (a :: b :: rest) pos) (orV F1 F2) := weakE (pe_or ha hb) fun σ H Q => by
  rintro ⟨G, ρ, d, eg, er, hf, q⟩
  obtain ⟨x, h1, hf⟩ := Option.bind_eq_some_iff.mp hf
  obtain ⟨k, h2, hf⟩ := Option.bind_eq_some_iff.mp hf
  rw [asB_some h2] at h1
  refine ⟨G, ρ, _, eg, er, h1, fun v H1 G1 g1 r1 => ?_⟩
  cases r1
  refine ⟨k, rfl, ?_⟩
  cases k with
  | true =>
    rw [if_pos rfl] at hf ⊢
    cases hf
    exact q _ H1 G1 g1 (.bl true)
  | false =>
    rw [if_neg Bool.false_ne_true] at hf ⊢
    exact ⟨G1, ρ, d, g1.gh, er.mono g1.gg, hf, fun v H2 G2 g2 r2 => q v H2 G2 (g1.trans g2) r2⟩
theorem pd_not (ha : PD X a F) : PD X (.UnaryOp .Not a pos) (notV F) := weakE (pe_not ha) fun σ H Q => by
  rintro ⟨G, ρ, d, eg, er, hf, q⟩
  obtain ⟨x, h1, hf⟩ := Option.bind_eq_some_iff.mp hf
  obtain ⟨k, h2, hf⟩ := Option.bind_eq_some_iff.mp hf
  rw [asB_some h2] at h1
  cases hf
  refine ⟨G, ρ, _, eg, er, h1, fun v H1 G1 g1 r1 => ?_⟩
  cases r1
  exact ⟨k, rfl, q _ H1 G1 g1 (.bl _)⟩

/-! ### values' operators -/
def addD : D2
  | .int i, .int j => some (.int (i + j))
  | .str x, .str y => if x.length + y.length ≤ 100000 then some (.str (x ++ y)) else none
  | .tuple x, .tuple y => if x.length + y.length ≤ 100000 then some (.tuple (x ++ y)) else none
  | _, _ => none
theorem od_add : OD X (binaryOp .Add) addD := by
  refine OD.weak ((op_add.or op_add_str).or op_catA) ?_
  rintro x y H Q ⟨G, d, e, r, eg, r1, r2, h, q⟩
  unfold addD at h
  split at h
  · cases h; cases r1; cases r2
    exact .inl (.inl ⟨_, _, rfl, rfl, q _ H G (Go.refl eg) (.int _)⟩)
  · split at h
    · cases h; cases r1; cases r2
      exact .inl (.inr ⟨_, _, rfl, rfl, sz_of (by assumption), q _ H G (Go.refl eg) (.str _)⟩)
    · cases h
  · split at h
    · rename_i hl
      cases h
      cases r1 with
      | tup s1 t1 =>
        cases r2 with
        | tup s2 t2 =>
          rename_i xs a1 vs a2 us
          refine .inr ⟨a1, a2, vs, us, rfl, rfl, ex_t eg s1, ex_t eg s2, sz_of (by rw [t1.length, t2.length]; exact hl), fun hn => ?_, fun hn hn2 => ?_, fun hn hn2 p hp => ?_⟩
          · subst hn
            cases t1
            exact q _ H G (Go.refl eg) (.tup s2 t2)
          · subst hn2
            cases t2
            refine q _ H G (Go.refl eg) ?_
            rw [List.append_nil]
            exact .tup s1 t1
          · exact q _ _ _ (Go.new eg hp) (rd_newT (fresh_back eg hp) (t1.append t2))
    · cases h
  · cases h
def subD : D2
  | .int i, .int j => some (.int (i - j))
  | _, _ => none
theorem od_sub : OD X (binaryOp .Sub) subD := by
  refine OD.weak op_sub ?_
  rintro x y H Q ⟨G, d, e, r, eg, r1, r2, h, q⟩
  unfold subD at h
  split at h
  · cases h; cases r1; cases r2
    exact ⟨_, _, rfl, rfl, q _ H G (Go.refl eg) (.int _)⟩
  · cases h
/-- two ints compared -/
def cmpI (p : Int → Int → Bool) : D2
  | .int i, .int j => some (.bool (p i j))
  | _, _ => none
theorem od_cmpI {f : Value → Value → Sem Value} {p : Int → Int → Bool} (h : OpR X f (rI0 fun i j => .bl (p i j))) : OD X f (cmpI p) := by
  refine OD.weak h ?_
  rintro x y H Q ⟨G, d, e, r, eg, r1, r2, h, q⟩
  unfold cmpI at h
  split at h
  · cases h; cases r1; cases r2
    exact ⟨_, _, rfl, rfl, q _ H G (Go.refl eg) (.bl _)⟩
  · cases h
theorem od_ltI : OD X (compareOp .Lt) (cmpI fun i j => decide (i < j)) := od_cmpI op_lt
theorem od_leI : OD X (compareOp .LtE) (cmpI fun i j => decide (i ≤ j)) := od_cmpI op_le
theorem od_gtI : OD X (compareOp .Gt) (cmpI fun i j => decide (j < i)) := od_cmpI op_gt
theorem od_geI : OD X (compareOp .GtE) (cmpI fun i j => decide (j ≤ i)) := od_cmpI op_ge
def ltS : D2
  | .str i, .str j => some (.bool (decide (i.cps.toList < j.cps.toList)))
  | _, _ => none
theorem od_ltS : OD X (compareOp .Lt) ltS := by
  refine OD.weak op_lt_str ?_
  rintro x y H Q ⟨G, d, e, r, eg, r1, r2, h, q⟩
  unfold ltS at h
  split at h
  · cases h; cases r1; cases r2
    exact ⟨_, _, rfl, rfl, q _ H G (Go.refl eg) (.bl _)⟩
  · cases h
/-- == of any data -/
def okEq (d : PyData) : Bool := SeqAt.shaped d && noIns d
def eqD : D2 := fun d e => if okEq d = true ∧ okEq e = true then some (.bool (PyData.eqv d e)) else none
def neD : D2 := fun d e => if okEq d = true ∧ okEq e = true then some (.bool (!PyData.eqv d e)) else none
theorem okEq_and {d : PyData} (h : okEq d = true) : SeqAt.shaped d = true ∧ noIns d = true := by
  unfold okEq at h
  simpa using h
theorem od_eq (hu : X.A.units + 64 < cLine) : OD X (compareOp .Eq) eqD := by
  refine OD.weak (op_eqD hu) ?_
  rintro x y H Q ⟨G, d, e, r, eg, r1, r2, h, q⟩
  unfold eqD at h
  split at h
  · rename_i hh
    cases h
    obtain ⟨s1, n1⟩ := okEq_and hh.1
    obtain ⟨s2, n2⟩ := okEq_and hh.2
    exact ⟨d, e, RD.dp d x n1 (r1.mono eg), RD.dp e y n2 (r2.mono eg), s1, s2, q _ H G (Go.refl eg) (.bl _)⟩
  · cases h
theorem od_ne (hu : X.A.units + 64 < cLine) : OD X (compareOp .NotEq) neD := by
  refine OD.weak (op_neD hu) ?_
  rintro x y H Q ⟨G, d, e, r, eg, r1, r2, h, q⟩
  unfold neD at h
  split at h
  · rename_i hh
    cases h
    obtain ⟨s1, n1⟩ := okEq_and hh.1
    obtain ⟨s2, n2⟩ := okEq_and hh.2
    exact ⟨d, e, RD.dp d x n1 (r1.mono eg), RD.dp e y n2 (r2.mono eg), s1, s2, q _ H G (Go.refl eg) (.bl _)⟩
  · cases h
/-- x in t, flat things -/
def flatD : PyData → Bool
  | .int _ => true
  | .str _ => true
  | .none => true
  | _ => false
def eqF : PyData → PyData → Bool
  | .int i, .int j => i == j
  | .str i, .str j => decide (i = j)
  | .none, .none => true
  | _, _ => false
theorem flat_rd {K : PySem.W.Frag} {G : Hp} {v : V} {d : PyData} (f : flatD d = true) (r : RD K G v d) : flatV v = true := by
  cases r <;> first | rfl | simp [flatD] at f
theorem eqF_rd {K : PySem.W.Frag} {G : Hp} {v u : V} {d e : PyData} (f : flatD d = true) (f' : flatD e = true) (r : RD K G v d) (r' : RD K G u e) : eqV v u = eqF d e := by
  cases r <;> first | (simp [flatD] at f; done) | skip
  all_goals (cases r' <;> first | (simp [flatD] at f'; done) | rfl | simp [eqV, eqF])
theorem flats_rd {K : PySem.W.Frag} {G : Hp} : ∀ {vs : List V} {ds : List PyData}, ds.all flatD = true → RDs K G vs ds → vs.all flatV = true
  | _, _, _, .nil => rfl
  | _, _, h, .cons r t => by
    rw [List.all_cons, Bool.and_eq_true] at h ⊢
    exact ⟨flat_rd h.1 r, flats_rd h.2 t⟩
theorem inV_rd {K : PySem.W.Frag} {G : Hp} {v : V} {d : PyData} (f : flatD d = true) (r : RD K G v d) : ∀ {vs : List V} {ds : List PyData}, ds.all flatD = true → RDs K G vs ds → inV v vs = ds.any fun z => eqF z d
  | _, _, _, .nil => rfl
  | _, _, h, .cons q t => by
    rw [List.all_cons, Bool.and_eq_true] at h
    show (eqV _ v || inV v _) = _
    rw [eqF_rd h.1 f q r, inV_rd f r h.2 t]
    rfl
def inD (neg : Bool) : D2 := fun d e =>
  match e with
  | .list ds => if flatD d = true ∧ ds.all flatD = true then some (.bool (if neg then !(ds.any fun z => eqF z d) else ds.any fun z => eqF z d)) else none
  | .tuple ds => if flatD d = true ∧ ds.all flatD = true then some (.bool (if neg then !(ds.any fun z => eqF z d) else ds.any fun z => eqF z d)) else none
  | _ => none
theorem in_gen {f : Value → Value → Sem Value} {neg : Bool} (h : OpR X f (rIn X.K neg)) : OD X f (inD neg) := by
  refine OD.weak h ?_
  rintro x y H Q ⟨G, d, e, r, eg, r1, r2, h, q⟩
  unfold inD at h
  split at h
  · split at h
    · rename_i hh
      cases h
      cases r2 with
      | lst s2 t2 =>
        refine ⟨_, _, rfl, .inl (ex_l eg s2), flat_rd hh.1 r1, flats_rd hh.2 t2, ?_⟩
        rw [inV_rd hh.1 r1 hh.2 t2]
        exact q _ H G (Go.refl eg) (.bl _)
    · cases h
  · split at h
    · rename_i hh
      cases h
      cases r2 with
      | tup s2 t2 =>
        refine ⟨_, _, rfl, .inr (ex_t eg s2), flat_rd hh.1 r1, flats_rd hh.2 t2, ?_⟩
        rw [inV_rd hh.1 r1 hh.2 t2]
        exact q _ H G (Go.refl eg) (.bl _)
    · cases h
  · cases h
theorem od_in : OD X (compareOp .In) (inD false) := in_gen op_in_seq
theorem od_notIn : OD X (compareOp .NotIn) (inD true) := in_gen op_notIn_seq
/-- x in a text -/
def inS : D2
  | .str i, .str j => some (.bool (!(Builtin.Str.occurrences j i 0 j.length 1).isEmpty))
  | _, _ => none
theorem od_inS : OD X (compareOp .In) inS := by
  refine OD.weak op_in_str ?_
  rintro x y H Q ⟨G, d, e, r, eg, r1, r2, h, q⟩
  unfold inS at h
  split at h
  · cases h; cases r1; cases r2
    exact ⟨_, _, rfl, rfl, q _ H G (Go.refl eg) (.bl _)⟩
  · cases h
/-- is None -/
def isNoneD : PyData → Bool
  | .none => true
  | _ => false
def isN : D2 := fun d e => match e with
  | .none => some (.bool (isNoneD d))
  | _ => none
def notN : D2 := fun d e => match e with
  | .none => some (.bool (!isNoneD d))
  | _ => none
theorem rd_none {K : PySem.W.Frag} {G : Hp} {v : V} {d : PyData} (r : RD K G v d) : decide (v = .non) = isNoneD d := by
  cases r <;> simp [isNoneD]
theorem od_isN : OD X (compareOp .Is) isN := by
  refine OD.weak op_isN ?_
  rintro x y H Q ⟨G, d, e, r, eg, r1, r2, h, q⟩
  unfold isN at h
  split at h
  · cases h; cases r2
    refine ⟨rfl, ?_⟩
    rw [rd_none r1]
    exact q _ H G (Go.refl eg) (.bl _)
  · cases h
theorem od_notN : OD X (compareOp .IsNot) notN := by
  refine OD.weak op_notN ?_
  rintro x y H Q ⟨G, d, e, r, eg, r1, r2, h, q⟩
  unfold notN at h
  split at h
  · cases h; cases r2
    refine ⟨rfl, ?_⟩
    rw [rd_none r1]
    exact q _ H G (Go.refl eg) (.bl _)
  · cases h

/-! ### subscripts -/
def ixD : D2
  | .list ds, .int i => atI ds i
  | .tuple ds, .int i => atI ds i
  | .str z, .int i => if z.length ≤ 100000 then (atI z.cps.toList i).map fun c => .str ⟨#[c]⟩ else none
  | _, _ => none
theorem at_rd {K : PySem.W.Frag} {G : Hp} {vs : List V} {ds : List PyData} (r : RDs K G vs ds) {i : Int} {d : PyData} (h : atI ds i = some d) : ∃ v, atI vs i = some v ∧ RD K G v d := by
  unfold atI at h ⊢
  rw [r.length]
  obtain ⟨j, h1, h2⟩ := Option.bind_eq_some_iff.mp h
  obtain ⟨v, h3, h4⟩ := r.get j d h2
  rw [h1]
  exact ⟨v, h3, h4⟩
theorem pd_ix (ha : PD X a F1) (hb : PD X b F2) (hs : PlainIx b := by exact fun _ _ => rfl) : PD X (.Subscript a b pos) (b2 ixD F1 F2) := by
  refine weakE (pe_ix (ix_seq) ha hb hs) fun σ H Q h => ?_
  have h2 := two_in h
  obtain ⟨G, ρ, x, eg, er, h1, k⟩ := h2
  refine ⟨G, ρ, x, eg, er, h1, fun v H1 G1 g1 r1 => ?_⟩
  obtain ⟨G', ρ', y, eg', er', h1', k'⟩ := k v H1 G1 g1 r1
  refine ⟨G', ρ', y, eg', er', h1', fun u H2 G2 g2 r2 => ?_⟩
  obtain ⟨G3, d, e, r, eg3, r3, r4, hx, q⟩ := k' u H2 G2 g2 r2
  unfold ixD at hx
  split at hx
  · cases r3 with
    | lst s1 t1 =>
      cases r4
      obtain ⟨w, q1, q2⟩ := at_rd t1 hx
      exact .inl ⟨_, _, _, w, rfl, rfl, ex_l eg3 s1, q1, q _ H2 G3 (Go.refl eg3) q2⟩
  · cases r3 with
    | tup s1 t1 =>
      cases r4
      obtain ⟨w, q1, q2⟩ := at_rd t1 hx
      exact .inr (.inl ⟨_, _, _, w, rfl, rfl, ex_t eg3 s1, q1, q _ H2 G3 (Go.refl eg3) q2⟩)
  · split at hx
    · obtain ⟨c, hc, rfl⟩ := Option.map_eq_some_iff.mp hx
      cases r3; cases r4
      exact .inr (.inr ⟨_, _, c, rfl, rfl, sz_of (by assumption), hc, q _ H2 G3 (Go.refl eg3) (.str _)⟩)
    · cases hx
  · cases hx
/-! ### slices -/
def tDO (K : PySem.W.Frag) (O : DE → Option (Option Int)) : TO := fun σ H Q => ∃ G ρ o, Ex G H ∧ EnvR K G σ ρ ∧ O ρ = some o ∧ ∀ H' G', Go G H G' H' → Q o H'
abbrev PDO (X : Cx) (e : Option Expr) (O : DE → Option (Option Int)) : Prop := PO X e (tDO X.K O)
theorem weakO {e : Option Expr} {t t' : TO} (h : PO X e t) (w : ∀ σ H Q, t' σ H Q → t σ H Q) : PO X e t' := by
  obtain ⟨h⟩ := h
  exact ⟨fun pins s σ H Q I q => h pins s σ H Q I (w σ H Q q)⟩
theorem pdo_none : PDO X none (fun _ => some none) := weakO po_none fun σ H Q => by
  rintro ⟨G, ρ, o, eg, er, h, q⟩
  cases h
  exact q H G (Go.refl eg)
def asI : PyData → Option Int
  | .int i => some i
  | _ => none
theorem asI_some {d : PyData} {b : Int} (h : asI d = some b) : d = .int b := by
  cases d <;> simp [asI] at h
  rw [h]
theorem pdo_some (h : PD X e F) : PDO X (some e) (fun ρ => ((F ρ).bind asI).map some) := weakO (po_some h) fun σ H Q => by
  rintro ⟨G, ρ, o, eg, er, h, q⟩
  have h : ((F ρ).bind asI).map some = some o := h
  obtain ⟨i, h0, e0⟩ := Option.map_eq_some_iff.mp h
  subst e0
  obtain ⟨d, h1, h2⟩ := Option.bind_eq_some_iff.mp h0
  rw [asI_some h2] at h1
  refine ⟨G, ρ, _, eg, er, h1, fun v H1 G1 g1 r1 => ?_⟩
  cases r1
  exact ⟨i, rfl, q H1 G1 g1⟩
def cutDs (ds : List PyData) (lo hi : Option Int) : List PyData := (ds.drop (HT.sIx ds.length 0 lo)).take (HT.sIx ds.length ds.length hi - HT.sIx ds.length 0 lo)
theorem cut_rd {K : PySem.W.Frag} {G : Hp} {vs : List V} {ds : List PyData} (r : RDs K G vs ds) (lo hi : Option Int) : RDs K G (cutV vs lo hi) (cutDs ds lo hi) := by
  unfold cutV cutDs
  rw [r.length]
  exact (r.drop _).take _
theorem cut_all (ds : List PyData) (lo hi : Option Int) (h : HT.sIx ds.length 0 lo = 0 ∧ HT.sIx ds.length ds.length hi = ds.length) : cutDs ds lo hi = ds := by
  unfold cutDs
  rw [h.1, h.2]
  simp
def slT (F : DF) (O1 O2 : DE → Option (Option Int)) : DF := fun ρ => (F ρ).bind fun d => (O1 ρ).bind fun lo => (O2 ρ).bind fun hi => match d with
  | .tuple ds => some (.tuple (cutDs ds lo hi))
  | _ => none
theorem pd_slT {lo hi : Option Expr} {O1 O2 : DE → Option (Option Int)} {p2 : Pos} (ha : PD X a F) (h1 : PDO X lo O1) (h2 : PDO X hi O2) : PD X (.Subscript a (.Slice lo hi none p2) pos) (slT F O1 O2) := weakE (pe_slice sl_tupA ha h1 h2) fun σ H Q => by
  rintro ⟨G, ρ, d, eg, er, h, q⟩
  obtain ⟨x, h1, h⟩ := Option.bind_eq_some_iff.mp h
  obtain ⟨l, h2, h⟩ := Option.bind_eq_some_iff.mp h
  obtain ⟨u, h3, h⟩ := Option.bind_eq_some_iff.mp h
  refine ⟨G, ρ, x, eg, er, h1, fun v H1 G1 g1 r1 => ⟨G1, ρ, l, g1.gh, er.mono g1.gg, h2, fun H2 G2 g2 => ⟨G2, ρ, u, g2.gh, er.mono (g1.trans g2).gg, h3, fun H3 G3 g3 => ?_⟩⟩⟩
  split at h
  · cases h
    cases r1 with
    | tup s1 t1 =>
      have e3 := (g2.trans g3)
      refine ⟨_, _, rfl, ex_t (e3.gg.trans e3.gh) s1, fun hw => ?_, fun hw p hp => ?_⟩
      · refine q _ H3 G3 (g1.trans e3) ?_
        rw [cut_all _ _ _ (by rw [t1.length] at hw; exact hw)]
        exact .tup (ex_t e3.gg s1) (t1.mono e3.gg)
      · exact q _ _ _ ((g1.trans e3).trans (Go.new e3.gh hp)) (rd_newT (fresh_back e3.gh hp) (cut_rd (t1.mono e3.gg) l u))
  · cases h
def slL (F : DF) (O1 O2 : DE → Option (Option Int)) : DF := fun ρ => (F ρ).bind fun d => (O1 ρ).bind fun lo => (O2 ρ).bind fun hi => match d with
  | .list ds => some (.list (cutDs ds lo hi))
  | _ => none
theorem pd_slL {lo hi : Option Expr} {O1 O2 : DE → Option (Option Int)} {p2 : Pos} (ha : PD X a F) (h1 : PDO X lo O1) (h2 : PDO X hi O2) : PD X (.Subscript a (.Slice lo hi none p2) pos) (slL F O1 O2) := weakE (pe_slice sl_list ha h1 h2) fun σ H Q => by
  rintro ⟨G, ρ, d, eg, er, h, q⟩
  obtain ⟨x, h1, h⟩ := Option.bind_eq_some_iff.mp h
  obtain ⟨l, h2, h⟩ := Option.bind_eq_some_iff.mp h
  obtain ⟨u, h3, h⟩ := Option.bind_eq_some_iff.mp h
  refine ⟨G, ρ, x, eg, er, h1, fun v H1 G1 g1 r1 => ⟨G1, ρ, l, g1.gh, er.mono g1.gg, h2, fun H2 G2 g2 => ⟨G2, ρ, u, g2.gh, er.mono (g1.trans g2).gg, h3, fun H3 G3 g3 => ?_⟩⟩⟩
  split at h
  · cases h
    cases r1 with
    | lst s1 t1 =>
      have e3 := (g2.trans g3)
      refine ⟨_, _, rfl, ex_l (e3.gg.trans e3.gh) s1, fun p hp => ?_⟩
      exact q _ _ _ ((g1.trans e3).trans (Go.new e3.gh hp)) (rd_newL (fresh_back e3.gh hp) (cut_rd (t1.mono e3.gg) l u))
  · cases h
end
end DL

set_option Elab.async false
set_option linter.all false
set_option maxRecDepth 100000
set_option maxHeartbeats 4000000
namespace DL
open PySem PySem.Spec PyProof.Rows L2 Evl
section
variable {X : Cx} {a b c e : Expr} {es rest : List Expr} {F F1 F2 F3 : DF} {Fs : DE → Option (List PyData)} {T T1 T2 : DE → Option Bool} {pos : Pos}
/-! ### calls by values -/
abbrev DC := List PyData → Option PyData
def rDC (K : PySem.W.Frag) (g : DC) : List V → Hp → VK → Prop := fun xs H Q => ∃ G ds d, Ex G H ∧ RDs K G xs ds ∧ g ds = some d ∧ DQ K G H d Q
def CD (X : Cx) (f : Value) (g : DC) : Prop := CallR X f (rDC X.K g)
theorem CD.weak {f : Value} {r : List V → Hp → VK → Prop} {g : DC} (h : CallR X f r) (w : ∀ xs H Q, rDC X.K g xs H Q → r xs H Q) : CD X f g := fun pins s σ H xs us Q I r q => h pins s σ H xs us Q I r (w xs H Q q)
theorem args_in {K : PySem.W.Frag} {g : DC} {σ : L2.St} {H : Hp} {Q : VK} (h : tD K (fun ρ => (Fs ρ).bind g) σ H Q) : tDs K Fs σ H (fun vs H1 => rDC K g vs H1 Q) := by
  obtain ⟨G, ρ, d, eg, er, hf, q⟩ := h
  obtain ⟨ds, h1, h2⟩ := Option.bind_eq_some_iff.mp hf
  exact ⟨G, ρ, ds, eg, er, h1, fun vs H1 G1 g1 r1 => ⟨G1, ds, d, g1.gh, r1, h2, fun v H2 G2 g2 r2 => q v H2 G2 (g1.trans g2) r2⟩⟩
theorem pd_callB {g : DC} {id : String} {x : Str} {p : Pos} (hc : CD X (.builtin id) g) (hg : Gl X x) (hm : X.mg x = none) (hv : bootBuiltins x = some (.builtin id)) (ha : PDs X (e :: es) Fs) (hn : x ≠ "__name__" := by decide) (hdb : (x == ("__debug__" : Str)) = false := by decide)
    (hs : starEach (e :: es) X.env = (false, eval e X.env) :: starEach es X.env := by rfl) (hpl : (backTo pos (starEach es X.env)).any (·.1) = false := by rfl) : PD X (.Call (.Name x p) (e :: es) [] pos) (fun ρ => (Fs ρ).bind g) :=
  weakE (pe_callB hc hg hm hv ha hn hdb hs hpl) fun _ _ _ h => args_in h
theorem pd_callTy {g : DC} {T : String} {x : Str} {p : Pos} (hc : CD X (.type T) g) (hg : Gl X x) (hm : X.mg x = none) (hv : bootBuiltins x = some (.type T)) (ha : PDs X (e :: es) Fs) (hn : x ≠ "__name__" := by decide) (hdb : (x == ("__debug__" : Str)) = false := by decide)
    (hs : starEach (e :: es) X.env = (false, eval e X.env) :: starEach es X.env := by rfl) (hpl : (backTo pos (starEach es X.env)).any (·.1) = false := by rfl) : PD X (.Call (.Name x p) (e :: es) [] pos) (fun ρ => (Fs ρ).bind g) :=
  weakE (pe_callTy hc hg hm hv ha hn hdb hs hpl) fun _ _ _ h => args_in h
def lenD : DC
  | [.list ds] => some (.int ds.length)
  | [.tuple ds] => some (.int ds.length)
  | [.str z] => if z.length ≤ 100000 then some (.int z.length) else none
  | _ => none
theorem RDs.one {K : PySem.W.Frag} {G : Hp} {vs : List V} {d : PyData} (r : RDs K G vs [d]) : ∃ v, vs = [v] ∧ RD K G v d := by
  cases r with
  | cons h t => cases t; exact ⟨_, rfl, h⟩
theorem cd_len : CD X (.builtin "len") lenD := by
  refine CD.weak (call_len_seq.or call_len_str) ?_
  rintro xs H Q ⟨G, ds, d, eg, r, h, q⟩
  unfold lenD at h
  split at h
  · obtain ⟨v, rfl, r1⟩ := r.one
    cases h
    cases r1 with
    | lst s t =>
      refine .inl ⟨_, _, rfl, .inl (ex_l eg s), ?_⟩
      rw [t.length]
      exact q _ H G (Go.refl eg) (.int _)
  · obtain ⟨v, rfl, r1⟩ := r.one
    cases h
    cases r1 with
    | tup s t =>
      refine .inl ⟨_, _, rfl, .inr (ex_t eg s), ?_⟩
      rw [t.length]
      exact q _ H G (Go.refl eg) (.int _)
  · split at h
    · obtain ⟨v, rfl, r1⟩ := r.one
      cases h
      cases r1
      exact .inr ⟨_, rfl, sz_of (by assumption), q _ H G (Go.refl eg) (.int _)⟩
    · cases h
  · cases h
def tupleD : DC
  | [.list ds] => some (.tuple ds)
  | [.tuple ds] => some (.tuple ds)
  | _ => none
theorem cd_tuple : CD X (.type "tuple") tupleD := by
  refine CD.weak call_tuple_of ?_
  rintro xs H Q ⟨G, ds, d, eg, r, h, q⟩
  unfold tupleD at h
  split at h
  · obtain ⟨v, rfl, r1⟩ := r.one
    cases h
    cases r1 with
    | lst s t => exact ⟨_, _, rfl, .inl ⟨ex_l eg s, fun l hl => q _ _ _ (Go.new eg hl) (rd_newT (fresh_back eg hl) t)⟩⟩
  · obtain ⟨v, rfl, r1⟩ := r.one
    cases h
    cases r1 with
    | tup s t => exact ⟨_, _, rfl, .inr ⟨ex_t eg s, q _ H G (Go.refl eg) (.tup s t)⟩⟩
  · cases h
def bools : List PyData → Option (List Bool)
  | [] => some []
  | d :: ds => (asB d).bind fun b => (bools ds).map (b :: ·)
theorem bools_rd {K : PySem.W.Frag} {G : Hp} : ∀ {vs : List V} {ds : List PyData} {bs : List Bool}, RDs K G vs ds → bools ds = some bs → vs = bs.map V.bl
  | _, _, _, .nil, h => by cases h; rfl
  | _, _, _, .cons r t, h => by
    obtain ⟨b, h1, h2⟩ := Option.bind_eq_some_iff.mp h
    obtain ⟨bs, h3, rfl⟩ := Option.map_eq_some_iff.mp h2
    rw [asB_some h1] at r
    cases r
    rw [bools_rd t h3]
    rfl
def allD : DC
  | [.list ds] => (bools ds).map fun bs => .bool (bs.all id)
  | _ => none
theorem cd_all (hc : X.calm = true) : CD X (.builtin "all") allD := by
  refine CD.weak (cr_all hc) ?_
  rintro xs H Q ⟨G, ds, d, eg, r, h, q⟩
  unfold allD at h
  split at h
  · obtain ⟨v, rfl, r1⟩ := r.one
    obtain ⟨bs, h1, rfl⟩ := Option.map_eq_some_iff.mp h
    cases r1 with
    | lst s t =>
      rw [bools_rd t h1] at s
      exact ⟨_, bs, rfl, ex_l eg s, q _ H G (Go.refl eg) (.bl _)⟩
  · cases h
def intsD : List PyData → Option (List Int)
  | [] => some []
  | d :: ds => (asI d).bind fun b => (intsD ds).map (b :: ·)
theorem ints_rd {K : PySem.W.Frag} {G : Hp} : ∀ {vs : List V} {ds : List PyData} {bs : List Int}, RDs K G vs ds → intsD ds = some bs → vs = bs.map V.int
  | _, _, _, .nil, h => by cases h; rfl
  | _, _, _, .cons r t, h => by
    obtain ⟨b, h1, h2⟩ := Option.bind_eq_some_iff.mp h
    obtain ⟨bs, h3, rfl⟩ := Option.map_eq_some_iff.mp h2
    rw [asI_some h1] at r
    cases r
    rw [ints_rd t h3]
    rfl
def sumD : DC
  | [.list ds] => (intsD ds).map fun bs => .int bs.sum
  | _ => none
theorem cd_sum (hc : X.calm = true) : CD X (.builtin "sum") sumD := by
  refine CD.weak (cr_sum hc) ?_
  rintro xs H Q ⟨G, ds, d, eg, r, h, q⟩
  unfold sumD at h
  split at h
  · obtain ⟨v, rfl, r1⟩ := r.one
    obtain ⟨bs, h1, rfl⟩ := Option.map_eq_some_iff.mp h
    cases r1 with
    | lst s t =>
      rw [ints_rd t h1] at s
      exact ⟨_, bs, rfl, ex_l eg s, q _ H G (Go.refl eg) (.int _)⟩
  · cases h
def strD : DC
  | [.int i] => if i.natAbs.log2 < 1920 then some (.str (toString i)) else none
  | [.str z] => some (.str z)
  | _ => none
theorem cd_str : CD X (.type "str") strD := by
  refine CD.weak (call_str_int.or SkE.call_str_str) ?_
  rintro xs H Q ⟨G, ds, d, eg, r, h, q⟩
  unfold strD at h
  split at h
  · split at h
    · obtain ⟨v, rfl, r1⟩ := r.one
      cases h
      cases r1
      exact .inl ⟨_, rfl, by assumption, q _ H G (Go.refl eg) (.str _)⟩
    · cases h
  · obtain ⟨v, rfl, r1⟩ := r.one
    cases h
    cases r1
    exact .inr ⟨_, rfl, q _ H G (Go.refl eg) (.str _)⟩
  · cases h
/-! isinstance -/
def tyD : PyData → Option String
  | .none => some "NoneType"
  | .bool _ => some "bool"
  | .int _ => some "int"
  | .str _ => some "str"
  | .tuple _ => some "tuple"
  | _ => none
theorem tyX_rd {K : PySem.W.Frag} {G H : Hp} {v : V} {d : PyData} {t : String} (eg : Ex G H) (r : RD K G v d) (h : tyD d = some t) : TyX K H v (.type t) := by
  cases r with
  | non => cases h; exact .base .non
  | bl b => cases h; exact .base (.bl b)
  | int b => cases h; exact .base (.int b)
  | str b => cases h; exact .base (.str b)
  | lst s t => cases h
  | tup s t =>
    cases h
    rcases ex_t eg s with (z | ⟨o, z⟩) | ⟨o, its, n, h1, h2, _⟩
    · exact .base (.tup z)
    · exact .fTuple z
    · exact .kTuple h1 h2
  | ins _ _ => cases h
  | opq _ => cases h
def isiD (n : String) (d : PyData) : Option PyData := (tyD d).bind fun t => (kitB t n).map .bool
theorem pd_isi {n : String} {x y : Str} {p p2 : Pos} (hg : Gl X x) (hm : X.mg x = none) (hv : bootBuiltins x = some (.builtin "isinstance")) (hg2 : Gl X y) (hm2 : X.mg y = none) (hv2 : bootBuiltins y = some (.type n)) (ha : PD X a F)
    (hn : x ≠ "__name__" := by decide) (hdb : (x == ("__debug__" : Str)) = false := by decide) (hn2 : y ≠ "__name__" := by decide) (hdb2 : (y == ("__debug__" : Str)) = false := by decide)
    (hs : starEach [a, .Name y p2] X.env = (false, eval a X.env) :: starEach [.Name y p2] X.env := by rfl) (hpl : (backTo pos (starEach [.Name y p2] X.env)).any (·.1) = false := by rfl) :
    PD X (.Call (.Name x p) [a, .Name y p2] [] pos) (fun ρ => (F ρ).bind (isiD n)) := by
  refine weakE (pe_callB call_isi hg hm hv (pa_cons ha (pa_cons (pe_bltn (v := .ty n) hg2 hm2 hv2 rfl hn2 hdb2) pa_nil) hs) hn hdb hs hpl) fun σ H Q => ?_
  rintro ⟨G, ρ, d, eg, er, hf, q⟩
  obtain ⟨x, h1, h2⟩ := Option.bind_eq_some_iff.mp hf
  obtain ⟨t, h3, h4⟩ := Option.bind_eq_some_iff.mp h2
  obtain ⟨b, h5, rfl⟩ := Option.map_eq_some_iff.mp h4
  exact ⟨G, ρ, x, eg, er, h1, fun v H1 G1 g1 r1 => ⟨v, .ty n, .type t, .type n, b, rfl, .ty n, tyX_rd g1.gh r1 h3, kit_ty h5, q _ H1 G1 g1 (.bl b)⟩⟩
def isi2D (n m : String) (d : PyData) : Option PyData := (tyD d).bind fun t => (kitB t n).bind fun b1 => if b1 = true then some (.bool true) else (kitB t m).map .bool
theorem pd_isi2 {n m : String} {x y z : Str} {k : Nat} {p p2 p3 p4 : Pos} (hg : Gl X x) (hm : X.mg x = none) (hv : bootBuiltins x = some (.builtin "isinstance")) (hg2 : Gl X y) (hm2 : X.mg y = none) (hv2 : bootBuiltins y = some (.type n))
    (hg3 : Gl X z) (hm3 : X.mg z = none) (hv3 : bootBuiltins z = some (.type m)) (ha : PD X a F)
    (hn : x ≠ "__name__" := by decide) (hdb : (x == ("__debug__" : Str)) = false := by decide) (hn2 : y ≠ "__name__" := by decide) (hdb2 : (y == ("__debug__" : Str)) = false := by decide) (hn3 : z ≠ "__name__" := by decide) (hdb3 : (z == ("__debug__" : Str)) = false := by decide)
    (hs : starEach [a, .Tuple [.Name y p2, .Name z p3] k p4] X.env = (false, eval a X.env) :: starEach [.Tuple [.Name y p2, .Name z p3] k p4] X.env := by rfl) (hpl : (backTo pos (starEach [.Tuple [.Name y p2, .Name z p3] k p4] X.env)).any (·.1) = false := by rfl) :
    PD X (.Call (.Name x p) [a, .Tuple [.Name y p2, .Name z p3] k p4] [] pos) (fun ρ => (F ρ).bind (isi2D n m)) := by
  refine weakE (pe_callB call_isiT hg hm hv (pa_cons ha (pa_cons (pe_tup (pa_cons (pe_bltn (v := .ty n) hg2 hm2 hv2 rfl hn2 hdb2) (pa_cons (pe_bltn (v := .ty m) hg3 hm3 hv3 rfl hn3 hdb3) pa_nil))) pa_nil) hs) hn hdb hs hpl) fun σ H Q => ?_
  rintro ⟨G, ρ, d, eg, er, hf, q⟩
  obtain ⟨x, h1, h2⟩ := Option.bind_eq_some_iff.mp hf
  obtain ⟨t, h3, h4⟩ := Option.bind_eq_some_iff.mp h2
  obtain ⟨b1, h5, h6⟩ := Option.bind_eq_some_iff.mp h4
  refine ⟨G, ρ, x, eg, er, h1, fun v H1 G1 g1 r1 => ⟨by show 2 ≤ sizeLine; decide, fun tp hp => ?_⟩⟩
  have go := g1.trans (Go.own (o := .tup [.ty n, .ty m]) g1.gh hp)
  have ty := tyX_rd go.gh r1 h3
  have key : ∀ b, PySem.W.kitAny X.K (.type t) [.type n, .type m] = some b → d = .bool b → rIsiT X.K [v, .ref tp] (upd H1 tp (.tup [.ty n, .ty m])) Q := fun b hb hd => by
    subst hd
    exact ⟨v, tp, [.ty n, .ty m], .type t, [.type n, .type m], b, rfl, upd_same, .cons (.ty n) (.cons (.ty m) .nil), ty, hb, q _ _ _ go (.bl b)⟩
  cases b1 with
  | true =>
    rw [if_pos rfl] at h6
    cases h6
    exact key true (kitAny_cons (kit_ty h5) (fun z => nomatch z) fun _ => rfl) rfl
  | false =>
    rw [if_neg Bool.false_ne_true] at h6
    obtain ⟨b2, h7, rfl⟩ := Option.map_eq_some_iff.mp h6
    exact key b2 (kitAny_cons (kit_ty h5) (fun _ => kitAny_cons (kit_ty h7) (fun z => by rw [z]; exact kitAny_nil) id) fun z => nomatch z) rfl

/-! ### calls of the text's defs -/
def spD (K : PySem.W.Frag) (g : DC) : Sp := fun vs H Q _ => ∃ G ds d, Ex G H ∧ RDs K G vs ds ∧ g ds = some d ∧ DQ K G H d Q
theorem pd_call {k f : Nat} {fd : FuncData} {ps : List Str} {g : DC} {x : Str} {p : Pos} (Fk : FnOk X.prog X.w X.K X.mg X.base CX0 k f fd ps (spD X.K g)) (hr : Room k X.A) (hg : Gl X x) (hm : X.mg x = some (.ref f)) (hk : PySem.W.keepIn X.K (.ref f) = true)
    (hb : Binds X.K fd ps []) (ha : PDs X (e :: es) Fs) (hdb : (x == ("__debug__" : Str)) = false := by decide)
    (he : starEach (e :: es) X.env = (false, eval e X.env) :: starEach es X.env := by rfl) (hpl : (backTo pos (starEach es X.env)).any (·.1) = false := by rfl) :
    PD X (.Call (.Name x p) (e :: es) [] pos) (fun ρ => (Fs ρ).bind g) := by
  refine weakE (pe_call Fk hr hg hm hk hb .nil pass0 ha hdb he hpl) fun σ H Q => ?_
  rintro ⟨G, ρ, d, eg, er, hf, q⟩
  obtain ⟨ds, h1, h2⟩ := Option.bind_eq_some_iff.mp hf
  refine ⟨G, ρ, ds, eg, er, h1, fun vs H1 G1 g1 r1 => ?_⟩
  show spD X.K g (vs ++ []) H1 Q E0
  rw [List.append_nil]
  exact ⟨G1, ds, d, g1.gh, r1, h2, fun v H2 G2 g2 r2 => q v H2 G2 (g1.trans g2) r2⟩
/-! ### instances -/
def attrD (C : Addr) (f : Str) : PyData → Option PyData
  | .dict ((.none, .int c) :: kvs) => if c = (C : Nat) then (kvs.find? fun p => match p.1 with | .str x => decide (x = f) | _ => false).map (·.2) else none
  | _ => none
theorem attr_rd {K : PySem.W.Frag} {G : Hp} {f : Str} : ∀ {fs : List (Str × V)} {kvs : List (PyData × PyData)} {d : PyData}, RDf K G fs kvs → (kvs.find? fun p => match p.1 with | .str x => decide (x = f) | _ => false).map (·.2) = some d →
    ∃ v, fs.lookup f = some v ∧ RD K G v d
  | _, _, _, .nil, h => by cases h
  | _, _, d, .cons (f := x) (v := v) (d := d') r t, h => by
    by_cases e : x = f
    · subst e
      have h : some d' = some d := by simpa using h
      cases h
      exact ⟨v, by simp, r⟩
    · have h2 : _ := attr_rd (f := f) t (d := d) (by simpa [List.find?, e] using h)
      obtain ⟨w, h3, h4⟩ := h2
      refine ⟨w, ?_, h4⟩
      rw [List.lookup_cons]
      have : (f == x) = false := by simpa using fun z => e z.symm
      rw [this]
      exact h3
theorem pd_fld {C : Addr} {f : Str} (cl : Cls X.K C) (na : NoAttr X.K C f) (ha : PD X a F) (hb : attributeBase a f X.env (eval a X.env) = eval a X.env := by rfl) : PD X (.Attribute a f pos) (fun ρ => (F ρ).bind (attrD C f)) := by
  refine weakE (pe_fld ha hb) fun σ H Q => ?_
  rintro ⟨G, ρ, d, eg, er, hf, q⟩
  obtain ⟨x, h1, h2⟩ := Option.bind_eq_some_iff.mp hf
  refine ⟨G, ρ, x, eg, er, h1, fun v H1 G1 g1 r1 => ?_⟩
  unfold attrD at h2
  split at h2
  · split at h2
    · rename_i hc
      cases r1 with
      | ins hi hfl =>
        rename_i C' dx fs
        have e : C' = C := Int.ofNat.inj hc
        subst e
        obtain ⟨w, h3, h4⟩ := attr_rd hfl h2
        exact ⟨_, _, _, _, w, rfl, g1.gh _ _ hi, cl, na, h3, q w H1 G1 g1 h4⟩
    · cases h2
  · cases h2
/-- len of an own instance by its __len__ -/
theorem call_lenI {C f k : Nat} {fd : FuncData} {sp : Sp} {ps : List Str} (M : Meth X.K C "__len__" f) (Fk : FnOk X.prog X.w X.K X.mg X.base CX0 k f fd ps sp) (hr : Room (k + 1) X.A) (hb : Binds X.K fd ps []) :
    CallR X (.builtin "len") (fun xs H Q => ∃ a dx fs, xs = [.ref a] ∧ H a = some (.ins C dx fs) ∧ sp [.ref a] H (fun v H' => ∃ n : Int, v = .int n ∧ 0 ≤ n ∧ n < 2 ^ 63 ∧ Q (.int n) H') E0) := by
  intro pins s σ H xs us Q I r h
  obtain ⟨a, dx, fs, rfl, ha, q⟩ := h
  have eu := Vals.ref1 r
  subst eu
  obtain ⟨mA, O, _, _, _, _⟩ := ins_get I.hok ha
  obtain ⟨od, IA, _⟩ := O.look
  obtain ⟨m, Fr⟩ := I.fr
  refine PySem.W.len_K Fr I.ok.mod.kin IA M.at_ M.fn ?_
  refine wpAny_call (codeAny_mono (Fk.run X.A.in1 X.stack s H ⟨[.ref a], []⟩ ([.ref a] ++ []) [.ref a] _ E0 hr.in1 I.env0.in1 (hb s [.ref a] I.kIn (Fk.len _ _ _ _ q).symm.symm) (by exact .cons rfl .nil) q) fun r s' hq => ?_)
  cases r with
  | error e => exact hq.elim
  | ok fl =>
    cases fl with
    | ret u =>
      obtain ⟨v, H', I3, rv, n, rfl, h0, h1, q3⟩ := I.after hq
      obtain ⟨t, rfl⟩ := rv
      exact ⟨⟨h0, h1⟩, ⟨.int n, H', I3.tok _, ⟨_, rfl⟩, q3⟩⟩
    | next => exact False.elim hq
    | brk => exact False.elim hq
    | cont => exact False.elim hq
def lenID (C : Addr) (g : DC) : DC
  | [.dict ((.none, .int c) :: kvs)] => if c = (C : Nat) then (g [.dict ((.none, .int c) :: kvs)]).bind fun d => (asI d).bind fun n => if 0 ≤ n ∧ n < 100000 then some (.int n) else none else none
  | _ => none
theorem cd_lenI {C f k : Nat} {fd : FuncData} {g : DC} {ps : List Str} (M : Meth X.K C "__len__" f) (Fk : FnOk X.prog X.w X.K X.mg X.base CX0 k f fd ps (spD X.K g)) (hr : Room (k + 1) X.A) (hb : Binds X.K fd ps []) : CD X (.builtin "len") (lenID C g) := by
  refine CD.weak (call_lenI M Fk hr hb) ?_
  rintro xs H Q ⟨G, ds, d, eg, r, h, q⟩
  unfold lenID at h
  split at h
  · split at h
    · rename_i hc
      obtain ⟨v, rfl, r1⟩ := r.one
      obtain ⟨d1, h1, h2⟩ := Option.bind_eq_some_iff.mp h
      obtain ⟨n, h3, h4⟩ := Option.bind_eq_some_iff.mp h2
      split at h4
      · rename_i hn
        cases h4
        have e1 := asI_some h3
        subst e1
        cases r1 with
        | ins hi hf =>
          rename_i a C' dx fs
          have e : C' = C := Int.ofNat.inj hc
          subst e
          refine ⟨a, dx, fs, rfl, eg _ _ hi, G, _, _, eg, .cons (.ins hi hf) .nil, h1, fun v' H' G' g' r' => ?_⟩
          cases r'
          exact ⟨n, rfl, hn.1, by omega, q _ H' G' g' (.int n)⟩
      · cases h4
    · cases h
  · cases h
end
end DL

set_option Elab.async false
set_option linter.all false
set_option maxRecDepth 100000
set_option maxHeartbeats 4000000
namespace DL
open PySem PySem.Spec PyProof.Rows L2 Evl
/-! ### statements -/
inductive Rs where
  | nx (ρ : DE)
  | rt (d : PyData)
def Fin (K : PySem.W.Frag) (G H : Hp) (D : Ends) : Rs → Prop
  | .nx ρ' => ∀ σ' H' G', Go G H G' H' → EnvR K G' σ' ρ' → D.nx σ' H'
  | .rt d => DQ K G H d D.rt
abbrev DS := DE → Option Rs
def tDS (K : PySem.W.Frag) (S : DS) : TS := fun D σ H => ∃ G ρ r, Ex G H ∧ EnvR K G σ ρ ∧ S ρ = some r ∧ DL.Fin K G H D r
abbrev PDS (X : Cx) (st : Stmt) (S : DS) : Prop := PS X st (tDS X.K S)
abbrev PDSs (X : Cx) (st : List Stmt) (S : DS) : Prop := PSs X st (tDS X.K S)
theorem Fin.go {K : PySem.W.Frag} {G H G1 H1 : Hp} {D : Ends} (g : Go G H G1 H1) : ∀ {r : Rs}, DL.Fin K G H D r → DL.Fin K G1 H1 D r
  | .nx ρ, h => fun σ' H' G' g' er => h σ' H' G' (g.trans g') er
  | .rt d, h => fun v H' G' g' r => h v H' G' (g.trans g') r
theorem DQ.go {K : PySem.W.Frag} {G H G1 H1 : Hp} {d : PyData} {Q : VK} (g : Go G H G1 H1) (h : DQ K G H d Q) : DQ K G1 H1 d Q := fun v H' G' g' r => h v H' G' (g.trans g') r
section
variable {X : Cx} {a b c e : Expr} {es : List Expr} {st : Stmt} {rest sa sb : List Stmt} {F F1 F2 F3 : DF} {Fs : DE → Option (List PyData)} {T T1 T2 : DE → Option Bool} {S S1 S2 : DS} {pos : Pos}
def seqD (S1 S2 : DS) : DS := fun ρ => (S1 ρ).bind fun r => match r with
  | .nx ρ' => S2 ρ'
  | .rt d => some (.rt d)
def nxD : DS := fun ρ => some (.nx ρ)
theorem pds_never : PDS X st (fun _ => none) := ⟨fun _ _ _ _ _ _ h => by
  obtain ⟨_, _, _, _, _, h, _⟩ := h
  cases h⟩
theorem pdss_never : PDSs X rest (fun _ => none) := ⟨fun _ _ _ _ _ _ h => by
  obtain ⟨_, _, _, _, _, h, _⟩ := h
  cases h⟩
theorem pdss_nil : PDSs X [] nxD := weakSs pss_nil fun D σ H => by
  rintro ⟨G, ρ, r, eg, er, h, q⟩
  cases h
  exact q σ H G (Go.refl eg) er
theorem pdss_cons (h1 : PDS X st S1) (h2 : PDSs X rest S2) : PDSs X (st :: rest) (seqD S1 S2) := weakSs (pss_cons h1 h2) fun D σ H => by
  rintro ⟨G, ρ, r, eg, er, h, q⟩
  obtain ⟨r1, h3, h4⟩ := Option.bind_eq_some_iff.mp h
  refine ⟨G, ρ, r1, eg, er, h3, ?_⟩
  cases r1 with
  | nx ρ' => exact fun σ' H' G' g er' => ⟨G', ρ', r, g.gh, er', h4, Fin.go g q⟩
  | rt d => cases h4; exact q
theorem pdss_one (h1 : PDS X st S1) : PDSs X [st] S1 := pss_one h1
def ifD (T : DE → Option Bool) (S1 S2 : DS) : DS := fun ρ => (T ρ).bind fun k => if k = true then S1 ρ else S2 ρ
theorem pds_if (hc : PDT X c T) (ha : PDSs X sa S1) (hb : PDSs X sb S2) : PDS X (.If c sa sb pos) (ifD T S1 S2) := weakS (ps_if hc ha hb) fun D σ H => by
  rintro ⟨G, ρ, r, eg, er, h, q⟩
  obtain ⟨k, h1, h2⟩ := Option.bind_eq_some_iff.mp h
  refine ⟨G, ρ, k, eg, er, h1, fun H1 G1 g => ?_⟩
  cases k with
  | true =>
    rw [if_pos rfl] at h2 ⊢
    exact ⟨G1, ρ, r, g.gh, er.mono g.gg, h2, Fin.go g q⟩
  | false =>
    rw [if_neg Bool.false_ne_true] at h2 ⊢
    exact ⟨G1, ρ, r, g.gh, er.mono g.gg, h2, Fin.go g q⟩
def retD (F : DF) : DS := fun ρ => (F ρ).map .rt
theorem pds_ret (h : PD X e F) : PDS X (.Return (some e) pos) (retD F) := weakS (ps_ret h) fun D σ H => by
  rintro ⟨G, ρ, r, eg, er, h, q⟩
  obtain ⟨d, h1, h2⟩ := Option.map_eq_some_iff.mp h
  subst h2
  exact ⟨G, ρ, d, eg, er, h1, q⟩
def setD (i : Nat) (F : DF) : DS := fun ρ => (F ρ).map fun d => .nx (ρ.set i (some d))
theorem set_in {i : Nat} {te : TE} (w : ∀ σ H Q, tD X.K F σ H Q → te σ H Q) : ∀ D σ H, tDS X.K (setD i F) D σ H → tAsg te (gName i) D σ H := by
  rintro D σ H ⟨G, ρ, r, eg, er, h, q⟩
  obtain ⟨d, h1, h2⟩ := Option.map_eq_some_iff.mp h
  subst h2
  exact w σ H _ ⟨G, ρ, d, eg, er, h1, fun v H1 G1 g r1 => q _ _ _ g ((er.mono g.gg).set r1 i)⟩
theorem pds_set {i : Nat} {te : TE} {x : Str} {pos' : Pos} (h : PS X (.Assign [.Name x pos'] e pos) (tAsg te (gName i))) (w : ∀ σ H Q, tD X.K F σ H Q → te σ H Q) : PDS X (.Assign [.Name x pos'] e pos) (setD i F) := weakS h (set_in w)
/-! targets -/
def gNames : List Nat → TGs
  | [] => gNil
  | i :: is => gCons (gName i) (gNames is)
def setAll : DE → List Nat → List PyData → DE
  | ρ, i :: is, d :: ds => setAll (ρ.set i (some d)) is ds
  | ρ, _, _ => ρ
def setAllV : L2.St → List Nat → List V → L2.St
  | σ, i :: is, v :: vs => setAllV (σ.set i (some v)) is vs
  | σ, _, _ => σ
theorem gNames_in {Q : L2.St → Hp → Prop} : ∀ (is : List Nat) (vs : List V) (σ : L2.St) (H : Hp), vs.length = is.length → Q (setAllV σ is vs) H → gNames is vs σ H Q
  | [], [], σ, H, _, q => ⟨rfl, q⟩
  | [], _ :: _, _, _, h, _ => by cases h
  | i :: is, [], _, _, h, _ => by cases h
  | i :: is, v :: vs, σ, H, h, q => ⟨v, vs, rfl, gNames_in is vs _ H (Nat.succ.inj h) q⟩
theorem setAll_rd {K : PySem.W.Frag} {G : Hp} : ∀ (is : List Nat) {vs : List V} {ds : List PyData} {σ : L2.St} {ρ : DE}, EnvR K G σ ρ → RDs K G vs ds → EnvR K G (setAllV σ is vs) (setAll ρ is ds)
  | [], _, _, _, _, er, _ => er
  | i :: is, _, _, _, _, er, .nil => er
  | i :: is, _, _, _, _, er, .cons r t => setAll_rd is (er.set r i) t
theorem wipe_get (σ : L2.St) (j : Nat) : ∀ vs : List Nat, (L2.wipe σ vs)[j]? = if j ∈ vs then (σ[j]?).map (fun _ => none) else σ[j]?
  | [] => by simp [L2.wipe]
  | v :: vs => by
    unfold L2.wipe
    have ih := wipe_get σ j vs
    by_cases h : v = j
    · subst h
      rw [List.getElem?_set]
      simp only [if_true, List.mem_cons, true_or]
      rw [L2.wipe_length]
      by_cases hl : v < σ.length
      · rw [if_pos hl, List.getElem?_eq_getElem hl]; rfl
      · rw [if_neg hl, List.getElem?_eq_none (by omega)]; rfl
    · rw [List.getElem?_set_ne h, ih]
      have : (j ∈ v :: vs) ↔ j ∈ vs := by simp [Ne.symm h]
      simp only [this]
theorem wipe_eq {σ σ' : L2.St} {vs : List Nat} (h : ∀ j, j ∉ vs → σ'[j]? = σ[j]?) (hl : σ'.length = σ.length) : L2.wipe σ' vs = L2.wipe σ vs := by
  apply List.ext_getElem?
  intro j
  rw [wipe_get, wipe_get]
  by_cases hj : j ∈ vs
  · rw [if_pos hj, if_pos hj]
    by_cases hb : j < σ.length
    · rw [List.getElem?_eq_getElem hb, List.getElem?_eq_getElem (by omega)]; rfl
    · rw [List.getElem?_eq_none (by omega), List.getElem?_eq_none (by omega)]
  · rw [if_neg hj, if_neg hj, h j hj]
theorem setAllV_out : ∀ (is : List Nat) (vs : List V) (σ : L2.St) (j : Nat), j ∉ is → (setAllV σ is vs)[j]? = σ[j]?
  | [], _, _, _, _ => rfl
  | _ :: _, [], _, _, _ => rfl
  | i :: is, v :: vs, σ, j, h => by
    simp only [List.mem_cons, not_or] at h
    show (setAllV (σ.set i (some v)) is vs)[j]? = _
    rw [setAllV_out is vs _ j h.2, List.getElem?_set_ne (Ne.symm h.1)]
theorem setAllV_len : ∀ (is : List Nat) (vs : List V) (σ : L2.St), (setAllV σ is vs).length = σ.length
  | [], _, _ => rfl
  | _ :: _, [], _ => rfl
  | i :: is, v :: vs, σ => by
    show (setAllV (σ.set i (some v)) is vs).length = _
    rw [setAllV_len is vs, List.length_set]
/-- a target: what it binds (the slots own) -/
structure TgD (K : PySem.W.Frag) (own : List Nat) (g : TG) (B : PyData → DE → Option DE) : Prop where
  run : ∀ (x : V) (d : PyData) (ρ ρ' : DE) (σ : L2.St) (G H : Hp) (Q : L2.St → Hp → Prop), Ex G H → EnvR K G σ ρ → RD K G x d → B d ρ = some ρ' →
    (∀ σ', EnvR K G σ' ρ' → (∀ j, j ∉ own → σ'[j]? = σ[j]?) → σ'.length = σ.length → Q σ' H) → g x σ H Q
def oneB (i : Nat) : PyData → DE → Option DE := fun d ρ => some (ρ.set i (some d))
def tupB (is : List Nat) : PyData → DE → Option DE := fun d ρ => match d with
  | .tuple ds => if ds.length = is.length then some (setAll ρ is ds) else none
  | _ => none
theorem tg_one {K : PySem.W.Frag} (i : Nat) : TgD K [i] (gName i) (oneB i) := ⟨fun x d ρ ρ' σ G H Q eg er r h q => by
  cases h
  exact q _ (er.set r i) (fun j hj => List.getElem?_set_ne (fun e => hj (by simp [e]))) (List.length_set ..)⟩
theorem tg_tup {K : PySem.W.Frag} (is : List Nat) : TgD K is (gTup K is.length (gNames is)) (tupB is) := ⟨fun x d ρ ρ' σ G H Q eg er r h q => by
  unfold tupB at h
  split at h
  · split at h
    · rename_i hl
      cases h
      cases r with
      | tup s t =>
        exact ⟨_, _, rfl, ex_t eg s, by rw [t.length, hl], gNames_in is _ _ _ (by rw [t.length, hl]) (q _ (setAll_rd is er t) (fun j hj => setAllV_out is _ _ j hj) (setAllV_len is _ _))⟩
    · cases h
  · cases h⟩
def unpD (is : List Nat) (F : DF) : DS := fun ρ => (F ρ).bind fun d => (tupB is d ρ).map .nx
theorem pds_unp {tg : Expr} (is : List Nat) (h : PD X e F) (hg : PG X tg (gTup X.K is.length (gNames is))) (hs : swapsWithSole [tg] e pos.line X.env = pure false := by rfl) (hw : swappedStores [tg] e X.env = pure none := by rfl)
    (h1 : (assignEach [tg] X.env).map (·.2) = [assign tg X.env] := by rfl) : PDS X (.Assign [tg] e pos) (unpD is F) := weakS (ps_asg h hg hs hw h1) fun D σ H => by
  rintro ⟨G, ρ, r, eg, er, h, q⟩
  obtain ⟨d, h1, h2⟩ := Option.bind_eq_some_iff.mp h
  obtain ⟨ρ', h3, h4⟩ := Option.map_eq_some_iff.mp h2
  subst h4
  exact ⟨G, ρ, d, eg, er, h1, fun v H1 G1 g r1 => (tg_tup is).run v d ρ ρ' σ G1 H1 _ g.gh (er.mono g.gg) r1 h3 fun σ' er' _ _ => q σ' H1 G1 g er'⟩

/-! ### what is walked -/
structure WalkD (K : PySem.W.Frag) (J : It) (G : Hp) (ds : List PyData) : Prop where
  go : ∀ i H, i < ds.length → Ex G H → J.go i H
  stop : ∀ H, Ex G H → J.stop ds.length H
  yld : ∀ i d H G1 x H', ds[i]? = some d → Ex G G1 → Ex G1 H → J.yld i H x H' → ∃ G', Go G1 H G' H' ∧ RD K G' x d
def tDI (K : PySem.W.Frag) (L : DE → Option (List PyData)) : TI := fun σ H R => ∃ G ρ ds, Ex G H ∧ EnvR K G σ ρ ∧ L ρ = some ds ∧ ∀ J H' G', Go G H G' H' → WalkD K J G' ds → R J H'
abbrev PDI (X : Cx) (tg iter : Expr) (L : DE → Option (List PyData)) : Prop := PI X tg iter (tDI X.K L)
theorem weakI {tg iter : Expr} {t t' : TI} (h : PI X tg iter t) (w : ∀ σ H Q, t' σ H Q → t σ H Q) : PI X tg iter t' := ⟨fun pins s σ H Q I q => h.run pins s σ H Q I (w σ H Q q)⟩
theorem walk_list {K : PySem.W.Frag} {G : Hp} {a : Addr} {xs : List V} {ds : List PyData} (s : SqL K G a xs) (t : RDs K G xs ds) : WalkD K (Itl K a) G ds := by
  refine ⟨fun i H hi e => ?_, fun H e => ⟨xs, ex_l e s, Nat.le_of_eq t.length⟩, fun i d H G1 x H' hd e1 e2 y => ?_⟩
  · have hx : i < xs.length := by rw [t.length]; exact hi
    exact ⟨xs, xs[i], ex_l e s, List.getElem?_eq_getElem hx⟩
  · obtain ⟨rfl, hy⟩ := y
    obtain ⟨v, h1, h2⟩ := t.get i d hd
    have h3 := hy xs (ex_l (e1.trans e2) s)
    rw [h3] at h1
    cases h1
    exact ⟨G1, Go.refl e2, h2.mono e1⟩
theorem walk_tup {K : PySem.W.Frag} {G : Hp} {a : Addr} {xs : List V} {ds : List PyData} (s : SqT K G a xs) (t : RDs K G xs ds) : WalkD K (Itt K a) G ds := by
  refine ⟨fun i H hi e => ?_, fun H e => ⟨xs, ex_t e s, Nat.le_of_eq t.length⟩, fun i d H G1 x H' hd e1 e2 y => ?_⟩
  · have hx : i < xs.length := by rw [t.length]; exact hi
    exact ⟨xs, xs[i], ex_t e s, List.getElem?_eq_getElem hx⟩
  · obtain ⟨rfl, hy⟩ := y
    obtain ⟨v, h1, h2⟩ := t.get i d hd
    have h3 := hy xs (ex_t (e1.trans e2) s)
    rw [h3] at h1
    cases h1
    exact ⟨G1, Go.refl e2, h2.mono e1⟩
def asSeq : PyData → Option (List PyData)
  | .list ds => some ds
  | .tuple ds => some ds
  | _ => none
theorem pdi_seq {tg : Expr} (h : PD X e F) : PDI X tg e (fun ρ => (F ρ).bind asSeq) := by
  refine ⟨fun pins s σ H R I q => ?_⟩
  obtain ⟨G, ρ, ds, eg, er, hf, q⟩ := q
  obtain ⟨d, h1, h2⟩ := Option.bind_eq_some_iff.mp hf
  unfold asSeq at h2
  split at h2
  · cases h2
    refine (pi_list h).run pins s σ H R I ⟨G, ρ, _, eg, er, h1, fun v H1 G1 g r1 => ?_⟩
    cases r1 with
    | lst s1 t1 => exact ⟨_, rfl, ⟨_, ex_l g.gh s1⟩, q _ H1 G1 g (walk_list s1 t1)⟩
  · cases h2
    refine (pi_tup h).run pins s σ H R I ⟨G, ρ, _, eg, er, h1, fun v H1 G1 g r1 => ?_⟩
    cases r1 with
    | tup s1 t1 => exact ⟨_, rfl, ⟨_, ex_t g.gh s1⟩, q _ H1 G1 g (walk_tup s1 t1)⟩
  · cases h2
def rngD (lo : Int) (n : Nat) : List PyData := (List.range n).map fun i => .int (lo + (i : Nat))
theorem walk_range {K : PySem.W.Frag} {G : Hp} (lo : Int) (n : Nat) : WalkD K (Itr lo n) G (rngD lo n) := by
  have hl : (rngD lo n).length = n := by unfold rngD; rw [List.length_map, List.length_range]
  refine ⟨fun i H hi e => by rw [hl] at hi; exact hi, fun H e => by rw [hl]; exact Nat.le_refl _, fun i d H G1 x H' hd e1 e2 y => ?_⟩
  obtain ⟨rfl, rfl⟩ := y
  refine ⟨G1, Go.refl e2, ?_⟩
  unfold rngD at hd
  rw [List.getElem?_map] at hd
  obtain ⟨j, h1, h2⟩ := Option.map_eq_some_iff.mp hd
  have hj : i < n := by
    have := (List.getElem?_eq_some_iff.mp h1).1
    rw [List.length_range] at this
    exact this
  rw [List.getElem?_range hj] at h1
  cases h1
  rw [← h2]
  exact .int _
theorem pdi_range1 {tg : Expr} {p : Pos} (hg : Gl X "range") (hm : X.mg "range" = none) (ha : PD X a F) (hs : starEach [a] X.env = [(false, eval a X.env)] := by rfl) :
    PDI X tg (.Call (.Name "range" p) [a] [] pos) (fun ρ => (F ρ).bind fun d => (asI d).bind fun n => if n ≤ 100000 ∧ 0 ≤ n then some (rngD 0 n.toNat) else none) := by
  refine weakI (pi_range1 hg hm (pa_cons ha pa_nil hs) hs) fun σ H Q => ?_
  rintro ⟨G, ρ, ds, eg, er, hf, q⟩
  obtain ⟨d, h1, h2⟩ := Option.bind_eq_some_iff.mp hf
  obtain ⟨n, h3, h4⟩ := Option.bind_eq_some_iff.mp h2
  rw [asI_some h3] at h1
  split at h4
  · cases h4
    refine ⟨G, ρ, _, eg, er, h1, fun v H1 G1 g r1 => ?_⟩
    cases r1
    exact ⟨n, rfl, by omega, by omega, q _ H1 G1 g (walk_range 0 n.toNat)⟩
  · cases h4
theorem pdi_zip {es2 : List Expr} {kk : Nat} {p tpos : Pos} (hg : Gl X "zip") (hm : X.mg "zip" = none) (ha : PD X a F1) (hb : PD X b F2)
    (hs : starEach [a, b] X.env = (false, eval a X.env) :: starEach [b] X.env := by rfl) (hs2 : starEach [b] X.env = (false, eval b X.env) :: starEach [] X.env := by rfl) (hpl : (backTo pos (starEach [b] X.env)).any (·.1) = false := by rfl) :
    PDI X (.Tuple es2 kk tpos) (.Call (.Name "zip" p) [a, b] [] pos) (fun ρ => (F1 ρ).bind fun d => (F2 ρ).bind fun e => match d, e with
      | .tuple xs, .tuple ys => some (List.zipWith (fun x y => .tuple [x, y]) xs ys)
      | _, _ => none) := by
  refine weakI (RZ.pi_zipA hg hm (pa_cons ha (pa_cons hb pa_nil hs2) hs) hs hpl) fun σ H Q => ?_
  rintro ⟨G, ρ, ds, eg, er, hf, q⟩
  obtain ⟨d, h1, h2⟩ := Option.bind_eq_some_iff.mp hf
  obtain ⟨e, h3, h4⟩ := Option.bind_eq_some_iff.mp h2
  refine ⟨G, ρ, d, eg, er, h1, fun v H1 G1 g1 r1 => ⟨G1, ρ, e, g1.gh, er.mono g1.gg, h3, fun u H2 G2 g2 r2 => ?_⟩⟩
  have r1 := r1.mono g2.gg
  split at h4
  · cases h4
    cases r1 with
    | tup s1 t1 =>
      cases r2 with
      | tup s2 t2 =>
        rename_i xs ys a1 vs a2 us
        refine ⟨a1, a2, vs, us, rfl, .inr ⟨ex_t g2.gh s1, ex_t g2.gh s2, q _ H2 G2 (g1.trans g2) ⟨fun i H hi e => ?_, fun H e => ?_, fun i d H G3 x H' hd e1 e2 y => ?_⟩⟩⟩
        · rw [List.length_zipWith] at hi
          have l1 := t1.length
          have l2 := t2.length
          have h1 : i < vs.length := by omega
          have h2 : i < us.length := by omega
          exact ⟨vs, us, vs[i], us[i], ex_t e s1, ex_t e s2, List.getElem?_eq_getElem h1, List.getElem?_eq_getElem h2⟩
        · rw [List.length_zipWith]
          have l1 := t1.length
          have l2 := t2.length
          exact ⟨vs, us, ex_t e s1, ex_t e s2, by omega⟩
        · obtain ⟨Tp, x1, y1, rfl, hT, rfl, f1, f2⟩ := y
          rw [List.getElem?_zipWith] at hd
          have k1 := f1 vs (ex_t (e1.trans e2) s1)
          have k2 := f2 us (ex_t (e1.trans e2) s2)
          obtain ⟨dx, m1, m2⟩ := t1.get' i x1 k1
          obtain ⟨dy, m3, m4⟩ := t2.get' i y1 k2
          rw [m1, m3] at hd
          cases hd
          exact ⟨_, Go.new e2 hT, rd_newT (fresh_back e2 hT) (.cons (m2.mono e1) (.cons (m4.mono e1) .nil))⟩
  · cases h4
theorem walk_str {K : PySem.W.Frag} {G : Hp} (z : Str) : WalkD K (Its z) G (z.cps.toList.map fun c => .str ⟨#[c]⟩) := by
  have hl : (z.cps.toList.map fun c => PyData.str ⟨#[c]⟩).length = z.cps.size := by rw [List.length_map, Array.length_toList]
  refine ⟨fun i H hi e => by rw [hl] at hi; exact hi, fun H e => by rw [hl]; exact Nat.le_refl _, fun i d H G1 x H' hd e1 e2 y => ?_⟩
  obtain ⟨rfl, c, hc, rfl⟩ := y
  refine ⟨G1, Go.refl e2, ?_⟩
  rw [List.getElem?_map, Array.getElem?_toList, hc] at hd
  cases hd
  exact .str _
theorem pdi_str {tg : Expr} (h : PD X e F) : PDI X tg e (fun ρ => (F ρ).bind fun d => match d with
    | .str z => some (z.cps.toList.map fun c => .str ⟨#[c]⟩)
    | _ => none) := by
  refine weakI (pi_str h) fun σ H Q => ?_
  rintro ⟨G, ρ, ds, eg, er, hf, q⟩
  obtain ⟨d, h1, h2⟩ := Option.bind_eq_some_iff.mp hf
  refine ⟨G, ρ, d, eg, er, h1, fun v H1 G1 g r1 => ?_⟩
  split at h2
  · cases h2
    cases r1
    exact ⟨_, rfl, q _ H1 G1 g (walk_str _)⟩
  · cases h2
theorem pdi_range2 {tg : Expr} {p : Pos} (hg : Gl X "range") (hm : X.mg "range" = none) (ha : PD X a F1) (hb : PD X b F2) (hs : starEach [a, b] X.env = [(false, eval a X.env), (false, eval b X.env)] := by rfl) (hs2 : starEach [b] X.env = [(false, eval b X.env)] := by rfl) :
    PDI X tg (.Call (.Name "range" p) [a, b] [] pos) (fun ρ => (F1 ρ).bind fun d => (asI d).bind fun m => (F2 ρ).bind fun d => (asI d).bind fun n => if n ≤ 100000 ∧ 0 ≤ n ∧ m ≤ 100000 ∧ 0 ≤ m then some (rngD m (n - m).toNat) else none) := by
  refine weakI (pi_range2 hg hm (pa_cons ha (pa_cons hb pa_nil hs2) (by rw [hs, hs2])) hs hs2) fun σ H Q => ?_
  rintro ⟨G, ρ, ds, eg, er, hf, q⟩
  obtain ⟨d, h1, h2⟩ := Option.bind_eq_some_iff.mp hf
  obtain ⟨m, h3, h4⟩ := Option.bind_eq_some_iff.mp h2
  obtain ⟨d', h5, h6⟩ := Option.bind_eq_some_iff.mp h4
  obtain ⟨n, h7, h8⟩ := Option.bind_eq_some_iff.mp h6
  rw [asI_some h3] at h1
  rw [asI_some h7] at h5
  split at h8
  · cases h8
    refine ⟨G, ρ, _, eg, er, h1, fun v H1 G1 g1 r1 => ⟨G1, ρ, _, g1.gh, er.mono g1.gg, h5, fun u H2 G2 g2 r2 => ?_⟩⟩
    cases r1
    cases r2
    exact ⟨m, n, rfl, ⟨by omega, by omega, by omega, by omega⟩, q _ H2 G2 (g1.trans g2) (walk_range m _)⟩
  · cases h8
/-! ### for -/
def forD (B : PyData → DE → Option DE) (S : DS) : List PyData → DS
  | [], ρ => some (.nx ρ)
  | d :: ds, ρ => (B d ρ).bind fun ρ1 => (S ρ1).bind fun r => match r with
    | .nx ρ' => forD B S ds ρ'
    | .rt d => some (.rt d)
def forS (L : DE → Option (List PyData)) (B : PyData → DE → Option DE) (S : DS) : DS := fun ρ => (L ρ).bind fun ds => forD B S ds ρ
theorem pds_for {tg iter : Expr} {body : List Stmt} {g : TG} {L : DE → Option (List PyData)} {own : List Nat} {B : PyData → DE → Option DE} (hp : PassesOwn (model X.prog X.w) X.A X.env X.xe) (hc : X.calm = true) (hi : PDI X tg iter L) (hg : PG X tg g) (ht : TgD X.K own g B) (hb : PDSs X body S)
    (hs : ∀ x, foldedSetIterable iter X.env x = pure x := by intro _; rfl) : PDS X (.For tg iter body [] pos) (forS L B S) := weakS (ps_for hp hc hi hg hb hs) fun D σ H => by
  rintro ⟨G, ρ, r, eg, er, h, q⟩
  obtain ⟨ds, h1, h2⟩ := Option.bind_eq_some_iff.mp h
  refine ⟨G, ρ, ds, eg, er, h1, fun J H1 G1 g1 wk => ?_⟩
  refine ⟨fun i m σ' H' => m = ds.length - i ∧ i ≤ ds.length ∧ ∃ G' ρ', Go G1 H1 G' H' ∧ EnvR X.K G' σ' ρ' ∧ forD B S (ds.drop i) ρ' = some r, ⟨ds.length, by simp, Nat.zero_le _, G1, ρ, Go.refl g1.gh, er.mono g1.gg, h2⟩, ?_⟩
  rintro i m σ' H' ⟨rfl, hi', G', ρ', g2, er', hf⟩
  by_cases hlt : i < ds.length
  · refine .inr ⟨wk.go i H' hlt (g2.gg.trans g2.gh), ?_⟩
    rw [List.drop_eq_getElem_cons hlt] at hf
    obtain ⟨ρ1, h3, h4⟩ := Option.bind_eq_some_iff.mp hf
    obtain ⟨r1, h5, h6⟩ := Option.bind_eq_some_iff.mp h4
    refine ⟨fun σ' H' => ∃ G' ρ', Go G1 H1 G' H' ∧ EnvR X.K G' σ' ρ' ∧ forD B S (ds.drop (i + 1)) ρ' = some r, fun σ2 H2 n => ⟨ds.length - (i + 1), by omega, rfl, hlt, n⟩, fun x H2 y => ?_⟩
    obtain ⟨G2, g3, r2⟩ := wk.yld i ds[i] H' G' x H2 (List.getElem?_eq_getElem hlt) g2.gg g2.gh y
    refine ht.run x ds[i] ρ' ρ1 σ' G2 H2 _ g3.gh (er'.mono g3.gg) r2 h3 fun σ3 er3 _ _ => ⟨G2, ρ1, r1, g3.gh, er3, h5, ?_⟩
    cases r1 with
    | nx ρ2 => exact fun σ4 H4 G4 g4 er4 => ⟨G4, ρ2, (g2.trans g3).trans g4, er4, h6⟩
    | rt d =>
      cases h6
      exact DQ.go ((g1.trans g2).trans g3) q
  · have e : i = ds.length := by omega
    subst e
    refine .inl ⟨wk.stop H' (g2.gg.trans g2.gh), ?_⟩
    rw [List.drop_eq_nil_of_le (Nat.le_refl _)] at hf
    cases hf
    exact q σ' H' G' (g1.trans g2) er'
end
end DL

set_option Elab.async false
set_option linter.all false
set_option maxRecDepth 100000
set_option maxHeartbeats 4000000
namespace DL
open PySem PySem.Spec PyProof.Rows L2 Evl
/-! ### list comprehensions -/
/-- what the turns give, each turn from the same slots -/
def turnsD (B : PyData → DE → Option DE) (T : DE → Option Bool) (F : DF) (ρ : DE) : List PyData → Option (List PyData)
  | [] => some []
  | d :: ds => (B d ρ).bind fun ρ1 => (T ρ1).bind fun k => if k = true then (F ρ1).bind fun y => (turnsD B T F ρ ds).map (y :: ·) else turnsD B T F ρ ds
def yesT : DE → Option Bool := fun _ => some true
def lcD (own : List Nat) (L : DE → Option (List PyData)) (B : PyData → DE → Option DE) (T : DE → Option Bool) (F : DF) : DF := fun ρ =>
  (L ρ).bind fun ds => if ds.length ≤ 100000 then (turnsD B T F (wipeD ρ own) ds).map .list else none
abbrev PDTs (X : Cx) (ifs : List Expr) (T : DE → Option Bool) : Prop := PTs X ifs (tDT X.K T)
theorem pdts_nil {X : Cx} : PDTs X [] yesT := ⟨fun pins s σ H Q I h => by
  obtain ⟨G, ρ, b, eg, er, h, q⟩ := h
  cases h
  exact pts_nil.run pins s σ H Q I (q H G (Go.refl eg))⟩
theorem pdts_one {X : Cx} {c : Expr} {T : DE → Option Bool} (h : PDT X c T) : PDTs X [c] T := pts_one h
theorem wipe_wipe (σ : L2.St) (vs : List Nat) : L2.wipe (L2.wipe σ vs) vs = L2.wipe σ vs := wipe_eq (fun j hj => by rw [wipe_get, if_neg hj]) (L2.wipe_length _ _)
/-- the state of a comprehension: its list at D stands outside of G -/
structure LcI (K : PySem.W.Frag) (G1 H1 : Hp) (D : Addr) (n : Nat) (done : List PyData) (G H : Hp) : Prop where
  go : Go G1 H1 G H
  nD : G D = none
  acc : ∃ acc, H D = some (.lst acc) ∧ RDs K G acc done ∧ acc.length ≤ n
theorem LcI.start {K : PySem.W.Frag} {G1 H1 : Hp} {D : Addr} (eg : Ex G1 H1) (hD : H1 D = none) : LcI K G1 H1 D 0 [] G1 (upd H1 D (.lst [])) :=
  ⟨Go.own eg hD, fresh_back eg hD, [], upd_same, .nil, Nat.le_refl _⟩
theorem LcI.step {K : PySem.W.Frag} {G1 H1 G H G' H' : Hp} {D : Addr} {n : Nat} {done : List PyData} (i : LcI K G1 H1 D n done G H) (g : Go G H G' H') : LcI K G1 H1 D n done G' H' := by
  obtain ⟨acc, h1, h2, h3⟩ := i.acc
  refine ⟨i.go.trans g, ?_, acc, g.hh _ _ h1, h2.mono g.gg, h3⟩
  cases q : G' D with
  | none => rfl
  | some o =>
    rcases g.fr D o q with z | z
    · rw [i.nD] at z; cases z
    · rw [h1] at z; cases z
theorem LcI.put {K : PySem.W.Frag} {G1 H1 G H : Hp} {D : Addr} {n : Nat} {done : List PyData} {y : V} {d : PyData} (i : LcI K G1 H1 D n done G H) (hD : H1 D = none) (hn : n < 100000) (r : RD K G y d) :
    ∃ acc, H D = some (.lst acc) ∧ acc.length < sizeLine ∧ LcI K G1 H1 D (n + 1) (done ++ [d]) G (upd H D (.lst (acc ++ [y]))) := by
  obtain ⟨acc, h1, h2, h3⟩ := i.acc
  refine ⟨acc, h1, sz_lt (by omega), ⟨⟨Ex.mut i.go.hh hD, fun a o h => ?_, i.go.gg, i.go.fr⟩, i.nD, acc ++ [y], upd_same, h2.append (.cons r .nil), by rw [List.length_append]; show acc.length + 1 ≤ _; omega⟩⟩
  have ne : a ≠ D := fun e => by rw [e, i.nD] at h; cases h
  rw [upd_ne ne]
  exact i.go.gh a o h
theorem LcI.skip {K : PySem.W.Frag} {G1 H1 G H : Hp} {D : Addr} {n m : Nat} {done : List PyData} (i : LcI K G1 H1 D n done G H) (h : n ≤ m) : LcI K G1 H1 D m done G H := by
  obtain ⟨acc, h1, h2, h3⟩ := i.acc
  exact ⟨i.go, i.nD, acc, h1, h2, Nat.le_trans h3 h⟩
theorem LcI.fin {K : PySem.W.Frag} {G1 H1 G H : Hp} {D : Addr} {n : Nat} {done : List PyData} {Q : VK} (i : LcI K G1 H1 D n done G H) (hD : H1 D = none) (q : DQ K G1 H1 (.list done) Q) : Q (.ref D) H := by
  obtain ⟨acc, h1, h2, h3⟩ := i.acc
  refine q _ H (upd G D (.lst acc)) ⟨i.go.hh, fun a o h => ?_, fun a o h => ?_, fun a o h => ?_⟩ (rd_newL i.nD h2)
  · by_cases e : a = D
    · subst e; rw [upd_same] at h; cases h; exact h1
    · rw [upd_ne e] at h; exact i.go.gh a o h
  · exact Ex.new i.nD a o (i.go.gg a o h)
  · by_cases e : a = D
    · subst e; exact .inr hD
    · rw [upd_ne e] at h; exact i.go.fr a o h
section
variable {X : Cx} {elt tg iter : Expr} {ifs : List Expr} {scope : Scope} {own : List (Str × Nat)} {pos spos py : Pos} {L : DE → Option (List PyData)} {own1 : List Nat} {g : TG} {B : PyData → DE → Option DE} {T : DE → Option Bool} {F : DF}
theorem lc_in {K : PySem.W.Frag} {vs : List Nat} (tgd : TgD K own1 g B) (ho : ∀ j ∈ own1, j ∈ vs) {σ : L2.St} {H : Hp} {Q : VK} (h : tD K (lcD vs L B T F) σ H Q) : tLc (tDI K L) g (tDT K T) (tD K F) vs σ H Q := by
  obtain ⟨G, ρ, d, eg, er, hf, q⟩ := h
  obtain ⟨ds, h1, h2⟩ := Option.bind_eq_some_iff.mp hf
  split at h2
  · rename_i hlen
    obtain ⟨outs, h3, rfl⟩ := Option.map_eq_some_iff.mp h2
    refine ⟨G, ρ, ds, eg, er, h1, fun J H1 G1 g1 wk D hD => ?_⟩
    refine ⟨fun i m H => m = ds.length - i ∧ i ≤ ds.length ∧ ∃ G' done res, LcI K G1 H1 D i done G' H ∧ turnsD B T F (wipeD ρ vs) (ds.drop i) = some res ∧ done ++ res = outs, ⟨ds.length, by simp, Nat.zero_le _, G1, [], outs, LcI.start g1.gh hD, h3, rfl⟩, ?_⟩
    rintro i m H ⟨rfl, hi, G', done, res, inv, hres, hout⟩
    by_cases hlt : i < ds.length
    · refine .inr ⟨wk.go i H hlt (inv.go.gg.trans inv.go.gh), ?_⟩
      rw [List.drop_eq_getElem_cons hlt] at hres
      obtain ⟨ρ1, h4, h5⟩ := Option.bind_eq_some_iff.mp hres
      obtain ⟨k, h6, h7⟩ := Option.bind_eq_some_iff.mp h5
      refine ⟨fun H => ∃ G' done res, LcI K G1 H1 D (i + 1) done G' H ∧ turnsD B T F (wipeD ρ vs) (ds.drop (i + 1)) = some res ∧ done ++ res = outs, fun H' n => ⟨ds.length - (i + 1), by omega, rfl, hlt, n⟩, fun x H' y => ?_⟩
      obtain ⟨G2, g2, r2⟩ := wk.yld i ds[i] H G' x H' (List.getElem?_eq_getElem hlt) inv.go.gg inv.go.gh y
      have inv2 := inv.step g2
      have er2 := (er.mono (g1.gg.trans inv2.go.gg)).wipe vs
      refine tgd.run x ds[i] _ ρ1 _ G2 H' _ g2.gh er2 r2 h4 fun σ3 er3 ho3 hl3 => ⟨?_, ?_⟩
      · rw [wipe_eq (σ := L2.wipe σ vs) (fun j hj => ho3 j fun z => hj (ho j z)) hl3, wipe_wipe]
      refine ⟨G2, ρ1, k, g2.gh, er3, h6, fun H3 G3 g3 => ?_⟩
      have inv3 := inv2.step g3
      cases k with
      | true =>
        rw [if_pos rfl] at h7
        refine iteT ?_
        obtain ⟨y, h8, h9⟩ := Option.bind_eq_some_iff.mp h7
        obtain ⟨res', h10, rfl⟩ := Option.map_eq_some_iff.mp h9
        refine ⟨G3, ρ1, y, g3.gh, er3.mono g3.gg, h8, fun v H4 G4 g4 r4 => ?_⟩
        obtain ⟨acc, k1, k2, k3⟩ := (inv3.step g4).put hD (by omega) r4
        exact ⟨acc, k1, k2, G4, _, res', k3, h10, by rw [List.append_assoc]; exact hout⟩
      | false =>
        rw [if_neg Bool.false_ne_true] at h7
        refine iteF ?_
        exact ⟨G3, done, res, inv3.skip (Nat.le_succ i), h7, hout⟩
    · have e : i = ds.length := by omega
      subst e
      refine .inl ⟨wk.stop H (inv.go.gg.trans inv.go.gh), ?_⟩
      rw [List.drop_eq_nil_of_le (Nat.le_refl _)] at hres
      cases hres
      rw [List.append_nil] at hout
      subst hout
      exact inv.fin hD (DQ.go g1 q)
  · cases h2
theorem pd_lc (hc : X.calm = true) (hN : X.N.Nodup) (hi : PDI X tg iter L) (ok : BlkOk X.N X.env.scope scope own) (tgd : TgD X.K own1 g B) (ho : ∀ j ∈ own1, j ∈ own.map (·.2))
    (hg : ∀ (s : Shared) (H : Hp) (C : Addr) (cl : List (Str × Addr)) (fp : List Addr), PG (X.blk s H scope (compEnvC scope cl C X.env) fp) tg g) (ht : ∀ (s : Shared) (H : Hp) (C : Addr) (cl : List (Str × Addr)) (fp : List Addr), PDTs (X.blk s H scope (compEnvC scope cl C X.env) fp) ifs T)
    (he : ∀ (s : Shared) (H : Hp) (C : Addr) (cl : List (Str × Addr)) (fp : List Addr), PD (X.blk s H scope (compEnvC scope cl C X.env) fp) elt F) (hs : ∀ x, foldedSetIterable iter X.env x = pure x := by intro _; rfl) :
    PD X (.ListComp elt [⟨tg, iter, ifs, 0⟩] scope pos) (lcD (own.map (·.2)) L B T F) := weakE (pe_lc hc hN hi ok hg ht he hs) fun _ _ _ h => lc_in tgd ho h
theorem pds_setLc {i : Nat} {y : Str} (hc : X.calm = true) (hN : X.N.Nodup) (hy : X.N[i]? = some y) (hyl : X.env.scope.names.lookup y = some .local)
    (hsw : swapsWith (.ListComp elt [⟨tg, iter, ifs, 0⟩] scope pos) (some (.Name y py)) spos.line X.env = pure true) (hi : PDI X tg iter L) (ok : BlkOk X.N X.env.scope scope own) (tgd : TgD X.K own1 g B) (ho : ∀ j ∈ own1, j ∈ own.map (·.2))
    (hg : ∀ (s : Shared) (H : Hp) (C : Addr) (cl : List (Str × Addr)) (fp : List Addr), PG (X.blk s H scope (compEnvC scope cl C X.env) fp) tg g) (ht : ∀ (s : Shared) (H : Hp) (C : Addr) (cl : List (Str × Addr)) (fp : List Addr), PDTs (X.blk s H scope (compEnvC scope cl C X.env) fp) ifs T)
    (he : ∀ (s : Shared) (H : Hp) (C : Addr) (cl : List (Str × Addr)) (fp : List Addr), PD (X.blk s H scope (compEnvC scope cl C X.env) fp) elt F) (hs : ∀ x, foldedSetIterable iter X.env x = pure x := by intro _; rfl) :
    PDS X (.Assign [.Name y py] (.ListComp elt [⟨tg, iter, ifs, 0⟩] scope pos) spos) (setD i (lcD (own.map (·.2)) L B T F)) := weakS (ps_setLc hc hN hy hyl hsw hi ok hg ht he hs) (set_in fun _ _ _ h => lc_in tgd ho h)
end
/-! two clauses -/
def turns2D (B : PyData → DE → Option DE) (T : DE → Option Bool) (L1 : DE → Option (List PyData)) (vs1 : List Nat) (B1 : PyData → DE → Option DE) (T1 : DE → Option Bool) (F : DF) (ρ : DE) : List PyData → Option (List PyData)
  | [] => some []
  | d :: ds => (B d ρ).bind fun ρ1 => (T ρ1).bind fun k => if k = true then (L1 ρ1).bind fun es => if es.length ≤ 300 then (turnsD B1 T1 F (wipeD ρ1 vs1) es).bind fun ys => (turns2D B T L1 vs1 B1 T1 F ρ ds).map (ys ++ ·) else none else turns2D B T L1 vs1 B1 T1 F ρ ds
def lc2D (own vs1 : List Nat) (L : DE → Option (List PyData)) (B : PyData → DE → Option DE) (T : DE → Option Bool) (L1 : DE → Option (List PyData)) (B1 : PyData → DE → Option DE) (T1 : DE → Option Bool) (F : DF) : DF := fun ρ =>
  (L ρ).bind fun ds => if ds.length ≤ 300 then (turns2D B T L1 vs1 B1 T1 F (wipeD ρ own) ds).map .list else none
section
variable {X : Cx} {elt tg iter tg1 iter1 : Expr} {ifs ifs1 : List Expr} {scope : Scope} {own : List (Str × Nat)} {pos spos py : Pos} {L L1 : DE → Option (List PyData)} {own1 own2 vs1 : List Nat} {g g1 : TG} {B B1 : PyData → DE → Option DE} {T T1 : DE → Option Bool} {F : DF}
theorem lc2_in {K : PySem.W.Frag} {vs : List Nat} (tgd : TgD K own1 g B) (ho : ∀ j ∈ own1, j ∈ vs) (tgd1 : TgD K own2 g1 B1) (ho1 : ∀ j ∈ own2, j ∈ vs1) {σ : L2.St} {H : Hp} {Q : VK} (h : tD K (lc2D vs vs1 L B T L1 B1 T1 F) σ H Q) :
    tLc2 (tDI K L) g (tDT K T) (tDI K L1) g1 (tDT K T1) (tD K F) vs vs1 σ H Q := by
  obtain ⟨G, ρ, d, eg, er, hf, q⟩ := h
  obtain ⟨ds, h1, h2⟩ := Option.bind_eq_some_iff.mp hf
  split at h2
  · rename_i hlen
    obtain ⟨outs, h3, rfl⟩ := Option.map_eq_some_iff.mp h2
    refine ⟨G, ρ, ds, eg, er, h1, fun J H1 G1 g1' wk D hD => ?_⟩
    refine ⟨fun i m H => m = ds.length - i ∧ i ≤ ds.length ∧ ∃ G' done res, LcI K G1 H1 D (i * 300) done G' H ∧ turns2D B T L1 vs1 B1 T1 F (wipeD ρ vs) (ds.drop i) = some res ∧ done ++ res = outs, ⟨ds.length, by simp, Nat.zero_le _, G1, [], outs, (by rw [Nat.zero_mul]; exact LcI.start g1'.gh hD), h3, rfl⟩, ?_⟩
    rintro i m H ⟨rfl, hi, G', done, res, inv, hres, hout⟩
    by_cases hlt : i < ds.length
    · refine .inr ⟨wk.go i H hlt (inv.go.gg.trans inv.go.gh), ?_⟩
      rw [List.drop_eq_getElem_cons hlt] at hres
      obtain ⟨ρ1, h4, h5⟩ := Option.bind_eq_some_iff.mp hres
      obtain ⟨k, h6, h7⟩ := Option.bind_eq_some_iff.mp h5
      refine ⟨fun H => ∃ G' done res, LcI K G1 H1 D ((i + 1) * 300) done G' H ∧ turns2D B T L1 vs1 B1 T1 F (wipeD ρ vs) (ds.drop (i + 1)) = some res ∧ done ++ res = outs, fun H' n => ⟨ds.length - (i + 1), by omega, rfl, hlt, n⟩, fun x H' y => ?_⟩
      obtain ⟨G2, g2, r2⟩ := wk.yld i ds[i] H G' x H' (List.getElem?_eq_getElem hlt) inv.go.gg inv.go.gh y
      have inv2 := inv.step g2
      have er2 := (er.mono (g1'.gg.trans inv2.go.gg)).wipe vs
      refine tgd.run x ds[i] _ ρ1 _ G2 H' _ g2.gh er2 r2 h4 fun σ3 er3 ho3 hl3 => ⟨?_, ?_⟩
      · rw [wipe_eq (σ := L2.wipe σ vs) (fun j hj => ho3 j fun z => hj (ho j z)) hl3, wipe_wipe]
      refine ⟨G2, ρ1, k, g2.gh, er3, h6, fun H3 G3 g3 => ?_⟩
      have inv3 := inv2.step g3
      cases k with
      | true =>
        rw [if_pos rfl] at h7
        refine iteT ?_
        obtain ⟨es, h8, h9⟩ := Option.bind_eq_some_iff.mp h7
        split at h9
        · rename_i hle
          obtain ⟨ys, h10, h11⟩ := Option.bind_eq_some_iff.mp h9
          obtain ⟨res', h12, rfl⟩ := Option.map_eq_some_iff.mp h11
          refine ⟨G3, ρ1, es, g3.gh, er3.mono g3.gg, h8, fun J1 H4 G4 g4 wk1 => ?_⟩
          have inv4 := inv3.step g4
          refine ⟨fun j m H => m = es.length - j ∧ j ≤ es.length ∧ ∃ G' done' res, LcI K G1 H1 D (i * 300 + j) done' G' H ∧ Ex G4 G' ∧ turnsD B1 T1 F (wipeD ρ1 vs1) (es.drop j) = some res ∧ done' ++ res = done ++ ys, ⟨es.length, by simp, Nat.zero_le _, G4, done, ys, inv4, Ex.refl _, h10, rfl⟩, ?_⟩
          rintro j m H5 ⟨rfl, hj, G5, done', res5, inv5, e45, hres5, hout5⟩
          by_cases hlj : j < es.length
          · refine .inr ⟨wk1.go j H5 hlj (e45.trans inv5.go.gh), ?_⟩
            rw [List.drop_eq_getElem_cons hlj] at hres5
            obtain ⟨ρ2, k4, k5⟩ := Option.bind_eq_some_iff.mp hres5
            obtain ⟨kk, k6, k7⟩ := Option.bind_eq_some_iff.mp k5
            refine ⟨fun H => ∃ G' done' res, LcI K G1 H1 D (i * 300 + (j + 1)) done' G' H ∧ Ex G4 G' ∧ turnsD B1 T1 F (wipeD ρ1 vs1) (es.drop (j + 1)) = some res ∧ done' ++ res = done ++ ys, fun H' n => ⟨es.length - (j + 1), by omega, rfl, hlj, n⟩, fun x H' y => ?_⟩
            obtain ⟨G6, g6, r6⟩ := wk1.yld j es[j] H5 G5 x H' (List.getElem?_eq_getElem hlj) e45 inv5.go.gh y
            have inv6 := inv5.step g6
            have er6 := (er3.mono ((g3.gg.trans g4.gg).trans (e45.trans g6.gg))).wipe vs1
            refine tgd1.run x es[j] _ ρ2 _ G6 H' _ g6.gh er6 r6 k4 fun σ7 er7 ho7 hl7 => ⟨?_, ?_⟩
            · rw [wipe_eq (σ := L2.wipe σ3 vs1) (fun j hj => ho7 j fun z => hj (ho1 j z)) hl7, wipe_wipe]
            refine ⟨G6, ρ2, kk, g6.gh, er7, k6, fun H7 G7 g7 => ?_⟩
            have inv7 := inv6.step g7
            cases kk with
            | true =>
              rw [if_pos rfl] at k7
              refine iteT ?_
              obtain ⟨y, k8, k9⟩ := Option.bind_eq_some_iff.mp k7
              obtain ⟨res', k10, rfl⟩ := Option.map_eq_some_iff.mp k9
              refine ⟨G7, ρ2, y, g7.gh, er7.mono g7.gg, k8, fun v H8 G8 g8 r8 => ?_⟩
              obtain ⟨acc, m1, m2, m3⟩ := (inv7.step g8).put hD (by omega) r8
              exact ⟨acc, m1, m2, G8, _, res', m3, e45.trans ((g6.gg.trans g7.gg).trans g8.gg), k10, by rw [List.append_assoc]; exact hout5⟩
            | false =>
              rw [if_neg Bool.false_ne_true] at k7
              refine iteF ?_
              exact ⟨G7, done', res5, inv7.skip (by omega), e45.trans (g6.gg.trans g7.gg), k7, hout5⟩
          · have e : j = es.length := by omega
            subst e
            refine .inl ⟨wk1.stop H5 (e45.trans inv5.go.gh), ?_⟩
            rw [List.drop_eq_nil_of_le (Nat.le_refl _)] at hres5
            cases hres5
            rw [List.append_nil] at hout5
            subst hout5
            exact ⟨G5, _, res', inv5.skip (by omega), h12, by rw [List.append_assoc]; exact hout⟩
        · cases h9
      | false =>
        rw [if_neg Bool.false_ne_true] at h7
        refine iteF ?_
        exact ⟨G3, done, res, inv3.skip (by omega), h7, hout⟩
    · have e : i = ds.length := by omega
      subst e
      refine .inl ⟨wk.stop H (inv.go.gg.trans inv.go.gh), ?_⟩
      rw [List.drop_eq_nil_of_le (Nat.le_refl _)] at hres
      cases hres
      rw [List.append_nil] at hout
      subst hout
      exact inv.fin hD (DQ.go g1' q)
  · cases h2
theorem pd_lc2 (hc : X.calm = true) (hN : X.N.Nodup) (hi : PDI X tg iter L) (ok : BlkOk X.N X.env.scope scope own) (hv : ∀ i ∈ vs1, i ∈ own.map (·.2)) (tgd : TgD X.K own1 g B) (ho : ∀ j ∈ own1, j ∈ own.map (·.2)) (tgd1 : TgD X.K own2 g1 B1) (ho1 : ∀ j ∈ own2, j ∈ vs1)
    (hg : ∀ (s : Shared) (H : Hp) (C : Addr) (cl : List (Str × Addr)) (fp : List Addr), PG (X.blk s H scope (compEnvC scope cl C X.env) fp) tg g) (ht : ∀ (s : Shared) (H : Hp) (C : Addr) (cl : List (Str × Addr)) (fp : List Addr), PDTs (X.blk s H scope (compEnvC scope cl C X.env) fp) ifs T)
    (hi1 : ∀ (s : Shared) (H : Hp) (C : Addr) (cl : List (Str × Addr)) (fp : List Addr), PDI (X.blk s H scope (compEnvC scope cl C X.env) fp) tg1 iter1 L1)
    (hg1 : ∀ (s : Shared) (H : Hp) (C : Addr) (cl : List (Str × Addr)) (fp : List Addr), PG (X.blk s H scope (compEnvC scope cl C X.env) fp) tg1 g1) (ht1 : ∀ (s : Shared) (H : Hp) (C : Addr) (cl : List (Str × Addr)) (fp : List Addr), PDTs (X.blk s H scope (compEnvC scope cl C X.env) fp) ifs1 T1)
    (he : ∀ (s : Shared) (H : Hp) (C : Addr) (cl : List (Str × Addr)) (fp : List Addr), PD (X.blk s H scope (compEnvC scope cl C X.env) fp) elt F) (hs : ∀ x, foldedSetIterable iter X.env x = pure x := by intro _; rfl) (hs1 : ∀ env x, foldedSetIterable iter1 env x = pure x := by intro _ _; rfl) :
    PD X (.ListComp elt [⟨tg, iter, ifs, 0⟩, ⟨tg1, iter1, ifs1, 0⟩] scope pos) (lc2D (own.map (·.2)) vs1 L B T L1 B1 T1 F) := weakE (pe_lc2 hc hN hi ok hv hg ht hi1 hg1 ht1 he hs hs1) fun _ _ _ h => lc2_in tgd ho tgd1 ho1 h
theorem pds_setLc2 {i : Nat} {y : Str} (hc : X.calm = true) (hN : X.N.Nodup) (hy : X.N[i]? = some y) (hyl : X.env.scope.names.lookup y = some .local)
    (hsw : swapsWith (.ListComp elt [⟨tg, iter, ifs, 0⟩, ⟨tg1, iter1, ifs1, 0⟩] scope pos) (some (.Name y py)) spos.line X.env = pure true) (hi : PDI X tg iter L) (ok : BlkOk X.N X.env.scope scope own) (hv : ∀ i ∈ vs1, i ∈ own.map (·.2)) (tgd : TgD X.K own1 g B) (ho : ∀ j ∈ own1, j ∈ own.map (·.2)) (tgd1 : TgD X.K own2 g1 B1) (ho1 : ∀ j ∈ own2, j ∈ vs1)
    (hg : ∀ (s : Shared) (H : Hp) (C : Addr) (cl : List (Str × Addr)) (fp : List Addr), PG (X.blk s H scope (compEnvC scope cl C X.env) fp) tg g) (ht : ∀ (s : Shared) (H : Hp) (C : Addr) (cl : List (Str × Addr)) (fp : List Addr), PDTs (X.blk s H scope (compEnvC scope cl C X.env) fp) ifs T)
    (hi1 : ∀ (s : Shared) (H : Hp) (C : Addr) (cl : List (Str × Addr)) (fp : List Addr), PDI (X.blk s H scope (compEnvC scope cl C X.env) fp) tg1 iter1 L1)
    (hg1 : ∀ (s : Shared) (H : Hp) (C : Addr) (cl : List (Str × Addr)) (fp : List Addr), PG (X.blk s H scope (compEnvC scope cl C X.env) fp) tg1 g1) (ht1 : ∀ (s : Shared) (H : Hp) (C : Addr) (cl : List (Str × Addr)) (fp : List Addr), PDTs (X.blk s H scope (compEnvC scope cl C X.env) fp) ifs1 T1)
    (he : ∀ (s : Shared) (H : Hp) (C : Addr) (cl : List (Str × Addr)) (fp : List Addr), PD (X.blk s H scope (compEnvC scope cl C X.env) fp) elt F) (hs : ∀ x, foldedSetIterable iter X.env x = pure x := by intro _; rfl) (hs1 : ∀ env x, foldedSetIterable iter1 env x = pure x := by intro _ _; rfl) :
    PDS X (.Assign [.Name y py] (.ListComp elt [⟨tg, iter, ifs, 0⟩, ⟨tg1, iter1, ifs1, 0⟩] scope pos) spos) (setD i (lc2D (own.map (·.2)) vs1 L B T L1 B1 T1 F)) := weakS (ps_setLc2 hc hN hy hyl hsw hi ok hv hg ht hi1 hg1 ht1 he hs hs1) (set_in fun _ _ _ h => lc2_in tgd ho tgd1 ho1 h)
end
/-! ### a def -/
def startD (n : Nat) (ds : List PyData) : DE := ds.map some ++ List.replicate (n - ds.length) none
/-- what a def's body makes of its arguments -/
def runD (n m : Nat) (S : DS) : DC := fun ds => if ds.length = m then (S (startD n ds)).bind fun r => match r with
  | .nx _ => some .none
  | .rt d => some d
  else none
theorem start_rd {K : PySem.W.Frag} {G : Hp} {N : List Str} {vs : List V} {ds : List PyData} (r : RDs K G vs ds) : EnvR K G (L2.start N vs) (startD N.length ds) := by
  have hl := r.length
  refine ⟨by unfold startD L2.start; simp [hl], fun i d h => ?_⟩
  unfold startD at h
  by_cases hi : i < ds.length
  · rw [List.getElem?_append_left (by simpa using hi), List.getElem?_map] at h
    obtain ⟨d', h1, h2⟩ := Option.map_eq_some_iff.mp h
    cases h2
    obtain ⟨v, h3, h4⟩ := r.get i d h1
    refine ⟨v, ?_, h4⟩
    unfold L2.start
    rw [List.getElem?_append_left (by simpa [hl] using hi), List.getElem?_map, h3]
    rfl
  · rw [List.getElem?_append_right (by simpa using hi)] at h
    rw [List.getElem?_replicate] at h
    split at h <;> cases h
theorem fn_D {P : Program} {w : World} {K : PySem.W.Frag} {mg : Str → Option Value} {base : Heap} {x qual : Str} {st : Stmt} {f : Addr} {fd : FuncData} {N ps : List Str} {k : Nat} {S : DS} (F : Fun K x qual st f fd) (sc : FnScope N ps (defScope st))
    (h : ∀ (cdv : Value) (A : Around) (outer : List Env) (s : Shared) (H : Hp) (E : XK), Room k (A.deeper (envOfC qual (defScope st) s.heap.objs.size f cdv)) → PDSs (cxOf CX0 P w K mg base N qual (defScope st) f cdv A outer s H E).nox (defBody st) S) :
    FnOk P w K mg base CX0 (k + 1) f fd ps (spD K (runD N.length ps.length S)) := by
  refine F.ok sc (fun vs H Q E h => ?_) (fun cdv A outer s H vs Q E hr hq => ?_)
  · obtain ⟨G, ds, d, eg, r, h, q⟩ := h
    unfold runD at h
    split at h
    · rw [r.length]; assumption
    · cases h
  · obtain ⟨G, ds, d, eg, r, hf, q⟩ := hq
    refine ⟨_, h cdv A outer s H E hr, ?_⟩
    unfold runD at hf
    split at hf
    · obtain ⟨rs, h1, h2⟩ := Option.bind_eq_some_iff.mp hf
      refine ⟨G, _, rs, eg, start_rd r, h1, ?_⟩
      cases rs with
      | nx ρ =>
        cases h2
        exact fun σ' H' G' g _ => q .non H' G' g .non
      | rt d' =>
        cases h2
        exact q
    · cases hf
/-- another function that answers as this one -/
theorem FnOk.dmono {P : Program} {w : World} {K : PySem.W.Frag} {mg : Str → Option Value} {base : Heap} {f : Addr} {fd : FuncData} {ps : List Str} {k : Nat} {g g' : DC} (F : FnOk P w K mg base CX0 k f fd ps (spD K g)) (h : ∀ ds d, g' ds = some d → g ds = some d) :
    FnOk P w K mg base CX0 k f fd ps (spD K g') := F.imp fun vs H Q E ⟨G, ds, d, eg, r, h1, q⟩ => ⟨G, ds, d, eg, r, h ds d h1, q⟩
end DL

set_option Elab.async false
set_option linter.all false
set_option maxRecDepth 100000
set_option maxHeartbeats 4000000
namespace DL
open PySem PySem.Spec PyProof.Rows L2 Evl
section
variable {X : Cx} {a b c e : Expr} {es : List Expr} {F F1 F2 F3 : DF} {pos : Pos}
/-- == of scalars -/
theorem scal_rd {K : PySem.W.Frag} {G : Hp} {v u : V} {d e : PyData} (f : flatD d = true) (f' : flatD e = true) (r : RD K G v d) (r' : RD K G u e) : scal v u = true ∧ decide (v = u) = eqF d e := by
  cases r <;> first | (simp [flatD] at f; done) | skip
  all_goals (cases r' <;> first | (simp [flatD] at f'; done) | skip)
  all_goals (refine ⟨rfl, ?_⟩; simp [eqF])
  all_goals (rename_i a b; by_cases h : a = b <;> simp [h])
def eqFD : D2 := fun d e => if flatD d = true ∧ flatD e = true then some (.bool (eqF d e)) else none
def neFD : D2 := fun d e => if flatD d = true ∧ flatD e = true then some (.bool (!eqF d e)) else none
theorem od_eqF : OD X (compareOp .Eq) eqFD := by
  refine OD.weak op_eq ?_
  rintro x y H Q ⟨G, d, e, r, eg, r1, r2, h, q⟩
  unfold eqFD at h
  split at h
  · rename_i hh
    cases h
    obtain ⟨h1, h2⟩ := scal_rd hh.1 hh.2 r1 r2
    refine ⟨h1, ?_⟩
    rw [h2]
    exact q _ H G (Go.refl eg) (.bl _)
  · cases h
theorem od_neF : OD X (compareOp .NotEq) neFD := by
  refine OD.weak op_ne ?_
  rintro x y H Q ⟨G, d, e, r, eg, r1, r2, h, q⟩
  unfold neFD at h
  split at h
  · rename_i hh
    cases h
    obtain ⟨h1, h2⟩ := scal_rd hh.1 hh.2 r1 r2
    refine ⟨h1, ?_⟩
    rw [h2]
    exact q _ H G (Go.refl eg) (.bl _)
  · cases h
/-- one sign in a text -/
def oneSign (z : Str) : Option Nat := match z.cps.toList with
  | [c] => some c
  | _ => none
theorem oneSign_some {z : Str} {c : Nat} (h : oneSign z = some c) : z = ⟨#[c]⟩ := by
  unfold oneSign at h
  split at h
  · rename_i hc
    cases h
    cases z with
    | mk cps =>
      have e : cps = #[c] := by
        apply Array.toList_inj.mp
        exact hc
      rw [e]
  · cases h
def inSg : D2
  | .str i, .str j => (oneSign i).map fun c => .bool (decide (c ∈ j.cps.toList))
  | _, _ => none
theorem od_inSg : OD X (compareOp .In) inSg := by
  refine OD.weak op_in_sign ?_
  rintro x y H Q ⟨G, d, e, r, eg, r1, r2, h, q⟩
  unfold inSg at h
  split at h
  · obtain ⟨c, hc, h2⟩ := Option.map_eq_some_iff.mp h
    subst h2
    cases r1; cases r2
    exact ⟨c, _, by rw [oneSign_some hc], rfl, q _ H G (Go.refl eg) (.bl _)⟩
  · cases h
/-- < of alike data -/
def ltDD (d e : PyData) : Bool := okEq d && okEq e && PySem.W.alike d e && !isNoneD d
def ltD : D2 := fun d e => if ltDD d e = true then some (.bool (PySem.W.dataLt d e)) else none
theorem od_ltD (hu : X.A.units + 64 < cLine) : OD X (compareOp .Lt) ltD := by
  intro pins s σ H x y v u Q I rx ry h
  obtain ⟨G, d, e, r, eg, r1, r2, h, q⟩ := h
  unfold ltD at h
  split at h
  · rename_i hh
    cases h
    unfold ltDD at hh
    simp only [Bool.and_eq_true, Bool.not_eq_true'] at hh
    obtain ⟨⟨⟨h1, h2⟩, h3⟩, h4⟩ := hh
    obtain ⟨s1, n1⟩ := okEq_and h1
    obtain ⟨s2, n2⟩ := okEq_and h2
    obtain ⟨as, q1⟩ := Dp.reads I d x v (RD.dp d x n1 (r1.mono eg)) rx
    obtain ⟨bs, q2⟩ := Dp.reads I e y u (RD.dp e y n2 (r2.mono eg)) ry
    have dl : d.depth ≤ 64 := by
      unfold SeqAt.shaped at s1
      rw [Bool.and_eq_true, decide_eq_true_eq] at s1
      exact s1.2
    have key := PySem.W.rcLt_alike d e X.A s v u as bs q1 q2 h3 (fun z => by rw [z] at h4; cases h4) (by omega) X.prog X.w X.xe (EP X pins σ Q) ⟨.bl _, H, I, rfl, q _ H G (Go.refl eg) (.bl _)⟩
    exact key
  · cases h
/-- a text's key in a written dict -/
def inKD (ks : List (Str × Bool)) : DF → DF := fun F ρ => (F ρ).bind fun d => match d with
  | .str z => (ks.lookup z).map .bool
  | _ => none
theorem pd_inK {dn : Str} {d : Addr} {es : Array DictEntry} {n : Nat} {p : Pos} {ks : List (Str × Bool)} (D : KDict X.K X.w d es n) (hks : ∀ z k, ks.lookup z = some k → ∃ r, PySem.W.nsIn X.K d z = some r ∧ r.isSome = k) (hg : Gl X dn) (hm : X.mg dn = some (.ref d)) (ha : PD X a F)
    (hdb : (dn == ("__debug__" : Str)) = false := by decide) (hmk : behindInMarks .In (.Name dn p) = false := by rfl) : PDT X (.Compare a [.In] [.Name dn p] pos) (fun ρ => (inKD ks F ρ).bind asB) := by
  refine weakT (pt_cmpR (op_in_kd D) ha (pe_glob (v := .ref d) hg hm rfl hdb) hmk) fun σ H Q => ?_
  rintro ⟨G, ρ, b, eg, er, hf, q⟩
  obtain ⟨x, h1, h2⟩ := Option.bind_eq_some_iff.mp hf
  obtain ⟨d', h3, h4⟩ := Option.bind_eq_some_iff.mp h1
  refine ⟨G, ρ, d', eg, er, h3, fun v H1 G1 g1 r1 => ?_⟩
  split at h4
  · obtain ⟨k, h5, h6⟩ := Option.map_eq_some_iff.mp h4
    subst h6
    cases h2
    cases r1
    obtain ⟨r, h7, h8⟩ := hks _ _ h5
    exact ⟨_, r, rfl, rfl, h7, _, rfl, by rw [h8]; exact q H1 G1 g1⟩
  · cases h4
/-- sep.join(list of texts) -/
def strsD : List PyData → Option (List Str)
  | [] => some []
  | .str z :: ds => (strsD ds).map (z :: ·)
  | _ :: _ => none
theorem strs_rd {K : PySem.W.Frag} {G : Hp} : ∀ {vs : List V} {ds : List PyData} {bs : List Str}, RDs K G vs ds → strsD ds = some bs → vs = bs.map V.str
  | _, _, _, .nil, h => by cases h; rfl
  | _, d :: ds, _, .cons r t, h => by
    cases r with
    | str z =>
      obtain ⟨bs, h3, rfl⟩ := Option.map_eq_some_iff.mp (show (strsD ds).map (z :: ·) = some _ from h)
      rw [strs_rd t h3]
      rfl
    | _ => cases h
def joinD : D2
  | .str a, .list ds => (strsD ds).bind fun ys => if (ys.map (·.length)).sum + ys.length * a.length ≤ 16777216 then some (.str (Txt.join a ys)) else none
  | _, _ => none
theorem pd_join {o e : Expr} {apos : Pos} (ho : PD X o F1) (he : PD X e F2) (hs : starEach [e] X.env = [(false, eval e X.env)] := by rfl) (hbase : attributeBase o "join" X.env (eval o X.env) = eval o X.env := by rfl) (hline : (apos.endLine == pos.line) = true := by rfl) :
    PD X (.Call (.Attribute o "join" apos) [e] [] pos) (b2 joinD F1 F2) := by
  refine weakE (pe_join ho he hs hbase hline) fun σ H Q h => ?_
  obtain ⟨G, ρ, d, eg, er, hf, q⟩ := h
  obtain ⟨x, h1, hf⟩ := Option.bind_eq_some_iff.mp hf
  obtain ⟨y, h2, hf⟩ := Option.bind_eq_some_iff.mp hf
  unfold joinD at hf
  split at hf
  · obtain ⟨ys, h3, h4⟩ := Option.bind_eq_some_iff.mp hf
    split at h4
    · cases h4
      refine ⟨G, ρ, _, eg, er, h1, fun v H1 G1 g1 r1 => ?_⟩
      cases r1
      refine ⟨⟨_, rfl⟩, G1, ρ, _, g1.gh, er.mono g1.gg, h2, fun u H2 G2 g2 r2 => ?_⟩
      cases r2 with
      | lst s1 t1 =>
        rw [strs_rd t1 h3] at s1
        exact ⟨_, _, ys, rfl, rfl, .inl (ex_l g2.gh s1), by assumption, q _ H2 G2 (g1.trans g2) (.str _)⟩
    · cases h4
  · cases hf
end
/-! ### a, *b = a tuple -/
section
variable {prog : Program} {w : World} {A : Around} {E : Value → Shared → Prop} {s : Shared}
theorem unpackStar {t : Addr} {items : Array Value} {x : Value} {rest : List Value} {Q : List Value → Shared → Prop} (hh : A.handled = none) (ht : IsTup s.heap t items) (hi : items.toList = x :: rest) (hz : items.size ≤ 1000)
    (hQ : ∀ (h' : Heap) (tk : Nat), (∀ b o, s.heap.get? b = some o → h'.get? b = some o) → Q [x, .ref h'.objs.size] { s with heap := h'.push { cls := .type "list", data := .seq rest.toArray }, toks := tk }) :
    wpAny (model prog w) A (unpackItems (.ref t) 2 (some 1)) Q E s := by
  have hlt : t ≠ s.heap.objs.size := by obtain ⟨o, ho, _⟩ := ht; exact Nat.ne_of_lt (Heap.lt_size ho)
  have hsz : items.size = rest.length + 1 := by rw [← Array.length_toList, hi]; rfl
  unfold unpackItems
  refine wpAny_bind ?_
  unfold notIterableAtAll
  refine wpAny_bind (wpAny_specialOf ht.typeIs slot_tuple_iter.lookup ?_)
  refine wpAny_pure ?_
  simp only [Bool.false_eq_true, if_false]
  refine wpAny_bind (wpAny_holding (iter_tuple ht ?_))
  refine wpAny_bind (wpAny_holding (draw_tuple hlt 1 0 _ _ ⟨_, Heap.get?_push_size _ rfl, rfl, rfl⟩ (ht.push _) (by omega) fun h₁ hit₁ hs₁ => ?_))
  rw [hi]
  have ht₁ : IsTup h₁ t items := (ht.push _).extBut hs₁.extBut hlt
  have W := (Walks.tuple (prog := prog) (w := w) (A := A.in1) hh s.heap.objs.size t hlt items)
  have W1 : Walks prog w A.in1 s.heap.objs.size [s.heap.objs.size, t] [s.heap.objs.size] rest.length (fun i v => items[i + 1]? = some v) (fun i h => h.IsTupleIter s.heap.objs.size t (i + 1) ∧ h.IsTuple t items) :=
    ⟨W.sub, fun i => W.frame (i + 1), fun i s Q E hi st hQ => W.item (i + 1) s Q E (by omega) st hQ, fun s Q E st hQ => W.done s Q E (by rw [hsz]; exact st) hQ, fun i => W.self (i + 1)⟩
  refine wpAny_bind (wpAny_holding (wpAny_collect_iter (T := "tuple_iterator") (.inr (.inr (.inr rfl))) W1.toS (fun i s st => ?_) ⟨hit₁, ht₁⟩ (fun b hb => ?_) (by simp) (fun s' acc mv ha => ?_) (by rw [sizeLine_eq]; omega)))
  · obtain ⟨o, ho, hc, _⟩ := st.1
    exact ⟨o, ho, hc⟩
  · obtain ⟨o, ho, _⟩ := hit₁
    obtain ⟨o2, ho2, _⟩ := ht₁
    simp only [List.mem_cons, List.not_mem_nil, or_false] at hb
    rcases hb with rfl | rfl
    · exact Heap.lt_size ho
    · exact Heap.lt_size ho2
  · have eacc : acc.toList = rest := by
      apply List.ext_getElem?
      intro j
      by_cases hj : j < rest.length
      · obtain ⟨v, hv⟩ : ∃ v, acc[j]? = some v := ⟨_, Array.getElem?_eq_getElem (by rw [ha.1]; exact hj)⟩
        have h2 : items[j + 1]? = some v := ha.2 j v hv
        rw [← Array.getElem?_toList, hi, List.getElem?_cons_succ] at h2
        rw [Array.getElem?_toList, hv, h2]
      · rw [List.getElem?_eq_none (by rw [Array.length_toList, ha.1]; omega), List.getElem?_eq_none (by omega)]
    rw [eacc]
    simp only [List.drop_zero, List.take_succ_cons, List.take_zero, List.length_cons, List.length_nil]
    rw [if_neg (by simp)]
    simp only [Nat.add_sub_cancel, Nat.sub_self, Nat.sub_zero, List.take_length, List.drop_length]
    refine wpAny_bind (wpAny_newObj_type ?_ (by show rest.toArray.size ≤ sizeLine; rw [sizeLine_eq, List.size_toArray]; omega))
    obtain ⟨hp', g', d', t', o'⟩ := s'
    obtain ⟨m1, m2, m3, m4, m5⟩ := mv
    simp only at m1 m2 m3 m4 m5
    subst m2 m3 m4
    refine wpAny_pure (hQ hp' t' fun b o eo => m1 b o (fun hb => ?_) (hs₁.extBut b o (fun hb => ?_) (Heap.get?_push_of_some _ eo)))
    · simp only [List.mem_cons, List.not_mem_nil, or_false] at hb
      subst hb
      exact absurd (Heap.lt_size eo) (Nat.lt_irrefl _)
    · subst hb
      exact absurd (Heap.lt_size eo) (Nat.lt_irrefl _)
end
section
variable {X : Cx} {a b c e : Expr} {F : DF} {pos : Pos}
def gStar (K : PySem.W.Frag) (i j : Nat) : TG := fun v σ H Q => ∃ t x xs, v = .ref t ∧ SqT K H t (x :: xs) ∧ xs.length ≤ 999 ∧ ∀ p, H p = none → Q ((σ.set i (some x)).set j (some (.ref p))) (upd H p (.lst xs))
theorem pg_star {i j : Nat} {x y : Str} {px py ps pt : Pos} {k : Nat} (hc : X.calm = true) (h1 : PG X (.Name x px) (gName i)) (h2 : PG X (.Name y py) (gName j)) : PG X (.Tuple [.Name x px, .Starred (.Name y py) ps] k pt) (gStar X.K i j) := by
  refine ⟨fun pins s σ H v u Q I r hw => ?_⟩
  obtain ⟨t, x0, xs, rfl, hq, hl, hw⟩ := hw
  cases r
  obtain ⟨its, rv, ht, hz⟩ := I.tuple hq
  cases rv with
  | cons r0 rt =>
    rename_i u0 us
    rw [assign_Tuple]
    refine wpAny_bind (wpAny_standAt ?_)
    unfold unpack
    have e1 : (assignEach [.Name x px, .Starred (.Name y py) ps] X.env) = [(false, assign (.Name x px) X.env), (true, assign (.Name y py) X.env)] := rfl
    rw [e1]
    have hlen := rt.length
    refine wpAny_bind (wpAny_holding ?_)
    refine unpackStar (items := (u0 :: us).toArray) (I.ok.hd hc) ht rfl (by rw [List.size_toArray, List.length_cons]; omega) fun h' tk hk => ?_
    have I1 : Inv X pins σ H { s with heap := h', toks := tk } := I.kept hk
    have I2 : Inv X pins σ (upd H h'.objs.size (.lst xs)) { s with heap := h'.push { cls := .type "list", data := .seq us.toArray }, toks := tk } := by
      refine I1.laid (t' := tk) (fun b o eo => Heap.get?_push_of_some _ eo) (Nat.le_refl _) ⟨sz_of (by omega), us, 0, rt, Heap.get?_push_size _ rfl⟩
    have hn : H h'.objs.size = none := I1.hok.fresh (Nat.le_refl _)
    have q := hw _ hn
    show wpAny _ _ (assignInOrder [assign (.Name x px) X.env, assign (.Name y py) X.env] [u0, .ref h'.objs.size]) _ _ _
    refine assignInOrder_cons (thn (h1.run pins _ σ _ x0 u0 (fun σ' H' => σ' = σ.set i (some x0) ∧ H' = upd H h'.objs.size (.lst xs)) I2 r0 ⟨rfl, rfl⟩) fun _ s1 ⟨σ1, H1, I3, e3, e4⟩ => ?_)
    subst e3 e4
    refine assignInOrder_cons (thn (h2.run pins _ _ _ (.ref h'.objs.size) (.ref h'.objs.size) (fun σ' H' => Q σ' H') I3 rfl q) fun _ s2 ⟨σ2, H2, I4, q4⟩ => ?_)
    exact assignInOrder_nil ⟨σ2, H2, I4, q4⟩
def starD (i j : Nat) (F : DF) : DS := fun ρ => (F ρ).bind fun d => match d with
  | .tuple (x :: xs) => if xs.length ≤ 900 then some (.nx ((ρ.set i (some x)).set j (some (.list xs)))) else none
  | _ => none
theorem pds_star {tg : Expr} {i j : Nat} (h : PD X e F) (hg : PG X tg (gStar X.K i j)) (hs : swapsWithSole [tg] e pos.line X.env = pure false := by rfl) (hw : swappedStores [tg] e X.env = pure none := by rfl)
    (h1 : (assignEach [tg] X.env).map (·.2) = [assign tg X.env] := by rfl) : PDS X (.Assign [tg] e pos) (starD i j F) := weakS (ps_asg h hg hs hw h1) fun D σ H => by
  rintro ⟨G, ρ, r, eg, er, h, q⟩
  obtain ⟨d, h1, h2⟩ := Option.bind_eq_some_iff.mp h
  refine ⟨G, ρ, d, eg, er, h1, fun v H1 G1 g r1 => ?_⟩
  split at h2
  · split at h2
    · rename_i hl
      cases h2
      cases r1 with
      | tup s1 t1 =>
        cases t1 with
        | cons r2 t2 =>
          rename_i a0 v0 vs0
          refine ⟨_, _, _, rfl, ex_t g.gh s1, by rw [t2.length]; omega, fun p hp => ?_⟩
          have gn := Go.new (o := .lst vs0) g.gh hp
          exact q _ _ _ (g.trans gn) ((((er.mono g.gg).mono gn.gg).set (r2.mono gn.gg) i).set (rd_newL (fresh_back g.gh hp) t2) j)
    · cases h2
  · cases h2
end
end DL

set_option Elab.async false
set_option linter.all false
set_option maxRecDepth 100000
set_option maxHeartbeats 4000000
namespace DL
open PySem PySem.Spec PyProof.Rows L2 Evl
theorem nodup_len {α : Type} [DecidableEq α] : ∀ (l m : List α), l.Nodup → (∀ x ∈ l, x ∈ m) → l.length ≤ m.length
  | [], _, _, _ => Nat.zero_le _
  | x :: l, m, hn, hs => by
    obtain ⟨h1, h2⟩ := List.nodup_cons.mp hn
    have hx := hs x List.mem_cons_self
    have ih := nodup_len l (m.erase x) h2 fun y hy => (List.mem_erase_of_ne (fun e => h1 (by rw [← e]; exact hy))).mpr (hs y (List.mem_cons_of_mem _ hy))
    have hl := List.length_erase_of_mem hx
    have hp : 0 < m.length := List.length_pos_of_mem hx
    show l.length + 1 ≤ m.length
    omega
def lenSetD : PyData → Option PyData
  | .tuple ds => (intsD ds).bind fun ns => if ns.Nodup ∧ ns.length ≤ 1000 then some (.int ns.length) else none
  | _ => none
theorem pd_lenset {X : Cx} {a : Expr} {F : DF} {p p2 q pos : Pos} (hc : X.calm = true) (hg : Gl X "len") (hm : X.mg "len" = none) (hg2 : Gl X "set") (hm2 : X.mg "set" = none) (ha : PD X a F)
    (na : starEach [a] X.env = (false, eval a X.env) :: starEach [] X.env := by rfl) : PD X (.Call (.Name "len" p) [.Call (.Name "set" p2) [a] [] q] [] pos) (fun ρ => (F ρ).bind lenSetD) := by
  refine ⟨fun pins s σ H Q I h => ?_⟩
  obtain ⟨G, ρ, d, eg, er, hf, hq⟩ := h
  obtain ⟨x, h1, h2⟩ := Option.bind_eq_some_iff.mp hf
  refine Call_ (ld_blt I hg hm PySem.boot_len ?_)
  refine PyProof.Rows.callWith_builtin1 (PyProof.Rows.args_cons ?_ rfl) rfl rfl
  refine Call_ (ld_blt I hg2 hm2 PyProof.Rows.boot_set ?_)
  refine PyProof.Rows.callWith_type1 (PyProof.Rows.args_cons (thn (ha.run pins s σ H (fun v H1 => ∃ (t : Addr) (ns : List Int), v = .ref t ∧ SqT X.K H1 t (ns.map V.int) ∧ ns.Nodup ∧ ns.length ≤ 1000 ∧ Q (.int ns.length) H1) I ⟨G, ρ, x, eg, er, h1, fun v H1 G1 g1 r1 => ?_⟩) fun v s1 ⟨x, H1, I1, r1, q1⟩ => PyProof.Rows.args_nil ?_) na) na rfl
  · unfold lenSetD at h2
    split at h2
    · obtain ⟨ns, h3, h4⟩ := Option.bind_eq_some_iff.mp h2
      split at h4
      · rename_i hh
        cases h4
        cases r1 with
        | tup s1 t1 =>
          rw [ints_rd t1 h3] at s1
          exact ⟨_, ns, rfl, ex_t g1.gh s1, hh.1, hh.2, hq _ H1 G1 g1 (.int _)⟩
      · cases h4
    · cases h2
  · obtain ⟨l, ns, rfl, hs, hnd, hl, q1⟩ := q1
    cases r1
    obtain ⟨its, r, pl, hz⟩ := I1.tuple hs
    refine call_set_tupI (P := X.prog) (w := X.w) ns (I1.ok.hd hc) pl (by simpa using r.ints) (by unfold scanBound; omega) fun h' tk c hS hc' hk => ?_
    refine PyProof.Rows.args_nil ?_
    obtain ⟨o, es, ep, t, ho, hex, hd, _, hn, hmem, hb, hf, hsz, _⟩ := hS
    have I2 : Inv X pins σ H1 { s1 with heap := h', toks := tk } := I1.kept hk
    have e1 : ns.length ≤ es.size := by
      have := nodup_len ns (es.toList.map keyOf) hnd fun z hz => (hmem z).mp (decide_eq_true hz)
      rw [List.length_map, Array.length_toList] at this
      exact this
    have e2 : es.size = ns.length := by omega
    exact call_len_set ho hex hd hf (by rw [e2]; omega) ⟨.int ns.length, H1, I2.tok _, ⟨_, by rw [e2]⟩, q1⟩
end DL

set_option Elab.async false
set_option linter.all false
set_option maxRecDepth 100000
set_option maxHeartbeats 4000000
/-! A list comprehension of three clauses. -/
namespace DL
open PySem PySem.Spec PyProof.Rows L2 Evl
section
variable {prog : Program} {w : World} {A : Around} {R : Result → Shared → Prop} {s : Shared} {elt t0 i0 t1 i1 t2 i2 : Expr} {ifs0 ifs1 ifs2 : List Expr} {scope : Scope} {pos : Pos} {it acc : Value} {env : Env}
abbrev three (elt t0 i0 t1 i1 t2 i2 : Expr) (ifs0 ifs1 ifs2 : List Expr) (scope : Scope) (pos : Pos) : Expr := .ListComp elt [⟨t0, i0, ifs0, 0⟩, ⟨t1, i1, ifs1, 0⟩, ⟨t2, i2, ifs2, 0⟩] scope pos
/-- a turn of a clause that is not the last -/
def outTurn (ex : Expr) (k : Nat) (i t i' : Expr) (ifs : List Expr) (it acc : Value) (env : Env) : Sem PySem.Fin := do
  standAt i.pos
  match ← pyNext it with
  | none => pure (.done .next)
  | some v =>
    letOwnedTupleGo t it v
    assign t env v
    let mut ok := true
    for c in ifs do
      if ok then ok ← isTrue c env (eval c env)
    if ok then
      let x ← eval i' env
      standAt i'.pos
      let x ← foldedSetIterable i' env x
      let _ ← runOwn (.compStart ex (k + 1) (← holding [x] (pyIter x)) acc env) env
    again (.compLoop ex k it acc env)
/-- .. of the last -/
def inTurn (ex : Expr) (k : Nat) (i t elt : Expr) (ifs : List Expr) (it acc : Value) (env : Env) : Sem PySem.Fin := do
  standAt i.pos
  match ← pyNext it with
  | none => pure (.done .next)
  | some v =>
    letOwnedTupleGo t it v
    assign t env v
    let mut ok := true
    for c in ifs do
      if ok then ok ← isTrue c env (eval c env)
    if ok then
      (do let _ ← call (.builtin "list.append") [acc, ← eval elt env])
    again (.compLoop ex k it acc env)
theorem turn3_0 : compTurn (three elt t0 i0 t1 i1 t2 i2 ifs0 ifs1 ifs2 scope pos) 0 it acc env = outTurn (three elt t0 i0 t1 i1 t2 i2 ifs0 ifs1 ifs2 scope pos) 0 i0 t0 i1 ifs0 it acc env := by rfl
theorem turn3_1 : compTurn (three elt t0 i0 t1 i1 t2 i2 ifs0 ifs1 ifs2 scope pos) 1 it acc env = outTurn (three elt t0 i0 t1 i1 t2 i2 ifs0 ifs1 ifs2 scope pos) 1 i1 t1 i2 ifs1 it acc env := by rfl
theorem turn3_2 : compTurn (three elt t0 i0 t1 i1 t2 i2 ifs0 ifs1 ifs2 scope pos) 2 it acc env = inTurn (three elt t0 i0 t1 i1 t2 i2 ifs0 ifs1 ifs2 scope pos) 2 i2 t2 elt ifs2 it acc env := by rfl

def okR (P : Shared → Prop) : Result → Shared → Prop := fun r s' => match r with
  | .ok _ => P s'
  | .error _ => False
/-- the loop of a clause that is not the last, nothing raised -/
theorem loop3_out {i t i' : Expr} {k : Nat} {ifs : List Expr} (P : Shared → Prop) (htn : compTurn (three elt t0 i0 t1 i1 t2 i2 ifs0 ifs1 ifs2 scope pos) k it acc env = outTurn (three elt t0 i0 t1 i1 t2 i2 ifs0 ifs1 ifs2 scope pos) k i t i' ifs it acc env)
    (hs : ∀ x, foldedSetIterable i' env x = pure x) (J : Nat → Shared → Prop)
    (turn : ∀ n s, J n s → wpAny (model prog w) A (pyNext it) (fun r s₁ => match r with
      | none => R (.ok .next) s₁
      | some v => wpAny (model prog w) A (letOwnedTupleGo t it v) (fun _ s₂ => wpAny (model prog w) A (assign t env v) (fun _ s₃ =>
          wpAny (model prog w) A (forIn ifs true fun c r => if r = true then do let ok ← isTrue c env (eval c env); pure (ForInStep.yield ok) else pure (ForInStep.yield r)) (fun ok s₄ =>
            if ok = true then wpAny (model prog w) A (eval i' env) (fun x s₅ => wpAny (model prog w) A (pyIter x) (fun it1 s₆ =>
              codeAny (model prog w) A (.compStart (three elt t0 i0 t1 i1 t2 i2 ifs0 ifs1 ifs2 scope pos) (k + 1) it1 acc env) (okR fun s' => ∃ m, m < n ∧ J m s') s₆) (fun _ _ => False) s₅) (fun _ _ => False) s₄
            else ∃ m, m < n ∧ J m s₄) (fun _ _ => False) s₃) (fun _ _ => False) s₂) (fun _ _ => False) s₁) (fun _ _ => False) s)
    (n : Nat) (h : J n s) : codeAny (model prog w) A (.compLoop (three elt t0 i0 t1 i1 t2 i2 ifs0 ifs1 ifs2 scope pos) k it acc env) R s := by
  refine codeAny_loop rfl J (fun n s hJ => ?_) n h
  show wpAny _ A ((compTurn (three elt t0 i0 t1 i1 t2 i2 ifs0 ifs1 ifs2 scope pos) k it acc env).onRaise (fun x => do noteFrame x env; theTreesLotGoes x)) _ _ s
  refine wpAny_noted ?_
  rw [htn]
  unfold outTurn
  refine wpAny_bind (wpAny_standAt (wpAny_bind (thnF (turn n s hJ) fun r s₁ h₁ => ?_)))
  cases r with
  | none => exact wpAny_pure h₁
  | some v =>
    refine wpAny_bind (thnF h₁ fun _ s₂ h₂ => wpAny_bind (thnF h₂ fun _ s₃ h₃ => wpAny_bind (thnF h₃ fun ok s₄ h₄ => ?_)))
    cases ok with
    | false => exact wpAny_pure ⟨rfl, h₄⟩
    | true =>
      refine wpAny_bind (thnF h₄ fun x s₅ h₅ => ?_)
      refine wpAny_bind (wpAny_standAt (wpAny_bind (wpAny_of_eq (hs x) (wpAny_bind (wpAny_holding (thnF h₅ fun it1 s₆ h₆ => ?_))))))
      refine wpAny_bind (wpAny_runOwn ?_)
      rw [Around.mark_none]
      refine codeAny_mono h₆ fun r s' hr => ?_
      cases r with
      | ok f =>
        first
          | exact wpAny_pure ⟨rfl, hr⟩
          | exact wpAny_bind (wpAny_pure (wpAny_pure ⟨rfl, hr⟩))
      | error e => exact hr.elim
/-- the loop of the last clause -/
theorem loop3_in {i t : Expr} {k : Nat} {ifs : List Expr} (htn : compTurn (three elt t0 i0 t1 i1 t2 i2 ifs0 ifs1 ifs2 scope pos) k it acc env = inTurn (three elt t0 i0 t1 i1 t2 i2 ifs0 ifs1 ifs2 scope pos) k i t elt ifs it acc env) (J : Nat → Shared → Prop)
    (turn : ∀ n s, J n s → wpAny (model prog w) A (pyNext it) (fun r s₁ => match r with
      | none => R (.ok .next) s₁
      | some v => wpAny (model prog w) A (letOwnedTupleGo t it v) (fun _ s₂ => wpAny (model prog w) A (assign t env v) (fun _ s₃ =>
          wpAny (model prog w) A (forIn ifs true fun c r => if r = true then do let ok ← isTrue c env (eval c env); pure (ForInStep.yield ok) else pure (ForInStep.yield r)) (fun ok s₄ =>
            if ok = true then wpAny (model prog w) A (eval elt env) (fun x s₅ =>
              wpAny (model prog w) A (call (.builtin "list.append") [acc, x]) (fun _ s₆ => ∃ m, m < n ∧ J m s₆) (fun _ _ => False) s₅) (fun _ _ => False) s₄
            else ∃ m, m < n ∧ J m s₄) (fun _ _ => False) s₃) (fun _ _ => False) s₂) (fun _ _ => False) s₁) (fun _ _ => False) s)
    (n : Nat) (h : J n s) : codeAny (model prog w) A (.compLoop (three elt t0 i0 t1 i1 t2 i2 ifs0 ifs1 ifs2 scope pos) k it acc env) R s := by
  refine codeAny_loop rfl J (fun n s hJ => ?_) n h
  show wpAny _ A ((compTurn (three elt t0 i0 t1 i1 t2 i2 ifs0 ifs1 ifs2 scope pos) k it acc env).onRaise (fun x => do noteFrame x env; theTreesLotGoes x)) _ _ s
  refine wpAny_noted ?_
  rw [htn]
  unfold inTurn
  refine wpAny_bind (wpAny_standAt (wpAny_bind (thnF (turn n s hJ) fun r s₁ h₁ => ?_)))
  cases r with
  | none => exact wpAny_pure h₁
  | some v =>
    refine wpAny_bind (thnF h₁ fun _ s₂ h₂ => wpAny_bind (thnF h₂ fun _ s₃ h₃ => wpAny_bind (thnF h₃ fun ok s₄ h₄ => ?_)))
    cases ok with
    | false => exact wpAny_pure ⟨rfl, h₄⟩
    | true => exact wpAny_bind (wpAny_bind (thnF h₄ fun x s₅ h₅ => wpAny_bind (thnF h₅ fun _ s₆ h₆ => wpAny_pure (wpAny_pure ⟨rfl, h₆⟩))))
/-- a later clause's start -/
theorem start3 {k : Nat} (hk : k = 1 ∨ k = 2) {P : Shared → Prop} (h0 : codeAny (model prog w) A (.compLoop (three elt t0 i0 t1 i1 t2 i2 ifs0 ifs1 ifs2 scope pos) k it acc env) R s)
    (h : wpAny (model prog w) A (pyIter it) (fun it' s' => codeAny (model prog w) A (.compLoop (three elt t0 i0 t1 i1 t2 i2 ifs0 ifs1 ifs2 scope pos) k it' acc env) R s') (notedBy (model prog w) A env fun x s' => R (.error x) s') s) :
    codeAny (model prog w) A (.compStart (three elt t0 i0 t1 i1 t2 i2 ifs0 ifs1 ifs2 scope pos) k it acc env) R s := by
  refine codeAny_of_tree ?_
  show wpAny _ _ ((compStart (three elt t0 i0 t1 i1 t2 i2 ifs0 ifs1 ifs2 scope pos) k it acc env).onRaise (fun x => do noteFrame x env; standAt theWindowsPlace)) _ _ s
  refine wpAny_notedAt ?_
  rcases hk with rfl | rfl
  all_goals
    unfold compStart
    show wpAny _ _ (ask >>= _) _ _ s
    refine wpAny_bind (wpAny_askSetting (wpAny_ite ?_))
    split
    · first
        | exact wpAny_bind (wpAny_pure (wpAny_pure (And.intro rfl h0)))
        | exact wpAny_pure (And.intro rfl h0)
    · first
        | exact wpAny_bind (wpAny_rule (wpAny_bind (wpAny_standAt (wpAny_bind (wpAny_mono h (fun it' s' h' => wpAny_pure (And.intro rfl h')) fun _ _ x => x)))))
        | (refine wpAny_bind (wpAny_rule ?_); show wpAny _ _ (standAt _ >>= _) _ _ s; exact wpAny_bind (wpAny_standAt (wpAny_bind (wpAny_mono h (fun it' s' h' => wpAny_pure (And.intro rfl h')) fun _ _ x => x))))
end
/-! the clauses over data -/
/-- what a clause at place k does, from the slots ahead of it -/
def Lv (Y : Cx) (ex : Expr) (k : Nat) (i : Expr) (vs : List Nat) (b : Nat) (EL : DE → Option (List PyData)) : Prop :=
  ∀ (pins : List (Addr × Obj)) (s : Shared) (σ : L2.St) (G H : Hp) (ρ : DE) (G1 H1 : Hp) (D : Addr) (n : Nat) (done res : List PyData) (P : Shared → Prop), Inv Y pins σ H s → LcI Y.K G1 H1 D n done G H → H1 D = none → EnvR Y.K G σ ρ → EL ρ = some res → n + b ≤ 100000 →
    (∀ σ' s' G' H', Inv Y pins σ' H' s' → L2.wipe σ' vs = L2.wipe σ vs → LcI Y.K G1 H1 D (n + b) (done ++ res) G' H' → Ex G G' → P s') →
    wpAny (model Y.prog Y.w) Y.A (eval i Y.env) (fun x s₅ => wpAny (model Y.prog Y.w) Y.A (pyIter x) (fun it1 s₆ => codeAny (model Y.prog Y.w) Y.A (.compStart ex k it1 (.ref D) Y.env) (okR P) s₆) (fun _ _ => False) s₅) (fun _ _ => False) s
section
variable {Y : Cx} {elt t0 i0 t1 i1 t2 i2 : Expr} {ifs0 ifs1 ifs2 : List Expr} {scope : Scope} {pos : Pos} {L : DE → Option (List PyData)} {own1 vs vs2 : List Nat} {g : TG} {B : PyData → DE → Option DE} {T : DE → Option Bool} {F : DF} {EL : DE → Option (List PyData)}
theorem wipe_agree {σ σ' : L2.St} {vs : List Nat} (h : L2.wipe σ' vs = L2.wipe σ vs) {j : Nat} (hj : j ∉ vs) : σ'[j]? = σ[j]? := by
  have e1 := wipe_get σ' j vs
  have e2 := wipe_get σ j vs
  rw [if_neg hj] at e1 e2
  rw [← e1, ← e2, h]
theorem wipe_len {σ σ' : L2.St} {vs : List Nat} (h : L2.wipe σ' vs = L2.wipe σ vs) : σ'.length = σ.length := by
  rw [← L2.wipe_length σ' vs, ← L2.wipe_length σ vs, h]
def lastD (b : Nat) (L : DE → Option (List PyData)) (B : PyData → DE → Option DE) (T : DE → Option Bool) (F : DF) (vs : List Nat) : DE → Option (List PyData) := fun ρ => (L ρ).bind fun es => if es.length ≤ b then turnsD B T F (wipeD ρ vs) es else none
theorem lv_last {b : Nat} (hx : Y.xe = fun _ _ => False) (hc : Y.calm = true) (hi : PDI Y t2 i2 L) (hg : PG Y t2 g) (tgd : TgD Y.K own1 g B) (ho : ∀ j ∈ own1, j ∈ vs) (ht : PDTs Y ifs2 T) (he : PD Y elt F) :
    Lv Y (three elt t0 i0 t1 i1 t2 i2 ifs0 ifs1 ifs2 scope pos) 2 i2 vs b (lastD b L B T F vs) := by
  intro pins s σ G H ρ G1 H1 D n done res P I inv hD er hel hb hP
  obtain ⟨es, h1, h2⟩ := Option.bind_eq_some_iff.mp hel
  split at h2
  · rename_i hle
    have r0 := hi.run pins s σ H (fun J H2 => ∃ G2, Go G H G2 H2 ∧ WalkD Y.K J G2 es) I ⟨G, ρ, es, inv.go.gh, er, h1, fun J H2 G2 g2 wk => ⟨G2, g2, wk⟩⟩
    rw [hx] at r0
    refine thnF r0 fun x s₅ h5 => thnF h5 fun itv s₆ h6 => ?_
    obtain ⟨it, fp, tn, J, H2, rfl, I2, Tt, st2, f2, G2, g2, wk⟩ := h6
    have inv2 := inv.step g2
    have stat : ∀ {H' : Hp}, (∀ b ∈ fp, H' b = none) → ∀ b ∈ fp, FpOk Y pins H' b := fun hn b hb => ⟨hn b hb, (f2 b hb).2⟩
    have loop : codeAny (model Y.prog Y.w) Y.A (.compLoop (three elt t0 i0 t1 i1 t2 i2 ifs0 ifs1 ifs2 scope pos) 2 (.ref it) (.ref D) Y.env) (okR P) s₆ := by
      refine loop3_in turn3_2 (fun m s' => ∃ j H' G' done' res', m = es.length - j ∧ j ≤ es.length ∧ Inv Y pins (L2.wipe σ vs) H' s' ∧ tn j s'.heap ∧ (∀ b ∈ fp, H' b = none) ∧ LcI Y.K G1 H1 D (n + j) done' G' H' ∧ Ex G2 G' ∧ turnsD B T F (wipeD ρ vs) (es.drop j) = some res' ∧ done' ++ res' = done ++ res) ?_ es.length
        ⟨0, H2, G2, done, res, rfl, Nat.zero_le _, I2.weak (L2.wipe_length _ _) (fun j v e => (wipe_some e).1), st2, fun b hb => (f2 b hb).1, inv2, Ex.refl _, h2, rfl⟩
      rintro m s' ⟨j, H', G', done', res', rfl, hj, I', st', n', inv', eg', hr', ho'⟩
      by_cases hlj : j < es.length
      · refine thnF (Tt.item Y rfl rfl rfl hc j _ s' (L2.wipe σ vs) H' (fun _ _ => False) I' (stat n') st' (wk.go j H' hlj (eg'.trans inv'.go.gh))) fun r s1 ⟨u, hr, h7⟩ => ?_
        subst hr
        refine thnF h7 fun _ s2 ⟨x, H3, I3, r3, y3, st3, n3⟩ => ?_
        rw [List.drop_eq_getElem_cons hlj] at hr'
        obtain ⟨ρ2, k4, k5⟩ := Option.bind_eq_some_iff.mp hr'
        obtain ⟨kk, k6, k7⟩ := Option.bind_eq_some_iff.mp k5
        obtain ⟨G3, g3, rx⟩ := wk.yld j es[j] H' G' x H3 (List.getElem?_eq_getElem hlj) eg' inv'.go.gh y3
        have inv3 := inv'.step g3
        have er3 := (er.mono ((g2.gg.trans eg').trans g3.gg)).wipe vs
        have I3' := I3.pinned (stat n3) (Tt.obj _ _ st3)
        have rg := hg.run _ s2 (L2.wipe σ vs) H3 x u (fun σ4 H4 => H4 = H3 ∧ EnvR Y.K G3 σ4 ρ2 ∧ L2.wipe σ4 vs = L2.wipe σ vs) I3' r3 (tgd.run x es[j] _ ρ2 _ G3 H3 _ g3.gh er3 rx k4 fun σ4 er4 ho4 hl4 => ⟨rfl, er4, by rw [wipe_eq (σ := L2.wipe σ vs) (fun j hj => ho4 j fun z => hj (ho j z)) hl4, wipe_wipe]⟩)
        rw [hx] at rg
        refine thnF rg fun _ s3 ⟨σ4, H4, I4, e4, er4, w4⟩ => ?_
        subst e4
        have rt := ht.run _ s3 σ4 H4 (fun b H5 => b = kk ∧ ∃ G5, Go G3 H4 G5 H5) I4 ⟨G3, ρ2, kk, g3.gh, er4, k6, fun H5 G5 g5 => ⟨rfl, G5, g5⟩⟩
        rw [hx] at rt
        refine thnF rt fun b s4 ⟨H5, I5, e5, G5, g5⟩ => ?_
        subst e5
        have inv5 := inv3.step g5
        have fin : ∀ {s5 : Shared} {H6 : Hp} {G6 : Hp} {done6 res6 : List PyData}, Inv Y (pins ++ pinsAt fp s2.heap) σ4 H6 s5 → LcI Y.K G1 H1 D (n + (j + 1)) done6 G6 H6 → Ex G5 G6 → turnsD B T F (wipeD ρ vs) (es.drop (j + 1)) = some res6 → done6 ++ res6 = done ++ res →
            ∃ m, m < es.length - j ∧ ∃ j H' G' done' res', m = es.length - j ∧ j ≤ es.length ∧ Inv Y pins (L2.wipe σ vs) H' s5 ∧ tn j s5.heap ∧ (∀ b ∈ fp, H' b = none) ∧ LcI Y.K G1 H1 D (n + j) done' G' H' ∧ Ex G2 G' ∧ turnsD B T F (wipeD ρ vs) (es.drop j) = some res' ∧ done' ++ res' = done ++ res := fun {s5 H6 G6 done6 res6} I6 inv6 e56 hr6 ho6 => by
          have pin' : ∀ b ∈ fp, ∀ o, s2.heap.get? b = some o → s5.heap.get? b = some o ∧ H6 b = none := fun b hb o e =>
            let z := I6.pin (b, o) (List.mem_append_right _ (List.mem_append_right _ (mem_pinsAt hb e)))
            ⟨z.1, z.2.1⟩
          refine ⟨es.length - (j + 1), by omega, j + 1, H6, G6, done6, res6, rfl, hlj, I6.unpinned.weak (by rw [← w4, L2.wipe_length]) (fun j v e => by rw [← w4] at e; exact (wipe_some e).1), Tt.keep _ _ _ st3 fun b hb o e => (pin' b hb o e).1, fun b hb => ?_, inv6, eg'.trans ((g3.gg.trans g5.gg).trans e56), hr6, ho6⟩
          obtain ⟨o, e, _⟩ := Tt.obj _ _ st3 b hb
          exact (pin' b hb o e).2
        cases b with
        | true =>
          rw [if_pos rfl] at k7
          refine iteT ?_
          obtain ⟨y, k8, k9⟩ := Option.bind_eq_some_iff.mp k7
          obtain ⟨res6, k10, k11⟩ := Option.map_eq_some_iff.mp k9
          have re := he.run _ s4 σ4 H5 (fun v H6 => ∃ G6, Go G5 H5 G6 H6 ∧ RD Y.K G6 v y) I5 ⟨G5, ρ2, y, g5.gh, er4.mono g5.gg, k8, fun v H6 G6 g6 r6 => ⟨G6, g6, r6⟩⟩
          rw [hx] at re
          refine thnF re fun z s5 ⟨v6, H6, I6, rv, G6, g6, r6⟩ => ?_
          obtain ⟨acc, m1, m2, m3⟩ := (inv5.step g6).put hD (by omega) r6
          refine app_ok I6 m1 m2 rv fun s6 I7 => fin I7 m3 g6.gg k10 (by rw [← ho', ← k11, List.append_assoc]; rfl)
        | false =>
          rw [if_neg Bool.false_ne_true] at k7
          exact iteF (fin I5 (inv5.skip (by omega)) (Ex.refl _) k7 ho')
      · have e : j = es.length := by omega
        subst e
        refine thnF (Tt.done Y rfl rfl rfl hc es.length _ s' (L2.wipe σ vs) H' (fun _ _ => False) I' (stat n') st' (wk.stop H' (eg'.trans inv'.go.gh))) fun r s1 ⟨hr, I3⟩ => ?_
        subst hr
        rw [List.drop_eq_nil_of_le (Nat.le_refl _)] at hr'
        cases hr'
        rw [List.append_nil] at ho'
        subst ho'
        exact hP _ _ _ _ I3 (wipe_wipe _ _) (inv'.skip (by omega)) (g2.gg.trans eg')
    exact start3 (P := P) (.inr rfl) loop (Tt.self Y.A 0 _ _ _ st2 loop)
  · cases h2
def turnsM (B : PyData → DE → Option DE) (T : DE → Option Bool) (EL : DE → Option (List PyData)) (ρ : DE) : List PyData → Option (List PyData)
  | [] => some []
  | d :: ds => (B d ρ).bind fun ρ1 => (T ρ1).bind fun k => if k = true then (EL ρ1).bind fun ys => (turnsM B T EL ρ ds).map (ys ++ ·) else turnsM B T EL ρ ds
def midD (m : Nat) (L : DE → Option (List PyData)) (B : PyData → DE → Option DE) (T : DE → Option Bool) (EL : DE → Option (List PyData)) (vs : List Nat) : DE → Option (List PyData) := fun ρ => (L ρ).bind fun es => if es.length ≤ m then turnsM B T EL (wipeD ρ vs) es else none
theorem lv_mid {b m : Nat} (hx : Y.xe = fun _ _ => False) (hc : Y.calm = true) (hi : PDI Y t1 i1 L) (hg : PG Y t1 g) (tgd : TgD Y.K own1 g B) (ho : ∀ j ∈ own1, j ∈ vs) (ht : PDTs Y ifs1 T) (hv : ∀ j ∈ vs2, j ∈ vs) (hs : ∀ x, foldedSetIterable i2 Y.env x = pure x)
    (he : Lv Y (three elt t0 i0 t1 i1 t2 i2 ifs0 ifs1 ifs2 scope pos) 2 i2 vs2 b EL) :
    Lv Y (three elt t0 i0 t1 i1 t2 i2 ifs0 ifs1 ifs2 scope pos) 1 i1 vs (m * b) (midD m L B T EL vs) := by
  intro pins s σ G H ρ G1 H1 D n done res P I inv hD er hel hb hP
  obtain ⟨es, h1, h2⟩ := Option.bind_eq_some_iff.mp hel
  split at h2
  · rename_i hle
    have r0 := hi.run pins s σ H (fun J H2 => ∃ G2, Go G H G2 H2 ∧ WalkD Y.K J G2 es) I ⟨G, ρ, es, inv.go.gh, er, h1, fun J H2 G2 g2 wk => ⟨G2, g2, wk⟩⟩
    rw [hx] at r0
    refine thnF r0 fun x s₅ h5 => thnF h5 fun itv s₆ h6 => ?_
    obtain ⟨it, fp, tn, J, H2, rfl, I2, Tt, st2, f2, G2, g2, wk⟩ := h6
    have inv2 := inv.step g2
    have hmb : ∀ j, j < es.length → n + j * b + b ≤ 100000 := fun j hj => by
      have h3 : (j + 1) * b ≤ m * b := Nat.mul_le_mul_right b (by omega)
      rw [Nat.add_mul, Nat.one_mul] at h3
      omega
    have stat : ∀ {H' : Hp}, (∀ b ∈ fp, H' b = none) → ∀ b ∈ fp, FpOk Y pins H' b := fun hn b hb => ⟨hn b hb, (f2 b hb).2⟩
    have loop : codeAny (model Y.prog Y.w) Y.A (.compLoop (three elt t0 i0 t1 i1 t2 i2 ifs0 ifs1 ifs2 scope pos) 1 (.ref it) (.ref D) Y.env) (okR P) s₆ := by
      refine loop3_out (fun _ => True) turn3_1 hs (fun m s' => ∃ j H' G' done' res', m = es.length - j ∧ j ≤ es.length ∧ Inv Y pins (L2.wipe σ vs) H' s' ∧ tn j s'.heap ∧ (∀ b ∈ fp, H' b = none) ∧ LcI Y.K G1 H1 D (n + j * b) done' G' H' ∧ Ex G2 G' ∧ turnsM B T EL (wipeD ρ vs) (es.drop j) = some res' ∧ done' ++ res' = done ++ res) ?_ es.length
        ⟨0, H2, G2, done, res, rfl, Nat.zero_le _, I2.weak (L2.wipe_length _ _) (fun j v e => (wipe_some e).1), st2, fun b hb => (f2 b hb).1, by rw [Nat.zero_mul]; exact inv2, Ex.refl _, h2, rfl⟩
      rintro m' s' ⟨j, H', G', done', res', rfl, hj, I', st', n', inv', eg', hr', ho'⟩
      by_cases hlj : j < es.length
      · refine thnF (Tt.item Y rfl rfl rfl hc j _ s' (L2.wipe σ vs) H' (fun _ _ => False) I' (stat n') st' (wk.go j H' hlj (eg'.trans inv'.go.gh))) fun r s1 ⟨u, hr, h7⟩ => ?_
        subst hr
        refine thnF h7 fun _ s2 ⟨x, H3, I3, r3, y3, st3, n3⟩ => ?_
        rw [List.drop_eq_getElem_cons hlj] at hr'
        obtain ⟨ρ2, k4, k5⟩ := Option.bind_eq_some_iff.mp hr'
        obtain ⟨kk, k6, k7⟩ := Option.bind_eq_some_iff.mp k5
        obtain ⟨G3, g3, rx⟩ := wk.yld j es[j] H' G' x H3 (List.getElem?_eq_getElem hlj) eg' inv'.go.gh y3
        have inv3 := inv'.step g3
        have er3 := (er.mono ((g2.gg.trans eg').trans g3.gg)).wipe vs
        have I3' := I3.pinned (stat n3) (Tt.obj _ _ st3)
        have rg := hg.run _ s2 (L2.wipe σ vs) H3 x u (fun σ4 H4 => H4 = H3 ∧ EnvR Y.K G3 σ4 ρ2 ∧ L2.wipe σ4 vs = L2.wipe σ vs) I3' r3 (tgd.run x es[j] _ ρ2 _ G3 H3 _ g3.gh er3 rx k4 fun σ4 er4 ho4 hl4 => ⟨rfl, er4, by rw [wipe_eq (σ := L2.wipe σ vs) (fun j hj => ho4 j fun z => hj (ho j z)) hl4, wipe_wipe]⟩)
        rw [hx] at rg
        refine thnF rg fun _ s3 ⟨σ4, H4, I4, e4, er4, w4⟩ => ?_
        subst e4
        have rt := ht.run _ s3 σ4 H4 (fun b H5 => b = kk ∧ ∃ G5, Go G3 H4 G5 H5) I4 ⟨G3, ρ2, kk, g3.gh, er4, k6, fun H5 G5 g5 => ⟨rfl, G5, g5⟩⟩
        rw [hx] at rt
        refine thnF rt fun b' s4 ⟨H5, I5, e5, G5, g5⟩ => ?_
        subst e5
        have inv5 := inv3.step g5
        have fin : ∀ {σ5 : L2.St} {s5 : Shared} {H6 : Hp} {G6 : Hp} {done6 res6 : List PyData}, Inv Y (pins ++ pinsAt fp s2.heap) σ5 H6 s5 → L2.wipe σ5 vs = L2.wipe σ vs → LcI Y.K G1 H1 D (n + (j + 1) * b) done6 G6 H6 → Ex G2 G6 → turnsM B T EL (wipeD ρ vs) (es.drop (j + 1)) = some res6 → done6 ++ res6 = done ++ res →
            ∃ m, m < es.length - j ∧ ∃ j H' G' done' res', m = es.length - j ∧ j ≤ es.length ∧ Inv Y pins (L2.wipe σ vs) H' s5 ∧ tn j s5.heap ∧ (∀ b ∈ fp, H' b = none) ∧ LcI Y.K G1 H1 D (n + j * b) done' G' H' ∧ Ex G2 G' ∧ turnsM B T EL (wipeD ρ vs) (es.drop j) = some res' ∧ done' ++ res' = done ++ res := fun {σ5 s5 H6 G6 done6 res6} I6 w5 inv6 e56 hr6 ho6 => by
          have pin' : ∀ b ∈ fp, ∀ o, s2.heap.get? b = some o → s5.heap.get? b = some o ∧ H6 b = none := fun b hb o e =>
            let z := I6.pin (b, o) (List.mem_append_right _ (List.mem_append_right _ (mem_pinsAt hb e)))
            ⟨z.1, z.2.1⟩
          refine ⟨es.length - (j + 1), by omega, j + 1, H6, G6, done6, res6, rfl, hlj, I6.unpinned.weak (by rw [← w5, L2.wipe_length]) (fun j v e => by rw [← w5] at e; exact (wipe_some e).1), Tt.keep _ _ _ st3 fun b hb o e => (pin' b hb o e).1, fun b hb => ?_, inv6, e56, hr6, ho6⟩
          obtain ⟨o, e, _⟩ := Tt.obj _ _ st3 b hb
          exact (pin' b hb o e).2
        have up : n + j * b + b = n + (j + 1) * b := by rw [Nat.add_mul, Nat.one_mul]; omega
        cases b' with
        | true =>
          rw [if_pos rfl] at k7
          refine iteT ?_
          obtain ⟨ys, k8, k9⟩ := Option.bind_eq_some_iff.mp k7
          obtain ⟨res6, k10, k11⟩ := Option.map_eq_some_iff.mp k9
          refine he _ s4 σ4 G5 H5 ρ2 G1 H1 D (n + j * b) done' ys _ I5 inv5 hD (er4.mono g5.gg) k8 (hmb j hlj) fun σ6 s6 G6 H6 I6 w6 inv6 e6 => ?_
          rw [up] at inv6
          refine fin (σ5 := L2.wipe σ6 vs2) (G6 := G6) (I6.weak (L2.wipe_length _ _) fun j v e => (wipe_some e).1) ?_ inv6 ?_ k10 (by rw [← ho', ← k11, List.append_assoc])
          · rw [← w4]
            refine wipe_eq (fun j hj => ?_) (by rw [L2.wipe_length, wipe_len w6])
            have hj2 : j ∉ vs2 := fun z => hj (hv j z)
            rw [wipe_get, if_neg hj2, wipe_agree w6 hj2]
          · exact eg'.trans ((g3.gg.trans g5.gg).trans e6)
        | false =>
          rw [if_neg Bool.false_ne_true] at k7
          refine iteF (fin I5 w4 (inv5.skip ?_) (eg'.trans (g3.gg.trans g5.gg)) k7 ho')
          omega
      · have e : j = es.length := by omega
        subst e
        refine thnF (Tt.done Y rfl rfl rfl hc es.length _ s' (L2.wipe σ vs) H' (fun _ _ => False) I' (stat n') st' (wk.stop H' (eg'.trans inv'.go.gh))) fun r s1 ⟨hr, I3⟩ => ?_
        subst hr
        rw [List.drop_eq_nil_of_le (Nat.le_refl _)] at hr'
        cases hr'
        rw [List.append_nil] at ho'
        subst ho'
        have hmm : es.length * b ≤ m * b := Nat.mul_le_mul_right b hle
        exact hP _ _ _ _ I3 (wipe_wipe _ _) (inv'.skip (by omega)) (g2.gg.trans eg')
    exact start3 (P := P) (.inl rfl) loop (Tt.self Y.A 0 _ _ _ st2 loop)
  · cases h2
end
end DL

set_option Elab.async false
set_option linter.all false
set_option maxRecDepth 100000
set_option maxHeartbeats 4000000
namespace DL
open PySem PySem.Spec PyProof.Rows L2 Evl
section
variable {X : Cx} {elt t0 i0 t1 i1 t2 i2 : Expr} {ifs0 ifs1 ifs2 : List Expr} {scope : Scope} {own : List (Str × Nat)} {pos : Pos} {L : DE → Option (List PyData)} {own1 vs1 : List Nat} {g : TG} {B : PyData → DE → Option DE} {T : DE → Option Bool} {EL : DE → Option (List PyData)}
def lc3D (own : List Nat) (m : Nat) (L : DE → Option (List PyData)) (B : PyData → DE → Option DE) (T : DE → Option Bool) (EL : DE → Option (List PyData)) : DF := fun ρ => (midD m L B T EL own ρ).map .list
theorem pd_lc3 {m b : Nat} (hc : X.calm = true) (hN : X.N.Nodup) (hi : PDI X t0 i0 L) (ok : BlkOk X.N X.env.scope scope own) (tgd : TgD X.K own1 g B) (ho : ∀ j ∈ own1, j ∈ own.map (·.2)) (hv : ∀ j ∈ vs1, j ∈ own.map (·.2)) (hmb : m * b ≤ 100000)
    (hg : ∀ (s : Shared) (H : Hp) (C : Addr) (cl : List (Str × Addr)) (fp : List Addr), PG (X.blk s H scope (compEnvC scope cl C X.env) fp) t0 g) (ht : ∀ (s : Shared) (H : Hp) (C : Addr) (cl : List (Str × Addr)) (fp : List Addr), PDTs (X.blk s H scope (compEnvC scope cl C X.env) fp) ifs0 T)
    (he : ∀ (s : Shared) (H : Hp) (C : Addr) (cl : List (Str × Addr)) (fp : List Addr), Lv (X.blk s H scope (compEnvC scope cl C X.env) fp) (three elt t0 i0 t1 i1 t2 i2 ifs0 ifs1 ifs2 scope pos) 1 i1 vs1 b EL)
    (hs : ∀ x, foldedSetIterable i0 X.env x = pure x := by intro _; rfl) (hs1 : ∀ env x, foldedSetIterable i1 env x = pure x := by intro _ _; rfl) :
    PD X (three elt t0 i0 t1 i1 t2 i2 ifs0 ifs1 ifs2 scope pos) (lc3D (own.map (·.2)) m L B T EL) := by
  refine ⟨fun pins s σ H Q I h => ?_⟩
  obtain ⟨G, ρ, d, eg, er, hf, q⟩ := h
  obtain ⟨outs, hf2, rfl⟩ := Option.map_eq_some_iff.mp hf
  obtain ⟨es, h1, h2⟩ := Option.bind_eq_some_iff.mp hf2
  split at h2
  · rename_i hle
    rw [eval_ListComp]
    have hfree : ∀ y ∈ scope.names, y.2 = .free → ∃ c, X.env.cells.lookup y.1 = some c := fun y hy e => by
      rcases ok.free y hy e with k | k
      · exact I.ok.has _ (.inl k)
      · exact I.ok.has _ (.inr k)
    refine wpAny_comprehension_free rfl hs (closure_ok hfree) ok.kind (fun y hy e => by rw [ok.uniq y hy, e])
      (thn (hi.run pins s σ H (fun J H2 => ∃ G2, Go G H G2 H2 ∧ WalkD X.K J G2 es) I ⟨G, ρ, es, eg, er, h1, fun J H2 G2 g2 wk => ⟨G2, g2, wk⟩⟩) fun xv s1 hx => thn hx fun itv s2 h2' => ?_)
    obtain ⟨it, fp, tn, J, H2, rfl, I2, Tt, st2, f2, G2, g2, wk⟩ := h2'
    refine wpAny_newObj_type (newEnv_comp ?_) (by show 0 ≤ sizeLine; decide)
    generalize hD : s2.heap.objs.size = D
    have hDn : H2 D = none := I2.hok.fresh (Nat.le_of_eq hD)
    -- the list that is made
    generalize hs3 : ({ s2 with heap := s2.heap.push { cls := .type "list", data := .seq ([] : List Value).toArray } } : Shared) = s3
    have I3 : Inv X pins σ (upd H2 D (.lst [])) s3 := by
      subst hs3
      refine I2.laid (t' := s2.toks) (fun b o e => Heap.get?_push_of_some _ e) (Nat.le_of_eq hD) ⟨Nat.zero_le _, [], 0, .nil, ?_⟩
      subst hD
      exact Heap.get?_push_size _ rfl
    have h3 : s3.heap = s2.heap.push { cls := .type "list", data := .seq ([] : List Value).toArray } := by rw [← hs3]
    have sz : ∀ b ∈ fp, b < s2.heap.objs.size := fun b hb => by
      obtain ⟨o, e, _⟩ := Tt.obj _ _ st2 b hb
      exact Heap.lt_size e
    have f3 : ∀ b ∈ fp, FpOk X pins (upd H2 D (.lst [])) b ∧ b < s3.heap.objs.size := fun b hb => by
      have hlt := sz b hb
      refine ⟨⟨?_, (f2 b hb).2⟩, by rw [h3, Heap.size_push]; exact Nat.lt_succ_of_lt hlt⟩
      rw [upd_ne (by rw [← hD]; exact Nat.ne_of_lt hlt)]
      exact (f2 b hb).1
    have st3 : tn 0 s3.heap := Tt.keep _ _ _ st2 fun b _ o e => by rw [h3]; exact Heap.get?_push_of_some _ e
    have I4 := block_start I3 ok hN f3
    have pg := hg s3 (upd H2 D (.lst [])) s3.heap.objs.size (cellsFrom (s3.heap.objs.size + 1) scope.names (cloFrom X.env.cells scope.names [])) fp
    have pt := ht s3 (upd H2 D (.lst [])) s3.heap.objs.size (cellsFrom (s3.heap.objs.size + 1) scope.names (cloFrom X.env.cells scope.names [])) fp
    have lv := he s3 (upd H2 D (.lst [])) s3.heap.objs.size (cellsFrom (s3.heap.objs.size + 1) scope.names (cloFrom X.env.cells scope.names [])) fp
    have inv0 : LcI X.K G2 H2 D 0 [] G2 (upd H2 D (.lst [])) := LcI.start g2.gh hDn
    show codeAny _ _ (.compStart (three elt t0 i0 t1 i1 t2 i2 ifs0 ifs1 ifs2 scope pos) 0 (.ref it) (.ref D) (compEnvC scope (cellsFrom (s3.heap.objs.size + 1) scope.names (cloFrom X.env.cells scope.names [])) s3.heap.objs.size X.env)) (compPost (model X.prog X.w) X.A X.xe none (EP X pins σ Q) (.ref D) s3.heap.objs.size) { s3 with heap := pushCells (s3.heap.push { cls := .type "dict", data := .dict #[] }) scope.names }
    have nfp : ∀ b ∈ fp, (upd H2 D (.lst [])) b = none := fun b hb => (f3 b hb).1.1
    generalize hce : compEnvC scope (cellsFrom (s3.heap.objs.size + 1) scope.names (cloFrom X.env.cells scope.names [])) s3.heap.objs.size X.env = ce at I4 pg pt lv ⊢
    have cL : ce.locals = s3.heap.objs.size := by subst hce; rfl
    generalize hH3 : upd H2 D (.lst []) = H3 at I3 I4 pg pt lv inv0 nfp f3
    generalize hs4 : ({ s3 with heap := pushCells (s3.heap.push { cls := .type "dict", data := .dict #[] }) scope.names } : Shared) = s4 at I4 ⊢
    have st4 : tn 0 s4.heap := Tt.keep _ _ _ st3 fun b _ o e => by rw [← hs4]; exact pushCells_keeps _ _ _ _ (Heap.get?_push_of_some _ e)
    have stat : ∀ {σ' : L2.St} {H' : Hp} {s' : Shared}, Inv (X.blk s3 H3 scope ce fp) [] σ' H' s' → (∀ b ∈ fp, H' b = none) → ∀ b ∈ fp, FpOk (X.blk s3 H3 scope ce fp) [] H' b := fun {σ' H' s'} I' hn b hb =>
      ⟨hn b hb, (I'.ok.exf b hb).1, I'.ok.exfs b hb, .inl hb, fun x c e => (I'.ok.exf b hb).2 x c e, fun p hp => absurd (show p ∈ ([] : List (Addr × Obj)) ++ [] from hp) (by simp)⟩
    have hmb' : ∀ j, j < es.length → j * b + b ≤ 100000 := fun j hj => by
      have h3 : (j + 1) * b ≤ m * b := Nat.mul_le_mul_right b (by omega)
      rw [Nat.add_mul, Nat.one_mul] at h3
      omega
    have loop : codeAny (model X.prog X.w) X.A (.compLoop (three elt t0 i0 t1 i1 t2 i2 ifs0 ifs1 ifs2 scope pos) 0 (.ref it) (.ref D) ce) (compPost (model X.prog X.w) X.A X.xe none (EP X pins σ Q) (.ref D) s3.heap.objs.size) s4 := by
      refine loop3_out (fun _ => True) turn3_0 (hs1 ce) (fun m s' => ∃ j H' G' done' res', m = es.length - j ∧ j ≤ es.length ∧ Inv (X.blk s3 H3 scope ce fp) [] (L2.wipe σ (own.map (·.2))) H' s' ∧ tn j s'.heap ∧ (∀ b ∈ fp, H' b = none) ∧ LcI X.K G2 H2 D (j * b) done' G' H' ∧ turnsM B T EL (wipeD ρ (own.map (·.2))) (es.drop j) = some res' ∧ done' ++ res' = outs) ?_ es.length
        ⟨0, H3, G2, [], outs, rfl, Nat.zero_le _, I4, st4, nfp, by rw [Nat.zero_mul]; exact inv0, h2, rfl⟩
      rintro m' s' ⟨j, H', G', done', res', rfl, hj, I', st', n', inv', hr', ho'⟩
      by_cases hlj : j < es.length
      · refine thnF (Tt.item (X.blk s3 H3 scope ce fp) rfl rfl rfl hc j _ s' _ H' (fun _ _ => False) I' (stat I' n') st' (wk.go j H' hlj (inv'.go.gg.trans inv'.go.gh))) fun r s5 ⟨u, hr, h7⟩ => ?_
        subst hr
        refine thnF h7 fun _ s6 ⟨x, H6, I6, r6, y6, st6, n6⟩ => ?_
        rw [List.drop_eq_getElem_cons hlj] at hr'
        obtain ⟨ρ2, k4, k5⟩ := Option.bind_eq_some_iff.mp hr'
        obtain ⟨kk, k6, k7⟩ := Option.bind_eq_some_iff.mp k5
        obtain ⟨G6, g6, rx⟩ := wk.yld j es[j] H' G' x H6 (List.getElem?_eq_getElem hlj) inv'.go.gg inv'.go.gh y6
        have inv6 := inv'.step g6
        have er6 := (er.mono ((g2.gg.trans inv'.go.gg).trans g6.gg)).wipe (own.map (·.2))
        have I6' := I6.pinned (stat I6 n6) (Tt.obj _ _ st6)
        refine thnF (pg.run _ s6 _ H6 x u (fun σ4 H4 => H4 = H6 ∧ EnvR X.K G6 σ4 ρ2 ∧ L2.wipe σ4 (own.map (·.2)) = L2.wipe σ (own.map (·.2))) I6' r6 (tgd.run x es[j] _ ρ2 _ G6 H6 _ g6.gh er6 rx k4 fun σ4 er4 ho4 hl4 => ⟨rfl, er4, by rw [wipe_eq (σ := L2.wipe σ (own.map (·.2))) (fun j hj => ho4 j fun z => hj (ho j z)) hl4, wipe_wipe]⟩)) fun _ s7 ⟨σ4, H4, I7, e4, er4, w4⟩ => ?_
        subst e4
        refine thnF (pt.run _ s7 σ4 H4 (fun b H5 => b = kk ∧ ∃ G5, Go G6 H4 G5 H5) I7 ⟨G6, ρ2, kk, g6.gh, er4, k6, fun H5 G5 g5 => ⟨rfl, G5, g5⟩⟩) fun b' s8 ⟨H5, I8, e5, G5, g5⟩ => ?_
        subst e5
        have inv5 := inv6.step g5
        have fin : ∀ {σ9 : L2.St} {s9 : Shared} {H9 : Hp} {G9 : Hp} {done9 res9 : List PyData}, Inv (X.blk s3 H3 scope ce fp) ([] ++ pinsAt fp s6.heap) σ9 H9 s9 → L2.wipe σ9 (own.map (·.2)) = L2.wipe σ (own.map (·.2)) → LcI X.K G2 H2 D ((j + 1) * b) done9 G9 H9 → turnsM B T EL (wipeD ρ (own.map (·.2))) (es.drop (j + 1)) = some res9 → done9 ++ res9 = outs →
            ∃ m, m < es.length - j ∧ ∃ j H' G' done' res', m = es.length - j ∧ j ≤ es.length ∧ Inv (X.blk s3 H3 scope ce fp) [] (L2.wipe σ (own.map (·.2))) H' s9 ∧ tn j s9.heap ∧ (∀ b ∈ fp, H' b = none) ∧ LcI X.K G2 H2 D (j * b) done' G' H' ∧ turnsM B T EL (wipeD ρ (own.map (·.2))) (es.drop j) = some res' ∧ done' ++ res' = outs := fun {σ9 s9 H9 G9 done9 res9} I9 w9 inv9 hr9 ho9 => by
          have pin' : ∀ b ∈ fp, ∀ o, s6.heap.get? b = some o → s9.heap.get? b = some o ∧ H9 b = none := fun b hb o e =>
            let z := I9.pin (b, o) (List.mem_append_right _ (List.mem_append_right _ (mem_pinsAt hb e)))
            ⟨z.1, z.2.1⟩
          refine ⟨es.length - (j + 1), by omega, j + 1, H9, G9, done9, res9, rfl, hlj, (I9.unpinned (pins := [])).weak (by rw [← w9, L2.wipe_length]) (fun j v e => by rw [← w9] at e; exact (wipe_some e).1), Tt.keep _ _ _ st6 fun b hb o e => (pin' b hb o e).1, fun b hb => ?_, inv9, hr9, ho9⟩
          obtain ⟨o, e, _⟩ := Tt.obj _ _ st6 b hb
          exact (pin' b hb o e).2
        have up : j * b + b = (j + 1) * b := by rw [Nat.add_mul, Nat.one_mul]
        cases b' with
        | true =>
          rw [if_pos rfl] at k7
          refine iteT ?_
          obtain ⟨ys, k8, k9⟩ := Option.bind_eq_some_iff.mp k7
          obtain ⟨res9, k10, k11⟩ := Option.map_eq_some_iff.mp k9
          refine lv _ s8 σ4 G5 H5 ρ2 G2 H2 D (j * b) done' ys _ I8 inv5 hDn (er4.mono g5.gg) k8 (hmb' j hlj) fun σ9 s9 H9' G9' I9 w9 inv9 e9 => ?_
          rw [up] at inv9
          refine fin (σ9 := L2.wipe σ9 vs1) (I9.weak (L2.wipe_length _ _) fun j v e => (wipe_some e).1) ?_ inv9 k10 (by rw [← ho', ← k11, List.append_assoc])
          rw [← w4]
          refine wipe_eq (fun j hj => ?_) (by rw [L2.wipe_length, wipe_len w9])
          have hj2 : j ∉ vs1 := fun z => hj (hv j z)
          rw [wipe_get, if_neg hj2, wipe_agree w9 hj2]
        | false =>
          rw [if_neg Bool.false_ne_true] at k7
          refine iteF (fin I8 w4 (inv5.skip ?_) k7 ho')
          omega
      · have e : j = es.length := by omega
        subst e
        refine thnF (Tt.done (X.blk s3 H3 scope ce fp) rfl rfl rfl hc es.length _ s' _ H' (fun _ _ => False) I' (stat I' n') st' (wk.stop H' (inv'.go.gg.trans inv'.go.gh))) fun r s5 ⟨hr, I5⟩ => ?_
        subst hr
        rw [List.drop_eq_nil_of_le (Nat.le_refl _)] at hr'
        cases hr'
        rw [List.append_nil] at ho'
        subst ho'
        have I7 : Inv X pins σ H' s5 := I3.call' (ch := fp) I5.os I5.base I5.hok I5.bare fun b hb => ⟨(f3 b hb).1.2.2.2.1, (f3 b hb).1.2.1, (f3 b hb).1.2.2.2.2.1, (f3 b hb).1.2.2.2.2.2⟩
        have nC : H' s3.heap.objs.size = none := by
          have z : H' ce.locals = none := I5.free
          rw [cL] at z
          exact z
        obtain ⟨mm, hn, _⟩ := I5.loc
        have hn : s5.heap.Ns ce.locals mm := hn
        rw [cL] at hn
        obtain ⟨f0, f1, f2', f3', f4, f5⟩ := I3.fpOk (Nat.le_refl _) nC
        refine ⟨mm, hn, fun h'' sb => ?_⟩
        exact ⟨.ref D, H', I7.turned (t' := s5.toks) (fun b o hb e => (sb.2 b hb).trans e) f0 f1 f3' f4 f5, rfl, inv'.fin hDn (DQ.go g2 q)⟩
    exact codeAny_compStart_list loop (Tt.self X.A 0 _ _ _ st4 loop)
  · cases h2
end
end DL

set_option Elab.async false
set_option linter.all false
set_option maxRecDepth 100000
set_option maxHeartbeats 4000000
/-! The text by places; what its top leaves. -/
namespace DL
open PySem PySem.Spec PyProof.Rows L2 Evl
def topS (i : Nat) : Stmt := PySem.Challenge.pw_findquestion_k85_whole_one_book_of_two.main.body.getD i (.Pass ⟨0, 0, 0, 0⟩)
abbrev s_is_whole : Stmt := topS 20
theorem sc_is_whole : FnScope ["thing"] ["thing"] (defScope s_is_whole) := ⟨rfl, rfl, rfl, by decide +kernel, rfl, by decide +kernel, by decide +kernel⟩
abbrev s_is_word : Stmt := topS 21
theorem sc_is_word : FnScope ["thing", "sign"] ["thing"] (defScope s_is_word) := ⟨rfl, rfl, rfl, by decide +kernel, rfl, by decide +kernel, by decide +kernel⟩
abbrev s_is_value : Stmt := topS 23
theorem sc_is_value : FnScope ["thing"] ["thing"] (defScope s_is_value) := ⟨rfl, rfl, rfl, by decide +kernel, rfl, by decide +kernel, by decide +kernel⟩
abbrev s_is_row : Stmt := topS 24
theorem sc_is_row : FnScope ["thing", "value"] ["thing"] (defScope s_is_row) := ⟨rfl, rfl, rfl, by decide +kernel, rfl, by decide +kernel, by decide +kernel⟩
abbrev s_value_key : Stmt := topS 25
theorem sc_value_key : FnScope ["value"] ["value"] (defScope s_value_key) := ⟨rfl, rfl, rfl, by decide +kernel, rfl, by decide +kernel, by decide +kernel⟩
abbrev s_row_key : Stmt := topS 26
theorem sc_row_key : FnScope ["row", "value"] ["row"] (defScope s_row_key) := ⟨rfl, rfl, rfl, by decide +kernel, rfl, by decide +kernel, by decide +kernel⟩
abbrev s_value_less : Stmt := topS 27
theorem sc_value_less : FnScope ["one", "other"] ["one", "other"] (defScope s_value_less) := ⟨rfl, rfl, rfl, by decide +kernel, rfl, by decide +kernel, by decide +kernel⟩
abbrev s_row_less : Stmt := topS 28
theorem sc_row_less : FnScope ["one", "other"] ["one", "other"] (defScope s_row_less) := ⟨rfl, rfl, rfl, by decide +kernel, rfl, by decide +kernel, by decide +kernel⟩
abbrev s_are_risen : Stmt := topS 31
theorem sc_are_risen : FnScope ["rows", "one", "other"] ["rows"] (defScope s_are_risen) := ⟨rfl, rfl, rfl, by decide +kernel, rfl, by decide +kernel, by decide +kernel⟩
abbrev s_are_rows : Stmt := topS 33
theorem sc_are_rows : FnScope ["thing", "columns", "row"] ["thing", "columns"] (defScope s_are_rows) := ⟨rfl, rfl, rfl, by decide +kernel, rfl, by decide +kernel, by decide +kernel⟩
abbrev s_is_table : Stmt := topS 34
theorem sc_is_table : FnScope ["thing", "name", "columns", "rows"] ["thing"] (defScope s_is_table) := ⟨rfl, rfl, rfl, by decide +kernel, rfl, by decide +kernel, by decide +kernel⟩
abbrev s_values_in : Stmt := topS 35
theorem sc_values_in : FnScope ["book", "row", "value", "name", "columns", "rows"] ["book"] (defScope s_values_in) := ⟨rfl, rfl, rfl, by decide +kernel, rfl, by decide +kernel, by decide +kernel⟩
abbrev s_is_book : Stmt := topS 36
theorem sc_is_book : FnScope ["thing", "names", "name", "columns", "rows", "table", "one", "other"] ["thing"] (defScope s_is_book) := ⟨rfl, rfl, rfl, by decide +kernel, rfl, by decide +kernel, by decide +kernel⟩
abbrev s_heads : Stmt := topS 37
theorem sc_heads : FnScope ["book", "name", "columns", "rows"] ["book"] (defScope s_heads) := ⟨rfl, rfl, rfl, by decide +kernel, rfl, by decide +kernel, by decide +kernel⟩
abbrev s_are_books : Stmt := topS 38
theorem sc_are_books : FnScope ["thing", "book"] ["thing"] (defScope s_are_books) := ⟨rfl, rfl, rfl, by decide +kernel, rfl, by decide +kernel, by decide +kernel⟩
abbrev s_check_number : Stmt := topS 39
theorem sc_check_number : FnScope ["many", "thing"] ["many", "thing"] (defScope s_check_number) := ⟨rfl, rfl, rfl, by decide +kernel, rfl, by decide +kernel, by decide +kernel⟩
abbrev s_table_at : Stmt := topS 40
theorem sc_table_at : FnScope ["book", "thing", "found", "table"] ["book", "thing"] (defScope s_table_at) := ⟨rfl, rfl, rfl, by decide +kernel, rfl, by decide +kernel, by decide +kernel⟩
abbrev s_named_of : Stmt := topS 42
theorem sc_named_of : FnScope ["thing", "found", "value"] ["thing"] (defScope s_named_of) := ⟨rfl, rfl, rfl, by decide +kernel, rfl, by decide +kernel, by decide +kernel⟩
abbrev s_deeds_of : Stmt := topS 43
theorem sc_deeds_of : FnScope ["thing", "word"] ["thing"] (defScope s_deeds_of) := ⟨rfl, rfl, rfl, by decide +kernel, rfl, by decide +kernel, by decide +kernel⟩
abbrev s___len__ : Stmt := inClass (topS 44) 2
theorem sc___len__ : FnScope ["self"] ["self"] (defScope s___len__) := ⟨rfl, rfl, rfl, by decide +kernel, rfl, by decide +kernel, by decide +kernel⟩
abbrev s_names_of : Stmt := topS 45
theorem sc_names_of : FnScope ["field", "name", "columns", "rows"] ["field"] (defScope s_names_of) := ⟨rfl, rfl, rfl, by decide +kernel, rfl, by decide +kernel, by decide +kernel⟩
abbrev s_table_columns : Stmt := topS 46
theorem sc_table_columns : FnScope ["field", "name", "told", "columns", "rows"] ["field", "name"] (defScope s_table_columns) := ⟨rfl, rfl, rfl, by decide +kernel, rfl, by decide +kernel, by decide +kernel⟩
abbrev s_rows_of : Stmt := topS 47
theorem sc_rows_of : FnScope ["field", "book", "name", "told", "columns", "rows"] ["field", "book", "name"] (defScope s_rows_of) := ⟨rfl, rfl, rfl, by decide +kernel, rfl, by decide +kernel, by decide +kernel⟩
abbrev s_picked_rows : Stmt := topS 49
theorem sc_picked_rows : FnScope ["rows", "picked", "row", "column"] ["rows", "picked"] (defScope s_picked_rows) := ⟨rfl, rfl, rfl, by decide +kernel, rfl, by decide +kernel, by decide +kernel⟩
abbrev s_done_on_one : Stmt := topS 53
theorem sc_done_on_one : FnScope ["deed", "rows", "word", "i", "given", "row"] ["deed", "rows"] (defScope s_done_on_one) := ⟨rfl, rfl, rfl, by decide +kernel, rfl, by decide +kernel, by decide +kernel⟩
abbrev s_done_on : Stmt := topS 54
theorem sc_done_on : FnScope ["deed", "one", "other", "word", "i", "j", "row"] ["deed", "one", "other"] (defScope s_done_on) := ⟨rfl, rfl, rfl, by decide +kernel, rfl, by decide +kernel, by decide +kernel⟩
abbrev s_is_column : Stmt := topS 58
theorem sc_is_column : FnScope ["thing", "columns"] ["thing", "columns"] (defScope s_is_column) := ⟨rfl, rfl, rfl, by decide +kernel, rfl, by decide +kernel, by decide +kernel⟩
abbrev s_are_picked : Stmt := topS 59
theorem sc_are_picked : FnScope ["thing", "columns", "column"] ["thing", "columns"] (defScope s_are_picked) := ⟨rfl, rfl, rfl, by decide +kernel, rfl, by decide +kernel, by decide +kernel⟩
abbrev s_is_named : Stmt := topS 60
theorem sc_is_named : FnScope ["field", "thing"] ["field", "thing"] (defScope s_is_named) := ⟨rfl, rfl, rfl, by decide +kernel, rfl, by decide +kernel, by decide +kernel⟩
abbrev s_columns_by_one : Stmt := topS 61
theorem sc_columns_by_one : FnScope ["field", "deed", "columns", "word", "fitting", "given"] ["field", "deed", "columns"] (defScope s_columns_by_one) := ⟨rfl, rfl, rfl, by decide +kernel, rfl, by decide +kernel, by decide +kernel⟩
abbrev s_looked : Stmt := topS 65
theorem sc_looked : FnScope ["field", "thing", "left"] ["field", "thing", "left"] (defScope s_looked) := ⟨rfl, rfl, rfl, by decide +kernel, rfl, by decide +kernel, by decide +kernel⟩
abbrev s_is_question : Stmt := topS 66
theorem sc_is_question : FnScope ["field", "thing"] ["field", "thing"] (defScope s_is_question) := ⟨rfl, rfl, rfl, by decide +kernel, rfl, by decide +kernel, by decide +kernel⟩
abbrev s_check_question : Stmt := topS 67
theorem sc_check_question : FnScope ["field", "thing"] ["field", "thing"] (defScope s_check_question) := ⟨rfl, rfl, rfl, by decide +kernel, rfl, by decide +kernel, by decide +kernel⟩
abbrev s_columns_of : Stmt := topS 68
theorem sc_columns_of : FnScope ["field", "question"] ["field", "question"] (defScope s_columns_of) := ⟨rfl, rfl, rfl, by decide +kernel, rfl, by decide +kernel, by decide +kernel⟩
abbrev s_parts_of : Stmt := topS 69
theorem sc_parts_of : FnScope ["question"] ["question"] (defScope s_parts_of) := ⟨rfl, rfl, rfl, by decide +kernel, rfl, by decide +kernel, by decide +kernel⟩
abbrev s_size_of : Stmt := topS 70
theorem sc_size_of : FnScope ["question", "part"] ["question"] (defScope s_size_of) := ⟨rfl, rfl, rfl, by decide +kernel, rfl, by decide +kernel, by decide +kernel⟩
abbrev s_given_text : Stmt := topS 71
theorem sc_given_text : FnScope ["thing", "column"] ["thing"] (defScope s_given_text) := ⟨rfl, rfl, rfl, by decide +kernel, rfl, by decide +kernel, by decide +kernel⟩
abbrev s_text_of : Stmt := topS 72
theorem sc_text_of : FnScope ["question", "parts", "told", "word", "given", "part", "thing"] ["question"] (defScope s_text_of) := ⟨rfl, rfl, rfl, by decide +kernel, rfl, by decide +kernel, by decide +kernel⟩
abbrev s_rank : Stmt := topS 73
theorem sc_rank : FnScope ["question"] ["question"] (defScope s_rank) := ⟨rfl, rfl, rfl, by decide +kernel, rfl, by decide +kernel, by decide +kernel⟩
abbrev s_is_ahead : Stmt := topS 74
theorem sc_is_ahead : FnScope ["one", "other"] ["one", "other"] (defScope s_is_ahead) := ⟨rfl, rfl, rfl, by decide +kernel, rfl, by decide +kernel, by decide +kernel⟩
abbrev s_rows_told : Stmt := topS 77
theorem sc_rows_told : FnScope ["field", "book", "question", "told", "part"] ["field", "book", "question"] (defScope s_rows_told) := ⟨rfl, rfl, rfl, by decide +kernel, rfl, by decide +kernel, by decide +kernel⟩
abbrev s_answer : Stmt := topS 78
theorem sc_answer : FnScope ["field", "question", "book"] ["field", "question"] (defScope s_answer) := ⟨rfl, rfl, rfl, by decide +kernel, rfl, by decide +kernel, by decide +kernel⟩
abbrev s_moves_by_word : Stmt := topS 81
theorem sc_moves_by_word : FnScope ["field", "word", "columns", "j", "i", "value", "picked"] ["field", "word", "columns"] (defScope s_moves_by_word) := ⟨rfl, rfl, rfl, by decide +kernel, rfl, by decide +kernel, by decide +kernel⟩
abbrev s_moves_on_one : Stmt := topS 82
theorem sc_moves_on_one : FnScope ["field", "words", "columns", "word", "move"] ["field", "words", "columns"] (defScope s_moves_on_one) := ⟨rfl, rfl, rfl, by decide +kernel, rfl, by decide +kernel, by decide +kernel⟩
abbrev s_lot_of : Stmt := topS 85
theorem sc_lot_of : FnScope ["field", "question", "told"] ["field", "question"] (defScope s_lot_of) := ⟨rfl, rfl, rfl, by decide +kernel, rfl, by decide +kernel, by decide +kernel⟩
abbrev s_key_of : Stmt := topS 88
theorem sc_key_of : FnScope ["lot"] ["lot"] (defScope s_key_of) := ⟨rfl, rfl, rfl, by decide +kernel, rfl, by decide +kernel, by decide +kernel⟩
abbrev s_made_lots : Stmt := topS 90
theorem sc_made_lots : FnScope ["field", "size", "lots", "found", "lot", "second", "made", "name"] ["field", "size", "lots"] (defScope s_made_lots) := ⟨rfl, rfl, rfl, by decide +kernel, rfl, by decide +kernel, by decide +kernel⟩
abbrev s_lot_rank : Stmt := topS 91
theorem sc_lot_rank : FnScope ["lot"] ["lot"] (defScope s_lot_rank) := ⟨rfl, rfl, rfl, by decide +kernel, rfl, by decide +kernel, by decide +kernel⟩
abbrev s_reach : Stmt := topS 93
theorem sc_reach : FnScope ["field", "size", "lots", "behind"] ["field", "size"] (defScope s_reach) := ⟨rfl, rfl, rfl, by decide +kernel, rfl, by decide +kernel, by decide +kernel⟩
abbrev s_risen : Stmt := topS 29
theorem sc_risen : FnScope ["rows", "once", "row"] ["rows"] (defScope s_risen) := ⟨rfl, rfl, rfl, by decide +kernel, rfl, by decide +kernel, by decide +kernel⟩
abbrev s_values_risen : Stmt := topS 30
theorem sc_values_risen : FnScope ["values", "once", "value"] ["values"] (defScope s_values_risen) := ⟨rfl, rfl, rfl, by decide +kernel, rfl, by decide +kernel, by decide +kernel⟩
abbrev s_picks : Stmt := topS 80
theorem sc_picks : FnScope ["columns", "found", "longer", "many", "some", "column"] ["columns"] (defScope s_picks) := ⟨rfl, rfl, rfl, by decide +kernel, rfl, by decide +kernel, by decide +kernel⟩
abbrev s_lots_by_one : Stmt := topS 86
theorem sc_lots_by_one : FnScope ["field", "lot", "size", "question", "columns", "told", "found", "move", "rows", "one"] ["field", "lot"] (defScope s_lots_by_one) := ⟨rfl, rfl, rfl, by decide +kernel, rfl, by decide +kernel, by decide +kernel⟩
abbrev s_further : Stmt := topS 92
theorem sc_further : FnScope ["field", "size", "lots", "kept", "made", "known", "lot"] ["field", "size", "lots"] (defScope s_further) := ⟨rfl, rfl, rfl, by decide +kernel, rfl, by decide +kernel, by decide +kernel⟩
abbrev s__law_take : Stmt := topS 95
theorem sc__law_take : FnScope ["_law_state", "_law_below", "_law_found", "_law_cell"] ["_law_state", "_law_below"] (defScope s__law_take) := ⟨rfl, rfl, rfl, by decide +kernel, rfl, by decide +kernel, by decide +kernel⟩
abbrev s__law_word : Stmt := topS 96
theorem sc__law_word : FnScope ["_law_state", "_law_k"] ["_law_state"] (defScope s__law_word) := ⟨rfl, rfl, rfl, by decide +kernel, rfl, by decide +kernel, by decide +kernel⟩
abbrev s__law_pool : Stmt := topS 97
theorem sc__law_pool : FnScope ["_law_state", "_law_many", "_law_great", "_law_some", "_law_found", "_law_k"] ["_law_state", "_law_many"] (defScope s__law_pool) := ⟨rfl, rfl, rfl, by decide +kernel, rfl, by decide +kernel, by decide +kernel⟩
abbrev s__law_sorted : Stmt := topS 98
theorem sc__law_sorted : FnScope ["_law_rows", "_law_once", "_law_row"] ["_law_rows"] (defScope s__law_sorted) := ⟨rfl, rfl, rfl, by decide +kernel, rfl, by decide +kernel, by decide +kernel⟩
abbrev s__law_tables : Stmt := topS 99
theorem sc__law_tables : FnScope ["_law_state", "_law_wide", "_law_names", "_law_found", "_law_name"] ["_law_state", "_law_wide"] (defScope s__law_tables) := ⟨rfl, rfl, rfl, by decide +kernel, rfl, by decide +kernel, by decide +kernel⟩
abbrev s__law_books : Stmt := topS 100
theorem sc__law_books : FnScope ["_law_state", "_law_tables_here", "_law_pool_here", "_law_most", "_law_books_here", "_law_book", "_law_told", "_law_name", "_law_columns", "_law_rows", "_law_k", "_law_c"] ["_law_state", "_law_tables_here", "_law_pool_here", "_law_most"] (defScope s__law_books) := ⟨rfl, rfl, rfl, by decide +kernel, rfl, by decide +kernel, by decide +kernel⟩
abbrev s__law_tiny : Stmt := topS 101
theorem sc__law_tiny : FnScope ["_law_state", "_law_words", "_law_tables_here", "_law_pool_here", "_law_marked", "_law_value", "_law_chosen", "_law_word_here", "_law_books_here"] ["_law_state", "_law_words"] (defScope s__law_tiny) := ⟨rfl, rfl, rfl, by decide +kernel, rfl, by decide +kernel, by decide +kernel⟩
abbrev s_law : Stmt := topS 102
theorem sc_law : FnScope ["_law_script", "_law_state", "_law_words", "_law_data", "_law_far", "_law_lots", "_law_number", "_law_own", "_law_lot", "_law_some", "_law_one"] ["_law_script"] (defScope s_law) := ⟨rfl, rfl, rfl, by decide +kernel, rfl, by decide +kernel, by decide +kernel⟩
abbrev s___init__ : Stmt := inClass (topS 44) 0
theorem sc___init__ : FnScope ["self", "books", "named", "deeds"] ["self", "books", "named", "deeds"] (defScope s___init__) := ⟨rfl, rfl, rfl, by decide +kernel, rfl, by decide +kernel, by decide +kernel⟩
structure DefT (K : PySem.W.Frag) (mg : Str → Option Value) (x : Str) (st : Stmt) (ps : List Str) where
  f : Addr
  fd : FuncData
  fn : Fun K x x st f fd
  gl : mg x = some (.ref f)
  bd : Binds K fd ps []
structure DefTD (K : PySem.W.Frag) (mg : Str → Option Value) (x : Str) (st : Stmt) (ps : List Str) (dvs : List V) where
  f : Addr
  fd : FuncData
  fn : FunD K x x (defArgs st) (defBody st) (defScope st) dvs [] f fd
  gl : mg x = some (.ref f)
  ds : List Value
  dv : Vals dvs ds
  bd : Binds K fd ps ds
def deedsD : PyData := .tuple [.str "below", .str "join", .str "less", .str "same", .str "take", .str "union", .str "value", .str "with", .str "without"]
def keys_ONE : List (Str × Bool) := [("below", true), ("same", true), ("take", true), ("value", true)]
structure Txt (K : PySem.W.Frag) (mg : Str → Option Value) (w : World) (CF : Addr) where
  b_all : mg "all" = none
  b_bool : mg "bool" = none
  b_int : mg "int" = none
  b_isinstance : mg "isinstance" = none
  b_len : mg "len" = none
  b_list : mg "list" = none
  b_range : mg "range" = none
  b_set : mg "set" = none
  b_sorted : mg "sorted" = none
  b_str : mg "str" = none
  b_sum : mg "sum" = none
  b_tuple : mg "tuple" = none
  b_zip : mg "zip" = none
  t_WIDE : Tok
  c_WIDE : mg "WIDE" = some (.int 3 t_WIDE)
  t_ROWS : Tok
  c_ROWS : mg "ROWS" = some (.int 6 t_ROWS)
  t_TABLES : Tok
  c_TABLES : mg "TABLES" = some (.int 3 t_TABLES)
  t_MANY : Tok
  c_MANY : mg "MANY" = some (.int 3 t_MANY)
  t_VALUES : Tok
  c_VALUES : mg "VALUES" = some (.int 18 t_VALUES)
  t_NAMED : Tok
  c_NAMED : mg "NAMED" = some (.int 3 t_NAMED)
  t_SIZE : Tok
  c_SIZE : mg "SIZE" = some (.int 40 t_SIZE)
  t_LOTS : Tok
  c_LOTS : mg "LOTS" = some (.int 300 t_LOTS)
  t_LONGEST : Tok
  c_LONGEST : mg "LONGEST" = some (.int 8 t_LONGEST)
  t_GREATEST : Tok
  c_GREATEST : mg "GREATEST" = some (.int 1000000000 t_GREATEST)
  t_LETTERS : Tok
  c_LETTERS : mg "LETTERS" = some (.str "abcdefghijklmnopqrstuvwxyz" t_LETTERS)
  a_DEEDS : Addr
  c_DEEDS : mg "DEEDS" = some (.ref a_DEEDS)
  r_DEEDS : ∀ G, RD K G (.ref a_DEEDS) deedsD
  a_ONE : Addr
  es_ONE : Array DictEntry
  n_ONE : Nat
  k_ONE : KDict K w a_ONE es_ONE n_ONE
  kl_ONE : ∀ z k, keys_ONE.lookup z = some k → ∃ r, PySem.W.nsIn K a_ONE z = some r ∧ r.isSome = k
  c_ONE : mg "ONE" = some (.ref a_ONE)
  cls : Cls K CF
  c_Field : mg "Field" = some (.ref CF)
  na_books : NoAttr K CF "books"
  na_named : NoAttr K CF "named"
  na_deeds : NoAttr K CF "deeds"
  f_len : Addr
  fd_len : FuncData
  fn_len : Fun K "__len__" "Field.__len__" s___len__ f_len fd_len
  len_bd : Binds K fd_len ["self"] []
  m_len : Meth K CF "__len__" f_len
  a_NAMED : Addr
  f_init : Addr
  fd_init : FuncData
  fn_init : FunD K "__init__" "Field.__init__" (defArgs s___init__) (defBody s___init__) (defScope s___init__) [] [("named", .ref a_NAMED), ("deeds", .ref a_DEEDS)] f_init fd_init
  mk_init : Mk K CF f_init
  d_is_whole : DefT K mg "is_whole" s_is_whole ["thing"]
  d_is_word : DefT K mg "is_word" s_is_word ["thing"]
  d_is_value : DefT K mg "is_value" s_is_value ["thing"]
  d_is_row : DefT K mg "is_row" s_is_row ["thing"]
  d_value_key : DefT K mg "value_key" s_value_key ["value"]
  d_row_key : DefT K mg "row_key" s_row_key ["row"]
  d_value_less : DefT K mg "value_less" s_value_less ["one", "other"]
  d_row_less : DefT K mg "row_less" s_row_less ["one", "other"]
  d_are_risen : DefT K mg "are_risen" s_are_risen ["rows"]
  d_are_rows : DefT K mg "are_rows" s_are_rows ["thing", "columns"]
  d_is_table : DefT K mg "is_table" s_is_table ["thing"]
  d_values_in : DefT K mg "values_in" s_values_in ["book"]
  d_is_book : DefT K mg "is_book" s_is_book ["thing"]
  d_heads : DefT K mg "heads" s_heads ["book"]
  d_are_books : DefT K mg "are_books" s_are_books ["thing"]
  d_check_number : DefT K mg "check_number" s_check_number ["many", "thing"]
  d_table_at : DefT K mg "table_at" s_table_at ["book", "thing"]
  d_named_of : DefT K mg "named_of" s_named_of ["thing"]
  d_deeds_of : DefT K mg "deeds_of" s_deeds_of ["thing"]
  d_names_of : DefT K mg "names_of" s_names_of ["field"]
  d_table_columns : DefT K mg "table_columns" s_table_columns ["field", "name"]
  d_rows_of : DefT K mg "rows_of" s_rows_of ["field", "book", "name"]
  d_picked_rows : DefT K mg "picked_rows" s_picked_rows ["rows", "picked"]
  d_done_on_one : DefT K mg "done_on_one" s_done_on_one ["deed", "rows"]
  a_E : Addr
  r_E : ∀ G, RD K G (.ref a_E) (.tuple [])
  d_done_on : DefTD K mg "done_on" s_done_on ["deed", "one", "other"] [.ref a_E]
  d_is_column : DefT K mg "is_column" s_is_column ["thing", "columns"]
  d_are_picked : DefT K mg "are_picked" s_are_picked ["thing", "columns"]
  d_is_named : DefT K mg "is_named" s_is_named ["field", "thing"]
  d_columns_by_one : DefT K mg "columns_by_one" s_columns_by_one ["field", "deed", "columns"]
  d_looked : DefT K mg "looked" s_looked ["field", "thing", "left"]
  d_is_question : DefT K mg "is_question" s_is_question ["field", "thing"]
  d_check_question : DefT K mg "check_question" s_check_question ["field", "thing"]
  d_columns_of : DefT K mg "columns_of" s_columns_of ["field", "question"]
  d_parts_of : DefT K mg "parts_of" s_parts_of ["question"]
  d_size_of : DefT K mg "size_of" s_size_of ["question"]
  d_given_text : DefT K mg "given_text" s_given_text ["thing"]
  d_text_of : DefT K mg "text_of" s_text_of ["question"]
  d_rank : DefT K mg "rank" s_rank ["question"]
  d_is_ahead : DefT K mg "is_ahead" s_is_ahead ["one", "other"]
  d_rows_told : DefT K mg "rows_told" s_rows_told ["field", "book", "question"]
  d_answer : DefT K mg "answer" s_answer ["field", "question"]
  d_moves_by_word : DefT K mg "moves_by_word" s_moves_by_word ["field", "word", "columns"]
  d_moves_on_one : DefT K mg "moves_on_one" s_moves_on_one ["field", "words", "columns"]
  d_lot_of : DefT K mg "lot_of" s_lot_of ["field", "question"]
  d_key_of : DefT K mg "key_of" s_key_of ["lot"]
  d_made_lots : DefT K mg "made_lots" s_made_lots ["field", "size", "lots"]
  d_lot_rank : DefT K mg "lot_rank" s_lot_rank ["lot"]
  d_reach : DefT K mg "reach" s_reach ["field", "size"]
  d_risen : DefT K mg "risen" s_risen ["rows"]
  d_values_risen : DefT K mg "values_risen" s_values_risen ["values"]
  d_picks : DefT K mg "picks" s_picks ["columns"]
  d_lots_by_one : DefT K mg "lots_by_one" s_lots_by_one ["field", "lot"]
  d_further : DefT K mg "further" s_further ["field", "size", "lots"]
  d__law_take : DefT K mg "_law_take" s__law_take ["_law_state", "_law_below"]
  d__law_word : DefT K mg "_law_word" s__law_word ["_law_state"]
  d__law_pool : DefT K mg "_law_pool" s__law_pool ["_law_state", "_law_many"]
  d__law_sorted : DefT K mg "_law_sorted" s__law_sorted ["_law_rows"]
  d__law_tables : DefT K mg "_law_tables" s__law_tables ["_law_state", "_law_wide"]
  d__law_books : DefT K mg "_law_books" s__law_books ["_law_state", "_law_tables_here", "_law_pool_here", "_law_most"]
  d__law_tiny : DefT K mg "_law_tiny" s__law_tiny ["_law_state", "_law_words"]
  d_law : DefT K mg "law" s_law ["_law_script"]
  c_srt : Addr
  e_srt : ∃ (oc : Value) (od : Option Addr) (kV doc pm : Value) (an : Option Addr) (ct : Value) (osl : Array (Option Value)), d__law_sorted.fd = PySem.W.fnOf "_law_sorted" "_law_sorted" (defArgs s__law_sorted) (defBody s__law_sorted) (defScope s__law_sorted) .none kV doc pm an (.ref c_srt) ct ∧ K.lookup d__law_sorted.f = some ⟨oc, od, .func d__law_sorted.fd, osl⟩ ∧ PySem.W.codeIn K (.ref c_srt) "_law_sorted" = true
theorem no_spD {K : PySem.W.Frag} {vs : List V} {H : Hp} {Q : VK} {E : XK} (h : spD K (fun _ => none) vs H Q E) : False := by
  obtain ⟨_, _, _, _, _, h, _⟩ := h
  cases h
theorem fn_none {P : Program} {w : World} {K : PySem.W.Frag} {mg : Str → Option Value} {base : Heap} {k : Nat} {f : Addr} {fd : FuncData} {ps : List Str} : FnOk P w K mg base CX0 k f fd ps (spD K fun _ => none) :=
  ⟨fun _ _ _ _ h => (no_spD h).elim, fun _ _ _ _ _ _ _ _ _ _ _ _ _ h => (no_spD h).elim⟩
theorem fn_DD {P : Program} {w : World} {K : PySem.W.Frag} {mg : Str → Option Value} {base : Heap} {x qual : Str} {st : Stmt} {f : Addr} {fd : FuncData} {N ps : List Str} {k : Nat} {S : DS} {dvs : List V} {kws : List (Str × V)} (F : FunD K x qual (defArgs st) (defBody st) (defScope st) dvs kws f fd) (sc : FnScope N ps (defScope st))
    (h : ∀ (cdv : Value) (A : Around) (outer : List Env) (s : Shared) (H : Hp) (E : XK), Room k (A.deeper (envOfC qual (defScope st) s.heap.objs.size f cdv)) → PDSs (cxOf CX0 P w K mg base N qual (defScope st) f cdv A outer s H E).nox (defBody st) S) :
    FnOk P w K mg base CX0 (k + 1) f fd ps (spD K (runD N.length ps.length S)) := by
  refine F.ok sc (fun vs H Q E h => ?_) (fun cdv A outer s H vs Q E hr hq => ?_)
  · obtain ⟨G, ds, d, eg, r, h, q⟩ := h
    unfold runD at h
    split at h
    · rw [r.length]; assumption
    · cases h
  · obtain ⟨G, ds, d, eg, r, hf, q⟩ := hq
    refine ⟨_, (h cdv A outer s H E hr).nox, ?_⟩
    unfold runD at hf
    split at hf
    · obtain ⟨rs, h1, h2⟩ := Option.bind_eq_some_iff.mp hf
      refine ⟨G, _, rs, eg, start_rd r, h1, ?_⟩
      cases rs with
      | nx ρ =>
        cases h2
        exact fun σ' H' G' g _ => q .non H' G' g .non
      | rt d' =>
        cases h2
        exact q
    · cases hf
theorem pd_callDf {X : Cx} {e : Expr} {es : List Expr} {Fs : DE → Option (List PyData)} {pos : Pos} {k f : Nat} {fd : FuncData} {ps : List Str} {g : DC} {x : Str} {p : Pos} {v0 : V} {d0 : PyData} {dsv : List Value} (Fk : FnOk X.prog X.w X.K X.mg X.base CX0 k f fd ps (spD X.K g)) (hr : Room k X.A) (hg : Gl X x) (hm : X.mg x = some (.ref f)) (hk : PySem.W.keepIn X.K (.ref f) = true)
    (hb : Binds X.K fd ps dsv) (hd : Vals [v0] dsv) (hv : ∀ G, RD X.K G v0 d0) (ha : PDs X (e :: es) Fs) (hdb : (x == ("__debug__" : Str)) = false := by decide)
    (he : starEach (e :: es) X.env = (false, eval e X.env) :: starEach es X.env := by rfl) (hpl : (backTo pos (starEach es X.env)).any (·.1) = false := by rfl) :
    PD X (.Call (.Name x p) (e :: es) [] pos) (fun ρ => (Fs ρ).bind fun ds => g (ds ++ [d0])) := by
  refine weakE (pe_call Fk hr hg hm hk hb hd pass0 ha hdb he hpl) fun σ H Q => ?_
  rintro ⟨G, ρ, d, eg, er, hf, q⟩
  obtain ⟨ds, h1, h2⟩ := Option.bind_eq_some_iff.mp hf
  refine ⟨G, ρ, ds, eg, er, h1, fun vs H1 G1 g1 r1 => ?_⟩
  show spD X.K g (vs ++ [v0]) H1 Q E0
  exact ⟨G1, _, d, g1.gh, r1.append (.cons (hv G1) .nil), h2, fun v H2 G2 g2 r2 => q v H2 G2 (g1.trans g2) r2⟩
end DL

set_option Elab.async false
set_option linter.all false
set_option maxRecDepth 100000
set_option maxHeartbeats 4000000
namespace DL
open PySem PySem.Spec PyProof.Rows L2 Evl

abbrev rng1D (F : DF) : DE → Option (List PyData) := fun ρ => (F ρ).bind fun d => (asI d).bind fun n => if n ≤ 100000 ∧ 0 ≤ n then some (rngD 0 n.toNat) else none
abbrev rng2D (F1 F2 : DF) : DE → Option (List PyData) := fun ρ => (F1 ρ).bind fun d => (asI d).bind fun m => (F2 ρ).bind fun d => (asI d).bind fun n => if n ≤ 100000 ∧ 0 ≤ n ∧ m ≤ 100000 ∧ 0 ≤ m then some (rngD m (n - m).toNat) else none
abbrev zipD (F1 F2 : DF) : DE → Option (List PyData) := fun ρ => (F1 ρ).bind fun d => (F2 ρ).bind fun e => match d, e with
      | .tuple xs, .tuple ys => some (List.zipWith (fun x y => .tuple [x, y]) xs ys)
      | _, _ => none
abbrev strI (F : DF) : DE → Option (List PyData) := fun ρ => (F ρ).bind fun d => match d with
    | .str z => some (z.cps.toList.map fun c => .str ⟨#[c]⟩)
    | _ => none
section
variable {X : Cx} {a b c e : Expr} {F : DF} {pos : Pos}
def exprD (F : DF) : DS := fun ρ => (F ρ).map fun _ => .nx ρ
theorem pds_expr (h : PD X e F) (hs : swapsWith e none pos.line X.env = pure false := by rfl) : PDS X (.Expr e pos) (exprD F) := weakS (ps_expr h hs) fun D σ H => by
  rintro ⟨G, ρ, r, eg, er, h, q⟩
  obtain ⟨d, h1, h2⟩ := Option.map_eq_some_iff.mp h
  subst h2
  exact ⟨G, ρ, d, eg, er, h1, fun v H1 G1 g r1 => q σ H1 G1 g (er.mono g.gg)⟩
theorem pd_neg {i : Int} {k p q} : PD X (.UnaryOp .USub (.Constant (.int i) k p) q) (fun _ => some (.int (-i))) := weakE (pe_un un_neg pe_int) fun σ H Q => by
  rintro ⟨G, ρ, d, eg, er, hf, q⟩
  cases hf
  exact ⟨i, rfl, q _ H G (Go.refl eg) (.int _)⟩
def addLD : D2
  | .list x, .list y => if x.length + y.length ≤ 100000 then some (.list (x ++ y)) else none
  | _, _ => none
theorem add_twoL {prog : Program} {w : World} {A : Around} {E : Value → Shared → Prop} {s : Shared} {l b : Addr} {vs ws : List Value} {Q : Value → Shared → Prop} (hl : s.heap.IsList l vs.toArray) (hb : s.heap.IsList b ws.toArray) (hz : vs.length + ws.length ≤ sizeLine)
    (h : Q (.ref s.heap.objs.size) { s with heap := s.heap.push { cls := .type "list", data := .seq (vs ++ ws).toArray } }) : wpAny (model prog w) A (binaryOp .Add (.ref l) (.ref b)) Q E s := by
  obtain ⟨⟨c1, d1, x1, sl1⟩, ho, hc, n, hd⟩ := id hl
  obtain ⟨⟨c2, d2, x2, sl2⟩, ho2, hc2, n2, hd2⟩ := id hb
  simp only at hc hd hc2 hd2
  subst hc hd hc2 hd2
  refine concat_meets ⟨_, ho, rfl⟩ ⟨_, ho2, rfl⟩ noFill_list_add seq_list_add PySem.F.slot_list_add PySem.F.entry_list_add (PySem.F.args_list_add_2 _ _) (list_addW l b vs.toArray ws.toArray n n2 d1 d2 sl1 sl2 (by simpa using hz)) ⟨ho, ho2, ?_⟩
  have e : vs.toArray ++ ws.toArray = (vs ++ ws).toArray := by simp
  rw [e]
  exact h
theorem od_addL : OD X (binaryOp .Add) addLD := by
  intro pins s σ H x y v u Q I rx ry h
  obtain ⟨G, d, e, r, eg, r1, r2, h, q⟩ := h
  unfold addLD at h
  split at h
  · split at h
    · rename_i hl
      cases h
      cases r1 with
      | lst s1 t1 =>
        cases r2 with
        | lst s2 t2 =>
          cases rx
          cases ry
          obtain ⟨its, rv, pl, hz⟩ := I.list (ex_l eg s1)
          obtain ⟨its2, rv2, pl2, hz2⟩ := I.list (ex_l eg s2)
          have l1 := t1.length
          have l2 := t2.length
          have l3 := rv.length
          have l4 := rv2.length
          refine add_twoL pl.isList pl2.isList (sz_of (by omega)) ?_
          exact ⟨.ref _, _, I.lnew (t' := s.toks) (rv.append rv2) (by rw [List.length_append]; exact sz_of (by omega)), rfl, q _ _ _ (Go.new eg I.fresh) (rd_newL (fresh_back eg I.fresh) (t1.append t2))⟩
    · cases h
  · cases h
end

section
variable {P : Program} {w : World} {K : PySem.W.Frag} {mg : Str → Option Value} {base : Heap} {CF : Addr}
def S_is_whole (CF : Addr) : DS := (retD (andV (fun ρ => ((fun ρ => sl ρ 0) ρ).bind (isiD "int")) (notV (fun ρ => ((fun ρ => sl ρ 0) ρ).bind (isiD "bool")))))
def g_is_whole (CF : Addr) : DC := runD 1 1 (S_is_whole CF)
theorem ok_is_whole (T : Txt K mg w CF) : FnOk P w K mg base CX0 1 T.d_is_whole.f T.d_is_whole.fd ["thing"] (spD K (g_is_whole CF)) := fn_D T.d_is_whole.fn sc_is_whole fun cdv A outer s H E hr => by
  have nd := sc_is_whole.nd
  exact (pdss_one (pds_ret (pd_and (pd_isi rfl T.b_isinstance (by decide +kernel) rfl T.b_int (by decide +kernel) (pd_var (pv 0))) (pd_one (pd_not (pd_isi rfl T.b_isinstance (by decide +kernel) rfl T.b_bool (by decide +kernel) (pd_var (pv 0))))))))
def S_is_word (CF : Addr) : DS := (seqD (ifD (orT (notT (fun ρ => ((fun ρ => ((fun ρ => sl ρ 0) ρ).bind (isiD "str")) ρ).bind asB)) (notT (fun ρ => (chD (cmpI fun i j => decide (i ≤ j)) (cmpI fun i j => decide (i ≤ j)) (fun _ => some (.int 1)) (fun ρ => ((fun ρ => ((fun ρ => sl ρ 0) ρ).bind fun d => ((fun _ => some []) ρ).bind fun ds => some (d :: ds)) ρ).bind lenD) (fun _ => some (.int 8)) ρ).bind asB))) (retD (fun _ => some (.bool false))) nxD) (retD (fun ρ => ((fun ρ => ((lcD [1] (strI (fun ρ => sl ρ 0)) (oneB 1) yesT (b2 inSg (fun ρ => sl ρ 1) (fun _ => some (.str "abcdefghijklmnopqrstuvwxyz")))) ρ).bind fun d => ((fun _ => some []) ρ).bind fun ds => some (d :: ds)) ρ).bind allD)))
def g_is_word (CF : Addr) : DC := runD 2 1 (S_is_word CF)
theorem ok_is_word (T : Txt K mg w CF) : FnOk P w K mg base CX0 1 T.d_is_word.f T.d_is_word.fd ["thing"] (spD K (g_is_word CF)) := fn_D T.d_is_word.fn sc_is_word fun cdv A outer s H E hr => by
  have nd := sc_is_word.nd
  exact (pdss_cons (pds_if (pdt_of (pdw_or (pdt_not (pdt_val (pd_isi rfl T.b_isinstance (by decide +kernel) rfl T.b_str (by decide +kernel) (pd_var (pv 0))))) (pdw_or1 (pdt_not (pdt_chain od_leI od_leI pd_int (pd_callB cd_len (by rfl) T.b_len (by decide +kernel) (pds_cons (pd_var (pv 0)) pds_nil)) (pd_const (pe_glob (v := .int 8) rfl T.c_LONGEST ⟨_, rfl⟩) (fun _ => .int 8))))))) (pdss_one (pds_ret pd_bl)) pdss_nil) (pdss_one (pds_ret (pd_callB (cd_all rfl) (by rfl) T.b_all (by decide +kernel) (pds_cons (pd_lc (own := [("sign", 1)]) rfl nd (pdi_str (pd_var (pv 0))) (blkOk_by (N := ["thing", "sign"]) (sc := defScope s_is_word) (by decide +kernel)) (tg_one 1) (by decide) (fun _ _ _ _ _ => (pg_name (i := 1) nd rfl (by first | exact Or.inl rfl | exact Or.inr rfl))) (fun _ _ _ _ _ => pdts_nil) (fun _ _ _ _ _ => (pd_cmp od_inSg (pd_var (pv 1)) (pd_const (pe_glob (v := .str "abcdefghijklmnopqrstuvwxyz") rfl T.c_LETTERS ⟨_, rfl⟩) (fun _ => .str _)) (by rfl)))) pds_nil)))))
def S_is_value (CF : Addr) : DS := (retD (orV (fun ρ => ((fun ρ => ((fun ρ => sl ρ 0) ρ).bind fun d => ((fun _ => some []) ρ).bind fun ds => some (d :: ds)) ρ).bind (g_is_word CF)) (andV (fun ρ => ((fun ρ => ((fun ρ => sl ρ 0) ρ).bind fun d => ((fun _ => some []) ρ).bind fun ds => some (d :: ds)) ρ).bind (g_is_whole CF)) (chD (cmpI fun i j => decide (i ≤ j)) (cmpI fun i j => decide (i ≤ j)) (fun _ => some (.int 0)) (fun ρ => sl ρ 0) (fun _ => some (.int 1000000000))))))
def g_is_value (CF : Addr) : DC := runD 1 1 (S_is_value CF)
theorem ok_is_value (T : Txt K mg w CF) : FnOk P w K mg base CX0 2 T.d_is_value.f T.d_is_value.fd ["thing"] (spD K (g_is_value CF)) := fn_D T.d_is_value.fn sc_is_value fun cdv A outer s H E hr => by
  have nd := sc_is_value.nd
  exact (pdss_one (pds_ret (pd_or (pd_call (ok_is_word T) (hr.mono (by decide)) (by rfl) T.d_is_word.gl T.d_is_word.fn.kp T.d_is_word.bd (pds_cons (pd_var (pv 0)) pds_nil)) (pd_one (pd_and (pd_call (ok_is_whole T) (hr.mono (by decide)) (by rfl) T.d_is_whole.gl T.d_is_whole.fn.kp T.d_is_whole.bd (pds_cons (pd_var (pv 0)) pds_nil)) (pd_one (pd_chain od_leI od_leI pd_int (pd_var (pv 0)) (pd_const (pe_glob (v := .int 1000000000) rfl T.c_GREATEST ⟨_, rfl⟩) (fun _ => .int 1000000000)))))))))
def S_is_row (CF : Addr) : DS := (retD (andV (fun ρ => ((fun ρ => sl ρ 0) ρ).bind (isiD "tuple")) (andV (chD (cmpI fun i j => decide (i ≤ j)) (cmpI fun i j => decide (i ≤ j)) (fun _ => some (.int 1)) (fun ρ => ((fun ρ => ((fun ρ => sl ρ 0) ρ).bind fun d => ((fun _ => some []) ρ).bind fun ds => some (d :: ds)) ρ).bind lenD) (fun _ => some (.int 3))) (fun ρ => ((fun ρ => ((lcD [1] (fun ρ => ((fun ρ => sl ρ 0) ρ).bind asSeq) (oneB 1) yesT (fun ρ => ((fun ρ => ((fun ρ => sl ρ 1) ρ).bind fun d => ((fun _ => some []) ρ).bind fun ds => some (d :: ds)) ρ).bind (g_is_value CF))) ρ).bind fun d => ((fun _ => some []) ρ).bind fun ds => some (d :: ds)) ρ).bind allD))))
def g_is_row (CF : Addr) : DC := runD 2 1 (S_is_row CF)
theorem ok_is_row (T : Txt K mg w CF) : FnOk P w K mg base CX0 3 T.d_is_row.f T.d_is_row.fd ["thing"] (spD K (g_is_row CF)) := fn_D T.d_is_row.fn sc_is_row fun cdv A outer s H E hr => by
  have nd := sc_is_row.nd
  exact (pdss_one (pds_ret (pd_and (pd_isi rfl T.b_isinstance (by decide +kernel) rfl T.b_tuple (by decide +kernel) (pd_var (pv 0))) (pd_and (pd_chain od_leI od_leI pd_int (pd_callB cd_len (by rfl) T.b_len (by decide +kernel) (pds_cons (pd_var (pv 0)) pds_nil)) (pd_const (pe_glob (v := .int 3) rfl T.c_WIDE ⟨_, rfl⟩) (fun _ => .int 3))) (pd_one (pd_callB (cd_all rfl) (by rfl) T.b_all (by decide +kernel) (pds_cons (pd_lc (own := [("value", 1)]) rfl nd (pdi_seq (pd_var (pv 0))) (blkOk_by (N := ["thing", "value"]) (sc := defScope s_is_row) (by decide +kernel)) (tg_one 1) (by decide) (fun _ _ _ _ _ => (pg_name (i := 1) nd rfl (by first | exact Or.inl rfl | exact Or.inr rfl))) (fun _ _ _ _ _ => pdts_nil) (fun _ _ _ _ _ => (pd_call (ok_is_value T) (hr.mono (by decide)) (by rfl) T.d_is_value.gl T.d_is_value.fn.kp T.d_is_value.bd (pds_cons (pd_var (pv 1)) pds_nil)))) pds_nil)))))))
def S_value_key (CF : Addr) : DS := (seqD (ifD (fun ρ => ((fun ρ => ((fun ρ => sl ρ 0) ρ).bind (isiD "str")) ρ).bind asB) (retD (fun ρ => ((fun ρ => ((fun _ => some (.int 1)) ρ).bind fun d => ((fun ρ => ((fun _ => some (.int 0)) ρ).bind fun d => ((fun ρ => ((fun ρ => sl ρ 0) ρ).bind fun d => ((fun _ => some []) ρ).bind fun ds => some (d :: ds)) ρ).bind fun ds => some (d :: ds)) ρ).bind fun ds => some (d :: ds)) ρ).bind tupD)) nxD) (retD (fun ρ => ((fun ρ => ((fun _ => some (.int 0)) ρ).bind fun d => ((fun ρ => ((fun ρ => sl ρ 0) ρ).bind fun d => ((fun ρ => ((fun _ => some (.str "")) ρ).bind fun d => ((fun _ => some []) ρ).bind fun ds => some (d :: ds)) ρ).bind fun ds => some (d :: ds)) ρ).bind fun ds => some (d :: ds)) ρ).bind tupD)))
def g_value_key (CF : Addr) : DC := runD 1 1 (S_value_key CF)
theorem ok_value_key (T : Txt K mg w CF) : FnOk P w K mg base CX0 1 T.d_value_key.f T.d_value_key.fd ["value"] (spD K (g_value_key CF)) := fn_D T.d_value_key.fn sc_value_key fun cdv A outer s H E hr => by
  have nd := sc_value_key.nd
  exact (pdss_cons (pds_if (pdt_val (pd_isi rfl T.b_isinstance (by decide +kernel) rfl T.b_str (by decide +kernel) (pd_var (pv 0)))) (pdss_one (pds_ret (pd_tup (pds_cons pd_int (pds_cons pd_int (pds_cons (pd_var (pv 0)) pds_nil)))))) pdss_nil) (pdss_one (pds_ret (pd_tup (pds_cons pd_int (pds_cons (pd_var (pv 0)) (pds_cons pd_str pds_nil)))))))
def S_row_key (CF : Addr) : DS := (retD (lcD [1] (fun ρ => ((fun ρ => sl ρ 0) ρ).bind asSeq) (oneB 1) yesT (fun ρ => ((fun ρ => ((fun ρ => sl ρ 1) ρ).bind fun d => ((fun _ => some []) ρ).bind fun ds => some (d :: ds)) ρ).bind (g_value_key CF))))
def g_row_key (CF : Addr) : DC := runD 2 1 (S_row_key CF)
theorem ok_row_key (T : Txt K mg w CF) : FnOk P w K mg base CX0 2 T.d_row_key.f T.d_row_key.fd ["row"] (spD K (g_row_key CF)) := fn_D T.d_row_key.fn sc_row_key fun cdv A outer s H E hr => by
  have nd := sc_row_key.nd
  exact (pdss_one (pds_ret (pd_lc (own := [("value", 1)]) rfl nd (pdi_seq (pd_var (pv 0))) (blkOk_by (N := ["row", "value"]) (sc := defScope s_row_key) (by decide +kernel)) (tg_one 1) (by decide) (fun _ _ _ _ _ => (pg_name (i := 1) nd rfl (by first | exact Or.inl rfl | exact Or.inr rfl))) (fun _ _ _ _ _ => pdts_nil) (fun _ _ _ _ _ => (pd_call (ok_value_key T) (hr.mono (by decide)) (by rfl) T.d_value_key.gl T.d_value_key.fn.kp T.d_value_key.bd (pds_cons (pd_var (pv 1)) pds_nil))))))
def S_value_less (CF : Addr) : DS := (retD (b2 ltD (fun ρ => ((fun ρ => ((fun ρ => sl ρ 0) ρ).bind fun d => ((fun _ => some []) ρ).bind fun ds => some (d :: ds)) ρ).bind (g_value_key CF)) (fun ρ => ((fun ρ => ((fun ρ => sl ρ 1) ρ).bind fun d => ((fun _ => some []) ρ).bind fun ds => some (d :: ds)) ρ).bind (g_value_key CF))))
def g_value_less (CF : Addr) : DC := runD 2 2 (S_value_less CF)
theorem ok_value_less (T : Txt K mg w CF) : FnOk P w K mg base CX0 2 T.d_value_less.f T.d_value_less.fd ["one", "other"] (spD K (g_value_less CF)) := fn_D T.d_value_less.fn sc_value_less fun cdv A outer s H E hr => by
  have nd := sc_value_less.nd
  exact (pdss_one (pds_ret (pd_cmp (od_ltD hr.units) (pd_call (ok_value_key T) (hr.mono (by decide)) (by rfl) T.d_value_key.gl T.d_value_key.fn.kp T.d_value_key.bd (pds_cons (pd_var (pv 0)) pds_nil)) (pd_call (ok_value_key T) (hr.mono (by decide)) (by rfl) T.d_value_key.gl T.d_value_key.fn.kp T.d_value_key.bd (pds_cons (pd_var (pv 1)) pds_nil)) (nomark _))))
def S_row_less (CF : Addr) : DS := (retD (b2 ltD (fun ρ => ((fun ρ => ((fun ρ => sl ρ 0) ρ).bind fun d => ((fun _ => some []) ρ).bind fun ds => some (d :: ds)) ρ).bind (g_row_key CF)) (fun ρ => ((fun ρ => ((fun ρ => sl ρ 1) ρ).bind fun d => ((fun _ => some []) ρ).bind fun ds => some (d :: ds)) ρ).bind (g_row_key CF))))
def g_row_less (CF : Addr) : DC := runD 2 2 (S_row_less CF)
theorem ok_row_less (T : Txt K mg w CF) : FnOk P w K mg base CX0 3 T.d_row_less.f T.d_row_less.fd ["one", "other"] (spD K (g_row_less CF)) := fn_D T.d_row_less.fn sc_row_less fun cdv A outer s H E hr => by
  have nd := sc_row_less.nd
  exact (pdss_one (pds_ret (pd_cmp (od_ltD hr.units) (pd_call (ok_row_key T) (hr.mono (by decide)) (by rfl) T.d_row_key.gl T.d_row_key.fn.kp T.d_row_key.bd (pds_cons (pd_var (pv 0)) pds_nil)) (pd_call (ok_row_key T) (hr.mono (by decide)) (by rfl) T.d_row_key.gl T.d_row_key.fn.kp T.d_row_key.bd (pds_cons (pd_var (pv 1)) pds_nil)) (nomark _))))
def S_are_risen (CF : Addr) : DS := (retD (fun ρ => ((fun ρ => ((lcD [1, 2] (zipD (fun ρ => sl ρ 0) (slT (fun ρ => sl ρ 0) (fun ρ => (((fun _ => some (.int 1)) ρ).bind asI).map some) (fun _ => some none))) (tupB [1, 2]) yesT (fun ρ => ((fun ρ => ((fun ρ => sl ρ 1) ρ).bind fun d => ((fun ρ => ((fun ρ => sl ρ 2) ρ).bind fun d => ((fun _ => some []) ρ).bind fun ds => some (d :: ds)) ρ).bind fun ds => some (d :: ds)) ρ).bind (g_row_less CF))) ρ).bind fun d => ((fun _ => some []) ρ).bind fun ds => some (d :: ds)) ρ).bind allD))
def g_are_risen (CF : Addr) : DC := runD 3 1 (S_are_risen CF)
theorem ok_are_risen (T : Txt K mg w CF) : FnOk P w K mg base CX0 4 T.d_are_risen.f T.d_are_risen.fd ["rows"] (spD K (g_are_risen CF)) := fn_D T.d_are_risen.fn sc_are_risen fun cdv A outer s H E hr => by
  have nd := sc_are_risen.nd
  exact (pdss_one (pds_ret (pd_callB (cd_all rfl) (by rfl) T.b_all (by decide +kernel) (pds_cons (pd_lc (own := [("one", 1), ("other", 2)]) rfl nd (pdi_zip (by rfl) T.b_zip (pd_var (pv 0)) (pd_slT (pd_var (pv 0)) (pdo_some pd_int) pdo_none)) (blkOk_by (N := ["rows", "one", "other"]) (sc := defScope s_are_risen) (by decide +kernel)) (tg_tup [1, 2]) (by decide) (fun _ _ _ _ _ => (pg_tup rfl (pgs_cons (pg_name (i := 1) nd rfl (by first | exact Or.inl rfl | exact Or.inr rfl)) (pgs_cons (pg_name (i := 2) nd rfl (by first | exact Or.inl rfl | exact Or.inr rfl)) pgs_nil)))) (fun _ _ _ _ _ => pdts_nil) (fun _ _ _ _ _ => (pd_call (ok_row_less T) (hr.mono (by decide)) (by rfl) T.d_row_less.gl T.d_row_less.fn.kp T.d_row_less.bd (pds_cons (pd_var (pv 1)) (pds_cons (pd_var (pv 2)) pds_nil))))) pds_nil))))
def S_are_rows (CF : Addr) : DS := (seqD (ifD (orT (notT (fun ρ => ((fun ρ => ((fun ρ => sl ρ 0) ρ).bind (isiD "tuple")) ρ).bind asB)) (notT (fun ρ => ((fun ρ => ((fun ρ => ((lcD [2] (fun ρ => ((fun ρ => sl ρ 0) ρ).bind asSeq) (oneB 2) yesT (andV (fun ρ => ((fun ρ => ((fun ρ => sl ρ 2) ρ).bind fun d => ((fun _ => some []) ρ).bind fun ds => some (d :: ds)) ρ).bind (g_is_row CF)) (b2 eqFD (fun ρ => ((fun ρ => ((fun ρ => sl ρ 2) ρ).bind fun d => ((fun _ => some []) ρ).bind fun ds => some (d :: ds)) ρ).bind lenD) (fun ρ => sl ρ 1)))) ρ).bind fun d => ((fun _ => some []) ρ).bind fun ds => some (d :: ds)) ρ).bind allD) ρ).bind asB))) (retD (fun _ => some (.bool false))) nxD) (retD (fun ρ => ((fun ρ => ((fun ρ => sl ρ 0) ρ).bind fun d => ((fun _ => some []) ρ).bind fun ds => some (d :: ds)) ρ).bind (g_are_risen CF))))
def g_are_rows (CF : Addr) : DC := runD 3 2 (S_are_rows CF)
theorem ok_are_rows (T : Txt K mg w CF) : FnOk P w K mg base CX0 5 T.d_are_rows.f T.d_are_rows.fd ["thing", "columns"] (spD K (g_are_rows CF)) := fn_D T.d_are_rows.fn sc_are_rows fun cdv A outer s H E hr => by
  have nd := sc_are_rows.nd
  exact (pdss_cons (pds_if (pdt_of (pdw_or (pdt_not (pdt_val (pd_isi rfl T.b_isinstance (by decide +kernel) rfl T.b_tuple (by decide +kernel) (pd_var (pv 0))))) (pdw_or1 (pdt_not (pdt_val (pd_callB (cd_all rfl) (by rfl) T.b_all (by decide +kernel) (pds_cons (pd_lc (own := [("row", 2)]) rfl nd (pdi_seq (pd_var (pv 0))) (blkOk_by (N := ["thing", "columns", "row"]) (sc := defScope s_are_rows) (by decide +kernel)) (tg_one 2) (by decide) (fun _ _ _ _ _ => (pg_name (i := 2) nd rfl (by first | exact Or.inl rfl | exact Or.inr rfl))) (fun _ _ _ _ _ => pdts_nil) (fun _ _ _ _ _ => (pd_and (pd_call (ok_is_row T) (hr.mono (by decide)) (by rfl) T.d_is_row.gl T.d_is_row.fn.kp T.d_is_row.bd (pds_cons (pd_var (pv 2)) pds_nil)) (pd_one (pd_cmp od_eqF (pd_callB cd_len (by rfl) T.b_len (by decide +kernel) (pds_cons (pd_var (pv 2)) pds_nil)) (pd_var (pv 1)) (nomark _)))))) pds_nil))))))) (pdss_one (pds_ret pd_bl)) pdss_nil) (pdss_one (pds_ret (pd_call (ok_are_risen T) (hr.mono (by decide)) (by rfl) T.d_are_risen.gl T.d_are_risen.fn.kp T.d_are_risen.bd (pds_cons (pd_var (pv 0)) pds_nil)))))
def S_is_table (CF : Addr) : DS := (seqD (ifD (orT (notT (fun ρ => ((fun ρ => ((fun ρ => sl ρ 0) ρ).bind (isiD "tuple")) ρ).bind asB)) (fun ρ => (b2 neFD (fun ρ => ((fun ρ => ((fun ρ => sl ρ 0) ρ).bind fun d => ((fun _ => some []) ρ).bind fun ds => some (d :: ds)) ρ).bind lenD) (fun _ => some (.int 3)) ρ).bind asB)) (retD (fun _ => some (.bool false))) nxD) (seqD (unpD [1, 2, 3] (fun ρ => sl ρ 0)) (seqD (ifD (orT (notT (fun ρ => ((fun ρ => ((fun ρ => ((fun ρ => sl ρ 1) ρ).bind fun d => ((fun _ => some []) ρ).bind fun ds => some (d :: ds)) ρ).bind (g_is_word CF)) ρ).bind asB)) (orT (notT (fun ρ => ((fun ρ => ((fun ρ => ((fun ρ => sl ρ 2) ρ).bind fun d => ((fun _ => some []) ρ).bind fun ds => some (d :: ds)) ρ).bind (g_is_whole CF)) ρ).bind asB)) (notT (fun ρ => (chD (cmpI fun i j => decide (i ≤ j)) (cmpI fun i j => decide (i ≤ j)) (fun _ => some (.int 1)) (fun ρ => sl ρ 2) (fun _ => some (.int 3)) ρ).bind asB)))) (retD (fun _ => some (.bool false))) nxD) (retD (andV (fun ρ => ((fun ρ => ((fun ρ => sl ρ 3) ρ).bind fun d => ((fun ρ => ((fun ρ => sl ρ 2) ρ).bind fun d => ((fun _ => some []) ρ).bind fun ds => some (d :: ds)) ρ).bind fun ds => some (d :: ds)) ρ).bind (g_are_rows CF)) (b2 (cmpI fun i j => decide (i ≤ j)) (fun ρ => ((fun ρ => ((fun ρ => sl ρ 3) ρ).bind fun d => ((fun _ => some []) ρ).bind fun ds => some (d :: ds)) ρ).bind lenD) (fun _ => some (.int 6))))))))
def g_is_table (CF : Addr) : DC := runD 4 1 (S_is_table CF)
theorem ok_is_table (T : Txt K mg w CF) : FnOk P w K mg base CX0 6 T.d_is_table.f T.d_is_table.fd ["thing"] (spD K (g_is_table CF)) := fn_D T.d_is_table.fn sc_is_table fun cdv A outer s H E hr => by
  have nd := sc_is_table.nd
  exact (pdss_cons (pds_if (pdt_of (pdw_or (pdt_not (pdt_val (pd_isi rfl T.b_isinstance (by decide +kernel) rfl T.b_tuple (by decide +kernel) (pd_var (pv 0))))) (pdw_or1 (pdt_cmp od_neF (pd_callB cd_len (by rfl) T.b_len (by decide +kernel) (pds_cons (pd_var (pv 0)) pds_nil)) pd_int (nomark _))))) (pdss_one (pds_ret pd_bl)) pdss_nil) (pdss_cons (pds_unp [1, 2, 3] (pd_var (pv 0)) (pg_tup rfl (pgs_cons (pg_name (i := 1) nd rfl (by first | exact Or.inl rfl | exact Or.inr rfl)) (pgs_cons (pg_name (i := 2) nd rfl (by first | exact Or.inl rfl | exact Or.inr rfl)) (pgs_cons (pg_name (i := 3) nd rfl (by first | exact Or.inl rfl | exact Or.inr rfl)) pgs_nil))))) (pdss_cons (pds_if (pdt_of (pdw_or (pdt_not (pdt_val (pd_call (ok_is_word T) (hr.mono (by decide)) (by rfl) T.d_is_word.gl T.d_is_word.fn.kp T.d_is_word.bd (pds_cons (pd_var (pv 1)) pds_nil)))) (pdw_or (pdt_not (pdt_val (pd_call (ok_is_whole T) (hr.mono (by decide)) (by rfl) T.d_is_whole.gl T.d_is_whole.fn.kp T.d_is_whole.bd (pds_cons (pd_var (pv 2)) pds_nil)))) (pdw_or1 (pdt_not (pdt_chain od_leI od_leI pd_int (pd_var (pv 2)) (pd_const (pe_glob (v := .int 3) rfl T.c_WIDE ⟨_, rfl⟩) (fun _ => .int 3)))))))) (pdss_one (pds_ret pd_bl)) pdss_nil) (pdss_one (pds_ret (pd_and (pd_call (ok_are_rows T) (hr.mono (by decide)) (by rfl) T.d_are_rows.gl T.d_are_rows.fn.kp T.d_are_rows.bd (pds_cons (pd_var (pv 3)) (pds_cons (pd_var (pv 2)) pds_nil))) (pd_one (pd_cmp od_leI (pd_callB cd_len (by rfl) T.b_len (by decide +kernel) (pds_cons (pd_var (pv 3)) pds_nil)) (pd_const (pe_glob (v := .int 6) rfl T.c_ROWS ⟨_, rfl⟩) (fun _ => .int 6)) (nomark _)))))))))
def S_heads (CF : Addr) : DS := (retD (lcD [1, 2, 3] (fun ρ => ((fun ρ => sl ρ 0) ρ).bind asSeq) (tupB [1, 2, 3]) yesT (fun ρ => ((fun ρ => ((fun ρ => sl ρ 1) ρ).bind fun d => ((fun ρ => ((fun ρ => sl ρ 2) ρ).bind fun d => ((fun _ => some []) ρ).bind fun ds => some (d :: ds)) ρ).bind fun ds => some (d :: ds)) ρ).bind tupD)))
def g_heads (CF : Addr) : DC := runD 4 1 (S_heads CF)
theorem ok_heads (T : Txt K mg w CF) : FnOk P w K mg base CX0 1 T.d_heads.f T.d_heads.fd ["book"] (spD K (g_heads CF)) := fn_D T.d_heads.fn sc_heads fun cdv A outer s H E hr => by
  have nd := sc_heads.nd
  exact (pdss_one (pds_ret (pd_lc (own := [("name", 1), ("columns", 2), ("rows", 3)]) rfl nd (pdi_seq (pd_var (pv 0))) (blkOk_by (N := ["book", "name", "columns", "rows"]) (sc := defScope s_heads) (by decide +kernel)) (tg_tup [1, 2, 3]) (by decide) (fun _ _ _ _ _ => (pg_tup rfl (pgs_cons (pg_name (i := 1) nd rfl (by first | exact Or.inl rfl | exact Or.inr rfl)) (pgs_cons (pg_name (i := 2) nd rfl (by first | exact Or.inl rfl | exact Or.inr rfl)) (pgs_cons (pg_name (i := 3) nd rfl (by first | exact Or.inl rfl | exact Or.inr rfl)) pgs_nil))))) (fun _ _ _ _ _ => pdts_nil) (fun _ _ _ _ _ => (pd_tup (pds_cons (pd_var (pv 1)) (pds_cons (pd_var (pv 2)) pds_nil)))))))
def S_check_number (CF : Addr) : DS := (ifD (orT (notT (fun ρ => ((fun ρ => ((fun ρ => ((fun ρ => sl ρ 1) ρ).bind fun d => ((fun _ => some []) ρ).bind fun ds => some (d :: ds)) ρ).bind (g_is_whole CF)) ρ).bind asB)) (notT (fun ρ => (chD (cmpI fun i j => decide (i ≤ j)) (cmpI fun i j => decide (i < j)) (fun _ => some (.int 0)) (fun ρ => sl ρ 1) (fun ρ => sl ρ 0) ρ).bind asB))) (fun _ => none) nxD)
def g_check_number (CF : Addr) : DC := runD 2 2 (S_check_number CF)
theorem ok_check_number (T : Txt K mg w CF) : FnOk P w K mg base CX0 2 T.d_check_number.f T.d_check_number.fd ["many", "thing"] (spD K (g_check_number CF)) := fn_D T.d_check_number.fn sc_check_number fun cdv A outer s H E hr => by
  have nd := sc_check_number.nd
  exact (pdss_one (pds_if (pdt_of (pdw_or (pdt_not (pdt_val (pd_call (ok_is_whole T) (hr.mono (by decide)) (by rfl) T.d_is_whole.gl T.d_is_whole.fn.kp T.d_is_whole.bd (pds_cons (pd_var (pv 1)) pds_nil)))) (pdw_or1 (pdt_not (pdt_chain od_leI od_ltI pd_int (pd_var (pv 1)) (pd_var (pv 0))))))) (pdss_one pds_never) pdss_nil))
def S_table_at (CF : Addr) : DS := (seqD (setD 2 (lcD [3] (fun ρ => ((fun ρ => sl ρ 0) ρ).bind asSeq) (oneB 3) (andT (fun ρ => ((fun ρ => ((fun ρ => sl ρ 1) ρ).bind (isiD "str")) ρ).bind asB) (fun ρ => (b2 eqFD (b2 ixD (fun ρ => sl ρ 3) (fun _ => some (.int 0))) (fun ρ => sl ρ 1) ρ).bind asB)) (fun ρ => sl ρ 3))) (seqD (ifD (fun ρ => (b2 eqD (fun ρ => sl ρ 2) (fun ρ => ((fun _ => some []) ρ).bind lstD) ρ).bind asB) (fun _ => none) nxD) (retD (b2 ixD (fun ρ => sl ρ 2) (fun _ => some (.int 0))))))
def g_table_at (CF : Addr) : DC := runD 4 2 (S_table_at CF)
theorem ok_table_at (T : Txt K mg w CF) : FnOk P w K mg base CX0 1 T.d_table_at.f T.d_table_at.fd ["book", "thing"] (spD K (g_table_at CF)) := fn_D T.d_table_at.fn sc_table_at fun cdv A outer s H E hr => by
  have nd := sc_table_at.nd
  exact (pdss_cons (pds_setLc (i := 2) (own := [("table", 3)]) rfl nd rfl rfl (sw_true rfl rfl rfl (by decide +kernel)) (pdi_seq (pd_var (pv 0))) (blkOk_by (N := ["book", "thing", "found", "table"]) (sc := defScope s_table_at) (by decide +kernel)) (tg_one 3) (by decide) (fun _ _ _ _ _ => (pg_name (i := 3) nd rfl (by first | exact Or.inl rfl | exact Or.inr rfl))) (fun _ _ _ _ _ => (pdts_one (pdt_of (pdw_and (pdt_val (pd_isi rfl T.b_isinstance (by decide +kernel) rfl T.b_str (by decide +kernel) (pd_var (pv 1)))) (pdw_and1 (pdt_cmp od_eqF (pd_ix (pd_var (pv 3)) pd_int) (pd_var (pv 1)) (nomark _))))))) (fun _ _ _ _ _ => (pd_var (pv 3)))) (pdss_cons (pds_if (pdt_cmp (od_eq hr.units) (pd_var (pv 2)) (pd_lst pds_nil) (nomark _)) (pdss_one pds_never) pdss_nil) (pdss_one (pds_ret (pd_ix (pd_var (pv 2)) pd_int)))))
end
end DL

set_option Elab.async false
set_option linter.all false
set_option maxRecDepth 100000
set_option maxHeartbeats 4000000
/-! Dicts whose keys are nested tuples, held outside of the data. -/
namespace DL
open PySem PySem.Spec PyProof.Rows L2 Evl
/-- data as a key -/
def nk : PyData → Option NestedKey
  | .none => some .none
  | .int i => some (.num i)
  | .str x => some (.text x)
  | .tuple ds => (nks ds).map .tup
  | _ => none
where nks : List PyData → Option (List NestedKey)
  | [] => some []
  | d :: ds => (nk d).bind fun k => (nks ds).map (k :: ·)
section
variable {X : Cx} {pins : List (Addr × Obj)} {σ : L2.St} {H : Hp} {s : Shared}
mutual
theorem nested_is (I : Inv X pins σ H s) : ∀ (d : PyData) (v : V) (u : Value) (k : NestedKey), RD X.K H v d → RelV v u → nk d = some k → NestedIs s.heap k u
  | .none, _, _, _, h, r, e => by
    cases e; cases h; cases r; exact .none
  | .int i, _, _, _, h, r, e => by
    cases e; cases h; obtain ⟨t, rfl⟩ := r; exact .int i t
  | .str x, _, _, _, h, r, e => by
    cases e; cases h; obtain ⟨t, rfl⟩ := r; exact .text x t
  | .tuple ds, _, _, _, h, r, e => by
    obtain ⟨ks, e1, e2⟩ := Option.map_eq_some_iff.mp (show (nk.nks ds).map NestedKey.tup = some _ from e)
    subst e2
    cases h with
    | tup hs ha =>
      cases r
      obtain ⟨its, rv, ⟨o, ho, hc, n, hd⟩, _⟩ := I.tuple hs
      exact .tup ho hc hd (nested_all I ds _ its ks ha rv e1)
  | .bool _, _, _, _, _, _, e => by cases e
  | .list _, _, _, _, _, _, e => by cases e
  | .dict _, _, _, _, _, _, e => by cases e
theorem nested_all (I : Inv X pins σ H s) : ∀ (ds : List PyData) (vs : List V) (us : List Value) (ks : List NestedKey), RDs X.K H vs ds → Vals vs us → nk.nks ds = some ks → NestedAll s.heap ks us
  | [], _, _, _, h, r, e => by
    cases e; cases h; cases r; exact .nil
  | d :: ds, _, _, _, h, r, e => by
    obtain ⟨k, e1, e2⟩ := Option.bind_eq_some_iff.mp (show (nk d).bind (fun k => (nk.nks ds).map (k :: ·)) = some _ from e)
    obtain ⟨ks, e3, e4⟩ := Option.map_eq_some_iff.mp e2
    subst e4
    cases h with
    | cons h1 h2 =>
      cases r with
      | cons r1 r2 => exact .cons (nested_is I d _ _ k h1 r1 e1) (nested_all I ds _ _ ks h2 r2 e3)
end
end
/-- the raw part of such a dict: it hangs on its own object alone -/
def NDO (P : Program) (w : World) (D : Addr) (xs : List (NestedKey × Addr × Value)) : HO := .ext fun h => ∃ o es ep, h.get? D = some o ∧ o.ExactDict ∧ o.data = .dict es ep ∧ es.toList = xs.map (entryOfKey (nestedKind P w))
theorem ndo_ok {P : Program} {w : World} {H : Hp} {h : Heap} {D : Addr} {xs : List (NestedKey × Addr × Value)} (q : ∃ o es ep, h.get? D = some o ∧ o.ExactDict ∧ o.data = .dict es ep ∧ es.toList = xs.map (entryOfKey (nestedKind P w))) : ObjOk P w H h D (NDO P w D xs) := by
  refine ⟨q, let ⟨o, _, _, ho, _⟩ := q; ⟨o, ho⟩, fun h1 h2 ⟨o, es, ep, ho, r⟩ k => ⟨o, es, ep, k o ho, r⟩⟩
/-- an entry, as data -/
structure EntD (K : PySem.W.Frag) (G : Hp) (x : NestedKey × Addr × Value) (kv : PyData × PyData) : Prop where
  key : nk kv.1 = some x.1
  dep : x.1.depth ≤ 8
  rk : RD K G (.ref x.2.1) kv.1
  rv : ∃ v, RelV v x.2.2 ∧ RD K G v kv.2
theorem EntD.mono {K : PySem.W.Frag} {G G' : Hp} {x : NestedKey × Addr × Value} {kv : PyData × PyData} (r : EntD K G x kv) (e : Ex G G') : EntD K G' x kv := ⟨r.key, r.dep, r.rk.mono e, let ⟨v, a, b⟩ := r.rv; ⟨v, a, b.mono e⟩⟩
abbrev EntsD (K : PySem.W.Frag) (G : Hp) : List (NestedKey × Addr × Value) → List (PyData × PyData) → Prop := Paired (EntD K G)
def sameK (a b : PyData) : Bool := decide (nk a = nk b)
def lookD (kvs : List (PyData × PyData)) (k : PyData) : Option PyData := (kvs.find? fun p => sameK p.1 k).map (·.2)
def putD (kvs : List (PyData × PyData)) (k v : PyData) : List (PyData × PyData) := if (lookD kvs k).isSome then kvs.map (fun p => if sameK p.1 k then (p.1, v) else p) else kvs ++ [(k, v)]
theorem putD_len (kvs : List (PyData × PyData)) (k v : PyData) : (putD kvs k v).length ≤ kvs.length + 1 := by
  unfold putD
  split
  · rw [List.length_map]; omega
  · rw [List.length_append]; exact Nat.le_refl _
theorem ents_mono {K : PySem.W.Frag} {G G' : Hp} (e : Ex G G') : ∀ {xs : List (NestedKey × Addr × Value)} {kvs : List (PyData × PyData)}, EntsD K G xs kvs → EntsD K G' xs kvs
  | _, _, .nil => .nil
  | _, _, .cons r t => .cons (r.mono e) (ents_mono e t)
theorem ents_find {K : PySem.W.Frag} {G : Hp} {kd : PyData} {k : NestedKey} (hk : nk kd = some k) : ∀ {xs : List (NestedKey × Addr × Value)} {kvs : List (PyData × PyData)}, EntsD K G xs kvs →
    (lookD kvs kd = none ∧ atKey xs k = none) ∨ ∃ d p, lookD kvs kd = some d ∧ atKey xs k = some p ∧ ∃ v, RelV v p.2 ∧ RD K G v d
  | _, _, .nil => .inl ⟨rfl, rfl⟩
  | x :: xs, kv :: kvs, .cons r t => by
    by_cases e : x.1 = k
    · right
      have h1 : sameK kv.1 kd = true := by unfold sameK; rw [r.key, hk, e]; simp
      obtain ⟨v, a, b⟩ := r.rv
      refine ⟨kv.2, x.2, ?_, ?_, v, a, b⟩
      · unfold lookD; rw [List.find?_cons, h1]; rfl
      · unfold atKey; rw [List.find?_cons, decide_eq_true e]; rfl
    · have h1 : sameK kv.1 kd = false := by unfold sameK; rw [r.key, hk]; simpa using e
      have e1 : lookD (kv :: kvs) kd = lookD kvs kd := by unfold lookD; rw [List.find?_cons, h1]
      have e2 : atKey (x :: xs) k = atKey xs k := by unfold atKey; rw [List.find?_cons, decide_eq_false e]
      rw [e1, e2]
      exact ents_find hk t
theorem ents_map {K : PySem.W.Frag} {G : Hp} {kd vd : PyData} {k : NestedKey} {u : Value} {v : V} (hk : nk kd = some k) (rv : RelV v u) (rd : RD K G v vd) : ∀ {xs : List (NestedKey × Addr × Value)} {kvs : List (PyData × PyData)}, EntsD K G xs kvs →
    EntsD K G (xs.map (putAt k u)) (kvs.map fun p => if sameK p.1 kd then (p.1, vd) else p)
  | _, _, .nil => .nil
  | x :: xs, kv :: kvs, .cons r t => by
    refine .cons ?_ (ents_map hk rv rd t)
    by_cases e : x.1 = k
    · have h1 : sameK kv.1 kd = true := by unfold sameK; rw [r.key, hk, e]; simp
      show EntD K G (putAt k u x) (if sameK kv.1 kd = true then (kv.1, vd) else kv)
      rw [h1]
      unfold putAt
      rw [if_pos e]
      exact ⟨r.key, r.dep, r.rk, v, rv, rd⟩
    · have h1 : sameK kv.1 kd = false := by unfold sameK; rw [r.key, hk]; simpa using e
      show EntD K G (putAt k u x) (if sameK kv.1 kd = true then (kv.1, vd) else kv)
      rw [h1]
      unfold putAt
      rw [if_neg e]
      exact r
theorem ents_app {K : PySem.W.Frag} {G : Hp} {x : NestedKey × Addr × Value} {kv : PyData × PyData} (r : EntD K G x kv) : ∀ {xs : List (NestedKey × Addr × Value)} {kvs : List (PyData × PyData)}, EntsD K G xs kvs → EntsD K G (xs ++ [x]) (kvs ++ [kv])
  | _, _, .nil => .cons r .nil
  | _, _, .cons r' t => .cons r' (ents_app r t)
theorem ents_put {K : PySem.W.Frag} {G : Hp} {kd vd : PyData} {k : NestedKey} {a : Addr} {u : Value} {v : V} {xs : List (NestedKey × Addr × Value)} {kvs : List (PyData × PyData)} (hk : nk kd = some k) (hd : k.depth ≤ 8) (ra : RD K G (.ref a) kd) (rv : RelV v u) (rd : RD K G v vd) (r : EntsD K G xs kvs) :
    EntsD K G (storedH xs k a u) (putD kvs kd vd) := by
  unfold putD storedH
  rcases ents_find hk r with ⟨h1, h2⟩ | ⟨d, p, h1, h2, _⟩
  · rw [h1, h2]
    exact ents_app ⟨hk, hd, ra, v, rv, rd⟩ r
  · rw [h1, h2]
    exact ents_map hk rv rd r
/-- the dict at D, held outside of G -/
structure NRep (K : PySem.W.Frag) (P : Program) (w : World) (kvs : List (PyData × PyData)) (D : Addr) (G H : Hp) : Prop where
  ex : ∃ xs, H D = some (NDO P w D xs) ∧ (xs.map (·.1)).Nodup ∧ EntsD K G xs kvs
  low : (D == sysModules) = false
  nD : G D = none
theorem NRep.step {K : PySem.W.Frag} {P : Program} {w : World} {kvs : List (PyData × PyData)} {D : Addr} {G H G' H' : Hp} (r : NRep K P w kvs D G H) (g : Go G H G' H') : NRep K P w kvs D G' H' := by
  obtain ⟨⟨xs, h1, h2, h3⟩, low, nD⟩ := r
  refine ⟨⟨xs, g.hh _ _ h1, h2, ents_mono g.gg h3⟩, low, ?_⟩
  cases q : G' D with
  | none => rfl
  | some o =>
    rcases g.fr D o q with z | z
    · rw [nD] at z; cases z
    · rw [h1] at z; cases z
section
variable {X : Cx} {pins : List (Addr × Obj)} {σ : L2.St} {H G : Hp} {s : Shared} {D : Addr} {kvs : List (PyData × PyData)}
theorem paired_mem {α β : Type} {R : α → β → Prop} : ∀ {xs : List α} {ys : List β}, Paired R xs ys → ∀ x ∈ xs, ∃ y ∈ ys, R x y
  | _, _, .nil, _, h => by cases h
  | _, _, .cons r t, x, h => by
    rcases List.mem_cons.mp h with rfl | h
    · exact ⟨_, List.mem_cons_self, r⟩
    · obtain ⟨y, h1, h2⟩ := paired_mem t x h
      exact ⟨y, List.mem_cons_of_mem _ h1, h2⟩
theorem NRep.heap (I : Inv X pins σ H s) (eg : Ex G H) (r : NRep X.K X.prog X.w kvs D G H) : ∃ xs, H D = some (NDO X.prog X.w D xs) ∧ EntsD X.K G xs kvs ∧ s.heap.DictOfH (nestedKind X.prog X.w) D xs := by
  obtain ⟨⟨xs, h1, h2, h3⟩, low, nD⟩ := r
  obtain ⟨⟨o, es, ep, ho, hx, hd, he⟩, _, _⟩ := I.hok D _ h1
  refine ⟨xs, h1, h3, o, es, ep, ho, hx, hd, he, fun x hx => ?_, h2⟩
  obtain ⟨kv, _, e⟩ := paired_mem h3 x hx
  exact ⟨nested_is I kv.1 _ _ _ (e.rk.mono eg) rfl e.key, e.dep⟩
theorem ents_len {K : PySem.W.Frag} {xs : List (NestedKey × Addr × Value)} (r : EntsD K G xs kvs) : xs.length = kvs.length := Paired.length r
/-- d[k] = v -/
theorem nd_wrote (I : Inv X pins σ H s) (eg : Ex G H) {xs xs' : List (NestedKey × Addr × Value)} {h' : Heap} {tk : Nat} {kvs' : List (PyData × PyData)} (h1 : H D = some (NDO X.prog X.w D xs)) (nD : G D = none) (low : (D == sysModules) = false) (hm : h'.DictOfH (nestedKind X.prog X.w) D xs') (sb : Heap.SameBut D s.heap h') (r : EntsD X.K G xs' kvs') :
    Inv X pins σ (upd H D (NDO X.prog X.w D xs')) { s with heap := h', toks := tk } ∧ NRep X.K X.prog X.w kvs' D G (upd H D (NDO X.prog X.w D xs')) ∧ Ex G (upd H D (NDO X.prog X.w D xs')) := by
  obtain ⟨o, es, ep, ho, hx, hd, he, _, hn⟩ := hm
  refine ⟨d_write I (by rw [h1]; exact True.intro) sb ⟨o, ho⟩ (ndo_ok ⟨o, es, ep, ho, hx, hd, he⟩), ⟨⟨xs', upd_same, hn, r⟩, low, nD⟩, fun a u h => ?_⟩
  have ne : a ≠ D := fun e => by rw [e, nD] at h; cases h
  rw [upd_ne ne]
  exact eg a u h
def okK (d : PyData) : Bool := match nk d with
  | some k => decide (k.depth ≤ 8)
  | none => false
theorem okK_some {d : PyData} (h : okK d = true) : ∃ k, nk d = some k ∧ k.depth ≤ 8 := by
  unfold okK at h
  split at h
  · exact ⟨_, by assumption, of_decide_eq_true h⟩
  · cases h
theorem nd_set (hu : X.A.units + 8 < cLine) {E : Value → Shared → Prop} {kd vd : PyData} {a : Addr} {u : Value} {v : V} {Q : Unit → Shared → Prop} (I : Inv X pins σ H s) (eg : Ex G H) (r : NRep X.K X.prog X.w kvs D G H) (hz : kvs.length ≤ 1000) (hk : okK kd = true) (ra : RD X.K G (.ref a) kd) (rv : RelV v u) (rd : RD X.K G v vd)
    (h : ∀ s' H', Inv X pins σ H' s' → NRep X.K X.prog X.w (putD kvs kd vd) D G H' → Ex G H' → (∀ b, b ≠ D → H' b = H b) → Q () s') : wpAny (model X.prog X.w) X.A (dictSet D (.ref a) u) Q E s := by
  obtain ⟨xs, h1, h2, h3⟩ := r.heap I eg
  obtain ⟨k, hk1, hk2⟩ := okK_some hk
  have hl := ents_len h2
  refine wpAny_dictSet_heap (knd := nestedKind X.prog X.w) (k := k) (hsz := sz_of (by omega)) hu ⟨nested_is I kd _ _ _ (ra.mono eg) rfl hk1, hk2⟩ h3 fun h' hm sb => ?_
  obtain ⟨I', r', eg'⟩ := nd_wrote (tk := s.toks + (nestedKind X.prog X.w).draws k) I eg h1 r.nD r.low hm sb (ents_put hk1 hk2 ra rv rd h2)
  exact h _ _ I' r' eg' fun b hb => upd_ne hb
end
end DL

set_option Elab.async false
set_option linter.all false
set_option maxRecDepth 100000
set_option maxHeartbeats 4000000
namespace DL
open PySem PySem.Spec PyProof.Rows L2 Evl
def isTupD : PyData → Bool
  | .tuple _ => true
  | _ => false
/-- the pairs that the turns give -/
def pairsD (B : PyData → DE → Option DE) (F1 F2 : DF) (ρ : DE) : List PyData → Option (List (PyData × PyData))
  | [] => some []
  | d :: ds => (B d ρ).bind fun ρ1 => (F1 ρ1).bind fun k => (F2 ρ1).bind fun v => if okK k = true ∧ isTupD k = true then (pairsD B F1 F2 ρ ds).map ((k, v) :: ·) else none
def putAll (kvs : List (PyData × PyData)) : List (PyData × PyData) → List (PyData × PyData)
  | [] => kvs
  | p :: ps => putAll (putD kvs p.1 p.2) ps
/-- the state of the comprehension -/
structure DcI (K : PySem.W.Frag) (P : Program) (w : World) (G1 H1 : Hp) (D : Addr) (n : Nat) (kvs : List (PyData × PyData)) (G H : Hp) : Prop where
  go : Go G1 H1 G H
  rep : NRep K P w kvs D G H
  len : kvs.length ≤ n
theorem DcI.step {K : PySem.W.Frag} {P : Program} {w : World} {G1 H1 G H G' H' : Hp} {D : Addr} {n : Nat} {kvs : List (PyData × PyData)} (i : DcI K P w G1 H1 D n kvs G H) (g : Go G H G' H') : DcI K P w G1 H1 D n kvs G' H' := ⟨i.go.trans g, i.rep.step g, i.len⟩
/-- what stands at the end -/
def DcQ (K : PySem.W.Frag) (P : Program) (w : World) (G H : Hp) (kvs : List (PyData × PyData)) (Q : VK) : Prop := ∀ D H' G', H D = none → Go G H G' H' → NRep K P w kvs D G' H' → Q (.ref D) H'
def tDcN (K : PySem.W.Frag) (P : Program) (w : World) (own : List Nat) (L : DE → Option (List PyData)) (B : PyData → DE → Option DE) (F1 F2 : DF) : TE := fun σ H Q =>
  ∃ G ρ ds ps, Ex G H ∧ EnvR K G σ ρ ∧ L ρ = some ds ∧ ds.length ≤ 900 ∧ pairsD B F1 F2 (wipeD ρ own) ds = some ps ∧ DcQ K P w G H (putAll [] ps) Q
section
variable {X : Cx} {kx vx tg iter : Expr} {scope : Scope} {own : List (Str × Nat)} {pos spos py : Pos} {L : DE → Option (List PyData)} {own1 : List Nat} {g : TG} {B : PyData → DE → Option DE} {F1 F2 : DF}
theorem dcn_core {pins : List (Addr × Obj)} {s : Shared} {σ : L2.St} {H : Hp} {Q : VK} {pos' : Pos} {use : Option (Value → Sem Unit)} {Qf : Value → Shared → Prop} (hu : X.A.units + 8 < cLine)
    (hc : X.calm = true) (hN : X.N.Nodup) (I : Inv X pins σ H s) (hi : PDI X tg iter L) (ok : BlkOk X.N X.env.scope scope own) (tgd : TgD X.K own1 g B) (ho : ∀ j ∈ own1, j ∈ own.map (·.2))
    (hg : ∀ (s : Shared) (H : Hp) (C : Addr) (cl : List (Str × Addr)) (fp : List Addr), PG (X.blk s H scope (compEnvC scope cl C X.env) fp) tg g)
    (hk : ∀ (s : Shared) (H : Hp) (C : Addr) (cl : List (Str × Addr)) (fp : List Addr), PD (X.blk s H scope (compEnvC scope cl C X.env) fp) kx F1)
    (he : ∀ (s : Shared) (H : Hp) (C : Addr) (cl : List (Str × Addr)) (fp : List Addr), PD (X.blk s H scope (compEnvC scope cl C X.env) fp) vx F2) (hs : ∀ x, foldedSetIterable iter X.env x = pure x)
    (h : tDcN X.K X.prog X.w (own.map (·.2)) L B F1 F2 σ H Q)
    (hRR : ∀ D C s' m H', Inv X pins σ H' s' → Q (.ref D) H' → s'.heap.Ns C m → FpOk X pins H' C → compPost (model X.prog X.w) X.A X.xe use Qf (.ref D) C (.ok .next) s') :
    wpAny (model X.prog X.w) X.A (comprehension (.DictComp kx vx [⟨tg, iter, [], 0⟩] scope pos) scope X.env pos' newDict false (eval iter X.env) use) Qf X.xe s := by
  obtain ⟨G, ρ, es, ps, eg, er, h1, hle, h2, q⟩ := h
  have hfree : ∀ y ∈ scope.names, y.2 = .free → ∃ c, X.env.cells.lookup y.1 = some c := fun y hy e => by
    rcases ok.free y hy e with k | k
    · exact I.ok.has _ (.inl k)
    · exact I.ok.has _ (.inr k)
  refine wpAny_comprehension_free (use := use) rfl hs (closure_ok hfree) ok.kind (fun y hy e => by rw [ok.uniq y hy, e])
    (thn (hi.run pins s σ H (fun J H2 => ∃ G2, Go G H G2 H2 ∧ WalkD X.K J G2 es) I ⟨G, ρ, es, eg, er, h1, fun J H2 G2 g2 wk => ⟨G2, g2, wk⟩⟩) fun xv s1 hx => thn hx fun itv s2 h2' => ?_)
  obtain ⟨it, fp, tn, J, H2, rfl, I2, Tt, st2, f2, G2, g2, wk⟩ := h2'
  refine wpAny_newObj_type (newEnv_comp ?_)
  generalize hD : s2.heap.objs.size = D
  have hDn : H2 D = none := I2.hok.fresh (Nat.le_of_eq hD)
  have low : (D == sysModules) = false := (dk_empty (P := X.prog) (w := X.w) (H := H2) s2.heap I2.big).2.1 |> fun z => by rw [hD] at z; exact z
  -- the dict that is made
  generalize hs3 : ({ s2 with heap := s2.heap.push { cls := .type "dict", data := .dict #[] } } : Shared) = s3
  have I3 : Inv X pins σ (upd H2 D (NDO X.prog X.w D [])) s3 := by
    subst hs3
    refine I2.laid (t' := s2.toks) (fun b o e => Heap.get?_push_of_some _ e) (Nat.le_of_eq hD) (ndo_ok ⟨{ cls := .type "dict", data := .dict #[] }, #[], 0, ?_, ⟨rfl, rfl, rfl⟩, rfl, rfl⟩)
    subst hD
    exact Heap.get?_push_size _ rfl
  have h3 : s3.heap = s2.heap.push { cls := .type "dict", data := .dict #[] } := by rw [← hs3]
  have sz : ∀ b ∈ fp, b < s2.heap.objs.size := fun b hb => by
    obtain ⟨o, e, _⟩ := Tt.obj _ _ st2 b hb
    exact Heap.lt_size e
  have f3 : ∀ b ∈ fp, FpOk X pins (upd H2 D (NDO X.prog X.w D [])) b ∧ b < s3.heap.objs.size := fun b hb => by
    have hlt := sz b hb
    refine ⟨⟨?_, (f2 b hb).2⟩, by rw [h3, Heap.size_push]; exact Nat.lt_succ_of_lt hlt⟩
    rw [upd_ne (by rw [← hD]; exact Nat.ne_of_lt hlt)]
    exact (f2 b hb).1
  have st3 : tn 0 s3.heap := Tt.keep _ _ _ st2 fun b _ o e => by rw [h3]; exact Heap.get?_push_of_some _ e
  have I4 := block_start I3 ok hN f3
  have pg := hg s3 (upd H2 D (NDO X.prog X.w D [])) s3.heap.objs.size (cellsFrom (s3.heap.objs.size + 1) scope.names (cloFrom X.env.cells scope.names [])) fp
  have pk := hk s3 (upd H2 D (NDO X.prog X.w D [])) s3.heap.objs.size (cellsFrom (s3.heap.objs.size + 1) scope.names (cloFrom X.env.cells scope.names [])) fp
  have pv := he s3 (upd H2 D (NDO X.prog X.w D [])) s3.heap.objs.size (cellsFrom (s3.heap.objs.size + 1) scope.names (cloFrom X.env.cells scope.names [])) fp
  have inv0 : DcI X.K X.prog X.w G2 H2 D 0 [] G2 (upd H2 D (NDO X.prog X.w D [])) := ⟨Go.own g2.gh hDn, ⟨⟨[], upd_same, List.nodup_nil, .nil⟩, low, fresh_back g2.gh hDn⟩, Nat.le_refl _⟩
  show codeAny _ _ (.compStart (.DictComp kx vx [⟨tg, iter, [], 0⟩] scope pos) 0 (.ref it) (.ref D) (compEnvC scope (cellsFrom (s3.heap.objs.size + 1) scope.names (cloFrom X.env.cells scope.names [])) s3.heap.objs.size X.env)) (compPost (model X.prog X.w) X.A X.xe use Qf (.ref D) s3.heap.objs.size) { s3 with heap := pushCells (s3.heap.push { cls := .type "dict", data := .dict #[] }) scope.names }
  have nfp : ∀ b ∈ fp, (upd H2 D (NDO X.prog X.w D [])) b = none := fun b hb => (f3 b hb).1.1
  generalize hce : compEnvC scope (cellsFrom (s3.heap.objs.size + 1) scope.names (cloFrom X.env.cells scope.names [])) s3.heap.objs.size X.env = ce at I4 pg pk pv ⊢
  have cL : ce.locals = s3.heap.objs.size := by subst hce; rfl
  generalize hH3 : upd H2 D (NDO X.prog X.w D []) = H3 at I3 I4 pg pk pv inv0 nfp f3
  generalize hs4 : ({ s3 with heap := pushCells (s3.heap.push { cls := .type "dict", data := .dict #[] }) scope.names } : Shared) = s4 at I4 ⊢
  have st4 : tn 0 s4.heap := Tt.keep _ _ _ st3 fun b _ o e => by rw [← hs4]; exact pushCells_keeps _ _ _ _ (Heap.get?_push_of_some _ e)
  have stat : ∀ {σ' : L2.St} {H' : Hp} {s' : Shared}, Inv (X.blk s3 H3 scope ce fp) [] σ' H' s' → (∀ b ∈ fp, H' b = none) → ∀ b ∈ fp, FpOk (X.blk s3 H3 scope ce fp) [] H' b := fun {σ' H' s'} I' hn b hb =>
    ⟨hn b hb, (I'.ok.exf b hb).1, I'.ok.exfs b hb, .inl hb, fun x c e => (I'.ok.exf b hb).2 x c e, fun p hp => absurd (show p ∈ ([] : List (Addr × Obj)) ++ [] from hp) (by simp)⟩
  have loop : codeAny (model X.prog X.w) X.A (.compLoop (.DictComp kx vx [⟨tg, iter, [], 0⟩] scope pos) 0 (.ref it) (.ref D) ce) (compPost (model X.prog X.w) X.A X.xe use Qf (.ref D) s3.heap.objs.size) s4 := by
    refine compLoop_anyD (fun m s' => ∃ j H' G' kvs' ps', m = es.length - j ∧ j ≤ es.length ∧ Inv (X.blk s3 H3 scope ce fp) [] (L2.wipe σ (own.map (·.2))) H' s' ∧ tn j s'.heap ∧ (∀ b ∈ fp, H' b = none) ∧ DcI X.K X.prog X.w G2 H2 D j kvs' G' H' ∧ pairsD B F1 F2 (wipeD ρ (own.map (·.2))) (es.drop j) = some ps' ∧ putAll kvs' ps' = putAll [] ps) ?_ es.length
      ⟨0, H3, G2, [], ps, rfl, Nat.zero_le _, I4, st4, nfp, inv0, h2, rfl⟩
    rintro m' s' ⟨j, H', G', kvs', ps', rfl, hj, I', st', n', inv', hr', hp'⟩
    by_cases hlj : j < es.length
    · refine thnF (Tt.item (X.blk s3 H3 scope ce fp) rfl rfl rfl hc j _ s' _ H' (fun _ _ => False) I' (stat I' n') st' (wk.go j H' hlj (inv'.go.gg.trans inv'.go.gh))) fun r s5 ⟨u, hr, h7⟩ => ?_
      subst hr
      refine thnF h7 fun _ s6 ⟨x, H6, I6, r6, y6, st6, n6⟩ => ?_
      rw [List.drop_eq_getElem_cons hlj] at hr'
      obtain ⟨ρ2, k4, k5⟩ := Option.bind_eq_some_iff.mp hr'
      obtain ⟨kd, k6, k7⟩ := Option.bind_eq_some_iff.mp k5
      obtain ⟨vd, k8, k9⟩ := Option.bind_eq_some_iff.mp k7
      split at k9
      · rename_i hkk
        obtain ⟨ps2, k10, k11⟩ := Option.map_eq_some_iff.mp k9
        obtain ⟨G6, g6, rx⟩ := wk.yld j es[j] H' G' x H6 (List.getElem?_eq_getElem hlj) inv'.go.gg inv'.go.gh y6
        have inv6 := inv'.step g6
        have er6 := (er.mono ((g2.gg.trans inv'.go.gg).trans g6.gg)).wipe (own.map (·.2))
        have I6' := I6.pinned (stat I6 n6) (Tt.obj _ _ st6)
        refine thnF (pg.run _ s6 _ H6 x u (fun σ4 H4 => H4 = H6 ∧ EnvR X.K G6 σ4 ρ2 ∧ L2.wipe σ4 (own.map (·.2)) = L2.wipe σ (own.map (·.2))) I6' r6 (tgd.run x es[j] _ ρ2 _ G6 H6 _ g6.gh er6 rx k4 fun σ4 er4 ho4 hl4 => ⟨rfl, er4, by rw [wipe_eq (σ := L2.wipe σ (own.map (·.2))) (fun j hj => ho4 j fun z => hj (ho j z)) hl4, wipe_wipe]⟩)) fun _ s7 ⟨σ4, H4, I7, e4, er4, w4⟩ => ?_
        subst e4
        refine wpAny_tests_nil (iteT ?_)
        refine thnF (pk.run _ s7 σ4 H4 (fun v H5 => ∃ G5, Go G6 H4 G5 H5 ∧ RD X.K G5 v kd) I7 ⟨G6, ρ2, kd, g6.gh, er4, k6, fun v H5 G5 g5 r5 => ⟨G5, g5, r5⟩⟩) fun z s8 ⟨yk, H5, I8, rk, G5, g5, rdk⟩ => ?_
        refine thnF (pv.run _ s8 σ4 H5 (fun v H9 => ∃ G9, Go G5 H5 G9 H9 ∧ RD X.K G9 v vd) I8 ⟨G5, ρ2, vd, g5.gh, er4.mono g5.gg, k8, fun v H9 G9 g9 r9 => ⟨G9, g9, r9⟩⟩) fun z2 s9 ⟨yv, H9, I9, rv9, G9, g9, rdv⟩ => ?_
        have inv9 := (inv6.step g5).step g9
        obtain ⟨hk1, hk2⟩ := hkk
        have rdk := rdk.mono g9.gg
        cases kd with
        | tuple kds =>
          cases rdk with
          | tup s1 t1 =>
            rename_i ka vs1
            cases rk
            refine nd_set (X := X.blk s3 H3 scope ce fp) hu I9 inv9.go.gh inv9.rep (by have := inv9.len; omega) hk1 (.tup s1 t1) rv9 rdv fun s10 H10 I10 rep10 eg10 hb10 => ?_
            have pin' : ∀ b ∈ fp, ∀ o, s6.heap.get? b = some o → s10.heap.get? b = some o ∧ H10 b = none := fun b hb o e =>
              let z := I10.pin (b, o) (List.mem_append_right _ (List.mem_append_right _ (mem_pinsAt hb e)))
              ⟨z.1, z.2.1⟩
            refine ⟨es.length - (j + 1), by omega, j + 1, H10, G9, putD kvs' _ vd, ps2, rfl, hlj, (I10.unpinned (pins := [])).weak (by rw [← w4, L2.wipe_length]) (fun j v e => by rw [← w4] at e; exact (wipe_some e).1), Tt.keep _ _ _ st6 fun b hb o e => (pin' b hb o e).1, fun b hb => ?_, ⟨⟨?_, eg10, inv9.go.gg, inv9.go.fr⟩, rep10, ?_⟩, k10, ?_⟩
            · obtain ⟨o, e, _⟩ := Tt.obj _ _ st6 b hb
              exact (pin' b hb o e).2
            · intro a o ha
              have ne : a ≠ D := fun e => by rw [e, hDn] at ha; cases ha
              rw [hb10 a ne]
              exact inv9.go.hh a o ha
            · have := putD_len kvs' (PyData.tuple kds) vd
              have := inv9.len
              omega
            · rw [← hp', ← k11]; rfl
        | _ => cases hk2
      · cases k9
    · have e : j = es.length := by omega
      subst e
      refine thnF (Tt.done (X.blk s3 H3 scope ce fp) rfl rfl rfl hc es.length _ s' _ H' (fun _ _ => False) I' (stat I' n') st' (wk.stop H' (inv'.go.gg.trans inv'.go.gh))) fun r s5 ⟨hr, I5⟩ => ?_
      subst hr
      rw [List.drop_eq_nil_of_le (Nat.le_refl _)] at hr'
      cases hr'
      have I7 : Inv X pins σ H' s5 := I3.call' (ch := fp) I5.os I5.base I5.hok I5.bare fun b hb => ⟨(f3 b hb).1.2.2.2.1, (f3 b hb).1.2.1, (f3 b hb).1.2.2.2.2.1, (f3 b hb).1.2.2.2.2.2⟩
      have nC : H' s3.heap.objs.size = none := by
        have z : H' ce.locals = none := I5.free
        rw [cL] at z
        exact z
      obtain ⟨mm, hn, _⟩ := I5.loc
      have hn : s5.heap.Ns ce.locals mm := hn
      rw [cL] at hn
      have hp2 : kvs' = putAll [] ps := hp'
      subst hp2
      exact hRR D s3.heap.objs.size s5 mm H' I7 (q D H' G' (fresh_back g2.hh hDn) (g2.trans inv'.go) inv'.rep) hn (I3.fpOk (Nat.le_refl _) nC)
  exact codeAny_compStart_dict loop (Tt.self X.A 0 _ _ _ st4 loop)
theorem ps_setDcN {i : Nat} {y : Str} (hu : X.A.units + 8 < cLine) (hc : X.calm = true) (hN : X.N.Nodup) (hy : X.N[i]? = some y) (hyl : X.env.scope.names.lookup y = some .local)
    (hsw : swapsWith (.DictComp kx vx [⟨tg, iter, [], 0⟩] scope pos) (some (.Name y py)) spos.line X.env = pure true) (hi : PDI X tg iter L) (ok : BlkOk X.N X.env.scope scope own) (tgd : TgD X.K own1 g B) (ho : ∀ j ∈ own1, j ∈ own.map (·.2))
    (hg : ∀ (s : Shared) (H : Hp) (C : Addr) (cl : List (Str × Addr)) (fp : List Addr), PG (X.blk s H scope (compEnvC scope cl C X.env) fp) tg g)
    (hk : ∀ (s : Shared) (H : Hp) (C : Addr) (cl : List (Str × Addr)) (fp : List Addr), PD (X.blk s H scope (compEnvC scope cl C X.env) fp) kx F1)
    (he : ∀ (s : Shared) (H : Hp) (C : Addr) (cl : List (Str × Addr)) (fp : List Addr), PD (X.blk s H scope (compEnvC scope cl C X.env) fp) vx F2) (hs : ∀ x, foldedSetIterable iter X.env x = pure x := by intro _; rfl) :
    PS X (.Assign [.Name y py] (.DictComp kx vx [⟨tg, iter, [], 0⟩] scope pos) spos) (tAsg (tDcN X.K X.prog X.w (own.map (·.2)) L B F1 F2) (gName i)) := by
  refine ⟨fun pins s σ H D I h => ?_⟩
  rw [exec_Assign_Name_used _ _ _ _ hsw]
  refine wpAny_bind (wpAny_standAt (wpAny_bind ?_))
  show wpAny _ X.A (do let _ ← comprehension (.DictComp kx vx [⟨tg, iter, [], 0⟩] scope pos) scope X.env (firstIterPos [⟨tg, iter, [], 0⟩] pos) newDict false (eval iter X.env) (some (assign (.Name y py) X.env))) _ _ s
  have h : tDcN X.K X.prog X.w (own.map (·.2)) L B F1 F2 σ H (fun x H1 => gName i x σ H1 D.nx) := h
  refine wpAny_bind (thn (dcn_core (Qf := fun _ s' => SP X pins D .next s') hu hc hN I hi ok tgd ho hg hk he hs h fun L C s' m H' I' q hn f => ?_) fun _ s' hq => wpAny_pure (wpAny_pure hq))
  show wpAny _ _ (assign (.Name y py) X.env (.ref L)) _ _ _
  refine wpAny_assign_Name (store_ok2 (v := V.ref L) I' hN hy (.inl hyl) rfl (fun s2 I2 ⟨a, sb, ha⟩ => ?_) (.inr hyl))
  obtain ⟨f0, f1, f2, f3, f4, f5⟩ := f
  have haC : C ≠ a := by
    rcases ha with z | z
    · rw [z]; exact f1
    · exact fun e => f4 y a z e.symm
  refine ⟨m, hn.sameBut sb haC, fun h3 sb3 => ?_⟩
  exact ⟨_, H', I2.turned (t' := s2.toks) (fun b o hb e => (sb3.2 b hb).trans e) f0 f1 f3 f4 f5, q⟩
end
end DL

set_option Elab.async false
set_option linter.all false
set_option maxRecDepth 100000
set_option maxHeartbeats 4000000
/-! sorted(xs, key=f), f's answers any data without instances. -/
namespace DL
open PySem PySem.Spec PyProof.Rows L2 Evl
open PySem.W (SortsAt sortVals EachIs sortLe copyHeap)
section
variable {prog : Program} {w : World} {A : Around} {E : Value → Shared → Prop} {s : Shared} {a kS : Addr} {vs : List Value} {keys : Array Value} {e e1 : Nat} {P : PySem.Fin → Shared → Prop} {κ : PyProof.Rows.KeyKind}
theorem sort_end (nk : s.heap.get? kS = some (seqObj "list" keys e)) (na : s.heap.get? a = some (seqObj "list" #[] e1)) (hka : kS ≠ a)
    (S : SortsAt prog w A s κ keys.toList) (hsz : keys.size = vs.length) (hZ : vs.length ≤ sizeLine)
    (h : P (.done (.ret .none)) { s with heap := (s.heap.update kS (Obj.mapSeq fun _ => (#[] : Array Value))).update a (Obj.mapSeq fun _ => (sortVals κ false keys.toList vs).toArray) }) :
    wpAny (model prog w) A (ksk_end a false vs.toArray e1 (.ref kS) keys) P E s := by
  obtain ⟨kd, h1, h2⟩ := S.kind
  have hkl : keys.toList.length = vs.length := by rw [Array.length_toList]; exact hsz
  have hK : KeysOf κ (keys.zip vs.toArray) := PySem.W.keysOf_zip S.keys
  have hzs : (keys.zip vs.toArray).size = vs.length := by rw [Array.size_zip, hsz, List.size_toArray, Nat.min_self]
  have fin : ∀ st : SortSt, (arrOf st).Perm (keys.zip vs.toArray) → SortedToK κ (arrOf st) (keys.zip vs.toArray).size → Stable κ (arrOf st) (keys.zip vs.toArray) → (arrOf st).map (·.2) = (sortVals κ false keys.toList vs).toArray := fun st p1 p2 p3 => by
    have q := PySem.W.sort_out (rev := false) (keys := keys) (items := vs.toArray) (xs := arrOf st) (κ := κ) hK (by simpa using p1) (by simpa using p2) (by simpa using p3)
    have q' := congrArg List.toArray q
    rw [Array.toArray_toList] at q'
    simpa using q'
  have tail : ∀ st : SortSt, failedOf st = none → (arrOf st).map (·.2) = (sortVals κ false keys.toList vs).toArray → wpAny (model prog w) A (ksk_tail a false e1 (.ref kS) st) P E s := fun st hf ho => by
    have s1 := Heap.SameBut.update s.heap kS (Obj.mapSeq fun _ => (#[] : Array Value))
    have na1 : (s.heap.update kS (Obj.mapSeq fun _ => (#[] : Array Value))).get? a = some (seqObj "list" #[] e1) := (s1.2 a hka.symm).trans na
    unfold ksk_tail
    simp only [Bool.false_eq_true, if_false]
    rw [ho]
    refine wpAny_bind (listUpdate_at nk rfl ?_ (by rw [hsz]; exact hZ) (Nat.zero_le _))
    refine wpAny_bind (wpAny_letGo ?_)
    refine wpAny_bind (seqEpoch_at na1 rfl ?_)
    refine wpAny_bind (listUpdate_at na1 rfl ?_ (Nat.zero_le _) (by rw [List.size_toArray, PySem.W.sortVals_length false hkl]; exact Nat.le_succ_of_le hZ))
    rw [hf]
    simp only [bne_self_eq_false, Bool.false_eq_true, if_false]
    exact wpAny_pure h
  unfold ksk_end
  simp only [Bool.false_eq_true, if_false]
  by_cases hl2 : vs.toArray.size < 2
  · rw [if_pos hl2, if_pos hl2]
    refine wpAny_bind (wpAny_pure ?_)
    rw [StateT.run_pure]
    refine wpAny_bind (wpAny_pure ?_)
    try dsimp only
    refine tail _ rfl (fin (SortSt.mk' general' (keys.zip vs.toArray) #[] 7 none) (Array.Perm.refl _) ?_ (Stable.refl _))
    intro i j hij hj
    rw [hzs] at hj
    rw [List.size_toArray] at hl2
    have : i = j := by omega
    subst this
    exact KeyOrd.kle_refl _
  · rw [if_neg hl2, if_neg hl2]
    rw [List.size_toArray] at hl2
    refine wpAny_bind (h2 (by omega) _ ?_)
    refine wpAny_bind (wpAny_mono (H.wpS_sortRunsSt (κ := κ) (kd := kd) (a₀ := keys.zip vs.toArray) (st := SortSt.mk' kd (keys.zip vs.toArray) #[] 7 none)
      (Q := fun _ st' => failedOf st' = none ∧ (arrOf st').map (·.2) = (sortVals κ false keys.toList vs).toArray)
      h1 hK ⟨Array.Perm.refl _, rfl, rfl⟩ rfl (Stable.refl _) (by rw [hzs]; omega) fun st' a1 a2 a3 a4 => ⟨a2, fin st' a1 a3 a4⟩) ?_ fun _ _ e => e)
    rintro ⟨⟨⟩, st'⟩ s' ⟨rfl, hf, ho⟩
    try dsimp only at ho ⊢
    exact tail st' hf ho
end
/-- the kind of keys: data, by the order of what tr makes of them -/
noncomputable def trKind (h : Heap) (ds : List PyData) (tr : PyData → PyData) : PyProof.Rows.KeyKind where
  toKeyOrd := listOrd itemOrd
  keyOf v := open Classical in if q : ∃ d, d ∈ ds ∧ ∃ as, Reads h v d as then some (PySem.W.keyToks (tr q.choose)) else none
  dflt := ([] : List (Int ⊕ List Nat))
def leTr (tr : PyData → PyData) (a b : PyData) : Bool := sortLe (listOrd itemOrd) false (fun d => PySem.W.keyToks (tr d)) a b
def sortKD (tr : PyData → PyData) (ds ks : List PyData) : List PyData := ((ds.zip ks).mergeSort fun a b => leTr tr a.2 b.2).map (·.1)
def mapD (g : PyData → Option PyData) : List PyData → Option (List PyData)
  | [] => some []
  | d :: ds => (g d).bind fun k => (mapD g ds).map (k :: ·)
theorem mapD_len {g : PyData → Option PyData} : ∀ {ds ks : List PyData}, mapD g ds = some ks → ks.length = ds.length
  | [], _, h => by cases h; rfl
  | d :: ds, _, h => by
    obtain ⟨k, h1, h2⟩ := Option.bind_eq_some_iff.mp h
    obtain ⟨ks, h3, rfl⟩ := Option.map_eq_some_iff.mp h2
    rw [List.length_cons, List.length_cons, mapD_len h3]
/-- the keys ks can be sorted -/
def Sorts (P : Program) (w : World) (A : Around) (tr : PyData → PyData) (ks : List PyData) : Prop :=
  ∀ (s : Shared) (us : List Value), EachIs (fun v d => ∃ as, Reads s.heap v d as) us ks → SortsAt P w A s (trKind s.heap ks tr) us ∧ EachIs (fun v d => (trKind s.heap ks tr).keyOf v = some (PySem.W.keyToks (tr d))) us ks
/-- data alike -/
theorem Sorts.data {P : Program} {w : World} {A : Around} {ks : List PyData} (hal : PySem.W.AllAlike ks) (hk : PySem.W.Sortable ks) (hu : ∀ d, d ∈ ks → A.units + d.depth < cLine) : Sorts P w A id ks := fun s us e =>
  ⟨PySem.W.SortsAt.data e hal hk hu, PySem.W.each_keys hal e⟩
theorem each_cat {X : Cx} {pins : List (Addr × Obj)} {σ : L2.St} {H : Hp} {s : Shared} (I : Inv X pins σ H s) : ∀ {vs : List V} {us : List Value} {ds : List PyData}, noIns.noInsAll ds = true → RDs X.K H vs ds → Vals vs us → EachIs (fun v d => ∃ as, Reads s.heap v d as) us ds
  | _, _, _, _, .nil, .nil => .nil
  | _, _, _, n, .cons r t, .cons r1 t1 => by
    simp only [noIns.noInsAll, Bool.and_eq_true] at n
    exact .cons (Dp.reads I _ _ _ (RD.dp _ _ n.1 r) r1) (each_cat I n.2 t t1)
section
variable {X : Cx} {pins : List (Addr × Obj)} {σ : L2.St} {G0 H0 : Hp} {s : Shared} {l q : Addr} {g : PyData → Option PyData} {tr : PyData → PyData}
theorem each3 {G : Hp} : ∀ {vs : List V} {us : List Value} {ds ks : List PyData}, RDs X.K G vs ds → Vals vs us → ks.length = ds.length → EachIs (fun u (b : (V × PyData) × PyData) => RelV b.1.1 u ∧ RD X.K G b.1.1 b.1.2) us ((vs.zip ds).zip ks)
  | _, _, _, [], .nil, .nil, _ => .nil
  | _, _, _, k :: ks, .cons r t, .cons r1 t1, h => .cons ⟨r1, r⟩ (each3 t t1 (by simpa using h))
theorem each_zip {α β γ δ : Type} {R : α → δ → Prop} : ∀ {us : List α} {ks : List δ}, EachIs R us ks → ∀ {vs : List β} {ds : List γ}, vs.length = ks.length → ds.length = ks.length → EachIs R us ks → EachIs (fun u (b : (β × γ) × δ) => R u b.2) us ((vs.zip ds).zip ks)
  | _, _, .nil, vs, ds, h1, h2, _ => by
    rw [List.zip_nil_right]
    exact .nil
  | _, _, .cons r t, v :: vs, d :: ds, h1, h2, _ => .cons r (each_zip t (by simpa using h1) (by simpa using h2) t)
theorem each_split {G : Hp} : ∀ {us : List Value} {bs : List ((V × PyData) × PyData)}, EachIs (fun u (b : (V × PyData) × PyData) => RelV b.1.1 u ∧ RD X.K G b.1.1 b.1.2) us bs → Vals (bs.map (·.1.1)) us ∧ RDs X.K G (bs.map (·.1.1)) (bs.map (·.1.2))
  | _, _, .nil => ⟨.nil, .nil⟩
  | _, _, .cons r t => ⟨.cons r.1 (each_split t).1, .cons r.2 (each_split t).2⟩
theorem zip_map3 : ∀ (vs : List V) (ds ks : List PyData), vs.length = ds.length → (((vs.zip ds).zip ks).map fun b => (b.1.2, b.2)) = ds.zip ks
  | [], [], _, _ => by simp
  | v :: vs, d :: ds, [], _ => by simp
  | v :: vs, d :: ds, k :: ks, h => by
    have ih := zip_map3 vs ds ks (by simpa using h)
    simp only [List.zip_cons_cons, List.map_cons, ih]
theorem sort_out3 (vs : List V) (ds ks : List PyData) (h : vs.length = ds.length) : (((vs.zip ds).zip ks).mergeSort (fun a b => leTr tr a.2 b.2)).map (·.1.2) = sortKD tr ds ks := by
  unfold sortKD
  have e := PySem.W.sort_maps (r := fun a b : (V × PyData) × PyData => leTr tr a.2 b.2) (s := fun a b : PyData × PyData => leTr tr a.2 b.2) (fun b => (b.1.2, b.2)) (l := (vs.zip ds).zip ks) fun _ _ _ _ => rfl
  rw [zip_map3 vs ds ks h] at e
  rw [← e, List.map_map]
  rfl
/-- sorted(xs, key=f) -/
theorem sort_run {vs : List V} {ds ks : List PyData} {Q : VK} (I : Inv X pins σ H0 s) (eg : Ex G0 H0) (hs : SqL X.K H0 l vs) (rd : RDs X.K G0 vs ds) (hk : mapD g ds = some ks) (hn : noIns.noInsAll ks = true) (hS : Sorts X.prog X.w X.A.in1.in1 tr ks) (hlen : ds.length ≤ 100000)
    (hcall : ∀ (s' : Shared) (H' G' : Hp) (u : Value) (v : V) (d kd : PyData) (Q : VK), Inv X pins σ H' s' → Go G0 H0 G' H' → RD X.K G' v d → RelV v u → g d = some kd → DQ X.K G' H' kd Q → wpAny (model X.prog X.w) X.A.in1.in1 (call (.ref q) [u]) (EP X pins σ Q) (fun _ _ => False) s')
    (hQ : DQ X.K G0 H0 (.list (sortKD tr ds ks)) Q) : wpAny (model X.prog X.w) X.A (call (.builtin "sorted") [.ref l] [(Str.ofString "key", .ref q)]) (EP X pins σ Q) X.xe s := by
  obtain ⟨us, rv, hl, hz⟩ := I.list hs
  have lus : us.length = vs.length := rv.length.symm
  have lvs := rd.length
  have lks := mapD_len hk
  have hZ : us.length ≤ sizeLine := by rw [lus, lvs]; exact sz_of hlen
  refine PySem.W.sorted_of_sort hl.isList hZ (ksk_s1 _ _) (fun _ => ksk_l1 _ _) fun E' => ?_
  rw [ksk_t1]
  have ho := PySem.W.copyHeap_at s.heap us
  have ck : ∀ b o, s.heap.get? b = some o → (copyHeap s.heap us).get? b = some o := fun _ _ => PySem.W.copyHeap_old
  have al : ∀ b o, s.heap.get? b = some o → b ≠ s.heap.objs.size + 1 := fun b o e1 => Nat.ne_of_lt (Nat.lt_succ_of_lt (Heap.lt_size e1))
  have hHa : H0 (s.heap.objs.size + 1) = none := I.hok.fresh (Nat.le_succ _)
  have hca : s.heap.objs.size + 1 < (copyHeap s.heap us).objs.size := Heap.lt_size ho
  generalize hav : s.heap.objs.size + 1 = a at ho al hHa hca ⊢
  generalize hch : copyHeap s.heap us = hc at ho ck hca ⊢
  obtain ⟨e1, ho1⟩ : ∃ e1, (hc.update a (Obj.mapSeq fun _ => (#[] : Array Value))).get? a = some (seqObj "list" #[] e1) := ⟨_, get?_update_seq ho fun _ => #[]⟩
  unfold ksk_tree
  refine wpAny_bind (listItems_at ho rfl ?_)
  refine wpAny_bind (listUpdate_at ho rfl ?_ (by rw [List.size_toArray]; exact hZ) (Nat.zero_le _))
  refine wpAny_bind (seqEpoch_at ho1 rfl ?_)
  refine wpAny_bind (wpAny_newTuple ?_ (by show us.length ≤ _; exact hZ))
  refine wpAny_bind (wpAny_newList ?_ (Nat.zero_le _))
  refine wpAny_holding ?_
  have ho4 : ((hc.update a (Obj.mapSeq fun _ => (#[] : Array Value))).push (seqObj "tuple" us.toArray 0)).get? a = some (seqObj "list" #[] e1) := Heap.get?_push_of_some _ ho1
  have k4 : ∀ b o, s.heap.get? b = some o → ((hc.update a (Obj.mapSeq fun _ => (#[] : Array Value))).push (seqObj "tuple" us.toArray 0)).get? b = some o := fun b o eb => Heap.get?_push_of_some _ ((Heap.get?_update_ne _ _ _ _ (al b o eb)).trans (ck b o eb))
  show wpAny (model X.prog X.w) X.A.in1.in1 (ksk_rest a (.ref q) false us.toArray e1 (.ref ((hc.update a (Obj.mapSeq fun _ => (#[] : Array Value))).push (seqObj "tuple" us.toArray 0)).objs.size)) _ E' { s with heap := ((hc.update a (Obj.mapSeq fun _ => (#[] : Array Value))).push (seqObj "tuple" us.toArray 0)).push (seqObj "list" #[] 0) }
  generalize h4 : (hc.update a (Obj.mapSeq fun _ => (#[] : Array Value))).push (seqObj "tuple" us.toArray 0) = hp4 at ho4 k4 ⊢
  let φ : HO := .ext fun h => h.get? a = some (seqObj "list" #[] e1)
  have I4 : Inv X pins σ (upd H0 a φ) { s with heap := hp4 } := I.laid (t' := s.toks) k4 (by omega) ⟨ho4, ⟨_, ho4⟩, fun h1 h2 q k => k _ q⟩
  have I5 := I4.lnew (t' := s.toks) (ys := []) (its := []) .nil (Nat.zero_le _)
  have hkS : (upd H0 a φ) hp4.objs.size = none := I4.fresh
  have hka : hp4.objs.size ≠ a := Nat.ne_of_gt (Heap.lt_size ho4)
  have hkS0 : H0 hp4.objs.size = none := by rw [upd_ne hka] at hkS; exact hkS
  have go1 : Go G0 H0 G0 (upd H0 a φ) := Go.own eg hHa
  generalize hkv : hp4.objs.size = kS at hkS hka hkS0 I5 ⊢
  have inv0 : LcI X.K G0 (upd H0 a φ) kS 0 [] G0 (upd (upd H0 a φ) kS (.lst [])) := LcI.start go1.gh hkS
  have gnA : ∀ {G' H' : Hp}, Go G0 (upd H0 a φ) G' H' → G' a = none := fun {G' H'} go => by
    cases e : G' a with
    | none => rfl
    | some o =>
      rcases go.fr a o e with z | z
      · rw [fresh_back eg hHa] at z; cases z
      · rw [upd_same] at z; cases z
  unfold ksk_rest
  refine wpAny_bind (wpAny_rule ?_)
  first
    | rw [List.forIn_toArray]
    | (rw [← Array.forIn_toList]; simp only [List.toList_toArray])
    | rw [← Array.forIn_toList]
  refine wpAny_bind (ksk_fold (fun i s' => ∃ G' H' done rest, Inv X pins σ H' s' ∧ LcI X.K G0 (upd H0 a φ) kS i done G' H' ∧ mapD g (ds.drop i) = some rest ∧ done ++ rest = ks) us 0 _ ⟨G0, _, [], ks, I5, inv0, hk, rfl⟩ ?step ?done)
  case step =>
    rintro j x s' hx ⟨G', H', done, rest, I', inv, hm, hd⟩
    simp only [Nat.zero_add] at inv hm ⊢
    have hj : j < us.length := (List.getElem?_eq_some_iff.mp hx).1
    have hjd : j < ds.length := by omega
    rw [List.drop_eq_getElem_cons hjd] at hm
    obtain ⟨kd, m1, m2⟩ := Option.bind_eq_some_iff.mp hm
    obtain ⟨rest', m3, m4⟩ := Option.map_eq_some_iff.mp m2
    obtain ⟨v, v1, v2⟩ := rd.get j ds[j] (List.getElem?_eq_getElem hjd)
    have rvx : RelV v x := by
      obtain ⟨x', x1, x2⟩ := rv.get v1
      rw [hx] at x1
      cases x1
      exact x2
    have go := go1.trans inv.go
    refine wpAny_bind (wpAny_attempt (wpAny_mono (hcall s' H' G' x v ds[j] kd (fun v' H2 => ∃ G2, Go G' H' G2 H2 ∧ RD X.K G2 v' kd) I' go (v2.mono go.gg) rvx m1 fun v' H2 G2 g2 r2 => ⟨G2, g2, r2⟩) (fun kv s'' he => ?_) fun _ _ hF => hF.elim))
    obtain ⟨v', H2, I2, r2, G2, g2, rd2⟩ := he
    try dsimp only
    have inv2 := inv.step g2
    obtain ⟨acc, a1, a2, inv3⟩ := inv2.put hkS (by omega) rd2
    obtain ⟨az, its, n, ra, al2, ha2⟩ := I2.lstM a1
    refine wpAny_bind (listUpdate_at (f := (·.push kv)) ha2 rfl ?_ (by rw [List.size_toArray, ← al2]; exact az) (by rw [Array.size_push, List.size_toArray, ← al2]; omega))
    have sb := Heap.SameBut.update s''.heap kS (Obj.mapSeq (·.push kv))
    have hc2 := get?_update_seq ha2 (·.push kv)
    refine wpAny_pure ⟨rfl, G2, _, _, rest', d_write (ob := .lst (acc ++ [v'])) (t' := s''.toks) I2 (by rw [a1]; exact True.intro) sb ⟨_, hc2⟩ ⟨?_, its ++ [kv], _, ra.append (.cons r2 .nil), by rw [hc2, List.push_toArray]⟩, inv3, m3, by rw [List.append_assoc]; show done ++ kd :: rest' = ks; rw [← hd, ← m4]⟩
    rw [List.length_append]
    exact a2
  case done =>
    rintro s' ⟨G', H', done, rest, I', inv, hm, hd⟩
    simp only [Nat.zero_add] at inv hm
    rw [List.drop_of_length_le (by omega)] at hm
    cases hm
    rw [List.append_nil] at hd
    subst hd
    obtain ⟨acc, a1, a2, a3⟩ := inv.acc
    obtain ⟨az, its, n, ra, al2, ha2⟩ := I'.lstM a1
    have hφ : H' a = some φ := inv.go.hh _ _ upd_same
    obtain ⟨na, _, _⟩ := I'.hok a _ hφ
    have na : s'.heap.get? a = some (seqObj "list" #[] e1) := na
    refine wpAny_bind (listItems_at ha2 rfl ?_)
    have ek := each_cat I' hn (a2.mono inv.go.gh) ra
    obtain ⟨S, ekk⟩ := hS s' its ek
    have lit : its.toArray.size = us.length := by
      have q1 := a2.length
      rw [List.size_toArray]
      omega
    refine sort_end (κ := trKind s'.heap done tr) ha2 na hka S lit hZ ⟨rfl, ?_⟩
    -- the values in order
    have go := go1.trans inv.go
    have E3 := PySem.W.sortVals_each (κ := trKind s'.heap done tr) (rev := false) (fun b : (V × PyData) × PyData => PySem.W.keyToks (tr b.2)) (each3 (rd.mono go.gg) rv lks)
      (each_zip ekk (vs := vs) (ds := ds) (by omega) (by omega) ekk)
    obtain ⟨o1, o2⟩ := each_split E3
    have eD : (((vs.zip ds).zip done).mergeSort (sortLe (trKind s'.heap done tr).toKeyOrd false fun b : (V × PyData) × PyData => PySem.W.keyToks (tr b.2))).map (·.1.2) = sortKD tr ds done := sort_out3 vs ds done lvs
    rw [eD] at o2
    have sb1 := Heap.SameBut.update s'.heap kS (Obj.mapSeq fun _ => (#[] : Array Value))
    have hc1 := get?_update_seq ha2 (fun _ => (#[] : Array Value))
    have J1 := d_write (ob := .lst []) (t' := s'.toks) I' (by rw [a1]; exact True.intro) sb1 ⟨_, hc1⟩ ⟨Nat.zero_le _, [], _, .nil, hc1⟩
    have na1 : (s'.heap.update kS (Obj.mapSeq fun _ => (#[] : Array Value))).get? a = some (seqObj "list" #[] e1) := (sb1.2 a hka.symm).trans na
    have sb2 := Heap.SameBut.update (s'.heap.update kS (Obj.mapSeq fun _ => (#[] : Array Value))) a (Obj.mapSeq fun _ => (sortVals (trKind s'.heap done tr) false its.toArray.toList us).toArray)
    have hc2 := get?_update_seq na1 (fun _ => (sortVals (trKind s'.heap done tr) false its.toArray.toList us).toArray)
    have lo : (sortVals (trKind s'.heap done tr) false its.toArray.toList us).length = us.length := PySem.W.sortVals_length false (by simpa using lit)
    have J2 := d_write (ob := .lst _) (t' := s'.toks) J1 (by rw [upd_ne hka.symm, hφ]; exact True.intro) sb2 ⟨_, hc2⟩ ⟨by rw [o1.length]; exact Nat.le_trans (Nat.le_of_eq lo) hZ, _, _, o1, hc2⟩
    refine ⟨.ref a, _, J2, rfl, hQ _ _ (upd G' a (.lst _)) ⟨fun b o hb => ?_, fun b o hb => ?_, fun b o hb => ?_, fun b o hb => ?_⟩ (rd_newL (gnA inv.go) o2)⟩
    · have n1 : b ≠ a := fun z => by rw [z, hHa] at hb; cases hb
      have n2 : b ≠ kS := fun z => by rw [z, hkS0] at hb; cases hb
      rw [upd_ne n1, upd_ne n2]
      exact go.hh _ _ hb
    · by_cases hba : b = a
      · subst hba; rw [upd_same] at hb ⊢; exact hb
      · rw [upd_ne hba] at hb ⊢
        have n2 : b ≠ kS := fun z => by rw [z, inv.nD] at hb; cases hb
        rw [upd_ne n2]
        exact go.gh _ _ hb
    · exact Ex.new (gnA inv.go) _ _ (go.gg _ _ hb)
    · by_cases hba : b = a
      · subst hba; exact .inr hHa
      · rw [upd_ne hba] at hb
        exact go.fr _ _ hb
end
end DL

set_option Elab.async false
set_option linter.all false
set_option maxRecDepth 100000
set_option maxHeartbeats 4000000
/-! sorted by a def, list of own dicts; a written dict of ints and texts. -/
namespace DL
open PySem PySem.Spec PyProof.Rows L2 Evl
/-- a reading whose data may hang on objects outside of the data -/
def tG (K : PySem.W.Frag) (Pre : L2.St → Hp → Hp → PyData → Prop) : TE := fun σ H Q => ∃ G d, Ex G H ∧ Pre σ H G d ∧ DQ K G H d Q
theorem DQ.go' {K : PySem.W.Frag} {G H G1 H1 : Hp} {d : PyData} {Q : VK} (g : Go G H G1 H1) (q : DQ K G H d Q) : DQ K G1 H1 d Q := fun v H2 G2 g2 r => q v H2 G2 (g.trans g2) r
def isTupNe : PyData → Bool
  | .tuple (_ :: _) => true
  | _ => false
def noTupNone : PyData → Bool
  | .tuple _ => false
  | .none => false
  | _ => true
def okKeys (ks : List PyData) : Bool := ks.all okEq && (ks.all fun a => ks.all fun b => PySem.W.alike a b) && (ks.all isTupNe || ks.all noTupNone)
theorem sorts_ok {P : Program} {w : World} {A : Around} {ks : List PyData} (hu : A.units + 64 < cLine) (h : okKeys ks = true) : Sorts P w A id ks ∧ noIns.noInsAll ks = true := by
  unfold okKeys at h
  simp only [Bool.and_eq_true, Bool.or_eq_true, List.all_eq_true] at h
  obtain ⟨⟨h1, h2⟩, h3⟩ := h
  refine ⟨Sorts.data (fun d hd d' hd' => h2 d hd d' hd') ?_ fun d hd => ?_, ?_⟩
  · rcases h3 with h3 | h3
    · refine .inl fun d hd => ?_
      have z := h3 d hd
      unfold isTupNe at z
      split at z
      · exact ⟨_, _, rfl⟩
      · cases z
    · refine .inr fun d hd => ?_
      have z := h3 d hd
      refine ⟨fun e => ?_, fun xs e => ?_⟩ <;> (rw [e] at z; cases z)
  · have z := (okEq_and (h1 d hd)).1
    unfold SeqAt.shaped at z
    rw [Bool.and_eq_true, decide_eq_true_eq] at z
    have := z.2
    omega
  · clear h2 h3
    induction ks with
    | nil => rfl
    | cons k ks ih =>
      simp only [noIns.noInsAll, Bool.and_eq_true]
      exact ⟨(okEq_and (h1 k List.mem_cons_self)).2, ih fun d hd => h1 d (List.mem_cons_of_mem _ hd)⟩
def sortedD (g : DC) : DC
  | [.list ds] => if ds.length ≤ 100000 then (mapD (fun d => g [d]) ds).bind fun ks => if okKeys ks = true then some (.list (sortKD id ds ks)) else none else none
  | _ => none
section
variable {X : Cx} {a e : Expr} {F : DF} {pos : Pos}
theorem cr_sortedK {k f : Nat} {fd : FuncData} {x : Str} {g : DC} (Fk : FnOk X.prog X.w X.K X.mg X.base CX0 k f fd [x] (spD X.K g)) (hr : Room (k + 2) X.A) (hb : Binds X.K fd [x] []) :
    CallRK X (.builtin "sorted") [Str.ofString "key"] (fun xs zs H Q => zs = [.ref f] ∧ ∃ G ds d, Ex G H ∧ RDs X.K G xs ds ∧ sortedD g ds = some d ∧ DQ X.K G H d Q) := by
  intro pins s σ H vs zs us ws Q I r rz h
  obtain ⟨rfl, G, ds, d, eg, rd, hd, q⟩ := h
  obtain rfl := Vals.ref1 rz
  unfold sortedD at hd
  split at hd
  · split at hd
    · rename_i hl
      obtain ⟨ks, h1, h2⟩ := Option.bind_eq_some_iff.mp hd
      split at h2
      · rename_i hk
        cases h2
        obtain ⟨v, rfl, r1⟩ := rd.one
        cases r1 with
        | lst s1 t1 =>
          obtain rfl := Vals.ref1 r
          obtain ⟨S, n⟩ := sorts_ok (P := X.prog) (w := X.w) (A := X.A.in1.in1) (ks := ks) (by have := hr.un; show X.A.units + 1 + 1 + 64 < _; omega) hk
          refine sort_run I eg (ex_l eg s1) t1 h1 n S hl (fun s' H' G' u v d kd Q' I' go rdv rv hg q' => ?_) q
          refine wpAny_call (codeAny_mono (Fk.run X.A.in1.in1 X.stack s' H' ⟨[u], []⟩ [u] [v] Q' E0 ((show Room (k + 1) X.A.in1 from Room.in1 hr).in1) I'.env0.in1.in1 (by have z := hb s' [u] I'.kIn rfl; exact z) (.cons rv .nil) ⟨G', [d], kd, go.gh, .cons rdv .nil, hg, q'⟩) fun r s'' hq => ?_)
          cases r with
          | error e => exact (show False from hq).elim
          | ok fl =>
            cases fl with
            | ret u => exact I'.after hq
            | next => exact False.elim hq
            | brk => exact False.elim hq
            | cont => exact False.elim hq
      · cases h2
    · cases hd
  · cases hd
variable {Pre : L2.St → Hp → Hp → PyData → Prop}
theorem pe_tD (h : PD X e F) : PE X e (tG X.K fun σ _ G d => ∃ ρ, EnvR X.K G σ ρ ∧ F ρ = some d) := weakE h fun σ H Q ⟨G, d, eg, ⟨ρ, er, hf⟩, q⟩ => ⟨G, ρ, d, eg, er, hf, q⟩
/-- sorted(a, key=f) -/
theorem pe_sortedK {k f : Nat} {fd : FuncData} {x fn : Str} {g : DC} {p p2 kp : Pos} (Fk : FnOk X.prog X.w X.K X.mg X.base CX0 k f fd [x] (spD X.K g)) (hr : Room (k + 2) X.A) (hb : Binds X.K fd [x] []) (hg : Gl X "sorted") (hm : X.mg "sorted" = none)
    (hgf : Gl X fn) (hmf : X.mg fn = some (.ref f)) (ha : PE X a (tG X.K Pre)) (hdf : (fn == ("__debug__" : Str)) = false := by decide) (hs0 : starEach [a] X.env = (false, eval a X.env) :: starEach [] X.env := by rfl)
    (he : backTo pos (starEach [a] X.env) = (false, eval a X.env) :: backTo pos (starEach [] X.env) := by rfl) (hpl : (backTo pos (starEach [a] X.env)).any (·.1) = false := by rfl)
    (hall : (backToKw pos (keywordEach [⟨some "key", .Name fn p2, kp⟩] X.env)).all (·.1.isSome) = true := by rfl) (hnone : (backToKw pos (keywordEach [⟨some "key", .Name fn p2, kp⟩] X.env)).any (·.1.isNone) = false := by rfl) (hks : (backToKw pos (keywordEach [⟨some "key", .Name fn p2, kp⟩] X.env)).filterMap (·.1) = [Str.ofString "key"] := by rfl) :
    PE X (.Call (.Name "sorted" p) [a] [⟨some "key", .Name fn p2, kp⟩] pos) (tG X.K fun σ H G d => ∃ d0, Pre σ H G d0 ∧ sortedD g [d0] = some d) := by
  refine weakE (pe_callBK (cr_sortedK Fk hr hb) hg hm (by decide +kernel) (pa_cons ha pa_nil hs0) (pk_cons (pe_glob (v := .ref f) hgf hmf rfl hdf) pk_nil) (by decide) (by decide) he hpl hall hnone hks) fun σ H Q => ?_
  rintro ⟨G, d, eg, ⟨d0, hp, hs⟩, q⟩
  exact ⟨G, d0, eg, hp, fun v H1 G1 g1 r1 => ⟨rfl, G1, [d0], d, g1.gh, .cons r1 .nil, hs, q.go' g1⟩⟩
/-- T(a) of a built-in class -/
theorem pe_callTyG {g : DC} {T : String} {x : Str} {p : Pos} (hc : CD X (.type T) g) (hg : Gl X x) (hm : X.mg x = none) (hv : bootBuiltins x = some (.type T)) (ha : PE X a (tG X.K Pre)) (hn : x ≠ "__name__" := by decide) (hdb : (x == ("__debug__" : Str)) = false := by decide)
    (hs : starEach [a] X.env = (false, eval a X.env) :: starEach [] X.env := by rfl) (hpl : (backTo pos (starEach [] X.env)).any (·.1) = false := by rfl) : PE X (.Call (.Name x p) [a] [] pos) (tG X.K fun σ H G d => ∃ d0, Pre σ H G d0 ∧ g [d0] = some d) :=
  weakE (pe_callTy hc hg hm hv (pa_cons ha pa_nil hs) hn hdb hs hpl) fun σ H Q => by
    rintro ⟨G, d, eg, ⟨d0, hp, hs⟩, q⟩
    exact ⟨G, d0, eg, hp, fun v H1 G1 g1 r1 => ⟨G1, [d0], d, g1.gh, .cons r1 .nil, hs, q.go' g1⟩⟩
/-! list of a dict of nested keys -/
theorem ents_keys {K : PySem.W.Frag} {G : Hp} : ∀ {xs : List (NestedKey × Addr × Value)} {kvs : List (PyData × PyData)}, EntsD K G xs kvs → RDs K G (xs.map fun x => V.ref x.2.1) (kvs.map (·.1))
  | _, _, .nil => .nil
  | _, _, .cons r t => .cons r.rk (ents_keys t)
theorem vals_refs2 : ∀ (xs : List (NestedKey × Addr × Value)), Vals (xs.map fun x => V.ref x.2.1) (xs.map fun x => Value.ref x.2.1)
  | [] => .nil
  | _ :: r => .cons rfl (vals_refs2 r)
theorem cr_listN (hc : X.calm = true) : CallR X (.type "list") (fun xs H Q => ∃ D G kvs, xs = [.ref D] ∧ Ex G H ∧ NRep X.K X.prog X.w kvs D G H ∧ kvs.length ≤ 1000 ∧ DQ X.K G H (.list (kvs.map (·.1))) Q) := by
  intro pins s σ H xs us Q I r h
  obtain ⟨D, G, kvs, rfl, eg, rep, hl, q⟩ := h
  obtain rfl := Vals.ref1 r
  have low := rep.low
  obtain ⟨xs, h1, h2, o, es, ep, ho, hx, hdt, he, _⟩ := rep.heap I eg
  have l1 : es.size = xs.length := size_of_entries he
  have l2 := ents_len h2
  refine PySem.W.kdl_call (kdl_raw low hx hdt) (I.ok.hd hc) ho (sz_of (by omega)) fun h' tk acc' c' kp e it => ?_
  have ea : acc'.toList = xs.map fun x => Value.ref x.2.1 := by
    have hl : acc'.toList.length = xs.length := by rw [Array.length_toList, it.1]; exact l1
    apply List.ext_getElem?
    intro j
    rw [List.getElem?_map]
    cases hj : acc'.toList[j]? with
    | none =>
      have h1 := List.getElem?_eq_none_iff.mp hj
      rw [List.getElem?_eq_none (by omega)]
      all_goals rfl
    | some v =>
      obtain ⟨en, hen, hv⟩ := it.2 j v (by rw [← Array.getElem?_toList]; exact hj)
      have qe := entry_at he j
      rw [hen] at qe
      cases hxj : xs[j]? with
      | none => rw [hxj] at qe; cases qe
      | some x =>
        rw [hxj] at qe
        have qe := Option.some.inj qe
        rw [hv, qe]
        rfl
  refine ⟨.ref s.heap.objs.size, upd H s.heap.objs.size (.lst (xs.map fun x => V.ref x.2.1)), I.laid kp (Nat.le_refl _) ⟨by rw [List.length_map]; exact sz_of (by omega), acc'.toList, c', by rw [ea]; exact vals_refs2 xs, by rw [e]⟩, rfl, ?_⟩
  exact q _ _ _ (Go.new eg I.fresh) (rd_newL (fresh_back eg I.fresh) (ents_keys h2))
theorem pe_listN {i : Nat} {p : Pos} (hc : X.calm = true) (hg : Gl X "list") (hm : X.mg "list" = none) (hv : PE X a (tVar i)) (hs : starEach [a] X.env = (false, eval a X.env) :: starEach [] X.env := by rfl) (hpl : (backTo pos (starEach [] X.env)).any (·.1) = false := by rfl) :
    PE X (.Call (.Name "list" p) [a] [] pos) (tG X.K fun σ H G d => ∃ D kvs, σ[i]? = some (some (.ref D)) ∧ NRep X.K X.prog X.w kvs D G H ∧ kvs.length ≤ 1000 ∧ d = .list (kvs.map (·.1))) :=
  weakE (pe_callTy (cr_listN hc) hg hm (by decide +kernel) (pa_cons hv pa_nil hs) (by decide) (by decide) hs hpl) fun σ H Q => by
    rintro ⟨G, d, eg, ⟨D, kvs, hσ, rep, hl, rfl⟩, q⟩
    exact ⟨.ref D, hσ, D, G, kvs, rfl, eg, rep, hl, q⟩
end
/-! ### a dict of ints and texts, the values True -/
def kD : L2.Key → PyData
  | .inl i => .int i
  | .inr x => .str x
def asKey : PyData → Option L2.Key
  | .int i => some (.inl i)
  | .str x => some (.inr x)
  | _ => none
theorem asKey_rd {K : PySem.W.Frag} {G : Hp} {v : V} {d : PyData} {k : L2.Key} (r : RD K G v d) (h : asKey d = some k) : v = kV k ∧ d = kD k := by
  cases r <;> first | (cases h; exact ⟨rfl, rfl⟩) | cases h
theorem kD_rd {K : PySem.W.Frag} {G : Hp} : ∀ k : L2.Key, RD K G (kV k) (kD k)
  | .inl i => .int i
  | .inr x => .str x
def keysD (B : PyData → DE → Option DE) (F1 : DF) (ρ : DE) : List PyData → Option (List L2.Key)
  | [] => some []
  | d :: ds => (B d ρ).bind fun ρ1 => (F1 ρ1).bind fun k => (asKey k).bind fun k => (keysD B F1 ρ ds).map (k :: ·)
def putKs (kvs : List (L2.Key × V)) : List L2.Key → List (L2.Key × V)
  | [] => kvs
  | k :: ks => putKs (putK kvs k (.bl true)) ks
def DkQ (G H : Hp) (kvs : List (L2.Key × V)) (Q : VK) : Prop := ∀ D H' G', H D = none → Go G H G' H' → G' D = none → H' D = some (.dK kvs) → Q (.ref D) H'
def tDcK (K : PySem.W.Frag) (own : List Nat) (L : DE → Option (List PyData)) (B : PyData → DE → Option DE) (F1 : DF) : TE := fun σ H Q =>
  ∃ G ρ ds ks, Ex G H ∧ EnvR K G σ ρ ∧ L ρ = some ds ∧ ds.length ≤ 900 ∧ keysD B F1 (wipeD ρ own) ds = some ks ∧ DkQ G H (putKs [] ks) Q
section
variable {X : Cx} {kx vx tg iter : Expr} {scope : Scope} {own : List (Str × Nat)} {pos spos py : Pos} {L : DE → Option (List PyData)} {own1 : List Nat} {g : TG} {B : PyData → DE → Option DE} {F1 F2 : DF}
theorem dcK_in {K : PySem.W.Frag} {vs : List Nat} (tgd : TgD K own1 g B) (ho : ∀ j ∈ own1, j ∈ vs) {σ : L2.St} {H : Hp} {Q : VK} (h : tDcK K vs L B F1 σ H Q) : tDc (tDI K L) g (tDT K yesT) (tD K F1) (tC (.bl true)) vs σ H Q := by
  obtain ⟨G, ρ, ds, ks, eg, er, h1, hlen, h3, q⟩ := h
  refine ⟨G, ρ, ds, eg, er, h1, fun J H1 G1 g1 wk D hD => ?_⟩
  refine ⟨fun i m H => m = ds.length - i ∧ i ≤ ds.length ∧ ∃ G' kvs' ks', Go G1 H1 G' H ∧ G' D = none ∧ H D = some (.dK kvs') ∧ kvs'.length ≤ i ∧ keysD B F1 (wipeD ρ vs) (ds.drop i) = some ks' ∧ putKs kvs' ks' = putKs [] ks,
    ⟨ds.length, by simp, Nat.zero_le _, G1, [], ks, Go.own g1.gh hD, fresh_back g1.gh hD, upd_same, Nat.le_refl _, h3, rfl⟩, ?_⟩
  rintro i m H ⟨rfl, hi, G', kvs', ks', go, nD, hd, hl, hres, hout⟩
  by_cases hlt : i < ds.length
  · refine .inr ⟨wk.go i H hlt (go.gg.trans go.gh), ?_⟩
    rw [List.drop_eq_getElem_cons hlt] at hres
    obtain ⟨ρ1, h4, h5⟩ := Option.bind_eq_some_iff.mp hres
    obtain ⟨kd, h6, h7⟩ := Option.bind_eq_some_iff.mp h5
    obtain ⟨k, h8, h9⟩ := Option.bind_eq_some_iff.mp h7
    obtain ⟨ks2, h10, rfl⟩ := Option.map_eq_some_iff.mp h9
    refine ⟨fun H => ∃ G' kvs' ks', Go G1 H1 G' H ∧ G' D = none ∧ H D = some (.dK kvs') ∧ kvs'.length ≤ i + 1 ∧ keysD B F1 (wipeD ρ vs) (ds.drop (i + 1)) = some ks' ∧ putKs kvs' ks' = putKs [] ks, fun H' n => ⟨ds.length - (i + 1), by omega, rfl, hlt, n⟩, fun x H' y => ?_⟩
    obtain ⟨G2, g2, r2⟩ := wk.yld i ds[i] H G' x H' (List.getElem?_eq_getElem hlt) go.gg go.gh y
    have nd2 : ∀ {Ga Ha Gb Hb : Hp}, Go Ga Ha Gb Hb → Ga D = none → Ha D = some (.dK kvs') → Gb D = none := fun {Ga Ha Gb Hb} gz n1 n2 => by
      cases e : Gb D with
      | none => rfl
      | some o =>
        rcases gz.fr D o e with z | z
        · rw [n1] at z; cases z
        · rw [n2] at z; cases z
    have er2 := (er.mono (g1.gg.trans (go.gg.trans g2.gg))).wipe vs
    refine tgd.run x ds[i] _ ρ1 _ G2 H' _ g2.gh er2 r2 h4 fun σ3 er3 ho3 hl3 => ⟨?_, ?_⟩
    · rw [wipe_eq (σ := L2.wipe σ vs) (fun j hj => ho3 j fun z => hj (ho j z)) hl3, wipe_wipe]
    refine ⟨G2, ρ1, true, g2.gh, er3, rfl, fun H3 G3 g3 => ?_⟩
    refine iteT ⟨G3, ρ1, kd, g3.gh, er3.mono g3.gg, h6, fun v H4 G4 g4 r4 => ?_⟩
    have gA := (g2.trans g3).trans g4
    have hd4 := gA.hh _ _ hd
    have nD4 := nd2 gA nD hd
    obtain ⟨e1, e2⟩ := asKey_rd r4 h8
    refine ⟨kvs', k, e1, hd4, sz_lt (by omega), G4, putK kvs' k (.bl true), ks2, ⟨Ex.mut (go.trans gA).hh hD, fun a o ha => ?_, (go.trans gA).gg, (go.trans gA).fr⟩, nD4, upd_same, by have := length_putK kvs' k (V.bl true); omega, h10, hout⟩
    have ne : a ≠ D := fun e => by rw [e, nD4] at ha; cases ha
    rw [upd_ne ne]
    exact gA.gh a o ha
  · have e : i = ds.length := by omega
    subst e
    refine .inl ⟨wk.stop H (go.gg.trans go.gh), ?_⟩
    rw [List.drop_eq_nil_of_le (Nat.le_refl _)] at hres
    cases hres
    have hout : kvs' = putKs [] ks := hout
    subst hout
    exact q D H G' (fresh_back g1.hh hD) (g1.trans go) nD hd
theorem ps_setDcK {i : Nat} {y : Str} (hc : X.calm = true) (hN : X.N.Nodup) (hy : X.N[i]? = some y) (hyl : X.env.scope.names.lookup y = some .local)
    (hsw : swapsWith (.DictComp kx (.Constant (.bool true) j0 p0) [⟨tg, iter, [], 0⟩] scope pos) (some (.Name y py)) spos.line X.env = pure true) (hi : PDI X tg iter L) (ok : BlkOk X.N X.env.scope scope own) (tgd : TgD X.K own1 g B) (ho : ∀ j ∈ own1, j ∈ own.map (·.2))
    (hg : ∀ (s : Shared) (H : Hp) (C : Addr) (cl : List (Str × Addr)) (fp : List Addr), PG (X.blk s H scope (compEnvC scope cl C X.env) fp) tg g)
    (hk : ∀ (s : Shared) (H : Hp) (C : Addr) (cl : List (Str × Addr)) (fp : List Addr), PD (X.blk s H scope (compEnvC scope cl C X.env) fp) kx F1) (hs : ∀ x, foldedSetIterable iter X.env x = pure x := by intro _; rfl) :
    PS X (.Assign [.Name y py] (.DictComp kx (.Constant (.bool true) j0 p0) [⟨tg, iter, [], 0⟩] scope pos) spos) (tAsg (tDcK X.K (own.map (·.2)) L B F1) (gName i)) := by
  refine ⟨fun pins s σ H D I h => ?_⟩
  rw [exec_Assign_Name_used _ _ _ _ hsw]
  refine wpAny_bind (wpAny_standAt (wpAny_bind ?_))
  show wpAny _ X.A (do let _ ← comprehension (.DictComp kx (.Constant (.bool true) j0 p0) [⟨tg, iter, [], 0⟩] scope pos) scope X.env (firstIterPos [⟨tg, iter, [], 0⟩] pos) newDict false (eval iter X.env) (some (assign (.Name y py) X.env))) _ _ s
  have h : tDcK X.K (own.map (·.2)) L B F1 σ H (fun x H1 => gName i x σ H1 D.nx) := h
  refine wpAny_bind (thn (dc_core (Qf := fun _ s' => SP X pins D .next s') hc hN I hi ok hg (fun _ _ _ _ _ => pdts_nil) hk (fun _ _ _ _ _ => pe_bl) hs (dcK_in tgd ho h) fun L C s' m H' I' q hn f => ?_) fun _ s' hq => wpAny_pure (wpAny_pure hq))
  show wpAny _ _ (assign (.Name y py) X.env (.ref L)) _ _ _
  refine wpAny_assign_Name (store_ok2 (v := V.ref L) I' hN hy (.inl hyl) rfl (fun s2 I2 ⟨a, sb, ha⟩ => ?_) (.inr hyl))
  obtain ⟨f0, f1, f2, f3, f4, f5⟩ := f
  have haC : C ≠ a := by
    rcases ha with z | z
    · rw [z]; exact f1
    · exact fun e => f4 y a z e.symm
  refine ⟨m, hn.sameBut sb haC, fun h3 sb3 => ?_⟩
  exact ⟨_, H', I2.turned (t' := s2.toks) (fun b o hb e => (sb3.2 b hb).trans e) f0 f1 f3 f4 f5, q⟩
theorem kvs_rd {K : PySem.W.Frag} {G : Hp} : ∀ kvs : List (L2.Key × V), RDs K G (kvs.map fun kv => kV kv.1) (kvs.map fun kv => kD kv.1)
  | [] => .nil
  | kv :: r => .cons (kD_rd kv.1) (kvs_rd r)
theorem pe_listK {a : Expr} {i : Nat} {p : Pos} (hc : X.calm = true) (hg : Gl X "list") (hm : X.mg "list" = none) (hv : PE X a (tVar i)) (hs : starEach [a] X.env = (false, eval a X.env) :: starEach [] X.env := by rfl) (hpl : (backTo pos (starEach [] X.env)).any (·.1) = false := by rfl) :
    PE X (.Call (.Name "list" p) [a] [] pos) (tG X.K fun σ H G d => ∃ D kvs, σ[i]? = some (some (.ref D)) ∧ H D = some (.dK kvs) ∧ d = .list (kvs.map fun kv => kD kv.1)) :=
  weakE (pe_callTy (call_list_dK hc) hg hm (by decide +kernel) (pa_cons hv pa_nil hs) (by decide) (by decide) hs hpl) fun σ H Q => by
    rintro ⟨G, d, eg, ⟨D, kvs, hσ, hd, rfl⟩, q⟩
    exact ⟨.ref D, hσ, D, kvs, rfl, hd, fun p hp => q _ _ _ (Go.new eg hp) (rd_newL (fresh_back eg hp) (kvs_rd kvs))⟩
end
end DL

set_option Elab.async false
set_option linter.all false
set_option maxRecDepth 100000
set_option maxHeartbeats 4000000
namespace DL
open PySem PySem.Spec PyProof.Rows L2 Evl
theorem pairsD_len {B : PyData → DE → Option DE} {F1 F2 : DF} {ρ : DE} : ∀ {ds : List PyData} {ps : List (PyData × PyData)}, pairsD B F1 F2 ρ ds = some ps → ps.length = ds.length
  | [], _, h => by cases h; rfl
  | d :: ds, _, h => by
    obtain ⟨ρ1, h1, h⟩ := Option.bind_eq_some_iff.mp h
    obtain ⟨k, h2, h⟩ := Option.bind_eq_some_iff.mp h
    obtain ⟨v, h3, h⟩ := Option.bind_eq_some_iff.mp h
    split at h
    · obtain ⟨ps, h4, rfl⟩ := Option.map_eq_some_iff.mp h
      rw [List.length_cons, List.length_cons, pairsD_len h4]
    · cases h
theorem putAll_len : ∀ (ps kvs : List (PyData × PyData)), (putAll kvs ps).length ≤ kvs.length + ps.length
  | [], kvs => Nat.le_refl _
  | p :: ps, kvs => by
    have h1 := putAll_len ps (putD kvs p.1 p.2)
    have h2 := putD_len kvs p.1 p.2
    show (putAll (putD kvs p.1 p.2) ps).length ≤ kvs.length + (ps.length + 1)
    omega
section
variable {P : Program} {w : World} {K : PySem.W.Frag} {mg : Str → Option Value} {base : Heap} {CF : Addr}
def oneDict (d : PyData) : Option (List PyData) := (asSeq d).bind fun rows => if rows.length ≤ 900 then (pairsD (oneB 2) (fun ρ => sl ρ 2) (fun _ => some (.bool true)) (wipeD (startD 3 [d]) [2]) rows).map fun ps => (putAll [] ps).map (·.1) else none
def g_risen (CF : Addr) : DC := fun ds => match ds with
  | [d] => (oneDict d).bind fun ks => (sortedD (g_row_key CF) [.list ks]).bind fun x => tupleD [x]
  | _ => none
def oneKeys (d : PyData) : Option (List PyData) := (asSeq d).bind fun rows => if rows.length ≤ 900 then (keysD (oneB 2) (fun ρ => sl ρ 2) (wipeD (startD 3 [d]) [2]) rows).map fun ks => (putKs [] ks).map fun kv => kD kv.1 else none
def g_values_risen (CF : Addr) : DC := fun ds => match ds with
  | [d] => (oneKeys d).bind fun ks => (sortedD (g_value_key CF) [.list ks]).bind fun x => tupleD [x]
  | _ => none
theorem ok_risen (T : Txt K mg w CF) : FnOk P w K mg base CX0 5 T.d_risen.f T.d_risen.fd ["rows"] (spD K (g_risen CF)) := by
  refine T.d_risen.fn.ok sc_risen (fun vs H Q E h => ?_) (fun cdv A outer s H vs Q E hr hq => ?_)
  · obtain ⟨G, ds, d, eg, r, h, q⟩ := h
    unfold g_risen at h
    split at h
    · exact r.length
    · cases h
  · have nd := sc_risen.nd
    obtain ⟨G, ds, d, eg, rd, hf, q⟩ := hq
    unfold g_risen at hf
    split at hf
    · rename_i d0
      obtain ⟨ks, h1, h2⟩ := Option.bind_eq_some_iff.mp hf
      obtain ⟨x, h3, h4⟩ := Option.bind_eq_some_iff.mp h2
      obtain ⟨rows, h5, h6⟩ := Option.bind_eq_some_iff.mp h1
      split at h6
      · rename_i hl
        obtain ⟨ps, h7, h8⟩ := Option.map_eq_some_iff.mp h6
        refine ⟨_, pss_cons (ps_setDcN (i := 1) (own := [("row", 2)]) (L := fun ρ => ((fun ρ => sl ρ 0) ρ).bind asSeq) (B := oneB 2) (F1 := fun ρ => sl ρ 2) (F2 := fun _ => some (.bool true)) (Nat.lt_of_le_of_lt (Nat.add_le_add_left (by decide) _) hr.un) rfl nd rfl rfl rfl (pdi_seq (pd_var (pv 0))) (blkOk_by (N := ["rows", "once", "row"]) (sc := defScope s_risen) (by decide +kernel)) (tg_one 2) (by decide) (fun _ _ _ _ _ => (pg_name (i := 2) nd rfl (by first | exact Or.inl rfl | exact Or.inr rfl))) (fun _ _ _ _ _ => pd_var (pv 2)) (fun _ _ _ _ _ => pd_bl))
          (pss_one (ps_ret (pe_callTyG cd_tuple (by rfl) T.b_tuple (by decide +kernel) (pe_sortedK (ok_row_key T) (hr.mono (by decide)) T.d_row_key.bd (by rfl) T.b_sorted (by rfl) T.d_row_key.gl (pe_listN (i := 1) rfl (by rfl) T.b_list (pv 1)))))), ?_⟩
        have er : EnvR K G (start ["rows", "once", "row"] vs) (startD 3 [d0]) := start_rd rd
        refine ⟨G, _, rows, ps, eg, er, ?_, hl, h7, fun D H' G' hD go rep => ?_⟩
        · exact h5
        · have hz : (putAll [] ps).length ≤ 1000 := by
            have := putAll_len ps []
            have := pairsD_len h7
            simp only [List.length_nil] at *
            omega
          have hlen : (start ["rows", "once", "row"] vs).length = 3 := by rw [← er.len]; rfl
          refine ⟨G', d, go.gh, ⟨x, ⟨.list ks, ⟨D, putAll [] ps, ?_, rep, hz, by rw [h8]⟩, h3⟩, h4⟩, fun v H2 G2 g2 r2 => q v H2 G2 (go.trans g2) r2⟩
          rw [List.getElem?_set_self (by omega)]
      · cases h6
    · cases hf
theorem ok_values_risen (T : Txt K mg w CF) : FnOk P w K mg base CX0 4 T.d_values_risen.f T.d_values_risen.fd ["values"] (spD K (g_values_risen CF)) := by
  refine T.d_values_risen.fn.ok sc_values_risen (fun vs H Q E h => ?_) (fun cdv A outer s H vs Q E hr hq => ?_)
  · obtain ⟨G, ds, d, eg, r, h, q⟩ := h
    unfold g_values_risen at h
    split at h
    · exact r.length
    · cases h
  · have nd := sc_values_risen.nd
    obtain ⟨G, ds, d, eg, rd, hf, q⟩ := hq
    unfold g_values_risen at hf
    split at hf
    · rename_i d0
      obtain ⟨ks, h1, h2⟩ := Option.bind_eq_some_iff.mp hf
      obtain ⟨x, h3, h4⟩ := Option.bind_eq_some_iff.mp h2
      obtain ⟨rows, h5, h6⟩ := Option.bind_eq_some_iff.mp h1
      split at h6
      · rename_i hl
        obtain ⟨ps, h7, h8⟩ := Option.map_eq_some_iff.mp h6
        refine ⟨_, pss_cons (ps_setDcK (i := 1) (own := [("value", 2)]) (L := fun ρ => ((fun ρ => sl ρ 0) ρ).bind asSeq) (B := oneB 2) (F1 := fun ρ => sl ρ 2) rfl nd rfl rfl rfl (pdi_seq (pd_var (pv 0))) (blkOk_by (N := ["values", "once", "value"]) (sc := defScope s_values_risen) (by decide +kernel)) (tg_one 2) (by decide) (fun _ _ _ _ _ => (pg_name (i := 2) nd rfl (by first | exact Or.inl rfl | exact Or.inr rfl))) (fun _ _ _ _ _ => pd_var (pv 2)))
          (pss_one (ps_ret (pe_callTyG cd_tuple (by rfl) T.b_tuple (by decide +kernel) (pe_sortedK (ok_value_key T) (hr.mono (by decide)) T.d_value_key.bd (by rfl) T.b_sorted (by rfl) T.d_value_key.gl (pe_listK (i := 1) rfl (by rfl) T.b_list (pv 1)))))), ?_⟩
        have er : EnvR K G (start ["values", "once", "value"] vs) (startD 3 [d0]) := start_rd rd
        refine ⟨G, _, rows, ps, eg, er, ?_, hl, h7, fun D H' G' hD go nD hd => ?_⟩
        · exact h5
        · have hlen : (start ["values", "once", "value"] vs).length = 3 := by rw [← er.len]; rfl
          refine ⟨G', d, go.gh, ⟨x, ⟨.list ks, ⟨D, putKs [] ps, ?_, hd, by rw [h8]⟩, h3⟩, h4⟩, fun v H2 G2 g2 r2 => q v H2 G2 (go.trans g2) r2⟩
          rw [List.getElem?_set_self (by omega)]
      · cases h6
    · cases hf
end
abbrev zipLD (F1 F2 : DF) : DE → Option (List PyData) := fun ρ => (F1 ρ).bind fun d => (F2 ρ).bind fun e => match d, e with
      | .list xs, .list ys => some (List.zipWith (fun x y => .tuple [x, y]) xs ys)
      | _, _ => none
theorem pdi_zipL {X : Cx} {a b : Expr} {F1 F2 : DF} {pos : Pos} {es2 : List Expr} {kk : Nat} {p tpos : Pos} (hg : Gl X "zip") (hm : X.mg "zip" = none) (ha : PD X a F1) (hb : PD X b F2)
    (hs : starEach [a, b] X.env = (false, eval a X.env) :: starEach [b] X.env := by rfl) (hs2 : starEach [b] X.env = (false, eval b X.env) :: starEach [] X.env := by rfl) (hpl : (backTo pos (starEach [b] X.env)).any (·.1) = false := by rfl) :
    PDI X (.Tuple es2 kk tpos) (.Call (.Name "zip" p) [a, b] [] pos) (zipLD F1 F2) := by
  refine weakI (RZ.pi_zipA hg hm (pa_cons ha (pa_cons hb pa_nil hs2) hs) hs hpl) fun σ H Q => ?_
  rintro ⟨G, ρ, ds, eg, er, hf, q⟩
  obtain ⟨d, h1, h2⟩ := Option.bind_eq_some_iff.mp hf
  obtain ⟨e, h3, h4⟩ := Option.bind_eq_some_iff.mp h2
  refine ⟨G, ρ, d, eg, er, h1, fun v H1 G1 g1 r1 => ⟨G1, ρ, e, g1.gh, er.mono g1.gg, h3, fun u H2 G2 g2 r2 => ?_⟩⟩
  have r1 := r1.mono g2.gg
  split at h4
  · cases h4
    cases r1 with
    | lst s1 t1 =>
      cases r2 with
      | lst s2 t2 =>
        rename_i xs ys a1 vs a2 us
        refine ⟨a1, a2, vs, us, rfl, .inl ⟨ex_l g2.gh s1, ex_l g2.gh s2, q _ H2 G2 (g1.trans g2) ⟨fun i H hi e => ?_, fun H e => ?_, fun i d H G3 x H' hd e1 e2 y => ?_⟩⟩⟩
        · rw [List.length_zipWith] at hi
          have l1 := t1.length
          have l2 := t2.length
          have h1 : i < vs.length := by omega
          have h2 : i < us.length := by omega
          exact ⟨vs, us, vs[i], us[i], ex_l e s1, ex_l e s2, List.getElem?_eq_getElem h1, List.getElem?_eq_getElem h2⟩
        · rw [List.length_zipWith]
          have l1 := t1.length
          have l2 := t2.length
          exact ⟨vs, us, ex_l e s1, ex_l e s2, by omega⟩
        · obtain ⟨Tp, x1, y1, rfl, hT, rfl, f1, f2⟩ := y
          rw [List.getElem?_zipWith] at hd
          have k1 := f1 vs (ex_l (e1.trans e2) s1)
          have k2 := f2 us (ex_l (e1.trans e2) s2)
          obtain ⟨dx, m1, m2⟩ := t1.get' i x1 k1
          obtain ⟨dy, m3, m4⟩ := t2.get' i y1 k2
          rw [m1, m3] at hd
          cases hd
          exact ⟨_, Go.new e2 hT, rd_newT (fresh_back e2 hT) (.cons (m2.mono e1) (.cons (m4.mono e1) .nil))⟩
  · cases h4
end DL

set_option Elab.async false
set_option linter.all false
set_option maxRecDepth 100000
set_option maxHeartbeats 4000000
namespace DL
open PySem PySem.Spec PyProof.Rows L2 Evl

section
variable {P : Program} {w : World} {K : PySem.W.Frag} {mg : Str → Option Value} {base : Heap} {CF : Addr}
def S_values_in (CF : Addr) : DS := (retD (fun ρ => ((fun ρ => ((lc3D [3, 4, 5, 1, 2] 10 (fun ρ => ((fun ρ => sl ρ 0) ρ).bind asSeq) (tupB [3, 4, 5]) yesT (midD 20 (fun ρ => ((fun ρ => sl ρ 5) ρ).bind asSeq) (oneB 1) yesT (lastD 10 (fun ρ => ((fun ρ => sl ρ 1) ρ).bind asSeq) (oneB 2) yesT (fun ρ => sl ρ 2) [2]) [1, 2])) ρ).bind fun d => ((fun _ => some []) ρ).bind fun ds => some (d :: ds)) ρ).bind (g_values_risen CF)))
def g_values_in (CF : Addr) : DC := runD 6 1 (S_values_in CF)
theorem ok_values_in (T : Txt K mg w CF) : FnOk P w K mg base CX0 5 T.d_values_in.f T.d_values_in.fd ["book"] (spD K (g_values_in CF)) := fn_D T.d_values_in.fn sc_values_in fun cdv A outer s H E hr => by
  have nd := sc_values_in.nd
  exact (pdss_one (pds_ret (pd_call (ok_values_risen T) (hr.mono (by decide)) (by rfl) T.d_values_risen.gl T.d_values_risen.fn.kp T.d_values_risen.bd (pds_cons (pd_lc3 (m := 10) (b := 200) (own := [("name", 3), ("columns", 4), ("rows", 5), ("row", 1), ("value", 2)]) (vs1 := [1, 2]) rfl nd (pdi_seq (pd_var (pv 0))) (blkOk_by (N := ["book", "row", "value", "name", "columns", "rows"]) (sc := defScope s_values_in) (by decide +kernel)) (tg_tup [3, 4, 5]) (by decide) (by decide) (by decide) (fun _ _ _ _ _ => (pg_tup rfl (pgs_cons (pg_name (i := 3) nd rfl (by first | exact Or.inl rfl | exact Or.inr rfl)) (pgs_cons (pg_name (i := 4) nd rfl (by first | exact Or.inl rfl | exact Or.inr rfl)) (pgs_cons (pg_name (i := 5) nd rfl (by first | exact Or.inl rfl | exact Or.inr rfl)) pgs_nil))))) (fun _ _ _ _ _ => pdts_nil) (fun _ _ _ _ _ => lv_mid (m := 20) (b := 10) rfl rfl (pdi_seq (pd_var (pv 5))) (pg_name (i := 1) nd rfl (by first | exact Or.inl rfl | exact Or.inr rfl)) (tg_one 1) (by decide) pdts_nil (by decide) (fun _ => rfl) (lv_last (b := 10) rfl rfl (pdi_seq (pd_var (pv 1))) (pg_name (i := 2) nd rfl (by first | exact Or.inl rfl | exact Or.inr rfl)) (tg_one 2) (by decide) pdts_nil (pd_var (pv 2))))) pds_nil))))
def S_is_book (CF : Addr) : DS := (seqD (ifD (orT (notT (fun ρ => ((fun ρ => ((fun ρ => sl ρ 0) ρ).bind (isiD "tuple")) ρ).bind asB)) (orT (notT (fun ρ => (chD (cmpI fun i j => decide (i ≤ j)) (cmpI fun i j => decide (i ≤ j)) (fun _ => some (.int 1)) (fun ρ => ((fun ρ => ((fun ρ => sl ρ 0) ρ).bind fun d => ((fun _ => some []) ρ).bind fun ds => some (d :: ds)) ρ).bind lenD) (fun _ => some (.int 3)) ρ).bind asB)) (notT (fun ρ => ((fun ρ => ((fun ρ => ((lcD [5] (fun ρ => ((fun ρ => sl ρ 0) ρ).bind asSeq) (oneB 5) yesT (fun ρ => ((fun ρ => ((fun ρ => sl ρ 5) ρ).bind fun d => ((fun _ => some []) ρ).bind fun ds => some (d :: ds)) ρ).bind (g_is_table CF))) ρ).bind fun d => ((fun _ => some []) ρ).bind fun ds => some (d :: ds)) ρ).bind allD) ρ).bind asB)))) (retD (fun _ => some (.bool false))) nxD) (seqD (setD 1 (lcD [2, 3, 4] (fun ρ => ((fun ρ => sl ρ 0) ρ).bind asSeq) (tupB [2, 3, 4]) yesT (fun ρ => sl ρ 2))) (retD (andV (fun ρ => ((fun ρ => ((lcD [6, 7] (zipLD (fun ρ => sl ρ 1) (slL (fun ρ => sl ρ 1) (fun ρ => (((fun _ => some (.int 1)) ρ).bind asI).map some) (fun _ => some none))) (tupB [6, 7]) yesT (b2 ltS (fun ρ => sl ρ 6) (fun ρ => sl ρ 7))) ρ).bind fun d => ((fun _ => some []) ρ).bind fun ds => some (d :: ds)) ρ).bind allD) (b2 (cmpI fun i j => decide (i ≤ j)) (fun ρ => ((fun ρ => ((fun ρ => ((fun ρ => ((fun ρ => sl ρ 0) ρ).bind fun d => ((fun _ => some []) ρ).bind fun ds => some (d :: ds)) ρ).bind (g_values_in CF)) ρ).bind fun d => ((fun _ => some []) ρ).bind fun ds => some (d :: ds)) ρ).bind lenD) (fun _ => some (.int 18)))))))
def g_is_book (CF : Addr) : DC := runD 8 1 (S_is_book CF)
theorem ok_is_book (T : Txt K mg w CF) : FnOk P w K mg base CX0 7 T.d_is_book.f T.d_is_book.fd ["thing"] (spD K (g_is_book CF)) := fn_D T.d_is_book.fn sc_is_book fun cdv A outer s H E hr => by
  have nd := sc_is_book.nd
  exact (pdss_cons (pds_if (pdt_of (pdw_or (pdt_not (pdt_val (pd_isi rfl T.b_isinstance (by decide +kernel) rfl T.b_tuple (by decide +kernel) (pd_var (pv 0))))) (pdw_or (pdt_not (pdt_chain od_leI od_leI pd_int (pd_callB cd_len (by rfl) T.b_len (by decide +kernel) (pds_cons (pd_var (pv 0)) pds_nil)) (pd_const (pe_glob (v := .int 3) rfl T.c_TABLES ⟨_, rfl⟩) (fun _ => .int 3)))) (pdw_or1 (pdt_not (pdt_val (pd_callB (cd_all rfl) (by rfl) T.b_all (by decide +kernel) (pds_cons (pd_lc (own := [("table", 5)]) rfl nd (pdi_seq (pd_var (pv 0))) (blkOk_by (N := ["thing", "names", "name", "columns", "rows", "table", "one", "other"]) (sc := defScope s_is_book) (by decide +kernel)) (tg_one 5) (by decide) (fun _ _ _ _ _ => (pg_name (i := 5) nd rfl (by first | exact Or.inl rfl | exact Or.inr rfl))) (fun _ _ _ _ _ => pdts_nil) (fun _ _ _ _ _ => (pd_call (ok_is_table T) (hr.mono (by decide)) (by rfl) T.d_is_table.gl T.d_is_table.fn.kp T.d_is_table.bd (pds_cons (pd_var (pv 5)) pds_nil)))) pds_nil)))))))) (pdss_one (pds_ret pd_bl)) pdss_nil) (pdss_cons (pds_setLc (i := 1) (own := [("name", 2), ("columns", 3), ("rows", 4)]) rfl nd rfl rfl (sw_true rfl rfl rfl (by decide +kernel)) (pdi_seq (pd_var (pv 0))) (blkOk_by (N := ["thing", "names", "name", "columns", "rows", "table", "one", "other"]) (sc := defScope s_is_book) (by decide +kernel)) (tg_tup [2, 3, 4]) (by decide) (fun _ _ _ _ _ => (pg_tup rfl (pgs_cons (pg_name (i := 2) nd rfl (by first | exact Or.inl rfl | exact Or.inr rfl)) (pgs_cons (pg_name (i := 3) nd rfl (by first | exact Or.inl rfl | exact Or.inr rfl)) (pgs_cons (pg_name (i := 4) nd rfl (by first | exact Or.inl rfl | exact Or.inr rfl)) pgs_nil))))) (fun _ _ _ _ _ => pdts_nil) (fun _ _ _ _ _ => (pd_var (pv 2)))) (pdss_one (pds_ret (pd_and (pd_callB (cd_all rfl) (by rfl) T.b_all (by decide +kernel) (pds_cons (pd_lc (own := [("one", 6), ("other", 7)]) rfl nd (pdi_zipL (by rfl) T.b_zip (pd_var (pv 1)) (pd_slL (pd_var (pv 1)) (pdo_some pd_int) pdo_none)) (blkOk_by (N := ["thing", "names", "name", "columns", "rows", "table", "one", "other"]) (sc := defScope s_is_book) (by decide +kernel)) (tg_tup [6, 7]) (by decide) (fun _ _ _ _ _ => (pg_tup rfl (pgs_cons (pg_name (i := 6) nd rfl (by first | exact Or.inl rfl | exact Or.inr rfl)) (pgs_cons (pg_name (i := 7) nd rfl (by first | exact Or.inl rfl | exact Or.inr rfl)) pgs_nil)))) (fun _ _ _ _ _ => pdts_nil) (fun _ _ _ _ _ => (pd_cmp od_ltS (pd_var (pv 6)) (pd_var (pv 7)) (nomark _)))) pds_nil)) (pd_one (pd_cmp od_leI (pd_callB cd_len (by rfl) T.b_len (by decide +kernel) (pds_cons (pd_call (ok_values_in T) (hr.mono (by decide)) (by rfl) T.d_values_in.gl T.d_values_in.fn.kp T.d_values_in.bd (pds_cons (pd_var (pv 0)) pds_nil)) pds_nil)) (pd_const (pe_glob (v := .int 18) rfl T.c_VALUES ⟨_, rfl⟩) (fun _ => .int 18)) (nomark _))))))))
def S_are_books (CF : Addr) : DS := (seqD (ifD (orT (notT (fun ρ => ((fun ρ => ((fun ρ => sl ρ 0) ρ).bind (isiD "tuple")) ρ).bind asB)) (orT (notT (fun ρ => (chD (cmpI fun i j => decide (i ≤ j)) (cmpI fun i j => decide (i ≤ j)) (fun _ => some (.int 1)) (fun ρ => ((fun ρ => ((fun ρ => sl ρ 0) ρ).bind fun d => ((fun _ => some []) ρ).bind fun ds => some (d :: ds)) ρ).bind lenD) (fun _ => some (.int 3)) ρ).bind asB)) (notT (fun ρ => ((fun ρ => ((fun ρ => ((lcD [1] (fun ρ => ((fun ρ => sl ρ 0) ρ).bind asSeq) (oneB 1) yesT (fun ρ => ((fun ρ => ((fun ρ => sl ρ 1) ρ).bind fun d => ((fun _ => some []) ρ).bind fun ds => some (d :: ds)) ρ).bind (g_is_book CF))) ρ).bind fun d => ((fun _ => some []) ρ).bind fun ds => some (d :: ds)) ρ).bind allD) ρ).bind asB)))) (retD (fun _ => some (.bool false))) nxD) (retD (fun ρ => ((fun ρ => ((lcD [1] (fun ρ => ((fun ρ => sl ρ 0) ρ).bind asSeq) (oneB 1) yesT (b2 eqD (fun ρ => ((fun ρ => ((fun ρ => sl ρ 1) ρ).bind fun d => ((fun _ => some []) ρ).bind fun ds => some (d :: ds)) ρ).bind (g_heads CF)) (fun ρ => ((fun ρ => ((b2 ixD (fun ρ => sl ρ 0) (fun _ => some (.int 0))) ρ).bind fun d => ((fun _ => some []) ρ).bind fun ds => some (d :: ds)) ρ).bind (g_heads CF)))) ρ).bind fun d => ((fun _ => some []) ρ).bind fun ds => some (d :: ds)) ρ).bind allD)))
def g_are_books (CF : Addr) : DC := runD 2 1 (S_are_books CF)
theorem ok_are_books (T : Txt K mg w CF) : FnOk P w K mg base CX0 8 T.d_are_books.f T.d_are_books.fd ["thing"] (spD K (g_are_books CF)) := fn_D T.d_are_books.fn sc_are_books fun cdv A outer s H E hr => by
  have nd := sc_are_books.nd
  exact (pdss_cons (pds_if (pdt_of (pdw_or (pdt_not (pdt_val (pd_isi rfl T.b_isinstance (by decide +kernel) rfl T.b_tuple (by decide +kernel) (pd_var (pv 0))))) (pdw_or (pdt_not (pdt_chain od_leI od_leI pd_int (pd_callB cd_len (by rfl) T.b_len (by decide +kernel) (pds_cons (pd_var (pv 0)) pds_nil)) (pd_const (pe_glob (v := .int 3) rfl T.c_MANY ⟨_, rfl⟩) (fun _ => .int 3)))) (pdw_or1 (pdt_not (pdt_val (pd_callB (cd_all rfl) (by rfl) T.b_all (by decide +kernel) (pds_cons (pd_lc (own := [("book", 1)]) rfl nd (pdi_seq (pd_var (pv 0))) (blkOk_by (N := ["thing", "book"]) (sc := defScope s_are_books) (by decide +kernel)) (tg_one 1) (by decide) (fun _ _ _ _ _ => (pg_name (i := 1) nd rfl (by first | exact Or.inl rfl | exact Or.inr rfl))) (fun _ _ _ _ _ => pdts_nil) (fun _ _ _ _ _ => (pd_call (ok_is_book T) (hr.mono (by decide)) (by rfl) T.d_is_book.gl T.d_is_book.fn.kp T.d_is_book.bd (pds_cons (pd_var (pv 1)) pds_nil)))) pds_nil)))))))) (pdss_one (pds_ret pd_bl)) pdss_nil) (pdss_one (pds_ret (pd_callB (cd_all rfl) (by rfl) T.b_all (by decide +kernel) (pds_cons (pd_lc (own := [("book", 1)]) rfl nd (pdi_seq (pd_var (pv 0))) (blkOk_by (N := ["thing", "book"]) (sc := defScope s_are_books) (by decide +kernel)) (tg_one 1) (by decide) (fun _ _ _ _ _ => (pg_name (i := 1) nd rfl (by first | exact Or.inl rfl | exact Or.inr rfl))) (fun _ _ _ _ _ => pdts_nil) (fun _ _ _ _ _ => (pd_cmp (od_eq hr.units) (pd_call (ok_heads T) (hr.mono (by decide)) (by rfl) T.d_heads.gl T.d_heads.fn.kp T.d_heads.bd (pds_cons (pd_var (pv 1)) pds_nil)) (pd_call (ok_heads T) (hr.mono (by decide)) (by rfl) T.d_heads.gl T.d_heads.fn.kp T.d_heads.bd (pds_cons (pd_ix (pd_var (pv 0)) pd_int) pds_nil)) (nomark _)))) pds_nil)))))
def S_named_of (CF : Addr) : DS := (seqD (ifD (orT (notT (fun ρ => ((fun ρ => ((fun ρ => sl ρ 0) ρ).bind (isi2D "list" "tuple")) ρ).bind asB)) (notT (fun ρ => ((fun ρ => ((fun ρ => ((lcD [2] (fun ρ => ((fun ρ => sl ρ 0) ρ).bind asSeq) (oneB 2) yesT (fun ρ => ((fun ρ => ((fun ρ => sl ρ 2) ρ).bind fun d => ((fun _ => some []) ρ).bind fun ds => some (d :: ds)) ρ).bind (g_is_value CF))) ρ).bind fun d => ((fun _ => some []) ρ).bind fun ds => some (d :: ds)) ρ).bind allD) ρ).bind asB))) (fun _ => none) nxD) (seqD (setD 1 (fun ρ => ((fun ρ => ((fun ρ => sl ρ 0) ρ).bind fun d => ((fun _ => some []) ρ).bind fun ds => some (d :: ds)) ρ).bind (g_values_risen CF))) (seqD (ifD (fun ρ => (b2 (cmpI fun i j => decide (j < i)) (fun ρ => ((fun ρ => ((fun ρ => sl ρ 1) ρ).bind fun d => ((fun _ => some []) ρ).bind fun ds => some (d :: ds)) ρ).bind lenD) (fun _ => some (.int 3)) ρ).bind asB) (fun _ => none) nxD) (retD (fun ρ => sl ρ 1)))))
def g_named_of (CF : Addr) : DC := runD 3 1 (S_named_of CF)
theorem ok_named_of (T : Txt K mg w CF) : FnOk P w K mg base CX0 5 T.d_named_of.f T.d_named_of.fd ["thing"] (spD K (g_named_of CF)) := fn_D T.d_named_of.fn sc_named_of fun cdv A outer s H E hr => by
  have nd := sc_named_of.nd
  exact (pdss_cons (pds_if (pdt_of (pdw_or (pdt_not (pdt_val (pd_isi2 rfl T.b_isinstance (by decide +kernel) rfl T.b_list (by decide +kernel) rfl T.b_tuple (by decide +kernel) (pd_var (pv 0))))) (pdw_or1 (pdt_not (pdt_val (pd_callB (cd_all rfl) (by rfl) T.b_all (by decide +kernel) (pds_cons (pd_lc (own := [("value", 2)]) rfl nd (pdi_seq (pd_var (pv 0))) (blkOk_by (N := ["thing", "found", "value"]) (sc := defScope s_named_of) (by decide +kernel)) (tg_one 2) (by decide) (fun _ _ _ _ _ => (pg_name (i := 2) nd rfl (by first | exact Or.inl rfl | exact Or.inr rfl))) (fun _ _ _ _ _ => pdts_nil) (fun _ _ _ _ _ => (pd_call (ok_is_value T) (hr.mono (by decide)) (by rfl) T.d_is_value.gl T.d_is_value.fn.kp T.d_is_value.bd (pds_cons (pd_var (pv 2)) pds_nil)))) pds_nil))))))) (pdss_one pds_never) pdss_nil) (pdss_cons (pds_set (ps_set (i := 1) nd rfl (by first | exact Or.inl rfl | exact Or.inr rfl) (pd_call (ok_values_risen T) (hr.mono (by decide)) (by rfl) T.d_values_risen.gl T.d_values_risen.fn.kp T.d_values_risen.bd (pds_cons (pd_var (pv 0)) pds_nil))) (fun _ _ _ h => h)) (pdss_cons (pds_if (pdt_cmp od_gtI (pd_callB cd_len (by rfl) T.b_len (by decide +kernel) (pds_cons (pd_var (pv 1)) pds_nil)) (pd_const (pe_glob (v := .int 3) rfl T.c_NAMED ⟨_, rfl⟩) (fun _ => .int 3)) (nomark _)) (pdss_one pds_never) pdss_nil) (pdss_one (pds_ret (pd_var (pv 1)))))))
def S_deeds_of (CF : Addr) : DS := (seqD (ifD (orT (notT (fun ρ => ((fun ρ => ((fun ρ => sl ρ 0) ρ).bind (isi2D "list" "tuple")) ρ).bind asB)) (notT (fun ρ => ((fun ρ => ((fun ρ => ((lcD [1] (fun ρ => ((fun ρ => sl ρ 0) ρ).bind asSeq) (oneB 1) yesT (andV (fun ρ => ((fun ρ => sl ρ 1) ρ).bind (isiD "str")) (b2 (inD false) (fun ρ => sl ρ 1) (fun _ => some deedsD)))) ρ).bind fun d => ((fun _ => some []) ρ).bind fun ds => some (d :: ds)) ρ).bind allD) ρ).bind asB))) (fun _ => none) nxD) (retD (fun ρ => ((fun ρ => ((lcD [1] (fun ρ => ((fun _ => some deedsD) ρ).bind asSeq) (oneB 1) (fun ρ => (b2 (inD false) (fun ρ => sl ρ 1) (fun ρ => sl ρ 0) ρ).bind asB) (fun ρ => sl ρ 1)) ρ).bind fun d => ((fun _ => some []) ρ).bind fun ds => some (d :: ds)) ρ).bind tupleD)))
def g_deeds_of (CF : Addr) : DC := runD 2 1 (S_deeds_of CF)
theorem ok_deeds_of (T : Txt K mg w CF) : FnOk P w K mg base CX0 1 T.d_deeds_of.f T.d_deeds_of.fd ["thing"] (spD K (g_deeds_of CF)) := fn_D T.d_deeds_of.fn sc_deeds_of fun cdv A outer s H E hr => by
  have nd := sc_deeds_of.nd
  exact (pdss_cons (pds_if (pdt_of (pdw_or (pdt_not (pdt_val (pd_isi2 rfl T.b_isinstance (by decide +kernel) rfl T.b_list (by decide +kernel) rfl T.b_tuple (by decide +kernel) (pd_var (pv 0))))) (pdw_or1 (pdt_not (pdt_val (pd_callB (cd_all rfl) (by rfl) T.b_all (by decide +kernel) (pds_cons (pd_lc (own := [("word", 1)]) rfl nd (pdi_seq (pd_var (pv 0))) (blkOk_by (N := ["thing", "word"]) (sc := defScope s_deeds_of) (by decide +kernel)) (tg_one 1) (by decide) (fun _ _ _ _ _ => (pg_name (i := 1) nd rfl (by first | exact Or.inl rfl | exact Or.inr rfl))) (fun _ _ _ _ _ => pdts_nil) (fun _ _ _ _ _ => (pd_and (pd_isi rfl T.b_isinstance (by decide +kernel) rfl T.b_str (by decide +kernel) (pd_var (pv 1))) (pd_one (pd_cmp od_in (pd_var (pv 1)) (pd_const (pe_glob (v := .ref T.a_DEEDS) rfl T.c_DEEDS rfl) T.r_DEEDS) (by rfl)))))) pds_nil))))))) (pdss_one pds_never) pdss_nil) (pdss_one (pds_ret (pd_callTy cd_tuple (by rfl) T.b_tuple (by decide +kernel) (pds_cons (pd_lc (own := [("word", 1)]) rfl nd (pdi_seq (pd_const (pe_glob (v := .ref T.a_DEEDS) rfl T.c_DEEDS rfl) T.r_DEEDS)) (blkOk_by (N := ["thing", "word"]) (sc := defScope s_deeds_of) (by decide +kernel)) (tg_one 1) (by decide) (fun _ _ _ _ _ => (pg_name (i := 1) nd rfl (by first | exact Or.inl rfl | exact Or.inr rfl))) (fun _ _ _ _ _ => (pdts_one (pdt_cmp od_in (pd_var (pv 1)) (pd_var (pv 0)) (by rfl)))) (fun _ _ _ _ _ => (pd_var (pv 1)))) pds_nil)))))
def S___len__ (CF : Addr) : DS := (retD (fun ρ => ((fun ρ => ((fun ρ => ((fun ρ => sl ρ 0) ρ).bind (attrD CF "books")) ρ).bind fun d => ((fun _ => some []) ρ).bind fun ds => some (d :: ds)) ρ).bind lenD))
def g___len__ (CF : Addr) : DC := runD 1 1 (S___len__ CF)
theorem ok___len__ (T : Txt K mg w CF) : FnOk P w K mg base CX0 1 T.f_len T.fd_len ["self"] (spD K (g___len__ CF)) := fn_D T.fn_len sc___len__ fun cdv A outer s H E hr => by
  have nd := sc___len__.nd
  exact (pdss_one (pds_ret (pd_callB cd_len (by rfl) T.b_len (by decide +kernel) (pds_cons (pd_fld T.cls T.na_books (pd_var (pv 0))) pds_nil))))
def S_names_of (CF : Addr) : DS := (retD (fun ρ => ((fun ρ => ((lcD [1, 2, 3] (fun ρ => ((b2 ixD (fun ρ => ((fun ρ => sl ρ 0) ρ).bind (attrD CF "books")) (fun _ => some (.int 0))) ρ).bind asSeq) (tupB [1, 2, 3]) yesT (fun ρ => sl ρ 1)) ρ).bind fun d => ((fun _ => some []) ρ).bind fun ds => some (d :: ds)) ρ).bind tupleD))
def g_names_of (CF : Addr) : DC := runD 4 1 (S_names_of CF)
theorem ok_names_of (T : Txt K mg w CF) : FnOk P w K mg base CX0 1 T.d_names_of.f T.d_names_of.fd ["field"] (spD K (g_names_of CF)) := fn_D T.d_names_of.fn sc_names_of fun cdv A outer s H E hr => by
  have nd := sc_names_of.nd
  exact (pdss_one (pds_ret (pd_callTy cd_tuple (by rfl) T.b_tuple (by decide +kernel) (pds_cons (pd_lc (own := [("name", 1), ("columns", 2), ("rows", 3)]) rfl nd (pdi_seq (pd_ix (pd_fld T.cls T.na_books (pd_var (pv 0))) pd_int)) (blkOk_by (N := ["field", "name", "columns", "rows"]) (sc := defScope s_names_of) (by decide +kernel)) (tg_tup [1, 2, 3]) (by decide) (fun _ _ _ _ _ => (pg_tup rfl (pgs_cons (pg_name (i := 1) nd rfl (by first | exact Or.inl rfl | exact Or.inr rfl)) (pgs_cons (pg_name (i := 2) nd rfl (by first | exact Or.inl rfl | exact Or.inr rfl)) (pgs_cons (pg_name (i := 3) nd rfl (by first | exact Or.inl rfl | exact Or.inr rfl)) pgs_nil))))) (fun _ _ _ _ _ => pdts_nil) (fun _ _ _ _ _ => (pd_var (pv 1)))) pds_nil))))
def S_table_columns (CF : Addr) : DS := (seqD (unpD [2, 3, 4] (fun ρ => ((fun ρ => ((b2 ixD (fun ρ => ((fun ρ => sl ρ 0) ρ).bind (attrD CF "books")) (fun _ => some (.int 0))) ρ).bind fun d => ((fun ρ => ((fun ρ => sl ρ 1) ρ).bind fun d => ((fun _ => some []) ρ).bind fun ds => some (d :: ds)) ρ).bind fun ds => some (d :: ds)) ρ).bind (g_table_at CF))) (retD (fun ρ => sl ρ 3)))
def g_table_columns (CF : Addr) : DC := runD 5 2 (S_table_columns CF)
theorem ok_table_columns (T : Txt K mg w CF) : FnOk P w K mg base CX0 2 T.d_table_columns.f T.d_table_columns.fd ["field", "name"] (spD K (g_table_columns CF)) := fn_D T.d_table_columns.fn sc_table_columns fun cdv A outer s H E hr => by
  have nd := sc_table_columns.nd
  exact (pdss_cons (pds_unp [2, 3, 4] (pd_call (ok_table_at T) (hr.mono (by decide)) (by rfl) T.d_table_at.gl T.d_table_at.fn.kp T.d_table_at.bd (pds_cons (pd_ix (pd_fld T.cls T.na_books (pd_var (pv 0))) pd_int) (pds_cons (pd_var (pv 1)) pds_nil))) (pg_tup rfl (pgs_cons (pg_name (i := 2) nd rfl (by first | exact Or.inl rfl | exact Or.inr rfl)) (pgs_cons (pg_name (i := 3) nd rfl (by first | exact Or.inl rfl | exact Or.inr rfl)) (pgs_cons (pg_name (i := 4) nd rfl (by first | exact Or.inl rfl | exact Or.inr rfl)) pgs_nil))))) (pdss_one (pds_ret (pd_var (pv 3)))))
def S_rows_of (CF : Addr) : DS := (seqD (exprD (fun ρ => ((fun ρ => ((b2 ixD (fun ρ => ((fun ρ => sl ρ 0) ρ).bind (attrD CF "books")) (fun _ => some (.int 0))) ρ).bind fun d => ((fun ρ => ((fun ρ => sl ρ 2) ρ).bind fun d => ((fun _ => some []) ρ).bind fun ds => some (d :: ds)) ρ).bind fun ds => some (d :: ds)) ρ).bind (g_table_at CF))) (seqD (exprD (fun ρ => ((fun ρ => ((fun ρ => ((fun ρ => ((fun ρ => sl ρ 0) ρ).bind fun d => some [d]) ρ).bind (lenID CF (g___len__ CF))) ρ).bind fun d => ((fun ρ => ((fun ρ => sl ρ 1) ρ).bind fun d => ((fun _ => some []) ρ).bind fun ds => some (d :: ds)) ρ).bind fun ds => some (d :: ds)) ρ).bind (g_check_number CF))) (seqD (unpD [3, 4, 5] (fun ρ => ((fun ρ => ((b2 ixD (fun ρ => ((fun ρ => sl ρ 0) ρ).bind (attrD CF "books")) (fun ρ => sl ρ 1)) ρ).bind fun d => ((fun ρ => ((fun ρ => sl ρ 2) ρ).bind fun d => ((fun _ => some []) ρ).bind fun ds => some (d :: ds)) ρ).bind fun ds => some (d :: ds)) ρ).bind (g_table_at CF))) (retD (fun ρ => sl ρ 5)))))
def g_rows_of (CF : Addr) : DC := runD 6 3 (S_rows_of CF)
theorem ok_rows_of (T : Txt K mg w CF) : FnOk P w K mg base CX0 3 T.d_rows_of.f T.d_rows_of.fd ["field", "book", "name"] (spD K (g_rows_of CF)) := fn_D T.d_rows_of.fn sc_rows_of fun cdv A outer s H E hr => by
  have nd := sc_rows_of.nd
  exact (pdss_cons (pds_expr (pd_call (ok_table_at T) (hr.mono (by decide)) (by rfl) T.d_table_at.gl T.d_table_at.fn.kp T.d_table_at.bd (pds_cons (pd_ix (pd_fld T.cls T.na_books (pd_var (pv 0))) pd_int) (pds_cons (pd_var (pv 2)) pds_nil)))) (pdss_cons (pds_expr (pd_call (ok_check_number T) (hr.mono (by decide)) (by rfl) T.d_check_number.gl T.d_check_number.fn.kp T.d_check_number.bd (pds_cons (pd_callB (cd_lenI (k := 1) T.m_len (ok___len__ T) (hr.mono (by decide)) T.len_bd) (by rfl) T.b_len PySem.boot_len (pds_cons (pd_var (pv 0)) pds_nil)) (pds_cons (pd_var (pv 1)) pds_nil)))) (pdss_cons (pds_unp [3, 4, 5] (pd_call (ok_table_at T) (hr.mono (by decide)) (by rfl) T.d_table_at.gl T.d_table_at.fn.kp T.d_table_at.bd (pds_cons (pd_ix (pd_fld T.cls T.na_books (pd_var (pv 0))) (pd_var (pv 1))) (pds_cons (pd_var (pv 2)) pds_nil))) (pg_tup rfl (pgs_cons (pg_name (i := 3) nd rfl (by first | exact Or.inl rfl | exact Or.inr rfl)) (pgs_cons (pg_name (i := 4) nd rfl (by first | exact Or.inl rfl | exact Or.inr rfl)) (pgs_cons (pg_name (i := 5) nd rfl (by first | exact Or.inl rfl | exact Or.inr rfl)) pgs_nil))))) (pdss_one (pds_ret (pd_var (pv 5)))))))
end
end DL

set_option Elab.async false
set_option linter.all false
set_option maxRecDepth 100000
set_option maxHeartbeats 4000000
namespace DL
open PySem PySem.Spec PyProof.Rows L2 Evl

section
variable {P : Program} {w : World} {K : PySem.W.Frag} {mg : Str → Option Value} {base : Heap} {CF : Addr}
def S_picked_rows (CF : Addr) : DS := (retD (fun ρ => ((fun ρ => ((lcD [2] (fun ρ => ((fun ρ => sl ρ 0) ρ).bind asSeq) (oneB 2) yesT (fun ρ => ((fun ρ => ((lcD [3] (fun ρ => ((fun ρ => sl ρ 1) ρ).bind asSeq) (oneB 3) yesT (b2 ixD (fun ρ => sl ρ 2) (fun ρ => sl ρ 3))) ρ).bind fun d => ((fun _ => some []) ρ).bind fun ds => some (d :: ds)) ρ).bind tupleD)) ρ).bind fun d => ((fun _ => some []) ρ).bind fun ds => some (d :: ds)) ρ).bind (g_risen CF)))
def g_picked_rows (CF : Addr) : DC := runD 4 2 (S_picked_rows CF)
theorem ok_picked_rows (T : Txt K mg w CF) : FnOk P w K mg base CX0 6 T.d_picked_rows.f T.d_picked_rows.fd ["rows", "picked"] (spD K (g_picked_rows CF)) := fn_D T.d_picked_rows.fn sc_picked_rows fun cdv A outer s H E hr => by
  have nd := sc_picked_rows.nd
  exact (pdss_one (pds_ret (pd_call (ok_risen T) (hr.mono (by decide)) (by rfl) T.d_risen.gl T.d_risen.fn.kp T.d_risen.bd (pds_cons (pd_lc (own := [("row", 2)]) rfl nd (pdi_seq (pd_var (pv 0))) (blkOk_by (N := ["rows", "picked", "row", "column"]) (sc := defScope s_picked_rows) (by decide +kernel)) (tg_one 2) (by decide) (fun _ _ _ _ _ => (pg_name (i := 2) nd rfl (by first | exact Or.inl rfl | exact Or.inr rfl))) (fun _ _ _ _ _ => pdts_nil) (fun _ _ _ _ _ => (pd_callTy cd_tuple (by rfl) T.b_tuple (by decide +kernel) (pds_cons (pd_lc (own := [("column", 3)]) rfl nd (pdi_seq (pd_var (pv 1))) (blkOk_by (N := ["rows", "picked", "row", "column"]) (sc := relS _ (defScope s_picked_rows)) (by decide +kernel)) (tg_one 3) (by decide) (fun _ _ _ _ _ => (pg_name (i := 3) nd rfl (by first | exact Or.inl rfl | exact Or.inr rfl))) (fun _ _ _ _ _ => pdts_nil) (fun _ _ _ _ _ => (pd_ix (pd_var (pv 2)) (pd_var (pv 3))))) pds_nil)))) pds_nil))))
def S_done_on_one (CF : Addr) : DS := (seqD (ifD (fun ρ => (b2 eqFD (b2 ixD (fun ρ => sl ρ 0) (fun _ => some (.int 0))) (fun _ => some (.str "take")) ρ).bind asB) (retD (fun ρ => ((fun ρ => ((fun ρ => sl ρ 1) ρ).bind fun d => ((fun ρ => ((b2 ixD (fun ρ => sl ρ 0) (fun _ => some (.int 1))) ρ).bind fun d => ((fun _ => some []) ρ).bind fun ds => some (d :: ds)) ρ).bind fun ds => some (d :: ds)) ρ).bind (g_picked_rows CF))) nxD) (seqD (unpD [2, 3, 4] (fun ρ => sl ρ 0)) (seqD (ifD (fun ρ => (b2 eqFD (fun ρ => sl ρ 2) (fun _ => some (.str "value")) ρ).bind asB) (retD (fun ρ => ((fun ρ => ((lcD [5] (fun ρ => ((fun ρ => sl ρ 1) ρ).bind asSeq) (oneB 5) (fun ρ => (b2 eqFD (b2 ixD (fun ρ => sl ρ 5) (fun ρ => sl ρ 3)) (fun ρ => sl ρ 4) ρ).bind asB) (fun ρ => sl ρ 5)) ρ).bind fun d => ((fun _ => some []) ρ).bind fun ds => some (d :: ds)) ρ).bind tupleD)) nxD) (seqD (ifD (fun ρ => (b2 eqFD (fun ρ => sl ρ 2) (fun _ => some (.str "same")) ρ).bind asB) (retD (fun ρ => ((fun ρ => ((lcD [5] (fun ρ => ((fun ρ => sl ρ 1) ρ).bind asSeq) (oneB 5) (fun ρ => (b2 eqFD (b2 ixD (fun ρ => sl ρ 5) (fun ρ => sl ρ 3)) (b2 ixD (fun ρ => sl ρ 5) (fun ρ => sl ρ 4)) ρ).bind asB) (fun ρ => sl ρ 5)) ρ).bind fun d => ((fun _ => some []) ρ).bind fun ds => some (d :: ds)) ρ).bind tupleD)) nxD) (retD (fun ρ => ((fun ρ => ((lcD [5] (fun ρ => ((fun ρ => sl ρ 1) ρ).bind asSeq) (oneB 5) (fun ρ => ((fun ρ => ((fun ρ => ((b2 ixD (fun ρ => sl ρ 5) (fun ρ => sl ρ 3)) ρ).bind fun d => ((fun ρ => ((b2 ixD (fun ρ => sl ρ 5) (fun ρ => sl ρ 4)) ρ).bind fun d => ((fun _ => some []) ρ).bind fun ds => some (d :: ds)) ρ).bind fun ds => some (d :: ds)) ρ).bind (g_value_less CF)) ρ).bind asB) (fun ρ => sl ρ 5)) ρ).bind fun d => ((fun _ => some []) ρ).bind fun ds => some (d :: ds)) ρ).bind tupleD))))))
def g_done_on_one (CF : Addr) : DC := runD 6 2 (S_done_on_one CF)
theorem ok_done_on_one (T : Txt K mg w CF) : FnOk P w K mg base CX0 7 T.d_done_on_one.f T.d_done_on_one.fd ["deed", "rows"] (spD K (g_done_on_one CF)) := fn_D T.d_done_on_one.fn sc_done_on_one fun cdv A outer s H E hr => by
  have nd := sc_done_on_one.nd
  exact (pdss_cons (pds_if (pdt_cmp od_eqF (pd_ix (pd_var (pv 0)) pd_int) pd_str (nomark _)) (pdss_one (pds_ret (pd_call (ok_picked_rows T) (hr.mono (by decide)) (by rfl) T.d_picked_rows.gl T.d_picked_rows.fn.kp T.d_picked_rows.bd (pds_cons (pd_var (pv 1)) (pds_cons (pd_ix (pd_var (pv 0)) pd_int) pds_nil))))) pdss_nil) (pdss_cons (pds_unp [2, 3, 4] (pd_var (pv 0)) (pg_tup rfl (pgs_cons (pg_name (i := 2) nd rfl (by first | exact Or.inl rfl | exact Or.inr rfl)) (pgs_cons (pg_name (i := 3) nd rfl (by first | exact Or.inl rfl | exact Or.inr rfl)) (pgs_cons (pg_name (i := 4) nd rfl (by first | exact Or.inl rfl | exact Or.inr rfl)) pgs_nil))))) (pdss_cons (pds_if (pdt_cmp od_eqF (pd_var (pv 2)) pd_str (nomark _)) (pdss_one (pds_ret (pd_callTy cd_tuple (by rfl) T.b_tuple (by decide +kernel) (pds_cons (pd_lc (own := [("row", 5)]) rfl nd (pdi_seq (pd_var (pv 1))) (blkOk_by (N := ["deed", "rows", "word", "i", "given", "row"]) (sc := defScope s_done_on_one) (by decide +kernel)) (tg_one 5) (by decide) (fun _ _ _ _ _ => (pg_name (i := 5) nd rfl (by first | exact Or.inl rfl | exact Or.inr rfl))) (fun _ _ _ _ _ => (pdts_one (pdt_cmp od_eqF (pd_ix (pd_var (pv 5)) (pd_var (pv 3))) (pd_var (pv 4)) (nomark _)))) (fun _ _ _ _ _ => (pd_var (pv 5)))) pds_nil)))) pdss_nil) (pdss_cons (pds_if (pdt_cmp od_eqF (pd_var (pv 2)) pd_str (nomark _)) (pdss_one (pds_ret (pd_callTy cd_tuple (by rfl) T.b_tuple (by decide +kernel) (pds_cons (pd_lc (own := [("row", 5)]) rfl nd (pdi_seq (pd_var (pv 1))) (blkOk_by (N := ["deed", "rows", "word", "i", "given", "row"]) (sc := defScope s_done_on_one) (by decide +kernel)) (tg_one 5) (by decide) (fun _ _ _ _ _ => (pg_name (i := 5) nd rfl (by first | exact Or.inl rfl | exact Or.inr rfl))) (fun _ _ _ _ _ => (pdts_one (pdt_cmp od_eqF (pd_ix (pd_var (pv 5)) (pd_var (pv 3))) (pd_ix (pd_var (pv 5)) (pd_var (pv 4))) (nomark _)))) (fun _ _ _ _ _ => (pd_var (pv 5)))) pds_nil)))) pdss_nil) (pdss_one (pds_ret (pd_callTy cd_tuple (by rfl) T.b_tuple (by decide +kernel) (pds_cons (pd_lc (own := [("row", 5)]) rfl nd (pdi_seq (pd_var (pv 1))) (blkOk_by (N := ["deed", "rows", "word", "i", "given", "row"]) (sc := defScope s_done_on_one) (by decide +kernel)) (tg_one 5) (by decide) (fun _ _ _ _ _ => (pg_name (i := 5) nd rfl (by first | exact Or.inl rfl | exact Or.inr rfl))) (fun _ _ _ _ _ => (pdts_one (pdt_val (pd_call (ok_value_less T) (hr.mono (by decide)) (by rfl) T.d_value_less.gl T.d_value_less.fn.kp T.d_value_less.bd (pds_cons (pd_ix (pd_var (pv 5)) (pd_var (pv 3))) (pds_cons (pd_ix (pd_var (pv 5)) (pd_var (pv 4))) pds_nil)))))) (fun _ _ _ _ _ => (pd_var (pv 5)))) pds_nil))))))))
def S_done_on (CF : Addr) : DS := (seqD (ifD (fun ρ => (b2 (inD false) (b2 ixD (fun ρ => sl ρ 0) (fun _ => some (.int 0))) (fun ρ => ((fun ρ => ((fun _ => some (.str "below")) ρ).bind fun d => ((fun ρ => ((fun _ => some (.str "same")) ρ).bind fun d => ((fun ρ => ((fun _ => some (.str "take")) ρ).bind fun d => ((fun ρ => ((fun _ => some (.str "value")) ρ).bind fun d => ((fun _ => some []) ρ).bind fun ds => some (d :: ds)) ρ).bind fun ds => some (d :: ds)) ρ).bind fun ds => some (d :: ds)) ρ).bind fun ds => some (d :: ds)) ρ).bind tupD) ρ).bind asB) (retD (fun ρ => ((fun ρ => ((fun ρ => sl ρ 0) ρ).bind fun d => ((fun ρ => ((fun ρ => sl ρ 1) ρ).bind fun d => ((fun _ => some []) ρ).bind fun ds => some (d :: ds)) ρ).bind fun ds => some (d :: ds)) ρ).bind (g_done_on_one CF))) nxD) (fun _ => none))
def g_done_on (CF : Addr) : DC := runD 7 3 (S_done_on CF)
theorem ok_done_on (T : Txt K mg w CF) : FnOk P w K mg base CX0 8 T.d_done_on.f T.d_done_on.fd ["deed", "one", "other"] (spD K (g_done_on CF)) := fn_DD T.d_done_on.fn sc_done_on fun cdv A outer s H E hr => by
  have nd := sc_done_on.nd
  exact (pdss_cons (pds_if (pdt_cmp od_in (pd_ix (pd_var (pv 0)) pd_int) (pd_tup (pds_cons pd_str (pds_cons pd_str (pds_cons pd_str (pds_cons pd_str pds_nil))))) (by rfl)) (pdss_one (pds_ret (pd_call (ok_done_on_one T) (hr.mono (by decide)) (by rfl) T.d_done_on_one.gl T.d_done_on_one.fn.kp T.d_done_on_one.bd (pds_cons (pd_var (pv 0)) (pds_cons (pd_var (pv 1)) pds_nil))))) pdss_nil) pdss_never)
def S_is_column (CF : Addr) : DS := (retD (andV (fun ρ => ((fun ρ => ((fun ρ => sl ρ 0) ρ).bind fun d => ((fun _ => some []) ρ).bind fun ds => some (d :: ds)) ρ).bind (g_is_whole CF)) (chD (cmpI fun i j => decide (i ≤ j)) (cmpI fun i j => decide (i < j)) (fun _ => some (.int 0)) (fun ρ => sl ρ 0) (fun ρ => sl ρ 1))))
def g_is_column (CF : Addr) : DC := runD 2 2 (S_is_column CF)
theorem ok_is_column (T : Txt K mg w CF) : FnOk P w K mg base CX0 2 T.d_is_column.f T.d_is_column.fd ["thing", "columns"] (spD K (g_is_column CF)) := fn_D T.d_is_column.fn sc_is_column fun cdv A outer s H E hr => by
  have nd := sc_is_column.nd
  exact (pdss_one (pds_ret (pd_and (pd_call (ok_is_whole T) (hr.mono (by decide)) (by rfl) T.d_is_whole.gl T.d_is_whole.fn.kp T.d_is_whole.bd (pds_cons (pd_var (pv 0)) pds_nil)) (pd_one (pd_chain od_leI od_ltI pd_int (pd_var (pv 0)) (pd_var (pv 1)))))))
def S_are_picked (CF : Addr) : DS := (seqD (ifD (orT (notT (fun ρ => ((fun ρ => ((fun ρ => sl ρ 0) ρ).bind (isiD "tuple")) ρ).bind asB)) (orT (fun ρ => (b2 eqD (fun ρ => sl ρ 0) (fun ρ => ((fun _ => some []) ρ).bind tupD) ρ).bind asB) (notT (fun ρ => ((fun ρ => ((fun ρ => ((lcD [2] (fun ρ => ((fun ρ => sl ρ 0) ρ).bind asSeq) (oneB 2) yesT (fun ρ => ((fun ρ => ((fun ρ => sl ρ 2) ρ).bind fun d => ((fun ρ => ((fun ρ => sl ρ 1) ρ).bind fun d => ((fun _ => some []) ρ).bind fun ds => some (d :: ds)) ρ).bind fun ds => some (d :: ds)) ρ).bind (g_is_column CF))) ρ).bind fun d => ((fun _ => some []) ρ).bind fun ds => some (d :: ds)) ρ).bind allD) ρ).bind asB)))) (retD (fun _ => some (.bool false))) nxD) (retD (b2 eqFD (fun ρ => ((fun ρ => sl ρ 0) ρ).bind lenSetD) (fun ρ => ((fun ρ => ((fun ρ => sl ρ 0) ρ).bind fun d => ((fun _ => some []) ρ).bind fun ds => some (d :: ds)) ρ).bind lenD))))
def g_are_picked (CF : Addr) : DC := runD 3 2 (S_are_picked CF)
theorem ok_are_picked (T : Txt K mg w CF) : FnOk P w K mg base CX0 3 T.d_are_picked.f T.d_are_picked.fd ["thing", "columns"] (spD K (g_are_picked CF)) := fn_D T.d_are_picked.fn sc_are_picked fun cdv A outer s H E hr => by
  have nd := sc_are_picked.nd
  exact (pdss_cons (pds_if (pdt_of (pdw_or (pdt_not (pdt_val (pd_isi rfl T.b_isinstance (by decide +kernel) rfl T.b_tuple (by decide +kernel) (pd_var (pv 0))))) (pdw_or (pdt_cmp (od_eq hr.units) (pd_var (pv 0)) (pd_tup pds_nil) (nomark _)) (pdw_or1 (pdt_not (pdt_val (pd_callB (cd_all rfl) (by rfl) T.b_all (by decide +kernel) (pds_cons (pd_lc (own := [("column", 2)]) rfl nd (pdi_seq (pd_var (pv 0))) (blkOk_by (N := ["thing", "columns", "column"]) (sc := defScope s_are_picked) (by decide +kernel)) (tg_one 2) (by decide) (fun _ _ _ _ _ => (pg_name (i := 2) nd rfl (by first | exact Or.inl rfl | exact Or.inr rfl))) (fun _ _ _ _ _ => pdts_nil) (fun _ _ _ _ _ => (pd_call (ok_is_column T) (hr.mono (by decide)) (by rfl) T.d_is_column.gl T.d_is_column.fn.kp T.d_is_column.bd (pds_cons (pd_var (pv 2)) (pds_cons (pd_var (pv 1)) pds_nil))))) pds_nil)))))))) (pdss_one (pds_ret pd_bl)) pdss_nil) (pdss_one (pds_ret (pd_cmp od_eqF (pd_lenset rfl (by rfl) T.b_len (by rfl) T.b_set (pd_var (pv 0))) (pd_callB cd_len (by rfl) T.b_len (by decide +kernel) (pds_cons (pd_var (pv 0)) pds_nil)) (nomark _)))))
def S_is_named (CF : Addr) : DS := (retD (andV (orV (fun ρ => ((fun ρ => ((fun ρ => sl ρ 1) ρ).bind fun d => ((fun _ => some []) ρ).bind fun ds => some (d :: ds)) ρ).bind (g_is_whole CF)) (fun ρ => ((fun ρ => sl ρ 1) ρ).bind (isiD "str"))) (b2 (inD false) (fun ρ => sl ρ 1) (fun ρ => ((fun ρ => sl ρ 0) ρ).bind (attrD CF "named")))))
def g_is_named (CF : Addr) : DC := runD 2 2 (S_is_named CF)
theorem ok_is_named (T : Txt K mg w CF) : FnOk P w K mg base CX0 2 T.d_is_named.f T.d_is_named.fd ["field", "thing"] (spD K (g_is_named CF)) := fn_D T.d_is_named.fn sc_is_named fun cdv A outer s H E hr => by
  have nd := sc_is_named.nd
  exact (pdss_one (pds_ret (pd_and (pd_or (pd_call (ok_is_whole T) (hr.mono (by decide)) (by rfl) T.d_is_whole.gl T.d_is_whole.fn.kp T.d_is_whole.bd (pds_cons (pd_var (pv 1)) pds_nil)) (pd_one (pd_isi rfl T.b_isinstance (by decide +kernel) rfl T.b_str (by decide +kernel) (pd_var (pv 1))))) (pd_one (pd_cmp od_in (pd_var (pv 1)) (pd_fld T.cls T.na_named (pd_var (pv 0))) (by rfl))))))
def S_columns_by_one (CF : Addr) : DS := (seqD (starD 3 5 (fun ρ => sl ρ 1)) (seqD (ifD (fun ρ => (b2 eqFD (fun ρ => sl ρ 3) (fun _ => some (.str "take")) ρ).bind asB) (seqD (ifD (fun ρ => ((fun ρ => ((fun ρ => ((b2 ixD (fun ρ => sl ρ 5) (fun _ => some (.int 0))) ρ).bind fun d => ((fun ρ => ((fun ρ => sl ρ 2) ρ).bind fun d => ((fun _ => some []) ρ).bind fun ds => some (d :: ds)) ρ).bind fun ds => some (d :: ds)) ρ).bind (g_are_picked CF)) ρ).bind asB) (retD (fun ρ => ((fun ρ => ((b2 ixD (fun ρ => sl ρ 5) (fun _ => some (.int 0))) ρ).bind fun d => ((fun _ => some []) ρ).bind fun ds => some (d :: ds)) ρ).bind lenD)) nxD) (retD (fun _ => some .none))) nxD) (seqD (ifD (notT (fun ρ => ((fun ρ => ((fun ρ => ((b2 ixD (fun ρ => sl ρ 5) (fun _ => some (.int 0))) ρ).bind fun d => ((fun ρ => ((fun ρ => sl ρ 2) ρ).bind fun d => ((fun _ => some []) ρ).bind fun ds => some (d :: ds)) ρ).bind fun ds => some (d :: ds)) ρ).bind (g_is_column CF)) ρ).bind asB)) (retD (fun _ => some .none)) nxD) (seqD (ifD (fun ρ => (b2 eqFD (fun ρ => sl ρ 3) (fun _ => some (.str "value")) ρ).bind asB) (setD 4 (fun ρ => ((fun ρ => ((fun ρ => sl ρ 0) ρ).bind fun d => ((fun ρ => ((b2 ixD (fun ρ => sl ρ 5) (fun _ => some (.int 1))) ρ).bind fun d => ((fun _ => some []) ρ).bind fun ds => some (d :: ds)) ρ).bind fun ds => some (d :: ds)) ρ).bind (g_is_named CF))) (ifD (fun ρ => (b2 eqFD (fun ρ => sl ρ 3) (fun _ => some (.str "same")) ρ).bind asB) (setD 4 (andV (fun ρ => ((fun ρ => ((b2 ixD (fun ρ => sl ρ 5) (fun _ => some (.int 1))) ρ).bind fun d => ((fun ρ => ((fun ρ => sl ρ 2) ρ).bind fun d => ((fun _ => some []) ρ).bind fun ds => some (d :: ds)) ρ).bind fun ds => some (d :: ds)) ρ).bind (g_is_column CF)) (b2 (cmpI fun i j => decide (i < j)) (b2 ixD (fun ρ => sl ρ 5) (fun _ => some (.int 0))) (b2 ixD (fun ρ => sl ρ 5) (fun _ => some (.int 1)))))) (setD 4 (andV (fun ρ => ((fun ρ => ((b2 ixD (fun ρ => sl ρ 5) (fun _ => some (.int 1))) ρ).bind fun d => ((fun ρ => ((fun ρ => sl ρ 2) ρ).bind fun d => ((fun _ => some []) ρ).bind fun ds => some (d :: ds)) ρ).bind fun ds => some (d :: ds)) ρ).bind (g_is_column CF)) (b2 neFD (b2 ixD (fun ρ => sl ρ 5) (fun _ => some (.int 0))) (b2 ixD (fun ρ => sl ρ 5) (fun _ => some (.int 1)))))))) (seqD (ifD (fun ρ => ((fun ρ => sl ρ 4) ρ).bind asB) (retD (fun ρ => sl ρ 2)) nxD) (retD (fun _ => some .none)))))))
def g_columns_by_one (CF : Addr) : DC := runD 6 3 (S_columns_by_one CF)
theorem ok_columns_by_one (T : Txt K mg w CF) : FnOk P w K mg base CX0 4 T.d_columns_by_one.f T.d_columns_by_one.fd ["field", "deed", "columns"] (spD K (g_columns_by_one CF)) := fn_D T.d_columns_by_one.fn sc_columns_by_one fun cdv A outer s H E hr => by
  have nd := sc_columns_by_one.nd
  exact (pdss_cons (pds_star (i := 3) (j := 5) (pd_var (pv 1)) (pg_star rfl (pg_name (i := 3) nd rfl (by first | exact Or.inl rfl | exact Or.inr rfl)) (pg_name (i := 5) nd rfl (by first | exact Or.inl rfl | exact Or.inr rfl)))) (pdss_cons (pds_if (pdt_cmp od_eqF (pd_var (pv 3)) pd_str (nomark _)) (pdss_cons (pds_if (pdt_val (pd_call (ok_are_picked T) (hr.mono (by decide)) (by rfl) T.d_are_picked.gl T.d_are_picked.fn.kp T.d_are_picked.bd (pds_cons (pd_ix (pd_var (pv 5)) pd_int) (pds_cons (pd_var (pv 2)) pds_nil)))) (pdss_one (pds_ret (pd_callB cd_len (by rfl) T.b_len (by decide +kernel) (pds_cons (pd_ix (pd_var (pv 5)) pd_int) pds_nil)))) pdss_nil) (pdss_one (pds_ret pd_non))) pdss_nil) (pdss_cons (pds_if (pdt_not (pdt_val (pd_call (ok_is_column T) (hr.mono (by decide)) (by rfl) T.d_is_column.gl T.d_is_column.fn.kp T.d_is_column.bd (pds_cons (pd_ix (pd_var (pv 5)) pd_int) (pds_cons (pd_var (pv 2)) pds_nil))))) (pdss_one (pds_ret pd_non)) pdss_nil) (pdss_cons (pds_if (pdt_cmp od_eqF (pd_var (pv 3)) pd_str (nomark _)) (pdss_one (pds_set (ps_set (i := 4) nd rfl (by first | exact Or.inl rfl | exact Or.inr rfl) (pd_call (ok_is_named T) (hr.mono (by decide)) (by rfl) T.d_is_named.gl T.d_is_named.fn.kp T.d_is_named.bd (pds_cons (pd_var (pv 0)) (pds_cons (pd_ix (pd_var (pv 5)) pd_int) pds_nil)))) (fun _ _ _ h => h))) (pdss_one (pds_if (pdt_cmp od_eqF (pd_var (pv 3)) pd_str (nomark _)) (pdss_one (pds_set (ps_set (i := 4) nd rfl (by first | exact Or.inl rfl | exact Or.inr rfl) (pd_and (pd_call (ok_is_column T) (hr.mono (by decide)) (by rfl) T.d_is_column.gl T.d_is_column.fn.kp T.d_is_column.bd (pds_cons (pd_ix (pd_var (pv 5)) pd_int) (pds_cons (pd_var (pv 2)) pds_nil))) (pd_one (pd_cmp od_ltI (pd_ix (pd_var (pv 5)) pd_int) (pd_ix (pd_var (pv 5)) pd_int) (nomark _))))) (fun _ _ _ h => h))) (pdss_one (pds_set (ps_set (i := 4) nd rfl (by first | exact Or.inl rfl | exact Or.inr rfl) (pd_and (pd_call (ok_is_column T) (hr.mono (by decide)) (by rfl) T.d_is_column.gl T.d_is_column.fn.kp T.d_is_column.bd (pds_cons (pd_ix (pd_var (pv 5)) pd_int) (pds_cons (pd_var (pv 2)) pds_nil))) (pd_one (pd_cmp od_neF (pd_ix (pd_var (pv 5)) pd_int) (pd_ix (pd_var (pv 5)) pd_int) (nomark _))))) (fun _ _ _ h => h)))))) (pdss_cons (pds_if (pdt_val (pd_var (pv 4))) (pdss_one (pds_ret (pd_var (pv 2)))) pdss_nil) (pdss_one (pds_ret pd_non)))))))
end
end DL

set_option Elab.async false
set_option linter.all false
set_option maxRecDepth 100000
set_option maxHeartbeats 4000000
namespace DL
open PySem PySem.Spec PyProof.Rows L2 Evl

section
variable {P : Program} {w : World} {K : PySem.W.Frag} {mg : Str → Option Value} {base : Heap} {CF : Addr}
def S_looked (CF : Addr) : DS := (seqD (ifD (fun ρ => (b2 (cmpI fun i j => decide (i < j)) (fun ρ => sl ρ 2) (fun _ => some (.int 1)) ρ).bind asB) (retD (fun _ => some .none)) nxD) (seqD (ifD (fun ρ => ((fun ρ => ((fun ρ => sl ρ 1) ρ).bind (isiD "str")) ρ).bind asB) (seqD (ifD (fun ρ => (b2 (inD false) (fun ρ => sl ρ 1) (fun ρ => ((fun ρ => ((fun ρ => sl ρ 0) ρ).bind fun d => ((fun _ => some []) ρ).bind fun ds => some (d :: ds)) ρ).bind (g_names_of CF)) ρ).bind asB) (retD (fun ρ => ((fun ρ => ((fun ρ => ((fun ρ => ((fun ρ => sl ρ 0) ρ).bind fun d => ((fun ρ => ((fun ρ => sl ρ 1) ρ).bind fun d => ((fun _ => some []) ρ).bind fun ds => some (d :: ds)) ρ).bind fun ds => some (d :: ds)) ρ).bind (g_table_columns CF)) ρ).bind fun d => ((fun ρ => ((fun _ => some (.int 1)) ρ).bind fun d => ((fun _ => some []) ρ).bind fun ds => some (d :: ds)) ρ).bind fun ds => some (d :: ds)) ρ).bind tupD)) nxD) (retD (fun _ => some .none))) nxD) (fun _ => none)))
def g_looked (CF : Addr) : DC := runD 3 3 (S_looked CF)
theorem ok_looked (T : Txt K mg w CF) : FnOk P w K mg base CX0 3 T.d_looked.f T.d_looked.fd ["field", "thing", "left"] (spD K (g_looked CF)) := fn_D T.d_looked.fn sc_looked fun cdv A outer s H E hr => by
  have nd := sc_looked.nd
  exact (pdss_cons (pds_if (pdt_cmp od_ltI (pd_var (pv 2)) pd_int (nomark _)) (pdss_one (pds_ret pd_non)) pdss_nil) (pdss_cons (pds_if (pdt_val (pd_isi rfl T.b_isinstance (by decide +kernel) rfl T.b_str (by decide +kernel) (pd_var (pv 1)))) (pdss_cons (pds_if (pdt_cmp od_in (pd_var (pv 1)) (pd_call (ok_names_of T) (hr.mono (by decide)) (by rfl) T.d_names_of.gl T.d_names_of.fn.kp T.d_names_of.bd (pds_cons (pd_var (pv 0)) pds_nil)) (by rfl)) (pdss_one (pds_ret (pd_tup (pds_cons (pd_call (ok_table_columns T) (hr.mono (by decide)) (by rfl) T.d_table_columns.gl T.d_table_columns.fn.kp T.d_table_columns.bd (pds_cons (pd_var (pv 0)) (pds_cons (pd_var (pv 1)) pds_nil))) (pds_cons pd_int pds_nil))))) pdss_nil) (pdss_one (pds_ret pd_non))) pdss_nil) pdss_never))
def S_is_question (CF : Addr) : DS := (retD (b2 notN (fun ρ => ((fun ρ => ((fun ρ => sl ρ 0) ρ).bind fun d => ((fun ρ => ((fun ρ => sl ρ 1) ρ).bind fun d => ((fun ρ => ((fun _ => some (.int 40)) ρ).bind fun d => ((fun _ => some []) ρ).bind fun ds => some (d :: ds)) ρ).bind fun ds => some (d :: ds)) ρ).bind fun ds => some (d :: ds)) ρ).bind (g_looked CF)) (fun _ => some .none)))
def g_is_question (CF : Addr) : DC := runD 2 2 (S_is_question CF)
theorem ok_is_question (T : Txt K mg w CF) : FnOk P w K mg base CX0 4 T.d_is_question.f T.d_is_question.fd ["field", "thing"] (spD K (g_is_question CF)) := fn_D T.d_is_question.fn sc_is_question fun cdv A outer s H E hr => by
  have nd := sc_is_question.nd
  exact (pdss_one (pds_ret (pd_cmp od_notN (pd_call (ok_looked T) (hr.mono (by decide)) (by rfl) T.d_looked.gl T.d_looked.fn.kp T.d_looked.bd (pds_cons (pd_var (pv 0)) (pds_cons (pd_var (pv 1)) (pds_cons (pd_const (pe_glob (v := .int 40) rfl T.c_SIZE ⟨_, rfl⟩) (fun _ => .int 40)) pds_nil)))) pd_non (nomark _))))
def S_check_question (CF : Addr) : DS := (ifD (notT (fun ρ => ((fun ρ => ((fun ρ => ((fun ρ => sl ρ 0) ρ).bind fun d => ((fun ρ => ((fun ρ => sl ρ 1) ρ).bind fun d => ((fun _ => some []) ρ).bind fun ds => some (d :: ds)) ρ).bind fun ds => some (d :: ds)) ρ).bind (g_is_question CF)) ρ).bind asB)) (fun _ => none) nxD)
def g_check_question (CF : Addr) : DC := runD 2 2 (S_check_question CF)
theorem ok_check_question (T : Txt K mg w CF) : FnOk P w K mg base CX0 5 T.d_check_question.f T.d_check_question.fd ["field", "thing"] (spD K (g_check_question CF)) := fn_D T.d_check_question.fn sc_check_question fun cdv A outer s H E hr => by
  have nd := sc_check_question.nd
  exact (pdss_one (pds_if (pdt_not (pdt_val (pd_call (ok_is_question T) (hr.mono (by decide)) (by rfl) T.d_is_question.gl T.d_is_question.fn.kp T.d_is_question.bd (pds_cons (pd_var (pv 0)) (pds_cons (pd_var (pv 1)) pds_nil))))) (pdss_one pds_never) pdss_nil))
def S_columns_of (CF : Addr) : DS := (seqD (exprD (fun ρ => ((fun ρ => ((fun ρ => sl ρ 0) ρ).bind fun d => ((fun ρ => ((fun ρ => sl ρ 1) ρ).bind fun d => ((fun _ => some []) ρ).bind fun ds => some (d :: ds)) ρ).bind fun ds => some (d :: ds)) ρ).bind (g_check_question CF))) (retD (b2 ixD (fun ρ => ((fun ρ => ((fun ρ => sl ρ 0) ρ).bind fun d => ((fun ρ => ((fun ρ => sl ρ 1) ρ).bind fun d => ((fun ρ => ((fun _ => some (.int 40)) ρ).bind fun d => ((fun _ => some []) ρ).bind fun ds => some (d :: ds)) ρ).bind fun ds => some (d :: ds)) ρ).bind fun ds => some (d :: ds)) ρ).bind (g_looked CF)) (fun _ => some (.int 0)))))
def g_columns_of (CF : Addr) : DC := runD 2 2 (S_columns_of CF)
theorem ok_columns_of (T : Txt K mg w CF) : FnOk P w K mg base CX0 6 T.d_columns_of.f T.d_columns_of.fd ["field", "question"] (spD K (g_columns_of CF)) := fn_D T.d_columns_of.fn sc_columns_of fun cdv A outer s H E hr => by
  have nd := sc_columns_of.nd
  exact (pdss_cons (pds_expr (pd_call (ok_check_question T) (hr.mono (by decide)) (by rfl) T.d_check_question.gl T.d_check_question.fn.kp T.d_check_question.bd (pds_cons (pd_var (pv 0)) (pds_cons (pd_var (pv 1)) pds_nil)))) (pdss_one (pds_ret (pd_ix (pd_call (ok_looked T) (hr.mono (by decide)) (by rfl) T.d_looked.gl T.d_looked.fn.kp T.d_looked.bd (pds_cons (pd_var (pv 0)) (pds_cons (pd_var (pv 1)) (pds_cons (pd_const (pe_glob (v := .int 40) rfl T.c_SIZE ⟨_, rfl⟩) (fun _ => .int 40)) pds_nil)))) pd_int))))
def S_parts_of (CF : Addr) : DS := (seqD (ifD (fun ρ => ((fun ρ => ((fun ρ => sl ρ 0) ρ).bind (isiD "str")) ρ).bind asB) (retD (fun ρ => ((fun _ => some []) ρ).bind tupD)) nxD) (seqD (ifD (fun ρ => (inKD keys_ONE (b2 ixD (fun ρ => sl ρ 0) (fun _ => some (.int 0))) ρ).bind asB) (retD (slT (fun ρ => sl ρ 0) (fun ρ => (((fun _ => some (.int (-1))) ρ).bind asI).map some) (fun _ => some none))) nxD) (retD (slT (fun ρ => sl ρ 0) (fun ρ => (((fun _ => some (.int (-2))) ρ).bind asI).map some) (fun _ => some none)))))
def g_parts_of (CF : Addr) : DC := runD 1 1 (S_parts_of CF)
theorem ok_parts_of (T : Txt K mg w CF) : FnOk P w K mg base CX0 1 T.d_parts_of.f T.d_parts_of.fd ["question"] (spD K (g_parts_of CF)) := fn_D T.d_parts_of.fn sc_parts_of fun cdv A outer s H E hr => by
  have nd := sc_parts_of.nd
  exact (pdss_cons (pds_if (pdt_val (pd_isi rfl T.b_isinstance (by decide +kernel) rfl T.b_str (by decide +kernel) (pd_var (pv 0)))) (pdss_one (pds_ret (pd_tup pds_nil))) pdss_nil) (pdss_cons (pds_if (pd_inK T.k_ONE T.kl_ONE rfl T.c_ONE (pd_ix (pd_var (pv 0)) pd_int)) (pdss_one (pds_ret (pd_slT (pd_var (pv 0)) (pdo_some pd_neg) pdo_none))) pdss_nil) (pdss_one (pds_ret (pd_slT (pd_var (pv 0)) (pdo_some pd_neg) pdo_none)))))
def S_size_of (CF : Addr) (gr : DC) : DS := (retD (b2 addD (fun _ => some (.int 1)) (fun ρ => ((fun ρ => ((lcD [1] (fun ρ => ((fun ρ => ((fun ρ => ((fun ρ => sl ρ 0) ρ).bind fun d => ((fun _ => some []) ρ).bind fun ds => some (d :: ds)) ρ).bind (g_parts_of CF)) ρ).bind asSeq) (oneB 1) yesT (fun ρ => ((fun ρ => ((fun ρ => sl ρ 1) ρ).bind fun d => ((fun _ => some []) ρ).bind fun ds => some (d :: ds)) ρ).bind gr)) ρ).bind fun d => ((fun _ => some []) ρ).bind fun ds => some (d :: ds)) ρ).bind sumD)))
def g_size_ofR (CF : Addr) : Nat → DC
  | 0 => fun _ => none
  | k + 1 => runD 2 1 (S_size_of CF (g_size_ofR CF k))
theorem ok_size_ofR (T : Txt K mg w CF) : ∀ k : Nat, FnOk P w K mg base CX0 (k + 2) T.d_size_of.f T.d_size_of.fd ["question"] (spD K (g_size_ofR CF k))
  | 0 => fn_none
  | k + 1 => fn_D T.d_size_of.fn sc_size_of fun cdv A outer s H E hr => by
    have nd := sc_size_of.nd
    have IH := ok_size_ofR T k
    exact (pdss_one (pds_ret (pd_op od_add pd_int (pd_callB (cd_sum rfl) (by rfl) T.b_sum (by decide +kernel) (pds_cons (pd_lc (own := [("part", 1)]) rfl nd (pdi_seq (pd_call (ok_parts_of T) (hr.mono (by omega)) (by rfl) T.d_parts_of.gl T.d_parts_of.fn.kp T.d_parts_of.bd (pds_cons (pd_var (pv 0)) pds_nil))) (blkOk_by (N := ["question", "part"]) (sc := defScope s_size_of) (by decide +kernel)) (tg_one 1) (by decide) (fun _ _ _ _ _ => (pg_name (i := 1) nd rfl (by first | exact Or.inl rfl | exact Or.inr rfl))) (fun _ _ _ _ _ => pdts_nil) (fun _ _ _ _ _ => (pd_call IH hr (by rfl) T.d_size_of.gl T.d_size_of.fn.kp T.d_size_of.bd (pds_cons (pd_var (pv 1)) pds_nil)))) pds_nil)))))
abbrev g_size_of (CF : Addr) : DC := g_size_ofR CF 2
theorem ok_size_of (T : Txt K mg w CF) : FnOk P w K mg base CX0 4 T.d_size_of.f T.d_size_of.fd ["question"] (spD K (g_size_of CF)) := ok_size_ofR T 2
def S_given_text (CF : Addr) : DS := (seqD (ifD (fun ρ => ((fun ρ => ((fun ρ => sl ρ 0) ρ).bind (isiD "tuple")) ρ).bind asB) (retD (b2 addD (b2 addD (fun _ => some (.str "(")) (b2 joinD (fun _ => some (.str " ")) (lcD [1] (fun ρ => ((fun ρ => sl ρ 0) ρ).bind asSeq) (oneB 1) yesT (fun ρ => ((fun ρ => ((fun ρ => sl ρ 1) ρ).bind fun d => ((fun _ => some []) ρ).bind fun ds => some (d :: ds)) ρ).bind strD)))) (fun _ => some (.str ")")))) nxD) (retD (fun ρ => ((fun ρ => ((fun ρ => sl ρ 0) ρ).bind fun d => ((fun _ => some []) ρ).bind fun ds => some (d :: ds)) ρ).bind strD)))
def g_given_text (CF : Addr) : DC := runD 2 1 (S_given_text CF)
theorem ok_given_text (T : Txt K mg w CF) : FnOk P w K mg base CX0 1 T.d_given_text.f T.d_given_text.fd ["thing"] (spD K (g_given_text CF)) := fn_D T.d_given_text.fn sc_given_text fun cdv A outer s H E hr => by
  have nd := sc_given_text.nd
  exact (pdss_cons (pds_if (pdt_val (pd_isi rfl T.b_isinstance (by decide +kernel) rfl T.b_tuple (by decide +kernel) (pd_var (pv 0)))) (pdss_one (pds_ret (pd_op od_add (pd_op od_add pd_str (pd_join pd_str (pd_lc (own := [("column", 1)]) rfl nd (pdi_seq (pd_var (pv 0))) (blkOk_by (N := ["thing", "column"]) (sc := defScope s_given_text) (by decide +kernel)) (tg_one 1) (by decide) (fun _ _ _ _ _ => (pg_name (i := 1) nd rfl (by first | exact Or.inl rfl | exact Or.inr rfl))) (fun _ _ _ _ _ => pdts_nil) (fun _ _ _ _ _ => (pd_callTy cd_str (by rfl) T.b_str (by decide +kernel) (pds_cons (pd_var (pv 1)) pds_nil)))))) pd_str))) pdss_nil) (pdss_one (pds_ret (pd_callTy cd_str (by rfl) T.b_str (by decide +kernel) (pds_cons (pd_var (pv 0)) pds_nil)))))
def S_text_of (CF : Addr) (gr : DC) : DS := (seqD (ifD (fun ρ => ((fun ρ => ((fun ρ => sl ρ 0) ρ).bind (isiD "str")) ρ).bind asB) (retD (fun ρ => sl ρ 0)) nxD) (seqD (setD 1 (fun ρ => ((fun ρ => ((fun ρ => sl ρ 0) ρ).bind fun d => ((fun _ => some []) ρ).bind fun ds => some (d :: ds)) ρ).bind (g_parts_of CF))) (seqD (starD 3 4 (slT (fun ρ => sl ρ 0) (fun _ => some none) (fun ρ => (((b2 subD (fun ρ => ((fun ρ => ((fun ρ => sl ρ 0) ρ).bind fun d => ((fun _ => some []) ρ).bind fun ds => some (d :: ds)) ρ).bind lenD) (fun ρ => ((fun ρ => ((fun ρ => sl ρ 1) ρ).bind fun d => ((fun _ => some []) ρ).bind fun ds => some (d :: ds)) ρ).bind lenD)) ρ).bind asI).map some))) (seqD (setD 2 (b2 addLD (b2 addLD (fun ρ => ((fun ρ => ((fun ρ => sl ρ 3) ρ).bind fun d => ((fun _ => some []) ρ).bind fun ds => some (d :: ds)) ρ).bind lstD) (lcD [6] (fun ρ => ((fun ρ => sl ρ 4) ρ).bind asSeq) (oneB 6) yesT (fun ρ => ((fun ρ => ((fun ρ => sl ρ 6) ρ).bind fun d => ((fun _ => some []) ρ).bind fun ds => some (d :: ds)) ρ).bind (g_given_text CF)))) (lcD [5] (fun ρ => ((fun ρ => sl ρ 1) ρ).bind asSeq) (oneB 5) yesT (fun ρ => ((fun ρ => ((fun ρ => sl ρ 5) ρ).bind fun d => ((fun _ => some []) ρ).bind fun ds => some (d :: ds)) ρ).bind gr)))) (retD (b2 addD (b2 addD (fun _ => some (.str "(")) (b2 joinD (fun _ => some (.str " ")) (fun ρ => sl ρ 2))) (fun _ => some (.str ")"))))))))
def g_text_ofR (CF : Addr) : Nat → DC
  | 0 => fun _ => none
  | k + 1 => runD 7 1 (S_text_of CF (g_text_ofR CF k))
theorem ok_text_ofR (T : Txt K mg w CF) : ∀ k : Nat, FnOk P w K mg base CX0 (k + 2) T.d_text_of.f T.d_text_of.fd ["question"] (spD K (g_text_ofR CF k))
  | 0 => fn_none
  | k + 1 => fn_D T.d_text_of.fn sc_text_of fun cdv A outer s H E hr => by
    have nd := sc_text_of.nd
    have IH := ok_text_ofR T k
    exact (pdss_cons (pds_if (pdt_val (pd_isi rfl T.b_isinstance (by decide +kernel) rfl T.b_str (by decide +kernel) (pd_var (pv 0)))) (pdss_one (pds_ret (pd_var (pv 0)))) pdss_nil) (pdss_cons (pds_set (ps_set (i := 1) nd rfl (by first | exact Or.inl rfl | exact Or.inr rfl) (pd_call (ok_parts_of T) (hr.mono (by omega)) (by rfl) T.d_parts_of.gl T.d_parts_of.fn.kp T.d_parts_of.bd (pds_cons (pd_var (pv 0)) pds_nil))) (fun _ _ _ h => h)) (pdss_cons (pds_star (i := 3) (j := 4) (pd_slT (pd_var (pv 0)) pdo_none (pdo_some (pd_op od_sub (pd_callB cd_len (by rfl) T.b_len (by decide +kernel) (pds_cons (pd_var (pv 0)) pds_nil)) (pd_callB cd_len (by rfl) T.b_len (by decide +kernel) (pds_cons (pd_var (pv 1)) pds_nil))))) (pg_star rfl (pg_name (i := 3) nd rfl (by first | exact Or.inl rfl | exact Or.inr rfl)) (pg_name (i := 4) nd rfl (by first | exact Or.inl rfl | exact Or.inr rfl)))) (pdss_cons (pds_set (ps_set (i := 2) nd rfl (by first | exact Or.inl rfl | exact Or.inr rfl) (pd_op od_addL (pd_op od_addL (pd_lst (pds_cons (pd_var (pv 3)) pds_nil)) (pd_lc (own := [("thing", 6)]) rfl nd (pdi_seq (pd_var (pv 4))) (blkOk_by (N := ["question", "parts", "told", "word", "given", "part", "thing"]) (sc := defScope s_text_of) (by decide +kernel)) (tg_one 6) (by decide) (fun _ _ _ _ _ => (pg_name (i := 6) nd rfl (by first | exact Or.inl rfl | exact Or.inr rfl))) (fun _ _ _ _ _ => pdts_nil) (fun _ _ _ _ _ => (pd_call (ok_given_text T) (hr.mono (by omega)) (by rfl) T.d_given_text.gl T.d_given_text.fn.kp T.d_given_text.bd (pds_cons (pd_var (pv 6)) pds_nil))))) (pd_lc (own := [("part", 5)]) rfl nd (pdi_seq (pd_var (pv 1))) (blkOk_by (N := ["question", "parts", "told", "word", "given", "part", "thing"]) (sc := defScope s_text_of) (by decide +kernel)) (tg_one 5) (by decide) (fun _ _ _ _ _ => (pg_name (i := 5) nd rfl (by first | exact Or.inl rfl | exact Or.inr rfl))) (fun _ _ _ _ _ => pdts_nil) (fun _ _ _ _ _ => (pd_call IH hr (by rfl) T.d_text_of.gl T.d_text_of.fn.kp T.d_text_of.bd (pds_cons (pd_var (pv 5)) pds_nil)))))) (fun _ _ _ h => h)) (pdss_one (pds_ret (pd_op od_add (pd_op od_add pd_str (pd_join pd_str (pd_var (pv 2)))) pd_str)))))))
abbrev g_text_of (CF : Addr) : DC := g_text_ofR CF 2
theorem ok_text_of (T : Txt K mg w CF) : FnOk P w K mg base CX0 4 T.d_text_of.f T.d_text_of.fd ["question"] (spD K (g_text_of CF)) := ok_text_ofR T 2
def S_rank (CF : Addr) : DS := (retD (fun ρ => ((fun ρ => ((fun ρ => ((fun ρ => ((fun ρ => sl ρ 0) ρ).bind fun d => ((fun _ => some []) ρ).bind fun ds => some (d :: ds)) ρ).bind (g_size_of CF)) ρ).bind fun d => ((fun ρ => ((fun ρ => ((fun ρ => ((fun ρ => sl ρ 0) ρ).bind fun d => ((fun _ => some []) ρ).bind fun ds => some (d :: ds)) ρ).bind (g_text_of CF)) ρ).bind fun d => ((fun _ => some []) ρ).bind fun ds => some (d :: ds)) ρ).bind fun ds => some (d :: ds)) ρ).bind tupD))
def g_rank (CF : Addr) : DC := runD 1 1 (S_rank CF)
theorem ok_rank (T : Txt K mg w CF) : FnOk P w K mg base CX0 5 T.d_rank.f T.d_rank.fd ["question"] (spD K (g_rank CF)) := fn_D T.d_rank.fn sc_rank fun cdv A outer s H E hr => by
  have nd := sc_rank.nd
  exact (pdss_one (pds_ret (pd_tup (pds_cons (pd_call (ok_size_of T) (hr.mono (by decide)) (by rfl) T.d_size_of.gl T.d_size_of.fn.kp T.d_size_of.bd (pds_cons (pd_var (pv 0)) pds_nil)) (pds_cons (pd_call (ok_text_of T) (hr.mono (by decide)) (by rfl) T.d_text_of.gl T.d_text_of.fn.kp T.d_text_of.bd (pds_cons (pd_var (pv 0)) pds_nil)) pds_nil)))))
def S_is_ahead (CF : Addr) : DS := (retD (b2 ltD (fun ρ => ((fun ρ => ((fun ρ => sl ρ 0) ρ).bind fun d => ((fun _ => some []) ρ).bind fun ds => some (d :: ds)) ρ).bind (g_rank CF)) (fun ρ => ((fun ρ => ((fun ρ => sl ρ 1) ρ).bind fun d => ((fun _ => some []) ρ).bind fun ds => some (d :: ds)) ρ).bind (g_rank CF))))
def g_is_ahead (CF : Addr) : DC := runD 2 2 (S_is_ahead CF)
theorem ok_is_ahead (T : Txt K mg w CF) : FnOk P w K mg base CX0 6 T.d_is_ahead.f T.d_is_ahead.fd ["one", "other"] (spD K (g_is_ahead CF)) := fn_D T.d_is_ahead.fn sc_is_ahead fun cdv A outer s H E hr => by
  have nd := sc_is_ahead.nd
  exact (pdss_one (pds_ret (pd_cmp (od_ltD hr.units) (pd_call (ok_rank T) (hr.mono (by decide)) (by rfl) T.d_rank.gl T.d_rank.fn.kp T.d_rank.bd (pds_cons (pd_var (pv 0)) pds_nil)) (pd_call (ok_rank T) (hr.mono (by decide)) (by rfl) T.d_rank.gl T.d_rank.fn.kp T.d_rank.bd (pds_cons (pd_var (pv 1)) pds_nil)) (nomark _))))
end
end DL

set_option Elab.async false
set_option linter.all false
set_option maxRecDepth 100000
set_option maxHeartbeats 4000000
/-! Lists and dicts that a body owns (written in place): they stand outside of the data. -/
namespace DL
open PySem PySem.Spec PyProof.Rows L2 Evl
abbrev opq (a : Addr) : PyData := .dict [(.none, .none), (.none, .int (a : Nat))]
theorem rd_opq {K : PySem.W.Frag} {G : Hp} {v : V} {a : Addr} (r : RD K G v (opq a)) : v = .ref a := by
  generalize e : opq a = d at r
  cases r with
  | opq b =>
    have e : opq a = opq b := e
    injection e with e
    injection e with _ e
    injection e with e _
    injection e with _ e
    injection e with e
    rw [show a = b from Int.ofNat.inj e]
  | _ => cases e
inductive OC where
  | l (ds : List PyData)
  | d (kvs : List (PyData × PyData))
def OHd (K : PySem.W.Frag) (P : Program) (w : World) (G H : Hp) (D : Addr) : OC → Prop
  | .l ds => ∃ acc, H D = some (.lst acc) ∧ RDs K G acc ds
  | .d kvs => (∃ xs, H D = some (NDO P w D xs) ∧ (xs.map (·.1)).Nodup ∧ EntsD K G xs kvs) ∧ (D == sysModules) = false
theorem OHd.some {K : PySem.W.Frag} {P : Program} {w : World} {G H : Hp} {D : Addr} : ∀ {c : OC}, OHd K P w G H D c → H D ≠ none
  | .l _, ⟨_, h, _⟩, z => by rw [h] at z; cases z
  | .d _, ⟨⟨_, h, _⟩, _⟩, z => by rw [h] at z; cases z
theorem OHd.mono {K : PySem.W.Frag} {P : Program} {w : World} {G H G' H' : Hp} {D : Addr} (hd : H' D = H D) (e : Ex G G') : ∀ {c : OC}, OHd K P w G H D c → OHd K P w G' H' D c
  | .l _, ⟨acc, h, r⟩ => ⟨acc, hd.trans h, r.mono e⟩
  | .d _, ⟨⟨xs, h, n, r⟩, lo⟩ => ⟨⟨xs, hd.trans h, n, ents_mono e r⟩, lo⟩
structure Ab where
  TT : List (Addr × Str)
  ex : List Addr
  G0 : Hp
  H0 : Hp
abbrev Wo := List (Addr × OC)
structure Wd (K : PySem.W.Frag) (P : Program) (w : World) (B : Ab) (G H : Hp) (own : Wo) : Prop where
  hh : ∀ a o, B.H0 a = some o → a ∉ B.ex → H a = some o
  gh : Ex G H
  gg : Ex B.G0 G
  fr : ∀ a o, G a = some o → B.G0 a = some o ∨ B.H0 a = none
  owd : ∀ p ∈ own, OHd K P w G H p.1 p.2 ∧ G p.1 = none ∧ (p.1 ∈ B.ex ∨ B.H0 p.1 = none) ∧ ∀ q ∈ B.TT, p.1 ≠ q.1
  nd : (own.map (·.1)).Nodup
  tab : LamX.Tabs B.TT H
  tg : ∀ q ∈ B.TT, G q.1 = none ∧ q.1 ∈ B.ex
  exs : ∀ a ∈ B.ex, H a ≠ none
section
variable {K : PySem.W.Frag} {P : Program} {w : World} {B : Ab} {G H G' H' : Hp} {own fr : Wo} {D : Addr}
theorem Wd.new0 (W : Wd K P w B G H own) {a : Addr} (h : H a = none) : B.H0 a = none := by
  cases e : B.H0 a with
  | none => rfl
  | some o =>
    by_cases hx : a ∈ B.ex
    · exact absurd h (W.exs a hx)
    · rw [W.hh a o e hx] at h; cases h
theorem Wd.step (W : Wd K P w B G H own) (g : Go G H G' H') : Wd K P w B G' H' own := by
  refine ⟨fun a o h1 h2 => g.hh _ _ (W.hh a o h1 h2), g.gh, W.gg.trans g.gg, fun a o h => ?_, fun p hp => ?_, W.nd, W.tab.ext g.hh, fun q hq => ⟨?_, (W.tg q hq).2⟩, fun a ha => ?_⟩
  · rcases g.fr a o h with z | z
    · exact W.fr a o z
    · exact .inr (W.new0 z)
  · obtain ⟨h1, h2, h3, h4⟩ := W.owd p hp
    have hs : ∃ o, H p.1 = some o := Option.ne_none_iff_exists'.mp h1.some
    obtain ⟨o, ho⟩ := hs
    refine ⟨h1.mono ((g.hh _ _ ho).trans ho.symm) g.gg, ?_, h3, h4⟩
    cases e : G' p.1 with
    | none => rfl
    | some o' =>
      rcases g.fr _ _ e with z | z
      · rw [h2] at z; cases z
      · rw [ho] at z; cases z
  · obtain ⟨ps, hp, _⟩ := W.tab q hq
    cases e : G' q.1 with
    | none => rfl
    | some o' =>
      rcases g.fr _ _ e with z | z
      · rw [(W.tg q hq).1] at z; cases z
      · rw [hp] at z; cases z
  · obtain ⟨o, ho⟩ := Option.ne_none_iff_exists'.mp (W.exs a ha)
    rw [g.hh _ _ ho]
    simp
theorem Wd.go (W : Wd K P w B G H own) (he : B.ex = []) : Go B.G0 B.H0 G H := ⟨fun a o h => W.hh a o h (by rw [he]; simp), W.gh, W.gg, W.fr⟩
theorem Wd.sub {own' : Wo} (W : Wd K P w B G H own) (h : own'.Sublist own) : Wd K P w B G H own' :=
  ⟨W.hh, W.gh, W.gg, W.fr, fun p hp => W.owd p (h.subset hp), (h.map _).nodup W.nd, W.tab, W.tg, W.exs⟩
/-- a new object owned -/
theorem Wd.new {c : OC} {o : HO} {p : Addr} (W : Wd K P w B G H own) (hp : H p = none) (hc : OHd K P w G (upd H p o) p c) : Wd K P w B G (upd H p o) ((p, c) :: own) := by
  have e := Ex.new (o := o) hp
  have gp := fresh_back W.gh hp
  have ne : ∀ q ∈ own, q.1 ≠ p := fun q hq z => (W.owd q hq).1.some (by rw [z]; exact hp)
  refine ⟨fun a o h1 h2 => e _ _ (W.hh a o h1 h2), W.gh.trans e, W.gg, W.fr, fun q hq => ?_, ?_, W.tab.ext e, W.tg, fun a ha => ?_⟩
  · rcases List.mem_cons.mp hq with rfl | hq
    · exact ⟨hc, gp, .inr (W.new0 hp), fun q hq z => by
        obtain ⟨ps, h, _⟩ := W.tab q hq
        rw [← z, hp] at h
        cases h⟩
    · obtain ⟨h1, h2, h3, h4⟩ := W.owd q hq
      exact ⟨h1.mono (upd_ne (ne q hq)) (Ex.refl G), h2, h3, h4⟩
  · show (p :: own.map (·.1)).Nodup
    refine List.nodup_cons.mpr ⟨fun z => ?_, W.nd⟩
    obtain ⟨q, hq, e⟩ := List.mem_map.mp z
    exact ne q hq e
  · have z := W.exs a ha
    have : a ≠ p := fun e => z (by rw [e]; exact hp)
    rw [upd_ne this]
    exact z
def setO (own : Wo) (D : Addr) (c : OC) : Wo := own.map fun p => if p.1 = D then (p.1, c) else p
theorem setO_keys (own : Wo) (D : Addr) (c : OC) : (setO own D c).map (·.1) = own.map (·.1) := by
  unfold setO
  rw [List.map_map]
  refine List.map_congr_left fun p _ => ?_
  show (if p.1 = D then (p.1, c) else p).1 = p.1
  split <;> rfl
theorem setO_app (own fr : Wo) (D : Addr) (c : OC) : setO (own ++ fr) D c = setO own D c ++ setO fr D c := by
  unfold setO
  exact List.map_append ..
theorem setO_out {own : Wo} {D : Addr} {c : OC} (h : ∀ p ∈ own, p.1 ≠ D) : setO own D c = own := by
  unfold setO
  conv => rhs; rw [← List.map_id own]
  exact List.map_congr_left fun p hp => if_neg (h p hp)
theorem lookO {D : Addr} {c : OC} : ∀ {own : Wo}, own.lookup D = some c → (D, c) ∈ own
  | [], h => by cases h
  | (a, x) :: r, h => by
    rw [List.lookup_cons] at h
    split at h
    · rename_i e
      have e : D = a := by simpa using e
      cases h
      rw [e]
      exact List.mem_cons_self
    · exact List.mem_cons_of_mem _ (lookO h)
/-- an owned object is written -/
theorem Wd.write {c c' : OC} {o : HO} (W : Wd K P w B G H (own ++ fr)) (hl : own.lookup D = some c) (hc : OHd K P w G (upd H D o) D c') (hT : B.TT = [] ∨ ∃ acc, H D = some (.lst acc)) : Wd K P w B G (upd H D o) (setO own D c' ++ fr) := by
  have hm : (D, c) ∈ own ++ fr := List.mem_append_left _ (lookO hl)
  obtain ⟨h1, h2, h3, h4⟩ := W.owd _ hm
  have nf : ∀ p ∈ fr, p.1 ≠ D := fun p hp z => by
    have nd := W.nd
    rw [List.map_append, List.nodup_append] at nd
    exact nd.2.2 D (List.mem_map.mpr ⟨_, lookO hl, rfl⟩) p.1 (List.mem_map.mpr ⟨p, hp, rfl⟩) z.symm
  have e0 : setO own D c' ++ fr = setO (own ++ fr) D c' := by rw [setO_app, setO_out nf]
  rw [e0]
  refine ⟨fun a o' e1 e2 => ?_, fun a o' e1 => ?_, W.gg, W.fr, fun p hp => ?_, by rw [setO_keys]; exact W.nd, fun q hq => ?_, W.tg, fun a ha => ?_⟩
  · have ne : a ≠ D := fun z => by
      rcases h3 with k | k
      · exact e2 (by rw [z]; exact k)
      · rw [z] at e1
        have k : B.H0 D = none := k
        rw [k] at e1; cases e1
    rw [upd_ne ne]
    exact W.hh a o' e1 e2
  · have ne : a ≠ D := fun z => by
      rw [z] at e1
      have h2 : G D = none := h2
      rw [h2] at e1; cases e1
    rw [upd_ne ne]
    exact W.gh a o' e1
  · obtain ⟨q, hq, e⟩ := List.mem_map.mp hp
    obtain ⟨k1, k2, k3, k4⟩ := W.owd q hq
    by_cases hd : q.1 = D
    · rw [if_pos hd] at e
      subst e
      refine ⟨?_, k2, k3, k4⟩
      show OHd K P w G (upd H D o) q.1 c'
      rw [hd]
      exact hc
    · rw [if_neg hd] at e
      subst e
      exact ⟨k1.mono (upd_ne hd) (Ex.refl G), k2, k3, k4⟩
  · rcases hT with k | ⟨acc, k⟩
    · rw [k] at hq; cases hq
    · obtain ⟨ps, a1, a2, a3⟩ := W.tab q hq
      refine ⟨ps, by rw [upd_ne (fun z => h4 q hq z.symm)]; exact a1, a2, fun pos cv hcv => ?_⟩
      obtain ⟨x, b1, b2⟩ := a3 pos cv hcv
      refine ⟨x, b1, ?_⟩
      have ne : x ≠ D := fun z => by
        rw [z, k] at b2
        unfold LamX.CodeO at b2
        cases b2
      rw [upd_ne ne]
      exact b2
  · by_cases hd : a = D
    · rw [hd, upd_same]; simp
    · rw [upd_ne hd]; exact W.exs a ha
def delO (own : Wo) (D : Addr) : Wo := own.filter fun p => decide (p.1 ≠ D)
/-- an owned list becomes data -/
theorem Wd.release {ds : List PyData} (W : Wd K P w B G H (own ++ fr)) (hl : own.lookup D = some (.l ds)) (hx : D ∉ B.ex) : ∃ G', Wd K P w B G' H (delO own D ++ fr) ∧ RD K G' (.ref D) (.list ds) ∧ Ex G G' := by
  have hm : (D, OC.l ds) ∈ own ++ fr := List.mem_append_left _ (lookO hl)
  obtain ⟨⟨acc, ha, hr⟩, h2, h3, h4⟩ := W.owd _ hm
  have h2 : G D = none := h2
  have ha : H D = some (.lst acc) := ha
  have h0 : B.H0 D = none := h3.resolve_left hx
  have e := Ex.new (o := .lst acc) h2
  have sb : (delO own D ++ fr).Sublist (own ++ fr) := (List.filter_sublist ..).append (List.Sublist.refl _)
  have W' := W.sub sb
  have nf : ∀ p ∈ delO own D ++ fr, p.1 ≠ D := fun p hp z => by
    rcases List.mem_append.mp hp with k | k
    · have := (List.mem_filter.mp k).2
      rw [decide_eq_true_eq] at this
      exact this z
    · have nd := W.nd
      rw [List.map_append, List.nodup_append] at nd
      exact nd.2.2 D (List.mem_map.mpr ⟨_, lookO hl, rfl⟩) p.1 (List.mem_map.mpr ⟨p, k, rfl⟩) z.symm
  refine ⟨upd G D (.lst acc), ⟨W.hh, fun a o e1 => ?_, W.gg.trans e, fun a o e1 => ?_, fun p hp => ?_, W'.nd, W.tab, fun q hq => ?_, W.exs⟩, rd_newL h2 hr, e⟩
  · by_cases z : a = D
    · rw [z, upd_same] at e1; cases e1; rw [z]; exact ha
    · rw [upd_ne z] at e1; exact W.gh a o e1
  · by_cases z : a = D
    · rw [z]; exact .inr h0
    · rw [upd_ne z] at e1; exact W.fr a o e1
  · obtain ⟨k1, k2, k3, k4⟩ := W'.owd p hp
    exact ⟨k1.mono rfl e, by rw [upd_ne (nf p hp)]; exact k2, k3, k4⟩
  · have z : q.1 ≠ D := fun z => h4 q hq z.symm
    rw [upd_ne z]
    exact W.tg q hq
/-- what a callee is given -/
theorem Wd.give {oc : Wo} (W : Wd K P w B G H own) (sub : oc.Sublist own) : Wd K P w ⟨B.TT, oc.map (·.1) ++ B.TT.map (·.1), G, H⟩ G H oc := by
  have W' := W.sub sub
  refine ⟨fun a o h _ => h, W.gh, Ex.refl G, fun a o h => .inl h, fun p hp => ?_, W'.nd, W.tab, fun q hq => ⟨(W.tg q hq).1, List.mem_append_right _ (List.mem_map.mpr ⟨q, hq, rfl⟩)⟩, fun a ha => ?_⟩
  · obtain ⟨k1, k2, k3, k4⟩ := W'.owd p hp
    exact ⟨k1, k2, .inl (List.mem_append_left _ (List.mem_map.mpr ⟨p, hp, rfl⟩)), k4⟩
  · rcases List.mem_append.mp ha with z | z
    · obtain ⟨p, hp, e⟩ := List.mem_map.mp z
      rw [← e]
      exact (W'.owd p hp).1.some
    · obtain ⟨q, hq, e⟩ := List.mem_map.mp z
      obtain ⟨ps, h, _⟩ := W.tab q hq
      rw [← e, h]
      simp
/-- and what the caller has behind the call: c', what became of the one object that was given -/
theorem Wd.back {oc oc' : Wo} (W : Wd K P w B G H (own ++ fr)) (sub : ∀ p ∈ oc, p ∈ own) (W' : Wd K P w ⟨B.TT, oc.map (·.1) ++ B.TT.map (·.1), G, H⟩ G' H' oc') {f : Addr × OC → Addr × OC} (hf : ∀ p, (f p).1 = p.1) (hn : ∀ p ∈ own ++ fr, p.1 ∉ oc.map (·.1) → f p = p) (hs : ∀ p ∈ own ++ fr, p.1 ∈ oc.map (·.1) → f p ∈ oc') :
    Wd K P w B G' H' ((own ++ fr).map f) := by
  have inex : ∀ a ∈ oc.map (·.1) ++ B.TT.map (·.1), a ∈ B.ex ∨ B.H0 a = none := fun a ha => by
    rcases List.mem_append.mp ha with z | z
    · obtain ⟨p, hp, e⟩ := List.mem_map.mp z
      rw [← e]
      exact (W.owd p (List.mem_append_left _ (sub p hp))).2.2.1
    · obtain ⟨q, hq, e⟩ := List.mem_map.mp z
      rw [← e]
      exact .inl (W.tg q hq).2
  refine ⟨fun a o h1 h2 => ?_, W'.gh, W.gg.trans W'.gg, fun a o h => ?_, fun p hp => ?_, ?_, W'.tab, fun q hq => ⟨(W'.tg q hq).1, (W.tg q hq).2⟩, fun a ha => ?_⟩
  · refine W'.hh a o (W.hh a o h1 h2) fun z => ?_
    rcases inex a z with k | k
    · exact h2 k
    · rw [k] at h1; cases h1
  · rcases W'.fr a o h with z | z
    · exact W.fr a o z
    · exact .inr (W.new0 z)
  · obtain ⟨q, hq, e⟩ := List.mem_map.mp hp
    obtain ⟨k1, k2, k3, k4⟩ := W.owd q hq
    by_cases hd : q.1 ∈ oc.map (·.1)
    · have hm := hs q hq hd
      rw [e] at hm
      obtain ⟨j1, j2, j3, j4⟩ := W'.owd p hm
      refine ⟨j1, j2, ?_, j4⟩
      rw [← e, hf]
      exact k3
    · rw [hn q hq hd] at e
      subst e
      obtain ⟨o, ho⟩ := Option.ne_none_iff_exists'.mp k1.some
      have hx : q.1 ∉ oc.map (·.1) ++ B.TT.map (·.1) := fun z => by
        rcases List.mem_append.mp z with z | z
        · exact hd z
        · obtain ⟨t, ht, e⟩ := List.mem_map.mp z
          exact k4 t ht e.symm
      refine ⟨k1.mono ((W'.hh _ _ ho hx).trans ho.symm) W'.gg, ?_, k3, k4⟩
      cases e : G' q.1 with
      | none => rfl
      | some o' =>
        rcases W'.fr _ _ e with z | z
        · have z : G q.1 = some o' := z
          rw [k2] at z; cases z
        · have z : H q.1 = none := z
          rw [ho] at z; cases z
  · rw [List.map_map, show (Prod.fst ∘ f) = Prod.fst from funext hf]
    exact W.nd
  · by_cases hx : a ∈ oc.map (·.1) ++ B.TT.map (·.1)
    · exact W'.exs a hx
    · obtain ⟨o, ho⟩ := Option.ne_none_iff_exists'.mp (W.exs a ha)
      rw [W'.hh a o ho hx]
      simp
end
end DL

set_option Elab.async false
set_option linter.all false
set_option maxRecDepth 100000
set_option maxHeartbeats 4000000
/-! Readings with owned objects: what may come out, as predicate transformers. -/
namespace DL
open PySem PySem.Spec PyProof.Rows L2 Evl
abbrev WF := Wo → DE → (PyData → Wo → Prop) → Prop
abbrev WFs := Wo → DE → (List PyData → Wo → Prop) → Prop
abbrev WTt := Wo → DE → (Bool → Wo → Prop) → Prop
abbrev WSt := Wo → DE → (Rs → Wo → Prop) → Prop
def tWE (K : PySem.W.Frag) (P : Program) (w : World) (B : Ab) (F : WF) : TE := fun σ H Q => ∃ G ρ own fr, ∃ Φ : PyData → Wo → Prop, EnvR K G σ ρ ∧ Wd K P w B G H (own ++ fr) ∧ F own ρ Φ ∧ ∀ d o v H' G', Φ d o → Ex G G' → Wd K P w B G' H' (o ++ fr) → RD K G' v d → Q v H'
def tWA (K : PySem.W.Frag) (P : Program) (w : World) (B : Ab) (F : WFs) : TA := fun σ H Q => ∃ G ρ own fr, ∃ Φ : List PyData → Wo → Prop, EnvR K G σ ρ ∧ Wd K P w B G H (own ++ fr) ∧ F own ρ Φ ∧ ∀ d o v H' G', Φ d o → Ex G G' → Wd K P w B G' H' (o ++ fr) → RDs K G' v d → Q v H'
def tWT (K : PySem.W.Frag) (P : Program) (w : World) (B : Ab) (T : WTt) : TT := fun σ H Q => ∃ G ρ own fr, ∃ Φ : Bool → Wo → Prop, EnvR K G σ ρ ∧ Wd K P w B G H (own ++ fr) ∧ T own ρ Φ ∧ ∀ b o H' G', Φ b o → Ex G G' → Wd K P w B G' H' (o ++ fr) → Q b H'
def tWI (K : PySem.W.Frag) (P : Program) (w : World) (B : Ab) (L : WFs) : TI := fun σ H R => ∃ G ρ own fr, ∃ Φ : List PyData → Wo → Prop, EnvR K G σ ρ ∧ Wd K P w B G H (own ++ fr) ∧ L own ρ Φ ∧ ∀ ds o J H' G', Φ ds o → Ex G G' → Wd K P w B G' H' (o ++ fr) → WalkD K J G' ds → R J H'
def WEnd (K : PySem.W.Frag) (G' H' : Hp) (D : Ends) : Rs → Prop
  | .nx ρ' => ∀ σ', EnvR K G' σ' ρ' → D.nx σ' H'
  | .rt d => ∀ v, RD K G' v d → D.rt v H'
def tWS (K : PySem.W.Frag) (P : Program) (w : World) (B : Ab) (S : WSt) : TS := fun D σ H => ∃ G ρ own fr, ∃ Φ : Rs → Wo → Prop, EnvR K G σ ρ ∧ Wd K P w B G H (own ++ fr) ∧ S own ρ Φ ∧ ∀ r o H' G', Φ r o → Ex G G' → Wd K P w B G' H' (o ++ fr) → WEnd K G' H' D r
abbrev WE (X : Cx) (B : Ab) (e : Expr) (F : WF) : Prop := PE X e (tWE X.K X.prog X.w B F)
abbrev WA (X : Cx) (B : Ab) (es : List Expr) (F : WFs) : Prop := PA X es (tWA X.K X.prog X.w B F)
abbrev WT (X : Cx) (B : Ab) (e : Expr) (T : WTt) : Prop := PT X e (tWT X.K X.prog X.w B T)
abbrev WI (X : Cx) (B : Ab) (tg iter : Expr) (L : WFs) : Prop := PI X tg iter (tWI X.K X.prog X.w B L)
abbrev WS (X : Cx) (B : Ab) (st : Stmt) (S : WSt) : Prop := PS X st (tWS X.K X.prog X.w B S)
abbrev WSs (X : Cx) (B : Ab) (st : List Stmt) (S : WSt) : Prop := PSs X st (tWS X.K X.prog X.w B S)
section
variable {X : Cx} {B : Ab} {a b c e : Expr} {es : List Expr} {st : Stmt} {rest sa sb : List Stmt} {F F1 F2 : WF} {Fs : WFs} {L : WFs} {T T1 T2 : WTt} {S S1 S2 : WSt} {pos : Pos}
/-! pure ones -/
def pureW (F : DF) : WF := fun own ρ Φ => ∃ d, F ρ = some d ∧ Φ d own
def pureA (F : DE → Option (List PyData)) : WFs := fun own ρ Φ => ∃ d, F ρ = some d ∧ Φ d own
def pureT (T : DE → Option Bool) : WTt := fun own ρ Φ => ∃ d, T ρ = some d ∧ Φ d own
def pureS (S : DS) : WSt := fun own ρ Φ => ∃ r, S ρ = some r ∧ Φ r own
theorem we_pure {F : DF} (h : PD X e F) : WE X B e (pureW F) := weakE h fun σ H Q => by
  rintro ⟨G, ρ, own, fr, Φ, er, W, ⟨d, hf, hp⟩, q⟩
  exact ⟨G, ρ, d, W.gh, er, hf, fun v H' G' g r => q d own v H' G' hp g.gg (W.step g) r⟩
theorem wa_pure {F : DE → Option (List PyData)} (h : PDs X es F) : WA X B es (pureA F) := weakA h fun σ H Q => by
  rintro ⟨G, ρ, own, fr, Φ, er, W, ⟨d, hf, hp⟩, q⟩
  exact ⟨G, ρ, d, W.gh, er, hf, fun v H' G' g r => q d own v H' G' hp g.gg (W.step g) r⟩
theorem wt_pure {T : DE → Option Bool} (h : PDT X e T) : WT X B e (pureT T) := weakT h fun σ H Q => by
  rintro ⟨G, ρ, own, fr, Φ, er, W, ⟨d, hf, hp⟩, q⟩
  exact ⟨G, ρ, d, W.gh, er, hf, fun H' G' g => q d own H' G' hp g.gg (W.step g)⟩
theorem wi_pure {tg : Expr} {L : DE → Option (List PyData)} (h : PDI X tg e L) : WI X B tg e (pureA L) := weakI h fun σ H Q => by
  rintro ⟨G, ρ, own, fr, Φ, er, W, ⟨d, hf, hp⟩, q⟩
  exact ⟨G, ρ, d, W.gh, er, hf, fun J H' G' g wk => q d own J H' G' hp g.gg (W.step g) wk⟩
theorem ws_pure {S : DS} (h : PDS X st S) : WS X B st (pureS S) := weakS h fun D σ H => by
  rintro ⟨G, ρ, own, fr, Φ, er, W, ⟨r, hf, hp⟩, q⟩
  refine ⟨G, ρ, r, W.gh, er, hf, ?_⟩
  cases r with
  | nx ρ' => exact fun σ' H' G' g er' => q (.nx ρ') own H' G' hp g.gg (W.step g) σ' er'
  | rt d => exact fun v H' G' g r => q (.rt d) own H' G' hp g.gg (W.step g) v r
theorem wss_pure {S : DS} (h : PDSs X rest S) : WSs X B rest (pureS S) := weakSs h fun D σ H => by
  rintro ⟨G, ρ, own, fr, Φ, er, W, ⟨r, hf, hp⟩, q⟩
  refine ⟨G, ρ, r, W.gh, er, hf, ?_⟩
  cases r with
  | nx ρ' => exact fun σ' H' G' g er' => q (.nx ρ') own H' G' hp g.gg (W.step g) σ' er'
  | rt d => exact fun v H' G' g r => q (.rt d) own H' G' hp g.gg (W.step g) v r
/-! arguments -/
def nilW : WFs := fun own _ Φ => Φ [] own
def consW (F : WF) (Fs : WFs) : WFs := fun own ρ Φ => F own ρ fun d o1 => Fs o1 ρ fun ds o2 => Φ (d :: ds) o2
theorem wa_nil : WA X B [] nilW := weakA pa_nil fun σ H Q => by
  rintro ⟨G, ρ, own, fr, Φ, er, W, hp, q⟩
  exact q [] own [] H G hp (Ex.refl G) W .nil
theorem wa_cons (h : WE X B e F) (hr : WA X B es Fs) (hs : starEach (e :: es) X.env = (false, eval e X.env) :: starEach es X.env := by rfl) : WA X B (e :: es) (consW F Fs) := weakA (pa_cons h hr hs) fun σ H Q => by
  rintro ⟨G, ρ, own, fr, Φ, er, W, hp, q⟩
  exact ⟨G, ρ, own, fr, _, er, W, hp, fun d o v H1 G1 h1 e1 W1 r1 => ⟨G1, ρ, o, fr, _, er.mono e1, W1, h1, fun ds o2 vs H2 G2 h2 e2 W2 r2 => q (d :: ds) o2 (v :: vs) H2 G2 h2 (e1.trans e2) W2 (.cons (r1.mono e2) r2)⟩⟩
/-! operators -/
def opW (g : D2) (F1 F2 : WF) : WF := fun own ρ Φ => F1 own ρ fun x o1 => F2 o1 ρ fun y o2 => ∃ r, g x y = some r ∧ Φ r o2
theorem twoW {g : D2} {σ : L2.St} {H : Hp} {Q : VK} (h : tWE X.K X.prog X.w B (opW g F1 F2) σ H Q) : tOp (rD2 X.K g) (tWE X.K X.prog X.w B F1) (tWE X.K X.prog X.w B F2) σ H Q := by
  obtain ⟨G, ρ, own, fr, Φ, er, W, hp, q⟩ := h
  exact ⟨G, ρ, own, fr, _, er, W, hp, fun d o v H1 G1 h1 e1 W1 r1 => ⟨G1, ρ, o, fr, _, er.mono e1, W1, h1, fun d2 o2 u H2 G2 ⟨r, h2, h3⟩ e2 W2 r2 =>
    ⟨G2, d, d2, r, W2.gh, r1.mono e2, r2, h2, fun v' H3 G3 g3 r3 => q r o2 v' H3 G3 h3 ((e1.trans e2).trans g3.gg) (W2.step g3) r3⟩⟩⟩
theorem we_op {op : Operator} {g : D2} (ho : OD X (binaryOp op) g) (ha : WE X B a F1) (hb : WE X B b F2) : WE X B (.BinOp a op b pos) (opW g F1 F2) := weakE (pe_op ho ha hb) fun _ _ _ => twoW
theorem we_cmp {op : CmpOp} {g : D2} (ho : OD X (compareOp op) g) (ha : WE X B a F1) (hb : WE X B b F2) (hm : behindInMarks op b = false) : WE X B (.Compare a [op] [b] pos) (opW g F1 F2) := weakE (pe_cmpR ho ha hb hm) fun _ _ _ => twoW
def tstW (F : WF) : WTt := fun own ρ Φ => F own ρ fun d o => ∃ k, d = .bool k ∧ Φ k o
theorem testW {σ : L2.St} {H : Hp} {Q : Bool → Hp → Prop} (h : tWT X.K X.prog X.w B (tstW F) σ H Q) : tWE X.K X.prog X.w B F σ H (fun x H' => ∃ k, x = .bl k ∧ Q k H') := by
  obtain ⟨G, ρ, own, fr, Φ, er, W, hp, q⟩ := h
  refine ⟨G, ρ, own, fr, _, er, W, hp, fun d o v H1 G1 h1 e1 W1 r1 => ?_⟩
  obtain ⟨k, rfl, h2⟩ := h1
  cases r1
  exact ⟨k, rfl, q k o H1 G1 h2 e1 W1⟩
theorem wt_cmp {op : CmpOp} {g : D2} (ho : OD X (compareOp op) g) (ha : WE X B a F1) (hb : WE X B b F2) (hm : behindInMarks op b = false) : WT X B (.Compare a [op] [b] pos) (tstW (opW g F1 F2)) :=
  weakT (pt_cmpR ho ha hb hm) fun _ _ _ h => twoW (testW h)
/-! subscripts, slices -/
theorem ix_in {x y : V} {H : Hp} {Q : VK} (h : rD2 X.K ixD x y H Q) : ∃ r, IxR X r ∧ True := ⟨_, ix_seq, trivial⟩
theorem we_ix (ha : WE X B a F1) (hb : WE X B b F2) (hs : PlainIx b := by exact fun _ _ => rfl) : WE X B (.Subscript a b pos) (opW ixD F1 F2) := by
  refine weakE (pe_ix (ix_seq) ha hb hs) fun σ H Q h => ?_
  obtain ⟨G, ρ, own, fr, Φ, er, W, hp, q⟩ := twoW h
  refine ⟨G, ρ, own, fr, Φ, er, W, hp, fun d o v H1 G1 h1 e1 W1 r1 => ?_⟩
  obtain ⟨G', ρ', own', fr', Φ', er', W', hp', q'⟩ := q d o v H1 G1 h1 e1 W1 r1
  refine ⟨G', ρ', own', fr', Φ', er', W', hp', fun d2 o2 u H2 G2 h2 e2 W2 r2 => ?_⟩
  obtain ⟨G3, d, e, r, eg3, r3, r4, hx, q⟩ := q' d2 o2 u H2 G2 h2 e2 W2 r2
  unfold ixD at hx
  split at hx
  · cases r3 with
    | lst s1 t1 =>
      cases r4
      obtain ⟨w, q1, q2⟩ := at_rd t1 hx
      exact .inl ⟨_, _, _, w, rfl, rfl, ex_l eg3 s1, q1, q _ H2 G3 (Go.refl eg3) q2⟩
  · cases r3 with
    | tup s1 t1 =>
      cases r4
      obtain ⟨w, q1, q2⟩ := at_rd t1 hx
      exact .inr (.inl ⟨_, _, _, w, rfl, rfl, ex_t eg3 s1, q1, q _ H2 G3 (Go.refl eg3) q2⟩)
  · split at hx
    · obtain ⟨c, hc, rfl⟩ := Option.map_eq_some_iff.mp hx
      cases r3; cases r4
      exact .inr (.inr ⟨_, _, c, rfl, rfl, sz_of (by assumption), hc, q _ H2 G3 (Go.refl eg3) (.str _)⟩)
    · cases hx
  · cases hx
theorem tNo_in {σ : L2.St} {H : Hp} {Q : Option Int → Hp → Prop} (h : Q none H) : tNoPart σ H Q := h
/-- a[:b] -/
def sliW (F1 F2 : WF) : WF := fun own ρ Φ => F1 own ρ fun x o1 => F2 o1 ρ fun y o2 => ∃ i, y = .int i ∧ ((∃ ds, x = .list ds ∧ Φ (.list (cutDs ds none (some i))) o2))
def sliTW (F1 F2 : WF) : WF := fun own ρ Φ => F1 own ρ fun x o1 => F2 o1 ρ fun y o2 => ∃ i, y = .int i ∧ ((∃ ds, x = .tuple ds ∧ Φ (.tuple (cutDs ds none (some i))) o2))
theorem we_sliL {p2 : Pos} (ha : WE X B a F1) (hb : WE X B b F2) : WE X B (.Subscript a (.Slice none (some b) none p2) pos) (sliW F1 F2) := weakE (pe_slice sl_list ha po_none (po_some hb)) fun σ H Q => by
  rintro ⟨G, ρ, own, fr, Φ, er, W, hp, q⟩
  refine ⟨G, ρ, own, fr, _, er, W, hp, fun d o v H1 G1 h1 e1 W1 r1 => ?_⟩
  refine tNo_in ?_
  refine ⟨G1, ρ, o, fr, _, er.mono e1, W1, h1, fun d2 o2 u H2 G2 h2 e2 W2 r2 => ?_⟩
  obtain ⟨i, rfl, ds, rfl, h3⟩ := h2
  cases r2
  refine ⟨i, rfl, ?_⟩
  cases r1 with
  | lst s1 t1 =>
    rename_i a1 vs1
    refine ⟨_, _, rfl, ex_l (e2.trans W2.gh) s1, fun p hpn => ?_⟩
    have g := Go.new (o := .lst (cutV vs1 none (some i))) W2.gh hpn
    exact q _ o2 _ _ _ h3 ((e1.trans e2).trans g.gg) (W2.step g) (rd_newL (fresh_back W2.gh hpn) (cut_rd (t1.mono e2) none (some i)))
theorem we_sliT {p2 : Pos} (ha : WE X B a F1) (hb : WE X B b F2) : WE X B (.Subscript a (.Slice none (some b) none p2) pos) (sliTW F1 F2) := weakE (pe_slice sl_tupA ha po_none (po_some hb)) fun σ H Q => by
  rintro ⟨G, ρ, own, fr, Φ, er, W, hp, q⟩
  refine ⟨G, ρ, own, fr, _, er, W, hp, fun d o v H1 G1 h1 e1 W1 r1 => ?_⟩
  refine tNo_in ?_
  refine ⟨G1, ρ, o, fr, _, er.mono e1, W1, h1, fun d2 o2 u H2 G2 h2 e2 W2 r2 => ?_⟩
  obtain ⟨i, rfl, ds, rfl, h3⟩ := h2
  cases r2
  refine ⟨i, rfl, ?_⟩
  cases r1 with
  | tup s1 t1 =>
    rename_i a1 vs1
    refine ⟨_, _, rfl, ex_t (e2.trans W2.gh) s1, fun hw => ?_, fun hw p hpn => ?_⟩
    · refine q _ o2 _ H2 G2 h3 (e1.trans e2) W2 ?_
      rw [cut_all _ _ _ (by rw [t1.length] at hw; exact hw)]
      exact .tup (ex_t e2 s1) (t1.mono e2)
    · have g := Go.new (o := .tup (cutV vs1 none (some i))) W2.gh hpn
      exact q _ o2 _ _ _ h3 ((e1.trans e2).trans g.gg) (W2.step g) (rd_newT (fresh_back W2.gh hpn) (cut_rd (t1.mono e2) none (some i)))
/-! displays -/
def lstW (Fs : WFs) : WF := fun own ρ Φ => Fs own ρ fun ds o => ds.length ≤ 100000 ∧ Φ (.list ds) o
def tupW (Fs : WFs) : WF := fun own ρ Φ => Fs own ρ fun ds o => ds.length ≤ 100000 ∧ Φ (.tuple ds) o
theorem we_lst (h : WA X B es Fs) : WE X B (.List es pos) (lstW Fs) := weakE (pe_lst h) fun σ H Q => by
  rintro ⟨G, ρ, own, fr, Φ, er, W, hp, q⟩
  refine ⟨G, ρ, own, fr, _, er, W, hp, fun ds o vs H1 G1 h1 e1 W1 r1 => ⟨sz_of (by rw [r1.length]; exact h1.1), fun p hpn => ?_⟩⟩
  have g := Go.new (o := .lst vs) W1.gh hpn
  exact q _ o _ _ _ h1.2 (e1.trans g.gg) (W1.step g) (rd_newL (fresh_back W1.gh hpn) r1)
theorem we_tup {x1} (h : WA X B es Fs) : WE X B (.Tuple es x1 pos) (tupW Fs) := weakE (pe_tup h) fun σ H Q => by
  rintro ⟨G, ρ, own, fr, Φ, er, W, hp, q⟩
  refine ⟨G, ρ, own, fr, _, er, W, hp, fun ds o vs H1 G1 h1 e1 W1 r1 => ⟨sz_of (by rw [r1.length]; exact h1.1), fun p hpn => ?_⟩⟩
  have g := Go.new (o := .tup vs) W1.gh hpn
  exact q _ o _ _ _ h1.2 (e1.trans g.gg) (W1.step g) (rd_newT (fresh_back W1.gh hpn) r1)
/-! built-ins -/
def cbW (g : DC) (Fs : WFs) : WF := fun own ρ Φ => Fs own ρ fun ds o => ∃ d, g ds = some d ∧ Φ d o
theorem argsW {g : DC} {σ : L2.St} {H : Hp} {Q : VK} (h : tWE X.K X.prog X.w B (cbW g Fs) σ H Q) : tWA X.K X.prog X.w B Fs σ H (fun vs H1 => rDC X.K g vs H1 Q) := by
  obtain ⟨G, ρ, own, fr, Φ, er, W, hp, q⟩ := h
  exact ⟨G, ρ, own, fr, _, er, W, hp, fun ds o vs H1 G1 ⟨d, h1, h2⟩ e1 W1 r1 => ⟨G1, ds, d, W1.gh, r1, h1, fun v H2 G2 g2 r2 => q d o v H2 G2 h2 (e1.trans g2.gg) (W1.step g2) r2⟩⟩
theorem we_callB {g : DC} {id : String} {x : Str} {p : Pos} (hc : CD X (.builtin id) g) (hg : Gl X x) (hm : X.mg x = none) (hv : bootBuiltins x = some (.builtin id)) (ha : WA X B (e :: es) Fs) (hn : x ≠ "__name__" := by decide) (hdb : (x == ("__debug__" : Str)) = false := by decide)
    (hs : starEach (e :: es) X.env = (false, eval e X.env) :: starEach es X.env := by rfl) (hpl : (backTo pos (starEach es X.env)).any (·.1) = false := by rfl) : WE X B (.Call (.Name x p) (e :: es) [] pos) (cbW g Fs) :=
  weakE (pe_callB hc hg hm hv ha hn hdb hs hpl) fun _ _ _ h => argsW h
theorem we_callTy {g : DC} {T : String} {x : Str} {p : Pos} (hc : CD X (.type T) g) (hg : Gl X x) (hm : X.mg x = none) (hv : bootBuiltins x = some (.type T)) (ha : WA X B (e :: es) Fs) (hn : x ≠ "__name__" := by decide) (hdb : (x == ("__debug__" : Str)) = false := by decide)
    (hs : starEach (e :: es) X.env = (false, eval e X.env) :: starEach es X.env := by rfl) (hpl : (backTo pos (starEach es X.env)).any (·.1) = false := by rfl) : WE X B (.Call (.Name x p) (e :: es) [] pos) (cbW g Fs) :=
  weakE (pe_callTy hc hg hm hv ha hn hdb hs hpl) fun _ _ _ h => argsW h
def joinW (z : Str) (F : WF) : WF := fun own ρ Φ => F own ρ fun y o => ∃ r, joinD (.str z) y = some r ∧ Φ r o
theorem we_join {z : Str} {j : Nat} {p : Pos} {apos : Pos} (he : WE X B e F) (hs : starEach [e] X.env = [(false, eval e X.env)] := by rfl) (hbase : attributeBase (.Constant (.str z) j p) "join" X.env (eval (.Constant (.str z) j p) X.env) = eval (.Constant (.str z) j p) X.env := by rfl) (hline : (apos.endLine == pos.line) = true := by rfl) :
    WE X B (.Call (.Attribute (.Constant (.str z) j p) "join" apos) [e] [] pos) (joinW z F) := by
  refine weakE (pe_join pe_str he hs hbase hline) fun σ H Q h => ?_
  obtain ⟨G, ρ, own, fr, Φ, er, W, hp, q⟩ := h
  refine ⟨⟨z, rfl⟩, G, ρ, own, fr, _, er, W, hp, fun d o v H1 G1 ⟨r, h1, h2⟩ e1 W1 r1 => ?_⟩
  cases d with
  | list ds =>
    obtain ⟨ys, h3, h4⟩ := Option.bind_eq_some_iff.mp (show ((strsD ds).bind fun ys => if (ys.map (·.length)).sum + ys.length * z.length ≤ 16777216 then some (.str (Txt.join z ys)) else none) = some r from h1)
    split at h4
    · cases h4
      cases r1 with
      | lst s1 t1 =>
        rw [strs_rd t1 h3] at s1
        exact ⟨_, _, ys, rfl, rfl, .inl (ex_l W1.gh s1), by assumption, q _ o _ H1 G1 h2 e1 W1 (.str _)⟩
    · cases h4
  | _ => cases h1
end
end DL

set_option Elab.async false
set_option linter.all false
set_option maxRecDepth 100000
set_option maxHeartbeats 4000000
namespace DL
open PySem PySem.Spec PyProof.Rows L2 Evl
theorem Wd.perm {K : PySem.W.Frag} {P : Program} {w : World} {B : Ab} {G H : Hp} {own own' : Wo} (W : Wd K P w B G H own) (h : own'.Perm own) : Wd K P w B G H own' :=
  ⟨W.hh, W.gh, W.gg, W.fr, fun p hp => W.owd p (h.mem_iff.mp hp), (h.map _).nodup_iff.mpr W.nd, W.tab, W.tg, W.exs⟩
section
variable {X : Cx} {B : Ab} {a b c e : Expr} {es : List Expr} {st : Stmt} {rest sa sb : List Stmt} {F F1 F2 : WF} {Fs : WFs} {L : WFs} {T T1 T2 : WTt} {S S1 S2 : WSt} {pos : Pos}
/-! iterables -/
def rngW1 (F : WF) : WFs := fun own ρ Φ => F own ρ fun d o => ∃ n : Int, d = .int n ∧ n ≤ 100000 ∧ 0 ≤ n ∧ Φ (rngD 0 n.toNat) o
theorem wi_range1 {tg : Expr} {p : Pos} (hg : Gl X "range") (hm : X.mg "range" = none) (ha : WE X B a F) (hs : starEach [a] X.env = [(false, eval a X.env)] := by rfl) : WI X B tg (.Call (.Name "range" p) [a] [] pos) (rngW1 F) :=
  weakI (pi_range1 hg hm (pa_cons ha pa_nil hs) hs) fun σ H R => by
    rintro ⟨G, ρ, own, fr, Φ, er, W, hp, q⟩
    refine ⟨G, ρ, own, fr, _, er, W, hp, fun d o v H1 G1 h1 e1 W1 r1 => ?_⟩
    obtain ⟨n, rfl, h2, h3, h4⟩ := h1
    cases r1
    exact ⟨n, rfl, by omega, by omega, q _ o _ H1 G1 h4 e1 W1 (walk_range 0 n.toNat)⟩
def rngW2 (F1 F2 : WF) : WFs := fun own ρ Φ => F1 own ρ fun d o => F2 o ρ fun d2 o2 => ∃ m n : Int, d = .int m ∧ d2 = .int n ∧ n ≤ 100000 ∧ 0 ≤ n ∧ m ≤ 100000 ∧ 0 ≤ m ∧ Φ (rngD m (n - m).toNat) o2
theorem wi_range2 {tg : Expr} {p : Pos} (hg : Gl X "range") (hm : X.mg "range" = none) (ha : WE X B a F1) (hb : WE X B b F2) (hs : starEach [a, b] X.env = [(false, eval a X.env), (false, eval b X.env)] := by rfl) (hs2 : starEach [b] X.env = [(false, eval b X.env)] := by rfl) : WI X B tg (.Call (.Name "range" p) [a, b] [] pos) (rngW2 F1 F2) :=
  weakI (pi_range2 hg hm (pa_cons ha (pa_cons hb pa_nil hs2) (by rw [hs, hs2])) hs hs2) fun σ H R => by
    rintro ⟨G, ρ, own, fr, Φ, er, W, hp, q⟩
    refine ⟨G, ρ, own, fr, _, er, W, hp, fun d o v H1 G1 h1 e1 W1 r1 => ⟨G1, ρ, o, fr, _, er.mono e1, W1, h1, fun d2 o2 u H2 G2 h2 e2 W2 r2 => ?_⟩⟩
    obtain ⟨m, n, rfl, rfl, h3, h4, h5, h6, h7⟩ := h2
    cases r1
    cases r2
    exact ⟨m, n, rfl, ⟨by omega, by omega, by omega, by omega⟩, q _ o2 _ H2 G2 h7 (e1.trans e2) W2 (walk_range m _)⟩
def seqW' (F : WF) : WFs := fun own ρ Φ => F own ρ fun d o => ∃ ds, asSeq d = some ds ∧ Φ ds o
/-! a list comprehension -/
def turnsW (B : PyData → DE → Option DE) (T : WTt) (F : WF) (ρ : DE) : List PyData → Wo → List PyData → (PyData → Wo → Prop) → Prop
  | [], own, done, Φ => Φ (.list done) own
  | d :: ds, own, done, Φ => ∃ ρ1, B d ρ = some ρ1 ∧ T own ρ1 fun k o1 => if k = true then F o1 ρ1 fun y o2 => turnsW B T F ρ ds o2 (done ++ [y]) Φ else turnsW B T F ρ ds o1 done Φ
def lcW (vs : List Nat) (L : WFs) (B : PyData → DE → Option DE) (T : WTt) (F : WF) : WF := fun own ρ Φ => L own ρ fun ds o => ds.length ≤ 100000 ∧ turnsW B T F (wipeD ρ vs) ds o [] Φ
def yesW : WTt := fun own _ Φ => Φ true own
theorem wts_nil : PTs X [] (tWT X.K X.prog X.w B yesW) := ⟨fun pins s σ H Q I h => by
  obtain ⟨G, ρ, own, fr, Φ, er, W, hp, q⟩ := h
  exact pts_nil.run pins s σ H Q I (q true own H G hp (Ex.refl G) W)⟩
theorem wts_one (h : WT X B c T) : PTs X [c] (tWT X.K X.prog X.w B T) := pts_one h
theorem lcW_in {own1 : List Nat} {g : TG} {Bd : PyData → DE → Option DE} {vs : List Nat} (tgd : TgD X.K own1 g Bd) (ho : ∀ j ∈ own1, j ∈ vs) {σ : L2.St} {H : Hp} {Q : VK} (h : tWE X.K X.prog X.w B (lcW vs L Bd T F) σ H Q) :
    tLc (tWI X.K X.prog X.w B L) g (tWT X.K X.prog X.w B T) (tWE X.K X.prog X.w B F) vs σ H Q := by
  obtain ⟨G, ρ, own, fr, Φ, er, W, hp, q⟩ := h
  refine ⟨G, ρ, own, fr, _, er, W, hp, fun ds o0 J H1 G1 h1 e1 W1 wk D hD => ?_⟩
  obtain ⟨hlen, h3⟩ := h1
  have hDx : D ∉ B.ex := fun z => W1.exs D z hD
  refine ⟨fun i m H => m = ds.length - i ∧ i ≤ ds.length ∧ ∃ G' o done, Ex G1 G' ∧ Wd X.K X.prog X.w B G' H (o ++ ((D, .l done) :: fr)) ∧ done.length ≤ i ∧ turnsW Bd T F (wipeD ρ vs) (ds.drop i) o done Φ,
    ⟨ds.length, by simp, Nat.zero_le _, G1, o0, [], Ex.refl G1, (W1.new (c := .l []) hD ⟨[], upd_same, .nil⟩).perm List.perm_middle, Nat.le_refl _, h3⟩, ?_⟩
  rintro i m H ⟨rfl, hi, G', o, done, e2, W2, hl, hres⟩
  by_cases hlt : i < ds.length
  · refine .inr ⟨wk.go i H hlt (e2.trans W2.gh), ?_⟩
    rw [List.drop_eq_getElem_cons hlt] at hres
    obtain ⟨ρ1, h4, h5⟩ := hres
    refine ⟨fun H => ∃ G' o done, Ex G1 G' ∧ Wd X.K X.prog X.w B G' H (o ++ ((D, .l done) :: fr)) ∧ done.length ≤ i + 1 ∧ turnsW Bd T F (wipeD ρ vs) (ds.drop (i + 1)) o done Φ, fun H' n => ⟨ds.length - (i + 1), by omega, rfl, hlt, n⟩, fun x H' y => ?_⟩
    obtain ⟨G2, g2, r2⟩ := wk.yld i ds[i] H G' x H' (List.getElem?_eq_getElem hlt) e2 W2.gh y
    have W3 := W2.step g2
    have er2 := (er.mono (e1.trans (e2.trans g2.gg))).wipe vs
    refine tgd.run x ds[i] _ ρ1 _ G2 H' _ g2.gh er2 r2 h4 fun σ3 er3 ho3 hl3 => ⟨?_, ?_⟩
    · rw [wipe_eq (σ := L2.wipe σ vs) (fun j hj => ho3 j fun z => hj (ho j z)) hl3, wipe_wipe]
    refine ⟨G2, ρ1, o, (D, .l done) :: fr, _, er3, W3, h5, fun k o1 H3 G3 h6 e3 W4 => ?_⟩
    cases k with
    | true =>
      rw [if_pos rfl] at h6
      refine iteT ?_
      refine ⟨G3, ρ1, o1, (D, .l done) :: fr, _, er3.mono e3, W4, h6, fun yd o2 v H4 G4 h7 e4 W5 r5 => ?_⟩
      have W6 := W5.perm (List.perm_middle (l₁ := o2) (a := (D, OC.l done)) (l₂ := fr)).symm
      obtain ⟨⟨acc, ha, hr⟩, _, _, _⟩ := W6.owd (D, .l done) List.mem_cons_self
      have hal := hr.length
      refine ⟨acc, ha, sz_lt (by omega), G4, o2, done ++ [yd], (e2.trans g2.gg).trans (e3.trans e4), ?_, by rw [List.length_append]; show done.length + 1 ≤ i + 1; omega, h7⟩
      have W7 := Wd.write (own := [(D, .l done)]) (fr := o2 ++ fr) (D := D) (c := .l done) (c' := .l (done ++ [yd])) (o := .lst (acc ++ [v])) W6 (by simp) ⟨acc ++ [v], upd_same, hr.append (.cons r5 .nil)⟩ (.inr ⟨acc, ha⟩)
      have e5 : setO [(D, OC.l done)] D (.l (done ++ [yd])) = [(D, .l (done ++ [yd]))] := by simp [setO]
      rw [e5] at W7
      exact W7.perm List.perm_middle
    | false =>
      rw [if_neg Bool.false_ne_true] at h6
      refine iteF ?_
      exact ⟨G3, o1, done, (e2.trans g2.gg).trans e3, W4, by omega, h6⟩
  · have e : i = ds.length := by omega
    subst e
    refine .inl ⟨wk.stop H (e2.trans W2.gh), ?_⟩
    rw [List.drop_eq_nil_of_le (Nat.le_refl _)] at hres
    have hres : Φ (.list done) o := hres
    have W3 := W2.perm (List.perm_middle (l₁ := o) (a := (D, OC.l done)) (l₂ := fr)).symm
    obtain ⟨G3, W4, r4, e4⟩ := Wd.release (own := [(D, .l done)]) (fr := o ++ fr) (D := D) (ds := done) W3 (by simp) hDx
    have e5 : delO [(D, OC.l done)] D = [] := by simp [delO]
    rw [e5] at W4
    exact q _ o _ H G3 hres (e1.trans (e2.trans e4)) W4 r4
theorem we_lc {elt tg iter : Expr} {ifs : List Expr} {scope : Scope} {own : List (Str × Nat)} {own1 : List Nat} {g : TG} {Bd : PyData → DE → Option DE} (hc : X.calm = true) (hN : X.N.Nodup) (hi : WI X B tg iter L) (ok : BlkOk X.N X.env.scope scope own) (tgd : TgD X.K own1 g Bd) (ho : ∀ j ∈ own1, j ∈ own.map (·.2))
    (hg : ∀ (s : Shared) (H : Hp) (C : Addr) (cl : List (Str × Addr)) (fp : List Addr), PG (X.blk s H scope (compEnvC scope cl C X.env) fp) tg g) (ht : ∀ (s : Shared) (H : Hp) (C : Addr) (cl : List (Str × Addr)) (fp : List Addr), PTs (X.blk s H scope (compEnvC scope cl C X.env) fp) ifs (tWT X.K X.prog X.w B T))
    (he : ∀ (s : Shared) (H : Hp) (C : Addr) (cl : List (Str × Addr)) (fp : List Addr), WE (X.blk s H scope (compEnvC scope cl C X.env) fp) B elt F) (hs : ∀ x, foldedSetIterable iter X.env x = pure x := by intro _; rfl) :
    WE X B (.ListComp elt [⟨tg, iter, ifs, 0⟩] scope pos) (lcW (own.map (·.2)) L Bd T F) := weakE (pe_lc hc hN hi ok hg ht he hs) fun _ _ _ h => lcW_in tgd ho h
/-! ### statements -/
def seqW (S1 S2 : WSt) : WSt := fun own ρ Φ => S1 own ρ fun r o => match r with
  | .nx ρ' => S2 o ρ' Φ
  | .rt d => Φ (.rt d) o
def nxW : WSt := fun own ρ Φ => Φ (.nx ρ) own
theorem wss_nil : WSs X B [] nxW := weakSs pss_nil fun D σ H => by
  rintro ⟨G, ρ, own, fr, Φ, er, W, hp, q⟩
  exact q _ own H G hp (Ex.refl G) W σ er
theorem wss_cons (h1 : WS X B st S1) (h2 : WSs X B rest S2) : WSs X B (st :: rest) (seqW S1 S2) := weakSs (pss_cons h1 h2) fun D σ H => by
  rintro ⟨G, ρ, own, fr, Φ, er, W, hp, q⟩
  refine ⟨G, ρ, own, fr, _, er, W, hp, fun r o H1 G1 h1 e1 W1 => ?_⟩
  cases r with
  | nx ρ' => exact fun σ' er' => ⟨G1, ρ', o, fr, Φ, er', W1, h1, fun r2 o2 H2 G2 h2 e2 W2 => q r2 o2 H2 G2 h2 (e1.trans e2) W2⟩
  | rt d => exact q (.rt d) o H1 G1 h1 e1 W1
theorem wss_one (h1 : WS X B st S1) : WSs X B [st] S1 := pss_one h1
def ifW (T : WTt) (S1 S2 : WSt) : WSt := fun own ρ Φ => T own ρ fun k o => if k = true then S1 o ρ Φ else S2 o ρ Φ
theorem ws_if (hc : WT X B c T) (ha : WSs X B sa S1) (hb : WSs X B sb S2) : WS X B (.If c sa sb pos) (ifW T S1 S2) := weakS (ps_if hc ha hb) fun D σ H => by
  rintro ⟨G, ρ, own, fr, Φ, er, W, hp, q⟩
  refine ⟨G, ρ, own, fr, _, er, W, hp, fun k o H1 G1 h1 e1 W1 => ?_⟩
  cases k with
  | true =>
    rw [if_pos rfl] at h1 ⊢
    exact ⟨G1, ρ, o, fr, Φ, er.mono e1, W1, h1, fun r2 o2 H2 G2 h2 e2 W2 => q r2 o2 H2 G2 h2 (e1.trans e2) W2⟩
  | false =>
    rw [if_neg Bool.false_ne_true] at h1 ⊢
    exact ⟨G1, ρ, o, fr, Φ, er.mono e1, W1, h1, fun r2 o2 H2 G2 h2 e2 W2 => q r2 o2 H2 G2 h2 (e1.trans e2) W2⟩
def retW (F : WF) : WSt := fun own ρ Φ => F own ρ fun d o => Φ (.rt d) o
theorem ws_ret (h : WE X B e F) : WS X B (.Return (some e) pos) (retW F) := weakS (ps_ret h) fun D σ H => by
  rintro ⟨G, ρ, own, fr, Φ, er, W, hp, q⟩
  exact ⟨G, ρ, own, fr, _, er, W, hp, fun d o v H1 G1 h1 e1 W1 r1 => q (.rt d) o H1 G1 h1 e1 W1 v r1⟩
def setW (i : Nat) (F : WF) : WSt := fun own ρ Φ => F own ρ fun d o => Φ (.nx (ρ.set i (some d))) o
theorem setW_in {i : Nat} {te : TE} (hw : ∀ σ H Q, tWE X.K X.prog X.w B F σ H Q → te σ H Q) : ∀ D σ H, tWS X.K X.prog X.w B (setW i F) D σ H → tAsg te (gName i) D σ H := by
  rintro D σ H ⟨G, ρ, own, fr, Φ, er, W, hp, q⟩
  exact hw _ _ _ ⟨G, ρ, own, fr, _, er, W, hp, fun d o v H1 G1 h1 e1 W1 r1 => q (.nx (ρ.set i (some d))) o H1 G1 h1 e1 W1 _ ((er.mono e1).set r1 i)⟩
theorem ws_set {i : Nat} {x : Str} {pos' : Pos} (he : WE X B e F) (hg : PG X (.Name x pos') (gName i)) (hs : swapsWithSole [.Name x pos'] e pos.line X.env = pure false := by rfl) (hw : swappedStores [.Name x pos'] e X.env = pure none := by rfl) : WS X B (.Assign [.Name x pos'] e pos) (setW i F) :=
  weakS (ps_asg he hg hs hw) (setW_in fun _ _ _ h => h)
theorem ws_setLc {i : Nat} {y : Str} {py spos : Pos} {elt tg iter : Expr} {ifs : List Expr} {scope : Scope} {own : List (Str × Nat)} {own1 : List Nat} {g : TG} {Bd : PyData → DE → Option DE} (hc : X.calm = true) (hN : X.N.Nodup) (hy : X.N[i]? = some y) (hyl : X.env.scope.names.lookup y = some .local)
    (hsw : swapsWith (.ListComp elt [⟨tg, iter, ifs, 0⟩] scope pos) (some (.Name y py)) spos.line X.env = pure true) (hi : WI X B tg iter L) (ok : BlkOk X.N X.env.scope scope own) (tgd : TgD X.K own1 g Bd) (ho : ∀ j ∈ own1, j ∈ own.map (·.2))
    (hg : ∀ (s : Shared) (H : Hp) (C : Addr) (cl : List (Str × Addr)) (fp : List Addr), PG (X.blk s H scope (compEnvC scope cl C X.env) fp) tg g) (ht : ∀ (s : Shared) (H : Hp) (C : Addr) (cl : List (Str × Addr)) (fp : List Addr), PTs (X.blk s H scope (compEnvC scope cl C X.env) fp) ifs (tWT X.K X.prog X.w B T))
    (he : ∀ (s : Shared) (H : Hp) (C : Addr) (cl : List (Str × Addr)) (fp : List Addr), WE (X.blk s H scope (compEnvC scope cl C X.env) fp) B elt F) (hs : ∀ x, foldedSetIterable iter X.env x = pure x := by intro _; rfl) :
    WS X B (.Assign [.Name y py] (.ListComp elt [⟨tg, iter, ifs, 0⟩] scope pos) spos) (setW i (lcW (own.map (·.2)) L Bd T F)) := weakS (ps_setLc hc hN hy hyl hsw hi ok hg ht he hs) (setW_in fun _ _ _ h => lcW_in tgd ho h)
def forW (Bd : PyData → DE → Option DE) (S : WSt) : List PyData → WSt
  | [], own, ρ, Φ => Φ (.nx ρ) own
  | d :: ds, own, ρ, Φ => ∃ ρ1, Bd d ρ = some ρ1 ∧ S own ρ1 fun r o => match r with
    | .nx ρ' => forW Bd S ds o ρ' Φ
    | .rt d => Φ (.rt d) o
def forsW (L : WFs) (Bd : PyData → DE → Option DE) (S : WSt) : WSt := fun own ρ Φ => L own ρ fun ds o => forW Bd S ds o ρ Φ
theorem ws_for {tg iter : Expr} {body : List Stmt} {g : TG} {own1 : List Nat} {Bd : PyData → DE → Option DE} (hp : PassesOwn (model X.prog X.w) X.A X.env X.xe) (hc : X.calm = true) (hi : WI X B tg iter L) (hg : PG X tg g) (ht : TgD X.K own1 g Bd) (hb : WSs X B body S)
    (hs : ∀ x, foldedSetIterable iter X.env x = pure x := by intro _; rfl) : WS X B (.For tg iter body [] pos) (forsW L Bd S) := weakS (ps_for hp hc hi hg hb hs) fun D σ H => by
  rintro ⟨G, ρ, own, fr, Φ, er, W, hp, q⟩
  refine ⟨G, ρ, own, fr, _, er, W, hp, fun ds o0 J H1 G1 h1 e1 W1 wk => ?_⟩
  refine ⟨fun i m σ' H' => m = ds.length - i ∧ i ≤ ds.length ∧ ∃ G' ρ' o, Ex G1 G' ∧ Wd X.K X.prog X.w B G' H' (o ++ fr) ∧ EnvR X.K G' σ' ρ' ∧ forW Bd S (ds.drop i) o ρ' Φ, ⟨ds.length, by simp, Nat.zero_le _, G1, ρ, o0, Ex.refl G1, W1, er.mono e1, h1⟩, ?_⟩
  rintro i m σ' H' ⟨rfl, hi', G', ρ', o, e2, W2, er', hf⟩
  by_cases hlt : i < ds.length
  · refine .inr ⟨wk.go i H' hlt (e2.trans W2.gh), ?_⟩
    rw [List.drop_eq_getElem_cons hlt] at hf
    obtain ⟨ρ1, h3, h5⟩ := hf
    refine ⟨fun σ' H' => ∃ G' ρ' o, Ex G1 G' ∧ Wd X.K X.prog X.w B G' H' (o ++ fr) ∧ EnvR X.K G' σ' ρ' ∧ forW Bd S (ds.drop (i + 1)) o ρ' Φ, fun σ2 H2 n => ⟨ds.length - (i + 1), by omega, rfl, hlt, n⟩, fun x H2 y => ?_⟩
    obtain ⟨G2, g3, r2⟩ := wk.yld i ds[i] H' G' x H2 (List.getElem?_eq_getElem hlt) e2 W2.gh y
    refine ht.run x ds[i] ρ' ρ1 σ' G2 H2 _ g3.gh (er'.mono g3.gg) r2 h3 fun σ3 er3 _ _ => ⟨G2, ρ1, o, fr, _, er3, W2.step g3, h5, fun r o3 H3 G3 h6 e3 W3 => ?_⟩
    cases r with
    | nx ρ2 => exact fun σ4 er4 => ⟨G3, ρ2, o3, (e2.trans g3.gg).trans e3, W3, er4, h6⟩
    | rt d => exact q (.rt d) o3 H3 G3 h6 (e1.trans ((e2.trans g3.gg).trans e3)) W3
  · have e : i = ds.length := by omega
    subst e
    refine .inl ⟨wk.stop H' (e2.trans W2.gh), ?_⟩
    rw [List.drop_eq_nil_of_le (Nat.le_refl _)] at hf
    exact q (.nx ρ') o H' G' hf (e1.trans e2) W2 σ' er'
/-! ### owned objects -/
theorem EnvR.see {K : PySem.W.Frag} {G : Hp} {σ : L2.St} {ρ : DE} {v : V} {d : PyData} {i : Nat} (r : EnvR K G σ ρ) (h : σ[i]? = some (some v)) (hd : RD K G v d) : EnvR K G σ (ρ.set i (some d)) := by
  have e := r.set hd i
  have z : σ.set i (some v) = σ := by
    apply List.ext_getElem?
    intro j
    by_cases hj : i = j
    · subst hj
      have hl := (List.getElem?_eq_some_iff.mp h).1
      rw [List.getElem?_set_self hl, h]
    · rw [List.getElem?_set_ne hj]
  rw [z] at e
  exact e
theorem opq_slot {K : PySem.W.Frag} {G : Hp} {σ : L2.St} {ρ : DE} {D : Addr} {i : Nat} (r : EnvR K G σ ρ) (h : sl ρ i = some (opq D)) : σ[i]? = some (some (.ref D)) := by
  obtain ⟨v, h1, h2⟩ := r.get i _ (sl_get h)
  rw [h1, rd_opq h2]
/-- x = [..], owned from now on -/
def newW (B : Ab) (i : Nat) (Fs : WFs) : WSt := fun own ρ Φ => Fs own ρ fun ds o => ds.length ≤ 100000 ∧ ∀ p, p ∉ B.ex → o.lookup p = none → Φ (.nx (ρ.set i (some (opq p)))) ((p, .l ds) :: o)
theorem look_none {p : Addr} : ∀ {own : Wo}, (∀ q ∈ own, q.1 ≠ p) → own.lookup p = none
  | [], _ => rfl
  | (a, c) :: r, h => by
    rw [List.lookup_cons]
    have ne := h (a, c) List.mem_cons_self
    have : (p == a) = false := by simpa using fun z => ne z.symm
    rw [this]
    exact look_none fun q hq => h q (List.mem_cons_of_mem _ hq)
theorem ws_new {i : Nat} {x : Str} {pos' lpos : Pos} (ha : WA X B es Fs) (hg : PG X (.Name x pos') (gName i)) (hs : swapsWithSole [.Name x pos'] (.List es lpos) pos.line X.env = pure false := by rfl) (hw : swappedStores [.Name x pos'] (.List es lpos) X.env = pure none := by rfl) :
    WS X B (.Assign [.Name x pos'] (.List es lpos) pos) (newW B i Fs) := weakS (ps_asg (pe_lst ha) hg hs hw) fun D σ H => by
  rintro ⟨G, ρ, own, fr, Φ, er, W, hp, q⟩
  refine ⟨G, ρ, own, fr, _, er, W, hp, fun ds o vs H1 G1 h1 e1 W1 r1 => ⟨sz_of (by rw [r1.length]; exact h1.1), fun p hpn => ?_⟩⟩
  have hx : p ∉ B.ex := fun z => W1.exs p z hpn
  have hl : o.lookup p = none := look_none fun q hq z => (W1.owd q (List.mem_append_left _ hq)).1.some (by rw [z]; exact hpn)
  exact q _ ((p, .l ds) :: o) _ G1 (h1.2 p hx hl) e1 (W1.new hpn ⟨vs, upd_same, r1⟩) _ ((er.mono e1).set (.opq p) i)
/-- x.append(e) -/
def appW (i : Nat) (F : WF) : WSt := fun own ρ Φ => ∃ D, sl ρ i = some (opq D) ∧ (∃ ds, own.lookup D = some (.l ds)) ∧ F own ρ fun d o => ∃ ds, o.lookup D = some (.l ds) ∧ ds.length < 100000 ∧ Φ (.nx ρ) (setO o D (.l (ds ++ [d])))
theorem ws_app {o : Expr} {i : Nat} {apos cpos : Pos} (ho : PE X o (tVar i)) (he : WE X B e F) (hbase : attributeBase o "append" X.env (eval o X.env) = eval o X.env := by rfl)
    (hfew : ((backTo cpos (starEach [e] X.env)).all (fun x => !x.1) && (backToKw cpos (keywordEach [] X.env)).all (fun x => x.1.isSome) && decide ([e].length + ([] : List Keyword).length + (if ([] : List Keyword).isEmpty then 0 else 1) < 30)) = true := by rfl)
    (hline : (apos.endLine == cpos.line) = true := by rfl) (hs : starEach [e] X.env = (false, eval e X.env) :: starEach [] X.env := by rfl) (hplain : (backTo cpos (starEach [] X.env)).any (·.1) = false := by rfl)
    (hsw : swapsWith (.Call (.Attribute o "append" apos) [e] [] cpos) none pos.line X.env = pure false := by rfl) :
    WS X B (.Expr (.Call (.Attribute o "append" apos) [e] [] cpos) pos) (appW i F) := by
  refine weakS (ps_expr (pe_bm PySem.F.plainAttrs_list PySem.F.slot_list_append PySem.F.type_list_append mt_append ho (pa_cons he pa_nil hs) hbase hfew hline hs hplain) hsw) fun D σ H => ?_
  rintro ⟨G, ρ, own, fr, Φ, er, W, ⟨A, h1, ⟨ds, h2⟩, hp⟩, q⟩
  have hσ := opq_slot er h1
  obtain ⟨⟨acc, ha, hr⟩, _, _, _⟩ := W.owd _ (List.mem_append_left _ (lookO h2))
  refine ⟨.ref A, hσ, .inl ⟨rfl, acc, .inl (.inl ha)⟩, G, ρ, own, fr, _, er, W, hp, fun d o v H1 G1 k1 e1 W1 r1 => ?_⟩
  obtain ⟨ds', k3, k4, k5⟩ := k1
  obtain ⟨⟨acc', ha', hr'⟩, _, _, _⟩ := W1.owd _ (List.mem_append_left _ (lookO k3))
  have hlen := hr'.length
  refine ⟨A, acc', v, rfl, rfl, ha', sz_lt (by omega), ?_⟩
  exact q (.nx ρ) _ _ G1 k5 e1 (Wd.write W1 k3 ⟨_, upd_same, hr'.append (.cons r1 .nil)⟩ (.inr ⟨_, ha'⟩)) σ (er.mono e1)
end
end DL

set_option Elab.async false
set_option linter.all false
set_option maxRecDepth 100000
set_option maxHeartbeats 4000000
namespace DL
open PySem PySem.Spec PyProof.Rows L2 Evl
theorem list_iaddW (l : Addr) (items : Array Value) (n : Nat) (b : Addr) (items2 : Array Value) (n2 : Nat) (dd2 : Option Addr) (sl2 : Array (Option Value)) (hs0 : ¬(!items.isEmpty && Builtin.List.listTooLong (items.size + items2.size)) = true) (hs1 : items.size ≤ sizeLine) (hs2 : items.size + items2.size ≤ sizeLine + 1) :
    Meets (Builtin.«list.__iadd__» ⟨[.ref l, .ref b], []⟩) (fun _ R s => s.heap.get? l = some { cls := .type "list", dict := none, data := .seq items n, slots := #[] } ∧ s.heap.get? b = some { cls := .type "list", dict := dd2, data := .seq items2 n2, slots := sl2 } ∧ R (.ok (.ret (Value.ref l))) { s with heap := s.heap.update l (Obj.mapSeq fun x => x ++ items2), toks := s.toks }) :=
  .of_wp fun prog w A R s h => by
    obtain ⟨hp, g, d, tk, os⟩ := s; obtain ⟨hl, hb, h⟩ := h; have f1 := AutoSeq1.idx_int; have f2 := AutoSeq1.sub_tuple_tuple; have f3 := AutoSeq1.sub_list_list; have f4 := AutoSeq1.sub_tuple_list; have f5 := AutoSeq1.sub_list_tuple
    have hz' : (items ++ items2).size ≤ sizeLine + 1 := by rw [Array.size_append]; exact hs2
    wp_walk using (wpAny_updateSeq hl rfl (hz := hs1) (_hz' := hz')), AutoSeq1.wpAny_loadPart' hl, AutoSeq1.wpAny_loadPart' hb; exact ⟨_, rfl, h⟩
section
variable {X : Cx} {B : Ab} {a b c e : Expr} {es : List Expr} {st : Stmt} {rest sa sb : List Stmt} {F F1 F2 : WF} {Fs : WFs} {L : WFs} {T T1 T2 : WTt} {S S1 S2 : WSt} {pos : Pos}
/-- x += data -/
def rExtL (K : PySem.W.Frag) : R2 := fun x y H Q => ∃ l b xs zs, x = .ref l ∧ y = .ref b ∧ H l = some (.lst xs) ∧ SqL K H b zs ∧ xs.length + zs.length ≤ sizeLine ∧ Q (.ref l) (upd H l (.lst (xs ++ zs)))
theorem iop_extL : OpR X (inplaceOp .Add) (rExtL X.K) := by
  intro pins s σ H x y v u Q I rx ry h
  obtain ⟨l, b, xs, zs, rfl, rfl, hH, hB, hz, q⟩ := h
  cases rx
  cases ry
  obtain ⟨z, its, n, r, hl, e⟩ := I.lstM hH
  obtain ⟨its2, r2, pl2, hl2⟩ := I.list hB
  obtain ⟨⟨cl, dd, dat, sls⟩, e2, hc, n2, hd⟩ := pl2.isList
  simp only at hc hd
  subst hc hd
  have ll := r2.length
  have hsz : its.toArray.size + its2.toArray.size ≤ sizeLine := by rw [List.size_toArray, List.size_toArray]; omega
  have hlong : ¬ (!its.toArray.isEmpty && Builtin.List.listTooLong (its.toArray.size + its2.toArray.size)) = true := by
    rw [notLongL hsz, Bool.and_false]
    exact Bool.false_ne_true
  refine iadd_road ⟨_, e, rfl⟩ ⟨_, e2, rfl⟩ (call_meets PySem.F.slot_list_iadd ⟨_, e, rfl⟩ PySem.F.entry_list_iadd (PySem.F.args_list_iadd_2 _ _)
    (list_iaddW l its.toArray n b its2.toArray n2 dd sls hlong (by rw [List.size_toArray]; omega) (by omega)) ⟨e, e2, ?_⟩)
  refine ⟨.ref l, _, I.lset (its' := its ++ its2) (t' := s.toks) hH e (by simp) (r.append r2) ?_, rfl, q⟩
  rw [List.length_append]
  omega
def extW (i : Nat) (F : WF) : WSt := fun own ρ Φ => ∃ D, sl ρ i = some (opq D) ∧ F own ρ fun d o => ∃ ds es, d = .list es ∧ o.lookup D = some (.l ds) ∧ ds.length + es.length ≤ 100000 ∧ Φ (.nx ρ) (setO o D (.l (ds ++ es)))
theorem opq_set {K : PySem.W.Frag} {G : Hp} {σ : L2.St} {ρ : DE} {D : Addr} {i : Nat} (r : EnvR K G σ ρ) (h : sl ρ i = some (opq D)) : EnvR K G (σ.set i (some (.ref D))) ρ := by
  have z : σ.set i (some (.ref D)) = σ := by
    have h := opq_slot r h
    apply List.ext_getElem?
    intro j
    by_cases hj : i = j
    · subst hj
      have hl := (List.getElem?_eq_some_iff.mp h).1
      rw [List.getElem?_set_self hl, h]
    · rw [List.getElem?_set_ne hj]
  rw [z]
  exact r
theorem ws_ext {i : Nat} {x : Str} {pos' : Pos} (hN : X.N.Nodup) (hi : X.N[i]? = some x) (hx : Loc X.env.scope x) (he : WE X B e F) (hf : X.fn x = true ∨ X.env.scope.names.lookup x = some .local := by first | exact .inl rfl | exact .inr rfl | assumption) : WS X B (.AugAssign (.Name x pos') .Add e pos) (extW i F) :=
  weakS (ps_aug hN hi hx he iop_extL hf) fun D σ H => by
    rintro ⟨G, ρ, own, fr, Φ, er, W, ⟨A, h1, hp⟩, q⟩
    refine ⟨.ref A, opq_slot er h1, G, ρ, own, fr, _, er, W, hp, fun d o v H1 G1 k1 e1 W1 r1 => ?_⟩
    obtain ⟨ds, es, rfl, k3, k4, k5⟩ := k1
    obtain ⟨⟨acc, ha, hr⟩, _, _, _⟩ := W1.owd _ (List.mem_append_left _ (lookO k3))
    have l1 := hr.length
    cases r1 with
    | lst s1 t1 =>
      have l2 := t1.length
      refine ⟨A, _, acc, _, rfl, rfl, ha, ex_l W1.gh s1, sz_of (by omega), ?_⟩
      exact q (.nx ρ) _ _ G1 k5 e1 (Wd.write W1 k3 ⟨_, upd_same, hr.append t1⟩ (.inr ⟨_, ha⟩)) _ (opq_set (er.mono e1) h1)
/-- x[k] = e -/
def putW (i : Nat) (k : Int) (F : WF) : WSt := fun own ρ Φ => ∃ D, sl ρ i = some (opq D) ∧ F own ρ fun d o => ∃ ds j, o.lookup D = some (.l ds) ∧ ixN ds.length k = some j ∧ Φ (.nx ρ) (setO o D (.l (ds.set j d)))
theorem RDs.set {K : PySem.W.Frag} {G : Hp} {v : V} {d : PyData} (r : RD K G v d) : ∀ {vs : List V} {ds : List PyData} (j : Nat), RDs K G vs ds → RDs K G (vs.set j v) (ds.set j d)
  | _, _, _, .nil => .nil
  | _, _, 0, .cons _ t => .cons r t
  | _, _, j + 1, .cons r' t => .cons r' (RDs.set r j t)
theorem ws_put {i j0 : Nat} {k : Int} {o : Expr} {p2 pos' : Pos} (ho : PE X o (tVar i)) (he : WE X B e F) (hs : swapsWithSole [.Subscript o (.Constant (.int k) j0 p2) pos'] e pos.line X.env = pure false := by rfl) (hw : swappedStores [.Subscript o (.Constant (.int k) j0 p2) pos'] e X.env = pure none := by rfl)
    (ha : ∀ v, assign (.Subscript o (.Constant (.int k) j0 p2) pos') X.env v = (do
      let ov ← holding [v] (eval o X.env)
      let iv ← holding [v, ov] (eval (.Constant (.int k) j0 p2) X.env)
      standAt pos'
      holding [v, ov, iv] (setItem ov iv v)
      release [v, ov, iv] []) := by intro _; rfl) : WS X B (.Assign [.Subscript o (.Constant (.int k) j0 p2) pos'] e pos) (putW i k F) :=
  weakS (ps_asg he (pg_sub ho pe_int set_list ha) hs hw) fun D σ H => by
    rintro ⟨G, ρ, own, fr, Φ, er, W, ⟨A, h1, hp⟩, q⟩
    refine ⟨G, ρ, own, fr, _, er, W, hp, fun d o v H1 G1 k1 e1 W1 r1 => ?_⟩
    obtain ⟨ds, j, k3, k4, k5⟩ := k1
    obtain ⟨⟨acc, ha, hr⟩, _, _, _⟩ := W1.owd _ (List.mem_append_left _ (lookO k3))
    refine ⟨.ref A, opq_slot er h1, A, acc, k, j, rfl, rfl, ha, by rw [hr.length]; exact k4, ?_⟩
    exact q (.nx ρ) _ _ G1 k5 e1 (Wd.write W1 k3 ⟨_, upd_same, hr.set r1 j⟩ (.inr ⟨_, ha⟩)) σ (er.mono e1)
/-! a look at an owned list -/
def scal : PyData → Bool
  | .none => true
  | .bool _ => true
  | .int _ => true
  | .str _ => true
  | _ => false
theorem scal_rd2 {K : PySem.W.Frag} {G G' : Hp} {v : V} {d : PyData} (h : scal d = true) (r : RD K G v d) : RD K G' v d := by
  cases r <;> first | (cases h; done) | constructor
theorem peek_in {G H : Hp} {σ : L2.St} {ρ : DE} {own fr : Wo} {D : Addr} {ds : List PyData} {i : Nat} (er : EnvR X.K G σ ρ) (W : Wd X.K X.prog X.w B G H (own ++ fr)) (h1 : sl ρ i = some (opq D)) (h2 : own.lookup D = some (.l ds)) :
    ∃ G2, Ex G2 H ∧ Ex G G2 ∧ EnvR X.K G2 σ (ρ.set i (some (.list ds))) ∧ ∀ H' G', Go G2 H G' H' → Wd X.K X.prog X.w B G H' (own ++ fr) := by
  obtain ⟨⟨acc, ha, hr⟩, hn, _, _⟩ := W.owd _ (List.mem_append_left _ (lookO h2))
  have e := Ex.new (o := .lst acc) hn
  refine ⟨upd G D (.lst acc), fun a o k => ?_, e, (er.mono e).see (opq_slot er h1) (rd_newL hn hr), fun H' G' g => W.step ⟨g.hh, W.gh.trans g.hh, Ex.refl G, fun a o k => .inl k⟩⟩
  by_cases z : a = D
  · rw [z, upd_same] at k; cases k; rw [z]; exact ha
  · rw [upd_ne z] at k; exact W.gh a o k
def peekW (i : Nat) (F : DF) : WF := fun own ρ Φ => ∃ D ds d, sl ρ i = some (opq D) ∧ own.lookup D = some (.l ds) ∧ F (ρ.set i (some (.list ds))) = some d ∧ scal d = true ∧ Φ d own
theorem we_peek {F : DF} (i : Nat) (h : PD X e F) : WE X B e (peekW i F) := weakE h fun σ H Q => by
  rintro ⟨G, ρ, own, fr, Φ, er, W, ⟨D, ds, d, h1, h2, h3, h4, h5⟩, q⟩
  obtain ⟨G2, e1, e2, er2, st⟩ := peek_in er W h1 h2
  exact ⟨G2, _, d, e1, er2, h3, fun v H' G' g r => q d own v H' G h5 (Ex.refl G) (st H' G' g) (scal_rd2 h4 r)⟩
def peekT (i : Nat) (T : DE → Option Bool) : WTt := fun own ρ Φ => ∃ D ds d, sl ρ i = some (opq D) ∧ own.lookup D = some (.l ds) ∧ T (ρ.set i (some (.list ds))) = some d ∧ Φ d own
theorem wt_peek {T : DE → Option Bool} (i : Nat) (h : PDT X e T) : WT X B e (peekT i T) := weakT h fun σ H Q => by
  rintro ⟨G, ρ, own, fr, Φ, er, W, ⟨D, ds, d, h1, h2, h3, h5⟩, q⟩
  obtain ⟨G2, e1, e2, er2, st⟩ := peek_in er W h1 h2
  exact ⟨G2, _, d, e1, er2, h3, fun H' G' g => q d own H' G h5 (Ex.refl G) (st H' G' g)⟩
/-- an owned list becomes data -/
def relW (B : Ab) (i : Nat) : WF := fun own ρ Φ => ∃ D ds, sl ρ i = some (opq D) ∧ own.lookup D = some (.l ds) ∧ D ∉ B.ex ∧ Φ (.list ds) (delO own D)
theorem we_rel {i : Nat} (h : PE X e (tVar i)) : WE X B e (relW B i) := weakE h fun σ H Q => by
  rintro ⟨G, ρ, own, fr, Φ, er, W, ⟨D, ds, h1, h2, h3, h4⟩, q⟩
  obtain ⟨G2, W2, r2, e2⟩ := W.release h2 h3
  exact ⟨.ref D, opq_slot er h1, q _ _ _ H G2 h4 e2 W2 r2⟩
/-! x in owned lists, deep -/
def deepIn (neg : Bool) : D2 := fun d e => match e with
  | .list ds => if okEq d = true ∧ okEq (.list ds) = true then some (.bool (if neg then !(ds.any fun z => PyData.eqv z d) else ds.any fun z => PyData.eqv z d)) else none
  | _ => none
theorem od_notInDeep (hu : X.A.units + 65 < cLine) : OD X (compareOp .NotIn) (deepIn true) := by
  refine OD.weak (op_notInD hu) ?_
  rintro x y H Q ⟨G, d, e, r, eg, r1, r2, h, q⟩
  unfold deepIn at h
  split at h
  · split at h
    · rename_i hh
      cases h
      obtain ⟨s1, n1⟩ := okEq_and hh.1
      obtain ⟨s2, n2⟩ := okEq_and hh.2
      exact ⟨d, _, RD.dp d x n1 (r1.mono eg), RD.dp _ y n2 (r2.mono eg), s1, s2, q _ H G (Go.refl eg) (.bl _)⟩
    · cases h
  · cases h
/-! ### calls of defs with owned arguments -/
abbrev WC := List PyData → Wo → (PyData → Wo → Prop) → Prop
def spW (K : PySem.W.Frag) (P : Program) (w : World) (TT : List (Addr × Str)) (g : WC) : Sp := fun vs H Q _ => ∃ G ds oc, ∃ Φ : PyData → Wo → Prop, RDs K G vs ds ∧ Wd K P w ⟨TT, oc.map (·.1) ++ TT.map (·.1), G, H⟩ G H oc ∧ g ds oc Φ ∧
  ∀ d o v H' G', Φ d o → Wd K P w ⟨TT, oc.map (·.1) ++ TT.map (·.1), G, H⟩ G' H' o → RD K G' v d → Q v H'
/-- one object given -/
def cal1W (g : WC) (Fs : WFs) : WF := fun own ρ Φ => Fs own ρ fun ds o => ∃ D c, o.lookup D = some c ∧ g ds [(D, c)] fun d o' => ∃ c', o'.lookup D = some c' ∧ Φ d (setO o D c')
/-- nothing given -/
def cal0W (g : WC) (Fs : WFs) : WF := fun own ρ Φ => Fs own ρ fun ds o => g ds [] fun d o' => Φ d o
theorem we_call1 {k f : Nat} {fd : FuncData} {ps : List Str} {g : WC} {x : Str} {p : Pos} (Fk : FnOk X.prog X.w X.K X.mg X.base CX0 k f fd ps (spW X.K X.prog X.w B.TT g)) (hr : Room k X.A) (hg : Gl X x) (hm : X.mg x = some (.ref f)) (hk : PySem.W.keepIn X.K (.ref f) = true)
    (hb : Binds X.K fd ps []) (ha : WA X B (e :: es) Fs) (hdb : (x == ("__debug__" : Str)) = false := by decide)
    (he : starEach (e :: es) X.env = (false, eval e X.env) :: starEach es X.env := by rfl) (hpl : (backTo pos (starEach es X.env)).any (·.1) = false := by rfl) :
    WE X B (.Call (.Name x p) (e :: es) [] pos) (cal1W g Fs) := by
  refine weakE (pe_call Fk hr hg hm hk hb .nil pass0 ha hdb he hpl) fun σ H Q => ?_
  rintro ⟨G, ρ, own, fr, Φ, er, W, hp, q⟩
  refine ⟨G, ρ, own, fr, _, er, W, hp, fun ds o vs H1 G1 h1 e1 W1 r1 => ?_⟩
  show spW X.K X.prog X.w B.TT g (vs ++ []) H1 Q E0
  rw [List.append_nil]
  obtain ⟨D, c, h2, h3⟩ := h1
  have sub : [(D, c)].Sublist (o ++ fr) := List.singleton_sublist.mpr (List.mem_append_left _ (lookO h2))
  refine ⟨G1, ds, [(D, c)], _, r1, W1.give sub, h3, fun d o' v H' G' h4 W' r' => ?_⟩
  obtain ⟨c', h5, h6⟩ := h4
  have hm := lookO h5
  have back := Wd.back (oc := [(D, c)]) (f := fun p => if p.1 = D then (p.1, c') else p) W1 (fun p hp => by simp at hp; rw [hp]; exact lookO h2) W' (fun p => by show (if p.1 = D then (p.1, c') else p).1 = p.1; split <;> rfl)
    (fun p _ hn => if_neg (by simpa using hn)) (fun p _ hs => by
      have hs : p.1 = D := by simpa using hs
      rw [if_pos hs, hs]
      exact hm)
  have e2 : (o ++ fr).map (fun p => if p.1 = D then (p.1, c') else p) = setO o D c' ++ fr := by
    rw [List.map_append]
    have nf : ∀ p ∈ fr, p.1 ≠ D := fun p hp z => by
      have nd := W1.nd
      rw [List.map_append, List.nodup_append] at nd
      exact nd.2.2 D (List.mem_map.mpr ⟨_, lookO h2, rfl⟩) p.1 (List.mem_map.mpr ⟨p, hp, rfl⟩) z.symm
    have := setO_out (c := c') nf
    unfold setO at this ⊢
    rw [this]
  rw [e2] at back
  exact q d _ v H' G' h6 (e1.trans W'.gg) back r'
theorem we_call0 {k f : Nat} {fd : FuncData} {ps : List Str} {g : WC} {x : Str} {p : Pos} (Fk : FnOk X.prog X.w X.K X.mg X.base CX0 k f fd ps (spW X.K X.prog X.w B.TT g)) (hr : Room k X.A) (hg : Gl X x) (hm : X.mg x = some (.ref f)) (hk : PySem.W.keepIn X.K (.ref f) = true)
    (hb : Binds X.K fd ps []) (ha : WA X B (e :: es) Fs) (hdb : (x == ("__debug__" : Str)) = false := by decide)
    (he : starEach (e :: es) X.env = (false, eval e X.env) :: starEach es X.env := by rfl) (hpl : (backTo pos (starEach es X.env)).any (·.1) = false := by rfl) :
    WE X B (.Call (.Name x p) (e :: es) [] pos) (cal0W g Fs) := by
  refine weakE (pe_call Fk hr hg hm hk hb .nil pass0 ha hdb he hpl) fun σ H Q => ?_
  rintro ⟨G, ρ, own, fr, Φ, er, W, hp, q⟩
  refine ⟨G, ρ, own, fr, _, er, W, hp, fun ds o vs H1 G1 h1 e1 W1 r1 => ?_⟩
  show spW X.K X.prog X.w B.TT g (vs ++ []) H1 Q E0
  rw [List.append_nil]
  refine ⟨G1, ds, [], _, r1, W1.give (List.nil_sublist _), h1, fun d o' v H' G' h4 W' r' => ?_⟩
  have back := Wd.back (oc := []) (f := id) W1 (fun p hp => by cases hp) W' (fun p => rfl) (fun p _ hn => rfl) (fun p _ hs => by cases hs)
  rw [List.map_id] at back
  exact q d _ v H' G' h4 (e1.trans W'.gg) back r'
end
/-! ### defs -/
def runW (n : Nat) (S : WSt) : WC := fun ds own Φ => S own (startD n ds) fun r o => match r with
  | .nx _ => Φ .none o
  | .rt d => Φ d o
theorem fn_W {P : Program} {w : World} {K : PySem.W.Frag} {mg : Str → Option Value} {base : Heap} {x qual : Str} {st : Stmt} {f : Addr} {fd : FuncData} {N ps : List Str} {k : Nat} {TT : List (Addr × Str)} {g : WC} (F : Fun K x qual st f fd) (sc : FnScope N ps (defScope st)) (hlen : ∀ ds o Φ, g ds o Φ → ds.length = ps.length)
    (h : ∀ (B : Ab) (cdv : Value) (A : Around) (outer : List Env) (s : Shared) (H : Hp) (E : XK), B.TT = TT → Room k (A.deeper (envOfC qual (defScope st) s.heap.objs.size f cdv)) → ∃ S, WSs (cxOf CX0 P w K mg base N qual (defScope st) f cdv A outer s H E).nox B (defBody st) S ∧
      ∀ ds oc Φ, g ds oc Φ → B.ex = oc.map (·.1) ++ TT.map (·.1) → runW N.length S ds oc Φ) :
    FnOk P w K mg base CX0 (k + 1) f fd ps (spW K P w TT g) := by
  refine F.ok sc (fun vs H Q E h => ?_) (fun cdv A outer s H vs Q E hr hq => ?_)
  · obtain ⟨G, ds, oc, Φ, r, W, hg, q⟩ := h
    rw [r.length]
    exact hlen _ _ _ hg
  · obtain ⟨G, ds, oc, Φ, r, W, hg, q⟩ := hq
    obtain ⟨S, hS, hd⟩ := h ⟨TT, oc.map (·.1) ++ TT.map (·.1), G, H⟩ cdv A outer s H E rfl hr
    refine ⟨_, hS, G, _, oc, [], _, start_rd r, by rw [List.append_nil]; exact W, hd ds oc Φ hg rfl, fun rs o H' G' h1 e1 W1 => ?_⟩
    rw [List.append_nil] at W1
    cases rs with
    | nx ρ => exact fun σ' _ => q .none o .non H' G' h1 W1 .non
    | rt d => exact fun v rv => q d o v H' G' h1 W1 rv
/-- a def that owns things only while it runs -/
theorem fn_G {P : Program} {w : World} {K : PySem.W.Frag} {mg : Str → Option Value} {base : Heap} {x qual : Str} {st : Stmt} {f : Addr} {fd : FuncData} {N ps : List Str} {k : Nat} {g : DC} (F : Fun K x qual st f fd) (sc : FnScope N ps (defScope st)) (hlen : ∀ ds d, g ds = some d → ds.length = ps.length)
    (h : ∀ (B : Ab) (cdv : Value) (A : Around) (outer : List Env) (s : Shared) (H : Hp) (E : XK), B.TT = [] → B.ex = [] → Room k (A.deeper (envOfC qual (defScope st) s.heap.objs.size f cdv)) → ∃ S, WSs (cxOf CX0 P w K mg base N qual (defScope st) f cdv A outer s H E).nox B (defBody st) S ∧
      ∀ ds d, g ds = some d → runW N.length S ds [] fun d' _ => d' = d) :
    FnOk P w K mg base CX0 (k + 1) f fd ps (spD K g) := by
  refine F.ok sc (fun vs H Q E h => ?_) (fun cdv A outer s H vs Q E hr hq => ?_)
  · obtain ⟨G, ds, d, eg, r, hg, q⟩ := h
    rw [r.length]
    exact hlen _ _ hg
  · obtain ⟨G, ds, d, eg, r, hg, q⟩ := hq
    obtain ⟨S, hS, hd⟩ := h ⟨[], [], G, H⟩ cdv A outer s H E rfl rfl hr
    have W : Wd K P w ⟨[], [], G, H⟩ G H [] := ⟨fun _ _ h _ => h, eg, Ex.refl G, fun _ _ h => .inl h, (fun _ h => by cases h), List.nodup_nil, (fun _ h => by cases h), (fun _ h => by cases h), (fun _ h => by cases h)⟩
    refine ⟨_, hS, G, _, [], [], _, start_rd r, by rw [List.append_nil]; exact W, hd ds d hg, fun rs o H' G' h1 e1 W1 => ?_⟩
    have go := (W1.go rfl)
    cases rs with
    | nx ρ =>
      intro σ' _
      have h1 : PyData.none = d := h1
      subst h1
      exact q .non H' G' go .non
    | rt d' =>
      intro v rv
      have h1 : d' = d := h1
      subst h1
      exact q v H' G' go rv
end DL

set_option Elab.async false
set_option linter.all false
set_option maxRecDepth 100000
set_option maxHeartbeats 4000000
/-! Owned dicts of nested keys. -/
namespace DL
open PySem PySem.Spec PyProof.Rows L2 Evl
theorem Wd.add {K : PySem.W.Frag} {P : Program} {w : World} {B : Ab} {G H G' H' : Hp} {own : Wo} {c : OC} {D : Addr} (W : Wd K P w B G H own) (g : Go G H G' H') (hD : H D = none) (hc : OHd K P w G' H' D c) (nD : G' D = none) : Wd K P w B G' H' ((D, c) :: own) := by
  have W' := W.step g
  have ne : ∀ q ∈ own, q.1 ≠ D := fun q hq z => (W.owd q hq).1.some (by rw [z]; exact hD)
  refine ⟨W'.hh, W'.gh, W'.gg, W'.fr, fun q hq => ?_, ?_, W'.tab, W'.tg, W'.exs⟩
  · rcases List.mem_cons.mp hq with rfl | hq
    · exact ⟨hc, nD, .inr (W.new0 hD), fun q hq z => by
        obtain ⟨ps, h, _⟩ := W.tab q hq
        rw [← z, hD] at h
        cases h⟩
    · exact W'.owd q hq
  · show (D :: own.map (·.1)).Nodup
    refine List.nodup_cons.mpr ⟨fun z => ?_, W.nd⟩
    obtain ⟨q, hq, e⟩ := List.mem_map.mp z
    exact ne q hq e
section
variable {X : Cx} {B : Ab} {a b c e o : Expr} {es : List Expr} {to : TE} {t : TA} {F F1 F2 : WF} {Fs : WFs} {pos : Pos}
/-! method calls on such a dict -/
def isNd (X : Cx) (x : V) (H : Hp) : Prop := ∃ D xs, x = .ref D ∧ H D = some (NDO X.prog X.w D xs)
theorem isN_ty {pins : List (Addr × Obj)} {σ : L2.St} {H : Hp} {s : Shared} {x : V} {v : Value} (I : Inv X pins σ H s) (r : RelV x v) (h : isNd X x H) : s.TypeIs v "dict" ∧ ∀ a, v = .ref a → ∃ ob, s.heap.get? a = some ob ∧ ob.dict = none := by
  obtain ⟨D, xs, rfl, hD⟩ := h
  cases r
  obtain ⟨⟨ob, es, ep, ho, hx, _⟩, _, _⟩ := I.hok D _ hD
  refine ⟨⟨ob, ho, hx.1⟩, fun a e => ?_⟩
  cases e
  exact ⟨ob, ho, hx.2.1⟩
def tBN (X : Cx) (r : V → List V → Hp → VK → Prop) (to : TE) (t : TA) : TE := fun σ H Q => to σ H fun x H1 => isNd X x H1 ∧ t σ H1 fun xs H2 => r x xs H2 Q
theorem pe_bmN {name : Str} {id : String} {apos cpos : Pos} {r : V → List V → Hp → VK → Prop} (slot : Slot "dict" name id) (hty : typeOf (.builtin id) = pure (.type "method_descriptor")) (hm : MtR X id r) (ho : PE X o to) (ha : PA X (e :: es) t)
    (hbase : attributeBase o name X.env (eval o X.env) = eval o X.env := by rfl)
    (hfew : ((backTo cpos (starEach (e :: es) X.env)).all (fun x => !x.1) && (backToKw cpos (keywordEach [] X.env)).all (fun x => x.1.isSome)
      && decide ((e :: es).length + ([] : List Keyword).length + (if ([] : List Keyword).isEmpty then 0 else 1) < 30)) = true := by rfl)
    (hline : (apos.endLine == cpos.line) = true := by rfl) (hs : starEach (e :: es) X.env = (false, eval e X.env) :: starEach es X.env := by rfl) (hplain : (backTo cpos (starEach es X.env)).any (·.1) = false := by rfl) :
    PE X (.Call (.Attribute o name apos) (e :: es) [] cpos) (tBN X r to t) := by
  refine ⟨fun pins s σ H Q I h => ?_⟩
  refine wpAny_Call_method_late hbase hfew hline rfl (thn (ho.run pins s σ H _ I h) fun v s1 ⟨x, H1, I1, r1, ty, q1⟩ => ?_)
  obtain ⟨h1, h2⟩ := isN_ty I1 r1 ty
  refine ⟨"dict", id, PySem.F.plainAttrs_dict, slot, hty, h1, h2, ?_⟩
  have hA := ha.run cpos pins s1 σ H1 _ I1 q1
  rw [hs] at hA ⊢
  refine Calls.callWith_builtin (by show (false || (backTo cpos (starEach es X.env)).any (·.1)) = false; rw [hplain] <;> rfl) (Calls.evalArgs_plain ?_)
  exact thn hA fun us s2 ⟨vs, H2, I2, r2, q2⟩ => hm pins s2 σ H2 x vs v us Q I2 r1 r2 q2
theorem pe_bmN0 {name : Str} {id : String} {apos cpos : Pos} {r : V → List V → Hp → VK → Prop} (slot : Slot "dict" name id) (hty : typeOf (.builtin id) = pure (.type "method_descriptor")) (hm : MtR X id r) (ho : PE X o to)
    (hbase : attributeBase o name X.env (eval o X.env) = eval o X.env := by rfl) (hline : (apos.endLine == cpos.line) = true := by rfl) : PE X (.Call (.Attribute o name apos) [] [] cpos) (fun σ H Q => to σ H fun x H1 => isNd X x H1 ∧ r x [] H1 Q) := by
  refine ⟨fun pins s σ H Q I h => ?_⟩
  refine wpAny_Call_method0_late hbase hline (thn (ho.run pins s σ H _ I h) fun v s1 ⟨x, H1, I1, r1, ty, q1⟩ => ?_)
  obtain ⟨h1, h2⟩ := isN_ty I1 r1 ty
  exact ⟨"dict", id, PySem.F.plainAttrs_dict, slot, hty, h1, h2, Calls.callWith_builtin rfl (PySem.evalArgs_none (hm pins s1 σ H1 x [] v [] Q I1 r1 .nil q1))⟩
/-! d.setdefault(k, v) -/
def rSetd (X : Cx) : V → List V → Hp → VK → Prop := fun x xs H Q => ∃ D G kvs kd vd, x = .ref D ∧ Ex G H ∧ NRep X.K X.prog X.w kvs D G H ∧ RDs X.K G xs [kd, vd] ∧ okK kd = true ∧ isTupD kd = true ∧ kvs.length ≤ 1000 ∧
  (∀ d v, lookD kvs kd = some d → RD X.K G v d → Q v H) ∧ (lookD kvs kd = none → ∀ u ob, RD X.K G u vd → OHd X.K X.prog X.w G (upd H D ob) D (.d (putD kvs kd vd)) → Q u (upd H D ob))
theorem mt_setd (hu : X.A.units + 64 < cLine) : MtR X "dict.setdefault" (rSetd X) := by
  intro pins s σ H x xs v us Q I rx rxs h
  obtain ⟨D, G, kvs, kd, vd, rfl, eg, rep, rd, hk, ht, hl, q1, q2⟩ := h
  cases rx
  obtain ⟨xs0, h1, h2, hm⟩ := rep.heap I eg
  obtain ⟨k, hk1, hk2⟩ := okK_some hk
  have hlen := ents_len h2
  cases rd with
  | cons r1 rt =>
    cases rt with
    | cons r2 rn =>
      cases rn
      cases rxs with
      | cons e1 et =>
        cases et with
        | cons e2 en =>
          cases en
          cases kd with
          | tuple kds =>
            cases r1 with
            | tup s1 t1 =>
              rename_i u2 ka vs1
              cases e1
              refine call_setdefault_heap (knd := nestedKind X.prog X.w) (k := k) (hsz := sz_of (by omega)) (by show (X.A.in1).units + 8 < cLine; show X.A.units + 1 + 8 < cLine; omega) ⟨nested_is I (.tuple kds) _ _ _ ((RD.tup s1 t1).mono eg) rfl hk1, hk2⟩ rep.low hm (fun p hp => ?_) fun hn h' hm' sb => ?_
              · rcases ents_find hk1 h2 with ⟨z1, z2⟩ | ⟨d, p', z1, z2, v0, z3, z4⟩
                · rw [hp] at z2; cases z2
                · rw [hp] at z2
                  cases z2
                  exact ⟨v0, H, I.tok _, z3, q1 d v0 z1 z4⟩
              · rcases ents_find hk1 h2 with ⟨z1, z2⟩ | ⟨d, p', z1, z2, v0, z3, z4⟩
                · obtain ⟨I', r', eg'⟩ := nd_wrote (tk := s.toks + (nestedKind X.prog X.w).draws k) I eg h1 rep.nD rep.low hm' sb (ents_put hk1 hk2 (.tup s1 t1) e2 r2 h2)
                  exact ⟨_, _, I', e2, q2 z1 _ _ r2 ⟨r'.ex, r'.low⟩⟩
                · rw [hn] at z2; cases z2
          | _ => cases ht
/-! d[k] = v -/
def rSetN (X : Cx) : V → V → V → Hp → (Hp → Prop) → Prop := fun x i v H Q => ∃ D G kvs kd vd, x = .ref D ∧ Ex G H ∧ NRep X.K X.prog X.w kvs D G H ∧ RD X.K G i kd ∧ RD X.K G v vd ∧ okK kd = true ∧ isTupD kd = true ∧ kvs.length ≤ 1000 ∧
  (∀ ob, OHd X.K X.prog X.w G (upd H D ob) D (.d (putD kvs kd vd)) → Q (upd H D ob))
theorem set_N (hu : X.A.units + 64 < cLine) : PSet X (rSetN X) := by
  intro pins s σ H x i v xv iv u Q I rx ri rv h
  obtain ⟨D, G, kvs, kd, vd, rfl, eg, rep, r1, r2, hk, ht, hl, q⟩ := h
  cases rx
  obtain ⟨xs0, h1, h2, hm⟩ := rep.heap I eg
  obtain ⟨k, hk1, hk2⟩ := okK_some hk
  have hlen := ents_len h2
  cases kd with
  | tuple kds =>
    cases r1 with
    | tup s1 t1 =>
      cases ri
      refine wpAny_setItem_heap (knd := nestedKind X.prog X.w) (k := k) (hsz := sz_of (by omega)) (by show X.A.units + 1 + 8 < cLine; omega) ⟨nested_is I (.tuple kds) _ _ _ ((RD.tup s1 t1).mono eg) rfl hk1, hk2⟩ hm fun h' hm' sb => ?_
      obtain ⟨I', r', eg'⟩ := nd_wrote (tk := s.toks + (nestedKind X.prog X.w).draws k) I eg h1 rep.nD rep.low hm' sb (ents_put hk1 hk2 (.tup s1 t1) rv r2 h2)
      exact ⟨_, I', q _ ⟨r'.ex, r'.low⟩⟩
  | _ => cases ht
/-! len(d), list(d.values()) -/
theorem call_lenN : CallR X (.builtin "len") (fun xs H Q => ∃ D G kvs, xs = [.ref D] ∧ Ex G H ∧ NRep X.K X.prog X.w kvs D G H ∧ kvs.length ≤ 1000 ∧ Q (.int kvs.length) H) := by
  intro pins s σ H xs us Q I r h
  obtain ⟨D, G, kvs, rfl, eg, rep, hl, q⟩ := h
  obtain rfl := Vals.ref1 r
  obtain ⟨xs0, h1, h2, hm⟩ := rep.heap I eg
  have hlen := ents_len h2
  refine call_len_dictH rep.low hm (by omega) ⟨.int kvs.length, H, I.tok _, ⟨_, by rw [hlen]⟩, q⟩
def viewO (r d : Addr) : HO := .ext fun h => h.IsValuesView r d
theorem viewO_ok {P : Program} {w : World} {H : Hp} {h : Heap} {r d : Addr} (q : h.IsValuesView r d) : ObjOk P w H h r (viewO r d) :=
  ⟨q, let ⟨o, ho, _⟩ := q; ⟨o, ho⟩, fun _ _ ⟨o, ho, z⟩ k => ⟨o, k o ho, z⟩⟩
theorem mt_valuesN : MtR X "dict.values" (fun x xs H Q => ∃ D G kvs, x = .ref D ∧ xs = [] ∧ Ex G H ∧ NRep X.K X.prog X.w kvs D G H ∧ ∀ r, H r = none → Q (.ref r) (upd H r (viewO r D))) := by
  intro pins s σ H x xs v us Q I rx rxs h
  obtain ⟨D, G, kvs, rfl, rfl, eg, rep, q⟩ := h
  cases rx
  cases rxs
  obtain ⟨xs0, h1, h2, ob, es, ep, ho, hx, hd, he, _⟩ := rep.heap I eg
  refine call_meetsIn PySem.F.slot_dict_values (T := "dict") ⟨ob, ho, hx.1⟩ PySem.F.entry_dict_values (PySem.F.args_dict_values_1 _) (meets_dict_values_raw D rep.low) ⟨⟨es, ep, ob, ho, hx, hd⟩, ?_⟩
  exact ⟨.ref s.heap.objs.size, upd H s.heap.objs.size (viewO s.heap.objs.size D), I.laid (t' := s.toks) (fun b u e => Heap.get?_push_of_some _ e) (Nat.le_refl _) (viewO_ok ⟨_, Heap.get?_push_size _ rfl, rfl, rfl⟩), rfl, q _ I.fresh⟩
theorem ents_vals {K : PySem.W.Frag} {G : Hp} : ∀ {xs : List (NestedKey × Addr × Value)} {kvs : List (PyData × PyData)}, EntsD K G xs kvs → ∃ vs, Vals vs (xs.map (·.2.2)) ∧ RDs K G vs (kvs.map (·.2))
  | _, _, .nil => ⟨[], .nil, .nil⟩
  | _, _, .cons r t => by
    obtain ⟨v, h1, h2⟩ := r.rv
    obtain ⟨vs, h3, h4⟩ := ents_vals t
    exact ⟨v :: vs, .cons h1 h3, .cons h2 h4⟩
theorem call_listV (hc : X.calm = true) : CallR X (.type "list") (fun xs H Q => ∃ r D G kvs, xs = [.ref r] ∧ H r = some (viewO r D) ∧ Ex G H ∧ NRep X.K X.prog X.w kvs D G H ∧ kvs.length ≤ 1000 ∧ DQ X.K G H (.list (kvs.map (·.2))) Q) := by
  intro pins s σ H xs us Q I r h
  obtain ⟨rv, D, G, kvs, rfl, hv, eg, rep, hl, q⟩ := h
  obtain rfl := Vals.ref1 r
  have low := rep.low
  obtain ⟨xs, h1, h2, ob, es, ep, ho, hx, hdt, he, _⟩ := rep.heap I eg
  obtain ⟨view, _, _⟩ := I.hok rv _ hv
  have view : s.heap.IsValuesView rv D := view
  have l1 : es.size = xs.length := size_of_entries he
  have l2 := ents_len h2
  refine PySem.W.kdl_call (KdlSrc.rawValues (es := es) (ep := ep)) (I.ok.hd hc) ⟨view, ob, ho, hx, hdt⟩ (sz_of (by omega)) fun h' tk acc' c' kp e it => ?_
  obtain ⟨vs, hvs, hrd⟩ := ents_vals h2
  have ea : acc'.toList = xs.map (·.2.2) := by
    have hl : acc'.toList.length = xs.length := by rw [Array.length_toList, it.1]; exact l1
    apply List.ext_getElem?
    intro j
    rw [List.getElem?_map]
    cases hj : acc'.toList[j]? with
    | none =>
      have h1 := List.getElem?_eq_none_iff.mp hj
      rw [List.getElem?_eq_none (by omega)]
      all_goals rfl
    | some v =>
      obtain ⟨hi, hv⟩ := it.2 j v (by rw [← Array.getElem?_toList]; exact hj)
      have qe := entry_at he j
      rw [Array.getElem?_eq_getElem hi] at qe
      cases hxj : xs[j]? with
      | none => rw [hxj] at qe; cases qe
      | some x =>
        rw [hxj] at qe
        have qe := Option.some.inj qe
        rw [hv, qe]
        rfl
  refine ⟨.ref s.heap.objs.size, upd H s.heap.objs.size (.lst vs), I.laid kp (Nat.le_refl _) ⟨by rw [hrd.length, List.length_map]; exact sz_of (by omega), acc'.toList, c', by rw [ea]; exact hvs, by rw [e]⟩, rfl, ?_⟩
  exact q _ _ _ (Go.new eg I.fresh) (rd_newL (fresh_back eg I.fresh) hrd)
/-! ### the same, owned -/
theorem Wd.rep {G H : Hp} {own fr : Wo} {D : Addr} {kvs : List (PyData × PyData)} (W : Wd X.K X.prog X.w B G H (own ++ fr)) (h : own.lookup D = some (.d kvs)) : NRep X.K X.prog X.w kvs D G H := by
  obtain ⟨⟨h1, h2⟩, h3, _⟩ := W.owd _ (List.mem_append_left _ (lookO h))
  exact ⟨h1, h2, h3⟩
theorem Wd.isNd {G H : Hp} {own fr : Wo} {D : Addr} {kvs : List (PyData × PyData)} (W : Wd X.K X.prog X.w B G H (own ++ fr)) (h : own.lookup D = some (.d kvs)) : DL.isNd X (.ref D) H := by
  obtain ⟨xs, h1, _⟩ := (W.rep h).ex
  exact ⟨D, xs, rfl, h1⟩
def sdW (i : Nat) (Fs : WFs) : WF := fun own ρ Φ => ∃ D, sl ρ i = some (opq D) ∧ (∃ kvs, own.lookup D = some (.d kvs)) ∧ Fs own ρ fun ds o => ∃ k v kvs, ds = [k, v] ∧ o.lookup D = some (.d kvs) ∧ kvs.length ≤ 1000 ∧ okK k = true ∧ isTupD k = true ∧
  match lookD kvs k with
  | some d => Φ d o
  | none => Φ v (setO o D (.d (putD kvs k v)))
theorem we_setd {i : Nat} {apos : Pos} (hu : X.A.units + 64 < cLine) (hT : B.TT = []) (ho : PE X o (tVar i)) (ha : WA X B (e :: es) Fs)
    (hbase : attributeBase o "setdefault" X.env (eval o X.env) = eval o X.env := by rfl)
    (hfew : ((backTo pos (starEach (e :: es) X.env)).all (fun x => !x.1) && (backToKw pos (keywordEach [] X.env)).all (fun x => x.1.isSome)
      && decide ((e :: es).length + ([] : List Keyword).length + (if ([] : List Keyword).isEmpty then 0 else 1) < 30)) = true := by rfl)
    (hline : (apos.endLine == pos.line) = true := by rfl) (hs : starEach (e :: es) X.env = (false, eval e X.env) :: starEach es X.env := by rfl) (hplain : (backTo pos (starEach es X.env)).any (·.1) = false := by rfl) :
    WE X B (.Call (.Attribute o "setdefault" apos) (e :: es) [] pos) (sdW i Fs) := by
  refine weakE (pe_bmN PySem.F.slot_dict_setdefault PySem.F.type_dict_setdefault (mt_setd hu) ho ha hbase hfew hline hs hplain) fun σ H Q => ?_
  rintro ⟨G, ρ, own, fr, Φ, er, W, ⟨D, h1, ⟨kvs0, h2⟩, hp⟩, q⟩
  refine ⟨.ref D, opq_slot er h1, W.isNd h2, G, ρ, own, fr, _, er, W, hp, fun ds o vs H1 G1 k1 e1 W1 r1 => ?_⟩
  obtain ⟨k, v, kvs, rfl, k2, k3, k4, k5, k6⟩ := k1
  refine ⟨D, G1, kvs, k, v, rfl, W1.gh, W1.rep k2, r1, k4, k5, k3, fun d v' z rz => ?_, fun z u ob rz oz => ?_⟩
  · rw [z] at k6
    exact q d o v' H1 G1 k6 e1 W1 rz
  · rw [z] at k6
    exact q v _ u _ G1 k6 e1 (Wd.write W1 k2 oz (.inl hT)) rz
def putDW (i : Nat) (Fk Fv : WF) : WSt := fun own ρ Φ => ∃ D, sl ρ i = some (opq D) ∧ Fv own ρ fun v o1 => Fk o1 ρ fun k o2 => ∃ kvs, o2.lookup D = some (.d kvs) ∧ kvs.length ≤ 1000 ∧ okK k = true ∧ isTupD k = true ∧ Φ (.nx ρ) (setO o2 D (.d (putD kvs k v)))
theorem ws_putD {i : Nat} {pos' : Pos} (hu : X.A.units + 64 < cLine) (hT : B.TT = []) (ho : PE X o (tVar i)) (hk : WE X B a F1) (he : WE X B e F2) (hs : swapsWithSole [.Subscript o a pos'] e pos.line X.env = pure false := by rfl) (hw : swappedStores [.Subscript o a pos'] e X.env = pure none := by rfl)
    (ha : ∀ v, assign (.Subscript o a pos') X.env v = (do
      let ov ← holding [v] (eval o X.env)
      let iv ← holding [v, ov] (eval a X.env)
      standAt pos'
      holding [v, ov, iv] (setItem ov iv v)
      release [v, ov, iv] []) := by intro _; rfl) : WS X B (.Assign [.Subscript o a pos'] e pos) (putDW i F1 F2) :=
  weakS (ps_asg he (pg_sub ho hk (set_N hu) ha) hs hw) fun D σ H => by
    rintro ⟨G, ρ, own, fr, Φ, er, W, ⟨A, h1, hp⟩, q⟩
    refine ⟨G, ρ, own, fr, _, er, W, hp, fun d o v H1 G1 k1 e1 W1 r1 => ⟨.ref A, opq_slot er h1, G1, ρ, o, fr, _, er.mono e1, W1, k1, fun d2 o2 u H2 G2 k2 e2 W2 r2 => ?_⟩⟩
    obtain ⟨kvs, k3, k4, k5, k6, k7⟩ := k2
    refine ⟨A, G2, kvs, d2, d, rfl, W2.gh, W2.rep k3, r2, r1.mono e2, k5, k6, k4, fun ob oz => ?_⟩
    exact q (.nx ρ) _ _ G2 k7 (e1.trans e2) (Wd.write W2 k3 oz (.inl hT)) σ (er.mono (e1.trans e2))
def lenDW (i : Nat) : WF := fun own ρ Φ => ∃ D kvs, sl ρ i = some (opq D) ∧ own.lookup D = some (.d kvs) ∧ kvs.length ≤ 1000 ∧ Φ (.int kvs.length) own
theorem we_lenD {i : Nat} {p : Pos} (hg : Gl X "len") (hm : X.mg "len" = none) (hv : PE X a (tVar i)) (hs : starEach [a] X.env = (false, eval a X.env) :: starEach [] X.env := by rfl) (hpl : (backTo pos (starEach [] X.env)).any (·.1) = false := by rfl) : WE X B (.Call (.Name "len" p) [a] [] pos) (lenDW i) :=
  weakE (pe_callB call_lenN hg hm boot_len (pa_cons hv pa_nil hs) (by decide) (by decide) hs hpl) fun σ H Q => by
    rintro ⟨G, ρ, own, fr, Φ, er, W, ⟨D, kvs, h1, h2, h3, h4⟩, q⟩
    exact ⟨.ref D, opq_slot er h1, D, G, kvs, rfl, W.gh, W.rep h2, h3, q _ own _ H G h4 (Ex.refl G) W (.int _)⟩
def valsW (i : Nat) : WF := fun own ρ Φ => ∃ D kvs, sl ρ i = some (opq D) ∧ own.lookup D = some (.d kvs) ∧ kvs.length ≤ 1000 ∧ Φ (.list (kvs.map (·.2))) own
theorem we_vals {i : Nat} {p apos cpos : Pos} (hc : X.calm = true) (hg : Gl X "list") (hm : X.mg "list" = none) (hv : PE X o (tVar i)) (hbase : attributeBase o "values" X.env (eval o X.env) = eval o X.env := by rfl) (hline : (apos.endLine == cpos.line) = true := by rfl)
    (hs : starEach [.Call (.Attribute o "values" apos) [] [] cpos] X.env = (false, eval (.Call (.Attribute o "values" apos) [] [] cpos) X.env) :: starEach [] X.env := by rfl) (hpl : (backTo pos (starEach [] X.env)).any (·.1) = false := by rfl) :
    WE X B (.Call (.Name "list" p) [.Call (.Attribute o "values" apos) [] [] cpos] [] pos) (valsW i) :=
  weakE (pe_callTy (call_listV hc) hg hm (by decide +kernel) (pa_cons (pe_bmN0 PySem.F.slot_dict_values PySem.F.type_dict_values mt_valuesN hv hbase hline) pa_nil hs) (by decide) (by decide) hs hpl) fun σ H Q => by
    rintro ⟨G, ρ, own, fr, Φ, er, W, ⟨D, kvs, h1, h2, h3, h4⟩, q⟩
    have rep := W.rep h2
    refine ⟨.ref D, opq_slot er h1, W.isNd h2, D, G, kvs, rfl, rfl, W.gh, rep, fun r hr => ?_⟩
    have g := Go.own (o := viewO r D) W.gh hr
    exact ⟨r, D, G, kvs, rfl, upd_same, g.gh, rep.step g, h3, fun v H2 G2 g2 r2 => q _ own v H2 G2 h4 g2.gg (W.step (g.trans g2)) r2⟩
def sortW (g : DC) (F : WF) : WF := fun own ρ Φ => F own ρ fun d o => ∃ r, sortedD g [d] = some r ∧ Φ r o
theorem we_sortedK {k f : Nat} {fd : FuncData} {x fn : Str} {g : DC} {p p2 kp : Pos} (Fk : FnOk X.prog X.w X.K X.mg X.base CX0 k f fd [x] (spD X.K g)) (hr : Room (k + 2) X.A) (hb : Binds X.K fd [x] []) (hg : Gl X "sorted") (hm : X.mg "sorted" = none)
    (hgf : Gl X fn) (hmf : X.mg fn = some (.ref f)) (ha : WE X B a F) (hdf : (fn == ("__debug__" : Str)) = false := by decide) (hs0 : starEach [a] X.env = (false, eval a X.env) :: starEach [] X.env := by rfl)
    (he : backTo pos (starEach [a] X.env) = (false, eval a X.env) :: backTo pos (starEach [] X.env) := by rfl) (hpl : (backTo pos (starEach [a] X.env)).any (·.1) = false := by rfl)
    (hall : (backToKw pos (keywordEach [⟨some "key", .Name fn p2, kp⟩] X.env)).all (·.1.isSome) = true := by rfl) (hnone : (backToKw pos (keywordEach [⟨some "key", .Name fn p2, kp⟩] X.env)).any (·.1.isNone) = false := by rfl) (hks : (backToKw pos (keywordEach [⟨some "key", .Name fn p2, kp⟩] X.env)).filterMap (·.1) = [Str.ofString "key"] := by rfl) :
    WE X B (.Call (.Name "sorted" p) [a] [⟨some "key", .Name fn p2, kp⟩] pos) (sortW g F) := by
  refine weakE (pe_callBK (cr_sortedK Fk hr hb) hg hm (by decide +kernel) (pa_cons ha pa_nil hs0) (pk_cons (pe_glob (v := .ref f) hgf hmf rfl hdf) pk_nil) (by decide) (by decide) he hpl hall hnone hks) fun σ H Q => ?_
  rintro ⟨G, ρ, own, fr, Φ, er, W, hp, q⟩
  exact ⟨G, ρ, own, fr, _, er, W, hp, fun d o v H1 G1 ⟨r, h1, h2⟩ e1 W1 r1 => ⟨rfl, G1, [d], r, W1.gh, .cons r1 .nil, h1, fun v' H2 G2 g2 r2 => q r o v' H2 G2 h2 (e1.trans g2.gg) (W1.step g2) r2⟩⟩
/-! d = {k: v for ..}, owned -/
def newDW (B : Ab) (i : Nat) (vs : List Nat) (L : DE → Option (List PyData)) (Bd : PyData → DE → Option DE) (F1 F2 : DF) : WSt := fun own ρ Φ => ∃ ds ps, L ρ = some ds ∧ ds.length ≤ 900 ∧ pairsD Bd F1 F2 (wipeD ρ vs) ds = some ps ∧
  ∀ p, p ∉ B.ex → own.lookup p = none → Φ (.nx (ρ.set i (some (opq p)))) ((p, .d (putAll [] ps)) :: own)
theorem ws_newD {i : Nat} {st : Stmt} {vs : List Nat} {L : DE → Option (List PyData)} {Bd : PyData → DE → Option DE} {F1 F2 : DF} (h : PS X st (tAsg (tDcN X.K X.prog X.w vs L Bd F1 F2) (gName i))) : WS X B st (newDW B i vs L Bd F1 F2) := weakS h fun D σ H => by
  rintro ⟨G, ρ, own, fr, Φ, er, W, ⟨ds, ps, h1, h2, h3, h4⟩, q⟩
  refine ⟨G, ρ, ds, ps, W.gh, er, h1, h2, h3, fun A H' G' hA g rep => ?_⟩
  have hx : A ∉ B.ex := fun z => W.exs A z hA
  have hl : own.lookup A = none := look_none fun q hq z => (W.owd q (List.mem_append_left _ hq)).1.some (by rw [z]; exact hA)
  have W' : Wd X.K X.prog X.w B G' H' ((A, .d (putAll [] ps)) :: (own ++ fr)) := W.add g hA ⟨rep.ex, rep.low⟩ rep.nD
  exact q _ ((A, .d (putAll [] ps)) :: own) H' G' (h4 A hx hl) g.gg W' _ ((er.mono g.gg).set (.opq A) i)
end
end DL

set_option Elab.async false
set_option linter.all false
set_option maxRecDepth 100000
set_option maxHeartbeats 4000000
namespace DL
open PySem PySem.Spec PyProof.Rows L2 Evl
section
variable {P : Program} {w : World} {K : PySem.W.Frag} {mg : Str → Option Value} {base : Heap} {CF : Addr}
def pk1 : PyData := .list [.tuple [.int 0]]
def pk2 : PyData := .list [.tuple [.int 0], .tuple [.int 1], .tuple [.int 0, .int 1], .tuple [.int 1, .int 0]]
def g_picks (CF : Addr) : DC := fun ds => match ds with
  | [.int n] => if n = 1 then some pk1 else if n = 2 then some pk2 else none
  | _ => none
def LC_picks : DF := lc2D [4, 5] [5] (fun ρ => ((fun ρ => sl ρ 2) ρ).bind asSeq) (oneB 4) yesT (rng1D fun ρ => sl ρ 0) (oneB 5) (fun ρ => (b2 (inD true) (fun ρ => sl ρ 5) (fun ρ => sl ρ 4) ρ).bind asB)
  (b2 addD (fun ρ => sl ρ 4) (fun ρ => ((fun ρ => (sl ρ 5).bind fun d => ((fun _ => some []) ρ).bind fun ds => some (d :: ds)) ρ).bind tupD))
def S_picks (B : Ab) : WSt := seqW (newW B 1 nilW) (seqW (pureS (setD 2 (fun ρ => ((fun ρ => ((fun ρ => ((fun _ => some []) ρ).bind tupD) ρ).bind fun d => ((fun _ => some []) ρ).bind fun ds => some (d :: ds)) ρ).bind lstD))) (seqW (forsW (pureA (rng1D fun ρ => sl ρ 0)) (oneB 3) (seqW (pureS (setD 2 LC_picks)) (extW 1 (pureW fun ρ => sl ρ 2)))) (retW (relW B 1))))
theorem picks_den (CF : Addr) (B : Ab) (hx : B.ex = []) : ∀ ds d, g_picks CF ds = some d → runW 6 (S_picks B) ds [] fun d' _ => d' = d := by
  intro ds d h
  unfold g_picks at h
  split at h
  · rename_i n
    split at h
    · rename_i e
      subst e
      cases h
      refine ⟨by decide, fun p hp _ => ⟨_, rfl, _, rfl, ?_⟩⟩
      refine ⟨_, rfl, _, rfl, p, rfl, _, rfl, [], _, rfl, by simp, by decide, ?_⟩
      refine ⟨p, _, rfl, by simp [setO], hp, rfl⟩
    · split at h
      · rename_i e
        subst e
        cases h
        refine ⟨by decide, fun p hp _ => ⟨_, rfl, _, rfl, ?_⟩⟩
        refine ⟨_, rfl, _, rfl, p, rfl, _, rfl, [], _, rfl, by simp, by decide, ?_⟩
        refine ⟨_, rfl, _, rfl, p, rfl, _, rfl, [.tuple [.int 0], .tuple [.int 1]], _, rfl, by simp [setO], by decide, ?_⟩
        refine ⟨p, _, rfl, by simp [setO], hp, rfl⟩
      · cases h
  · cases h
theorem ok_picks (T : Txt K mg w CF) : FnOk P w K mg base CX0 1 T.d_picks.f T.d_picks.fd ["columns"] (spD K (g_picks CF)) := by
  refine fn_G T.d_picks.fn sc_picks (fun ds d h => ?_) (fun B cdv A outer s H E hT hX hr => ⟨S_picks B, ?_, picks_den CF B hX⟩)
  · unfold g_picks at h
    split at h
    · rfl
    · cases h
  · have nd := sc_picks.nd
    exact wss_cons (ws_new (i := 1) wa_nil (pg_name (i := 1) nd rfl (by first | exact Or.inl rfl | exact Or.inr rfl)))
      (wss_cons (ws_pure (pds_set (ps_set (i := 2) nd rfl (by first | exact Or.inl rfl | exact Or.inr rfl) (pd_lst (pds_cons (pd_tup pds_nil) pds_nil))) (fun _ _ _ h => h)))
      (wss_cons (ws_for PassesOwn.never rfl (wi_pure (pdi_range1 (by rfl) T.b_range (pd_var (pv 0)))) (pg_name (i := 3) nd rfl (by first | exact Or.inl rfl | exact Or.inr rfl)) (tg_one 3)
        (wss_cons (ws_pure (pds_setLc2 (i := 2) (own := [("some", 4), ("column", 5)]) (vs1 := [5]) rfl nd rfl rfl (sw_true rfl rfl rfl (by decide +kernel)) (pdi_seq (pd_var (pv 2))) (blkOk_by (N := ["columns", "found", "longer", "many", "some", "column"]) (sc := defScope s_picks) (by decide +kernel)) (by decide) (tg_one 4) (by decide) (tg_one 5) (by decide)
          (fun _ _ _ _ _ => (pg_name (i := 4) nd rfl (by first | exact Or.inl rfl | exact Or.inr rfl))) (fun _ _ _ _ _ => pdts_nil) (fun _ _ _ _ _ => (pdi_range1 (by rfl) T.b_range (pd_var (pv 0)))) (fun _ _ _ _ _ => (pg_name (i := 5) nd rfl (by first | exact Or.inl rfl | exact Or.inr rfl)))
          (fun _ _ _ _ _ => (pdts_one (pdt_cmp od_notIn (pd_var (pv 5)) (pd_var (pv 4)) (by rfl)))) (fun _ _ _ _ _ => (pd_op od_add (pd_var (pv 4)) (pd_tup (pds_cons (pd_var (pv 5)) pds_nil))))))
        (wss_one (ws_ext (i := 1) nd rfl (by first | exact Or.inl rfl | exact Or.inr rfl) (we_pure (pd_var (pv 2)))))))
      (wss_one (ws_ret (we_rel (pv 1))))))
end
end DL

set_option Elab.async false
set_option linter.all false
set_option maxRecDepth 100000
set_option maxHeartbeats 4000000
namespace DL
open PySem PySem.Spec PyProof.Rows L2 Evl

section
variable {P : Program} {w : World} {K : PySem.W.Frag} {mg : Str → Option Value} {base : Heap} {CF : Addr}
def S_rows_told (CF : Addr) : DS := (seqD (ifD (fun ρ => ((fun ρ => ((fun ρ => sl ρ 2) ρ).bind (isiD "str")) ρ).bind asB) (retD (fun ρ => ((fun ρ => ((fun ρ => sl ρ 0) ρ).bind fun d => ((fun ρ => ((fun ρ => sl ρ 1) ρ).bind fun d => ((fun ρ => ((fun ρ => sl ρ 2) ρ).bind fun d => ((fun _ => some []) ρ).bind fun ds => some (d :: ds)) ρ).bind fun ds => some (d :: ds)) ρ).bind fun ds => some (d :: ds)) ρ).bind (g_rows_of CF))) nxD) (fun _ => none))
def g_rows_told (CF : Addr) : DC := runD 5 3 (S_rows_told CF)
theorem ok_rows_told (T : Txt K mg w CF) : FnOk P w K mg base CX0 4 T.d_rows_told.f T.d_rows_told.fd ["field", "book", "question"] (spD K (g_rows_told CF)) := fn_D T.d_rows_told.fn sc_rows_told fun cdv A outer s H E hr => by
  have nd := sc_rows_told.nd
  exact (pdss_cons (pds_if (pdt_val (pd_isi rfl T.b_isinstance (by decide +kernel) rfl T.b_str (by decide +kernel) (pd_var (pv 2)))) (pdss_one (pds_ret (pd_call (ok_rows_of T) (hr.mono (by decide)) (by rfl) T.d_rows_of.gl T.d_rows_of.fn.kp T.d_rows_of.bd (pds_cons (pd_var (pv 0)) (pds_cons (pd_var (pv 1)) (pds_cons (pd_var (pv 2)) pds_nil)))))) pdss_nil) pdss_never)
def S_answer (CF : Addr) : DS := (seqD (exprD (fun ρ => ((fun ρ => ((fun ρ => sl ρ 0) ρ).bind fun d => ((fun ρ => ((fun ρ => sl ρ 1) ρ).bind fun d => ((fun _ => some []) ρ).bind fun ds => some (d :: ds)) ρ).bind fun ds => some (d :: ds)) ρ).bind (g_check_question CF))) (retD (fun ρ => ((fun ρ => ((lcD [2] (rng1D (fun ρ => ((fun ρ => ((fun ρ => sl ρ 0) ρ).bind fun d => some [d]) ρ).bind (lenID CF (g___len__ CF)))) (oneB 2) yesT (fun ρ => ((fun ρ => ((fun ρ => sl ρ 0) ρ).bind fun d => ((fun ρ => ((fun ρ => sl ρ 2) ρ).bind fun d => ((fun ρ => ((fun ρ => sl ρ 1) ρ).bind fun d => ((fun _ => some []) ρ).bind fun ds => some (d :: ds)) ρ).bind fun ds => some (d :: ds)) ρ).bind fun ds => some (d :: ds)) ρ).bind (g_rows_told CF))) ρ).bind fun d => ((fun _ => some []) ρ).bind fun ds => some (d :: ds)) ρ).bind tupleD)))
def g_answer (CF : Addr) : DC := runD 3 2 (S_answer CF)
theorem ok_answer (T : Txt K mg w CF) : FnOk P w K mg base CX0 6 T.d_answer.f T.d_answer.fd ["field", "question"] (spD K (g_answer CF)) := fn_D T.d_answer.fn sc_answer fun cdv A outer s H E hr => by
  have nd := sc_answer.nd
  exact (pdss_cons (pds_expr (pd_call (ok_check_question T) (hr.mono (by decide)) (by rfl) T.d_check_question.gl T.d_check_question.fn.kp T.d_check_question.bd (pds_cons (pd_var (pv 0)) (pds_cons (pd_var (pv 1)) pds_nil)))) (pdss_one (pds_ret (pd_callTy cd_tuple (by rfl) T.b_tuple (by decide +kernel) (pds_cons (pd_lc (own := [("book", 2)]) rfl nd (pdi_range1 (by rfl) T.b_range (pd_callB (cd_lenI (k := 1) T.m_len (ok___len__ T) (hr.mono (by decide)) T.len_bd) (by rfl) T.b_len PySem.boot_len (pds_cons (pd_var (pv 0)) pds_nil))) (blkOk_by (N := ["field", "question", "book"]) (sc := defScope s_answer) (by decide +kernel)) (tg_one 2) (by decide) (fun _ _ _ _ _ => (pg_name (i := 2) nd rfl (by first | exact Or.inl rfl | exact Or.inr rfl))) (fun _ _ _ _ _ => pdts_nil) (fun _ _ _ _ _ => (pd_call (ok_rows_told T) (hr.mono (by decide)) (by rfl) T.d_rows_told.gl T.d_rows_told.fn.kp T.d_rows_told.bd (pds_cons (pd_var (pv 0)) (pds_cons (pd_var (pv 2)) (pds_cons (pd_var (pv 1)) pds_nil)))))) pds_nil)))))
def S_moves_by_word (CF : Addr) : DS := (seqD (ifD (fun ρ => (b2 eqFD (fun ρ => sl ρ 1) (fun _ => some (.str "same")) ρ).bind asB) (retD (lc2D [3, 4] [4] (rng1D (fun ρ => sl ρ 2)) (oneB 3) yesT (rng1D (fun ρ => sl ρ 3)) (oneB 4) yesT (fun ρ => ((fun ρ => ((fun ρ => sl ρ 1) ρ).bind fun d => ((fun ρ => ((fun ρ => sl ρ 4) ρ).bind fun d => ((fun ρ => ((fun ρ => sl ρ 3) ρ).bind fun d => ((fun _ => some []) ρ).bind fun ds => some (d :: ds)) ρ).bind fun ds => some (d :: ds)) ρ).bind fun ds => some (d :: ds)) ρ).bind tupD))) nxD) (seqD (ifD (fun ρ => (b2 eqFD (fun ρ => sl ρ 1) (fun _ => some (.str "below")) ρ).bind asB) (retD (lc2D [4, 3] [3] (rng1D (fun ρ => sl ρ 2)) (oneB 4) yesT (rng1D (fun ρ => sl ρ 2)) (oneB 3) (fun ρ => (b2 neFD (fun ρ => sl ρ 4) (fun ρ => sl ρ 3) ρ).bind asB) (fun ρ => ((fun ρ => ((fun ρ => sl ρ 1) ρ).bind fun d => ((fun ρ => ((fun ρ => sl ρ 4) ρ).bind fun d => ((fun ρ => ((fun ρ => sl ρ 3) ρ).bind fun d => ((fun _ => some []) ρ).bind fun ds => some (d :: ds)) ρ).bind fun ds => some (d :: ds)) ρ).bind fun ds => some (d :: ds)) ρ).bind tupD))) nxD) (seqD (ifD (fun ρ => (b2 eqFD (fun ρ => sl ρ 1) (fun _ => some (.str "value")) ρ).bind asB) (retD (lc2D [4, 5] [5] (rng1D (fun ρ => sl ρ 2)) (oneB 4) yesT (fun ρ => ((fun ρ => ((fun ρ => sl ρ 0) ρ).bind (attrD CF "named")) ρ).bind asSeq) (oneB 5) yesT (fun ρ => ((fun ρ => ((fun ρ => sl ρ 1) ρ).bind fun d => ((fun ρ => ((fun ρ => sl ρ 4) ρ).bind fun d => ((fun ρ => ((fun ρ => sl ρ 5) ρ).bind fun d => ((fun _ => some []) ρ).bind fun ds => some (d :: ds)) ρ).bind fun ds => some (d :: ds)) ρ).bind fun ds => some (d :: ds)) ρ).bind tupD))) nxD) (seqD (ifD (fun ρ => (b2 eqFD (fun ρ => sl ρ 1) (fun _ => some (.str "take")) ρ).bind asB) (retD (lcD [6] (fun ρ => ((fun ρ => ((fun ρ => ((fun ρ => sl ρ 2) ρ).bind fun d => ((fun _ => some []) ρ).bind fun ds => some (d :: ds)) ρ).bind (g_picks CF)) ρ).bind asSeq) (oneB 6) yesT (fun ρ => ((fun ρ => ((fun ρ => sl ρ 1) ρ).bind fun d => ((fun ρ => ((fun ρ => sl ρ 6) ρ).bind fun d => ((fun _ => some []) ρ).bind fun ds => some (d :: ds)) ρ).bind fun ds => some (d :: ds)) ρ).bind tupD))) nxD) (retD (fun ρ => ((fun _ => some []) ρ).bind lstD))))))
def g_moves_by_word (CF : Addr) : DC := runD 7 3 (S_moves_by_word CF)
theorem ok_moves_by_word (T : Txt K mg w CF) : FnOk P w K mg base CX0 2 T.d_moves_by_word.f T.d_moves_by_word.fd ["field", "word", "columns"] (spD K (g_moves_by_word CF)) := fn_D T.d_moves_by_word.fn sc_moves_by_word fun cdv A outer s H E hr => by
  have nd := sc_moves_by_word.nd
  exact (pdss_cons (pds_if (pdt_cmp od_eqF (pd_var (pv 1)) pd_str (nomark _)) (pdss_one (pds_ret (pd_lc2 (own := [("j", 3), ("i", 4)]) (vs1 := [4]) rfl nd (pdi_range1 (by rfl) T.b_range (pd_var (pv 2))) (blkOk_by (N := ["field", "word", "columns", "j", "i", "value", "picked"]) (sc := defScope s_moves_by_word) (by decide +kernel)) (by decide) (tg_one 3) (by decide) (tg_one 4) (by decide) (fun _ _ _ _ _ => (pg_name (i := 3) nd rfl (by first | exact Or.inl rfl | exact Or.inr rfl))) (fun _ _ _ _ _ => pdts_nil) (fun _ _ _ _ _ => (pdi_range1 (by rfl) T.b_range (pd_var (pv 3)))) (fun _ _ _ _ _ => (pg_name (i := 4) nd rfl (by first | exact Or.inl rfl | exact Or.inr rfl))) (fun _ _ _ _ _ => pdts_nil) (fun _ _ _ _ _ => (pd_tup (pds_cons (pd_var (pv 1)) (pds_cons (pd_var (pv 4)) (pds_cons (pd_var (pv 3)) pds_nil)))))))) pdss_nil) (pdss_cons (pds_if (pdt_cmp od_eqF (pd_var (pv 1)) pd_str (nomark _)) (pdss_one (pds_ret (pd_lc2 (own := [("i", 4), ("j", 3)]) (vs1 := [3]) rfl nd (pdi_range1 (by rfl) T.b_range (pd_var (pv 2))) (blkOk_by (N := ["field", "word", "columns", "j", "i", "value", "picked"]) (sc := defScope s_moves_by_word) (by decide +kernel)) (by decide) (tg_one 4) (by decide) (tg_one 3) (by decide) (fun _ _ _ _ _ => (pg_name (i := 4) nd rfl (by first | exact Or.inl rfl | exact Or.inr rfl))) (fun _ _ _ _ _ => pdts_nil) (fun _ _ _ _ _ => (pdi_range1 (by rfl) T.b_range (pd_var (pv 2)))) (fun _ _ _ _ _ => (pg_name (i := 3) nd rfl (by first | exact Or.inl rfl | exact Or.inr rfl))) (fun _ _ _ _ _ => (pdts_one (pdt_cmp od_neF (pd_var (pv 4)) (pd_var (pv 3)) (nomark _)))) (fun _ _ _ _ _ => (pd_tup (pds_cons (pd_var (pv 1)) (pds_cons (pd_var (pv 4)) (pds_cons (pd_var (pv 3)) pds_nil)))))))) pdss_nil) (pdss_cons (pds_if (pdt_cmp od_eqF (pd_var (pv 1)) pd_str (nomark _)) (pdss_one (pds_ret (pd_lc2 (own := [("i", 4), ("value", 5)]) (vs1 := [5]) rfl nd (pdi_range1 (by rfl) T.b_range (pd_var (pv 2))) (blkOk_by (N := ["field", "word", "columns", "j", "i", "value", "picked"]) (sc := defScope s_moves_by_word) (by decide +kernel)) (by decide) (tg_one 4) (by decide) (tg_one 5) (by decide) (fun _ _ _ _ _ => (pg_name (i := 4) nd rfl (by first | exact Or.inl rfl | exact Or.inr rfl))) (fun _ _ _ _ _ => pdts_nil) (fun _ _ _ _ _ => (pdi_seq (pd_fld T.cls T.na_named (pd_var (pv 0))))) (fun _ _ _ _ _ => (pg_name (i := 5) nd rfl (by first | exact Or.inl rfl | exact Or.inr rfl))) (fun _ _ _ _ _ => pdts_nil) (fun _ _ _ _ _ => (pd_tup (pds_cons (pd_var (pv 1)) (pds_cons (pd_var (pv 4)) (pds_cons (pd_var (pv 5)) pds_nil)))))))) pdss_nil) (pdss_cons (pds_if (pdt_cmp od_eqF (pd_var (pv 1)) pd_str (nomark _)) (pdss_one (pds_ret (pd_lc (own := [("picked", 6)]) rfl nd (pdi_seq (pd_call (ok_picks T) (hr.mono (by decide)) (by rfl) T.d_picks.gl T.d_picks.fn.kp T.d_picks.bd (pds_cons (pd_var (pv 2)) pds_nil))) (blkOk_by (N := ["field", "word", "columns", "j", "i", "value", "picked"]) (sc := defScope s_moves_by_word) (by decide +kernel)) (tg_one 6) (by decide) (fun _ _ _ _ _ => (pg_name (i := 6) nd rfl (by first | exact Or.inl rfl | exact Or.inr rfl))) (fun _ _ _ _ _ => pdts_nil) (fun _ _ _ _ _ => (pd_tup (pds_cons (pd_var (pv 1)) (pds_cons (pd_var (pv 6)) pds_nil))))))) pdss_nil) (pdss_one (pds_ret (pd_lst pds_nil)))))))
def S_moves_on_one (CF : Addr) : DS := (retD (lc2D [3, 4] [4] (fun ρ => ((fun ρ => sl ρ 1) ρ).bind asSeq) (oneB 3) yesT (fun ρ => ((fun ρ => ((fun ρ => ((fun ρ => sl ρ 0) ρ).bind fun d => ((fun ρ => ((fun ρ => sl ρ 3) ρ).bind fun d => ((fun ρ => ((fun ρ => sl ρ 2) ρ).bind fun d => ((fun _ => some []) ρ).bind fun ds => some (d :: ds)) ρ).bind fun ds => some (d :: ds)) ρ).bind fun ds => some (d :: ds)) ρ).bind (g_moves_by_word CF)) ρ).bind asSeq) (oneB 4) yesT (fun ρ => sl ρ 4)))
def g_moves_on_one (CF : Addr) : DC := runD 5 3 (S_moves_on_one CF)
theorem ok_moves_on_one (T : Txt K mg w CF) : FnOk P w K mg base CX0 3 T.d_moves_on_one.f T.d_moves_on_one.fd ["field", "words", "columns"] (spD K (g_moves_on_one CF)) := fn_D T.d_moves_on_one.fn sc_moves_on_one fun cdv A outer s H E hr => by
  have nd := sc_moves_on_one.nd
  exact (pdss_one (pds_ret (pd_lc2 (own := [("word", 3), ("move", 4)]) (vs1 := [4]) rfl nd (pdi_seq (pd_var (pv 1))) (blkOk_by (N := ["field", "words", "columns", "word", "move"]) (sc := defScope s_moves_on_one) (by decide +kernel)) (by decide) (tg_one 3) (by decide) (tg_one 4) (by decide) (fun _ _ _ _ _ => (pg_name (i := 3) nd rfl (by first | exact Or.inl rfl | exact Or.inr rfl))) (fun _ _ _ _ _ => pdts_nil) (fun _ _ _ _ _ => (pdi_seq (pd_call (ok_moves_by_word T) (hr.mono (by decide)) (by rfl) T.d_moves_by_word.gl T.d_moves_by_word.fn.kp T.d_moves_by_word.bd (pds_cons (pd_var (pv 0)) (pds_cons (pd_var (pv 3)) (pds_cons (pd_var (pv 2)) pds_nil)))))) (fun _ _ _ _ _ => (pg_name (i := 4) nd rfl (by first | exact Or.inl rfl | exact Or.inr rfl))) (fun _ _ _ _ _ => pdts_nil) (fun _ _ _ _ _ => (pd_var (pv 4))))))
def S_lot_of (CF : Addr) : DS := (seqD (setD 2 (fun ρ => ((fun ρ => ((fun ρ => sl ρ 0) ρ).bind fun d => ((fun ρ => ((fun ρ => sl ρ 1) ρ).bind fun d => ((fun _ => some []) ρ).bind fun ds => some (d :: ds)) ρ).bind fun ds => some (d :: ds)) ρ).bind (g_answer CF))) (retD (fun ρ => ((fun ρ => ((fun ρ => ((fun ρ => ((fun ρ => sl ρ 1) ρ).bind fun d => ((fun _ => some []) ρ).bind fun ds => some (d :: ds)) ρ).bind (g_size_of CF)) ρ).bind fun d => ((fun ρ => ((fun ρ => sl ρ 1) ρ).bind fun d => ((fun ρ => ((fun ρ => ((fun ρ => ((fun ρ => sl ρ 0) ρ).bind fun d => ((fun ρ => ((fun ρ => sl ρ 1) ρ).bind fun d => ((fun _ => some []) ρ).bind fun ds => some (d :: ds)) ρ).bind fun ds => some (d :: ds)) ρ).bind (g_columns_of CF)) ρ).bind fun d => ((fun ρ => ((fun ρ => sl ρ 2) ρ).bind fun d => ((fun _ => some []) ρ).bind fun ds => some (d :: ds)) ρ).bind fun ds => some (d :: ds)) ρ).bind fun ds => some (d :: ds)) ρ).bind fun ds => some (d :: ds)) ρ).bind tupD)))
def g_lot_of (CF : Addr) : DC := runD 3 2 (S_lot_of CF)
theorem ok_lot_of (T : Txt K mg w CF) : FnOk P w K mg base CX0 7 T.d_lot_of.f T.d_lot_of.fd ["field", "question"] (spD K (g_lot_of CF)) := fn_D T.d_lot_of.fn sc_lot_of fun cdv A outer s H E hr => by
  have nd := sc_lot_of.nd
  exact (pdss_cons (pds_set (ps_set (i := 2) nd rfl (by first | exact Or.inl rfl | exact Or.inr rfl) (pd_call (ok_answer T) (hr.mono (by decide)) (by rfl) T.d_answer.gl T.d_answer.fn.kp T.d_answer.bd (pds_cons (pd_var (pv 0)) (pds_cons (pd_var (pv 1)) pds_nil)))) (fun _ _ _ h => h)) (pdss_one (pds_ret (pd_tup (pds_cons (pd_call (ok_size_of T) (hr.mono (by decide)) (by rfl) T.d_size_of.gl T.d_size_of.fn.kp T.d_size_of.bd (pds_cons (pd_var (pv 1)) pds_nil)) (pds_cons (pd_var (pv 1)) (pds_cons (pd_call (ok_columns_of T) (hr.mono (by decide)) (by rfl) T.d_columns_of.gl T.d_columns_of.fn.kp T.d_columns_of.bd (pds_cons (pd_var (pv 0)) (pds_cons (pd_var (pv 1)) pds_nil))) (pds_cons (pd_var (pv 2)) pds_nil))))))))
def S_key_of (CF : Addr) : DS := (retD (fun ρ => ((fun ρ => ((b2 ixD (fun ρ => sl ρ 0) (fun _ => some (.int 2))) ρ).bind fun d => ((fun ρ => ((b2 ixD (fun ρ => sl ρ 0) (fun _ => some (.int 3))) ρ).bind fun d => ((fun _ => some []) ρ).bind fun ds => some (d :: ds)) ρ).bind fun ds => some (d :: ds)) ρ).bind tupD))
def g_key_of (CF : Addr) : DC := runD 1 1 (S_key_of CF)
theorem ok_key_of (T : Txt K mg w CF) : FnOk P w K mg base CX0 1 T.d_key_of.f T.d_key_of.fd ["lot"] (spD K (g_key_of CF)) := fn_D T.d_key_of.fn sc_key_of fun cdv A outer s H E hr => by
  have nd := sc_key_of.nd
  exact (pdss_one (pds_ret (pd_tup (pds_cons (pd_ix (pd_var (pv 0)) pd_int) (pds_cons (pd_ix (pd_var (pv 0)) pd_int) pds_nil)))))
end
end DL

set_option Elab.async false
set_option linter.all false
set_option maxRecDepth 100000
set_option maxHeartbeats 4000000
namespace DL
open PySem PySem.Spec PyProof.Rows L2 Evl
theorem sl_set {ρ : DE} {i : Nat} {x : Option PyData} (h : i < ρ.length) : sl (ρ.set i x) i = x := by
  unfold sl
  rw [List.getElem?_set_self h]
  cases x <;> rfl
theorem sl_ne {ρ : DE} {i j : Nat} {x : Option PyData} (h : i ≠ j) : sl (ρ.set i x) j = sl ρ j := by
  unfold sl
  rw [List.getElem?_set_ne h]
theorem turnsD_map {i : Nat} {F : DF} {ρ : DE} : ∀ ds : List PyData, turnsD (oneB i) yesT F ρ ds = mapD (fun d => F (ρ.set i (some d))) ds
  | [] => rfl
  | d :: ds => by
    show ((F (ρ.set i (some d))).bind fun y => (turnsD (oneB i) yesT F ρ ds).map (y :: ·)) = _
    rw [turnsD_map ds]
    rfl
/-- a loop that appends -/
theorem forW_app {Bd : PyData → DE → Option DE} {S : WSt} {p : Addr} {Good : DE → Prop} {step : PyData → Option PyData}
    (hS : ∀ m t found ρ (Ψ : Rs → Wo → Prop), Good ρ → step m = some t → found.length < 100000 → (∀ ρ', Good ρ' → Ψ (.nx ρ') [(p, .l (found ++ [t]))]) → ∃ ρ1, Bd m ρ = some ρ1 ∧ S [(p, .l found)] ρ1 Ψ) :
    ∀ (ms ts found : List PyData) (ρ : DE) (Φ : Rs → Wo → Prop), mapD step ms = some ts → found.length + ts.length ≤ 100000 → Good ρ → (∀ ρ', Good ρ' → Φ (.nx ρ') [(p, .l (found ++ ts))]) → forW Bd S ms [(p, .l found)] ρ Φ
  | [], _, found, ρ, Φ, h, _, g, q => by
    cases h
    have z := q ρ g
    rw [List.append_nil] at z
    exact z
  | m :: ms, _, found, ρ, Φ, h, hl, g, q => by
    obtain ⟨t, h1, h2⟩ := Option.bind_eq_some_iff.mp h
    obtain ⟨ts, h3, rfl⟩ := Option.map_eq_some_iff.mp h2
    rw [List.length_cons] at hl
    obtain ⟨ρ1, e1, e2⟩ := hS m t found ρ (fun r o => match r with
      | .nx ρ' => forW Bd S ms o ρ' Φ
      | .rt d => Φ (.rt d) o) g h1 (by omega) fun ρ' g' => forW_app hS ms ts (found ++ [t]) ρ' Φ h3 (by rw [List.length_append]; show found.length + 1 + ts.length ≤ _; omega) g' fun ρ2 g2 => by
        have z := q ρ2 g2
        rw [List.append_assoc]
        exact z
    exact ⟨ρ1, e1, e2⟩
section
variable {P : Program} {w : World} {K : PySem.W.Frag} {mg : Str → Option Value} {base : Heap} {CF : Addr}
def lboStep (CF : Addr) (f size question columns : PyData) (told : List PyData) (m : PyData) : Option PyData :=
  (mapD (fun one => g_done_on CF [m, one, .tuple []]) told).bind fun rows => (addD size (.int 1)).bind fun s1 => (addD m (.tuple [question])).bind fun q1 => (g_columns_by_one CF [f, m, columns]).bind fun c1 => some (.tuple [s1, q1, c1, .tuple rows])
def g_lots_by_one (CF : Addr) : DC := fun ds => match ds with
  | [f, .tuple [size, question, columns, .tuple told]] => if told.length ≤ 100 then (attrD CF "deeds" f).bind fun deeds => (g_moves_on_one CF [f, deeds, columns]).bind fun ms => (asSeq ms).bind fun ms => (mapD (lboStep CF f size question columns told) ms).bind fun ts => if ts.length ≤ 100000 then some (.list ts) else none else none
  | _ => none
structure GLbo (p : Addr) (f size question columns : PyData) (told : List PyData) (ρ : DE) : Prop where
  len : ρ.length = 10
  h0 : sl ρ 0 = some f
  h2 : sl ρ 2 = some size
  h3 : sl ρ 3 = some question
  h4 : sl ρ 4 = some columns
  h5 : sl ρ 5 = some (.tuple told)
  h6 : sl ρ 6 = some (opq p)
theorem GLbo.set {p : Addr} {f size question columns : PyData} {told : List PyData} {ρ : DE} (g : GLbo p f size question columns told ρ) {i : Nat} (hi : 7 ≤ i) (x : Option PyData) : GLbo p f size question columns told (ρ.set i x) :=
  ⟨by rw [List.length_set]; exact g.len, by rw [sl_ne (by omega)]; exact g.h0, by rw [sl_ne (by omega)]; exact g.h2, by rw [sl_ne (by omega)]; exact g.h3, by rw [sl_ne (by omega)]; exact g.h4, by rw [sl_ne (by omega)]; exact g.h5, by rw [sl_ne (by omega)]; exact g.h6⟩
theorem ok_lots_by_one (T : Txt K mg w CF) : FnOk P w K mg base CX0 9 T.d_lots_by_one.f T.d_lots_by_one.fd ["field", "lot"] (spD K (g_lots_by_one CF)) := by
  refine fn_G T.d_lots_by_one.fn sc_lots_by_one (fun ds d h => ?_) (fun B cdv A outer s H E hT hX hr => ?_)
  · unfold g_lots_by_one at h
    split at h
    · rfl
    · cases h
  · have nd := sc_lots_by_one.nd
    refine ⟨_, wss_cons (ws_pure (pds_unp [2, 3, 4, 5] (pd_var (pv 1)) (pg_tup rfl (pgs_cons (pg_name (i := 2) nd rfl (by first | exact Or.inl rfl | exact Or.inr rfl)) (pgs_cons (pg_name (i := 3) nd rfl (by first | exact Or.inl rfl | exact Or.inr rfl)) (pgs_cons (pg_name (i := 4) nd rfl (by first | exact Or.inl rfl | exact Or.inr rfl)) (pgs_cons (pg_name (i := 5) nd rfl (by first | exact Or.inl rfl | exact Or.inr rfl)) pgs_nil)))))))
      (wss_cons (ws_new (i := 6) wa_nil (pg_name (i := 6) nd rfl (by first | exact Or.inl rfl | exact Or.inr rfl)))
      (wss_cons (ws_for PassesOwn.never rfl (wi_pure (pdi_seq (pd_call (ok_moves_on_one T) (hr.mono (by decide)) (by rfl) T.d_moves_on_one.gl T.d_moves_on_one.fn.kp T.d_moves_on_one.bd (pds_cons (pd_var (pv 0)) (pds_cons (pd_fld T.cls T.na_deeds (pd_var (pv 0))) (pds_cons (pd_var (pv 4)) pds_nil)))))) (pg_name (i := 7) nd rfl (by first | exact Or.inl rfl | exact Or.inr rfl)) (tg_one 7)
        (wss_cons (ws_pure (pds_set (ps_set (i := 8) nd rfl (by first | exact Or.inl rfl | exact Or.inr rfl) (pd_callTy cd_tuple (by rfl) T.b_tuple (by decide +kernel) (pds_cons (pd_lc (own := [("one", 9)]) rfl nd (pdi_seq (pd_var (pv 5))) (blkOk_by (N := ["field", "lot", "size", "question", "columns", "told", "found", "move", "rows", "one"]) (sc := defScope s_lots_by_one) (by decide +kernel)) (tg_one 9) (by decide) (fun _ _ _ _ _ => (pg_name (i := 9) nd rfl (by first | exact Or.inl rfl | exact Or.inr rfl))) (fun _ _ _ _ _ => pdts_nil)
          (fun _ _ _ _ _ => pd_callDf (ok_done_on T) (hr.mono (by decide)) (by rfl) T.d_done_on.gl T.d_done_on.fn.kp T.d_done_on.bd T.d_done_on.dv T.r_E (pds_cons (pd_var (pv 7)) (pds_cons (pd_var (pv 9)) pds_nil)))) pds_nil))) (fun _ _ _ h => h)))
        (wss_one (ws_app (i := 6) (pv 6) (we_pure (pd_tup (pds_cons (pd_op od_add (pd_var (pv 2)) pd_int) (pds_cons (pd_op od_add (pd_var (pv 7)) (pd_tup (pds_cons (pd_var (pv 3)) pds_nil))) (pds_cons (pd_call (ok_columns_by_one T) (hr.mono (by decide)) (by rfl) T.d_columns_by_one.gl T.d_columns_by_one.fn.kp T.d_columns_by_one.bd (pds_cons (pd_var (pv 0)) (pds_cons (pd_var (pv 7)) (pds_cons (pd_var (pv 4)) pds_nil)))) (pds_cons (pd_var (pv 8)) pds_nil))))))))))
      (wss_one (ws_ret (we_rel (pv 6)))))), fun ds d h => ?_⟩
    unfold g_lots_by_one at h
    split at h
    · rename_i f size question columns told
      split at h
      · rename_i htl
        obtain ⟨deeds, k1, h⟩ := Option.bind_eq_some_iff.mp h
        obtain ⟨ms0, k2, h⟩ := Option.bind_eq_some_iff.mp h
        obtain ⟨ms, k3, h⟩ := Option.bind_eq_some_iff.mp h
        obtain ⟨ts, k4, h⟩ := Option.bind_eq_some_iff.mp h
        split at h
        · rename_i hts
          cases h
          refine ⟨_, rfl, ⟨by decide, fun p hp _ => ?_⟩⟩
          have g0 : GLbo p f size question columns told ((setAll (startD 10 [f, .tuple [size, question, columns, .tuple told]]) [2, 3, 4, 5] [size, question, columns, .tuple told]).set 6 (some (opq p))) := ⟨rfl, rfl, rfl, rfl, rfl, rfl, rfl⟩
          show ∃ _, _ ∧ _
          refine ⟨ms, ?_, ?_⟩
          · show (((some f).bind fun d => ((((some f).bind (attrD CF "deeds")).bind fun d => ((some columns).bind fun d => some [d]).bind fun ds => some (d :: ds)).bind fun ds => some (d :: ds))).bind (g_moves_on_one CF)).bind asSeq = some ms
            simp only [Option.bind_some, k1, k2, k3]
          · refine forW_app (Good := GLbo p f size question columns told) (step := lboStep CF f size question columns told) (fun m t found ρ Ψ g ht hf q => ?_) ms ts [] _ _ k4 (by simpa using hts) g0 fun ρ' g' => ?_
            · refine ⟨_, rfl, ?_⟩
              unfold lboStep at ht
              obtain ⟨rows, j1, ht⟩ := Option.bind_eq_some_iff.mp ht
              obtain ⟨s1, j2, ht⟩ := Option.bind_eq_some_iff.mp ht
              obtain ⟨q1, j3, ht⟩ := Option.bind_eq_some_iff.mp ht
              obtain ⟨c1, j4, ht⟩ := Option.bind_eq_some_iff.mp ht
              cases ht
              have g1 := g.set (i := 7) (by omega) (some m)
              have e7 : sl (ρ.set 7 (some m)) 7 = some m := sl_set (by rw [g.len]; omega)
              have g2 := g1.set (i := 8) (by omega) (some (.tuple rows))
              have e7' : sl ((ρ.set 7 (some m)).set 8 (some (.tuple rows))) 7 = some m := by rw [sl_ne (by omega)]; exact e7
              have e8 : sl ((ρ.set 7 (some m)).set 8 (some (.tuple rows))) 8 = some (.tuple rows) := sl_set (by rw [g1.len]; omega)
              refine ⟨.nx ((ρ.set 7 (some m)).set 8 (some (.tuple rows))), ?_, ⟨p, g2.h6, ⟨found, by simp⟩, ?_⟩⟩
              · have elc : lcD [9] (fun ρ => (sl ρ 5).bind asSeq) (oneB 9) yesT (fun ρ => (((sl ρ 7).bind fun d => ((sl ρ 9).bind fun d => some [d]).bind fun ds => some (d :: ds))).bind fun ds => g_done_on CF (ds ++ [.tuple []])) (ρ.set 7 (some m)) = some (.list rows) := by
                  show (((sl (ρ.set 7 (some m)) 5).bind asSeq).bind _) = _
                  rw [g1.h5]
                  show (if told.length ≤ 100000 then _ else _) = _
                  rw [if_pos (by omega), turnsD_map]
                  have e9 : ∀ one, sl ((wipeD (ρ.set 7 (some m)) [9]).set 9 (some one)) 9 = some one := fun one => sl_set (by show ((ρ.set 7 (some m)).set 9 none).length > 9; rw [List.length_set, g1.len]; omega)
                  have e79 : ∀ one, sl ((wipeD (ρ.set 7 (some m)) [9]).set 9 (some one)) 7 = some m := fun one => by
                    rw [sl_ne (by omega)]
                    show sl ((ρ.set 7 (some m)).set 9 none) 7 = _
                    rw [sl_ne (by omega)]
                    exact e7
                  have ef : (fun d => (fun ρ : DE => (((sl ρ 7).bind fun d => ((sl ρ 9).bind fun d => some [d]).bind fun ds => some (d :: ds))).bind fun ds => g_done_on CF (ds ++ [.tuple []])) ((wipeD (ρ.set 7 (some m)) [9]).set 9 (some d))) = fun one => g_done_on CF [m, one, .tuple []] := by
                    funext one
                    simp only [e9, e79, Option.bind_some]
                    rfl
                  rw [ef, j1]
                  rfl
                show (((lcD [9] (fun ρ => (sl ρ 5).bind asSeq) (oneB 9) yesT (fun ρ => (((sl ρ 7).bind fun d => ((sl ρ 9).bind fun d => some [d]).bind fun ds => some (d :: ds))).bind fun ds => g_done_on CF (ds ++ [.tuple []])) (ρ.set 7 (some m))).bind fun d => some [d]).bind tupleD).map (fun d => Rs.nx ((ρ.set 7 (some m)).set 8 (some d))) = _
                rw [elc]
                rfl
              · have jt : tupD [question] = some (.tuple [question]) := rfl
                refine ⟨.tuple [s1, q1, c1, .tuple rows], ?_, found, by simp, hf, ?_⟩
                · simp only [b2, g2.h2, g2.h3, g2.h4, g2.h0, e7', e8, Option.bind_some, jt, j2, j3, j4]
                  rfl
                · have z := q _ g2
                  simpa [setO] using z
            · exact ⟨p, ts, g'.h6, by simp, by rw [hX]; simp, rfl⟩
        · cases h
      · cases h
    · cases h
end
end DL

set_option Elab.async false
set_option linter.all false
set_option maxRecDepth 100000
set_option maxHeartbeats 4000000
namespace DL
open PySem PySem.Spec PyProof.Rows L2 Evl

section
variable {P : Program} {w : World} {K : PySem.W.Frag} {mg : Str → Option Value} {base : Heap} {CF : Addr}
def S_made_lots (CF : Addr) : DS := (seqD (ifD (fun ρ => (b2 eqFD (fun ρ => sl ρ 1) (fun _ => some (.int 1)) ρ).bind asB) (retD (lcD [7] (fun ρ => ((fun ρ => ((fun ρ => ((fun ρ => sl ρ 0) ρ).bind fun d => ((fun _ => some []) ρ).bind fun ds => some (d :: ds)) ρ).bind (g_names_of CF)) ρ).bind asSeq) (oneB 7) yesT (fun ρ => ((fun ρ => ((fun ρ => sl ρ 0) ρ).bind fun d => ((fun ρ => ((fun ρ => sl ρ 7) ρ).bind fun d => ((fun _ => some []) ρ).bind fun ds => some (d :: ds)) ρ).bind fun ds => some (d :: ds)) ρ).bind (g_lot_of CF)))) nxD) (seqD (setD 3 (lc2D [4, 6] [6] (fun ρ => ((fun ρ => sl ρ 2) ρ).bind asSeq) (oneB 4) (fun ρ => (b2 eqFD (b2 addD (b2 ixD (fun ρ => sl ρ 4) (fun _ => some (.int 0))) (fun _ => some (.int 1))) (fun ρ => sl ρ 1) ρ).bind asB) (fun ρ => ((fun ρ => ((fun ρ => ((fun ρ => sl ρ 0) ρ).bind fun d => ((fun ρ => ((fun ρ => sl ρ 4) ρ).bind fun d => ((fun _ => some []) ρ).bind fun ds => some (d :: ds)) ρ).bind fun ds => some (d :: ds)) ρ).bind (g_lots_by_one CF)) ρ).bind asSeq) (oneB 6) yesT (fun ρ => sl ρ 6))) (seqD (forS (fun ρ => ((fun ρ => sl ρ 2) ρ).bind asSeq) (oneB 4) (forS (fun ρ => ((fun ρ => sl ρ 2) ρ).bind asSeq) (oneB 5) (ifD (fun ρ => (b2 eqFD (b2 addD (b2 addD (b2 ixD (fun ρ => sl ρ 4) (fun _ => some (.int 0))) (b2 ixD (fun ρ => sl ρ 5) (fun _ => some (.int 0)))) (fun _ => some (.int 1))) (fun ρ => sl ρ 1) ρ).bind asB) (fun _ => none) nxD))) (retD (fun ρ => sl ρ 3)))))
def g_made_lots (CF : Addr) : DC := runD 8 3 (S_made_lots CF)
theorem ok_made_lots (T : Txt K mg w CF) : FnOk P w K mg base CX0 10 T.d_made_lots.f T.d_made_lots.fd ["field", "size", "lots"] (spD K (g_made_lots CF)) := fn_D T.d_made_lots.fn sc_made_lots fun cdv A outer s H E hr => by
  have nd := sc_made_lots.nd
  exact (pdss_cons (pds_if (pdt_cmp od_eqF (pd_var (pv 1)) pd_int (nomark _)) (pdss_one (pds_ret (pd_lc (own := [("name", 7)]) rfl nd (pdi_seq (pd_call (ok_names_of T) (hr.mono (by decide)) (by rfl) T.d_names_of.gl T.d_names_of.fn.kp T.d_names_of.bd (pds_cons (pd_var (pv 0)) pds_nil))) (blkOk_by (N := ["field", "size", "lots", "found", "lot", "second", "made", "name"]) (sc := defScope s_made_lots) (by decide +kernel)) (tg_one 7) (by decide) (fun _ _ _ _ _ => (pg_name (i := 7) nd rfl (by first | exact Or.inl rfl | exact Or.inr rfl))) (fun _ _ _ _ _ => pdts_nil) (fun _ _ _ _ _ => (pd_call (ok_lot_of T) (hr.mono (by decide)) (by rfl) T.d_lot_of.gl T.d_lot_of.fn.kp T.d_lot_of.bd (pds_cons (pd_var (pv 0)) (pds_cons (pd_var (pv 7)) pds_nil))))))) pdss_nil) (pdss_cons (pds_setLc2 (i := 3) (own := [("lot", 4), ("made", 6)]) (vs1 := [6]) rfl nd rfl rfl (sw_true rfl rfl rfl (by decide +kernel)) (pdi_seq (pd_var (pv 2))) (blkOk_by (N := ["field", "size", "lots", "found", "lot", "second", "made", "name"]) (sc := defScope s_made_lots) (by decide +kernel)) (by decide) (tg_one 4) (by decide) (tg_one 6) (by decide) (fun _ _ _ _ _ => (pg_name (i := 4) nd rfl (by first | exact Or.inl rfl | exact Or.inr rfl))) (fun _ _ _ _ _ => (pdts_one (pdt_cmp od_eqF (pd_op od_add (pd_ix (pd_var (pv 4)) pd_int) pd_int) (pd_var (pv 1)) (nomark _)))) (fun _ _ _ _ _ => (pdi_seq (pd_call (ok_lots_by_one T) (hr.mono (by decide)) (by rfl) T.d_lots_by_one.gl T.d_lots_by_one.fn.kp T.d_lots_by_one.bd (pds_cons (pd_var (pv 0)) (pds_cons (pd_var (pv 4)) pds_nil))))) (fun _ _ _ _ _ => (pg_name (i := 6) nd rfl (by first | exact Or.inl rfl | exact Or.inr rfl))) (fun _ _ _ _ _ => pdts_nil) (fun _ _ _ _ _ => (pd_var (pv 6)))) (pdss_cons (pds_for PassesOwn.never rfl (pdi_seq (pd_var (pv 2))) (pg_name (i := 4) nd rfl (by first | exact Or.inl rfl | exact Or.inr rfl)) (tg_one 4) (pdss_one (pds_for PassesOwn.never rfl (pdi_seq (pd_var (pv 2))) (pg_name (i := 5) nd rfl (by first | exact Or.inl rfl | exact Or.inr rfl)) (tg_one 5) (pdss_one (pds_if (pdt_cmp od_eqF (pd_op od_add (pd_op od_add (pd_ix (pd_var (pv 4)) pd_int) (pd_ix (pd_var (pv 5)) pd_int)) pd_int) (pd_var (pv 1)) (nomark _)) (pdss_one pds_never) pdss_nil))))) (pdss_one (pds_ret (pd_var (pv 3)))))))
def S_lot_rank (CF : Addr) : DS := (retD (fun ρ => ((fun ρ => ((b2 ixD (fun ρ => sl ρ 0) (fun _ => some (.int 1))) ρ).bind fun d => ((fun _ => some []) ρ).bind fun ds => some (d :: ds)) ρ).bind (g_rank CF)))
def g_lot_rank (CF : Addr) : DC := runD 1 1 (S_lot_rank CF)
theorem ok_lot_rank (T : Txt K mg w CF) : FnOk P w K mg base CX0 6 T.d_lot_rank.f T.d_lot_rank.fd ["lot"] (spD K (g_lot_rank CF)) := fn_D T.d_lot_rank.fn sc_lot_rank fun cdv A outer s H E hr => by
  have nd := sc_lot_rank.nd
  exact (pdss_one (pds_ret (pd_call (ok_rank T) (hr.mono (by decide)) (by rfl) T.d_rank.gl T.d_rank.fn.kp T.d_rank.bd (pds_cons (pd_ix (pd_var (pv 0)) pd_int) pds_nil))))
end
end DL

set_option Elab.async false
set_option linter.all false
set_option maxRecDepth 100000
set_option maxHeartbeats 4000000
namespace DL
open PySem PySem.Spec PyProof.Rows L2 Evl
section
variable {P : Program} {w : World} {K : PySem.W.Frag} {mg : Str → Option Value} {base : Heap} {CF : Addr}
/-- known[0] == size + 1 and rank(made[1]) < rank(known[1]) -/
def better (CF : Addr) (size made known : PyData) : Option Bool :=
  (((ixD known (.int 0)).bind fun a => (addD size (.int 1)).bind fun b => eqFD a b).bind asB).bind fun k => if k = true then
    ((((ixD made (.int 1)).bind fun d => some [d]).bind (g_rank CF)).bind fun a => (((ixD known (.int 1)).bind fun d => some [d]).bind (g_rank CF)).bind fun b => ltD a b).bind asB else some false
def furStep (CF : Addr) (size : PyData) (kvs : List (PyData × PyData)) (m : PyData) : Option (List (PyData × PyData)) :=
  (g_key_of CF [m]).bind fun k => if okK k = true ∧ isTupD k = true ∧ kvs.length ≤ 900 then
    (better CF size m ((lookD kvs k).getD m)).bind fun t =>
      let kvs1 := if (lookD kvs k).isSome = true then kvs else putD kvs k m
      let kvs2 := if t = true then putD kvs1 k m else kvs1
      if kvs2.length ≤ 300 then some kvs2 else none
  else none
def foldO {α : Type} (step : α → PyData → Option α) : List PyData → α → Option α
  | [], k => some k
  | m :: ms, k => (step k m).bind fun k' => foldO step ms k'
theorem forW_inv {α : Type} {Bd : PyData → DE → Option DE} {S : WSt} {own : α → Wo} {Good : DE → Prop} {step : α → PyData → Option α}
    (hS : ∀ m k k' ρ (Ψ : Rs → Wo → Prop), Good ρ → step k m = some k' → (∀ ρ', Good ρ' → Ψ (.nx ρ') (own k')) → ∃ ρ1, Bd m ρ = some ρ1 ∧ S (own k) ρ1 Ψ) :
    ∀ (ms : List PyData) (k k' : α) (ρ : DE) (Φ : Rs → Wo → Prop), foldO step ms k = some k' → Good ρ → (∀ ρ', Good ρ' → Φ (.nx ρ') (own k')) → forW Bd S ms (own k) ρ Φ
  | [], _, _, ρ, Φ, h, g, q => by cases h; exact q ρ g
  | m :: ms, k, k', ρ, Φ, h, g, q => by
    obtain ⟨k1, h1, h2⟩ := Option.bind_eq_some_iff.mp h
    obtain ⟨ρ1, e1, e2⟩ := hS m k k1 ρ (fun r o => match r with
      | .nx ρ' => forW Bd S ms o ρ' Φ
      | .rt d => Φ (.rt d) o) g h1 fun ρ' g' => forW_inv hS ms k1 k' ρ' Φ h2 g' q
    exact ⟨ρ1, e1, e2⟩
def furGo (CF : Addr) (size : PyData) : List PyData → List (PyData × PyData) → Option (List (PyData × PyData)) := foldO (furStep CF size)
def g_further (CF : Addr) : DC := fun ds => match ds with
  | [f, size, lots] => (asSeq lots).bind fun ls => if ls.length ≤ 900 then (mapD (fun l => (g_key_of CF [l]).bind fun k => if okK k = true ∧ isTupD k = true then some (.tuple [k, l]) else none) ls).bind fun ps =>
      (addD size (.int 1)).bind fun s1 => (g_made_lots CF [f, s1, lots]).bind fun ms => (asSeq ms).bind fun ms => (furGo CF size ms (putAll [] (ps.map fun p => match p with
        | .tuple [k, l] => (k, l)
        | _ => (.none, .none)))).bind fun kvs => if kvs.length ≤ 900 then (sortedD (g_lot_rank CF) [.list (kvs.map (·.2))]).bind fun r => tupleD [r] else none
    else none
  | _ => none
structure GFur (p : Addr) (f size lots : PyData) (ρ : DE) : Prop where
  len : ρ.length = 7
  h0 : sl ρ 0 = some f
  h1 : sl ρ 1 = some size
  h2 : sl ρ 2 = some lots
  h3 : sl ρ 3 = some (opq p)
theorem GFur.set {p : Addr} {f size lots : PyData} {ρ : DE} (g : GFur p f size lots ρ) {i : Nat} (hi : 4 ≤ i) (x : Option PyData) : GFur p f size lots (ρ.set i x) :=
  ⟨by rw [List.length_set]; exact g.len, by rw [sl_ne (by omega)]; exact g.h0, by rw [sl_ne (by omega)]; exact g.h1, by rw [sl_ne (by omega)]; exact g.h2, by rw [sl_ne (by omega)]; exact g.h3⟩
theorem pairs_map {ρ : DE} {F1 : DF} {g : PyData → Option PyData} (hρ : 6 < ρ.length) (hF : ∀ l, F1 (ρ.set 6 (some l)) = g l) : ∀ (ls ps : List PyData), mapD (fun l => (g l).bind fun k => if okK k = true ∧ isTupD k = true then some (.tuple [k, l]) else none) ls = some ps →
    pairsD (oneB 6) F1 (fun ρ => sl ρ 6) ρ ls = some (ps.map fun p => match p with
        | .tuple [k, l] => (k, l)
        | _ => (.none, .none))
  | [], _, h => by cases h; rfl
  | l :: ls, _, h => by
    obtain ⟨t, h1, h2⟩ := Option.bind_eq_some_iff.mp h
    obtain ⟨ps, h3, rfl⟩ := Option.map_eq_some_iff.mp h2
    obtain ⟨k, h4, h5⟩ := Option.bind_eq_some_iff.mp h1
    split at h5
    · rename_i hk
      cases h5
      have ih := pairs_map hρ hF ls ps h3
      show ((F1 (ρ.set 6 (some l))).bind fun k => ((sl (ρ.set 6 (some l)) 6).bind fun v => if okK k = true ∧ isTupD k = true then (pairsD (oneB 6) F1 (fun ρ => sl ρ 6) ρ ls).map ((k, v) :: ·) else none)) = _
      rw [hF, h4, sl_set hρ]
      show (if okK k = true ∧ isTupD k = true then _ else none) = _
      rw [if_pos hk, ih]
      rfl
    · cases h5
theorem look_put {kvs : List (PyData × PyData)} {k v : PyData} (h : lookD kvs k = none) (hk : sameK k k = true) : lookD (putD kvs k v) k = some v := by
  unfold putD
  rw [h]
  show lookD (kvs ++ [(k, v)]) k = some v
  unfold lookD at h ⊢
  rw [List.find?_append]
  cases e : kvs.find? fun p => sameK p.1 k with
  | none => simp [hk]
  | some q => rw [e] at h; cases h
theorem ok_further (T : Txt K mg w CF) : FnOk P w K mg base CX0 13 T.d_further.f T.d_further.fd ["field", "size", "lots"] (spD K (g_further CF)) := by
  refine fn_G T.d_further.fn sc_further (fun ds d h => ?_) (fun B cdv A outer s H E hT hX hr => ?_)
  · unfold g_further at h
    split at h
    · rfl
    · cases h
  · have nd := sc_further.nd
    have hu : (A.deeper (envOfC "further" (defScope s_further) s.heap.objs.size T.d_further.f cdv)).units + 64 < cLine := by have := hr.un; omega
    refine ⟨_, wss_cons (ws_newD (i := 3) (vs := [6]) (L := fun ρ => (sl ρ 2).bind asSeq) (Bd := oneB 6) (F2 := fun ρ => sl ρ 6) (ps_setDcN (i := 3) (own := [("lot", 6)]) (Nat.lt_of_le_of_lt (Nat.add_le_add_left (by decide) _) hu) rfl nd rfl rfl rfl (pdi_seq (pd_var (pv 2))) (blkOk_by (N := ["field", "size", "lots", "kept", "made", "known", "lot"]) (sc := defScope s_further) (by decide +kernel)) (tg_one 6) (by decide) (fun _ _ _ _ _ => (pg_name (i := 6) nd rfl (by first | exact Or.inl rfl | exact Or.inr rfl)))
        (fun _ _ _ _ _ => (pd_call (ok_key_of T) (hr.mono (by decide)) (by rfl) T.d_key_of.gl T.d_key_of.fn.kp T.d_key_of.bd (pds_cons (pd_var (pv 6)) pds_nil))) (fun _ _ _ _ _ => pd_var (pv 6))))
      (wss_cons (ws_for PassesOwn.never rfl (wi_pure (pdi_seq (pd_call (ok_made_lots T) (hr.mono (by decide)) (by rfl) T.d_made_lots.gl T.d_made_lots.fn.kp T.d_made_lots.bd (pds_cons (pd_var (pv 0)) (pds_cons (pd_op od_add (pd_var (pv 1)) pd_int) (pds_cons (pd_var (pv 2)) pds_nil)))))) (pg_name (i := 4) nd rfl (by first | exact Or.inl rfl | exact Or.inr rfl)) (tg_one 4)
        (wss_cons (ws_set (i := 5) (we_setd (i := 3) hu hT (pv 3) (wa_cons (we_pure (pd_call (ok_key_of T) (hr.mono (by decide)) (by rfl) T.d_key_of.gl T.d_key_of.fn.kp T.d_key_of.bd (pds_cons (pd_var (pv 4)) pds_nil))) (wa_cons (we_pure (pd_var (pv 4))) wa_nil))) (pg_name (i := 5) nd rfl (by first | exact Or.inl rfl | exact Or.inr rfl)))
        (wss_cons (ws_if (wt_pure (pdt_of (pdw_and (pdt_cmp od_eqF (pd_ix (pd_var (pv 5)) pd_int) (pd_op od_add (pd_var (pv 1)) pd_int) (by rfl)) (pdw_and1 (pdt_cmp (od_ltD hu) (pd_call (ok_rank T) (hr.mono (by decide)) (by rfl) T.d_rank.gl T.d_rank.fn.kp T.d_rank.bd (pds_cons (pd_ix (pd_var (pv 4)) pd_int) pds_nil)) (pd_call (ok_rank T) (hr.mono (by decide)) (by rfl) T.d_rank.gl T.d_rank.fn.kp T.d_rank.bd (pds_cons (pd_ix (pd_var (pv 5)) pd_int) pds_nil)) (by rfl))))))
          (wss_one (ws_putD (i := 3) hu hT (pv 3) (we_pure (pd_call (ok_key_of T) (hr.mono (by decide)) (by rfl) T.d_key_of.gl T.d_key_of.fn.kp T.d_key_of.bd (pds_cons (pd_var (pv 4)) pds_nil))) (we_pure (pd_var (pv 4))))) wss_nil)
        (wss_one (ws_if (wt_cmp od_gtI (we_lenD (i := 3) (by rfl) T.b_len (pv 3)) (we_pure (pd_const (pe_glob (v := .int 300) rfl T.c_LOTS ⟨_, rfl⟩) (fun _ => .int 300))) (by rfl)) (wss_pure pdss_never) wss_nil)))))
      (wss_one (ws_ret (we_callTy cd_tuple (by rfl) T.b_tuple (by decide +kernel) (wa_cons (we_sortedK (ok_lot_rank T) (hr.mono (by decide)) T.d_lot_rank.bd (by rfl) T.b_sorted (by rfl) T.d_lot_rank.gl (we_vals (i := 3) rfl (by rfl) T.b_list (pv 3))) wa_nil))))), fun ds d h => ?_⟩
    unfold g_further at h
    split at h
    · rename_i f size lots
      obtain ⟨ls, a1, h⟩ := Option.bind_eq_some_iff.mp h
      split at h
      · rename_i hls
        obtain ⟨ps, a2, h⟩ := Option.bind_eq_some_iff.mp h
        obtain ⟨s1, a3, h⟩ := Option.bind_eq_some_iff.mp h
        obtain ⟨ms0, a4, h⟩ := Option.bind_eq_some_iff.mp h
        obtain ⟨ms, a5, h⟩ := Option.bind_eq_some_iff.mp h
        obtain ⟨kvs, a6, h⟩ := Option.bind_eq_some_iff.mp h
        split at h
        · rename_i hkv
          obtain ⟨r, a7, a8⟩ := Option.bind_eq_some_iff.mp h
          refine ⟨ls, _, a1, hls, pairs_map (g := fun l => g_key_of CF [l]) ?hρ (fun l => ?_) ls ps a2, fun p hp _ => ?_⟩
          case hρ => exact (show 6 < 7 by decide)
          · simp only [wipeD, startD]
            rfl
          have g0 : GFur p f size lots ((startD 7 [f, size, lots]).set 3 (some (opq p))) := ⟨rfl, rfl, rfl, rfl, rfl⟩
          show ∃ _, _ ∧ _
          refine ⟨ms, ?_, ?_⟩
          · show (((some f).bind fun d => (((b2 addD (fun ρ => sl ρ 1) (fun _ => some (.int 1)) ((startD 7 [f, size, lots]).set 3 (some (opq p)))).bind fun d => ((some lots).bind fun d => some [d]).bind fun ds => some (d :: ds))).bind fun ds => some (d :: ds)).bind (g_made_lots CF)).bind asSeq = some ms
            simp only [b2, g0.h1, a3, Option.bind_some, a4, a5]
          · refine forW_inv (own := fun kvs => [(p, .d kvs)]) (Good := GFur p f size lots) (step := furStep CF size) (fun m kvs kvs' ρ Ψ g ht q => ?_) ms _ kvs _ _ a6 g0 fun ρ' g' => ?_
            · refine ⟨_, rfl, ?_⟩
              unfold furStep at ht
              obtain ⟨k, j1, ht⟩ := Option.bind_eq_some_iff.mp ht
              split at ht
              · rename_i hk
                obtain ⟨t, j2, ht⟩ := Option.bind_eq_some_iff.mp ht
                have g1 := g.set (i := 4) (by omega) (some m)
                have e4 : sl (ρ.set 4 (some m)) 4 = some m := sl_set (by rw [g.len]; omega)
                refine ⟨p, g1.h3, ⟨kvs, by simp⟩, k, ?_, m, e4, k, m, kvs, rfl, by simp, by omega, hk.1, hk.2.1, ?_⟩
                · simp only [e4, Option.bind_some]
                  exact j1
                cases hl : lookD kvs k with
                | some d =>
                  rw [hl] at j2
                  simp only [hl, Option.isSome_some, if_true] at ht
                  simp only [hl]
                  have g2 := g1.set (i := 5) (by omega) (some d)
                  have e4' : sl ((ρ.set 4 (some m)).set 5 (some d)) 4 = some m := by rw [sl_ne (by omega)]; exact e4
                  have e5 : sl ((ρ.set 4 (some m)).set 5 (some d)) 5 = some d := sl_set (by rw [g1.len]; omega)
                  have j2 : better CF size m d = some t := j2
                  refine ⟨t, ?_, ?_⟩
                  · simp only [andT, b2, g2.h1, e4', e5, Option.bind_some]
                    exact j2
                  cases t with
                  | true =>
                    simp only [if_true] at ht ⊢
                    split at ht
                    · rename_i h300
                      cases ht
                      refine ⟨p, g2.h3, m, e4', k, ?_, kvs, by simp, by omega, hk.1, hk.2.1, ?_⟩
                      · simp only [e4', Option.bind_some]
                        exact j1
                      have e6 : setO [(p, OC.d kvs)] p (OC.d (putD kvs k m)) = [(p, OC.d (putD kvs k m))] := by simp [setO]
                      refine ⟨p, putD kvs k m, g2.h3, by rw [e6]; simp, by omega, .int 300, rfl, _, rfl, decide ((300 : Int) < ((putD kvs k m).length : Int)), rfl, ?_⟩
                      rw [decide_eq_false (by omega)]
                      show nxW _ _ _
                      rw [e6]
                      exact q _ g2
                    · cases ht
                  | false =>
                    simp only [Bool.false_eq_true, if_false] at ht ⊢
                    split at ht
                    · rename_i h300
                      cases ht
                      refine ⟨p, kvs, g2.h3, by simp, by omega, .int 300, rfl, _, rfl, decide ((300 : Int) < ((kvs).length : Int)), rfl, ?_⟩
                      rw [decide_eq_false (by omega)]
                      show nxW _ _ _
                      exact q _ g2
                    · cases ht
                | none =>
                  rw [hl] at j2
                  simp only [hl, Option.isSome_none, Bool.false_eq_true, if_false] at ht
                  simp only [hl]
                  have g2 := g1.set (i := 5) (by omega) (some m)
                  have e4' : sl ((ρ.set 4 (some m)).set 5 (some m)) 4 = some m := by rw [sl_ne (by omega)]; exact e4
                  have e5 : sl ((ρ.set 4 (some m)).set 5 (some m)) 5 = some m := sl_set (by rw [g1.len]; omega)
                  have j2 : better CF size m m = some t := j2
                  have hpl := putD_len kvs k m
                  refine ⟨t, ?_, ?_⟩
                  · simp only [andT, b2, g2.h1, e4', e5, Option.bind_some]
                    exact j2
                  cases t with
                  | true =>
                    simp only [if_true] at ht ⊢
                    split at ht
                    · rename_i h300
                      cases ht
                      refine ⟨p, g2.h3, m, e4', k, ?_, (putD kvs k m), by simp [setO], by omega, hk.1, hk.2.1, ?_⟩
                      · simp only [e4', Option.bind_some]
                        exact j1
                      have e6 : setO (setO [(p, OC.d kvs)] p (OC.d (putD kvs k m))) p (OC.d (putD (putD kvs k m) k m)) = [(p, OC.d (putD (putD kvs k m) k m))] := by simp [setO]
                      refine ⟨p, putD (putD kvs k m) k m, g2.h3, by rw [e6]; simp, by omega, .int 300, rfl, _, rfl, decide ((300 : Int) < ((putD (putD kvs k m) k m).length : Int)), rfl, ?_⟩
                      rw [decide_eq_false (by omega)]
                      show nxW _ _ _
                      rw [e6]
                      exact q _ g2
                    · cases ht
                  | false =>
                    simp only [Bool.false_eq_true, if_false] at ht ⊢
                    split at ht
                    · rename_i h300
                      cases ht
                      refine ⟨p, (putD kvs k m), g2.h3, by simp [setO], by omega, .int 300, rfl, _, rfl, decide ((300 : Int) < (((putD kvs k m)).length : Int)), rfl, ?_⟩
                      rw [decide_eq_false (by omega)]
                      show nxW _ _ _
                      have z := q _ g2
                      show Ψ _ _
                      simpa [setO] using z
                    · cases ht
              · cases ht
            · refine ⟨p, kvs, g'.h3, by simp, by omega, r, a7, _, a8, rfl⟩
        · cases h
      · cases h
    · cases h
end
end DL

set_option Elab.async false
set_option linter.all false
set_option maxRecDepth 100000
set_option maxHeartbeats 4000000
namespace DL
open PySem PySem.Spec PyProof.Rows L2 Evl

section
variable {P : Program} {w : World} {K : PySem.W.Frag} {mg : Str → Option Value} {base : Heap} {CF : Addr}
def S_reach (CF : Addr) : DS := (seqD (setD 2 (fun ρ => ((fun _ => some []) ρ).bind tupD)) (seqD (forS (rng1D (fun ρ => sl ρ 1)) (oneB 3) (setD 2 (fun ρ => ((fun ρ => ((fun ρ => sl ρ 0) ρ).bind fun d => ((fun ρ => ((fun ρ => sl ρ 3) ρ).bind fun d => ((fun ρ => ((fun ρ => sl ρ 2) ρ).bind fun d => ((fun _ => some []) ρ).bind fun ds => some (d :: ds)) ρ).bind fun ds => some (d :: ds)) ρ).bind fun ds => some (d :: ds)) ρ).bind (g_further CF)))) (retD (fun ρ => sl ρ 2))))
def g_reach (CF : Addr) : DC := runD 4 2 (S_reach CF)
theorem ok_reach (T : Txt K mg w CF) : FnOk P w K mg base CX0 14 T.d_reach.f T.d_reach.fd ["field", "size"] (spD K (g_reach CF)) := fn_D T.d_reach.fn sc_reach fun cdv A outer s H E hr => by
  have nd := sc_reach.nd
  exact (pdss_cons (pds_set (ps_set (i := 2) nd rfl (by first | exact Or.inl rfl | exact Or.inr rfl) (pd_tup pds_nil)) (fun _ _ _ h => h)) (pdss_cons (pds_for PassesOwn.never rfl (pdi_range1 (by rfl) T.b_range (pd_var (pv 1))) (pg_name (i := 3) nd rfl (by first | exact Or.inl rfl | exact Or.inr rfl)) (tg_one 3) (pdss_one (pds_set (ps_set (i := 2) nd rfl (by first | exact Or.inl rfl | exact Or.inr rfl) (pd_call (ok_further T) (hr.mono (by decide)) (by rfl) T.d_further.gl T.d_further.fn.kp T.d_further.bd (pds_cons (pd_var (pv 0)) (pds_cons (pd_var (pv 3)) (pds_cons (pd_var (pv 2)) pds_nil))))) (fun _ _ _ h => h)))) (pdss_one (pds_ret (pd_var (pv 2))))))
end
end DL

set_option Elab.async false
set_option linter.all false
set_option maxRecDepth 100000
set_option maxHeartbeats 4000000
/-! Field(..): a new instance. -/
namespace DL
open PySem PySem.Spec PyProof.Rows L2 Evl
structure StI (CF : Addr) (x dx : Addr) (G H G' H' : Hp) (fs : List (Str × V)) : Prop where
  hh : ∀ a o, a ≠ x → H a = some o → H' a = some o
  gh : Ex G' H'
  gg : Ex G G'
  fr : ∀ a o, G' a = some o → G a = some o ∨ H a = none
  hx : H' x = some (.ins CF dx fs)
  nx : G' x = none
  h0 : H x ≠ none
theorem StI.step {CF x dx : Addr} {G H G' H' G2 H2 : Hp} {fs : List (Str × V)} (s : StI CF x dx G H G' H' fs) (g : Go G' H' G2 H2) : StI CF x dx G H G2 H2 fs := by
  refine ⟨fun a o h1 h2 => g.hh _ _ (s.hh a o h1 h2), g.gh, s.gg.trans g.gg, fun a o h => ?_, g.hh _ _ s.hx, ?_, s.h0⟩
  · rcases g.fr a o h with z | z
    · exact s.fr a o z
    · right
      cases e : H a with
      | none => rfl
      | some u =>
        by_cases ha : a = x
        · rw [ha, s.hx] at z; cases z
        · rw [s.hh a u ha e] at z; cases z
  · cases e : G2 x with
    | none => rfl
    | some o =>
      rcases g.fr x o e with z | z
      · rw [s.nx] at z; cases z
      · rw [s.hx] at z; cases z
theorem StI.put {CF x dx : Addr} {G H G' H' : Hp} {fs fs' : List (Str × V)} (s : StI CF x dx G H G' H' fs) : StI CF x dx G H G' (upd H' x (.ins CF dx fs')) fs' := by
  refine ⟨fun a o h1 h2 => by rw [upd_ne h1]; exact s.hh a o h1 h2, fun a o h => ?_, s.gg, s.fr, upd_same, s.nx, s.h0⟩
  have ne : a ≠ x := fun e => by rw [e, s.nx] at h; cases h
  rw [upd_ne ne]
  exact s.gh a o h
section
variable {P : Program} {w : World} {K : PySem.W.Frag} {mg : Str → Option Value} {base : Heap} {CF : Addr}
def spI (K : PySem.W.Frag) (CF : Addr) : Sp := fun vs H Q _ => ∃ (G : Hp) (x dx : Addr) (vb vn vd : V) (b n d nb db : PyData), vs = [.ref x, vb, vn, vd] ∧ H x = some (.ins CF dx []) ∧ G x = none ∧ Ex G H ∧ RD K G vb b ∧ RD K G vn n ∧ RD K G vd d ∧ g_are_books CF [b] = some (.bool true) ∧ g_named_of CF [n] = some nb ∧ g_deeds_of CF [d] = some db ∧
  ∀ H' G' vb' vn' vd', StI CF x dx G H G' H' [("books", vb'), ("named", vn'), ("deeds", vd')] → RD K G' vb' b → RD K G' vn' nb → RD K G' vd' db → Q .non H'
theorem ok_init (T : Txt K mg w CF) : FnOk P w K mg base CX0 9 T.f_init T.fd_init ["self", "books", "named", "deeds"] (spI K CF) := by
  refine T.fn_init.ok sc___init__ (fun vs H Q E h => ?_) (fun cdv A outer s H vs Q E hr hq => ?_)
  · obtain ⟨_, _, _, _, _, _, _, _, _, _, _, rfl, _⟩ := h
    rfl
  · have nd := sc___init__.nd
    obtain ⟨G, x, dx, vb, vn, vd, b, n, d, nb, db, rfl, hx, nx, eg, rb, rn, rdd, k1, k2, k3, q⟩ := hq
    refine ⟨_, (pss_cons (pds_if (pdt_not (pdt_val (pd_call (ok_are_books T) (hr.mono (by decide)) (by rfl) T.d_are_books.gl T.d_are_books.fn.kp T.d_are_books.bd (pds_cons (pd_var (pv 1)) pds_nil)))) (pdss_one pds_never) pdss_nil)
      (pss_cons (ps_fld (pv 0) (pd_var (i := 1) (pv 1)) (by rfl))
      (pss_cons (ps_fld (pv 0) (pd_call (ok_named_of T) (hr.mono (by decide)) (by rfl) T.d_named_of.gl T.d_named_of.fn.kp T.d_named_of.bd (pds_cons (pd_var (pv 2)) pds_nil)) (by rfl))
      (pss_one (ps_fld (pv 0) (pd_call (ok_deeds_of T) (hr.mono (by decide)) (by rfl) T.d_deeds_of.gl T.d_deeds_of.fn.kp T.d_deeds_of.bd (pds_cons (pd_var (pv 3)) pds_nil)) (by rfl)))))).nox, ?_⟩
    have er : EnvR K G (start ["self", "books", "named", "deeds"] [.ref x, vb, vn, vd]) (startD 4 [opq x, b, n, d]) := start_rd (.cons (.opq x) (.cons rb (.cons rn (.cons rdd .nil))))
    have s0 : StI CF x dx G H G H [] := ⟨fun _ _ _ h => h, eg, Ex.refl G, fun _ _ h => .inl h, hx, nx, by rw [hx]; simp⟩
    refine ⟨G, _, .nx (startD 4 [opq x, b, n, d]), eg, er, ?_, fun σ1 H1 G1 g1 er1 => ?_⟩
    · show ((((((some b).bind fun d => some [d]).bind (g_are_books CF)).bind asB).map (!·)).bind fun k => if k = true then none else some (Rs.nx (startD 4 [opq x, b, n, d]))) = _
      simp only [Option.bind_some, k1]
      rfl
    have s1 := s0.step g1
    refine ⟨G1, _, b, s1.gh, er1, rfl, fun v1 H2 G2 g2 r1 => ⟨.ref x, opq_slot er1 rfl, x, CF, dx, [], rfl, (s1.step g2).hx, T.cls, T.na_books, by decide, ?_⟩⟩
    have s2 := (s1.step g2).put (fs' := putF "books" v1 [])
    have er2 := er1.mono g2.gg
    refine ⟨G2, _, nb, s2.gh, er2, ?_, fun v2 H3 G3 g3 r2 => ⟨.ref x, opq_slot er1 rfl, x, CF, dx, _, rfl, (s2.step g3).hx, T.cls, T.na_named, (show 1 < 1000 by decide), ?_⟩⟩
    · show ((some n).bind fun d => some [d]).bind (g_named_of CF) = some nb
      exact k2
    have s3 := (s2.step g3).put (fs' := putF "named" v2 (putF "books" v1 []))
    have er3 := er2.mono g3.gg
    refine ⟨G3, _, db, s3.gh, er3, ?_, fun v3 H4 G4 g4 r3 => ⟨.ref x, opq_slot er1 rfl, x, CF, dx, _, rfl, (s3.step g4).hx, T.cls, T.na_deeds, (show 2 < 1000 by decide), ?_⟩⟩
    · show ((some d).bind fun d => some [d]).bind (g_deeds_of CF) = some db
      exact k3
    have s4 := (s3.step g4).put (fs' := putF "deeds" v3 (putF "named" v2 (putF "books" v1 [])))
    exact q _ G4 v1 v2 v3 s4 (r1.mono (g3.gg.trans g4.gg)) (r2.mono g4.gg) r3
/-- what Field(b, named=n, deeds=d) makes -/
def mkField (CF : Addr) : List PyData → Option PyData
  | [b, n, d] => match g_are_books CF [b] with
    | some (.bool true) => (g_named_of CF [n]).bind fun nb => (g_deeds_of CF [d]).bind fun db => some (.dict [(.none, .int (CF : Nat)), (.str "books", b), (.str "named", nb), (.str "deeds", db)])
    | _ => none
  | _ => none
theorem kbn_init (T : Txt K mg w CF) : KBn K T.fd_init ["self", "books", "named", "deeds"] 2 ["named", "deeds"] (fun us ws => us ++ ws) (fun vs zs => vs ++ zs) := by
  obtain ⟨mv, h⟩ := T.fn_init.kbinds0 (ps := ["self", "books", "named", "deeds"]) 2 ["named", "deeds"] [] (fun us _ ws => us ++ ws) (by simp) (fun q hq => by cases hq) (fun r1 r2 r3 => r1.append r3) (fun D doc pm an cdv ct us mv ws l1 l2 l3 => by
    cases mv with
    | cons _ _ => cases l2
    | nil =>
      match us, l1, ws, l3 with
      | [_, _], _, [_, _], _ => rfl)
  exact h
theorem pd_field {X : Cx} (T : Txt X.K X.mg X.w CF) {e1 e2 e3 : Expr} {p pos kp1 kp2 : Pos} {F1 F2 F3 : DF} (hr : Room 10 X.A) (hg : Gl X "Field") (h1 : PD X e1 F1) (h2 : PD X e2 F2) (h3 : PD X e3 F3)
    (hs : starEach [e1] X.env = (false, eval e1 X.env) :: starEach [] X.env := by rfl)
    (hall : (backToKw pos (keywordEach [⟨some "named", e2, kp1⟩, ⟨some "deeds", e3, kp2⟩] X.env)).all (·.1.isSome) = true := by rfl) (hks : (backToKw pos (keywordEach [⟨some "named", e2, kp1⟩, ⟨some "deeds", e3, kp2⟩] X.env)).filterMap (·.1) = (["named", "deeds"] : List Str) := by rfl)
    (hpl : ((backTo pos (starEach [e1] X.env)).any (·.1) || (backToKw pos (keywordEach [⟨some "named", e2, kp1⟩, ⟨some "deeds", e3, kp2⟩] X.env)).any (·.1.isNone)) = false := by rfl) :
    PD X (.Call (.Name "Field" p) [e1] [⟨some "named", e2, kp1⟩, ⟨some "deeds", e3, kp2⟩] pos) (fun ρ => (F1 ρ).bind fun b => (F2 ρ).bind fun n => (F3 ρ).bind fun d => mkField CF [b, n, d]) := by
  refine weakE (pe_makeK (n := 1) T.mk_init (ok_init T) hr hg T.c_Field (kbn_init T) pass0 (pa_cons h1 pa_nil hs) (pk_cons h2 (pk_cons h3 pk_nil)) hall hks (by decide) hs hpl) fun σ H Q => ?_
  rintro ⟨G, ρ, r, eg, er, hf, q⟩
  obtain ⟨b, a1, hf⟩ := Option.bind_eq_some_iff.mp hf
  obtain ⟨n, a2, hf⟩ := Option.bind_eq_some_iff.mp hf
  obtain ⟨d, a3, hf⟩ := Option.bind_eq_some_iff.mp hf
  refine ⟨G, ρ, b, eg, er, a1, fun vb H1 G1 g1 r1 => ?_⟩
  refine ⟨G1, ρ, n, g1.gh, er.mono g1.gg, a2, fun vn H2 G2 g2 r2 => ?_⟩
  refine ⟨G2, ρ, d, g2.gh, er.mono (g1.trans g2).gg, a3, fun vd H3 G3 g3 r3 => ?_⟩
  refine ⟨rfl, rfl, fun x dx hx hdx hne => ?_⟩
  unfold mkField at hf
  simp only at hf
  split at hf
  · rename_i k1
    obtain ⟨nb, k2, hf⟩ := Option.bind_eq_some_iff.mp hf
    obtain ⟨db, k3, hf⟩ := Option.bind_eq_some_iff.mp hf
    cases hf
    have gA := Go.own (o := .own x) g3.gh hdx
    have hx' : (upd H3 dx (.own x)) x = none := by rw [upd_ne (Ne.symm hne)]; exact hx
    have gB := gA.trans (Go.own (o := .ins CF dx []) gA.gh hx')
    have nG : G3 x = none := fresh_back g3.gh hx
    refine ⟨G3, x, dx, vb, vn, vd, b, n, d, nb, db, rfl, upd_same, nG, gB.gh, r1.mono (g2.trans g3).gg, r2.mono g3.gg, r3, k1, k2, k3, fun H' G' vb' vn' vd' st rb rn rd => ⟨rfl, ?_⟩⟩
    have e := Ex.new (o := .ins CF dx [("books", vb'), ("named", vn'), ("deeds", vd')]) st.nx
    refine q (.ref x) H' (upd G' x (.ins CF dx [("books", vb'), ("named", vn'), ("deeds", vd')])) (((g1.trans g2).trans g3).trans ⟨fun a o h => ?_, fun a o h => ?_, st.gg.trans e, fun a o h => ?_⟩) (.ins upd_same (.cons (rb.mono e) (.cons (rn.mono e) (.cons (rd.mono e) .nil))))
    · have ne : a ≠ x := fun z => by rw [z, hx] at h; cases h
      exact st.hh a o ne (gB.hh a o h)
    · by_cases z : a = x
      · rw [z, upd_same] at h; cases h; rw [z]; exact st.hx
      · rw [upd_ne z] at h; exact st.gh a o h
    · by_cases z : a = x
      · rw [z]; exact .inr hx
      · rw [upd_ne z] at h
        rcases st.fr a o h with k | k
        · exact .inl k
        · right
          cases u : H3 a with
          | none => rfl
          | some o' => rw [gB.hh a o' u] at k; cases k
  · cases hf
end
end DL

set_option Elab.async false
set_option linter.all false
set_option maxRecDepth 100000
set_option maxHeartbeats 4000000
/-! The law's own helpers: what is drawn. -/
namespace DL
open PySem PySem.Spec PyProof.Rows L2 Evl
section
variable {X : Cx}
def binI (c : Int → Int → Bool) (f : Int → Int → Int) : D2
  | .int i, .int j => if c i j = true then some (.int (f i j)) else none
  | _, _ => none
theorem od_binI {op : Value → Value → Sem Value} {C : Int → Int → Prop} {c : Int → Int → Bool} {f : Int → Int → Int} (h : OpR X op (rI C fun i j => .int (f i j))) (hc : ∀ i j, c i j = true → C i j) : OD X op (binI c f) := by
  refine OD.weak h ?_
  rintro x y H Q ⟨G, d, e, r, eg, r1, r2, h, q⟩
  unfold binI at h
  split at h
  · split at h
    · rename_i hh
      cases h; cases r1; cases r2
      exact ⟨_, _, rfl, rfl, hc _ _ hh, q _ H G (Go.refl eg) (.int _)⟩
    · cases h
  · cases h
abbrev modD : D2 := binI (fun _ j => decide (0 < j)) (· % ·)
abbrev fdvD : D2 := binI (fun _ j => decide (0 < j) && decide (j < 1073741824)) (· / ·)
abbrev mulD : D2 := binI (fun i j => (decide (-18446744073709551616 < i) && decide (i < 18446744073709551616)) || (decide (-18446744073709551616 < j) && decide (j < 18446744073709551616))) (· * ·)
abbrev powD : D2 := binI (fun i j => decide (0 ≤ j) && decide (j ≤ 1000000) && decide (i.natAbs < 18446744073709551616)) (fun i j => i ^ j.toNat)
theorem od_mod : OD X (binaryOp .Mod) modD := od_binI op_mod fun i j h => of_decide_eq_true h
theorem od_fdv : OD X (binaryOp .FloorDiv) fdvD := od_binI op_fdiv fun i j h => by
  simp only [Bool.and_eq_true, decide_eq_true_eq] at h
  exact h
theorem od_mul : OD X (binaryOp .Mult) mulD := od_binI op_mul fun i j h => by
  simp only [Bool.and_eq_true, Bool.or_eq_true, decide_eq_true_eq] at h
  unfold CMul
  omega
theorem od_pow : OD X (binaryOp .Pow) powD := od_binI op_pow fun i j h => by
  simp only [Bool.and_eq_true, decide_eq_true_eq] at h
  unfold CPow
  omega
end
theorem okEq_ints (zs : List Int) : okEq (.list (zs.map .int)) = true := by
  have h1 : ∀ zs : List Int, noIns.noInsAll (zs.map .int) = true := fun zs => by
    induction zs with
    | nil => rfl
    | cons z zs ih => simpa [noIns.noInsAll, noIns] using ih
  have h2 : ∀ zs : List Int, PyData.canLayAll0 (zs.map .int) = true := fun zs => by
    induction zs with
    | nil => simp [PyData.canLayAll0]
    | cons z zs ih => simpa [PyData.canLayAll0, PyData.canLay0] using ih
  unfold okEq SeqAt.shaped
  simp only [noIns, PyData.canLay0, PyData.depth, PySem.W.depth_ints, h1, h2]
  decide
theorem atI_nn {α : Type} {l : List α} {k : Int} (h0 : 0 ≤ k) (h1 : k < l.length) : ∃ x, atI l k = some x ∧ x ∈ l := by
  have hk : k.toNat < l.length := by omega
  refine ⟨l[k.toNat], ?_, List.getElem_mem _⟩
  unfold atI ixN
  rw [if_pos h0, if_pos h1]
  exact List.getElem?_eq_getElem hk
theorem setO1 {D : Addr} {c c' : OC} : setO [(D, c)] D c' = [(D, c')] := by simp [setO]
theorem lookO1 {D : Addr} {c : OC} {r : Wo} : List.lookup D ((D, c) :: r) = some c := by simp
/-- the state of the draws -/
def VS (c : OC) : Prop := ∃ (zs : List Int) (i x y : Int), c = .l [.list (zs.map .int), .int i, .int x, .int y]
def g_take : WC := fun ds own Φ => ∃ L st b, ds = [opq L, .int b] ∧ own = [(L, st)] ∧ VS st ∧ 0 < b ∧ b < 1073741824 ∧ ∀ r st', 0 ≤ r → r < b → VS st' → Φ (.int r) [(L, st')]
section
variable {P : Program} {w : World} {K : PySem.W.Frag} {mg : Str → Option Value} {base : Heap} {CF : Addr} {TT : List (Addr × Str)}
theorem ok_take (T : Txt K mg w CF) : FnOk P w K mg base CX0 1 T.d__law_take.f T.d__law_take.fd ["_law_state", "_law_below"] (spW K P w TT g_take) := by
  refine fn_W T.d__law_take.fn sc__law_take (fun ds o Φ h => ?_) (fun B cdv A outer s H E hT hr => ?_)
  · obtain ⟨L, st, b, rfl, _⟩ := h
    rfl
  · have nd := sc__law_take.nd
    have hu := hr.units
    refine ⟨_, wss_cons (ws_if (wt_peek 0 (pdt_cmp od_gtI (pd_ix (pd_var (pv 0)) pd_int) pd_int (by rfl)))
        (wss_cons (ws_set (i := 2) (we_peek 0 (pd_op od_mod (pd_ix (pd_var (pv 0)) pd_int) (pd_var (pv 1)))) (pg_name (i := 2) nd rfl (by first | exact Or.inl rfl | exact Or.inr rfl)))
        (wss_cons (ws_put (i := 0) (k := 2) (pv 0) (we_peek 0 (pd_op od_fdv (pd_ix (pd_var (pv 0)) pd_int) (pd_var (pv 1)))))
        (wss_one (ws_ret (we_pure (pd_var (pv 2))))))) wss_nil)
      (wss_cons (ws_set (i := 3) (we_peek 0 (pd_ix (pd_var (pv 0)) pd_int)) (pg_name (i := 3) nd rfl (by first | exact Or.inl rfl | exact Or.inr rfl)))
      (wss_cons (ws_if (wt_peek 0 (pdt_cmp (od_ne hu) (pd_ix (pd_var (pv 0)) pd_int) (pd_lst pds_nil) (by rfl)))
        (wss_one (ws_set (i := 3) (we_peek 0 (pd_ix (pd_ix (pd_var (pv 0)) pd_int) (pd_op od_mod (pd_ix (pd_var (pv 0)) pd_int) (pd_callB cd_len (by rfl) T.b_len (by decide +kernel) (pds_cons (pd_ix (pd_var (pv 0)) pd_int) pds_nil))))) (pg_name (i := 3) nd rfl (by first | exact Or.inl rfl | exact Or.inr rfl)))) wss_nil)
      (wss_cons (ws_put (i := 0) (k := 1) (pv 0) (we_peek 0 (pd_op od_add (pd_ix (pd_var (pv 0)) pd_int) pd_int)))
      (wss_cons (ws_if (wt_peek 0 (pdt_of (pdw_and (pdt_cmp od_geI (pd_var (pv 3)) (pd_op od_pow pd_int pd_int) (by rfl)) (pdw_and1 (pdt_cmp od_leI (pd_ix (pd_var (pv 0)) pd_int) (pd_callB cd_len (by rfl) T.b_len (by decide +kernel) (pds_cons (pd_ix (pd_var (pv 0)) pd_int) pds_nil)) (by rfl))))))
        (wss_cons (ws_put (i := 0) (k := 2) (pv 0) (we_pure (pd_op od_fdv (pd_var (pv 3)) (pd_var (pv 1)))))
        (wss_one (ws_ret (we_pure (pd_op od_mod (pd_var (pv 3)) (pd_var (pv 1))))))) wss_nil)
      (wss_cons (ws_set (i := 3) (we_pure (pd_op od_mod (pd_var (pv 3)) pd_int)) (pg_name (i := 3) nd rfl (by first | exact Or.inl rfl | exact Or.inr rfl)))
      (wss_cons (ws_put (i := 0) (k := 3) (pv 0) (we_peek 0 (pd_op od_mod (pd_op od_add (pd_op od_add (pd_op od_mul (pd_ix (pd_var (pv 0)) pd_int) pd_int) (pd_op od_mul (pd_var (pv 3)) pd_int)) (pd_ix (pd_var (pv 0)) pd_int)) pd_int)))
      (wss_one (ws_ret (we_peek 0 (pd_op od_mod (pd_op od_fdv (pd_op od_mod (pd_op od_mul (pd_ix (pd_var (pv 0)) pd_int) (pd_ix (pd_var (pv 0)) pd_int)) pd_int) pd_int) (pd_var (pv 1)))))))))))), fun ds oc Φ h hX => ?_⟩
    obtain ⟨L, st, b, rfl, rfl, ⟨zs, i, x, y, rfl⟩, hb0, hb1, q⟩ := h
    have hmod : ∀ z : Int, modD (.int z) (.int b) = some (.int (z % b)) := fun z => if_pos (decide_eq_true hb0)
    have hfdv : ∀ z : Int, fdvD (.int z) (.int b) = some (.int (z / b)) := fun z => if_pos (by show (decide (0 < b) && decide (b < 1073741824)) = true; rw [decide_eq_true hb0, decide_eq_true hb1]; rfl)
    have fin : ∀ z i x y : Int, Φ (.int (z % b)) [(L, .l [.list (zs.map .int), .int i, .int x, .int y])] := fun z i x y => q _ _ (Int.emod_nonneg _ (by omega)) (Int.emod_lt_of_pos _ hb0) ⟨zs, i, x, y, rfl⟩
    by_cases hx : 0 < x
    · refine ⟨L, _, true, rfl, lookO1, by show some (decide (0 < x)) = some true; rw [decide_eq_true hx], iteT ?_⟩
      refine ⟨L, _, .int (x % b), rfl, lookO1, hmod x, rfl, ?_⟩
      refine ⟨L, rfl, L, _, .int (x / b), rfl, lookO1, hfdv x, rfl, _, 2, lookO1, rfl, ?_⟩
      refine ⟨.int (x % b), rfl, ?_⟩
      rw [setO1]
      exact fin _ _ _ _
    · refine ⟨L, _, false, rfl, lookO1, by show some (decide (0 < x)) = some false; rw [decide_eq_false hx], iteF ?_⟩
      refine ⟨L, _, .int i, rfl, lookO1, rfl, rfl, ?_⟩
      have hm1 : ∀ z : Int, mulD (.int z) (.int 48271) = some (.int (z * 48271)) := fun z => if_pos (by simp)
      have hm2 : ∀ z : Int, mulD (.int z) (.int 69621) = some (.int (z * 69621)) := fun z => if_pos (by simp)
      have hm3 : ∀ z : Int, mulD (.int (z % 2305843009213693951)) (.int (z % 2305843009213693951)) = some (.int (z % 2305843009213693951 * (z % 2305843009213693951))) := fun z => if_pos (by
        have h1 := Int.emod_nonneg z (b := 2305843009213693951) (by omega)
        have h2 := Int.emod_lt_of_pos z (b := 2305843009213693951) (by omega)
        simp only [Bool.or_eq_true, Bool.and_eq_true, decide_eq_true_eq]
        omega)
      cases zs with
      | nil =>
        refine ⟨L, _, false, rfl, lookO1, rfl, iteF ?_⟩
        refine ⟨L, rfl, L, _, .int (i + 1), rfl, lookO1, rfl, rfl, _, 1, lookO1, rfl, ?_⟩
        rw [setO1]
        by_cases h12 : 1000000000000000000 ≤ i ∧ i + 1 ≤ ((([] : List Int).map PyData.int).length : Int)
        · refine ⟨L, _, true, rfl, lookO1, ?_, iteT ?_⟩
          · show (if decide ((1000000000000000000 : Int) ≤ i) = true then some (decide (i + 1 ≤ ((([] : List Int).map PyData.int).length : Int))) else some false) = some true
            rw [if_pos (decide_eq_true h12.1), decide_eq_true h12.2]
          refine ⟨L, rfl, .int (i / b), hfdv i, _, 2, lookO1, rfl, ?_⟩
          rw [setO1]
          exact ⟨.int (i % b), hmod i, fin _ _ _ _⟩
        · refine ⟨L, _, false, rfl, lookO1, ?_, iteF ?_⟩
          · show (if decide ((1000000000000000000 : Int) ≤ i) = true then some (decide (i + 1 ≤ ((([] : List Int).map PyData.int).length : Int))) else some false) = some false
            by_cases h1 : (1000000000000000000 : Int) ≤ i
            · rw [if_pos (decide_eq_true h1), decide_eq_false fun h2 => h12 ⟨h1, h2⟩]
            · rw [if_neg (by simpa using h1)]
          refine ⟨.int (i % 2305843009213693951), rfl, ?_⟩
          refine ⟨L, rfl, L, _, .int ((y * 48271 + i % 2305843009213693951 * 69621 + (i + 1)) % 2305843009213693951), rfl, lookO1, ?_, rfl, _, 3, lookO1, rfl, ?_⟩
          · show (((((mulD (.int y) (.int 48271)).bind fun a => (mulD (.int (i % 2305843009213693951)) (.int 69621)).bind fun b => addD a b)).bind fun a => (some (PyData.int (i + 1))).bind fun b => addD a b).bind fun a => (some (PyData.int 2305843009213693951)).bind fun b => modD a b) = _
            rw [hm1, hm2]
            rfl
          rw [setO1]
          refine ⟨L, _, .int ((y * 48271 + i % 2305843009213693951 * 69621 + (i + 1)) % 2305843009213693951 * ((y * 48271 + i % 2305843009213693951 * 69621 + (i + 1)) % 2305843009213693951) % 2147483629 / 8 % b), rfl, lookO1, ?_, rfl, fin _ _ _ _⟩
          show ((((mulD (.int ((y * 48271 + i % 2305843009213693951 * 69621 + (i + 1)) % 2305843009213693951)) (.int ((y * 48271 + i % 2305843009213693951 * 69621 + (i + 1)) % 2305843009213693951)))).bind fun a => (some (PyData.int 2147483629)).bind fun b => modD a b).bind fun a => (some (PyData.int 8)).bind fun b => fdvD a b).bind (fun a => (some (PyData.int b)).bind fun b => modD a b) = _
          rw [hm3]
          exact hmod _
      | cons z0 zr =>
        refine ⟨L, _, true, rfl, lookO1, ?_, iteT ?_⟩
        · show (neD (.list ((z0 :: zr).map .int)) (.list [])).bind asB = some true
          unfold neD
          rw [if_pos ⟨okEq_ints _, rfl⟩]
          simp [PyData.eqv, PyData.eqvAll, asB]
        have hlen : (0 : Int) < ((((z0 :: zr).map PyData.int).length : Nat) : Int) := by simp
        obtain ⟨d, hd, hm⟩ := atI_nn (l := (z0 :: zr).map PyData.int) (Int.emod_nonneg i (by omega)) (Int.emod_lt_of_pos i hlen)
        obtain ⟨c, _, rfl⟩ := List.mem_map.mp hm
        refine ⟨L, _, .int c, rfl, lookO1, ?_, rfl, ?_⟩
        · show (modD (.int i) (.int ((((z0 :: zr).map PyData.int).length : Nat) : Int))).bind (fun k => ixD (.list ((z0 :: zr).map .int)) k) = _
          rw [show modD (.int i) (.int ((((z0 :: zr).map PyData.int).length : Nat) : Int)) = some (.int (i % ((((z0 :: zr).map PyData.int).length : Nat) : Int))) from if_pos (decide_eq_true hlen)]
          exact hd
        refine ⟨L, rfl, L, _, .int (i + 1), rfl, lookO1, rfl, rfl, _, 1, lookO1, rfl, ?_⟩
        rw [setO1]
        by_cases h12 : 1000000000000000000 ≤ c ∧ i + 1 ≤ (((z0 :: zr).map PyData.int).length : Int)
        · refine ⟨L, _, true, rfl, lookO1, ?_, iteT ?_⟩
          · show (if decide ((1000000000000000000 : Int) ≤ c) = true then some (decide (i + 1 ≤ (((z0 :: zr).map PyData.int).length : Int))) else some false) = some true
            rw [if_pos (decide_eq_true h12.1), decide_eq_true h12.2]
          refine ⟨L, rfl, .int (c / b), hfdv c, _, 2, lookO1, rfl, ?_⟩
          rw [setO1]
          exact ⟨.int (c % b), hmod c, fin _ _ _ _⟩
        · refine ⟨L, _, false, rfl, lookO1, ?_, iteF ?_⟩
          · show (if decide ((1000000000000000000 : Int) ≤ c) = true then some (decide (i + 1 ≤ (((z0 :: zr).map PyData.int).length : Int))) else some false) = some false
            by_cases h1 : (1000000000000000000 : Int) ≤ c
            · rw [if_pos (decide_eq_true h1), decide_eq_false fun h2 => h12 ⟨h1, h2⟩]
            · rw [if_neg (by simpa using h1)]
          refine ⟨.int (c % 2305843009213693951), rfl, ?_⟩
          refine ⟨L, rfl, L, _, .int ((y * 48271 + c % 2305843009213693951 * 69621 + (i + 1)) % 2305843009213693951), rfl, lookO1, ?_, rfl, _, 3, lookO1, rfl, ?_⟩
          · show (((((mulD (.int y) (.int 48271)).bind fun a => (mulD (.int (c % 2305843009213693951)) (.int 69621)).bind fun b => addD a b)).bind fun a => (some (PyData.int (i + 1))).bind fun b => addD a b).bind fun a => (some (PyData.int 2305843009213693951)).bind fun b => modD a b) = _
            rw [hm1, hm2]
            rfl
          rw [setO1]
          refine ⟨L, _, .int ((y * 48271 + c % 2305843009213693951 * 69621 + (i + 1)) % 2305843009213693951 * ((y * 48271 + c % 2305843009213693951 * 69621 + (i + 1)) % 2305843009213693951) % 2147483629 / 8 % b), rfl, lookO1, ?_, rfl, fin _ _ _ _⟩
          show ((((mulD (.int ((y * 48271 + c % 2305843009213693951 * 69621 + (i + 1)) % 2305843009213693951)) (.int ((y * 48271 + c % 2305843009213693951 * 69621 + (i + 1)) % 2305843009213693951)))).bind fun a => (some (PyData.int 2147483629)).bind fun b => modD a b).bind fun a => (some (PyData.int 8)).bind fun b => fdvD a b).bind (fun a => (some (PyData.int b)).bind fun b => modD a b) = _
          rw [hm3]
          exact hmod _
end
end DL

set_option Elab.async false
set_option linter.all false
set_option maxRecDepth 100000
set_option maxHeartbeats 4000000
/-! sorted(xs, key=lambda x: ..). -/
namespace DL
open PySem PySem.Spec PyProof.Rows L2 Evl
open LamX (TabS TabB CodeO inv_table among_app codeO_ne)
section
variable {X : Cx} {pins : List (Addr × Obj)} {σ : L2.St} {H : Hp} {s : Shared}
/-- the lambda is made; nothing but the table at P1 changes -/
theorem lam_make3 {c P1 : Addr} {params : Arguments} {body : Expr} {scope : Scope} {pos : Pos} {E : Value → Shared → Prop} {Q : Value → Shared → Prop} (I : Inv X pins σ H s) (TB : TabB X.base X.mg c P1) (hcode : X.env.code = .ref c)
    (hT : TabS H P1 (X.env.qual ++ "<lambda>")) (hdef : defaultsOf params X.env = ([], [])) (hcl : closureFor scope X.env = pure [])
    (h : ∀ (f c' : Addr) (pm ctv : Value) (H1 : Hp) (s' : Shared), Inv X pins σ H1 s' → (∀ b o, b ≠ P1 → H b = some o → H1 b = some o) → TabS H1 P1 (X.env.qual ++ "<lambda>") →
      s'.heap.get? f = some (PySem.W.kla_obj "<lambda>" (X.env.qual ++ "<lambda>") params body scope [] pm c' ctv) → H1 f = none → f ≠ X.env.locals → f ∉ X.fs → H1 c' = some (CodeO c' (X.env.qual ++ "<lambda>")) → Q (.ref f) s') :
    wpAny (model X.prog X.w) X.A (eval (.Lambda params body scope pos) X.env) Q E s := by
  obtain ⟨ps, hP, ht, ha⟩ := hT
  refine PySem.W.kla_eval hdef ?_
  have bP : s.heap.BuiltinsAt X.mg P1 := TB.bm.keeps I.bk
  have hP' : s.heap.get? P1 = some { cls := .none, data := .fields ps } := I.hok P1 _ hP
  have nl : ∀ f, s.heap.objs.size ≤ f → f ≠ X.env.locals ∧ f ∉ X.fs := fun f hf => ⟨fun z => by
    have h1 := I.lt
    rw [← z] at h1
    exact Nat.lt_irrefl _ (Nat.lt_of_lt_of_le h1 hf), I.nofs hf⟩
  cases hc : codeAmong pos ps.toList with
  | none =>
    refine PySem.W.kla_makeFunction (mg := X.mg) (c := c) (P := P1) (ps := ps) hcl I.ok.glob (I.mod.glob.keeps I.bk) hcode (TB.code.keeps I.bk) hP' ht hc TB.gP bP fun c' ctv h' tk hx hge hlt hrec htb => ?_
    obtain ⟨c2, oc, vs, t, e2, hoc, hd, hv⟩ := hrec
    cases e2
    have hsz : s.heap.objs.size ≤ h'.objs.size := Nat.le_trans hge (Nat.le_of_lt hlt)
    have nC : H c' = none := I.hok.fresh hge
    have I1 := inv_table (t' := tk) (more := #[rawInt pos.line, rawInt pos.col, .ref c']) (h' := h'.push (PySem.W.kla_obj "<lambda>" (X.env.qual ++ "<lambda>") params body scope [] ((X.mg "__name__").getD .none) c' ctv)) I hP
      (fun b o hb e => Heap.get?_push_of_some _ (hx b o hb e)) (Heap.get?_push_of_some _ htb) hge ⟨oc, vs, t, Heap.get?_push_of_some _ hoc, hd, hv⟩
    have nPc : P1 ≠ c' := fun z => by rw [z, nC] at hP; cases hP
    have keep : ∀ b o, b ≠ P1 → H b = some o → (upd (upd H P1 (.tbl (ps ++ #[rawInt pos.line, rawInt pos.col, .ref c']))) c' (CodeO c' (X.env.qual ++ "<lambda>"))) b = some o := fun b o hb e => by
      have : b ≠ c' := fun z => by rw [z, nC] at e; cases e
      rw [upd_ne this, upd_ne hb]
      exact e
    have eL : (ps ++ #[rawInt pos.line, rawInt pos.col, .ref c']).toList = ps.toList ++ [rawInt pos.line, rawInt pos.col, .ref c'] := by simp
    obtain ⟨n1, n2⟩ := nl _ hsz
    refine h h'.objs.size c' ((X.mg "__name__").getD .none) ctv _ _ I1 keep ⟨_, by rw [upd_ne nPc, upd_same], by rw [eL]; exact PySem.TriplesOk_snoc _ _ _ _ ht, fun p' cv hcv => ?_⟩ (Heap.get?_push_size _ rfl) ?_ n1 n2 upd_same
    · rw [eL] at hcv
      rcases among_app _ ht hcv with z | z
      · obtain ⟨c0, e1, e2⟩ := ha p' cv z
        refine ⟨c0, e1, keep _ _ (fun z => ?_) e2⟩
        rw [z, hP] at e2
        unfold CodeO at e2
        cases e2
      · exact ⟨c', z, upd_same⟩
    · have m1 : h'.objs.size ≠ c' := Nat.ne_of_gt hlt
      have m2 : h'.objs.size ≠ P1 := Nat.ne_of_gt (Nat.lt_of_lt_of_le (Heap.lt_size hP') hsz)
      rw [upd_ne m1, upd_ne m2]
      exact I.hok.fresh hsz
  | some cv =>
    obtain ⟨c', e, hco⟩ := ha pos cv hc
    subst e
    refine PySem.W.kla_makeFunctionHit (mg := X.mg) (c := c) (P := P1) (ps := ps) hcl I.ok.glob (I.mod.glob.keeps I.bk) hcode (TB.code.keeps I.bk) hP' ht hc bP fun ctv h' tk hx hsz => ?_
    have I1 : Inv X pins σ H { s with heap := h'.push (PySem.W.kla_obj "<lambda>" (X.env.qual ++ "<lambda>") params body scope [] ((X.mg "__name__").getD .none) c' ctv), toks := tk } := I.kept fun b o e => Heap.get?_push_of_some _ (hx b o e)
    obtain ⟨n1, n2⟩ := nl _ hsz
    exact h h'.objs.size c' ((X.mg "__name__").getD .none) ctv H _ I1 (fun _ _ _ e => e) ⟨ps, hP, ht, ha⟩ (Heap.get?_push_size _ rfl) (I.hok.fresh hsz) n1 n2 hco
/-- a call of the lambda at f -/
theorem lam_call {q : Str} {params : Arguments} {body : Expr} {scope : Scope} {pm ctv : Value} {f c' : Addr} {k : Nat} {N ps : List Str} {F : DF} {G : Hp} {u : Value} {v : V} {d kd : PyData} {Q : VK} (S : FnScope N ps scope) (hps : ps.length = 1)
    (hbind : ∀ u : Value, bindArgs (PySem.W.kla_fn "<lambda>" q params body scope [] pm (.ref c') ctv) ⟨[u], []⟩ = pure (ps.zip [u])) (hr : Room (k + 1) X.A.in1.in1)
    (I : Inv X pins σ H s) (hf : s.heap.get? f = some (PySem.W.kla_obj "<lambda>" q params body scope [] pm c' ctv)) (hc : H c' = some (CodeO c' q))
    (hbody : ∀ (A : Around) (outer : List Env) (s : Shared) (H : Hp) (E : XK), Room k (A.deeper (envOfC q scope s.heap.objs.size f (.ref c'))) → PD (cxOf CX0 X.prog X.w X.K X.mg X.base N q scope f (.ref c') A outer s H E).nox body F)
    (eg : Ex G H) (rd : RD X.K G v d) (rv : RelV v u) (hF : F (startD N.length [d]) = some kd) (hq : DQ X.K G H kd Q) :
    wpAny (model X.prog X.w) X.A.in1.in1 (call (.ref f) [u]) (EP X pins σ Q) (fun _ _ => False) s := by
  obtain ⟨⟨oc, vs, t, hoc, hdc, hvc⟩, _, _⟩ := I.hok c' _ hc
  have e0 := I.env0.in1.in1
  have lim : s.heap.NoLimit := I.nolimit
  have hkind : ∀ y ∈ ps.zip [u], scope.names.lookup y.1 = some .local ∨ (scope.names.lookup y.1 = some .cell ∧ ((cellsFrom (s.heap.objs.size + 1) scope.names []).lookup y.1).isSome = true) := fun ⟨n, v⟩ hy => by
    rcases S.par n (List.of_mem_zip hy).1 with q | q
    · exact .inl q
    · exact .inr ⟨q, PySem.W.cellsFrom_some _ _ _ (.inl q)⟩
  refine wpAny_call ?_
  have rc : codeAny (model X.prog X.w) X.A.in1.in1 (.call (.ref f) ⟨[u], []⟩) (CR CX0 X.stack X.prog X.w H s Q E0) s := by
    refine PySem.W.kla_callFunE hr.depth hf rfl S.co S.gen rfl ⟨c', oc, vs, t, rfl, hoc, hdc, hvc⟩ ?_
    rw [hbind]
    refine wpAny_pure (wpAny_newFunctionEnv_cells S.kind hkind fun env he s1 x => ?_)
    subst he
    refine ⟨lim.keeps x.toInCall.keep, ?_⟩
    have J : Inv (cxOf CX0 X.prog X.w X.K X.mg X.base N q scope f (.ref c') X.A.in1.in1 X.stack s H E0) [] (L2.start N [v]) H s1 := inv_start S hr.hd e0 hps.symm (.cons rv .nil) x
    have hb := hbody X.A.in1.in1 X.stack s H E0 (hr.deeper _)
    refine PySem.W.kla_codeExpr (wpAny_mono (hb.nox.run [] s1 _ H Q J ⟨G, _, kd, eg, start_rd (.cons rd .nil), hF, hq⟩) (fun v' s' hq' => ?_) fun e s' hq' => ?_)
    · obtain ⟨w', H', J', rv', q'⟩ := hq'
      exact ⟨w', H', J'.os, J'.bare, J'.base, J'.hok, rv', q'⟩
    · exact hq'
  refine codeAny_mono rc fun r s' hq' => ?_
  cases r with
  | error e => exact (show False from hq').elim
  | ok fl =>
    cases fl with
    | ret u => exact I.after hq'
    | next => exact False.elim hq'
    | brk => exact False.elim hq'
    | cont => exact False.elim hq'
end
/-- sorted(a, key=lambda ..): what the keys must be is told by okL -/
def sortLW (okL : List PyData → Bool) (tr : PyData → PyData) (n : Nat) (Fk : DF) (F : WF) : WF := fun own ρ Φ => F own ρ fun d o => ∃ ds ks, d = .list ds ∧ ds.length ≤ 100000 ∧ mapD (fun d => Fk (startD n [d])) ds = some ks ∧ okL ks = true ∧ Φ (.list (sortKD tr ds ks)) o
theorem we_sortLam {X : Cx} {B : Ab} {a : Expr} {F : WF} {okL : List PyData → Bool} {tr : PyData → PyData} {Fk : DF} {N ps : List Str} {params : Arguments} {body : Expr} {scope : Scope} {lpos p pos kp : Pos} {c P1 : Addr} {k : Nat} (hr : Room (k + 4) X.A) (hg : Gl X "sorted") (hm : X.mg "sorted" = none)
    (hT : B.TT = [(P1, X.env.qual ++ "<lambda>")]) (TB : TabB X.base X.mg c P1) (hcode : X.env.code = .ref c) (hdef : defaultsOf params X.env = ([], [])) (hcl : closureFor scope X.env = pure []) (S : FnScope N ps scope) (hps : ps.length = 1)
    (hbind : ∀ (f c' : Addr) (pm ctv : Value) (u : Value), bindArgs (PySem.W.kla_fn "<lambda>" (X.env.qual ++ "<lambda>") params body scope [] pm (.ref c') ctv) ⟨[u], []⟩ = pure (ps.zip [u]))
    (hok : ∀ ks, okL ks = true → Sorts X.prog X.w X.A.in1.in1 tr ks ∧ noIns.noInsAll ks = true)
    (hbody : ∀ (f c' : Addr) (A : Around) (outer : List Env) (s : Shared) (H : Hp) (E : XK), Room k (A.deeper (envOfC (X.env.qual ++ "<lambda>") scope s.heap.objs.size f (.ref c'))) → PD (cxOf CX0 X.prog X.w X.K X.mg X.base N (X.env.qual ++ "<lambda>") scope f (.ref c') A outer s H E).nox body Fk)
    (ha : WE X B a F) (hs0 : starEach [a] X.env = (false, eval a X.env) :: starEach [] X.env := by rfl)
    (he : backTo pos (starEach [a] X.env) = (false, eval a X.env) :: backTo pos (starEach [] X.env) := by rfl) (hpl : (backTo pos (starEach [a] X.env)).any (·.1) = false := by rfl)
    (hall : (backToKw pos (keywordEach [⟨some "key", .Lambda params body scope lpos, kp⟩] X.env)).all (·.1.isSome) = true := by rfl) (hnone : (backToKw pos (keywordEach [⟨some "key", .Lambda params body scope lpos, kp⟩] X.env)).any (·.1.isNone) = false := by rfl) (hks : (backToKw pos (keywordEach [⟨some "key", .Lambda params body scope lpos, kp⟩] X.env)).filterMap (·.1) = [Str.ofString "key"] := by rfl) :
    WE X B (.Call (.Name "sorted" p) [a] [⟨some "key", .Lambda params body scope lpos, kp⟩] pos) (sortLW okL tr N.length Fk F) := by
  refine ⟨fun pins s σ H Q I h => ?_⟩
  obtain ⟨G, ρ, own, fr, Φ, er, W, hp, q⟩ := h
  refine wpAny_Call_Name_kw (ld_blt I hg hm (by decide +kernel : bootBuiltins "sorted" = some (.builtin "sorted")) ?_)
  refine PyProof.Rows.callWith_kw ?_ he hpl hall hnone
  rw [hks]
  refine thn ((pa_cons ha pa_nil hs0).run pos pins s σ H (fun vs H1 => ∃ v, vs = [v] ∧ ∃ d o G1, (∃ ds ks, d = .list ds ∧ ds.length ≤ 100000 ∧ mapD (fun d => Fk (startD N.length [d])) ds = some ks ∧ okL ks = true ∧ Φ (.list (sortKD tr ds ks)) o) ∧ Ex G G1 ∧ Wd X.K X.prog X.w B G1 H1 (o ++ fr) ∧ RD X.K G1 v d) I
    ⟨G, ρ, own, fr, _, er, W, hp, fun d o v H1 G1 h1 e1 W1 r1 => ⟨v, rfl, d, o, G1, h1, e1, W1, r1⟩⟩) fun us s1 ⟨vs, H1, I1, rvs, v, ev, d, o, G1, ⟨ds, ks, ed, hlen, hks2, hokk, hΦ⟩, e1, W1, r1⟩ => ?_
  subst ev ed
  have hTab : TabS H1 P1 (X.env.qual ++ "<lambda>") := W1.tab _ (by rw [hT]; exact List.mem_cons_self)
  have gP : G1 P1 = none := (W1.tg (P1, _) (by rw [hT]; exact List.mem_cons_self)).1
  have xP : P1 ∈ B.ex := (W1.tg (P1, _) (by rw [hT]; exact List.mem_cons_self)).2
  show wpAny _ _ (evalAll [do let v ← eval (.Lambda params body scope lpos) X.env; standAt pos; pure v]) _ _ s1
  refine wpAny_evalAll_cons (wpAny_bind (lam_make3 I1 TB hcode hTab hdef hcl fun f c' pm ctv H2 s2 I2 keep hTab2 hf hfn hfl hfs hco => wpAny_bind (wpAny_standAt (wpAny_pure (wpAny_evalAll_nil ?_)))))
  have e2 : Ex G1 H2 := fun b ob hb => keep b ob (fun z => by rw [z, gP] at hb; cases hb) (W1.gh b ob hb)
  have W2 : Wd X.K X.prog X.w B G1 H2 (o ++ fr) := by
    refine ⟨fun b ob h1 h2 => keep b ob (fun z => h2 (by rw [z]; exact xP)) (W1.hh b ob h1 h2), e2, W1.gg, W1.fr, fun p hp => ?_, W1.nd, fun t ht => ?_, W1.tg, fun b hb => ?_⟩
    · obtain ⟨k1, k2, k3, k4⟩ := W1.owd p hp
      obtain ⟨ob, ho⟩ := Option.ne_none_iff_exists'.mp k1.some
      exact ⟨k1.mono ((keep _ _ (k4 (P1, _) (by rw [hT]; exact List.mem_cons_self)) ho).trans ho.symm) (Ex.refl G1), k2, k3, k4⟩
    · rw [hT] at ht
      have ht := List.mem_singleton.mp ht
      rw [ht]
      exact hTab2
    · by_cases z : b = P1
      · obtain ⟨ps, hp, _⟩ := hTab2
        rw [z, hp]
        simp
      · obtain ⟨ob, ho⟩ := Option.ne_none_iff_exists'.mp (W1.exs b hb)
        rw [keep b ob z ho]
        simp
  cases rvs with
  | cons rv0 rvn =>
    cases rvn
    cases r1 with
    | lst s1' t1 =>
      cases rv0
      obtain ⟨Sk, nk⟩ := hok ks hokk
      have I3 : Inv X ((f, PySem.W.kla_obj "<lambda>" (X.env.qual ++ "<lambda>") params body scope [] pm c' ctv) :: pins) σ H2 s2 := I2.pins_of fun p hp => by
        rcases List.mem_cons.mp hp with rfl | hp
        · exact ⟨hf, hfn, hfl, hfs, fun v z => by cases z⟩
        · exact I2.pin p (List.mem_append_right _ hp)
      refine thn (sort_run (Q := fun v H' => ∃ G', Go G1 H2 G' H' ∧ RD X.K G' v (.list (sortKD tr ds ks))) I3 e2 (ex_l e2 s1') t1 hks2 nk Sk hlen (fun s' H' G' u v d kd Q' I' go rdv rv hg q' => ?_) fun v H' G' g r => ⟨G', g, r⟩) fun v s3 ⟨x, H3, I4, rx, G3, g3, r3⟩ => ?_
      · have pf := I'.pin (f, _) (List.mem_append_right _ List.mem_cons_self)
        exact lam_call (k := k) S hps (hbind f c' pm ctv) ((show Room (k + 1 + 1) X.A.in1 from (show Room (k + 1 + 1 + 1) X.A from hr.mono (by omega)).in1).in1) I' pf.1 (go.hh _ _ hco) (hbody f c') go.gh rdv rv hg q'
      · have I5 : Inv X pins σ H3 s3 := I4.pins_of fun p hp => I4.pin p (List.mem_append_right _ (List.mem_cons_of_mem _ hp))
        exact ⟨x, H3, I5, rx, q _ o x H3 G3 hΦ (e1.trans g3.gg) (W2.step g3) r3⟩
end DL

set_option Elab.async false
set_option linter.all false
set_option maxRecDepth 100000
set_option maxHeartbeats 4000000
/-! The order of the law's own keys: lists of (is a text, the value). -/
namespace DL
open PySem PySem.Spec PyProof.Rows L2 Evl
open PySem.SeqAt (EqAt RcLt firstLt firstLt_yes firstLt_no)
open PySem.W (SortsAt EachIs alikeAll dataLt keyToks)
/-- a < b of tuples: only the first place that differs is asked for its < -/
theorem tuple_ltF (l b : Addr) (items items2 : Array Value) (n n2 : Nat) (dd dd2 : Option Addr) (sl sl2 : Array (Option Value)) (e r : Nat → Bool) :
    Meets (Builtin.«tuple.__lt__» ⟨[.ref l, .ref b], []⟩)
      (fun A R s => s.heap.get? l = some { cls := .type "tuple", dict := dd, data := .seq items n, slots := sl } ∧ s.heap.get? b = some { cls := .type "tuple", dict := dd2, data := .seq items2 n2, slots := sl2 } ∧
        (∀ j (h1 : j < items.size) (h2 : j < items2.size), EqAt A.in1 s items[j] items2[j] (e j)) ∧ (∀ j (h1 : j < items.size) (h2 : j < items2.size), (∀ i < j, e i = true) → e j = false → RcLt A.in1 s items[j] items2[j] (r j)) ∧
        R (.ok (.ret (.bool (firstLt e r (decide (items.size < items2.size)) (List.range (min items.size items2.size)))))) s) :=
  .of_wp fun prog w A R s h => by
    obtain ⟨hp, g, d, tk, os⟩ := s; obtain ⟨hl, hb, he, hr, h⟩ := h
    have f2 := AutoSeq1.sub_tuple_tuple
    have hZ : (items.toList.zip items2.toList).length = min items.size items2.size := by simp
    wp_walk using AutoSeq1.wpAny_loadPart' hl, AutoSeq1.wpAny_loadPart' hb, wpAny_forIn_list _ (fun rest b s' => b.1 = none ∧ s' = ⟨hp, g, d, tk, os⟩ ∧ ∃ i, rest = (items.toList.zip items2.toList).drop i ∧ (∀ m < i, e m = true) ∧
      R (.ok (.ret (.bool (firstLt e r (decide (items.size < items2.size)) ((List.range (min items.size items2.size)).drop i))))) ⟨hp, g, d, tk, os⟩) _
    case turn =>
      rintro ⟨y, x⟩ rest b s' ⟨hb', rfl, i, hz, hall, hR⟩
      have hlt : i < (items.toList.zip items2.toList).length := by
        rcases Nat.lt_or_ge i (items.toList.zip items2.toList).length with h' | h'
        · exact h'
        · rw [List.drop_of_length_le h'] at hz; cases hz
      have hm : i < min items.size items2.size := hZ ▸ hlt
      have h1 : i < items.size := Nat.lt_of_lt_of_le hm (Nat.min_le_left _ _)
      have h2 : i < items2.size := Nat.lt_of_lt_of_le hm (Nat.min_le_right _ _)
      rw [List.drop_eq_getElem_cons hlt] at hz
      injection hz with hyx hrest
      have hy : y = items[i] := by have := congrArg Prod.fst hyx; simpa using this
      have hx : x = items2[i] := by have := congrArg Prod.snd hyx; simpa using this
      subst hy hx
      have hd : (List.range (min items.size items2.size)).drop i = i :: (List.range (min items.size items2.size)).drop (i + 1) := by simp [List.drop_eq_getElem_cons, hm]
      rw [hd] at hR
      refine wpAny_bind (he i h1 h2 prog w _ _ ?_)
      cases hy : e i with
      | true =>
        rw [firstLt_yes hy] at hR
        wp_walk
        exact ⟨rfl, rfl, i + 1, hrest, fun m hm => (Nat.lt_or_ge m i).elim (hall m) (fun z => by rw [show m = i by omega]; exact hy), hR⟩
      | false =>
        rw [firstLt_no hy] at hR
        generalize hrc : PySem.richCompare CmpOp.Lt items[i] items2[i] = rc
        wp_walk
        rw [← hrc]
        refine hr i h1 h2 hall hy prog w _ _ ?_
        wp_walk
        exact ⟨_, rfl, hR⟩
    case fin =>
      rintro ⟨b1, b2⟩ s' ⟨hb', rfl, i, hz, hall, hR⟩
      simp only at hb'
      subst hb'
      have hge : min items.size items2.size ≤ i := by
        rcases Nat.lt_or_ge i (items.toList.zip items2.toList).length with h' | h'
        · rw [List.drop_eq_getElem_cons h'] at hz; cases hz
        · exact hZ ▸ h'
      rw [List.drop_of_length_le (by simpa using hge)] at hR
      wp_walk
      exact ⟨_, rfl, by simpa [Builtin.Tuple.tupleCompareSizes, firstLt] using hR⟩
    case h =>
      exact ⟨rfl, rfl, 0, rfl, fun m hm => absurd hm (Nat.not_lt_zero m), by simpa using h⟩
theorem RcLt_tuplesF {A : Around} {s : Shared} {l b : Addr} {items items2 : Array Value} {e r : Nat → Bool} (hl : s.heap.IsTuple l items) (hb : s.heap.IsTuple b items2) (hu : A.units < cLine)
    (he : ∀ j (h1 : j < items.size) (h2 : j < items2.size), EqAt A.in1 s items[j] items2[j] (e j)) (hr : ∀ j (h1 : j < items.size) (h2 : j < items2.size), (∀ i < j, e i = true) → e j = false → RcLt A.in1 s items[j] items2[j] (r j)) :
    RcLt A s (.ref l) (.ref b) (firstLt e r (decide (items.size < items2.size)) (List.range (min items.size items2.size))) := fun prog w E Q h => by
  obtain ⟨⟨cls, dd, data, sl⟩, ho, hc, n, hd⟩ := id hl
  obtain ⟨⟨cls2, dd2, data2, sl2⟩, ho2, hc2, n2, hd2⟩ := id hb
  simp only at hc hd hc2 hd2
  subst hc hd hc2 hd2
  exact richCompare_meets_room (op := .Lt) ⟨_, ho, rfl⟩ ⟨_, ho2, rfl⟩ PySem.F.slot_tuple_lt PySem.F.entry_tuple_lt (PySem.F.args_tuple_lt_2 _ _) (tuple_ltF l b items items2 n n2 dd dd2 sl sl2 e r)
    ⟨ho, ho2, he, hr, show Value.bool (firstLt e r (decide (items.size < items2.size)) (List.range (min items.size items2.size))) ≠ Value.notImplemented ∧ Q (.bool (firstLt e r (decide (items.size < items2.size)) (List.range (min items.size items2.size)))) s from ⟨(fun x => nomatch x), h⟩⟩ hu
/-- (is a text, the value) -/
def lawV : PyData → Bool
  | .tuple [.bool false, .int _] => true
  | .tuple [.bool true, .str _] => true
  | _ => false
def trV : PyData → PyData
  | .tuple [.bool false, .int i] => .tuple [.int 0, .int i, .str ""]
  | .tuple [.bool true, .str x] => .tuple [.int 1, .int 0, .str x]
  | d => d
def trL : PyData → PyData
  | .list vs => .list (vs.map trV)
  | d => d
def okL (ks : List PyData) : Bool := ks.all fun k => okEq k && match k with
  | .list vs => vs.all lawV
  | _ => false
theorem trV_alike {d d' : PyData} (h : lawV d = true) (h' : lawV d' = true) : PySem.W.alike (trV d) (trV d') = true := by
  unfold lawV at h
  split at h <;> first | (cases h; done) | skip
  all_goals (unfold lawV at h'; split at h' <;> first | (cases h'; done) | skip)
  all_goals simp [trV, PySem.W.alike, PySem.W.alikeAll]
theorem trV_alikeAll : ∀ {ds ds' : List PyData}, ds.all lawV = true → ds'.all lawV = true → alikeAll (ds.map trV) (ds'.map trV) = true
  | [], _, _, _ => by simp [PySem.W.alikeAll]
  | _ :: _, [], _, _ => by simp [PySem.W.alikeAll]
  | d :: ds, d' :: ds', h, h' => by
    rw [List.all_cons, Bool.and_eq_true] at h h'
    simp only [List.map_cons, PySem.W.alikeAll, Bool.and_eq_true]
    exact ⟨trV_alike h.1 h'.1, trV_alikeAll h.2 h'.2⟩
theorem trV_eqv {d d' : PyData} (h : lawV d = true) (h' : lawV d' = true) : PyData.eqv (trV d) (trV d') = PyData.eqv d d' := by
  unfold lawV at h
  split at h <;> first | (cases h; done) | skip
  all_goals (unfold lawV at h'; split at h' <;> first | (cases h'; done) | skip)
  all_goals simp [trV, PyData.eqv, PyData.eqvAll]
theorem trKind_some {h : Heap} {ds : List PyData} {tr : PyData → PyData} (hun : ∀ d ∈ ds, ∀ d' ∈ ds, ∀ v as as', Reads h v d as → Reads h v d' as' → d = d') {v : Value} {d : PyData} {as : List Addr} (hd : d ∈ ds) (r : Reads h v d as) : (trKind h ds tr).keyOf v = some (keyToks (tr d)) := by
  have q : ∃ d, d ∈ ds ∧ ∃ as, Reads h v d as := ⟨d, hd, as, r⟩
  have e : (trKind h ds tr).keyOf v = some (keyToks (tr q.choose)) := by
    show (open Classical in if q : ∃ d, d ∈ ds ∧ ∃ as, Reads h v d as then some (keyToks (tr q.choose)) else none) = _
    rw [dif_pos q]
  obtain ⟨h1, as', h2⟩ := q.choose_spec
  rw [e, hun _ h1 _ hd v as' as h2 r]
theorem trKind_inv {h : Heap} {ds : List PyData} {tr : PyData → PyData} {v : Value} {k : List (Int ⊕ List Nat)} (e : (trKind h ds tr).keyOf v = some k) : ∃ d as, d ∈ ds ∧ Reads h v d as ∧ k = keyToks (tr d) := by
  by_cases q : ∃ d, d ∈ ds ∧ ∃ as, Reads h v d as
  · have e' : (trKind h ds tr).keyOf v = some (keyToks (tr q.choose)) := by
      show (open Classical in if q : ∃ d, d ∈ ds ∧ ∃ as, Reads h v d as then some (keyToks (tr q.choose)) else none) = _
      rw [dif_pos q]
    obtain ⟨h1, as', h2⟩ := q.choose_spec
    rw [e'] at e
    exact ⟨_, as', h1, h2, (Option.some.inj e).symm⟩
  · have e' : (trKind h ds tr).keyOf v = none := by
      show (open Classical in if q : ∃ d, d ∈ ds ∧ ∃ as, Reads h v d as then some (keyToks (tr q.choose)) else none) = _
      rw [dif_neg q]
      rfl
    rw [e'] at e
    exact absurd e (by simp)
/-- one thing reads as one datum -/
theorem cls_ne {o : Obj} (h1 : o.cls = .type "list") (h2 : o.cls = .type "tuple") : False := by
  rw [h1] at h2
  injection h2 with h2
  exact absurd h2 (by decide)
mutual
theorem reads_uniq {h : Heap} : ∀ (d d' : PyData) (v : Value) (as as' : List Addr), noIns d = true → noIns d' = true → Reads h v d as → Reads h v d' as' → d = d'
  | .none, _, _, _, _, _, _, r, r' => by cases r; cases r'; rfl
  | .bool _, _, _, _, _, _, _, r, r' => by cases r; cases r'; rfl
  | .int _, _, _, _, _, _, _, r, r' => by cases r; cases r'; rfl
  | .str _, _, _, _, _, _, _, r, r' => by cases r; cases r'; rfl
  | .list xs, d', _, _, _, n, n', r, r' => by
    cases r with
    | list h1 h2 h3 h4 =>
      cases r' with
      | list k1 k2 k3 k4 =>
        rw [h1] at k1; cases k1
        rw [h3] at k3; cases k3
        rw [readsAll_uniq xs _ _ _ _ (by simpa [noIns] using n) (by simpa [noIns] using n') h4 k4]
      | tuple k1 k2 k3 k4 =>
        rw [h1] at k1; cases k1
        exact (cls_ne h2 k2).elim
      | dict k1 k2 k3 k4 k5 => simp [noIns] at n'
  | .tuple xs, d', _, _, _, n, n', r, r' => by
    cases r with
    | tuple h1 h2 h3 h4 =>
      cases r' with
      | tuple k1 k2 k3 k4 =>
        rw [h1] at k1; cases k1
        rw [h3] at k3; cases k3
        rw [readsAll_uniq xs _ _ _ _ (by simpa [noIns] using n) (by simpa [noIns] using n') h4 k4]
      | list k1 k2 k3 k4 =>
        rw [h1] at k1; cases k1
        exact (cls_ne k2 h2).elim
      | dict k1 k2 k3 k4 k5 => simp [noIns] at n'
  | .dict _, _, _, _, _, n, _, _, _ => by simp [noIns] at n
theorem readsAll_uniq {h : Heap} : ∀ (xs ys : List PyData) (vs : List Value) (as as' : List Addr), noIns.noInsAll xs = true → noIns.noInsAll ys = true → ReadsAll h vs xs as → ReadsAll h vs ys as' → xs = ys
  | [], _, _, _, _, _, _, r, r' => by cases r; cases r'; rfl
  | x :: xs, ys, _, _, _, n, n', r, r' => by
    cases r with
    | cons h1 h2 =>
      cases r' with
      | cons k1 k2 =>
        simp only [noIns.noInsAll, Bool.and_eq_true] at n n'
        rw [reads_uniq x _ _ _ _ n.1 n'.1 h1 k1, readsAll_uniq xs _ _ _ _ n.2 n'.2 h2 k2]
end
theorem pair_lt {A : Around} {s : Shared} {b b' : Bool} {x x' : PyData} (hu : A.units + 4 < cLine) (d1 : x.depth = 0) (d2 : x'.depth = 0) : ∀ (w1 w2 : List Value) (as as' : List Addr), ReadsAll s.heap w1 [.bool b, x] as → ReadsAll s.heap w2 [.bool b', x'] as' →
    ∀ j (h1 : j < w1.length) (h2 : j < w2.length), (j = 1 → PySem.W.alike x x' = true ∧ x ≠ .none) → RcLt A s w1[j] w2[j] (if j = 0 then dataLt (.bool b) (.bool b') else dataLt x x') := by
  intro w1 w2 as as' r1 r2 j h1 h2 hal
  cases r1 with
  | cons a1 a2 =>
    cases r2 with
    | cons b1 b2 =>
      cases a2 with
      | cons a3 a4 =>
        cases b2 with
        | cons b3 b4 =>
          cases a4
          cases b4
          match j, h1, h2, hal with
          | 0, _, _, _ => exact PySem.W.rcLt_alike (.bool b) (.bool b') A s _ _ _ _ a1 b1 (by simp [PySem.W.alike]) (fun z => by cases z) (by simp only [PyData.depth]; simp; omega)
          | 1, _, _, hal => exact PySem.W.rcLt_alike x x' A s _ _ _ _ a3 b3 (hal rfl).1 (hal rfl).2 (by rw [d1, d2]; simp; omega)
theorem canS {x : Str} {b : Bool} (h : (PyData.tuple [.bool b, .str x]).canLay0 = true) : (PyData.str x).canLay0 = true := by
  simpa [PyData.canLay0, PyData.canLayAll0] using h
theorem can_at : ∀ {ds : List PyData} (j : Nat) (h : j < ds.length), PyData.canLayAll0 ds = true → (ds[j]).canLay0 = true
  | [], _, h, _ => absurd h (Nat.not_lt_zero _)
  | d :: ds, 0, _, c => by
    simp only [PyData.canLayAll0, Bool.and_eq_true] at c
    exact c.1
  | d :: ds, j + 1, h, c => by
    simp only [PyData.canLayAll0, Bool.and_eq_true] at c
    exact can_at j (Nat.lt_of_succ_lt_succ h) c.2
theorem getD_at {l : List PyData} {j : Nat} (h : j < l.length) : l.getD j .none = l[j] := by
  simp [List.getD, List.getElem?_eq_getElem h]
theorem reads_at {h : Heap} : ∀ {vs : List Value} {ds : List PyData} {as : List Addr}, ReadsAll h vs ds as → ∀ (j : Nat) (h1 : j < ds.length) (h2 : j < vs.length), ∃ as', Reads h vs[j] ds[j] as'
  | _, _, _, .nil, j, h1, _ => absurd h1 (Nat.not_lt_zero _)
  | _, _, _, .cons r t, 0, _, _ => ⟨_, r⟩
  | _, _, _, .cons r t, j + 1, h1, h2 => reads_at t j (Nat.lt_of_succ_lt_succ h1) (Nat.lt_of_succ_lt_succ h2)
/-- < of two such pairs -/
theorem lawV_lt {A : Around} {s : Shared} {d d' : PyData} {v v' : Value} {as as' : List Addr} (hu : A.units + 8 < cLine) (hd : lawV d = true) (hd' : lawV d' = true) (r : Reads s.heap v d as) (r' : Reads s.heap v' d' as') (hne : PyData.eqv d d' = false) (c : d.canLay0 = true) (c' : d'.canLay0 = true) : RcLt A s v v' (dataLt (trV d) (trV d')) := by
  have key : ∀ (b b' : Bool) (x x' : PyData) (u u' : Value), (b = b' → PySem.W.alike x x' = true ∧ x ≠ .none) → lawV (.tuple [.bool b, x]) = true → lawV (.tuple [.bool b', x']) = true →
      Reads s.heap v (.tuple [.bool b, x]) as → Reads s.heap v' (.tuple [.bool b', x']) as' → x.canLay0 = true → x'.canLay0 = true → x.depth = 0 → x'.depth = 0 →
      RcLt A s v v' (firstLt (PySem.SeqAt.pairEq [.bool b, x] [.bool b', x']) (fun j => if j = 0 then dataLt (.bool b) (.bool b') else dataLt x x') false [0, 1]) := by
    intro b b' x x' u u' hal _ _ r r' c1 c2 d1 d2
    cases r with
    | @tuple l o vs n _ _ h1 h2 h3 h4 =>
      cases r' with
      | @tuple l' o' vs' n' _ _ k1 k2 k3 k4 =>
        have n1 : vs.size = 2 := by simpa using SeqAt.ReadsAll.length _ _ _ h4
        have n2 : vs'.size = 2 := by simpa using SeqAt.ReadsAll.length _ _ _ k4
        have z := RcLt_tuplesF (A := A) (e := PySem.SeqAt.pairEq [.bool b, x] [.bool b', x']) (r := fun j => if j = 0 then dataLt (.bool b) (.bool b') else dataLt x x') ⟨_, h1, h2, _, h3⟩ ⟨_, k1, k2, _, k3⟩ (by omega) (fun j j1 j2 => ?_) (fun j j1 j2 hall hj => ?_)
        · rw [n1, n2] at z
          exact z
        · have := SeqAt.eqAt_readsAll [.bool b, x] [.bool b', x'] A.in1 s vs.toList vs'.toList _ _ h4 k4 (by simp [PyData.canLayAll0, PyData.canLay0, c1]) (by simp [PyData.canLayAll0, PyData.canLay0, c2]) (by simp only [PyData.depthAll, PyData.depth, d1, d2]; show A.units + 1 + _ < _; simp; omega) j (by simpa using j1) (by simpa using j2)
          simpa using this
        · have z := pair_lt (A := A.in1) (b := b) (b' := b') (x := x) (x' := x') (by show A.units + 1 + 4 < _; omega) d1 d2 vs.toList vs'.toList _ _ h4 k4 j (by simpa using j1) (by simpa using j2) (fun hj1 => hal (by
            have h0 := hall 0 (by omega)
            simpa [PySem.SeqAt.pairEq, PyData.eqv] using h0))
          simpa using z
  have e3 : ∀ a b c a' b' c' : PyData, PySem.W.alike (.tuple [a, b, c]) (.tuple [a', b', c']) = true → dataLt (.tuple [a, b, c]) (.tuple [a', b', c']) = firstLt (PySem.SeqAt.pairEq [a, b, c] [a', b', c']) (fun j => dataLt ([a, b, c].getD j .none) ([a', b', c'].getD j .none)) false [0, 1, 2] := fun a b c a' b' c' h => by
    rw [PySem.W.dataLt_tuple, ← PySem.W.firstLt_toks _ _ (by simpa [PySem.W.alike] using h)]
    rfl
  have ea := trV_alike hd hd'
  have hd0 := hd
  have hd0' := hd'
  unfold lawV at hd
  split at hd
  · rename_i i
    unfold lawV at hd'
    split at hd'
    · rename_i j
      have z := key false false (.int i) (.int j) v v' (fun _ => ⟨by simp [PySem.W.alike], fun z => by cases z⟩) hd0 hd0' r r' (by simp [PyData.canLay0]) (by simp [PyData.canLay0]) (by simp [PyData.depth]) (by simp [PyData.depth])
      have hne : PyData.eqv (.int i) (.int j) = false := by simpa [PyData.eqv, PyData.eqvAll] using hne
      show RcLt A s v v' (dataLt (.tuple [.int 0, .int i, .str ""]) (.tuple [.int 0, .int j, .str ""]))
      rw [e3 _ _ _ _ _ _ ea]
      have h1 : firstLt (PySem.SeqAt.pairEq [.bool false, .int i] [.bool false, .int j]) (fun j_1 => if j_1 = 0 then dataLt (.bool false) (.bool false) else dataLt (.int i) (.int j)) false [0, 1] = dataLt (.int i) (.int j) := by
        rw [firstLt_yes (by simp [PySem.SeqAt.pairEq, PyData.eqv]), firstLt_no hne]
        rfl
      have h2 : firstLt (PySem.SeqAt.pairEq [.int 0, .int i, .str ""] [.int 0, .int j, .str ""]) (fun j_1 => dataLt ([PyData.int 0, .int i, .str ""].getD j_1 .none) ([PyData.int 0, .int j, .str ""].getD j_1 .none)) false [0, 1, 2] = dataLt (.int i) (.int j) := by
        rw [firstLt_yes (by simp [PySem.SeqAt.pairEq, PyData.eqv]), firstLt_no hne]
        rfl
      rw [h2, ← h1]
      exact z
    · rename_i y
      have z := key false true (.int i) (.str y) v v' (fun z => by cases z) hd0 hd0' r r' (by simp [PyData.canLay0]) (canS c') (by simp [PyData.depth]) (by simp [PyData.depth])
      show RcLt A s v v' (dataLt (.tuple [.int 0, .int i, .str ""]) (.tuple [.int 1, .int 0, .str y]))
      rw [e3 _ _ _ _ _ _ ea]
      have h1 : firstLt (PySem.SeqAt.pairEq [.bool false, .int i] [.bool true, .str y]) (fun j_1 => if j_1 = 0 then dataLt (.bool false) (.bool true) else dataLt (.int i) (.str y)) false [0, 1] = true := by
        rw [firstLt_no (by simp [PySem.SeqAt.pairEq, PyData.eqv])]
        show dataLt (.bool false) (.bool true) = true
        rw [PySem.W.dataLt_bool]
        rfl
      have h2 : firstLt (PySem.SeqAt.pairEq [.int 0, .int i, .str ""] [.int 1, .int 0, .str y]) (fun j_1 => dataLt ([PyData.int 0, .int i, .str ""].getD j_1 .none) ([PyData.int 1, .int 0, .str y].getD j_1 .none)) false [0, 1, 2] = true := by
        rw [firstLt_no (by simp [PySem.SeqAt.pairEq, PyData.eqv])]
        show dataLt (.int 0) (.int 1) = true
        rw [PySem.W.dataLt_int]
        rfl
      rw [h2, ← h1]
      exact z
    · cases hd'
  · rename_i x
    unfold lawV at hd'
    split at hd'
    · rename_i j
      have z := key true false (.str x) (.int j) v v' (fun z => by cases z) hd0 hd0' r r' (canS c) (by simp [PyData.canLay0]) (by simp [PyData.depth]) (by simp [PyData.depth])
      show RcLt A s v v' (dataLt (.tuple [.int 1, .int 0, .str x]) (.tuple [.int 0, .int j, .str ""]))
      rw [e3 _ _ _ _ _ _ ea]
      have h1 : firstLt (PySem.SeqAt.pairEq [.bool true, .str x] [.bool false, .int j]) (fun j_1 => if j_1 = 0 then dataLt (.bool true) (.bool false) else dataLt (.str x) (.int j)) false [0, 1] = false := by
        rw [firstLt_no (by simp [PySem.SeqAt.pairEq, PyData.eqv])]
        show dataLt (.bool true) (.bool false) = false
        rw [PySem.W.dataLt_bool]
        rfl
      have h2 : firstLt (PySem.SeqAt.pairEq [.int 1, .int 0, .str x] [.int 0, .int j, .str ""]) (fun j_1 => dataLt ([PyData.int 1, .int 0, .str x].getD j_1 .none) ([PyData.int 0, .int j, .str ""].getD j_1 .none)) false [0, 1, 2] = false := by
        rw [firstLt_no (by simp [PySem.SeqAt.pairEq, PyData.eqv])]
        show dataLt (.int 1) (.int 0) = false
        rw [PySem.W.dataLt_int]
        rfl
      rw [h2, ← h1]
      exact z
    · rename_i y
      have z := key true true (.str x) (.str y) v v' (fun _ => ⟨by simp [PySem.W.alike], fun z => by cases z⟩) hd0 hd0' r r' (canS c) (canS c') (by simp [PyData.depth]) (by simp [PyData.depth])
      have hne : PyData.eqv (.str x) (.str y) = false := by simpa [PyData.eqv, PyData.eqvAll] using hne
      show RcLt A s v v' (dataLt (.tuple [.int 1, .int 0, .str x]) (.tuple [.int 1, .int 0, .str y]))
      rw [e3 _ _ _ _ _ _ ea]
      have h1 : firstLt (PySem.SeqAt.pairEq [.bool true, .str x] [.bool true, .str y]) (fun j_1 => if j_1 = 0 then dataLt (.bool true) (.bool true) else dataLt (.str x) (.str y)) false [0, 1] = dataLt (.str x) (.str y) := by
        rw [firstLt_yes (by simp [PySem.SeqAt.pairEq, PyData.eqv]), firstLt_no hne]
        rfl
      have h2 : firstLt (PySem.SeqAt.pairEq [.int 1, .int 0, .str x] [.int 1, .int 0, .str y]) (fun j_1 => dataLt ([PyData.int 1, .int 0, .str x].getD j_1 .none) ([PyData.int 1, .int 0, .str y].getD j_1 .none)) false [0, 1, 2] = dataLt (.str x) (.str y) := by
        rw [firstLt_yes (by simp [PySem.SeqAt.pairEq, PyData.eqv]), firstLt_yes (by simp [PySem.SeqAt.pairEq, PyData.eqv]), firstLt_no hne]
        rfl
      rw [h2, ← h1]
      exact z
    · cases hd'
  · cases hd
/-- the law's keys can be sorted -/
theorem okL_list {ks : List PyData} (h : okL ks = true) {d : PyData} (hd : d ∈ ks) : ∃ vs, d = .list vs ∧ vs.all lawV = true ∧ okEq d = true := by
  have z := List.all_eq_true.mp h d hd
  rw [Bool.and_eq_true] at z
  obtain ⟨z1, z2⟩ := z
  split at z2
  · exact ⟨_, rfl, z2, z1⟩
  · cases z2
theorem okL_sorts {P : Program} {w : World} {A : Around} (hu : A.units + 128 < cLine) (ks : List PyData) (h : okL ks = true) : Sorts P w A trL ks ∧ noIns.noInsAll ks = true := by
  have hun : ∀ (s : Shared), ∀ d ∈ ks, ∀ d' ∈ ks, ∀ v as as', Reads s.heap v d as → Reads s.heap v d' as' → d = d' := fun s d hd d' hd' v as as' r r' => by
    obtain ⟨_, _, _, o1⟩ := okL_list h hd
    obtain ⟨_, _, _, o2⟩ := okL_list h hd'
    exact reads_uniq d d' v as as' (okEq_and o1).2 (okEq_and o2).2 r r'
  refine ⟨fun s us e => ⟨⟨fun v hv => ?_, oneType', ?_, fun h2 E Q hq => ?_⟩, ?_⟩, ?_⟩
  · obtain ⟨d, hd, as, r⟩ := e.left v hv
    exact ⟨_, trKind_some (hun s) hd r⟩
  · intro E x y a b Q ha hb hq
    obtain ⟨d, as, hd, ra, rfl⟩ := trKind_inv ha
    obtain ⟨d', as', hd', rb, rfl⟩ := trKind_inv hb
    obtain ⟨xs, rfl, x1, x2⟩ := okL_list h hd
    obtain ⟨ys, rfl, y1, y2⟩ := okL_list h hd'
    rw [keyLt'_oneType]
    have hal := trV_alikeAll x1 y1
    have hq' : Q (PySem.W.dataLt (.list (xs.map trV)) (.list (ys.map trV))) s := hq
    cases ra with
    | @list l o vs n _ as₁ h1 h2 h3 h4 =>
      cases rb with
      | @list l' o' vs' n' _ bs₁ k1 k2 k3 k4 =>
        have n1 : vs.size = xs.length := by simpa using SeqAt.ReadsAll.length _ _ _ h4
        have n2 : vs'.size = ys.length := by simpa using SeqAt.ReadsAll.length _ _ _ k4
        have c1 : PyData.canLayAll0 xs = true := by
          have z := SeqAt.canLay_of_shaped (okEq_and x2).1
          simpa [PyData.canLay0] using z
        have c2 : PyData.canLayAll0 ys = true := by
          have z := SeqAt.canLay_of_shaped (okEq_and y2).1
          simpa [PyData.canLay0] using z
        have dp : PyData.depthAll xs ≤ 64 := by
          have z := SeqAt.depth_of_shaped (okEq_and x2).1
          simp only [PyData.depth] at z
          omega
        have epair : PySem.SeqAt.pairEq (xs.map trV) (ys.map trV) = PySem.SeqAt.pairEq xs ys → True := fun _ => trivial
        rw [PySem.W.dataLt_list, ← PySem.W.firstLt_toks _ _ hal, List.length_map, List.length_map, ← n1, ← n2] at hq'
        have hE : ∀ (j : Nat) (j1 : j < xs.length) (j2 : j < ys.length), PySem.SeqAt.pairEq (xs.map trV) (ys.map trV) j = PyData.eqv xs[j] ys[j] := fun j j1 j2 => by
          show PyData.eqv ((xs.map trV).getD j .none) ((ys.map trV).getD j .none) = _
          rw [getD_at (by rw [List.length_map]; exact j1), getD_at (by rw [List.length_map]; exact j2), List.getElem_map, List.getElem_map]
          exact trV_eqv (List.all_eq_true.mp x1 _ (List.getElem_mem _)) (List.all_eq_true.mp y1 _ (List.getElem_mem _))
        rw [oneLt'_eq]
        simp only [if_true]
        refine wpAny_bind (wpAny_cRoomFor (by omega) ?_)
        refine wpAny_bind (wpAny_callSpecialIfBound?_slot (T := "list") ⟨_, h1, h2⟩ PySem.F.slot_list_lt (PySem.SeqAt.call_list_lt (e := PySem.SeqAt.pairEq (xs.map trV) (ys.map trV)) (r := fun j => dataLt ((xs.map trV).getD j .none) ((ys.map trV).getD j .none)) ⟨_, h1, h2, _, h3⟩ ⟨_, k1, k2, _, k3⟩ (fun j j1 j2 => ?_) (fun j j1 j2 hj => ?_) ?_))
        · have z := SeqAt.eqAt_readsAll xs ys A.in1 s vs.toList vs'.toList _ _ h4 k4 c1 c2 (by show A.units + 1 + _ < _; have := Nat.min_le_left (PyData.depthAll xs) (PyData.depthAll ys); omega) j (by simpa using j1) (by simpa using j2)
          rw [hE j (by omega) (by omega)]
          have z2 : PySem.SeqAt.pairEq xs ys j = PyData.eqv (xs[j]'(by omega)) (ys[j]'(by omega)) := by
            show PyData.eqv (xs.getD j .none) (ys.getD j .none) = _
            rw [getD_at (by omega), getD_at (by omega)]
          rw [z2] at z
          simpa using z
        · have jx : j < xs.length := by omega
          have jy : j < ys.length := by omega
          have hj2 : PyData.eqv xs[j] ys[j] = false := by rw [← hE j jx jy]; exact hj
          show RcLt A.in1 s _ _ (dataLt ((xs.map trV).getD j .none) ((ys.map trV).getD j .none))
          rw [getD_at (by rw [List.length_map]; exact jx), getD_at (by rw [List.length_map]; exact jy), List.getElem_map, List.getElem_map]
          obtain ⟨_, r1⟩ := reads_at h4 j jx (by simpa using j1)
          obtain ⟨_, r2⟩ := reads_at k4 j jy (by simpa using j2)
          exact lawV_lt (A := A.in1) (by show A.units + 1 + 8 < _; omega) (List.all_eq_true.mp x1 _ (List.getElem_mem _)) (List.all_eq_true.mp y1 _ (List.getElem_mem _)) (by simpa using r1) (by simpa using r2) hj2 (can_at j jx c1) (can_at j jy c2)
        · exact wpAny_truthy_bool hq'
  · refine PySem.W.kas_kind (T := Value.type "list") h2 (fun v hv => ?_) (by decide) (by decide) hq
    obtain ⟨d, hd, as, r⟩ := e.left v hv
    obtain ⟨vs, rfl, _, _⟩ := okL_list h hd
    exact PySem.W.looks_reads r
  · exact (PySem.W.each_mem e).mono fun _ _ ⟨⟨_, r⟩, hd⟩ => trKind_some (hun s) hd r
  · have : ∀ ks : List PyData, (∀ d ∈ ks, noIns d = true) → noIns.noInsAll ks = true := fun ks => by
      induction ks with
      | nil => intro _; rfl
      | cons k ks ih =>
        intro hh
        simp only [noIns.noInsAll, Bool.and_eq_true]
        exact ⟨hh k List.mem_cons_self, ih fun d hd => hh d (List.mem_cons_of_mem _ hd)⟩
    exact this ks fun d hd => by
      obtain ⟨_, _, _, o⟩ := okL_list h hd
      exact (okEq_and o).2
end DL

set_option Elab.async false
set_option linter.all false
set_option maxRecDepth 100000
set_option maxHeartbeats 4000000
namespace DL
open PySem PySem.Spec PyProof.Rows L2 Evl
/-! ### what the draws may give -/
theorem setO_look {own : Wo} {D : Addr} {c c' : OC} (h : own.lookup D = some c) : (setO own D c').lookup D = some c' := by
  induction own with
  | nil => cases h
  | cons p r ih =>
    obtain ⟨a, x⟩ := p
    by_cases e : a = D
    · subst e
      simp [setO]
    · rw [List.lookup_cons] at h
      have ne : (D == a) = false := by simpa using fun z => e z.symm
      rw [ne] at h
      have ih := ih h
      have e2 : setO ((a, x) :: r) D c' = (a, x) :: setO r D c' := by simp [setO, e]
      rw [e2, List.lookup_cons, ne]
      exact ih
theorem setO_lookN {own : Wo} {D D' : Addr} {c' : OC} (h : D' ≠ D) : (setO own D c').lookup D' = own.lookup D' := by
  induction own with
  | nil => rfl
  | cons p r ih =>
    obtain ⟨a, x⟩ := p
    by_cases e : a = D
    · subst e
      have e2 : setO ((a, x) :: r) a c' = (a, c') :: setO r a c' := by simp [setO]
      have ne : (D' == a) = false := by simpa using h
      rw [e2, List.lookup_cons, List.lookup_cons, ne]
      exact ih
    · have e2 : setO ((a, x) :: r) D c' = (a, x) :: setO r D c' := by simp [setO, e]
      rw [e2, List.lookup_cons, List.lookup_cons]
      split
      · rfl
      · exact ih
/-- the state at L is one of the draws -/
def St (L : Addr) (own : Wo) : Prop := ∃ st, own.lookup L = some st ∧ VS st
theorem St.set {L D : Addr} {own : Wo} {c : OC} (h : St L own) (hne : L ≠ D) : St L (setO own D c) := by
  obtain ⟨st, h1, h2⟩ := h
  exact ⟨st, by rw [setO_lookN hne]; exact h1, h2⟩
theorem St.cons {L p : Addr} {own : Wo} {c : OC} (h : St L own) (hne : L ≠ p) : St L ((p, c) :: own) := by
  obtain ⟨st, h1, h2⟩ := h
  refine ⟨st, ?_, h2⟩
  rw [List.lookup_cons]
  have ne : (L == p) = false := by simpa using hne
  rw [ne]
  exact h1
theorem St.del {L D : Addr} {own : Wo} (h : St L own) (hne : L ≠ D) : St L (delO own D) := by
  obtain ⟨st, h1, h2⟩ := h
  refine ⟨st, ?_, h2⟩
  clear h2
  induction own with
  | nil => cases h1
  | cons p r ih =>
    obtain ⟨a, x⟩ := p
    by_cases e : a = D
    · subst e
      have ne : (L == a) = false := by simpa using hne
      rw [List.lookup_cons, ne] at h1
      have e2 : delO ((a, x) :: r) a = delO r a := by simp [delO]
      rw [e2]
      exact ih h1
    · have e2 : delO ((a, x) :: r) D = (a, x) :: delO r D := by simp [delO, e]
      rw [e2, List.lookup_cons]
      rw [List.lookup_cons] at h1
      split
      · rename_i q
        rw [q] at h1
        exact h1
      · rename_i q
        rw [q] at h1
        exact ih h1
theorem St.ne {L p : Addr} {own : Wo} (h : St L own) (hp : own.lookup p = none) : L ≠ p := by
  obtain ⟨st, h1, _⟩ := h
  rintro rfl
  rw [h1] at hp
  cases hp
/-- take(state, b) -/
abbrev takeW (i : Nat) (F : WF) : WF := cal1W g_take (consW (pureW fun ρ => sl ρ i) (consW F nilW))
theorem takeC {i : Nat} {F : WF} {own : Wo} {ρ : DE} {L : Addr} {Φ : PyData → Wo → Prop} (h1 : sl ρ i = some (opq L)) (b : Int) (hF : ∀ Ψ : PyData → Wo → Prop, Ψ (.int b) own → F own ρ Ψ) (h2 : St L own) (hb : 0 < b) (hb2 : b < 1073741824)
    (q : ∀ r st', 0 ≤ r → r < b → VS st' → Φ (.int r) (setO own L st')) : takeW i F own ρ Φ := by
  obtain ⟨st, k1, k2⟩ := h2
  refine ⟨opq L, h1, hF _ ⟨L, st, k1, L, st, b, rfl, rfl, k2, hb, hb2, fun r st' r0 r1 hv => ⟨st', by simp, q r st' r0 r1 hv⟩⟩⟩
theorem St.took {L : Addr} {own : Wo} {st' : OC} (h : St L own) (hv : VS st') : St L (setO own L st') := by
  obtain ⟨st, h1, _⟩ := h
  exact ⟨st', setO_look h1, hv⟩
/-- a comprehension's turns, by what stays -/
theorem turnsW_inv {Bd : PyData → DE → Option DE} {T : WTt} {F : WF} {ρ : DE} {Inv : Wo → Prop} {Pd : PyData → Prop} : ∀ (ds : List PyData) (own : Wo) (done : List PyData) (Φ : PyData → Wo → Prop), Inv own →
    (∀ d ∈ ds, ∀ (own : Wo) (Ψ : Option PyData → Wo → Prop), Inv own → (∀ y o, Pd y → Inv o → Ψ (some y) o) → (∀ o, Inv o → Ψ none o) → ∃ ρ1, Bd d ρ = some ρ1 ∧ T own ρ1 fun k o1 => if k = true then F o1 ρ1 fun y o2 => Ψ (some y) o2 else Ψ none o1) →
    (∀ ys o, (∀ y ∈ ys, Pd y) → ys.length ≤ ds.length → Inv o → Φ (.list (done ++ ys)) o) → turnsW Bd T F ρ ds own done Φ
  | [], own, done, Φ, hi, _, q => by
    have z := q [] own (fun y hy => by cases hy) (Nat.le_refl _) hi
    rw [List.append_nil] at z
    exact z
  | d :: ds, own, done, Φ, hi, hF, q => by
    obtain ⟨ρ1, e1, e2⟩ := hF d List.mem_cons_self own (fun r o => match r with
      | some y => turnsW Bd T F ρ ds o (done ++ [y]) Φ
      | none => turnsW Bd T F ρ ds o done Φ) hi (fun y o hy ho => turnsW_inv ds o (done ++ [y]) Φ ho (fun d hd => hF d (List.mem_cons_of_mem _ hd)) fun ys o' hys hl ho' => by
        have z := q (y :: ys) o' (fun u hu => (List.mem_cons.mp hu).elim (fun e => by rw [e]; exact hy) (hys u)) (by rw [List.length_cons, List.length_cons]; omega) ho'
        rw [List.append_assoc]
        exact z) fun o ho => turnsW_inv ds o done Φ ho (fun d hd => hF d (List.mem_cons_of_mem _ hd)) fun ys o' hys hl ho' => q ys o' hys (by rw [List.length_cons]; omega) ho'
    exact ⟨ρ1, e1, e2⟩
/-- the turns that keep all, their number too -/
theorem turnsW_all {Bd : PyData → DE → Option DE} {F : WF} {ρ : DE} {Inv : Wo → Prop} {Pd : PyData → Prop} : ∀ (ds : List PyData) (own : Wo) (done : List PyData) (Φ : PyData → Wo → Prop), Inv own →
    (∀ d ∈ ds, ∀ (own : Wo) (Ψ : PyData → Wo → Prop), Inv own → (∀ y o, Pd y → Inv o → Ψ y o) → ∃ ρ1, Bd d ρ = some ρ1 ∧ F own ρ1 Ψ) →
    (∀ ys o, (∀ y ∈ ys, Pd y) → ys.length = ds.length → Inv o → Φ (.list (done ++ ys)) o) → turnsW Bd yesW F ρ ds own done Φ
  | [], own, done, Φ, hi, _, q => by
    have z := q [] own (fun y hy => by cases hy) rfl hi
    rw [List.append_nil] at z
    exact z
  | d :: ds, own, done, Φ, hi, hF, q => by
    obtain ⟨ρ1, e1, e2⟩ := hF d List.mem_cons_self own (fun y o => turnsW Bd yesW F ρ ds o (done ++ [y]) Φ) hi (fun y o hy ho => turnsW_all ds o (done ++ [y]) Φ ho (fun d hd => hF d (List.mem_cons_of_mem _ hd)) fun ys o' hys hl ho' => by
        have z := q (y :: ys) o' (fun u hu => (List.mem_cons.mp hu).elim (fun e => by rw [e]; exact hy) (hys u)) (by rw [List.length_cons, List.length_cons, hl]) ho'
        rw [List.append_assoc]
        exact z)
    refine ⟨ρ1, e1, ?_⟩
    show (if true = true then F own ρ1 (fun y o2 => turnsW Bd yesW F ρ ds o2 (done ++ [y]) Φ) else turnsW Bd yesW F ρ ds own done Φ)
    rw [if_pos rfl]
    exact e2
/-- a loop, by what stays -/
theorem forW_inv2 {Bd : PyData → DE → Option DE} {S : WSt} {Inv : Nat → DE → Wo → Prop} : ∀ (ds : List PyData) (n : Nat) (own : Wo) (ρ : DE) (Φ : Rs → Wo → Prop), Inv n ρ own →
    (∀ i d, ds[i]? = some d → ∀ (own : Wo) (ρ : DE) (Ψ : Rs → Wo → Prop), Inv (n + i) ρ own → (∀ ρ' o, Inv (n + i + 1) ρ' o → Ψ (.nx ρ') o) → ∃ ρ1, Bd d ρ = some ρ1 ∧ S own ρ1 Ψ) →
    (∀ ρ' o, Inv (n + ds.length) ρ' o → Φ (.nx ρ') o) → forW Bd S ds own ρ Φ
  | [], n, own, ρ, Φ, hi, _, q => q ρ own hi
  | d :: ds, n, own, ρ, Φ, hi, hS, q => by
    obtain ⟨ρ1, e1, e2⟩ := hS 0 d rfl own ρ (fun r o => match r with
      | .nx ρ' => forW Bd S ds o ρ' Φ
      | .rt d => Φ (.rt d) o) hi fun ρ' o ho => forW_inv2 ds (n + 1) o ρ' Φ ho (fun i d' hd own ρ Ψ hi' q' => hS (i + 1) d' hd own ρ Ψ (by rw [show n + (i + 1) = n + 1 + i by omega]; exact hi') fun ρ' o ho => q' ρ' o (by rw [show n + 1 + i + 1 = n + (i + 1) + 1 by omega]; exact ho))
        fun ρ' o ho => q ρ' o (by rw [List.length_cons, show n + (ds.length + 1) = n + 1 + ds.length by omega]; exact ho)
    exact ⟨ρ1, e1, e2⟩
theorem rngD_len (lo : Int) (n : Nat) : (rngD lo n).length = n := by unfold rngD; rw [List.length_map, List.length_range]
theorem rngD_mem {lo : Int} {n : Nat} {d : PyData} (h : d ∈ rngD lo n) : ∃ i : Nat, i < n ∧ d = .int (lo + (i : Nat)) := by
  unfold rngD at h
  obtain ⟨i, h1, rfl⟩ := List.mem_map.mp h
  exact ⟨i, List.mem_range.mp h1, rfl⟩
/-! ### a word -/
def g_word : WC := fun ds own Φ => ∃ L, ds = [opq L] ∧ St L own ∧ (∃ st, own = [(L, st)]) ∧ ∀ z st', VS st' → Φ (.str z) [(L, st')]
section
variable {P : Program} {w : World} {K : PySem.W.Frag} {mg : Str → Option Value} {base : Heap} {CF : Addr} {TT : List (Addr × Str)}
theorem ok_word (T : Txt K mg w CF) : FnOk P w K mg base CX0 2 T.d__law_word.f T.d__law_word.fd ["_law_state"] (spW K P w TT g_word) := by
  refine fn_W T.d__law_word.fn sc__law_word (fun ds o Φ h => ?_) (fun B cdv A outer s H E hT hr => ?_)
  · obtain ⟨L, rfl, _⟩ := h
    rfl
  · have nd := sc__law_word.nd
    subst hT
    refine ⟨_, wss_one (ws_ret (we_join (we_lc (own := [("_law_k", 1)]) rfl nd (wi_range1 (by rfl) T.b_range (we_op od_add (we_pure pd_int) (we_call1 (ok_take T) (hr.mono (by decide)) (by rfl) T.d__law_take.gl T.d__law_take.fn.kp T.d__law_take.bd (wa_cons (we_pure (pd_var (pv 0))) (wa_cons (we_pure pd_int) wa_nil))))) (blkOk_by (N := ["_law_state", "_law_k"]) (sc := defScope s__law_word) (by decide +kernel)) (tg_one 1) (by decide) (fun _ _ _ _ _ => (pg_name (i := 1) nd rfl (by first | exact Or.inl rfl | exact Or.inr rfl))) (fun _ _ _ _ _ => wts_nil)
      (fun _ _ _ _ _ => we_ix (we_pure pd_str) (we_call1 (ok_take T) (hr.mono (by decide)) (by rfl) T.d__law_take.gl T.d__law_take.fn.kp T.d__law_take.bd (wa_cons (we_pure (pd_var (pv 0))) (wa_cons (we_pure pd_int) wa_nil))))))), fun ds oc Φ h hX => ?_⟩
    obtain ⟨L, rfl, hst, ⟨st0, rfl⟩, q⟩ := h
    refine ⟨.int 1, rfl, takeC (i := 0) (F := pureW fun _ => some (.int 8)) rfl 8 (fun Ψ h => ⟨_, rfl, h⟩) hst (by decide) (by decide) fun r st' r0 r1 hv => ⟨.int (1 + r), rfl, 1 + r, rfl, by omega, by omega, by rw [rngD_len]; omega, ?_⟩⟩
    refine turnsW_all (Inv := fun o => ∃ st, o = [(L, st)] ∧ VS st) (Pd := fun y => ∃ c : Nat, y = .str ⟨#[c]⟩) _ _ [] _ ⟨st', by simp [setO], hv⟩ (fun d hd own Ψ ⟨st, ho, hv⟩ hy => ⟨_, rfl, ?_⟩) fun ys o hys hl ⟨st, ho, hv⟩ => ?_
    · subst ho
      refine ⟨.str "abcdefghijklmnopqrstuvwxyz", rfl, takeC (i := 0) (F := pureW fun _ => some (.int 26)) rfl 26 (fun Ψ h => ⟨_, rfl, h⟩) ⟨st, by simp, hv⟩ (by decide) (by decide) fun r st' r0 r1 hv' => ?_⟩
      obtain ⟨c, hc, _⟩ := atI_nn (l := (Str.ofString "abcdefghijklmnopqrstuvwxyz").cps.toList) (k := r) r0 (by exact r1)
      refine ⟨.str ⟨#[c]⟩, ?_, hy _ _ ⟨c, rfl⟩ ⟨st', by simp [setO], hv'⟩⟩
      show (if (Str.ofString "abcdefghijklmnopqrstuvwxyz").length ≤ 100000 then (atI (Str.ofString "abcdefghijklmnopqrstuvwxyz").cps.toList r).map fun c => PyData.str ⟨#[c]⟩ else none) = _
      rw [if_pos (by decide), hc]
      rfl
    · subst ho
      have hs : ∀ ys : List PyData, (∀ y ∈ ys, ∃ c : Nat, y = PyData.str ⟨#[c]⟩) → ∃ zs : List Str, strsD ys = some zs ∧ zs.length = ys.length ∧ (zs.map (·.length)).sum = ys.length := fun ys => by
        induction ys with
        | nil => intro _; exact ⟨[], rfl, rfl, rfl⟩
        | cons y ys ih =>
          intro hh
          obtain ⟨c, rfl⟩ := hh y List.mem_cons_self
          obtain ⟨zs, e1, e2, e3⟩ := ih fun u hu => hh u (List.mem_cons_of_mem _ hu)
          refine ⟨⟨#[c]⟩ :: zs, ?_, by rw [List.length_cons, List.length_cons, e2], ?_⟩
          · show (strsD ys).map (_ :: ·) = _
            rw [e1]; rfl
          · rw [List.map_cons, List.sum_cons, e3, List.length_cons]
            show 1 + ys.length = _
            omega
      obtain ⟨zs, e1, e2, e3⟩ := hs ys hys
      refine ⟨.str (Txt.join "" zs), ?_, q _ st hv⟩
      show (strsD ([] ++ ys)).bind _ = _
      rw [List.nil_append, e1]
      show (if (zs.map (·.length)).sum + zs.length * (Str.ofString "").length ≤ 16777216 then _ else _) = _
      rw [if_pos (by rw [e3, hl, rngD_len]; show _ + _ * 0 ≤ _; omega)]
end
end DL

set_option Elab.async false
set_option linter.all false
set_option maxRecDepth 100000
set_option maxHeartbeats 4000000
namespace DL
open PySem PySem.Spec PyProof.Rows L2 Evl
theorem runW_seq {n : Nat} {S1 S2 : WSt} {ds : List PyData} {own : Wo} {Φ : PyData → Wo → Prop} (h : S1 own (startD n ds) (fun r o => match r with
    | .nx ρ' => S2 o ρ' (fun r o => match r with
      | .nx _ => Φ .none o
      | .rt d => Φ d o)
    | .rt d => Φ d o)) : runW n (seqW S1 S2) ds own Φ := h
theorem setW_to {i : Nat} {F : WF} {own : Wo} {ρ : DE} {Φ : Rs → Wo → Prop} (h : F own ρ fun d o => Φ (.nx (ρ.set i (some d))) o) : setW i F own ρ Φ := h
theorem opW_to {g : D2} {F1 F2 : WF} {own : Wo} {ρ : DE} {Φ : PyData → Wo → Prop} (h : F1 own ρ fun x o1 => F2 o1 ρ fun y o2 => ∃ r, g x y = some r ∧ Φ r o2) : opW g F1 F2 own ρ Φ := h
theorem seqW_to {S1 S2 : WSt} {own : Wo} {ρ : DE} {Φ : Rs → Wo → Prop} (h : S1 own ρ (fun r o => match r with
    | .nx ρ' => S2 o ρ' Φ
    | .rt d => Φ (.rt d) o)) : seqW S1 S2 own ρ Φ := h
theorem forsW_to {L : WFs} {Bd : PyData → DE → Option DE} {S : WSt} {own : Wo} {ρ : DE} {Φ : Rs → Wo → Prop} (h : L own ρ fun ds o => forW Bd S ds o ρ Φ) : forsW L Bd S own ρ Φ := h
theorem rngW2_to {F1 F2 : WF} {own : Wo} {ρ : DE} {Φ : List PyData → Wo → Prop} (h : F1 own ρ fun d o => F2 o ρ fun d2 o2 => ∃ m n : Int, d = .int m ∧ d2 = .int n ∧ n ≤ 100000 ∧ 0 ≤ n ∧ m ≤ 100000 ∧ 0 ≤ m ∧ Φ (rngD m (n - m).toNat) o2) : rngW2 F1 F2 own ρ Φ := h
theorem rngW1_to {F : WF} {own : Wo} {ρ : DE} {Φ : List PyData → Wo → Prop} (h : F own ρ fun d o => ∃ n : Int, d = .int n ∧ n ≤ 100000 ∧ 0 ≤ n ∧ Φ (rngD 0 n.toNat) o) : rngW1 F own ρ Φ := h
def poolBase : List PyData := [.int 0, .int 1, .str "a", .str "ab", .int 10, .int 2]
def poolOf (s m : Nat) : List PyData := (poolBase.drop s).take m
def poolSome (g : Int) (z : Str) : List PyData := [.int 0, .int 1, .str "a", .str "ab", .int 10, .int 2, .int 1000000000, .str "b", .int g, .str z, .str "zz", .int 3, .int 7, .str "aa", .int 100, .int 20, .int 30, .int 40, .int 50, .int 60]
def g_pool : WC := fun ds own Φ => ∃ L m, ds = [opq L, .int m] ∧ St L own ∧ (∃ st, own = [(L, st)]) ∧ 1 ≤ m ∧ m ≤ 3 ∧ ∀ s o, s ≤ 3 → St L o → Φ (.list (poolOf s m.toNat)) o
/-- the test of the loop -/
def poolT (xs : List PyData) (k : Int) (found : List PyData) (m : Int) : Option Bool :=
  (((ixD (.list xs) (.int k)).bind fun x => inD true x (.list found)).bind asB).bind fun t => if t = true then (((lenD [.list found]).bind fun x => cmpI (fun i j => decide (i < j)) x (.int m))).bind asB else some false
theorem poolT_no {g : Int} {z : Str} {k : Nat} {found : List PyData} {m : Int} (hk : k < 20) (hf : found.all flatD = true) (hl : m ≤ found.length) : poolT (poolSome g z) (k : Nat) found m = some false := by
  obtain ⟨x, hx, hm⟩ := atI_nn (l := poolSome g z) (k := (k : Nat)) (by omega) (by show ((k : Nat) : Int) < ((20 : Nat) : Int); omega)
  have fx : flatD x = true := by
    have h : (poolSome g z).all flatD = true := rfl
    exact List.all_eq_true.mp h x hm
  unfold poolT
  show ((((atI (poolSome g z) (k : Nat)).bind fun x => inD true x (.list found)).bind asB).bind _) = _
  rw [hx]
  show ((inD true x (.list found)).bind asB).bind _ = _
  have e : inD true x (.list found) = some (.bool (!(found.any fun z => eqF z x))) := if_pos ⟨fx, hf⟩
  rw [e]
  show (if (!(found.any fun z => eqF z x)) = true then some (decide (((found.length : Nat) : Int) < m)) else some false) = _
  rw [decide_eq_false (by omega)]
  split <;> rfl
theorem poolT_yes {g : Int} {z : Str} {s n : Nat} {m : Int} (hs : s ≤ 3) (hn : n ≤ 2) (hm : (n : Int) < m) : poolT (poolSome g z) ((s : Nat) + (n : Nat)) (poolOf s n) m = some true := by
  have hlen : (poolOf s n).length = n := by
    unfold poolOf poolBase
    rw [List.length_take, List.length_drop]
    show min n (6 - s) = n
    omega
  have key : ((ixD (.list (poolSome g z)) (.int ((s : Nat) + (n : Nat)))).bind fun x => inD true x (.list (poolOf s n))).bind asB = some true := by
    match s, hs, n, hn with
    | 0, _, 0, _ => rfl
    | 0, _, 1, _ => rfl
    | 0, _, 2, _ => rfl
    | 1, _, 0, _ => rfl
    | 1, _, 1, _ => rfl
    | 1, _, 2, _ => rfl
    | 2, _, 0, _ => rfl
    | 2, _, 1, _ => rfl
    | 2, _, 2, _ => rfl
    | 3, _, 0, _ => rfl
    | 3, _, 1, _ => rfl
    | 3, _, 2, _ => rfl
  unfold poolT
  rw [key]
  show (if true = true then some (decide ((((poolOf s n).length : Nat) : Int) < m)) else some false) = _
  rw [if_pos rfl, hlen, decide_eq_true hm]
theorem pool_next {g : Int} {z : Str} {s n : Nat} (hs : s ≤ 3) (hn : n ≤ 2) : ∃ x, atI (poolSome g z) ((s : Nat) + (n : Nat)) = some x ∧ poolOf s n ++ [x] = poolOf s (n + 1) := by
  match s, hs, n, hn with
  | 0, _, 0, _ => exact ⟨_, rfl, rfl⟩
  | 0, _, 1, _ => exact ⟨_, rfl, rfl⟩
  | 0, _, 2, _ => exact ⟨_, rfl, rfl⟩
  | 1, _, 0, _ => exact ⟨_, rfl, rfl⟩
  | 1, _, 1, _ => exact ⟨_, rfl, rfl⟩
  | 1, _, 2, _ => exact ⟨_, rfl, rfl⟩
  | 2, _, 0, _ => exact ⟨_, rfl, rfl⟩
  | 2, _, 1, _ => exact ⟨_, rfl, rfl⟩
  | 2, _, 2, _ => exact ⟨_, rfl, rfl⟩
  | 3, _, 0, _ => exact ⟨_, rfl, rfl⟩
  | 3, _, 1, _ => exact ⟨_, rfl, rfl⟩
  | 3, _, 2, _ => exact ⟨_, rfl, rfl⟩
theorem poolOf_flat (s m : Nat) : (poolOf s m).all flatD = true := by
  have h : ∀ x ∈ poolBase, flatD x = true := by
    have h : poolBase.all flatD = true := rfl
    exact fun x hx => List.all_eq_true.mp h x hx
  rw [List.all_eq_true]
  exact fun x hx => h x (List.mem_of_mem_drop (List.mem_of_mem_take hx))
section
variable {P : Program} {w : World} {K : PySem.W.Frag} {mg : Str → Option Value} {base : Heap} {CF : Addr} {TT : List (Addr × Str)}
structure GPool (L F : Addr) (m : Int) (some' : List PyData) (ρ : DE) : Prop where
  len : ρ.length = 6
  h0 : sl ρ 0 = some (opq L)
  h1 : sl ρ 1 = some (.int m)
  h3 : sl ρ 3 = some (.list some')
  h4 : sl ρ 4 = some (opq F)
theorem ok_pool (T : Txt K mg w CF) : FnOk P w K mg base CX0 3 T.d__law_pool.f T.d__law_pool.fd ["_law_state", "_law_many"] (spW K P w TT g_pool) := by
  refine fn_W T.d__law_pool.fn sc__law_pool (fun ds o Φ h => ?_) (fun B cdv A outer s H E hT hr => ?_)
  · obtain ⟨L, m, rfl, _⟩ := h
    rfl
  · have nd := sc__law_pool.nd
    subst hT
    refine ⟨_, wss_cons (ws_set (i := 2) (we_op od_add (we_op od_mul (we_call1 (ok_take T) (hr.mono (by decide)) (by rfl) T.d__law_take.gl T.d__law_take.fn.kp T.d__law_take.bd (wa_cons (we_pure (pd_var (pv 0))) (wa_cons (we_pure (pd_op od_pow pd_int pd_int)) wa_nil))) (we_pure (pd_op od_pow pd_int pd_int)))
        (we_call1 (ok_take T) (hr.mono (by decide)) (by rfl) T.d__law_take.gl T.d__law_take.fn.kp T.d__law_take.bd (wa_cons (we_pure (pd_var (pv 0))) (wa_cons (we_pure (pd_op od_pow pd_int pd_int)) wa_nil)))) (pg_name (i := 2) nd rfl (by first | exact Or.inl rfl | exact Or.inr rfl)))
      (wss_cons (ws_set (i := 3) (we_lst (wa_cons (we_pure pd_int) (wa_cons (we_pure pd_int) (wa_cons (we_pure pd_str) (wa_cons (we_pure pd_str) (wa_cons (we_pure pd_int) (wa_cons (we_pure pd_int) (wa_cons (we_pure (pd_op od_pow pd_int pd_int)) (wa_cons (we_pure pd_str) (wa_cons (we_pure (pd_var (pv 2)))
          (wa_cons (we_call1 (ok_word T) (hr.mono (by decide)) (by rfl) T.d__law_word.gl T.d__law_word.fn.kp T.d__law_word.bd (wa_cons (we_pure (pd_var (pv 0))) wa_nil)) (wa_cons (we_pure pd_str) (wa_cons (we_pure pd_int) (wa_cons (we_pure pd_int) (wa_cons (we_pure pd_str) (wa_cons (we_pure pd_int) (wa_cons (we_pure pd_int) (wa_cons (we_pure pd_int) (wa_cons (we_pure pd_int) (wa_cons (we_pure pd_int) (wa_cons (we_pure pd_int) wa_nil))))))))))))))))))))) (pg_name (i := 3) nd rfl (by first | exact Or.inl rfl | exact Or.inr rfl)))
      (wss_cons (ws_new (i := 4) wa_nil (pg_name (i := 4) nd rfl (by first | exact Or.inl rfl | exact Or.inr rfl)))
      (wss_cons (ws_for PassesOwn.never rfl (wi_range2 (by rfl) T.b_range (we_call1 (ok_take T) (hr.mono (by decide)) (by rfl) T.d__law_take.gl T.d__law_take.fn.kp T.d__law_take.bd (wa_cons (we_pure (pd_var (pv 0))) (wa_cons (we_pure pd_int) wa_nil))) (we_pure (pd_callB cd_len (by rfl) T.b_len (by decide +kernel) (pds_cons (pd_var (pv 3)) pds_nil)))) (pg_name (i := 5) nd rfl (by first | exact Or.inl rfl | exact Or.inr rfl)) (tg_one 5)
        (wss_one (ws_if (wt_peek 4 (pdt_of (pdw_and (pdt_cmp od_notIn (pd_ix (pd_var (pv 3)) (pd_var (pv 5))) (pd_var (pv 4)) (by rfl)) (pdw_and1 (pdt_cmp od_ltI (pd_callB cd_len (by rfl) T.b_len (by decide +kernel) (pds_cons (pd_var (pv 4)) pds_nil)) (pd_var (pv 1)) (by rfl))))))
          (wss_one (ws_app (i := 4) (pv 4) (we_pure (pd_ix (pd_var (pv 3)) (pd_var (pv 5)))))) wss_nil)))
      (wss_one (ws_ret (we_rel (pv 4))))))), fun ds oc Φ h hX => ?_⟩
    obtain ⟨L, m, rfl, hst, ⟨st0, rfl⟩, hm1, hm3, q⟩ := h
    refine runW_seq (setW_to (opW_to (opW_to ?_)))
    refine takeC (i := 0) (F := pureW (b2 powD (fun _ => some (.int 10)) (fun _ => some (.int 5)))) (by rfl) 100000 (fun Ψ h => ⟨_, rfl, h⟩) hst (by decide) (by decide) fun r1 s1 a0 a1 v1 => ?_
    refine ⟨.int 10000, rfl, .int (r1 * 10000), if_pos (by simp), ?_⟩
    show cal1W g_take _ (setO [(L, st0)] L s1) (startD 6 [opq L, .int m]) _
    refine takeC (i := 0) (F := pureW (b2 powD (fun _ => some (.int 10)) (fun _ => some (.int 4)))) (by rfl) 10000 (fun Ψ h => ⟨_, rfl, h⟩) (hst.took v1) (by decide) (by decide) fun r2 s2 b0 b1 v2 => ?_
    refine ⟨.int (r1 * 10000 + r2), rfl, ?_⟩
    have e1 : setO (setO [(L, st0)] L s1) L s2 = [(L, s2)] := by simp [setO]
    rw [e1]
    refine ⟨_, rfl, _, rfl, _, rfl, _, rfl, _, rfl, _, rfl, _, rfl, _, rfl, _, rfl, ?_⟩
    refine ⟨opq L, rfl, L, s2, by simp, L, rfl, ⟨s2, by simp, v2⟩, ⟨s2, rfl⟩, fun z s3 v3 => ⟨s3, by simp, ?_⟩⟩
    refine ⟨_, rfl, _, rfl, _, rfl, _, rfl, _, rfl, _, rfl, _, rfl, _, rfl, _, rfl, _, rfl, by show (20 : Nat) ≤ 100000; decide, ?_⟩
    have e2 : setO [(L, s2)] L s3 = [(L, s3)] := by simp [setO]
    rw [e2]
    refine ⟨by decide, fun F hF hn => ?_⟩
    have hLF : L ≠ F := (show St L [(L, s3)] from ⟨s3, by simp, v3⟩).ne hn
    have g0 : GPool L F m (poolSome (r1 * 10000 + r2) z) ([some (opq L), some (.int m), some (.int (r1 * 10000 + r2)), some (.list (poolSome (r1 * 10000 + r2) z)), some (opq F), none]) := ⟨rfl, rfl, rfl, rfl, rfl⟩
    refine seqW_to (forsW_to (rngW2_to ?_))
    refine takeC (i := 0) (F := pureW fun _ => some (.int 4)) (by rfl) 4 (fun Ψ h => ⟨_, rfl, h⟩) ((show St L [(L, s3)] from ⟨s3, by simp, v3⟩).cons hLF) (by decide) (by decide) fun r3 s4 c0 c1 v4 => ?_
    refine ⟨.int 20, rfl, r3, 20, rfl, rfl, by decide, by decide, by omega, c0, ?_⟩
    obtain ⟨sn, rfl⟩ : ∃ sn : Nat, r3 = (sn : Nat) := ⟨r3.toNat, by omega⟩
    have hsn : sn ≤ 3 := by omega
    have hmN : ((m.toNat : Nat) : Int) = m := by omega
    refine forW_inv2 (Inv := fun n ρ own => GPool L F m (poolSome (r1 * 10000 + r2) z) ρ ∧ own.lookup F = some (.l (poolOf sn (min n m.toNat))) ∧ St L own) _ 0 _ _ _ ⟨g0, ?_, ?_⟩ (fun i d hd own ρ Ψ hi hq => ?_) fun ρ' o ho => ?_
    · rw [setO_lookN (Ne.symm hLF)]
      simp [poolOf]
    · exact ((show St L [(L, s3)] from ⟨s3, by simp, v3⟩).cons hLF).took v4
    · obtain ⟨g, hl, hs⟩ := hi
      rw [Nat.zero_add] at hl
      have hi20 : i < 20 - sn := by
        have := (List.getElem?_eq_some_iff.mp hd).1
        rw [rngD_len] at this
        omega
      have ed : d = .int ((sn : Nat) + (i : Nat)) := by
        unfold rngD at hd
        rw [List.getElem?_map] at hd
        obtain ⟨j, h1, h2⟩ := Option.map_eq_some_iff.mp hd
        obtain ⟨hj, h3⟩ := List.getElem?_eq_some_iff.mp h1
        rw [List.getElem_range] at h3
        rw [← h2, ← h3]
      subst ed
      have g1 : GPool L F m (poolSome (r1 * 10000 + r2) z) (ρ.set 5 (some (.int ((sn : Nat) + (i : Nat))))) := ⟨by rw [List.length_set]; exact g.len, by rw [sl_ne (by omega)]; exact g.h0, by rw [sl_ne (by omega)]; exact g.h1, by rw [sl_ne (by omega)]; exact g.h3, by rw [sl_ne (by omega)]; exact g.h4⟩
      have e5 : sl (ρ.set 5 (some (.int ((sn : Nat) + (i : Nat))))) 5 = some (.int ((sn : Nat) + (i : Nat))) := sl_set (by rw [g.len]; omega)
      refine ⟨_, rfl, ?_⟩
      have hlenf : ∀ n, n ≤ 3 → (poolOf sn n).length = n := fun n hn => by
        unfold poolOf poolBase
        rw [List.length_take, List.length_drop]
        show min n (6 - sn) = n
        omega
      have hT : ∀ t, poolT (poolSome (r1 * 10000 + r2) z) ((sn : Nat) + (i : Nat)) (poolOf sn (min i m.toNat)) m = some t →
          andT (fun ρ => (b2 (inD true) (b2 ixD (fun ρ => sl ρ 3) (fun ρ => sl ρ 5)) (fun ρ => sl ρ 4) ρ).bind asB) (fun ρ => (b2 (cmpI fun i j => decide (i < j)) (fun ρ => ((sl ρ 4).bind fun d => (some []).bind fun ds => some (d :: ds)).bind lenD) (fun ρ => sl ρ 1) ρ).bind asB) ((ρ.set 5 (some (.int ((sn : Nat) + (i : Nat))))).set 4 (some (.list (poolOf sn (min i m.toNat))))) = some t := fun t ht => by
        have f3 : sl ((ρ.set 5 (some (.int ((sn : Nat) + (i : Nat))))).set 4 (some (.list (poolOf sn (min i m.toNat))))) 3 = _ := (sl_ne (by omega)).trans g1.h3
        have f5 : sl ((ρ.set 5 (some (.int ((sn : Nat) + (i : Nat))))).set 4 (some (.list (poolOf sn (min i m.toNat))))) 5 = _ := (sl_ne (by omega)).trans e5
        have f1 : sl ((ρ.set 5 (some (.int ((sn : Nat) + (i : Nat))))).set 4 (some (.list (poolOf sn (min i m.toNat))))) 1 = _ := (sl_ne (by omega)).trans g1.h1
        have f4 : sl ((ρ.set 5 (some (.int ((sn : Nat) + (i : Nat))))).set 4 (some (.list (poolOf sn (min i m.toNat))))) 4 = some (.list (poolOf sn (min i m.toNat))) := sl_set (by rw [g1.len]; omega)
        simp only [andT, b2, f1, f3, f4, f5, Option.bind_some]
        exact ht
      by_cases hlt : i < m.toNat
      · have emin : min i m.toNat = i := by omega
        rw [emin] at hl hT
        obtain ⟨x, hx, happ⟩ := pool_next (g := r1 * 10000 + r2) (z := z) hsn (show i ≤ 2 by omega)
        refine ⟨F, _, true, g1.h4, hl, hT true (poolT_yes hsn (by omega) (by omega)), iteT ?_⟩
        refine ⟨F, g1.h4, ⟨_, hl⟩, x, ?_, _, hl, by rw [hlenf i (by omega)]; omega, ?_⟩
        · show (sl _ 3).bind (fun a => (sl _ 5).bind fun b => ixD a b) = _
          rw [g1.h3, e5]
          exact hx
        · refine hq _ _ ⟨g1, ?_, hs.set hLF⟩
          rw [Nat.zero_add, setO_look hl, happ, show min (i + 1) m.toNat = i + 1 by omega]
      · have emin : min i m.toNat = m.toNat := by omega
        rw [emin] at hl hT
        refine ⟨F, _, false, g1.h4, hl, hT false ?_, iteF ?_⟩
        · have z2 := poolT_no (g := r1 * 10000 + r2) (z := z) (k := sn + i) (m := m) (by omega) (poolOf_flat sn m.toNat) (by rw [hlenf m.toNat (by omega)]; omega)
          simpa using z2
        · refine hq _ _ ⟨g1, ?_, hs⟩
          rw [Nat.zero_add, hl, show min (i + 1) m.toNat = m.toNat by omega]
    · obtain ⟨g, hl, hs⟩ := ho
      rw [Nat.zero_add, rngD_len, show min ((20 : Int) - (sn : Nat)).toNat m.toNat = m.toNat by omega] at hl
      exact ⟨F, _, g.h4, hl, hF, q sn _ hsn (hs.del hLF)⟩
end
end DL

set_option Elab.async false
set_option linter.all false
set_option maxRecDepth 100000
set_option maxHeartbeats 4000000
namespace DL
open PySem PySem.Spec PyProof.Rows L2 Evl
open LamX (TabB)
/-! ### rows put in order -/
def valOk : PyData → Bool
  | .int _ => true
  | .str x => (PyData.str x).canLay0
  | _ => false
def isS : PyData → Bool
  | .str _ => true
  | _ => false
def rowOk : PyData → Bool
  | .tuple vs => vs.all valOk
  | _ => false
def lawKey : PyData → PyData
  | .tuple vs => .list (vs.map fun v => .tuple [.bool (isS v), v])
  | d => d
theorem valOk_eq {v : PyData} (h : valOk v = true) : v.canLay0 = true ∧ v.depth = 0 ∧ noIns v = true := by
  unfold valOk at h
  split at h
  · exact ⟨by simp [PyData.canLay0], by simp [PyData.depth], rfl⟩
  · exact ⟨h, by simp [PyData.depth], rfl⟩
  · cases h
theorem valsOk_eq : ∀ {vs : List PyData}, vs.all valOk = true → PyData.canLayAll0 vs = true ∧ PyData.depthAll vs = 0 ∧ noIns.noInsAll vs = true
  | [], _ => ⟨by simp [PyData.canLayAll0], by simp [PyData.depthAll], rfl⟩
  | v :: vs, h => by
    rw [List.all_cons, Bool.and_eq_true] at h
    obtain ⟨a1, a2, a3⟩ := valOk_eq h.1
    obtain ⟨b1, b2, b3⟩ := valsOk_eq h.2
    exact ⟨by simp [PyData.canLayAll0, a1, b1], by simp [PyData.depthAll, a2, b2], by simp [noIns.noInsAll, a3, b3]⟩
theorem rowOk_eq {r : PyData} (h : rowOk r = true) : r.canLay0 = true ∧ r.depth ≤ 1 ∧ noIns r = true := by
  unfold rowOk at h
  split at h
  · obtain ⟨b1, b2, b3⟩ := valsOk_eq h
    exact ⟨by simpa [PyData.canLay0] using b1, by simp [PyData.depth, b2], by simpa [noIns] using b3⟩
  · cases h
theorem rowsOk_eq : ∀ {rs : List PyData}, rs.all rowOk = true → PyData.canLayAll0 rs = true ∧ PyData.depthAll rs ≤ 1 ∧ noIns.noInsAll rs = true
  | [], _ => ⟨by simp [PyData.canLayAll0], by simp [PyData.depthAll], rfl⟩
  | v :: vs, h => by
    rw [List.all_cons, Bool.and_eq_true] at h
    obtain ⟨a1, a2, a3⟩ := rowOk_eq h.1
    obtain ⟨b1, b2, b3⟩ := rowsOk_eq h.2
    exact ⟨by simp [PyData.canLayAll0, a1, b1], by simp only [PyData.depthAll]; omega, by simp [noIns.noInsAll, a3, b3]⟩
theorem okEq_row {r : PyData} (h : rowOk r = true) : okEq r = true := by
  obtain ⟨a1, a2, a3⟩ := rowOk_eq h
  unfold okEq SeqAt.shaped
  rw [a1, a3, decide_eq_true (by omega)]
  rfl
theorem okEq_rows {rs : List PyData} (h : rs.all rowOk = true) : okEq (.list rs) = true := by
  obtain ⟨a1, a2, a3⟩ := rowsOk_eq h
  unfold okEq SeqAt.shaped
  have h1 : (PyData.list rs).canLay0 = true := by simpa [PyData.canLay0] using a1
  have h2 : (PyData.list rs).depth ≤ 64 := by simp only [PyData.depth]; omega
  have h3 : noIns (.list rs) = true := by simpa [noIns] using a3
  rw [h1, h3, decide_eq_true h2]
  rfl
theorem key_okL : ∀ {rs : List PyData}, rs.all rowOk = true → okL (rs.map lawKey) = true := by
  intro rs h
  unfold okL
  rw [List.all_eq_true]
  intro k hk
  obtain ⟨r, hr, rfl⟩ := List.mem_map.mp hk
  have h1 := List.all_eq_true.mp h r hr
  unfold rowOk at h1
  split at h1
  · rename_i vs
    have key : ∀ vs : List PyData, vs.all valOk = true → PyData.canLayAll0 (vs.map fun v => .tuple [.bool (isS v), v]) = true ∧ PyData.depthAll (vs.map fun v => .tuple [.bool (isS v), v]) ≤ 1 ∧ noIns.noInsAll (vs.map fun v => .tuple [.bool (isS v), v]) = true ∧ (vs.map fun v => PyData.tuple [.bool (isS v), v]).all lawV = true := fun vs => by
      induction vs with
      | nil => intro _; exact ⟨by simp [PyData.canLayAll0], by simp [PyData.depthAll], rfl, rfl⟩
      | cons v vs ih =>
        intro h
        rw [List.all_cons, Bool.and_eq_true] at h
        obtain ⟨b1, b2, b3, b4⟩ := ih h.2
        obtain ⟨a1, a2, a3⟩ := valOk_eq h.1
        have a4 : lawV (.tuple [.bool (isS v), v]) = true := by
          have hv := h.1
          unfold valOk at hv
          split at hv
          · rfl
          · rfl
          · cases hv
        refine ⟨by simp [PyData.canLayAll0, PyData.canLay0, a1, b1], by simp only [List.map_cons, PyData.depthAll, PyData.depth, a2]; omega, by simp [noIns.noInsAll, noIns, a3, b3], by simp [a4, b4]⟩
    obtain ⟨c1, c2, c3, c4⟩ := key vs h1
    have o : okEq (lawKey (.tuple vs)) = true := by
      unfold okEq SeqAt.shaped
      have e1 : (lawKey (.tuple vs)).canLay0 = true := by simpa [lawKey, PyData.canLay0] using c1
      have e2 : (lawKey (.tuple vs)).depth ≤ 64 := by simp only [lawKey, PyData.depth]; omega
      have e3 : noIns (lawKey (.tuple vs)) = true := by simpa [lawKey, noIns] using c3
      rw [e1, e3, decide_eq_true e2]
      rfl
    rw [o]
    exact c4
  · cases h1
def addU (done : List PyData) (r : PyData) : List PyData := if (done.any fun z => PyData.eqv z r) = true then done else done ++ [r]
def uniqD : List PyData → List PyData → List PyData
  | done, [] => done
  | done, r :: rs => uniqD (addU done r) rs
theorem addU_ok {done : List PyData} {r : PyData} (h : done.all rowOk = true) (hr : rowOk r = true) : (addU done r).all rowOk = true := by
  unfold addU
  split
  · exact h
  · rw [List.all_append, h]
    simp [hr]
theorem addU_len (done : List PyData) (r : PyData) : (addU done r).length ≤ done.length + 1 := by
  unfold addU
  split
  · omega
  · rw [List.length_append]; exact Nat.le_refl _
def lawOrd (rows : List PyData) : List PyData := sortKD trL (uniqD [] rows) ((uniqD [] rows).map lawKey)
def g_sorted : WC := fun ds own Φ => ∃ rows, ds = [.list rows] ∧ own = [] ∧ rows.all rowOk = true ∧ rows.length ≤ 1000 ∧ (∀ r ∈ rows, ∀ vs, r = .tuple vs → vs.length ≤ 1000) ∧ ∀ o, Φ (.tuple (lawOrd rows)) o
theorem uniqD_fold : ∀ (rs done : List PyData), uniqD done rs = rs.foldl addU done
  | [], _ => rfl
  | r :: rs, done => uniqD_fold rs (addU done r)
theorem fold_ok : ∀ (rs done : List PyData), done.all rowOk = true → rs.all rowOk = true → (rs.foldl addU done).all rowOk = true
  | [], _, h, _ => h
  | r :: rs, done, h, h2 => by
    rw [List.all_cons, Bool.and_eq_true] at h2
    exact fold_ok rs _ (addU_ok h h2.1) h2.2
theorem fold_len : ∀ (rs done : List PyData), (rs.foldl addU done).length ≤ done.length + rs.length
  | [], _ => Nat.le_refl _
  | r :: rs, done => by
    have h1 := fold_len rs (addU done r)
    have h2 := addU_len done r
    rw [List.length_cons]
    show (rs.foldl addU (addU done r)).length ≤ _
    omega
theorem fold_mem : ∀ (rs done : List PyData) (x : PyData), x ∈ rs.foldl addU done → x ∈ done ∨ x ∈ rs
  | [], _, _, h => .inl h
  | r :: rs, done, x, h => by
    rcases fold_mem rs (addU done r) x h with z | z
    · unfold addU at z
      split at z
      · exact .inl z
      · rcases List.mem_append.mp z with z | z
        · exact .inl z
        · exact .inr (by rw [List.mem_singleton.mp z]; exact List.mem_cons_self)
    · exact .inr (List.mem_cons_of_mem _ z)
theorem mapD_all {g : PyData → Option PyData} {f : PyData → PyData} : ∀ {ds : List PyData}, (∀ d ∈ ds, g d = some (f d)) → mapD g ds = some (ds.map f)
  | [], _ => rfl
  | d :: ds, h => by
    show ((g d).bind fun k => (mapD g ds).map (k :: ·)) = _
    rw [h d List.mem_cons_self, mapD_all fun d hd => h d (List.mem_cons_of_mem _ hd)]
    rfl
/-- the lambda of the text -/
def lamOf : Stmt → Option (Arguments × Expr × Scope)
  | .Return (some (.Call _ [.Call _ _ [⟨_, .Lambda a e s _, _⟩] _] [] _)) _ => some (a, e, s)
  | _ => none
def lamSc : Scope := match (defBody s__law_sorted).getLast?.bind lamOf with
  | some (_, _, s) => s
  | none => defScope s__law_sorted
theorem sc_lam : FnScope ["_law_row", "_law_v"] ["_law_row"] lamSc := ⟨rfl, rfl, rfl, by decide +kernel, rfl, by decide +kernel, by decide +kernel⟩
def lamF : DF := lcD [1] (fun ρ => ((fun ρ => sl ρ 0) ρ).bind asSeq) (oneB 1) yesT (fun ρ => ((fun ρ => ((fun ρ => ((fun ρ => sl ρ 1) ρ).bind (isiD "str")) ρ).bind fun d => ((fun ρ => ((fun ρ => sl ρ 1) ρ).bind fun d => ((fun _ => some []) ρ).bind fun ds => some (d :: ds)) ρ).bind fun ds => some (d :: ds)) ρ).bind tupD)
theorem lamF_key {r : PyData} (h : rowOk r = true) (hl : ∀ vs, r = .tuple vs → vs.length ≤ 100000) : lamF (startD 2 [r]) = some (lawKey r) := by
  unfold rowOk at h
  split at h
  · rename_i vs
    have key : ∀ (vs : List PyData), vs.all valOk = true → mapD (fun v => ((some v).bind (isiD "str")).bind fun b => some (PyData.tuple [b, v])) vs = some (vs.map fun v => .tuple [.bool (isS v), v]) := fun vs => by
      induction vs with
      | nil => intro _; rfl
      | cons v vs ih =>
        intro h
        rw [List.all_cons, Bool.and_eq_true] at h
        have e1 : isiD "str" v = some (.bool (isS v)) := by
          have hv := h.1
          unfold valOk at hv
          split at hv
          · show (kitB "int" "str").map PyData.bool = _
            rw [show kitB "int" "str" = some false by decide +kernel]
            rfl
          · show (kitB "str" "str").map PyData.bool = _
            rw [show kitB "str" "str" = some true by decide +kernel]
            rfl
          · cases hv
        show (((isiD "str" v).bind fun b => some (PyData.tuple [b, v])).bind fun k => _) = _
        rw [e1, ih h.2]
        rfl
    show (if vs.length ≤ 100000 then (turnsD (oneB 1) yesT _ (wipeD (startD 2 [.tuple vs]) [1]) vs).map PyData.list else none) = _
    rw [if_pos (hl vs rfl), turnsD_map]
    have e2 := key vs h
    have e3 : (fun d => (fun ρ : DE => ((fun ρ : DE => ((fun ρ : DE => ((fun ρ : DE => sl ρ 1) ρ).bind (isiD "str")) ρ).bind fun d => ((fun ρ : DE => ((fun ρ : DE => sl ρ 1) ρ).bind fun d => ((fun _ => some []) ρ).bind fun ds => some (d :: ds)) ρ).bind fun ds => some (d :: ds)) ρ).bind tupD) ((wipeD (startD 2 [.tuple vs]) [1]).set 1 (some d))) = fun v => ((some v).bind (isiD "str")).bind fun b => some (PyData.tuple [b, v]) := by
      funext v
      show (((isiD "str" v).bind fun d => some [d, v])).bind tupD = (isiD "str" v).bind fun b => some (PyData.tuple [b, v])
      cases isiD "str" v <;> rfl
    rw [e3, e2]
    rfl
  · cases h
section
variable {P : Program} {w : World} {K : PySem.W.Frag} {mg : Str → Option Value} {base : Heap} {CF : Addr} {P1 : Addr}
theorem ok_sorted (T : Txt K mg w CF) (TB : TabB base mg T.c_srt P1) : FnOk P w K mg base CX0 8 T.d__law_sorted.f T.d__law_sorted.fd ["_law_rows"] (spW K P w [(P1, Str.ofString "_law_sorted.<locals>.<lambda>")] g_sorted) := by
  obtain ⟨oc, od, kV, doc, pm, an, ct, osl, efd, lk, hcd⟩ := T.e_srt
  rw [efd] at lk ⊢
  refine fn_of lk hcd sc__law_sorted (fun vs H Q E h => ?_) (fun A outer s H vs Q E hr hq => ?_)
  · obtain ⟨G, ds, oc, Φ, r, W, ⟨rows, rfl, _⟩, q⟩ := h
    exact r.length
  · have nd := sc__law_sorted.nd
    obtain ⟨G, ds, oc, Φ, r, W, hg, q⟩ := hq
    have hT : (⟨[(P1, Str.ofString "_law_sorted.<locals>.<lambda>")], oc.map (·.1) ++ [(P1, Str.ofString "_law_sorted.<locals>.<lambda>")].map (·.1), G, H⟩ : Ab).TT = [(P1, Str.ofString "_law_sorted.<locals>.<lambda>")] := rfl
    generalize hB : (⟨[(P1, Str.ofString "_law_sorted.<locals>.<lambda>")], oc.map (·.1) ++ [(P1, Str.ofString "_law_sorted.<locals>.<lambda>")].map (·.1), G, H⟩ : Ab) = B at hT W q
    have hBex : B.ex = oc.map (·.1) ++ [P1] := by rw [← hB]; rfl
    have hu : (A.deeper (envOfC "_law_sorted" (defScope s__law_sorted) s.heap.objs.size T.d__law_sorted.f (.ref T.c_srt))).units + 65 < cLine := by have := hr.un; omega
    refine ⟨_, (wss_cons (B := B) (ws_new (i := 1) wa_nil (pg_name (i := 1) nd rfl (by first | exact Or.inl rfl | exact Or.inr rfl)))
      (wss_cons (ws_for PassesOwn.never rfl (wi_pure (pdi_seq (pd_var (pv 0)))) (pg_name (i := 2) nd rfl (by first | exact Or.inl rfl | exact Or.inr rfl)) (tg_one 2)
        (wss_one (ws_if (wt_peek 1 (pdt_cmp (od_notInDeep hu) (pd_var (pv 2)) (pd_var (pv 1)) (by rfl))) (wss_one (ws_app (i := 1) (pv 1) (we_pure (pd_var (pv 2))))) wss_nil)))
      (wss_one (ws_ret (we_callTy cd_tuple (by rfl) T.b_tuple (by decide +kernel) (wa_cons (we_sortLam (okL := okL) (tr := trL) (Fk := lamF) (N := ["_law_row", "_law_v"]) (ps := ["_law_row"]) (k := 2) (c := T.c_srt) (P1 := P1) (hr.mono (by decide)) (by rfl) T.b_sorted (by exact hT) (by exact TB) (by rfl) (by rfl) (by rfl) sc_lam rfl (fun _ _ _ _ _ => rfl)
        (okL_sorts (by have := hr.un; show (A.deeper _).units + 1 + 1 + 128 < _; omega)) (fun f c' A' outer' s' H' E' hr' => by
          have nd2 := sc_lam.nd
          exact pd_lc (own := [("_law_v", 1)]) rfl nd2 (pdi_seq (pd_var (pv 0))) (blkOk_by (N := ["_law_row", "_law_v"]) (sc := lamSc) (by decide +kernel)) (tg_one 1) (by decide) (fun _ _ _ _ _ => (pg_name (i := 1) nd2 rfl (by first | exact Or.inl rfl | exact Or.inr rfl))) (fun _ _ _ _ _ => pdts_nil)
            (fun _ _ _ _ _ => pd_tup (pds_cons (pd_isi rfl T.b_isinstance (by decide +kernel) rfl T.b_str (by decide +kernel) (pd_var (pv 1))) (pds_cons (pd_var (pv 1)) pds_nil)))) (we_rel (pv 1))) wa_nil)))))).nox, ?_⟩
    obtain ⟨rows, rfl, rfl, hrows, hlen, hsh, qΦ⟩ := hg
    refine ⟨G, _, [], [], fun r o => match r with
      | .nx _ => Φ .none o
      | .rt d => Φ d o, start_rd r, W, ?_, fun rs o H' G' h1 e1 W1 => ?_⟩
    · refine ⟨by decide, fun p hp hn => ⟨rows, rfl, ?_⟩⟩
      have hx : ∀ n, ((rows.take n).foldl addU []).all rowOk = true := fun n => fold_ok _ _ rfl (by
        rw [List.all_eq_true] at hrows ⊢
        exact fun x hx => hrows x (List.mem_of_mem_take hx))
      have hl : ∀ n, ((rows.take n).foldl addU []).length ≤ 1000 := fun n => by
        have h1 := fold_len (rows.take n) []
        rw [List.length_take] at h1
        simp only [List.length_nil] at h1
        omega
      refine forW_inv2 (Inv := fun n ρ own => ρ.length = 3 ∧ sl ρ 1 = some (opq p) ∧ own = [(p, .l ((rows.take n).foldl addU []))]) rows 0 _ _ _ ⟨rfl, rfl, rfl⟩ (fun i d hd own ρ Ψ hi hq => ?_) fun ρ' o ho => ?_
      · obtain ⟨k1, k2, rfl⟩ := hi
        rw [Nat.zero_add] at hq ⊢
        have hdr : rowOk d = true := List.all_eq_true.mp hrows d (List.mem_of_getElem? hd)
        have enext : (rows.take (i + 1)).foldl addU [] = addU ((rows.take i).foldl addU []) d := by
          rw [List.take_add_one, hd]
          simp
        have g1 : (ρ.set 2 (some d)).length = 3 := by rw [List.length_set]; exact k1
        have g2 : sl (ρ.set 2 (some d)) 1 = some (opq p) := by rw [sl_ne (by omega)]; exact k2
        have g3 : sl (ρ.set 2 (some d)) 2 = some d := sl_set (by rw [k1]; omega)
        have hTv : (b2 (deepIn true) (fun ρ => sl ρ 2) (fun ρ => sl ρ 1) ((ρ.set 2 (some d)).set 1 (some (.list ((rows.take i).foldl addU []))))).bind asB = some (!(((rows.take i).foldl addU []).any fun z => PyData.eqv z d)) := by
          have f2 : sl ((ρ.set 2 (some d)).set 1 (some (.list ((rows.take i).foldl addU [])))) 2 = some d := by rw [sl_ne (by omega)]; exact g3
          have f1 : sl ((ρ.set 2 (some d)).set 1 (some (.list ((rows.take i).foldl addU [])))) 1 = some (.list ((rows.take i).foldl addU [])) := sl_set (by rw [g1]; omega)
          simp only [b2, f1, f2, Option.bind_some]
          have e : deepIn true d (.list ((rows.take i).foldl addU [])) = some (.bool (!(((rows.take i).foldl addU []).any fun z => PyData.eqv z d))) := if_pos ⟨okEq_row hdr, okEq_rows (hx i)⟩
          rw [e]
          rfl
        refine ⟨_, rfl, ?_⟩
        cases hany : ((rows.take i).foldl addU []).any fun z => PyData.eqv z d with
        | true =>
          rw [hany] at hTv
          refine ⟨p, _, false, g2, by simp, hTv, iteF ?_⟩
          refine hq _ _ ⟨g1, g2, ?_⟩
          have e : addU ((rows.take i).foldl addU []) d = (rows.take i).foldl addU [] := if_pos hany
          rw [enext, e]
        | false =>
          rw [hany] at hTv
          refine ⟨p, _, true, g2, by simp, hTv, iteT ?_⟩
          refine ⟨p, g2, ⟨_, lookO1⟩, d, g3, (rows.take i).foldl addU [], lookO1, by have := hl i; omega, ?_⟩
          refine hq _ _ ⟨g1, g2, ?_⟩
          have e : addU ((rows.take i).foldl addU []) d = (rows.take i).foldl addU [] ++ [d] := if_neg (by rw [hany]; exact Bool.false_ne_true)
          rw [enext, e, setO1]
      · obtain ⟨k1, k2, rfl⟩ := ho
        rw [Nat.zero_add, List.take_length]
        have hx' := hx rows.length
        have hl' := hl rows.length
        rw [List.take_length] at hx' hl'
        refine ⟨p, _, k2, by simp, hp, _, (rows.foldl addU []).map lawKey, rfl, by omega, mapD_all fun d hd => lamF_key (List.all_eq_true.mp hx' d hd) fun vs e => ?_, key_okL hx', _, rfl, ?_⟩
        · rcases fold_mem rows [] d hd with z | z
          · cases z
          · have := hsh d z vs e
            omega
        · have z := qΦ (delO [(p, OC.l (rows.foldl addU []))] p)
          unfold lawOrd at z
          rw [uniqD_fold] at z
          exact z
    · rw [List.append_nil] at W1
      cases rs with
      | nx ρ => exact fun σ' _ => q .none o .non H' G' h1 W1 .non
      | rt d => exact fun v rv => q d o v H' G' h1 W1 rv
end
end DL

set_option Elab.async false
set_option linter.all false
set_option maxRecDepth 100000
set_option maxHeartbeats 4000000
namespace DL
open PySem PySem.Spec PyProof.Rows L2 Evl
open LamX (TabB)
section
variable {X : Cx} {B : Ab} {a e : Expr} {F : WF} {pos : Pos}
def seqLW (F : WF) : WFs := fun own ρ Φ => F own ρ fun d o => ∃ ds, d = .list ds ∧ Φ ds o
theorem wi_list {tg : Expr} (h : WE X B e F) : WI X B tg e (seqLW F) := weakI (pi_list h) fun σ H R => by
  rintro ⟨G, ρ, own, fr, Φ, er, W, hp, q⟩
  refine ⟨G, ρ, own, fr, _, er, W, hp, fun d o v H1 G1 h1 e1 W1 r1 => ?_⟩
  obtain ⟨ds, rfl, h2⟩ := h1
  cases r1 with
  | lst s1 t1 => exact ⟨_, rfl, ⟨_, ex_l W1.gh s1⟩, q ds o _ H1 G1 h2 e1 W1 (walk_list s1 t1)⟩
/-- sorted of texts -/
def sortSW (F : WF) : WF := fun own ρ Φ => F own ρ fun d o => ∃ xs : List Str, d = .list (xs.map .str) ∧ xs.length < 64 ∧ ∀ xs' : List Str, xs'.Perm xs → Φ (.list (xs'.map .str)) o
theorem strs_back {K : PySem.W.Frag} {G : Hp} : ∀ {vs : List V} {xs : List Str}, RDs K G vs (xs.map .str) → vs = xs.map V.str
  | _, [], h => by cases h; rfl
  | _, x :: xs, h => by
    cases h with
    | cons r t =>
      cases r
      rw [strs_back t]
      rfl
theorem strs_rds {K : PySem.W.Frag} {G : Hp} : ∀ xs : List Str, RDs K G (xs.map V.str) (xs.map .str)
  | [] => .nil
  | x :: xs => .cons (.str x) (strs_rds xs)
theorem we_sortS {p : Pos} (hg : Gl X "sorted") (hm : X.mg "sorted" = none) (ha : WE X B a F) (hs : starEach [a] X.env = (false, eval a X.env) :: starEach [] X.env := by rfl) (hpl : (backTo pos (starEach [] X.env)).any (·.1) = false := by rfl) :
    WE X B (.Call (.Name "sorted" p) [a] [] pos) (sortSW F) := weakE (pe_callB cr_sortedS hg hm (by decide +kernel) (pa_cons ha pa_nil hs) (by decide) (by decide) hs hpl) fun σ H Q => by
  rintro ⟨G, ρ, own, fr, Φ, er, W, hp, q⟩
  refine ⟨G, ρ, own, fr, _, er, W, hp, fun d o v H1 G1 h1 e1 W1 r1 => ?_⟩
  obtain ⟨xs, rfl, hl, h2⟩ := h1
  cases r1 with
  | lst s1 t1 =>
    have ev := strs_back t1
    subst ev
    refine ⟨_, xs, rfl, ex_l W1.gh s1, hl, fun xs' p hperm hord hpn => ?_⟩
    have g := Go.new (o := .lst (xs'.map V.str)) W1.gh hpn
    exact q _ o _ _ _ (h2 xs' hperm) (e1.trans g.gg) (W1.step g) (rd_newL (fresh_back W1.gh hpn) (strs_rds xs'))
end
/-! ### tables -/
def nameSets : List (List Str) := [["a", "ab", "b"], ["rose", "rosea", "z"], ["b", "ba", "bab"]]
def mkTabs (ns : List Str) (cs : List Int) : List PyData := List.zipWith (fun n c => PyData.tuple [.str n, .int c]) ns cs
theorem mkTabs_snoc : ∀ (ns : List Str) (cs : List Int) (n : Str) (c : Int), ns[cs.length]? = some n → mkTabs ns cs ++ [.tuple [.str n, .int c]] = mkTabs ns (cs ++ [c])
  | [], cs, n, c, h => by simp at h
  | m :: ns, [], n, c, h => by
    have h : some m = some n := h
    cases h
    simp [mkTabs]
  | m :: ns, d :: cs, n, c, h => by
    have ih := mkTabs_snoc ns cs n c h
    unfold mkTabs at ih ⊢
    simp only [List.cons_append, List.zipWith_cons_cons, List.cons.injEq, true_and]
    exact ih
def TabsOk (wd : Int) (tabs : List PyData) : Prop := ∃ ns cs, ns ∈ nameSets ∧ 1 ≤ cs.length ∧ cs.length ≤ 3 ∧ (∀ c ∈ cs, 1 ≤ c ∧ c ≤ wd) ∧ tabs = mkTabs ns cs
def g_tables : WC := fun ds own Φ => ∃ L wd, ds = [opq L, .int wd] ∧ (∃ st, own = [(L, st)] ∧ VS st) ∧ 1 ≤ wd ∧ wd ≤ 3 ∧ ∀ tabs o, TabsOk wd tabs → St L o → Φ (.list tabs) o
section
variable {P : Program} {w : World} {K : PySem.W.Frag} {mg : Str → Option Value} {base : Heap} {CF : Addr} {TT : List (Addr × Str)}
theorem ok_tables (T : Txt K mg w CF) : FnOk P w K mg base CX0 2 T.d__law_tables.f T.d__law_tables.fd ["_law_state", "_law_wide"] (spW K P w TT g_tables) := by
  refine fn_W T.d__law_tables.fn sc__law_tables (fun ds o Φ h => ?_) (fun B cdv A outer s H E hT hr => ?_)
  · obtain ⟨L, m, rfl, _⟩ := h
    rfl
  · have nd := sc__law_tables.nd
    subst hT
    refine ⟨_, wss_cons (ws_set (i := 2) (we_ix (we_pure (pd_lst (pds_cons (pd_lst (pds_cons pd_str (pds_cons pd_str (pds_cons pd_str pds_nil)))) (pds_cons (pd_lst (pds_cons pd_str (pds_cons pd_str (pds_cons pd_str pds_nil)))) (pds_cons (pd_lst (pds_cons pd_str (pds_cons pd_str (pds_cons pd_str pds_nil)))) pds_nil)))))
        (we_call1 (ok_take T) (hr.mono (by decide)) (by rfl) T.d__law_take.gl T.d__law_take.fn.kp T.d__law_take.bd (wa_cons (we_pure (pd_var (pv 0))) (wa_cons (we_pure pd_int) wa_nil)))) (pg_name (i := 2) nd rfl (by first | exact Or.inl rfl | exact Or.inr rfl)))
      (wss_cons (ws_new (i := 3) wa_nil (pg_name (i := 3) nd rfl (by first | exact Or.inl rfl | exact Or.inr rfl)))
      (wss_cons (ws_for PassesOwn.never rfl (wi_list (we_sliL (we_pure (pd_var (pv 2))) (we_op od_add (we_pure pd_int) (we_call1 (ok_take T) (hr.mono (by decide)) (by rfl) T.d__law_take.gl T.d__law_take.fn.kp T.d__law_take.bd (wa_cons (we_pure (pd_var (pv 0))) (wa_cons (we_pure pd_int) wa_nil)))))) (pg_name (i := 4) nd rfl (by first | exact Or.inl rfl | exact Or.inr rfl)) (tg_one 4)
        (wss_one (ws_app (i := 3) (pv 3) (we_tup (wa_cons (we_pure (pd_var (pv 4))) (wa_cons (we_op od_add (we_pure pd_int) (we_call1 (ok_take T) (hr.mono (by decide)) (by rfl) T.d__law_take.gl T.d__law_take.fn.kp T.d__law_take.bd (wa_cons (we_pure (pd_var (pv 0))) (wa_cons (we_pure (pd_var (pv 1))) wa_nil)))) wa_nil))))))
      (wss_one (ws_ret (we_rel (pv 3)))))), fun ds oc Φ h hX => ?_⟩
    obtain ⟨L, wd, rfl, ⟨st0, rfl, hst0⟩, hw1, hw3, q⟩ := h
    refine runW_seq (setW_to (opW_to ⟨_, rfl, ?_⟩))
    refine takeC (i := 0) (F := pureW fun _ => some (.int 3)) (by rfl) 3 (fun Ψ h => ⟨_, rfl, h⟩) ⟨st0, by simp, hst0⟩ (by decide) (by decide) fun r1 s1 a0 a1 v1 => ?_
    obtain ⟨k, rfl⟩ : ∃ k : Nat, r1 = (k : Nat) := ⟨r1.toNat, by omega⟩
    have hk : k < 3 := by omega
    have hns : ∃ ns, ns ∈ nameSets ∧ ns.length = 3 ∧ ixD (.list [.list [.str "a", .str "ab", .str "b"], .list [.str "rose", .str "rosea", .str "z"], .list [.str "b", .str "ba", .str "bab"]]) (.int (k : Nat)) = some (.list (ns.map .str)) := by
      match k, hk with
      | 0, _ => exact ⟨["a", "ab", "b"], by simp [nameSets], rfl, rfl⟩
      | 1, _ => exact ⟨["rose", "rosea", "z"], by simp [nameSets], rfl, rfl⟩
      | 2, _ => exact ⟨["b", "ba", "bab"], by simp [nameSets], rfl, rfl⟩
    obtain ⟨ns, hmem, hlen3, hix⟩ := hns
    refine ⟨_, hix, ?_⟩
    rw [setO1]
    refine ⟨by decide, fun p hp hn => ?_⟩
    have hLp : L ≠ p := (show St L [(L, s1)] from ⟨s1, by simp, v1⟩).ne hn
    refine seqW_to (forsW_to ?_)
    refine ⟨_, rfl, opW_to ⟨_, rfl, ?_⟩⟩
    refine takeC (i := 0) (F := pureW fun _ => some (.int 3)) (by rfl) 3 (fun Ψ h => ⟨_, rfl, h⟩) ((show St L [(L, s1)] from ⟨s1, by simp, v1⟩).cons hLp) (by decide) (by decide) fun r2 s2 b0 b1 v2 => ?_
    refine ⟨.int (1 + r2), rfl, 1 + r2, rfl, ns.map .str, rfl, _, rfl, ?_⟩
    obtain ⟨j, rfl⟩ : ∃ j : Nat, r2 = (j : Nat) := ⟨r2.toNat, by omega⟩
    have hj : j < 3 := by omega
    have hcut : cutDs (ns.map PyData.str) none (some (1 + (j : Nat))) = (ns.take (1 + j)).map PyData.str := by
      match ns, hlen3, j, hj with
      | [x, y, z], _, 0, _ => rfl
      | [x, y, z], _, 1, _ => rfl
      | [x, y, z], _, 2, _ => rfl
    rw [hcut]
    refine forW_inv2 (Inv := fun n ρ own => ρ.length = 5 ∧ sl ρ 0 = some (opq L) ∧ sl ρ 1 = some (.int wd) ∧ sl ρ 3 = some (opq p) ∧ St L own ∧ ∃ cs : List Int, cs.length = n ∧ (∀ c ∈ cs, 1 ≤ c ∧ c ≤ wd) ∧ own.lookup p = some (.l (mkTabs ns cs))) _ 0 _ _ _ ⟨rfl, rfl, rfl, rfl, ?_, [], rfl, (fun c hc => by cases hc), ?_⟩ (fun i d hd own ρ Ψ hi hq => ?_) fun ρ' o ho => ?_
    · exact ((show St L [(L, s1)] from ⟨s1, by simp, v1⟩).cons hLp).took v2
    · rw [setO_lookN (Ne.symm hLp)]
      simp [mkTabs]
    · obtain ⟨k1, k2, k3, k4, k5, cs, k6, k7, k8⟩ := hi
      rw [Nat.zero_add] at hq k6
      rw [List.getElem?_map] at hd
      obtain ⟨nm, hd1, rfl⟩ := Option.map_eq_some_iff.mp hd
      have hd2 : ns[i]? = some nm := by
        rw [List.getElem?_take] at hd1
        split at hd1
        · exact hd1
        · cases hd1
      have hi3 : i < 3 := by
        have := (List.getElem?_eq_some_iff.mp hd2).1
        omega
      have g4 : sl (ρ.set 4 (some (.str nm))) 4 = some (.str nm) := sl_set (by rw [k1]; omega)
      have g0 : sl (ρ.set 4 (some (.str nm))) 0 = some (opq L) := by rw [sl_ne (by omega)]; exact k2
      have g1 : sl (ρ.set 4 (some (.str nm))) 1 = some (.int wd) := by rw [sl_ne (by omega)]; exact k3
      have g3 : sl (ρ.set 4 (some (.str nm))) 3 = some (opq p) := by rw [sl_ne (by omega)]; exact k4
      refine ⟨_, rfl, p, g3, ⟨_, k8⟩, ⟨.str nm, g4, ⟨.int 1, rfl, ?_⟩⟩⟩
      refine takeC (i := 0) (F := pureW fun ρ => sl ρ 1) g0 wd (fun Ψ h => ⟨_, g1, h⟩) k5 (by omega) (by omega) fun r3 s3 c0 c1 v3 => ?_
      refine ⟨.int (1 + r3), rfl, ⟨(show (2 : Nat) ≤ 100000 by decide), ?_⟩⟩
      refine ⟨mkTabs ns cs, by rw [setO_lookN (Ne.symm hLp)]; exact k8, ?_, ?_⟩
      · unfold mkTabs
        rw [List.length_zipWith]
        omega
      · refine hq _ _ ⟨by rw [List.length_set]; exact k1, g0, g1, g3, (k5.took v3).set hLp, cs ++ [1 + r3], by rw [List.length_append, k6]; simp, fun c hc => ?_, ?_⟩
        · rcases List.mem_append.mp hc with z | z
          · exact k7 c z
          · rw [List.mem_singleton.mp z]; omega
        · rw [← mkTabs_snoc ns cs nm (1 + r3) (by rw [k6]; exact hd2)]
          exact setO_look (by rw [setO_lookN (Ne.symm hLp)]; exact k8)
    · obtain ⟨k1, k2, k3, k4, k5, cs, k6, k7, k8⟩ := ho
      rw [Nat.zero_add, List.length_map, List.length_take, hlen3] at k6
      exact ⟨p, _, k4, k8, hp, q _ _ ⟨ns, cs, hmem, by omega, by omega, k7, rfl⟩ (k5.del hLp)⟩
end
end DL

set_option Elab.async false
set_option linter.all false
set_option maxRecDepth 100000
set_option maxHeartbeats 4000000
namespace DL
open PySem PySem.Spec PyProof.Rows L2 Evl
open LamX (TabB)
/-! ### books -/
def RowIn (pool : List PyData) (c : Nat) (r : PyData) : Prop := ∃ vs, r = .tuple vs ∧ vs.length = c ∧ ∀ v ∈ vs, v ∈ pool
def ToldT (pool : List PyData) (t d : PyData) : Prop := ∃ (n : Str) (c : Nat) (rows : List PyData), t = .tuple [.str n, .int c] ∧ d = .tuple [.str n, .int c, .tuple (lawOrd rows)] ∧ rows.length ≤ 3 ∧ ∀ r ∈ rows, RowIn pool c r
def BookOf (pool tabs : List PyData) (b : PyData) : Prop := ∃ told, b = .tuple told ∧ Paired (ToldT pool) tabs told
def TabShape (t : PyData) : Prop := ∃ (n : Str) (c : Nat), t = .tuple [.str n, .int c] ∧ 1 ≤ c ∧ c ≤ 3
def g_books : WC := fun ds own Φ => ∃ L tabs pool, ds = [opq L, .list tabs, .list pool, .int 3] ∧ (∃ st, own = [(L, st)] ∧ VS st) ∧ (∀ t ∈ tabs, TabShape t) ∧ tabs.length ≤ 3 ∧ 1 ≤ pool.length ∧ pool.length ≤ 6 ∧ pool.all valOk = true ∧
  ∀ books o, 1 ≤ books.length → books.length ≤ 2 → (∀ b ∈ books, BookOf pool tabs b) → St L o → Φ (.tuple books) o
theorem paired_snoc {α β : Type} {R : α → β → Prop} {x : α} {y : β} (h : R x y) : ∀ {xs : List α} {ys : List β}, Paired R xs ys → Paired R (xs ++ [x]) (ys ++ [y])
  | _, _, .nil => .cons h .nil
  | _, _, .cons r t => .cons r (paired_snoc h t)
theorem rowIn_ok {pool : List PyData} {c : Nat} {r : PyData} (hp : pool.all valOk = true) (h : RowIn pool c r) : rowOk r = true := by
  obtain ⟨vs, rfl, _, h2⟩ := h
  show vs.all valOk = true
  rw [List.all_eq_true] at hp ⊢
  exact fun v hv => hp v (h2 v hv)
structure GBk (L : Addr) (tabs pool : List PyData) (ρ : DE) : Prop where
  len : ρ.length = 12
  h0 : sl ρ 0 = some (opq L)
  h1 : sl ρ 1 = some (.list tabs)
  h2 : sl ρ 2 = some (.list pool)
  h3 : sl ρ 3 = some (.int 3)
theorem GBk.set {L : Addr} {tabs pool : List PyData} {ρ : DE} (g : GBk L tabs pool ρ) {i : Nat} (hi : 4 ≤ i) (x : Option PyData) : GBk L tabs pool (ρ.set i x) :=
  ⟨by rw [List.length_set]; exact g.len, by rw [sl_ne (by omega)]; exact g.h0, by rw [sl_ne (by omega)]; exact g.h1, by rw [sl_ne (by omega)]; exact g.h2, by rw [sl_ne (by omega)]; exact g.h3⟩
theorem look_cons_ne {p q : Addr} {c : OC} {own : Wo} (h : p ≠ q) : List.lookup p ((q, c) :: own) = own.lookup p := by
  rw [List.lookup_cons]
  have : (p == q) = false := by simpa using h
  rw [this]
theorem look_ne {p q : Addr} {c : OC} {own : Wo} (hp : own.lookup p = some c) (hq : own.lookup q = none) : p ≠ q := by
  rintro rfl
  rw [hp] at hq
  cases hq
theorem delO_look {own : Wo} {D p : Addr} (h : p ≠ D) : (delO own D).lookup p = own.lookup p := by
  induction own with
  | nil => rfl
  | cons q r ih =>
    obtain ⟨a, x⟩ := q
    by_cases e : a = D
    · have e2 : delO ((a, x) :: r) D = delO r D := by simp [delO, e]
      rw [e2, ih, look_cons_ne (by rw [e]; exact h)]
    · have e2 : delO ((a, x) :: r) D = (a, x) :: delO r D := by simp [delO, e]
      rw [e2, List.lookup_cons, List.lookup_cons, ih]
section
variable {P : Program} {w : World} {K : PySem.W.Frag} {mg : Str → Option Value} {base : Heap} {CF : Addr} {P1 : Addr}
abbrev TTq (P1 : Addr) : List (Addr × Str) := [(P1, Str.ofString "_law_sorted.<locals>.<lambda>")]
theorem ok_books (T : Txt K mg w CF) (TB : TabB base mg T.c_srt P1) : FnOk P w K mg base CX0 9 T.d__law_books.f T.d__law_books.fd ["_law_state", "_law_tables_here", "_law_pool_here", "_law_most"] (spW K P w (TTq P1) g_books) := by
  refine fn_W T.d__law_books.fn sc__law_books (fun ds o Φ h => ?_) (fun B cdv A outer s H E hT hr => ?_)
  · obtain ⟨L, tabs, pool, rfl, _⟩ := h
    rfl
  · have nd := sc__law_books.nd
    have okS := ok_sorted (P := P) (w := w) T TB
    have okT := ok_take (P := P) (w := w) (base := base) (TT := TTq P1) T
    rw [show [(P1, Str.ofString "_law_sorted.<locals>.<lambda>")] = B.TT from hT.symm] at okS
    rw [show TTq P1 = B.TT from hT.symm] at okT
    refine ⟨_, (wss_cons (ws_new (i := 4) wa_nil (pg_name (i := 4) nd rfl (by first | exact Or.inl rfl | exact Or.inr rfl)))
      (wss_cons (ws_for PassesOwn.never rfl (wi_range1 (by rfl) T.b_range (we_op od_add (we_pure pd_int) (we_call1 okT (hr.mono (by decide)) (by rfl) T.d__law_take.gl T.d__law_take.fn.kp T.d__law_take.bd (wa_cons (we_pure (pd_var (pv 0))) (wa_cons (we_pure pd_int) wa_nil))))) (pg_name (i := 5) nd rfl (by first | exact Or.inl rfl | exact Or.inr rfl)) (tg_one 5) (wss_cons (ws_new (i := 6) wa_nil (pg_name (i := 6) nd rfl (by first | exact Or.inl rfl | exact Or.inr rfl)))
      (wss_cons (ws_for PassesOwn.never rfl (wi_pure (pdi_seq (pd_var (pv 1)))) (pg_tup rfl (pgs_cons (pg_name (i := 7) nd rfl (by first | exact Or.inl rfl | exact Or.inr rfl)) (pgs_cons (pg_name (i := 8) nd rfl (by first | exact Or.inl rfl | exact Or.inr rfl)) pgs_nil))) (tg_tup [7, 8]) (wss_cons (ws_new (i := 9) wa_nil (pg_name (i := 9) nd rfl (by first | exact Or.inl rfl | exact Or.inr rfl)))
      (wss_cons (ws_for PassesOwn.never rfl (wi_range1 (by rfl) T.b_range (we_call1 okT (hr.mono (by decide)) (by rfl) T.d__law_take.gl T.d__law_take.fn.kp T.d__law_take.bd (wa_cons (we_pure (pd_var (pv 0))) (wa_cons (we_pure (pd_op od_add (pd_var (pv 3)) pd_int)) wa_nil)))) (pg_name (i := 10) nd rfl (by first | exact Or.inl rfl | exact Or.inr rfl)) (tg_one 10) (wss_one (ws_app (i := 9) (pv 9) (we_callTy cd_tuple (by rfl) T.b_tuple (by decide +kernel) (wa_cons (we_lc (own := [("_law_c", 11)]) rfl nd (wi_pure (pdi_range1 (by rfl) T.b_range (pd_var (pv 8)))) (blkOk_by (N := ["_law_state", "_law_tables_here", "_law_pool_here", "_law_most", "_law_books_here", "_law_book", "_law_told", "_law_name", "_law_columns", "_law_rows", "_law_k", "_law_c"]) (sc := defScope s__law_books) (by decide +kernel)) (tg_one 11) (by decide) (fun _ _ _ _ _ => (pg_name (i := 11) nd rfl (by first | exact Or.inl rfl | exact Or.inr rfl))) (fun _ _ _ _ _ => wts_nil) (fun _ _ _ _ _ => we_ix (we_pure (pd_var (pv 2))) (we_call1 okT (hr.mono (by decide)) (by rfl) T.d__law_take.gl T.d__law_take.fn.kp T.d__law_take.bd (wa_cons (we_pure (pd_var (pv 0))) (wa_cons (we_pure (pd_callB cd_len (by rfl) T.b_len (by decide +kernel) (pds_cons (pd_var (pv 2)) pds_nil))) wa_nil))))) wa_nil)))))
      (wss_one (ws_app (i := 6) (pv 6) (we_tup (wa_cons (we_pure (pd_var (pv 7))) (wa_cons (we_pure (pd_var (pv 8))) (wa_cons (we_call0 okS (hr.mono (by decide)) (by rfl) T.d__law_sorted.gl T.d__law_sorted.fn.kp T.d__law_sorted.bd (wa_cons (we_rel (pv 9)) wa_nil)) wa_nil)))))))))
      (wss_one (ws_app (i := 4) (pv 4) (we_callTy cd_tuple (by rfl) T.b_tuple (by decide +kernel) (wa_cons (we_rel (pv 6)) wa_nil)))))))
      (wss_one (ws_ret (we_callTy cd_tuple (by rfl) T.b_tuple (by decide +kernel) (wa_cons (we_rel (pv 4)) wa_nil)))))), fun ds oc Φ h hX => ?_⟩
    obtain ⟨L, tabs, pool, rfl, ⟨st0, rfl, hv0⟩, htabs, htl, hp1, hp2, hpv, q⟩ := h
    refine ⟨by decide, fun p4 hp4 hn4 => ?_⟩
    have hL4 : L ≠ p4 := (show St L [(L, st0)] from ⟨st0, by simp, hv0⟩).ne hn4
    have g0 : GBk L tabs pool ((startD 12 [opq L, .list tabs, .list pool, .int 3]).set 4 (some (opq p4))) := ⟨rfl, rfl, rfl, rfl, rfl⟩
    refine seqW_to (forsW_to (rngW1_to (opW_to ⟨_, rfl, ?_⟩)))
    refine takeC (i := 0) (F := pureW fun _ => some (.int 2)) (by rfl) 2 (fun Ψ h => ⟨_, rfl, h⟩) ((show St L [(L, st0)] from ⟨st0, by simp, hv0⟩).cons hL4) (by decide) (by decide) fun r1 s1 a0 a1 v1 => ?_
    refine ⟨.int (1 + r1), rfl, 1 + r1, rfl, by omega, by omega, ?_⟩
    refine forW_inv2 (Inv := fun n ρ own => GBk L tabs pool ρ ∧ sl ρ 4 = some (opq p4) ∧ St L own ∧ ∃ books, books.length = n ∧ (∀ b ∈ books, BookOf pool tabs b) ∧ own.lookup p4 = some (.l books)) _ 0 _ _ _ ⟨g0, rfl, ?_, [], rfl, (fun b hb => by cases hb), ?_⟩ (fun i5 d5 hd5 own5 ρ5 Ψ5 hi5 hq5 => ?_) fun ρ' o ho => ?_
    · exact ((show St L [(L, st0)] from ⟨st0, by simp, hv0⟩).cons hL4).took v1
    · rw [setO_lookN (Ne.symm hL4)]
      simp
    · obtain ⟨g5, e54, st5, books, lb, hb, kb⟩ := hi5
      rw [Nat.zero_add] at lb hq5
      have hi2 : i5 < 2 := by
        have := (List.getElem?_eq_some_iff.mp hd5).1
        rw [rngD_len] at this
        omega
      have g5' := g5.set (i := 5) (by omega) (some d5)
      have e54' : sl (ρ5.set 5 (some d5)) 4 = some (opq p4) := by rw [sl_ne (by omega)]; exact e54
      refine ⟨_, rfl, ?_⟩
      refine ⟨by decide, fun p6 hp6 hn6 => ?_⟩
      have hL6 : L ≠ p6 := st5.ne hn6
      have h46 : p4 ≠ p6 := look_ne kb hn6
      have g6 := g5'.set (i := 6) (by omega) (some (opq p6))
      have e64 : sl ((ρ5.set 5 (some d5)).set 6 (some (opq p6))) 4 = some (opq p4) := by rw [sl_ne (by omega)]; exact e54'
      have e66 : sl ((ρ5.set 5 (some d5)).set 6 (some (opq p6))) 6 = some (opq p6) := sl_set (by rw [g5'.len]; omega)
      refine seqW_to (forsW_to ⟨tabs, ?_, ?_⟩)
      · show (sl _ 1).bind asSeq = _
        rw [g6.h1]
        rfl
      refine forW_inv2 (Inv := fun n ρ own => GBk L tabs pool ρ ∧ sl ρ 4 = some (opq p4) ∧ sl ρ 6 = some (opq p6) ∧ St L own ∧ own.lookup p4 = some (.l books) ∧ ∃ told, Paired (ToldT pool) (tabs.take n) told ∧ own.lookup p6 = some (.l told)) tabs 0 _ _ _ ⟨g6, e64, e66, st5.cons hL6, ?_, [], .nil, ?_⟩ (fun i7 t7 ht7 own7 ρ7 Ψ7 hi7 hq7 => ?_) fun ρ' o ho => ?_
      · rw [look_cons_ne h46]
        exact kb
      · simp
      · obtain ⟨g7, e74, e76, st7, kb7, told, pt, kt⟩ := hi7
        rw [Nat.zero_add] at pt hq7
        obtain ⟨nm, c, rfl, hc1, hc3⟩ := htabs t7 (List.mem_of_getElem? ht7)
        have g8 := (g7.set (i := 7) (by omega) (some (.str nm))).set (i := 8) (by omega) (some (.int (c : Nat)))
        have e84 : sl ((ρ7.set 7 (some (.str nm))).set 8 (some (.int (c : Nat)))) 4 = some (opq p4) := by rw [sl_ne (by omega), sl_ne (by omega)]; exact e74
        have e86 : sl ((ρ7.set 7 (some (.str nm))).set 8 (some (.int (c : Nat)))) 6 = some (opq p6) := by rw [sl_ne (by omega), sl_ne (by omega)]; exact e76
        have e87 : sl ((ρ7.set 7 (some (.str nm))).set 8 (some (.int (c : Nat)))) 7 = some (.str nm) := by rw [sl_ne (by omega)]; exact sl_set (by rw [g7.len]; omega)
        have e88 : sl ((ρ7.set 7 (some (.str nm))).set 8 (some (.int (c : Nat)))) 8 = some (.int (c : Nat)) := sl_set (by rw [List.length_set, g7.len]; omega)
        refine ⟨(ρ7.set 7 (some (.str nm))).set 8 (some (.int (c : Nat))), rfl, ?_⟩
        refine ⟨by decide, fun p9 hp9 hn9 => ?_⟩
        have hL9 : L ≠ p9 := st7.ne hn9
        have h49 : p4 ≠ p9 := look_ne kb7 hn9
        have h69 : p6 ≠ p9 := look_ne kt hn9
        have g9 := g8.set (i := 9) (by omega) (some (opq p9))
        have e94 : sl (((ρ7.set 7 (some (.str nm))).set 8 (some (.int (c : Nat)))).set 9 (some (opq p9))) 4 = some (opq p4) := by rw [sl_ne (by omega)]; exact e84
        have e96 : sl (((ρ7.set 7 (some (.str nm))).set 8 (some (.int (c : Nat)))).set 9 (some (opq p9))) 6 = some (opq p6) := by rw [sl_ne (by omega)]; exact e86
        have e97 : sl (((ρ7.set 7 (some (.str nm))).set 8 (some (.int (c : Nat)))).set 9 (some (opq p9))) 7 = some (.str nm) := by rw [sl_ne (by omega)]; exact e87
        have e98 : sl (((ρ7.set 7 (some (.str nm))).set 8 (some (.int (c : Nat)))).set 9 (some (opq p9))) 8 = some (.int (c : Nat)) := by rw [sl_ne (by omega)]; exact e88
        have e99 : sl (((ρ7.set 7 (some (.str nm))).set 8 (some (.int (c : Nat)))).set 9 (some (opq p9))) 9 = some (opq p9) := sl_set (by rw [g8.len]; omega)
        refine seqW_to (forsW_to (rngW1_to ?_))
        refine takeC (i := 0) (F := pureW (b2 addD (fun ρ => sl ρ 3) (fun _ => some (.int 1)))) g9.h0 4 (fun Ψ h => ⟨.int 4, by simp only [b2, g9.h3, Option.bind_some]; rfl, h⟩) (st7.cons hL9) (by decide) (by decide) fun r2 s2 b0 b1 v2 => ?_
        refine ⟨r2, rfl, by omega, b0, ?_⟩
        refine forW_inv2 (Inv := fun n ρ own => GBk L tabs pool ρ ∧ sl ρ 4 = some (opq p4) ∧ sl ρ 6 = some (opq p6) ∧ sl ρ 7 = some (.str nm) ∧ sl ρ 8 = some (.int (c : Nat)) ∧ sl ρ 9 = some (opq p9) ∧ St L own ∧ own.lookup p4 = some (.l books) ∧ own.lookup p6 = some (.l told) ∧ ∃ rows, rows.length = n ∧ (∀ r ∈ rows, RowIn pool c r) ∧ own.lookup p9 = some (.l rows)) _ 0 _ _ _ ⟨g9, e94, e96, e97, e98, e99, (st7.cons hL9).took v2, ?_, ?_, [], rfl, (fun r hr => by cases hr), ?_⟩ (fun i10 d10 hd10 own10 ρ10 Ψ10 hi10 hq10 => ?_) fun ρ' o ho => ?_
        · rw [setO_lookN (Ne.symm hL4), look_cons_ne h49]; exact kb7
        · rw [setO_lookN (Ne.symm hL6), look_cons_ne h69]; exact kt
        · rw [setO_lookN (Ne.symm hL9)]; simp
        · obtain ⟨g10, f4, f6, f7, f8, f9, st10, kb10, kt10, rows, lr, hr10, kr⟩ := hi10
          rw [Nat.zero_add] at lr hq10
          have hi3 : i10 < 3 := by
            have := (List.getElem?_eq_some_iff.mp hd10).1
            rw [rngD_len] at this
            omega
          have g10' := g10.set (i := 10) (by omega) (some d10)
          have f4' : sl (ρ10.set 10 (some d10)) 4 = some (opq p4) := by rw [sl_ne (by omega)]; exact f4
          have f6' : sl (ρ10.set 10 (some d10)) 6 = some (opq p6) := by rw [sl_ne (by omega)]; exact f6
          have f7' : sl (ρ10.set 10 (some d10)) 7 = some (.str nm) := by rw [sl_ne (by omega)]; exact f7
          have f8' : sl (ρ10.set 10 (some d10)) 8 = some (.int (c : Nat)) := by rw [sl_ne (by omega)]; exact f8
          have f9' : sl (ρ10.set 10 (some d10)) 9 = some (opq p9) := by rw [sl_ne (by omega)]; exact f9
          refine ⟨_, rfl, p9, f9', ⟨_, kr⟩, ⟨rngD 0 c, ?_, ?_⟩⟩
          · show ((sl _ 8).bind fun d => (asI d).bind fun n => if n ≤ 100000 ∧ 0 ≤ n then some (rngD 0 n.toNat) else none) = _
            rw [f8']
            show (if ((c : Nat) : Int) ≤ 100000 ∧ 0 ≤ ((c : Nat) : Int) then some (rngD 0 ((c : Nat) : Int).toNat) else none) = _
            rw [if_pos ⟨by omega, by omega⟩, Int.toNat_natCast]
          refine ⟨by rw [rngD_len]; omega, ?_⟩
          refine turnsW_all (Inv := fun o => St L o ∧ o.lookup p4 = some (.l books) ∧ o.lookup p6 = some (.l told) ∧ o.lookup p9 = some (.l rows)) (Pd := fun y => y ∈ pool) _ _ [] _ ⟨st10, kb10, kt10, kr⟩ (fun d hd own Ψ hi hy => ⟨_, rfl, ?_⟩) fun ys o hys hl ho => ?_
          · obtain ⟨stw, w4, w6, w9⟩ := hi
            have gw := (g10'.set (i := 11) (by omega) none).set (i := 11) (by omega) (some d)
            refine opW_to ⟨.list pool, gw.h2, ?_⟩
            refine takeC (i := 0) (F := pureW (fun ρ => ((sl ρ 2).bind fun d => (some []).bind fun ds => some (d :: ds)).bind lenD)) gw.h0 (pool.length : Nat) (fun Ψ h => ⟨.int (pool.length : Nat), ?_, h⟩) stw (by omega) (by omega) fun r3 s3 c0 c1 v3 => ?_
            · show ((sl (((ρ10.set 10 (some d10)).set 11 none).set 11 (some d)) 2).bind fun d => (some []).bind fun ds => some (d :: ds)).bind lenD = _
              rw [gw.h2]
              rfl
            · obtain ⟨x, hx, hm⟩ := atI_nn c0 c1
              exact ⟨x, hx, hy x _ hm ⟨stw.took v3, by rw [setO_lookN (Ne.symm hL4)]; exact w4, by rw [setO_lookN (Ne.symm hL6)]; exact w6, by rw [setO_lookN (Ne.symm hL9)]; exact w9⟩⟩
          · obtain ⟨stw, w4, w6, w9⟩ := ho
            rw [List.nil_append]
            refine ⟨.tuple ys, rfl, rows, w9, by omega, ?_⟩
            rw [rngD_len] at hl
            refine hq10 _ _ ⟨g10', f4', f6', f7', f8', f9', stw.set hL9, by rw [setO_lookN h49]; exact w4, by rw [setO_lookN h69]; exact w6, rows ++ [.tuple ys], by rw [List.length_append, lr]; rfl, fun r hr => ?_, setO_look w9⟩
            rcases List.mem_append.mp hr with z | z
            · exact hr10 r z
            · rw [List.mem_singleton.mp z]
              exact ⟨ys, rfl, hl, hys⟩
        · obtain ⟨g10, f4, f6, f7, f8, f9, st10, kb10, kt10, rows, lr, hr10, kr⟩ := ho
          rw [Nat.zero_add, rngD_len] at lr
          have hro : rows.all rowOk = true := by
            rw [List.all_eq_true]
            exact fun r hr => rowIn_ok hpv (hr10 r hr)
          refine ⟨p6, f6, ⟨_, kt10⟩, .str nm, f7, .int (c : Nat), f8, p9, rows, f9, kr, hp9, rows, rfl, rfl, hro, by omega, fun r hr vs e => ?_, fun o' => ⟨(show (3 : Nat) ≤ 100000 by decide), told, ?_, ?_, ?_⟩⟩
          · obtain ⟨vs', e2, e3, _⟩ := hr10 r hr
            rw [e] at e2
            cases e2
            omega
          · rw [delO_look h69]; exact kt10
          · have := Paired.length pt
            rw [List.length_take] at this
            omega
          · refine hq7 _ _ ⟨g10, f4, f6, (st10.del hL9).set hL6, by rw [setO_lookN h46, delO_look h49]; exact kb10, told ++ [.tuple [.str nm, .int (c : Nat), .tuple (lawOrd rows)]], ?_, setO_look (by rw [delO_look h69]; exact kt10)⟩
            rw [List.take_add_one, ht7]
            exact paired_snoc ⟨nm, c, rows, rfl, rfl, by omega, hr10⟩ pt
      · obtain ⟨g7, e74, e76, st7, kb7, told, pt, kt⟩ := ho
        rw [Nat.zero_add, List.take_length] at pt
        refine ⟨p4, e74, ⟨_, kb7⟩, p6, told, e76, kt, hp6, .tuple told, rfl, books, by rw [delO_look h46]; exact kb7, by omega, ?_⟩
        refine hq5 _ _ ⟨g7, e74, (st7.del hL6).set hL4, books ++ [.tuple told], by rw [List.length_append, lb]; rfl, fun b hbm => ?_, setO_look (by rw [delO_look h46]; exact kb7)⟩
        rcases List.mem_append.mp hbm with z | z
        · exact hb b z
        · rw [List.mem_singleton.mp z]
          exact ⟨told, rfl, pt⟩
    · obtain ⟨g5, e54, st5, books, lb, hb, kb⟩ := ho
      rw [Nat.zero_add, rngD_len] at lb
      exact ⟨p4, books, e54, kb, hp4, .tuple books, rfl, q books _ (by omega) (by omega) hb (st5.del hL4)⟩
end
end DL

set_option Elab.async false
set_option linter.all false
set_option maxRecDepth 100000
set_option maxHeartbeats 4000000
namespace DL
open PySem PySem.Spec PyProof.Rows L2 Evl
open LamX (TabB)
theorem tstW_to {F : WF} {own : Wo} {ρ : DE} {Φ : Bool → Wo → Prop} (h : F own ρ fun d o => ∃ k, d = .bool k ∧ Φ k o) : tstW F own ρ Φ := h
/-! ### the law's data -/
theorem pool_val (s m : Nat) : (poolOf s m).all valOk = true := by
  have h : ∀ x ∈ poolBase, valOk x = true := by
    have h : poolBase.all valOk = true := by decide +kernel
    exact fun x hx => List.all_eq_true.mp h x hx
  rw [List.all_eq_true]
  exact fun x hx => h x (List.mem_of_mem_drop (List.mem_of_mem_take hx))
theorem pool_len {s m : Nat} (hs : s ≤ 3) (hm : m ≤ 3) : (poolOf s m).length = m := by
  unfold poolOf poolBase
  rw [List.length_take, List.length_drop]
  show min m (6 - s) = m
  omega
structure LawData (ws : List Str) (tabs pool : List PyData) (b1 b2 : PyData) (marked : List PyData) (chosen : List Str) : Prop where
  tabs_ : ∃ t0, TabsOk 2 t0 ∧ tabs = t0.take 2
  pool_ : ∃ s m, s ≤ 3 ∧ 1 ≤ m ∧ m ≤ 3 ∧ pool = poolOf s m
  b1_ : BookOf pool tabs b1
  b2_ : BookOf pool tabs b2
  marked_ : ∀ v ∈ marked, v ∈ pool
  mlen : marked.length ≤ 3
  chosen_ : ∀ x ∈ chosen, x ∈ ws
  clen : chosen.length ≤ ws.length
def g_tiny : WC := fun ds own Φ => ∃ L ws, ds = [opq L, .list (ws.map .str)] ∧ (∃ st, own = [(L, st)] ∧ VS st) ∧ ws.length ≤ 10 ∧
  ∀ tabs pool b1 b2 marked chosen o, LawData ws tabs pool b1 b2 marked chosen → St L o → Φ (.list [.tuple [b1, b2], .tuple marked, .tuple (chosen.map .str), .list pool]) o
theorem tabs_shape {t0 : List PyData} (h : TabsOk 2 t0) : ∀ t ∈ t0.take 2, TabShape t := by
  obtain ⟨ns, cs, hm, h1, h2, h3, rfl⟩ := h
  intro t ht
  have ht := List.mem_of_mem_take ht
  unfold mkTabs at ht
  have key : ∀ (ns : List Str) (cs : List Int), (∀ c ∈ cs, 1 ≤ c ∧ c ≤ 2) → ∀ t ∈ List.zipWith (fun n c => PyData.tuple [.str n, .int c]) ns cs, TabShape t := fun ns => by
    induction ns with
    | nil => intro cs _ t ht; simp at ht
    | cons n ns ih =>
      intro cs hc t ht
      cases cs with
      | nil => simp at ht
      | cons c cs =>
        rw [List.zipWith_cons_cons] at ht
        rcases List.mem_cons.mp ht with rfl | ht
        · have := hc c List.mem_cons_self
          exact ⟨n, c.toNat, by rw [Int.toNat_of_nonneg (by omega)], by omega, by omega⟩
        · exact ih cs (fun d hd => hc d (List.mem_cons_of_mem _ hd)) t ht
  exact key ns cs h3 t ht
section
variable {P : Program} {w : World} {K : PySem.W.Frag} {mg : Str → Option Value} {base : Heap} {CF : Addr} {P1 : Addr}
structure GTn (L : Addr) (ws : List Str) (ρ : DE) : Prop where
  len : ρ.length = 9
  h0 : sl ρ 0 = some (opq L)
  h1 : sl ρ 1 = some (.list (ws.map .str))
theorem GTn.set {L : Addr} {ws : List Str} {ρ : DE} (g : GTn L ws ρ) {i : Nat} (hi : 2 ≤ i) (x : Option PyData) : GTn L ws (ρ.set i x) :=
  ⟨by rw [List.length_set]; exact g.len, by rw [sl_ne (by omega)]; exact g.h0, by rw [sl_ne (by omega)]; exact g.h1⟩
theorem ok_tiny (T : Txt K mg w CF) (TB : TabB base mg T.c_srt P1) : FnOk P w K mg base CX0 10 T.d__law_tiny.f T.d__law_tiny.fd ["_law_state", "_law_words"] (spW K P w (TTq P1) g_tiny) := by
  refine fn_W T.d__law_tiny.fn sc__law_tiny (fun ds o Φ h => ?_) (fun B cdv A outer s H E hT hr => ?_)
  · obtain ⟨L, ws, rfl, _⟩ := h
    rfl
  · have nd := sc__law_tiny.nd
    have okT := ok_take (P := P) (w := w) (base := base) (TT := TTq P1) T
    have okA := ok_tables (P := P) (w := w) (base := base) (TT := TTq P1) T
    have okP := ok_pool (P := P) (w := w) (base := base) (TT := TTq P1) T
    have okB := ok_books (P := P) (w := w) T TB
    rw [← hT] at okT okA okP okB
    refine ⟨_, (wss_cons (ws_set (i := 2) (we_sliL (we_call1 okA (hr.mono (by decide)) (by rfl) T.d__law_tables.gl T.d__law_tables.fn.kp T.d__law_tables.bd (wa_cons (we_pure (pd_var (pv 0))) (wa_cons (we_pure pd_int) wa_nil))) (we_pure pd_int)) (pg_name (i := 2) nd rfl (by first | exact Or.inl rfl | exact Or.inr rfl)))
      (wss_cons (ws_set (i := 3) (we_call1 okP (hr.mono (by decide)) (by rfl) T.d__law_pool.gl T.d__law_pool.fn.kp T.d__law_pool.bd (wa_cons (we_pure (pd_var (pv 0))) (wa_cons (we_op od_add (we_pure pd_int) (we_call1 okT (hr.mono (by decide)) (by rfl) T.d__law_take.gl T.d__law_take.fn.kp T.d__law_take.bd (wa_cons (we_pure (pd_var (pv 0))) (wa_cons (we_pure pd_int) wa_nil)))) wa_nil))) (pg_name (i := 3) nd rfl (by first | exact Or.inl rfl | exact Or.inr rfl)))
      (wss_cons (ws_setLc (i := 4) (own := [("_law_value", 5)]) rfl nd rfl rfl (sw_true rfl rfl rfl (by decide +kernel)) (wi_pure (pdi_seq (pd_var (pv 3)))) (blkOk_by (N := ["_law_state", "_law_words", "_law_tables_here", "_law_pool_here", "_law_marked", "_law_value", "_law_chosen", "_law_word_here", "_law_books_here"]) (sc := defScope s__law_tiny) (by decide +kernel)) (tg_one 5) (by decide) (fun _ _ _ _ _ => (pg_name (i := 5) nd rfl (by first | exact Or.inl rfl | exact Or.inr rfl))) (fun _ _ _ _ _ => wts_one (wt_cmp od_eqF (we_call1 okT (hr.mono (by decide)) (by rfl) T.d__law_take.gl T.d__law_take.fn.kp T.d__law_take.bd (wa_cons (we_pure (pd_var (pv 0))) (wa_cons (we_pure pd_int) wa_nil))) (we_pure pd_int) (by rfl))) (fun _ _ _ _ _ => (we_pure (pd_var (pv 5)))))
      (wss_cons (ws_setLc (i := 6) (own := [("_law_word_here", 7)]) rfl nd rfl rfl (sw_true rfl rfl rfl (by decide +kernel)) (wi_pure (pdi_seq (pd_var (pv 1)))) (blkOk_by (N := ["_law_state", "_law_words", "_law_tables_here", "_law_pool_here", "_law_marked", "_law_value", "_law_chosen", "_law_word_here", "_law_books_here"]) (sc := defScope s__law_tiny) (by decide +kernel)) (tg_one 7) (by decide) (fun _ _ _ _ _ => (pg_name (i := 7) nd rfl (by first | exact Or.inl rfl | exact Or.inr rfl))) (fun _ _ _ _ _ => wts_one (wt_cmp od_gtI (we_call1 okT (hr.mono (by decide)) (by rfl) T.d__law_take.gl T.d__law_take.fn.kp T.d__law_take.bd (wa_cons (we_pure (pd_var (pv 0))) (wa_cons (we_pure pd_int) wa_nil))) (we_pure pd_int) (by rfl))) (fun _ _ _ _ _ => (we_pure (pd_var (pv 7)))))
      (wss_cons (ws_set (i := 8) (we_op od_add (we_sliT (we_call1 okB (hr.mono (by decide)) (by rfl) T.d__law_books.gl T.d__law_books.fn.kp T.d__law_books.bd (wa_cons (we_pure (pd_var (pv 0))) (wa_cons (we_pure (pd_var (pv 2))) (wa_cons (we_pure (pd_var (pv 3))) (wa_cons (we_pure pd_int) wa_nil))))) (we_pure pd_int)) (we_sliT (we_call1 okB (hr.mono (by decide)) (by rfl) T.d__law_books.gl T.d__law_books.fn.kp T.d__law_books.bd (wa_cons (we_pure (pd_var (pv 0))) (wa_cons (we_pure (pd_var (pv 2))) (wa_cons (we_pure (pd_var (pv 3))) (wa_cons (we_pure pd_int) wa_nil))))) (we_pure pd_int))) (pg_name (i := 8) nd rfl (by first | exact Or.inl rfl | exact Or.inr rfl)))
      (wss_one (ws_ret (we_lst (wa_cons (we_pure (pd_var (pv 8))) (wa_cons (we_callTy cd_tuple (by rfl) T.b_tuple (by decide +kernel) (wa_cons (we_pure (pd_var (pv 4))) wa_nil)) (wa_cons (we_callTy cd_tuple (by rfl) T.b_tuple (by decide +kernel) (wa_cons (we_sortS (by rfl) T.b_sorted (we_pure (pd_var (pv 6)))) wa_nil)) (wa_cons (we_pure (pd_var (pv 3))) wa_nil)))))))))))), fun ds oc Φ h hX => ?_⟩
    obtain ⟨L, ws, rfl, ⟨st0, rfl, hv0⟩, hws, q⟩ := h
    have g0 : GTn L ws (startD 9 [opq L, .list (ws.map .str)]) := ⟨rfl, rfl, rfl⟩
    -- tables
    refine runW_seq (setW_to ?_)
    refine ⟨opq L, rfl, .int 2, rfl, L, st0, by simp, L, 2, rfl, ⟨st0, rfl, hv0⟩, by omega, by omega, fun t0 o1 ht0 ho1 => ?_⟩
    obtain ⟨s1, k1, v1⟩ := ho1
    refine ⟨s1, k1, .int 2, rfl, 2, rfl, t0, rfl, ?_⟩
    have hcut : cutDs t0 none (some 2) = t0.take 2 := by
      obtain ⟨ns, cs, hm, h1, h2, h3, rfl⟩ := ht0
      have hl : (mkTabs ns cs).length ≤ 3 := by unfold mkTabs; rw [List.length_zipWith]; omega
      generalize mkTabs ns cs = l at hl
      match l, hl with
      | [], _ => rfl
      | [_], _ => rfl
      | [_, _], _ => rfl
      | [_, _, _], _ => rfl
    rw [hcut, setO1]
    have g1 := g0.set (i := 2) (by omega) (some (.list (t0.take 2)))
    have f12 : sl ((startD 9 [opq L, .list (ws.map .str)]).set 2 (some (.list (t0.take 2)))) 2 = some (.list (t0.take 2)) := rfl
    -- pool
    refine seqW_to (setW_to ⟨opq L, g1.h0, opW_to ⟨.int 1, rfl, ?_⟩⟩)
    refine takeC (i := 0) (F := pureW fun _ => some (.int 3)) g1.h0 3 (fun Ψ h => ⟨_, rfl, h⟩) ⟨s1, by simp, v1⟩ (by decide) (by decide) fun r2 s2 a0 a1 v2 => ?_
    rw [setO1]
    refine ⟨.int (1 + r2), rfl, L, s2, by simp, L, 1 + r2, rfl, ⟨s2, by simp, v2⟩, ⟨s2, rfl⟩, by omega, by omega, fun sp o3 hsp ho3 => ?_⟩
    obtain ⟨s3, k3, v3⟩ := ho3
    refine ⟨s3, k3, ?_⟩
    rw [setO1]
    obtain ⟨m, hm⟩ : ∃ m : Nat, 1 + r2 = (m : Nat) := ⟨(1 + r2).toNat, by omega⟩
    rw [hm, Int.toNat_natCast]
    have hm1 : 1 ≤ m := by omega
    have hm3 : m ≤ 3 := by omega
    have hpl := pool_len hsp hm3
    generalize hpool : poolOf sp m = pool at hpl
    generalize hρ1 : (startD 9 [opq L, .list (ws.map .str)]).set 2 (some (.list (t0.take 2))) = ρ1 at g1 f12
    have g2 := g1.set (i := 3) (by omega) (some (.list pool))
    have f22 : sl (ρ1.set 3 (some (.list pool))) 2 = some (.list (t0.take 2)) := by rw [sl_ne (by omega)]; exact f12
    have f23 : sl (ρ1.set 3 (some (.list pool))) 3 = some (.list pool) := sl_set (by rw [g1.len]; omega)
    generalize ρ1.set 3 (some (.list pool)) = ρ2 at g2 f22 f23
    -- marked
    refine seqW_to (setW_to ⟨pool, by show (sl ρ2 3).bind asSeq = _; rw [f23]; rfl, by omega, ?_⟩)
    refine turnsW_inv (Inv := fun o => ∃ st, o = [(L, st)] ∧ VS st) (Pd := fun y => y ∈ pool) _ _ [] _ ⟨s3, rfl, v3⟩ (fun d hd own Ψ hi hy hn => ⟨_, rfl, ?_⟩) fun marked o4 hmk hml ho4 => ?_
    · obtain ⟨st, rfl, hv⟩ := hi
      have gw := (g2.set (i := 5) (by omega) none).set (i := 5) (by omega) (some d)
      have f5 : sl ((ρ2.set 5 none).set 5 (some d)) 5 = some d := sl_set (by rw [List.length_set, g2.len]; omega)
      refine tstW_to (opW_to ?_)
      refine takeC (i := 0) (F := pureW fun _ => some (.int 3)) gw.h0 3 (fun Ψ h => ⟨_, rfl, h⟩) ⟨st, lookO1, hv⟩ (by decide) (by decide) fun r s' c0 c1 v' => ?_
      rw [setO1]
      refine ⟨.int 0, rfl, .bool (r == 0), rfl, r == 0, rfl, ?_⟩
      cases r == 0 with
      | true => exact iteT ⟨d, f5, hy d _ hd ⟨s', rfl, v'⟩⟩
      | false => exact iteF (hn _ ⟨s', rfl, v'⟩)
    obtain ⟨s4, rfl, v4⟩ := ho4
    rw [List.nil_append]
    have g4 := g2.set (i := 4) (by omega) (some (.list marked))
    have f42 : sl (ρ2.set 4 (some (.list marked))) 2 = some (.list (t0.take 2)) := by rw [sl_ne (by omega)]; exact f22
    have f43 : sl (ρ2.set 4 (some (.list marked))) 3 = some (.list pool) := by rw [sl_ne (by omega)]; exact f23
    have f44 : sl (ρ2.set 4 (some (.list marked))) 4 = some (.list marked) := sl_set (by rw [g2.len]; omega)
    generalize ρ2.set 4 (some (.list marked)) = ρ4 at g4 f42 f43 f44
    -- chosen
    refine seqW_to (setW_to ⟨ws.map .str, by show (sl ρ4 1).bind asSeq = _; rw [g4.h1]; rfl, by rw [List.length_map]; omega, ?_⟩)
    refine turnsW_inv (Inv := fun o => ∃ st, o = [(L, st)] ∧ VS st) (Pd := fun y => ∃ x, x ∈ ws ∧ y = .str x) _ _ [] _ ⟨s4, rfl, v4⟩ (fun d hd own Ψ hi hy hn => ⟨_, rfl, ?_⟩) fun chs o5 hch hcl ho5 => ?_
    · obtain ⟨st, rfl, hv⟩ := hi
      obtain ⟨x, hx, rfl⟩ := List.mem_map.mp hd
      have gw := (g4.set (i := 7) (by omega) none).set (i := 7) (by omega) (some (.str x))
      have f7 : sl ((ρ4.set 7 none).set 7 (some (.str x))) 7 = some (.str x) := sl_set (by rw [List.length_set, g4.len]; omega)
      refine tstW_to (opW_to ?_)
      refine takeC (i := 0) (F := pureW fun _ => some (.int 3)) gw.h0 3 (fun Ψ h => ⟨_, rfl, h⟩) ⟨st, lookO1, hv⟩ (by decide) (by decide) fun r s' c0 c1 v' => ?_
      rw [setO1]
      refine ⟨.int 0, rfl, .bool (decide (0 < r)), rfl, decide (0 < r), rfl, ?_⟩
      cases decide (0 < r) with
      | true => exact iteT ⟨.str x, f7, hy _ _ ⟨x, hx, rfl⟩ ⟨s', rfl, v'⟩⟩
      | false => exact iteF (hn _ ⟨s', rfl, v'⟩)
    obtain ⟨s5, rfl, v5⟩ := ho5
    rw [List.nil_append]
    have hxs : ∀ chs : List PyData, (∀ y ∈ chs, ∃ x, x ∈ ws ∧ y = PyData.str x) → ∃ xs : List Str, chs = xs.map .str ∧ ∀ x ∈ xs, x ∈ ws := fun chs => by
      induction chs with
      | nil => intro _; exact ⟨[], rfl, fun x hx => by cases hx⟩
      | cons y ys ih =>
        intro h
        obtain ⟨x, hx, rfl⟩ := h y List.mem_cons_self
        obtain ⟨xs, rfl, h2⟩ := ih fun z hz => h z (List.mem_cons_of_mem _ hz)
        exact ⟨x :: xs, rfl, fun z hz => (List.mem_cons.mp hz).elim (fun e => by rw [e]; exact hx) (h2 z)⟩
    obtain ⟨xs, rfl, hxw⟩ := hxs chs hch
    rw [List.length_map, List.length_map] at hcl
    have g6 := g4.set (i := 6) (by omega) (some (.list (xs.map .str)))
    have f62 : sl (ρ4.set 6 (some (.list (xs.map .str)))) 2 = some (.list (t0.take 2)) := by rw [sl_ne (by omega)]; exact f42
    have f63 : sl (ρ4.set 6 (some (.list (xs.map .str)))) 3 = some (.list pool) := by rw [sl_ne (by omega)]; exact f43
    have f64 : sl (ρ4.set 6 (some (.list (xs.map .str)))) 4 = some (.list marked) := by rw [sl_ne (by omega)]; exact f44
    have f66 : sl (ρ4.set 6 (some (.list (xs.map .str)))) 6 = some (.list (xs.map .str)) := sl_set (by rw [g4.len]; omega)
    generalize ρ4.set 6 (some (.list (xs.map .str))) = ρ6 at g6 f62 f63 f64 f66
    -- books
    have htl : (t0.take 2).length ≤ 3 := by rw [List.length_take]; omega
    have hpv : pool.all valOk = true := by rw [← hpool]; exact pool_val sp m
    have h1of : ∀ books : List PyData, 1 ≤ books.length → books.length ≤ 2 → ∃ b, b ∈ books ∧ cutDs books none (some 1) = [b] := fun books h1 h2 => by
      match books, h1, h2 with
      | [b], _, _ => exact ⟨b, List.mem_cons_self, rfl⟩
      | [b, c], _, _ => exact ⟨b, List.mem_cons_self, rfl⟩
    refine seqW_to (setW_to (opW_to ?_))
    refine ⟨opq L, g6.h0, _, f62, _, f63, .int 3, rfl, L, s5, by simp, L, t0.take 2, pool, rfl, ⟨s5, rfl, v5⟩, tabs_shape ht0, htl, by omega, by omega, hpv, fun bs1 o7 l1 l2 hb1 ho7 => ?_⟩
    obtain ⟨s7, k7, v7⟩ := ho7
    refine ⟨s7, k7, .int 1, rfl, 1, rfl, bs1, rfl, ?_⟩
    rw [setO1]
    refine ⟨opq L, g6.h0, _, f62, _, f63, .int 3, rfl, L, s7, by simp, L, t0.take 2, pool, rfl, ⟨s7, rfl, v7⟩, tabs_shape ht0, htl, by omega, by omega, hpv, fun bs2 o8 l3 l4 hb2 ho8 => ?_⟩
    obtain ⟨s8, k8, v8⟩ := ho8
    refine ⟨s8, k8, .int 1, rfl, 1, rfl, bs2, rfl, ?_⟩
    rw [setO1]
    obtain ⟨b1, m1, c1⟩ := h1of bs1 l1 l2
    obtain ⟨b2, m2, c2⟩ := h1of bs2 l3 l4
    rw [c1, c2]
    refine ⟨.tuple [b1, b2], rfl, ?_⟩
    -- the answer
    have f84 : sl (ρ6.set 8 (some (.tuple [b1, b2]))) 4 = some (.list marked) := by rw [sl_ne (by omega)]; exact f64
    have f86 : sl (ρ6.set 8 (some (.tuple [b1, b2]))) 6 = some (.list (xs.map .str)) := by rw [sl_ne (by omega)]; exact f66
    have f83 : sl (ρ6.set 8 (some (.tuple [b1, b2]))) 3 = some (.list pool) := by rw [sl_ne (by omega)]; exact f63
    have f88 : sl (ρ6.set 8 (some (.tuple [b1, b2]))) 8 = some (.tuple [b1, b2]) := sl_set (by rw [g6.len]; omega)
    refine ⟨_, f88, _, f84, .tuple marked, rfl, _, f86, xs, rfl, by omega, fun xs' hperm => ⟨.tuple (xs'.map .str), rfl, _, f83, (show (4 : Nat) ≤ 100000 by decide), ?_⟩⟩
    exact q _ pool b1 b2 marked xs' _ ⟨⟨t0, ht0, rfl⟩, ⟨sp, m, hsp, hm1, hm3, hpool.symm⟩, hb1 b1 m1, hb2 b2 m2, hmk, by omega, fun x hx => hxw x (hperm.mem_iff.mp hx), by rw [hperm.length_eq]; exact hcl⟩ ⟨s8, by simp, v8⟩
end
end DL

set_option Elab.async false
set_option linter.all false
set_option maxRecDepth 100000
set_option maxHeartbeats 4000000
namespace DL
open PySem PySem.Spec PyProof.Rows L2 Evl
open LamX (TabB TabS)
def lawB1 (CF : Addr) : DS := (seqD (setD 9 (lcD [10] (fun ρ => ((fun ρ => sl ρ 7) ρ).bind asSeq) (oneB 10) (andT (fun ρ => (b2 eqFD (b2 ixD (fun ρ => sl ρ 10) (fun _ => some (.int 2))) (b2 ixD (fun ρ => sl ρ 8) (fun _ => some (.int 2))) ρ).bind asB) (fun ρ => (b2 eqD (b2 ixD (b2 ixD (fun ρ => sl ρ 10) (fun _ => some (.int 3))) (fun _ => some (.int 0))) (b2 ixD (b2 ixD (fun ρ => sl ρ 8) (fun _ => some (.int 3))) (fun ρ => sl ρ 6)) ρ).bind asB)) (fun ρ => sl ρ 10))) (ifD (orT (fun ρ => (b2 neFD (fun ρ => ((fun ρ => ((fun ρ => sl ρ 9) ρ).bind fun d => ((fun _ => some []) ρ).bind fun ds => some (d :: ds)) ρ).bind lenD) (fun _ => some (.int 1)) ρ).bind asB) (fun ρ => ((fun ρ => ((fun ρ => ((b2 ixD (fun ρ => sl ρ 8) (fun _ => some (.int 1))) ρ).bind fun d => ((fun ρ => ((b2 ixD (b2 ixD (fun ρ => sl ρ 9) (fun _ => some (.int 0))) (fun _ => some (.int 1))) ρ).bind fun d => ((fun _ => some []) ρ).bind fun ds => some (d :: ds)) ρ).bind fun ds => some (d :: ds)) ρ).bind (g_is_ahead CF)) ρ).bind asB)) (retD (fun _ => some (.bool false))) nxD))
def lawB2 (CF : Addr) : DS := (seqD (setD 9 (lcD [8] (fun ρ => ((fun ρ => sl ρ 5) ρ).bind asSeq) (oneB 8) (andT (fun ρ => (b2 eqFD (b2 ixD (fun ρ => sl ρ 8) (fun _ => some (.int 2))) (b2 ixD (fun ρ => sl ρ 10) (fun _ => some (.int 2))) ρ).bind asB) (fun ρ => (b2 eqD (b2 ixD (b2 ixD (fun ρ => sl ρ 8) (fun _ => some (.int 3))) (fun ρ => sl ρ 6)) (b2 ixD (b2 ixD (fun ρ => sl ρ 10) (fun _ => some (.int 3))) (fun _ => some (.int 0))) ρ).bind asB)) (fun ρ => sl ρ 8))) (ifD (orT (fun ρ => (b2 eqD (fun ρ => sl ρ 9) (fun ρ => ((fun _ => some []) ρ).bind lstD) ρ).bind asB) (fun ρ => (b2 neD (b2 ixD (b2 ixD (fun ρ => sl ρ 9) (fun _ => some (.int 0))) (fun _ => some (.int 1))) (b2 ixD (fun ρ => sl ρ 10) (fun _ => some (.int 1))) ρ).bind asB)) (retD (fun _ => some (.bool false))) nxD))
def lawOwn (CF : Addr) : DS := (setD 7 (fun ρ => ((fun ρ => ((fun ρ => ((fun ρ => ((fun ρ => ((b2 ixD (b2 ixD (fun ρ => sl ρ 3) (fun _ => some (.int 0))) (fun ρ => sl ρ 6)) ρ).bind fun d => ((fun _ => some []) ρ).bind fun ds => some (d :: ds)) ρ).bind tupD) ρ).bind fun b => ((b2 ixD (fun ρ => sl ρ 3) (fun _ => some (.int 1))) ρ).bind fun n => ((b2 ixD (fun ρ => sl ρ 3) (fun _ => some (.int 2))) ρ).bind fun d => mkField CF [b, n, d]) ρ).bind fun d => ((fun ρ => ((fun ρ => sl ρ 4) ρ).bind fun d => ((fun _ => some []) ρ).bind fun ds => some (d :: ds)) ρ).bind fun ds => some (d :: ds)) ρ).bind (g_reach CF)))
def lawLots (CF : Addr) : DS := (setD 5 (fun ρ => ((fun ρ => ((fun ρ => ((b2 ixD (fun ρ => sl ρ 3) (fun _ => some (.int 0))) ρ).bind fun b => ((b2 ixD (fun ρ => sl ρ 3) (fun _ => some (.int 1))) ρ).bind fun n => ((b2 ixD (fun ρ => sl ρ 3) (fun _ => some (.int 2))) ρ).bind fun d => mkField CF [b, n, d]) ρ).bind fun d => ((fun ρ => ((fun ρ => sl ρ 4) ρ).bind fun d => ((fun _ => some []) ρ).bind fun ds => some (d :: ds)) ρ).bind fun ds => some (d :: ds)) ρ).bind (g_reach CF)))
def lawRest (CF : Addr) : DS := seqD (lawLots CF) (seqD (forS (rng1D (fun _ => some (.int 2))) (oneB 6) (seqD (lawOwn CF) (seqD (forS (fun ρ => ((fun ρ => sl ρ 5) ρ).bind asSeq) (oneB 8) (lawB1 CF)) (forS (fun ρ => ((fun ρ => sl ρ 7) ρ).bind asSeq) (oneB 10) (lawB2 CF))))) (retD (fun _ => some (.bool true))))
def wordSets : List (List Str) := [["join", "less", "same", "take"], ["take", "union", "with"], ["below", "value", "without", "take"]]
/-- what the plain law says -/
def PlainLaw (CF : Addr) : Prop := ∀ (ws : List Str) (tabs pool : List PyData) (b1 b2 : PyData) (marked : List PyData) (chosen : List Str) (far : Int) (ρ : DE), ws ∈ wordSets → LawData ws tabs pool b1 b2 marked chosen → 0 ≤ far → far ≤ 2 → ρ.length = 11 →
  sl ρ 3 = some (.list [.tuple [b1, b2], .tuple marked, .tuple (chosen.map .str), .list pool]) → sl ρ 4 = some (.int far) → lawRest CF ρ = some (.rt (.bool true))
def spLaw (K : PySem.W.Frag) (P1 : Addr) : Sp := fun vs H Q _ => ∃ (a : Addr) (ns : List Int), vs = [.ref a] ∧ SqL K H a (ns.map V.int) ∧ H P1 = some (.tbl #[]) ∧ ∀ H', Q (.bl true) H'
section
variable {P : Program} {w : World} {K : PySem.W.Frag} {mg : Str → Option Value} {base : Heap} {CF : Addr} {P1 : Addr}
theorem sq_less {H : Hp} {a : Addr} {xs : List V} (h : SqL K H a xs) (hP : H P1 = some (.tbl #[])) : SqL K (fun b => if b = P1 then none else H b) a xs := by
  rcases h with (z | ⟨o, z⟩) | z
  · refine .inl (.inl ?_)
    show (if a = P1 then none else H a) = _
    rw [if_neg (fun e => by rw [e, hP] at z; cases z)]
    exact z
  · refine .inl (.inr ⟨o, ?_⟩)
    show (if a = P1 then none else H a) = _
    rw [if_neg (fun e => by rw [e, hP] at z; cases z)]
    exact z
  · exact .inr z
theorem ints_rds {G : Hp} : ∀ ns : List Int, RDs K G (ns.map V.int) (ns.map .int)
  | [] => .nil
  | n :: ns => .cons (.int n) (ints_rds ns)
theorem ok_law (T : Txt K mg w CF) (TB : TabB base mg T.c_srt P1) (PL : PlainLaw CF) : FnOk P w K mg base CX0 16 T.d_law.f T.d_law.fd ["_law_script"] (spLaw K P1) := by
  refine T.d_law.fn.ok sc_law (fun vs H Q E h => ?_) (fun cdv A outer s H vs Q E hr hq => ?_)
  · obtain ⟨a, ns, rfl, _⟩ := h
    rfl
  · have nd := sc_law.nd
    have hu := hr.units
    obtain ⟨a, ns, rfl, hsq, hP, q⟩ := hq
    have okT := ok_take (P := P) (w := w) (base := base) (TT := TTq P1) T
    have okY := ok_tiny (P := P) (w := w) T TB
    have W0 : Wd K P w ⟨TTq P1, [P1], (fun b => if b = P1 then none else H b), H⟩ (fun b => if b = P1 then none else H b) H [] := by
      refine ⟨fun b o h _ => h, fun b o h => ?_, Ex.refl _, fun b o h => .inl h, (fun _ h => by cases h), List.nodup_nil, fun t ht => ?_, fun t ht => ?_, fun b hb => ?_⟩
      · have h : (if b = P1 then none else H b) = some o := h
        split at h
        · cases h
        · exact h
      · rw [List.mem_singleton.mp ht]
        exact LamX.TabS.nil hP
      · rw [List.mem_singleton.mp ht]
        exact ⟨if_pos rfl, List.mem_singleton.mpr rfl⟩
      · rw [List.mem_singleton.mp hb, hP]
        simp
    generalize hB : (⟨TTq P1, [P1], (fun b => if b = P1 then none else H b), H⟩ : Ab) = B at W0
    have hTT : B.TT = TTq P1 := by rw [← hB]
    rw [← hTT] at okT okY
    refine ⟨_, (wss_cons (B := B) (ws_new (i := 1) (wa_pure (pds_cons (pd_var (pv 0)) (pds_cons pd_int (pds_cons pd_int (pds_cons pd_int pds_nil))))) (pg_name (i := 1) nd rfl (by first | exact Or.inl rfl | exact Or.inr rfl)))
      (wss_cons (ws_pure (pds_set (ps_set (i := 2) nd rfl (by first | exact Or.inl rfl | exact Or.inr rfl) (pd_lst (pds_cons (pd_lst (pds_cons pd_str (pds_cons pd_str (pds_cons pd_str (pds_cons pd_str pds_nil))))) (pds_cons (pd_lst (pds_cons pd_str (pds_cons pd_str (pds_cons pd_str pds_nil)))) (pds_cons (pd_lst (pds_cons pd_str (pds_cons pd_str (pds_cons pd_str (pds_cons pd_str pds_nil))))) pds_nil))))) (fun _ _ _ h => h)))
      (wss_cons (ws_set (i := 3) (we_call1 okY (hr.mono (by decide)) (by rfl) T.d__law_tiny.gl T.d__law_tiny.fn.kp T.d__law_tiny.bd (wa_cons (we_pure (pd_var (pv 1))) (wa_cons (we_ix (we_pure (pd_var (pv 2))) (we_call1 okT (hr.mono (by decide)) (by rfl) T.d__law_take.gl T.d__law_take.fn.kp T.d__law_take.bd (wa_cons (we_pure (pd_var (pv 1))) (wa_cons (we_pure pd_int) wa_nil)))) wa_nil))) (pg_name (i := 3) nd rfl (by first | exact Or.inl rfl | exact Or.inr rfl)))
      (wss_cons (ws_set (i := 4) (we_call1 okT (hr.mono (by decide)) (by rfl) T.d__law_take.gl T.d__law_take.fn.kp T.d__law_take.bd (wa_cons (we_pure (pd_var (pv 1))) (wa_cons (we_pure pd_int) wa_nil))) (pg_name (i := 4) nd rfl (by first | exact Or.inl rfl | exact Or.inr rfl)))
      (wss_pure (S := lawRest CF) (pdss_cons (pds_set (ps_set (i := 5) nd rfl (by first | exact Or.inl rfl | exact Or.inr rfl) (pd_call (ok_reach T) (hr.mono (by decide)) (by rfl) T.d_reach.gl T.d_reach.fn.kp T.d_reach.bd (pds_cons (pd_field T (hr.mono (by decide)) (by rfl) (pd_ix (pd_var (pv 3)) pd_int) (pd_ix (pd_var (pv 3)) pd_int) (pd_ix (pd_var (pv 3)) pd_int)) (pds_cons (pd_var (pv 4)) pds_nil)))) (fun _ _ _ h => h))
      (pdss_cons (pds_for PassesOwn.never rfl (pdi_range1 (by rfl) T.b_range pd_int) (pg_name (i := 6) nd rfl (by first | exact Or.inl rfl | exact Or.inr rfl)) (tg_one 6) (pdss_cons (pds_set (ps_set (i := 7) nd rfl (by first | exact Or.inl rfl | exact Or.inr rfl) (pd_call (ok_reach T) (hr.mono (by decide)) (by rfl) T.d_reach.gl T.d_reach.fn.kp T.d_reach.bd (pds_cons (pd_field T (hr.mono (by decide)) (by rfl) (pd_tup (pds_cons (pd_ix (pd_ix (pd_var (pv 3)) pd_int) (pd_var (pv 6))) pds_nil)) (pd_ix (pd_var (pv 3)) pd_int) (pd_ix (pd_var (pv 3)) pd_int)) (pds_cons (pd_var (pv 4)) pds_nil)))) (fun _ _ _ h => h))
      (pdss_cons (pds_for PassesOwn.never rfl (pdi_seq (pd_var (pv 5))) (pg_name (i := 8) nd rfl (by first | exact Or.inl rfl | exact Or.inr rfl)) (tg_one 8) (pdss_cons (pds_setLc (i := 9) (own := [("_law_one", 10)]) rfl nd rfl rfl (sw_true rfl rfl rfl (by decide +kernel)) (pdi_seq (pd_var (pv 7))) (blkOk_by (N := ["_law_script", "_law_state", "_law_words", "_law_data", "_law_far", "_law_lots", "_law_number", "_law_own", "_law_lot", "_law_some", "_law_one"]) (sc := defScope s_law) (by decide +kernel)) (tg_one 10) (by decide) (fun _ _ _ _ _ => (pg_name (i := 10) nd rfl (by first | exact Or.inl rfl | exact Or.inr rfl))) (fun _ _ _ _ _ => pdts_one (pdt_of (pdw_and (pdt_cmp od_eqF (pd_ix (pd_var (pv 10)) pd_int) (pd_ix (pd_var (pv 8)) pd_int) (by rfl)) (pdw_and1 (pdt_cmp (od_eq hu) (pd_ix (pd_ix (pd_var (pv 10)) pd_int) pd_int) (pd_ix (pd_ix (pd_var (pv 8)) pd_int) (pd_var (pv 6))) (by rfl)))))) (fun _ _ _ _ _ => (pd_var (pv 10))))
      (pdss_one (pds_if (pdt_of (pdw_or (pdt_cmp od_neF (pd_callB cd_len (by rfl) T.b_len (by decide +kernel) (pds_cons (pd_var (pv 9)) pds_nil)) pd_int (by rfl)) (pdw_or1 (pdt_val (pd_call (ok_is_ahead T) (hr.mono (by decide)) (by rfl) T.d_is_ahead.gl T.d_is_ahead.fn.kp T.d_is_ahead.bd (pds_cons (pd_ix (pd_var (pv 8)) pd_int) (pds_cons (pd_ix (pd_ix (pd_var (pv 9)) pd_int) pd_int) pds_nil))))))) (pdss_one (pds_ret pd_bl)) pdss_nil))))
      (pdss_one (pds_for PassesOwn.never rfl (pdi_seq (pd_var (pv 7))) (pg_name (i := 10) nd rfl (by first | exact Or.inl rfl | exact Or.inr rfl)) (tg_one 10) (pdss_cons (pds_setLc (i := 9) (own := [("_law_lot", 8)]) rfl nd rfl rfl (sw_true rfl rfl rfl (by decide +kernel)) (pdi_seq (pd_var (pv 5))) (blkOk_by (N := ["_law_script", "_law_state", "_law_words", "_law_data", "_law_far", "_law_lots", "_law_number", "_law_own", "_law_lot", "_law_some", "_law_one"]) (sc := defScope s_law) (by decide +kernel)) (tg_one 8) (by decide) (fun _ _ _ _ _ => (pg_name (i := 8) nd rfl (by first | exact Or.inl rfl | exact Or.inr rfl))) (fun _ _ _ _ _ => pdts_one (pdt_of (pdw_and (pdt_cmp od_eqF (pd_ix (pd_var (pv 8)) pd_int) (pd_ix (pd_var (pv 10)) pd_int) (by rfl)) (pdw_and1 (pdt_cmp (od_eq hu) (pd_ix (pd_ix (pd_var (pv 8)) pd_int) (pd_var (pv 6))) (pd_ix (pd_ix (pd_var (pv 10)) pd_int) pd_int) (by rfl)))))) (fun _ _ _ _ _ => (pd_var (pv 8))))
      (pdss_one (pds_if (pdt_of (pdw_or (pdt_cmp (od_eq hu) (pd_var (pv 9)) (pd_lst pds_nil) (by rfl)) (pdw_or1 (pdt_cmp (od_ne hu) (pd_ix (pd_ix (pd_var (pv 9)) pd_int) pd_int) (pd_ix (pd_var (pv 10)) pd_int) (by rfl))))) (pdss_one (pds_ret pd_bl)) pdss_nil))))))))
      (pdss_one (pds_ret pd_bl))))))))), ?_⟩
    refine ⟨_, _, [], [], fun r _ => r = .rt (.bool true), start_rd (.cons (RD.lst (sq_less hsq hP) (ints_rds ns)) .nil), W0, ?_, fun r o H' G' h1 e1 W1 => ?_⟩
    · have r0 : (startD 11 [PyData.list (ns.map .int)]).length = 11 := rfl
      refine seqW_to ⟨[.list (ns.map .int), .int 0, .int 0, .int 85], rfl, (show (4 : Nat) ≤ 100000 by decide), fun L hL hn => ?_⟩
      have v0 : VS (.l [.list (ns.map .int), .int 0, .int 0, .int 85]) := ⟨ns, 0, 0, 85, rfl⟩
      refine seqW_to ⟨_, rfl, ?_⟩
      refine seqW_to (setW_to ⟨opq L, rfl, opW_to ⟨_, rfl, ?_⟩⟩)
      refine takeC (i := 1) (F := pureW fun _ => some (.int 3)) (by rfl) 3 (fun Ψ h => ⟨_, rfl, h⟩) ⟨_, lookO1, v0⟩ (by decide) (by decide) fun r1 s1 a0 a1 v1 => ?_
      rw [setO1]
      obtain ⟨k, rfl⟩ : ∃ k : Nat, r1 = (k : Nat) := ⟨r1.toNat, by omega⟩
      have hk : k < 3 := by omega
      have hws : ∃ ws, ws ∈ wordSets ∧ ws.length ≤ 10 ∧ ixD (.list [.list [.str "join", .str "less", .str "same", .str "take"], .list [.str "take", .str "union", .str "with"], .list [.str "below", .str "value", .str "without", .str "take"]]) (.int (k : Nat)) = some (.list (ws.map .str)) := by
        match k, hk with
        | 0, _ => exact ⟨["join", "less", "same", "take"], by simp [wordSets], by decide, rfl⟩
        | 1, _ => exact ⟨["take", "union", "with"], by simp [wordSets], by decide, rfl⟩
        | 2, _ => exact ⟨["below", "value", "without", "take"], by simp [wordSets], by decide, rfl⟩
      obtain ⟨ws, hmem, hwl, hix⟩ := hws
      refine ⟨_, hix, L, s1, lookO1, L, ws, rfl, ⟨s1, rfl, v1⟩, hwl, fun tabs pool b1 b2 marked chosen o2 hd ho2 => ?_⟩
      obtain ⟨s2, k2, v2⟩ := ho2
      refine ⟨s2, k2, ?_⟩
      rw [setO1]
      refine seqW_to (setW_to ?_)
      refine takeC (i := 1) (F := pureW fun _ => some (.int 3)) (by rfl) 3 (fun Ψ h => ⟨_, rfl, h⟩) ⟨s2, lookO1, v2⟩ (by decide) (by decide) fun r3 s3 c0 c1 v3 => ?_
      exact ⟨_, PL ws tabs pool b1 b2 marked chosen r3 _ hmem hd c0 (by omega) rfl rfl rfl, rfl⟩
    · subst h1
      intro v rv
      cases rv
      exact q H'
end
end DL

set_option Elab.async false
set_option linter.all false
set_option maxRecDepth 100000
set_option maxHeartbeats 4000000
/-! What the top has written. -/
namespace DL
open PySem PySem.Spec PyProof.Rows L2 Evl
open LamX (TabB TabS)
theorem kl_of {K : PySem.W.Frag} {a : Addr} {r0 r1 r2 r3 : Value} (g0 : PySem.W.nsIn K a "below" = some (some r0)) (g1 : PySem.W.nsIn K a "same" = some (some r1)) (g2 : PySem.W.nsIn K a "take" = some (some r2)) (g3 : PySem.W.nsIn K a "value" = some (some r3)) :
    ∀ z k, keys_ONE.lookup z = some k → ∃ r, PySem.W.nsIn K a z = some r ∧ r.isSome = k := by
  intro z k h
  unfold keys_ONE at h
  rw [List.lookup_cons] at h
  split at h
  · rename_i e
    cases h
    rw [eq_of_beq e]
    exact ⟨_, g0, rfl⟩
  · rw [List.lookup_cons] at h
    split at h
    · rename_i e
      cases h
      rw [eq_of_beq e]
      exact ⟨_, g1, rfl⟩
    · rw [List.lookup_cons] at h
      split at h
      · rename_i e
        cases h
        rw [eq_of_beq e]
        exact ⟨_, g2, rfl⟩
      · rw [List.lookup_cons] at h
        split at h
        · rename_i e
          cases h
          rw [eq_of_beq e]
          exact ⟨_, g3, rfl⟩
        · cases h
theorem tabIn_of {K : PySem.W.Frag} {x : Str} {f c P1 : Addr} {oc cc : Value} {od cd : Option Addr} {fd : FuncData} {osl cs : Array (Option Value)} {vs : Array Value} (a : PySem.W.nsIn K mainGlobals x = some (some (.ref f))) (l : K.lookup f = some ⟨oc, od, .func fd, osl⟩) (hc : fd.code = .ref c)
    (lc : K.lookup c = some ⟨cc, cd, .fields vs, cs⟩) (h : vs[11]? = some (.ref P1)) : PySem.W.tabIn K x = some (c, P1) := by
  unfold PySem.W.tabIn
  simp only [a, l, hc, lc, h]
theorem fin_mk {l : PySem.W.OpenLaw} {w : World} {K : PySem.W.Frag} {h : Heap} {mg : Str → Option Value} {fa : Addr} (PL : ∀ CF, PlainLaw CF) (X : K.In h) (G : h.Ns mainGlobals mg) (hfa : mg "law" = some (.ref fa))
    {t_WIDE : Tok}
    {t_ROWS : Tok}
    {t_TABLES : Tok}
    {t_MANY : Tok}
    {t_VALUES : Tok}
    {t_NAMED : Tok}
    {t_SIZE : Tok}
    {t_LOTS : Tok}
    {t_LONGEST : Tok}
    {t_GREATEST : Tok}
    {t_L : Tok}
    {aD : Addr} {odD : Option Addr} {nD : Nat} {slD : Array (Option Value)} {u0 u1 u2 u3 u4 u5 u6 u7 u8 : Tok}
    {aO : Addr} {esO : Array DictEntry} {nO : Nat}
    {rO0 : Value}
    {rO1 : Value}
    {rO2 : Value}
    {rO3 : Value}
    {CF : Addr}
    {fL : Addr} {odL anL : Option Addr} {slL : Array (Option Value)} {ocL kVL dcL pmL ctL : Value} {cdL : Value}
    {fI aN aDk : Addr} {odI anI : Option Addr} {slI : Array (Option Value)} {ocI dcI pmI ctI cdI : Value}
    {fE aE aT : Addr} {odE anE odE2 odE3 : Option Addr} {slE slE2 slE3 : Array (Option Value)} {ocE kVE dcE pmE ctE cdE : Value} {nE nE2 : Nat}
    {f0 : Addr} {od0 an0 : Option Addr} {sl0 : Array (Option Value)} {oc0 kV0 dc0 pm0 ct0 : Value} {cd0 : Value}
    {f1 : Addr} {od1 an1 : Option Addr} {sl1 : Array (Option Value)} {oc1 kV1 dc1 pm1 ct1 : Value} {cd1 : Value}
    {f2 : Addr} {od2 an2 : Option Addr} {sl2 : Array (Option Value)} {oc2 kV2 dc2 pm2 ct2 : Value} {cd2 : Value}
    {f3 : Addr} {od3 an3 : Option Addr} {sl3 : Array (Option Value)} {oc3 kV3 dc3 pm3 ct3 : Value} {cd3 : Value}
    {f4 : Addr} {od4 an4 : Option Addr} {sl4 : Array (Option Value)} {oc4 kV4 dc4 pm4 ct4 : Value} {cd4 : Value}
    {f5 : Addr} {od5 an5 : Option Addr} {sl5 : Array (Option Value)} {oc5 kV5 dc5 pm5 ct5 : Value} {cd5 : Value}
    {f6 : Addr} {od6 an6 : Option Addr} {sl6 : Array (Option Value)} {oc6 kV6 dc6 pm6 ct6 : Value} {cd6 : Value}
    {f7 : Addr} {od7 an7 : Option Addr} {sl7 : Array (Option Value)} {oc7 kV7 dc7 pm7 ct7 : Value} {cd7 : Value}
    {f8 : Addr} {od8 an8 : Option Addr} {sl8 : Array (Option Value)} {oc8 kV8 dc8 pm8 ct8 : Value} {cd8 : Value}
    {f9 : Addr} {od9 an9 : Option Addr} {sl9 : Array (Option Value)} {oc9 kV9 dc9 pm9 ct9 : Value} {cd9 : Value}
    {f10 : Addr} {od10 an10 : Option Addr} {sl10 : Array (Option Value)} {oc10 kV10 dc10 pm10 ct10 : Value} {cd10 : Value}
    {f11 : Addr} {od11 an11 : Option Addr} {sl11 : Array (Option Value)} {oc11 kV11 dc11 pm11 ct11 : Value} {cd11 : Value}
    {f12 : Addr} {od12 an12 : Option Addr} {sl12 : Array (Option Value)} {oc12 kV12 dc12 pm12 ct12 : Value} {cd12 : Value}
    {f13 : Addr} {od13 an13 : Option Addr} {sl13 : Array (Option Value)} {oc13 kV13 dc13 pm13 ct13 : Value} {cd13 : Value}
    {f14 : Addr} {od14 an14 : Option Addr} {sl14 : Array (Option Value)} {oc14 kV14 dc14 pm14 ct14 : Value} {cd14 : Value}
    {f15 : Addr} {od15 an15 : Option Addr} {sl15 : Array (Option Value)} {oc15 kV15 dc15 pm15 ct15 : Value} {cd15 : Value}
    {f16 : Addr} {od16 an16 : Option Addr} {sl16 : Array (Option Value)} {oc16 kV16 dc16 pm16 ct16 : Value} {cd16 : Value}
    {f17 : Addr} {od17 an17 : Option Addr} {sl17 : Array (Option Value)} {oc17 kV17 dc17 pm17 ct17 : Value} {cd17 : Value}
    {f18 : Addr} {od18 an18 : Option Addr} {sl18 : Array (Option Value)} {oc18 kV18 dc18 pm18 ct18 : Value} {cd18 : Value}
    {f19 : Addr} {od19 an19 : Option Addr} {sl19 : Array (Option Value)} {oc19 kV19 dc19 pm19 ct19 : Value} {cd19 : Value}
    {f20 : Addr} {od20 an20 : Option Addr} {sl20 : Array (Option Value)} {oc20 kV20 dc20 pm20 ct20 : Value} {cd20 : Value}
    {f21 : Addr} {od21 an21 : Option Addr} {sl21 : Array (Option Value)} {oc21 kV21 dc21 pm21 ct21 : Value} {cd21 : Value}
    {f22 : Addr} {od22 an22 : Option Addr} {sl22 : Array (Option Value)} {oc22 kV22 dc22 pm22 ct22 : Value} {cd22 : Value}
    {f23 : Addr} {od23 an23 : Option Addr} {sl23 : Array (Option Value)} {oc23 kV23 dc23 pm23 ct23 : Value} {cd23 : Value}
    {f24 : Addr} {od24 an24 : Option Addr} {sl24 : Array (Option Value)} {oc24 kV24 dc24 pm24 ct24 : Value} {cd24 : Value}
    {f25 : Addr} {od25 an25 : Option Addr} {sl25 : Array (Option Value)} {oc25 kV25 dc25 pm25 ct25 : Value} {cd25 : Value}
    {f26 : Addr} {od26 an26 : Option Addr} {sl26 : Array (Option Value)} {oc26 kV26 dc26 pm26 ct26 : Value} {cd26 : Value}
    {f27 : Addr} {od27 an27 : Option Addr} {sl27 : Array (Option Value)} {oc27 kV27 dc27 pm27 ct27 : Value} {cd27 : Value}
    {f28 : Addr} {od28 an28 : Option Addr} {sl28 : Array (Option Value)} {oc28 kV28 dc28 pm28 ct28 : Value} {cd28 : Value}
    {f29 : Addr} {od29 an29 : Option Addr} {sl29 : Array (Option Value)} {oc29 kV29 dc29 pm29 ct29 : Value} {cd29 : Value}
    {f30 : Addr} {od30 an30 : Option Addr} {sl30 : Array (Option Value)} {oc30 kV30 dc30 pm30 ct30 : Value} {cd30 : Value}
    {f31 : Addr} {od31 an31 : Option Addr} {sl31 : Array (Option Value)} {oc31 kV31 dc31 pm31 ct31 : Value} {cd31 : Value}
    {f32 : Addr} {od32 an32 : Option Addr} {sl32 : Array (Option Value)} {oc32 kV32 dc32 pm32 ct32 : Value} {cd32 : Value}
    {f33 : Addr} {od33 an33 : Option Addr} {sl33 : Array (Option Value)} {oc33 kV33 dc33 pm33 ct33 : Value} {cd33 : Value}
    {f34 : Addr} {od34 an34 : Option Addr} {sl34 : Array (Option Value)} {oc34 kV34 dc34 pm34 ct34 : Value} {cd34 : Value}
    {f35 : Addr} {od35 an35 : Option Addr} {sl35 : Array (Option Value)} {oc35 kV35 dc35 pm35 ct35 : Value} {cd35 : Value}
    {f36 : Addr} {od36 an36 : Option Addr} {sl36 : Array (Option Value)} {oc36 kV36 dc36 pm36 ct36 : Value} {cd36 : Value}
    {f37 : Addr} {od37 an37 : Option Addr} {sl37 : Array (Option Value)} {oc37 kV37 dc37 pm37 ct37 : Value} {cd37 : Value}
    {f38 : Addr} {od38 an38 : Option Addr} {sl38 : Array (Option Value)} {oc38 kV38 dc38 pm38 ct38 : Value} {cd38 : Value}
    {f39 : Addr} {od39 an39 : Option Addr} {sl39 : Array (Option Value)} {oc39 kV39 dc39 pm39 ct39 : Value} {cd39 : Value}
    {f40 : Addr} {od40 an40 : Option Addr} {sl40 : Array (Option Value)} {oc40 kV40 dc40 pm40 ct40 : Value} {cd40 : Value}
    {f41 : Addr} {od41 an41 : Option Addr} {sl41 : Array (Option Value)} {oc41 kV41 dc41 pm41 ct41 : Value} {cd41 : Value}
    {f42 : Addr} {od42 an42 : Option Addr} {sl42 : Array (Option Value)} {oc42 kV42 dc42 pm42 ct42 : Value} {cd42 : Value}
    {f43 : Addr} {od43 an43 : Option Addr} {sl43 : Array (Option Value)} {oc43 kV43 dc43 pm43 ct43 : Value} {cd43 : Value}
    {f44 : Addr} {od44 an44 : Option Addr} {sl44 : Array (Option Value)} {oc44 kV44 dc44 pm44 ct44 : Value} {cd44 : Value}
    {f45 : Addr} {od45 an45 : Option Addr} {sl45 : Array (Option Value)} {oc45 kV45 dc45 pm45 ct45 : Value} {cd45 : Value}
    {f46 : Addr} {od46 an46 : Option Addr} {sl46 : Array (Option Value)} {oc46 kV46 dc46 pm46 ct46 : Value} {cd46 : Value}
    {f47 : Addr} {od47 an47 : Option Addr} {sl47 : Array (Option Value)} {oc47 kV47 dc47 pm47 ct47 : Value} {cd47 : Value}
    {f48 : Addr} {od48 an48 : Option Addr} {sl48 : Array (Option Value)} {oc48 kV48 dc48 pm48 ct48 : Value} {cd48 : Value}
    {f49 : Addr} {od49 an49 : Option Addr} {sl49 : Array (Option Value)} {oc49 kV49 dc49 pm49 ct49 : Value} {cd49 : Value}
    {f50 : Addr} {od50 an50 : Option Addr} {sl50 : Array (Option Value)} {oc50 kV50 dc50 pm50 ct50 : Value} {cd50 : Value}
    {f51 : Addr} {od51 an51 : Option Addr} {sl51 : Array (Option Value)} {oc51 kV51 dc51 pm51 ct51 : Value} {cd51 : Value}
    {f52 : Addr} {od52 an52 : Option Addr} {sl52 : Array (Option Value)} {oc52 kV52 dc52 pm52 ct52 : Value} {cd52 : Value}
    {f53 : Addr} {od53 an53 : Option Addr} {sl53 : Array (Option Value)} {oc53 kV53 dc53 pm53 ct53 : Value} {cd53 : Value}
    {f54 : Addr} {od54 an54 : Option Addr} {sl54 : Array (Option Value)} {oc54 kV54 dc54 pm54 ct54 : Value} {cd54 : Value}
    {f55 : Addr} {od55 an55 : Option Addr} {sl55 : Array (Option Value)} {oc55 kV55 dc55 pm55 ct55 : Value} {cd55 : Value}
    {f56 : Addr} {od56 an56 : Option Addr} {sl56 : Array (Option Value)} {oc56 kV56 dc56 pm56 ct56 : Value} {cd56 : Value}
    {f57 : Addr} {od57 an57 : Option Addr} {sl57 : Array (Option Value)} {oc57 kV57 dc57 pm57 ct57 : Value} {cd57 : Value}
    {f58 : Addr} {od58 an58 : Option Addr} {sl58 : Array (Option Value)} {oc58 kV58 dc58 pm58 ct58 : Value} {cd58 : Value}
    {fS : Addr} {odS anS : Option Addr} {slS : Array (Option Value)} {ocS kVS dcS pmS ctS : Value}
    {cS P1 : Addr} {ccS : Value} {cdS2 : Option Addr} {vsS : Array Value} {csS : Array (Option Value)}
    (z_all : PySem.W.nsIn K mainGlobals "all" = some none)
    (z_bool : PySem.W.nsIn K mainGlobals "bool" = some none)
    (z_int : PySem.W.nsIn K mainGlobals "int" = some none)
    (z_isinstance : PySem.W.nsIn K mainGlobals "isinstance" = some none)
    (z_len : PySem.W.nsIn K mainGlobals "len" = some none)
    (z_list : PySem.W.nsIn K mainGlobals "list" = some none)
    (z_range : PySem.W.nsIn K mainGlobals "range" = some none)
    (z_set : PySem.W.nsIn K mainGlobals "set" = some none)
    (z_sorted : PySem.W.nsIn K mainGlobals "sorted" = some none)
    (z_str : PySem.W.nsIn K mainGlobals "str" = some none)
    (z_sum : PySem.W.nsIn K mainGlobals "sum" = some none)
    (z_tuple : PySem.W.nsIn K mainGlobals "tuple" = some none)
    (z_zip : PySem.W.nsIn K mainGlobals "zip" = some none)
    (i_WIDE : PySem.W.nsIn K mainGlobals "WIDE" = some (some (.int 3 t_WIDE)))
    (i_ROWS : PySem.W.nsIn K mainGlobals "ROWS" = some (some (.int 6 t_ROWS)))
    (i_TABLES : PySem.W.nsIn K mainGlobals "TABLES" = some (some (.int 3 t_TABLES)))
    (i_MANY : PySem.W.nsIn K mainGlobals "MANY" = some (some (.int 3 t_MANY)))
    (i_VALUES : PySem.W.nsIn K mainGlobals "VALUES" = some (some (.int 18 t_VALUES)))
    (i_NAMED : PySem.W.nsIn K mainGlobals "NAMED" = some (some (.int 3 t_NAMED)))
    (i_SIZE : PySem.W.nsIn K mainGlobals "SIZE" = some (some (.int 40 t_SIZE)))
    (i_LOTS : PySem.W.nsIn K mainGlobals "LOTS" = some (some (.int 300 t_LOTS)))
    (i_LONGEST : PySem.W.nsIn K mainGlobals "LONGEST" = some (some (.int 8 t_LONGEST)))
    (i_GREATEST : PySem.W.nsIn K mainGlobals "GREATEST" = some (some (.int 1000000000 t_GREATEST)))
    (i_L : PySem.W.nsIn K mainGlobals "LETTERS" = some (some (.str "abcdefghijklmnopqrstuvwxyz" t_L)))
    (nD_ : PySem.W.nsIn K mainGlobals "DEEDS" = some (some (.ref aD)))
    (lD_ : K.lookup aD = some ⟨.type "tuple", odD, .seq #[.str "below" u0, .str "join" u1, .str "less" u2, .str "same" u3, .str "take" u4, .str "union" u5, .str "value" u6, .str "with" u7, .str "without" u8] nD, slD⟩)
    (nO_ : PySem.W.nsIn K mainGlobals "ONE" = some (some (.ref aO)))
    (lO_ : K.lookup aO = some ⟨.type "dict", none, .dict esO nO, #[]⟩)
    (kO_ : PySem.W.KeysLit w.params esO.toList)
    (sO_ : (aO == sysModules) = false)
    (gO0 : PySem.W.nsIn K aO "below" = some (some rO0))
    (gO1 : PySem.W.nsIn K aO "same" = some (some rO1))
    (gO2 : PySem.W.nsIn K aO "take" = some (some rO2))
    (gO3 : PySem.W.nsIn K aO "value" = some (some rO3))
    (nF_ : PySem.W.nsIn K mainGlobals "Field" = some (some (.ref CF)))
    (pg : PySem.W.plainGet K CF Str.empty = true)
    (hdF : PySem.W.hasDictIn K CF = true)
    (poF : PySem.W.plainOver K CF = true)
    (saF : PySem.W.findIn K (.ref CF) "__setattr__" = some (some (.builtin "object.__setattr__")))
    (na_books : PySem.W.findIn K (.ref CF) "books" = some none)
    (na_named : PySem.W.findIn K (.ref CF) "named" = some none)
    (na_deeds : PySem.W.findIn K (.ref CF) "deeds" = some none)
    (aL : PySem.W.findIn K (.ref CF) "__len__" = some (some (.ref fL)))
    (isL : PySem.W.isFn K (.ref fL) = true)
    (lL : K.lookup fL = some ⟨ocL, odL, .func (PySem.W.fnOf "__len__" "Field.__len__" (defArgs s___len__) (defBody s___len__) (defScope s___len__) .none kVL dcL pmL anL cdL ctL), slL⟩)
    (cL : PySem.W.codeIn K cdL "Field.__len__" = true)
    (kL : PySem.W.keepIn K (.ref fL) = true)
    (aI : PySem.W.findIn K (.ref CF) "__init__" = some (some (.ref fI)))
    (isI : PySem.W.isFn K (.ref fI) = true)
    (lI : K.lookup fI = some ⟨ocI, odI, .func (PySem.W.fnOf "__init__" "Field.__init__" (defArgs s___init__) (defBody s___init__) (defScope s___init__) .none (.ref aDk) dcI pmI anI cdI ctI), slI⟩)
    (cI : PySem.W.codeIn K cdI "Field.__init__" = true)
    (kI : PySem.W.keepIn K (.ref fI) = true)
    (dN : PySem.W.nsIn K aDk "named" = some (some (.ref aN)))
    (dD : PySem.W.nsIn K aDk "deeds" = some (some (.ref aD)))
    (mkF : PySem.W.makesIn K CF = true)
    (kF : PySem.W.keepIn K (.ref CF) = true)
    (aE_ : PySem.W.nsIn K mainGlobals "done_on" = some (some (.ref fE)))
    (lE : K.lookup fE = some ⟨ocE, odE, .func (PySem.W.fnOf "done_on" "done_on" (defArgs s_done_on) (defBody s_done_on) (defScope s_done_on) (.ref aT) kVE dcE pmE anE cdE ctE), slE⟩)
    (cE : PySem.W.codeIn K cdE "done_on" = true)
    (kE : PySem.W.keepIn K (.ref fE) = true)
    (lE2 : K.lookup aT = some ⟨.type "tuple", odE2, .seq #[.ref aE] nE, slE2⟩)
    (lE3 : K.lookup aE = some ⟨.type "tuple", odE3, .seq #[] nE2, slE3⟩)
    (a0 : PySem.W.nsIn K mainGlobals "is_whole" = some (some (.ref f0)))
    (l0 : K.lookup f0 = some ⟨oc0, od0, .func (PySem.W.fnOf "is_whole" "is_whole" (defArgs s_is_whole) (defBody s_is_whole) (defScope s_is_whole) .none kV0 dc0 pm0 an0 cd0 ct0), sl0⟩)
    (c0 : PySem.W.codeIn K cd0 "is_whole" = true)
    (k0 : PySem.W.keepIn K (.ref f0) = true)
    (a1 : PySem.W.nsIn K mainGlobals "is_word" = some (some (.ref f1)))
    (l1 : K.lookup f1 = some ⟨oc1, od1, .func (PySem.W.fnOf "is_word" "is_word" (defArgs s_is_word) (defBody s_is_word) (defScope s_is_word) .none kV1 dc1 pm1 an1 cd1 ct1), sl1⟩)
    (c1 : PySem.W.codeIn K cd1 "is_word" = true)
    (k1 : PySem.W.keepIn K (.ref f1) = true)
    (a2 : PySem.W.nsIn K mainGlobals "is_value" = some (some (.ref f2)))
    (l2 : K.lookup f2 = some ⟨oc2, od2, .func (PySem.W.fnOf "is_value" "is_value" (defArgs s_is_value) (defBody s_is_value) (defScope s_is_value) .none kV2 dc2 pm2 an2 cd2 ct2), sl2⟩)
    (c2 : PySem.W.codeIn K cd2 "is_value" = true)
    (k2 : PySem.W.keepIn K (.ref f2) = true)
    (a3 : PySem.W.nsIn K mainGlobals "is_row" = some (some (.ref f3)))
    (l3 : K.lookup f3 = some ⟨oc3, od3, .func (PySem.W.fnOf "is_row" "is_row" (defArgs s_is_row) (defBody s_is_row) (defScope s_is_row) .none kV3 dc3 pm3 an3 cd3 ct3), sl3⟩)
    (c3 : PySem.W.codeIn K cd3 "is_row" = true)
    (k3 : PySem.W.keepIn K (.ref f3) = true)
    (a4 : PySem.W.nsIn K mainGlobals "value_key" = some (some (.ref f4)))
    (l4 : K.lookup f4 = some ⟨oc4, od4, .func (PySem.W.fnOf "value_key" "value_key" (defArgs s_value_key) (defBody s_value_key) (defScope s_value_key) .none kV4 dc4 pm4 an4 cd4 ct4), sl4⟩)
    (c4 : PySem.W.codeIn K cd4 "value_key" = true)
    (k4 : PySem.W.keepIn K (.ref f4) = true)
    (a5 : PySem.W.nsIn K mainGlobals "row_key" = some (some (.ref f5)))
    (l5 : K.lookup f5 = some ⟨oc5, od5, .func (PySem.W.fnOf "row_key" "row_key" (defArgs s_row_key) (defBody s_row_key) (defScope s_row_key) .none kV5 dc5 pm5 an5 cd5 ct5), sl5⟩)
    (c5 : PySem.W.codeIn K cd5 "row_key" = true)
    (k5 : PySem.W.keepIn K (.ref f5) = true)
    (a6 : PySem.W.nsIn K mainGlobals "value_less" = some (some (.ref f6)))
    (l6 : K.lookup f6 = some ⟨oc6, od6, .func (PySem.W.fnOf "value_less" "value_less" (defArgs s_value_less) (defBody s_value_less) (defScope s_value_less) .none kV6 dc6 pm6 an6 cd6 ct6), sl6⟩)
    (c6 : PySem.W.codeIn K cd6 "value_less" = true)
    (k6 : PySem.W.keepIn K (.ref f6) = true)
    (a7 : PySem.W.nsIn K mainGlobals "row_less" = some (some (.ref f7)))
    (l7 : K.lookup f7 = some ⟨oc7, od7, .func (PySem.W.fnOf "row_less" "row_less" (defArgs s_row_less) (defBody s_row_less) (defScope s_row_less) .none kV7 dc7 pm7 an7 cd7 ct7), sl7⟩)
    (c7 : PySem.W.codeIn K cd7 "row_less" = true)
    (k7 : PySem.W.keepIn K (.ref f7) = true)
    (a8 : PySem.W.nsIn K mainGlobals "are_risen" = some (some (.ref f8)))
    (l8 : K.lookup f8 = some ⟨oc8, od8, .func (PySem.W.fnOf "are_risen" "are_risen" (defArgs s_are_risen) (defBody s_are_risen) (defScope s_are_risen) .none kV8 dc8 pm8 an8 cd8 ct8), sl8⟩)
    (c8 : PySem.W.codeIn K cd8 "are_risen" = true)
    (k8 : PySem.W.keepIn K (.ref f8) = true)
    (a9 : PySem.W.nsIn K mainGlobals "are_rows" = some (some (.ref f9)))
    (l9 : K.lookup f9 = some ⟨oc9, od9, .func (PySem.W.fnOf "are_rows" "are_rows" (defArgs s_are_rows) (defBody s_are_rows) (defScope s_are_rows) .none kV9 dc9 pm9 an9 cd9 ct9), sl9⟩)
    (c9 : PySem.W.codeIn K cd9 "are_rows" = true)
    (k9 : PySem.W.keepIn K (.ref f9) = true)
    (a10 : PySem.W.nsIn K mainGlobals "is_table" = some (some (.ref f10)))
    (l10 : K.lookup f10 = some ⟨oc10, od10, .func (PySem.W.fnOf "is_table" "is_table" (defArgs s_is_table) (defBody s_is_table) (defScope s_is_table) .none kV10 dc10 pm10 an10 cd10 ct10), sl10⟩)
    (c10 : PySem.W.codeIn K cd10 "is_table" = true)
    (k10 : PySem.W.keepIn K (.ref f10) = true)
    (a11 : PySem.W.nsIn K mainGlobals "values_in" = some (some (.ref f11)))
    (l11 : K.lookup f11 = some ⟨oc11, od11, .func (PySem.W.fnOf "values_in" "values_in" (defArgs s_values_in) (defBody s_values_in) (defScope s_values_in) .none kV11 dc11 pm11 an11 cd11 ct11), sl11⟩)
    (c11 : PySem.W.codeIn K cd11 "values_in" = true)
    (k11 : PySem.W.keepIn K (.ref f11) = true)
    (a12 : PySem.W.nsIn K mainGlobals "is_book" = some (some (.ref f12)))
    (l12 : K.lookup f12 = some ⟨oc12, od12, .func (PySem.W.fnOf "is_book" "is_book" (defArgs s_is_book) (defBody s_is_book) (defScope s_is_book) .none kV12 dc12 pm12 an12 cd12 ct12), sl12⟩)
    (c12 : PySem.W.codeIn K cd12 "is_book" = true)
    (k12 : PySem.W.keepIn K (.ref f12) = true)
    (a13 : PySem.W.nsIn K mainGlobals "heads" = some (some (.ref f13)))
    (l13 : K.lookup f13 = some ⟨oc13, od13, .func (PySem.W.fnOf "heads" "heads" (defArgs s_heads) (defBody s_heads) (defScope s_heads) .none kV13 dc13 pm13 an13 cd13 ct13), sl13⟩)
    (c13 : PySem.W.codeIn K cd13 "heads" = true)
    (k13 : PySem.W.keepIn K (.ref f13) = true)
    (a14 : PySem.W.nsIn K mainGlobals "are_books" = some (some (.ref f14)))
    (l14 : K.lookup f14 = some ⟨oc14, od14, .func (PySem.W.fnOf "are_books" "are_books" (defArgs s_are_books) (defBody s_are_books) (defScope s_are_books) .none kV14 dc14 pm14 an14 cd14 ct14), sl14⟩)
    (c14 : PySem.W.codeIn K cd14 "are_books" = true)
    (k14 : PySem.W.keepIn K (.ref f14) = true)
    (a15 : PySem.W.nsIn K mainGlobals "check_number" = some (some (.ref f15)))
    (l15 : K.lookup f15 = some ⟨oc15, od15, .func (PySem.W.fnOf "check_number" "check_number" (defArgs s_check_number) (defBody s_check_number) (defScope s_check_number) .none kV15 dc15 pm15 an15 cd15 ct15), sl15⟩)
    (c15 : PySem.W.codeIn K cd15 "check_number" = true)
    (k15 : PySem.W.keepIn K (.ref f15) = true)
    (a16 : PySem.W.nsIn K mainGlobals "table_at" = some (some (.ref f16)))
    (l16 : K.lookup f16 = some ⟨oc16, od16, .func (PySem.W.fnOf "table_at" "table_at" (defArgs s_table_at) (defBody s_table_at) (defScope s_table_at) .none kV16 dc16 pm16 an16 cd16 ct16), sl16⟩)
    (c16 : PySem.W.codeIn K cd16 "table_at" = true)
    (k16 : PySem.W.keepIn K (.ref f16) = true)
    (a17 : PySem.W.nsIn K mainGlobals "named_of" = some (some (.ref f17)))
    (l17 : K.lookup f17 = some ⟨oc17, od17, .func (PySem.W.fnOf "named_of" "named_of" (defArgs s_named_of) (defBody s_named_of) (defScope s_named_of) .none kV17 dc17 pm17 an17 cd17 ct17), sl17⟩)
    (c17 : PySem.W.codeIn K cd17 "named_of" = true)
    (k17 : PySem.W.keepIn K (.ref f17) = true)
    (a18 : PySem.W.nsIn K mainGlobals "deeds_of" = some (some (.ref f18)))
    (l18 : K.lookup f18 = some ⟨oc18, od18, .func (PySem.W.fnOf "deeds_of" "deeds_of" (defArgs s_deeds_of) (defBody s_deeds_of) (defScope s_deeds_of) .none kV18 dc18 pm18 an18 cd18 ct18), sl18⟩)
    (c18 : PySem.W.codeIn K cd18 "deeds_of" = true)
    (k18 : PySem.W.keepIn K (.ref f18) = true)
    (a19 : PySem.W.nsIn K mainGlobals "names_of" = some (some (.ref f19)))
    (l19 : K.lookup f19 = some ⟨oc19, od19, .func (PySem.W.fnOf "names_of" "names_of" (defArgs s_names_of) (defBody s_names_of) (defScope s_names_of) .none kV19 dc19 pm19 an19 cd19 ct19), sl19⟩)
    (c19 : PySem.W.codeIn K cd19 "names_of" = true)
    (k19 : PySem.W.keepIn K (.ref f19) = true)
    (a20 : PySem.W.nsIn K mainGlobals "table_columns" = some (some (.ref f20)))
    (l20 : K.lookup f20 = some ⟨oc20, od20, .func (PySem.W.fnOf "table_columns" "table_columns" (defArgs s_table_columns) (defBody s_table_columns) (defScope s_table_columns) .none kV20 dc20 pm20 an20 cd20 ct20), sl20⟩)
    (c20 : PySem.W.codeIn K cd20 "table_columns" = true)
    (k20 : PySem.W.keepIn K (.ref f20) = true)
    (a21 : PySem.W.nsIn K mainGlobals "rows_of" = some (some (.ref f21)))
    (l21 : K.lookup f21 = some ⟨oc21, od21, .func (PySem.W.fnOf "rows_of" "rows_of" (defArgs s_rows_of) (defBody s_rows_of) (defScope s_rows_of) .none kV21 dc21 pm21 an21 cd21 ct21), sl21⟩)
    (c21 : PySem.W.codeIn K cd21 "rows_of" = true)
    (k21 : PySem.W.keepIn K (.ref f21) = true)
    (a22 : PySem.W.nsIn K mainGlobals "picked_rows" = some (some (.ref f22)))
    (l22 : K.lookup f22 = some ⟨oc22, od22, .func (PySem.W.fnOf "picked_rows" "picked_rows" (defArgs s_picked_rows) (defBody s_picked_rows) (defScope s_picked_rows) .none kV22 dc22 pm22 an22 cd22 ct22), sl22⟩)
    (c22 : PySem.W.codeIn K cd22 "picked_rows" = true)
    (k22 : PySem.W.keepIn K (.ref f22) = true)
    (a23 : PySem.W.nsIn K mainGlobals "done_on_one" = some (some (.ref f23)))
    (l23 : K.lookup f23 = some ⟨oc23, od23, .func (PySem.W.fnOf "done_on_one" "done_on_one" (defArgs s_done_on_one) (defBody s_done_on_one) (defScope s_done_on_one) .none kV23 dc23 pm23 an23 cd23 ct23), sl23⟩)
    (c23 : PySem.W.codeIn K cd23 "done_on_one" = true)
    (k23 : PySem.W.keepIn K (.ref f23) = true)
    (a24 : PySem.W.nsIn K mainGlobals "is_column" = some (some (.ref f24)))
    (l24 : K.lookup f24 = some ⟨oc24, od24, .func (PySem.W.fnOf "is_column" "is_column" (defArgs s_is_column) (defBody s_is_column) (defScope s_is_column) .none kV24 dc24 pm24 an24 cd24 ct24), sl24⟩)
    (c24 : PySem.W.codeIn K cd24 "is_column" = true)
    (k24 : PySem.W.keepIn K (.ref f24) = true)
    (a25 : PySem.W.nsIn K mainGlobals "are_picked" = some (some (.ref f25)))
    (l25 : K.lookup f25 = some ⟨oc25, od25, .func (PySem.W.fnOf "are_picked" "are_picked" (defArgs s_are_picked) (defBody s_are_picked) (defScope s_are_picked) .none kV25 dc25 pm25 an25 cd25 ct25), sl25⟩)
    (c25 : PySem.W.codeIn K cd25 "are_picked" = true)
    (k25 : PySem.W.keepIn K (.ref f25) = true)
    (a26 : PySem.W.nsIn K mainGlobals "is_named" = some (some (.ref f26)))
    (l26 : K.lookup f26 = some ⟨oc26, od26, .func (PySem.W.fnOf "is_named" "is_named" (defArgs s_is_named) (defBody s_is_named) (defScope s_is_named) .none kV26 dc26 pm26 an26 cd26 ct26), sl26⟩)
    (c26 : PySem.W.codeIn K cd26 "is_named" = true)
    (k26 : PySem.W.keepIn K (.ref f26) = true)
    (a27 : PySem.W.nsIn K mainGlobals "columns_by_one" = some (some (.ref f27)))
    (l27 : K.lookup f27 = some ⟨oc27, od27, .func (PySem.W.fnOf "columns_by_one" "columns_by_one" (defArgs s_columns_by_one) (defBody s_columns_by_one) (defScope s_columns_by_one) .none kV27 dc27 pm27 an27 cd27 ct27), sl27⟩)
    (c27 : PySem.W.codeIn K cd27 "columns_by_one" = true)
    (k27 : PySem.W.keepIn K (.ref f27) = true)
    (a28 : PySem.W.nsIn K mainGlobals "looked" = some (some (.ref f28)))
    (l28 : K.lookup f28 = some ⟨oc28, od28, .func (PySem.W.fnOf "looked" "looked" (defArgs s_looked) (defBody s_looked) (defScope s_looked) .none kV28 dc28 pm28 an28 cd28 ct28), sl28⟩)
    (c28 : PySem.W.codeIn K cd28 "looked" = true)
    (k28 : PySem.W.keepIn K (.ref f28) = true)
    (a29 : PySem.W.nsIn K mainGlobals "is_question" = some (some (.ref f29)))
    (l29 : K.lookup f29 = some ⟨oc29, od29, .func (PySem.W.fnOf "is_question" "is_question" (defArgs s_is_question) (defBody s_is_question) (defScope s_is_question) .none kV29 dc29 pm29 an29 cd29 ct29), sl29⟩)
    (c29 : PySem.W.codeIn K cd29 "is_question" = true)
    (k29 : PySem.W.keepIn K (.ref f29) = true)
    (a30 : PySem.W.nsIn K mainGlobals "check_question" = some (some (.ref f30)))
    (l30 : K.lookup f30 = some ⟨oc30, od30, .func (PySem.W.fnOf "check_question" "check_question" (defArgs s_check_question) (defBody s_check_question) (defScope s_check_question) .none kV30 dc30 pm30 an30 cd30 ct30), sl30⟩)
    (c30 : PySem.W.codeIn K cd30 "check_question" = true)
    (k30 : PySem.W.keepIn K (.ref f30) = true)
    (a31 : PySem.W.nsIn K mainGlobals "columns_of" = some (some (.ref f31)))
    (l31 : K.lookup f31 = some ⟨oc31, od31, .func (PySem.W.fnOf "columns_of" "columns_of" (defArgs s_columns_of) (defBody s_columns_of) (defScope s_columns_of) .none kV31 dc31 pm31 an31 cd31 ct31), sl31⟩)
    (c31 : PySem.W.codeIn K cd31 "columns_of" = true)
    (k31 : PySem.W.keepIn K (.ref f31) = true)
    (a32 : PySem.W.nsIn K mainGlobals "parts_of" = some (some (.ref f32)))
    (l32 : K.lookup f32 = some ⟨oc32, od32, .func (PySem.W.fnOf "parts_of" "parts_of" (defArgs s_parts_of) (defBody s_parts_of) (defScope s_parts_of) .none kV32 dc32 pm32 an32 cd32 ct32), sl32⟩)
    (c32 : PySem.W.codeIn K cd32 "parts_of" = true)
    (k32 : PySem.W.keepIn K (.ref f32) = true)
    (a33 : PySem.W.nsIn K mainGlobals "size_of" = some (some (.ref f33)))
    (l33 : K.lookup f33 = some ⟨oc33, od33, .func (PySem.W.fnOf "size_of" "size_of" (defArgs s_size_of) (defBody s_size_of) (defScope s_size_of) .none kV33 dc33 pm33 an33 cd33 ct33), sl33⟩)
    (c33 : PySem.W.codeIn K cd33 "size_of" = true)
    (k33 : PySem.W.keepIn K (.ref f33) = true)
    (a34 : PySem.W.nsIn K mainGlobals "given_text" = some (some (.ref f34)))
    (l34 : K.lookup f34 = some ⟨oc34, od34, .func (PySem.W.fnOf "given_text" "given_text" (defArgs s_given_text) (defBody s_given_text) (defScope s_given_text) .none kV34 dc34 pm34 an34 cd34 ct34), sl34⟩)
    (c34 : PySem.W.codeIn K cd34 "given_text" = true)
    (k34 : PySem.W.keepIn K (.ref f34) = true)
    (a35 : PySem.W.nsIn K mainGlobals "text_of" = some (some (.ref f35)))
    (l35 : K.lookup f35 = some ⟨oc35, od35, .func (PySem.W.fnOf "text_of" "text_of" (defArgs s_text_of) (defBody s_text_of) (defScope s_text_of) .none kV35 dc35 pm35 an35 cd35 ct35), sl35⟩)
    (c35 : PySem.W.codeIn K cd35 "text_of" = true)
    (k35 : PySem.W.keepIn K (.ref f35) = true)
    (a36 : PySem.W.nsIn K mainGlobals "rank" = some (some (.ref f36)))
    (l36 : K.lookup f36 = some ⟨oc36, od36, .func (PySem.W.fnOf "rank" "rank" (defArgs s_rank) (defBody s_rank) (defScope s_rank) .none kV36 dc36 pm36 an36 cd36 ct36), sl36⟩)
    (c36 : PySem.W.codeIn K cd36 "rank" = true)
    (k36 : PySem.W.keepIn K (.ref f36) = true)
    (a37 : PySem.W.nsIn K mainGlobals "is_ahead" = some (some (.ref f37)))
    (l37 : K.lookup f37 = some ⟨oc37, od37, .func (PySem.W.fnOf "is_ahead" "is_ahead" (defArgs s_is_ahead) (defBody s_is_ahead) (defScope s_is_ahead) .none kV37 dc37 pm37 an37 cd37 ct37), sl37⟩)
    (c37 : PySem.W.codeIn K cd37 "is_ahead" = true)
    (k37 : PySem.W.keepIn K (.ref f37) = true)
    (a38 : PySem.W.nsIn K mainGlobals "rows_told" = some (some (.ref f38)))
    (l38 : K.lookup f38 = some ⟨oc38, od38, .func (PySem.W.fnOf "rows_told" "rows_told" (defArgs s_rows_told) (defBody s_rows_told) (defScope s_rows_told) .none kV38 dc38 pm38 an38 cd38 ct38), sl38⟩)
    (c38 : PySem.W.codeIn K cd38 "rows_told" = true)
    (k38 : PySem.W.keepIn K (.ref f38) = true)
    (a39 : PySem.W.nsIn K mainGlobals "answer" = some (some (.ref f39)))
    (l39 : K.lookup f39 = some ⟨oc39, od39, .func (PySem.W.fnOf "answer" "answer" (defArgs s_answer) (defBody s_answer) (defScope s_answer) .none kV39 dc39 pm39 an39 cd39 ct39), sl39⟩)
    (c39 : PySem.W.codeIn K cd39 "answer" = true)
    (k39 : PySem.W.keepIn K (.ref f39) = true)
    (a40 : PySem.W.nsIn K mainGlobals "moves_by_word" = some (some (.ref f40)))
    (l40 : K.lookup f40 = some ⟨oc40, od40, .func (PySem.W.fnOf "moves_by_word" "moves_by_word" (defArgs s_moves_by_word) (defBody s_moves_by_word) (defScope s_moves_by_word) .none kV40 dc40 pm40 an40 cd40 ct40), sl40⟩)
    (c40 : PySem.W.codeIn K cd40 "moves_by_word" = true)
    (k40 : PySem.W.keepIn K (.ref f40) = true)
    (a41 : PySem.W.nsIn K mainGlobals "moves_on_one" = some (some (.ref f41)))
    (l41 : K.lookup f41 = some ⟨oc41, od41, .func (PySem.W.fnOf "moves_on_one" "moves_on_one" (defArgs s_moves_on_one) (defBody s_moves_on_one) (defScope s_moves_on_one) .none kV41 dc41 pm41 an41 cd41 ct41), sl41⟩)
    (c41 : PySem.W.codeIn K cd41 "moves_on_one" = true)
    (k41 : PySem.W.keepIn K (.ref f41) = true)
    (a42 : PySem.W.nsIn K mainGlobals "lot_of" = some (some (.ref f42)))
    (l42 : K.lookup f42 = some ⟨oc42, od42, .func (PySem.W.fnOf "lot_of" "lot_of" (defArgs s_lot_of) (defBody s_lot_of) (defScope s_lot_of) .none kV42 dc42 pm42 an42 cd42 ct42), sl42⟩)
    (c42 : PySem.W.codeIn K cd42 "lot_of" = true)
    (k42 : PySem.W.keepIn K (.ref f42) = true)
    (a43 : PySem.W.nsIn K mainGlobals "key_of" = some (some (.ref f43)))
    (l43 : K.lookup f43 = some ⟨oc43, od43, .func (PySem.W.fnOf "key_of" "key_of" (defArgs s_key_of) (defBody s_key_of) (defScope s_key_of) .none kV43 dc43 pm43 an43 cd43 ct43), sl43⟩)
    (c43 : PySem.W.codeIn K cd43 "key_of" = true)
    (k43 : PySem.W.keepIn K (.ref f43) = true)
    (a44 : PySem.W.nsIn K mainGlobals "made_lots" = some (some (.ref f44)))
    (l44 : K.lookup f44 = some ⟨oc44, od44, .func (PySem.W.fnOf "made_lots" "made_lots" (defArgs s_made_lots) (defBody s_made_lots) (defScope s_made_lots) .none kV44 dc44 pm44 an44 cd44 ct44), sl44⟩)
    (c44 : PySem.W.codeIn K cd44 "made_lots" = true)
    (k44 : PySem.W.keepIn K (.ref f44) = true)
    (a45 : PySem.W.nsIn K mainGlobals "lot_rank" = some (some (.ref f45)))
    (l45 : K.lookup f45 = some ⟨oc45, od45, .func (PySem.W.fnOf "lot_rank" "lot_rank" (defArgs s_lot_rank) (defBody s_lot_rank) (defScope s_lot_rank) .none kV45 dc45 pm45 an45 cd45 ct45), sl45⟩)
    (c45 : PySem.W.codeIn K cd45 "lot_rank" = true)
    (k45 : PySem.W.keepIn K (.ref f45) = true)
    (a46 : PySem.W.nsIn K mainGlobals "reach" = some (some (.ref f46)))
    (l46 : K.lookup f46 = some ⟨oc46, od46, .func (PySem.W.fnOf "reach" "reach" (defArgs s_reach) (defBody s_reach) (defScope s_reach) .none kV46 dc46 pm46 an46 cd46 ct46), sl46⟩)
    (c46 : PySem.W.codeIn K cd46 "reach" = true)
    (k46 : PySem.W.keepIn K (.ref f46) = true)
    (a47 : PySem.W.nsIn K mainGlobals "risen" = some (some (.ref f47)))
    (l47 : K.lookup f47 = some ⟨oc47, od47, .func (PySem.W.fnOf "risen" "risen" (defArgs s_risen) (defBody s_risen) (defScope s_risen) .none kV47 dc47 pm47 an47 cd47 ct47), sl47⟩)
    (c47 : PySem.W.codeIn K cd47 "risen" = true)
    (k47 : PySem.W.keepIn K (.ref f47) = true)
    (a48 : PySem.W.nsIn K mainGlobals "values_risen" = some (some (.ref f48)))
    (l48 : K.lookup f48 = some ⟨oc48, od48, .func (PySem.W.fnOf "values_risen" "values_risen" (defArgs s_values_risen) (defBody s_values_risen) (defScope s_values_risen) .none kV48 dc48 pm48 an48 cd48 ct48), sl48⟩)
    (c48 : PySem.W.codeIn K cd48 "values_risen" = true)
    (k48 : PySem.W.keepIn K (.ref f48) = true)
    (a49 : PySem.W.nsIn K mainGlobals "picks" = some (some (.ref f49)))
    (l49 : K.lookup f49 = some ⟨oc49, od49, .func (PySem.W.fnOf "picks" "picks" (defArgs s_picks) (defBody s_picks) (defScope s_picks) .none kV49 dc49 pm49 an49 cd49 ct49), sl49⟩)
    (c49 : PySem.W.codeIn K cd49 "picks" = true)
    (k49 : PySem.W.keepIn K (.ref f49) = true)
    (a50 : PySem.W.nsIn K mainGlobals "lots_by_one" = some (some (.ref f50)))
    (l50 : K.lookup f50 = some ⟨oc50, od50, .func (PySem.W.fnOf "lots_by_one" "lots_by_one" (defArgs s_lots_by_one) (defBody s_lots_by_one) (defScope s_lots_by_one) .none kV50 dc50 pm50 an50 cd50 ct50), sl50⟩)
    (c50 : PySem.W.codeIn K cd50 "lots_by_one" = true)
    (k50 : PySem.W.keepIn K (.ref f50) = true)
    (a51 : PySem.W.nsIn K mainGlobals "further" = some (some (.ref f51)))
    (l51 : K.lookup f51 = some ⟨oc51, od51, .func (PySem.W.fnOf "further" "further" (defArgs s_further) (defBody s_further) (defScope s_further) .none kV51 dc51 pm51 an51 cd51 ct51), sl51⟩)
    (c51 : PySem.W.codeIn K cd51 "further" = true)
    (k51 : PySem.W.keepIn K (.ref f51) = true)
    (a52 : PySem.W.nsIn K mainGlobals "_law_take" = some (some (.ref f52)))
    (l52 : K.lookup f52 = some ⟨oc52, od52, .func (PySem.W.fnOf "_law_take" "_law_take" (defArgs s__law_take) (defBody s__law_take) (defScope s__law_take) .none kV52 dc52 pm52 an52 cd52 ct52), sl52⟩)
    (c52 : PySem.W.codeIn K cd52 "_law_take" = true)
    (k52 : PySem.W.keepIn K (.ref f52) = true)
    (a53 : PySem.W.nsIn K mainGlobals "_law_word" = some (some (.ref f53)))
    (l53 : K.lookup f53 = some ⟨oc53, od53, .func (PySem.W.fnOf "_law_word" "_law_word" (defArgs s__law_word) (defBody s__law_word) (defScope s__law_word) .none kV53 dc53 pm53 an53 cd53 ct53), sl53⟩)
    (c53 : PySem.W.codeIn K cd53 "_law_word" = true)
    (k53 : PySem.W.keepIn K (.ref f53) = true)
    (a54 : PySem.W.nsIn K mainGlobals "_law_pool" = some (some (.ref f54)))
    (l54 : K.lookup f54 = some ⟨oc54, od54, .func (PySem.W.fnOf "_law_pool" "_law_pool" (defArgs s__law_pool) (defBody s__law_pool) (defScope s__law_pool) .none kV54 dc54 pm54 an54 cd54 ct54), sl54⟩)
    (c54 : PySem.W.codeIn K cd54 "_law_pool" = true)
    (k54 : PySem.W.keepIn K (.ref f54) = true)
    (a55 : PySem.W.nsIn K mainGlobals "_law_tables" = some (some (.ref f55)))
    (l55 : K.lookup f55 = some ⟨oc55, od55, .func (PySem.W.fnOf "_law_tables" "_law_tables" (defArgs s__law_tables) (defBody s__law_tables) (defScope s__law_tables) .none kV55 dc55 pm55 an55 cd55 ct55), sl55⟩)
    (c55 : PySem.W.codeIn K cd55 "_law_tables" = true)
    (k55 : PySem.W.keepIn K (.ref f55) = true)
    (a56 : PySem.W.nsIn K mainGlobals "_law_books" = some (some (.ref f56)))
    (l56 : K.lookup f56 = some ⟨oc56, od56, .func (PySem.W.fnOf "_law_books" "_law_books" (defArgs s__law_books) (defBody s__law_books) (defScope s__law_books) .none kV56 dc56 pm56 an56 cd56 ct56), sl56⟩)
    (c56 : PySem.W.codeIn K cd56 "_law_books" = true)
    (k56 : PySem.W.keepIn K (.ref f56) = true)
    (a57 : PySem.W.nsIn K mainGlobals "_law_tiny" = some (some (.ref f57)))
    (l57 : K.lookup f57 = some ⟨oc57, od57, .func (PySem.W.fnOf "_law_tiny" "_law_tiny" (defArgs s__law_tiny) (defBody s__law_tiny) (defScope s__law_tiny) .none kV57 dc57 pm57 an57 cd57 ct57), sl57⟩)
    (c57 : PySem.W.codeIn K cd57 "_law_tiny" = true)
    (k57 : PySem.W.keepIn K (.ref f57) = true)
    (a58 : PySem.W.nsIn K mainGlobals "law" = some (some (.ref f58)))
    (l58 : K.lookup f58 = some ⟨oc58, od58, .func (PySem.W.fnOf "law" "law" (defArgs s_law) (defBody s_law) (defScope s_law) .none kV58 dc58 pm58 an58 cd58 ct58), sl58⟩)
    (c58 : PySem.W.codeIn K cd58 "law" = true)
    (k58 : PySem.W.keepIn K (.ref f58) = true)
    (aS : PySem.W.nsIn K mainGlobals "_law_sorted" = some (some (.ref fS)))
    (lS : K.lookup fS = some ⟨ocS, odS, .func (PySem.W.fnOf "_law_sorted" "_law_sorted" (defArgs s__law_sorted) (defBody s__law_sorted) (defScope s__law_sorted) .none kVS dcS pmS anS (.ref cS) ctS), slS⟩)
    (cS_ : PySem.W.codeIn K (.ref cS) "_law_sorted" = true)
    (kS : PySem.W.keepIn K (.ref fS) = true)
    (lC : K.lookup cS = some ⟨ccS, cdS2, .fields vsS, csS⟩)
    (vS : vsS[11]? = some (.ref P1))
    (nT : PySem.W.noTabs K = true) :
    ∃ (fd : FuncData) (c P1 : Addr), (∀ (s : Shared) (v : Value), BindsTo s fd ⟨[v], []⟩ [("_law_script", v)]) ∧ PySem.W.tabIn K "_law_sorted" = some (c, P1) ∧ PySem.W.noTabs K = true ∧
      ∀ base : Heap, K.In base → base.Ns mainGlobals mg → TabB base mg c P1 → FnOk l.prog w K mg base CX0 16 fa fd ["_law_script"] (spLaw K P1) := by
  have e := hfa.symm.trans (PySem.W.mg_of X G a58)
  cases e
  have FE : FunD K "done_on" "done_on" (defArgs s_done_on) (defBody s_done_on) (defScope s_done_on) [.ref aE] [] fE (PySem.W.fnOf "done_on" "done_on" (defArgs s_done_on) (defBody s_done_on) (defScope s_done_on) (.ref aT) kVE dcE pmE anE cdE ctE) :=
    ⟨⟨_, _, _, _, _, _, _, _, _, _, rfl, lE, cE, .inr ⟨by simp, aT, _, [.ref aE], nE, rfl, lE2, rfl, .cons rfl .nil⟩, .inl rfl⟩, kE⟩
  obtain ⟨dsE, dvE, bdE⟩ := FE.binds1 (ps := ["deed", "one", "other"]) 2 0 (by simp) rfl (fun T kV doc pm an cdv ct us its h1 h2 => by
    match us, h1, its, h2 with
    | [_, _], _, [_], _ => exact ⟨_, rfl, rfl⟩)
  let dE : DefTD K mg "done_on" s_done_on ["deed", "one", "other"] [.ref aE] := ⟨fE, _, FE, PySem.W.mg_of X G aE_, dsE, dvE, bdE⟩
  let T : Txt K mg w CF := {
    b_all := PySem.W.mg_none_of X G z_all,
    b_bool := PySem.W.mg_none_of X G z_bool,
    b_int := PySem.W.mg_none_of X G z_int,
    b_isinstance := PySem.W.mg_none_of X G z_isinstance,
    b_len := PySem.W.mg_none_of X G z_len,
    b_list := PySem.W.mg_none_of X G z_list,
    b_range := PySem.W.mg_none_of X G z_range,
    b_set := PySem.W.mg_none_of X G z_set,
    b_sorted := PySem.W.mg_none_of X G z_sorted,
    b_str := PySem.W.mg_none_of X G z_str,
    b_sum := PySem.W.mg_none_of X G z_sum,
    b_tuple := PySem.W.mg_none_of X G z_tuple,
    b_zip := PySem.W.mg_none_of X G z_zip,
    t_WIDE := t_WIDE,
    c_WIDE := PySem.W.mg_of X G i_WIDE,
    t_ROWS := t_ROWS,
    c_ROWS := PySem.W.mg_of X G i_ROWS,
    t_TABLES := t_TABLES,
    c_TABLES := PySem.W.mg_of X G i_TABLES,
    t_MANY := t_MANY,
    c_MANY := PySem.W.mg_of X G i_MANY,
    t_VALUES := t_VALUES,
    c_VALUES := PySem.W.mg_of X G i_VALUES,
    t_NAMED := t_NAMED,
    c_NAMED := PySem.W.mg_of X G i_NAMED,
    t_SIZE := t_SIZE,
    c_SIZE := PySem.W.mg_of X G i_SIZE,
    t_LOTS := t_LOTS,
    c_LOTS := PySem.W.mg_of X G i_LOTS,
    t_LONGEST := t_LONGEST,
    c_LONGEST := PySem.W.mg_of X G i_LONGEST,
    t_GREATEST := t_GREATEST,
    c_GREATEST := PySem.W.mg_of X G i_GREATEST,
    t_LETTERS := t_L,
    c_LETTERS := PySem.W.mg_of X G i_L,
    a_DEEDS := aD,
    c_DEEDS := PySem.W.mg_of X G nD_,
    r_DEEDS := fun _ => .tup (.inr ⟨_, #[.str "below" u0, .str "join" u1, .str "less" u2, .str "same" u3, .str "take" u4, .str "union" u5, .str "value" u6, .str "with" u7, .str "without" u8], nD, lD_, rfl, rfl, by show 9 ≤ sizeLine; decide, (.cons (a := V.str "below") ⟨_, rfl⟩ ( .cons (a := V.str "join") ⟨_, rfl⟩ ( .cons (a := V.str "less") ⟨_, rfl⟩ ( .cons (a := V.str "same") ⟨_, rfl⟩ ( .cons (a := V.str "take") ⟨_, rfl⟩ ( .cons (a := V.str "union") ⟨_, rfl⟩ ( .cons (a := V.str "value") ⟨_, rfl⟩ ( .cons (a := V.str "with") ⟨_, rfl⟩ ( .cons (a := V.str "without") ⟨_, rfl⟩ (.nil))))))))))⟩) (.cons (.str _) ( .cons (.str _) ( .cons (.str _) ( .cons (.str _) ( .cons (.str _) ( .cons (.str _) ( .cons (.str _) ( .cons (.str _) ( .cons (.str _) (.nil)))))))))),
    a_ONE := aO,
    es_ONE := esO,
    n_ONE := nO,
    k_ONE := ⟨lO_, kO_, sO_⟩,
    kl_ONE := kl_of gO0 gO1 gO2 gO3,
    c_ONE := PySem.W.mg_of X G nO_,
    cls := ⟨pg, hdF, poF, saF⟩,
    c_Field := PySem.W.mg_of X G nF_,
    na_books := na_books,
    na_named := na_named,
    na_deeds := na_deeds,
    f_len := fL,
    fd_len := _,
    fn_len := fun_mk (st := s___len__) lL cL kL,
    len_bd := (fun_mk (st := s___len__) lL cL kL).binds (ps := ["self"]) fun _ _ _ _ _ _ us hl => match us, hl with | [_], _ => rfl,
    m_len := ⟨aL, isL, kL⟩,
    a_NAMED := aN,
    f_init := fI,
    fd_init := _,
    fn_init := ⟨⟨_, _, _, _, _, _, _, _, _, _, rfl, lI, cI, .inl ⟨rfl, rfl⟩, .inr ⟨aDk, rfl, fun q hq => by
      rcases List.mem_cons.mp hq with rfl | hq
      · exact ⟨_, dN, rfl⟩
      · rw [List.mem_singleton.mp hq]
        exact ⟨_, dD, rfl⟩⟩⟩, kI⟩,
    mk_init := ⟨mkF, aI, isI, kF⟩,
    a_E := aE,
    r_E := fun _ => .tup (.inr ⟨_, #[], nE2, lE3, rfl, rfl, Nat.zero_le _, .nil⟩) .nil,
    d_done_on := dE,
    d_is_whole := ⟨f0, _, fun_mk (st := s_is_whole) l0 c0 k0, PySem.W.mg_of X G a0, (fun_mk (st := s_is_whole) l0 c0 k0).binds (ps := ["thing"]) fun _ _ _ _ _ _ us hl => match us, hl with | [_], _ => rfl⟩,
    d_is_word := ⟨f1, _, fun_mk (st := s_is_word) l1 c1 k1, PySem.W.mg_of X G a1, (fun_mk (st := s_is_word) l1 c1 k1).binds (ps := ["thing"]) fun _ _ _ _ _ _ us hl => match us, hl with | [_], _ => rfl⟩,
    d_is_value := ⟨f2, _, fun_mk (st := s_is_value) l2 c2 k2, PySem.W.mg_of X G a2, (fun_mk (st := s_is_value) l2 c2 k2).binds (ps := ["thing"]) fun _ _ _ _ _ _ us hl => match us, hl with | [_], _ => rfl⟩,
    d_is_row := ⟨f3, _, fun_mk (st := s_is_row) l3 c3 k3, PySem.W.mg_of X G a3, (fun_mk (st := s_is_row) l3 c3 k3).binds (ps := ["thing"]) fun _ _ _ _ _ _ us hl => match us, hl with | [_], _ => rfl⟩,
    d_value_key := ⟨f4, _, fun_mk (st := s_value_key) l4 c4 k4, PySem.W.mg_of X G a4, (fun_mk (st := s_value_key) l4 c4 k4).binds (ps := ["value"]) fun _ _ _ _ _ _ us hl => match us, hl with | [_], _ => rfl⟩,
    d_row_key := ⟨f5, _, fun_mk (st := s_row_key) l5 c5 k5, PySem.W.mg_of X G a5, (fun_mk (st := s_row_key) l5 c5 k5).binds (ps := ["row"]) fun _ _ _ _ _ _ us hl => match us, hl with | [_], _ => rfl⟩,
    d_value_less := ⟨f6, _, fun_mk (st := s_value_less) l6 c6 k6, PySem.W.mg_of X G a6, (fun_mk (st := s_value_less) l6 c6 k6).binds (ps := ["one", "other"]) fun _ _ _ _ _ _ us hl => match us, hl with | [_, _], _ => rfl⟩,
    d_row_less := ⟨f7, _, fun_mk (st := s_row_less) l7 c7 k7, PySem.W.mg_of X G a7, (fun_mk (st := s_row_less) l7 c7 k7).binds (ps := ["one", "other"]) fun _ _ _ _ _ _ us hl => match us, hl with | [_, _], _ => rfl⟩,
    d_are_risen := ⟨f8, _, fun_mk (st := s_are_risen) l8 c8 k8, PySem.W.mg_of X G a8, (fun_mk (st := s_are_risen) l8 c8 k8).binds (ps := ["rows"]) fun _ _ _ _ _ _ us hl => match us, hl with | [_], _ => rfl⟩,
    d_are_rows := ⟨f9, _, fun_mk (st := s_are_rows) l9 c9 k9, PySem.W.mg_of X G a9, (fun_mk (st := s_are_rows) l9 c9 k9).binds (ps := ["thing", "columns"]) fun _ _ _ _ _ _ us hl => match us, hl with | [_, _], _ => rfl⟩,
    d_is_table := ⟨f10, _, fun_mk (st := s_is_table) l10 c10 k10, PySem.W.mg_of X G a10, (fun_mk (st := s_is_table) l10 c10 k10).binds (ps := ["thing"]) fun _ _ _ _ _ _ us hl => match us, hl with | [_], _ => rfl⟩,
    d_values_in := ⟨f11, _, fun_mk (st := s_values_in) l11 c11 k11, PySem.W.mg_of X G a11, (fun_mk (st := s_values_in) l11 c11 k11).binds (ps := ["book"]) fun _ _ _ _ _ _ us hl => match us, hl with | [_], _ => rfl⟩,
    d_is_book := ⟨f12, _, fun_mk (st := s_is_book) l12 c12 k12, PySem.W.mg_of X G a12, (fun_mk (st := s_is_book) l12 c12 k12).binds (ps := ["thing"]) fun _ _ _ _ _ _ us hl => match us, hl with | [_], _ => rfl⟩,
    d_heads := ⟨f13, _, fun_mk (st := s_heads) l13 c13 k13, PySem.W.mg_of X G a13, (fun_mk (st := s_heads) l13 c13 k13).binds (ps := ["book"]) fun _ _ _ _ _ _ us hl => match us, hl with | [_], _ => rfl⟩,
    d_are_books := ⟨f14, _, fun_mk (st := s_are_books) l14 c14 k14, PySem.W.mg_of X G a14, (fun_mk (st := s_are_books) l14 c14 k14).binds (ps := ["thing"]) fun _ _ _ _ _ _ us hl => match us, hl with | [_], _ => rfl⟩,
    d_check_number := ⟨f15, _, fun_mk (st := s_check_number) l15 c15 k15, PySem.W.mg_of X G a15, (fun_mk (st := s_check_number) l15 c15 k15).binds (ps := ["many", "thing"]) fun _ _ _ _ _ _ us hl => match us, hl with | [_, _], _ => rfl⟩,
    d_table_at := ⟨f16, _, fun_mk (st := s_table_at) l16 c16 k16, PySem.W.mg_of X G a16, (fun_mk (st := s_table_at) l16 c16 k16).binds (ps := ["book", "thing"]) fun _ _ _ _ _ _ us hl => match us, hl with | [_, _], _ => rfl⟩,
    d_named_of := ⟨f17, _, fun_mk (st := s_named_of) l17 c17 k17, PySem.W.mg_of X G a17, (fun_mk (st := s_named_of) l17 c17 k17).binds (ps := ["thing"]) fun _ _ _ _ _ _ us hl => match us, hl with | [_], _ => rfl⟩,
    d_deeds_of := ⟨f18, _, fun_mk (st := s_deeds_of) l18 c18 k18, PySem.W.mg_of X G a18, (fun_mk (st := s_deeds_of) l18 c18 k18).binds (ps := ["thing"]) fun _ _ _ _ _ _ us hl => match us, hl with | [_], _ => rfl⟩,
    d_names_of := ⟨f19, _, fun_mk (st := s_names_of) l19 c19 k19, PySem.W.mg_of X G a19, (fun_mk (st := s_names_of) l19 c19 k19).binds (ps := ["field"]) fun _ _ _ _ _ _ us hl => match us, hl with | [_], _ => rfl⟩,
    d_table_columns := ⟨f20, _, fun_mk (st := s_table_columns) l20 c20 k20, PySem.W.mg_of X G a20, (fun_mk (st := s_table_columns) l20 c20 k20).binds (ps := ["field", "name"]) fun _ _ _ _ _ _ us hl => match us, hl with | [_, _], _ => rfl⟩,
    d_rows_of := ⟨f21, _, fun_mk (st := s_rows_of) l21 c21 k21, PySem.W.mg_of X G a21, (fun_mk (st := s_rows_of) l21 c21 k21).binds (ps := ["field", "book", "name"]) fun _ _ _ _ _ _ us hl => match us, hl with | [_, _, _], _ => rfl⟩,
    d_picked_rows := ⟨f22, _, fun_mk (st := s_picked_rows) l22 c22 k22, PySem.W.mg_of X G a22, (fun_mk (st := s_picked_rows) l22 c22 k22).binds (ps := ["rows", "picked"]) fun _ _ _ _ _ _ us hl => match us, hl with | [_, _], _ => rfl⟩,
    d_done_on_one := ⟨f23, _, fun_mk (st := s_done_on_one) l23 c23 k23, PySem.W.mg_of X G a23, (fun_mk (st := s_done_on_one) l23 c23 k23).binds (ps := ["deed", "rows"]) fun _ _ _ _ _ _ us hl => match us, hl with | [_, _], _ => rfl⟩,
    d_is_column := ⟨f24, _, fun_mk (st := s_is_column) l24 c24 k24, PySem.W.mg_of X G a24, (fun_mk (st := s_is_column) l24 c24 k24).binds (ps := ["thing", "columns"]) fun _ _ _ _ _ _ us hl => match us, hl with | [_, _], _ => rfl⟩,
    d_are_picked := ⟨f25, _, fun_mk (st := s_are_picked) l25 c25 k25, PySem.W.mg_of X G a25, (fun_mk (st := s_are_picked) l25 c25 k25).binds (ps := ["thing", "columns"]) fun _ _ _ _ _ _ us hl => match us, hl with | [_, _], _ => rfl⟩,
    d_is_named := ⟨f26, _, fun_mk (st := s_is_named) l26 c26 k26, PySem.W.mg_of X G a26, (fun_mk (st := s_is_named) l26 c26 k26).binds (ps := ["field", "thing"]) fun _ _ _ _ _ _ us hl => match us, hl with | [_, _], _ => rfl⟩,
    d_columns_by_one := ⟨f27, _, fun_mk (st := s_columns_by_one) l27 c27 k27, PySem.W.mg_of X G a27, (fun_mk (st := s_columns_by_one) l27 c27 k27).binds (ps := ["field", "deed", "columns"]) fun _ _ _ _ _ _ us hl => match us, hl with | [_, _, _], _ => rfl⟩,
    d_looked := ⟨f28, _, fun_mk (st := s_looked) l28 c28 k28, PySem.W.mg_of X G a28, (fun_mk (st := s_looked) l28 c28 k28).binds (ps := ["field", "thing", "left"]) fun _ _ _ _ _ _ us hl => match us, hl with | [_, _, _], _ => rfl⟩,
    d_is_question := ⟨f29, _, fun_mk (st := s_is_question) l29 c29 k29, PySem.W.mg_of X G a29, (fun_mk (st := s_is_question) l29 c29 k29).binds (ps := ["field", "thing"]) fun _ _ _ _ _ _ us hl => match us, hl with | [_, _], _ => rfl⟩,
    d_check_question := ⟨f30, _, fun_mk (st := s_check_question) l30 c30 k30, PySem.W.mg_of X G a30, (fun_mk (st := s_check_question) l30 c30 k30).binds (ps := ["field", "thing"]) fun _ _ _ _ _ _ us hl => match us, hl with | [_, _], _ => rfl⟩,
    d_columns_of := ⟨f31, _, fun_mk (st := s_columns_of) l31 c31 k31, PySem.W.mg_of X G a31, (fun_mk (st := s_columns_of) l31 c31 k31).binds (ps := ["field", "question"]) fun _ _ _ _ _ _ us hl => match us, hl with | [_, _], _ => rfl⟩,
    d_parts_of := ⟨f32, _, fun_mk (st := s_parts_of) l32 c32 k32, PySem.W.mg_of X G a32, (fun_mk (st := s_parts_of) l32 c32 k32).binds (ps := ["question"]) fun _ _ _ _ _ _ us hl => match us, hl with | [_], _ => rfl⟩,
    d_size_of := ⟨f33, _, fun_mk (st := s_size_of) l33 c33 k33, PySem.W.mg_of X G a33, (fun_mk (st := s_size_of) l33 c33 k33).binds (ps := ["question"]) fun _ _ _ _ _ _ us hl => match us, hl with | [_], _ => rfl⟩,
    d_given_text := ⟨f34, _, fun_mk (st := s_given_text) l34 c34 k34, PySem.W.mg_of X G a34, (fun_mk (st := s_given_text) l34 c34 k34).binds (ps := ["thing"]) fun _ _ _ _ _ _ us hl => match us, hl with | [_], _ => rfl⟩,
    d_text_of := ⟨f35, _, fun_mk (st := s_text_of) l35 c35 k35, PySem.W.mg_of X G a35, (fun_mk (st := s_text_of) l35 c35 k35).binds (ps := ["question"]) fun _ _ _ _ _ _ us hl => match us, hl with | [_], _ => rfl⟩,
    d_rank := ⟨f36, _, fun_mk (st := s_rank) l36 c36 k36, PySem.W.mg_of X G a36, (fun_mk (st := s_rank) l36 c36 k36).binds (ps := ["question"]) fun _ _ _ _ _ _ us hl => match us, hl with | [_], _ => rfl⟩,
    d_is_ahead := ⟨f37, _, fun_mk (st := s_is_ahead) l37 c37 k37, PySem.W.mg_of X G a37, (fun_mk (st := s_is_ahead) l37 c37 k37).binds (ps := ["one", "other"]) fun _ _ _ _ _ _ us hl => match us, hl with | [_, _], _ => rfl⟩,
    d_rows_told := ⟨f38, _, fun_mk (st := s_rows_told) l38 c38 k38, PySem.W.mg_of X G a38, (fun_mk (st := s_rows_told) l38 c38 k38).binds (ps := ["field", "book", "question"]) fun _ _ _ _ _ _ us hl => match us, hl with | [_, _, _], _ => rfl⟩,
    d_answer := ⟨f39, _, fun_mk (st := s_answer) l39 c39 k39, PySem.W.mg_of X G a39, (fun_mk (st := s_answer) l39 c39 k39).binds (ps := ["field", "question"]) fun _ _ _ _ _ _ us hl => match us, hl with | [_, _], _ => rfl⟩,
    d_moves_by_word := ⟨f40, _, fun_mk (st := s_moves_by_word) l40 c40 k40, PySem.W.mg_of X G a40, (fun_mk (st := s_moves_by_word) l40 c40 k40).binds (ps := ["field", "word", "columns"]) fun _ _ _ _ _ _ us hl => match us, hl with | [_, _, _], _ => rfl⟩,
    d_moves_on_one := ⟨f41, _, fun_mk (st := s_moves_on_one) l41 c41 k41, PySem.W.mg_of X G a41, (fun_mk (st := s_moves_on_one) l41 c41 k41).binds (ps := ["field", "words", "columns"]) fun _ _ _ _ _ _ us hl => match us, hl with | [_, _, _], _ => rfl⟩,
    d_lot_of := ⟨f42, _, fun_mk (st := s_lot_of) l42 c42 k42, PySem.W.mg_of X G a42, (fun_mk (st := s_lot_of) l42 c42 k42).binds (ps := ["field", "question"]) fun _ _ _ _ _ _ us hl => match us, hl with | [_, _], _ => rfl⟩,
    d_key_of := ⟨f43, _, fun_mk (st := s_key_of) l43 c43 k43, PySem.W.mg_of X G a43, (fun_mk (st := s_key_of) l43 c43 k43).binds (ps := ["lot"]) fun _ _ _ _ _ _ us hl => match us, hl with | [_], _ => rfl⟩,
    d_made_lots := ⟨f44, _, fun_mk (st := s_made_lots) l44 c44 k44, PySem.W.mg_of X G a44, (fun_mk (st := s_made_lots) l44 c44 k44).binds (ps := ["field", "size", "lots"]) fun _ _ _ _ _ _ us hl => match us, hl with | [_, _, _], _ => rfl⟩,
    d_lot_rank := ⟨f45, _, fun_mk (st := s_lot_rank) l45 c45 k45, PySem.W.mg_of X G a45, (fun_mk (st := s_lot_rank) l45 c45 k45).binds (ps := ["lot"]) fun _ _ _ _ _ _ us hl => match us, hl with | [_], _ => rfl⟩,
    d_reach := ⟨f46, _, fun_mk (st := s_reach) l46 c46 k46, PySem.W.mg_of X G a46, (fun_mk (st := s_reach) l46 c46 k46).binds (ps := ["field", "size"]) fun _ _ _ _ _ _ us hl => match us, hl with | [_, _], _ => rfl⟩,
    d_risen := ⟨f47, _, fun_mk (st := s_risen) l47 c47 k47, PySem.W.mg_of X G a47, (fun_mk (st := s_risen) l47 c47 k47).binds (ps := ["rows"]) fun _ _ _ _ _ _ us hl => match us, hl with | [_], _ => rfl⟩,
    d_values_risen := ⟨f48, _, fun_mk (st := s_values_risen) l48 c48 k48, PySem.W.mg_of X G a48, (fun_mk (st := s_values_risen) l48 c48 k48).binds (ps := ["values"]) fun _ _ _ _ _ _ us hl => match us, hl with | [_], _ => rfl⟩,
    d_picks := ⟨f49, _, fun_mk (st := s_picks) l49 c49 k49, PySem.W.mg_of X G a49, (fun_mk (st := s_picks) l49 c49 k49).binds (ps := ["columns"]) fun _ _ _ _ _ _ us hl => match us, hl with | [_], _ => rfl⟩,
    d_lots_by_one := ⟨f50, _, fun_mk (st := s_lots_by_one) l50 c50 k50, PySem.W.mg_of X G a50, (fun_mk (st := s_lots_by_one) l50 c50 k50).binds (ps := ["field", "lot"]) fun _ _ _ _ _ _ us hl => match us, hl with | [_, _], _ => rfl⟩,
    d_further := ⟨f51, _, fun_mk (st := s_further) l51 c51 k51, PySem.W.mg_of X G a51, (fun_mk (st := s_further) l51 c51 k51).binds (ps := ["field", "size", "lots"]) fun _ _ _ _ _ _ us hl => match us, hl with | [_, _, _], _ => rfl⟩,
    d__law_take := ⟨f52, _, fun_mk (st := s__law_take) l52 c52 k52, PySem.W.mg_of X G a52, (fun_mk (st := s__law_take) l52 c52 k52).binds (ps := ["_law_state", "_law_below"]) fun _ _ _ _ _ _ us hl => match us, hl with | [_, _], _ => rfl⟩,
    d__law_word := ⟨f53, _, fun_mk (st := s__law_word) l53 c53 k53, PySem.W.mg_of X G a53, (fun_mk (st := s__law_word) l53 c53 k53).binds (ps := ["_law_state"]) fun _ _ _ _ _ _ us hl => match us, hl with | [_], _ => rfl⟩,
    d__law_pool := ⟨f54, _, fun_mk (st := s__law_pool) l54 c54 k54, PySem.W.mg_of X G a54, (fun_mk (st := s__law_pool) l54 c54 k54).binds (ps := ["_law_state", "_law_many"]) fun _ _ _ _ _ _ us hl => match us, hl with | [_, _], _ => rfl⟩,
    d__law_tables := ⟨f55, _, fun_mk (st := s__law_tables) l55 c55 k55, PySem.W.mg_of X G a55, (fun_mk (st := s__law_tables) l55 c55 k55).binds (ps := ["_law_state", "_law_wide"]) fun _ _ _ _ _ _ us hl => match us, hl with | [_, _], _ => rfl⟩,
    d__law_books := ⟨f56, _, fun_mk (st := s__law_books) l56 c56 k56, PySem.W.mg_of X G a56, (fun_mk (st := s__law_books) l56 c56 k56).binds (ps := ["_law_state", "_law_tables_here", "_law_pool_here", "_law_most"]) fun _ _ _ _ _ _ us hl => match us, hl with | [_, _, _, _], _ => rfl⟩,
    d__law_tiny := ⟨f57, _, fun_mk (st := s__law_tiny) l57 c57 k57, PySem.W.mg_of X G a57, (fun_mk (st := s__law_tiny) l57 c57 k57).binds (ps := ["_law_state", "_law_words"]) fun _ _ _ _ _ _ us hl => match us, hl with | [_, _], _ => rfl⟩,
    d_law := ⟨fa, _, fun_mk (st := s_law) l58 c58 k58, PySem.W.mg_of X G a58, (fun_mk (st := s_law) l58 c58 k58).binds (ps := ["_law_script"]) fun _ _ _ _ _ _ us hl => match us, hl with | [_], _ => rfl⟩,
    d__law_sorted := ⟨fS, _, fun_mk (st := s__law_sorted) lS cS_ kS, PySem.W.mg_of X G aS, (fun_mk (st := s__law_sorted) lS cS_ kS).binds (ps := ["_law_rows"]) fun _ _ _ _ _ _ us hl => match us, hl with | [_], _ => rfl⟩,
    c_srt := cS,
    e_srt := ⟨_, _, _, _, _, _, _, _, rfl, lS, cS_⟩ }
  exact ⟨_, cS, P1, fun s v => .of_eq rfl, tabIn_of aS lS rfl lC vS, nT, fun base _ _ TB => ok_law T TB (PL CF)⟩
theorem walkL {l : PySem.W.OpenLaw} {n : Nat} {q : Program} {loose : List Str} {XP : (Str → Option Value) → Heap → Prop} {YP : World → Heap → Prop} {d dS : DefRec} {K : Params → PySem.W.Frag}
    (hn : l.most = some n) (hn2 : n ≤ sizeLine) (hdf : d.params.defaults = []) (hY : ∀ (w : World) (h : Heap), YP w h → (K w.params).In h) (hrec : (recsOf q).find? (fun e => e.name == ("_law_sorted" : Str)) = some dS)
    (F : ∀ (w : World) (mg : Str → Option Value) (fa : Addr) (h : Heap), (K w.params).In h → h.Ns mainGlobals mg → mg d.name = some (.ref fa) →
      ∃ (fd : FuncData) (c P1 : Addr), (∀ (s : Shared) (v : Value), BindsTo s fd ⟨[v], []⟩ [("_law_script", v)]) ∧ PySem.W.tabIn (K w.params) "_law_sorted" = some (c, P1) ∧ PySem.W.noTabs (K w.params) = true ∧
        ∀ base : Heap, (K w.params).In base → base.Ns mainGlobals mg → TabB base mg c P1 → FnOk l.prog w (K w.params) mg base CX0 16 fa fd ["_law_script"] (spLaw (K w.params) P1)) :
    PySem.W.WalkO q loose XP YP l.row.toRowW d [] (fun f vs => PySem.call f vs) := by
  refine Att.attach_callB hn hdf fun w s₀ s₁ mg mb fa o pm cd doc a vs ns G Y ho hd hcd hmg hobj hints hlen hbits hg => ?_
  have KX := hY w _ Y
  obtain ⟨fd, c, P1, hb, ht, nT, hF⟩ := F w mg fa _ KX G.T.g hmg
  obtain ⟨C, tb⟩ := PySem.W.tab_of G.T KX hrec ht
  have nP : (K w.params).lookup P1 = none := by
    cases e : (K w.params).lookup P1 with
    | none => rfl
    | some ob =>
      have h1 := KX _ _ e
      rw [tb] at h1
      cases h1
      have h2 := List.all_eq_true.mp nT (P1, _) (PySem.W.mem_of_lookupK e)
      exact absurd (show false = true from h2) Bool.false_ne_true
  refine LamX.law_callTs (cs := [(c, P1)]) (x := "_law_script") (CX := CX0) (k := 16) KX G.T.g G.T.b G.T.builtins G.T.nolimit hg (fun p hp => ?_) (fun p hp => ?_) (fun p hp => ?_) G.T.bmain hobj hints (Nat.le_trans hlen hn2) ⟨rfl, by decide, by decide⟩ (fun base h1 h2 h3 => hF base h1 h2 (h3 (c, P1) List.mem_cons_self)) hb (fun H hH hS => ⟨a, ns, rfl, hS, hH (c, P1) List.mem_cons_self, fun H' => rfl⟩) fun H e s' z => z
  · rw [List.mem_singleton.mp hp]
    exact tb
  · rw [List.mem_singleton.mp hp]
    exact nP
  · rw [List.mem_singleton.mp hp]
    exact C
end DL

set_option Elab.async false
set_option linter.all false
set_option maxRecDepth 100000
set_option maxHeartbeats 4000000
/-! The data of the law is finite: values, rows, and how they stand to one another. -/
namespace DL
open PySem PySem.Spec
def valsU : List PyData := [.int 0, .int 1, .int 2, .int 10, .str "a", .str "ab"]
def rowsU : Nat → List PyData
  | 1 => valsU.map fun v => .tuple [v]
  | 2 => valsU.flatMap fun v => valsU.map fun w => .tuple [v, w]
  | _ => []
/-- a row's place -/
def pl (l : List PyData) (r : PyData) : Nat := l.findIdx fun x => PyData.eqv r x
def isBl : Option PyData → Bool → Bool
  | some (.bool x), y => x == y
  | _, _ => false
theorem isBl_eq {o : Option PyData} {y : Bool} (h : isBl o y = true) : o = some (.bool y) := by
  unfold isBl at h
  split at h
  · rw [eq_of_beq h]
  · cases h
theorem all2 {l : List PyData} {p : PyData → PyData → Bool} (h : (l.all fun a => l.all fun b => p a b) = true) {a b : PyData} (ha : a ∈ l) (hb : b ∈ l) : p a b = true :=
  List.all_eq_true.mp (List.all_eq_true.mp h a ha) b hb
theorem inj_of_range {l : List PyData} {f : PyData → Nat} (h : l.map f = List.range l.length) {a b : PyData} (ha : a ∈ l) (hb : b ∈ l) (e : f a = f b) : a = b := by
  obtain ⟨i, hi, rfl⟩ := List.getElem_of_mem ha
  obtain ⟨j, hj, rfl⟩ := List.getElem_of_mem hb
  have e1 : f l[i] = i := by
    have : (l.map f)[i]'(by simpa using hi) = i := by simp only [h, List.getElem_range]
    simpa using this
  have e2 : f l[j] = j := by
    have : (l.map f)[j]'(by simpa using hj) = j := by simp only [h, List.getElem_range]
    simpa using this
  have : i = j := by rw [← e1, ← e2, e]
  subst this
  rfl
theorem two_cs {p : Nat → Prop} (h1 : p 1) (h2 : p 2) : ∀ c, c = 1 ∨ c = 2 → p c := by
  rintro c (rfl | rfl)
  · exact h1
  · exact h2
theorem pl_range : ∀ c, c = 1 ∨ c = 2 → (rowsU c).map (pl (rowsU c)) = List.range (rowsU c).length := two_cs (by decide +kernel) (by decide +kernel)
theorem pl_inj {c : Nat} (hc : c = 1 ∨ c = 2) {a b : PyData} (ha : a ∈ rowsU c) (hb : b ∈ rowsU c) (e : pl (rowsU c) a = pl (rowsU c) b) : a = b := inj_of_range (pl_range c hc) ha hb e
theorem row_less_all : ∀ c, c = 1 ∨ c = 2 → ((rowsU c).all fun a => (rowsU c).all fun b => isBl (g_row_less 0 [a, b]) (decide (pl (rowsU c) a < pl (rowsU c) b))) = true := two_cs (by decide +kernel) (by decide +kernel)
theorem row_less_at {CF : Addr} {c : Nat} (hc : c = 1 ∨ c = 2) {a b : PyData} (ha : a ∈ rowsU c) (hb : b ∈ rowsU c) : g_row_less CF [a, b] = some (.bool (decide (pl (rowsU c) a < pl (rowsU c) b))) :=
  (show g_row_less CF = g_row_less 0 from rfl) ▸ isBl_eq (all2 (row_less_all c hc) ha hb)
theorem trL_all : ∀ c, c = 1 ∨ c = 2 → ((rowsU c).all fun a => (rowsU c).all fun b => leTr trL (lawKey a) (lawKey b) == decide (pl (rowsU c) a ≤ pl (rowsU c) b)) = true := two_cs (by decide +kernel) (by decide +kernel)
theorem trL_at {c : Nat} (hc : c = 1 ∨ c = 2) {a b : PyData} (ha : a ∈ rowsU c) (hb : b ∈ rowsU c) : leTr trL (lawKey a) (lawKey b) = decide (pl (rowsU c) a ≤ pl (rowsU c) b) := eq_of_beq (all2 (trL_all c hc) ha hb)
theorem eqv_all : ∀ c, c = 1 ∨ c = 2 → ((rowsU c).all fun a => (rowsU c).all fun b => PyData.eqv a b == decide (pl (rowsU c) a = pl (rowsU c) b)) = true := two_cs (by decide +kernel) (by decide +kernel)
theorem eqv_at {c : Nat} (hc : c = 1 ∨ c = 2) {a b : PyData} (ha : a ∈ rowsU c) (hb : b ∈ rowsU c) : PyData.eqv a b = true ↔ a = b := by
  have h := eq_of_beq (all2 (eqv_all c hc) ha hb)
  rw [h]
  constructor
  · intro e
    exact pl_inj hc ha hb (of_decide_eq_true e)
  · intro e
    subst e
    simp
theorem rowOk_all : ∀ c, c = 1 ∨ c = 2 → (rowsU c).all rowOk = true := two_cs (by decide +kernel) (by decide +kernel)
/-- a list sorted by a key that answers as a number -/
theorem sorted_by {α : Type} {le : α → α → Bool} (f : α → Nat) (l : List α) (h : ∀ a ∈ l, ∀ b ∈ l, le a b = decide (f a ≤ f b)) : (l.mergeSort le).Pairwise fun a b => f a ≤ f b := by
  have e := List.map_mergeSort (r := le) (s := fun a b => decide (a ≤ b)) (f := f) (l := l) h
  have s := List.pairwise_mergeSort (le := fun a b : Nat => decide (a ≤ b)) (fun a b c h1 h2 => by simp at *; omega) (fun a b => by simp; omega) (l.map f)
  rw [← e] at s
  simpa using List.pairwise_map.mp s
theorem zip_map_self {α β : Type} (f : α → β) : ∀ l : List α, l.zip (l.map f) = l.map fun a => (a, f a)
  | [] => rfl
  | a :: l => by simp [zip_map_self f l]
theorem sortKD_perm (tr : PyData → PyData) (f : PyData → PyData) (ds : List PyData) : (sortKD tr ds (ds.map f)).Perm ds := by
  unfold sortKD
  rw [zip_map_self]
  have h := (List.mergeSort_perm (ds.map fun a => (a, f a)) (fun a b => leTr tr a.2 b.2)).map (·.1)
  simpa [Function.comp_def] using h
theorem sortKD_sorted {tr f : PyData → PyData} {ds : List PyData} (g : PyData → Nat) (h : ∀ a ∈ ds, ∀ b ∈ ds, leTr tr (f a) (f b) = decide (g a ≤ g b)) : (sortKD tr ds (ds.map f)).Pairwise fun a b => g a ≤ g b := by
  unfold sortKD
  rw [zip_map_self]
  refine List.pairwise_map.mpr ?_
  refine sorted_by (fun p : PyData × PyData => g p.1) _ fun a ha b hb => ?_
  obtain ⟨x, hx, rfl⟩ := List.mem_map.mp ha
  obtain ⟨y, hy, rfl⟩ := List.mem_map.mp hb
  exact h x hx y hy
/-- rows of a table -/
structure GR (c : Nat) (R : List PyData) : Prop where
  mem : ∀ r ∈ R, r ∈ rowsU c
  len : R.length ≤ 3
theorem uniq_nodup {c : Nat} (hc : c = 1 ∨ c = 2) : ∀ (rows done : List PyData), (∀ r ∈ rows, r ∈ rowsU c) → (∀ r ∈ done, r ∈ rowsU c) → done.Nodup → (rows.foldl addU done).Nodup
  | [], _, _, _, h => h
  | r :: rows, done, h1, h2, h3 => by
    have hr := h1 r List.mem_cons_self
    refine uniq_nodup hc rows (addU done r) (fun x hx => h1 x (List.mem_cons_of_mem _ hx)) (fun x hx => ?_) ?_
    · unfold addU at hx
      split at hx
      · exact h2 x hx
      · rcases List.mem_append.mp hx with hx | hx
        · exact h2 x hx
        · rw [List.mem_singleton.mp hx]; exact hr
    · unfold addU
      split
      · exact h3
      · rename_i hn
        refine List.nodup_append.mpr ⟨h3, by simp, fun a ha b hb => ?_⟩
        rw [List.mem_singleton.mp hb]
        intro e
        refine hn (List.any_eq_true.mpr ⟨a, ha, ?_⟩)
        exact (eqv_at hc (h2 a ha) hr).mpr e
theorem lawOrd_ok {c : Nat} (hc : c = 1 ∨ c = 2) {rows : List PyData} (hl : rows.length ≤ 3) (h : ∀ r ∈ rows, r ∈ rowsU c) : GR c (lawOrd rows) ∧ (lawOrd rows).Pairwise fun a b => pl (rowsU c) a < pl (rowsU c) b := by
  have hu : ∀ r ∈ uniqD [] rows, r ∈ rowsU c := by
    intro r hr
    rw [uniqD_fold] at hr
    rcases fold_mem rows [] r hr with z | z
    · cases z
    · exact h r z
  have hn : (uniqD [] rows).Nodup := by
    rw [uniqD_fold]
    exact uniq_nodup hc rows [] h (fun _ h => by cases h) List.nodup_nil
  have hlen : (uniqD [] rows).length ≤ 3 := by
    rw [uniqD_fold]
    have := fold_len rows []
    simp at this
    omega
  have p := sortKD_perm trL lawKey (uniqD [] rows)
  have s := sortKD_sorted (tr := trL) (f := lawKey) (ds := uniqD [] rows) (pl (rowsU c)) fun a ha b hb => trL_at hc (hu a ha) (hu b hb)
  refine ⟨⟨fun r hr => hu r (p.mem_iff.mp hr), by rw [show (lawOrd rows).length = _ from p.length_eq]; exact hlen⟩, ?_⟩
  have hn' : (lawOrd rows).Nodup := p.nodup_iff.mpr hn
  have hm : ∀ r ∈ lawOrd rows, r ∈ rowsU c := fun r hr => hu r (p.mem_iff.mp hr)
  have := List.Pairwise.and_mem.mp (List.Pairwise.and s hn')
  refine this.imp fun {a b} z => ?_
  have z1 := z.2.2.1
  have z2 : a ≠ b := z.2.2.2
  have : pl (rowsU c) a ≠ pl (rowsU c) b := fun e => z2 (pl_inj hc (hm a z.1) (hm b z.2.1) e)
  omega
end DL

set_option Elab.async false
set_option linter.all false
set_option maxRecDepth 100000
set_option maxHeartbeats 4000000
/-! The field of the law is made. -/
namespace DL
open PySem PySem.Spec
theorem turns_map {i : Nat} {F : DF} {ρ : DE} {f : PyData → PyData} : ∀ {ds : List PyData}, (∀ d ∈ ds, F (ρ.set i (some d)) = some (f d)) → turnsD (oneB i) yesT F ρ ds = some (ds.map f)
  | [], _ => rfl
  | d :: ds, h => by
    show ((F (ρ.set i (some d))).bind fun y => (turnsD (oneB i) yesT F ρ ds).map (y :: ·)) = _
    rw [h d List.mem_cons_self, turns_map fun x hx => h x (List.mem_cons_of_mem _ hx)]
    rfl
theorem turns_filter {i : Nat} {T : DE → Option Bool} {F : DF} {ρ : DE} {t : PyData → Bool} : ∀ {ds : List PyData}, (∀ d ∈ ds, T (ρ.set i (some d)) = some (t d)) → (∀ d ∈ ds, F (ρ.set i (some d)) = some d) → turnsD (oneB i) T F ρ ds = some (ds.filter t)
  | [], _, _ => rfl
  | d :: ds, h, h2 => by
    show ((T (ρ.set i (some d))).bind fun k => if k = true then (F (ρ.set i (some d))).bind fun y => (turnsD (oneB i) T F ρ ds).map (y :: ·) else turnsD (oneB i) T F ρ ds) = _
    rw [h d List.mem_cons_self, h2 d List.mem_cons_self, turns_filter (fun x hx => h x (List.mem_cons_of_mem _ hx)) (fun x hx => h2 x (List.mem_cons_of_mem _ hx))]
    cases e : t d <;> simp [e]
theorem bools_const {α : Type} (ds : List α) : bools (ds.map fun _ => PyData.bool true) = some (ds.map fun _ => true) := by
  induction ds with
  | nil => rfl
  | cons d ds ih => simp [bools, asB, ih]
theorem allD_const {α : Type} (ds : List α) : allD [.list (ds.map fun _ => PyData.bool true)] = some (.bool true) := by
  simp [allD, bools_const]
theorem is_row_all : ∀ c, c = 1 ∨ c = 2 → ((rowsU c).all fun a => isBl (g_is_row 0 [a]) true) = true := two_cs (by decide +kernel) (by decide +kernel)
theorem is_row_at {CF : Addr} {c : Nat} (hc : c = 1 ∨ c = 2) {a : PyData} (ha : a ∈ rowsU c) : g_is_row CF [a] = some (.bool true) :=
  (show g_is_row CF = g_is_row 0 from rfl) ▸ isBl_eq (List.all_eq_true.mp (is_row_all c hc) a ha)
theorem rowsU_len : ∀ c, c = 1 ∨ c = 2 → ∀ r ∈ rowsU c, ∃ vs, r = .tuple vs ∧ vs.length = c ∧ ∀ v ∈ vs, v ∈ valsU := by
  rintro c (rfl | rfl) r hr
  · obtain ⟨v, hv, rfl⟩ := List.mem_map.mp hr
    exact ⟨_, rfl, rfl, by simpa using hv⟩
  · obtain ⟨v, hv, hr⟩ := List.mem_flatMap.mp hr
    obtain ⟨w, hw, rfl⟩ := List.mem_map.mp hr
    exact ⟨_, rfl, rfl, fun x hx => by
      rcases List.mem_cons.mp hx with rfl | hx
      · exact hv
      · rw [List.mem_singleton.mp hx]; exact hw⟩
theorem kit_tt : L2.kitB "tuple" "tuple" = some true := rfl
theorem kit_tl : L2.kitB "tuple" "list" = some false := rfl
theorem kit_ts : L2.kitB "tuple" "str" = some false := rfl
theorem kit_ss : L2.kitB "str" "str" = some true := rfl
theorem asB_bl (b : Bool) : asB (.bool b) = some b := rfl
theorem are_risen_at {CF : Addr} {c : Nat} (hc : c = 1 ∨ c = 2) {R : List PyData} (g : GR c R) (hs : R.Pairwise fun a b => pl (rowsU c) a < pl (rowsU c) b) : g_are_risen CF [.tuple R] = some (.bool true) := by
  match R, g.len with
  | [], _ => rfl
  | [a], _ => rfl
  | [a, b], _ =>
    have h1 := row_less_at (CF := CF) hc (g.mem a (by simp)) (g.mem b (by simp))
    have p1 := (List.pairwise_cons.mp hs).1 b (by simp)
    rw [decide_eq_true p1] at h1
    have e : lcD [1, 2] (zipD (fun ρ => sl ρ 0) (slT (fun ρ => sl ρ 0) (fun ρ => (((fun _ => some (.int 1)) ρ).bind asI).map some) (fun _ => some none))) (tupB [1, 2]) yesT (fun ρ => ((fun ρ => ((fun ρ => sl ρ 1) ρ).bind fun d => ((fun ρ => ((fun ρ => sl ρ 2) ρ).bind fun d => ((fun _ => some []) ρ).bind fun ds => some (d :: ds)) ρ).bind fun ds => some (d :: ds)) ρ).bind (g_row_less CF)) (startD 3 [.tuple [a, b]]) = some (.list [.bool true]) := by
      show ((g_row_less CF [a, b]).bind fun y => some [y]).map PyData.list = _
      rw [h1]
      rfl
    unfold g_are_risen runD S_are_risen retD
    simp only [List.length_cons, List.length_nil, if_true]
    rw [e]
    rfl
  | [a, b, d], _ =>
    have h1 := row_less_at (CF := CF) hc (g.mem a (by simp)) (g.mem b (by simp))
    have p1 := (List.pairwise_cons.mp hs).1 b (by simp)
    rw [decide_eq_true p1] at h1
    have h2 := row_less_at (CF := CF) hc (g.mem b (by simp)) (g.mem d (by simp))
    have p2 := (List.pairwise_cons.mp (List.pairwise_cons.mp hs).2).1 d (by simp)
    rw [decide_eq_true p2] at h2
    have e : lcD [1, 2] (zipD (fun ρ => sl ρ 0) (slT (fun ρ => sl ρ 0) (fun ρ => (((fun _ => some (.int 1)) ρ).bind asI).map some) (fun _ => some none))) (tupB [1, 2]) yesT (fun ρ => ((fun ρ => ((fun ρ => sl ρ 1) ρ).bind fun d => ((fun ρ => ((fun ρ => sl ρ 2) ρ).bind fun d => ((fun _ => some []) ρ).bind fun ds => some (d :: ds)) ρ).bind fun ds => some (d :: ds)) ρ).bind (g_row_less CF)) (startD 3 [.tuple [a, b, d]]) = some (.list [.bool true, .bool true]) := by
      show ((g_row_less CF [a, b]).bind fun y => ((g_row_less CF [b, d]).bind fun y => some [y]).map (y :: ·)).map PyData.list = _
      rw [h1, h2]
      rfl
    unfold g_are_risen runD S_are_risen retD
    simp only [List.length_cons, List.length_nil, if_true]
    rw [e]
    rfl
theorem are_rows_at {CF : Addr} {c : Nat} (hc : c = 1 ∨ c = 2) {R : List PyData} (g : GR c R) (hs : R.Pairwise fun a b => pl (rowsU c) a < pl (rowsU c) b) : g_are_rows CF [.tuple R, .int c] = some (.bool true) := by
  have hr := are_risen_at (CF := CF) hc g hs
  have hl : R.length ≤ 100000 := by have := g.len; omega
  unfold g_are_rows runD S_are_rows
  simp [seqD, ifD, orT, notT, retD, nxD, lcD, startD, sl, asSeq, wipeD, isiD, tyD, hl, kit_tt, asB_bl]
  rw [turns_map (f := fun _ => PyData.bool true) (fun r hm => ?_)]
  · simp [allD_const, asB_bl, hr]
  · obtain ⟨vs, rfl, hv, -⟩ := rowsU_len c hc r (g.mem r hm)
    simp [andV, b2, is_row_at hc (g.mem _ hm), asB_bl, lenD, eqFD, eqF, flatD, hv]
end DL

set_option Elab.async false
set_option linter.all false
set_option maxRecDepth 100000
set_option maxHeartbeats 4000000
/-! The field of the law is made. -/
namespace DL
open PySem PySem.Spec
def namesU : List Str := ["a", "ab", "rose", "rosea", "b", "ba"]
theorem is_word_at {CF : Addr} {n : Str} (h : n ∈ namesU) : g_is_word CF [.str n] = some (.bool true) :=
  (show g_is_word CF = g_is_word 0 from rfl) ▸ isBl_eq (List.all_eq_true.mp (show (namesU.all fun n => isBl (g_is_word 0 [.str n]) true) = true by decide +kernel) n h)
theorem is_table_at {CF : Addr} {c : Nat} (hc : c = 1 ∨ c = 2) {n : Str} (hn : n ∈ namesU) {R : List PyData} (g : GR c R) (hs : R.Pairwise fun a b => pl (rowsU c) a < pl (rowsU c) b) : g_is_table CF [.tuple [.str n, .int c, .tuple R]] = some (.bool true) := by
  have hr := are_rows_at (CF := CF) hc g hs
  have hw := is_word_at (CF := CF) hn
  have h6 : R.length ≤ 6 := by have := g.len; omega
  have h6' : (R.length : Int) ≤ 6 := by omega
  have h1 : (1 : Int) ≤ c := by omega
  have h3 : (c : Int) ≤ 3 := by omega
  generalize (c : Int) = k at *
  have hwh : g_is_whole CF [.int k] = some (.bool true) := rfl
  unfold g_is_table runD S_is_table
  simp [seqD, ifD, orT, notT, retD, nxD, startD, sl, isiD, tyD, kit_tt, asB, lenD, neFD, eqF, flatD, b2, unpD, tupB, setAll, hw, hwh, hr, chD, cmpI, andV, h1, h3, h6, h6']
/-- all values of a book -/
def bookVals (b : List (List PyData)) : List PyData := b.flatMap fun R => R.flatMap fun r => match r with
  | .tuple vs => vs
  | _ => []
theorem asKey_at {v : PyData} (h : v ∈ valsU) : ∃ k, asKey v = some k ∧ kD k = v := by
  rcases (by simpa [valsU] using h : v = _ ∨ v = _ ∨ v = _ ∨ v = _ ∨ v = _ ∨ v = _) with rfl | rfl | rfl | rfl | rfl | rfl <;> exact ⟨_, rfl, rfl⟩
theorem keysD_at {ρ : DE} (hρ : 2 < ρ.length) : ∀ {vs : List PyData}, (∀ v ∈ vs, v ∈ valsU) → ∃ ks, keysD (oneB 2) (fun ρ => sl ρ 2) ρ vs = some ks ∧ ks.map kD = vs
  | [], _ => ⟨[], rfl, rfl⟩
  | v :: vs, h => by
    obtain ⟨k, h1, h2⟩ := asKey_at (h v List.mem_cons_self)
    obtain ⟨ks, h3, h4⟩ := keysD_at hρ (vs := vs) fun x hx => h x (List.mem_cons_of_mem _ hx)
    refine ⟨k :: ks, ?_, by simp [h2, h4]⟩
    show ((sl (ρ.set 2 (some v)) 2).bind fun k => (asKey k).bind fun k => (keysD (oneB 2) (fun ρ => sl ρ 2) ρ vs).map (k :: ·)) = _
    rw [sl_set hρ, h3]
    simp [h1]
theorem putK_len {kvs : List (L2.Key × L2.V)} {k : L2.Key} {v : L2.V} : (L2.putK kvs k v).length ≤ kvs.length + 1 ∧ ∀ p ∈ L2.putK kvs k v, p.1 = k ∨ p.1 ∈ kvs.map (·.1) := by
  unfold L2.putK
  split
  · refine ⟨by simp, fun p hp => ?_⟩
    obtain ⟨q, hq, rfl⟩ := List.mem_map.mp hp
    right
    split
    · exact List.mem_map.mpr ⟨q, hq, rfl⟩
    · exact List.mem_map.mpr ⟨q, hq, rfl⟩
  · refine ⟨by simp, fun p hp => ?_⟩
    rcases List.mem_append.mp hp with h | h
    · exact .inr (List.mem_map.mpr ⟨p, h, rfl⟩)
    · rw [List.mem_singleton.mp h]; exact .inl rfl
theorem putKs_len : ∀ (ks : List L2.Key) (kvs : List (L2.Key × L2.V)), (putKs kvs ks).length ≤ kvs.length + ks.length ∧ ∀ p ∈ putKs kvs ks, p.1 ∈ ks ∨ p.1 ∈ kvs.map (·.1)
  | [], kvs => ⟨by simp [putKs], fun p hp => .inr (List.mem_map.mpr ⟨p, hp, rfl⟩)⟩
  | k :: ks, kvs => by
    obtain ⟨h1, h2⟩ := putKs_len ks (L2.putK kvs k (.bl true))
    obtain ⟨h3, h4⟩ := putK_len (kvs := kvs) (k := k) (v := .bl true)
    refine ⟨by show (putKs (L2.putK kvs k (.bl true)) ks).length ≤ _; simp only [List.length_cons]; omega, fun p hp => ?_⟩
    rcases h2 p hp with h | h
    · exact .inl (List.mem_cons_of_mem _ h)
    · obtain ⟨q, hq, e⟩ := List.mem_map.mp h
      rcases h4 q hq with z | z
      · rw [← e, z]; exact .inl List.mem_cons_self
      · rw [← e]; exact .inr z
/-- a key that is sure for every value -/
def vkey : PyData → PyData
  | .str x => .tuple [.int 1, .int 0, .str x]
  | d => .tuple [.int 0, d, .str ""]
theorem vkey_at {CF : Addr} {v : PyData} (h : v ∈ valsU) : g_value_key CF [v] = some (vkey v) := by
  rcases (by simpa [valsU] using h : v = _ ∨ v = _ ∨ v = _ ∨ v = _ ∨ v = _ ∨ v = _) with rfl | rfl | rfl | rfl | rfl | rfl <;> rfl
theorem vkeys_ok {vs : List PyData} (h : ∀ v ∈ vs, v ∈ valsU) : okKeys (vs.map vkey) = true := by
  have h1 : (valsU.all fun a => okEq (vkey a) && isTupNe (vkey a)) = true := by decide +kernel
  have h2 : (valsU.all fun a => valsU.all fun b => PySem.W.alike (vkey a) (vkey b)) = true := by decide +kernel
  have h1' := fun v hv => Bool.and_eq_true_iff.mp (List.all_eq_true.mp h1 v (h v hv))
  unfold okKeys
  simp only [Bool.and_eq_true, Bool.or_eq_true, List.all_eq_true, List.mem_map]
  refine ⟨⟨?_, ?_⟩, .inl ?_⟩
  · rintro _ ⟨v, hv, rfl⟩
    exact (h1' v hv).1
  · rintro _ ⟨v, hv, rfl⟩ _ ⟨w, hw, rfl⟩
    exact all2 h2 (h v hv) (h w hw)
  · rintro _ ⟨v, hv, rfl⟩
    exact (h1' v hv).2
theorem sortedD_at {g : DC} {ds : List PyData} {f : PyData → PyData} (h1 : ∀ d ∈ ds, g [d] = some (f d)) (h2 : okKeys (ds.map f) = true) (hl : ds.length ≤ 100000) : sortedD g [.list ds] = some (.list (sortKD id ds (ds.map f))) := by
  unfold sortedD
  simp only [if_pos hl]
  rw [mapD_all h1]
  simp [h2]
theorem values_risen_at {CF : Addr} {d : PyData} {vs : List PyData} (hd : asSeq d = some vs) (h : ∀ v ∈ vs, v ∈ valsU) (hl : vs.length ≤ 900) : ∃ us, g_values_risen CF [d] = some (.tuple us) ∧ (∀ u ∈ us, u ∈ vs) ∧ us.length ≤ vs.length := by
  obtain ⟨ks, k1, k2⟩ := keysD_at (ρ := wipeD (startD 3 [d]) [2]) (show 2 < 3 by decide) h
  obtain ⟨l1, l2⟩ := putKs_len ks []
  have e : oneKeys d = some ((putKs [] ks).map fun kv => kD kv.1) := by
    unfold oneKeys
    simp [hd, hl, k1]
  have hm : ∀ x ∈ (putKs [] ks).map (fun kv => kD kv.1), x ∈ vs := by
    intro x hx
    obtain ⟨p, hp, rfl⟩ := List.mem_map.mp hx
    rcases l2 p hp with z | z
    · rw [← k2]; exact List.mem_map.mpr ⟨_, z, rfl⟩
    · cases z
  have kl : ks.length = vs.length := by rw [← k2]; simp
  simp only [List.length_nil, Nat.zero_add] at l1
  have s := sortedD_at (g := g_value_key CF) (ds := (putKs [] ks).map fun kv => kD kv.1) (f := vkey) (fun d hd => vkey_at (h d (hm d hd))) (vkeys_ok fun v hv => h v (hm v hv)) (by simp; omega)
  have p := sortKD_perm id vkey ((putKs [] ks).map fun kv => kD kv.1)
  refine ⟨_, ?_, fun u hu => hm u (p.mem_iff.mp hu), ?_⟩
  · show ((oneKeys d).bind fun ks => (sortedD (g_value_key CF) [.list ks]).bind fun x => tupleD [x]) = _
    rw [e]
    simp only [Option.bind_some]
    rw [s]
    rfl
  · rw [p.length_eq]; simp; omega
end DL

set_option Elab.async false
set_option linter.all false
set_option maxRecDepth 100000
set_option maxHeartbeats 4000000
/-! Books and the field. -/
namespace DL
open PySem PySem.Spec
abbrev Tn := Str × Nat
def mkTab (t : Tn) (R : List PyData) : PyData := .tuple [.str t.1, .int t.2, .tuple R]
def mkBook (ts : List Tn) (Rs : List (List PyData)) : PyData := .tuple (List.zipWith mkTab ts Rs)
def Rise (c : Nat) (R : List PyData) : Prop := R.Pairwise fun a b => pl (rowsU c) a < pl (rowsU c) b
/-- one or two tables with their heads -/
def heads1 : List Str := ["a", "rose", "b"]
def heads2 : List (Str × Str) := [("a", "ab"), ("rose", "rosea"), ("b", "ba")]
inductive Shape : List Tn → Prop
  | one (n : Str) (c : Nat) : n ∈ heads1 → (c = 1 ∨ c = 2) → Shape [(n, c)]
  | two (n m : Str) (c e : Nat) : (n, m) ∈ heads2 → (c = 1 ∨ c = 2) → (e = 1 ∨ e = 2) → Shape [(n, c), (m, e)]
inductive GB : List Tn → List (List PyData) → Prop
  | one {n : Str} {c : Nat} {R : List PyData} : n ∈ heads1 → (c = 1 ∨ c = 2) → GR c R → Rise c R → GB [(n, c)] [R]
  | two {n m : Str} {c e : Nat} {R S : List PyData} : (n, m) ∈ heads2 → (c = 1 ∨ c = 2) → (e = 1 ∨ e = 2) → GR c R → Rise c R → GR e S → Rise e S → GB [(n, c), (m, e)] [R, S]
theorem heads1_U {n : Str} (h : n ∈ heads1) : n ∈ namesU := by
  rcases (by simpa [heads1] using h : n = _ ∨ n = _ ∨ n = _) with rfl | rfl | rfl <;> simp [namesU]
theorem heads2_U {n m : Str} (h : (n, m) ∈ heads2) : n ∈ namesU ∧ m ∈ namesU ∧ ltS (.str n) (.str m) = some (.bool true) ∧ n ≠ m := by
  rcases (by simpa [heads2] using h : (n = _ ∧ m = _) ∨ (n = _ ∧ m = _) ∨ (n = _ ∧ m = _)) with ⟨rfl, rfl⟩ | ⟨rfl, rfl⟩ | ⟨rfl, rfl⟩ <;> exact ⟨by simp [namesU], by simp [namesU], by rfl, by decide⟩
theorem turnsM_at {B : PyData → DE → Option DE} {EL : DE → Option (List PyData)} {ρ : DE} {g : PyData → DE} {f : PyData → List PyData} : ∀ {ds : List PyData}, (∀ d ∈ ds, B d ρ = some (g d)) → (∀ d ∈ ds, EL (g d) = some (f d)) → turnsM B yesT EL ρ ds = some (ds.flatMap f)
  | [], _, _ => rfl
  | d :: ds, h, h2 => by
    show ((B d ρ).bind fun ρ1 => (EL ρ1).bind fun ys => (turnsM B yesT EL ρ ds).map (ys ++ ·)) = _
    rw [h d List.mem_cons_self, turnsM_at (fun x hx => h x (List.mem_cons_of_mem _ hx)) (fun x hx => h2 x (List.mem_cons_of_mem _ hx))]
    show ((EL (g d)).bind fun ys => _) = _
    rw [h2 d List.mem_cons_self]
    rfl
def rowVals : PyData → List PyData
  | .tuple vs => vs
  | _ => []
def tabVals : PyData → List PyData
  | .tuple [_, _, .tuple R] => R.flatMap rowVals
  | _ => []
def midV (ρ : DE) : Option (List PyData) := midD 20 (fun ρ => ((fun ρ => sl ρ 5) ρ).bind asSeq) (oneB 1) yesT (lastD 10 (fun ρ => ((fun ρ => sl ρ 1) ρ).bind asSeq) (oneB 2) yesT (fun ρ => sl ρ 2) [2]) [1, 2] ρ
theorem midV_at {c : Nat} (hc : c = 1 ∨ c = 2) {R : List PyData} (g : GR c R) (x0 x3 x4 : Option PyData) : midV [x0, none, none, x3, x4, some (.tuple R)] = some (R.flatMap rowVals) := by
  show (if R.length ≤ 20 then turnsM (oneB 1) yesT (lastD 10 (fun ρ => ((fun ρ => sl ρ 1) ρ).bind asSeq) (oneB 2) yesT (fun ρ => sl ρ 2) [2]) [x0, none, none, x3, x4, some (.tuple R)] R else none) = _
  rw [if_pos (by have := g.len; omega)]
  refine turnsM_at (g := fun r => [x0, some r, none, x3, x4, some (.tuple R)]) (fun d _ => rfl) fun r hr => ?_
  obtain ⟨vs, rfl, hv, -⟩ := rowsU_len c hc r (g.mem r hr)
  show (if vs.length ≤ 10 then turnsD (oneB 2) yesT (fun ρ => sl ρ 2) [x0, some (.tuple vs), none, x3, x4, some (.tuple R)] vs else none) = _
  rw [if_pos (by omega), turns_map (f := id) fun d _ => rfl]
  simp [rowVals]
theorem flat_len {c : Nat} (hc : c = 1 ∨ c = 2) {R : List PyData} (g : GR c R) : (R.flatMap rowVals).length ≤ 6 ∧ ∀ v ∈ R.flatMap rowVals, v ∈ valsU := by
  constructor
  · have : ∀ R : List PyData, (∀ r ∈ R, r ∈ rowsU c) → (R.flatMap rowVals).length ≤ 2 * R.length := by
      intro R
      induction R with
      | nil => intro _; simp
      | cons r R ih =>
        intro h
        obtain ⟨vs, rfl, hv, -⟩ := rowsU_len c hc r (h r List.mem_cons_self)
        have := ih fun x hx => h x (List.mem_cons_of_mem _ hx)
        simp only [List.flatMap_cons, List.length_append, List.length_cons, rowVals]
        omega
    have := this R g.mem
    have := g.len
    omega
  · intro v hv
    obtain ⟨r, hr, hv⟩ := List.mem_flatMap.mp hv
    obtain ⟨vs, rfl, -, hu⟩ := rowsU_len c hc r (g.mem r hr)
    exact hu v hv
theorem values_in_at {CF : Addr} {ts : List Tn} {Rs : List (List PyData)} (g : GB ts Rs) : ∃ us, g_values_in CF [mkBook ts Rs] = some (.tuple us) ∧ us.length ≤ 12 := by
  cases g with
  | @one n c R hn hc g hs =>
    obtain ⟨l1, l2⟩ := flat_len hc g
    obtain ⟨us, e1, -, e3⟩ := values_risen_at (CF := CF) (d := .list (R.flatMap rowVals)) rfl l2 (by omega)
    refine ⟨us, ?_, by omega⟩
    have e : lc3D [3, 4, 5, 1, 2] 10 (fun ρ => ((fun ρ => sl ρ 0) ρ).bind asSeq) (tupB [3, 4, 5]) yesT midV (startD 6 [mkBook [(n, c)] [R]]) = some (.list (R.flatMap rowVals)) := by
      show ((midV [some (mkBook [(n, c)] [R]), none, none, some (.str n), some (.int c), some (.tuple R)]).bind fun ys => (some ([] : List PyData)).map (ys ++ ·)).map PyData.list = _
      rw [midV_at hc g]
      simp
    show ((((lc3D [3, 4, 5, 1, 2] 10 (fun ρ => ((fun ρ => sl ρ 0) ρ).bind asSeq) (tupB [3, 4, 5]) yesT midV (startD 6 [mkBook [(n, c)] [R]])).bind fun d => some [d]).bind (g_values_risen CF)).map Rs.rt).bind _ = _
    rw [e]
    simp [e1]
  | @two n m c e R S hn hc he g hs g2 hs2 =>
    obtain ⟨l1, l2⟩ := flat_len hc g
    obtain ⟨l3, l4⟩ := flat_len he g2
    obtain ⟨us, e1, -, e3⟩ := values_risen_at (CF := CF) (d := .list (R.flatMap rowVals ++ S.flatMap rowVals)) rfl (fun v hv => (List.mem_append.mp hv).elim (l2 v) (l4 v)) (by simp only [List.length_append]; omega)
    refine ⟨us, ?_, by simp only [List.length_append] at e3; omega⟩
    have e' : lc3D [3, 4, 5, 1, 2] 10 (fun ρ => ((fun ρ => sl ρ 0) ρ).bind asSeq) (tupB [3, 4, 5]) yesT midV (startD 6 [mkBook [(n, c), (m, e)] [R, S]]) = some (.list (R.flatMap rowVals ++ S.flatMap rowVals)) := by
      show ((midV [some (mkBook [(n, c), (m, e)] [R, S]), none, none, some (.str n), some (.int c), some (.tuple R)]).bind fun ys => ((midV [some (mkBook [(n, c), (m, e)] [R, S]), none, none, some (.str m), some (.int e), some (.tuple S)]).bind fun ys => (some ([] : List PyData)).map (ys ++ ·)).map (ys ++ ·)).map PyData.list = _
      rw [midV_at hc g, midV_at he g2]
      simp
    show ((((lc3D [3, 4, 5, 1, 2] 10 (fun ρ => ((fun ρ => sl ρ 0) ρ).bind asSeq) (tupB [3, 4, 5]) yesT midV (startD 6 [mkBook [(n, c), (m, e)] [R, S]])).bind fun d => some [d]).bind (g_values_risen CF)).map Rs.rt).bind _ = _
    rw [e']
    simp [e1]
end DL

set_option Elab.async false
set_option linter.all false
set_option maxRecDepth 100000
set_option maxHeartbeats 4000000
namespace DL
open PySem PySem.Spec
theorem is_book_at {CF : Addr} {ts : List Tn} {Rs : List (List PyData)} (g : GB ts Rs) : g_is_book CF [mkBook ts Rs] = some (.bool true) := by
  obtain ⟨us, hv, hl⟩ := values_in_at (CF := CF) g
  have h18 : (us.length : Int) ≤ 18 := by omega
  have h18' : us.length ≤ 18 := by omega
  cases g with
  | @one n c R hn hc g hs =>
    have ht := is_table_at (CF := CF) hc (heads1_U hn) g hs
    have e : mkBook [(n, c)] [R] = .tuple [.tuple [.str n, .int c, .tuple R]] := rfl
    rw [e] at hv ⊢
    unfold g_is_book runD S_is_book
    simp [seqD, ifD, orT, notT, retD, nxD, setD, startD, sl, isiD, tyD, kit_tt, asB, lenD, b2, hv, chD, cmpI, andV, h18, h18', lcD, asSeq, turnsD, oneB, wipeD, yesT, ht, allD, bools, tupB, setAll, zipLD, slL, cutDs, HT.sIx, asI]
  | @two n m c e R S hn hc he g hs g2 hs2 =>
    obtain ⟨n1, n2, n3, -⟩ := heads2_U hn
    have ht := is_table_at (CF := CF) hc n1 g hs
    have ht2 := is_table_at (CF := CF) he n2 g2 hs2
    have e : mkBook [(n, c), (m, e)] [R, S] = .tuple [.tuple [.str n, .int c, .tuple R], .tuple [.str m, .int e, .tuple S]] := rfl
    rw [e] at hv ⊢
    unfold g_is_book runD S_is_book
    simp [seqD, ifD, orT, notT, retD, nxD, setD, startD, sl, isiD, tyD, kit_tt, asB, lenD, b2, hv, chD, cmpI, andV, h18, h18', lcD, asSeq, turnsD, oneB, wipeD, yesT, ht, ht2, allD, bools, tupB, setAll, zipLD, slL, cutDs, HT.sIx, asI, n3]
def hdOf (ts : List Tn) : PyData := .list (ts.map fun t => .tuple [.str t.1, .int t.2])
theorem heads_at {CF : Addr} {ts : List Tn} {Rs : List (List PyData)} (g : GB ts Rs) : g_heads CF [mkBook ts Rs] = some (hdOf ts) := by
  cases g with
  | one => rfl
  | two => rfl
theorem GB.shape {ts : List Tn} {Rs : List (List PyData)} (g : GB ts Rs) : Shape ts := by
  cases g with
  | one a b => exact .one _ _ a b
  | two a b d => exact .two _ _ _ _ a b d
theorem hd_eq {ts : List Tn} (s : Shape ts) : eqD (hdOf ts) (hdOf ts) = some (.bool true) := by
  cases s with
  | one n c hn hc =>
    rcases (by simpa [heads1] using hn : n = _ ∨ n = _ ∨ n = _) with rfl | rfl | rfl <;> rcases hc with rfl | rfl <;> exact isBl_eq (by decide +kernel)
  | two n m c e hn hc he =>
    rcases (by simpa [heads2] using hn : (n = _ ∧ m = _) ∨ (n = _ ∧ m = _) ∨ (n = _ ∧ m = _)) with ⟨rfl, rfl⟩ | ⟨rfl, rfl⟩ | ⟨rfl, rfl⟩ <;> rcases hc with rfl | rfl <;> rcases he with rfl | rfl <;> exact isBl_eq (by decide +kernel)
theorem atI_0 (x : PyData) (l : List PyData) : L2.atI (x :: l) 0 = some x := by
  have : L2.ixN (l.length + 1) 0 = some 0 := by unfold L2.ixN; simp
  simp [L2.atI, this]
theorem are_books1 {CF : Addr} {ts : List Tn} {Rs : List (List PyData)} (g : GB ts Rs) : g_are_books CF [.tuple [mkBook ts Rs]] = some (.bool true) := by
  have h1 := is_book_at (CF := CF) g
  have h2 := heads_at (CF := CF) g
  have h3 := hd_eq g.shape
  unfold g_are_books runD S_are_books
  simp [seqD, ifD, orT, notT, retD, nxD, setD, startD, sl, isiD, tyD, kit_tt, asB, lenD, b2, chD, cmpI, lcD, asSeq, turnsD, oneB, wipeD, yesT, h1, h2, h3, allD, bools, ixD, atI_0]
theorem are_books2 {CF : Addr} {ts : List Tn} {Rs Ss : List (List PyData)} (g : GB ts Rs) (g2 : GB ts Ss) : g_are_books CF [.tuple [mkBook ts Rs, mkBook ts Ss]] = some (.bool true) := by
  have h1 := is_book_at (CF := CF) g
  have h2 := heads_at (CF := CF) g
  have h3 := hd_eq g.shape
  have h4 := is_book_at (CF := CF) g2
  have h5 := heads_at (CF := CF) g2
  unfold g_are_books runD S_are_books
  simp [seqD, ifD, orT, notT, retD, nxD, setD, startD, sl, isiD, tyD, kit_tt, asB, lenD, b2, chD, cmpI, lcD, asSeq, turnsD, oneB, wipeD, yesT, h1, h2, h3, h4, h5, allD, bools, ixD, atI_0]
theorem is_value_at {CF : Addr} {v : PyData} (h : v ∈ valsU) : g_is_value CF [v] = some (.bool true) :=
  (show g_is_value CF = g_is_value 0 from rfl) ▸ isBl_eq (List.all_eq_true.mp (show (valsU.all fun v => isBl (g_is_value 0 [v]) true) = true by decide +kernel) v h)
theorem named_of_at {CF : Addr} {marked : List PyData} (h : ∀ v ∈ marked, v ∈ valsU) (hl : marked.length ≤ 3) : ∃ us, g_named_of CF [.tuple marked] = some (.tuple us) ∧ (∀ u ∈ us, u ∈ valsU) ∧ us.length ≤ 3 := by
  obtain ⟨us, e1, e2, e3⟩ := values_risen_at (CF := CF) (d := .tuple marked) rfl h (by omega)
  refine ⟨us, ?_, fun u hu => h u (e2 u hu), by omega⟩
  have h3 : ¬ (3 < us.length) := by omega
  have h3' : ¬ ((3 : Int) < us.length) := by omega
  have hm : marked.length ≤ 100000 := by omega
  unfold g_named_of runD S_named_of
  simp [seqD, ifD, orT, notT, retD, nxD, setD, startD, sl, isi2D, tyD, kit_tt, kit_tl, asB, lenD, b2, cmpI, lcD, asSeq, wipeD, hm]
  rw [turns_map (f := fun _ => PyData.bool true) (fun r hr => ?_)]
  · simp [allD_const, asB, e1, lenD, h3, h3']
  · simp [is_value_at (h r hr)]
def DW : List Str := ["below", "join", "less", "same", "take", "union", "value", "with", "without"]
theorem DW_eq : deedsD = .tuple (DW.map .str) := rfl
theorem flat_strs (xs : List Str) : (xs.map PyData.str).all flatD = true := by
  induction xs with
  | nil => rfl
  | cons x xs ih => simp [flatD]
theorem any_strs : ∀ (xs : List Str) (y : Str), ((xs.map PyData.str).any fun z => eqF z (.str y)) = decide (y ∈ xs)
  | [], y => by simp
  | x :: xs, y => by
    show (decide (x = y) || ((xs.map PyData.str).any fun z => eqF z (.str y))) = _
    rw [any_strs xs y]
    by_cases e : x = y
    · subst e; simp
    · have : ¬ y = x := fun z => e z.symm
      simp [e, this]
theorem deeds_of_at {CF : Addr} {chosen : List Str} (h : ∀ x ∈ chosen, x ∈ DW) (hl : chosen.length ≤ 10) : g_deeds_of CF [.tuple (chosen.map .str)] = some (.tuple ((DW.filter fun w => decide (w ∈ chosen)).map .str)) := by
  have hm : chosen.length ≤ 100000 := by omega
  have hf := flat_strs chosen
  have hD := flat_strs DW
  have aD := any_strs DW
  have aC := any_strs chosen
  unfold g_deeds_of runD S_deeds_of
  simp only [DW_eq]
  generalize hDW : DW = D at *
  have hDl : D.length ≤ 100000 := by rw [← hDW]; decide
  simp [seqD, ifD, orT, notT, retD, nxD, setD, startD, sl, isi2D, tyD, kit_tt, kit_tl, asB, lcD, asSeq, wipeD, hm, hDl]
  rw [turns_map (ds := chosen.map .str) (f := fun _ => PyData.bool true) (fun r hr => ?_)]
  · have al : allD [.list (List.map (fun x => PyData.bool true) (List.map PyData.str chosen))] = some (.bool true) := allD_const _
    simp only [Option.map_some, Option.bind_some, al]
    simp [asB]
    rw [turns_filter (ds := D.map .str) (t := fun d => (chosen.map PyData.str).any fun z => eqF z d) (fun r hr => ?_) (fun r hr => ?_)]
    · simp [tupleD, List.filter_map, Function.comp_def]
      refine congrArg _ (List.filter_congr fun w _ => ?_)
      have := aC w
      rw [List.any_map] at this
      exact this
    · obtain ⟨x, hx, rfl⟩ := List.mem_map.mp hr
      simp only [List.set_cons_succ, List.set_cons_zero, List.getElem?_cons_zero, List.getElem?_cons_succ]
      simp [b2, inD, hf, flatD, asB]
    · obtain ⟨x, hx, rfl⟩ := List.mem_map.mp hr
      simp
  · obtain ⟨x, hx, rfl⟩ := List.mem_map.mp hr
    have := h x hx
    have e : (D.map PyData.str).any (fun z => eqF z (.str x)) = true := by rw [aD]; exact decide_eq_true this
    obtain ⟨_, m, e⟩ := List.any_eq_true.mp e
    obtain ⟨z, hz, rfl⟩ := List.mem_map.mp m
    simp [andV, isiD, tyD, kit_ss, asB, b2, inD, hD, flatD]
    exact ⟨z, hz, e⟩
end DL

set_option Elab.async false
set_option linter.all false
set_option maxRecDepth 100000
set_option maxHeartbeats 4000000
/-! What a move makes of rows. -/
namespace DL
open PySem PySem.Spec
inductive Mv : Nat → PyData → Nat → Prop
  | value {c : Nat} {i : Nat} {v : PyData} : (c = 1 ∨ c = 2) → i < c → v ∈ valsU → Mv c (.tuple [.str "value", .int i, v]) c
  | same : Mv 2 (.tuple [.str "same", .int 0, .int 1]) 2
  | below01 : Mv 2 (.tuple [.str "below", .int 0, .int 1]) 2
  | below10 : Mv 2 (.tuple [.str "below", .int 1, .int 0]) 2
  | take0 {c : Nat} : (c = 1 ∨ c = 2) → Mv c (.tuple [.str "take", .tuple [.int 0]]) 1
  | take1 : Mv 2 (.tuple [.str "take", .tuple [.int 1]]) 1
  | take01 : Mv 2 (.tuple [.str "take", .tuple [.int 0, .int 1]]) 2
  | take10 : Mv 2 (.tuple [.str "take", .tuple [.int 1, .int 0]]) 2
theorem turns_sub {i : Nat} {T : DE → Option Bool} {F : DF} {ρ : DE} {ds : List PyData} (h : ∀ d ∈ ds, ∃ b, T (ρ.set i (some d)) = some b) (h2 : ∀ d ∈ ds, F (ρ.set i (some d)) = some d) : ∃ ys, turnsD (oneB i) T F ρ ds = some ys ∧ ys.length ≤ ds.length ∧ ∀ y ∈ ys, y ∈ ds := by
  refine ⟨_, turns_filter (t := fun d => (T (ρ.set i (some d))).getD false) (fun d hd => ?_) h2, List.length_filter_le _ _, fun y hy => (List.mem_filter.mp hy).1⟩
  obtain ⟨b, e⟩ := h d hd
  rw [e]
  rfl
theorem flat_val {v : PyData} (h : v ∈ valsU) : flatD v = true := List.all_eq_true.mp (show valsU.all flatD = true by decide +kernel) v h
theorem eqFD_val {v w : PyData} (h : v ∈ valsU) (h2 : w ∈ valsU) : eqFD v w = some (.bool (eqF v w)) := by
  unfold eqFD
  rw [if_pos ⟨flat_val h, flat_val h2⟩]
def isBlS : Option PyData → Bool
  | some (.bool _) => true
  | _ => false
theorem isBlS_eq {o : Option PyData} (h : isBlS o = true) : ∃ b, o = some (.bool b) := by
  unfold isBlS at h
  split at h
  · exact ⟨_, rfl⟩
  · cases h
theorem value_less_at {CF : Addr} {v w : PyData} (h : v ∈ valsU) (h2 : w ∈ valsU) : ∃ b, g_value_less CF [v, w] = some (.bool b) :=
  (show g_value_less CF = g_value_less 0 from rfl) ▸ isBlS_eq (all2 (show (valsU.all fun a => valsU.all fun b => isBlS (g_value_less 0 [a, b])) = true by decide +kernel) h h2)
/-- a column of a row -/
theorem ix_row {c : Nat} (hc : c = 1 ∨ c = 2) {r : PyData} (hr : r ∈ rowsU c) {i : Nat} (hi : i < c) : ∃ x, ixD r (.int i) = some x ∧ x ∈ valsU := by
  obtain ⟨vs, rfl, hl, hv⟩ := rowsU_len c hc r hr
  rcases hc with rfl | rfl
  · obtain ⟨x, rfl⟩ := List.length_eq_one_iff.mp hl
    obtain rfl : i = 0 := by omega
    exact ⟨x, rfl, hv x (by simp)⟩
  · obtain ⟨x, y, rfl⟩ : ∃ x y, vs = [x, y] := by
      match vs, hl with
      | [x, y], _ => exact ⟨x, y, rfl⟩
    match i, hi with
    | 0, _ => exact ⟨x, rfl, hv x (by simp)⟩
    | 1, _ => exact ⟨y, rfl, hv y (by simp)⟩
theorem filt_end {c : Nat} {R : List PyData} (g : GR c R) {T : DE → Option Bool} {ρ : DE} (hρ : 5 < ρ.length) (h : ∀ r ∈ R, ∃ b, T (ρ.set 5 (some r)) = some b) :
    ∃ R', turnsD (oneB 5) T (fun ρ => sl ρ 5) ρ R = some R' ∧ GR c R' := by
  obtain ⟨ys, e, l, m⟩ := turns_sub (i := 5) (F := fun ρ => sl ρ 5) h fun d _ => sl_set hρ
  exact ⟨ys, e, fun r hr => g.mem r (m r hr), by have := g.len; omega⟩
def filtE (ρ : DE) (R : List PyData) (T : DE → Option Bool) : Option PyData := ((if R.length ≤ 100000 then (turnsD (oneB 5) T (fun ρ => sl ρ 5) ρ R).map PyData.list else none).bind fun d => some [d]).bind tupleD
theorem filtE_at {c : Nat} {R : List PyData} (g : GR c R) {T : DE → Option Bool} {ρ : DE} (hρ : 5 < ρ.length) (h : ∀ r ∈ R, ∃ b, T (ρ.set 5 (some r)) = some b) : ∃ R', filtE ρ R T = some (.tuple R') ∧ GR c R' := by
  obtain ⟨R', e, g'⟩ := filt_end g hρ h
  refine ⟨R', ?_, g'⟩
  unfold filtE
  rw [if_pos (by have := g.len; omega), e]
  rfl
theorem word_lead (CF : Addr) (w : Str) (xs : List PyData) (R : List PyData) (hw : w = "below" ∨ w = "same" ∨ w = "take" ∨ w = "value") : g_done_on CF [.tuple (.str w :: xs), .tuple R, .tuple []] = g_done_on_one CF [.tuple (.str w :: xs), .tuple R] := by
  have h0 : b2 ixD (fun ρ => sl ρ 0) (fun _ => some (.int 0)) (startD 7 [.tuple (.str w :: xs), .tuple R, .tuple []]) = some (.str w) := by
    show L2.atI (.str w :: xs) 0 = _
    exact atI_0 _ _
  unfold g_done_on runD S_done_on
  simp only [List.length_cons, List.length_nil, if_true]
  unfold seqD ifD
  simp only [b2, Option.bind_some]
  have h1 : ((sl (startD 7 [.tuple (.str w :: xs), .tuple R, .tuple []]) 0).bind fun x => ixD x (.int 0)) = some (.str w) := h0
  rw [h1]
  rcases hw with rfl | rfl | rfl | rfl <;>
  · show (((((g_done_on_one CF [.tuple (_ :: xs), .tuple R]).map Rs.rt).bind _).bind _) : Option PyData) = _
    cases g_done_on_one CF [.tuple (_ :: xs), .tuple R] <;> rfl
theorem run_fin (o : Option PyData) : ((o.map Rs.rt).bind fun r => match r with
      | .nx _ => some .none
      | .rt d => some d) = o := by cases o <;> rfl
theorem done_value (CF : Addr) (x y : PyData) (R : List PyData) : g_done_on_one CF [.tuple [.str "value", x, y], .tuple R] =
    filtE [some (.tuple [.str "value", x, y]), some (.tuple R), some (.str "value"), some x, some y, none] R (fun ρ => (b2 eqFD (b2 ixD (fun ρ => sl ρ 5) (fun ρ => sl ρ 3)) (fun ρ => sl ρ 4) ρ).bind asB) := by
  unfold g_done_on_one runD S_done_on_one
  show ((((filtE [some (.tuple [.str "value", x, y]), some (.tuple R), some (.str "value"), some x, some y, none] R (fun ρ => (b2 eqFD (b2 ixD (fun ρ => sl ρ 5) (fun ρ => sl ρ 3)) (fun ρ => sl ρ 4) ρ).bind asB)).map Rs.rt).bind _).bind _ : Option PyData) = _
  generalize filtE [some (.tuple [.str "value", x, y]), some (.tuple R), some (.str "value"), some x, some y, none] R (fun ρ => (b2 eqFD (b2 ixD (fun ρ => sl ρ 5) (fun ρ => sl ρ 3)) (fun ρ => sl ρ 4) ρ).bind asB) = o
  cases o <;> rfl
theorem done_same (CF : Addr) (x y : PyData) (R : List PyData) : g_done_on_one CF [.tuple [.str "same", x, y], .tuple R] =
    filtE [some (.tuple [.str "same", x, y]), some (.tuple R), some (.str "same"), some x, some y, none] R (fun ρ => (b2 eqFD (b2 ixD (fun ρ => sl ρ 5) (fun ρ => sl ρ 3)) (b2 ixD (fun ρ => sl ρ 5) (fun ρ => sl ρ 4)) ρ).bind asB) := by
  unfold g_done_on_one runD S_done_on_one
  show ((((filtE [some (.tuple [.str "same", x, y]), some (.tuple R), some (.str "same"), some x, some y, none] R (fun ρ => (b2 eqFD (b2 ixD (fun ρ => sl ρ 5) (fun ρ => sl ρ 3)) (b2 ixD (fun ρ => sl ρ 5) (fun ρ => sl ρ 4)) ρ).bind asB)).map Rs.rt).bind _).bind _ : Option PyData) = _
  generalize filtE [some (.tuple [.str "same", x, y]), some (.tuple R), some (.str "same"), some x, some y, none] R (fun ρ => (b2 eqFD (b2 ixD (fun ρ => sl ρ 5) (fun ρ => sl ρ 3)) (b2 ixD (fun ρ => sl ρ 5) (fun ρ => sl ρ 4)) ρ).bind asB) = o
  cases o <;> rfl
theorem done_below (CF : Addr) (x y : PyData) (R : List PyData) : g_done_on_one CF [.tuple [.str "below", x, y], .tuple R] =
    filtE [some (.tuple [.str "below", x, y]), some (.tuple R), some (.str "below"), some x, some y, none] R (fun ρ => ((fun ρ => ((fun ρ => ((b2 ixD (fun ρ => sl ρ 5) (fun ρ => sl ρ 3)) ρ).bind fun d => ((fun ρ => ((b2 ixD (fun ρ => sl ρ 5) (fun ρ => sl ρ 4)) ρ).bind fun d => ((fun _ => some []) ρ).bind fun ds => some (d :: ds)) ρ).bind fun ds => some (d :: ds)) ρ).bind (g_value_less CF)) ρ).bind asB) := by
  unfold g_done_on_one runD S_done_on_one
  refine Eq.trans ?_ (run_fin _)
  rfl
theorem okK_all : ∀ c, c = 1 ∨ c = 2 → ((rowsU c).all fun r => okK r && isTupD r) = true := two_cs (by decide +kernel) (by decide +kernel)
theorem pairs_at {c : Nat} (hc : c = 1 ∨ c = 2) {ρ : DE} (hρ : 2 < ρ.length) : ∀ {R : List PyData}, (∀ r ∈ R, r ∈ rowsU c) → pairsD (oneB 2) (fun ρ => sl ρ 2) (fun _ => some (.bool true)) ρ R = some (R.map fun r => (r, .bool true))
  | [], _ => rfl
  | r :: R, h => by
    have k := Bool.and_eq_true_iff.mp (List.all_eq_true.mp (okK_all c hc) r (h r List.mem_cons_self))
    show ((sl (ρ.set 2 (some r)) 2).bind fun k => (some (.bool true) : Option PyData).bind fun v => if okK k = true ∧ isTupD k = true then (pairsD (oneB 2) (fun ρ => sl ρ 2) (fun _ => some (.bool true)) ρ R).map ((k, v) :: ·) else none) = _
    rw [sl_set hρ, pairs_at hc hρ fun x hx => h x (List.mem_cons_of_mem _ hx)]
    simp [k.1, k.2]
theorem putD_keys {kvs : List (PyData × PyData)} {k v : PyData} : (putD kvs k v).length ≤ kvs.length + 1 ∧ ∀ p ∈ putD kvs k v, p.1 = k ∨ p.1 ∈ kvs.map (·.1) := by
  unfold putD
  split
  · refine ⟨by simp, fun p hp => ?_⟩
    obtain ⟨q, hq, rfl⟩ := List.mem_map.mp hp
    right
    split
    · exact List.mem_map.mpr ⟨q, hq, rfl⟩
    · exact List.mem_map.mpr ⟨q, hq, rfl⟩
  · refine ⟨by simp, fun p hp => ?_⟩
    rcases List.mem_append.mp hp with h | h
    · exact .inr (List.mem_map.mpr ⟨p, h, rfl⟩)
    · rw [List.mem_singleton.mp h]; exact .inl rfl
theorem putAll_keys : ∀ (ps kvs : List (PyData × PyData)), (putAll kvs ps).length ≤ kvs.length + ps.length ∧ ∀ p ∈ putAll kvs ps, p.1 ∈ ps.map (·.1) ∨ p.1 ∈ kvs.map (·.1)
  | [], kvs => ⟨by simp [putAll], fun p hp => .inr (List.mem_map.mpr ⟨p, hp, rfl⟩)⟩
  | k :: ks, kvs => by
    obtain ⟨h1, h2⟩ := putAll_keys ks (putD kvs k.1 k.2)
    obtain ⟨h3, h4⟩ := putD_keys (kvs := kvs) (k := k.1) (v := k.2)
    refine ⟨by show (putAll (putD kvs k.1 k.2) ks).length ≤ _; simp only [List.length_cons]; omega, fun p hp => ?_⟩
    rcases h2 p hp with h | h
    · exact .inl (List.mem_cons_of_mem _ h)
    · obtain ⟨q, hq, e⟩ := List.mem_map.mp h
      rcases h4 q hq with z | z
      · rw [← e, z]; exact .inl List.mem_cons_self
      · rw [← e]; exact .inr z
def rkey : PyData → PyData
  | .tuple vs => .list (vs.map vkey)
  | d => d
theorem rkey_at {CF : Addr} {c : Nat} (hc : c = 1 ∨ c = 2) {r : PyData} (h : r ∈ rowsU c) : g_row_key CF [r] = some (rkey r) := by
  obtain ⟨vs, rfl, hl, hv⟩ := rowsU_len c hc r h
  have hl' : vs.length ≤ 100000 := by omega
  unfold g_row_key runD S_row_key
  simp [retD, lcD, startD, sl, asSeq, wipeD, hl']
  rw [turns_map (f := vkey) (fun r hr => ?_)]
  · simp [rkey]
  · simp [vkey_at (hv r hr)]
theorem rkeys_ok {c : Nat} (hc : c = 1 ∨ c = 2) {R : List PyData} (h : ∀ v ∈ R, v ∈ rowsU c) : okKeys (R.map rkey) = true := by
  have h1 : ∀ c, c = 1 ∨ c = 2 → ((rowsU c).all fun a => okEq (rkey a) && noTupNone (rkey a)) = true := two_cs (by decide +kernel) (by decide +kernel)
  have h2 : ∀ c, c = 1 ∨ c = 2 → ((rowsU c).all fun a => (rowsU c).all fun b => PySem.W.alike (rkey a) (rkey b)) = true := two_cs (by decide +kernel) (by decide +kernel)
  have h1' := fun v hv => Bool.and_eq_true_iff.mp (List.all_eq_true.mp (h1 c hc) v (h v hv))
  unfold okKeys
  simp only [Bool.and_eq_true, Bool.or_eq_true, List.all_eq_true, List.mem_map]
  refine ⟨⟨?_, ?_⟩, .inr ?_⟩
  · rintro _ ⟨v, hv, rfl⟩
    exact (h1' v hv).1
  · rintro _ ⟨v, hv, rfl⟩ _ ⟨w, hw, rfl⟩
    exact all2 (h2 c hc) (h v hv) (h w hw)
  · rintro _ ⟨v, hv, rfl⟩
    exact (h1' v hv).2
theorem risen_at {CF : Addr} {c : Nat} (hc : c = 1 ∨ c = 2) {R : List PyData} (g : GR c R) : ∃ R', g_risen CF [.list R] = some (.tuple R') ∧ GR c R' := by
  have hl := g.len
  have hp := pairs_at hc (ρ := wipeD (startD 3 [.list R]) [2]) (show 2 < 3 by decide) g.mem
  obtain ⟨l1, l2⟩ := putAll_keys (R.map fun r => (r, .bool true)) []
  generalize hks : (putAll [] (R.map fun r => (r, .bool true))).map (·.1) = ks
  have e : oneDict (.list R) = some ks := by
    unfold oneDict
    have h9 : R.length ≤ 900 := by omega
    simp only [asSeq, Option.bind_some, if_pos h9]
    rw [hp]
    simp [hks]
  have hm : ∀ x ∈ ks, x ∈ R := by
    intro x hx
    rw [← hks] at hx
    obtain ⟨p, hp, rfl⟩ := List.mem_map.mp hx
    rcases l2 p hp with z | z
    · simpa using z
    · cases z
  have hlk : ks.length ≤ 3 := by rw [← hks]; simp at l1 ⊢; omega
  have s := sortedD_at (g := g_row_key CF) (ds := ks) (f := rkey) (fun d hd => rkey_at hc (g.mem d (hm d hd))) (rkeys_ok hc fun v hv => g.mem v (hm v hv)) (by omega)
  have p := sortKD_perm id rkey ks
  refine ⟨_, ?_, fun u hu => g.mem u (hm u (p.mem_iff.mp hu)), by rw [p.length_eq]; exact hlk⟩
  show ((oneDict (.list R)).bind fun ks => (sortedD (g_row_key CF) [.list ks]).bind fun x => tupleD [x]) = _
  rw [e]
  simp only [Option.bind_some]
  rw [s]
  rfl
theorem picked_at {CF : Addr} {c c' : Nat} (hc' : c' = 1 ∨ c' = 2) {pk : List PyData} {f : PyData → PyData} {R : List PyData} (g : GR c R) (hpk : pk.length ≤ 100000) (h : ∀ r ∈ R, (turnsD (oneB 3) yesT (b2 ixD (fun ρ => sl ρ 2) (fun ρ => sl ρ 3)) [some (.tuple R), some (.tuple pk), some r, none] pk).map PyData.tuple = some (f r) ∧ f r ∈ rowsU c') : ∃ R', g_picked_rows CF [.tuple R, .tuple pk] = some (.tuple R') ∧ GR c' R' := by
  have g2 : GR c' (R.map f) := ⟨fun x hx => by
    obtain ⟨r, hr, rfl⟩ := List.mem_map.mp hx
    exact (h r hr).2, by simpa using g.len⟩
  obtain ⟨R', e, g'⟩ := risen_at (CF := CF) hc' g2
  refine ⟨R', ?_, g'⟩
  have hl : R.length ≤ 100000 := by have := g.len; omega
  unfold g_picked_rows runD S_picked_rows
  simp only [List.length_cons, List.length_nil, if_true]
  unfold retD
  have e1 : lcD [2] (fun ρ => ((fun ρ => sl ρ 0) ρ).bind asSeq) (oneB 2) yesT (fun ρ => ((fun ρ => ((lcD [3] (fun ρ => ((fun ρ => sl ρ 1) ρ).bind asSeq) (oneB 3) yesT (b2 ixD (fun ρ => sl ρ 2) (fun ρ => sl ρ 3))) ρ).bind fun d => ((fun _ => some []) ρ).bind fun ds => some (d :: ds)) ρ).bind tupleD) (startD 4 [.tuple R, .tuple pk]) = some (.list (R.map f)) := by
    show (if R.length ≤ 100000 then (turnsD (oneB 2) yesT _ [some (.tuple R), some (.tuple pk), none, none] R).map PyData.list else none) = _
    rw [if_pos hl, turns_map (f := f) fun r hr => ?_]
    · rfl
    · show ((((if pk.length ≤ 100000 then (turnsD (oneB 3) yesT (b2 ixD (fun ρ => sl ρ 2) (fun ρ => sl ρ 3)) [some (.tuple R), some (.tuple pk), some r, none] pk).map PyData.list else none).bind fun d => some [d]).bind tupleD) : Option PyData) = _
      rw [if_pos hpk, ← (h r hr).1]
      cases turnsD (oneB 3) yesT (b2 ixD (fun ρ => sl ρ 2) (fun ρ => sl ρ 3)) [some (.tuple R), some (.tuple pk), some r, none] pk <;> rfl
  simp only [Option.bind_some] at e1 ⊢
  rw [e1]
  simp only [Option.map_some, Option.bind_some, e]
theorem done_take (CF : Addr) (x : PyData) (R : List PyData) : g_done_on_one CF [.tuple [.str "take", x], .tuple R] = g_picked_rows CF [.tuple R, x] := by
  unfold g_done_on_one runD S_done_on_one
  show ((((g_picked_rows CF [.tuple R, x]).map Rs.rt).bind _).bind _ : Option PyData) = _
  cases g_picked_rows CF [.tuple R, x] <;> rfl
theorem row1 {x : PyData} (h : x ∈ valsU) : PyData.tuple [x] ∈ rowsU 1 := List.mem_map.mpr ⟨x, h, rfl⟩
theorem row2 {x y : PyData} (h : x ∈ valsU) (h2 : y ∈ valsU) : PyData.tuple [x, y] ∈ rowsU 2 := List.mem_flatMap.mpr ⟨x, h, List.mem_map.mpr ⟨y, h2, rfl⟩⟩
theorem take1_at {CF : Addr} {c i : Nat} (hc : c = 1 ∨ c = 2) (hi : i < c) {R : List PyData} (g : GR c R) : ∃ R', g_picked_rows CF [.tuple R, .tuple [.int i]] = some (.tuple R') ∧ GR 1 R' := by
  refine picked_at (f := fun r => .tuple [(ixD r (.int i)).getD .none]) (.inl rfl) g (by simp) fun r hr => ?_
  obtain ⟨x, e1, h1⟩ := ix_row hc (g.mem r hr) hi
  refine ⟨?_, by rw [e1]; exact row1 h1⟩
  show (((ixD r (.int i)).bind fun y => (some ([] : List PyData)).map (y :: ·)).map PyData.tuple) = _
  rw [e1]
  rfl
theorem take2_at {CF : Addr} {c i j : Nat} (hc : c = 1 ∨ c = 2) (hi : i < c) (hj : j < c) {R : List PyData} (g : GR c R) : ∃ R', g_picked_rows CF [.tuple R, .tuple [.int i, .int j]] = some (.tuple R') ∧ GR 2 R' := by
  refine picked_at (f := fun r => .tuple [(ixD r (.int i)).getD .none, (ixD r (.int j)).getD .none]) (.inr rfl) g (by simp) fun r hr => ?_
  obtain ⟨x, e1, h1⟩ := ix_row hc (g.mem r hr) hi
  obtain ⟨y, e2, h2⟩ := ix_row hc (g.mem r hr) hj
  refine ⟨?_, by rw [e1, e2]; exact row2 h1 h2⟩
  show (((ixD r (.int i)).bind fun y => ((ixD r (.int j)).bind fun y => (some ([] : List PyData)).map (y :: ·)).map (y :: ·)).map PyData.tuple) = _
  rw [e1, e2]
  rfl
theorem done_at {CF : Addr} {c c' : Nat} {m : PyData} (hm : Mv c m c') {R : List PyData} (g : GR c R) : ∃ R', g_done_on CF [m, .tuple R, .tuple []] = some (.tuple R') ∧ GR c' R' := by
  have two : ∀ {i j : Nat}, i < 2 → j < 2 → ∀ {R : List PyData}, GR 2 R → ∀ r ∈ R, ∃ x y, ixD r (.int i) = some x ∧ x ∈ valsU ∧ ixD r (.int j) = some y ∧ y ∈ valsU := by
    intro i j hi hj R g r hr
    obtain ⟨x, e1, h1⟩ := ix_row (.inr rfl) (g.mem r hr) hi
    obtain ⟨y, e2, h2⟩ := ix_row (.inr rfl) (g.mem r hr) hj
    exact ⟨x, y, e1, h1, e2, h2⟩
  cases hm with
  | @value c i v hc hi hv =>
    rw [word_lead _ _ _ _ (by simp), done_value]
    refine filtE_at g (by simp) fun r hr => ?_
    obtain ⟨x, e1, h1⟩ := ix_row hc (g.mem r hr) hi
    exact ⟨_, by simp [b2, sl, e1, eqFD_val h1 hv, asB]; rfl⟩
  | same =>
    rw [word_lead _ _ _ _ (by simp), done_same]
    refine filtE_at g (by simp) fun r hr => ?_
    obtain ⟨x, y, e1, h1, e2, h2⟩ := two (i := 0) (j := 1) (by omega) (by omega) g r hr
    simp only [Int.natCast_zero, Int.natCast_one] at e1 e2
    exact ⟨_, by simp [b2, sl, e1, e2, eqFD_val h1 h2, asB]; rfl⟩
  | below01 =>
    rw [word_lead _ _ _ _ (by simp), done_below]
    refine filtE_at g (by simp) fun r hr => ?_
    obtain ⟨x, y, e1, h1, e2, h2⟩ := two (i := 0) (j := 1) (by omega) (by omega) g r hr
    obtain ⟨b, e3⟩ := value_less_at (CF := CF) h1 h2
    simp only [Int.natCast_zero, Int.natCast_one] at e1 e2
    exact ⟨_, by simp [b2, sl, e1, e2, e3, asB]; rfl⟩
  | below10 =>
    rw [word_lead _ _ _ _ (by simp), done_below]
    refine filtE_at g (by simp) fun r hr => ?_
    obtain ⟨x, y, e1, h1, e2, h2⟩ := two (i := 1) (j := 0) (by omega) (by omega) g r hr
    obtain ⟨b, e3⟩ := value_less_at (CF := CF) h1 h2
    simp only [Int.natCast_zero, Int.natCast_one] at e1 e2
    exact ⟨_, by simp [b2, sl, e1, e2, e3, asB]; rfl⟩
  | take0 hc =>
    rw [word_lead _ _ _ _ (by simp), done_take]
    exact take1_at (i := 0) hc (by omega) g
  | take1 =>
    rw [word_lead _ _ _ _ (by simp), done_take]
    exact take1_at (i := 1) (.inr rfl) (by omega) g
  | take01 =>
    rw [word_lead _ _ _ _ (by simp), done_take]
    exact take2_at (i := 0) (j := 1) (.inr rfl) (by omega) (by omega) g
  | take10 =>
    rw [word_lead _ _ _ _ (by simp), done_take]
    exact take2_at (i := 1) (j := 0) (.inr rfl) (by omega) (by omega) g
end DL

set_option Elab.async false
set_option linter.all false
set_option maxRecDepth 100000
set_option maxHeartbeats 4000000
/-! The field's own functions. -/
namespace DL
open PySem PySem.Spec
def fld (CF : Addr) (bs nm dd : List PyData) : PyData := .dict [(.none, .int (CF : Nat)), (.str "books", .tuple bs), (.str "named", .tuple nm), (.str "deeds", .tuple dd)]
theorem attr_books (CF : Addr) (bs nm dd : List PyData) : attrD CF "books" (fld CF bs nm dd) = some (.tuple bs) := by
  simp [attrD, fld]
theorem attr_named (CF : Addr) (bs nm dd : List PyData) : attrD CF "named" (fld CF bs nm dd) = some (.tuple nm) := by
  have e : (Str.ofString "books" = Str.ofString "named") ↔ False := by decide
  simp [attrD, fld, e]
theorem attr_deeds (CF : Addr) (bs nm dd : List PyData) : attrD CF "deeds" (fld CF bs nm dd) = some (.tuple dd) := by
  have e : (Str.ofString "books" = Str.ofString "deeds") ↔ False := by decide
  have e2 : (Str.ofString "named" = Str.ofString "deeds") ↔ False := by decide
  simp [attrD, fld, e, e2]
theorem rows_ok {c : Nat} (hc : c = 1 ∨ c = 2) {R : List PyData} (g : GR c R) : R.all rowOk = true := by
  rw [List.all_eq_true]
  intro r hr
  exact List.all_eq_true.mp (rowOk_all c hc) r (g.mem r hr)
theorem strOk_name {n : Str} (h : n ∈ namesU) : (PyData.str n).canLay0 = true := List.all_eq_true.mp (show (namesU.all fun n => (PyData.str n).canLay0) = true by decide +kernel) n h
theorem okEq_tab {c : Nat} (hc : c = 1 ∨ c = 2) {n : Str} (hn : n ∈ namesU) {R : List PyData} (g : GR c R) : okEq (.list [mkTab (n, c) R]) = true := by
  obtain ⟨h1, h2, h3⟩ := rowsOk_eq (rows_ok hc g)
  have h4 := strOk_name hn
  simp only [PyData.canLay0] at h4
  simp [okEq, SeqAt.shaped, mkTab, PyData.canLay0, PyData.canLayAll0, PyData.depth, PyData.depthAll, noIns, noIns.noInsAll, h1, h3, h4]
  omega
theorem okEq_nil : okEq (.list []) = true := by decide +kernel
theorem eqv_cons_nil (x : PyData) (xs : List PyData) : PyData.eqv (.list (x :: xs)) (.list []) = false := by simp [PyData.eqv, PyData.eqvAll]
theorem eqFD_str (a b : Str) : eqFD (.str a) (.str b) = some (.bool (decide (a = b))) := rfl
theorem ixD_0 (x : PyData) (l : List PyData) : ixD (.list (x :: l)) (.int 0) = some x := atI_0 _ _
theorem ixD_0t (x : PyData) (l : List PyData) : ixD (.tuple (x :: l)) (.int 0) = some x := atI_0 _ _
inductive At : List Tn → List (List PyData) → Tn → List PyData → Prop
  | a {t : Tn} {ts : List Tn} {R : List PyData} {Rs : List (List PyData)} : At (t :: ts) (R :: Rs) t R
  | b {t u : Tn} {R S : List PyData} : At [t, u] [R, S] u S
theorem table_at_at {CF : Addr} {ts : List Tn} {Rs : List (List PyData)} (g : GB ts Rs) {t : Tn} {R : List PyData} (h : At ts Rs t R) : g_table_at CF [mkBook ts Rs, .str t.1] = some (mkTab t R) := by
  cases g with
  | @one n c R hn hc g hs =>
    cases h
    have ok := okEq_tab hc (heads1_U hn) g
    have e : mkBook [(n, c)] [R] = .tuple [mkTab (n, c) R] := rfl
    rw [e]
    have e2 : ixD (mkTab (n, c) R) (.int 0) = some (.str n) := atI_0 _ _
    unfold g_table_at runD S_table_at
    simp [seqD, ifD, setD, nxD, retD, lcD, startD, sl, asSeq, wipeD, turnsD, oneB, andT, isiD, tyD, kit_ss, asB, b2, e2, eqFD_str, eqD, ok, okEq_nil, eqv_cons_nil, lstD, ixD_0]
  | @two n m c e R S hn hc he g hs g2 hs2 =>
    obtain ⟨n1, n2, -, n4⟩ := heads2_U hn
    have ok := okEq_tab hc n1 g
    have ok2 := okEq_tab he n2 g2
    have e1 : mkBook [(n, c), (m, e)] [R, S] = .tuple [mkTab (n, c) R, mkTab (m, e) S] := rfl
    rw [e1]
    have e2 : ixD (mkTab (n, c) R) (.int 0) = some (.str n) := atI_0 _ _
    have e3 : ixD (mkTab (m, e) S) (.int 0) = some (.str m) := atI_0 _ _
    have n5 : ¬ m = n := fun z => n4 z.symm
    unfold g_table_at runD S_table_at
    cases h <;>
    simp [seqD, ifD, setD, nxD, retD, lcD, startD, sl, asSeq, wipeD, turnsD, oneB, andT, isiD, tyD, kit_ss, asB, b2, e2, e3, eqFD_str, eqD, ok, ok2, n4, n5, okEq_nil, eqv_cons_nil, lstD, ixD_0]
end DL

set_option Elab.async false
set_option linter.all false
set_option maxRecDepth 100000
set_option maxHeartbeats 4000000
namespace DL
open PySem PySem.Spec
theorem names_of_at {CF : Addr} {ts : List Tn} {Rs : List (List PyData)} (g : GB ts Rs) (bs nm dd : List PyData) : g_names_of CF [fld CF (mkBook ts Rs :: bs) nm dd] = some (.tuple (ts.map fun t => .str t.1)) := by
  have e := attr_books CF (mkBook ts Rs :: bs) nm dd
  generalize hf : fld CF (mkBook ts Rs :: bs) nm dd = f at *
  unfold g_names_of runD S_names_of
  cases g <;>
  simp [retD, lcD, startD, sl, e, b2, ixD_0t, asSeq, mkBook, mkTab, wipeD, turnsD, tupB, setAll, yesT, tupleD]
theorem table_columns_at {CF : Addr} {ts : List Tn} {Rs : List (List PyData)} (g : GB ts Rs) {t : Tn} {R : List PyData} (h : At ts Rs t R) (bs nm dd : List PyData) : g_table_columns CF [fld CF (mkBook ts Rs :: bs) nm dd, .str t.1] = some (.int t.2) := by
  have e := attr_books CF (mkBook ts Rs :: bs) nm dd
  have e2 := table_at_at (CF := CF) g h
  generalize hf : fld CF (mkBook ts Rs :: bs) nm dd = f at *
  unfold g_table_columns runD S_table_columns
  simp [retD, seqD, unpD, startD, sl, e, b2, ixD_0t, e2, mkTab, tupB, setAll]
theorem len_at (CF : Addr) (bs nm dd : List PyData) : g___len__ CF [fld CF bs nm dd] = some (.int bs.length) := by
  have e := attr_books CF bs nm dd
  generalize hf : fld CF bs nm dd = f at *
  unfold g___len__ runD S___len__
  simp [retD, startD, sl, e, lenD]
theorem lenID_at (CF : Addr) {bs : List PyData} (nm dd : List PyData) (hb : bs.length < 100000) : lenID CF (g___len__ CF) [fld CF bs nm dd] = some (.int bs.length) := by
  have e := len_at CF bs nm dd
  show (if ((CF : Nat) : Int) = (CF : Nat) then ((g___len__ CF [fld CF bs nm dd]).bind fun d => (asI d).bind fun n => if 0 ≤ n ∧ n < 100000 then some (PyData.int n) else none) else none) = _
  rw [if_pos rfl, e]
  simp [asI]
  omega
theorem check_number_at {CF : Addr} {n k : Int} (h0 : 0 ≤ k) (h1 : k < n) : g_check_number CF [.int n, .int k] = some .none := by
  have e : g_is_whole CF [.int k] = some (.bool true) := rfl
  unfold g_check_number runD S_check_number
  simp [ifD, orT, notT, nxD, startD, sl, e, asB, chD, cmpI, h0, h1]
theorem rows_of_at {CF : Addr} {ts : List Tn} {Rs Ss : List (List PyData)} (g : GB ts Rs) (g2 : GB ts Ss) {t : Tn} {R S : List PyData} (h : At ts Rs t R) (h2 : At ts Ss t S) {bs nm dd : List PyData} {k : Nat} (hb : (mkBook ts Rs :: bs).length < 100000) (hk : (mkBook ts Rs :: bs)[k]? = some (mkBook ts Ss)) :
    g_rows_of CF [fld CF (mkBook ts Rs :: bs) nm dd, .int k, .str t.1] = some (.tuple S) := by
  have e := attr_books CF (mkBook ts Rs :: bs) nm dd
  have e2 := table_at_at (CF := CF) g h
  have e3 := table_at_at (CF := CF) g2 h2
  have e4 := lenID_at CF nm dd hb
  have hkl : k < (mkBook ts Rs :: bs).length := (List.getElem?_eq_some_iff.mp hk).1
  have e5 : g_check_number CF [.int ((mkBook ts Rs :: bs).length : Nat), .int k] = some .none := check_number_at (by omega) (by omega)
  have e6 : ixD (.tuple (mkBook ts Rs :: bs)) (.int k) = some (mkBook ts Ss) := by
    have : L2.ixN (mkBook ts Rs :: bs).length (k : Int) = some k := by
      unfold L2.ixN
      simp only [Int.toNat_natCast]
      rw [if_pos (by omega), if_pos (by omega)]
    show L2.atI (mkBook ts Rs :: bs) (k : Int) = _
    unfold L2.atI
    rw [this]
    exact hk
  generalize hf : fld CF (mkBook ts Rs :: bs) nm dd = f at *
  unfold g_rows_of runD S_rows_of
  generalize (mkBook ts Rs :: bs).length = L at e4 e5
  simp [retD, seqD, exprD, unpD, startD, sl, e, b2, ixD_0t, e2, e3, e4, e5, e6, mkTab, tupB, setAll]
end DL

set_option Elab.async false
set_option linter.all false
set_option maxRecDepth 100000
set_option maxHeartbeats 4000000
/-! All moves on one. -/
namespace DL
open PySem PySem.Spec
def mvw (nm : List PyData) (c : Nat) (w : Str) : List PyData :=
  if w = "same" then (if c = 2 then [.tuple [.str "same", .int 0, .int 1]] else [])
  else if w = "below" then (if c = 2 then [.tuple [.str "below", .int 0, .int 1], .tuple [.str "below", .int 1, .int 0]] else [])
  else if w = "value" then (List.range c).flatMap fun i => nm.map fun v => .tuple [.str "value", .int (i : Nat), v]
  else if w = "take" then (if c = 2 then [.tuple [.str "take", .tuple [.int 0]], .tuple [.str "take", .tuple [.int 1]], .tuple [.str "take", .tuple [.int 0, .int 1]], .tuple [.str "take", .tuple [.int 1, .int 0]]] else [.tuple [.str "take", .tuple [.int 0]]])
  else []
def mvs (nm : List PyData) (dd : List Str) (c : Nat) : List PyData := dd.flatMap (mvw nm c)
/-- the columns behind a move -/
def cw : PyData → Nat → Nat
  | .tuple [.str _, .tuple ps], _ => ps.length
  | _, c => c
theorem mvw_len {nm : List PyData} {c : Nat} {w : Str} (hc : c = 1 ∨ c = 2) (hn : nm.length ≤ 3) : (mvw nm c w).length ≤ 6 := by
  unfold mvw
  rcases hc with rfl | rfl <;>
  · split
    · simp
    · split
      · simp
      · split
        · simp [List.range_succ]; omega
        · split <;> simp
theorem mvw_mv {nm : List PyData} {c : Nat} {w : Str} (hc : c = 1 ∨ c = 2) (hn : ∀ v ∈ nm, v ∈ valsU) : ∀ m ∈ mvw nm c w, Mv c m (cw m c) := by
  intro m hm
  unfold mvw at hm
  split at hm
  · split at hm
    · subst c; rw [List.mem_singleton.mp hm]; exact .same
    · cases hm
  · split at hm
    · split at hm
      · subst c
        rcases (by simpa using hm : m = _ ∨ m = _) with rfl | rfl
        · exact .below01
        · exact .below10
      · cases hm
    · split at hm
      · obtain ⟨i, hi, hm⟩ := List.mem_flatMap.mp hm
        obtain ⟨v, hv, rfl⟩ := List.mem_map.mp hm
        exact .value hc (List.mem_range.mp hi) (hn v hv)
      · split at hm
        · split at hm
          · subst c
            rcases (by simpa using hm : m = _ ∨ m = _ ∨ m = _ ∨ m = _) with rfl | rfl | rfl | rfl
            · exact .take0 (.inr rfl)
            · exact .take1
            · exact .take01
            · exact .take10
          · rw [List.mem_singleton.mp hm]
            exact .take0 hc
        · cases hm
theorem mw_value {CF : Addr} {c : Nat} (hc : c = 1 ∨ c = 2) (bs : List PyData) {nm : List PyData} (dd : List PyData) (hl : nm.length ≤ 3) : g_moves_by_word CF [fld CF bs nm dd, .str "value", .int c] = some (.list (mvw nm c "value")) := by
  have e := attr_named CF bs nm dd
  generalize hf : fld CF bs nm dd = f at *
  have l3 : nm.length ≤ 300 := by omega
  have t : ∀ (x0 x1 x2 x3 x6 : Option PyData) (i : Int), turnsD (oneB 5) yesT (fun ρ => ((sl ρ 1).bind fun d => ((sl ρ 4).bind fun d => ((sl ρ 5).bind fun d => some [d]).bind fun ds => some (d :: ds)).bind fun ds => some (d :: ds)).bind tupD) [x0, some (.str "value"), x2, x3, some (.int i), none, x6] nm = some (nm.map fun v => .tuple [.str "value", .int i, v]) := fun x0 x1 x2 x3 x6 i => by
    rw [turns_map (f := fun v => .tuple [.str "value", .int i, v])]
    intro d hd
    simp [sl, tupD]
  have key : lc2D [4, 5] [5] (rng1D (fun ρ => sl ρ 2)) (oneB 4) yesT (fun ρ => ((fun ρ => ((fun ρ => sl ρ 0) ρ).bind (attrD CF "named")) ρ).bind asSeq) (oneB 5) yesT (fun ρ => ((fun ρ => ((fun ρ => sl ρ 1) ρ).bind fun d => ((fun ρ => ((fun ρ => sl ρ 4) ρ).bind fun d => ((fun ρ => ((fun ρ => sl ρ 5) ρ).bind fun d => ((fun _ => some []) ρ).bind fun ds => some (d :: ds)) ρ).bind fun ds => some (d :: ds)) ρ).bind fun ds => some (d :: ds)) ρ).bind tupD) [some f, some (.str "value"), some (.int c), none, none, none, none] = some (.list ((List.range c).flatMap fun i => nm.map fun v => .tuple [.str "value", .int (i : Nat), v])) := by
    rcases hc with rfl | rfl <;>
    simp [lc2D, rng1D, sl, asI, rngD, List.range_succ, wipeD, turns2D, oneB, e, asSeq, l3, yesT]
    · have t1 := t (some f) (some (.str "value")) (some (.int 1)) none none 0
      simp [sl, yesT] at t1
      rw [t1]
    · have t1 := t (some f) (some (.str "value")) (some (.int 2)) none none 0
      have t2 := t (some f) (some (.str "value")) (some (.int 2)) none none 1
      simp [sl, yesT] at t1 t2
      rw [t1, t2]
      simp
  have em : mvw nm c "value" = (List.range c).flatMap fun i => nm.map fun v => .tuple [.str "value", .int (i : Nat), v] := by
    unfold mvw
    rw [if_neg (by decide), if_neg (by decide), if_pos rfl]
  rw [em, ← key]
  unfold g_moves_by_word runD S_moves_by_word
  show ((((lc2D [4, 5] [5] (rng1D (fun ρ => sl ρ 2)) (oneB 4) yesT (fun ρ => ((fun ρ => ((fun ρ => sl ρ 0) ρ).bind (attrD CF "named")) ρ).bind asSeq) (oneB 5) yesT (fun ρ => ((fun ρ => ((fun ρ => sl ρ 1) ρ).bind fun d => ((fun ρ => ((fun ρ => sl ρ 4) ρ).bind fun d => ((fun ρ => ((fun ρ => sl ρ 5) ρ).bind fun d => ((fun _ => some []) ρ).bind fun ds => some (d :: ds)) ρ).bind fun ds => some (d :: ds)) ρ).bind fun ds => some (d :: ds)) ρ).bind tupD) [some f, some (.str "value"), some (.int c), none, none, none, none]).map Rs.rt).bind _).bind _ : Option PyData) = _
  generalize lc2D [4, 5] [5] (rng1D (fun ρ => sl ρ 2)) (oneB 4) yesT (fun ρ => ((fun ρ => ((fun ρ => sl ρ 0) ρ).bind (attrD CF "named")) ρ).bind asSeq) (oneB 5) yesT (fun ρ => ((fun ρ => ((fun ρ => sl ρ 1) ρ).bind fun d => ((fun ρ => ((fun ρ => sl ρ 4) ρ).bind fun d => ((fun ρ => ((fun ρ => sl ρ 5) ρ).bind fun d => ((fun _ => some []) ρ).bind fun ds => some (d :: ds)) ρ).bind fun ds => some (d :: ds)) ρ).bind fun ds => some (d :: ds)) ρ).bind tupD) [some f, some (.str "value"), some (.int c), none, none, none, none] = o
  cases o <;> rfl
theorem moves_by_word_at {CF : Addr} {c : Nat} (hc : c = 1 ∨ c = 2) (bs : List PyData) {nm : List PyData} (dd : List PyData) (hl : nm.length ≤ 3) {w : Str} (hw : w ∈ DW) : g_moves_by_word CF [fld CF bs nm dd, .str w, .int c] = some (.list (mvw nm c w)) := by
  rcases (by simpa [DW] using hw : w = _ ∨ w = _ ∨ w = _ ∨ w = _ ∨ w = _ ∨ w = _ ∨ w = _ ∨ w = _ ∨ w = _) with rfl | rfl | rfl | rfl | rfl | rfl | rfl | rfl | rfl
  case inr.inr.inr.inr.inr.inr.inl => exact mw_value hc bs dd hl
  all_goals
    generalize hf : fld CF bs nm dd = f
    rcases hc with rfl | rfl <;> rfl
theorem turns2_at {B : PyData → DE → Option DE} {L1 : DE → Option (List PyData)} {vs1 : List Nat} {j : Nat} {F : DF} {ρ : DE} {g : PyData → DE} {f : PyData → List PyData} : ∀ {ds : List PyData}, (∀ d ∈ ds, B d ρ = some (g d)) → (∀ d ∈ ds, L1 (g d) = some (f d)) → (∀ d ∈ ds, (f d).length ≤ 300) → (∀ d ∈ ds, turnsD (oneB j) yesT F (wipeD (g d) vs1) (f d) = some (f d)) → turns2D B yesT L1 vs1 (oneB j) yesT F ρ ds = some (ds.flatMap f)
  | [], _, _, _, _ => rfl
  | d :: ds, h, h2, h3, h4 => by
    have ih := turns2_at (fun x hx => h x (List.mem_cons_of_mem _ hx)) (fun x hx => h2 x (List.mem_cons_of_mem _ hx)) (fun x hx => h3 x (List.mem_cons_of_mem _ hx)) (fun x hx => h4 x (List.mem_cons_of_mem _ hx))
    show ((B d ρ).bind fun ρ1 => (yesT ρ1).bind fun k => if k = true then (L1 ρ1).bind fun es => if es.length ≤ 300 then (turnsD (oneB j) yesT F (wipeD ρ1 vs1) es).bind fun ys => (turns2D B yesT L1 vs1 (oneB j) yesT F ρ ds).map (ys ++ ·) else none else turns2D B yesT L1 vs1 (oneB j) yesT F ρ ds) = _
    rw [h d List.mem_cons_self, ih]
    simp [yesT, h2 d List.mem_cons_self, h3 d List.mem_cons_self, h4 d List.mem_cons_self]
end DL

set_option Elab.async false
set_option linter.all false
set_option maxRecDepth 100000
set_option maxHeartbeats 4000000
/-! The questions of two names, in their order. -/
namespace DL
open PySem PySem.Spec
def MU : List PyData := [.tuple [.str "below", .int 0, .int 1], .tuple [.str "below", .int 1, .int 0], .tuple [.str "same", .int 0, .int 1], .tuple [.str "take", .tuple [.int 0, .int 1]], .tuple [.str "take", .tuple [.int 0]], .tuple [.str "take", .tuple [.int 1, .int 0]], .tuple [.str "take", .tuple [.int 1]], .tuple [.str "value", .int 0, .int 0], .tuple [.str "value", .int 0, .int 1], .tuple [.str "value", .int 0, .int 10], .tuple [.str "value", .int 0, .int 2], .tuple [.str "value", .int 0, .str "a"], .tuple [.str "value", .int 0, .str "ab"], .tuple [.str "value", .int 1, .int 0], .tuple [.str "value", .int 1, .int 1], .tuple [.str "value", .int 1, .int 10], .tuple [.str "value", .int 1, .int 2], .tuple [.str "value", .int 1, .str "a"], .tuple [.str "value", .int 1, .str "ab"]]
def mvq : PyData → PyData → PyData
  | .tuple xs, q => .tuple (xs ++ [q])
  | d, _ => d
def QU (h : Str × Str) : List PyData := [.str h.1, .str h.2] ++ MU.flatMap fun mv => [mvq mv (.str h.1), mvq mv (.str h.2)]
theorem threeH {p : Str × Str → Prop} (h1 : p ("a", "ab")) (h2 : p ("rose", "rosea")) (h3 : p ("b", "ba")) : ∀ h ∈ heads2, p h := by
  intro h hh
  rcases (by simpa [heads2] using hh : h = _ ∨ h = _ ∨ h = _) with rfl | rfl | rfl <;> assumption
theorem qu_range : ∀ h ∈ heads2, (QU h).map (pl (QU h)) = List.range (QU h).length := threeH (by decide +kernel) (by decide +kernel) (by decide +kernel)
theorem qu_inj {h : Str × Str} (hh : h ∈ heads2) {a b : PyData} (ha : a ∈ QU h) (hb : b ∈ QU h) (e : pl (QU h) a = pl (QU h) b) : a = b := inj_of_range (qu_range h hh) ha hb e
def isSo : Option PyData → Bool
  | some _ => true
  | none => false
def rkV (q : PyData) : PyData := (g_rank 0 [q]).getD .none
theorem rank_all : ∀ h ∈ heads2, ((QU h).all fun q => isSo (g_rank 0 [q])) = true := threeH (by decide +kernel) (by decide +kernel) (by decide +kernel)
theorem rank_at {CF : Addr} {h : Str × Str} (hh : h ∈ heads2) {q : PyData} (hq : q ∈ QU h) : g_rank CF [q] = some (rkV q) := by
  have e : g_rank CF = g_rank 0 := rfl
  have := List.all_eq_true.mp (rank_all h hh) q hq
  rw [e]
  unfold rkV
  cases hr : g_rank 0 [q] with
  | none => rw [hr] at this; cases this
  | some x => rfl
theorem ahead_all : ∀ h ∈ heads2, ((QU h).all fun a => (QU h).all fun b => ltDD (rkV a) (rkV b) && (PySem.W.dataLt (rkV a) (rkV b) == decide (pl (QU h) a < pl (QU h) b))) = true := threeH (by decide +kernel) (by decide +kernel) (by decide +kernel)
theorem leTr_all : ∀ h ∈ heads2, ((QU h).all fun a => (QU h).all fun b => leTr id (rkV a) (rkV b) == decide (pl (QU h) a ≤ pl (QU h) b)) = true := threeH (by decide +kernel) (by decide +kernel) (by decide +kernel)
theorem ok_all : ∀ h ∈ heads2, ((QU h).all fun a => okEq (rkV a) && isTupNe (rkV a)) = true := threeH (by decide +kernel) (by decide +kernel) (by decide +kernel)
theorem alike_all : ∀ h ∈ heads2, ((QU h).all fun a => (QU h).all fun b => PySem.W.alike (rkV a) (rkV b)) = true := threeH (by decide +kernel) (by decide +kernel) (by decide +kernel)
theorem mono_all : ∀ h ∈ heads2, (MU.all fun mv => [PyData.str h.1, .str h.2].all fun a => [PyData.str h.1, .str h.2].all fun b => (!decide (pl (QU h) a ≤ pl (QU h) b)) || decide (pl (QU h) (mvq mv a) ≤ pl (QU h) (mvq mv b))) = true := threeH (by decide +kernel) (by decide +kernel) (by decide +kernel)
theorem low_all : ∀ h ∈ heads2, (MU.all fun mv => [PyData.str h.1, .str h.2].all fun a => [PyData.str h.1, .str h.2].all fun b => decide (pl (QU h) a ≤ pl (QU h) (mvq mv b))) = true := threeH (by decide +kernel) (by decide +kernel) (by decide +kernel)
theorem ahead_at {CF : Addr} {h : Str × Str} (hh : h ∈ heads2) {a b : PyData} (ha : a ∈ QU h) (hb : b ∈ QU h) : ltD (rkV a) (rkV b) = some (.bool (decide (pl (QU h) a < pl (QU h) b))) := by
  have := Bool.and_eq_true_iff.mp (all2 (ahead_all h hh) ha hb)
  unfold ltD
  rw [if_pos this.1, eq_of_beq this.2]
theorem is_ahead_at {CF : Addr} {h : Str × Str} (hh : h ∈ heads2) {a b : PyData} (ha : a ∈ QU h) (hb : b ∈ QU h) : g_is_ahead CF [a, b] = some (.bool (decide (pl (QU h) a < pl (QU h) b))) := by
  have e1 := rank_at (CF := CF) hh ha
  have e2 := rank_at (CF := CF) hh hb
  have e3 := ahead_at (CF := CF) hh ha hb
  unfold g_is_ahead runD S_is_ahead
  simp [retD, startD, sl, b2, e1, e2, e3]
theorem leTr_at {h : Str × Str} (hh : h ∈ heads2) {a b : PyData} (ha : a ∈ QU h) (hb : b ∈ QU h) : leTr id (rkV a) (rkV b) = decide (pl (QU h) a ≤ pl (QU h) b) := eq_of_beq (all2 (leTr_all h hh) ha hb)
theorem ranks_ok {h : Str × Str} (hh : h ∈ heads2) {qs : List PyData} (hq : ∀ q ∈ qs, q ∈ QU h) : okKeys (qs.map rkV) = true := by
  have h1' := fun v hv => Bool.and_eq_true_iff.mp (List.all_eq_true.mp (ok_all h hh) v (hq v hv))
  unfold okKeys
  simp only [Bool.and_eq_true, Bool.or_eq_true, List.all_eq_true, List.mem_map]
  refine ⟨⟨?_, ?_⟩, .inl ?_⟩
  · rintro _ ⟨v, hv, rfl⟩
    exact (h1' v hv).1
  · rintro _ ⟨v, hv, rfl⟩ _ ⟨w, hw, rfl⟩
    exact all2 (alike_all h hh) (hq v hv) (hq w hw)
  · rintro _ ⟨v, hv, rfl⟩
    exact (h1' v hv).2
theorem mono_at {h : Str × Str} (hh : h ∈ heads2) {mv : PyData} (hm : mv ∈ MU) {a b : PyData} (ha : a = .str h.1 ∨ a = .str h.2) (hb : b = .str h.1 ∨ b = .str h.2) (hl : pl (QU h) a ≤ pl (QU h) b) : pl (QU h) (mvq mv a) ≤ pl (QU h) (mvq mv b) := by
  have := all2 (List.all_eq_true.mp (mono_all h hh) mv hm) (a := a) (b := b) (by simpa using ha) (by simpa using hb)
  simpa [hl] using this
theorem low_at {h : Str × Str} (hh : h ∈ heads2) {mv : PyData} (hm : mv ∈ MU) {a b : PyData} (ha : a = .str h.1 ∨ a = .str h.2) (hb : b = .str h.1 ∨ b = .str h.2) : pl (QU h) a ≤ pl (QU h) (mvq mv b) := by
  have := all2 (List.all_eq_true.mp (low_all h hh) mv hm) (a := a) (b := b) (by simpa using ha) (by simpa using hb)
  simpa using this
theorem qu_name {h : Str × Str} {a : PyData} (ha : a = .str h.1 ∨ a = .str h.2) : a ∈ QU h := by
  unfold QU
  rcases ha with rfl | rfl <;> simp
theorem qu_move {h : Str × Str} {mv a : PyData} (hm : mv ∈ MU) (ha : a = .str h.1 ∨ a = .str h.2) : mvq mv a ∈ QU h := by
  unfold QU
  refine List.mem_append_right _ (List.mem_flatMap.mpr ⟨mv, hm, ?_⟩)
  rcases ha with rfl | rfl <;> simp
theorem mv_MU {c c' : Nat} {m : PyData} (h : Mv c m c') : m ∈ MU := by
  cases h with
  | @value c i v hc hi hv =>
    have hi2 : i = 0 ∨ i = 1 := by omega
    rcases hi2 with rfl | rfl <;>
    rcases (by simpa [valsU] using hv : v = _ ∨ v = _ ∨ v = _ ∨ v = _ ∨ v = _ ∨ v = _) with rfl | rfl | rfl | rfl | rfl | rfl <;> simp [MU]
  | same => simp [MU]
  | below01 => simp [MU]
  | below10 => simp [MU]
  | take0 hc => simp [MU]
  | take1 => simp [MU]
  | take01 => simp [MU]
  | take10 => simp [MU]
end DL

set_option Elab.async false
set_option linter.all false
set_option maxRecDepth 100000
set_option maxHeartbeats 4000000
/-! Lots over views of two books. -/
namespace DL
open PySem PySem.Spec
structure Lt where
  s : Nat
  q : PyData
  c : Nat
  A : List PyData
  B : List PyData
def vw : Nat → Lt → List PyData
  | 0, x => [.tuple x.A, .tuple x.B]
  | 1, x => [.tuple x.A]
  | _, x => [.tuple x.B]
def lotv (v : Nat) (x : Lt) : PyData := .tuple [.int x.s, x.q, .int x.c, .tuple (vw v x)]
def kdv (v : Nat) (x : Lt) : PyData := .tuple [.int x.c, .tuple (vw v x)]
structure GL (x : Lt) : Prop where
  c : x.c = 1 ∨ x.c = 2
  A : GR x.c x.A
  B : GR x.c x.B
def dn (CF : Addr) (m : PyData) (A : List PyData) : List PyData := match g_done_on CF [m, .tuple A, .tuple []] with
  | some (.tuple R) => R
  | _ => []
theorem dn_at {CF : Addr} {c c' : Nat} {m : PyData} (hm : Mv c m c') {R : List PyData} (g : GR c R) : g_done_on CF [m, .tuple R, .tuple []] = some (.tuple (dn CF m R)) ∧ GR c' (dn CF m R) := by
  obtain ⟨R', e, g'⟩ := done_at (CF := CF) hm g
  have : dn CF m R = R' := by unfold dn; rw [e]
  rw [this]
  exact ⟨e, g'⟩
def mkL (CF : Addr) (x : Lt) (m : PyData) : Lt := ⟨x.s + 1, mvq m x.q, cw m x.c, dn CF m x.A, dn CF m x.B⟩
def by_ (CF : Addr) (nm : List PyData) (dd : List Str) (x : Lt) : List Lt := (mvs nm dd x.c).map (mkL CF x)
theorem mvs_mv {nm : List PyData} {dd : List Str} {c : Nat} (hc : c = 1 ∨ c = 2) (hn : ∀ v ∈ nm, v ∈ valsU) : ∀ m ∈ mvs nm dd c, Mv c m (cw m c) := by
  intro m hm
  obtain ⟨w, hw, hm⟩ := List.mem_flatMap.mp hm
  exact mvw_mv hc hn m hm
theorem mkL_gl {CF : Addr} {nm : List PyData} {dd : List Str} {x : Lt} (g : GL x) (hn : ∀ v ∈ nm, v ∈ valsU) {m : PyData} (hm : m ∈ mvs nm dd x.c) : GL (mkL CF x m) := by
  have h := mvs_mv g.c hn m hm
  refine ⟨?_, (dn_at h g.A).2, (dn_at h g.B).2⟩
  have hc := g.c
  show cw m x.c = 1 ∨ cw m x.c = 2
  revert h
  generalize x.c = c at *
  intro h
  generalize cw m c = c' at *
  cases h <;> simp_all
theorem mvs_len {nm : List PyData} {dd : List Str} {c : Nat} (hc : c = 1 ∨ c = 2) (hl : nm.length ≤ 3) : (mvs nm dd c).length ≤ 6 * dd.length := by
  unfold mvs
  induction dd with
  | nil => simp
  | cons w dd ih =>
    have := mvw_len (w := w) hc hl
    simp only [List.flatMap_cons, List.length_append, List.length_cons]
    omega
def mvwD (nm : List PyData) (c : Nat) : PyData → List PyData
  | .str w => mvw nm c w
  | _ => []
theorem moves_at {CF : Addr} {c : Nat} (hc : c = 1 ∨ c = 2) (bs : List PyData) {nm : List PyData} {dd : List Str} (hl : nm.length ≤ 3) (hd : ∀ w ∈ dd, w ∈ DW) (hdl : dd.length ≤ 9) : g_moves_on_one CF [fld CF bs nm (dd.map .str), .tuple (dd.map .str), .int c] = some (.list (mvs nm dd c)) := by
  have e : ∀ w ∈ dd, g_moves_by_word CF [fld CF bs nm (dd.map .str), .str w, .int c] = some (.list (mvw nm c w)) := fun w hw => moves_by_word_at hc bs (dd.map .str) hl (hd w hw)
  generalize hf : fld CF bs nm (dd.map .str) = f at *
  have hd3 : dd.length ≤ 300 := by omega
  have t : turns2D (oneB 3) yesT (fun ρ => ((fun ρ => ((fun ρ => ((fun ρ => sl ρ 0) ρ).bind fun d => ((fun ρ => ((fun ρ => sl ρ 3) ρ).bind fun d => ((fun ρ => ((fun ρ => sl ρ 2) ρ).bind fun d => ((fun _ => some []) ρ).bind fun ds => some (d :: ds)) ρ).bind fun ds => some (d :: ds)) ρ).bind fun ds => some (d :: ds)) ρ).bind (g_moves_by_word CF)) ρ).bind asSeq) [4] (oneB 4) yesT (fun ρ => sl ρ 4) [some f, some (.tuple (dd.map .str)), some (.int c), none, none] (dd.map .str) = some ((dd.map PyData.str).flatMap (mvwD nm c)) := by
    refine turns2_at (g := fun d => [some f, some (.tuple (dd.map .str)), some (.int c), some d, none]) (fun d _ => rfl) (fun d hdm => ?_) (fun d hdm => ?_) fun d hdm => ?_
    · obtain ⟨w, hw, rfl⟩ := List.mem_map.mp hdm
      simp [sl, e w hw, asSeq, mvwD]
    · obtain ⟨w, hw, rfl⟩ := List.mem_map.mp hdm
      have := mvw_len (w := w) hc hl
      show (mvw nm c w).length ≤ 300
      omega
    · rw [turns_map (f := id) fun y _ => rfl]
      simp
  unfold g_moves_on_one runD S_moves_on_one
  show (((((if (dd.map PyData.str).length ≤ 300 then (turns2D (oneB 3) yesT (fun ρ => ((fun ρ => ((fun ρ => ((fun ρ => sl ρ 0) ρ).bind fun d => ((fun ρ => ((fun ρ => sl ρ 3) ρ).bind fun d => ((fun ρ => ((fun ρ => sl ρ 2) ρ).bind fun d => ((fun _ => some []) ρ).bind fun ds => some (d :: ds)) ρ).bind fun ds => some (d :: ds)) ρ).bind fun ds => some (d :: ds)) ρ).bind (g_moves_by_word CF)) ρ).bind asSeq) [4] (oneB 4) yesT (fun ρ => sl ρ 4) [some f, some (.tuple (dd.map .str)), some (.int c), none, none] (dd.map .str)).map PyData.list else none).map Rs.rt).bind _)) : Option PyData) = _
  rw [t, if_pos (by simpa using hd3)]
  show some (PyData.list _) = _
  rw [List.flatMap_map]
  rfl
theorem eqF_self {v : PyData} (h : v ∈ valsU) : eqF v v = true := List.all_eq_true.mp (show (valsU.all fun v => eqF v v) = true by decide +kernel) v h
theorem scal_val {CF : Addr} {v : PyData} (h : v ∈ valsU) : g_is_whole CF [v] = some (.bool true) ∨ (g_is_whole CF [v] = some (.bool false) ∧ isiD "str" v = some (.bool true)) := by
  rcases (by simpa [valsU] using h : v = _ ∨ v = _ ∨ v = _ ∨ v = _ ∨ v = _ ∨ v = _) with rfl | rfl | rfl | rfl | rfl | rfl
  · exact .inl rfl
  · exact .inl rfl
  · exact .inl rfl
  · exact .inl rfl
  · exact .inr ⟨rfl, rfl⟩
  · exact .inr ⟨rfl, rfl⟩
theorem is_named_at {CF : Addr} (bs : List PyData) {nm : List PyData} (dd : List PyData) (hn : ∀ v ∈ nm, v ∈ valsU) {v : PyData} (hv : v ∈ nm) : g_is_named CF [fld CF bs nm dd, v] = some (.bool true) := by
  have e := attr_named CF bs nm dd
  generalize hf : fld CF bs nm dd = f at *
  have h1 := flat_val (hn v hv)
  have h2 : ∀ x ∈ nm, flatD x = true := fun x hx => flat_val (hn x hx)
  have h3 : nm.any (fun z => eqF z v) = true := List.any_eq_true.mpr ⟨v, hv, eqF_self (hn v hv)⟩
  unfold g_is_named runD S_is_named
  have h4 : inD false v (.tuple nm) = some (.bool true) := by
    unfold inD
    simp [h1, h3]
    exact h2
  rcases scal_val (CF := CF) (hn v hv) with k | ⟨k, k2⟩ <;>
  simp [retD, startD, sl, andV, orV, b2, e, k, h4, asB]
  all_goals simp [k2, asB]
theorem columns_at {CF : Addr} {c : Nat} (hc : c = 1 ∨ c = 2) (bs : List PyData) {nm : List PyData} {dd : List Str} (hn : ∀ v ∈ nm, v ∈ valsU) {m : PyData} (hm : m ∈ mvs nm dd c) (dd2 : List PyData) : g_columns_by_one CF [fld CF bs nm dd2, m, .int c] = some (.int (cw m c)) := by
  obtain ⟨w, hw, hm'⟩ := List.mem_flatMap.mp hm
  clear hm
  have en : ∀ v ∈ nm, g_is_named CF [fld CF bs nm dd2, v] = some (.bool true) := fun v hv => is_named_at bs dd2 hn hv
  generalize hf : fld CF bs nm dd2 = f at *
  unfold mvw at hm'
  split at hm'
  · split at hm'
    · subst c; rw [List.mem_singleton.mp hm']; rfl
    · cases hm'
  · split at hm'
    · split at hm'
      · subst c
        rcases (by simpa using hm' : m = _ ∨ m = _) with rfl | rfl <;> rfl
      · cases hm'
    · split at hm'
      · obtain ⟨i, hi, hm2⟩ := List.mem_flatMap.mp hm'
        obtain ⟨v, hv, rfl⟩ := List.mem_map.mp hm2
        have hi := List.mem_range.mp hi
        have ec : g_is_column CF [.int (i : Nat), .int c] = some (.bool true) := by
          have e : g_is_whole CF [.int (i : Nat)] = some (.bool true) := rfl
          unfold g_is_column runD S_is_column
          simp [retD, startD, sl, andV, e, asB, chD, cmpI]
          omega
        have ev := en v hv
        have e5 : ixD (.list [.int (i : Nat), v]) (.int 0) = some (.int (i : Nat)) := atI_0 _ _
        have e6 : ixD (.list [.int (i : Nat), v]) (.int 1) = some v := rfl
        have d1 : (Str.ofString "value" = Str.ofString "take") ↔ False := by decide
        unfold g_columns_by_one runD S_columns_by_one
        simp [seqD, starD, ifD, notT, nxD, retD, setD, startD, sl, b2, eqFD_str, asB, e5, e6, ec, ev, cw, d1]
      · split at hm'
        · split at hm'
          · subst c
            rcases (by simpa using hm' : m = _ ∨ m = _ ∨ m = _ ∨ m = _) with rfl | rfl | rfl | rfl <;> rfl
          · rw [List.mem_singleton.mp hm']
            rcases hc with rfl | rfl <;> rfl
        · cases hm'
theorem vw_len (v : Nat) (x : Lt) : (vw v x).length ≤ 2 := by
  unfold vw
  split <;> simp
theorem done_vw {CF : Addr} {x : Lt} (g : GL x) {m : PyData} {c' : Nat} (h : Mv x.c m c') (v : Nat) : mapD (fun one => g_done_on CF [m, one, .tuple []]) (vw v x) = some (vw v (mkL CF x m)) := by
  have h1 := (dn_at (CF := CF) h g.A).1
  have h2 := (dn_at (CF := CF) h g.B).1
  match v with
  | 0 => simp [vw, mapD, h1, h2, mkL]
  | 1 => simp [vw, mapD, h1, h2, mkL]
  | n + 2 => simp [vw, mapD, h1, h2, mkL]
theorem mv_tup {c c' : Nat} {m : PyData} (h : Mv c m c') : ∃ xs, m = .tuple xs ∧ xs.length ≤ 3 := by
  cases h <;> exact ⟨_, rfl, by simp⟩
theorem lbo_at {CF : Addr} {x : Lt} (g : GL x) (bs : List PyData) {nm : List PyData} {dd : List Str} (hn : ∀ v ∈ nm, v ∈ valsU) (hl : nm.length ≤ 3) (hd : ∀ w ∈ dd, w ∈ DW) (hdl : dd.length ≤ 9) (v : Nat) : g_lots_by_one CF [fld CF bs nm (dd.map .str), lotv v x] = some (.list ((by_ CF nm dd x).map (lotv v))) := by
  have e1 := attr_deeds CF bs nm (dd.map .str)
  have e2 := moves_at (CF := CF) g.c bs hl hd hdl
  have e3 : ∀ m ∈ mvs nm dd x.c, g_columns_by_one CF [fld CF bs nm (dd.map .str), m, .int x.c] = some (.int (cw m x.c)) := fun m hm => columns_at g.c bs hn hm _
  generalize hf : fld CF bs nm (dd.map .str) = f at *
  have ml := mvs_len (dd := dd) g.c hl
  have e4 : mapD (lboStep CF f (.int x.s) x.q (.int x.c) (vw v x)) (mvs nm dd x.c) = some ((mvs nm dd x.c).map fun m => lotv v (mkL CF x m)) := by
    refine mapD_all fun m hm => ?_
    have h := mvs_mv g.c hn m hm
    obtain ⟨xs, hx, hxl⟩ := mv_tup h
    unfold lboStep
    rw [done_vw g h v, e3 m hm]
    have e5 : addD m (.tuple [x.q]) = some (mvq m x.q) := by
      rw [hx]
      show (if xs.length + 1 ≤ 100000 then some (PyData.tuple (xs ++ [x.q])) else none) = _
      rw [if_pos (by omega)]
      rfl
    have e6 : addD (.int x.s) (.int 1) = some (.int ((x.s + 1 : Nat) : Int)) := rfl
    simp only [Option.bind_some, e5, e6]
    rfl
  unfold g_lots_by_one lotv
  have vl := vw_len v x
  simp only [Option.bind_some, e1, e2, asSeq, e4]
  rw [if_pos (by omega), if_pos (by rw [List.length_map]; omega)]
  simp [by_]
  intro a _
  rfl
end DL

set_option Elab.async false
set_option linter.all false
set_option maxRecDepth 100000
set_option maxHeartbeats 4000000
/-! Keys of lots; == of answers. -/
namespace DL
open PySem PySem.Spec
noncomputable instance pyDec : DecidableEq PyData := fun a b => Classical.propDecidable (a = b)
mutual
theorem nk_data : ∀ (d : PyData) (k : NestedKey), nk d = some k → k.data = d
  | .none, _, e => by cases e; rfl
  | .int i, _, e => by cases e; rfl
  | .str x, _, e => by cases e; rfl
  | .tuple ds, _, e => by
    obtain ⟨ks, e1, e2⟩ := Option.map_eq_some_iff.mp (show (nk.nks ds).map NestedKey.tup = some _ from e)
    subst e2
    show PyData.tuple (NestedKey.datas ks) = _
    rw [nks_data ds ks e1]
  | .bool _, _, e => by cases e
  | .list _, _, e => by cases e
  | .dict _, _, e => by cases e
theorem nks_data : ∀ (ds : List PyData) (ks : List NestedKey), nk.nks ds = some ks → NestedKey.datas ks = ds
  | [], _, e => by cases e; rfl
  | d :: ds, _, e => by
    obtain ⟨k, e1, e2⟩ := Option.bind_eq_some_iff.mp (show (nk d).bind (fun k => (nk.nks ds).map (k :: ·)) = some _ from e)
    obtain ⟨ks, e3, e4⟩ := Option.map_eq_some_iff.mp e2
    subst e4
    show k.data :: NestedKey.datas ks = _
    rw [nk_data d k e1, nks_data ds ks e3]
end
theorem sameK_iff {a b : PyData} (h : okK a = true) : sameK a b = true ↔ a = b := by
  obtain ⟨k, e, -⟩ := okK_some h
  unfold sameK
  rw [decide_eq_true_eq]
  constructor
  · intro z
    rw [e] at z
    rw [← nk_data a k e, ← nk_data b k z.symm]
  · rintro rfl
    rfl
theorem sameK_dec {a b : PyData} (h : okK a = true) : sameK a b = decide (a = b) := by
  rw [Bool.eq_iff_iff, decide_eq_true_eq]
  exact sameK_iff h
theorem nks_ok {n : Nat} : ∀ {ds : List PyData}, (∀ d ∈ ds, ∃ k, nk d = some k ∧ k.depth ≤ n) → ∃ ks, nk.nks ds = some ks ∧ NestedKey.depthAll ks ≤ n
  | [], _ => ⟨[], rfl, Nat.zero_le _⟩
  | d :: ds, h => by
    obtain ⟨k, e1, l1⟩ := h d List.mem_cons_self
    obtain ⟨ks, e2, l2⟩ := nks_ok fun x hx => h x (List.mem_cons_of_mem _ hx)
    refine ⟨k :: ks, ?_, Nat.max_le.mpr ⟨l1, l2⟩⟩
    show (nk d).bind (fun k => (nk.nks ds).map (k :: ·)) = _
    rw [e1, e2]
    rfl
theorem nk_tup {n : Nat} {ds : List PyData} (h : ∀ d ∈ ds, ∃ k, nk d = some k ∧ k.depth ≤ n) : ∃ k, nk (.tuple ds) = some k ∧ k.depth ≤ n + 1 := by
  obtain ⟨ks, e, l⟩ := nks_ok h
  refine ⟨.tup ks, ?_, ?_⟩
  · show (nk.nks ds).map NestedKey.tup = _
    rw [e]
    rfl
  · show NestedKey.depthAll ks + 1 ≤ _
    omega
def nkB (d : PyData) : Bool := match nk d with
  | some k => decide (k.depth ≤ 1)
  | none => false
theorem nkB_some {d : PyData} (h : nkB d = true) : ∃ k, nk d = some k ∧ k.depth ≤ 1 := by
  unfold nkB at h
  split at h
  · exact ⟨_, by assumption, of_decide_eq_true h⟩
  · cases h
theorem nk_row : ∀ c, c = 1 ∨ c = 2 → ((rowsU c).all nkB) = true := two_cs (by decide +kernel) (by decide +kernel)
theorem nk_rows {c : Nat} (hc : c = 1 ∨ c = 2) {R : List PyData} (g : GR c R) : ∃ k, nk (.tuple R) = some k ∧ k.depth ≤ 2 :=
  nk_tup (n := 1) fun r hr => nkB_some (List.all_eq_true.mp (nk_row c hc) r (g.mem r hr))
theorem vw_rows {x : Lt} (g : GL x) (v : Nat) : ∀ d ∈ vw v x, ∃ R, d = .tuple R ∧ GR x.c R := by
  intro d hd
  match v with
  | 0 =>
    rcases (by simpa [vw] using hd : d = _ ∨ d = _) with rfl | rfl
    · exact ⟨_, rfl, g.A⟩
    · exact ⟨_, rfl, g.B⟩
  | 1 =>
    obtain rfl := (by simpa [vw] using hd : d = _)
    exact ⟨_, rfl, g.A⟩
  | n + 2 =>
    obtain rfl := (by simpa [vw] using hd : d = _)
    exact ⟨_, rfl, g.B⟩
theorem kdv_ok {x : Lt} (g : GL x) (v : Nat) : okK (kdv v x) = true ∧ isTupD (kdv v x) = true := by
  refine ⟨?_, rfl⟩
  have h1 : ∃ k, nk (.tuple (vw v x)) = some k ∧ k.depth ≤ 3 := nk_tup (n := 2) fun d hd => by
    obtain ⟨R, rfl, gR⟩ := vw_rows g v d hd
    exact nk_rows g.c gR
  have h2 : ∃ k, nk (kdv v x) = some k ∧ k.depth ≤ 4 := nk_tup (n := 3) fun d hd => by
    rcases (by simpa using hd : d = _ ∨ d = _) with rfl | rfl
    · exact ⟨_, rfl, Nat.zero_le _⟩
    · exact h1
  obtain ⟨k, e, l⟩ := h2
  unfold okK
  rw [e]
  exact decide_eq_true (by omega)
theorem key_of_at (CF : Addr) (v : Nat) (x : Lt) : g_key_of CF [lotv v x] = some (kdv v x) := by
  rfl
/-! == of rows -/
theorem okEq_tup {c : Nat} (hc : c = 1 ∨ c = 2) {R : List PyData} (g : GR c R) : okEq (.tuple R) = true := by
  obtain ⟨h1, h2, h3⟩ := rowsOk_eq (rows_ok hc g)
  simp [okEq, SeqAt.shaped, PyData.canLay0, PyData.depth, noIns, h1, h3]
  omega
theorem eqvAll_at {c : Nat} (hc : c = 1 ∨ c = 2) : ∀ {R S : List PyData}, (∀ r ∈ R, r ∈ rowsU c) → (∀ r ∈ S, r ∈ rowsU c) → PyData.eqvAll R S = decide (R = S)
  | [], [], _, _ => by simp [PyData.eqvAll]
  | [], s :: S, _, _ => by simp [PyData.eqvAll]
  | r :: R, [], _, _ => by simp [PyData.eqvAll]
  | r :: R, s :: S, h, h2 => by
    have ih := eqvAll_at hc (fun x hx => h x (List.mem_cons_of_mem _ hx)) (fun x hx => h2 x (List.mem_cons_of_mem _ hx))
    have e := eqv_at hc (h r List.mem_cons_self) (h2 s List.mem_cons_self)
    rw [PyData.eqvAll, ih, Bool.eq_iff_iff]
    simp [e]
theorem eqD_rows {c : Nat} (hc : c = 1 ∨ c = 2) {R S : List PyData} (g : GR c R) (g2 : GR c S) : eqD (.tuple R) (.tuple S) = some (.bool (decide (R = S))) := by
  unfold eqD
  rw [if_pos ⟨okEq_tup hc g, okEq_tup hc g2⟩, PyData.eqv, eqvAll_at hc g.mem g2.mem]
def qOk (q : PyData) : Bool := q.canLay0 && decide (q.depth ≤ 3) && noIns q
theorem qok_all : ∀ h ∈ heads2, ((QU h).all qOk) = true := threeH (by decide +kernel) (by decide +kernel) (by decide +kernel)
theorem qeqv_all : ∀ h ∈ heads2, ((QU h).all fun a => PyData.eqv a a) = true := threeH (by decide +kernel) (by decide +kernel) (by decide +kernel)
theorem qok_at {h : Str × Str} (hh : h ∈ heads2) {q : PyData} (hq : q ∈ QU h) : q.canLay0 = true ∧ q.depth ≤ 3 ∧ noIns q = true := by
  have := List.all_eq_true.mp (qok_all h hh) q hq
  unfold qOk at this
  simp only [Bool.and_eq_true, decide_eq_true_eq] at this
  exact ⟨this.1.1, this.1.2, this.2⟩
theorem neD_self {h : Str × Str} (hh : h ∈ heads2) {q : PyData} (hq : q ∈ QU h) : neD q q = some (.bool false) := by
  obtain ⟨h1, h2, h3⟩ := qok_at hh hq
  have h4 := List.all_eq_true.mp (qeqv_all h hh) q hq
  have ok : okEq q = true := by
    simp [okEq, SeqAt.shaped, h1, h3]
    omega
  unfold neD
  rw [if_pos ⟨ok, ok⟩, h4]
  rfl
theorem vw_okAll {x : Lt} (g : GL x) (v : Nat) : PyData.canLayAll0 (vw v x) = true ∧ PyData.depthAll (vw v x) ≤ 2 ∧ noIns.noInsAll (vw v x) = true := by
  have key : ∀ ds : List PyData, (∀ d ∈ ds, ∃ R, d = .tuple R ∧ GR x.c R) → PyData.canLayAll0 ds = true ∧ PyData.depthAll ds ≤ 2 ∧ noIns.noInsAll ds = true := by
    intro ds
    induction ds with
    | nil => intro _; exact ⟨by simp [PyData.canLayAll0], by simp [PyData.depthAll], rfl⟩
    | cons d ds ih =>
      intro h
      obtain ⟨R, rfl, gR⟩ := h d List.mem_cons_self
      obtain ⟨h1, h2, h3⟩ := rowsOk_eq (rows_ok g.c gR)
      obtain ⟨i1, i2, i3⟩ := ih fun z hz => h z (List.mem_cons_of_mem _ hz)
      refine ⟨by simp [PyData.canLayAll0, PyData.canLay0, h1, i1], ?_, by simp [noIns.noInsAll, noIns, h3, i3]⟩
      simp only [PyData.depthAll, PyData.depth]
      omega
  exact key _ (vw_rows g v)
theorem okEq_lots {h : Str × Str} (hh : h ∈ heads2) {v : Nat} : ∀ {xs : List Lt}, (∀ x ∈ xs, GL x ∧ x.q ∈ QU h) → okEq (.list (xs.map (lotv v))) = true := by
  intro xs hx
  have key : ∀ xs : List Lt, (∀ x ∈ xs, GL x ∧ x.q ∈ QU h) → PyData.canLayAll0 (xs.map (lotv v)) = true ∧ PyData.depthAll (xs.map (lotv v)) ≤ 10 ∧ noIns.noInsAll (xs.map (lotv v)) = true := by
    intro xs
    induction xs with
    | nil => intro _; exact ⟨by simp [PyData.canLayAll0], by simp [PyData.depthAll], rfl⟩
    | cons x xs ih =>
      intro hx
      obtain ⟨g, hq⟩ := hx x List.mem_cons_self
      obtain ⟨h1, h2, h3⟩ := vw_okAll g v
      obtain ⟨q1, q2, q3⟩ := qok_at hh hq
      obtain ⟨i1, i2, i3⟩ := ih fun z hz => hx z (List.mem_cons_of_mem _ hz)
      refine ⟨by simp [lotv, PyData.canLayAll0, PyData.canLay0, h1, q1, i1], ?_, by simp [lotv, noIns.noInsAll, noIns, h3, q3, i3]⟩
      simp only [List.map_cons, lotv, PyData.depthAll, PyData.depth]
      omega
  obtain ⟨h1, h2, h3⟩ := key xs hx
  simp [okEq, SeqAt.shaped, PyData.canLay0, PyData.depth, noIns, h1, h3]
  omega
end DL

set_option Elab.async false
set_option linter.all false
set_option maxRecDepth 100000
set_option maxHeartbeats 4000000
/-! The lots of names. -/
namespace DL
open PySem PySem.Spec
theorem At.mem {ts : List Tn} {Rs : List (List PyData)} {t : Tn} {R : List PyData} (h : At ts Rs t R) : t ∈ ts := by
  cases h <;> simp
theorem strs_flat (ts : List Tn) : (ts.map fun t => PyData.str t.1).all flatD = true := by
  rw [List.all_eq_true]
  intro d hd
  obtain ⟨t, -, rfl⟩ := List.mem_map.mp hd
  rfl
theorem in_names {ts : List Tn} {t : Tn} (h : t ∈ ts) : inD false (.str t.1) (.tuple (ts.map fun t => .str t.1)) = some (.bool true) := by
  have e1 : flatD (.str t.1) = true := rfl
  have e2 := strs_flat ts
  have e3 : (ts.map fun t => PyData.str t.1).any (fun z => eqF z (.str t.1)) = true := List.any_eq_true.mpr ⟨_, List.mem_map.mpr ⟨t, h, rfl⟩, by simp [eqF]⟩
  show (if flatD (.str t.1) = true ∧ (ts.map fun t => PyData.str t.1).all flatD = true then some (PyData.bool (if false then !((ts.map fun t => PyData.str t.1).any fun z => eqF z (.str t.1)) else (ts.map fun t => PyData.str t.1).any fun z => eqF z (.str t.1))) else none) = _
  rw [if_pos ⟨e1, e2⟩, e3]
  rfl
theorem looked_at {CF : Addr} {ts : List Tn} {Rs : List (List PyData)} (g : GB ts Rs) {t : Tn} {R : List PyData} (h : At ts Rs t R) (bs nm dd : List PyData) : g_looked CF [fld CF (mkBook ts Rs :: bs) nm dd, .str t.1, .int 40] = some (.tuple [.int t.2, .int 1]) := by
  have e1 := names_of_at (CF := CF) g bs nm dd
  have e2 := table_columns_at (CF := CF) g h bs nm dd
  have e3 := in_names h.mem
  generalize hf : fld CF (mkBook ts Rs :: bs) nm dd = f at *
  generalize hN : PyData.tuple (ts.map fun t => .str t.1) = N at *
  unfold g_looked runD S_looked
  simp [seqD, ifD, retD, nxD, startD, sl, b2, asB, cmpI, isiD, tyD, kit_ss, e1, e2, e3, tupD]
theorem is_question_at {CF : Addr} {ts : List Tn} {Rs : List (List PyData)} (g : GB ts Rs) {t : Tn} {R : List PyData} (h : At ts Rs t R) (bs nm dd : List PyData) : g_is_question CF [fld CF (mkBook ts Rs :: bs) nm dd, .str t.1] = some (.bool true) := by
  have e := looked_at (CF := CF) g h bs nm dd
  generalize hf : fld CF (mkBook ts Rs :: bs) nm dd = f at *
  unfold g_is_question runD S_is_question
  simp [retD, startD, sl, b2, e, notN, isNoneD]
theorem check_question_at {CF : Addr} {ts : List Tn} {Rs : List (List PyData)} (g : GB ts Rs) {t : Tn} {R : List PyData} (h : At ts Rs t R) (bs nm dd : List PyData) : g_check_question CF [fld CF (mkBook ts Rs :: bs) nm dd, .str t.1] = some .none := by
  have e := is_question_at (CF := CF) g h bs nm dd
  generalize hf : fld CF (mkBook ts Rs :: bs) nm dd = f at *
  unfold g_check_question runD S_check_question
  simp [ifD, notT, nxD, startD, sl, e, asB]
theorem columns_of_at {CF : Addr} {ts : List Tn} {Rs : List (List PyData)} (g : GB ts Rs) {t : Tn} {R : List PyData} (h : At ts Rs t R) (bs nm dd : List PyData) : g_columns_of CF [fld CF (mkBook ts Rs :: bs) nm dd, .str t.1] = some (.int t.2) := by
  have e := looked_at (CF := CF) g h bs nm dd
  have e2 := check_question_at (CF := CF) g h bs nm dd
  generalize hf : fld CF (mkBook ts Rs :: bs) nm dd = f at *
  unfold g_columns_of runD S_columns_of
  simp [seqD, exprD, retD, startD, sl, b2, e, e2, ixD_0t]
theorem size_of_at (CF : Addr) (n : Str) : g_size_of CF [.str n] = some (.int 1) := rfl
theorem rows_told_at {CF : Addr} {ts : List Tn} {Rs Ss : List (List PyData)} (g : GB ts Rs) (g2 : GB ts Ss) {t : Tn} {R S : List PyData} (h : At ts Rs t R) (h2 : At ts Ss t S) {bs nm dd : List PyData} {k : Nat} (hb : (mkBook ts Rs :: bs).length < 100000) (hk : (mkBook ts Rs :: bs)[k]? = some (mkBook ts Ss)) :
    g_rows_told CF [fld CF (mkBook ts Rs :: bs) nm dd, .int k, .str t.1] = some (.tuple S) := by
  have e := rows_of_at (CF := CF) (nm := nm) (dd := dd) g g2 h h2 hb hk
  generalize hf : fld CF (mkBook ts Rs :: bs) nm dd = f at *
  unfold g_rows_told runD S_rows_told
  simp [seqD, ifD, retD, nxD, startD, sl, isiD, tyD, kit_ss, asB, e]
theorem answer1 {CF : Addr} {ts : List Tn} {Rs : List (List PyData)} (g : GB ts Rs) {t : Tn} {R : List PyData} (h : At ts Rs t R) (nm dd : List PyData) : g_answer CF [fld CF [mkBook ts Rs] nm dd, .str t.1] = some (.tuple [.tuple R]) := by
  have e1 := check_question_at (CF := CF) g h [] nm dd
  have e2 := lenID_at CF (bs := [mkBook ts Rs]) nm dd (by simp)
  have e3 := rows_told_at (CF := CF) (nm := nm) (dd := dd) (bs := []) (k := 0) g g h h (by simp) rfl
  generalize hf : fld CF [mkBook ts Rs] nm dd = f at *
  unfold g_answer runD S_answer
  simp at e2 e3
  simp [seqD, exprD, retD, startD, sl, e1, e2, lcD, rng1D, asI, rngD, wipeD, turnsD, oneB, yesT, List.range_succ, e3, tupleD, asSeq]
theorem answer2 {CF : Addr} {ts : List Tn} {Rs Ss : List (List PyData)} (g : GB ts Rs) (g2 : GB ts Ss) {t : Tn} {R S : List PyData} (h : At ts Rs t R) (h2 : At ts Ss t S) (nm dd : List PyData) : g_answer CF [fld CF [mkBook ts Rs, mkBook ts Ss] nm dd, .str t.1] = some (.tuple [.tuple R, .tuple S]) := by
  have e1 := check_question_at (CF := CF) g h [mkBook ts Ss] nm dd
  have e2 := lenID_at CF (bs := [mkBook ts Rs, mkBook ts Ss]) nm dd (by simp)
  have e3 := rows_told_at (CF := CF) (nm := nm) (dd := dd) (bs := [mkBook ts Ss]) (k := 0) g g h h (by simp) rfl
  have e4 := rows_told_at (CF := CF) (nm := nm) (dd := dd) (bs := [mkBook ts Ss]) (k := 1) g g2 h h2 (by simp) rfl
  generalize hf : fld CF [mkBook ts Rs, mkBook ts Ss] nm dd = f at *
  unfold g_answer runD S_answer
  simp at e2 e3 e4
  simp [seqD, exprD, retD, startD, sl, e1, e2, lcD, rng1D, asI, rngD, wipeD, turnsD, oneB, yesT, List.range_succ, e3, e4, tupleD, asSeq]
theorem lot_of_gen {CF : Addr} {ts : List Tn} {Rs : List (List PyData)} (g : GB ts Rs) {t : Tn} {R : List PyData} (h : At ts Rs t R) (bs nm dd : List PyData) {told : PyData} (ha : g_answer CF [fld CF (mkBook ts Rs :: bs) nm dd, .str t.1] = some told) : g_lot_of CF [fld CF (mkBook ts Rs :: bs) nm dd, .str t.1] = some (.tuple [.int 1, .str t.1, .int t.2, told]) := by
  have e1 := columns_of_at (CF := CF) g h bs nm dd
  have e2 := size_of_at CF t.1
  generalize hf : fld CF (mkBook ts Rs :: bs) nm dd = f at *
  unfold g_lot_of runD S_lot_of
  simp [seqD, setD, retD, startD, sl, ha, e1, e2, tupD]
/-! the lots of a field's names -/
def base : List Tn → List (List PyData) → List (List PyData) → List Lt
  | t :: ts, R :: Rs, S :: Ss => ⟨1, .str t.1, t.2, R, S⟩ :: base ts Rs Ss
  | _, _, _ => []
def bks (ts : List Tn) (Rs Ss : List (List PyData)) : Nat → List PyData
  | 0 => [mkBook ts Rs, mkBook ts Ss]
  | 1 => [mkBook ts Rs]
  | _ => [mkBook ts Ss]
structure BQ (h : Str × Str) (ts : List Tn) (Rs Ss : List (List PyData)) (x : Lt) : Prop where
  gl : GL x
  s : x.s = 1
  ex : ∃ n, x.q = .str n ∧ (n = h.1 ∨ n = h.2) ∧ At ts Rs (n, x.c) x.A ∧ At ts Ss (n, x.c) x.B
theorem base_at {ts : List Tn} {Rs Ss : List (List PyData)} (g : GB ts Rs) (g2 : GB ts Ss) : ∃ h ∈ heads2, (∀ x ∈ base ts Rs Ss, BQ h ts Rs Ss x) ∧ (base ts Rs Ss).map (fun x => x.q) = ts.map (fun t => .str t.1) ∧ (base ts Rs Ss).length ≤ 2 := by
  cases g with
  | @one n c R hn hc g hs =>
    cases g2 with
    | @one _ _ S hn' hc' g' hs' =>
      have : ∃ h ∈ heads2, h.1 = n := by
        rcases (by simpa [heads1] using hn : n = _ ∨ n = _ ∨ n = _) with rfl | rfl | rfl
        · exact ⟨("a", "ab"), by simp [heads2], rfl⟩
        · exact ⟨("rose", "rosea"), by simp [heads2], rfl⟩
        · exact ⟨("b", "ba"), by simp [heads2], rfl⟩
      obtain ⟨h, hh, rfl⟩ := this
      refine ⟨h, hh, fun x hx => ?_, rfl, by simp [base]⟩
      obtain rfl := (by simpa [base] using hx : x = _)
      exact ⟨⟨hc, g, g'⟩, rfl, h.1, rfl, .inl rfl, .a, .a⟩
  | @two n m c e R S hn hc he g hs g2_ hs2 =>
    cases g2 with
    | @two _ _ _ _ R' S' _ _ _ g' hs' g2' hs2' =>
      refine ⟨(n, m), hn, fun x hx => ?_, rfl, by simp [base]⟩
      rcases (by simpa [base] using hx : x = _ ∨ x = _) with rfl | rfl
      · exact ⟨⟨hc, g, g'⟩, rfl, n, rfl, .inl rfl, .a, .a⟩
      · exact ⟨⟨he, g2_, g2'⟩, rfl, m, rfl, .inr rfl, .b, .b⟩
theorem lot_of_at {CF : Addr} {h : Str × Str} {ts : List Tn} {Rs Ss : List (List PyData)} (g : GB ts Rs) (g2 : GB ts Ss) {x : Lt} (b : BQ h ts Rs Ss x) (nm dd : List PyData) (v : Nat) : g_lot_of CF [fld CF (bks ts Rs Ss v) nm dd, x.q] = some (lotv v x) := by
  obtain ⟨gl, s, n, hq, -, a1, a2⟩ := b
  have e : lotv v x = .tuple [.int 1, .str n, .int x.c, .tuple (vw v x)] := by
    unfold lotv
    rw [s, hq]
    rfl
  rw [e, hq]
  match v with
  | 0 => exact lot_of_gen g a1 [mkBook ts Ss] nm dd (answer2 g g2 a1 a2 nm dd)
  | 1 => exact lot_of_gen g a1 [] nm dd (answer1 g a1 nm dd)
  | _ + 2 => exact lot_of_gen g2 a2 [] nm dd (answer1 g2 a2 nm dd)
theorem names_v {CF : Addr} {ts : List Tn} {Rs Ss : List (List PyData)} (g : GB ts Rs) (g2 : GB ts Ss) (nm dd : List PyData) (v : Nat) : g_names_of CF [fld CF (bks ts Rs Ss v) nm dd] = some (.tuple (ts.map fun t => .str t.1)) := by
  match v with
  | 0 => exact names_of_at g _ nm dd
  | 1 => exact names_of_at g _ nm dd
  | _ + 2 => exact names_of_at g2 _ nm dd
theorem turns_map2 {α : Type} {i : Nat} {F : DF} {ρ : DE} {a b : α → PyData} : ∀ {l : List α}, (∀ x ∈ l, F (ρ.set i (some (a x))) = some (b x)) → turnsD (oneB i) yesT F ρ (l.map a) = some (l.map b)
  | [], _ => rfl
  | x :: l, h => by
    show ((F (ρ.set i (some (a x)))).bind fun y => (turnsD (oneB i) yesT F ρ (l.map a)).map (y :: ·)) = _
    rw [h x List.mem_cons_self, turns_map2 fun z hz => h z (List.mem_cons_of_mem _ hz)]
    rfl
theorem made1_at {CF : Addr} {h : Str × Str} {ts : List Tn} {Rs Ss : List (List PyData)} (g : GB ts Rs) (g2 : GB ts Ss) (hb : ∀ x ∈ base ts Rs Ss, BQ h ts Rs Ss x) (he : (base ts Rs Ss).map (fun x => x.q) = ts.map (fun t => .str t.1)) (hl : (base ts Rs Ss).length ≤ 2) (nm dd : List PyData) (v : Nat) (lots : PyData) :
    g_made_lots CF [fld CF (bks ts Rs Ss v) nm dd, .int 1, lots] = some (.list ((base ts Rs Ss).map (lotv v))) := by
  have e1 := names_v (CF := CF) g g2 nm dd v
  have e2 : ∀ x ∈ base ts Rs Ss, g_lot_of CF [fld CF (bks ts Rs Ss v) nm dd, x.q] = some (lotv v x) := fun x hx => lot_of_at g g2 (hb x hx) nm dd v
  rw [← he] at e1
  generalize hf : fld CF (bks ts Rs Ss v) nm dd = f at *
  have hl2 : (base ts Rs Ss).length ≤ 100000 := by omega
  have t : ∀ x1 x2 x3 x4 x5 x6 : Option PyData, turnsD (oneB 7) yesT (fun ρ => ((fun ρ => ((fun ρ => sl ρ 0) ρ).bind fun d => ((fun ρ => ((fun ρ => sl ρ 7) ρ).bind fun d => ((fun _ => some []) ρ).bind fun ds => some (d :: ds)) ρ).bind fun ds => some (d :: ds)) ρ).bind (g_lot_of CF)) [some f, x1, x2, x3, x4, x5, x6, none] ((base ts Rs Ss).map fun x => x.q) = some ((base ts Rs Ss).map (lotv v)) := fun x1 x2 x3 x4 x5 x6 => by
    refine turns_map2 fun x hx => ?_
    simp [sl, e2 x hx]
  simp only [Option.bind_some] at t
  unfold g_made_lots runD S_made_lots
  simp [seqD, ifD, retD, startD, sl, b2, eqFD, flatD, eqF, asB, lcD, e1, asSeq, wipeD, hl2]
  have t1 := t (some (.int 1)) (some lots) none none none none
  simp [sl] at t1
  rw [t1]
  rfl
end DL

set_option Elab.async false
set_option linter.all false
set_option maxRecDepth 100000
set_option maxHeartbeats 4000000
/-! The least of each key, told of any list. -/
namespace DL
section abs
variable {α κ : Type} [DecidableEq κ] (key : α → κ) (rk sz : α → Nat)
def stepA (n : Nat) (kept : List α) (m : α) : List α :=
  match kept.find? (fun y => decide (key y = key m)) with
  | none => kept ++ [m]
  | some y => if sz y = n ∧ rk m < rk y then kept.map (fun z => if key z = key m then m else z) else kept
structure InvA (k0 dn kept : List α) : Prop where
  a : ∀ y ∈ kept, y ∈ k0 ∨ y ∈ dn
  b : ∀ x, (x ∈ k0 ∨ x ∈ dn) → ∃ y ∈ kept, key y = key x ∧ rk y ≤ rk x
  c : kept.Pairwise (fun x y => key x ≠ key y)
  l : kept.length ≤ k0.length + dn.length
variable {key rk sz}
theorem pw_uniq {l : List α} (h : l.Pairwise fun x y => key x ≠ key y) {x y : α} (hx : x ∈ l) (hy : y ∈ l) (e : key x = key y) : x = y := by
  induction l with
  | nil => cases hx
  | cons a l ih =>
    obtain ⟨h1, h2⟩ := List.pairwise_cons.mp h
    rcases List.mem_cons.mp hx with e1 | hx
    · rcases List.mem_cons.mp hy with e2 | hy
      · rw [e1, e2]
      · rw [e1] at e
        exact absurd e (h1 y hy)
    · rcases List.mem_cons.mp hy with e2 | hy
      · rw [e2] at e
        exact absurd e.symm (h1 x hx)
      · exact ih h2 hx hy
theorem InvA.nil (k0 : List α) (h : k0.Pairwise fun x y => key x ≠ key y) : InvA key rk k0 [] k0 :=
  ⟨fun y hy => .inl hy, fun x hx => by
    rcases hx with hx | hx
    · exact ⟨x, hx, rfl, Nat.le_refl _⟩
    · exact absurd hx (by simp), h, by simp⟩
theorem InvA.step {n : Nat} {k0 dn kept : List α} {m : α} (I : InvA key rk k0 dn kept) (hd : ∀ x ∈ dn, sz x = n) (h0 : ∀ y ∈ k0, rk y ≤ rk m) : InvA key rk k0 (dn ++ [m]) (stepA key rk sz n kept m) := by
  unfold stepA
  cases hf : kept.find? (fun y => decide (key y = key m)) with
  | none =>
    have hn : ∀ y ∈ kept, key y ≠ key m := fun y hy e => by
      have := List.find?_eq_none.mp hf y hy
      simp [e] at this
    refine ⟨fun y hy => ?_, fun x hx => ?_, ?_, ?_⟩
    · rcases List.mem_append.mp hy with hy | hy
      · rcases I.a y hy with z | z
        · exact .inl z
        · exact .inr (List.mem_append_left _ z)
      · exact .inr (List.mem_append_right _ hy)
    · have : (x ∈ k0 ∨ x ∈ dn) ∨ x = m := by
        rcases hx with z | z
        · exact .inl (.inl z)
        · rcases List.mem_append.mp z with z | z
          · exact .inl (.inr z)
          · exact .inr (List.mem_singleton.mp z)
      rcases this with z | rfl
      · obtain ⟨y, hy, e⟩ := I.b x z
        exact ⟨y, List.mem_append_left _ hy, e⟩
      · exact ⟨x, by simp, rfl, Nat.le_refl _⟩
    · refine List.pairwise_append.mpr ⟨I.c, by simp, fun x hx y hy => ?_⟩
      rw [List.mem_singleton.mp hy]
      exact hn x hx
    · have := I.l
      simp only [List.length_append, List.length_singleton]
      omega
  | some y =>
    have hy : y ∈ kept := List.mem_of_find?_eq_some hf
    have hk : key y = key m := by simpa using List.find?_some hf
    show InvA key rk k0 (dn ++ [m]) (if sz y = n ∧ rk m < rk y then kept.map (fun z => if key z = key m then m else z) else kept)
    split
    · rename_i hc
      refine ⟨fun z hz => ?_, fun x hx => ?_, ?_, ?_⟩
      · obtain ⟨w, hw, rfl⟩ := List.mem_map.mp hz
        split
        · exact .inr (by simp)
        · rcases I.a w hw with z | z
          · exact .inl z
          · exact .inr (List.mem_append_left _ z)
      · have hm : m ∈ kept.map (fun z => if key z = key m then m else z) := List.mem_map.mpr ⟨y, hy, by rw [if_pos hk]⟩
        have : (x ∈ k0 ∨ x ∈ dn) ∨ x = m := by
          rcases hx with z | z
          · exact .inl (.inl z)
          · rcases List.mem_append.mp z with z | z
            · exact .inl (.inr z)
            · exact .inr (List.mem_singleton.mp z)
        rcases this with z | rfl
        · obtain ⟨w, hw, e1, e2⟩ := I.b x z
          by_cases hwm : key w = key m
          · have : w = y := pw_uniq I.c hw hy (hwm.trans hk.symm)
            subst this
            exact ⟨m, hm, hwm.symm.trans e1, by omega⟩
          · exact ⟨w, List.mem_map.mpr ⟨w, hw, by rw [if_neg hwm]⟩, e1, e2⟩
        · exact ⟨x, hm, rfl, Nat.le_refl _⟩
      · have e : ∀ z, key (if key z = key m then m else z) = key z := fun z => by
          split
          · rename_i h; exact h.symm
          · rfl
        refine List.pairwise_map.mpr (I.c.imp fun {a b} h => ?_)
        rw [e, e]
        exact h
      · have := I.l
        simp only [List.length_append, List.length_map, List.length_singleton]
        omega
    · rename_i hc
      refine ⟨fun z hz => ?_, fun x hx => ?_, I.c, ?_⟩
      · rcases I.a z hz with z | z
        · exact .inl z
        · exact .inr (List.mem_append_left _ z)
      · have : (x ∈ k0 ∨ x ∈ dn) ∨ x = m := by
          rcases hx with z | z
          · exact .inl (.inl z)
          · rcases List.mem_append.mp z with z | z
            · exact .inl (.inr z)
            · exact .inr (List.mem_singleton.mp z)
        rcases this with z | rfl
        · exact I.b x z
        · refine ⟨y, hy, hk, ?_⟩
          rcases I.a y hy with z | z
          · exact h0 y z
          · have := hd y z
            omega
      · have := I.l
        simp only [List.length_append, List.length_singleton]
        omega
theorem InvA.run {n : Nat} {k0 : List α} : ∀ (ms dn kept : List α), InvA key rk k0 dn kept → (∀ x ∈ dn, sz x = n) → (∀ x ∈ ms, sz x = n) → (∀ y ∈ k0, ∀ m ∈ ms, rk y ≤ rk m) → InvA key rk k0 (dn ++ ms) (ms.foldl (stepA key rk sz n) kept)
  | [], dn, kept, I, _, _, _ => by rw [List.append_nil]; exact I
  | m :: ms, dn, kept, I, hd, hs, h0 => by
    have I2 := I.step (n := n) hd fun y hy => h0 y hy m List.mem_cons_self
    have := InvA.run ms (dn ++ [m]) _ I2 (fun x hx => by
      rcases List.mem_append.mp hx with z | z
      · exact hd x z
      · rw [List.mem_singleton.mp z]; exact hs m List.mem_cons_self) (fun x hx => hs x (List.mem_cons_of_mem _ hx)) fun y hy x hx => h0 y hy x (List.mem_cons_of_mem _ hx)
    rw [List.append_assoc] at this
    exact this
/-- what a reach is -/
structure RE (key : α → κ) (rk : α → Nat) (full kept : List α) : Prop where
  a : ∀ y ∈ kept, y ∈ full
  b : ∀ x ∈ full, ∃ y ∈ kept, key y = key x ∧ rk y ≤ rk x
  c : kept.Pairwise (fun x y => key x ≠ key y)
  s : kept.Pairwise (fun x y => rk x ≤ rk y)
theorem RE.of {k0 dn kept srt full : List α} (I : InvA key rk k0 dn kept) (p : srt.Perm kept) (s : srt.Pairwise fun x y => rk x ≤ rk y) (hf : ∀ x, x ∈ full → x ∈ k0 ∨ x ∈ dn) (hg : ∀ x, (x ∈ k0 ∨ x ∈ dn) → x ∈ full) : RE key rk full srt :=
  ⟨fun y hy => hg y (I.a y (p.mem_iff.mp hy)), fun x hx => by
    obtain ⟨y, hy, e⟩ := I.b x (hf x hx)
    exact ⟨y, p.mem_iff.mpr hy, e⟩, (p.symm.pairwise_iff fun h e => h e.symm).mp I.c, s⟩
/-- the second turn: what comes of the kept ones stands for what comes of all -/
theorem RE.two {base k1 dn kept srt : List α} {by_ : α → List α} (R1 : RE key rk base k1) (I : InvA key rk k1 (k1.flatMap by_) kept) (p : srt.Perm kept) (s : srt.Pairwise fun x y => rk x ≤ rk y)
    (h2 : ∀ b ∈ base, ∀ b' ∈ base, key b' = key b → rk b' ≤ rk b → ∀ x ∈ by_ b, ∃ x' ∈ by_ b', key x' = key x ∧ rk x' ≤ rk x) : RE key rk (base ++ base.flatMap by_) srt := by
  refine ⟨fun y hy => ?_, fun x hx => ?_, (p.symm.pairwise_iff fun h e => h e.symm).mp I.c, s⟩
  · rcases I.a y (p.mem_iff.mp hy) with z | z
    · exact List.mem_append_left _ (R1.a y z)
    · obtain ⟨b, hb, hy⟩ := List.mem_flatMap.mp z
      exact List.mem_append_right _ (List.mem_flatMap.mpr ⟨b, R1.a b hb, hy⟩)
  · rcases List.mem_append.mp hx with z | z
    · obtain ⟨w, hw, e1, e2⟩ := R1.b x z
      obtain ⟨y, hy, e3, e4⟩ := I.b w (.inl hw)
      exact ⟨y, p.mem_iff.mpr hy, e3.trans e1, by omega⟩
    · obtain ⟨b, hb, hx⟩ := List.mem_flatMap.mp z
      obtain ⟨b', hb', e1, e2⟩ := R1.b b hb
      obtain ⟨x', hx', e3, e4⟩ := h2 b hb b' (R1.a b' hb') e1 e2 x hx
      obtain ⟨y, hy, e5, e6⟩ := I.b x' (.inr (List.mem_flatMap.mpr ⟨b', hb', hx'⟩))
      exact ⟨y, p.mem_iff.mpr hy, e5.trans e3, by omega⟩
/-- the law: each lot of the two books has one of the one book that is not behind -/
theorem RE.law1 {κ2 : Type} [DecidableEq κ2] {key2 : α → κ2} {full k2 k1 : List α} (R2 : RE key2 rk full k2) (R1 : RE key rk full k1) {x : α} (hx : x ∈ k2) : ∃ y, k1.filter (fun y => decide (key y = key x)) = [y] ∧ rk y ≤ rk x := by
  obtain ⟨y, hy, e1, e2⟩ := R1.b x (R2.a x hx)
  refine ⟨y, ?_, e2⟩
  have c := R1.c
  generalize k1 = l at hy c
  clear R1
  induction l with
  | nil => cases hy
  | cons a l ih =>
    obtain ⟨h1, h2⟩ := List.pairwise_cons.mp c
    rcases List.mem_cons.mp hy with rfl | hy
    · rw [List.filter_cons_of_pos (by simp [e1])]
      congr 1
      refine List.filter_eq_nil_iff.mpr fun z hz => ?_
      simp only [decide_eq_true_eq]
      exact fun e => h1 z hz (e1.trans e.symm)
    · rw [List.filter_cons_of_neg]
      · exact ih hy h2
      · simp only [decide_eq_true_eq]
        exact fun e => h1 y hy (e.trans e1.symm)
theorem RE.law2 {κ2 : Type} [DecidableEq κ2] {key2 : α → κ2} {full k2 k1 : List α} (R2 : RE key2 rk full k2) (R1 : RE key rk full k1) (hk : ∀ x y, key2 x = key2 y → key x = key y) {y : α} (hy : y ∈ k1) : ∃ z xs, k2.filter (fun x => decide (key x = key y)) = z :: xs ∧ rk z = rk y ∧ z ∈ k2 := by
  obtain ⟨x, hx, e1, e2⟩ := R2.b y (R1.a y hy)
  cases hf : k2.filter (fun x => decide (key x = key y)) with
  | nil =>
    have := List.filter_eq_nil_iff.mp hf x hx
    simp [hk x y e1] at this
  | cons z xs =>
    refine ⟨z, xs, rfl, ?_⟩
    have hz : z ∈ k2.filter (fun x => decide (key x = key y)) := by rw [hf]; simp
    have hz2 := List.mem_filter.mp hz
    have ez : key z = key y := by simpa using hz2.2
    have hxz : x ∈ z :: xs := by rw [← hf]; exact List.mem_filter.mpr ⟨hx, by simp [hk x y e1]⟩
    have hs : (z :: xs).Pairwise fun x y => rk x ≤ rk y := by rw [← hf]; exact R2.s.filter _
    have hzx : rk z ≤ rk x := by
      rcases List.mem_cons.mp hxz with rfl | h
      · exact Nat.le_refl _
      · exact (List.pairwise_cons.mp hs).1 x h
    obtain ⟨w, hw, e3, e4⟩ := R1.b z (R2.a z hz2.1)
    have : w = y := pw_uniq R1.c hw hy (e3.trans ez)
    subst this
    exact ⟨by omega, hz2.1⟩
end abs
end DL

set_option Elab.async false
set_option linter.all false
set_option maxRecDepth 100000
set_option maxHeartbeats 4000000
/-! What comes of lots: the least of each key. -/
namespace DL
open PySem PySem.Spec
def rkq (h : Str × Str) (x : Lt) : Nat := pl (QU h) x.q
structure GQ (h : Str × Str) (x : Lt) : Prop where
  gl : GL x
  qu : x.q ∈ QU h
theorem mapD_all2 {α : Type} {g : PyData → Option PyData} {a b : α → PyData} : ∀ {l : List α}, (∀ x ∈ l, g (a x) = some (b x)) → mapD g (l.map a) = some (l.map b)
  | [], _ => rfl
  | x :: l, h => by
    show ((g (a x)).bind fun k => (mapD g (l.map a)).map (k :: ·)) = _
    rw [h x List.mem_cons_self, mapD_all2 fun z hz => h z (List.mem_cons_of_mem _ hz)]
    rfl
/-- an entry -/
def en (v : Nat) (x : Lt) : PyData × PyData := (kdv v x, lotv v x)
section
variable {h : Str × Str} {v : Nat}
theorem look_en {m : Lt} : ∀ {kept : List Lt}, (∀ x ∈ kept, GQ h x) → lookD (kept.map (en v)) (kdv v m) = (kept.find? fun y => decide (kdv v y = kdv v m)).map (lotv v)
  | [], _ => rfl
  | x :: kept, hx => by
    have ih := look_en (m := m) (kept := kept) fun z hz => hx z (List.mem_cons_of_mem _ hz)
    have e := sameK_dec (b := kdv v m) (kdv_ok (hx x List.mem_cons_self).gl v).1
    unfold lookD at ih ⊢
    rw [List.map_cons, List.find?_cons, List.find?_cons]
    show Option.map _ (match sameK (kdv v x) (kdv v m) with | true => _ | false => _) = _
    rw [e]
    cases decide (kdv v x = kdv v m) with
    | true => rfl
    | false => exact ih
theorem put_en {m : Lt} {kept : List Lt} (hx : ∀ x ∈ kept, GQ h x) : putD (kept.map (en v)) (kdv v m) (lotv v m) = (match kept.find? (fun y => decide (kdv v y = kdv v m)) with
    | none => kept ++ [m]
    | some _ => kept.map (fun z => if kdv v z = kdv v m then m else z)).map (en v) := by
  unfold putD
  rw [look_en hx]
  cases kept.find? (fun y => decide (kdv v y = kdv v m)) with
  | none =>
    simp [en]
  | some y =>
    simp only [Option.map_some, Option.isSome_some, if_true, List.map_map]
    refine List.map_congr_left fun x hxm => ?_
    have e := sameK_dec (b := kdv v m) (kdv_ok (hx x hxm).gl v).1
    show (if sameK (kdv v x) (kdv v m) = true then (kdv v x, lotv v m) else (kdv v x, lotv v x)) = en v (if kdv v x = kdv v m then m else x)
    rw [e]
    by_cases hk : kdv v x = kdv v m
    · rw [if_pos (by simpa using hk), if_pos hk, hk]
      rfl
    · rw [if_neg (by simpa using hk), if_neg hk]
      rfl
theorem find_none_of {m : Lt} {kept : List Lt} (hn : ∀ x ∈ kept, kdv v x ≠ kdv v m) : kept.find? (fun y => decide (kdv v y = kdv v m)) = none :=
  List.find?_eq_none.mpr fun x hx => by simpa using hn x hx
theorem putAll_en : ∀ (l done : List Lt), (∀ x ∈ done ++ l, GQ h x) → (done ++ l).Pairwise (fun x y => kdv v x ≠ kdv v y) → putAll (done.map (en v)) (l.map (en v)) = (done ++ l).map (en v)
  | [], done, _, _ => by rw [List.append_nil]; rfl
  | m :: l, done, hx, hp => by
    have hd : ∀ x ∈ done, GQ h x := fun x hxm => hx x (List.mem_append_left _ hxm)
    have hn : ∀ x ∈ done, kdv v x ≠ kdv v m := fun x hxm => (List.pairwise_append.mp hp).2.2 x hxm m List.mem_cons_self
    show putAll (putD (done.map (en v)) (kdv v m) (lotv v m)) (l.map (en v)) = _
    rw [put_en hd, find_none_of hn]
    have e : done ++ m :: l = (done ++ [m]) ++ l := by simp
    rw [e]
    exact putAll_en l (done ++ [m]) (by rw [← e]; exact hx) (by rw [← e]; exact hp)
theorem better_at {CF : Addr} (hh : h ∈ heads2) {n : Nat} {m y : Lt} (gm : GQ h m) (gy : GQ h y) : better CF (.int n) (lotv v m) (lotv v y) = some (decide (y.s = n + 1 ∧ rkq h m < rkq h y)) := by
  have e1 : ixD (lotv v y) (.int 0) = some (.int y.s) := ixD_0t _ _
  have e2 : ixD (lotv v m) (.int 1) = some m.q := rfl
  have e3 : ixD (lotv v y) (.int 1) = some y.q := rfl
  have e4 := rank_at (CF := CF) hh gm.qu
  have e5 := rank_at (CF := CF) hh gy.qu
  have e6 := ahead_at (CF := CF) hh gm.qu gy.qu
  have e7 : addD (.int n) (.int 1) = some (.int ((n + 1 : Nat) : Int)) := rfl
  have e8 : eqFD (.int y.s) (.int ((n + 1 : Nat) : Int)) = some (.bool (decide (y.s = n + 1))) := by
    show some (PyData.bool (((y.s : Int)) == ((n + 1 : Nat) : Int))) = _
    congr 2
    rw [Bool.eq_iff_iff]
    simp
    omega
  unfold better
  simp only [e1, e2, e3, e7, Option.bind_some, e8, e4, e5, e6, asB]
  by_cases hs : y.s = n + 1
  · simp [hs, rkq]
  · simp [hs]
theorem fur_step {CF : Addr} (hh : h ∈ heads2) {n : Nat} {m : Lt} {kept : List Lt} (gm : GQ h m) (hk : ∀ x ∈ kept, GQ h x) (hl : kept.length ≤ 290) : furStep CF (.int n) (kept.map (en v)) (lotv v m) = some ((stepA (kdv v) (rkq h) Lt.s (n + 1) kept m).map (en v)) := by
  obtain ⟨k1, k2⟩ := kdv_ok gm.gl v
  unfold furStep stepA
  rw [key_of_at]
  simp only [Option.bind_some]
  rw [if_pos ⟨k1, k2, by rw [List.length_map]; omega⟩, look_en hk, put_en hk]
  cases hf : kept.find? (fun y => decide (kdv v y = kdv v m)) with
  | none =>
    simp only [Option.map_none, Option.getD_none, Option.isSome_none, Bool.false_eq_true, if_false]
    rw [better_at hh gm gm]
    have e : decide (m.s = n + 1 ∧ rkq h m < rkq h m) = false := by simp
    rw [e]
    simp only [Option.bind_some, Bool.false_eq_true, if_false]
    rw [if_pos (by simp; omega)]
  | some y =>
    have hy : y ∈ kept := List.mem_of_find?_eq_some hf
    simp only [Option.map_some, Option.getD_some, Option.isSome_some, if_true]
    rw [better_at hh gm (hk y hy)]
    simp only [Option.bind_some]
    by_cases hc : y.s = n + 1 ∧ rkq h m < rkq h y
    · rw [if_pos hc, decide_eq_true hc]
      simp only [if_true]
      rw [put_en hk, hf]
      rw [if_pos (by simp; omega)]
    · rw [if_neg hc, decide_eq_false hc]
      simp only [Bool.false_eq_true, if_false]
      rw [if_pos (by simp; omega)]
theorem stepA_mem {key : Lt → PyData} {rk sz : Lt → Nat} {n : Nat} {kept : List Lt} {m : Lt} : (∀ x ∈ stepA key rk sz n kept m, x ∈ kept ∨ x = m) ∧ (stepA key rk sz n kept m).length ≤ kept.length + 1 := by
  unfold stepA
  split
  · refine ⟨fun x hx => ?_, by simp⟩
    rcases List.mem_append.mp hx with z | z
    · exact .inl z
    · exact .inr (List.mem_singleton.mp z)
  · split
    · refine ⟨fun x hx => ?_, by simp⟩
      obtain ⟨w, hw, rfl⟩ := List.mem_map.mp hx
      split
      · exact .inr rfl
      · exact .inl hw
    · exact ⟨fun x hx => .inl hx, by omega⟩
theorem fur_run {CF : Addr} (hh : h ∈ heads2) {n : Nat} : ∀ (ms kept : List Lt), (∀ x ∈ ms, GQ h x) → (∀ x ∈ kept, GQ h x) → kept.length + ms.length ≤ 290 → furGo CF (.int n) (ms.map (lotv v)) (kept.map (en v)) = some ((ms.foldl (stepA (kdv v) (rkq h) Lt.s (n + 1)) kept).map (en v)) ∧ (∀ x ∈ ms.foldl (stepA (kdv v) (rkq h) Lt.s (n + 1)) kept, GQ h x) ∧ (ms.foldl (stepA (kdv v) (rkq h) Lt.s (n + 1)) kept).length ≤ 290
  | [], kept, _, hk, hl => ⟨rfl, hk, by simpa using hl⟩
  | m :: ms, kept, hm, hk, hl => by
    rw [List.length_cons] at hl
    obtain ⟨s1, s2⟩ := stepA_mem (key := kdv v) (rk := rkq h) (sz := Lt.s) (n := n + 1) (kept := kept) (m := m)
    have gm := hm m List.mem_cons_self
    have ih := fur_run (CF := CF) hh (n := n) ms (stepA (kdv v) (rkq h) Lt.s (n + 1) kept m) (fun x hx => hm x (List.mem_cons_of_mem _ hx)) (fun x hx => by
      rcases s1 x hx with z | rfl
      · exact hk x z
      · exact gm) (by omega)
    refine ⟨?_, ih.2⟩
    show ((furStep CF (.int n) (kept.map (en v)) (lotv v m)).bind fun k' => furGo CF (.int n) (ms.map (lotv v)) k') = _
    rw [fur_step hh gm hk (by omega)]
    exact ih.1
def lq : PyData → PyData
  | .tuple [_, q, _, _] => q
  | d => d
theorem lot_rank_at {CF : Addr} (hh : h ∈ heads2) {x : Lt} (g : GQ h x) : g_lot_rank CF [lotv v x] = some (rkV x.q) := by
  have e1 : ixD (lotv v x) (.int 1) = some x.q := rfl
  have e2 := rank_at (CF := CF) hh g.qu
  unfold g_lot_rank runD S_lot_rank
  simp [retD, startD, sl, b2, e1, e2]
theorem sort_lots {CF : Addr} (hh : h ∈ heads2) {l : List Lt} (hl : ∀ x ∈ l, GQ h x) (hn : l.length ≤ 290) : ∃ srt : List Lt, sortedD (g_lot_rank CF) [.list (l.map (lotv v))] = some (.list (srt.map (lotv v))) ∧ srt.Perm l ∧ srt.Pairwise fun x y => rkq h x ≤ rkq h y := by
  refine ⟨l.mergeSort fun a b => decide (rkq h a ≤ rkq h b), ?_, List.mergeSort_perm _ _, sorted_by (rkq h) l fun _ _ _ _ => rfl⟩
  have s := sortedD_at (g := g_lot_rank CF) (ds := l.map (lotv v)) (f := fun d => rkV (lq d)) (fun d hd => by
    obtain ⟨x, hx, rfl⟩ := List.mem_map.mp hd
    exact lot_rank_at hh (hl x hx)) (by
    have := ranks_ok hh (qs := l.map Lt.q) fun q hq => by
      obtain ⟨x, hx, rfl⟩ := List.mem_map.mp hq
      exact (hl x hx).qu
    rw [List.map_map] at this ⊢
    exact this) (by rw [List.length_map]; omega)
  rw [s]
  unfold sortKD
  rw [zip_map_self, List.map_map]
  have e := List.map_mergeSort (r := fun a b => decide (rkq h a ≤ rkq h b)) (s := fun (a b : PyData × PyData) => leTr id a.2 b.2) (f := (fun a => (a, rkV (lq a))) ∘ lotv v) (l := l) fun a ha b hb => (leTr_at hh (hl a ha).qu (hl b hb).qu).symm
  rw [← e, List.map_map]
  rfl
/-- a turn of reach -/
theorem further_at {CF : Addr} (hh : h ∈ heads2) {f : PyData} {n : Nat} {k0 ms : List Lt} (h0 : ∀ x ∈ k0, GQ h x) (hm : ∀ x ∈ ms, GQ h x) (hl : k0.length + ms.length ≤ 290) (hp : k0.Pairwise fun x y => kdv v x ≠ kdv v y) (hmade : g_made_lots CF [f, .int ((n + 1 : Nat) : Int), .tuple (k0.map (lotv v))] = some (.list (ms.map (lotv v)))) :
    ∃ srt : List Lt, g_further CF [f, .int n, .tuple (k0.map (lotv v))] = some (.tuple (srt.map (lotv v))) ∧ srt.Perm (ms.foldl (stepA (kdv v) (rkq h) Lt.s (n + 1)) k0) ∧ srt.Pairwise fun x y => rkq h x ≤ rkq h y := by
  obtain ⟨r1, r2, r3⟩ := fur_run (CF := CF) (v := v) hh (n := n) ms k0 hm h0 hl
  obtain ⟨srt, s1, s2, s3⟩ := sort_lots (CF := CF) (v := v) hh r2 r3
  refine ⟨srt, ?_, s2, s3⟩
  have e1 : mapD (fun l => (g_key_of CF [l]).bind fun k => if okK k = true ∧ isTupD k = true then some (.tuple [k, l]) else none) (k0.map (lotv v)) = some (k0.map fun x => .tuple [kdv v x, lotv v x]) := mapD_all2 fun x hx => by
    rw [key_of_at]
    simp only [Option.bind_some]
    rw [if_pos (kdv_ok (h0 x hx).gl v)]
  have e2 : ∀ F : PyData → PyData × PyData, (∀ x, F (.tuple [kdv v x, lotv v x]) = en v x) → (k0.map fun x => PyData.tuple [kdv v x, lotv v x]).map F = k0.map (en v) := fun F hF => by
    rw [List.map_map]
    exact List.map_congr_left fun x _ => hF x
  have e3 : putAll [] (k0.map (en v)) = k0.map (en v) := putAll_en k0 [] h0 hp
  have e4 : addD (.int n) (.int 1) = some (.int ((n + 1 : Nat) : Int)) := rfl
  unfold g_further
  simp only [asSeq, Option.bind_some]
  rw [if_pos (by rw [List.length_map]; omega), e1, e4]
  simp only [Option.bind_some]
  rw [e2 _ (fun x => rfl), e3, hmade]
  simp only [Option.bind_some]
  rw [r1]
  simp only [Option.bind_some]
  rw [if_pos (by rw [List.length_map]; omega), List.map_map]
  have e5 : (Prod.snd ∘ en v) = lotv v := rfl
  have e6 : ((fun x : PyData × PyData => x.2) ∘ en v) = lotv v := rfl
  rw [e6, s1]
  simp [tupleD, asSeq]
end
end DL

set_option Elab.async false
set_option linter.all false
set_option maxRecDepth 100000
set_option maxHeartbeats 4000000
/-! The reach of a field. -/
namespace DL
open PySem PySem.Spec
theorem turns2_at2 {α : Type} {i : Nat} {T : DE → Option Bool} {L1 : DE → Option (List PyData)} {vs1 : List Nat} {j : Nat} {F : DF} {ρ : DE} {a : α → PyData} {f : α → List PyData} : ∀ {l : List α}, (∀ x ∈ l, T (ρ.set i (some (a x))) = some true) → (∀ x ∈ l, L1 (ρ.set i (some (a x))) = some (f x)) → (∀ x ∈ l, (f x).length ≤ 300) → (∀ x ∈ l, turnsD (oneB j) yesT F (wipeD (ρ.set i (some (a x))) vs1) (f x) = some (f x)) → turns2D (oneB i) T L1 vs1 (oneB j) yesT F ρ (l.map a) = some (l.flatMap f)
  | [], _, _, _, _ => rfl
  | x :: l, h, h2, h3, h4 => by
    have ih := turns2_at2 (fun z hz => h z (List.mem_cons_of_mem _ hz)) (fun z hz => h2 z (List.mem_cons_of_mem _ hz)) (fun z hz => h3 z (List.mem_cons_of_mem _ hz)) (fun z hz => h4 z (List.mem_cons_of_mem _ hz))
    show ((T (ρ.set i (some (a x)))).bind fun k => if k = true then (L1 (ρ.set i (some (a x)))).bind fun es => if es.length ≤ 300 then (turnsD (oneB j) yesT F (wipeD (ρ.set i (some (a x))) vs1) es).bind fun ys => (turns2D (oneB i) T L1 vs1 (oneB j) yesT F ρ (l.map a)).map (ys ++ ·) else none else turns2D (oneB i) T L1 vs1 (oneB j) yesT F ρ (l.map a)) = _
    rw [h x List.mem_cons_self, ih, h2 x List.mem_cons_self]
    simp only [Option.bind_some, if_true]
    rw [if_pos (h3 x List.mem_cons_self), h4 x List.mem_cons_self]
    rfl
theorem forD_inv {P : DE → Prop} {B : PyData → DE → Option DE} {S : DS} : ∀ (ds : List PyData) (ρ : DE), P ρ → (∀ d ∈ ds, ∀ ρ, P ρ → ∃ ρ1 ρ2, B d ρ = some ρ1 ∧ S ρ1 = some (.nx ρ2) ∧ P ρ2) → ∃ ρ', forD B S ds ρ = some (.nx ρ') ∧ P ρ'
  | [], ρ, h, _ => ⟨ρ, rfl, h⟩
  | d :: ds, ρ, h, hs => by
    obtain ⟨ρ1, ρ2, e1, e2, p2⟩ := hs d List.mem_cons_self ρ h
    obtain ⟨ρ', e3, p3⟩ := forD_inv ds ρ2 p2 fun x hx => hs x (List.mem_cons_of_mem _ hx)
    refine ⟨ρ', ?_, p3⟩
    show ((B d ρ).bind fun ρ1 => (S ρ1).bind fun r => match r with
      | .nx ρ' => forD B S ds ρ'
      | .rt d => some (.rt d)) = _
    rw [e1]
    simp only [Option.bind_some, e2, e3]
theorem run_seq {α : Type} {S1 S2 : DS} {ρ ρ1 : DE} {K : DL.Rs → Option α} {X : Option α} (h : S1 ρ = some (.nx ρ1)) (h2 : (S2 ρ1).bind K = X) : (seqD S1 S2 ρ).bind K = X := by
  unfold seqD
  rw [h]
  exact h2
theorem set_nx {i : Nat} {F : DF} {ρ : DE} {d : PyData} (h : F ρ = some d) : setD i F ρ = some (.nx (ρ.set i (some d))) := by
  unfold setD
  rw [h]
  rfl
theorem ret_rt {F : DF} {ρ : DE} {d : PyData} (h : F ρ = some d) : retD F ρ = some (.rt d) := by
  unfold retD
  rw [h]
  rfl
structure P2 (lots X : PyData) (ρ : DE) : Prop where
  len : ρ.length = 8
  h1 : sl ρ 1 = some (.int 2)
  h2 : sl ρ 2 = some lots
  h3 : sl ρ 3 = some X
theorem P2.set {lots X : PyData} {ρ : DE} (p : P2 lots X ρ) {i : Nat} (hi : 4 ≤ i) (x : Option PyData) : P2 lots X (ρ.set i x) :=
  ⟨by rw [List.length_set]; exact p.len, by rw [sl_ne (by omega)]; exact p.h1, by rw [sl_ne (by omega)]; exact p.h2, by rw [sl_ne (by omega)]; exact p.h3⟩
theorem made2_at {CF : Addr} {f : PyData} {v : Nat} {k : List Lt} {b : Lt → List Lt} (hk : k.length ≤ 300) (hs : ∀ x ∈ k, x.s = 1) (hb : ∀ x ∈ k, g_lots_by_one CF [f, lotv v x] = some (.list ((b x).map (lotv v)))) (hl : ∀ x ∈ k, (b x).length ≤ 300) :
    g_made_lots CF [f, .int 2, .tuple (k.map (lotv v))] = some (.list ((k.flatMap b).map (lotv v))) := by
  have i0 : ∀ x ∈ k, ixD (lotv v x) (.int 0) = some (.int 1) := fun x hx => by
    have e : ixD (lotv v x) (.int 0) = some (.int x.s) := ixD_0t _ _
    rw [e, hs x hx]
    rfl
  have t : lc2D [4, 6] [6] (fun ρ => ((fun ρ => sl ρ 2) ρ).bind asSeq) (oneB 4) (fun ρ => (b2 eqFD (b2 addD (b2 ixD (fun ρ => sl ρ 4) (fun _ => some (.int 0))) (fun _ => some (.int 1))) (fun ρ => sl ρ 1) ρ).bind asB) (fun ρ => ((fun ρ => ((fun ρ => ((fun ρ => sl ρ 0) ρ).bind fun d => ((fun ρ => ((fun ρ => sl ρ 4) ρ).bind fun d => ((fun _ => some []) ρ).bind fun ds => some (d :: ds)) ρ).bind fun ds => some (d :: ds)) ρ).bind (g_lots_by_one CF)) ρ).bind asSeq) (oneB 6) yesT (fun ρ => sl ρ 6) [some f, some (.int 2), some (.tuple (k.map (lotv v))), none, none, none, none, none] = some (.list (k.flatMap fun x => (b x).map (lotv v))) := by
    show (if (k.map (lotv v)).length ≤ 300 then (turns2D (oneB 4) (fun ρ => (b2 eqFD (b2 addD (b2 ixD (fun ρ => sl ρ 4) (fun _ => some (.int 0))) (fun _ => some (.int 1))) (fun ρ => sl ρ 1) ρ).bind asB) (fun ρ => ((fun ρ => ((fun ρ => ((fun ρ => sl ρ 0) ρ).bind fun d => ((fun ρ => ((fun ρ => sl ρ 4) ρ).bind fun d => ((fun _ => some []) ρ).bind fun ds => some (d :: ds)) ρ).bind fun ds => some (d :: ds)) ρ).bind (g_lots_by_one CF)) ρ).bind asSeq) [6] (oneB 6) yesT (fun ρ => sl ρ 6) [some f, some (.int 2), some (.tuple (k.map (lotv v))), none, none, none, none, none] (k.map (lotv v))).map PyData.list else none) = _
    rw [if_pos (by simpa using hk), turns2_at2 (f := fun x => (b x).map (lotv v)) (fun x hx => ?_) (fun x hx => ?_) (fun x hx => ?_) fun x hx => ?_]
    · rfl
    · have := i0 x hx
      simp [b2, sl, this, addD, eqFD, flatD, eqF, asB]
    · have := hb x hx
      simp [sl, this, asSeq]
    · simpa using hl x hx
    · rw [turns_map (f := id) fun y _ => rfl]
      simp
  have q0 : P2 (.tuple (k.map (lotv v))) (.list (k.flatMap fun x => (b x).map (lotv v))) [some f, some (.int 2), some (.tuple (k.map (lotv v))), some (.list (k.flatMap fun x => (b x).map (lotv v))), none, none, none, none] := ⟨rfl, rfl, rfl, rfl⟩
  obtain ⟨ρ', e2, p2⟩ := forD_inv (P := P2 (.tuple (k.map (lotv v))) (.list (k.flatMap fun x => (b x).map (lotv v)))) (B := oneB 4) (S := forS (fun ρ => ((fun ρ => sl ρ 2) ρ).bind asSeq) (oneB 5) (ifD (fun ρ => (b2 eqFD (b2 addD (b2 addD (b2 ixD (fun ρ => sl ρ 4) (fun _ => some (.int 0))) (b2 ixD (fun ρ => sl ρ 5) (fun _ => some (.int 0)))) (fun _ => some (.int 1))) (fun ρ => sl ρ 1) ρ).bind asB) (fun _ => none) nxD)) (k.map (lotv v)) _ q0 (fun d hd ρ p => by
    obtain ⟨x, hx, rfl⟩ := List.mem_map.mp hd
    have p1 := p.set (i := 4) (by omega) (some (lotv v x))
    have e4 : sl (ρ.set 4 (some (lotv v x))) 4 = some (lotv v x) := sl_set (by rw [p.len]; omega)
    obtain ⟨ρ2, e5, p5, -⟩ := forD_inv (P := fun ρ => P2 (.tuple (k.map (lotv v))) (.list (k.flatMap fun x => (b x).map (lotv v))) ρ ∧ sl ρ 4 = some (lotv v x)) (B := oneB 5) (S := ifD (fun ρ => (b2 eqFD (b2 addD (b2 addD (b2 ixD (fun ρ => sl ρ 4) (fun _ => some (.int 0))) (b2 ixD (fun ρ => sl ρ 5) (fun _ => some (.int 0)))) (fun _ => some (.int 1))) (fun ρ => sl ρ 1) ρ).bind asB) (fun _ => none) nxD) (k.map (lotv v)) _ ⟨p1, e4⟩ (fun d hd ρ p => by
      obtain ⟨y, hy, rfl⟩ := List.mem_map.mp hd
      obtain ⟨p, e4⟩ := p
      have p3 := p.set (i := 5) (by omega) (some (lotv v y))
      have e4' : sl (ρ.set 5 (some (lotv v y))) 4 = some (lotv v x) := by rw [sl_ne (by omega)]; exact e4
      have e5 : sl (ρ.set 5 (some (lotv v y))) 5 = some (lotv v y) := sl_set (by rw [p.len]; omega)
      refine ⟨ρ.set 5 (some (lotv v y)), ρ.set 5 (some (lotv v y)), rfl, ?_, p3, e4'⟩
      have j1 := i0 x hx
      have j2 := i0 y hy
      unfold ifD
      simp [b2, p3.h1, e4', e5, j1, j2, addD, eqFD, flatD, eqF, asB, nxD])
    refine ⟨ρ.set 4 (some (lotv v x)), ρ2, rfl, ?_, p5⟩
    unfold forS
    simp only [p1.h2, Option.bind_some, asSeq, e5])
  unfold g_made_lots runD S_made_lots
  have st : startD 8 [f, .int 2, .tuple (k.map (lotv v))] = [some f, some (.int 2), some (.tuple (k.map (lotv v))), none, none, none, none, none] := rfl
  rw [if_pos (show ([f, PyData.int 2, .tuple (k.map (lotv v))] : List PyData).length = 3 from rfl), st]
  generalize hC : lc2D [4, 6] [6] (fun ρ => ((fun ρ => sl ρ 2) ρ).bind asSeq) (oneB 4) (fun ρ => (b2 eqFD (b2 addD (b2 ixD (fun ρ => sl ρ 4) (fun _ => some (.int 0))) (fun _ => some (.int 1))) (fun ρ => sl ρ 1) ρ).bind asB) (fun ρ => ((fun ρ => ((fun ρ => ((fun ρ => sl ρ 0) ρ).bind fun d => ((fun ρ => ((fun ρ => sl ρ 4) ρ).bind fun d => ((fun _ => some []) ρ).bind fun ds => some (d :: ds)) ρ).bind fun ds => some (d :: ds)) ρ).bind (g_lots_by_one CF)) ρ).bind asSeq) (oneB 6) yesT (fun ρ => sl ρ 6) = C at t
  generalize hQ : forS (fun ρ => ((fun ρ => sl ρ 2) ρ).bind asSeq) (oneB 5) (ifD (fun ρ => (b2 eqFD (b2 addD (b2 addD (b2 ixD (fun ρ => sl ρ 4) (fun _ => some (.int 0))) (b2 ixD (fun ρ => sl ρ 5) (fun _ => some (.int 0)))) (fun _ => some (.int 1))) (fun ρ => sl ρ 1) ρ).bind asB) (fun _ => none) nxD) = Q at e2
  refine run_seq (ρ1 := [some f, some (.int 2), some (.tuple (k.map (lotv v))), none, none, none, none, none]) rfl (run_seq (set_nx t) (run_seq (ρ1 := ρ') e2 ?_))
  rw [ret_rt p2.h3, List.map_flatMap]
  rfl
/-- all lots to a size -/
def full (CF : Addr) (nm : List PyData) (dd : List Str) (bs : List Lt) : Nat → List Lt
  | 0 => []
  | 1 => bs
  | _ => bs ++ bs.flatMap (by_ CF nm dd)
section
variable {CF : Addr} {h : Str × Str} {ts : List Tn} {Rs Ss : List (List PyData)} {nm : List PyData} {dd : List Str}
theorem BQ.gq {x : Lt} (b : BQ h ts Rs Ss x) : GQ h x := by
  obtain ⟨gl, s, n, hq, hn, -⟩ := b
  refine ⟨gl, ?_⟩
  rw [hq]
  refine qu_name ?_
  rcases hn with rfl | rfl
  · exact .inl rfl
  · exact .inr rfl
theorem BQ.nmq {x : Lt} (b : BQ h ts Rs Ss x) : x.q = .str h.1 ∨ x.q = .str h.2 := by
  obtain ⟨gl, s, n, hq, hn, -⟩ := b
  rw [hq]
  rcases hn with rfl | rfl
  · exact .inl rfl
  · exact .inr rfl
theorem by_gq {x : Lt} (b : BQ h ts Rs Ss x) (hn : ∀ v ∈ nm, v ∈ valsU) : ∀ y ∈ by_ CF nm dd x, GQ h y ∧ y.s = 2 := by
  intro y hy
  obtain ⟨m, hm, rfl⟩ := List.mem_map.mp hy
  refine ⟨⟨mkL_gl b.gl hn hm, qu_move (mv_MU (mvs_mv b.gl.c hn m hm)) b.nmq⟩, ?_⟩
  show x.s + 1 = 2
  rw [b.s]
theorem full_gq (hb : ∀ x ∈ base ts Rs Ss, BQ h ts Rs Ss x) (hn : ∀ v ∈ nm, v ∈ valsU) (k : Nat) : ∀ y ∈ full CF nm dd (base ts Rs Ss) k, GQ h y := by
  intro y hy
  match k with
  | 0 => cases hy
  | 1 => exact (hb y hy).gq
  | _ + 2 =>
    rcases List.mem_append.mp hy with z | z
    · exact (hb y z).gq
    · obtain ⟨x, hx, hy⟩ := List.mem_flatMap.mp z
      exact (by_gq (hb x hx) hn y hy).1
theorem kdv_mk {v : Nat} {b b' : Lt} {m : PyData} (e : kdv v b' = kdv v b) : kdv v (mkL CF b' m) = kdv v (mkL CF b m) := by
  unfold kdv at e
  injection e with e
  injection e with e1 e2
  injection e2 with e2 _
  injection e2 with e2
  injection e1 with e1
  have ec : b'.c = b.c := by omega
  unfold kdv
  have e3 : vw v (mkL CF b' m) = vw v (mkL CF b m) := by
    match v with
    | 0 =>
      simp only [vw] at e2
      injection e2 with a1 a2
      injection a2 with a2 _
      injection a1 with a1
      injection a2 with a2
      simp only [vw, mkL, a1, a2]
    | 1 =>
      simp only [vw] at e2
      injection e2 with a1 _
      injection a1 with a1
      simp only [vw, mkL, a1]
    | _ + 2 =>
      simp only [vw] at e2
      injection e2 with a1 _
      injection a1 with a1
      simp only [vw, mkL, a1]
  rw [e3]
  show PyData.tuple [.int (cw m b'.c), _] = .tuple [.int (cw m b.c), _]
  rw [ec]
theorem kdv_c {v : Nat} {b b' : Lt} (e : kdv v b' = kdv v b) : b'.c = b.c := by
  unfold kdv at e
  injection e with e
  injection e with e1 e2
  injection e1 with e1
  omega
theorem reach_at (hh : h ∈ heads2) (g : GB ts Rs) (g2 : GB ts Ss) (hb : ∀ x ∈ base ts Rs Ss, BQ h ts Rs Ss x) (he : (base ts Rs Ss).map (fun x => x.q) = ts.map (fun t => .str t.1)) (hl : (base ts Rs Ss).length ≤ 2)
    (hn : ∀ v ∈ nm, v ∈ valsU) (hnl : nm.length ≤ 3) (hd : ∀ w ∈ dd, w ∈ DW) (hdl : dd.length ≤ 9) (v : Nat) {far : Nat} (hf : far ≤ 2) :
    ∃ kept, g_reach CF [fld CF (bks ts Rs Ss v) nm (dd.map .str), .int far] = some (.tuple (kept.map (lotv v))) ∧ RE (kdv v) (rkq h) (full CF nm dd (base ts Rs Ss) far) kept ∧ kept.length ≤ 290 := by
  have m1 := fun lots => made1_at (CF := CF) g g2 hb he hl nm (dd.map .str) v lots
  have lb : ∀ x ∈ base ts Rs Ss, g_lots_by_one CF [fld CF (bks ts Rs Ss v) nm (dd.map .str), lotv v x] = some (.list ((by_ CF nm dd x).map (lotv v))) := fun x hx => lbo_at (hb x hx).gl _ hn hnl hd hdl v
  have bl : ∀ x ∈ base ts Rs Ss, (by_ CF nm dd x).length ≤ 54 := fun x hx => by
    have := mvs_len (dd := dd) (hb x hx).gl.c hnl
    unfold by_
    rw [List.length_map]
    omega
  generalize hF : fld CF (bks ts Rs Ss v) nm (dd.map .str) = f at *
  generalize hB : base ts Rs Ss = bs at *
  have I1 := InvA.run (key := kdv v) (rk := rkq h) (sz := Lt.s) (n := 1) bs [] [] (InvA.nil [] .nil) (fun x hx => by cases hx) (fun x hx => (hb x hx).s) (fun y hy => by cases hy)
  obtain ⟨k1, f1, p1, s1⟩ := further_at (CF := CF) (v := v) hh (f := f) (n := 0) (k0 := []) (ms := bs) (fun x hx => by cases hx) (fun x hx => (hb x hx).gq) (by simp; omega) .nil (m1 _)
  have R1 : RE (kdv v) (rkq h) bs k1 := RE.of I1 p1 s1 (fun x hx => .inr (by simpa using hx)) (fun x hx => by
    rcases hx with z | z
    · cases z
    · simpa using z)
  have k1l : k1.length ≤ 2 := by
    have := I1.l
    rw [← p1.length_eq] at this
    simp at this
    omega
  have k1b : ∀ x ∈ k1, BQ h ts Rs Ss x := fun x hx => hb x (R1.a x hx)
  have m2 := made2_at (CF := CF) (f := f) (v := v) (k := k1) (b := by_ CF nm dd) (by omega) (fun x hx => (k1b x hx).s) (fun x hx => lb x (R1.a x hx)) (fun x hx => by have := bl x (R1.a x hx); omega)
  have ml : (k1.flatMap (by_ CF nm dd)).length ≤ 108 := by
    have : ∀ k : List Lt, (∀ x ∈ k, (by_ CF nm dd x).length ≤ 54) → (k.flatMap (by_ CF nm dd)).length ≤ 54 * k.length := by
      intro k
      induction k with
      | nil => intro _; simp
      | cons x k ih =>
        intro hx
        have := hx x List.mem_cons_self
        have := ih fun z hz => hx z (List.mem_cons_of_mem _ hz)
        simp only [List.flatMap_cons, List.length_append, List.length_cons]
        omega
    have := this k1 fun x hx => bl x (R1.a x hx)
    omega
  have mg : ∀ y ∈ k1.flatMap (by_ CF nm dd), GQ h y ∧ y.s = 2 := fun y hy => by
    obtain ⟨x, hx, hy⟩ := List.mem_flatMap.mp hy
    exact by_gq (k1b x hx) hn y hy
  obtain ⟨k2, f2, p2, s2⟩ := further_at (CF := CF) (v := v) hh (f := f) (n := 1) (k0 := k1) (ms := k1.flatMap (by_ CF nm dd)) (fun x hx => (k1b x hx).gq) (fun x hx => (mg x hx).1) (by omega) R1.c m2
  have I2 := InvA.run (key := kdv v) (rk := rkq h) (sz := Lt.s) (n := 2) (k1.flatMap (by_ CF nm dd)) [] k1 (InvA.nil k1 R1.c) (fun x hx => by cases hx) (fun x hx => (mg x hx).2) (fun y hy m hm => by
    obtain ⟨x, hx, hm⟩ := List.mem_flatMap.mp hm
    obtain ⟨mv, hmv, rfl⟩ := List.mem_map.mp hm
    exact low_at hh (mv_MU (mvs_mv (k1b x hx).gl.c hn mv hmv)) (k1b y hy).nmq (k1b x hx).nmq)
  have R2 : RE (kdv v) (rkq h) (bs ++ bs.flatMap (by_ CF nm dd)) k2 := RE.two (dn := []) R1 (by simpa using I2) p2 s2 fun b hb1 b' hb2 e1 e2 x hx => by
    obtain ⟨m, hm, rfl⟩ := List.mem_map.mp hx
    refine ⟨mkL CF b' m, List.mem_map.mpr ⟨m, by rw [kdv_c e1]; exact hm, rfl⟩, kdv_mk e1, ?_⟩
    exact mono_at hh (mv_MU (mvs_mv (hb b hb1).gl.c hn m hm)) (hb b' hb2).nmq (hb b hb1).nmq e2
  have k2l : k2.length ≤ 110 := by
    have := I2.l
    rw [← p2.length_eq] at this
    simp only [List.nil_append] at this
    omega
  simp only [List.map_nil] at f1
  match far, hf with
  | 0, _ =>
    refine ⟨[], ?_, ⟨fun y hy => absurd hy (by simp), fun x hx => absurd hx (by simp [full]), .nil, .nil⟩, by simp⟩
    unfold g_reach runD S_reach
    simp [seqD, setD, retD, startD, sl, forS, rng1D, asI, rngD, forD, tupD]
  | 1, _ =>
    refine ⟨k1, ?_, R1, by omega⟩
    unfold g_reach runD S_reach
    simp at f1
    simp [seqD, setD, retD, startD, sl, forS, rng1D, asI, rngD, forD, tupD, List.range_succ, oneB, f1]
  | 2, _ =>
    refine ⟨k2, ?_, R2, by omega⟩
    unfold g_reach runD S_reach
    simp at f1 f2
    simp [seqD, setD, retD, startD, sl, forS, rng1D, asI, rngD, forD, tupD, List.range_succ, oneB, f1, f2]
end
end DL

set_option Elab.async false
set_option linter.all false
set_option maxRecDepth 100000
set_option maxHeartbeats 4000000
/-! The law, on lots of two books and of one. -/
namespace DL
open PySem PySem.Spec
def sd : Nat → Lt → List PyData
  | 0, x => x.A
  | _, x => x.B
theorem vw_sd (i : Nat) (x : Lt) : vw (i + 1) x = [.tuple (sd i x)] := by
  match i with
  | 0 => rfl
  | _ + 1 => rfl
theorem ix_sd {i : Nat} (hi : i < 2) (x : Lt) : ixD (.tuple (vw 0 x)) (.int i) = some (.tuple (sd i x)) := by
  match i, hi with
  | 0, _ => rfl
  | 1, _ => rfl
theorem sd_gr {x : Lt} (g : GL x) (i : Nat) : GR x.c (sd i x) := by
  match i with
  | 0 => exact g.A
  | _ + 1 => exact g.B
theorem kdv_iff {i : Nat} {x y : Lt} : kdv (i + 1) y = kdv (i + 1) x ↔ y.c = x.c ∧ sd i y = sd i x := by
  unfold kdv
  rw [vw_sd, vw_sd]
  constructor
  · intro e
    injection e with e
    injection e with e1 e2
    injection e2 with e2 _
    injection e2 with e2
    injection e2 with e2 _
    injection e2 with e2
    injection e1 with e1
    exact ⟨by omega, e2⟩
  · rintro ⟨e1, e2⟩
    rw [e1, e2]
theorem kdv_two {x y : Lt} {i : Nat} (hi : i < 2) (e : kdv 0 x = kdv 0 y) : kdv (i + 1) x = kdv (i + 1) y := by
  refine kdv_iff.mpr ⟨kdv_c e, ?_⟩
  have h1 : vw 0 x = vw 0 y := by
    unfold kdv at e
    injection e with e
    injection e with e1 e2
    injection e2 with e2 _
    injection e2 with e2
  have h2 := ix_sd hi x
  rw [h1, ix_sd hi y] at h2
  injection h2 with h2
  injection h2 with h2
  exact h2.symm
theorem eqF_c (a b : Nat) : eqFD (.int a) (.int b) = some (.bool (decide (a = b))) := by
  show some (PyData.bool (((a : Int)) == ((b : Nat) : Int))) = _
  congr 2
  rw [Bool.eq_iff_iff]
  simp
  omega
theorem ix_l2 (v : Nat) (x : Lt) : ixD (lotv v x) (.int 2) = some (.int x.c) := rfl
theorem ix_l3 (v : Nat) (x : Lt) : ixD (lotv v x) (.int 3) = some (.tuple (vw v x)) := rfl
theorem ix_l1 (v : Nat) (x : Lt) : ixD (lotv v x) (.int 1) = some x.q := rfl
theorem turns_filter2 {α : Type} {i : Nat} {T : DE → Option Bool} {F : DF} {ρ : DE} {a : α → PyData} {t : α → Bool} : ∀ {l : List α}, (∀ x ∈ l, T (ρ.set i (some (a x))) = some (t x)) → (∀ x ∈ l, F (ρ.set i (some (a x))) = some (a x)) → turnsD (oneB i) T F ρ (l.map a) = some ((l.filter t).map a)
  | [], _, _ => rfl
  | x :: l, h, h2 => by
    show ((T (ρ.set i (some (a x)))).bind fun k => if k = true then (F (ρ.set i (some (a x)))).bind fun y => (turnsD (oneB i) T F ρ (l.map a)).map (y :: ·) else turnsD (oneB i) T F ρ (l.map a)) = _
    rw [h x List.mem_cons_self, h2 x List.mem_cons_self, turns_filter2 (fun z hz => h z (List.mem_cons_of_mem _ hz)) (fun z hz => h2 z (List.mem_cons_of_mem _ hz))]
    cases e : t x <;> simp [e]
/-- what stands in the law's slots -/
structure GA (D : PyData) (far : Nat) (ρ : DE) : Prop where
  len : ρ.length = 11
  h3 : sl ρ 3 = some D
  h4 : sl ρ 4 = some (.int far)
theorem GA.set {D : PyData} {far : Nat} {ρ : DE} (g : GA D far ρ) {i : Nat} (hi : 5 ≤ i) (x : Option PyData) : GA D far (ρ.set i x) :=
  ⟨by rw [List.length_set]; exact g.len, by rw [sl_ne (by omega)]; exact g.h3, by rw [sl_ne (by omega)]; exact g.h4⟩
structure GO (D : PyData) (far : Nat) (k2 : List Lt) (ρ : DE) : Prop extends GA D far ρ where
  h5 : sl ρ 5 = some (.tuple (k2.map (lotv 0)))
theorem GO.set {D : PyData} {far : Nat} {k2 : List Lt} {ρ : DE} (g : GO D far k2 ρ) {i : Nat} (hi : 6 ≤ i) (x : Option PyData) : GO D far k2 (ρ.set i x) :=
  ⟨g.toGA.set (by omega) x, by rw [sl_ne (by omega)]; exact g.h5⟩
structure GI (D : PyData) (far : Nat) (k2 : List Lt) (i : Nat) (k1 : List Lt) (ρ : DE) : Prop extends GO D far k2 ρ where
  h6 : sl ρ 6 = some (.int i)
  h7 : sl ρ 7 = some (.tuple (k1.map (lotv (i + 1))))
theorem GI.set {D : PyData} {far : Nat} {k2 : List Lt} {i : Nat} {k1 : List Lt} {ρ : DE} (g : GI D far k2 i k1 ρ) {j : Nat} (hj : 8 ≤ j) (x : Option PyData) : GI D far k2 i k1 (ρ.set j x) :=
  ⟨g.toGO.set (by omega) x, by rw [sl_ne (by omega)]; exact g.h6, by rw [sl_ne (by omega)]; exact g.h7⟩
section
variable {CF : Addr} {h : Str × Str} {D : PyData} {far : Nat} {k2 k1 F : List Lt} {i : Nat}
theorem b1_at (hh : h ∈ heads2) (hi : i < 2) (hF : ∀ x ∈ F, GQ h x) (R2 : RE (kdv 0) (rkq h) F k2) (R1 : RE (kdv (i + 1)) (rkq h) F k1) (hl : k1.length ≤ 100000) {ρ : DE} (g : GI D far k2 i k1 ρ) {x : Lt} (hx : x ∈ k2) (h8 : sl ρ 8 = some (lotv 0 x)) : ∃ ρ', lawB1 CF ρ = some (.nx ρ') ∧ GI D far k2 i k1 ρ' := by
  obtain ⟨y, hy1, hy2⟩ := RE.law1 R2 R1 hx
  have gx := hF x (R2.a x hx)
  have hyk : y ∈ k1 := by
    have : y ∈ k1.filter fun y => decide (kdv (i + 1) y = kdv (i + 1) x) := by rw [hy1]; simp
    exact (List.mem_filter.mp this).1
  have gy := hF y (R1.a y hyk)
  refine ⟨ρ.set 9 (some (.list [lotv (i + 1) y])), ?_, g.set (by omega) _⟩
  have t : lcD [10] (fun ρ => ((fun ρ => sl ρ 7) ρ).bind asSeq) (oneB 10) (andT (fun ρ => (b2 eqFD (b2 ixD (fun ρ => sl ρ 10) (fun _ => some (.int 2))) (b2 ixD (fun ρ => sl ρ 8) (fun _ => some (.int 2))) ρ).bind asB) (fun ρ => (b2 eqD (b2 ixD (b2 ixD (fun ρ => sl ρ 10) (fun _ => some (.int 3))) (fun _ => some (.int 0))) (b2 ixD (b2 ixD (fun ρ => sl ρ 8) (fun _ => some (.int 3))) (fun ρ => sl ρ 6)) ρ).bind asB)) (fun ρ => sl ρ 10) ρ = some (.list [lotv (i + 1) y]) := by
    unfold lcD
    simp only [g.h7, Option.bind_some, asSeq]
    rw [if_pos (by rw [List.length_map]; exact hl), turns_filter2 (t := fun y => decide (kdv (i + 1) y = kdv (i + 1) x)) (fun y hy => ?_) (fun y hy => ?_), hy1]
    · rfl
    · have gy := hF y (R1.a y hy)
      have gw := (g.set (j := 10) (by omega) none).set (j := 10) (by omega) (some (lotv (i + 1) y))
      have e10 : sl ((ρ.set 10 none).set 10 (some (lotv (i + 1) y))) 10 = some (lotv (i + 1) y) := sl_set (by rw [List.length_set, g.len]; omega)
      have e8 : sl ((ρ.set 10 none).set 10 (some (lotv (i + 1) y))) 8 = some (lotv 0 x) := by rw [sl_ne (by omega), sl_ne (by omega)]; exact h8
      have e6 := gw.h6
      show andT _ _ ((ρ.set 10 none).set 10 (some (lotv (i + 1) y))) = _
      generalize (ρ.set 10 none).set 10 (some (lotv (i + 1) y)) = ρ1 at *
      have e0 : ixD (.tuple (vw (i + 1) y)) (.int 0) = some (.tuple (sd i y)) := by rw [vw_sd]; rfl
      unfold andT
      simp only [b2, e10, e8, e6, Option.bind_some, ix_l2, ix_l3, eqF_c, asB, e0, ix_sd hi]
      by_cases hc : y.c = x.c
      · have e := eqD_rows gx.gl.c (hc ▸ sd_gr gy.gl i) (sd_gr gx.gl i)
        rw [e]
        simp [hc, kdv_iff, asB]
      · simp [hc, kdv_iff]
    · exact sl_set (by
        show ((ρ.set 10 none)).length > 10
        rw [List.length_set, g.len]
        omega)
  have g2 := g.set (j := 9) (by omega) (some (.list [lotv (i + 1) y]))
  have e9 : sl (ρ.set 9 (some (.list [lotv (i + 1) y]))) 9 = some (.list [lotv (i + 1) y]) := sl_set (by rw [g.len]; omega)
  have e8 : sl (ρ.set 9 (some (.list [lotv (i + 1) y]))) 8 = some (lotv 0 x) := by rw [sl_ne (by omega)]; exact h8
  have ea : g_is_ahead CF [x.q, y.q] = some (.bool false) := by
    rw [is_ahead_at hh gx.qu gy.qu]
    congr 2
    exact decide_eq_false (by unfold rkq at hy2; omega)
  unfold lawB1 seqD
  rw [set_nx t]
  show ifD _ _ _ (ρ.set 9 (some (.list [lotv (i + 1) y]))) = _
  generalize ρ.set 9 (some (.list [lotv (i + 1) y])) = ρ2 at *
  have e0 : ixD (.list [lotv (i + 1) y]) (.int 0) = some (lotv (i + 1) y) := ixD_0 _ _
  have en : neFD (.int 1) (.int 1) = some (.bool false) := rfl
  unfold ifD orT
  simp [b2, e9, e8, lenD, e0, ix_l1, ea, asB, nxD, en]
theorem b2_at (hh : h ∈ heads2) (hi : i < 2) (hF : ∀ x ∈ F, GQ h x) (R2 : RE (kdv 0) (rkq h) F k2) (R1 : RE (kdv (i + 1)) (rkq h) F k1) (hl : k2.length ≤ 100000) {ρ : DE} (g : GI D far k2 i k1 ρ) {y : Lt} (hy : y ∈ k1) (h10 : sl ρ 10 = some (lotv (i + 1) y)) : ∃ ρ', lawB2 CF ρ = some (.nx ρ') ∧ GI D far k2 i k1 ρ' := by
  obtain ⟨z, xs, hz1, hz2, hz3⟩ := RE.law2 R2 R1 (fun _ _ => kdv_two hi) hy
  have gy := hF y (R1.a y hy)
  have gz := hF z (R2.a z hz3)
  have hq : z.q = y.q := qu_inj hh gz.qu gy.qu hz2
  refine ⟨ρ.set 9 (some (.list ((z :: xs).map (lotv 0)))), ?_, g.set (by omega) _⟩
  have t : lcD [8] (fun ρ => ((fun ρ => sl ρ 5) ρ).bind asSeq) (oneB 8) (andT (fun ρ => (b2 eqFD (b2 ixD (fun ρ => sl ρ 8) (fun _ => some (.int 2))) (b2 ixD (fun ρ => sl ρ 10) (fun _ => some (.int 2))) ρ).bind asB) (fun ρ => (b2 eqD (b2 ixD (b2 ixD (fun ρ => sl ρ 8) (fun _ => some (.int 3))) (fun ρ => sl ρ 6)) (b2 ixD (b2 ixD (fun ρ => sl ρ 10) (fun _ => some (.int 3))) (fun _ => some (.int 0))) ρ).bind asB)) (fun ρ => sl ρ 8) ρ = some (.list ((z :: xs).map (lotv 0))) := by
    unfold lcD
    simp only [g.h5, Option.bind_some, asSeq]
    rw [if_pos (by rw [List.length_map]; exact hl), turns_filter2 (t := fun x => decide (kdv (i + 1) x = kdv (i + 1) y)) (fun x hx => ?_) (fun x hx => ?_), hz1]
    · rfl
    · have gx := hF x (R2.a x hx)
      have gw := (g.set (j := 8) (by omega) none).set (j := 8) (by omega) (some (lotv 0 x))
      have e8 : sl ((ρ.set 8 none).set 8 (some (lotv 0 x))) 8 = some (lotv 0 x) := sl_set (by rw [List.length_set, g.len]; omega)
      have e10 : sl ((ρ.set 8 none).set 8 (some (lotv 0 x))) 10 = some (lotv (i + 1) y) := by rw [sl_ne (by omega), sl_ne (by omega)]; exact h10
      have e6 := gw.h6
      show andT _ _ ((ρ.set 8 none).set 8 (some (lotv 0 x))) = _
      generalize (ρ.set 8 none).set 8 (some (lotv 0 x)) = ρ1 at *
      have e0 : ixD (.tuple (vw (i + 1) y)) (.int 0) = some (.tuple (sd i y)) := by rw [vw_sd]; rfl
      unfold andT
      simp only [b2, e10, e8, e6, Option.bind_some, ix_l2, ix_l3, eqF_c, asB, e0, ix_sd hi]
      by_cases hc : x.c = y.c
      · have e := eqD_rows gy.gl.c (hc ▸ sd_gr gx.gl i) (sd_gr gy.gl i)
        rw [e]
        simp [hc, kdv_iff, asB]
      · simp [hc, kdv_iff]
    · exact sl_set (by
        show ((ρ.set 8 none)).length > 8
        rw [List.length_set, g.len]
        omega)
  have g2 := g.set (j := 9) (by omega) (some (.list ((z :: xs).map (lotv 0))))
  have e9 : sl (ρ.set 9 (some (.list ((z :: xs).map (lotv 0))))) 9 = some (.list ((z :: xs).map (lotv 0))) := sl_set (by rw [g.len]; omega)
  have e10 : sl (ρ.set 9 (some (.list ((z :: xs).map (lotv 0))))) 10 = some (lotv (i + 1) y) := by rw [sl_ne (by omega)]; exact h10
  have ok : okEq (.list ((z :: xs).map (lotv 0))) = true := okEq_lots hh fun x hx => by
    have : x ∈ k2.filter fun x => decide (kdv (i + 1) x = kdv (i + 1) y) := by rw [hz1]; exact hx
    have gx := hF x (R2.a x (List.mem_filter.mp this).1)
    exact ⟨gx.gl, gx.qu⟩
  have ee : eqD (.list ((z :: xs).map (lotv 0))) (.list []) = some (.bool false) := by
    unfold eqD
    rw [if_pos ⟨ok, okEq_nil⟩, List.map_cons, eqv_cons_nil]
  have en : neD z.q y.q = some (.bool false) := by rw [hq]; exact neD_self hh gy.qu
  have e0 : ixD (.list ((z :: xs).map (lotv 0))) (.int 0) = some (lotv 0 z) := ixD_0 _ _
  unfold lawB2 seqD
  rw [set_nx t]
  show ifD _ _ _ (ρ.set 9 (some (.list ((z :: xs).map (lotv 0))))) = _
  generalize ρ.set 9 (some (.list ((z :: xs).map (lotv 0)))) = ρ2 at *
  generalize PyData.list ((z :: xs).map (lotv 0)) = L at *
  have el : lstD [] = some (.list []) := rfl
  unfold ifD orT
  simp [b2, e9, e10, el, ee, e0, ix_l1, en, asB, nxD]
end
end DL

set_option Elab.async false
set_option linter.all false
set_option maxRecDepth 100000
set_option maxHeartbeats 4000000
/-! The law as a whole, and its data. -/
namespace DL
open PySem PySem.Spec
theorem field_at {CF : Addr} {b n d : PyData} {bs us dd : List PyData} (hb : b = .tuple bs) (h1 : g_are_books CF [b] = some (.bool true)) (h2 : g_named_of CF [n] = some (.tuple us)) (h3 : g_deeds_of CF [d] = some (.tuple dd)) : mkField CF [b, n, d] = some (fld CF bs us dd) := by
  subst hb
  unfold mkField
  simp only [h1, h2, h3, Option.bind_some]
  rfl
section
variable {CF : Addr} {h : Str × Str} {far : Nat} {F k2 : List Lt} {b1 b2 n d x : PyData} {f0 : PyData} {fi : Nat → PyData} {k1 : Nat → List Lt}
def bi (b1 b2 : PyData) : Nat → PyData
  | 0 => b1
  | _ => b2
theorem loop_at (hh : h ∈ heads2) (hF : ∀ x ∈ F, GQ h x) (R2 : RE (kdv 0) (rkq h) F k2) (R1 : ∀ i, i < 2 → RE (kdv (i + 1)) (rkq h) F (k1 i)) (hl2 : k2.length ≤ 100000) (hl1 : ∀ i, i < 2 → (k1 i).length ≤ 100000)
    (e1 : ∀ i, i < 2 → mkField CF [.tuple [bi b1 b2 i], n, d] = some (fi i)) (e2 : ∀ i, i < 2 → g_reach CF [fi i, .int far] = some (.tuple ((k1 i).map (lotv (i + 1))))) {ρ : DE} (g : GO (.list [.tuple [b1, b2], n, d, x]) far k2 ρ) {i : Nat} (hi : i < 2) :
    ∃ ρ', seqD (lawOwn CF) (seqD (forS (fun ρ => ((fun ρ => sl ρ 5) ρ).bind asSeq) (oneB 8) (lawB1 CF)) (forS (fun ρ => ((fun ρ => sl ρ 7) ρ).bind asSeq) (oneB 10) (lawB2 CF))) (ρ.set 6 (some (.int i))) = some (.nx ρ') ∧ GO (.list [.tuple [b1, b2], n, d, x]) far k2 ρ' := by
  have g6 := g.set (i := 6) (by omega) (some (.int i))
  have h6 : sl (ρ.set 6 (some (.int i))) 6 = some (.int i) := sl_set (by rw [g.len]; omega)
  generalize ρ.set 6 (some (.int i)) = ρ0 at *
  have e0 : ixD (.list [.tuple [b1, b2], n, d, x]) (.int 0) = some (.tuple [b1, b2]) := rfl
  have e01 : ixD (.list [.tuple [b1, b2], n, d, x]) (.int 1) = some n := rfl
  have e02 : ixD (.list [.tuple [b1, b2], n, d, x]) (.int 2) = some d := rfl
  have eb : ixD (.tuple [b1, b2]) (.int i) = some (bi b1 b2 i) := by
    match i, hi with
    | 0, _ => rfl
    | 1, _ => rfl
  have s1 : lawOwn CF ρ0 = some (.nx (ρ0.set 7 (some (.tuple ((k1 i).map (lotv (i + 1))))))) := by
    unfold lawOwn
    refine set_nx ?_
    have et : tupD [bi b1 b2 i] = some (.tuple [bi b1 b2 i]) := rfl
    generalize hD : PyData.list [.tuple [b1, b2], n, d, x] = D at *
    simp only [DL.b2, g6.h3, h6, g6.h4, Option.bind_some, e0, e01, e02, eb, et, e1 i hi, e2 i hi]
  have g7 : GI (.list [.tuple [b1, b2], n, d, x]) far k2 i (k1 i) (ρ0.set 7 (some (.tuple ((k1 i).map (lotv (i + 1)))))) := ⟨g6.set (by omega) _, by rw [sl_ne (by omega)]; exact h6, sl_set (by rw [g6.len]; omega)⟩
  obtain ⟨ρ1, s2, g8⟩ := forD_inv (P := GI (.list [.tuple [b1, b2], n, d, x]) far k2 i (k1 i)) (B := oneB 8) (S := lawB1 CF) (k2.map (lotv 0)) _ g7 fun z hz ρ g => by
    obtain ⟨y, hy, rfl⟩ := List.mem_map.mp hz
    obtain ⟨ρ', t1, t2⟩ := b1_at (CF := CF) hh hi hF R2 (R1 i hi) (hl1 i hi) (g.set (j := 8) (by omega) (some (lotv 0 y))) hy (sl_set (by rw [g.len]; omega))
    exact ⟨_, ρ', rfl, t1, t2⟩
  obtain ⟨ρ2, s3, g9⟩ := forD_inv (P := GI (.list [.tuple [b1, b2], n, d, x]) far k2 i (k1 i)) (B := oneB 10) (S := lawB2 CF) ((k1 i).map (lotv (i + 1))) _ g8 fun z hz ρ g => by
    obtain ⟨y, hy, rfl⟩ := List.mem_map.mp hz
    obtain ⟨ρ', t1, t2⟩ := b2_at (CF := CF) hh hi hF R2 (R1 i hi) hl2 (g.set (j := 10) (by omega) (some (lotv (i + 1) y))) hy (sl_set (by rw [g.len]; omega))
    exact ⟨_, ρ', rfl, t1, t2⟩
  refine ⟨ρ2, ?_, g9.toGO⟩
  have f1 : forS (fun ρ => ((fun ρ => sl ρ 5) ρ).bind asSeq) (oneB 8) (lawB1 CF) (ρ0.set 7 (some (.tuple ((k1 i).map (lotv (i + 1)))))) = some (.nx ρ1) := by
    unfold forS
    simp only [g7.h5, Option.bind_some, asSeq]
    exact s2
  have f2 : forS (fun ρ => ((fun ρ => sl ρ 7) ρ).bind asSeq) (oneB 10) (lawB2 CF) ρ1 = some (.nx ρ2) := by
    unfold forS
    simp only [g8.h7, Option.bind_some, asSeq]
    exact s3
  unfold seqD
  rw [s1]
  show (forS (fun ρ => ((fun ρ => sl ρ 5) ρ).bind asSeq) (oneB 8) (lawB1 CF) (ρ0.set 7 (some (.tuple ((k1 i).map (lotv (i + 1)))))) |>.bind _) = _
  rw [f1]
  exact f2
theorem rest_at (hh : h ∈ heads2) (hF : ∀ x ∈ F, GQ h x) (R2 : RE (kdv 0) (rkq h) F k2) (R1 : ∀ i, i < 2 → RE (kdv (i + 1)) (rkq h) F (k1 i)) (hl2 : k2.length ≤ 100000) (hl1 : ∀ i, i < 2 → (k1 i).length ≤ 100000)
    (e0 : mkField CF [.tuple [b1, b2], n, d] = some f0) (e00 : g_reach CF [f0, .int far] = some (.tuple (k2.map (lotv 0))))
    (e1 : ∀ i, i < 2 → mkField CF [.tuple [bi b1 b2 i], n, d] = some (fi i)) (e2 : ∀ i, i < 2 → g_reach CF [fi i, .int far] = some (.tuple ((k1 i).map (lotv (i + 1))))) {ρ : DE} (g : GA (.list [.tuple [b1, b2], n, d, x]) far ρ) : lawRest CF ρ = some (.rt (.bool true)) := by
  have j0 : ixD (.list [.tuple [b1, b2], n, d, x]) (.int 0) = some (.tuple [b1, b2]) := rfl
  have j1 : ixD (.list [.tuple [b1, b2], n, d, x]) (.int 1) = some n := rfl
  have j2 : ixD (.list [.tuple [b1, b2], n, d, x]) (.int 2) = some d := rfl
  have s1 : lawLots CF ρ = some (.nx (ρ.set 5 (some (.tuple (k2.map (lotv 0)))))) := by
    unfold lawLots
    refine set_nx ?_
    have h3 := g.h3
    generalize hD : PyData.list [.tuple [b1, b2], n, d, x] = D at *
    simp only [DL.b2, h3, g.h4, Option.bind_some, j0, j1, j2, e0, e00]
  have g5 : GO (.list [.tuple [b1, b2], n, d, x]) far k2 (ρ.set 5 (some (.tuple (k2.map (lotv 0))))) := ⟨g.set (by omega) _, sl_set (by rw [g.len]; omega)⟩
  have s2 := forD_inv (P := GO (.list [.tuple [b1, b2], n, d, x]) far k2) (B := oneB 6) (S := seqD (lawOwn CF) (seqD (forS (fun ρ => ((fun ρ => sl ρ 5) ρ).bind asSeq) (oneB 8) (lawB1 CF)) (forS (fun ρ => ((fun ρ => sl ρ 7) ρ).bind asSeq) (oneB 10) (lawB2 CF)))) (rngD 0 2) _ g5 fun z hz ρ g => by
    obtain ⟨i, hi, rfl⟩ := List.mem_map.mp (show z ∈ (List.range 2).map fun i => PyData.int (0 + (i : Nat)) from hz)
    have hi := List.mem_range.mp hi
    obtain ⟨ρ', t1, t2⟩ := loop_at (CF := CF) hh hF R2 R1 hl2 hl1 e1 e2 g hi
    refine ⟨_, ρ', rfl, ?_, t2⟩
    rw [Int.zero_add]
    exact t1
  obtain ⟨ρ1, s2, g1⟩ := s2
  unfold lawRest seqD
  rw [s1]
  show ((forD (oneB 6) (seqD (lawOwn CF) (seqD (forS (fun ρ => ((fun ρ => sl ρ 5) ρ).bind asSeq) (oneB 8) (lawB1 CF)) (forS (fun ρ => ((fun ρ => sl ρ 7) ρ).bind asSeq) (oneB 10) (lawB2 CF)))) (rngD 0 2) (ρ.set 5 (some (.tuple (k2.map (lotv 0)))))).bind _) = _
  rw [s2]
  rfl
end
end DL

set_option Elab.async false
set_option linter.all false
set_option maxRecDepth 100000
set_option maxHeartbeats 4000000
/-! The law's data, and the plain law. -/
namespace DL
open PySem PySem.Spec
theorem pool_U {s m : Nat} : ∀ v ∈ poolOf s m, v ∈ valsU := by
  intro v hv
  have hv : v ∈ poolBase := List.mem_of_mem_drop (List.mem_of_mem_take hv)
  rcases (by simpa [poolBase] using hv : v = _ ∨ v = _ ∨ v = _ ∨ v = _ ∨ v = _ ∨ v = _) with rfl | rfl | rfl | rfl | rfl | rfl <;> simp [valsU]
theorem row_in {pool : List PyData} (hp : ∀ v ∈ pool, v ∈ valsU) {c : Nat} (hc : c = 1 ∨ c = 2) {r : PyData} (h : RowIn pool c r) : r ∈ rowsU c := by
  obtain ⟨vs, rfl, hl, hv⟩ := h
  rcases hc with rfl | rfl
  · obtain ⟨x, rfl⟩ := List.length_eq_one_iff.mp hl
    exact row1 (hp x (hv x (by simp)))
  · match vs, hl with
    | [x, y], _ => exact row2 (hp x (hv x (by simp))) (hp y (hv y (by simp)))
def tt (t : Tn) : PyData := .tuple [.str t.1, .int (t.2 : Nat)]
theorem told_at {pool : List PyData} (hp : ∀ v ∈ pool, v ∈ valsU) {t : Tn} (hc : t.2 = 1 ∨ t.2 = 2) {d : PyData} (h : ToldT pool (tt t) d) : ∃ R, d = mkTab t R ∧ GR t.2 R ∧ Rise t.2 R := by
  obtain ⟨n', c', rows, e1, rfl, hl, hr⟩ := h
  unfold tt at e1
  injection e1 with e1
  injection e1 with e1 e2
  injection e2 with e2 _
  injection e1 with e1
  injection e2 with e2
  have e2 : t.2 = c' := by omega
  subst e1 e2
  obtain ⟨g, s⟩ := lawOrd_ok hc hl fun r hrm => row_in hp hc (hr r hrm)
  exact ⟨_, rfl, g, s⟩
inductive TS : List PyData → Prop
  | one {n : Str} {c : Nat} : n ∈ heads1 → (c = 1 ∨ c = 2) → TS [tt (n, c)]
  | two {n m : Str} {c e : Nat} : (n, m) ∈ heads2 → (c = 1 ∨ c = 2) → (e = 1 ∨ e = 2) → TS [tt (n, c), tt (m, e)]
theorem tt_int {n : Str} {c : Int} (h : 1 ≤ c ∧ c ≤ 2) : ∃ k : Nat, (k = 1 ∨ k = 2) ∧ PyData.tuple [.str n, .int c] = tt (n, k) := by
  refine ⟨c.toNat, by omega, ?_⟩
  unfold tt
  simp only
  rw [Int.toNat_of_nonneg (by omega)]
theorem tabs_ts {t0 : List PyData} (h : TabsOk 2 t0) : TS (t0.take 2) := by
  obtain ⟨ns, cs, hm, h1, h2, h3, rfl⟩ := h
  have hn : ∃ a b c, ns = [a, b, c] ∧ a ∈ heads1 ∧ (a, b) ∈ heads2 := by
    rcases (by simpa [nameSets] using hm : ns = _ ∨ ns = _ ∨ ns = _) with rfl | rfl | rfl
    · exact ⟨_, _, _, rfl, by simp [heads1], by simp [heads2]⟩
    · exact ⟨_, _, _, rfl, by simp [heads1], by simp [heads2]⟩
    · exact ⟨_, _, _, rfl, by simp [heads1], by simp [heads2]⟩
  obtain ⟨a, b, c, rfl, ha, hb⟩ := hn
  match cs, h1, h2 with
  | [x], _, _ =>
    obtain ⟨k, hk, e⟩ := tt_int (n := a) (h3 x (by simp))
    show TS [PyData.tuple [.str a, .int x]]
    rw [e]
    exact .one ha hk
  | x :: y :: r, _, _ =>
    obtain ⟨k, hk, e⟩ := tt_int (n := a) (h3 x (by simp))
    obtain ⟨l, hl, e2⟩ := tt_int (n := b) (h3 y (by simp))
    show TS [PyData.tuple [.str a, .int x], PyData.tuple [.str b, .int y]]
    rw [e, e2]
    exact .two hb hk hl
theorem books_gb {pool tabs : List PyData} (hp : ∀ v ∈ pool, v ∈ valsU) (ht : TS tabs) {b1 b2 : PyData} (h1 : BookOf pool tabs b1) (h2 : BookOf pool tabs b2) : ∃ ts Rs Ss, b1 = mkBook ts Rs ∧ b2 = mkBook ts Ss ∧ GB ts Rs ∧ GB ts Ss := by
  obtain ⟨d1, rfl, p1⟩ := h1
  obtain ⟨d2, rfl, p2⟩ := h2
  cases ht with
  | @one n c hn hc =>
    cases p1 with
    | cons r1 t1 =>
      cases t1
      cases p2 with
      | cons r2 t2 =>
        cases t2
        obtain ⟨R, rfl, g1, s1⟩ := told_at hp (t := (n, c)) hc r1
        obtain ⟨S, rfl, g2, s2⟩ := told_at hp (t := (n, c)) hc r2
        exact ⟨[(n, c)], [R], [S], rfl, rfl, .one hn hc g1 s1, .one hn hc g2 s2⟩
  | @two n m c e hn hc he =>
    cases p1 with
    | cons r1 t1 =>
      cases t1 with
      | cons r1' t1 =>
        cases t1
        cases p2 with
        | cons r2 t2 =>
          cases t2 with
          | cons r2' t2 =>
            cases t2
            obtain ⟨R, rfl, g1, s1⟩ := told_at hp (t := (n, c)) hc r1
            obtain ⟨R', rfl, g1', s1'⟩ := told_at hp (t := (m, e)) he r1'
            obtain ⟨S, rfl, g2, s2⟩ := told_at hp (t := (n, c)) hc r2
            obtain ⟨S', rfl, g2', s2'⟩ := told_at hp (t := (m, e)) he r2'
            exact ⟨[(n, c), (m, e)], [R, R'], [S, S'], rfl, rfl, .two hn hc he g1 s1 g1' s1', .two hn hc he g2 s2 g2' s2'⟩
theorem words_DW {ws : List Str} (h : ws ∈ wordSets) : (∀ x ∈ ws, x ∈ DW) ∧ ws.length ≤ 4 := by
  have h1 : (wordSets.all fun ws => (ws.all fun x => decide (x ∈ DW)) && decide (ws.length ≤ 4)) = true := by decide +kernel
  have := Bool.and_eq_true_iff.mp (List.all_eq_true.mp h1 ws h)
  exact ⟨fun x hx => of_decide_eq_true (List.all_eq_true.mp this.1 x hx), of_decide_eq_true this.2⟩
theorem plainLaw : ∀ CF, PlainLaw CF := by
  intro CF ws tabs pool b1 b2 marked chosen far ρ hws hd h0 h2 hlen h3 h4
  obtain ⟨k, rfl⟩ : ∃ k : Nat, far = (k : Nat) := ⟨far.toNat, by omega⟩
  have hk : k ≤ 2 := by omega
  obtain ⟨t0, ht0, rfl⟩ := hd.tabs_
  obtain ⟨s, m, -, -, -, rfl⟩ := hd.pool_
  obtain ⟨ts, Rs, Ss, rfl, rfl, g, g2⟩ := books_gb pool_U (tabs_ts ht0) hd.b1_ hd.b2_
  obtain ⟨h, hh, hb, he, hl⟩ := base_at g g2
  obtain ⟨us, hn1, hn2, hn3⟩ := named_of_at (CF := CF) (fun v hv => pool_U v (hd.marked_ v hv)) hd.mlen
  obtain ⟨w1, w2⟩ := words_DW hws
  have hcl := hd.clen
  have hdd := deeds_of_at (CF := CF) (chosen := chosen) (fun x hx => w1 x (hd.chosen_ x hx)) (by omega)
  generalize hD : (DW.filter fun w => decide (w ∈ chosen)) = dd at hdd
  have hdW : ∀ w ∈ dd, w ∈ DW := fun w hw => by rw [← hD] at hw; exact (List.mem_filter.mp hw).1
  have hd9 : dd.length ≤ 9 := by
    rw [← hD]
    exact List.length_filter_le _ DW
  have rc := fun v => reach_at (CF := CF) hh g g2 hb he hl hn2 hn3 hdW hd9 v hk
  obtain ⟨k2, e0, R2, l2⟩ := rc 0
  obtain ⟨ka, ea, Ra, la⟩ := rc 1
  obtain ⟨kb, eb, Rb, lb⟩ := rc 2
  refine rest_at (CF := CF) (h := h) (far := k) (F := full CF us dd (base ts Rs Ss) k) (k2 := k2) (k1 := fun i => match i with
    | 0 => ka
    | _ => kb) (fi := fun i => fld CF (bks ts Rs Ss (i + 1)) us (dd.map .str)) hh (full_gq hb hn2 k) R2 (fun i hi => ?_) (by omega) (fun i hi => ?_) (field_at rfl (are_books2 g g2) hn1 hdd) e0 (fun i hi => ?_) (fun i hi => ?_) ⟨hlen, h3, h4⟩
  · match i, hi with
    | 0, _ => exact Ra
    | 1, _ => exact Rb
  · match i, hi with
    | 0, _ => exact (show ka.length ≤ 100000 by omega)
    | 1, _ => exact (show kb.length ≤ 100000 by omega)
  · match i, hi with
    | 0, _ => exact field_at rfl (are_books1 g) hn1 hdd
    | 1, _ => exact field_at rfl (are_books1 g2) hn1 hdd
  · match i, hi with
    | 0, _ => exact ea
    | 1, _ => exact eb
end DL

set_option Elab.async false
set_option maxHeartbeats 0
set_option maxRecDepth 100000
open PySem PySem.W PyProof.Rows
open_top head for PySem.Challenge.rw_findquestion_k85_whole_one_book_of_two
theorem PySem.Challenge.cw_findquestion_k85_whole_one_book_of_two_holds : PySem.Challenge.rw_findquestion_k85_whole_one_book_of_two.Holds := by
  w_on
  o_law
  k_head
  case hw => w_witness2
  k_fill
  refine DL.walkL (l := PySem.Challenge.rw_findquestion_k85_whole_one_book_of_two) (n := 63) rfl (by decide) rfl (fun w h Y => PySem.W.km_in_of Y) (by rfl) ?F
  case F =>
    intro w mg fa h KX G hmg
    refine' DL.fin_mk DL.plainLaw KX G hmg ?z_all ?z_bool ?z_int ?z_isinstance ?z_len ?z_list ?z_range ?z_set ?z_sorted ?z_str ?z_sum ?z_tuple ?z_zip ?i_WIDE ?i_ROWS ?i_TABLES ?i_MANY ?i_VALUES ?i_NAMED ?i_SIZE ?i_LOTS ?i_LONGEST ?i_GREATEST ?i_L ?nD_ ?lD_ ?nO_ ?lO_ ?kO_ ?sO_ ?gO0 ?gO1 ?gO2 ?gO3 ?nF_ ?pg ?hdF ?poF ?saF ?na_books ?na_named ?na_deeds ?aL ?isL ?lL ?cL ?kL ?aI ?isI ?lI ?cI ?kI ?dN ?dD ?mkF ?kF ?aE_ ?lE ?cE ?kE ?lE2 ?lE3 ?a0 ?l0 ?c0 ?k0 ?a1 ?l1 ?c1 ?k1 ?a2 ?l2 ?c2 ?k2 ?a3 ?l3 ?c3 ?k3 ?a4 ?l4 ?c4 ?k4 ?a5 ?l5 ?c5 ?k5 ?a6 ?l6 ?c6 ?k6 ?a7 ?l7 ?c7 ?k7 ?a8 ?l8 ?c8 ?k8 ?a9 ?l9 ?c9 ?k9 ?a10 ?l10 ?c10 ?k10 ?a11 ?l11 ?c11 ?k11 ?a12 ?l12 ?c12 ?k12 ?a13 ?l13 ?c13 ?k13 ?a14 ?l14 ?c14 ?k14 ?a15 ?l15 ?c15 ?k15 ?a16 ?l16 ?c16 ?k16 ?a17 ?l17 ?c17 ?k17 ?a18 ?l18 ?c18 ?k18 ?a19 ?l19 ?c19 ?k19 ?a20 ?l20 ?c20 ?k20 ?a21 ?l21 ?c21 ?k21 ?a22 ?l22 ?c22 ?k22 ?a23 ?l23 ?c23 ?k23 ?a24 ?l24 ?c24 ?k24 ?a25 ?l25 ?c25 ?k25 ?a26 ?l26 ?c26 ?k26 ?a27 ?l27 ?c27 ?k27 ?a28 ?l28 ?c28 ?k28 ?a29 ?l29 ?c29 ?k29 ?a30 ?l30 ?c30 ?k30 ?a31 ?l31 ?c31 ?k31 ?a32 ?l32 ?c32 ?k32 ?a33 ?l33 ?c33 ?k33 ?a34 ?l34 ?c34 ?k34 ?a35 ?l35 ?c35 ?k35 ?a36 ?l36 ?c36 ?k36 ?a37 ?l37 ?c37 ?k37 ?a38 ?l38 ?c38 ?k38 ?a39 ?l39 ?c39 ?k39 ?a40 ?l40 ?c40 ?k40 ?a41 ?l41 ?c41 ?k41 ?a42 ?l42 ?c42 ?k42 ?a43 ?l43 ?c43 ?k43 ?a44 ?l44 ?c44 ?k44 ?a45 ?l45 ?c45 ?k45 ?a46 ?l46 ?c46 ?k46 ?a47 ?l47 ?c47 ?k47 ?a48 ?l48 ?c48 ?k48 ?a49 ?l49 ?c49 ?k49 ?a50 ?l50 ?c50 ?k50 ?a51 ?l51 ?c51 ?k51 ?a52 ?l52 ?c52 ?k52 ?a53 ?l53 ?c53 ?k53 ?a54 ?l54 ?c54 ?k54 ?a55 ?l55 ?c55 ?k55 ?a56 ?l56 ?c56 ?k56 ?a57 ?l57 ?c57 ?k57 ?a58 ?l58 ?c58 ?k58 ?aS ?lS ?cS_ ?kS ?lC ?vS ?nT
    case z_all => k_is
    case z_bool => k_is
    case z_int => k_is
    case z_isinstance => k_is
    case z_len => k_is
    case z_list => k_is
    case z_range => k_is
    case z_set => k_is
    case z_sorted => k_is
    case z_str => k_is
    case z_sum => k_is
    case z_tuple => k_is
    case z_zip => k_is
    case i_WIDE => k_is
    case i_ROWS => k_is
    case i_TABLES => k_is
    case i_MANY => k_is
    case i_VALUES => k_is
    case i_NAMED => k_is
    case i_SIZE => k_is
    case i_LOTS => k_is
    case i_LONGEST => k_is
    case i_GREATEST => k_is
    case i_L => k_is
    case nD_ => k_is
    case lD_ => k_is
    case nO_ => k_is
    case lO_ => k_is
    case kO_ => k_keys
    case sO_ => decide
    case gO0 => k_is
    case gO1 => k_is
    case gO2 => k_is
    case gO3 => k_is
    case nF_ => k_is
    case pg => k_is
    case hdF => k_is
    case poF => k_is
    case saF => k_is
    case na_books => k_is
    case na_named => k_is
    case na_deeds => k_is
    case aL => k_is
    case isL => k_is
    case lL => k_is
    case cL => k_is
    case kL => k_is
    case aI => k_is
    case isI => k_is
    case lI => k_is
    case cI => k_is
    case kI => k_is
    case dN => k_is
    case dD => k_is
    case mkF => k_is
    case kF => k_is
    case aE_ => k_is
    case lE => k_is
    case cE => k_is
    case kE => k_is
    case lE2 => k_is
    case lE3 => k_is
    case a0 => k_is
    case l0 => k_is
    case c0 => k_is
    case k0 => k_is
    case a1 => k_is
    case l1 => k_is
    case c1 => k_is
    case k1 => k_is
    case a2 => k_is
    case l2 => k_is
    case c2 => k_is
    case k2 => k_is
    case a3 => k_is
    case l3 => k_is
    case c3 => k_is
    case k3 => k_is
    case a4 => k_is
    case l4 => k_is
    case c4 => k_is
    case k4 => k_is
    case a5 => k_is
    case l5 => k_is
    case c5 => k_is
    case k5 => k_is
    case a6 => k_is
    case l6 => k_is
    case c6 => k_is
    case k6 => k_is
    case a7 => k_is
    case l7 => k_is
    case c7 => k_is
    case k7 => k_is
    case a8 => k_is
    case l8 => k_is
    case c8 => k_is
    case k8 => k_is
    case a9 => k_is
    case l9 => k_is
    case c9 => k_is
    case k9 => k_is
    case a10 => k_is
    case l10 => k_is
    case c10 => k_is
    case k10 => k_is
    case a11 => k_is
    case l11 => k_is
    case c11 => k_is
    case k11 => k_is
    case a12 => k_is
    case l12 => k_is
    case c12 => k_is
    case k12 => k_is
    case a13 => k_is
    case l13 => k_is
    case c13 => k_is
    case k13 => k_is
    case a14 => k_is
    case l14 => k_is
    case c14 => k_is
    case k14 => k_is
    case a15 => k_is
    case l15 => k_is
    case c15 => k_is
    case k15 => k_is
    case a16 => k_is
    case l16 => k_is
    case c16 => k_is
    case k16 => k_is
    case a17 => k_is
    case l17 => k_is
    case c17 => k_is
    case k17 => k_is
    case a18 => k_is
    case l18 => k_is
    case c18 => k_is
    case k18 => k_is
    case a19 => k_is
    case l19 => k_is
    case c19 => k_is
    case k19 => k_is
    case a20 => k_is
    case l20 => k_is
    case c20 => k_is
    case k20 => k_is
    case a21 => k_is
    case l21 => k_is
    case c21 => k_is
    case k21 => k_is
    case a22 => k_is
    case l22 => k_is
    case c22 => k_is
    case k22 => k_is
    case a23 => k_is
    case l23 => k_is
    case c23 => k_is
    case k23 => k_is
    case a24 => k_is
    case l24 => k_is
    case c24 => k_is
    case k24 => k_is
    case a25 => k_is
    case l25 => k_is
    case c25 => k_is
    case k25 => k_is
    case a26 => k_is
    case l26 => k_is
    case c26 => k_is
    case k26 => k_is
    case a27 => k_is
    case l27 => k_is
    case c27 => k_is
    case k27 => k_is
    case a28 => k_is
    case l28 => k_is
    case c28 => k_is
    case k28 => k_is
    case a29 => k_is
    case l29 => k_is
    case c29 => k_is
    case k29 => k_is
    case a30 => k_is
    case l30 => k_is
    case c30 => k_is
    case k30 => k_is
    case a31 => k_is
    case l31 => k_is
    case c31 => k_is
    case k31 => k_is
    case a32 => k_is
    case l32 => k_is
    case c32 => k_is
    case k32 => k_is
    case a33 => k_is
    case l33 => k_is
    case c33 => k_is
    case k33 => k_is
    case a34 => k_is
    case l34 => k_is
    case c34 => k_is
    case k34 => k_is
    case a35 => k_is
    case l35 => k_is
    case c35 => k_is
    case k35 => k_is
    case a36 => k_is
    case l36 => k_is
    case c36 => k_is
    case k36 => k_is
    case a37 => k_is
    case l37 => k_is
    case c37 => k_is
    case k37 => k_is
    case a38 => k_is
    case l38 => k_is
    case c38 => k_is
    case k38 => k_is
    case a39 => k_is
    case l39 => k_is
    case c39 => k_is
    case k39 => k_is
    case a40 => k_is
    case l40 => k_is
    case c40 => k_is
    case k40 => k_is
    case a41 => k_is
    case l41 => k_is
    case c41 => k_is
    case k41 => k_is
    case a42 => k_is
    case l42 => k_is
    case c42 => k_is
    case k42 => k_is
    case a43 => k_is
    case l43 => k_is
    case c43 => k_is
    case k43 => k_is
    case a44 => k_is
    case l44 => k_is
    case c44 => k_is
    case k44 => k_is
    case a45 => k_is
    case l45 => k_is
    case c45 => k_is
    case k45 => k_is
    case a46 => k_is
    case l46 => k_is
    case c46 => k_is
    case k46 => k_is
    case a47 => k_is
    case l47 => k_is
    case c47 => k_is
    case k47 => k_is
    case a48 => k_is
    case l48 => k_is
    case c48 => k_is
    case k48 => k_is
    case a49 => k_is
    case l49 => k_is
    case c49 => k_is
    case k49 => k_is
    case a50 => k_is
    case l50 => k_is
    case c50 => k_is
    case k50 => k_is
    case a51 => k_is
    case l51 => k_is
    case c51 => k_is
    case k51 => k_is
    case a52 => k_is
    case l52 => k_is
    case c52 => k_is
    case k52 => k_is
    case a53 => k_is
    case l53 => k_is
    case c53 => k_is
    case k53 => k_is
    case a54 => k_is
    case l54 => k_is
    case c54 => k_is
    case k54 => k_is
    case a55 => k_is
    case l55 => k_is
    case c55 => k_is
    case k55 => k_is
    case a56 => k_is
    case l56 => k_is
    case c56 => k_is
    case k56 => k_is
    case a57 => k_is
    case l57 => k_is
    case c57 => k_is
    case k57 => k_is
    case a58 => k_is
    case l58 => k_is
    case c58 => k_is
    case k58 => k_is
    case aS => k_is
    case lS => k_is
    case cS_ => k_is
    case kS => k_is
    case lC => k_is
    case vS => rfl
    case nT => kernel_rfl
