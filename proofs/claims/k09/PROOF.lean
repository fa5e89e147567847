import PyProof.Rows.All
import Wide.All
import OpenK.AllK
import Wide.FinOn
import HandS.ForMost
import HandS.ForExc
import HandS.Deep
import HandS.TupSets
import HandS.TupLen
import HandS.TupAny
import HandS.IsInst
import HandS.Zip
import HandS.Conv
import HandS.Wide
import HandS.Flow
import HandS.Small
import KE.Datum
import KE.DatumOrd
import KE.SortData
import HandS.DictComp
import KE.KDictPairs
import KE.KDictZip
import KE.KDictCopyH
import KE.KDictDisplayH
import HandS.Style
import PyProof.NeKinds
import HandS.ExcOwn
import HandS.ExcIs
import HandS.EndBits
import PySem.Challenge.RW_holefloors_k09_whole_all_floors_by_cover
/-! ## HfA -/
set_option Elab.async false
set_option linter.all false
set_option maxRecDepth 100000
set_option maxHeartbeats 1000000
/-! The layer: data that is only read (Dq) over a part H0 of the heap; expressions that give data (PD). -/
namespace Hf
open L2 PySem PySem.Spec PyProof.Rows
open PySem.W (Datum DatumOrd Tup)

/-! ### data in the heap -/
mutual
inductive Dq (H : Hp) : V → PyData → Prop
  | non : Dq H .non .none
  | bl (b : Bool) : Dq H (.bl b) (.bool b)
  | int (i : Int) : Dq H (.int i) (.int i)
  | str (x : Str) : Dq H (.str x) (.str x)
  | lst {a : Addr} {xs : List V} {ds : List PyData} (h : H a = some (.lst xs)) (r : DqA H xs ds) : Dq H (.ref a) (.list ds)
  | tup {a : Addr} {xs : List V} {ds : List PyData} (h : H a = some (.tup xs)) (r : DqA H xs ds) : Dq H (.ref a) (.tuple ds)
inductive DqA (H : Hp) : List V → List PyData → Prop
  | nil : DqA H [] []
  | cons {v : V} {vs : List V} {d : PyData} {ds : List PyData} (h : Dq H v d) (r : DqA H vs ds) : DqA H (v :: vs) (d :: ds)
end

mutual
theorem Dq.mono {H H' : Hp} (s : Same H H') : ∀ (d : PyData) (v : V), Dq H v d → Dq H' v d
  | .none, _, h => by cases h; exact .non
  | .bool _, _, h => by cases h; exact .bl _
  | .int _, _, h => by cases h; exact .int _
  | .str _, _, h => by cases h; exact .str _
  | .list ds, _, h => by cases h with | lst h r => exact .lst (s _ _ h) (DqA.mono s ds _ r)
  | .tuple ds, _, h => by cases h with | tup h r => exact .tup (s _ _ h) (DqA.mono s ds _ r)
  | .dict _, _, h => by cases h
theorem DqA.mono {H H' : Hp} (s : Same H H') : ∀ (ds : List PyData) (vs : List V), DqA H vs ds → DqA H' vs ds
  | [], _, h => by cases h; exact .nil
  | d :: ds, _, h => by cases h with | cons h r => exact .cons (Dq.mono s d _ h) (DqA.mono s ds _ r)
end
theorem Dq.at {H H' : Hp} {v : V} {d : PyData} (h : Dq H v d) (s : Same H H') : Dq H' v d := Dq.mono s d v h
theorem DqA.at {H H' : Hp} {vs : List V} {ds : List PyData} (h : DqA H vs ds) (s : Same H H') : DqA H' vs ds := DqA.mono s ds vs h
mutual
theorem Dq.dp {K : PySem.W.Frag} {H : Hp} : ∀ (d : PyData) (v : V), Dq H v d → Dp K H v d
  | .none, _, h => by cases h; exact .non
  | .bool _, _, h => by cases h; exact .bl _
  | .int _, _, h => by cases h; exact .int _
  | .str _, _, h => by cases h; exact .str _
  | .list ds, _, h => by cases h with | lst h r => exact .lst (SqL.of h) (DqA.dp ds _ r)
  | .tuple ds, _, h => by cases h with | tup h r => exact .tup (SqT.of h) (DqA.dp ds _ r)
  | .dict _, _, h => by cases h
theorem DqA.dp {K : PySem.W.Frag} {H : Hp} : ∀ (ds : List PyData) (vs : List V), DqA H vs ds → DpAll K H vs ds
  | [], _, h => by cases h; exact .nil
  | d :: ds, _, h => by cases h with | cons h r => exact .cons (Dq.dp d _ h) (DqA.dp ds _ r)
end
theorem DqA.length {H : Hp} : ∀ {vs : List V} {ds : List PyData}, DqA H vs ds → vs.length = ds.length
  | [], _, h => by cases h; rfl
  | _ :: _, _, h => by cases h with | cons h r => simp [r.length]
theorem DqA.get {H : Hp} : ∀ {vs : List V} {ds : List PyData} {i : Nat} {d : PyData}, DqA H vs ds → ds[i]? = some d → ∃ v, vs[i]? = some v ∧ Dq H v d
  | [], _, _, _, h, e => by cases h; simp at e
  | _ :: _, _, 0, _, h, e => by cases h with | cons h r => exact ⟨_, rfl, by simp at e; rw [← e]; exact h⟩
  | _ :: _, _, i + 1, _, h, e => by
    cases h with
    | cons h r =>
      obtain ⟨v, e1, e2⟩ := DqA.get (i := i) r (by simpa using e)
      exact ⟨v, by simpa using e1, e2⟩
theorem DqA.get' {H : Hp} : ∀ {vs : List V} {ds : List PyData} {i : Nat} {v : V}, DqA H vs ds → vs[i]? = some v → ∃ d, ds[i]? = some d ∧ Dq H v d
  | [], _, _, _, h, e => by simp at e
  | _ :: _, _, 0, _, h, e => by cases h with | cons h r => exact ⟨_, rfl, by simp at e; rw [← e]; exact h⟩
  | _ :: _, _, i + 1, _, h, e => by
    cases h with
    | cons h r =>
      obtain ⟨v, e1, e2⟩ := DqA.get' (i := i) r (by simpa using e)
      exact ⟨v, by simpa using e1, e2⟩
theorem DqA.append {H : Hp} : ∀ {vs ws : List V} {ds es : List PyData}, DqA H vs ds → DqA H ws es → DqA H (vs ++ ws) (ds ++ es)
  | [], _, _, _, h, g => by cases h; exact g
  | _ :: _, _, _, _, h, g => by cases h with | cons h r => exact .cons h (r.append g)

/-! ### how the heap grows -/
/-- H0 (only read) in H; behind: H0' in H', nothing that was tracked has changed, what is not of H0 stays out of it -/
def NT : HO → Prop
  | .tup _ => False
  | _ => True
structure Ext (H0 H H0' H' : Hp) : Prop where
  s0 : Same H0 H0'
  s : Same H H'
  sub : Same H0' H'
  out : ∀ a o, H0 a = none → H a = some o → NT o → H0' a = none
theorem Ext.refl {H0 H : Hp} (h : Same H0 H) : Ext H0 H H0 H := ⟨.refl _, .refl _, h, fun _ _ q _ _ => q⟩
theorem Ext.trans {A B A1 B1 A2 B2 : Hp} (x : Ext A B A1 B1) (y : Ext A1 B1 A2 B2) : Ext A B A2 B2 :=
  ⟨x.s0.trans y.s0, x.s.trans y.s, y.sub, fun a o q n t => y.out a o (x.out a o q n t) (x.s a o n) t⟩
theorem same_upd {H H' : Hp} {p : Addr} (s : Same H H') (o : HO) : Same (upd H p o) (upd H' p o) := fun b u q => by
  by_cases e : b = p
  · subst e; rw [upd_same] at q ⊢; exact q
  · rw [upd_ne e] at q ⊢; exact s b u q
theorem same_new {H : Hp} {p : Addr} (h : H p = none) (o : HO) : Same H (upd H p o) := fun b u q => by rw [upd_ne (ne_of_none q h)]; exact q
theorem Ext.new {H0 H : Hp} (h : Same H0 H) {p : Addr} (hp : H p = none) (o : HO) : Ext H0 H (upd H0 p o) (upd H p o) :=
  ⟨same_new (h.free hp) o, same_new hp o, same_upd h o, fun a u q n _ => by rw [upd_ne (ne_of_none n hp)]; exact q⟩
/-- new, but not of H0 -/
theorem Ext.more {H0 H : Hp} (h : Same H0 H) {p : Addr} (hp : H p = none) (o : HO) : Ext H0 H H0 (upd H p o) :=
  ⟨.refl _, same_new hp o, fun b u q => same_new hp o b u (h b u q), fun _ _ q _ _ => q⟩
/-- an object of one's own is changed -/
theorem Ext.mut {A B H0 H : Hp} (x : Ext A B H0 H) {a : Addr} (hb : B a = none) (h0 : H0 a = none) (o : HO) : Ext A B H0 (upd H a o) :=
  ⟨x.s0, fun b u q => by rw [upd_ne (ne_of_none q hb)]; exact x.s b u q, fun b u q => by rw [upd_ne (ne_of_none q h0)]; exact x.sub b u q, x.out⟩
/-- an object of one's own is henceforth only read -/
theorem Ext.keep {A B H0 H : Hp} (x : Ext A B H0 H) {a : Addr} {o : HO} (hb : B a = none) (h0 : H0 a = none) (h : H a = some o) : Ext A B (upd H0 a o) H :=
  ⟨fun b u q => same_new h0 o b u (x.s0 b u q), x.s, fun b u q => by
    by_cases e : b = a
    · subst e; rw [upd_same] at q; rw [← q]; exact h
    · rw [upd_ne e] at q; exact x.sub b u q, fun b u q n t => by rw [upd_ne (ne_of_none n hb)]; exact x.out b u q n t⟩
/-- a tuple that stands is read, too -/
theorem Ext.tupIn {H0 H : Hp} (h : Same H0 H) {a : Addr} {xs : List V} (e : H a = some (.tup xs)) : ∃ H0', Ext H0 H H0' H ∧ H0' a = some (.tup xs) := by
  cases q : H0 a with
  | some o =>
    have z := h a o q
    rw [e] at z
    exact ⟨H0, .refl h, by rw [q]; exact z.symm⟩
  | none =>
    refine ⟨upd H0 a (.tup xs), ⟨same_new q _, .refl _, fun b u r => ?_, fun b o r n t => ?_⟩, upd_same⟩
    · by_cases z : b = a
      · subst z; rw [upd_same] at r; rw [← r]; exact e
      · rw [upd_ne z] at r; exact h b u r
    · rw [upd_ne (fun z => by subst z; rw [e] at n; cases n; exact t)]; exact r

/-! ### dicts whose keys are pairs of numbers -/
abbrev Pt : Type := Int × Int
def kC (c : Pt) : List Key := [.inl c.1, .inl c.2]
theorem kC_inj {a b : Pt} (h : kC a = kC b) : a = b := by
  unfold kC at h
  injection h with h1 h2
  injection h2 with h2 _
  injection h1 with h1
  injection h2 with h2
  exact Prod.ext h1 h2
abbrev KDq (H : Hp) : List (List Key × V) → List (Pt × PyData) → Prop := Paired fun p q => p.1 = kC q.1 ∧ Dq H p.2 q.2
theorem KDq.at {H H' : Hp} (s : Same H H') {kvs : List (List Key × V)} {kds : List (Pt × PyData)} (h : KDq H kvs kds) : KDq H' kvs kds := Paired.mapP h fun _ _ q => ⟨q.1, q.2.at s⟩

/-! ### slots -/
inductive SV where
  | no
  | dat (d : PyData)
  | val (v : V)
  /-- a dict that is read; one that is being walked -/
  | dic (kds : List (Pt × PyData))
  | fzd (kds : List (Pt × PyData))
  /-- a list that stands, be it of the text's own -/
  | sq (K : PySem.W.Frag) (a : Addr) (xs : List V)
def slotOk (H : Hp) : SV → Option V → Prop
  | .no, _ => True
  | .dat d, v => ∃ u, v = some u ∧ Dq H u d
  | .val x, v => v = some x
  | .dic kds, v => ∃ a kvs, v = some (.ref a) ∧ Rd H a (.dT kvs) ∧ KDq H kvs kds
  | .fzd kds, v => ∃ a o kvs, v = some (.ref a) ∧ H a = some (.frz o (.dT kvs)) ∧ KDq H kvs kds
  | .sq K a xs, v => v = some (.ref a) ∧ SqL K H a xs
theorem sq_same {K : PySem.W.Frag} {H H' : Hp} {a : Addr} {xs : List V} (k : Same H H') (h : SqL K H a xs) : SqL K H' a xs := h.elim (fun r => .inl (r.imp (k _ _) fun ⟨o, q⟩ => ⟨o, k _ _ q⟩)) .inr
def EnvD (H : Hp) : List SV → L2.St → Prop
  | [], [] => True
  | s :: ss, v :: vs => slotOk H s v ∧ EnvD H ss vs
  | _, _ => False
theorem slotOk.at {H H' : Hp} (k : Same H H') : ∀ {s : SV} {v : Option V}, slotOk H s v → slotOk H' s v
  | .no, _, _ => trivial
  | .dat _, _, ⟨u, e, h⟩ => ⟨u, e, h.at k⟩
  | .val _, _, h => h
  | .dic _, _, ⟨a, kvs, e, h, r⟩ => ⟨a, kvs, e, h.imp (k _ _) fun ⟨o, q⟩ => ⟨o, k _ _ q⟩, r.at k⟩
  | .fzd _, _, ⟨a, o, kvs, e, h, r⟩ => ⟨a, o, kvs, e, k _ _ h, r.at k⟩
  | .sq _ _ _, _, ⟨e, h⟩ => ⟨e, sq_same k h⟩
theorem EnvD.at {H H' : Hp} (k : Same H H') : ∀ {ρ : List SV} {σ : L2.St}, EnvD H ρ σ → EnvD H' ρ σ
  | [], [], _ => trivial
  | _ :: _, _ :: _, ⟨a, b⟩ => ⟨slotOk.at k a, EnvD.at k b⟩
  | [], _ :: _, h => h.elim
  | _ :: _, [], h => h.elim
theorem EnvD.length {H : Hp} : ∀ {ρ : List SV} {σ : L2.St}, EnvD H ρ σ → ρ.length = σ.length
  | [], [], _ => rfl
  | _ :: _, _ :: _, ⟨_, b⟩ => by simp [EnvD.length b]
  | [], _ :: _, h => h.elim
  | _ :: _, [], h => h.elim
theorem EnvD.get {H : Hp} : ∀ {ρ : List SV} {σ : L2.St} {i : Nat} {s : SV}, EnvD H ρ σ → ρ[i]? = some s → ∃ v, σ[i]? = some v ∧ slotOk H s v
  | [], _, _, _, _, e => by simp at e
  | _ :: _, _ :: _, 0, _, ⟨a, _⟩, e => ⟨_, rfl, by simp at e; rw [← e]; exact a⟩
  | _ :: _, _ :: _, i + 1, _, ⟨_, b⟩, e => by
    obtain ⟨v, e1, e2⟩ := EnvD.get (i := i) b (by simpa using e)
    exact ⟨v, by simpa using e1, e2⟩
  | _ :: _, [], _, _, h, _ => h.elim
theorem EnvD.set {H : Hp} {s : SV} {v : Option V} (q : slotOk H s v) : ∀ {ρ : List SV} {σ : L2.St} (i : Nat), EnvD H ρ σ → EnvD H (ρ.set i s) (σ.set i v)
  | [], [], _, _ => trivial
  | _ :: _, _ :: _, 0, ⟨_, b⟩ => ⟨q, b⟩
  | _ :: _, _ :: _, i + 1, ⟨a, b⟩ => ⟨a, EnvD.set q i b⟩
  | [], _ :: _, _, h => h.elim
  | _ :: _, [], _, h => h.elim
theorem EnvD.dat {H : Hp} {ρ : List SV} {σ : L2.St} {i : Nat} {d : PyData} (e : EnvD H ρ σ) (h : ρ[i]? = some (.dat d)) : ∃ v, σ[i]? = some (some v) ∧ Dq H v d := by
  obtain ⟨_, e1, v, rfl, q⟩ := e.get h
  exact ⟨v, e1, q⟩
/-- the block's own names forgotten -/
def wipeS (ρ : List SV) : List Nat → List SV
  | [] => ρ
  | v :: vs => (wipeS ρ vs).set v .no
theorem EnvD.wipe {H : Hp} {ρ : List SV} {σ : L2.St} (e : EnvD H ρ σ) : ∀ vs : List Nat, EnvD H (wipeS ρ vs) (L2.wipe σ vs)
  | [] => e
  | v :: vs => EnvD.set (s := .no) trivial v (EnvD.wipe e vs)

/-! ### the judgements -/
/-- what is wanted: any value that holds d, the heap grown -/
abbrev Ret (H0 H : Hp) (d : PyData) (Q : VK) : Prop := ∀ v H0' H', Ext H0 H H0' H' → Dq H0' v d → Q v H'
def tD (ρ : List SV) (d : PyData) : TE := fun σ H Q => ∃ H0, Same H0 H ∧ EnvD H0 ρ σ ∧ Ret H0 H d Q
def tDA (ρ : List SV) (ds : List PyData) : TA := fun σ H Q => ∃ H0, Same H0 H ∧ EnvD H0 ρ σ ∧ ∀ vs H0' H', Ext H0 H H0' H' → DqA H0' vs ds → Q vs H'
def tDT (ρ : List SV) (b : Bool) : TT := fun σ H Q => ∃ H0, Same H0 H ∧ EnvD H0 ρ σ ∧ ∀ H0' H', Ext H0 H H0' H' → Q b H'
abbrev PD (X : Cx) (ρ : List SV) (e : Expr) (d : PyData) : Prop := PE X e (tD ρ d)
abbrev PDA (X : Cx) (ρ : List SV) (es : List Expr) (ds : List PyData) : Prop := PA X es (tDA ρ ds)
abbrev PDT (X : Cx) (ρ : List SV) (e : Expr) (b : Bool) : Prop := PT X e (tDT ρ b)
abbrev PDW (X : Cx) (ρ : List SV) (e : Expr) (b : Bool) : Prop := PW X e (tDT ρ b)
section
variable {X : Cx}
theorem pe_imp {e : Expr} {t t' : TE} (h : PE X e t) (k : ∀ σ H Q, t' σ H Q → t σ H Q) : PE X e t' := ⟨fun pins s σ H Q I q => h.run pins s σ H Q I (k σ H Q q)⟩
theorem pa_imp {e : List Expr} {t t' : TA} (h : PA X e t) (k : ∀ σ H Q, t' σ H Q → t σ H Q) : PA X e t' := ⟨fun pos pins s σ H Q I q => h.run pos pins s σ H Q I (k σ H Q q)⟩
theorem pt_imp {e : Expr} {t t' : TT} (h : PT X e t) (k : ∀ σ H Q, t' σ H Q → t σ H Q) : PT X e t' := ⟨fun pins s σ H Q I q => h.run pins s σ H Q I (k σ H Q q)⟩
theorem pw_imp {e : Expr} {t t' : TT} (h : PW X e t) (k : ∀ σ H Q, t' σ H Q → t σ H Q) : PW X e t' := ⟨fun wh pins s σ H Q I q => h.run wh pins s σ H Q I (k σ H Q q)⟩
theorem ps_imp {e : Stmt} {t t' : TS} (h : PS X e t) (k : ∀ D σ H, t' D σ H → t D σ H) : PS X e t' := ⟨fun pins s σ H D I q => h.run pins s σ H D I (k D σ H q)⟩
theorem pss_imp {e : List Stmt} {t t' : TS} (h : PSs X e t) (k : ∀ D σ H, t' D σ H → t D σ H) : PSs X e t' := ⟨fun pins s σ H D I q => h.run pins s σ H D I (k D σ H q)⟩
theorem pe_never {e : Expr} : PE X e (fun _ _ _ => False) := ⟨fun _ _ _ _ _ _ h => h.elim⟩
theorem pw_never {e : Expr} : PW X e (fun _ _ _ => False) := ⟨fun _ _ _ _ _ _ _ h => h.elim⟩
theorem pd_of_eq {ρ : List SV} {e : Expr} {d d' : PyData} (h : PD X ρ e d) (q : d = d') : PD X ρ e d' := q ▸ h
/-- a name -/
theorem pd_v (i : Nat) {ρ : List SV} {d : PyData} {x : Str} {pos : Pos} (e : ρ[i]? = some (.dat d) := by rfl) (hN : X.N[i]? = some x := by rfl) (hv : Vis X.env.scope x := by first | exact Or.inl rfl | exact Or.inr (Or.inl rfl) | exact Or.inr (Or.inr rfl)) (hd : (x == ("__debug__" : Str)) = false := by decide)
    (hcd : (x == ("__classdict__" : Str)) = false := by decide) : PD X ρ (.Name x pos) d := pe_imp (pe_var hN hv hd hcd) fun σ H Q ⟨H0, s, ev, q⟩ => by
  obtain ⟨v, e1, q1⟩ := ev.dat e
  exact ⟨v, e1, q v H0 H (.refl s) q1⟩
theorem pd_int {ρ : List SV} {i : Int} {j pos} : PD X ρ (.Constant (.int i) j pos) (.int i) := pe_imp pe_int fun _ _ _ ⟨_, s, _, q⟩ => q _ _ _ (.refl s) (.int i)
theorem pd_str {ρ : List SV} {x : Str} {j pos} : PD X ρ (.Constant (.str x) j pos) (.str x) := pe_imp pe_str fun _ _ _ ⟨_, s, _, q⟩ => q _ _ _ (.refl s) (.str x)
theorem pd_bl {ρ : List SV} {b : Bool} {j pos} : PD X ρ (.Constant (.bool b) j pos) (.bool b) := pe_imp pe_bl fun _ _ _ ⟨_, s, _, q⟩ => q _ _ _ (.refl s) (.bl b)
theorem pd_non {ρ : List SV} {j pos} : PD X ρ (.Constant .none j pos) .none := pe_imp pe_non fun _ _ _ ⟨_, s, _, q⟩ => q _ _ _ (.refl s) .non
/-- a global constant -/
theorem pd_glob {ρ : List SV} {x : Str} {i : Int} {u : Value} {pos : Pos} (hm : X.mg x = some u) (r : RelV (.int i) u) (hg : Gl X x := by rfl) (hd : (x == ("__debug__" : Str)) = false := by decide) : PD X ρ (.Name x pos) (.int i) :=
  pe_imp (pe_glob hg hm r hd) fun _ _ _ ⟨_, s, _, q⟩ => q _ _ _ (.refl s) (.int i)
/-- two in a row -/
theorem two {ρ : List SV} {d e : PyData} {ta tb : TE} {r : R2} {σ : L2.St} {H : Hp} {Q : VK} (ha : ta = tD ρ d) (hb : tb = tD ρ e) (H0 : Hp) (s : Same H0 H) (ev : EnvD H0 ρ σ)
    (k : ∀ v u H0' H', Ext H0 H H0' H' → Dq H0' v d → Dq H0' u e → r v u H' Q) : tOp r ta tb σ H Q := by
  subst ha hb
  refine ⟨H0, s, ev, fun v H1 H' x1 d1 => ⟨H1, x1.sub, ev.at x1.s0, fun u H2 H'' x2 d2 => ?_⟩⟩
  exact k v u H2 H'' (x1.trans x2) (d1.at x2.s0) d2
/-- a two-place operator -/
theorem pd_op {ρ : List SV} {op : Operator} {r : R2} {a b : Expr} {pos : Pos} {d e f : PyData} (ho : OpR X (binaryOp op) r) (ha : PD X ρ a d) (hb : PD X ρ b e)
    (k : ∀ v u H0 H Q, Same H0 H → Dq H0 v d → Dq H0 u e → Ret H0 H f Q → r v u H Q) : PD X ρ (.BinOp a op b pos) f :=
  pe_imp (pe_op ho ha hb) fun σ H Q ⟨H0, s, ev, q⟩ => two rfl rfl H0 s ev fun v u H1 H' x d1 d2 => k v u H1 H' Q x.sub d1 d2 fun z H2 H'' y dz => q z H2 H'' (x.trans y) dz
theorem pd_cmp {ρ : List SV} {op : CmpOp} {r : R2} {a b : Expr} {pos : Pos} {d e f : PyData} (ho : OpR X (compareOp op) r) (ha : PD X ρ a d) (hb : PD X ρ b e) (hm : behindInMarks op b = false)
    (k : ∀ v u H0 H Q, Same H0 H → Dq H0 v d → Dq H0 u e → Ret H0 H f Q → r v u H Q) : PD X ρ (.Compare a [op] [b] pos) f :=
  pe_imp (pe_cmpR ho ha hb hm) fun σ H Q ⟨H0, s, ev, q⟩ => two rfl rfl H0 s ev fun v u H1 H' x d1 d2 => k v u H1 H' Q x.sub d1 d2 fun z H2 H'' y dz => q z H2 H'' (x.trans y) dz
theorem pdt_cmp {ρ : List SV} {op : CmpOp} {r : R2} {a b : Expr} {pos : Pos} {d e : PyData} {c : Bool} (ho : OpR X (compareOp op) r) (ha : PD X ρ a d) (hb : PD X ρ b e) (hm : behindInMarks op b = false)
    (k : ∀ v u H0 H Q, Same H0 H → Dq H0 v d → Dq H0 u e → Ret H0 H (.bool c) Q → r v u H Q) : PDT X ρ (.Compare a [op] [b] pos) c :=
  pt_imp (pt_cmpR ho ha hb hm) fun σ H Q ⟨H0, s, ev, q⟩ => two rfl rfl H0 s ev fun v u H1 H' x d1 d2 => k v u H1 H' _ x.sub d1 d2 fun z H2 H'' y dz => by
    cases dz
    exact ⟨c, rfl, q H2 H'' (x.trans y)⟩
/-! ints -/
section
variable {ρ : List SV} {a b : Expr} {pos : Pos} {i j : Int}
theorem k_int {C : Int → Int → Prop} {g : Int → Int → V} {f : PyData} (hc : C i j) (hg : ∀ H, Dq H (g i j) f) : ∀ v u H0 H Q, Same H0 H → Dq H0 v (.int i) → Dq H0 u (.int j) → Ret H0 H f Q → rI C g v u H Q := fun v u H0 H Q s d1 d2 q => by
  cases d1; cases d2
  exact ⟨i, j, rfl, rfl, hc, q _ _ _ (.refl s) (hg _)⟩
theorem k_int0 {g : Int → Int → V} {f : PyData} (hg : ∀ H, Dq H (g i j) f) : ∀ v u H0 H Q, Same H0 H → Dq H0 v (.int i) → Dq H0 u (.int j) → Ret H0 H f Q → rI0 g v u H Q := fun v u H0 H Q s d1 d2 q => by
  cases d1; cases d2
  exact ⟨i, j, rfl, rfl, q _ _ _ (.refl s) (hg _)⟩
theorem pd_add (ha : PD X ρ a (.int i)) (hb : PD X ρ b (.int j)) : PD X ρ (.BinOp a .Add b pos) (.int (i + j)) := pd_op op_add ha hb (k_int0 fun _ => .int _)
theorem pd_sub (ha : PD X ρ a (.int i)) (hb : PD X ρ b (.int j)) : PD X ρ (.BinOp a .Sub b pos) (.int (i - j)) := pd_op op_sub ha hb (k_int0 fun _ => .int _)
theorem pd_mul (ha : PD X ρ a (.int i)) (hb : PD X ρ b (.int j)) (h : CMul i j) : PD X ρ (.BinOp a .Mult b pos) (.int (i * j)) := pd_op op_mul ha hb (k_int h fun _ => .int _)
theorem pd_mod (ha : PD X ρ a (.int i)) (hb : PD X ρ b (.int j)) (h : 0 < j) : PD X ρ (.BinOp a .Mod b pos) (.int (i % j)) := pd_op op_mod ha hb (k_int h fun _ => .int _)
theorem pd_fdiv (ha : PD X ρ a (.int i)) (hb : PD X ρ b (.int j)) (h : CDiv i j) : PD X ρ (.BinOp a .FloorDiv b pos) (.int (i / j)) := pd_op op_fdiv ha hb (k_int h fun _ => .int _)
theorem pd_divW (ha : PD X ρ a (.int i)) (hb : PD X ρ b (.int j)) (h : CDivW i j) : PD X ρ (.BinOp a .FloorDiv b pos) (.int (i / j)) := pd_op op_fdivW ha hb (k_int h fun _ => .int _)
theorem pd_mulW (ha : PD X ρ a (.int i)) (hb : PD X ρ b (.int j)) (h : CMulW i j) : PD X ρ (.BinOp a .Mult b pos) (.int (i * j)) := pd_op op_mulW ha hb (k_int h fun _ => .int _)
theorem pd_pow (ha : PD X ρ a (.int i)) (hb : PD X ρ b (.int j)) (h : CPow i j) : PD X ρ (.BinOp a .Pow b pos) (.int (i ^ j.toNat)) := pd_op op_pow ha hb (k_int h fun _ => .int _)
theorem pd_shl (ha : PD X ρ a (.int i)) (hb : PD X ρ b (.int j)) (h : CPow i j) : PD X ρ (.BinOp a .LShift b pos) (.int (i * 2 ^ j.toNat)) := pd_op op_shl ha hb (k_int h fun _ => .int _)
theorem pd_shr (ha : PD X ρ a (.int i)) (hb : PD X ρ b (.int j)) (h : 0 ≤ j) : PD X ρ (.BinOp a .RShift b pos) (.int (i / 2 ^ j.toNat)) := pd_op op_shr ha hb (k_int h fun _ => .int _)
theorem pd_band (ha : PD X ρ a (.int i)) (hb : PD X ρ b (.int j)) : PD X ρ (.BinOp a .BitAnd b pos) (.int (Builtin.bitAnd i j)) := pd_op op_and ha hb (k_int0 fun _ => .int _)
theorem pd_bor (ha : PD X ρ a (.int i)) (hb : PD X ρ b (.int j)) : PD X ρ (.BinOp a .BitOr b pos) (.int (Builtin.bitOr i j)) := pd_op op_or ha hb (k_int0 fun _ => .int _)
theorem pd_neg (ha : PD X ρ a (.int i)) : PD X ρ (.UnaryOp .USub a pos) (.int (-i)) := pe_imp (pe_un un_neg ha) fun σ H Q ⟨H0, s, ev, q⟩ => ⟨H0, s, ev, fun v H1 H' x d => by
  cases d
  exact ⟨i, rfl, q _ _ _ x (.int _)⟩⟩
theorem pd_lt (ha : PD X ρ a (.int i)) (hb : PD X ρ b (.int j)) : PD X ρ (.Compare a [.Lt] [b] pos) (.bool (decide (i < j))) := pd_cmp op_lt ha hb (nomark _) (k_int0 fun _ => .bl _)
theorem pd_gt (ha : PD X ρ a (.int i)) (hb : PD X ρ b (.int j)) : PD X ρ (.Compare a [.Gt] [b] pos) (.bool (decide (j < i))) := pd_cmp op_gt ha hb (nomark _) (k_int0 fun _ => .bl _)
theorem pd_ge (ha : PD X ρ a (.int i)) (hb : PD X ρ b (.int j)) : PD X ρ (.Compare a [.GtE] [b] pos) (.bool (decide (j ≤ i))) := pd_cmp op_ge ha hb (nomark _) (k_int0 fun _ => .bl _)
theorem pdt_lt (ha : PD X ρ a (.int i)) (hb : PD X ρ b (.int j)) : PDT X ρ (.Compare a [.Lt] [b] pos) (decide (i < j)) := pdt_cmp op_lt ha hb (nomark _) (k_int0 fun _ => .bl _)
theorem pdt_gt (ha : PD X ρ a (.int i)) (hb : PD X ρ b (.int j)) : PDT X ρ (.Compare a [.Gt] [b] pos) (decide (j < i)) := pdt_cmp op_gt ha hb (nomark _) (k_int0 fun _ => .bl _)
theorem pdt_ge (ha : PD X ρ a (.int i)) (hb : PD X ρ b (.int j)) : PDT X ρ (.Compare a [.GtE] [b] pos) (decide (j ≤ i)) := pdt_cmp op_ge ha hb (nomark _) (k_int0 fun _ => .bl _)
end
/-! == and != of scalars, of data -/
section
variable {ρ : List SV} {a b : Expr} {pos : Pos}
/-- what == answers of two data of one Lean type -/
theorem k_eqD {d e : PyData} (sd : SeqAt.shaped d = true) (se : SeqAt.shaped e = true) : ∀ v u H0 H Q, Same H0 H → Dq H0 v d → Dq H0 u e → Ret H0 H (.bool (PyData.eqv d e)) Q → rEqD X.K v u H Q := fun v u H0 H Q s d1 d2 q =>
  ⟨d, e, Dq.dp d v (d1.at s), Dq.dp e u (d2.at s), sd, se, q _ _ _ (.refl s) (.bl _)⟩
theorem k_neD {d e : PyData} (sd : SeqAt.shaped d = true) (se : SeqAt.shaped e = true) : ∀ v u H0 H Q, Same H0 H → Dq H0 v d → Dq H0 u e → Ret H0 H (.bool (!PyData.eqv d e)) Q → rNeD X.K v u H Q := fun v u H0 H Q s d1 d2 q =>
  ⟨d, e, Dq.dp d v (d1.at s), Dq.dp e u (d2.at s), sd, se, q _ _ _ (.refl s) (.bl _)⟩
theorem pd_eqD {d e : PyData} (hu : X.A.units + 64 < cLine) (ha : PD X ρ a d) (hb : PD X ρ b e) (sd : SeqAt.shaped d = true) (se : SeqAt.shaped e = true) : PD X ρ (.Compare a [.Eq] [b] pos) (.bool (PyData.eqv d e)) := pd_cmp (op_eqD hu) ha hb (nomark _) (k_eqD sd se)
theorem pd_neD {d e : PyData} (hu : X.A.units + 64 < cLine) (ha : PD X ρ a d) (hb : PD X ρ b e) (sd : SeqAt.shaped d = true) (se : SeqAt.shaped e = true) : PD X ρ (.Compare a [.NotEq] [b] pos) (.bool (!PyData.eqv d e)) := pd_cmp (op_neD hu) ha hb (nomark _) (k_neD sd se)
theorem pdt_eqD {d e : PyData} (hu : X.A.units + 64 < cLine) (ha : PD X ρ a d) (hb : PD X ρ b e) (sd : SeqAt.shaped d = true) (se : SeqAt.shaped e = true) : PDT X ρ (.Compare a [.Eq] [b] pos) (PyData.eqv d e) := pdt_cmp (op_eqD hu) ha hb (nomark _) (k_eqD sd se)
theorem pdt_neD {d e : PyData} (hu : X.A.units + 64 < cLine) (ha : PD X ρ a d) (hb : PD X ρ b e) (sd : SeqAt.shaped d = true) (se : SeqAt.shaped e = true) : PDT X ρ (.Compare a [.NotEq] [b] pos) (!PyData.eqv d e) := pdt_cmp (op_neD hu) ha hb (nomark _) (k_neD sd se)
end
/-! tests -/
section
variable {ρ : List SV} {a b : Expr} {rest : List Expr} {pos : Pos} {c c' : Bool} {d : PyData}
theorem pdt_val (h : PD X ρ a (.bool c)) (he : ∀ whole, isTrue a X.env whole = (do let v ← whole; standAt a.pos; holding [v] (truthy v)) := by intro _; rfl) : PDT X ρ a c :=
  pt_imp (pt_val h he) fun σ H Q ⟨H0, s, ev, q⟩ => ⟨H0, s, ev, fun v H1 H' x dv => by
    cases dv
    exact ⟨c, rfl, q H1 H' x⟩⟩
theorem pdt_not (h : PDT X ρ a c) : PDT X ρ (.UnaryOp .Not a pos) (!c) := pt_imp (pt_not h) fun σ H Q ⟨H0, s, ev, q⟩ => ⟨H0, s, ev, fun H1 H' x => q H1 H' x⟩
theorem pdw_and1 (h : PDT X ρ a c) : PDW X ρ (.BoolOp .And [a] pos) c := pw_and1 h
theorem pdw_or1 (h : PDT X ρ a c) : PDW X ρ (.BoolOp .Or [a] pos) c := pw_or1 h
theorem pdw_and (ha : PDT X ρ a c) (hb : c = true → PDW X ρ (.BoolOp .And (b :: rest) pos) c') : PDW X ρ (.BoolOp .And (a :: b :: rest) pos) (c && c') := by
  cases c with
  | true => exact pw_imp (pw_and ha (hb rfl)) fun σ H Q ⟨H0, s, ev, q⟩ => ⟨H0, s, ev, fun H1 H' x => iteT ⟨H1, x.sub, ev.at x.s0, fun H2 H'' y => q H2 H'' (x.trans y)⟩⟩
  | false => exact pw_imp (pw_and ha pw_never) fun σ H Q ⟨H0, s, ev, q⟩ => ⟨H0, s, ev, fun H1 H' x => iteF (q H1 H' x)⟩
theorem pdw_or (ha : PDT X ρ a c) (hb : c = false → PDW X ρ (.BoolOp .Or (b :: rest) pos) c') : PDW X ρ (.BoolOp .Or (a :: b :: rest) pos) (c || c') := by
  cases c with
  | false => exact pw_imp (pw_or ha (hb rfl)) fun σ H Q ⟨H0, s, ev, q⟩ => ⟨H0, s, ev, fun H1 H' x => iteF ⟨H1, x.sub, ev.at x.s0, fun H2 H'' y => q H2 H'' (x.trans y)⟩⟩
  | true => exact pw_imp (pw_or ha pw_never) fun σ H Q ⟨H0, s, ev, q⟩ => ⟨H0, s, ev, fun H1 H' x => iteT (q H1 H' x)⟩
/-! as values -/
theorem pd_one {op} (h : PD X ρ a d) : PD X ρ (.BoolOp op [a] pos) d := pe_one h
theorem pd_and (ha : PD X ρ a (.bool c)) (hb : c = true → PD X ρ (.BoolOp .And (b :: rest) pos) d) (hd : c = false → d = .bool false) : PD X ρ (.BoolOp .And (a :: b :: rest) pos) d := by
  cases c with
  | true => exact pe_imp (L2.pe_and ha (hb rfl)) fun σ H Q ⟨H0, s, ev, q⟩ => ⟨H0, s, ev, fun v H1 H' x dv => by
      cases dv
      exact ⟨true, rfl, iteT ⟨H1, x.sub, ev.at x.s0, fun u H2 H'' y du => q u H2 H'' (x.trans y) du⟩⟩⟩
  | false =>
    have e := hd rfl
    subst e
    exact pe_imp (L2.pe_and ha pe_never) fun σ H Q ⟨H0, s, ev, q⟩ => ⟨H0, s, ev, fun v H1 H' x dv => by
      cases dv
      exact ⟨false, rfl, iteF (q _ H1 H' x (.bl false))⟩⟩
theorem pd_or (ha : PD X ρ a (.bool c)) (hb : c = false → PD X ρ (.BoolOp .Or (b :: rest) pos) d) (hd : c = true → d = .bool true) : PD X ρ (.BoolOp .Or (a :: b :: rest) pos) d := by
  cases c with
  | false => exact pe_imp (L2.pe_or ha (hb rfl)) fun σ H Q ⟨H0, s, ev, q⟩ => ⟨H0, s, ev, fun v H1 H' x dv => by
      cases dv
      exact ⟨false, rfl, iteF ⟨H1, x.sub, ev.at x.s0, fun u H2 H'' y du => q u H2 H'' (x.trans y) du⟩⟩⟩
  | true =>
    have e := hd rfl
    subst e
    exact pe_imp (L2.pe_or ha pe_never) fun σ H Q ⟨H0, s, ev, q⟩ => ⟨H0, s, ev, fun v H1 H' x dv => by
      cases dv
      exact ⟨true, rfl, iteT (q _ H1 H' x (.bl true))⟩⟩
/-- a and b, bools -/
theorem pd_and2 (ha : PD X ρ a (.bool c)) (hb : c = true → PD X ρ b (.bool c')) : PD X ρ (.BoolOp .And [a, b] pos) (.bool (c && c')) := by
  cases c with
  | true => exact pd_and ha (fun _ => pd_one (hb rfl)) (fun h => nomatch h)
  | false => exact pd_and ha (fun h => nomatch h) (fun _ => rfl)
theorem pd_not (ha : PD X ρ a (.bool c)) : PD X ρ (.UnaryOp .Not a pos) (.bool (!c)) := pe_imp (L2.pe_not ha) fun σ H Q ⟨H0, s, ev, q⟩ => ⟨H0, s, ev, fun v H1 H' x dv => by
  cases dv
  exact ⟨c, rfl, q _ H1 H' x (.bl _)⟩⟩
theorem pd_if {t : Expr} (hc : PDT X ρ t c) (ha : c = true → PD X ρ a d) (hb : c = false → PD X ρ b d) : PD X ρ (.IfExp t a b pos) d := by
  cases c with
  | true => exact pe_imp (pe_ifExp hc (ha rfl) pe_never) fun σ H Q ⟨H0, s, ev, q⟩ => ⟨H0, s, ev, fun H1 H' x => iteT ⟨H1, x.sub, ev.at x.s0, fun u H2 H'' y du => q u H2 H'' (x.trans y) du⟩⟩
  | false => exact pe_imp (pe_ifExp hc pe_never (hb rfl)) fun σ H Q ⟨H0, s, ev, q⟩ => ⟨H0, s, ev, fun H1 H' x => iteF ⟨H1, x.sub, ev.at x.s0, fun u H2 H'' y du => q u H2 H'' (x.trans y) du⟩⟩
end
/-! arguments, displays, subscripts -/
section
variable {ρ : List SV} {e : Expr} {es : List Expr} {pos : Pos} {d : PyData} {ds : List PyData}
theorem pda_nil : PDA X ρ [] [] := pa_imp pa_nil fun _ _ _ ⟨_, s, _, q⟩ => q _ _ _ (.refl s) .nil
theorem pda_cons (h : PD X ρ e d) (r : PDA X ρ es ds) (hs : starEach (e :: es) X.env = (false, eval e X.env) :: starEach es X.env := by rfl) : PDA X ρ (e :: es) (d :: ds) :=
  pa_imp (pa_cons h r hs) fun σ H Q ⟨H0, s, ev, q⟩ => ⟨H0, s, ev, fun v H1 H' x dv => ⟨H1, x.sub, ev.at x.s0, fun vs H2 H'' y dvs => q _ H2 H'' (x.trans y) (.cons (dv.at y.s0) dvs)⟩⟩
theorem pd_tup {k : Nat} (h : PDA X ρ es ds) (hz : ds.length ≤ sizeLine := by first | decide | exact Nat.le_of_ble_eq_true rfl) : PD X ρ (.Tuple es k pos) (.tuple ds) :=
  pe_imp (pe_tup h) fun σ H Q ⟨H0, s, ev, q⟩ => ⟨H0, s, ev, fun vs H1 H' x dvs => ⟨by rw [dvs.length]; exact hz, fun p hp =>
    q _ _ _ (x.trans (.new x.sub hp _)) (.tup upd_same (dvs.at (same_new (x.sub.free hp) _)))⟩⟩
theorem pd_lst (h : PDA X ρ es ds) (hz : ds.length ≤ sizeLine := by first | decide | exact Nat.le_of_ble_eq_true rfl) : PD X ρ (.List es pos) (.list ds) :=
  pe_imp (pe_lst h) fun σ H Q ⟨H0, s, ev, q⟩ => ⟨H0, s, ev, fun vs H1 H' x dvs => ⟨by rw [dvs.length]; exact hz, fun p hp =>
    q _ _ _ (x.trans (.new x.sub hp _)) (.lst upd_same (dvs.at (same_new (x.sub.free hp) _)))⟩⟩
theorem atI_len {α β : Type} {xs : List α} {ys : List β} (h : xs.length = ys.length) {i : Int} {y : β} (e : atI ys i = some y) : ∃ j : Nat, ys[j]? = some y ∧ ∀ x, xs[j]? = some x → atI xs i = some x := by
  unfold atI at e ⊢
  rw [h]
  cases q : ixN ys.length i with
  | none => rw [q] at e; cases e
  | some j => rw [q] at e; exact ⟨j, e, fun x hx => hx⟩
theorem pd_ixT {a b : Expr} {i : Int} (ha : PD X ρ a (.tuple ds)) (hb : PD X ρ b (.int i)) (h : atI ds i = some d := by rfl) (hs : PlainIx b := by exact (fun _ _ => rfl)) : PD X ρ (.Subscript a b pos) d :=
  pe_imp (pe_ix ix_tup ha hb hs) fun σ H Q ⟨H0, s, ev, q⟩ => two rfl rfl H0 s ev fun v u H1 H' x d1 d2 => by
    cases d2
    cases d1 with
    | tup ht r =>
      obtain ⟨j, e1, e2⟩ := atI_len r.length h
      obtain ⟨w, e3, dw⟩ := r.get e1
      exact ⟨_, _, i, w, rfl, rfl, SqT.of (x.sub _ _ ht), e2 w e3, q w H1 H' x dw⟩
theorem pd_ixL {a b : Expr} {i : Int} (ha : PD X ρ a (.list ds)) (hb : PD X ρ b (.int i)) (h : atI ds i = some d := by rfl) (hs : PlainIx b := by exact (fun _ _ => rfl)) : PD X ρ (.Subscript a b pos) d :=
  pe_imp (pe_ix ix_list ha hb hs) fun σ H Q ⟨H0, s, ev, q⟩ => two rfl rfl H0 s ev fun v u H1 H' x d1 d2 => by
    cases d2
    cases d1 with
    | lst ht r =>
      obtain ⟨j, e1, e2⟩ := atI_len r.length h
      obtain ⟨w, e3, dw⟩ := r.get e1
      exact ⟨_, _, i, w, rfl, rfl, SqL.of (x.sub _ _ ht), e2 w e3, q w H1 H' x dw⟩
end
end
end Hf

/-! ## HfB -/
set_option Elab.async false
set_option linter.all false
set_option maxRecDepth 100000
set_option maxHeartbeats 1000000
/-! What is walked; comprehensions; statements. -/
namespace Hf
open L2 PySem PySem.Spec PyProof.Rows
open PySem.W (Datum DatumOrd Tup)

/-! ### targets -/
def OffIs (is : List Nat) (σ σ' : L2.St) : Prop := σ'.length = σ.length ∧ ∀ k, k ∉ is → σ'[k]? = σ[k]?
theorem OffIs.set {σ : L2.St} (i : Nat) (v : Option V) : OffIs [i] σ (σ.set i v) := ⟨by simp, fun k hk => by
  rw [List.getElem?_set_ne (fun e => hk (by simp [e]))]⟩
theorem OffIs.refl (σ : L2.St) : OffIs [] σ σ := ⟨rfl, fun _ _ => rfl⟩
theorem OffIs.trans {is js : List Nat} {a b c : L2.St} (x : OffIs is a b) (y : OffIs js b c) : OffIs (is ++ js) a c := ⟨y.1.trans x.1, fun k hk => by
  rw [List.mem_append, not_or] at hk
  exact (y.2 k hk.2).trans (x.2 k hk.1)⟩
theorem wipe_get {σ : L2.St} : ∀ {vs : List Nat} {k : Nat}, (L2.wipe σ vs)[k]? = if k ∈ vs then (σ[k]?).map (fun _ => none) else σ[k]?
  | [], k => by simp [L2.wipe]
  | v :: vs, k => by
    unfold L2.wipe
    by_cases e : k = v
    · subst e
      rw [if_pos (List.mem_cons_self ..)]
      rw [List.getElem?_set]
      simp only [if_true]
      rw [L2.wipe_length]
      by_cases h : k < σ.length
      · rw [if_pos h, List.getElem?_eq_getElem h]; rfl
      · rw [if_neg h, List.getElem?_eq_none (by omega)]; rfl
    · rw [List.getElem?_set_ne (fun z => e z.symm), wipe_get]
      by_cases h : k ∈ vs
      · rw [if_pos h, if_pos (List.mem_cons_of_mem _ h)]
      · rw [if_neg h, if_neg (by simp [e, h])]
theorem OffIs.wipe {is vs : List Nat} {σ σ' : L2.St} (x : OffIs is σ σ') (h : ∀ k ∈ is, k ∈ vs) : L2.wipe σ' vs = L2.wipe σ vs := by
  apply List.ext_getElem?
  intro k
  rw [wipe_get, wipe_get]
  by_cases hk : k ∈ vs
  · rw [if_pos hk, if_pos hk]
    have e : σ'[k]?.isSome = σ[k]?.isSome := by
      by_cases h : k < σ.length
      · rw [List.getElem?_eq_getElem h, List.getElem?_eq_getElem (by rw [x.1]; exact h)]
        rfl
      · have xl := x.1
        rw [List.getElem?_eq_none (show σ'.length ≤ k by omega), List.getElem?_eq_none (show σ.length ≤ k by omega)]
    cases h1 : σ'[k]? <;> cases h2 : σ[k]? <;> simp_all
  · rw [if_neg hk, if_neg hk]
    exact x.2 k fun z => hk (h k z)
theorem wipe_wipe {σ : L2.St} {vs : List Nat} : L2.wipe (L2.wipe σ vs) vs = L2.wipe σ vs := by
  apply List.ext_getElem?
  intro k
  rw [wipe_get, wipe_get]
  by_cases h : k ∈ vs
  · simp only [h, if_true]
    cases σ[k]? <;> rfl
  · simp only [h, if_false]
/-- the target takes d: the slots ρ become ρ', those at is alone are stored -/
def gD (ρ : List SV) (d : PyData) (ρ' : List SV) (is : List Nat) : TG := fun v σ H Q => ∃ H0, Same H0 H ∧ EnvD H0 ρ σ ∧ Dq H0 v d ∧ ∀ σ', EnvD H0 ρ' σ' → OffIs is σ σ' → Q σ' H
abbrev PDG (X : Cx) (ρ : List SV) (e : Expr) (d : PyData) (ρ' : List SV) (is : List Nat) : Prop := PG X e (gD ρ d ρ' is)
/-- several targets -/
def gDs (ρ : List SV) (ds : List PyData) (ρ' : List SV) (is : List Nat) : TGs := fun vs σ H Q => ∃ H0, Same H0 H ∧ EnvD H0 ρ σ ∧ DqA H0 vs ds ∧ ∀ σ', EnvD H0 ρ' σ' → OffIs is σ σ' → Q σ' H
section
variable {X : Cx}
theorem pg_imp {e : Expr} {t t' : TG} (h : PG X e t) (k : ∀ v σ H Q, t' v σ H Q → t v σ H Q) : PG X e t' := ⟨fun pins s σ H v u Q I r q => h.run pins s σ H v u Q I r (k v σ H Q q)⟩
theorem pgs_imp {e : List Expr} {t t' : TGs} (h : PGs X e t) (k : ∀ v σ H Q, t' v σ H Q → t v σ H Q) : PGs X e t' := ⟨fun pins s σ H v u Q I r q => h.run pins s σ H v u Q I r (k v σ H Q q)⟩
/-- into slot i -/
theorem pdg (i : Nat) {ρ : List SV} {d : PyData} {x : Str} {pos : Pos} (hN : X.N.Nodup) (hi : X.N[i]? = some x := by rfl) (hx : Loc X.env.scope x := by first | exact Or.inl rfl | exact Or.inr rfl)
    (hf : X.fn x = true ∨ X.env.scope.names.lookup x = some .local := by first | exact .inl rfl | exact .inr rfl) : PDG X ρ (.Name x pos) d (ρ.set i (.dat d)) [i] :=
  pg_imp (pg_name hN hi hx hf) fun v σ H Q ⟨H0, s, ev, dv, q⟩ => q _ (ev.set (s := .dat d) ⟨v, rfl, dv⟩ i) (.set i _)
theorem pdgs_nil {ρ : List SV} : PGs X [] (gDs ρ [] ρ []) := pgs_imp pgs_nil fun vs σ H Q ⟨H0, s, ev, dv, q⟩ => by cases dv; exact ⟨rfl, q σ ev (.refl σ)⟩
theorem pdgs_cons {ρ ρ1 ρ2 : List SV} {is js : List Nat} {e : Expr} {es : List Expr} {d : PyData} {ds : List PyData} (h : PDG X ρ e d ρ1 is) (r : PGs X es (gDs ρ1 ds ρ2 js)) (hs : (assignEach (e :: es) X.env).map (·.2) = assign e X.env :: (assignEach es X.env).map (·.2) := by rfl) :
    PGs X (e :: es) (gDs ρ (d :: ds) ρ2 (is ++ js)) := pgs_imp (pgs_cons h r hs) fun vs σ H Q ⟨H0, s, ev, dv, q⟩ => by
  cases dv with
  | cons h1 h2 => exact ⟨_, _, rfl, H0, s, ev, h1, fun σ1 ev1 o1 => ⟨H0, s, ev1, h2, fun σ2 ev2 o2 => q σ2 ev2 (o1.trans o2)⟩⟩
theorem pdg_tup {ρ ρ' : List SV} {is : List Nat} {es : List Expr} {ds : List PyData} {k : Nat} {pos : Pos} {n : Nat} (hc : X.calm = true) (h : PGs X es (gDs ρ ds ρ' is)) (hl : ds.length = n := by rfl)
    (hn : (assignEach es X.env).length = n := by rfl) (hst : (assignEach es X.env).findIdx? (·.1) = none := by rfl) : PDG X ρ (.Tuple es k pos) (.tuple ds) ρ' is :=
  pg_imp (pg_tup hc h hn hst) fun v σ H Q ⟨H0, s, ev, dv, q⟩ => by
    cases dv with
    | tup ht r => exact ⟨_, _, rfl, SqT.of (s _ _ ht), r.length.trans hl, H0, s, ev, r, q⟩
end

/-! ### what is walked -/
/-- J gives the n data dat 0, dat 1, .. as long as G is true of H0 -/
structure GoesD (J : It) (n : Nat) (dat : Nat → PyData) (G : Hp → Prop) : Prop where
  stop : ∀ H0 H, Same H0 H → G H0 → J.stop n H
  go : ∀ j, j < n → ∀ H0 H, Same H0 H → G H0 → J.go j H
  yld : ∀ j, j < n → ∀ H0 H, Same H0 H → G H0 → ∀ x H', J.yld j H x H' → ∃ H0', Ext H0 H H0' H' ∧ Dq H0' x (dat j)
  mono : ∀ H0 H0', G H0 → Same H0 H0' → G H0'
def tDI (ρ : List SV) (n : Nat) (dat : Nat → PyData) : TI := fun σ H R => ∃ H0, Same H0 H ∧ EnvD H0 ρ σ ∧ ∀ J H0' H' G, Ext H0 H H0' H' → GoesD J n dat G → G H0' → R J H'
abbrev PDI (X : Cx) (ρ : List SV) (tg e : Expr) (n : Nat) (dat : Nat → PyData) : Prop := PI X tg e (tDI ρ n dat)
theorem goesL {K : PySem.W.Frag} {a : Addr} {ds : List PyData} : GoesD (Itl K a) ds.length (fun j => ds.getD j .none) (fun H => ∃ vs, H a = some (.lst vs) ∧ DqA H vs ds) where
  stop := fun H0 H s ⟨vs, h, r⟩ => ⟨vs, SqL.of (s _ _ h), Nat.le_of_eq r.length⟩
  go := fun j hj H0 H s ⟨vs, h, r⟩ => by
    obtain ⟨v, e, _⟩ := r.get (List.getElem?_eq_getElem hj)
    exact ⟨vs, v, SqL.of (s _ _ h), e⟩
  yld := fun j hj H0 H s ⟨vs, h, r⟩ x H' ⟨e, y⟩ => by
    subst e
    have q := y vs (SqL.of (s _ _ h))
    obtain ⟨d, e1, e2⟩ := r.get' q
    refine ⟨H0, .refl s, ?_⟩
    rw [List.getD_eq_getElem?_getD, e1]
    exact e2
  mono := fun H0 H0' ⟨vs, h, r⟩ s => ⟨vs, s _ _ h, r.at s⟩
theorem goesT {K : PySem.W.Frag} {a : Addr} {ds : List PyData} : GoesD (Itt K a) ds.length (fun j => ds.getD j .none) (fun H => ∃ vs, H a = some (.tup vs) ∧ DqA H vs ds) where
  stop := fun H0 H s ⟨vs, h, r⟩ => ⟨vs, SqT.of (s _ _ h), Nat.le_of_eq r.length⟩
  go := fun j hj H0 H s ⟨vs, h, r⟩ => by
    obtain ⟨v, e, _⟩ := r.get (List.getElem?_eq_getElem hj)
    exact ⟨vs, v, SqT.of (s _ _ h), e⟩
  yld := fun j hj H0 H s ⟨vs, h, r⟩ x H' ⟨e, y⟩ => by
    subst e
    have q := y vs (SqT.of (s _ _ h))
    obtain ⟨d, e1, e2⟩ := r.get' q
    refine ⟨H0, .refl s, ?_⟩
    rw [List.getD_eq_getElem?_getD, e1]
    exact e2
  mono := fun H0 H0' ⟨vs, h, r⟩ s => ⟨vs, s _ _ h, r.at s⟩
theorem goesR {lo : Int} {n : Nat} : GoesD (Itr lo n) n (fun j => .int (lo + j)) (fun _ => True) where
  stop := fun _ _ _ _ => Nat.le_refl _
  go := fun j hj _ _ _ _ => hj
  yld := fun j hj H0 H s _ x H' ⟨e, y⟩ => by subst e y; exact ⟨H0, .refl s, .int _⟩
  mono := fun _ _ _ _ => trivial
/-- a new pair -/
theorem Dq.pair {H0 H : Hp} (s : Same H0 H) {T : Addr} (hT : H T = none) {x y : V} {d e : PyData} (hx : Dq H0 x d) (hy : Dq H0 y e) : ∃ H0', Ext H0 H H0' (upd H T (.tup [x, y])) ∧ Dq H0' (.ref T) (.tuple [d, e]) := by
  have k := same_new (s.free hT) (.tup [x, y])
  exact ⟨_, .new s hT _, .tup upd_same (.cons (hx.at k) (.cons (hy.at k) .nil))⟩
theorem goesE {K : PySem.W.Frag} {a : Addr} {ds : List PyData} : GoesD (Ite K a) ds.length (fun j => .tuple [.int j, ds.getD j .none]) (fun H => ∃ vs, H a = some (.lst vs) ∧ DqA H vs ds) where
  stop := fun H0 H s ⟨vs, h, r⟩ => ⟨vs, SqL.of (s _ _ h), Nat.le_of_eq r.length⟩
  go := fun j hj H0 H s ⟨vs, h, r⟩ => by
    obtain ⟨v, e, _⟩ := r.get (List.getElem?_eq_getElem hj)
    exact ⟨vs, v, SqL.of (s _ _ h), e⟩
  yld := fun j hj H0 H s ⟨vs, h, r⟩ x H' y => by
    obtain ⟨T, z, e1, hT, e2, q⟩ := y
    subst e1 e2
    obtain ⟨d, e1, e2⟩ := r.get' (q vs (SqL.of (s _ _ h)))
    rw [List.getD_eq_getElem?_getD, e1]
    exact Dq.pair s hT (.int _) e2
  mono := fun H0 H0' ⟨vs, h, r⟩ s => ⟨vs, s _ _ h, r.at s⟩
theorem goesZ {K : PySem.W.Frag} {a b : Addr} {ds es : List PyData} (hl : ds.length = es.length) : GoesD (Itz K a b) ds.length (fun j => .tuple [ds.getD j .none, es.getD j .none])
    (fun H => ∃ vs ws, H a = some (.lst vs) ∧ DqA H vs ds ∧ H b = some (.lst ws) ∧ DqA H ws es) where
  stop := fun H0 H s ⟨vs, ws, h, r, h', r'⟩ => ⟨vs, ws, SqL.of (s _ _ h), SqL.of (s _ _ h'), .inl (Nat.le_of_eq r.length)⟩
  go := fun j hj H0 H s ⟨vs, ws, h, r, h', r'⟩ => by
    obtain ⟨v, e, _⟩ := r.get (List.getElem?_eq_getElem hj)
    obtain ⟨v', e', _⟩ := r'.get (List.getElem?_eq_getElem (show j < es.length by omega))
    exact ⟨vs, ws, v, v', SqL.of (s _ _ h), SqL.of (s _ _ h'), e, e'⟩
  yld := fun j hj H0 H s ⟨vs, ws, h, r, h', r'⟩ x H' y => by
    obtain ⟨T, z, z', e1, hT, e2, q, q'⟩ := y
    subst e1 e2
    obtain ⟨d, e1, e2⟩ := r.get' (q vs (SqL.of (s _ _ h)))
    obtain ⟨d', e1', e2'⟩ := r'.get' (q' ws (SqL.of (s _ _ h')))
    rw [List.getD_eq_getElem?_getD, List.getD_eq_getElem?_getD, e1, e1']
    exact Dq.pair s hT e2 e2'
  mono := fun H0 H0' ⟨vs, ws, h, r, h', r'⟩ s => ⟨vs, ws, s _ _ h, r.at s, s _ _ h', r'.at s⟩
theorem goesZT {K : PySem.W.Frag} {a b : Addr} {ds es : List PyData} (hl : ds.length = es.length) : GoesD (RZ.ItzT K a b) ds.length (fun j => .tuple [ds.getD j .none, es.getD j .none])
    (fun H => ∃ vs ws, H a = some (.tup vs) ∧ DqA H vs ds ∧ H b = some (.tup ws) ∧ DqA H ws es) where
  stop := fun H0 H s ⟨vs, ws, h, r, h', r'⟩ => ⟨vs, ws, SqT.of (s _ _ h), SqT.of (s _ _ h'), .inl (Nat.le_of_eq r.length)⟩
  go := fun j hj H0 H s ⟨vs, ws, h, r, h', r'⟩ => by
    obtain ⟨v, e, _⟩ := r.get (List.getElem?_eq_getElem hj)
    obtain ⟨v', e', _⟩ := r'.get (List.getElem?_eq_getElem (show j < es.length by omega))
    exact ⟨vs, ws, v, v', SqT.of (s _ _ h), SqT.of (s _ _ h'), e, e'⟩
  yld := fun j hj H0 H s ⟨vs, ws, h, r, h', r'⟩ x H' y => by
    obtain ⟨T, z, z', e1, hT, e2, q, q'⟩ := y
    subst e1 e2
    obtain ⟨d, e1, e2⟩ := r.get' (q vs (SqT.of (s _ _ h)))
    obtain ⟨d', e1', e2'⟩ := r'.get' (q' ws (SqT.of (s _ _ h')))
    rw [List.getD_eq_getElem?_getD, List.getD_eq_getElem?_getD, e1, e1']
    exact Dq.pair s hT e2 e2'
  mono := fun H0 H0' ⟨vs, ws, h, r, h', r'⟩ s => ⟨vs, ws, s _ _ h, r.at s, s _ _ h', r'.at s⟩
section
variable {X : Cx} {ρ : List SV} {tg e e2 : Expr} {ds es : List PyData}
theorem pi_imp {t t' : TI} (h : PI X tg e t) (k : ∀ σ H Q, t' σ H Q → t σ H Q) : PI X tg e t' := ⟨fun pins s σ H Q I q => h.run pins s σ H Q I (k σ H Q q)⟩
theorem pdi_list (h : PD X ρ e (.list ds)) : PDI X ρ tg e ds.length (fun j => ds.getD j .none) := pi_imp (pi_list h) fun σ H R ⟨H0, s, ev, q⟩ => ⟨H0, s, ev, fun v H1 H' x d => by
  cases d with
  | lst h r => exact ⟨_, rfl, ⟨_, SqL.of (x.sub _ _ h)⟩, q _ H1 H' _ x goesL ⟨_, h, r⟩⟩⟩
theorem pdi_tup (h : PD X ρ e (.tuple ds)) : PDI X ρ tg e ds.length (fun j => ds.getD j .none) := pi_imp (pi_tup h) fun σ H R ⟨H0, s, ev, q⟩ => ⟨H0, s, ev, fun v H1 H' x d => by
  cases d with
  | tup h r => exact ⟨_, rfl, ⟨_, SqT.of (x.sub _ _ h)⟩, q _ H1 H' _ x goesT ⟨_, h, r⟩⟩⟩
theorem pdi_range1 {p pos : Pos} {j : Int} (hm : X.mg "range" = none) (h : PDA X ρ [e] [.int j]) (h1 : -(2 ^ 62) ≤ j) (h2 : j < 2 ^ 62) (hg : Gl X "range" := by rfl) (hs : starEach [e] X.env = [(false, eval e X.env)] := by rfl) :
    PDI X ρ tg (.Call (.Name "range" p) [e] [] pos) j.toNat (fun k => .int (0 + (k : Nat))) := pi_imp (pi_range1 hg hm h hs) fun σ H R ⟨H0, s, ev, q⟩ => ⟨H0, s, ev, fun vs H1 H' x d => by
  cases d with
  | cons h r => cases h; cases r; exact ⟨j, rfl, h1, h2, q _ H1 H' _ x goesR trivial⟩⟩
theorem pdi_range2 {p pos : Pos} {i j : Int} (hm : X.mg "range" = none) (h : PDA X ρ [e, e2] [.int i, .int j]) (hb : -(2 ^ 62) ≤ i ∧ i < 2 ^ 62 ∧ -(2 ^ 62) ≤ j ∧ j < 2 ^ 62) (hg : Gl X "range" := by rfl) (hs : starEach [e, e2] X.env = [(false, eval e X.env), (false, eval e2 X.env)] := by rfl) (hs2 : starEach [e2] X.env = [(false, eval e2 X.env)] := by rfl) :
    PDI X ρ tg (.Call (.Name "range" p) [e, e2] [] pos) (j - i).toNat (fun k => .int (i + (k : Nat))) := pi_imp (pi_range2 hg hm h hs hs2) fun σ H R ⟨H0, s, ev, q⟩ => ⟨H0, s, ev, fun vs H1 H' x d => by
  cases d with
  | cons h r =>
    cases r with
    | cons h' r => cases h; cases h'; cases r; exact ⟨i, j, rfl, hb, q _ H1 H' _ x goesR trivial⟩⟩
theorem pdi_enum {p pos tpos : Pos} {elts : List Expr} {kk : Nat} (hm : X.mg "enumerate" = none) (h : PDA X ρ [e] [.list ds]) (hg : Gl X "enumerate" := by rfl) (hs : starEach [e] X.env = [(false, eval e X.env)] := by rfl) :
    PDI X ρ (.Tuple elts kk tpos) (.Call (.Name "enumerate" p) [e] [] pos) ds.length (fun j => .tuple [.int j, ds.getD j .none]) := pi_imp (pi_enum hg hm h hs) fun σ H R ⟨H0, s, ev, q⟩ => ⟨H0, s, ev, fun vs H1 H' x d => by
  cases d with
  | cons h r =>
    cases h with
    | lst h r' => cases r; exact ⟨_, _, rfl, SqL.of (x.sub _ _ h), q _ H1 H' _ x goesE ⟨_, h, r'⟩⟩⟩
theorem pdi_zipL {p pos tpos : Pos} {elts : List Expr} {kk : Nat} (hm : X.mg "zip" = none) (h : PDA X ρ [e, e2] [.list ds, .list es]) (hl : ds.length = es.length) (hg : Gl X "zip" := by rfl)
    (hs : starEach [e, e2] X.env = (false, eval e X.env) :: starEach [e2] X.env := by rfl) (hpl : (backTo pos (starEach [e2] X.env)).any (·.1) = false := by rfl) :
    PDI X ρ (.Tuple elts kk tpos) (.Call (.Name "zip" p) [e, e2] [] pos) ds.length (fun j => .tuple [ds.getD j .none, es.getD j .none]) := pi_imp (RZ.pi_zipA hg hm h hs hpl) fun σ H R ⟨H0, s, ev, q⟩ => ⟨H0, s, ev, fun vs H1 H' x d => by
  cases d with
  | cons h r =>
    cases r with
    | cons h' r =>
      cases r
      cases h with
      | lst h r1 =>
        cases h' with
        | lst h' r2 => exact ⟨_, _, _, _, rfl, .inl ⟨SqL.of (x.sub _ _ h), SqL.of (x.sub _ _ h'), q _ H1 H' _ x (goesZ hl) ⟨_, _, h, r1, h', r2⟩⟩⟩⟩
theorem pdi_zipT {p pos tpos : Pos} {elts : List Expr} {kk : Nat} (hm : X.mg "zip" = none) (h : PDA X ρ [e, e2] [.tuple ds, .tuple es]) (hl : ds.length = es.length) (hg : Gl X "zip" := by rfl)
    (hs : starEach [e, e2] X.env = (false, eval e X.env) :: starEach [e2] X.env := by rfl) (hpl : (backTo pos (starEach [e2] X.env)).any (·.1) = false := by rfl) :
    PDI X ρ (.Tuple elts kk tpos) (.Call (.Name "zip" p) [e, e2] [] pos) ds.length (fun j => .tuple [ds.getD j .none, es.getD j .none]) := pi_imp (RZ.pi_zipA hg hm h hs hpl) fun σ H R ⟨H0, s, ev, q⟩ => ⟨H0, s, ev, fun vs H1 H' x d => by
  cases d with
  | cons h r =>
    cases r with
    | cons h' r =>
      cases r
      cases h with
      | tup h r1 =>
        cases h' with
        | tup h' r2 => exact ⟨_, _, _, _, rfl, .inr ⟨SqT.of (x.sub _ _ h), SqT.of (x.sub _ _ h'), q _ H1 H' _ x (goesZT hl) ⟨_, _, h, r1, h', r2⟩⟩⟩⟩
end

/-! ### objects of one's own -/
/-- what an owned object holds, said of the part that is only read -/
structure OT where
  ok : Hp → HO → Prop
  up : ∀ H H' o, Same H H' → ok H o → ok H' o
  nt : ∀ H o, ok H o → NT o
def oL (ds : List PyData) : OT := ⟨fun H o => ∃ xs, o = .lst xs ∧ DqA H xs ds, fun H H' o s ⟨xs, e, r⟩ => ⟨xs, e, r.at s⟩, fun H o ⟨xs, e, _⟩ => by rw [e]; trivial⟩
/-- a new object -/
def tNw (ρ : List SV) (t : OT) : TE := fun σ H Q => ∃ H0, Same H0 H ∧ EnvD H0 ρ σ ∧ ∀ q o H0' H', Ext H0 H H0' H' → H q = none → H0' q = none → H' q = some o → t.ok H0' o → Q (.ref q) H'
abbrev PNew (X : Cx) (ρ : List SV) (e : Expr) (t : OT) : Prop := PE X e (tNw ρ t)
theorem pd_of_new {X : Cx} {ρ : List SV} {e : Expr} {ds : List PyData} (h : PNew X ρ e (oL ds)) : PD X ρ e (.list ds) := pe_imp h fun σ H Q ⟨H0, s, ev, q⟩ => ⟨H0, s, ev, fun a o H0' H' x h1 h2 h3 ⟨xs, e, r⟩ => by
  subst e
  exact q _ _ _ (x.keep h1 h2 h3) (.lst upd_same (r.at (same_new h2 _)))⟩
theorem pw_lst {X : Cx} {ρ : List SV} {es : List Expr} {ds : List PyData} {pos : Pos} (h : PDA X ρ es ds) (hz : ds.length ≤ sizeLine := by first | decide | exact Nat.le_of_ble_eq_true rfl) : PNew X ρ (.List es pos) (oL ds) :=
  pe_imp (pe_lst h) fun σ H Q ⟨H0, s, ev, q⟩ => ⟨H0, s, ev, fun vs H1 H' x dvs => ⟨by rw [dvs.length]; exact hz, fun a ha =>
    q a _ H1 _ (x.trans (.more x.sub ha _)) (x.s.free ha) (x.sub.free ha) upd_same ⟨vs, rfl, dvs⟩⟩⟩

/-! ### comprehensions -/
/-- a comprehension: as a value, and as what a local name is set to -/
structure PCmp (X : Cx) (e : Expr) (t : TE) : Prop where
  val : PE X e t
  set : ∀ {i : Nat} {y : Str} {py spos : Pos}, X.N[i]? = some y → X.env.scope.names.lookup y = some .local → swapsWith e (some (.Name y py)) spos.line X.env = pure true → PS X (.Assign [.Name y py] e spos) (tAsg t (gName i))
abbrev PNewC (X : Cx) (ρ : List SV) (e : Expr) (t : OT) : Prop := PCmp X e (tNw ρ t)
/-- the data kept of n turns -/
def kept (p : Nat → Bool) (f : Nat → PyData) : Nat → List PyData
  | 0 => []
  | n + 1 => kept p f n ++ (if p n = true then [f n] else [])
theorem kept_length (p : Nat → Bool) (f : Nat → PyData) : ∀ n, (kept p f n).length ≤ n
  | 0 => Nat.le_refl _
  | n + 1 => by
    have h := kept_length p f n
    unfold kept
    rw [List.length_append]
    split <;> simp <;> omega
theorem kept_map {α : Type} (g : α → PyData) (p : α → Bool) (f : α → PyData) (p' : Nat → Bool) (f' : Nat → PyData) (xs : List α) (h : ∀ (j : Nat) x, xs[j]? = some x → p' j = p x ∧ (p x = true → f' j = f x)) :
    ∀ n, n ≤ xs.length → kept p' f' n = ((xs.take n).filter p).map f
  | 0, _ => by simp [kept]
  | n + 1, hn => by
    have hx : xs[n]? = some xs[n] := List.getElem?_eq_getElem (by omega)
    obtain ⟨h1, h2⟩ := h n _ hx
    unfold kept
    rw [kept_map g p f p' f' xs h n (by omega), List.take_add_one, hx, h1]
    simp only [Option.toList_some, List.filter_append, List.map_append]
    congr 1
    by_cases c : p xs[n] = true
    · rw [if_pos c, h2 c, List.filter_cons, if_pos c]; rfl
    · rw [if_neg c, List.filter_cons, if_neg c]; rfl
section
variable {X : Cx} {ρ : List SV}
/-- readings for any of the n turns -/
def anyG (n : Nat) (g : Nat → TG) : TG := fun v σ H Q => ∃ j, j < n ∧ g j v σ H Q
theorem pg_any {e : Expr} {n : Nat} {g : Nat → TG} (h : ∀ j, j < n → PG X e (g j)) : PG X e (anyG n g) := ⟨fun pins s σ H v u Q I r ⟨j, hj, q⟩ => (h j hj).run pins s σ H v u Q I r q⟩
def anyE (n : Nat) (P : Nat → Prop) (t : Nat → TE) : TE := fun σ H Q => ∃ j, j < n ∧ P j ∧ t j σ H Q
theorem pe_any {e : Expr} {n : Nat} {P : Nat → Prop} {t : Nat → TE} (h : ∀ j, j < n → P j → PE X e (t j)) : PE X e (anyE n P t) := ⟨fun pins s σ H Q I ⟨j, hj, pj, q⟩ => (h j hj pj).run pins s σ H Q I q⟩
def anyT (n : Nat) (t : Nat → TT) : TT := fun σ H Q => ∃ j, j < n ∧ t j σ H Q
theorem pts_any {ifs : List Expr} {n : Nat} {t : Nat → TT} (h : ∀ j, j < n → PTs X ifs (t j)) : PTs X ifs (anyT n t) := ⟨fun pins s σ H Q I ⟨j, hj, q⟩ => (h j hj).run pins s σ H Q I q⟩
def anyS (n : Nat) (t : Nat → TS) : TS := fun D σ H => ∃ j, j < n ∧ t j D σ H
theorem pss_any {st : List Stmt} {n : Nat} {t : Nat → TS} (h : ∀ j, j < n → PSs X st (t j)) : PSs X st (anyS n t) := ⟨fun pins s σ H D I ⟨j, hj, q⟩ => (h j hj).run pins s σ H D I q⟩
theorem pts_imp {e : List Expr} {t t' : TT} (h : PTs X e t) (k : ∀ σ H Q, t' σ H Q → t σ H Q) : PTs X e t' := ⟨fun pins s σ H Q I q => h.run pins s σ H Q I (k σ H Q q)⟩
theorem pdts_nil : PTs X [] (tDT ρ true) := pts_imp pts_nil fun σ H Q ⟨H0, s, ev, q⟩ => q H0 H (.refl s)
theorem pdts_one {e : Expr} {b : Bool} (h : PDT X ρ e b) : PTs X [e] (tDT ρ b) := pts_one h
/-- the block of a comprehension -/
abbrev Blk (X : Cx) (scope : Scope) (P : Cx → Prop) : Prop := ∀ (s : Shared) (H : Hp) (C : Addr) (cl : List (Str × Addr)) (fp : List Addr), P (X.blk s H scope (compEnvC scope cl C X.env) fp)
/-- [elt for tg in iter if ..], by turns -/
theorem pw_lcN {elt tg iter : Expr} {ifs : List Expr} {scope : Scope} {own : List (Str × Nat)} {pos : Pos} {n : Nat} {dat : Nat → PyData} {ρ' : Nat → List SV} {is : List Nat} {p : Nat → Bool} {f : Nat → PyData} (hc : X.calm = true) (hN : X.N.Nodup)
    (hi : PDI X ρ tg iter n dat) (ok : BlkOk X.N X.env.scope scope own) (his : ∀ k ∈ is, k ∈ own.map (·.2)) (hz : n < sizeLine)
    (hg : ∀ j, j < n → Blk X scope fun Y => PDG Y (wipeS ρ (own.map (·.2))) tg (dat j) (ρ' j) is)
    (ht : ∀ j, j < n → Blk X scope fun Y => PTs Y ifs (tDT (ρ' j) (p j)))
    (he : ∀ j, j < n → p j = true → Blk X scope fun Y => PD Y (ρ' j) elt (f j)) (hs : ∀ x, foldedSetIterable iter X.env x = pure x := by intro _; rfl) :
    PNewC X ρ (.ListComp elt [⟨tg, iter, ifs, 0⟩] scope pos) (oL (kept p f n)) := by
  have hG := fun (s : Shared) (H : Hp) (C : Addr) (cl : List (Str × Addr)) (fp : List Addr) => pg_any fun j hj => hg j hj s H C cl fp
  have hT := fun (s : Shared) (H : Hp) (C : Addr) (cl : List (Str × Addr)) (fp : List Addr) => pts_any fun j hj => ht j hj s H C cl fp
  have hE := fun (s : Shared) (H : Hp) (C : Addr) (cl : List (Str × Addr)) (fp : List Addr) => pe_any fun j hj pj => he j hj pj s H C cl fp
  suffices key : ∀ σ H Q, tNw ρ (oL (kept p f n)) σ H Q → tLc (tDI ρ n dat) (anyG n fun j => gD (wipeS ρ (own.map (·.2))) (dat j) (ρ' j) is) (anyT n fun j => tDT (ρ' j) (p j)) (anyE n (fun j => p j = true) fun j => tD (ρ' j) (f j)) (own.map (·.2)) σ H Q from
    ⟨pe_imp (pe_lc hc hN hi ok hG hT hE hs) key, fun hy hyl hsw => ps_imp (ps_setLc hc hN hy hyl hsw hi ok hG hT hE hs) fun D σ H h => key σ H _ h⟩
  intro σ H Q ⟨H0, s, ev, q⟩
  refine ⟨H0, s, ev, fun J A B G x goes gA D hD => ?_⟩
  -- the state ahead of the first turn: A in B; D is new
  refine ⟨fun i m H' => m = n - i ∧ i ≤ n ∧ ∃ H0' acc, Ext A B H0' H' ∧ H0' D = none ∧ H' D = some (.lst acc) ∧ DqA H0' acc (kept p f i), ⟨n, by omega, Nat.zero_le _, A, [], .more x.sub hD _, x.sub.free hD, upd_same, .nil⟩, ?_⟩
  rintro i m H' ⟨rfl, hin, H0', acc, xe, hD0, hDa, da⟩
  have evA : EnvD A ρ σ := ev.at x.s0
  have gi : G H0' := goes.mono _ _ gA xe.s0
  by_cases hlt : i < n
  · refine .inr ⟨goes.go i hlt H0' H' xe.sub gi, fun H'' => ∃ H0'' acc, Ext A B H0'' H'' ∧ H0'' D = none ∧ H'' D = some (.lst acc) ∧ DqA H0'' acc (kept p f (i + 1)), fun H'' k => ⟨n - (i + 1), by omega, rfl, hlt, k⟩, fun v H2 y => ?_⟩
    obtain ⟨H02, x2, dv⟩ := goes.yld i hlt H0' H' xe.sub gi v H2 y
    have hD2 : H02 D = none := x2.out D _ hD0 hDa trivial
    refine ⟨i, hlt, H02, x2.sub, EnvD.wipe (evA.at (xe.s0.trans x2.s0)) _, dv, fun σ2 ev2 o2 => ⟨?_, ?_⟩⟩
    · have e1 := o2.wipe his
      rw [e1]
      exact wipe_wipe
    · refine ⟨i, hlt, H02, x2.sub, ev2, fun H03 H3 x3 => ?_⟩
      have hD3 : H03 D = none := x3.out D _ hD2 (x2.s _ _ hDa) trivial
      show if p i = true then _ else _
      by_cases c : p i = true
      · rw [if_pos c]
        refine ⟨i, hlt, c, H03, x3.sub, ev2.at x3.s0, fun y H04 H4 x4 dy => ⟨acc, x4.s _ _ (x3.s _ _ (x2.s _ _ hDa)), ?_, ?_⟩⟩
        · rw [da.length]
          exact Nat.lt_of_le_of_lt (kept_length p f i) (by omega)
        · have hD4 : H04 D = none := x4.out D _ hD3 (x3.s _ _ (x2.s _ _ hDa)) trivial
          refine ⟨H04, _, (((xe.trans x2).trans x3).trans x4).mut hD hD4 _, hD4, upd_same, ?_⟩
          unfold kept
          rw [if_pos c]
          exact (da.at (x2.s0.trans (x3.s0.trans x4.s0))).append (.cons dy .nil)
      · rw [if_neg c]
        refine ⟨H03, acc, (xe.trans x2).trans x3, hD3, x3.s _ _ (x2.s _ _ hDa), ?_⟩
        unfold kept
        rw [if_neg c, List.append_nil]
        exact da.at (x2.s0.trans x3.s0)
  · have e : i = n := by omega
    subst e
    refine .inl ⟨goes.stop H0' H' xe.sub gi, ?_⟩
    exact q D _ _ _ (x.trans xe) (x.s.free hD) hD0 hDa ⟨acc, rfl, da⟩
end
end Hf

/-! ## HfC -/
set_option Elab.async false
set_option linter.all false
set_option maxRecDepth 100000
set_option maxHeartbeats 1000000
/-! Statements, promises, calls, built-ins. -/
namespace Hf
open L2 PySem PySem.Spec PyProof.Rows
open PySem.W (Datum DatumOrd Tup)

/-! ### what a body owns: objects that are not of H0 and that it changes -/
structure Own where
  p : Hp → Hp → Hp → Prop
  st : ∀ B H0 H H0' H', Ext H0 H H0' H' → p B H0 H → p B H0' H'
def emp : Own := ⟨fun _ _ _ => True, fun _ _ _ _ _ _ _ => trivial⟩
/-- slots forgotten -/
def leS : List SV → List SV → Prop
  | [], [] => True
  | s :: ss, t :: ts => (t = .no ∨ s = t) ∧ leS ss ts
  | _, _ => False
theorem leS.refl : ∀ ρ : List SV, leS ρ ρ
  | [] => trivial
  | _ :: ρ => ⟨.inr rfl, leS.refl ρ⟩
theorem leS.env {H : Hp} : ∀ {ρ ρ' : List SV} {σ : L2.St}, leS ρ ρ' → EnvD H ρ σ → EnvD H ρ' σ
  | [], [], [], _, _ => trivial
  | _ :: _, _ :: _, _ :: _, ⟨a, b⟩, ⟨c, d⟩ => ⟨by rcases a with e | e; subst e; trivial; subst e; exact c, leS.env b d⟩
  | [], [], _ :: _, _, h => h.elim
  | _ :: _, _ :: _, [], _, h => h.elim
  | [], _ :: _, _, h, _ => h.elim
  | _ :: _, [], _, h, _ => h.elim

/-- a statement that ends: slots ρ to ρ', owned M to M' -/
def tN (ρ ρ' : List SV) (M M' : Own) : TS := fun D σ H => ∃ B0 B H0, Ext B0 B H0 H ∧ EnvD H0 ρ σ ∧ M.p B H0 H ∧ ∀ σ' H0' H', Ext B0 B H0' H' → Same H0 H0' → EnvD H0' ρ' σ' → M'.p B H0' H' → D.nx σ' H'
/-- a block that returns d -/
def tB (ρ : List SV) (M : Own) (d : PyData) : TS := fun D σ H => ∃ B0 B H0, Ext B0 B H0 H ∧ EnvD H0 ρ σ ∧ M.p B H0 H ∧ ∀ v H0' H', Ext B0 B H0' H' → Dq H0' v d → D.rt v H'
abbrev PN (X : Cx) (ρ ρ' : List SV) (M M' : Own) (st : Stmt) : Prop := PS X st (tN ρ ρ' M M')
abbrev PNs (X : Cx) (ρ ρ' : List SV) (M M' : Own) (st : List Stmt) : Prop := PSs X st (tN ρ ρ' M M')
abbrev PB (X : Cx) (ρ : List SV) (M : Own) (st : List Stmt) (d : PyData) : Prop := PSs X st (tB ρ M d)
section
variable {X : Cx} {ρ ρ1 ρ2 : List SV} {M M1 M2 : Own} {st : Stmt} {sts : List Stmt} {d : PyData} {e : Expr} {pos : Pos}
theorem pn_weak (h : PN X ρ ρ1 M M1 st) (l : leS ρ1 ρ2) : PN X ρ ρ2 M M1 st := ps_imp h fun D σ H ⟨B0, B, H0, x, ev, m, q⟩ => ⟨B0, B, H0, x, ev, m, fun σ' H0' H' x' s' ev' m' => q σ' H0' H' x' s' (l.env ev') m'⟩
theorem pns_weak (h : PNs X ρ ρ1 M M1 sts) (l : leS ρ1 ρ2) : PNs X ρ ρ2 M M1 sts := pss_imp h fun D σ H ⟨B0, B, H0, x, ev, m, q⟩ => ⟨B0, B, H0, x, ev, m, fun σ' H0' H' x' s' ev' m' => q σ' H0' H' x' s' (l.env ev') m'⟩
theorem pns_nil : PNs X ρ ρ M M [] := pss_imp pss_nil fun D σ H ⟨B0, B, H0, x, ev, m, q⟩ => q σ H0 H x (.refl _) ev m
theorem pns_cons (h : PN X ρ ρ1 M M1 st) (r : PNs X ρ1 ρ2 M1 M2 sts) : PNs X ρ ρ2 M M2 (st :: sts) := pss_imp (pss_cons h r) fun D σ H ⟨B0, B, H0, x, ev, m, q⟩ => ⟨B0, B, H0, x, ev, m, fun σ' H0' H' x' s' ev' m' => ⟨B0, B, H0', x', ev', m', fun σ2 H02 H2 x2 s2 ev2 m2 => q σ2 H02 H2 x2 (s'.trans s2) ev2 m2⟩⟩
theorem pns_one (h : PN X ρ ρ1 M M1 st) : PNs X ρ ρ1 M M1 [st] := pss_one h
theorem pb_cons (h : PN X ρ ρ1 M M1 st) (r : PB X ρ1 M1 sts d) : PB X ρ M (st :: sts) d := pss_imp (pss_cons h r) fun D σ H ⟨B0, B, H0, x, ev, m, q⟩ => ⟨B0, B, H0, x, ev, m, fun σ' H0' H' x' _ ev' m' => ⟨B0, B, H0', x', ev', m', q⟩⟩
/-- an expression within a body -/
theorem inB {B0 B H0 H : Hp} {ρ : List SV} {σ : L2.St} {d : PyData} {Q : VK} (x : Ext B0 B H0 H) (ev : EnvD H0 ρ σ) (k : ∀ v H0' H', Ext B0 B H0' H' → Ext H0 H H0' H' → Dq H0' v d → Q v H') : tD ρ d σ H Q :=
  ⟨H0, x.sub, ev, fun v H1 H' y dv => k v H1 H' (x.trans y) y dv⟩
theorem pb_ret (h : PD X ρ e d) : PB X ρ M [.Return (some e) pos] d := pss_imp (pss_one (ps_ret h)) fun D σ H ⟨B0, B, H0, x, ev, m, q⟩ => inB x ev fun v H1 H' x1 _ dv => q v H1 H' x1 dv
/-- name = e -/
theorem pn_set (i : Nat) {x : Str} {p : Pos} (hN : X.N.Nodup) (h : PD X ρ e d) (hi : X.N[i]? = some x := by rfl) (hx : Loc X.env.scope x := by first | exact Or.inl rfl | exact Or.inr rfl)
    (hs : swapsWith e (some (.Name x p)) pos.line X.env = pure false := by rfl) (hf : X.fn x = true ∨ X.env.scope.names.lookup x = some .local := by first | exact .inl rfl | exact .inr rfl) : PN X ρ (ρ.set i (.dat d)) M M (.Assign [.Name x p] e pos) :=
  ps_imp (ps_set hN hi hx h hs hf) fun D σ H ⟨B0, B, H0, x, ev, m, q⟩ => inB x ev fun v H1 H' x1 y dv => q _ H1 H' x1 y.s0 ((ev.at y.s0).set (s := .dat d) ⟨v, rfl, dv⟩ i) (M.st _ _ _ _ _ y m)
/-- name = [..] on one line (the comprehension's own store) -/
theorem pn_asg {tg : Expr} {is : List Nat} (h : PD X ρ e d) (g : PDG X ρ tg d ρ1 is) (hs : swapsWithSole [tg] e pos.line X.env = pure false := by rfl) (hw : swappedStores [tg] e X.env = pure none := by rfl)
    (h1 : (assignEach [tg] X.env).map (·.2) = [assign tg X.env] := by rfl) : PN X ρ ρ1 M M (.Assign [tg] e pos) :=
  ps_imp (ps_asg h g hs hw h1) fun D σ H ⟨B0, B, H0, x, ev, m, q⟩ => inB x ev fun v H1 H' x1 y dv => ⟨H1, y.sub, ev.at y.s0, dv, fun σ' ev' _ => q σ' H1 H' x1 y.s0 ev' (M.st _ _ _ _ _ y m)⟩
/-- a, b = e1, e2 -/
theorem pn_par {i j : Nat} {x y : Str} {a b : Expr} {d1 d2 : PyData} {px py pt : Pos} {kt k2 pt2} (hN : X.N.Nodup) (ha : PDA X ρ [a, b] [d1, d2]) (hc : X.calm = true := by rfl) (hi : X.N[i]? = some x := by rfl) (hj : X.N[j]? = some y := by rfl) (hij : i ≠ j := by decide)
    (hx : X.env.scope.names.lookup x = some .local := by rfl) (hy : X.env.scope.names.lookup y = some .local := by rfl)
    (hw : swappedStores [.Tuple [.Name x px, .Name y py] kt pt] (.Tuple [a, b] k2 pt2) X.env = pure (some [x, y]) := by rfl)
    (hs : swapsWithSole [.Tuple [.Name x px, .Name y py] kt pt] (.Tuple [a, b] k2 pt2) pos.line X.env = pure false := by rfl) :
    PN X ρ ((ρ.set i (.dat d1)).set j (.dat d2)) M M (.Assign [.Tuple [.Name x px, .Name y py] kt pt] (.Tuple [a, b] k2 pt2) pos) :=
  ps_imp (ps_par hc hN hi hj hij hx hy ha hw hs) fun D σ H ⟨B0, B, H0, x, ev, m, q⟩ => ⟨H0, x.sub, ev, fun vs H1 H' y dv => by
    cases dv with
    | cons h1 r =>
      cases r with
      | cons h2 r =>
        cases r
        exact ⟨_, _, rfl, q _ H1 H' (x.trans y) y.s0 (((ev.at y.s0).set (s := .dat d1) ⟨_, rfl, h1⟩ i).set (s := .dat d2) ⟨_, rfl, h2⟩ j) (M.st _ _ _ _ _ y m)⟩⟩
/-- if c: body, rest: the body returns -/
theorem pb_if {c : Expr} {b : Bool} {body rest : List Stmt} (hc : PDT X ρ c b) (ht : b = true → PB X ρ M body d) (hf : b = false → PB X ρ M rest d) : PB X ρ M (.If c body [] pos :: rest) d := by
  cases b with
  | true => exact pss_imp (pss_cons (ps_if hc (ht rfl) pss_nil) pss_never) fun D σ H ⟨B0, B, H0, x, ev, m, q⟩ => ⟨H0, x.sub, ev, fun H1 H' y => iteT ⟨B0, B, H1, x.trans y, ev.at y.s0, M.st _ _ _ _ _ y m, q⟩⟩
  | false => exact pss_imp (pss_cons (ps_if hc pss_never pss_nil) (hf rfl)) fun D σ H ⟨B0, B, H0, x, ev, m, q⟩ => ⟨H0, x.sub, ev, fun H1 H' y => iteF ⟨B0, B, H1, x.trans y, ev.at y.s0, M.st _ _ _ _ _ y m, q⟩⟩
/-- if c: body (no else), as a statement that ends -/
theorem pn_if {c : Expr} {b : Bool} {body els : List Stmt} (hc : PDT X ρ c b) (ht : b = true → PNs X ρ ρ1 M M1 body) (hf : b = false → PNs X ρ ρ1 M M1 els) : PN X ρ ρ1 M M1 (.If c body els pos) := by
  cases b with
  | true => exact ps_imp (ps_if hc (ht rfl) pss_never) fun D σ H ⟨B0, B, H0, x, ev, m, q⟩ => ⟨H0, x.sub, ev, fun H1 H' y => iteT ⟨B0, B, H1, x.trans y, ev.at y.s0, M.st _ _ _ _ _ y m, fun σ2 H02 H2 x2 s2 ev2 m2 => q σ2 H02 H2 x2 (y.s0.trans s2) ev2 m2⟩⟩
  | false => exact ps_imp (ps_if hc pss_never (hf rfl)) fun D σ H ⟨B0, B, H0, x, ev, m, q⟩ => ⟨H0, x.sub, ev, fun H1 H' y => iteF ⟨B0, B, H1, x.trans y, ev.at y.s0, M.st _ _ _ _ _ y m, fun σ2 H02 H2 x2 s2 ev2 m2 => q σ2 H02 H2 x2 (y.s0.trans s2) ev2 m2⟩⟩
/-- for tg in iter: body, by turns -/
theorem pn_for {tg iter : Expr} {body : List Stmt} {n : Nat} {dat : Nat → PyData} (ρs ρt ρe : Nat → List SV) (Ms : Nat → Own) {is : Nat → List Nat} (hp : PassesOwn (model X.prog X.w) X.A X.env X.xe) (hc : X.calm = true) (hi : PDI X ρ tg iter n dat)
    (h0 : leS ρ (ρs 0)) (hg : ∀ j, j < n → PDG X (ρs j) tg (dat j) (ρt j) (is j)) (hb : ∀ j, j < n → PNs X (ρt j) (ρe j) (Ms j) (Ms (j + 1)) body) (he : ∀ j, j < n → leS (ρe j) (ρs (j + 1)))
    (hs : ∀ x, foldedSetIterable iter X.env x = pure x := by intro _; rfl) : PN X ρ (ρs n) (Ms 0) (Ms n) (.For tg iter body [] pos) := by
  refine ps_imp (ps_for (g := anyG n fun j => gD (ρs j) (dat j) (ρt j) (is j)) (tb := anyS n fun j => tN (ρt j) (ρe j) (Ms j) (Ms (j + 1))) hp hc hi (pg_any hg) (pss_any hb) hs) fun D σ H ⟨B0, B, H0, x, ev, m, q⟩ => ?_
  refine ⟨H0, x.sub, ev, fun J A HA G y goes gA => ?_⟩
  refine ⟨fun i k σ' H' => k = n - i ∧ i ≤ n ∧ ∃ H0', Ext B0 B H0' H' ∧ Same H0 H0' ∧ EnvD H0' (ρs i) σ' ∧ (Ms i).p B H0' H' ∧ G H0', ⟨n, by omega, Nat.zero_le _, A, x.trans y, y.s0, h0.env (ev.at y.s0), (Ms 0).st _ _ _ _ _ y m, gA⟩, ?_⟩
  rintro i k σ' H' ⟨rfl, hin, H0', xe, se, ev', m', gi⟩
  by_cases hlt : i < n
  · refine .inr ⟨goes.go i hlt H0' H' xe.sub gi, fun σ'' H'' => ∃ H0'', Ext B0 B H0'' H'' ∧ Same H0 H0'' ∧ EnvD H0'' (ρs (i + 1)) σ'' ∧ (Ms (i + 1)).p B H0'' H'' ∧ G H0'', fun σ'' H'' w => ⟨n - (i + 1), by omega, rfl, hlt, w⟩, fun v H2 yl => ?_⟩
    obtain ⟨H02, x2, dv⟩ := goes.yld i hlt H0' H' xe.sub gi v H2 yl
    refine ⟨i, hlt, H02, x2.sub, ev'.at x2.s0, dv, fun σ2 ev2 _ => ?_⟩
    have g2 := goes.mono _ _ gi x2.s0
    exact ⟨i, hlt, B0, B, H02, xe.trans x2, ev2, (Ms i).st _ _ _ _ _ x2 m', fun σ3 H03 H3 x3 s3 ev3 m3 => ⟨H03, x3, se.trans (x2.s0.trans s3), (he i hlt).env ev3, m3, goes.mono _ _ g2 s3⟩⟩
  · have e : i = n := by omega
    subst e
    exact .inl ⟨goes.stop H0' H' xe.sub gi, q σ' H0' H' xe se ev' m'⟩
end
end Hf

/-! ## HfD -/
set_option Elab.async false
set_option linter.all false
set_option maxRecDepth 100000
set_option maxHeartbeats 1000000
/-! sorted of lists, tuples, dicts with pairs as keys. -/
namespace Hf
open L2 PySem PySem.Spec PyProof.Rows
open PySem.W (Datum DatumOrd Tup EachIs AllAlike Sortable dataLe)

theorem each_append {α β : Type} {R : α → β → Prop} : ∀ {as as' : List α} {bs bs' : List β}, EachIs R as bs → EachIs R as' bs' → EachIs R (as ++ as') (bs ++ bs')
  | _, _, _, _, .nil, h => h
  | _, _, _, _, .cons h t, g => .cons h (each_append t g)
/-- V's and data beside each other -/
theorem dqa_zip {H : Hp} : ∀ {vs : List V} {ds : List PyData}, DqA H vs ds → ∃ zs : List (V × PyData), zs.map (·.1) = vs ∧ zs.map (·.2) = ds ∧ ∀ z ∈ zs, Dq H z.1 z.2
  | [], _, h => by cases h; exact ⟨[], rfl, rfl, fun z h => by cases h⟩
  | v :: vs, _, h => by
    cases h with
    | @cons _ _ d ds h r =>
      obtain ⟨zs, e1, e2, e3⟩ := dqa_zip r
      exact ⟨(v, d) :: zs, by simp [e1], by simp [e2], fun z hz => by
        rcases List.mem_cons.mp hz with e | e
        · rw [e]; exact h
        · exact e3 z e⟩
theorem dqa_of {H : Hp} : ∀ {zs : List (V × PyData)}, (∀ z ∈ zs, Dq H z.1 z.2) → DqA H (zs.map (·.1)) (zs.map (·.2))
  | [], _ => .nil
  | z :: zs, h => .cons (h z (List.mem_cons_self ..)) (dqa_of fun y hy => h y (List.mem_cons_of_mem _ hy))
theorem each_vals {us : List Value} : ∀ {zs : List (V × PyData)}, Vals (zs.map (·.1)) us → EachIs (fun (u : Value) (z : V × PyData) => RelV z.1 u) us zs
  | [], h => by cases h; exact .nil
  | z :: zs, h => by
    cases h with
    | cons h t => exact .cons h (each_vals t)
theorem vals_each {us : List Value} : ∀ {zs : List (V × PyData)}, EachIs (fun (u : Value) (z : V × PyData) => RelV z.1 u) us zs → Vals (zs.map (·.1)) us
  | [], h => by cases h; exact .nil
  | z :: zs, h => by
    cases h with
    | cons h t => exact .cons h (vals_each t)
mutual
theorem reads_lt {h : Heap} : ∀ {d : PyData} {v : Value} {as : List Addr}, Reads h v d as → ∀ a ∈ as, a < h.objs.size
  | .none, _, _, r, a, m => by cases r; cases m
  | .bool _, _, _, r, a, m => by cases r; cases m
  | .int _, _, _, r, a, m => by cases r; cases m
  | .str _, _, _, r, a, m => by cases r; cases m
  | .list ds, _, _, r, a, m => by
    cases r with
    | list h1 h2 h3 h4 =>
      rcases List.mem_cons.mp m with e | e
      · rw [e]; exact Heap.lt_size h1
      · exact readsA_lt h4 a e
  | .tuple ds, _, _, r, a, m => by
    cases r with
    | tuple h1 h2 h3 h4 => exact readsA_lt h4 a m
  | .dict kvs, _, _, r, a, m => by
    cases r with
    | @dict b o es n _ as bs h1 h2 h3 h4 h5 =>
      rcases List.mem_append.mp m with e | e
      · rcases List.mem_cons.mp e with e | e
        · rw [e]; exact Heap.lt_size h1
        · exact readsK_lt kvs h4 a e
      · exact readsW_lt kvs h5 a e
theorem readsA_lt {h : Heap} : ∀ {ds : List PyData} {vs : List Value} {as : List Addr}, ReadsAll h vs ds as → ∀ a ∈ as, a < h.objs.size
  | [], _, _, r, a, m => by cases r; cases m
  | d :: ds, _, _, r, a, m => by
    cases r with
    | cons h1 h2 =>
      rcases List.mem_append.mp m with e | e
      · exact reads_lt h1 a e
      · exact readsA_lt h2 a e
theorem readsK_lt {h : Heap} : ∀ (kvs : List (PyData × PyData)) {vs : List Value} {as : List Addr}, ReadsAll h vs (kvs.map (·.1)) as → ∀ a ∈ as, a < h.objs.size
  | [], _, _, r, a, m => by cases r; cases m
  | (k, _) :: kvs, _, _, r, a, m => by
    cases r with
    | cons h1 h2 =>
      rcases List.mem_append.mp m with e | e
      · exact reads_lt h1 a e
      · exact readsK_lt kvs h2 a e
theorem readsW_lt {h : Heap} : ∀ (kvs : List (PyData × PyData)) {vs : List Value} {as : List Addr}, ReadsAll h vs (kvs.map (·.2)) as → ∀ a ∈ as, a < h.objs.size
  | [], _, _, r, a, m => by cases r; cases m
  | (_, k) :: kvs, _, _, r, a, m => by
    cases r with
    | cons h1 h2 =>
      rcases List.mem_append.mp m with e | e
      · exact reads_lt h1 a e
      · exact readsW_lt kvs h2 a e
end
section
variable {X : Cx} {pins : List (Addr × Obj)} {σ : L2.St} {H : Hp} {s : Shared}
/-- the new list that sorted makes and sorts -/
theorem sorted_tail {vs : List Value} {zs : List (V × PyData)} {Q : V → Hp → Prop} {E : Value → Shared → Prop} (I : Inv X pins σ H s) (e : EachIs (fun (u : Value) (z : V × PyData) => RelV z.1 u) vs zs) (hd : ∀ z ∈ zs, Dq H z.1 z.2)
    (hal : AllAlike (zs.map (·.2))) (hk : Sortable (zs.map (·.2))) (hL : zs.length ≤ sizeLine) (hu : ∀ z ∈ zs, X.A.units + 4 + z.2.depth < cLine)
    (q : ∀ p, H p = none → Q (.ref p) (upd H p (.lst ((zs.mergeSort (dataLe false (fun z => z.2))).map (·.1))))) :
    wpAny (model X.prog X.w) X.A.in1 (do
      let l ← newList vs
      let _ ← holding [l] (call (.builtin "list.sort") [l] [])
      ret l) (fun f s' => ∃ v, f = .done (.ret v) ∧ EP X pins σ Q v s') E s := by
  have hl : vs.length = zs.length := e.length
  refine wpAny_bind (wpAny_newList ?_ (by omega))
  have hoL : (s.heap.push (seqObj "list" vs.toArray 0)).get? s.heap.objs.size = some (seqObj "list" vs.toArray 0) := Heap.get?_push_size _ rfl
  have I1 : Inv X pins σ H { s with heap := s.heap.push (seqObj "list" vs.toArray 0) } := I.kept (t' := s.toks) fun b o q => Heap.get?_push_of_some _ q
  have rd : ∀ {v : Value} {z : V × PyData}, RelV z.1 v → z ∈ zs → ∃ as, Reads s.heap v z.2 as := fun {v z} r hz => Dp.reads I z.2 z.1 v (Dq.dp z.2 z.1 (hd z hz)) r
  have er : EachIs (fun (v : Value) (z : V × PyData) => ∃ as, Reads (s.heap.push (seqObj "list" vs.toArray 0)) v z.2 as ∧ s.heap.objs.size ∉ as) vs zs := by
    refine (PySem.W.each_mem e).mono fun v z ⟨r, hz⟩ => ?_
    obtain ⟨as, r2⟩ := rd r hz
    refine ⟨as, PyProof.Rows.Reads.keeps (fun b o q => Heap.get?_push_of_some _ q) r2, fun hm => ?_⟩
    exact absurd (reads_lt r2 _ hm) (Nat.lt_irrefl _)
  refine wpAny_bind (wpAny_holding (PySem.W.list_sort_data (R := fun (u : Value) (z : V × PyData) => RelV z.1 u) (enc := fun z => z.2) (s := { s with heap := s.heap.push (seqObj "list" vs.toArray 0) }) hoL e er hal hk hL (fun z hz => by have := hu z hz; show X.A.units + 1 + 1 + _ < _; omega) fun out a1 a2 => ?_))
  obtain ⟨c, hc⟩ := sortedHeap_at (vs := vs) (out := out.toArray) hoL
  refine wpAny_pure ⟨_, rfl, ?_⟩
  have rv : Vals ((zs.mergeSort (dataLe false (fun z => z.2))).map (·.1)) out := vals_each a2
  refine ⟨.ref s.heap.objs.size, upd H s.heap.objs.size _, I.laid (a := s.heap.objs.size) (t' := s.toks) (o := .lst ((zs.mergeSort (dataLe false (fun z => z.2))).map (·.1))) (fun b u q => ?_) (Nat.le_refl _) ⟨?_, out, c, rv, hc⟩, rfl, q _ (I.hok.fresh (Nat.le_refl _))⟩
  · have hlt := Heap.lt_size q
    show (sortedHeap (s.heap.push (seqObj "list" vs.toArray 0)) s.heap.objs.size vs out.toArray).get? b = some u
    rw [sortedHeap_old (Nat.ne_of_lt hlt) (by rw [size_push']; exact Nat.lt_succ_of_lt hlt)]
    exact Heap.get?_push_of_some _ q
  · rw [List.length_map, List.length_mergeSort]; exact hL
end

/-- data by Python's < -/
def leD (a b : PyData) : Bool := dataLe false (fun d : PyData => d) a b
theorem sort_snd (zs : List (V × PyData)) : (zs.mergeSort (dataLe false (fun z => z.2))).map (·.2) = (zs.map (·.2)).mergeSort leD :=
  PySem.W.sort_maps (fun z : V × PyData => z.2) fun _ _ _ _ => rfl
/-- what sorted asks of data -/
structure SrtOk (X : Cx) (ds : List PyData) : Prop where
  al : AllAlike ds
  sk : Sortable ds
  len : ds.length ≤ sizeLine
  dep : ∀ d ∈ ds, X.A.units + 4 + d.depth < cLine
section
variable {X : Cx}
/-- sorted(xs), xs a list or a tuple of data -/
def rSrt (X : Cx) : List V → Hp → VK → Prop := fun xs H Q => ∃ (a : Addr) (vs : List V) (ds : List PyData), xs = [.ref a] ∧ (H a = some (.lst vs) ∨ H a = some (.tup vs)) ∧ DqA H vs ds ∧ SrtOk X ds ∧
  ∀ p ws, H p = none → DqA H ws (ds.mergeSort leD) → (∀ w ∈ ws, w ∈ vs) → Q (.ref p) (upd H p (.lst ws))
theorem cr_srt : CallR X (.builtin "sorted") (rSrt X) := by
  intro pins s σ H xs us Q I r ⟨a, vs, ds, ex, ha, hd, ok, q⟩
  subst ex
  obtain ⟨u, rfl, rx⟩ := vals1 r
  cases rx
  obtain ⟨zs, e1, e2, hz⟩ := dqa_zip hd
  subst e1 e2
  refine Calls.call_function_entry PyProof.Rows.kind_sorted PyProof.Rows.plain_sorted PyProof.Rows.entry_sorted (PyProof.Rows.args_sorted1 _) ?_
  unfold Builtin.«sorted»
  refine wpAny_bind (m := checkCount "sorted" 1 1 _) (wpAny_pure ?_)
  have hl : zs.length ≤ sizeLine := by have := ok.len; rwa [List.length_map] at this
  have fin : ∀ {its : List Value} {h' : Heap}, Vals (zs.map (·.1)) its → (∀ b o, s.heap.get? b = some o → h'.get? b = some o) → wpAny (model X.prog X.w) X.A.in1 (do
      let l ← newList its
      let _ ← holding [l] (call (.builtin "list.sort") [l] [])
      ret l) (fun f s' => ∃ v, f = .done (.ret v) ∧ EP X pins σ Q v s') X.xe { s with heap := h' } := fun {its h'} rv k =>
    sorted_tail (I.kept (t' := s.toks) k) (each_vals rv) hz ok.al ok.sk hl (fun z h => ok.dep _ (List.mem_map.mpr ⟨z, h, rfl⟩)) fun p hp => by
      have hs : ∀ z ∈ zs.mergeSort (dataLe false (fun z => z.2)), z ∈ zs := fun z h => (List.mergeSort_perm zs _).mem_iff.mp h
      refine q p _ hp ?_ fun w hw => ?_
      · rw [← sort_snd]
        exact dqa_of fun z h => hz z (hs z h)
      · obtain ⟨z, h, rfl⟩ := List.mem_map.mp hw
        exact List.mem_map.mpr ⟨z, hs z h, rfl⟩
  rcases ha with ha | ha
  · obtain ⟨its, rv, ⟨o, n, ho, hc, _, hdt⟩, _⟩ := I.list (SqL.of (K := X.K) ha)
    have hsz : its.toArray.size ≤ sizeLine := by rw [List.size_toArray, ← rv.length, List.length_map]; exact hl
    exact wpAny_bind (wpAny_collect_seq a (.inl rfl) ho hc hdt (fun h' k => fin rv k) hsz)
  · obtain ⟨its, rv, ⟨o, ho, hc, n, hdt⟩, _⟩ := I.tuple (SqT.of (K := X.K) ha)
    have hsz : its.toArray.size ≤ sizeLine := by rw [List.size_toArray, ← rv.length, List.length_map]; exact hl
    exact wpAny_bind (wpAny_collect_seq a (.inr rfl) ho hc hdt (fun h' k => fin rv k) hsz)
/-- sorted(d), d a dict with tuples of data as keys -/
def keyD : Key → PyData
  | .inl i => .int i
  | .inr x => .str x
theorem keyD_dq {H : Hp} : ∀ k : Key, Dq H (kV k) (keyD k)
  | .inl i => .int i
  | .inr x => .str x
theorem keysD_dq {H : Hp} : ∀ ks : List Key, DqA H (ks.map kV) (ks.map keyD)
  | [] => .nil
  | k :: ks => .cons (keyD_dq k) (keysD_dq ks)
theorem isKeys_dq {H : Hp} {kvs : List (List Key × V)} {bs : List Addr} (h : IsKeys H kvs bs) : DqA H (bs.map V.ref) (kvs.map fun p => .tuple (p.1.map keyD)) := by
  unfold IsKeys at h
  induction h with
  | nil => exact .nil
  | cons h t ih => exact .cons (.tup h (keysD_dq _)) ih
def rSrtK (X : Cx) : List V → Hp → VK → Prop := fun xs H Q => ∃ (a : Addr) (kvs : List (List Key × V)), xs = [.ref a] ∧ Rd H a (.dT kvs) ∧ SrtOk X (kvs.map fun p => .tuple (p.1.map keyD)) ∧
  ∀ p ws, H p = none → DqA H ws ((kvs.map fun p => .tuple (p.1.map keyD)).mergeSort leD) → Q (.ref p) (upd H p (.lst ws))
theorem cr_srtK (hc : X.calm = true) : CallR X (.builtin "sorted") (rSrtK X) := by
  intro pins s σ H xs us Q I r ⟨a, kvs, ex, hd, ok, q⟩
  subst ex
  obtain ⟨u, rfl, rx⟩ := vals1 r
  cases rx
  obtain ⟨z, hs, ks, pr, o, es, ep, ho, hx, hdt, he, hn⟩ := (show ObjOk X.prog X.w H s.heap a (.dT kvs) from hd.ok I.hok)
  have l1 : es.size = ks.length := size_of_entries he
  have l2 : kvs.length = ks.length := Paired.length pr
  refine Calls.call_function_entry PyProof.Rows.kind_sorted PyProof.Rows.plain_sorted PyProof.Rows.entry_sorted (PyProof.Rows.args_sorted1 _) ?_
  unfold Builtin.«sorted»
  refine wpAny_bind (m := checkCount "sorted" 1 1 _) (wpAny_pure ?_)
  refine wpAny_bind (PySem.W.kdu_collect (A := X.A.in1) (kdl_raw hs hx hdt) (I.ok.hd hc) ho (by omega) fun h' tk acc kp it => ?_)
  have ea : acc.toList = ks.map fun x => Value.ref x.2.1 := by
    have hl : acc.toList.length = ks.length := by rw [Array.length_toList, it.1]; exact l1
    apply List.ext_getElem?
    intro j
    rw [List.getElem?_map]
    cases hj : acc.toList[j]? with
    | none =>
      rw [List.getElem?_eq_none (by have := List.getElem?_eq_none_iff.mp hj; omega)]
      rfl
    | some v =>
      obtain ⟨en, hen, hv⟩ := it.2 j v (by rw [← Array.getElem?_toList]; exact hj)
      have qe := entry_at he j
      rw [hen] at qe
      cases hb : ks[j]? with
      | none => rw [hb] at qe; exact nomatch (show some en = none from qe)
      | some b =>
        rw [hb] at qe
        have e2 : en = entryOfKey (tupleKind (mixKind X.prog X.w)) b := Option.some.inj qe
        rw [hv, e2]
        rfl
  have hk := isKeys_dq (isKeys_of pr)
  obtain ⟨zs, e1, e2, hz⟩ := dqa_zip hk
  have rv : Vals (zs.map (·.1)) acc.toList := by
    rw [e1, ea, List.map_map]
    have e := vals_refs (ks.map fun x => x.2.1)
    rw [List.map_map, List.map_map] at e
    exact e
  rw [← e2] at ok q
  have hl : zs.length ≤ sizeLine := by have := ok.len; rwa [List.length_map] at this
  exact sorted_tail (I.kept (t' := tk) kp) (each_vals rv) hz ok.al ok.sk hl (fun z h => ok.dep _ (List.mem_map.mpr ⟨z, h, rfl⟩)) fun p hp => by
    have hs : ∀ z ∈ zs.mergeSort (dataLe false (fun z => z.2)), z ∈ zs := fun z h => (List.mergeSort_perm zs _).mem_iff.mp h
    refine q p _ hp ?_
    rw [← sort_snd]
    exact dqa_of fun z h => hz z (hs z h)
end
/-- tuples of numbers and texts that stand are read, too -/
theorem Ext.keysIn {H : Hp} : ∀ {ws : List V} {kss : List (List Key)} {H0 : Hp}, Same H0 H → DqA H ws (kss.map fun ks => .tuple (ks.map keyD)) → ∃ H0', Ext H0 H H0' H ∧ DqA H0' ws (kss.map fun ks => .tuple (ks.map keyD))
  | [], [], H0, s, _ => ⟨H0, .refl s, .nil⟩
  | [], _ :: _, _, _, h => by cases h
  | _ :: _, [], _, _, h => by cases h
  | w :: ws, ks :: kss, H0, s, h => by
    cases h with
    | cons h r =>
      cases h with
      | tup ht rt =>
        obtain ⟨H1, x1, e1⟩ := Ext.tupIn s ht
        obtain ⟨H2, x2, e2⟩ := Ext.keysIn x1.sub r
        refine ⟨H2, x1.trans x2, .cons (.tup (x2.s0 _ _ e1) ?_) e2⟩
        exact keys_flat ks rt
where
  keys_flat {H H' : Hp} : ∀ {xs : List V} (ks : List Key), DqA H xs (ks.map keyD) → DqA H' xs (ks.map keyD)
    | _, [], h => by cases h; exact .nil
    | _, .inl i :: ks, h => by
      cases h with
      | cons h r => cases h; exact .cons (.int i) (keys_flat ks r)
    | _, .inr x :: ks, h => by
      cases h with
      | cons h r => cases h; exact .cons (.str x) (keys_flat ks r)
end Hf

/-! ## HfE -/
set_option Elab.async false
set_option linter.all false
set_option maxRecDepth 100000
set_option maxHeartbeats 1000000
/-! Promises, calls, built-ins over data. -/
namespace Hf
open L2 PySem PySem.Spec PyProof.Rows
open PySem.W (Datum DatumOrd Tup EachIs AllAlike Sortable dataLe)

/-- a value of a Lean type as data -/
abbrev D {α : Type} [DecidableEq α] [Datum α] (x : α) : PyData := Datum.toD x

/-! ### promises -/
/-- data in, data out: R ds d says that d is given for ds -/
def spP (R : List PyData → PyData → Prop) : Sp := fun vs H Q _ => ∃ H0 ds d, Same H0 H ∧ DqA H0 vs ds ∧ R ds d ∧ Ret H0 H d Q
abbrev Fn (P : Program) (w : World) (K : PySem.W.Frag) (mg : Str → Option Value) (base : Heap) (k : Nat) (f : Addr) (fd : FuncData) (ps : List Str) (R : List PyData → PyData → Prop) : Prop := FnOk P w K mg base CX0 k f fd ps (spP R)
/-- the slots at the start -/
def begS (N : List Str) (ds : List PyData) : List SV := ds.map SV.dat ++ List.replicate (N.length - ds.length) .no
theorem env_no {H : Hp} : ∀ n : Nat, EnvD H (List.replicate n .no) (List.replicate n none)
  | 0 => trivial
  | n + 1 => ⟨trivial, env_no n⟩
theorem env_beg {H : Hp} {n : Nat} : ∀ {vs : List V} {ds : List PyData}, DqA H vs ds → EnvD H (ds.map SV.dat ++ List.replicate n .no) (vs.map some ++ List.replicate n none)
  | [], _, h => by cases h; exact env_no n
  | _ :: _, _, h => by cases h with | cons h r => exact ⟨⟨_, rfl, h⟩, env_beg r⟩
section
variable {P : Program} {w : World} {K : PySem.W.Frag} {mg : Str → Option Value} {base : Heap}
/-- THE RULE for a def over data: its body, for each data that it may be given -/
theorem fn_ok {x qual : Str} {st : Stmt} {f : Addr} {fd : FuncData} {N ps : List Str} {k : Nat} {R : List PyData → PyData → Prop} (F : Fun K x qual st f fd) (S : FnScope N ps (defScope st)) (hl : ∀ ds d, R ds d → ds.length = ps.length)
    (h : ∀ (X : Cx), (∃ cdv A outer s H E, X = (cxOf CX0 P w K mg base N qual (defScope st) f cdv A outer s H E).nox ∧ Room k (A.deeper (envOfC qual (defScope st) s.heap.objs.size f cdv))) → ∀ ds d, R ds d → PB X (begS N ds) emp (defBody st) d) :
    Fn P w K mg base (k + 1) f fd ps R := by
  refine F.ok S (fun vs H Q E ⟨H0, ds, d, s, dv, r, q⟩ => dv.length.trans (hl ds d r)) fun cdv A outer s H vs Q E hr ⟨H0, ds, d, sm, dv, r, q⟩ => ?_
  refine ⟨tB (begS N ds) emp d, h _ ⟨cdv, A, outer, s, H, E, rfl, hr⟩ ds d r, H0, H, H0, .refl sm, ?_, trivial, fun v H0' H' x dq => q v H0' H' x dq⟩
  unfold L2.start begS
  rw [dv.length]
  exact env_beg dv
end
section
variable {X : Cx} {ρ : List SV} {d : PyData} {ds : List PyData} {e e2 : Expr} {es : List Expr} {p pos : Pos}
/-- a call of a def over data -/
theorem pd_call {k : Nat} {f : Addr} {fd : FuncData} {ps : List Str} {R : List PyData → PyData → Prop} {x : Str} (F : Fn X.prog X.w X.K X.mg X.base k f fd ps R) (hr : Room k X.A) (hm : X.mg x = some (.ref f)) (hk : PySem.W.keepIn X.K (.ref f) = true) (hb : Binds X.K fd ps [])
    (ha : PDA X ρ (e :: es) ds) (h : R ds d) (hg : Gl X x := by rfl) (hdb : (x == ("__debug__" : Str)) = false := by decide) (he : starEach (e :: es) X.env = (false, eval e X.env) :: starEach es X.env := by rfl) (hpl : (backTo pos (starEach es X.env)).any (·.1) = false := by rfl) :
    PD X ρ (.Call (.Name x p) (e :: es) [] pos) d :=
  pe_imp (pe_call F hr hg hm hk hb .nil pass0 ha hdb he hpl) fun σ H Q ⟨H0, s, ev, q⟩ => ⟨H0, s, ev, fun vs H1 H' y dv => by
    show spP R (vs ++ []) H' Q E0
    rw [List.append_nil]
    exact ⟨H1, ds, d, y.sub, dv, h, fun v H2 H'' z dq => q v H2 H'' (y.trans z) dq⟩⟩
theorem pd_call0 {k : Nat} {f : Addr} {fd : FuncData} {ps : List Str} {R : List PyData → PyData → Prop} {x : Str} (F : Fn X.prog X.w X.K X.mg X.base k f fd ps R) (hr : Room k X.A) (hm : X.mg x = some (.ref f)) (hk : PySem.W.keepIn X.K (.ref f) = true) (hb : Binds X.K fd ps [])
    (h : R [] d) (hg : Gl X x := by rfl) (hdb : (x == ("__debug__" : Str)) = false := by decide) : PD X ρ (.Call (.Name x p) [] [] pos) d :=
  pe_imp (pe_call0 F hr hg hm hk hb .nil pass0 hdb) fun σ H Q ⟨H0, s, ev, q⟩ => ⟨H0, [], d, s, .nil, h, q⟩
/-- a built-in function, a built-in class -/
theorem pd_callB {x : Str} {id : String} {r : List V → Hp → VK → Prop} (hc : CallR X (.builtin id) r) (hm : X.mg x = none) (hv : bootBuiltins x = some (.builtin id)) (ha : PDA X ρ (e :: es) ds) (k : ∀ vs H0 H Q, Same H0 H → DqA H0 vs ds → Ret H0 H d Q → r vs H Q)
    (hg : Gl X x := by rfl) (hn : x ≠ "__name__" := by decide) (hdb : (x == ("__debug__" : Str)) = false := by decide) (he : starEach (e :: es) X.env = (false, eval e X.env) :: starEach es X.env := by rfl) (hpl : (backTo pos (starEach es X.env)).any (·.1) = false := by rfl) :
    PD X ρ (.Call (.Name x p) (e :: es) [] pos) d :=
  pe_imp (pe_callB hc hg hm hv ha hn hdb he hpl) fun σ H Q ⟨H0, s, ev, q⟩ => ⟨H0, s, ev, fun vs H1 H' y dv => k vs H1 H' Q y.sub dv fun v H2 H'' z dq => q v H2 H'' (y.trans z) dq⟩
theorem pd_callTy {x : Str} {T : String} {r : List V → Hp → VK → Prop} (hc : CallR X (.type T) r) (hm : X.mg x = none) (hv : bootBuiltins x = some (.type T)) (ha : PDA X ρ (e :: es) ds) (k : ∀ vs H0 H Q, Same H0 H → DqA H0 vs ds → Ret H0 H d Q → r vs H Q)
    (hg : Gl X x := by rfl) (hn : x ≠ "__name__" := by decide) (hdb : (x == ("__debug__" : Str)) = false := by decide) (he : starEach (e :: es) X.env = (false, eval e X.env) :: starEach es X.env := by rfl) (hpl : (backTo pos (starEach es X.env)).any (·.1) = false := by rfl) :
    PD X ρ (.Call (.Name x p) (e :: es) [] pos) d :=
  pe_imp (pe_callTy hc hg hm hv ha hn hdb he hpl) fun σ H Q ⟨H0, s, ev, q⟩ => ⟨H0, s, ev, fun vs H1 H' y dv => k vs H1 H' Q y.sub dv fun v H2 H'' z dq => q v H2 H'' (y.trans z) dq⟩
end
theorem boot_tuple : bootBuiltins "tuple" = some (.type "tuple") := by decide +kernel
theorem boot_list' : bootBuiltins "list" = some (.type "list") := by decide +kernel
theorem boot_int' : bootBuiltins "int" = some (.type "int") := by decide +kernel
theorem boot_bool' : bootBuiltins "bool" = some (.type "bool") := by decide +kernel
theorem boot_str' : bootBuiltins "str" = some (.type "str") := by decide +kernel
theorem boot_dict' : bootBuiltins "dict" = some (.type "dict") := by decide +kernel
theorem boot_set' : bootBuiltins "set" = some (.type "set") := by decide +kernel
theorem boot_len' : bootBuiltins "len" = some (.builtin "len") := by decide +kernel
theorem boot_abs' : bootBuiltins "abs" = some (.builtin "abs") := by decide +kernel
theorem boot_any' : bootBuiltins "any" = some (.builtin "any") := by decide +kernel
theorem boot_all' : bootBuiltins "all" = some (.builtin "all") := by decide +kernel
theorem boot_min' : bootBuiltins "min" = some (.builtin "min") := by decide +kernel
theorem boot_max' : bootBuiltins "max" = some (.builtin "max") := by decide +kernel
theorem boot_sorted' : bootBuiltins "sorted" = some (.builtin "sorted") := by decide +kernel
theorem boot_isi : bootBuiltins "isinstance" = some (.builtin "isinstance") := by decide +kernel
theorem boot_ValErr : bootBuiltins "ValueError" = some (.type "ValueError") := by decide +kernel

section
variable {X : Cx} {ρ : List SV} {d : PyData} {ds es : List PyData} {e e2 : Expr} {p pos : Pos}
theorem one_dq {H : Hp} {vs : List V} {d : PyData} (h : DqA H vs [d]) : ∃ v, vs = [v] ∧ Dq H v d := by
  cases h with | cons h r => cases r; exact ⟨_, rfl, h⟩
theorem two_dq {H : Hp} {vs : List V} {d e : PyData} (h : DqA H vs [d, e]) : ∃ v u, vs = [v, u] ∧ Dq H v d ∧ Dq H u e := by
  cases h with | cons h r => cases r with | cons h' r => cases r; exact ⟨_, _, rfl, h, h'⟩
theorem pd_lenT (hm : X.mg "len" = none) (h : PDA X ρ [e] [.tuple ds]) (hs : starEach [e] X.env = (false, eval e X.env) :: starEach [] X.env := by rfl) (hpl : (backTo pos (starEach [] X.env)).any (·.1) = false := by rfl) (hg : Gl X "len" := by rfl) : PD X ρ (.Call (.Name "len" p) [e] [] pos) (.int ds.length) :=
  pd_callB (hg := hg) (he := hs) (hpl := hpl) call_len_seq hm boot_len' h fun vs H0 H Q s dv q => by
    obtain ⟨v, rfl, dq⟩ := one_dq dv
    cases dq with
    | tup ht r => exact ⟨_, _, rfl, .inr (SqT.of (s _ _ ht)), q _ _ _ (.refl s) (by rw [r.length]; exact .int _)⟩
theorem pd_lenL (hm : X.mg "len" = none) (h : PDA X ρ [e] [.list ds]) (hs : starEach [e] X.env = (false, eval e X.env) :: starEach [] X.env := by rfl) (hpl : (backTo pos (starEach [] X.env)).any (·.1) = false := by rfl) (hg : Gl X "len" := by rfl) : PD X ρ (.Call (.Name "len" p) [e] [] pos) (.int ds.length) :=
  pd_callB (hg := hg) (he := hs) (hpl := hpl) call_len_seq hm boot_len' h fun vs H0 H Q s dv q => by
    obtain ⟨v, rfl, dq⟩ := one_dq dv
    cases dq with
    | lst ht r => exact ⟨_, _, rfl, .inl (SqL.of (s _ _ ht)), q _ _ _ (.refl s) (by rw [r.length]; exact .int _)⟩
theorem pd_tupleL (hm : X.mg "tuple" = none) (h : PDA X ρ [e] [.list ds]) (hs : starEach [e] X.env = (false, eval e X.env) :: starEach [] X.env := by rfl) (hpl : (backTo pos (starEach [] X.env)).any (·.1) = false := by rfl) (hg : Gl X "tuple" := by rfl) : PD X ρ (.Call (.Name "tuple" p) [e] [] pos) (.tuple ds) :=
  pd_callTy (hg := hg) (he := hs) (hpl := hpl) call_tuple_of hm boot_tuple h fun vs H0 H Q s dv q => by
    obtain ⟨v, rfl, dq⟩ := one_dq dv
    cases dq with
    | lst ht r => exact ⟨_, _, rfl, .inl ⟨SqL.of (s _ _ ht), fun l hl => q _ _ _ (.new s hl _) (.tup upd_same (r.at (same_new (s.free hl) _)))⟩⟩
theorem pd_tupleT (hm : X.mg "tuple" = none) (h : PDA X ρ [e] [.tuple ds]) (hs : starEach [e] X.env = (false, eval e X.env) :: starEach [] X.env := by rfl) (hpl : (backTo pos (starEach [] X.env)).any (·.1) = false := by rfl) (hg : Gl X "tuple" := by rfl) : PD X ρ (.Call (.Name "tuple" p) [e] [] pos) (.tuple ds) :=
  pd_callTy (hg := hg) (he := hs) (hpl := hpl) call_tuple_of hm boot_tuple h fun vs H0 H Q s dv q => by
    obtain ⟨v, rfl, dq⟩ := one_dq dv
    cases dq with
    | tup ht r => exact ⟨_, _, rfl, .inr ⟨SqT.of (s _ _ ht), q _ _ _ (.refl s) (.tup ht r)⟩⟩
theorem pd_listL (hm : X.mg "list" = none) (h : PDA X ρ [e] [.list ds]) (hs : starEach [e] X.env = (false, eval e X.env) :: starEach [] X.env := by rfl) (hpl : (backTo pos (starEach [] X.env)).any (·.1) = false := by rfl) (hg : Gl X "list" := by rfl) : PD X ρ (.Call (.Name "list" p) [e] [] pos) (.list ds) :=
  pd_callTy (hg := hg) (he := hs) (hpl := hpl) call_list_of hm boot_list' h fun vs H0 H Q s dv q => by
    obtain ⟨v, rfl, dq⟩ := one_dq dv
    cases dq with
    | lst ht r => exact ⟨_, _, rfl, .inl (SqL.of (s _ _ ht)), fun l hl => q _ _ _ (.new s hl _) (.lst upd_same (r.at (same_new (s.free hl) _)))⟩
theorem pd_listT (hm : X.mg "list" = none) (h : PDA X ρ [e] [.tuple ds]) (hs : starEach [e] X.env = (false, eval e X.env) :: starEach [] X.env := by rfl) (hpl : (backTo pos (starEach [] X.env)).any (·.1) = false := by rfl) (hg : Gl X "list" := by rfl) : PD X ρ (.Call (.Name "list" p) [e] [] pos) (.list ds) :=
  pd_callTy (hg := hg) (he := hs) (hpl := hpl) call_list_of hm boot_list' h fun vs H0 H Q s dv q => by
    obtain ⟨v, rfl, dq⟩ := one_dq dv
    cases dq with
    | tup ht r => exact ⟨_, _, rfl, .inr (SqT.of (s _ _ ht)), fun l hl => q _ _ _ (.new s hl _) (.lst upd_same (r.at (same_new (s.free hl) _)))⟩
theorem dq_bls {H : Hp} : ∀ {vs : List V} {bs : List Bool}, DqA H vs (bs.map .bool) → vs = bs.map V.bl
  | [], [], _ => rfl
  | _ :: _, b :: bs, h => by cases h with | cons h r => cases h; rw [dq_bls r]; rfl
  | [], _ :: _, h => by cases h
  | _ :: _, [], h => by cases h
theorem pd_all {bs : List Bool} (hc : X.calm = true) (hm : X.mg "all" = none) (h : PDA X ρ [e] [.list (bs.map .bool)]) (hs : starEach [e] X.env = (false, eval e X.env) :: starEach [] X.env := by rfl) (hpl : (backTo pos (starEach [] X.env)).any (·.1) = false := by rfl) (hg : Gl X "all" := by rfl) : PD X ρ (.Call (.Name "all" p) [e] [] pos) (.bool (bs.all id)) :=
  pd_callB (hg := hg) (he := hs) (hpl := hpl) (cr_all hc) hm boot_all' h fun vs H0 H Q s dv q => by
    obtain ⟨v, rfl, dq⟩ := one_dq dv
    cases dq with
    | lst ht r =>
      have e := dq_bls r
      subst e
      exact ⟨_, bs, rfl, SqL.of (s _ _ ht), q _ _ _ (.refl s) (.bl _)⟩
theorem pd_any' {bs : List Bool} (hc : X.calm = true) (hm : X.mg "any" = none) (h : PDA X ρ [e] [.list (bs.map .bool)]) (hs : starEach [e] X.env = (false, eval e X.env) :: starEach [] X.env := by rfl) (hpl : (backTo pos (starEach [] X.env)).any (·.1) = false := by rfl) (hg : Gl X "any" := by rfl) : PD X ρ (.Call (.Name "any" p) [e] [] pos) (.bool (bs.any id)) :=
  pd_callB (hg := hg) (he := hs) (hpl := hpl) (cr_any hc) hm boot_any' h fun vs H0 H Q s dv q => by
    obtain ⟨v, rfl, dq⟩ := one_dq dv
    cases dq with
    | lst ht r =>
      have e := dq_bls r
      subst e
      exact ⟨_, bs, rfl, SqL.of (s _ _ ht), q _ _ _ (.refl s) (.bl _)⟩
theorem pd_abs {i : Int} (hm : X.mg "abs" = none) (h : PDA X ρ [e] [.int i]) (hs : starEach [e] X.env = (false, eval e X.env) :: starEach [] X.env := by rfl) (hpl : (backTo pos (starEach [] X.env)).any (·.1) = false := by rfl) (hg : Gl X "abs" := by rfl) : PD X ρ (.Call (.Name "abs" p) [e] [] pos) (.int (if i < 0 then -i else i)) :=
  pd_callB (hg := hg) (he := hs) (hpl := hpl) call_abs hm boot_abs' h fun vs H0 H Q s dv q => by
    obtain ⟨v, rfl, dq⟩ := one_dq dv
    cases dq
    exact ⟨i, rfl, q _ _ _ (.refl s) (.int _)⟩
theorem pd_intI {i : Int} (hm : X.mg "int" = none) (h : PDA X ρ [e] [.int i]) (hs : starEach [e] X.env = (false, eval e X.env) :: starEach [] X.env := by rfl) (hpl : (backTo pos (starEach [] X.env)).any (·.1) = false := by rfl) (hg : Gl X "int" := by rfl) : PD X ρ (.Call (.Name "int" p) [e] [] pos) (.int i) :=
  pd_callTy (hg := hg) (he := hs) (hpl := hpl) call_int1 hm boot_int' h fun vs H0 H Q s dv q => by
    obtain ⟨v, rfl, dq⟩ := one_dq dv
    cases dq
    exact .inl ⟨i, rfl, q _ _ _ (.refl s) (.int _)⟩
theorem pd_intB {b : Bool} (hm : X.mg "int" = none) (h : PDA X ρ [e] [.bool b]) (hs : starEach [e] X.env = (false, eval e X.env) :: starEach [] X.env := by rfl) (hpl : (backTo pos (starEach [] X.env)).any (·.1) = false := by rfl) (hg : Gl X "int" := by rfl) : PD X ρ (.Call (.Name "int" p) [e] [] pos) (.int (if b then 1 else 0)) :=
  pd_callTy (hg := hg) (he := hs) (hpl := hpl) call_int1 hm boot_int' h fun vs H0 H Q s dv q => by
    obtain ⟨v, rfl, dq⟩ := one_dq dv
    cases dq
    exact .inr ⟨b, rfl, q _ _ _ (.refl s) (.int _)⟩
theorem pd_max2 {i j : Int} (hc : X.calm = true) (hm : X.mg "max" = none) (h : PDA X ρ [e, e2] [.int i, .int j]) (hs : starEach [e, e2] X.env = (false, eval e X.env) :: starEach [e2] X.env := by rfl) (hpl : (backTo pos (starEach [e2] X.env)).any (·.1) = false := by rfl) (hg : Gl X "max" := by rfl) : PD X ρ (.Call (.Name "max" p) [e, e2] [] pos) (.int (if j > i then j else i)) :=
  pd_callB (hg := hg) (he := hs) (hpl := hpl) (call_max2 hc) hm boot_max' h fun vs H0 H Q s dv q => by
    obtain ⟨v, u, rfl, dq, du⟩ := two_dq dv
    cases dq; cases du
    exact ⟨i, j, rfl, q _ _ _ (.refl s) (.int _)⟩
/-- sorted of a list, of a tuple -/
theorem pd_sortL (hm : X.mg "sorted" = none) (h : PDA X ρ [e] [.list ds]) (ok : SrtOk X ds) (hs : starEach [e] X.env = (false, eval e X.env) :: starEach [] X.env := by rfl) (hpl : (backTo pos (starEach [] X.env)).any (·.1) = false := by rfl) (hg : Gl X "sorted" := by rfl) : PD X ρ (.Call (.Name "sorted" p) [e] [] pos) (.list (ds.mergeSort leD)) :=
  pd_callB (hg := hg) (he := hs) (hpl := hpl) cr_srt hm boot_sorted' h fun vs H0 H Q s dv q => by
    obtain ⟨v, rfl, dq⟩ := one_dq dv
    cases dq with
    | lst ht r =>
      obtain ⟨zs, e1, e2, hz⟩ := dqa_zip r
      subst e1 e2
      refine ⟨_, _, _, rfl, .inl (s _ _ ht), r.at s, ok, fun l ws hl dw mem => ?_⟩
      -- the sorted values are values of H0
      refine q _ _ _ (.new s hl (.lst ws)) (.lst upd_same ?_)
      refine DqA.at ?_ (same_new (s.free hl) _)
      exact dqa_back s dw fun w hw => by
        obtain ⟨z, h1, h2⟩ := List.mem_map.mp (mem w hw)
        exact ⟨z.2, h2 ▸ hz z h1⟩
where
  dqa_back {H0 H : Hp} (s : Same H0 H) : ∀ {ws : List V} {ds : List PyData}, DqA H ws ds → (∀ w ∈ ws, ∃ d, Dq H0 w d) → DqA H0 ws ds
    | [], _, h, _ => by cases h; exact .nil
    | w :: ws, _, h, k => by
      cases h with
      | cons h r =>
        obtain ⟨d', h'⟩ := k w (List.mem_cons_self ..)
        refine .cons ?_ (dqa_back s r fun u hu => k u (List.mem_cons_of_mem _ hu))
        have e := dq_fun _ _ _ h (h'.at s)
        rw [e]
        exact h'
  dq_fun {H : Hp} : ∀ (d d' : PyData) (v : V), Dq H v d → Dq H v d' → d = d'
    | .none, _, _, h, g => by cases h; cases g; rfl
    | .bool _, _, _, h, g => by cases h; cases g; rfl
    | .int _, _, _, h, g => by cases h; cases g; rfl
    | .str _, _, _, h, g => by cases h; cases g; rfl
    | .list ds, _, _, h, g => by
      cases h with
      | lst h r =>
        cases g with
        | lst h' r' => rw [h] at h'; cases h'; rw [dqa_fun ds _ _ r r']
        | tup h' r' => rw [h] at h'; cases h'
    | .tuple ds, _, _, h, g => by
      cases h with
      | tup h r =>
        cases g with
        | tup h' r' => rw [h] at h'; cases h'; rw [dqa_fun ds _ _ r r']
        | lst h' r' => rw [h] at h'; cases h'
    | .dict _, _, _, h, _ => by cases h
  dqa_fun {H : Hp} : ∀ (ds ds' : List PyData) (vs : List V), DqA H vs ds → DqA H vs ds' → ds = ds'
    | [], _, _, h, g => by cases h; cases g; rfl
    | d :: ds, _, _, h, g => by
      cases h with
      | cons h r => cases g with | cons h' r' => rw [dq_fun d _ _ h h', dqa_fun ds _ _ r r']
theorem pd_sortT (hm : X.mg "sorted" = none) (h : PDA X ρ [e] [.tuple ds]) (ok : SrtOk X ds) (hs : starEach [e] X.env = (false, eval e X.env) :: starEach [] X.env := by rfl) (hpl : (backTo pos (starEach [] X.env)).any (·.1) = false := by rfl) (hg : Gl X "sorted" := by rfl) : PD X ρ (.Call (.Name "sorted" p) [e] [] pos) (.list (ds.mergeSort leD)) :=
  pd_callB (hg := hg) (he := hs) (hpl := hpl) cr_srt hm boot_sorted' h fun vs H0 H Q s dv q => by
    obtain ⟨v, rfl, dq⟩ := one_dq dv
    cases dq with
    | tup ht r =>
      obtain ⟨zs, e1, e2, hz⟩ := dqa_zip r
      subst e1 e2
      refine ⟨_, _, _, rfl, .inr (s _ _ ht), r.at s, ok, fun l ws hl dw mem => ?_⟩
      refine q _ _ _ (.new s hl (.lst ws)) (.lst upd_same ?_)
      refine DqA.at ?_ (same_new (s.free hl) _)
      exact pd_sortL.dqa_back s dw fun w hw => by
        obtain ⟨z, h1, h2⟩ := List.mem_map.mp (mem w hw)
        exact ⟨z.2, h2 ▸ hz z h1⟩
/-! concatenation, repetition, slices -/
theorem pd_catL {a b : Expr} (ha : PD X ρ a (.list ds)) (hb : PD X ρ b (.list es)) (hz : ds.length + es.length ≤ sizeLine) : PD X ρ (.BinOp a .Add b pos) (.list (ds ++ es)) := pd_op op_cat ha hb fun v u H0 H Q s d1 d2 q => by
  cases d1 with
  | lst h1 r1 =>
    cases d2 with
    | lst h2 r2 => exact ⟨_, _, _, _, rfl, rfl, s _ _ h1, s _ _ h2, by rw [r1.length, r2.length]; exact hz, fun l hl => q _ _ _ (.new s hl _) (.lst upd_same ((r1.append r2).at (same_new (s.free hl) _)))⟩
theorem pd_catT {a b : Expr} (ha : PD X ρ a (.tuple ds)) (hb : PD X ρ b (.tuple es)) (hz : ds.length + es.length ≤ sizeLine) : PD X ρ (.BinOp a .Add b pos) (.tuple (ds ++ es)) := pd_op op_catA ha hb fun v u H0 H Q s d1 d2 q => by
  cases d1 with
  | tup h1 r1 =>
    cases d2 with
    | tup h2 r2 =>
      refine ⟨_, _, _, _, rfl, rfl, SqT.of (s _ _ h1), SqT.of (s _ _ h2), by rw [r1.length, r2.length]; exact hz, fun e => ?_, fun _ e => ?_, fun _ _ l hl => ?_⟩
      · subst e
        cases r1
        exact q _ _ _ (.refl s) (.tup h2 r2)
      · subst e
        cases r2
        rw [List.append_nil] at q
        exact q _ _ _ (.refl s) (.tup h1 r1)
      · exact q _ _ _ (.new s hl _) (.tup upd_same ((r1.append r2).at (same_new (s.free hl) _)))
theorem dqa_rep {H : Hp} {v : V} {d : PyData} (h : Dq H v d) : ∀ n : Nat, DqA H (List.replicate n [v]).flatten (List.replicate n d)
  | 0 => .nil
  | n + 1 => by
    rw [List.replicate_succ, List.replicate_succ, List.flatten_cons]
    exact .cons h (dqa_rep h n)
/-- [x] * k -/
theorem pd_rep {a b : Expr} {k : Nat} (ha : PD X ρ a (.list [d])) (hb : PD X ρ b (.int k)) (hk : k ≤ 1000000) : PD X ρ (.BinOp a .Mult b pos) (.list (List.replicate k d)) := pd_op op_rep ha hb fun v u H0 H Q s d1 d2 q => by
  cases d2
  cases d1 with
  | lst h1 r1 =>
    cases r1 with
    | cons h r =>
      cases r
      refine ⟨_, _, _, rfl, rfl, s _ _ h1, by omega, by omega, ?_, fun l hl => ?_⟩
      · rw [sizeLine_eq]; simp; omega
      · exact q _ _ _ (.new s hl _) (.lst upd_same ((show DqA H0 (List.replicate k [_]).flatten _ from dqa_rep h k).at (same_new (s.free hl) _)))
theorem DqA.drop {H : Hp} : ∀ {vs : List V} {ds : List PyData} (n : Nat), DqA H vs ds → DqA H (vs.drop n) (ds.drop n)
  | _, _, 0, h => h
  | _, _, n + 1, h => by
    cases h with
    | nil => exact .nil
    | cons h r => exact DqA.drop n r
theorem DqA.take {H : Hp} : ∀ {vs : List V} {ds : List PyData} (n : Nat), DqA H vs ds → DqA H (vs.take n) (ds.take n)
  | _, _, 0, _ => .nil
  | _, _, n + 1, h => by
    cases h with
    | nil => exact .nil
    | cons h r => exact .cons h (DqA.take n r)
/-- xs[i:] -/
theorem pd_from {a b : Expr} {p2 : Pos} {k : Nat} (ha : PD X ρ a (.list ds)) (hb : PD X ρ b (.int k)) : PD X ρ (.Subscript a (.Slice (some b) none none p2) pos) (.list (ds.drop k)) :=
  pe_imp (pe_slice sl_list ha (po_some hb) po_none) fun σ H Q ⟨H0, s, ev, q⟩ => ⟨H0, s, ev, fun v H1 H' x d1 => ⟨H1, x.sub, ev.at x.s0, fun u H2 H'' y d2 => by
    cases d2
    cases d1 with
    | lst h1 r1 =>
      refine ⟨_, rfl, _, _, rfl, SqL.of (y.sub _ _ (y.s0 _ _ h1)), fun l hl => ?_⟩
      refine q _ _ _ ((x.trans y).trans (.new y.sub hl _)) (.lst upd_same ?_)
      have e : ∀ zs : List V, cutV zs (some (k : Int)) none = zs.drop k := fun zs => by
        unfold cutV
        rw [HT.sIx_nat, HT.sIx_none]
        rcases Nat.le_total k zs.length with h | h
        · rw [Nat.min_eq_left h]
          exact List.take_of_length_le (by rw [List.length_drop]; exact Nat.le_refl _)
        · rw [Nat.min_eq_right h, List.drop_eq_nil_of_le h, List.drop_eq_nil_of_le (Nat.le_refl _)]
          exact List.take_nil
      rw [e]
      exact ((r1.drop k).at y.s0).at (same_new (y.sub.free hl) _)⟩⟩
/-! == and in, of one Lean type -/
theorem dq_holds {α : Type} [DecidableEq α] [Datum α] {pins : List (Addr × Obj)} {σ : L2.St} {H : Hp} {s : Shared} {v : V} {u : Value} {x : α} (I : Inv X pins σ H s) (h : Dq H v (D x)) (r : RelV v u) : PySem.W.Holds s.heap u x := Dp.reads I _ v u (Dq.dp _ _ h) r
def rEqT (α : Type) [DecidableEq α] [Datum α] : R2 := fun v u H Q => ∃ x y : α, Dq H v (D x) ∧ Dq H u (D y) ∧ Q (.bl (decide (x = y))) H
def rNeT (α : Type) [DecidableEq α] [Datum α] : R2 := fun v u H Q => ∃ x y : α, Dq H v (D x) ∧ Dq H u (D y) ∧ Q (.bl (decide (x ≠ y))) H
theorem op_eqT {α : Type} [DecidableEq α] [Datum α] (hu : X.A.units + Datum.depth α < cLine) : OpR X (compareOp .Eq) (rEqT α) := by
  intro pins s σ H x y v u Q I rx ry ⟨a, b, h1, h2, q⟩
  exact PySem.W.eq_datum (dq_holds I h1 rx) (dq_holds I h2 ry) hu ⟨.bl _, H, I, rfl, q⟩
theorem op_neT {α : Type} [DecidableEq α] [Datum α] (hu : X.A.units + Datum.depth α < cLine) : OpR X (compareOp .NotEq) (rNeT α) := by
  intro pins s σ H x y v u Q I rx ry ⟨a, b, h1, h2, q⟩
  exact PySem.W.ne_datum (dq_holds I h1 rx) (dq_holds I h2 ry) hu ⟨.bl _, H, I, rfl, q⟩
theorem pd_eq {α : Type} [DecidableEq α] [Datum α] {a b : Expr} {x y : α} (hu : X.A.units + Datum.depth α < cLine) (ha : PD X ρ a (D x)) (hb : PD X ρ b (D y)) : PD X ρ (.Compare a [.Eq] [b] pos) (.bool (decide (x = y))) :=
  pd_cmp (op_eqT hu) ha hb (nomark _) fun v u H0 H Q s d1 d2 q => ⟨x, y, d1.at s, d2.at s, q _ _ _ (.refl s) (.bl _)⟩
theorem pdt_eq {α : Type} [DecidableEq α] [Datum α] {a b : Expr} {x y : α} (hu : X.A.units + Datum.depth α < cLine) (ha : PD X ρ a (D x)) (hb : PD X ρ b (D y)) : PDT X ρ (.Compare a [.Eq] [b] pos) (decide (x = y)) :=
  pdt_cmp (op_eqT hu) ha hb (nomark _) fun v u H0 H Q s d1 d2 q => ⟨x, y, d1.at s, d2.at s, q _ _ _ (.refl s) (.bl _)⟩
theorem pd_ne {α : Type} [DecidableEq α] [Datum α] {a b : Expr} {x y : α} (hu : X.A.units + Datum.depth α < cLine) (ha : PD X ρ a (D x)) (hb : PD X ρ b (D y)) : PD X ρ (.Compare a [.NotEq] [b] pos) (.bool (decide (x ≠ y))) :=
  pd_cmp (op_neT hu) ha hb (nomark _) fun v u H0 H Q s d1 d2 q => ⟨x, y, d1.at s, d2.at s, q _ _ _ (.refl s) (.bl _)⟩
theorem pdt_ne {α : Type} [DecidableEq α] [Datum α] {a b : Expr} {x y : α} (hu : X.A.units + Datum.depth α < cLine) (ha : PD X ρ a (D x)) (hb : PD X ρ b (D y)) : PDT X ρ (.Compare a [.NotEq] [b] pos) (decide (x ≠ y)) :=
  pdt_cmp (op_neT hu) ha hb (nomark _) fun v u H0 H Q s d1 d2 q => ⟨x, y, d1.at s, d2.at s, q _ _ _ (.refl s) (.bl _)⟩
def rInT (neg : Bool) (α : Type) [DecidableEq α] [Datum α] : R2 := fun v u H Q => ∃ (x : α) (xs : List α), Dq H v (D x) ∧ (Dq H u (.tuple (xs.map D)) ∨ Dq H u (.list (xs.map D))) ∧ Q (.bl (if neg then decide (x ∉ xs) else decide (x ∈ xs))) H
theorem seq_reads {H : Hp} {pins : List (Addr × Obj)} {σ : L2.St} {s : Shared} {u : V} {v : Value} {d : PyData} (I : Inv X pins σ H s) (h : Dq H u d) (r : RelV u v) : ∃ as, Reads s.heap v d as := Dp.reads I _ _ _ (Dq.dp _ _ h) r
theorem op_inT {α : Type} [DecidableEq α] [Datum α] (hu : X.A.units + 1 + Datum.depth α < cLine) : OpR X (compareOp .In) (rInT false α) := by
  intro pins s σ H x y v u Q I rx ry ⟨a, as, h1, h2, q⟩
  have hx := dq_holds I h1 rx
  rcases h2 with h2 | h2
  · obtain ⟨ad, r⟩ := seq_reads I h2 ry
    cases r with
    | tuple ho hc hd hr => exact PySem.W.in_tuple_datum ⟨_, ho, hc, _, hd⟩ ⟨_, hr⟩ hx hu ⟨.bl _, H, I, rfl, q⟩
  · obtain ⟨ad, r⟩ := seq_reads I h2 ry
    cases r with
    | list ho hc hd hr => exact PySem.W.in_list_datum ⟨_, ho, hc, _, hd⟩ ⟨_, hr⟩ hx hu ⟨.bl _, H, I, rfl, q⟩
theorem op_notInT {α : Type} [DecidableEq α] [Datum α] (hu : X.A.units + 1 + Datum.depth α < cLine) : OpR X (compareOp .NotIn) (rInT true α) := by
  intro pins s σ H x y v u Q I rx ry ⟨a, as, h1, h2, q⟩
  have hx := dq_holds I h1 rx
  rcases h2 with h2 | h2
  · obtain ⟨ad, r⟩ := seq_reads I h2 ry
    cases r with
    | tuple ho hc hd hr => exact PySem.W.notIn_tuple_datum ⟨_, ho, hc, _, hd⟩ ⟨_, hr⟩ hx hu ⟨.bl _, H, I, rfl, q⟩
  · obtain ⟨ad, r⟩ := seq_reads I h2 ry
    cases r with
    | list ho hc hd hr => exact PySem.W.notIn_list_datum ⟨_, ho, hc, _, hd⟩ ⟨_, hr⟩ hx hu ⟨.bl _, H, I, rfl, q⟩
section
variable {α : Type} [DecidableEq α] [Datum α] {a b : Expr} {x : α} {xs : List α}
theorem pd_inT (hu : X.A.units + 1 + Datum.depth α < cLine) (ha : PD X ρ a (D x)) (hb : PD X ρ b (.tuple (xs.map D))) (hm : behindInMarks .In b = false := by rfl) : PD X ρ (.Compare a [.In] [b] pos) (.bool (decide (x ∈ xs))) :=
  pd_cmp (op_inT hu) ha hb hm fun v u H0 H Q s d1 d2 q => ⟨x, xs, d1.at s, .inl (d2.at s), q _ _ _ (.refl s) (.bl _)⟩
theorem pdt_inT (hu : X.A.units + 1 + Datum.depth α < cLine) (ha : PD X ρ a (D x)) (hb : PD X ρ b (.tuple (xs.map D))) (hm : behindInMarks .In b = false := by rfl) : PDT X ρ (.Compare a [.In] [b] pos) (decide (x ∈ xs)) :=
  pdt_cmp (op_inT hu) ha hb hm fun v u H0 H Q s d1 d2 q => ⟨x, xs, d1.at s, .inl (d2.at s), q _ _ _ (.refl s) (.bl _)⟩
theorem pdt_inL (hu : X.A.units + 1 + Datum.depth α < cLine) (ha : PD X ρ a (D x)) (hb : PD X ρ b (.list (xs.map D))) (hm : behindInMarks .In b = false := by rfl) : PDT X ρ (.Compare a [.In] [b] pos) (decide (x ∈ xs)) :=
  pdt_cmp (op_inT hu) ha hb hm fun v u H0 H Q s d1 d2 q => ⟨x, xs, d1.at s, .inr (d2.at s), q _ _ _ (.refl s) (.bl _)⟩
theorem pdt_notInT (hu : X.A.units + 1 + Datum.depth α < cLine) (ha : PD X ρ a (D x)) (hb : PD X ρ b (.tuple (xs.map D))) (hm : behindInMarks .NotIn b = false := by rfl) : PDT X ρ (.Compare a [.NotIn] [b] pos) (decide (x ∉ xs)) :=
  pdt_cmp (op_notInT hu) ha hb hm fun v u H0 H Q s d1 d2 q => ⟨x, xs, d1.at s, .inl (d2.at s), q _ _ _ (.refl s) (.bl _)⟩
theorem pdt_notInL (hu : X.A.units + 1 + Datum.depth α < cLine) (ha : PD X ρ a (D x)) (hb : PD X ρ b (.list (xs.map D))) (hm : behindInMarks .NotIn b = false := by rfl) : PDT X ρ (.Compare a [.NotIn] [b] pos) (decide (x ∉ xs)) :=
  pdt_cmp (op_notInT hu) ha hb hm fun v u H0 H Q s d1 d2 q => ⟨x, xs, d1.at s, .inr (d2.at s), q _ _ _ (.refl s) (.bl _)⟩
end
/-! isinstance -/
def tyN : PyData → String
  | .none => "NoneType"
  | .bool _ => "bool"
  | .int _ => "int"
  | .str _ => "str"
  | .list _ => "list"
  | .tuple _ => "tuple"
  | .dict _ => "dict"
theorem dq_ty {K : PySem.W.Frag} {H : Hp} {v : V} {d : PyData} (h : Dq H v d) : TyX K H v (.type (tyN d)) := by
  cases h with
  | non => exact .base .non
  | bl b => exact .base (.bl b)
  | int i => exact .base (.int i)
  | str x => exact .base (.str x)
  | lst h r => exact .base (.lst h)
  | tup h r => exact .base (.tup h)
theorem pd_isi {T : Str} {N : String} {c : Bool} {p2 : Pos} (hm : X.mg "isinstance" = none) (hT : X.mg T = none) (h : PD X ρ e d) (hv : bootBuiltins T = some (.type N)) (hk : kitB (tyN d) N = some c) (hgT : Gl X T := by rfl) (hnT : T ≠ "__name__" := by decide) (hdT : (T == ("__debug__" : Str)) = false := by decide)
    (hs : starEach [e, .Name T p2] X.env = (false, eval e X.env) :: starEach [.Name T p2] X.env := by rfl) (hs2 : starEach [.Name T p2] X.env = (false, eval (.Name T p2) X.env) :: starEach [] X.env := by rfl) (hpl : (backTo pos (starEach [.Name T p2] X.env)).any (·.1) = false := by rfl) (hg : Gl X "isinstance" := by rfl) :
    PD X ρ (.Call (.Name "isinstance" p) [e, .Name T p2] [] pos) (.bool c) :=
  pe_imp (pe_callB call_isi hg hm boot_isi (pa_cons h (pa_cons (pe_bltn (v := .ty N) hgT hT hv rfl hnT hdT) pa_nil hs2) hs) (he := hs) (hpl := hpl)) fun σ H Q ⟨H0, s, ev, q⟩ => ⟨H0, s, ev, fun v H1 H' x dv =>
    ⟨v, _, _, _, c, rfl, .ty N, dq_ty (dv.at x.sub), kit_ty hk, q _ _ _ x (.bl _)⟩⟩
theorem pd_isi2 {T1 T2 : Str} {N1 N2 : String} {c1 c2 : Bool} {p1 p2 pt : Pos} {kt : Nat} (hm : X.mg "isinstance" = none) (hT1 : X.mg T1 = none) (hT2 : X.mg T2 = none) (h : PD X ρ e d) (hv1 : bootBuiltins T1 = some (.type N1)) (hv2 : bootBuiltins T2 = some (.type N2))
    (hk1 : kitB (tyN d) N1 = some c1) (hk2 : kitB (tyN d) N2 = some c2) (hgT1 : Gl X T1 := by rfl) (hgT2 : Gl X T2 := by rfl) (hn1 : T1 ≠ "__name__" := by decide) (hd1 : (T1 == ("__debug__" : Str)) = false := by decide) (hn2 : T2 ≠ "__name__" := by decide) (hd2 : (T2 == ("__debug__" : Str)) = false := by decide)
    (hs : starEach [e, .Tuple [.Name T1 p1, .Name T2 p2] kt pt] X.env = (false, eval e X.env) :: starEach [.Tuple [.Name T1 p1, .Name T2 p2] kt pt] X.env := by rfl) (hs2 : starEach [.Tuple [.Name T1 p1, .Name T2 p2] kt pt] X.env = (false, eval (.Tuple [.Name T1 p1, .Name T2 p2] kt pt) X.env) :: starEach [] X.env := by rfl)
    (hpl : (backTo pos (starEach [.Tuple [.Name T1 p1, .Name T2 p2] kt pt] X.env)).any (·.1) = false := by rfl) (hg : Gl X "isinstance" := by rfl)
    (hs3 : starEach [.Name T1 p1, .Name T2 p2] X.env = (false, eval (.Name T1 p1) X.env) :: starEach [.Name T2 p2] X.env := by rfl) (hs4 : starEach [.Name T2 p2] X.env = (false, eval (.Name T2 p2) X.env) :: starEach [] X.env := by rfl) :
    PD X ρ (.Call (.Name "isinstance" p) [e, .Tuple [.Name T1 p1, .Name T2 p2] kt pt] [] pos) (.bool (c1 || c2)) :=
  pe_imp (pe_callB call_isiT hg hm boot_isi (pa_cons h (pa_cons (pe_tup (pa_cons (pe_bltn (v := .ty N1) hgT1 hT1 hv1 rfl hn1 hd1) (pa_cons (pe_bltn (v := .ty N2) hgT2 hT2 hv2 rfl hn2 hd2) pa_nil hs4) hs3)) pa_nil hs2) hs) (he := hs) (hpl := hpl)) fun σ H Q ⟨H0, s, ev, q⟩ => ⟨H0, s, ev, fun v H1 H' x dv =>
    ⟨by show 2 ≤ sizeLine; decide, fun tp htp => ⟨v, tp, [.ty N1, .ty N2], _, [.type N1, .type N2], c1 || c2, rfl, upd_same, .cons (.ty _) (.cons (.ty _) .nil), dq_ty ((dv.at x.sub).at (same_new htp _)),
      kitAny_cons (kit_ty hk1) (fun e1 => kitAny_cons (kit_ty hk2) (fun e2 => by rw [kitAny_nil, e1, e2]; rfl) (fun e2 => by rw [e2]; simp)) (fun e1 => by rw [e1]; rfl),
      q _ _ _ (x.trans (.new x.sub htp _)) (.bl _)⟩⟩⟩
end
end Hf

/-! ## HfF -/
set_option Elab.async false
set_option linter.all false
set_option maxRecDepth 100000
set_option maxHeartbeats 1000000
/-! Comprehensions by the items; defs of the text by name. -/
namespace Hf
open L2 PySem PySem.Spec PyProof.Rows
open PySem.W (Datum DatumOrd Tup EachIs AllAlike Sortable dataLe)

section
variable {X : Cx} {ρ : List SV}
/-- [elt for tg in iter if ..], the items g a of xs -/
theorem pw_lcG {α : Type} {elt tg iter : Expr} {ifs : List Expr} {scope : Scope} {own : List (Str × Nat)} {pos : Pos} {n : Nat} {dat : Nat → PyData} (xs : List α) (g : α → PyData) (ρ' : α → List SV) {is : List Nat} (p : α → Bool) (f : α → PyData) (hc : X.calm = true) (hN : X.N.Nodup)
    (hi : PDI X ρ tg iter n dat) (hn : n = xs.length) (hdat : ∀ (j : Nat) a, xs[j]? = some a → dat j = g a) (ok : BlkOk X.N X.env.scope scope own) (his : ∀ k ∈ is, k ∈ own.map (·.2)) (hz : xs.length < sizeLine)
    (hg : ∀ a ∈ xs, Blk X scope fun Y => PDG Y (wipeS ρ (own.map (·.2))) tg (g a) (ρ' a) is)
    (ht : ∀ a ∈ xs, Blk X scope fun Y => PTs Y ifs (tDT (ρ' a) (p a)))
    (he : ∀ a ∈ xs, p a = true → Blk X scope fun Y => PD Y (ρ' a) elt (f a)) (hs : ∀ x, foldedSetIterable iter X.env x = pure x := by intro _; rfl) :
    PNewC X ρ (.ListComp elt [⟨tg, iter, ifs, 0⟩] scope pos) (oL ((xs.filter p).map f)) := by
  subst hn
  have at_ : ∀ j, j < xs.length → ∃ a, xs[j]? = some a ∧ a ∈ xs := fun j hj => ⟨xs[j], List.getElem?_eq_getElem hj, List.getElem_mem hj⟩
  have e := kept_map g p f (fun j => match xs[j]? with | some a => p a | none => false) (fun j => match xs[j]? with | some a => f a | none => .none) xs (fun j a h => by simp only [h]; exact ⟨trivial, fun _ => trivial⟩) xs.length (Nat.le_refl _)
  rw [List.take_length] at e
  rw [← e]
  refine pw_lcN (ρ' := fun j => match xs[j]? with | some a => ρ' a | none => ρ) hc hN hi ok his hz (fun j hj => ?_) (fun j hj => ?_) (fun j hj pj => ?_) hs
  · obtain ⟨a, h, hm⟩ := at_ j hj
    simp only [h]
    rw [hdat j a h]
    exact hg a hm
  · obtain ⟨a, h, hm⟩ := at_ j hj
    simp only [h]
    exact ht a hm
  · obtain ⟨a, h, hm⟩ := at_ j hj
    simp only [h] at pj ⊢
    exact he a hm pj
theorem getD_map {α : Type} {xs : List α} {g : α → PyData} {j : Nat} {a : α} (h : xs[j]? = some a) : (xs.map g).getD j .none = g a := by
  rw [List.getD_eq_getElem?_getD, List.getElem?_map, h]
  rfl
/-- over a list or tuple of items g a, one name -/
theorem pw_lc1 {α : Type} (i : Nat) {elt iter : Expr} {ifs : List Expr} {scope : Scope} {x : Str} {px pos : Pos} (xs : List α) (g : α → PyData) (p : α → Bool) (f : α → PyData) (hc : X.calm = true) (hN : X.N.Nodup)
    (hi : PDI X ρ (.Name x px) iter (xs.map g).length (fun j => (xs.map g).getD j .none)) (ok : BlkOk X.N X.env.scope scope [(x, i)]) (hz : xs.length < sizeLine)
    (hx : Blk X scope fun Y => Loc Y.env.scope x) (hf : Blk X scope fun Y => Y.fn x = true ∨ Y.env.scope.names.lookup x = some .local)
    (ht : ∀ a ∈ xs, Blk X scope fun Y => PTs Y ifs (tDT ((ρ.set i .no).set i (.dat (g a))) (p a)))
    (he : ∀ a ∈ xs, p a = true → Blk X scope fun Y => PD Y ((ρ.set i .no).set i (.dat (g a))) elt (f a)) (hi' : X.N[i]? = some x := by rfl) (hs : ∀ x, foldedSetIterable iter X.env x = pure x := by intro _; rfl) :
    PNewC X ρ (.ListComp elt [⟨.Name x px, iter, ifs, 0⟩] scope pos) (oL ((xs.filter p).map f)) :=
  pw_lcG (own := [(x, i)]) xs g (fun a => (ρ.set i .no).set i (.dat (g a))) p f hc hN hi (by rw [List.length_map]) (fun j a h => getD_map h) ok (by intro k hk; exact hk) hz
    (fun a ha s H C cl fp => pdg i hN hi' (hx s H C cl fp) (hf s H C cl fp)) ht he hs
theorem pd_lcG {α : Type} {elt tg iter : Expr} {ifs : List Expr} {scope : Scope} {own : List (Str × Nat)} {pos : Pos} {n : Nat} {dat : Nat → PyData} (xs : List α) (g : α → PyData) (ρ' : α → List SV) {is : List Nat} (p : α → Bool) (f : α → PyData) (hc : X.calm = true) (hN : X.N.Nodup)
    (hi : PDI X ρ tg iter n dat) (hn : n = xs.length) (hdat : ∀ (j : Nat) a, xs[j]? = some a → dat j = g a) (ok : BlkOk X.N X.env.scope scope own) (his : ∀ k ∈ is, k ∈ own.map (·.2)) (hz : xs.length < sizeLine)
    (hg : ∀ a ∈ xs, Blk X scope fun Y => PDG Y (wipeS ρ (own.map (·.2))) tg (g a) (ρ' a) is)
    (ht : ∀ a ∈ xs, Blk X scope fun Y => PTs Y ifs (tDT (ρ' a) (p a)))
    (he : ∀ a ∈ xs, p a = true → Blk X scope fun Y => PD Y (ρ' a) elt (f a)) (hs : ∀ x, foldedSetIterable iter X.env x = pure x := by intro _; rfl) :
    PD X ρ (.ListComp elt [⟨tg, iter, ifs, 0⟩] scope pos) (.list ((xs.filter p).map f)) := pd_of_new (pw_lcG xs g ρ' p f hc hN hi hn hdat ok his hz hg ht he hs).val
theorem pd_lc1 {α : Type} (i : Nat) {elt iter : Expr} {ifs : List Expr} {scope : Scope} {x : Str} {px pos : Pos} (xs : List α) (g : α → PyData) (p : α → Bool) (f : α → PyData) (hc : X.calm = true) (hN : X.N.Nodup)
    (hi : PDI X ρ (.Name x px) iter (xs.map g).length (fun j => (xs.map g).getD j .none)) (ok : BlkOk X.N X.env.scope scope [(x, i)]) (hz : xs.length < sizeLine)
    (hx : Blk X scope fun Y => Loc Y.env.scope x) (hf : Blk X scope fun Y => Y.fn x = true ∨ Y.env.scope.names.lookup x = some .local)
    (ht : ∀ a ∈ xs, Blk X scope fun Y => PTs Y ifs (tDT ((ρ.set i .no).set i (.dat (g a))) (p a)))
    (he : ∀ a ∈ xs, p a = true → Blk X scope fun Y => PD Y ((ρ.set i .no).set i (.dat (g a))) elt (f a)) (hi' : X.N[i]? = some x := by rfl) (hs : ∀ x, foldedSetIterable iter X.env x = pure x := by intro _; rfl) :
    PD X ρ (.ListComp elt [⟨.Name x px, iter, ifs, 0⟩] scope pos) (.list ((xs.filter p).map f)) := pd_of_new (pw_lc1 i xs g p f hc hN hi ok hz hx hf ht he hi' hs).val
end

/-- a def of the text that stands behind the top, by its name -/
def Def (K : PySem.W.Frag) (mg : Str → Option Value) (x : Str) (st : Stmt) : Prop := ∃ f fd, Fun K x x st f fd ∧ mg x = some (.ref f)
/-- .. and what it does, over data -/
def Cal (P : Program) (w : World) (K : PySem.W.Frag) (mg : Str → Option Value) (base : Heap) (k : Nat) (x : Str) (ps : List Str) (R : List PyData → PyData → Prop) : Prop :=
  ∃ f fd, Fn P w K mg base k f fd ps R ∧ mg x = some (.ref f) ∧ PySem.W.keepIn K (.ref f) = true ∧ L2.Binds K fd ps []
/-- how a def's arguments bind, for one to four parameters -/
def BindOk (x : Str) (st : Stmt) (ps : List Str) : Prop := ∀ (kV doc pm : Value) (an : Option Addr) (cdv ct : Value) (us : List Value), us.length = ps.length → bindArgs (PySem.W.fnOf x x (defArgs st) (defBody st) (defScope st) .none kV doc pm an cdv ct) ⟨us, []⟩ = pure (ps.zip us)
section
variable {P : Program} {w : World} {K : PySem.W.Frag} {mg : Str → Option Value} {base : Heap}
theorem cal_of {x : Str} {st : Stmt} {N ps : List Str} {k : Nat} {R : List PyData → PyData → Prop} (F : Def K mg x st) (S : FnScope N ps (defScope st)) (b : BindOk x st ps) (hl : ∀ ds d, R ds d → ds.length = ps.length)
    (h : ∀ (f : Addr) (cdv : Value) (A : Around) (outer : List Env) (s : Shared) (H : Hp) (E : XK), Room k (A.deeper (envOfC x (defScope st) s.heap.objs.size f cdv)) → ∀ ds d, R ds d → PB (cxOf CX0 P w K mg base N x (defScope st) f cdv A outer s H E).nox (begS N ds) emp (defBody st) d) :
    Cal P w K mg base (k + 1) x ps R := by
  obtain ⟨f, fd, F, m⟩ := F
  exact ⟨f, fd, fn_ok F S hl fun X ⟨cdv, A, outer, s, H, E, e, hr⟩ ds d r => e ▸ h f cdv A outer s H E hr ds d r, m, F.kp, F.binds b⟩
theorem Cal.mono {j k : Nat} {x : Str} {ps : List Str} {R : List PyData → PyData → Prop} (c : Cal P w K mg base j x ps R) (h : j ≤ k) : Cal P w K mg base k x ps R := by
  obtain ⟨f, fd, F, r⟩ := c
  exact ⟨f, fd, F.mono h, r⟩
end
section
variable {X : Cx} {ρ : List SV} {d : PyData} {ds : List PyData} {e : Expr} {es : List Expr} {p pos : Pos}
theorem pdc {k : Nat} {ps : List Str} {R : List PyData → PyData → Prop} {x : Str} (c : Cal X.prog X.w X.K X.mg X.base k x ps R) (hr : Room k X.A)
    (ha : PDA X ρ (e :: es) ds) (h : R ds d) (hg : Gl X x := by rfl) (hdb : (x == ("__debug__" : Str)) = false := by decide) (he : starEach (e :: es) X.env = (false, eval e X.env) :: starEach es X.env := by rfl) (hpl : (backTo pos (starEach es X.env)).any (·.1) = false := by rfl) :
    PD X ρ (.Call (.Name x p) (e :: es) [] pos) d := by
  obtain ⟨f, fd, F, m, kp, b⟩ := c
  exact pd_call F hr m kp b ha h hg hdb he hpl
theorem pdc0 {k : Nat} {ps : List Str} {R : List PyData → PyData → Prop} {x : Str} (c : Cal X.prog X.w X.K X.mg X.base k x ps R) (hr : Room k X.A)
    (h : R [] d) (hg : Gl X x := by rfl) (hdb : (x == ("__debug__" : Str)) = false := by decide) : PD X ρ (.Call (.Name x p) [] [] pos) d := by
  obtain ⟨f, fd, F, m, kp, b⟩ := c
  exact pd_call0 F hr m kp b h hg hdb
end
/-- the built-in names that the text uses are the built-in ones -/
structure Blt (mg : Str → Option Value) : Prop where
  isi : mg "isinstance" = none
  int : mg "int" = none
  bool : mg "bool" = none
  str : mg "str" = none
  tuple : mg "tuple" = none
  list : mg "list" = none
  dict : mg "dict" = none
  set : mg "set" = none
  len : mg "len" = none
  all : mg "all" = none
  any : mg "any" = none
  range : mg "range" = none
  sorted : mg "sorted" = none
  enum : mg "enumerate" = none
  zip : mg "zip" = none
  abs : mg "abs" = none
  min : mg "min" = none
  max : mg "max" = none
  verr : mg "ValueError" = none
theorem kit_ii : kitB "int" "int" = some true := by decide +kernel
theorem kit_ib : kitB "int" "bool" = some false := by decide +kernel
theorem kit_il : kitB "int" "list" = some false := by decide +kernel
theorem kit_it : kitB "int" "tuple" = some false := by decide +kernel
theorem kit_is : kitB "int" "str" = some false := by decide +kernel
theorem kit_ll : kitB "list" "list" = some true := by decide +kernel
theorem kit_lt : kitB "list" "tuple" = some false := by decide +kernel
theorem kit_tl : kitB "tuple" "list" = some false := by decide +kernel
theorem kit_tt : kitB "tuple" "tuple" = some true := by decide +kernel
theorem kit_bl : kitB "bool" "list" = some false := by decide +kernel
theorem kit_bt : kitB "bool" "tuple" = some false := by decide +kernel
theorem kit_bb : kitB "bool" "bool" = some true := by decide +kernel
theorem kit_bs : kitB "bool" "str" = some false := by decide +kernel
theorem kit_sl : kitB "str" "list" = some false := by decide +kernel
theorem kit_st : kitB "str" "tuple" = some false := by decide +kernel
theorem kit_sb : kitB "str" "bool" = some false := by decide +kernel
theorem kit_ss : kitB "str" "str" = some true := by decide +kernel
end Hf

/-! ## HfG -/
set_option Elab.async false
set_option linter.all false
set_option maxRecDepth 100000
set_option maxHeartbeats 1000000
/-! Dicts with pairs of numbers as keys: read, walked, made. -/
namespace Hf
open L2 PySem PySem.Spec PyProof.Rows
open PySem.W (Datum DatumOrd Tup EachIs AllAlike Sortable dataLe)

def look (kds : List (Pt × PyData)) (c : Pt) : Option PyData := (kds.find? fun p => decide (p.1 = c)).map (·.2)
theorem look_val {H : Hp} {c : Pt} : ∀ {kvs : List (List Key × V)} {kds : List (Pt × PyData)}, KDq H kvs kds → (look kds c = none ∧ valV kvs (kC c) = none) ∨ ∃ d v, look kds c = some d ∧ valV kvs (kC c) = some v ∧ Dq H v d
  | _, _, .nil => .inl ⟨rfl, rfl⟩
  | _, _, .cons (a := p) (b := q) ⟨h1, h2⟩ t => by
    by_cases e : q.1 = c
    · have e' : p.1 = kC c := by rw [h1, e]
      exact .inr ⟨q.2, p.2, by unfold look; rw [List.find?_cons]; simp [e], valV_pos e', h2⟩
    · have e' : ¬ p.1 = kC c := by rw [h1]; exact fun z => e (kC_inj z)
      have l : ∀ (r : List (Pt × PyData)), look (q :: r) c = look r c := fun r => by unfold look; rw [List.find?_cons]; simp [e]
      rw [l, valV_neg e']
      exact look_val t
theorem look_some {H : Hp} {c : Pt} {kvs : List (List Key × V)} {kds : List (Pt × PyData)} (r : KDq H kvs kds) : (valV kvs (kC c)).isSome = (look kds c).isSome := by
  rcases look_val (c := c) r with ⟨e2, e3⟩ | ⟨d', v', e2, e3, _⟩ <;> rw [e2, e3] <;> rfl
/-- the tuple of a pair -/
theorem dq_pt {H : Hp} {v : V} {c : Pt} (h : Dq H v (D c)) : ∃ b, v = .ref b ∧ H b = some (.tup ((kC c).map kV)) := by
  cases h with
  | tup ht r =>
    cases r with
    | cons h1 r =>
      cases r with
      | cons h2 r => cases r; cases h1; cases h2; exact ⟨_, rfl, ht⟩
theorem pt_dq {H : Hp} {b : Addr} {c : Pt} (h : H b = some (.tup ((kC c).map kV))) : Dq H (.ref b) (D c) := .tup h (.cons (.int _) (.cons (.int _) .nil))
/-- slot i holds a dict, walked or not -/
def DicAt (ρ : List SV) (i : Nat) (kds : List (Pt × PyData)) : Prop := ρ[i]? = some (.dic kds) ∨ ρ[i]? = some (.fzd kds)
theorem EnvD.dic {H : Hp} {ρ : List SV} {σ : L2.St} {i : Nat} {kds : List (Pt × PyData)} (e : EnvD H ρ σ) (h : DicAt ρ i kds) : ∃ a kvs, σ[i]? = some (some (.ref a)) ∧ Rd H a (.dT kvs) ∧ KDq H kvs kds := by
  rcases h with h | h
  · obtain ⟨_, e1, a, kvs, rfl, q⟩ := e.get h
    exact ⟨a, kvs, e1, q⟩
  · obtain ⟨_, e1, a, o, kvs, rfl, q, r⟩ := e.get h
    exact ⟨a, kvs, e1, .inr ⟨o, q⟩, r⟩
section
variable {X : Cx} {ρ : List SV} {a b : Expr} {pos : Pos} {c : Pt} {x : Str} {p : Pos} {kds : List (Pt × PyData)} {d : PyData}
theorem same_rd {H H' : Hp} (s : Same H H') {a : Addr} {u : HO} (h : Rd H a u) : Rd H' a u := h.imp (s _ _) fun ⟨o, q⟩ => ⟨o, s _ _ q⟩
/-- key in d -/
theorem pdt_inD (i : Nat) (hu : X.A.units + 1 < cLine) (ha : PD X ρ a (D c)) (hd : DicAt ρ i kds := by first | exact .inl rfl | exact .inr rfl) (hN : X.N[i]? = some x := by rfl) (hv : Vis X.env.scope x := by first | exact Or.inl rfl | exact Or.inr (Or.inl rfl) | exact Or.inr (Or.inr rfl))
    (hb1 : (x == ("__debug__" : Str)) = false := by decide) (hb2 : (x == ("__classdict__" : Str)) = false := by decide) : PDT X ρ (.Compare a [.In] [.Name x p] pos) (look kds c).isSome :=
  pt_imp (pt_cmp (pc_din hu ha (pe_var hN hv hb1 hb2)) (by rfl)) fun σ H Q ⟨H0, s, ev, q⟩ => ⟨H0, s, ev, fun v H1 H' y dv => by
    obtain ⟨bb, rfl, hb⟩ := dq_pt dv
    obtain ⟨ad, kvs, e1, h1, r⟩ := (ev.at y.s0).dic hd
    refine ⟨_, e1, ad, _, rfl, .inr ⟨kvs, kC c, bb, same_rd y.sub h1, rfl, y.sub _ _ hb, rfl⟩, _, rfl, ?_⟩
    rw [look_some r]
    exact q _ _ y⟩
theorem pdt_notInD (i : Nat) (hu : X.A.units + 1 < cLine) (ha : PD X ρ a (D c)) (hd : DicAt ρ i kds := by first | exact .inl rfl | exact .inr rfl) (hN : X.N[i]? = some x := by rfl) (hv : Vis X.env.scope x := by first | exact Or.inl rfl | exact Or.inr (Or.inl rfl) | exact Or.inr (Or.inr rfl))
    (hb1 : (x == ("__debug__" : Str)) = false := by decide) (hb2 : (x == ("__classdict__" : Str)) = false := by decide) : PDT X ρ (.Compare a [.NotIn] [.Name x p] pos) (!(look kds c).isSome) :=
  pt_imp (pt_cmp (pc_dnotin hu ha (pe_var hN hv hb1 hb2)) (by rfl)) fun σ H Q ⟨H0, s, ev, q⟩ => ⟨H0, s, ev, fun v H1 H' y dv => by
    obtain ⟨bb, rfl, hb⟩ := dq_pt dv
    obtain ⟨ad, kvs, e1, h1, r⟩ := (ev.at y.s0).dic hd
    refine ⟨_, e1, ad, _, rfl, .inr ⟨kvs, kC c, bb, same_rd y.sub h1, rfl, y.sub _ _ hb, rfl⟩, _, rfl, ?_⟩
    rw [look_some r]
    exact q _ _ y⟩
/-- d[key] -/
theorem pd_getD (i : Nat) (hu : X.A.units + 1 < cLine) (ha : PD X ρ a (D c)) (hl : look kds c = some d) (hd : DicAt ρ i kds := by first | exact .inl rfl | exact .inr rfl) (hN : X.N[i]? = some x := by rfl) (hv : Vis X.env.scope x := by first | exact Or.inl rfl | exact Or.inr (Or.inl rfl) | exact Or.inr (Or.inr rfl))
    (hs : NoSl a := by exact (fun _ _ => rfl)) (hb1 : (x == ("__debug__" : Str)) = false := by decide) (hb2 : (x == ("__classdict__" : Str)) = false := by decide) : PD X ρ (.Subscript (.Name x p) a pos) d :=
  pe_imp (pe_dget hu (pe_var hN hv hb1 hb2) ha hs) fun σ H Q ⟨H0, s, ev, q⟩ => by
    obtain ⟨ad, kvs, e1, h1, r⟩ := ev.dic hd
    refine ⟨_, e1, H0, s, ev, fun v H1 H' y dv => ?_⟩
    obtain ⟨bb, rfl, hb⟩ := dq_pt dv
    rcases look_val (c := c) r with ⟨e2, e3⟩ | ⟨d', v', e2, e3, dv'⟩
    · rw [hl] at e2; cases e2
    · rw [hl] at e2
      cases e2
      exact ⟨ad, v', rfl, .inr ⟨kvs, kC c, bb, same_rd y.sub (same_rd y.s0 h1), rfl, y.sub _ _ hb, e3.symm⟩, q v' _ _ y (dv'.at y.s0)⟩
end
/-! ### a dict that is walked -/
theorem kat {H : Hp} : ∀ {kvs : List (List Key × V)} {kds : List (Pt × PyData)} {j : Nat} {p : List Key × V}, KDq H kvs kds → kvs[j]? = some p → ∃ q, kds[j]? = some q ∧ (p.1 = kC q.1 ∧ Dq H p.2 q.2)
    | _, _, _, _, .nil, h => by simp at h
    | _, _, 0, _, .cons h _, e => by
      simp at e
      subst e
      exact ⟨_, rfl, h⟩
    | _, _, j + 1, _, .cons _ t, e => by
      obtain ⟨q, h1, h2⟩ := kat (j := j) t (by simpa using e)
      exact ⟨q, by simpa using h1, h2⟩
theorem goesK {a : Addr} {o : Obj} {kds : List (Pt × PyData)} {kvs : List (List Key × V)} {HH : Hp} (r : KDq HH kvs kds) : GoesD (Itkt a o kvs) kds.length (fun j => match kds[j]? with | some q => D q.1 | none => .none) (fun H => H a = some (.frz o (.dT kvs))) where
  stop := fun H0 H s g => ⟨s _ _ g, Nat.le_of_eq (Paired.length r)⟩
  go := fun j hj H0 H s g => ⟨s _ _ g, by rw [Paired.length r]; exact hj⟩
  yld := fun j hj H0 H s g x H' y => by
    obtain ⟨e, k, v, q, h1, h2, h3⟩ := y
    subst e h2
    obtain ⟨kd, e1, e2⟩ := kat r h1
    have hk : k = kC kd.1 := e2.1
    subst hk
    obtain ⟨H0', x', e3⟩ := Ext.tupIn s h3
    refine ⟨H0', x', ?_⟩
    simp only [e1]
    exact pt_dq e3
  mono := fun H0 H0' g s => s _ _ g
section
variable {X : Cx} {ρ : List SV} {tg e : Expr} {x : Str} {p : Pos} {kds : List (Pt × PyData)} {d : PyData}
theorem pdi_keys (i : Nat) (hd : ρ[i]? = some (.fzd kds) := by rfl) (hN : X.N[i]? = some x := by rfl) (hv : Vis X.env.scope x := by first | exact Or.inl rfl | exact Or.inr (Or.inl rfl) | exact Or.inr (Or.inr rfl))
    (hb1 : (x == ("__debug__" : Str)) = false := by decide) (hb2 : (x == ("__classdict__" : Str)) = false := by decide) : PDI X ρ tg (.Name x p) kds.length (fun j => match kds[j]? with | some q => D q.1 | none => .none) :=
  pi_imp (pi_keys (pe_var hN hv hb1 hb2)) fun σ H R ⟨H0, s, ev, q⟩ => by
    obtain ⟨_, e1, a, o, kvs, rfl, h1, r⟩ := ev.get hd
    exact ⟨_, e1, a, o, rfl, .inr ⟨kvs, s _ _ h1, q _ _ _ _ (.refl s) (goesK r) h1⟩⟩
/-- lists and tuples alone matter for data -/
theorem Dq.swap {H H' : Hp} (hl : ∀ a xs, H a = some (.lst xs) → H' a = some (.lst xs)) (ht : ∀ a xs, H a = some (.tup xs) → H' a = some (.tup xs)) : ∀ (d : PyData) (v : V), Dq H v d → Dq H' v d
  | .none, _, h => by cases h; exact .non
  | .bool _, _, h => by cases h; exact .bl _
  | .int _, _, h => by cases h; exact .int _
  | .str _, _, h => by cases h; exact .str _
  | .list ds, _, h => by cases h with | lst h r => exact .lst (hl _ _ h) (swapA hl ht ds _ r)
  | .tuple ds, _, h => by cases h with | tup h r => exact .tup (ht _ _ h) (swapA hl ht ds _ r)
  | .dict _, _, h => by cases h
where
  swapA {H H' : Hp} (hl : ∀ a xs, H a = some (.lst xs) → H' a = some (.lst xs)) (ht : ∀ a xs, H a = some (.tup xs) → H' a = some (.tup xs)) : ∀ (ds : List PyData) (vs : List V), DqA H vs ds → DqA H' vs ds
    | [], _, h => by cases h; exact .nil
    | d :: ds, _, h => by cases h with | cons h r => exact .cons (Dq.swap hl ht d _ h) (swapA hl ht ds _ r)
theorem KDq.swap {H H' : Hp} (hl : ∀ a xs, H a = some (.lst xs) → H' a = some (.lst xs)) (ht : ∀ a xs, H a = some (.tup xs) → H' a = some (.tup xs)) {kvs : List (List Key × V)} {kds : List (Pt × PyData)} (h : KDq H kvs kds) : KDq H' kvs kds :=
  Paired.mapP h fun _ q r => ⟨r.1, Dq.swap hl ht q.2 _ r.2⟩
/-- the dict at a, locked -/
theorem env_lock {H0 : Hp} {a : Addr} {o : Obj} {kvs : List (List Key × V)} (ha : H0 a = some (.dT kvs)) : ∀ {ρ : List SV} {σ : L2.St}, EnvD H0 ρ σ → EnvD (upd H0 a (.frz o (.dT kvs))) ρ σ := by
  have hl : ∀ b xs, H0 b = some (.lst xs) → (upd H0 a (.frz o (.dT kvs))) b = some (.lst xs) := fun b xs q => by rw [upd_ne (ne_of q ha (fun z => nomatch z))]; exact q
  have ht : ∀ b xs, H0 b = some (.tup xs) → (upd H0 a (.frz o (.dT kvs))) b = some (.tup xs) := fun b xs q => by rw [upd_ne (ne_of q ha (fun z => nomatch z))]; exact q
  have one : ∀ {s : SV} {v : Option V}, slotOk H0 s v → slotOk (upd H0 a (.frz o (.dT kvs))) s v := by
    intro s v h
    cases s with
    | no => trivial
    | dat d => obtain ⟨u, e, q⟩ := h; exact ⟨u, e, Dq.swap hl ht d u q⟩
    | val y => exact h
    | dic ks =>
      obtain ⟨b, kv, e, q, r⟩ := h
      refine ⟨b, kv, e, ?_, r.swap hl ht⟩
      by_cases z : b = a
      · subst z
        rcases q with q | ⟨o', q⟩
        · rw [ha] at q; cases q; exact .inr ⟨o, upd_same⟩
        · rw [ha] at q; cases q
      · exact q.imp (fun q => by rw [upd_ne z]; exact q) fun ⟨o', q⟩ => ⟨o', by rw [upd_ne z]; exact q⟩
    | fzd ks =>
      obtain ⟨b, o', kv, e, q, r⟩ := h
      exact ⟨b, o', kv, e, by rw [upd_ne (ne_of q ha (fun z => nomatch z))]; exact q, r.swap hl ht⟩
    | sq K b xs =>
      obtain ⟨e, q⟩ := h
      refine ⟨e, q.elim (fun r => .inl ?_) .inr⟩
      rcases r with r | ⟨o', r⟩
      · exact .inl (hl _ _ r)
      · exact .inr ⟨o', by rw [upd_ne (ne_of r ha (fun z => nomatch z))]; exact r⟩
  intro ρ
  induction ρ with
  | nil => intro σ h; cases σ <;> exact h
  | cons s ρ ih => intro σ h; cases σ with
    | nil => exact h
    | cons v σ => exact ⟨one h.1, ih h.2⟩
/-- behind the lock -/
theorem ext_unlock {H0 H H1 H' : Hp} {a : Addr} {o : Obj} {kvs : List (List Key × V)} (ha : H0 a = some (.dT kvs)) (hs : Same H0 H) (y : Ext (upd H0 a (.frz o (.dT kvs))) (upd H a (.frz o (.dT kvs))) H1 H') :
    H' a = some (.frz o (.dT kvs)) ∧ Ext H0 H (upd H1 a (.dT kvs)) (upd H' a (.dT kvs)) ∧ (∀ b xs, H1 b = some (.lst xs) → (upd H1 a (.dT kvs)) b = some (.lst xs)) ∧ ∀ b xs, H1 b = some (.tup xs) → (upd H1 a (.dT kvs)) b = some (.tup xs) := by
  have h1 : H1 a = some (.frz o (.dT kvs)) := y.s0 _ _ upd_same
  have h2 : H' a = some (.frz o (.dT kvs)) := y.s _ _ upd_same
  refine ⟨h2, ⟨fun b u q => ?_, fun b u q => ?_, same_upd y.sub _, fun b u q n t => ?_⟩, fun b xs q => ?_, fun b xs q => ?_⟩
  · by_cases z : b = a
    · subst z; rw [ha] at q; cases q; exact upd_same
    · rw [upd_ne z]; exact y.s0 b u (by rw [upd_ne z]; exact q)
  · by_cases z : b = a
    · subst z
      rw [hs _ _ ha] at q
      cases q
      exact upd_same
    · rw [upd_ne z]; exact y.s b u (by rw [upd_ne z]; exact q)
  · have z : b ≠ a := fun z => by rw [z, ha] at q; cases q
    rw [upd_ne z]
    exact y.out b u (by rw [upd_ne z]; exact q) (by rw [upd_ne z]; exact n) t
  · rw [upd_ne (ne_of q h1 (fun z => nomatch z))]; exact q
  · rw [upd_ne (ne_of q h1 (fun z => nomatch z))]; exact q
/-- an expression that walks the dict in slot i -/
theorem pd_lock (i : Nat) (h : PD X (ρ.set i (.fzd kds)) e d) (hd : ρ[i]? = some (.dic kds) := by rfl) : PD X ρ e d := by
  refine ⟨fun pins s σ H Q I ⟨H0, sm, ev, q⟩ => ?_⟩
  obtain ⟨_, e1, a, kvs, rfl, rd, r⟩ := ev.get hd
  have fz : ∀ {H1 : Hp} {o : Obj}, H1 a = some (.frz o (.dT kvs)) → KDq H1 kvs kds → EnvD H1 ρ σ → EnvD H1 (ρ.set i (.fzd kds)) σ := fun {H1 o} h1 r1 ev1 => by
    have z := EnvD.set (s := .fzd kds) (v := some (.ref a)) ⟨a, o, kvs, rfl, h1, r1⟩ i ev1
    have e2 : σ.set i (some (V.ref a)) = σ := by
      apply List.ext_getElem?
      intro k
      by_cases hk : i = k
      · subst hk
        rw [List.getElem?_set_self (List.getElem?_eq_some_iff.mp e1).1, e1]
      · rw [List.getElem?_set_ne hk]
    rw [e2] at z
    exact z
  rcases rd with ha | ⟨o, ha⟩
  · refine (pe_lock h).run pins s σ H Q I ⟨a, .dT kvs, sm _ _ ha, trivial, fun od => ?_⟩
    have hl := fun b xs (q : H0 b = some (.lst xs)) => show (upd H0 a (.frz od (.dT kvs))) b = some (.lst xs) by rw [upd_ne (ne_of q ha (fun z => nomatch z))]; exact q
    have ht := fun b xs (q : H0 b = some (.tup xs)) => show (upd H0 a (.frz od (.dT kvs))) b = some (.tup xs) by rw [upd_ne (ne_of q ha (fun z => nomatch z))]; exact q
    refine ⟨upd H0 a (.frz od (.dT kvs)), same_upd sm _, fz upd_same (r.swap hl ht) (env_lock ha ev), fun v H1 H' y dv => ?_⟩
    obtain ⟨k1, k2, k3, k4⟩ := ext_unlock ha sm y
    exact ⟨k1, q v _ _ k2 (Dq.swap k3 k4 d v dv)⟩
  · exact h.run pins s σ H Q I ⟨H0, sm, fz ha r ev, q⟩
end
end Hf

/-! ## HfH -/
set_option Elab.async false
set_option linter.all false
set_option maxRecDepth 100000
set_option maxHeartbeats 1000000
/-! Objects of one's own: made, changed, looked at, handed out. -/
namespace Hf
open L2 PySem PySem.Spec PyProof.Rows
open PySem.W (Datum DatumOrd Tup EachIs AllAlike Sortable dataLe)

def oD (kds : List (Pt × PyData)) : OT := ⟨fun H o => ∃ kvs, o = .dT kvs ∧ KDq H kvs kds, fun H H' o s ⟨xs, e, r⟩ => ⟨xs, e, r.at s⟩, fun H o ⟨xs, e, _⟩ => by rw [e]; trivial⟩
def oV (xs : List V) : OT := ⟨fun _ o => o = .lst xs, fun _ _ _ _ e => e, fun H o e => by rw [e]; trivial⟩
def own (L : List (Addr × OT)) : Own where
  p := fun B H0 H => (L.map Prod.fst).Nodup ∧ ∀ x ∈ L, B x.1 = none ∧ H0 x.1 = none ∧ ∃ o, H x.1 = some o ∧ x.2.ok H0 o
  st := fun B H0 H H0' H' x ⟨n, h⟩ => ⟨n, fun y hy => let ⟨a, b, o, c, d⟩ := h y hy; ⟨a, x.out _ _ b c (y.2.nt _ _ d), o, x.s _ _ c, y.2.up _ _ _ x.s0 d⟩⟩
section
variable {B H0 H : Hp} {L : List (Addr × OT)} {k : Nat} {a : Addr} {t t' : OT} {o : HO}
theorem own_at (h : (own L).p B H0 H) (e : L[k]? = some (a, t)) : B a = none ∧ H0 a = none ∧ ∃ o, H a = some o ∧ t.ok H0 o := h.2 _ (List.mem_of_getElem? e)
theorem own_keys (L : List (Addr × OT)) (e : L[k]? = some (a, t)) : (L.set k (a, t')).map Prod.fst = L.map Prod.fst := by
  apply List.ext_getElem?
  intro j
  rw [List.getElem?_map, List.getElem?_map, List.getElem?_set]
  by_cases h : k = j
  · subst h
    rw [if_pos rfl, e]
    split
    · rfl
    · rename_i z; exact absurd (List.getElem?_eq_some_iff.mp e).1 z
  · rw [if_neg h]
theorem nodup_at {l : List Addr} (n : l.Nodup) {i j : Nat} {b : Addr} (hi : l[i]? = some b) (hj : l[j]? = some b) : i = j := by
  obtain ⟨h1, e1⟩ := List.getElem?_eq_some_iff.mp hi
  obtain ⟨h2, e2⟩ := List.getElem?_eq_some_iff.mp hj
  rcases Nat.lt_trichotomy i j with c | c | c
  · exact absurd (e1.trans e2.symm) (List.pairwise_iff_getElem.mp n i j h1 h2 c)
  · exact c
  · exact absurd (e2.trans e1.symm) (List.pairwise_iff_getElem.mp n j i h2 h1 c)
theorem map_cut {α β : Type} (f : α → β) : ∀ (l : List α) (k : Nat), (l.eraseIdx k).map f = (l.map f).eraseIdx k
  | [], _ => rfl
  | _ :: _, 0 => rfl
  | x :: l, k + 1 => by
    show f x :: (l.eraseIdx k).map f = f x :: (l.map f).eraseIdx k
    rw [map_cut f l k]
theorem own_ne (n : (L.map Prod.fst).Nodup) (e : L[k]? = some (a, t)) {j : Nat} {x : Addr × OT} (hj : L[j]? = some x) (h : j ≠ k) : x.1 ≠ a := fun z =>
  h (nodup_at n (b := a) (by rw [List.getElem?_map, hj]; exact congrArg some z) (by rw [List.getElem?_map, e]; rfl))
theorem own_set (h : (own L).p B H0 H) (e : L[k]? = some (a, t)) (ok : t'.ok H0 o) : (own (L.set k (a, t'))).p B H0 (upd H a o) := by
  refine ⟨by rw [own_keys L e]; exact h.1, fun x hx => ?_⟩
  obtain ⟨j, hj, ej⟩ := List.mem_iff_getElem.mp hx
  have q : (L.set k (a, t'))[j]? = some x := by rw [List.getElem?_eq_getElem hj, ej]
  rw [List.getElem?_set] at q
  obtain ⟨b1, b2, _⟩ := own_at h e
  by_cases z : k = j
  · rw [if_pos z] at q
    split at q
    · cases q; exact ⟨b1, b2, o, upd_same, ok⟩
    · cases q
  · rw [if_neg z] at q
    obtain ⟨c1, c2, u, c3, c4⟩ := h.2 x (List.mem_of_getElem? q)
    exact ⟨c1, c2, u, by rw [upd_ne (own_ne h.1 e q (Ne.symm z))]; exact c3, c4⟩
theorem own_mem (h : (own L).p B H0 H) {b : Addr} (hb : H b = none) : b ∉ L.map Prod.fst := fun z => by
  obtain ⟨x, hx, e⟩ := List.mem_map.mp z
  obtain ⟨_, _, o, c, _⟩ := h.2 x hx
  rw [e, hb] at c
  cases c
theorem own_new (h : (own L).p B H0 H) {b : Addr} (hn : b ∉ L.map Prod.fst) (h1 : B b = none) (h2 : H0 b = none) (h3 : H b = some o) (ok : t.ok H0 o) : (own ((b, t) :: L)).p B H0 H :=
  ⟨List.nodup_cons.mpr ⟨hn, h.1⟩, fun x hx => by
    rcases List.mem_cons.mp hx with e | hx
    · rw [e]; exact ⟨h1, h2, o, h3, ok⟩
    · exact h.2 x hx⟩
/-- one of them is henceforth read -/
theorem own_keep (h : (own L).p B H0 H) (e : L[k]? = some (a, t)) (o : HO) : (own (L.eraseIdx k)).p B (upd H0 a o) H := by
  refine ⟨?_, fun x hx => ?_⟩
  · rw [map_cut]
    exact h.1.sublist (List.eraseIdx_sublist ..)
  · obtain ⟨i, hi, e2⟩ := List.mem_iff_getElem.mp hx
    have q : (L.eraseIdx k)[i]? = some x := by rw [List.getElem?_eq_getElem hi, e2]
    rw [List.getElem?_eraseIdx] at q
    obtain ⟨j, hj, q⟩ : ∃ j, j ≠ k ∧ L[j]? = some x := by
      split at q
      · exact ⟨i, by omega, q⟩
      · exact ⟨i + 1, by omega, q⟩
    obtain ⟨c1, c2, u, c3, c4⟩ := h.2 x (List.mem_of_getElem? q)
    exact ⟨c1, by rw [upd_ne (own_ne h.1 e q hj)]; exact c2, u, c3, x.2.up _ _ _ (same_new (own_at h e).2.1 o) c4⟩
end
section
variable {X : Cx} {ρ ρ1 ρ2 : List SV} {M M1 M2 : Own} {L : List (Addr × OT)} {st : Stmt} {rest sts : List Stmt} {d : PyData} {ds : List PyData} {e : Expr} {pos : Pos} {t : OT} {a : Addr} {k : Nat} {kds : List (Pt × PyData)} {c : Pt}
theorem pss_ex {α : Type} {sts : List Stmt} {t : α → TS} (h : ∀ a, PSs X sts (t a)) : PSs X sts (fun D σ H => ∃ a, t a D σ H) := ⟨fun pins s σ H D I ⟨a, q⟩ => (h a).run pins s σ H D I q⟩
theorem pb_own (h : PB X ρ (own []) sts d) : PB X ρ emp sts d := pss_imp h fun D σ H ⟨B0, B, H0, x, ev, m, q⟩ => ⟨B0, B, H0, x, ev, ⟨List.nodup_nil, fun _ h => nomatch h⟩, q⟩
/-- name = a new object; the rest for whatever address it has -/
theorem pb_new (i : Nat) {x : Str} {p : Pos} (hN : X.N.Nodup) (h : PNew X ρ e t) (r : ∀ a, PB X (ρ.set i (.val (.ref a))) (own ((a, t) :: L)) rest d) (hi : X.N[i]? = some x := by rfl) (hx : Loc X.env.scope x := by first | exact Or.inl rfl | exact Or.inr rfl)
    (hs : swapsWith e (some (.Name x p)) pos.line X.env = pure false := by rfl) (hf : X.fn x = true ∨ X.env.scope.names.lookup x = some .local := by first | exact .inl rfl | exact .inr rfl) : PB X ρ (own L) (.Assign [.Name x p] e pos :: rest) d :=
  pss_imp (pss_cons (ps_set hN hi hx h hs hf) (pss_ex r)) fun D σ H ⟨B0, B, H0, x, ev, m, q⟩ => ⟨H0, x.sub, ev, fun a o H1 H' y h1 h2 h3 h4 =>
    ⟨a, B0, B, H1, x.trans y, (ev.at y.s0).set (s := .val (.ref a)) rfl i, own_new ((own L).st _ _ _ _ _ y m) (own_mem m h1) (x.s.free h1) h2 h3 h4, q⟩⟩
theorem pns_new (i : Nat) {x : Str} {p : Pos} (hN : X.N.Nodup) (h : PNew X ρ e t) (r : ∀ a, PNs X (ρ.set i (.val (.ref a))) ρ2 (own ((a, t) :: L)) M2 rest) (hi : X.N[i]? = some x := by rfl) (hx : Loc X.env.scope x := by first | exact Or.inl rfl | exact Or.inr rfl)
    (hs : swapsWith e (some (.Name x p)) pos.line X.env = pure false := by rfl) (hf : X.fn x = true ∨ X.env.scope.names.lookup x = some .local := by first | exact .inl rfl | exact .inr rfl) : PNs X ρ ρ2 (own L) M2 (.Assign [.Name x p] e pos :: rest) :=
  pss_imp (pss_cons (ps_set hN hi hx h hs hf) (pss_ex r)) fun D σ H ⟨B0, B, H0, x, ev, m, q⟩ => ⟨H0, x.sub, ev, fun a o H1 H' y h1 h2 h3 h4 =>
    ⟨a, B0, B, H1, x.trans y, (ev.at y.s0).set (s := .val (.ref a)) rfl i, own_new ((own L).st _ _ _ _ _ y m) (own_mem m h1) (x.s.free h1) h2 h3 h4, fun σ2 H02 H2 x2 s2 ev2 m2 => q σ2 H02 H2 x2 (y.s0.trans s2) ev2 m2⟩⟩
/-- {} -/
theorem pw_dict : PNew X ρ (.Dict [] [] pos) (oD []) := pe_imp pe_dnewT fun σ H Q ⟨H0, s, ev, q⟩ => fun p hp => q p _ H0 _ (.more s hp _) hp (s.free hp) upd_same ⟨[], rfl, .nil⟩
/-- a slot's exact value -/
theorem pv_at (i : Nat) {v : V} {x : Str} {p : Pos} (e : ρ[i]? = some (.val v) := by rfl) (hN : X.N[i]? = some x := by rfl) (hv : Vis X.env.scope x := by first | exact Or.inl rfl | exact Or.inr (Or.inl rfl) | exact Or.inr (Or.inr rfl)) (hd : (x == ("__debug__" : Str)) = false := by decide)
    (hcd : (x == ("__classdict__" : Str)) = false := by decide) : PE X (.Name x p) (fun σ H Q => ∃ H0, EnvD H0 ρ σ ∧ Q v H) := pe_imp (pe_var hN hv hd hcd) fun σ H Q ⟨H0, ev, q⟩ => by
  obtain ⟨w, e1, e2⟩ := ev.get e
  exact ⟨v, by rw [e1]; exact congrArg some e2, q⟩
def putP (kds : List (Pt × PyData)) (c : Pt) (d : PyData) : List (Pt × PyData) := if (kds.any fun p => decide (p.1 = c)) = true then kds.map (fun p => if p.1 = c then (p.1, d) else p) else kds ++ [(c, d)]
theorem kdq_any {H : Hp} : ∀ {kvs : List (List Key × V)} {kds : List (Pt × PyData)}, KDq H kvs kds → (kvs.any fun kv => decide (kv.1 = kC c)) = (kds.any fun p => decide (p.1 = c))
  | _, _, .nil => rfl
  | p :: _, q :: _, .cons z t => by
    rw [List.any_cons, List.any_cons, kdq_any t, z.1]
    congr 1
    by_cases y : q.1 = c
    · rw [y]; simp
    · rw [decide_eq_false y, decide_eq_false fun w => y (kC_inj w)]
theorem kdq_map {d : PyData} {v : V} {H : Hp} (h : Dq H v d) : ∀ {ps : List (List Key × V)} {qs : List (Pt × PyData)}, KDq H ps qs → KDq H (ps.map fun (kv : List Key × V) => if kv.1 = kC c then (kv.1, v) else kv) (qs.map fun (p : Pt × PyData) => if p.1 = c then (p.1, d) else p)
  | _, _, .nil => .nil
  | p :: _, q :: _, .cons z t => by
    rw [List.map_cons, List.map_cons]
    refine .cons ?_ (kdq_map h t)
    by_cases y : q.1 = c
    · rw [if_pos y, if_pos (by rw [z.1, y])]; exact ⟨z.1, h⟩
    · rw [if_neg y, if_neg (by rw [z.1]; exact fun w => y (kC_inj w))]; exact z
theorem kdq_put {H : Hp} {kvs : List (List Key × V)} (r : KDq H kvs kds) {v : V} (h : Dq H v d) : KDq H (putK kvs (kC c) v) (putP kds c d) := by
  unfold putK putP
  rw [kdq_any r]
  split
  · exact kdq_map h r
  · exact Paired.snoc r ⟨rfl, h⟩
/-- name[key] = value, a dict of one's own -/
theorem pn_dput (k i : Nat) {x : Str} {p tp : Pos} {ke ve : Expr} {kds' : List (Pt × PyData)} (hu : X.A.units + 1 < cLine) (hk : PD X ρ ke (D c)) (hv : PD X ρ ve d) (hL : L[k]? = some (a, oD kds) := by rfl) (hz : kds.length < sizeLine) (hd : putP kds c d = kds' := by rfl) (hi : ρ[i]? = some (.val (.ref a)) := by rfl) (hN : X.N[i]? = some x := by rfl)
    (hvis : Vis X.env.scope x := by first | exact Or.inl rfl | exact Or.inr (Or.inl rfl) | exact Or.inr (Or.inr rfl))
    (hs : swapsWith ve (some (.Subscript (.Name x p) ke tp)) pos.line X.env = pure false := by rfl) (hb1 : (x == ("__debug__" : Str)) = false := by decide) (hb2 : (x == ("__classdict__" : Str)) = false := by decide) :
    PN X ρ ρ (own L) (own (L.set k (a, oD kds'))) (.Assign [.Subscript (.Name x p) ke tp] ve pos) :=
  ps_imp (ps_dput hu (pv_at i hi hN hvis hb1 hb2) hk hv hs) fun De σ H ⟨B0, B, H0, x, ev, m, q⟩ => inB x ev fun v H1 H' x1 y dv => ⟨H1, ev.at y.s0, H1, x1.sub, ev.at y.s0, fun w H2 H'' y2 dw => by
    have m2 := (own L).st _ _ _ _ _ y2 ((own L).st _ _ _ _ _ y m)
    obtain ⟨b1, b2, o, b3, kvs, eo, b4⟩ := own_at m2 hL
    subst eo
    obtain ⟨bb, rfl, hbb⟩ := dq_pt dw
    have hlen : kvs.length = kds.length := Paired.length b4
    refine ⟨a, _, rfl, DPut.t b3 (y2.sub _ _ hbb) (by rw [hlen]; exact hz), q σ H2 _ ((x1.trans y2).mut b1 b2 _) (y.s0.trans y2.s0) (ev.at (y.s0.trans y2.s0)) (own_set m2 hL ⟨_, rfl, hd ▸ kdq_put b4 (dv.at y2.s0)⟩)⟩⟩
/-- name.append(e), name.extend(e): a list of one's own -/
theorem pn_append (k i : Nat) {ds' : List PyData} {x : Str} {p ap cp : Pos} (he : PD X ρ e d) (hL : L[k]? = some (a, oL ds) := by rfl) (hz : ds.length < sizeLine) (hd : ds ++ [d] = ds' := by rfl) (hi : ρ[i]? = some (.val (.ref a)) := by rfl) (hN : X.N[i]? = some x := by rfl)
    (hvis : Vis X.env.scope x := by first | exact Or.inl rfl | exact Or.inr (Or.inl rfl) | exact Or.inr (Or.inr rfl)) (hb1 : (x == ("__debug__" : Str)) = false := by decide) (hb2 : (x == ("__classdict__" : Str)) = false := by decide)
    (hbase : attributeBase (.Name x p) "append" X.env (eval (.Name x p) X.env) = eval (.Name x p) X.env := by rfl)
    (hfew : ((backTo cp (starEach [e] X.env)).all (fun x => !x.1) && (backToKw cp (keywordEach [] X.env)).all (fun x => x.1.isSome)
      && decide (([e] : List Expr).length + ([] : List Keyword).length + (if ([] : List Keyword).isEmpty then 0 else 1) < 30)) = true := by rfl)
    (hline : (ap.endLine == cp.line) = true := by rfl) (hs : starEach [e] X.env = (false, eval e X.env) :: starEach [] X.env := by rfl) (hpl : (backTo cp (starEach [] X.env)).any (·.1) = false := by rfl)
    (hsw : swapsWith (.Call (.Attribute (.Name x p) "append" ap) [e] [] cp) none pos.line X.env = pure false := by rfl) :
    PN X ρ ρ (own L) (own (L.set k (a, oL ds'))) (.Expr (.Call (.Attribute (.Name x p) "append" ap) [e] [] cp) pos) :=
  ps_imp (ps_expr (pe_bm PySem.F.plainAttrs_list PySem.F.slot_list_append PySem.F.type_list_append mt_append (pv_at i hi hN hvis hb1 hb2) (pda_cons he pda_nil hs) hbase hfew hline hs hpl) hsw) fun De σ H ⟨B0, B, H0, x, ev, m, q⟩ =>
    ⟨H0, ev, .inl ⟨rfl, (by obtain ⟨_, _, o, h, xs, eo, _⟩ := own_at m hL; subst eo; exact ⟨xs, SqL.of h⟩)⟩, H0, x.sub, ev, fun vs H1 H' y dv => by
      obtain ⟨v, rfl, dw⟩ := one_dq dv
      have m1 := (own L).st _ _ _ _ _ y m
      obtain ⟨b1, b2, o, b3, xs, eo, b4⟩ := own_at m1 hL
      subst eo
      exact ⟨a, xs, v, rfl, rfl, b3, by rw [b4.length]; exact hz, q σ H1 _ ((x.trans y).mut b1 b2 _) y.s0 (ev.at y.s0) (own_set m1 hL ⟨_, rfl, hd ▸ b4.append (.cons dw .nil)⟩)⟩⟩
theorem pn_extend (k i : Nat) {ds' : List PyData} {x : Str} {p ap cp : Pos} {es : List PyData} (he : PD X ρ e (.list es)) (hL : L[k]? = some (a, oL ds) := by rfl) (hz : ds.length + es.length ≤ sizeLine) (hd : ds ++ es = ds' := by rfl) (hi : ρ[i]? = some (.val (.ref a)) := by rfl) (hN : X.N[i]? = some x := by rfl)
    (hvis : Vis X.env.scope x := by first | exact Or.inl rfl | exact Or.inr (Or.inl rfl) | exact Or.inr (Or.inr rfl)) (hb1 : (x == ("__debug__" : Str)) = false := by decide) (hb2 : (x == ("__classdict__" : Str)) = false := by decide)
    (hbase : attributeBase (.Name x p) "extend" X.env (eval (.Name x p) X.env) = eval (.Name x p) X.env := by rfl)
    (hfew : ((backTo cp (starEach [e] X.env)).all (fun x => !x.1) && (backToKw cp (keywordEach [] X.env)).all (fun x => x.1.isSome)
      && decide (([e] : List Expr).length + ([] : List Keyword).length + (if ([] : List Keyword).isEmpty then 0 else 1) < 30)) = true := by rfl)
    (hline : (ap.endLine == cp.line) = true := by rfl) (hs : starEach [e] X.env = (false, eval e X.env) :: starEach [] X.env := by rfl) (hpl : (backTo cp (starEach [] X.env)).any (·.1) = false := by rfl)
    (hsw : swapsWith (.Call (.Attribute (.Name x p) "extend" ap) [e] [] cp) none pos.line X.env = pure false := by rfl) :
    PN X ρ ρ (own L) (own (L.set k (a, oL ds'))) (.Expr (.Call (.Attribute (.Name x p) "extend" ap) [e] [] cp) pos) :=
  ps_imp (ps_expr (pe_bm PySem.F.plainAttrs_list PySem.F.slot_list_extend PySem.F.type_list_extend mt_extend (pv_at i hi hN hvis hb1 hb2) (pda_cons he pda_nil hs) hbase hfew hline hs hpl) hsw) fun De σ H ⟨B0, B, H0, x, ev, m, q⟩ =>
    ⟨H0, ev, .inl ⟨rfl, (by obtain ⟨_, _, o, h, xs, eo, _⟩ := own_at m hL; subst eo; exact ⟨xs, SqL.of h⟩)⟩, H0, x.sub, ev, fun vs H1 H' y dv => by
      obtain ⟨v, rfl, dw⟩ := one_dq dv
      have m1 := (own L).st _ _ _ _ _ y m
      obtain ⟨b1, b2, o, b3, xs, eo, b4⟩ := own_at m1 hL
      subst eo
      cases dw with
      | lst hl r => exact ⟨a, _, xs, _, rfl, rfl, b3, y.sub _ _ hl, by rw [b4.length, r.length]; exact hz, q σ H1 _ ((x.trans y).mut b1 b2 _) y.s0 (ev.at y.s0) (own_set m1 hL ⟨_, rfl, hd ▸ b4.append r⟩)⟩⟩
/-- return name, a list of one's own -/
theorem pb_retL (k i : Nat) {x : Str} {p : Pos} (hL : L[k]? = some (a, oL ds) := by rfl) (hi : ρ[i]? = some (.val (.ref a)) := by rfl) (hN : X.N[i]? = some x := by rfl)
    (hvis : Vis X.env.scope x := by first | exact Or.inl rfl | exact Or.inr (Or.inl rfl) | exact Or.inr (Or.inr rfl)) (hb1 : (x == ("__debug__" : Str)) = false := by decide) (hb2 : (x == ("__classdict__" : Str)) = false := by decide) :
    PB X ρ (own L) [.Return (some (.Name x p)) pos] (.list ds) :=
  pss_imp (pss_one (ps_ret (pv_at i hi hN hvis hb1 hb2))) fun De σ H ⟨B0, B, H0, x, ev, m, q⟩ => ⟨H0, ev, by
    obtain ⟨b1, b2, o, b3, xs, eo, b4⟩ := own_at m hL
    subst eo
    exact q _ _ _ (x.keep b1 b2 b3) (.lst upd_same (b4.at (same_new b2 _)))⟩
/-- return sorted(name), a dict of one's own -/
theorem kdq_keys {H : Hp} : ∀ {kvs : List (List Key × V)} {kds : List (Pt × PyData)}, KDq H kvs kds → (kvs.map fun p => PyData.tuple (p.1.map keyD)) = kds.map fun z => D z.1
  | _, _, .nil => rfl
  | p :: _, q :: _, .cons z t => by rw [List.map_cons, List.map_cons, kdq_keys t, z.1]; rfl
theorem keysD (cs : List Pt) : (cs.map fun c => PyData.tuple ((kC c).map keyD)) = cs.map D := rfl
theorem pb_retSK (k i : Nat) {x : Str} {p q cp : Pos} (hc : X.calm = true) (hm : X.mg "sorted" = none) (ok : SrtOk X (kds.map fun z => D z.1)) (hL : L[k]? = some (a, oD kds) := by rfl) (hi : ρ[i]? = some (.val (.ref a)) := by rfl) (hN : X.N[i]? = some x := by rfl)
    (hvis : Vis X.env.scope x := by first | exact Or.inl rfl | exact Or.inr (Or.inl rfl) | exact Or.inr (Or.inr rfl)) (hb1 : (x == ("__debug__" : Str)) = false := by decide) (hb2 : (x == ("__classdict__" : Str)) = false := by decide)
    (hs : starEach [.Name x p] X.env = (false, eval (.Name x p) X.env) :: starEach [] X.env := by rfl) (hpl : (backTo cp (starEach [] X.env)).any (·.1) = false := by rfl) (hg : Gl X "sorted" := by rfl) :
    PB X ρ (own L) [.Return (some (.Call (.Name "sorted" q) [.Name x p] [] cp)) pos] (.list ((kds.map fun z => D z.1).mergeSort leD)) :=
  pss_imp (pss_one (ps_ret (pe_callB (cr_srtK hc) hg hm boot_sorted' (pa_cons (pv_at i hi hN hvis hb1 hb2) pa_nil hs) (by decide) (by decide) hs hpl))) fun De σ H ⟨B0, B, H0, x, ev, m, q⟩ => ⟨H0, ev, by
    obtain ⟨b1, b2, o, b3, kvs, eo, b4⟩ := own_at m hL
    subst eo
    have ek := kdq_keys b4
    refine ⟨a, kvs, rfl, .inl b3, by rw [ek]; exact ok, fun pp ws hp dw => ?_⟩
    rw [ek] at dw
    have hsame := same_new hp (.lst ws)
    -- the keys' tuples are read
    have es : (kds.map fun z => D z.1).mergeSort leD = ((kds.map fun z => kC z.1).mergeSort (fun a b => leD (.tuple (a.map keyD)) (.tuple (b.map keyD)))).map fun ks => .tuple (ks.map keyD) := by
      have z := PySem.W.sort_maps (r := fun a b => leD (.tuple (a.map keyD)) (.tuple (b.map keyD))) (s := leD) (l := kds.map fun z => kC z.1) (fun ks : List Key => PyData.tuple (ks.map keyD)) fun _ _ _ _ => rfl
      rw [z, List.map_map]
      rfl
    rw [es] at dw q
    obtain ⟨H1, y, dw1⟩ := Ext.keysIn x.sub dw
    refine q _ (upd H1 pp (.lst ws)) _ ((x.trans y).trans (.new y.sub hp _)) (.lst upd_same (dw1.at (same_new (y.sub.free hp) _)))⟩
end
end Hf

/-! ## HfI -/
set_option Elab.async false
set_option linter.all false
set_option maxRecDepth 100000
set_option maxHeartbeats 1000000
/-! Dicts with pairs as keys: made from a list, by a comprehension, by a display. -/
namespace Hf
open L2 PySem PySem.Spec PyProof.Rows
open PySem.W (Datum DatumOrd Tup EachIs AllAlike Sortable dataLe)

/-! ### dict(pairs) -/
/-- an item: its tuple, the key's tuple, the key, the value -/
abbrev It4 : Type := Addr × Addr × Pt × V
section
variable {X : Cx} {pins : List (Addr × Obj)} {σ : L2.St} {H : Hp} {s : Shared}
theorem item_raw (I : Inv X pins σ H s) {t b : Addr} {v : V} (h : H t = some (.tup [.ref b, v])) : ∃ u, RelV v u ∧ PairAt s.heap t (.ref b) u := by
  obtain ⟨_, its, r, o, h1, h2, n, h3⟩ := (show ObjOk X.prog X.w H s.heap t (.tup [.ref b, v]) from I.hok t _ h)
  cases r with
  | @cons _ u1 _ us r1 r2 =>
    cases r2 with
    | @cons _ u2 _ us2 r3 r4 =>
      cases r4
      cases (show u1 = Value.ref b from r1)
      exact ⟨u2, r3, .inl ⟨o, h1, h2, n, by simpa using h3⟩⟩
theorem items_raw (I : Inv X pins σ H s) : ∀ es : List It4, (∀ e ∈ es, H e.1 = some (.tup [.ref e.2.1, e.2.2.2])) → ∃ zs : List (It4 × Value), zs.map Prod.fst = es ∧ ∀ z ∈ zs, RelV z.1.2.2.2 z.2 ∧ PairAt s.heap z.1.1 (.ref z.1.2.1) z.2
  | [], _ => ⟨[], rfl, fun z h => nomatch h⟩
  | e :: es, h => by
    obtain ⟨u, r, q⟩ := item_raw I (h e (List.mem_cons_self ..))
    obtain ⟨zs, e1, e2⟩ := items_raw I es fun x hx => h x (List.mem_cons_of_mem _ hx)
    refine ⟨(e, u) :: zs, by rw [List.map_cons, e1], fun z hz => ?_⟩
    rcases List.mem_cons.mp hz with y | y
    · rw [y]; exact ⟨r, q⟩
    · exact e2 z y
theorem kt_of : ∀ {zs : List (It4 × Value)}, (∀ z ∈ zs, RelV z.1.2.2.2 z.2 ∧ H z.1.2.1 = some (.tup ((kC z.1.2.2.1).map kV))) → KT H (zs.map fun z => (kC z.1.2.2.1, z.1.2.2.2)) (zs.map fun z => (kC z.1.2.2.1, z.1.2.1, z.2))
  | [], _ => .nil
  | z :: zs, h => .cons ⟨rfl, (h z (List.mem_cons_self ..)).2, (h z (List.mem_cons_self ..)).1⟩ (kt_of fun y hy => h y (List.mem_cons_of_mem _ hy))
end
def rDictP : List V → Hp → VK → Prop := fun vs H Q => ∃ (a : Addr) (es : List It4), vs = [.ref a] ∧ H a = some (.lst (es.map fun e => V.ref e.1)) ∧ (∀ e ∈ es, H e.1 = some (.tup [.ref e.2.1, e.2.2.2]) ∧ H e.2.1 = some (.tup ((kC e.2.2.1).map kV))) ∧ (es.map fun e => e.2.2.1).Nodup ∧
  ∀ p, H p = none → Q (.ref p) (upd H p (.dT (es.map fun e => (kC e.2.2.1, e.2.2.2))))
theorem cr_dictP {X : Cx} (hc : X.calm = true) (hu : X.A.units + 2 < cLine) : CallR X (.type "dict") rDictP := by
  intro pins s σ H vs us Q I r ⟨a, es, ev, ha, he, hn, q⟩
  subst ev
  obtain ⟨u, rfl, ru⟩ := vals1 r
  cases (show u = Value.ref a from ru)
  obtain ⟨its, n, rv, ho, hz⟩ := I.lst ha
  obtain ⟨zs, z1, z2⟩ := items_raw I es fun e h => (he e h).1
  subst z1
  have ez : ∀ (j : Nat) z, zs[j]? = some z → z ∈ zs := fun j z h => List.mem_of_getElem? h
  have hm : ∀ z ∈ zs, z.1 ∈ zs.map Prod.fst := fun z h => List.mem_map.mpr ⟨z, h, rfl⟩
  have eits : its = zs.map fun z => Value.ref z.1.1 := by
    have q1 : ∀ {l : List (It4 × Value)} {us : List Value}, Vals ((l.map Prod.fst).map fun e => V.ref e.1) us → us = l.map fun z => Value.ref z.1.1 := by
      intro l
      induction l with
      | nil => intro us h; cases h; rfl
      | cons z l ih =>
        intro us h
        cases h with
        | cons r t => cases r; rw [ih t]; rfl
    exact q1 rv
  have hk : ∀ z ∈ zs, (tupleKind (mixKind X.prog X.w)).is s.heap (kC z.1.2.2.1) z.1.2.1 := fun z h => key_of I.hok (he _ (hm z h)).2
  have nd : ((zs.map fun z => (kC z.1.2.2.1, z.1.2.1, z.2)).map (·.1)).Nodup := by
    have e : (zs.map fun z => (kC z.1.2.2.1, z.1.2.1, z.2)).map (·.1) = ((zs.map Prod.fst).map fun e => e.2.2.1).map kC := by
      rw [List.map_map, List.map_map, List.map_map]; rfl
    rw [e]
    exact List.pairwise_map.mpr (List.Pairwise.imp (fun {x y} h z => h (kC_inj z)) hn)
  refine call_dict_pairsH (knd := tupleKind (mixKind X.prog X.w)) (ps := zs.map fun z => (kC z.1.2.2.1, z.1.2.1, z.2))
    (PairArg.list a its.toArray (fun j => ((zs[j]?.map fun z => z.1.1).getD 0)) (zs.map fun z => (Value.ref z.1.2.1, z.2))) (I.ok.hd hc) (tupleKind_room_in1 (by simp only [Around.in1_units]; omega)) ⟨⟨_, n, ho, rfl, rfl, rfl⟩, ?_, ?_⟩ ⟨?_, ?_⟩ ?_ ?_ ?_
  · rw [eits]; simp
  · intro j k v hj
    rw [List.getElem?_map] at hj
    cases hz : zs[j]? with
    | none => rw [hz] at hj; cases hj
    | some z =>
      rw [hz] at hj
      cases hj
      refine ⟨?_, ?_⟩
      · rw [eits]; simp [hz]
      · have y := (z2 z (ez j z hz)).2
        simp only [hz, Option.map_some, Option.getD_some]
        exact y
  · simp
  · intro i key v hi
    have hi : (zs.map fun z => (Value.ref z.1.2.1, z.2))[i]? = some (key, v) := hi
    rw [List.getElem?_map] at hi ⊢
    cases hz : zs[i]? with
    | none => rw [hz] at hi; cases hi
    | some z =>
      rw [hz] at hi
      cases hi
      exact ⟨_, _, rfl, rfl⟩
  · intro h' k x hx
    obtain ⟨z, hz, rfl⟩ := List.mem_map.mp hx
    obtain ⟨o, items, m, h1, h2⟩ := hk z hz
    exact ⟨o, items, m, k _ _ (Nat.ne_of_lt (Heap.lt_size h1)) (fun w => nomatch w) h1, h2⟩
  · have := hz
    rw [List.length_map, List.length_map] at this
    rw [List.length_map]; exact this
  · intro h' tk hd hkp
    rw [storedAllH_nil_of_nodup _ nd] at hd
    obtain ⟨o, es', ep, k1, k2, k3, k4, _, k5⟩ := hd
    have hf := I.hok.fresh (Nat.le_refl s.heap.objs.size)
    have hlz : zs.length ≤ sizeLine := by have := hz; rwa [List.length_map, List.length_map] at this
    refine ⟨.ref s.heap.objs.size, _, I.laid (a := s.heap.objs.size) (o := .dT ((zs.map Prod.fst).map fun e => (kC e.2.2.1, e.2.2.2))) (t' := tk) (fun b u e => hkp b u (fun w => nomatch w) e) (Nat.le_refl _) ⟨by simpa using hlz, beq_eq_false_iff_ne.mpr (Ne.symm (Nat.ne_of_lt I.big)), _, ?_, o, es', ep, k1, k2, k3, k4, k5⟩, rfl, q _ hf⟩
    have kt := kt_of (H := H) (zs := zs) fun z h => ⟨(z2 z h).1, (he _ (hm z h)).2⟩
    rw [List.map_map]
    exact KT.keeps kt fun b ys e => by rw [upd_ne (ne_of_none e hf)]; exact e
section
variable {X : Cx} {ρ : List SV} {d : PyData} {e : Expr} {p pos : Pos}
/-- the items of a list of (pair, value) -/
theorem items_dq {H : Hp} : ∀ {vs : List V} {kds : List (Pt × PyData)}, DqA H vs (kds.map fun z => .tuple [D z.1, z.2]) → ∃ es : List It4, vs = es.map (fun e => V.ref e.1) ∧ (es.map fun e => e.2.2.1) = kds.map (·.1) ∧ (∀ e ∈ es, H e.1 = some (.tup [.ref e.2.1, e.2.2.2]) ∧ H e.2.1 = some (.tup ((kC e.2.2.1).map kV))) ∧ KDq H (es.map fun e => (kC e.2.2.1, e.2.2.2)) kds
  | _, [], h => by cases h; exact ⟨[], rfl, rfl, fun e h => (nomatch h), .nil⟩
  | _, kd :: kds, h => by
    cases h with
    | cons h r =>
      obtain ⟨es, e1, e2, e3, e4⟩ := items_dq r
      cases h with
      | tup ht rt =>
        obtain ⟨v, u, rfl, dv, du⟩ := two_dq rt
        obtain ⟨b, rfl, hb⟩ := dq_pt dv
        refine ⟨(_, b, kd.1, u) :: es, by rw [List.map_cons, ← e1], by rw [List.map_cons, List.map_cons, e2], fun e he => ?_, .cons ⟨rfl, du⟩ e4⟩
        rcases List.mem_cons.mp he with y | y
        · rw [y]; exact ⟨ht, hb⟩
        · exact e3 e y
/-- dict(e), e a list of (pair, value), the pairs distinct -/
theorem pw_dictP {kds : List (Pt × PyData)} (hc : X.calm = true) (hu : X.A.units + 2 < cLine) (hm : X.mg "dict" = none) (h : PDA X ρ [e] [.list (kds.map fun z => .tuple [D z.1, z.2])]) (hn : (kds.map (·.1)).Nodup) (hg : Gl X "dict" := by rfl)
    (he : starEach [e] X.env = (false, eval e X.env) :: starEach [] X.env := by rfl) (hpl : (backTo pos (starEach [] X.env)).any (·.1) = false := by rfl) : PNew X ρ (.Call (.Name "dict" p) [e] [] pos) (oD kds) :=
  pe_imp (pe_callTy (cr_dictP hc hu) hg hm boot_dict' h (by decide) (by decide) he hpl) fun σ H Q ⟨H0, s, ev, q⟩ => ⟨H0, s, ev, fun vs H1 H' y dv => by
    obtain ⟨v, rfl, dw⟩ := one_dq dv
    cases dw with
    | lst hl r =>
      obtain ⟨es, e1, e2, e3, e4⟩ := items_dq r
      subst e1
      refine ⟨_, es, rfl, y.sub _ _ hl, fun e h => ⟨y.sub _ _ (e3 e h).1, y.sub _ _ (e3 e h).2⟩, by rw [e2]; exact hn, fun a ha => ?_⟩
      exact q a _ H1 _ (y.trans (.more y.sub ha _)) (y.s.free ha) (y.sub.free ha) upd_same ⟨_, rfl, e4⟩⟩
/-- {k: v} -/
theorem pw_disp1 {c : Pt} {ke ve : Expr} (hu : X.A.units + 1 < cLine) (hk : PD X ρ ke (D c)) (hv : PD X ρ ve d) : PNew X ρ (.Dict [some ke] [ve] pos) (oD [(c, d)]) := by
  refine ⟨fun pins s σ H Q I ⟨H0, sm, ev, q⟩ => ?_⟩
  have hn := I.hok.fresh (Nat.le_refl s.heap.objs.size)
  have I1 := I.laid (a := s.heap.objs.size) (o := .dT []) (h' := s.heap.push { cls := .type "dict", data := .dict #[] }) (t' := s.toks) (fun _ _ q => Heap.get?_push_of_some _ q) (Nat.le_refl _) (dt_empty s.heap I.big)
  have sub1 := (Ext.more sm hn (.dT [])).sub
  rw [arm_eval_Dict, zip_pairTrees _ _ _ _ rfl rfl, dictDisplay_pairs (pairTrees [some ke] [ve] X.env pos) (fun z => nomatch z) (by show 1 < 17; omega)]
  refine wpAny_bind (wpAny_standAt (wpAny_bind (wpAny_subDictH (knd := tupleKind (mixKind X.prog X.w)) (Q := fun d s' => wpAny (model X.prog X.w) X.A (pure (Value.ref d)) (EP X pins σ Q) X.xe s') (show X.A.units < cLine by omega) (by show 1 ≤ 15; omega) ?_)))
  refine thn ((pps_cons hk hv pps_nil).run pins _ σ _ (fun ps H2 => ∃ H02 b v, ps = [(.ref b, v)] ∧ Ext H0 (upd H s.heap.objs.size (.dT [])) H02 H2 ∧ H02 b = some (.tup ((kC c).map kV)) ∧ Dq H02 v d) I1
      ⟨H0, sub1, ev, fun v H1 H' x dv => ⟨H1, x.sub, ev.at x.s0, fun u H2 H'' y du => by
        obtain ⟨b, rfl, hb⟩ := dq_pt dv
        exact ⟨H2, b, u, rfl, x.trans y, y.s0 _ _ hb, du⟩⟩⟩) fun ws s2 ⟨ps, H2, I2, rel, H02, b, v, ep, x, hb, dv⟩ => ?_
  subst ep
  have hD : H2 s.heap.objs.size = some (.dT []) := x.s _ _ upd_same
  obtain ⟨z, hd, xs, r0, dd⟩ := dt_of I2.hok hD
  cases r0
  cases rel with
  | @cons _ w _ ws' rel1 rel2 =>
    cases rel2
    obtain ⟨w1, w2⟩ := w
    cases (show w1 = Value.ref b from rel1.1)
    refine ⟨[(kC c, b, w2)], ⟨rfl, rfl, key_of I2.hok (x.sub _ _ hb), trivial⟩, dd, fun h' tk hk' hs => wpAny_pure ?_⟩
    obtain ⟨o, es', ep, k1, k2, k3, k4, _, k5⟩ := hk'
    have kt : KT H2 [(kC c, v)] [(kC c, b, w2)] := .cons ⟨rfl, x.sub _ _ hb, rel1.2⟩ .nil
    have I3 : Inv X pins σ (upd H2 s.heap.objs.size (.dT [(kC c, v)])) { s2 with heap := h', toks := tk } :=
      d_write I2 (by rw [hD]; exact True.intro) hs ⟨o, k1⟩ ⟨by show 1 ≤ sizeLine; rw [sizeLine_eq]; omega, hd, _, kt.keeps fun e ys h => by rw [upd_ne (ne_of h hD (fun z => nomatch z))]; exact h, o, es', ep, k1, k2, k3, k4, k5⟩
    refine ⟨.ref s.heap.objs.size, _, I3, rfl, ?_⟩
    have x2 : Ext H0 H H02 H2 := ⟨x.s0, (same_new hn _).trans x.s, x.sub, fun a o h1 h2 h3 => x.out a o h1 (same_new hn _ _ _ h2) h3⟩
    have h0D : H02 s.heap.objs.size = none := x.out _ _ (sm.free hn) upd_same trivial
    exact q _ _ H02 _ (x2.mut hn h0D _) hn h0D upd_same ⟨_, rfl, .cons ⟨rfl, dv⟩ .nil⟩

/-! ### {k: v for ..} -/
theorem dt_store {X : Cx} {pins : List (Addr × Obj)} {σ : L2.St} {H : Hp} {s : Shared} {E : Value → Shared → Prop} {a b : Addr} {kvs : List (List Key × V)} {ks : List Key} {v : V} {u r : Value} {Q : Unit → Shared → Prop} (hu : X.A.units < cLine) (I : Inv X pins σ H s) (ha : H a = some (.dT kvs)) (hz : kvs.length < sizeLine)
    (hb : H b = some (.tup (ks.map kV))) (ru : RelV (.ref b) u) (rv : RelV v r) (h : ∀ s', Inv X pins σ (upd H a (.dT (putK kvs ks v))) s' → Q () s') : wpAny (model X.prog X.w) X.A (dictSet a u r) Q E s := by
  cases (show u = Value.ref b from ru)
  obtain ⟨z, hd, xs, rel, dd⟩ := dt_of I.hok ha
  refine wpAny_dictSet_heap (hsz := by rw [← Paired.length rel]; exact z) (knd := tupleKind (mixKind X.prog X.w)) hu (key_of I.hok hb) dd fun h' dd' hs => h _ ?_
  obtain ⟨o, es, ep, k1, k2, k3, k4, _, k5⟩ := dd'
  refine d_write I (by rw [ha]; exact True.intro) hs ⟨o, k1⟩ ⟨by have := length_putK kvs ks v; omega, hd, _, (rel.put ks hb rv).keeps fun c ys ec => ?_, o, es, ep, k1, k2, k3, k4, k5⟩
  rw [upd_ne (ne_of ec ha (fun z => nomatch z))]
  exact ec
/-- the dict of the first n turns -/
def dictN (c : Nat → Pt) (f : Nat → PyData) : Nat → List (Pt × PyData)
  | 0 => []
  | n + 1 => putP (dictN c f n) (c n) (f n)
theorem putP_length (kds : List (Pt × PyData)) (c : Pt) (d : PyData) : (putP kds c d).length ≤ kds.length + 1 := by
  unfold putP
  split
  · rw [List.length_map]; omega
  · rw [List.length_append]; exact Nat.le_refl _
theorem dictN_length (c : Nat → Pt) (f : Nat → PyData) : ∀ n, (dictN c f n).length ≤ n
  | 0 => Nat.le_refl _
  | n + 1 => by
    have h1 := dictN_length c f n
    have h2 := putP_length (dictN c f n) (c n) (f n)
    show (putP _ _ _).length ≤ _
    omega
/-- from the walked thing's iterator to the end of the block -/
theorem dict_core {ke ve tg iter : Expr} {scope : Scope} {own : List (Str × Nat)} {n : Nat} {dat : Nat → PyData} {ρ' : Nat → List SV} {is : List Nat} {c : Nat → Pt} {f : Nat → PyData} (hc : X.calm = true) (hu : X.A.units < cLine) (hN : X.N.Nodup)
    (hi : PDI X ρ tg iter n dat) (ok : BlkOk X.N X.env.scope scope own) (his : ∀ k ∈ is, k ∈ own.map (·.2)) (hz : n < sizeLine)
    (hg : ∀ j, j < n → Blk X scope fun Y => PDG Y (wipeS ρ (own.map (·.2))) tg (dat j) (ρ' j) is)
    (hk : ∀ j, j < n → Blk X scope fun Y => PD Y (ρ' j) ke (D (c j))) (hv : ∀ j, j < n → Blk X scope fun Y => PD Y (ρ' j) ve (f j)) (hs : ∀ x, foldedSetIterable iter X.env x = pure x)
    {pins : List (Addr × Obj)} {s : Shared} {σ : L2.St} {H : Hp} {Q : VK} {pos' : Pos} {use : Option (Value → Sem Unit)} {Qf : Value → Shared → Prop} (I : Inv X pins σ H s) (hq : tNw ρ (oD (dictN c f n)) σ H Q)
    (after : ∀ D C s' m H', Inv X pins σ H' s' → Q (.ref D) H' → s'.heap.Ns C m → FpOk X pins H' C → compPost (model X.prog X.w) X.A X.xe use Qf (.ref D) C (.ok .next) s') :
    wpAny (model X.prog X.w) X.A (comprehension (.DictComp ke ve [⟨tg, iter, [], 0⟩] scope pos) scope X.env pos' newDict false (eval iter X.env) use) Qf X.xe s := by
  obtain ⟨H0, sm, ev, q⟩ := hq
  have frees : ∀ y ∈ scope.names, y.2 = .free → ∃ cell, X.env.cells.lookup y.1 = some cell := fun y hy e => (ok.free y hy e).elim (fun k => I.ok.has _ (.inl k)) fun k => I.ok.has _ (.inr k)
  -- what stands when the block begins
  refine wpAny_comprehension_free (use := use) rfl hs (closure_ok frees) ok.kind (fun y hy e => by rw [ok.uniq y hy, e]) ?_
  refine thn (hi.run pins s σ H (fun J H2 => ∃ A G, Ext H0 H A H2 ∧ GoesD J n dat G ∧ G A) I ⟨H0, sm, ev, fun J A H2 G x gs gA => ⟨A, G, x, gs, gA⟩⟩) fun xv s1 w1 => thn w1 fun itv s2 ⟨it, fp, tn, J, H2, e, I2, T, st2, f2, A, G, x, gs, gA⟩ => ?_
  subst e
  refine wpAny_newObj_type (newEnv_comp ?_)
  have newD : H2 s2.heap.objs.size = none := I2.hok.fresh (Nat.le_refl _)
  generalize hs3 : ({ s2 with heap := s2.heap.push { cls := .type "dict", data := .dict #[] } } : Shared) = s3
  have h3 : s3.heap = s2.heap.push { cls := .type "dict", data := .dict #[] } := by rw [← hs3]
  have I3 : Inv X pins σ (upd H2 s2.heap.objs.size (.dT [])) s3 := by
    rw [← hs3]
    exact I2.laid (t' := s2.toks) (fun b o e => Heap.get?_push_of_some _ e) (Nat.le_refl _) (dt_empty s2.heap I2.big)
  generalize hDD : s2.heap.objs.size = DD at newD I3
  have fps : ∀ b ∈ fp, FpOk X pins (upd H2 DD (.dT [])) b ∧ b < s3.heap.objs.size := fun b hb => by
    obtain ⟨o, eo, _⟩ := T.obj _ _ st2 b hb
    have lt := Heap.lt_size eo
    refine ⟨⟨by rw [upd_ne (by rw [← hDD]; exact Nat.ne_of_lt lt)]; exact (f2 b hb).1, (f2 b hb).2⟩, ?_⟩
    rw [h3, Heap.size_push]
    exact Nat.lt_succ_of_lt lt
  have st3 : tn 0 s3.heap := T.keep _ _ _ st2 fun b _ o e => by rw [h3]; exact Heap.get?_push_of_some _ e
  -- the block's own context
  obtain ⟨cl, hcl⟩ : ∃ cl, cl = cellsFrom (s3.heap.objs.size + 1) scope.names (cloFrom X.env.cells scope.names []) := ⟨_, rfl⟩
  have I4 := block_start I3 ok hN fps
  rw [← hcl] at I4
  show codeAny _ _ (.compStart (.DictComp ke ve [⟨tg, iter, [], 0⟩] scope pos) 0 (.ref it) (.ref DD) (compEnvC scope (cellsFrom (s3.heap.objs.size + 1) scope.names (cloFrom X.env.cells scope.names [])) s3.heap.objs.size X.env)) _ _
  rw [← hcl]
  obtain ⟨Y, hY⟩ : ∃ Y, Y = X.blk s3 (upd H2 DD (.dT [])) scope (compEnvC scope cl s3.heap.objs.size X.env) fp := ⟨_, rfl⟩
  have gG : ∀ j, j < n → PDG Y (wipeS ρ (own.map (·.2))) tg (dat j) (ρ' j) is := fun j hj => by rw [hY]; exact hg j hj _ _ _ _ _
  have gK : ∀ j, j < n → PD Y (ρ' j) ke (D (c j)) := fun j hj => by rw [hY]; exact hk j hj _ _ _ _ _
  have gV : ∀ j, j < n → PD Y (ρ' j) ve (f j) := fun j hj => by rw [hY]; exact hv j hj _ _ _ _ _
  have gN := pts_nil (X := Y)
  have sto := fun {pins σ H s E a b kvs ks v u r Q} => @dt_store Y pins σ H s E a b kvs ks v u r Q
  have back : ∀ {σ' : L2.St} {H' : Hp} {s' : Shared}, Inv Y [] σ' H' s' → (∀ b ∈ fp, H' b = none) → ∀ b ∈ fp, FpOk Y [] H' b := by
    subst hY
    exact fun {σ' H' s'} I' hn b hb => ⟨hn b hb, (I'.ok.exf b hb).1, I'.ok.exfs b hb, .inl hb, fun y cell e => (I'.ok.exf b hb).2 y cell e, fun z hz => absurd (show z ∈ ([] : List (Addr × Obj)) ++ [] from hz) (by simp)⟩
  have sNC : s3.heap.objs.size = (compEnvC scope cl s3.heap.objs.size X.env).locals := rfl
  rw [← hY] at I4
  generalize hs4 : ({ s3 with heap := pushCells (s3.heap.push { cls := .type "dict", data := .dict #[] }) scope.names } : Shared) = s4 at I4 ⊢
  have st4 : tn 0 s4.heap := T.keep _ _ _ st3 fun b _ o e => by rw [← hs4]; exact pushCells_keeps _ _ _ _ (Heap.get?_push_of_some _ e)
  -- what is true ahead of the turn i
  obtain ⟨S, hS⟩ : ∃ S : Nat → Hp → Prop, S = fun i H' => ∃ H0' kvs, Ext A H2 H0' H' ∧ H0' DD = none ∧ H' DD = some (.dT kvs) ∧ KDq H0' kvs (dictN c f i) := ⟨_, rfl⟩
  have S0 : S 0 (upd H2 DD (.dT [])) := by rw [hS]; exact ⟨A, [], .more x.sub newD _, x.sub.free newD, upd_same, .nil⟩
  have evA : EnvD A ρ σ := ev.at x.s0
  have loop : codeAny (model X.prog X.w) X.A (.compLoop (.DictComp ke ve [⟨tg, iter, [], 0⟩] scope pos) 0 (.ref it) (.ref DD) (compEnvC scope cl s3.heap.objs.size X.env)) (compPost (model X.prog X.w) X.A X.xe use Qf (.ref DD) s3.heap.objs.size) s4 := by
    refine compLoop_anyD (fun m s' => ∃ i H', m = n - i ∧ i ≤ n ∧ Inv Y [] (L2.wipe σ (own.map (·.2))) H' s' ∧ tn i s'.heap ∧ (∀ b ∈ fp, H' b = none) ∧ S i H') ?_ n ⟨0, _, rfl, Nat.zero_le _, I4, st4, fun b hb => (fps b hb).1.1, S0⟩
    rintro m s5 ⟨i, H5, rfl, hin, I5, st5, n5, w5⟩
    have w5' := w5
    rw [hS] at w5
    obtain ⟨H05, kvs, xe, hD0, hDa, da⟩ := w5
    have gi : G H05 := gs.mono _ _ gA xe.s0
    by_cases hlt : i < n
    · have one := T.item Y (by rw [hY]) (by rw [hY]) (by rw [hY]) (by rw [hY]; exact hc) i [] s5 _ H5 (fun _ _ => False) I5 (back I5 n5) st5 (gs.go i hlt H05 H5 xe.sub gi)
      subst hY
      refine thnF one fun r s6 ⟨u, hr, h6⟩ => ?_
      subst hr
      refine thnF h6 fun _ s7 ⟨y, H7, I7, r7, y7, st7, n7⟩ => ?_
      obtain ⟨H07, x7, d7⟩ := gs.yld i hlt H05 H5 xe.sub gi y H7 y7
      refine thnF ((gG i hlt).run _ s7 _ H7 y u (fun σ8 H8 => H8 = H7 ∧ EnvD H07 (ρ' i) σ8 ∧ L2.wipe σ8 (own.map (·.2)) = L2.wipe σ (own.map (·.2))) (I7.pinned (back I7 n7) (T.obj _ _ st7)) r7
        ⟨H07, x7.sub, EnvD.wipe (evA.at (xe.s0.trans x7.s0)) _, d7, fun σ8 ev8 o8 => ⟨rfl, ev8, by rw [o8.wipe his]; exact wipe_wipe⟩⟩) fun _ s8 ⟨σ8, H8, I8, e8, ev8, w8⟩ => ?_
      subst e8
      refine thnF (gN.run _ s8 σ8 H8 (fun b H9 => b = true ∧ H9 = H8) I8 ⟨rfl, rfl⟩) fun b s9 ⟨H9, I9, eb, e9⟩ => ?_
      subst eb e9
      rw [if_pos rfl]
      refine thnF ((gK i hlt).run _ s9 σ8 H9 (fun v H10 => ∃ H010, Ext H07 H9 H010 H10 ∧ Dq H010 v (D (c i))) I9 ⟨H07, x7.sub, ev8, fun v H1 H' z dz => ⟨H1, z, dz⟩⟩) fun kv s10 ⟨yk, H10, I10, r10, H010, x10, d10⟩ => ?_
      refine thnF ((gV i hlt).run _ s10 σ8 H10 (fun v H11 => ∃ H011, Ext H010 H10 H011 H11 ∧ Dq H011 v (f i)) I10 ⟨H010, x10.sub, ev8.at x10.s0, fun v H1 H' z dz => ⟨H1, z, dz⟩⟩) fun vv s11 ⟨yv, H11, I11, r11, H011, x11, d11⟩ => ?_
      obtain ⟨bb, rfl, hb⟩ := dq_pt (d10.at x11.s0)
      have all := ((xe.trans x7).trans x10).trans x11
      have hD1 : H11 DD = some (.dT kvs) := x11.s _ _ (x10.s _ _ (x7.s _ _ hDa))
      have hD2 : H011 DD = none := x11.out _ _ (x10.out _ _ (x7.out _ _ hD0 hDa trivial) (x7.s _ _ hDa) trivial) (x10.s _ _ (x7.s _ _ hDa)) trivial
      have kl : kvs.length = (dictN c f i).length := Paired.length da
      refine sto hu I11 hD1 (by rw [kl]; exact Nat.lt_of_le_of_lt (dictN_length c f i) (by omega)) (x11.sub _ _ hb) r10 r11 fun s12 I12 => ⟨n - (i + 1), by omega, i + 1, upd H11 DD (.dT (putK kvs (kC (c i)) yv)), rfl, hlt, ?_, ?_, ?_, ?_⟩
      · have hl : (L2.wipe σ (own.map (·.2))).length = σ8.length := by rw [← w8, wipe_length]
        refine (I12.unpinned (pins := [])).weak hl fun j v e => ?_
        rw [← w8] at e
        exact (wipe_some e).1
      · exact T.keep _ _ _ st7 fun b hb o e => (I12.pin (b, o) (List.mem_append_right _ (List.mem_append_right _ (mem_pinsAt hb e)))).1
      · intro b hb
        obtain ⟨o, e, _⟩ := T.obj _ _ st7 b hb
        exact (I12.pin (b, o) (List.mem_append_right _ (List.mem_append_right _ (mem_pinsAt hb e)))).2.1
      · rw [hS]
        exact ⟨H011, _, all.mut newD hD2 _, hD2, upd_same, kdq_put (da.at (x7.s0.trans (x10.s0.trans x11.s0))) d11⟩
    · have e : i = n := by omega
      subst e
      have td := T.done Y (by rw [hY]) (by rw [hY]) (by rw [hY]) (by rw [hY]; exact hc) i [] s5 _ H5 (fun _ _ => False) I5 (back I5 n5) st5 (gs.stop H05 H5 xe.sub gi)
      subst hY
      refine thnF td fun r s6 ⟨hr, I6⟩ => ?_
      subst hr
      have I7 : Inv X pins σ H5 s6 := I3.call' (ch := fp) I6.os I6.base I6.hok I6.bare fun b hb => ⟨(fps b hb).1.2.2.2.1, (fps b hb).1.2.1, (fps b hb).1.2.2.2.2.1, (fps b hb).1.2.2.2.2.2⟩
      have nC : H5 s3.heap.objs.size = none := I6.free
      obtain ⟨m, hn, _⟩ := I6.loc
      exact after DD _ s6 m H5 I7 (q DD _ H05 _ (x.trans xe) (x.s.free newD) hD0 hDa ⟨kvs, rfl, da⟩) hn (I3.fpOk (H' := H5) (Nat.le_refl _) nC)
  exact codeAny_compStart_dict loop (T.self X.A 0 _ _ _ st4 loop)
theorem pw_dcN {ke ve tg iter : Expr} {scope : Scope} {own : List (Str × Nat)} {n : Nat} {dat : Nat → PyData} {ρ' : Nat → List SV} {is : List Nat} {c : Nat → Pt} {f : Nat → PyData} (hc : X.calm = true) (hu : X.A.units < cLine) (hN : X.N.Nodup)
    (hi : PDI X ρ tg iter n dat) (ok : BlkOk X.N X.env.scope scope own) (his : ∀ k ∈ is, k ∈ own.map (·.2)) (hz : n < sizeLine)
    (hg : ∀ j, j < n → Blk X scope fun Y => PDG Y (wipeS ρ (own.map (·.2))) tg (dat j) (ρ' j) is)
    (hk : ∀ j, j < n → Blk X scope fun Y => PD Y (ρ' j) ke (D (c j))) (hv : ∀ j, j < n → Blk X scope fun Y => PD Y (ρ' j) ve (f j)) (hs : ∀ x, foldedSetIterable iter X.env x = pure x := by intro _; rfl) :
    PNewC X ρ (.DictComp ke ve [⟨tg, iter, [], 0⟩] scope pos) (oD (dictN c f n)) where
  val := ⟨fun pins s σ H Q I h => by
    rw [arm_eval_DictComp]
    refine dict_core hc hu hN hi ok his hz hg hk hv hs I h fun L C s' m H' I' q hn ⟨f0, f1, _, f3, f4, f5⟩ => ⟨m, hn, fun h2 sb => ?_⟩
    exact ⟨.ref L, H', I'.turned (t' := s'.toks) (fun b o hb e => (sb.2 b hb).trans e) f0 f1 f3 f4 f5, rfl, q⟩⟩
  set := fun {i y py spos} hy hyl hsw => ⟨fun pins s σ H D I h => by
    rw [exec_Assign_Name_used _ _ _ _ hsw]
    refine wpAny_bind (wpAny_standAt (wpAny_bind ?_))
    show wpAny _ X.A (do let _ ← comprehension (.DictComp ke ve [⟨tg, iter, [], 0⟩] scope pos) scope X.env (firstIterPos [⟨tg, iter, [], 0⟩] pos) newDict false (eval iter X.env) (some (assign (.Name y py) X.env))) _ _ s
    have h : tNw ρ (oD (dictN c f n)) σ H (fun x H1 => gName i x σ H1 D.nx) := h
    refine wpAny_bind (thn (dict_core (Qf := fun _ s' => SP X pins D .next s') hc hu hN hi ok his hz hg hk hv hs I h fun L C s' m H' I' q hn ⟨f0, f1, _, f3, f4, f5⟩ => ?_) fun _ s' k => wpAny_pure (wpAny_pure k))
    show wpAny _ _ (assign (.Name y py) X.env (.ref L)) _ _ _
    refine wpAny_assign_Name (store_ok2 (v := V.ref L) I' hN hy (.inl hyl) rfl (fun s2 I2 ⟨b, sb, hb⟩ => ⟨m, hn.sameBut sb ?_, fun h3 sb3 => ⟨_, H', I2.turned (t' := s2.toks) (fun b o hb e => (sb3.2 b hb).trans e) f0 f1 f3 f4 f5, q⟩⟩) (.inr hyl))
    rcases hb with z | z
    · rw [z]; exact f1
    · exact fun e => f4 y b z e.symm⟩
end
end Hf

/-! ## HfJ -/
set_option Elab.async false
set_option linter.all false
set_option maxRecDepth 100000
set_option maxHeartbeats 1000000
/-! Own objects handed over or looked at; while; pairs of new objects. -/
namespace Hf
open L2 PySem PySem.Spec PyProof.Rows
open PySem.W (Datum DatumOrd Tup EachIs AllAlike Sortable dataLe)

theorem EnvD.re {H : Hp} {ρ : List SV} {σ : L2.St} {i : Nat} {s : SV} {v : Option V} (e : EnvD H ρ σ) (h : σ[i]? = some v) (q : slotOk H s v) : EnvD H (ρ.set i s) σ := by
  have z := EnvD.set (s := s) (v := v) q i e
  have e2 : σ.set i v = σ := by
    apply List.ext_getElem?
    intro k
    by_cases hk : i = k
    · subst hk
      rw [List.getElem?_set_self (List.getElem?_eq_some_iff.mp h).1, h]
    · rw [List.getElem?_set_ne hk]
  rw [e2] at z
  exact z
theorem EnvD.val {H : Hp} {ρ : List SV} {σ : L2.St} {i : Nat} {v : V} (e : EnvD H ρ σ) (h : ρ[i]? = some (.val v)) : σ[i]? = some (some v) := by
  obtain ⟨w, e1, e2⟩ := e.get h
  rw [e1, e2]
section
variable {X : Cx} {ρ ρ1 ρ2 ρ' : List SV} {M M1 M2 : Own} {L : List (Addr × OT)} {st : Stmt} {rest sts : List Stmt} {d : PyData} {ds : List PyData} {e : Expr} {pos : Pos} {t t2 : OT} {a b : Addr} {kds : List (Pt × PyData)}
/-! ### handed over -/
theorem pb_keepL (k i : Nat) (h : PB X (ρ.set i (.dat (.list ds))) (own (L.eraseIdx k)) sts d) (hL : L[k]? = some (a, oL ds) := by rfl) (hi : ρ[i]? = some (.val (.ref a)) := by rfl) : PB X ρ (own L) sts d :=
  pss_imp h fun De σ H ⟨B0, B, H0, x, ev, m, q⟩ => by
    obtain ⟨b1, b2, o, b3, xs, eo, b4⟩ := own_at m hL
    subst eo
    have sm := same_new b2 (.lst xs)
    exact ⟨B0, B, _, x.keep b1 b2 b3, (ev.at sm).re (ev.val hi) ⟨_, rfl, .lst upd_same (b4.at sm)⟩, own_keep m hL _, q⟩
theorem pns_keepL (k i : Nat) (h : PNs X (ρ.set i (.dat (.list ds))) ρ2 (own (L.eraseIdx k)) M2 sts) (hL : L[k]? = some (a, oL ds) := by rfl) (hi : ρ[i]? = some (.val (.ref a)) := by rfl) : PNs X ρ ρ2 (own L) M2 sts :=
  pss_imp h fun De σ H ⟨B0, B, H0, x, ev, m, q⟩ => by
    obtain ⟨b1, b2, o, b3, xs, eo, b4⟩ := own_at m hL
    subst eo
    have sm := same_new b2 (.lst xs)
    exact ⟨B0, B, _, x.keep b1 b2 b3, (ev.at sm).re (ev.val hi) ⟨_, rfl, .lst upd_same (b4.at sm)⟩, own_keep m hL _, fun σ' H0' H' x' s' => q σ' H0' H' x' (sm.trans s')⟩
theorem pb_keepD (k i : Nat) (h : PB X (ρ.set i (.dic kds)) (own (L.eraseIdx k)) sts d) (hL : L[k]? = some (a, oD kds) := by rfl) (hi : ρ[i]? = some (.val (.ref a)) := by rfl) : PB X ρ (own L) sts d :=
  pss_imp h fun De σ H ⟨B0, B, H0, x, ev, m, q⟩ => by
    obtain ⟨b1, b2, o, b3, xs, eo, b4⟩ := own_at m hL
    subst eo
    have sm := same_new b2 (.dT xs)
    exact ⟨B0, B, _, x.keep b1 b2 b3, (ev.at sm).re (ev.val hi) ⟨_, _, rfl, .inl upd_same, b4.at sm⟩, own_keep m hL _, q⟩
/-- name = a new dict that is only read from now on -/
theorem pn_dic (i : Nat) {x : Str} {p : Pos} (hN : X.N.Nodup) (h : PNew X ρ e (oD kds)) (hi : X.N[i]? = some x := by rfl) (hx : Loc X.env.scope x := by first | exact Or.inl rfl | exact Or.inr rfl)
    (hs : swapsWith e (some (.Name x p)) pos.line X.env = pure false := by rfl) (hf : X.fn x = true ∨ X.env.scope.names.lookup x = some .local := by first | exact .inl rfl | exact .inr rfl) : PN X ρ (ρ.set i (.dic kds)) M M (.Assign [.Name x p] e pos) :=
  ps_imp (ps_set hN hi hx h hs hf) fun D σ H ⟨B0, B, H0, x, ev, m, q⟩ => ⟨H0, x.sub, ev, fun a o H1 H' y h1 h2 h3 ⟨kvs, eo, r⟩ => by
    subst eo
    have z := y.keep h1 h2 h3
    have sm := same_new h2 (.dT kvs)
    exact q _ _ H' (x.trans z) z.s0 ((ev.at z.s0).set (s := .dic kds) ⟨_, _, rfl, .inl upd_same, r.at sm⟩ i) (M.st _ _ _ _ _ z m)⟩
/-- name = a comprehension -/
theorem pn_dicC (i : Nat) {x : Str} {p : Pos} (h : PNewC X ρ e (oD kds)) (hi : X.N[i]? = some x := by rfl) (hx : X.env.scope.names.lookup x = some .local := by rfl) (hs : swapsWith e (some (.Name x p)) pos.line X.env = pure true := by rfl) : PN X ρ (ρ.set i (.dic kds)) M M (.Assign [.Name x p] e pos) :=
  ps_imp (h.set hi hx hs) fun D σ H ⟨B0, B, H0, x, ev, m, q⟩ => ⟨H0, x.sub, ev, fun a o H1 H' y h1 h2 h3 ⟨kvs, eo, r⟩ => by
    subst eo
    have z := y.keep h1 h2 h3
    have sm := same_new h2 (.dT kvs)
    exact q _ _ H' (x.trans z) z.s0 ((ev.at z.s0).set (s := .dic kds) ⟨_, _, rfl, .inl upd_same, r.at sm⟩ i) (M.st _ _ _ _ _ z m)⟩
theorem pn_setC (i : Nat) {x : Str} {p : Pos} (h : PNewC X ρ e (oL ds)) (hi : X.N[i]? = some x := by rfl) (hx : X.env.scope.names.lookup x = some .local := by rfl) (hs : swapsWith e (some (.Name x p)) pos.line X.env = pure true := by rfl) : PN X ρ (ρ.set i (.dat (.list ds))) M M (.Assign [.Name x p] e pos) :=
  ps_imp (h.set hi hx hs) fun D σ H ⟨B0, B, H0, x, ev, m, q⟩ => ⟨H0, x.sub, ev, fun a o H1 H' y h1 h2 h3 ⟨xs, eo, r⟩ => by
    subst eo
    have z := y.keep h1 h2 h3
    have sm := same_new h2 (.lst xs)
    exact q _ _ H' (x.trans z) z.s0 ((ev.at z.s0).set (s := .dat (.list ds)) ⟨_, rfl, .lst upd_same (r.at sm)⟩ i) (M.st _ _ _ _ _ z m)⟩
/-- two new objects -/
def tNw2 (ρ : List SV) (t t2 : OT) : TA := fun σ H Q => ∃ H0, Same H0 H ∧ EnvD H0 ρ σ ∧ ∀ a b o o2 H0' H', Ext H0 H H0' H' → H a = none → H b = none → a ≠ b → H0' a = none → H0' b = none → H' a = some o → H' b = some o2 → t.ok H0' o → t2.ok H0' o2 → Q [.ref a, .ref b] H'
theorem pa_new2 {e2 : Expr} (h : PNew X ρ e t) (h2 : PNew X ρ e2 t2) (hs : starEach [e, e2] X.env = (false, eval e X.env) :: starEach [e2] X.env := by rfl) (hs2 : starEach [e2] X.env = (false, eval e2 X.env) :: starEach [] X.env := by rfl) : PA X [e, e2] (tNw2 ρ t t2) :=
  pa_imp (pa_cons h (pa_cons h2 pa_nil hs2) hs) fun σ H Q ⟨H0, s, ev, q⟩ => ⟨H0, s, ev, fun a o H1 H' x a1 a2 a3 a4 => ⟨H1, x.sub, ev.at x.s0, fun b o2 H2 H'' y b1 b2 b3 b4 => by
    have na := x.s.free b1
    refine q a b o o2 H2 H'' (x.trans y) a1 na ?_ (y.out _ _ a2 a3 (t.nt _ _ a4)) b2 (y.s _ _ a3) b3 (t.up _ _ _ y.s0 a4) b4
    intro z
    rw [← z, a3] at b1
    cases b1⟩⟩
/-- a, b = two new objects -/
theorem pb_par2 {i j : Nat} {x y : Str} {e2 : Expr} {px py pt : Pos} {kt k2 pt2} (hN : X.N.Nodup) (ha : PA X [e, e2] (tNw2 ρ t t2)) (r : ∀ a b, PB X ((ρ.set i (.val (.ref a))).set j (.val (.ref b))) (own ((a, t) :: (b, t2) :: L)) rest d) (hc : X.calm = true := by rfl) (hi : X.N[i]? = some x := by rfl) (hj : X.N[j]? = some y := by rfl) (hij : i ≠ j := by decide)
    (hx : X.env.scope.names.lookup x = some .local := by rfl) (hy : X.env.scope.names.lookup y = some .local := by rfl)
    (hw : swappedStores [.Tuple [.Name x px, .Name y py] kt pt] (.Tuple [e, e2] k2 pt2) X.env = pure (some [x, y]) := by rfl)
    (hs : swapsWithSole [.Tuple [.Name x px, .Name y py] kt pt] (.Tuple [e, e2] k2 pt2) pos.line X.env = pure false := by rfl) :
    PB X ρ (own L) (.Assign [.Tuple [.Name x px, .Name y py] kt pt] (.Tuple [e, e2] k2 pt2) pos :: rest) d :=
  pss_imp (pss_cons (ps_par hc hN hi hj hij hx hy ha hw hs) (pss_ex fun a => pss_ex (r a))) fun D σ H ⟨B0, B, H0, x, ev, m, q⟩ => ⟨H0, x.sub, ev, fun a b o o2 H1 H' y a1 b1 ne a2 b2 a3 b3 a4 b4 => by
    refine ⟨_, _, rfl, a, b, B0, B, H1, x.trans y, ((ev.at y.s0).set (s := .val (.ref a)) rfl i).set (s := .val (.ref b)) rfl j, ?_, q⟩
    have m1 := own_new ((own L).st _ _ _ _ _ y m) (own_mem m b1) (x.s.free b1) b2 b3 b4
    refine own_new m1 ?_ (x.s.free a1) a2 a3 a4
    intro z
    rcases List.mem_cons.mp z with z | z
    · exact ne z
    · exact own_mem m a1 z⟩
/-! ### looked at -/
open Classical in
noncomputable def lay (L : List (Addr × OT)) (H0 H : Hp) : Hp := fun b => if b ∈ L.map Prod.fst then H b else H0 b
theorem lay_in {H0 H : Hp} (h : a ∈ L.map Prod.fst) : lay L H0 H a = H a := if_pos h
theorem lay_out {H0 H : Hp} (h : a ∉ L.map Prod.fst) : lay L H0 H a = H0 a := if_neg h
theorem lay_0 {B H0 H : Hp} (m : (own L).p B H0 H) : Same H0 (lay L H0 H) := fun b o e => by
  rw [lay_out]
  · exact e
  · intro z
    obtain ⟨x, hx, rfl⟩ := List.mem_map.mp z
    rw [(m.2 x hx).2.1] at e
    cases e
theorem lay_1 {H0 H : Hp} (s : Same H0 H) : Same (lay L H0 H) H := fun b o e => by
  by_cases z : b ∈ L.map Prod.fst
  · rwa [lay_in z] at e
  · rw [lay_out z] at e; exact s b o e
/-- the slots with the own objects as if they were read -/
def Peek (ρ : List SV) (L : List (Addr × OT)) (ρ' : List SV) : Prop := ∀ B H0 H σ, (own L).p B H0 H → Same H0 H → EnvD H0 ρ σ → EnvD (lay L H0 H) ρ' σ
theorem Peek.refl : Peek ρ L ρ := fun B H0 H σ m s e => e.at (lay_0 m)
theorem mem_fst {k : Nat} (h : L[k]? = some (a, t)) : a ∈ L.map Prod.fst := List.mem_map.mpr ⟨_, List.mem_of_getElem? h, rfl⟩
theorem Peek.list (p : Peek ρ L ρ') (i k : Nat) (hi : ρ'[i]? = some (.val (.ref a)) := by rfl) (hL : L[k]? = some (a, oL ds) := by rfl) : Peek ρ L (ρ'.set i (.dat (.list ds))) := fun B H0 H σ m s e => by
  have e1 := p B H0 H σ m s e
  obtain ⟨_, _, o, h, xs, eo, r⟩ := own_at m hL
  subst eo
  exact e1.re (e1.val hi) ⟨_, rfl, .lst (by rw [lay_in (mem_fst hL)]; exact h) (r.at (lay_0 m))⟩
theorem Peek.dict (p : Peek ρ L ρ') (i k : Nat) (hi : ρ'[i]? = some (.val (.ref a)) := by rfl) (hL : L[k]? = some (a, oD kds) := by rfl) : Peek ρ L (ρ'.set i (.dic kds)) := fun B H0 H σ m s e => by
  have e1 := p B H0 H σ m s e
  obtain ⟨_, _, o, h, xs, eo, r⟩ := own_at m hL
  subst eo
  exact e1.re (e1.val hi) ⟨_, _, rfl, .inl (by rw [lay_in (mem_fst hL)]; exact h), r.at (lay_0 m)⟩
/-- a list of lists, all of one's own -/
theorem Peek.rows {bs : List Addr} {rs : List (List PyData)} (p : Peek ρ L ρ') (i k : Nat) (hb : bs.length = rs.length) (hr : ∀ (j : Nat) b r, bs[j]? = some b → rs[j]? = some r → ∃ (m : Nat), L[m]? = some (b, oL r)) (hi : ρ'[i]? = some (.val (.ref a)) := by rfl) (hL : L[k]? = some (a, oV (bs.map V.ref)) := by rfl) :
    Peek ρ L (ρ'.set i (.dat (.list (rs.map .list)))) := fun B H0 H σ m s e => by
  have e1 := p B H0 H σ m s e
  obtain ⟨_, _, o, h, eo⟩ := own_at m hL
  have eo : o = .lst (bs.map V.ref) := eo
  subst eo
  refine e1.re (e1.val hi) ⟨_, rfl, .lst (by rw [lay_in (mem_fst hL)]; exact h) ?_⟩
  have go : ∀ (bs : List Addr) (rs : List (List PyData)), bs.length = rs.length → (∀ (j : Nat) b r, bs[j]? = some b → rs[j]? = some r → ∃ (m : Nat), L[m]? = some (b, oL r)) → DqA (lay L H0 H) (bs.map V.ref) (rs.map .list) := by
    intro bs
    induction bs with
    | nil => intro rs hl _; cases rs with
      | nil => exact .nil
      | cons _ _ => cases hl
    | cons b bs ih =>
      intro rs hl hr
      cases rs with
      | nil => cases hl
      | cons r rs =>
        refine .cons ?_ (ih rs (by simpa using hl) fun j b r h1 h2 => hr (j + 1) b r (by simpa using h1) (by simpa using h2))
        obtain ⟨km, hm⟩ := hr 0 b r rfl rfl
        obtain ⟨_, _, o, h, xs, eo, q⟩ := own_at m hm
        subst eo
        exact .lst (by rw [lay_in (mem_fst hm)]; exact h) (q.at (lay_0 m))
  exact go bs rs hb hr
theorem ext_back {H0 H H' : Hp} (s : Same H0 H) (x : Same H H') : Ext H0 H H0 H' := ⟨.refl _, x, s.trans x, fun _ _ q _ _ => q⟩
/-- a test that looks at them -/
def tPT (ρ : List SV) (L : List (Addr × OT)) (c : Bool) : TT := fun σ H Q => ∃ B H0, Same H0 H ∧ EnvD H0 ρ σ ∧ (own L).p B H0 H ∧ ∀ H', Ext H0 H H0 H' → Q c H'
theorem pt_peek {c : Bool} (p : Peek ρ L ρ') (h : PDT X ρ' e c) : PT X e (tPT ρ L c) := pt_imp h fun σ H Q ⟨B, H0, s, ev, m, q⟩ => ⟨lay L H0 H, lay_1 s, p B H0 H σ m s ev, fun H1 H' x => q H' (ext_back s x.s)⟩
/-- a number that is read off them -/
def tPI (ρ : List SV) (L : List (Addr × OT)) (i : Int) : TE := fun σ H Q => ∃ B H0, Same H0 H ∧ EnvD H0 ρ σ ∧ (own L).p B H0 H ∧ ∀ H', Ext H0 H H0 H' → Q (.int i) H'
theorem pe_peek {i : Int} (p : Peek ρ L ρ') (h : PD X ρ' e (.int i)) : PE X e (tPI ρ L i) := pe_imp h fun σ H Q ⟨B, H0, s, ev, m, q⟩ => ⟨lay L H0 H, lay_1 s, p B H0 H σ m s ev, fun v H1 H' x d => by cases d; exact q H' (ext_back s x.s)⟩
theorem pn_ifO {c : Expr} {b : Bool} {body els : List Stmt} (p : Peek ρ L ρ') (hc : PDT X ρ' c b) (ht : b = true → PNs X ρ ρ1 (own L) M1 body) (hf : b = false → PNs X ρ ρ1 (own L) M1 els) : PN X ρ ρ1 (own L) M1 (.If c body els pos) := by
  cases b with
  | true => exact ps_imp (ps_if (pt_peek p hc) (ht rfl) pss_never) fun D σ H ⟨B0, B, H0, x, ev, m, q⟩ => ⟨B, H0, x.sub, ev, m, fun H' y => iteT ⟨B0, B, H0, x.trans y, ev, (own L).st _ _ _ _ _ y m, q⟩⟩
  | false => exact ps_imp (ps_if (pt_peek p hc) pss_never (hf rfl)) fun D σ H ⟨B0, B, H0, x, ev, m, q⟩ => ⟨B, H0, x.sub, ev, m, fun H' y => iteF ⟨B0, B, H0, x.trans y, ev, (own L).st _ _ _ _ _ y m, q⟩⟩
theorem pb_ifO {c : Expr} {b : Bool} {body rest : List Stmt} (p : Peek ρ L ρ') (hc : PDT X ρ' c b) (ht : b = true → PB X ρ (own L) body d) (hf : b = false → PB X ρ (own L) rest d) : PB X ρ (own L) (.If c body [] pos :: rest) d := by
  cases b with
  | true => exact pss_imp (pss_cons (ps_if (pt_peek p hc) (ht rfl) pss_nil) pss_never) fun D σ H ⟨B0, B, H0, x, ev, m, q⟩ => ⟨B, H0, x.sub, ev, m, fun H' y => iteT ⟨B0, B, H0, x.trans y, ev, (own L).st _ _ _ _ _ y m, q⟩⟩
  | false => exact pss_imp (pss_cons (ps_if (pt_peek p hc) pss_never pss_nil) (hf rfl)) fun D σ H ⟨B0, B, H0, x, ev, m, q⟩ => ⟨B, H0, x.sub, ev, m, fun H' y => iteF ⟨B0, B, H0, x.trans y, ev, (own L).st _ _ _ _ _ y m, q⟩⟩
/-- name = a number read off them -/
theorem pn_setO (i : Nat) {z : Int} {x : Str} {px : Pos} (p : Peek ρ L ρ') (hN : X.N.Nodup) (h : PD X ρ' e (.int z)) (hi : X.N[i]? = some x := by rfl) (hx : Loc X.env.scope x := by first | exact Or.inl rfl | exact Or.inr rfl)
    (hs : swapsWith e (some (.Name x px)) pos.line X.env = pure false := by rfl) (hf : X.fn x = true ∨ X.env.scope.names.lookup x = some .local := by first | exact .inl rfl | exact .inr rfl) : PN X ρ (ρ.set i (.dat (.int z))) (own L) (own L) (.Assign [.Name x px] e pos) :=
  ps_imp (ps_set hN hi hx (pe_peek p h) hs hf) fun D σ H ⟨B0, B, H0, x, ev, m, q⟩ => ⟨B, H0, x.sub, ev, m, fun H' y => q _ H0 H' (x.trans y) (.refl _) (ev.set (s := .dat (.int z)) ⟨_, rfl, .int z⟩ i) ((own L).st _ _ _ _ _ y m)⟩
/-- name[index] = number, a list of one's own -/
theorem pn_lset (k i : Nat) {z j : Int} {n : Nat} {ds' : List PyData} {x : Str} {px tp : Pos} {ie : Expr} (p : Peek ρ L ρ') (hv : PD X ρ' e (.int z)) (hie : PD X ρ' ie (.int j)) (hj : ixN ds.length j = some n) (hd : ds.set n (.int z) = ds' := by rfl) (hL : L[k]? = some (a, oL ds) := by rfl) (hi : ρ[i]? = some (.val (.ref a)) := by rfl) (hN : X.N[i]? = some x := by rfl)
    (hvis : Vis X.env.scope x := by first | exact Or.inl rfl | exact Or.inr (Or.inl rfl) | exact Or.inr (Or.inr rfl)) (hb1 : (x == ("__debug__" : Str)) = false := by decide) (hb2 : (x == ("__classdict__" : Str)) = false := by decide)
    (ha : ∀ v, assign (.Subscript (.Name x px) ie tp) X.env v = (do
      let ov ← holding [v] (eval (.Name x px) X.env)
      let iv ← holding [v, ov] (eval ie X.env)
      standAt tp
      holding [v, ov, iv] (setItem ov iv v)
      release [v, ov, iv] []) := by intro _; rfl)
    (hs : swapsWithSole [.Subscript (.Name x px) ie tp] e pos.line X.env = pure false := by rfl) (hw : swappedStores [.Subscript (.Name x px) ie tp] e X.env = pure none := by rfl)
    (h1 : (assignEach [.Subscript (.Name x px) ie tp] X.env).map (·.2) = [assign (.Subscript (.Name x px) ie tp) X.env] := by rfl) :
    PN X ρ ρ (own L) (own (L.set k (a, oL ds'))) (.Assign [.Subscript (.Name x px) ie tp] e pos) :=
  ps_imp (ps_asg (pe_peek p hv) (pg_sub (pv_at i hi hN hvis hb1 hb2) (pe_peek p hie) set_list ha) hs hw h1) fun De σ H ⟨B0, B, H0, x, ev, m, q⟩ => ⟨B, H0, x.sub, ev, m, fun H1 y => ⟨H0, ev, B, H0, (x.trans y).sub, ev, (own L).st _ _ _ _ _ y m, fun H2 y2 => by
    have m2 := (own L).st _ _ _ _ _ y2 ((own L).st _ _ _ _ _ y m)
    obtain ⟨b1, b2, o, b3, xs, eo, b4⟩ := own_at m2 hL
    subst eo
    refine ⟨a, xs, j, n, rfl, rfl, b3, by rw [b4.length]; exact hj, q σ H0 _ (((x.trans y).trans y2).mut b1 b2 _) (.refl _) ev (own_set m2 hL ⟨_, rfl, hd ▸ dqa_set b4⟩)⟩⟩⟩
where
  dqa_set {H : Hp} {z : Int} : ∀ {xs : List V} {ds : List PyData} {n : Nat}, DqA H xs ds → DqA H (xs.set n (.int z)) (ds.set n (.int z))
    | _, _, _, .nil => .nil
    | _, _, 0, .cons _ r => .cons (.int z) r
    | _, _, n + 1, .cons h r => .cons h (dqa_set r)
/-! ### while -/
theorem pn_while {c : Expr} {body : List Stmt} (n : Nat) (ρs ρe : Nat → List SV) (Ms : Nat → Own) (hp : PassesOwn (model X.prog X.w) X.A X.env X.xe) (hc : ∀ j, j < n → PDT X (ρs j) c true) (hd : PDT X (ρs n) c false) (h0 : leS ρ (ρs 0)) (hb : ∀ j, j < n → PNs X (ρs j) (ρe j) (Ms j) (Ms (j + 1)) body)
    (he : ∀ j, j < n → leS (ρe j) (ρs (j + 1))) : PN X ρ (ρs n) (Ms 0) (Ms n) (.While c body [] pos) := by
  have hc' : ∀ j, j ≤ n → PDT X (ρs j) c (decide (j < n)) := fun j hj => by
    by_cases h : j < n
    · rw [decide_eq_true h]; exact hc j h
    · have e : j = n := by omega
      subst e
      rw [decide_eq_false h]; exact hd
  refine ps_imp (ps_while (tc := fun σ H Q => ∃ j, j ≤ n ∧ tDT (ρs j) (decide (j < n)) σ H Q) (tb := anyS n fun j => tN (ρs j) (ρe j) (Ms j) (Ms (j + 1))) hp ⟨fun pins s σ H Q I ⟨j, hj, q⟩ => (hc' j hj).run pins s σ H Q I q⟩ (pss_any hb)) fun D σ H ⟨B0, B, H0, x, ev, m, q⟩ => ?_
  refine ⟨fun k σ' H' => ∃ i H0', k = n - i ∧ i ≤ n ∧ Ext B0 B H0' H' ∧ Same H0 H0' ∧ EnvD H0' (ρs i) σ' ∧ (Ms i).p B H0' H', ⟨n, 0, H0, by omega, Nat.zero_le _, x, .refl _, h0.env ev, m⟩, ?_⟩
  rintro k σ' H' ⟨i, H0', rfl, hin, x', s', ev', m'⟩
  refine ⟨i, hin, H0', x'.sub, ev', fun H1 H2 y => ?_⟩
  by_cases h : i < n
  · rw [decide_eq_true h]
    refine iteT ?_
    exact ⟨fun σ'' H'' => ∃ H0'', Ext B0 B H0'' H'' ∧ Same H0 H0'' ∧ EnvD H0'' (ρs (i + 1)) σ'' ∧ (Ms (i + 1)).p B H0'' H'', fun σ'' H'' ⟨H0'', z1, z2, z3, z4⟩ => ⟨n - (i + 1), by omega, i + 1, H0'', rfl, h, z1, z2, z3, z4⟩,
      i, h, B0, B, H1, x'.trans y, ev'.at y.s0, (Ms i).st _ _ _ _ _ y m', fun σ3 H03 H3 x3 s3 ev3 m3 => ⟨H03, x3, s'.trans (y.s0.trans s3), (he i h).env ev3, m3⟩⟩
  · have e : i = n := by omega
    subst e
    rw [decide_eq_false h]
    refine iteF ?_
    exact q σ' H1 H2 (x'.trans y) (s'.trans y.s0) (ev'.at y.s0) ((Ms i).st _ _ _ _ _ y m')
end
/-! ### a dict by a comprehension over items -/
theorem putP_new {kds : List (Pt × PyData)} {c : Pt} {d : PyData} (h : c ∉ kds.map (·.1)) : putP kds c d = kds ++ [(c, d)] := by
  unfold putP
  rw [if_neg]
  intro z
  obtain ⟨p, hp, e⟩ := List.any_eq_true.mp z
  exact h (List.mem_map.mpr ⟨p, hp, of_decide_eq_true e⟩)
theorem dictN_map {α : Type} (c : α → Pt) (f : α → PyData) (c' : Nat → Pt) (f' : Nat → PyData) (xs : List α) (hn : (xs.map c).Nodup) (h : ∀ (j : Nat) x, xs[j]? = some x → c' j = c x ∧ f' j = f x) : ∀ n, n ≤ xs.length → dictN c' f' n = (xs.take n).map fun x => (c x, f x)
  | 0, _ => rfl
  | n + 1, hl => by
    have hx : xs[n]? = some xs[n] := List.getElem?_eq_getElem (by omega)
    obtain ⟨h1, h2⟩ := h n _ hx
    show putP (dictN c' f' n) (c' n) (f' n) = _
    rw [dictN_map c f c' f' xs hn h n (by omega), List.take_add_one, hx, h1, h2]
    rw [putP_new]
    · rw [List.map_append]; rfl
    · rw [List.map_map]
      intro z
      obtain ⟨y, hy, e⟩ := List.mem_map.mp z
      obtain ⟨j, hj, ej⟩ := List.mem_take_iff_getElem.mp hy
      have h3 : j < n := by omega
      have := List.pairwise_iff_getElem.mp hn j n (by rw [List.length_map]; omega) (by rw [List.length_map]; omega) h3
      rw [List.getElem_map, List.getElem_map, ej] at this
      exact this e
section
variable {X : Cx} {ρ : List SV}
theorem pw_dcG {α : Type} {ke ve tg iter : Expr} {scope : Scope} {own : List (Str × Nat)} {pos : Pos} {n : Nat} {dat : Nat → PyData} (xs : List α) (g : α → PyData) (ρ' : α → List SV) {is : List Nat} (c : α → Pt) (f : Nat → α → PyData) (hc : X.calm = true) (hu : X.A.units < cLine) (hN : X.N.Nodup)
    (hi : PDI X ρ tg iter n dat) (hn : n = xs.length) (hdat : ∀ (j : Nat) a, xs[j]? = some a → dat j = g a) (ok : BlkOk X.N X.env.scope scope own) (his : ∀ k ∈ is, k ∈ own.map (·.2)) (hz : xs.length < sizeLine) (hnd : (xs.map c).Nodup)
    (hg : ∀ a ∈ xs, Blk X scope fun Y => PDG Y (wipeS ρ (own.map (·.2))) tg (g a) (ρ' a) is)
    (hk : ∀ a ∈ xs, Blk X scope fun Y => PD Y (ρ' a) ke (D (c a))) (fv : α → PyData) (hv : ∀ a ∈ xs, Blk X scope fun Y => PD Y (ρ' a) ve (fv a)) (hs : ∀ x, foldedSetIterable iter X.env x = pure x := by intro _; rfl) :
    PNewC X ρ (.DictComp ke ve [⟨tg, iter, [], 0⟩] scope pos) (oD (xs.map fun a => (c a, fv a))) := by
  subst hn
  have at_ : ∀ j, j < xs.length → ∃ a, xs[j]? = some a ∧ a ∈ xs := fun j hj => ⟨xs[j], List.getElem?_eq_getElem hj, List.getElem_mem hj⟩
  have e := dictN_map c fv (fun j => match xs[j]? with | some a => c a | none => (0, 0)) (fun j => match xs[j]? with | some a => fv a | none => .none) xs hnd (fun j a h => by simp only [h]; exact ⟨trivial, trivial⟩) xs.length (Nat.le_refl _)
  rw [List.take_length] at e
  rw [← e]
  refine pw_dcN (ρ' := fun j => match xs[j]? with | some a => ρ' a | none => ρ) hc hu hN hi ok his hz (fun j hj => ?_) (fun j hj => ?_) (fun j hj => ?_) hs
  · obtain ⟨a, h, hm⟩ := at_ j hj
    simp only [h]
    rw [hdat j a h]
    exact hg a hm
  · obtain ⟨a, h, hm⟩ := at_ j hj
    simp only [h]
    exact hk a hm
  · obtain ⟨a, h, hm⟩ := at_ j hj
    simp only [h]
    exact hv a hm
end
end Hf

/-! ## HfK -/
set_option Elab.async false
set_option linter.all false
set_option maxRecDepth 100000
set_option maxHeartbeats 1000000
/-! Typed rows: sorted, < of data of one type, min of a pair, len of a dict. -/
namespace Hf
open L2 PySem PySem.Spec PyProof.Rows
open PySem.W (Datum DatumOrd Tup EachIs AllAlike Sortable dataLe dataLt)

abbrev Cp : Type := Pt × Pt
abbrev Fl : Type := Tup Cp
def leT {α : Type} [DecidableEq α] [DatumOrd α] (a b : α) : Bool := !DatumOrd.lt b a
theorem leD_T {α : Type} [DecidableEq α] [DatumOrd α] (a b : α) : leD (D a) (D b) = leT a b := by
  unfold leD leT
  rw [PySem.W.dataLe_eq]
  show (!dataLt (D b) (D a)) = _
  rw [DatumOrd.lt_eq]
theorem sort_D {α : Type} [DecidableEq α] [DatumOrd α] (xs : List α) : (xs.map D).mergeSort leD = (xs.mergeSort leT).map D :=
  (PySem.W.sort_maps (r := leT) (s := leD) (f := fun x : α => D x) fun a _ b _ => (leD_T a b).symm).symm
theorem srt_ok {X : Cx} {α : Type} [DecidableEq α] [DatumOrd α] (xs : List α) (hl : xs.length ≤ sizeLine) (hk : Sortable (xs.map D)) (hu : X.A.units + 4 + Datum.depth α < cLine) : SrtOk X (xs.map D) where
  al := AllAlike.of fun a b => DatumOrd.alike a b
  sk := hk
  len := by rw [List.length_map]; exact hl
  dep := fun d hd => by
    obtain ⟨x, _, rfl⟩ := List.mem_map.mp hd
    exact Nat.lt_of_le_of_lt (Nat.add_le_add_left (Datum.depth_le x) _) hu
theorem srt_pt {X : Cx} (xs : List Pt) (hl : xs.length ≤ sizeLine) (hu : X.A.units + 4 + Datum.depth Pt < cLine) : SrtOk X (xs.map D) := srt_ok xs hl (Sortable.tuples fun b => ⟨_, _, rfl⟩) hu
theorem srt_cp {X : Cx} (xs : List Cp) (hl : xs.length ≤ sizeLine) (hu : X.A.units + 4 + Datum.depth Cp < cLine) : SrtOk X (xs.map D) := srt_ok xs hl (Sortable.tuples fun b => ⟨_, _, rfl⟩) hu
theorem srt_fl {X : Cx} (xs : List Fl) (hl : xs.length ≤ sizeLine) (hn : ∀ x ∈ xs, x.items ≠ []) (hu : X.A.units + 4 + Datum.depth Fl < cLine) : SrtOk X (xs.map D) := srt_ok xs hl (.inl fun d hd => by
  obtain ⟨x, hx, rfl⟩ := List.mem_map.mp hd
  obtain ⟨its⟩ := x
  cases its with
  | nil => exact absurd rfl (hn _ hx)
  | cons y ys => exact ⟨_, _, rfl⟩) hu
theorem depth_pt : Datum.depth Pt = 1 := rfl
theorem D_fl (cs : List Cp) : D (Tup.mk cs) = .tuple (cs.map D) := rfl
theorem D_pts (cs : List Pt) : D (Tup.mk cs) = .tuple (cs.map D) := rfl
/-! < -/
def rLtT (α : Type) [DecidableEq α] [DatumOrd α] : R2 := fun v u H Q => ∃ x y : α, Dq H v (D x) ∧ Dq H u (D y) ∧ Q (.bl (DatumOrd.lt x y)) H
section
variable {X : Cx} {ρ : List SV} {e e2 : Expr} {p pos : Pos} {d : PyData} {kds : List (Pt × PyData)}
theorem op_ltT {α : Type} [DecidableEq α] [DatumOrd α] (hu : X.A.units + Datum.depth α < cLine) : OpR X (compareOp .Lt) (rLtT α) := by
  intro pins s σ H x y v u Q I rx ry ⟨a, b, h1, h2, q⟩
  exact PySem.W.lt_datum (dq_holds I h1 rx) (dq_holds I h2 ry) hu ⟨.bl _, H, I, rfl, q⟩
theorem pd_ltT {α : Type} [DecidableEq α] [DatumOrd α] {x y : α} (hu : X.A.units + Datum.depth α < cLine) (ha : PD X ρ e (D x)) (hb : PD X ρ e2 (D y)) : PD X ρ (.Compare e [.Lt] [e2] pos) (.bool (DatumOrd.lt x y)) :=
  pd_cmp (op_ltT hu) ha hb (nomark _) fun v u H0 H Q s d1 d2 q => ⟨x, y, d1.at s, d2.at s, q _ _ _ (.refl s) (.bl _)⟩
/-! min of a pair -/
def rMin2 : List V → Hp → VK → Prop := fun vs H Q => ∃ (a : Addr) (i j : Int), vs = [.ref a] ∧ H a = some (.tup [.int i, .int j]) ∧ Q (.int (if j < i then j else i)) H
theorem cr_min2 (hc : X.calm = true) (hu : X.A.units + 1 < cLine) : CallR X (.builtin "min") rMin2 := by
  intro pins s σ H vs us Q I r ⟨a, i, j, e, ha, q⟩
  subst e
  obtain ⟨u, rfl, ru⟩ := vals1 r
  cases (show u = Value.ref a from ru)
  obtain ⟨_, its, rv, o, h1, h2, n, h3⟩ := (show ObjOk X.prog X.w H s.heap a (.tup [.int i, .int j]) from I.hok a _ ha)
  cases rv with
  | @cons _ u1 _ us r1 r2 =>
    cases r2 with
    | @cons _ u2 _ us2 r3 r4 =>
      cases r4
      obtain ⟨t1, rfl⟩ := r1
      obtain ⟨t2, rfl⟩ := r3
      refine PySem.W.min_tuple_datum (α := Int) (x := i) (xs := [j]) (I.ok.hd hc) ⟨o, h1, h2, n, h3⟩ (.cons (PySem.W.holds_int i t1) (.cons (PySem.W.holds_int j t2) .nil)) (by show X.A.units + 1 + 0 < cLine; omega) fun k v h' tk hv hm hk => ?_
      obtain ⟨t, rfl⟩ := PySem.W.int_of_holds hm
      refine ⟨.int _, H, I.kept (t' := tk) hk, ⟨t, rfl⟩, ?_⟩
      have e : PySem.W.minOf i [j] = if j < i then j else i := by
        show (if decide (j < i) = true then j else i) = _
        simp only [decide_eq_true_eq]
      rw [e]
      exact q
theorem pd_min2 {i j : Int} (hc : X.calm = true) (hu : X.A.units + 1 < cLine) (hm : X.mg "min" = none) (h : PDA X ρ [e] [D ((i, j) : Pt)]) (hs : starEach [e] X.env = (false, eval e X.env) :: starEach [] X.env := by rfl) (hpl : (backTo pos (starEach [] X.env)).any (·.1) = false := by rfl) (hg : Gl X "min" := by rfl) : PD X ρ (.Call (.Name "min" p) [e] [] pos) (.int (if j < i then j else i)) :=
  pd_callB (hg := hg) (he := hs) (hpl := hpl) (cr_min2 hc hu) hm boot_min' h fun vs H0 H Q s dv q => by
    obtain ⟨v, rfl, dq⟩ := one_dq dv
    obtain ⟨b, rfl, hb⟩ := dq_pt dq
    exact ⟨b, i, j, rfl, s _ _ hb, q _ _ _ (.refl s) (.int _)⟩
def rLenR : List V → Hp → VK → Prop := fun xs H Q => ∃ (p : Addr) (kvs : List (List Key × V)), xs = [.ref p] ∧ Rd H p (.dT kvs) ∧ Q (.int ((kvs.length : Nat) : Int)) H
theorem call_len_dR : CallR X (.builtin "len") rLenR := by
  intro pins s σ H xs us Q I r ⟨p, kvs, e, hp, q⟩
  subst e
  obtain ⟨u, rfl, rx⟩ := vals1 r
  cases (show u = Value.ref p from rx)
  obtain ⟨z, hd, ys, rel, dd⟩ := dt_rd I.hok hp
  have hl : kvs.length = ys.length := Paired.length rel
  refine call_len_dictH hd dd (by rw [← hl]; rw [sizeLine_eq] at z; omega) ⟨.int ys.length, H, I.tok _, ⟨_, rfl⟩, ?_⟩
  rw [← hl]
  exact q
/-- len of a dict in a slot -/
theorem pd_lenD (i : Nat) {x : Str} (hm : X.mg "len" = none) (hd : ρ[i]? = some (.dic kds) := by rfl) (hN : X.N[i]? = some x := by rfl) (hv : Vis X.env.scope x := by first | exact Or.inl rfl | exact Or.inr (Or.inl rfl) | exact Or.inr (Or.inr rfl))
    (hb1 : (x == ("__debug__" : Str)) = false := by decide) (hb2 : (x == ("__classdict__" : Str)) = false := by decide) {px : Pos} (hs : starEach [.Name x px] X.env = (false, eval (.Name x px) X.env) :: starEach [] X.env := by rfl) (hpl : (backTo pos (starEach [] X.env)).any (·.1) = false := by rfl) (hg : Gl X "len" := by rfl) :
    PD X ρ (.Call (.Name "len" p) [.Name x px] [] pos) (.int kds.length) := by
  refine ⟨fun pins s σ H Q I ⟨H0, sm, ev, q⟩ => ?_⟩
  obtain ⟨_, e1, a, kvs, rfl, rd, r⟩ := ev.get hd
  have hl : kvs.length = kds.length := Paired.length r
  have call : PE X (.Call (.Name "len" p) [.Name x px] [] pos) (tCB rLenR (tCons (tVar i) tNil)) := pe_callB call_len_dR hg hm boot_len' (pa_cons (pe_var hN hv hb1 hb2) pa_nil hs) (by decide) (by decide) hs hpl
  refine call.run pins s σ H Q I ⟨.ref a, e1, a, kvs, rfl, same_rd sm rd, ?_⟩
  rw [hl]
  exact q _ _ _ (.refl sm) (.int _)
end
end Hf

/-! ## HfM -/
set_option Elab.async false
set_option linter.all false
set_option maxRecDepth 100000
set_option maxHeartbeats 1000000
/-! For over the items of a list, the slots ahead kept. -/
namespace Hf
open L2 PySem PySem.Spec PyProof.Rows
open PySem.W (Datum DatumOrd Tup EachIs AllAlike Sortable dataLe dataLt)
section
variable {X : Cx} {ρ ρ1 ρ2 : List SV} {M M1 : Own} {st : Stmt} {sts body : List Stmt} {iter e : Expr} {pos : Pos}
theorem pns_w (h : PNs X ρ ρ1 M M1 sts) (l : leS ρ1 ρ2 := by repeat (first | exact trivial | refine ⟨Or.inr rfl, ?_⟩ | refine ⟨Or.inl rfl, ?_⟩)) : PNs X ρ ρ2 M M1 sts := pns_weak h l
theorem pn_w (h : PN X ρ ρ1 M M1 st) (l : leS ρ1 ρ2 := by repeat (first | exact trivial | refine ⟨Or.inr rfl, ?_⟩ | refine ⟨Or.inl rfl, ?_⟩)) : PN X ρ ρ2 M M1 st := pn_weak h l
theorem pn_ifK {ρ' : List SV} {L : List (Addr × OT)} {c : Expr} {b : Bool} {els : List Stmt} (p : Peek ρ L ρ') (hc : PDT X ρ' c b) (ht : b = true → PNs X ρ ρ (own L) M1 body) (hf : b = false → PNs X ρ ρ (own L) M1 els) : PN X ρ ρ (own L) M1 (.If c body els pos) := pn_ifO p hc ht hf
theorem pn_eq {M' M1' : Own} (h : PN X ρ ρ1 M M1 st) (e0 : M' = M) (e1 : M1 = M1') : PN X ρ ρ1 M' M1' st := by subst e0 e1; exact h
theorem pns_eq {M' M1' : Own} (h : PNs X ρ ρ1 M M1 sts) (e0 : M' = M) (e1 : M1 = M1') : PNs X ρ ρ1 M' M1' sts := by subst e0 e1; exact h
theorem atm {α : Type} {xs : List α} {g : α → PyData} {j : Nat} (h : j < (xs.map g).length) : ∃ a, xs[j]? = some a ∧ (xs.map g).getD j .none = g a := by
  rw [List.length_map] at h
  exact ⟨xs[j], List.getElem?_eq_getElem h, getD_map (List.getElem?_eq_getElem h)⟩
/-- for name in iter -/
theorem pn_for1 {α : Type} (i : Nat) (xs : List α) (g : α → PyData) (Ms : Nat → Own) {x : Str} {px : Pos} (hN : X.N.Nodup) (hi : PDI X ρ (.Name x px) iter (xs.map g).length (fun j => (xs.map g).getD j .none))
    (hb : ∀ (j : Nat) a, xs[j]? = some a → PNs X (ρ.set i (.dat (g a))) ρ (Ms j) (Ms (j + 1)) body) (hp : PassesOwn (model X.prog X.w) X.A X.env X.xe := by exact PassesOwn.never) (hc : X.calm = true := by rfl) (hi' : X.N[i]? = some x := by rfl) (hx : Loc X.env.scope x := by first | exact Or.inl rfl | exact Or.inr rfl)
    (hf : X.fn x = true ∨ X.env.scope.names.lookup x = some .local := by first | exact .inl rfl | exact .inr rfl) (hs : ∀ x, foldedSetIterable iter X.env x = pure x := by intro _; rfl) : PN X ρ ρ (Ms 0) (Ms xs.length) (.For (.Name x px) iter body [] pos) := by
  have z := pn_for (fun _ => ρ) (fun j => ρ.set i (.dat ((xs.map g).getD j .none))) (fun _ => ρ) Ms (is := fun _ => [i]) hp hc hi (leS.refl _) (fun j hj => pdg i hN hi' hx hf) (fun j hj => by
    obtain ⟨a, h1, h2⟩ := atm hj
    rw [h2]
    exact hb j a h1) (fun j hj => leS.refl _) hs (pos := pos)
  rwa [List.length_map] at z
/-- for x, y in iter, pairs of numbers -/
theorem pn_for2 (i k : Nat) (xs : List Pt) (Ms : Nat → Own) {x y : Str} {px py pt : Pos} {kt : Nat} (hN : X.N.Nodup) (hi : PDI X ρ (.Tuple [.Name x px, .Name y py] kt pt) iter (xs.map D).length (fun j => (xs.map D).getD j .none))
    (hb : ∀ (j : Nat) (a : Pt), xs[j]? = some a → PNs X ((ρ.set i (.dat (.int a.1))).set k (.dat (.int a.2))) ρ (Ms j) (Ms (j + 1)) body) (hp : PassesOwn (model X.prog X.w) X.A X.env X.xe := by exact PassesOwn.never) (hc : X.calm = true := by rfl) (hi' : X.N[i]? = some x := by rfl) (hk' : X.N[k]? = some y := by rfl)
    (hx : Loc X.env.scope x := by first | exact Or.inl rfl | exact Or.inr rfl) (hy : Loc X.env.scope y := by first | exact Or.inl rfl | exact Or.inr rfl)
    (hf : X.fn x = true ∨ X.env.scope.names.lookup x = some .local := by first | exact .inl rfl | exact .inr rfl) (hf2 : X.fn y = true ∨ X.env.scope.names.lookup y = some .local := by first | exact .inl rfl | exact .inr rfl)
    (hn : (assignEach [.Name x px, .Name y py] X.env).length = 2 := by rfl) (hst : (assignEach [.Name x px, .Name y py] X.env).findIdx? (·.1) = none := by rfl)
    (hs1 : (assignEach [.Name x px, .Name y py] X.env).map (·.2) = assign (.Name x px) X.env :: (assignEach [.Name y py] X.env).map (·.2) := by rfl) (hs2 : (assignEach [.Name y py] X.env).map (·.2) = assign (.Name y py) X.env :: (assignEach [] X.env).map (·.2) := by rfl)
    (hs : ∀ x, foldedSetIterable iter X.env x = pure x := by intro _; rfl) : PN X ρ ρ (Ms 0) (Ms xs.length) (.For (.Tuple [.Name x px, .Name y py] kt pt) iter body [] pos) := by
  have z := pn_for (fun _ => ρ) (fun j => match xs[j]? with | some a => (ρ.set i (.dat (.int a.1))).set k (.dat (.int a.2)) | none => ρ) (fun _ => ρ) Ms (is := fun _ => [i] ++ ([k] ++ [])) hp hc hi (leS.refl _) (fun j hj => by
    obtain ⟨a, h1, h2⟩ := atm hj
    rw [h2]
    simp only [h1]
    exact pdg_tup (ds := [.int a.1, .int a.2]) hc (pdgs_cons (pdg i hN hi' hx hf) (pdgs_cons (pdg k hN hk' hy hf2) pdgs_nil hs2) hs1) rfl hn hst) (fun j hj => by
    obtain ⟨a, h1, h2⟩ := atm hj
    simp only [h1]
    exact hb j a h1) (fun j hj => leS.refl _) hs (pos := pos)
  rwa [List.length_map] at z
theorem pd_lcg {α : Type} (xs : List α) (g : α → PyData) (j : Nat) (a : α) (h : xs[j]? = some a) : (xs.map g).getD j .none = g a := getD_map h
/-- x, y = e -/
theorem pn_pair (i k : Nat) {a : Pt} {x y : Str} {px py pt : Pos} {kt : Nat} (hN : X.N.Nodup) (h : PD X ρ e (D a)) (hc : X.calm = true := by rfl) (hi' : X.N[i]? = some x := by rfl) (hk' : X.N[k]? = some y := by rfl)
    (hx : Loc X.env.scope x := by first | exact Or.inl rfl | exact Or.inr rfl) (hy : Loc X.env.scope y := by first | exact Or.inl rfl | exact Or.inr rfl)
    (hf : X.fn x = true ∨ X.env.scope.names.lookup x = some .local := by first | exact .inl rfl | exact .inr rfl) (hf2 : X.fn y = true ∨ X.env.scope.names.lookup y = some .local := by first | exact .inl rfl | exact .inr rfl)
    (hn : (assignEach [.Name x px, .Name y py] X.env).length = 2 := by rfl) (hst : (assignEach [.Name x px, .Name y py] X.env).findIdx? (·.1) = none := by rfl)
    (hs1 : (assignEach [.Name x px, .Name y py] X.env).map (·.2) = assign (.Name x px) X.env :: (assignEach [.Name y py] X.env).map (·.2) := by rfl) (hs2 : (assignEach [.Name y py] X.env).map (·.2) = assign (.Name y py) X.env :: (assignEach [] X.env).map (·.2) := by rfl)
    (hs : swapsWithSole [.Tuple [.Name x px, .Name y py] kt pt] e pos.line X.env = pure false := by rfl) (hw : swappedStores [.Tuple [.Name x px, .Name y py] kt pt] e X.env = pure none := by rfl)
    (h1 : (assignEach [.Tuple [.Name x px, .Name y py] kt pt] X.env).map (·.2) = [assign (.Tuple [.Name x px, .Name y py] kt pt) X.env] := by rfl) :
    PN X ρ ((ρ.set i (.dat (.int a.1))).set k (.dat (.int a.2))) M M (.Assign [.Tuple [.Name x px, .Name y py] kt pt] e pos) :=
  pn_asg h (pdg_tup (ds := [.int a.1, .int a.2]) hc (pdgs_cons (pdg i hN hi' hx hf) (pdgs_cons (pdg k hN hk' hy hf2) pdgs_nil hs2) hs1) rfl hn hst) hs hw h1
end
end Hf

/-! ## HfS -/
set_option Elab.async false
set_option linter.all false
set_option maxRecDepth 100000
set_option maxHeartbeats 1000000
/-! Sets whose elements are tuples of numbers, and tuples of such tuples; all elements differ. -/
namespace Hf
open L2 PySem PySem.Spec PyProof.Rows
open PySem.W (Datum DatumOrd Tup EachIs AllAlike Sortable dataLe dataLt)

section
variable {P : Program} {w : World}
mutual
def numK : NestedKey → Bool
  | .num _ => true
  | .tup ks => numKs ks
  | .none => false
  | .text _ => false
def numKs : List NestedKey → Bool
  | [] => true
  | k :: ks => numK k && numKs ks
end
/-- v is of no class statement; its hash is by value -/
def NoCls (P : Program) (w : World) (n : Nat) (s : Shared) (v : Value) : Prop := ∀ (A : Around) (E : Value → Shared → Prop) (Q : Bool → Shared → Prop), Q false s → wpAny (model P w) A (ofAClassStatement n v) Q E s
def ByVal (P : Program) (w : World) (n : Nat) (s : Shared) (v : Value) : Prop := ∀ (A : Around) (E : Value → Shared → Prop) (Q : Bool → Shared → Prop), Q true s → wpAny (model P w) A (hashByValue n v) Q E s
theorem nocls_tup {n m : Nat} {s : Shared} {a : Addr} {o : Obj} {vs : Array Value} (ho : s.heap.get? a = some o) (hc : o.cls = .type "tuple") (hd : o.data = .seq vs m) (all : ∀ v ∈ vs.toList, NoCls P w n s v) : NoCls P w (n + 1) s (.ref a) := fun A E Q q => by
  unfold ofAClassStatement
  refine wpAny_bind (wpAny_typeOf ⟨o, ho, hc⟩ ?_)
  dsimp only
  rw [if_pos (show (("tuple" : String) == "tuple") = true by decide)]
  refine wpAny_bind (wpAny_pure ?_)
  rw [if_neg (by decide)]
  try refine wpAny_bind (wpAny_pure ?_)
  refine wpAny_bind (wpAny_seqItems ho hd ?_)
  dsimp only
  refine wpAny_bind ?_
  show wpAny _ _ (forIn vs _ _) _ _ s
  rw [← Array.forIn_toList]
  refine wpAny_forIn_list _ (fun rest r t => r.1 = none ∧ t = s ∧ ∀ v ∈ rest, NoCls P w n s v) _ (fun v rest r t ⟨h1, h2, h3⟩ => ?_) (fun r t ⟨h1, h2, _⟩ => ?_) _ _ ⟨rfl, rfl, all⟩
  · subst h2
    refine wpAny_bind (h3 v (List.mem_cons_self ..) _ _ _ ?_)
    simp only [Bool.false_eq_true, if_false]
    exact wpAny_pure ⟨rfl, rfl, fun u hu => h3 u (List.mem_cons_of_mem _ hu)⟩
  · obtain ⟨r1, r2⟩ := r
    simp only at h1
    subst h1 h2
    exact wpAny_pure q
theorem byval_tup {n m : Nat} {s : Shared} {a : Addr} {o : Obj} {vs : Array Value} (ho : s.heap.get? a = some o) (hc : o.cls = .type "tuple") (hd : o.data = .seq vs m) (all : ∀ v ∈ vs.toList, ByVal P w n s v) : ByVal P w (n + 1) s (.ref a) := fun A E Q q => by
  unfold hashByValue
  refine wpAny_bind (wpAny_specialOf ⟨o, ho, hc⟩ F.slot_tuple_hash.lookup ?_)
  show wpAny _ _ (seqItems? (.ref a) >>= _) _ _ s
  refine wpAny_bind (wpAny_seqItems ho hd ?_)
  refine wpAny_bind ?_
  show wpAny _ _ (forIn vs _ _) _ _ s
  rw [← Array.forIn_toList]
  refine wpAny_forIn_list _ (fun rest r t => r.1 = none ∧ t = s ∧ ∀ v ∈ rest, ByVal P w n s v) _ (fun v rest r t ⟨h1, h2, h3⟩ => ?_) (fun r t ⟨h1, h2, _⟩ => ?_) _ _ ⟨rfl, rfl, all⟩
  · subst h2
    refine wpAny_bind (h3 v (List.mem_cons_self ..) _ _ _ ?_)
    simp only [Bool.not_true, Bool.false_eq_true, if_false]
    exact wpAny_pure ⟨rfl, rfl, fun u hu => h3 u (List.mem_cons_of_mem _ hu)⟩
  · obtain ⟨r1, r2⟩ := r
    simp only at h1
    subst h1 h2
    exact wpAny_pure q
mutual
theorem key_small : ∀ (k : NestedKey) (v : Value) (n : Nat) (s : Shared), NestedIs s.heap k v → numK k = true → k.depth ≤ n → NoCls P w n s v ∧ ByVal P w n s v
  | .none, _, _, _, _, hk, _ => nomatch hk
  | .text _, _, _, _, _, hk, _ => nomatch hk
  | .num i, _, n, s, x, _, _ => by
    cases x with
    | bool e => exact ⟨fun A E Q q => by cases n <;> exact wpAny_pure q, fun A E Q q => by cases n <;> exact wpAny_pure q⟩
    | int _ t => exact ⟨fun A E Q q => by cases n <;> exact wpAny_pure q, fun A E Q q => by cases n <;> exact wpAny_pure q⟩
  | .tup ks, _, n, s, x, hk, hn => by
    cases x with
    | tup h1 h2 h3 h4 =>
      simp only [NestedKey.depth] at hn
      cases n with
      | zero => omega
      | succ n =>
        have z := keys_small ks _ n s h4 (by simpa [numK] using hk) (by omega)
        exact ⟨nocls_tup h1 h2 h3 fun v hv => (z v hv).1, byval_tup h1 h2 h3 fun v hv => (z v hv).2⟩
theorem keys_small : ∀ (ks : List NestedKey) (vs : List Value) (n : Nat) (s : Shared), NestedAll s.heap ks vs → numKs ks = true → NestedKey.depthAll ks ≤ n → ∀ v ∈ vs, NoCls P w n s v ∧ ByVal P w n s v
  | [], _, _, _, x, _, _, v, hv => by cases x; cases hv
  | k :: ks, _, n, s, x, hk, hn, v, hv => by
    cases x with
    | cons x1 x2 =>
      simp only [NestedKey.depthAll] at hn
      simp only [numKs, Bool.and_eq_true] at hk
      rcases List.mem_cons.mp hv with e | hv
      · rw [e]; exact key_small k _ n s x1 hk.1 (by omega)
      · exact keys_small ks _ n s x2 hk.2 (by omega) v hv
end
/-- the object at a is the key k -/
structure KeyAt (h : Heap) (p : Addr × NestedKey) : Prop where
  is : NestedIs h p.2 (.ref p.1)
  dep : p.2.depth ≤ 8
  num : numK p.2 = true
theorem KeyAt.keep {h h' : Heap} {p : Addr × NestedKey} (x : KeyAt h p) (k : ∀ a o vs n, h.get? a = some o → o.data = .seq vs n → h'.get? a = some o) : KeyAt h' p := ⟨x.is.at k _ _, x.dep, x.num⟩
def hN (w : World) (k : NestedKey) : Int := k.hash w
def rowN (w : World) (p : Addr × NestedKey) : Int × Value := (hN w p.2, .ref p.1)
/-- the set at a with the elements L, in the table's order -/
structure NS (P : Program) (w : World) (h : Heap) (a : Addr) (L : List (Addr × NestedKey)) (es : Array (Int × Value)) (ep : Nat) (t : SetTable) : Prop where
  ob : ∃ o, h.get? a = some o ∧ o.ExactSet ∧ o.data = .set es ep t
  rows : es.toList = L.map (rowN w)
  tab : TabOk t (L.map fun p => hN w p.2)
  plain : t.plain = true
  led : w.params.followText "set-order" = true ∨ t.led = true
  room : L.length * 5 < t.mask * 3
  few : L.length < 64
variable {h : Heap} {a : Addr} {L : List (Addr × NestedKey)} {es : Array (Int × Value)} {ep : Nat} {t : SetTable} {A : Around} {E : Value → Shared → Prop} {s : Shared}
theorem NS.size (R : NS P w h a L es ep t) : es.size = L.length := by
  have q := congrArg List.length R.rows
  rwa [Array.length_toList, List.length_map] at q
theorem NS.fits (R : NS P w h a L es ep t) : t.fits es.size = true := by
  have h1 := R.tab.sz
  have h2 := R.size
  have h3 := R.room
  rw [List.length_map] at h1
  unfold SetTable.fits SetTable.fill
  rw [R.tab.dm, Bool.and_eq_true, beq_iff_eq, decide_eq_true_eq]
  exact ⟨by omega, by show t.place.size + 0 ≤ t.mask; omega⟩
theorem NS.at (R : NS P w h a L es ep t) {i : Nat} {p : Addr × NestedKey} (e : L[i]? = some p) : es[i]? = some (rowN w p) := by
  rw [← Array.getElem?_toList, R.rows, List.getElem?_map, e]; rfl
theorem NS.low (R : NS P w h a L es ep t) {i j : Nat} (e : t.place.toList[i]? = some j) : ∃ p, L[i]? = some p := by
  have h1 := (List.getElem?_eq_some_iff.mp e).1
  have h2 := R.tab.sz
  rw [List.length_map] at h2
  rw [Array.length_toList] at h1
  exact ⟨L[i]'(by omega), List.getElem?_eq_getElem _⟩
/-- nothing is shown by the search -/
theorem unseen {x : Addr × NestedKey} {Q : Bool → Shared → Prop} (hx : KeyAt s.heap x) {ys : List Value} (hy : ∀ y ∈ ys, ∃ p, y = Value.ref p.1 ∧ KeyAt s.heap p) (q : Q false s) : wpAny (model P w) A (searchCouldBeSeen (.ref x.1) ys) Q E s := by
  unfold searchCouldBeSeen
  refine wpAny_bind (wpAny_forIn_list _ (fun rest r t => r.1 = none ∧ t = s ∧ ∀ y ∈ rest, ∃ p, y = Value.ref p.1 ∧ KeyAt s.heap p) _ (fun v rest r t ⟨h1, h2, h3⟩ => ?_) (fun r t ⟨h1, h2, _⟩ => ?_) _ _ ⟨rfl, rfl, hy⟩)
  · subst h2
    obtain ⟨p, ep, hp⟩ := h3 v (List.mem_cons_self ..)
    subst ep
    have more : ∀ y ∈ rest, ∃ p, y = Value.ref p.1 ∧ KeyAt t.heap p := fun u hu => h3 u (List.mem_cons_of_mem _ hu)
    dsimp only
    by_cases c : (x.1 == p.1 || (carriedByValue (.ref x.1) && carriedByValue (.ref p.1))) = true
    · exact wp_if_pos c (wpAny_pure ⟨rfl, rfl, more⟩)
    · refine wp_if_neg c ?_
      refine wpAny_bind (quiet_key x.2 _ 8 _ hx.is hx.dep _ _ _ ?_)
      simp only [Bool.not_true, Bool.false_eq_true, if_false]
      refine wpAny_bind (quiet_key p.2 _ 8 _ hp.is hp.dep _ _ _ ?_)
      simp only [Bool.not_true, Bool.false_eq_true, if_false]
      refine wpAny_bind ((key_small x.2 _ 8 _ hx.is hx.num hx.dep).1 _ _ _ ?_)
      simp only [Bool.false_eq_true, if_false]
      refine wpAny_bind ((key_small p.2 _ 8 _ hp.is hp.num hp.dep).1 _ _ _ ?_)
      simp only [Bool.false_eq_true, if_false]
      exact wpAny_pure ⟨rfl, rfl, more⟩
  · obtain ⟨r1, r2⟩ := r
    simp only at h1
    subst h1 h2
    exact wpAny_pure q
abbrev st0 (m : Nat) (h : Int) : SetTable.Probe := runAt m (SetTable.bits h % (m + 1)) (SetTable.bits h)
theorem nth_dummy (m : Nat) : ∀ (n : Nat) (p : SetTable.Probe), p.dummy = none → (nth m p n).dummy = none
  | 0, _, h => h
  | n + 1, p, h => nth_dummy m n (adv m p) (by unfold adv; split <;> exact h)
/-- the search for what isn't there, from the c-th step on -/
theorem hunt (R : NS P w s.heap a L es ep t) (keys : ∀ p ∈ L, KeyAt s.heap p) {x : Addr × NestedKey} (hx : KeyAt s.heap x) (hu : A.units + 8 < cLine) (no : x.2 ∉ L.map (·.2)) {K : Nat} (hKf : K < 10 * SetTable.turns t.mask)
    (hK : way t.mask (hN w x.2) K ∉ t.place.toList) (hKb : ∀ c, c < K → way t.mask (hN w x.2) c ∈ t.place.toList) {Q : SetFound → Shared → Prop} (q : Q (.free (way t.mask (hN w x.2) K) false) s) :
    ∀ (f c : Nat) (stand : Option SetTable.Probe), stand.getD (t.probeStart (hN w x.2)) = nth t.mask (st0 t.mask (hN w x.2)) c → c ≤ K → K - c < f → wpAny (model P w) A (setSearchFrom a (.ref x.1) (hN w x.2) true f stand) Q E s
  | 0, _, _, _, _, hf => absurd hf (Nat.not_lt_zero _)
  | f + 1, c, stand, hst, hc, hf => by
    obtain ⟨o, ho, hex, hd⟩ := R.ob
    rw [setSearchFrom_succ]
    refine wpAny_bind (wpAny_setState_of ho hd R.fits ?_)
    dsimp only
    have gw : ¬ t.gaveWay = true := by unfold SetTable.gaveWay; rw [mask_odd R.tab.mok]; decide
    refine wp_if_neg gw ?_
    try refine wpAny_bind (wpAny_pure ?_)
    have on : ∀ q, nth t.mask (nth t.mask (st0 t.mask (hN w x.2)) c) q = nth t.mask (st0 t.mask (hN w x.2)) (c + q) := fun q => (nth_add t.mask c _ q).symm
    have onj : ∀ q, (nth t.mask (nth t.mask (st0 t.mask (hN w x.2)) c) q).j = way t.mask (hN w x.2) (c + q) := fun q => congrArg SetTable.Probe.j (on q)
    have eK : c + (K - c) = K := by omega
    rcases go_spec t R.tab.ris R.tab.dm (fun i => (es[i]?.map (·.1)).getD 0) (hN w x.2) (10 * SetTable.turns t.mask) (K - c) (nth t.mask (st0 t.mask (hN w x.2)) c) (nth_dummy _ _ _ rfl) (by omega)
      (fun q hq => by rw [onj]; exact hKb (c + q) (by omega)) (by rw [onj, eK]; exact hK) with ⟨q1, i, hq, hi, hh, hno, hpr⟩ | ⟨hno, hpr⟩
    · have pr : t.probe (fun i => (es[i]?.map (·.1)).getD 0) (hN w x.2) (stand.getD (t.probeStart (hN w x.2))) = some (.candidate (way t.mask (hN w x.2) (c + q1)) i (nth t.mask (st0 t.mask (hN w x.2)) (c + (q1 + 1)))) := by
        rw [hst, ← onj, ← on]
        exact hpr
      rw [pr]
      dsimp only
      rw [onj] at hi
      obtain ⟨p, hp⟩ := R.low hi
      have hm : p ∈ L := List.mem_of_getElem? hp
      have ne : p.2 ≠ x.2 := fun z => no (List.mem_map.mpr ⟨p, hm, z⟩)
      have onward : wpAny (model P w) A (searchRest a (.ref x.1) (hN w x.2) true f es t (way t.mask (hN w x.2) (c + q1)) i (nth t.mask (st0 t.mask (hN w x.2)) (c + (q1 + 1)))) Q E s := by
        unfold searchRest
        rw [R.at hp]
        dsimp only
        refine wpAny_bind (wpAny_holding ((nestedKind P w).eqBool hu ⟨(keys p hm).is, (keys p hm).dep⟩ ⟨hx.is, hx.dep⟩ ?_))
        rw [decide_eq_false ne]
        refine wpAny_bind (wpAny_setState_of ho hd R.fits ?_)
        dsimp only
        refine wp_if_neg (by decide) ?_
        try refine wpAny_bind (wpAny_pure ?_)
        rw [sameMem]
        dsimp only
        have sl : t.slot (way t.mask (hN w x.2) (c + q1)) = .live i := slot_live R.tab.ris hi
        simp only [if_true, sl, R.at hp]
        refine wpAny_bind (wpAny_isSame_ref_self (wpAny_bind (wpAny_pure ?_)))
        simp only [if_true]
        refine wp_if_neg (by decide) ?_
        exact hunt R keys hx hu no hKf hK hKb q f (c + (q1 + 1)) _ rfl (by omega) (by omega)
      by_cases hl : t.led = true
      · refine wp_if_neg (by simp [hl]) ?_
        try refine wpAny_bind (wpAny_pure ?_)
        exact onward
      · refine wp_if_pos (by simp [hl]) ?_
        refine wpAny_bind (unseen hx (fun y hy => ?_) ?_)
        · obtain ⟨e, he, ee⟩ := List.mem_map.mp hy
          have he1 : e ∈ es ∧ e.1 = hN w x.2 := by simpa using he
          have he2 : e ∈ es.toList := by simpa using he1.1
          rw [R.rows] at he2
          obtain ⟨p2, hp2, e2⟩ := List.mem_map.mp he2
          exact ⟨p2, by rw [← ee, ← e2]; rfl, keys p2 hp2⟩
        · refine wp_if_neg (by decide) ?_
          try refine wpAny_bind (wpAny_pure ?_)
          exact onward
    · have pr : t.probe (fun i => (es[i]?.map (·.1)).getD 0) (hN w x.2) (stand.getD (t.probeStart (hN w x.2))) = some (.empty (way t.mask (hN w x.2) K) none) := by
        have z : way t.mask (hN w x.2) K = (nth t.mask (nth t.mask (st0 t.mask (hN w x.2)) c) (K - c)).j := by rw [onj, eK]
        rw [hst, z]
        exact hpr
      rw [pr]
      dsimp only
      exact wpAny_pure q
end
end Hf

/-! ## HfT -/
set_option Elab.async false
set_option linter.all false
set_option maxRecDepth 100000
set_option maxHeartbeats 1000000
/-! Sets of nested keys: putting in, laying anew. -/
namespace Hf
open L2 PySem PySem.Spec PyProof.Rows
open PySem.W (Datum DatumOrd Tup EachIs AllAlike Sortable dataLe dataLt)
section
variable {P : Program} {w : World} {h : Heap} {a : Addr} {L : List (Addr × NestedKey)} {es : Array (Int × Value)} {ep : Nat} {t : SetTable} {A : Around} {E : Value → Shared → Prop} {s : Shared}
/-- the rows in another order -/
theorem reorder (L : List (Addr × NestedKey)) (es : Array (Int × Value)) (order : Array Nat) (hr : es.toList = L.map (rowN w)) (hp : order.toList.Perm (List.range L.length)) :
    ∃ L2 : List (Addr × NestedKey), (order.filterMap (es[·]?)).toList = L2.map (rowN w) ∧ L2.Perm L ∧ (L2.map fun p => hN w p.2) = order.toList.map fun i => (es.map (·.1)).getD i 0 := by
  have row : ∀ i, es[i]? = L[i]?.map (rowN w) := fun i => by rw [← Array.getElem?_toList, hr, List.getElem?_map]
  have go : ∀ l : List Nat, (∀ i ∈ l, i < L.length) → (l.filterMap fun i => es[i]?) = (l.filterMap fun i => L[i]?).map (rowN w) ∧ ((l.filterMap fun i => L[i]?).map fun p => hN w p.2) = l.map fun i => (es.map (·.1)).getD i 0 := by
    intro l
    induction l with
    | nil => exact fun _ => ⟨rfl, rfl⟩
    | cons i l ih =>
      intro hl
      have hi := hl i (List.mem_cons_self ..)
      obtain ⟨e1, e2⟩ := ih fun j hj => hl j (List.mem_cons_of_mem _ hj)
      have li : L[i]? = some L[i] := List.getElem?_eq_getElem hi
      have ei : es[i]? = some (rowN w L[i]) := by rw [row, li]; rfl
      rw [List.filterMap_cons_some ei, List.filterMap_cons_some li, List.map_cons, List.map_cons, List.map_cons, e1, e2]
      refine ⟨rfl, ?_⟩
      have z : (es.map (·.1))[i]? = some (rowN w L[i]).1 := by rw [Array.getElem?_map, ei]; rfl
      rw [Array.getD_eq_getD_getElem?, z]
      rfl
  obtain ⟨e1, e2⟩ := go order.toList fun i hi => List.mem_range.mp (hp.mem_iff.mp hi)
  refine ⟨order.toList.filterMap fun i => L[i]?, by rw [Array.toList_filterMap]; exact e1, ?_, e2⟩
  have all : (List.range L.length).filterMap (fun i => L[i]?) = L := by
    have up : ∀ n, n ≤ L.length → (List.range n).filterMap (fun i => L[i]?) = L.take n := by
      intro n
      induction n with
      | zero => intro _; rfl
      | succ n ih =>
        intro hn
        rw [List.range_succ, List.filterMap_append, ih (by omega), List.take_add_one, List.getElem?_eq_getElem (show n < L.length by omega)]
        rw [List.filterMap_cons_some (List.getElem?_eq_getElem (show n < L.length by omega))]
        rfl
    rw [up _ (Nat.le_refl _), List.take_length]
  have z := hp.filterMap fun i => L[i]?
  rwa [all] at z
/-- the table laid anew -/
theorem relay {o : Obj} (ho : s.heap.get? a = some o) (hex : o.ExactSet) (hd : o.data = .set es ep t) (rows : es.toList = L.map (rowN w)) (sz : t.place.size = es.size) (dm : t.dummies = #[]) (fl : es.size ≤ t.mask) (pl : t.plain = true) (ld : w.params.followText "set-order" = true ∨ t.led = true) (few : L.length < 64)
    {wanted M : Nat} (hw : SetTable.sizeAbove wanted - 1 = M) (hM : MaskOk M) (hw2 : SetTable.sizeAbove wanted ≤ 128) (hn : L.length * 5 < M * 3) {Q : Unit → Shared → Prop}
    (q : ∀ h' L' es' ep' t', Heap.SameBut a s.heap h' → NS P w h' a L' es' ep' t' → L'.Perm L → Q () { s with heap := h' }) : wpAny (model P w) A (setRelay a wanted) Q E s := by
  have hsl : es.size = L.length := by
    have z := congrArg List.length rows
    rwa [Array.length_toList, List.length_map] at z
  have hfits : t.fits es.size = true := by
    unfold SetTable.fits SetTable.fill
    rw [dm, Bool.and_eq_true, beq_iff_eq, decide_eq_true_eq]
    exact ⟨sz, by show t.place.size + 0 ≤ t.mask; omega⟩
  obtain ⟨t', order, e, hp, T, em, el, ep', ed⟩ := relaid_ok t (hs := es.map (·.1)) (wanted := wanted) hw hM (by rw [Array.size_map, hsl]; omega)
  rw [Array.size_map, hsl] at hp
  obtain ⟨L2, r1, r2, r3⟩ := reorder L es order rows hp
  rw [← r3] at T
  have hs2 : (order.filterMap (es[·]?)).size = es.size := by
    have z := congrArg List.length r1
    rwa [Array.length_toList, List.length_map, r2.length_eq, ← hsl] at z
  rw [setRelay_eq]
  refine wpAny_bind (wpAny_setState_of ho hd hfits ?_)
  dsimp only
  refine wp_if_neg (by rw [sizeLine_eq]; omega) ?_
  try refine wpAny_bind (wpAny_pure ?_)
  rw [e]
  dsimp only
  refine wpAny_bind ?_
  refine wp_if_neg (by rw [hs2]; simp) ?_
  try refine wpAny_bind (wpAny_pure ?_)
  refine wpAny_pure ?_
  dsimp only
  refine wpAny_storeSet_of ho hd ?_ (by rw [hs2, hsl, sizeLine_eq]; omega)
  exact q _ L2 _ (ep + 1) t' (Heap.SameBut.update ..) ⟨⟨_, store_at ho hd, ⟨hex.1, hex.2.1, hex.2.2⟩, rfl⟩, r1, T, by rw [ep']; exact pl, by rw [el]; exact ld, by rw [r2.length_eq, em]; exact hn, by rw [r2.length_eq]; exact few⟩ r2
/-- what isn't there is put in -/
theorem putIn (R : NS P w s.heap a L es ep t) (keys : ∀ p ∈ L, KeyAt s.heap p) {x : Addr × NestedKey} (hx : KeyAt s.heap x) (hu : A.units + 8 < cLine) (no : x.2 ∉ L.map (·.2)) (hfew : L.length + 1 < 64) {Q : Bool → Shared → Prop}
    (q : ∀ b h' L' es' ep' t', Heap.SameBut a s.heap h' → NS P w h' a L' es' ep' t' → L'.Perm (x :: L) → Q b { s with heap := h' }) : wpAny (model P w) A (setAddHashed a (.ref x.1) (hN w x.2)) Q E s := by
  obtain ⟨o, ho, hex, hd⟩ := R.ob
  have hsl := R.size
  have hroom := R.room
  unfold setAddHashed
  refine wpAny_holding ?_
  rw [show (100000 : Nat) = 99999 + 1 from rfl, setAddHashedIn_succ]
  refine wpAny_bind (wpAny_setState_of ho hd R.fits ?_)
  dsimp only
  refine wp_if_neg (by simp [byScan, Value.scannable]) ?_
  try refine wpAny_bind (wpAny_pure ?_)
  obtain ⟨K, hKf, hK, hKb⟩ := R.tab.first (by rw [List.length_map]; omega) (hN w x.2)
  have small : K < 100000 := by
    have : 10 * SetTable.turns t.mask ≤ 1420 := by
      unfold SetTable.turns
      rcases R.tab.mok with e | e | e <;> omega
    omega
  unfold setSearch
  refine wpAny_bind (hunt R keys hx hu no hKf hK hKb ?_ 100000 0 none rfl (Nat.zero_le _) (by omega))
  dsimp only
  refine wpAny_bind (wpAny_setState_of ho hd R.fits ?_)
  dsimp only
  obtain ⟨q1, q2, q3, q4, q5, q6, q7, q8, q9⟩ := R.tab.put hK hKb
  have hp1 : (t.put (way t.mask (hN w x.2) K)).1.plain = true := by rw [q6]; exact R.plain
  generalize hpt : t.put (way t.mask (hN w x.2) K) = pt at q1 q3 q4 q5 q6 q7 q8 q9 hp1 ⊢
  obtain ⟨t1, i⟩ := pt
  dsimp only at q1 q3 q4 q5 q6 q7 q8 q9 hp1 ⊢
  subst q1
  first
    | (refine wpAny_bind ?_; refine wp_if_pos hp1 ?_; refine (key_small x.2 _ 8 _ hx.is hx.num hx.dep).2 _ _ _ ?_)
    | refine wp_if_pos hp1 (wpAny_bind ((key_small x.2 _ 8 _ hx.is hx.num hx.dep).2 _ _ _ ?_))
  simp only [if_true]
  generalize hpp : SetTable.below t.place (way t.mask (hN w x.2) K) = i at q2 q3 ⊢
  rw [List.length_map] at q2
  have hin : (SetTable.insertAt es i (hN w x.2, Value.ref x.1)).toList = (L.take i ++ x :: L.drop i).map (rowN w) := by
    rw [SetTable.toList_insertAt, R.rows, List.map_append, List.map_cons, List.map_take, List.map_drop]
    rfl
  have hhs : (L.take i ++ x :: L.drop i).map (fun p => hN w p.2) = (L.map fun p => hN w p.2).take i ++ hN w x.2 :: (L.map fun p => hN w p.2).drop i := by
    rw [List.map_append, List.map_cons, List.map_take, List.map_drop]
  rw [← hhs] at q3
  have pm : (L.take i ++ x :: L.drop i).Perm (x :: L) := by
    have z : (L.take i ++ x :: L.drop i).Perm (x :: (L.take i ++ L.drop i)) := List.perm_middle
    rwa [List.take_append_drop] at z
  have hlen : (L.take i ++ x :: L.drop i).length = L.length + 1 := pm.length_eq
  have hes : (SetTable.insertAt es i (hN w x.2, Value.ref x.1)).size = L.length + 1 := by
    have z := congrArg List.length hin
    rwa [Array.length_toList, List.length_map, hlen] at z
  generalize SetTable.insertAt es i (hN w x.2, Value.ref x.1) = es1 at hin hes ⊢
  generalize L.take i ++ x :: L.drop i = L1 at pm hlen q3 hin
  refine wpAny_bind (wpAny_storeSet_of ho hd ?_ (by rw [hes, sizeLine_eq]; omega))
  have sb : Heap.SameBut a s.heap (s.heap.update a (Obj.putSet es1 t1)) := Heap.SameBut.update ..
  have ho1 := store_at (es' := es1) (t' := t1) ho hd
  generalize s.heap.update a (Obj.putSet es1 t1) = h1 at sb ho1 ⊢
  have ld1 : w.params.followText "set-order" = true ∨ t1.led = true := by rw [q5]; exact R.led
  by_cases hf : t1.tooFull = true
  · first
      | (refine wpAny_bind ?_; refine wp_if_pos (by simp [hf]) ?_)
      | (refine wp_if_pos (by simp [hf]) ?_; refine wpAny_bind ?_)
    have hfull : (L.length + 1) * 5 ≥ t1.mask * 3 := by
      have z := hf
      unfold SetTable.tooFull at z
      rwa [decide_eq_true_eq, q9, List.length_map] at z
    rw [hsl]
    have hsz1 : t1.place.size = es1.size := by
      have z := q3.sz
      rw [List.length_map, hlen] at z
      rw [z, hes]
    have two : (t.mask = 7 ∧ L.length = 4) ∨ (t.mask = 31 ∧ L.length = 18) := by
      rcases R.tab.mok with e | e | e
      · left; rw [q4, e] at hfull; rw [e] at hroom; exact ⟨e, by omega⟩
      · right; rw [q4, e] at hfull; rw [e] at hroom; exact ⟨e, by omega⟩
      · exfalso; rw [q4, e] at hfull; omega
    have go : ∀ M, SetTable.sizeAbove (SetTable.grown (L.length + 1)) - 1 = M → MaskOk M → SetTable.sizeAbove (SetTable.grown (L.length + 1)) ≤ 128 → (L.length + 1) * 5 < M * 3 →
        wpAny (model P w) A (setRelay a (SetTable.grown (L.length + 1))) (fun _ s' => wpAny (model P w) A (pure true) Q E s') E { s with heap := h1 } := fun M m1 m2 m3 m4 =>
      relay (s := { s with heap := h1 }) ho1 ⟨hex.1, hex.2.1, hex.2.2⟩ rfl hin hsz1 q3.dm (by rw [hes, q4]; rcases two with ⟨e, e2⟩ | ⟨e, e2⟩ <;> omega) hp1 ld1 (by rw [hlen]; exact hfew) m1 m2 m3 (by rw [hlen]; exact m4) fun h2 L2 es2 ep2 t2 sb2 R2 pm2 =>
        wpAny_pure (q true h2 L2 es2 ep2 t2 (sb.trans sb2) R2 (pm2.trans pm))
    rcases two with ⟨_, e2⟩ | ⟨_, e2⟩
    · exact go 31 (by rw [e2, size_20]) (.inr (.inl rfl)) (by rw [e2, size_20]; decide) (by omega)
    · exact go 127 (by rw [e2, size_76]) (.inr (.inr rfl)) (by rw [e2, size_76]; decide) (by omega)
  · first
      | refine wp_if_neg (by simp [hf]) ?_
      | (refine wpAny_bind ?_; refine wp_if_neg (by simp [hf]) ?_; refine wpAny_pure ?_)
    refine wpAny_pure (q true h1 L1 es1 (ep + 1) t1 sb ⟨⟨_, ho1, ⟨hex.1, hex.2.1, hex.2.2⟩, rfl⟩, hin, q3, hp1, ld1, ?_, by rw [hlen]; exact hfew⟩ pm)
    have z := hf
    unfold SetTable.tooFull at z
    rw [decide_eq_true_eq, q9, List.length_map] at z
    rw [hlen]
    omega
theorem ns_new (ho : h.get? a = some { cls := .type "set", dict := none, data := .set #[] 0 (.fresh 0 0 (!w.params.followText "set-order")) }) : NS P w h a [] #[] 0 (.fresh 0 0 (!w.params.followText "set-order")) where
  ob := ⟨_, ho, ⟨rfl, rfl, rfl⟩, rfl⟩
  rows := rfl
  tab := ⟨List.Pairwise.nil, rfl, rfl, .inl rfl, fun x hx => (nomatch hx), fun i h j hi => by simp at hi⟩
  plain := rfl
  led := by
    cases q : w.params.followText "set-order"
    · exact .inr rfl
    · exact .inl rfl
  room := by show 0 * 5 < 7 * 3; decide
  few := by show 0 < 64; decide
theorem NS.keep {h h' : Heap} (R : NS P w h a L es ep t) (k : ∀ o, h.get? a = some o → h'.get? a = some o) : NS P w h' a L es ep t := by
  obtain ⟨o, ho, r⟩ := R.ob
  exact ⟨⟨o, k o ho, r⟩, R.rows, R.tab, R.plain, R.led, R.room, R.few⟩
/-- set.update's loop, over different keys -/
theorem loopN {I : Addr} {fp wr : List Addr} {G : Array GenState → Array GenState → Prop} {n : Nat} {Pv : Nat → Value → Prop} {St : Nat → Shared → Prop} {R : Result → Shared → Prop}
    (W : WalksS P w A.in1 I fp wr G n Pv St) (S : Addr) (hSf : S ∉ fp) (ks : List (Addr × NestedKey)) (hn : n = ks.length) (hfew : ks.length < 64) (hnd : (ks.map (·.2)).Nodup) (hval : ∀ i v, Pv i v → ∃ p, ks[i]? = some p ∧ v = .ref p.1)
    (h0 : Heap) (hk : ∀ p ∈ ks, KeyAt h0 p) (hS0 : h0.get? S = none) (hw0 : ∀ b ∈ wr, h0.get? b = none) (hu : A.in1.units + 8 < cLine) :
    ∀ (k i : Nat) (s : Shared), n - i = k → i ≤ n → St i s → (∀ b o, h0.get? b = some o → s.heap.get? b = some o) → (∃ L es ep t, NS P w s.heap S L es ep t ∧ L.Perm (ks.take i)) →
      (∀ s' L es ep t, Moved (S :: wr) G s s' → NS P w s'.heap S L es ep t → L.Perm ks → (∀ b o, h0.get? b = some o → s'.heap.get? b = some o) → R (.ok (.ret .none)) s') →
      codeAny (model P w) A (.builtin "set.update.loop" ⟨[.ref S, .ref I], []⟩) R s := by
  have notw : S ∉ wr := fun z => hSf (W.sub _ z)
  have wider : ∀ b ∈ wr, b ∈ S :: wr := fun b hb => List.mem_cons_of_mem _ hb
  have stays : ∀ {s s' : Shared}, Moved wr G s s' → (∀ b o, h0.get? b = some o → s.heap.get? b = some o) → ∀ b o, h0.get? b = some o → s'.heap.get? b = some o := fun hm z b o e => hm.heap b o (fun hb => by rw [hw0 b hb] at e; cases e) (z b o e)
  intro k
  induction k with
  | zero =>
    intro i s hk' hi hst old ⟨L, es, ep, t, hS, g⟩ hR
    have e : i = n := by omega
    subst e
    refine codeAny_builtin F.entry_set_update_loop ?_
    rw [Around.under_plainId F.plain_set_update_loop _]
    show wpAny _ A.in1 (pyNext (.ref I) >>= _) _ _ s
    refine wpAny_bind (W.done s _ _ hst fun s' hm => ?_)
    show wpAny _ A.in1 (ret Value.none) _ _ s'
    rw [hn, List.take_length] at g
    exact wpAny_pure (hR s' L es ep t (hm.mono wider) (hS.keep fun o e => hm.heap S o notw e) g (stays hm old))
  | succ k ih =>
    intro i s hk' hi hst old ⟨L, es, ep, t, hS, g⟩ hR
    have hlt : i < n := by omega
    refine codeAny_builtin F.entry_set_update_loop ?_
    rw [Around.under_plainId F.plain_set_update_loop _]
    show wpAny _ A.in1 (pyNext (.ref I) >>= _) _ _ s
    refine wpAny_bind (W.item i s _ _ hlt hst fun v s' hP hst' hm => ?_)
    obtain ⟨p, hp, rfl⟩ := hval i v hP
    have old' := stays hm old
    have mem : ∀ q ∈ L, q ∈ ks := fun q hq => List.mem_of_mem_take (g.mem_iff.mp hq)
    have keys : ∀ q ∈ L, KeyAt s'.heap q := fun q hq => (hk q (mem q hq)).keep fun b o _ _ e _ => old' b o e
    have hx : KeyAt s'.heap p := (hk p (List.mem_of_getElem? hp)).keep fun b o _ _ e _ => old' b o e
    have no : p.2 ∉ L.map (·.2) := fun z => by
      rw [(g.map (·.2)).mem_iff, List.map_take] at z
      obtain ⟨j, hj, ej⟩ := List.mem_take_iff_getElem.mp z
      have h3 : (ks.map (·.2))[i]? = some p.2 := by rw [List.getElem?_map, hp]; rfl
      obtain ⟨h4, h5⟩ := List.getElem?_eq_some_iff.mp h3
      exact (List.pairwise_iff_getElem.mp hnd j i (by omega) h4 (by omega)) (ej.trans h5.symm)
    have lenL : L.length = i := by rw [g.length_eq, List.length_take]; omega
    show wpAny _ A.in1 (holding [Value.ref p.1] (setAdd S (.ref p.1)) >>= _) _ _ s'
    refine wpAny_bind (wpAny_holding ?_)
    unfold setAdd
    refine wpAny_holding ?_
    refine wpAny_bind ((nestedKind P w).pyHash hu ⟨hx.is, hx.dep⟩ ?_)
    refine putIn (s := { s' with toks := s'.toks + (nestedKind P w).draws p.2 }) (x := p) (hS.keep fun o e => hm.heap S o notw e) keys hx hu no (by omega) fun b h' L' es' ep' t' hsb hS2 pm => ?_
    have g' : L'.Perm (ks.take (i + 1)) := by
      rw [List.take_add_one, hp]
      exact pm.trans ((g.cons p).trans (List.perm_append_singleton p _).symm)
    have old2 : ∀ b o, h0.get? b = some o → h'.get? b = some o := fun b o e => (hsb.2 b (fun z => by rw [z, hS0] at e; cases e)).trans (old' b o e)
    refine wpAny_pure ⟨plainId_quiet F.plain_set_update_loop _, ih (i + 1) _ (by omega) hlt (W.frame _ s' _ _ hst' (Nat.le_add_right _ _) fun b hb o e => ?_) old2 ⟨L', es', ep', t', hS2, g'⟩ fun s'' L2 es2 ep2 t2 hm'' hS'' g'' old'' => ?_⟩
    · rw [hsb.2 b (fun z : b = S => hSf (by rw [← z]; exact hb))]; exact e
    · refine hR s'' L2 es2 ep2 t2 (Moved.trans W.gtrans ((hm.mono wider).then_heap (Nat.le_add_right _ _) fun b o hb e => ?_) hm'') hS'' g'' old''
      rw [hsb.2 b (fun z : b = S => hb (by rw [z]; exact List.mem_cons_self))]; exact e
/-- set(xs), xs a list or a tuple of different keys -/
theorem call_setN {T : String} {l : Addr} {items : Array Value} (hTT : T = "list" ∨ T = "tuple") (ks : List (Addr × NestedKey)) {Q : Value → Shared → Prop} (hh : A.handled = none) (hl : ∃ o, s.heap.get? l = some o ∧ o.cls = .type T ∧ ∃ n, o.data = .seq items n) (hit : items.toList = ks.map fun p => Value.ref p.1)
    (hk : ∀ p ∈ ks, KeyAt s.heap p) (hnd : (ks.map (·.2)).Nodup) (hfew : ks.length < 64) (hu : A.units + 20 < cLine)
    (q : ∀ (h' : Heap) (tk : Nat) L es ep t, NS P w h' s.heap.objs.size L es ep t → L.Perm ks → (∀ b o, s.heap.get? b = some o → h'.get? b = some o) → Q (.ref s.heap.objs.size) { s with heap := h', toks := tk }) :
    wpAny (model P w) A (call (.type "set") [.ref l]) Q E s := by
  have hisz : items.size = ks.length := by
    have z := congrArg List.length hit
    rwa [Array.length_toList, List.length_map] at z
  obtain ⟨c, tl, hmro⟩ := F.called_set.mro
  have hmade := F.called_set.made
  have hsub := F.called_set.sub
  refine wpAny_call (codeAny_of_tree ?_)
  show wpAny _ _ (callAny (.type "set") _) _ _ _
  refine wpAny_pure ⟨Code.quiet_builtin _ (by decide +kernel), codeAny_builtin F.entry_type_call ?_⟩
  rw [Around.under_plain (weight_type_call_type "set" [.ref l] []) rfl]
  have h1 := F.called_set.notType
  have h2 := F.called_set.canCreate
  have hct := F.typeCall_set_1 (.ref l)
  repeat (any_goals (first | assumption | wp_step))
  -- the new set
  refine codeAny_mono (code_set_led1 (.ref l) (E := E) (Q₁ := fun obj s₁ => obj = .ref s.heap.objs.size ∧ s₁ = { s with heap := s.heap.push { cls := .type "set", dict := none, data := .set #[] 0 (.fresh 0 0 (!w.params.followText "set-order")) } }) ⟨rfl, rfl⟩) fun r s₁ hr => ?_
  cases r with
  | error e => exact hr
  | ok fl =>
    cases fl with
    | ret obj =>
      obtain ⟨rfl, rfl⟩ := hr
      have hS : (s.heap.push { cls := .type "set", dict := none, data := .set #[] 0 (.fresh 0 0 (!w.params.followText "set-order")) }).get? s.heap.objs.size = some { cls := .type "set", dict := none, data := .set #[] 0 (.fresh 0 0 (!w.params.followText "set-order")) } := Heap.get?_push_size _ rfl
      have hT : Shared.TypeIs { s with heap := s.heap.push { cls := .type "set", dict := none, data := .set #[] 0 (.fresh 0 0 (!w.params.followText "set-order")) } } (.ref s.heap.objs.size) "set" := ⟨_, hS, rfl⟩
      have hli := F.called_set.init.lookup
      have hbi := F.called_set.init.bind (.ref s.heap.objs.size)
      repeat (any_goals (first | assumption | wp_step))
      refine codeAny_mono (codeAny_call_builtin (R := wants (fun r s₂ => r = .none ∧ ∃ h' tk L es ep t, s₂ = { s with heap := h', toks := tk } ∧ NS P w h' s.heap.objs.size L es ep t ∧ L.Perm ks ∧
          (∀ b o, s.heap.get? b = some o → h'.get? b = some o)) E) F.called_set.init.plain F.entry_set_init (check_set_init_1 hT ?_)) fun r₂ s₂ hr₂ => ?_
      · obtain ⟨ol, hol, hcl, nl, hdl⟩ := hl
        obtain ⟨ocls, odict, odata, oslots⟩ := ol
        simp only at hcl hdl
        subst hcl hdl
        have hol' : (s.heap.push { cls := .type "set", dict := none, data := .set #[] 0 (.fresh 0 0 (!w.params.followText "set-order")) }).get? l = some { cls := .type T, dict := odict, data := .seq items nl, slots := oslots } := Heap.get?_push_of_some _ hol
        have hlS : l < s.heap.objs.size := Heap.lt_size hol
        have hh3 : A.in1.in1.in1.handled = none := by simp [hh]
        have hu3 : A.in1.in1.in1.units + 8 < cLine := by simp only [Around.in1_units]; omega
        have hneI : l ≠ (s.heap.push { cls := .type "set", dict := none, data := .set #[] 0 (.fresh 0 0 (!w.params.followText "set-order")) }).objs.size := by
          rw [Heap.size_push]; exact Nat.ne_of_lt (Nat.lt_succ_of_lt hlS)
        have hSf : s.heap.objs.size ∉ [(s.heap.push { cls := .type "set", dict := none, data := .set #[] 0 (.fresh 0 0 (!w.params.followText "set-order")) }).objs.size, l] := by
          rw [Heap.size_push]; simp only [List.mem_cons, List.mem_singleton, List.not_mem_nil, or_false, not_or]
          exact ⟨Nat.ne_of_lt (Nat.lt_succ_self _), Nat.ne_of_gt hlS⟩
        have hval : ∀ (i : Nat) (v : Value), items[i]? = some v → ∃ p, ks[i]? = some p ∧ v = .ref p.1 := fun i v hv => by
          have z : items.toList[i]? = some v := by rw [Array.getElem?_toList]; exact hv
          rw [hit, List.getElem?_map] at z
          cases hq : ks[i]? with
          | none => rw [hq] at z; cases z
          | some p =>
            rw [hq] at z
            exact ⟨p, rfl, (Option.some.inj z).symm⟩
        have none_of : ∀ b, s.heap.objs.size ≤ b → s.heap.get? b = none := fun b hb => by
          cases z : s.heap.get? b with
          | none => rfl
          | some o => exact absurd (Nat.lt_of_lt_of_le (Heap.lt_size z) hb) (Nat.lt_irrefl _)
        rcases hTT with hT' | hT'
        · subst hT'
          have f1 := F.sub_list_set
          have f2 := F.sub_list_frozenset
          have f3 : (Value.type "list" == Value.type "dict") = false := by decide
          have hl1 : (s.heap.push { cls := .type "set", dict := none, data := .set #[] 0 (.fresh 0 0 (!w.params.followText "set-order")) }).IsList l items := ⟨_, hol', rfl, nl, rfl⟩
          unfold Builtin.«set.__init__» noKeywords Builtin.Frozenset.updateFrom
          generalize hPI : pyIter = PI
          wp_walk
          subst hPI
          refine wpAny_pyIter_list hl1 ?_
          refine wpAny_bind (wpAny_runValue ?_)
          refine loopN ((Walks.list hh3 _ l hneI items).toS) s.heap.objs.size hSf ks hisz hfew hnd hval s.heap hk (none_of _ (Nat.le_refl _)) (fun b hb => none_of b (by
              rw [List.mem_singleton.mp hb, Heap.size_push]
              exact Nat.le_succ _)) hu3 (items.size - 0) 0 _ (by omega) (Nat.zero_le _)
            ⟨⟨_, Heap.get?_push_size _ rfl, rfl, rfl⟩, (hl1.push _)⟩ (fun b o e => Heap.get?_push_of_some _ (Heap.get?_push_of_some _ e)) ⟨[], #[], 0, _, ns_new (Heap.get?_push_of_some _ hS), .refl _⟩ fun s' L es ep t hm hS' g' hkp => ?_
          obtain ⟨h', g2, d', tk', os'⟩ := s'
          have eg : g2 = s.gens := hm.gens
          have ed : d' = s.drawn := hm.drawn
          have eo : os' = s.os := hm.os
          subst eg ed eo
          show wpAny _ _ _ _ _ _
          refine wpAny_pure ?_
          show wpAny _ _ (ret Value.none) _ _ _
          exact wpAny_pure ⟨rfl, h', tk', L, es, ep, t, rfl, hS', g', hkp⟩
        · subst hT'
          have f1 := F.sub_tuple_set
          have f2 := F.sub_tuple_frozenset
          have f3 : (Value.type "tuple" == Value.type "dict") = false := by decide
          have hl1 : (s.heap.push { cls := .type "set", dict := none, data := .set #[] 0 (.fresh 0 0 (!w.params.followText "set-order")) }).IsTuple l items := ⟨_, hol', rfl, nl, rfl⟩
          unfold Builtin.«set.__init__» noKeywords Builtin.Frozenset.updateFrom
          generalize hPI : pyIter = PI
          wp_walk
          subst hPI
          refine wpAny_pyIter_tuple hl1 ?_
          refine wpAny_bind (wpAny_runValue ?_)
          refine loopN ((Walks.tuple hh3 _ l hneI items).toS) s.heap.objs.size hSf ks hisz hfew hnd hval s.heap hk (none_of _ (Nat.le_refl _)) (fun b hb => none_of b (by
              rw [List.mem_singleton.mp hb, Heap.size_push]
              exact Nat.le_succ _)) hu3 (items.size - 0) 0 _ (by omega) (Nat.zero_le _)
            ⟨⟨_, Heap.get?_push_size _ rfl, rfl, rfl⟩, (hl1.push _)⟩ (fun b o e => Heap.get?_push_of_some _ (Heap.get?_push_of_some _ e)) ⟨[], #[], 0, _, ns_new (Heap.get?_push_of_some _ hS), .refl _⟩ fun s' L es ep t hm hS' g' hkp => ?_
          obtain ⟨h', g2, d', tk', os'⟩ := s'
          have eg : g2 = s.gens := hm.gens
          have ed : d' = s.drawn := hm.drawn
          have eo : os' = s.os := hm.os
          subst eg ed eo
          show wpAny _ _ _ _ _ _
          refine wpAny_pure ?_
          show wpAny _ _ (ret Value.none) _ _ _
          exact wpAny_pure ⟨rfl, h', tk', L, es, ep, t, rfl, hS', g', hkp⟩
      · cases r₂ with
        | error e => exact hr₂
        | ok fl₂ =>
          cases fl₂ with
          | ret r =>
            obtain ⟨rfl, h', tk, L, es, ep, t, rfl, hS', g', hk'⟩ := hr₂
            repeat (any_goals (first | assumption | wp_step))
            exact q _ _ _ _ _ _ hS' g' hk'
          | _ => exact hr₂.elim
    | _ => exact hr.elim
end
end Hf

/-! ## HfU -/
set_option Elab.async false
set_option linter.all false
set_option maxRecDepth 100000
set_option maxHeartbeats 1000000
/-! sorted(set(..)) over data; sorted lists that hold the same. -/
namespace Hf
open L2 PySem PySem.Spec PyProof.Rows
open PySem.W (Datum DatumOrd Tup EachIs AllAlike Sortable dataLe dataLt)

/-! ### order -/
class Ord1 (α : Type) [DecidableEq α] [DatumOrd α] : Prop where
  anti : ∀ a b : α, DatumOrd.lt a b = false → DatumOrd.lt b a = false → a = b
instance : Ord1 Int where
  anti a b h1 h2 := by
    have h1 : decide (a < b) = false := h1
    have h2 : decide (b < a) = false := h2
    have := of_decide_eq_false h1
    have := of_decide_eq_false h2
    omega
instance {α β : Type} [DecidableEq α] [DatumOrd α] [Ord1 α] [DecidableEq β] [DatumOrd β] [Ord1 β] : Ord1 (α × β) where
  anti a b h1 h2 := by
    have h1 : (if a.1 = b.1 then DatumOrd.lt a.2 b.2 else DatumOrd.lt a.1 b.1) = false := h1
    have h2 : (if b.1 = a.1 then DatumOrd.lt b.2 a.2 else DatumOrd.lt b.1 a.1) = false := h2
    by_cases e : a.1 = b.1
    · rw [if_pos e] at h1
      rw [if_pos e.symm] at h2
      exact Prod.ext e (Ord1.anti _ _ h1 h2)
    · rw [if_neg e] at h1
      rw [if_neg fun z => e z.symm] at h2
      exact absurd (Ord1.anti _ _ h1 h2) e
theorem anti_list {α : Type} [DecidableEq α] [DatumOrd α] [Ord1 α] : ∀ xs ys : List α, PySem.W.listLt xs ys = false → PySem.W.listLt ys xs = false → xs = ys
  | [], [], _, _ => rfl
  | [], _ :: _, h, _ => nomatch h
  | _ :: _, [], _, h => nomatch h
  | x :: xs, y :: ys, h1, h2 => by
    have h1 : (if x = y then PySem.W.listLt xs ys else DatumOrd.lt x y) = false := h1
    have h2 : (if y = x then PySem.W.listLt ys xs else DatumOrd.lt y x) = false := h2
    by_cases e : x = y
    · rw [if_pos e] at h1
      rw [if_pos e.symm] at h2
      rw [e, anti_list xs ys h1 h2]
    · rw [if_neg e] at h1
      rw [if_neg fun z => e z.symm] at h2
      exact absurd (Ord1.anti _ _ h1 h2) e
instance {α : Type} [DecidableEq α] [DatumOrd α] [Ord1 α] : Ord1 (Tup α) where
  anti a b h1 h2 := by
    obtain ⟨xs⟩ := a
    obtain ⟨ys⟩ := b
    rw [anti_list xs ys h1 h2]
section
variable {α : Type} [DecidableEq α] [DatumOrd α]
theorem leT_total : PySem.W.TotalLe (leT : α → α → Bool) := by
  have e : (leT : α → α → Bool) = dataLe false (fun a : α => D a) := by
    funext a b
    rw [← leD_T]
    rfl
  rw [e]
  exact PySem.W.sortLe_total _ false _
theorem leT_anti [Ord1 α] {a b : α} (h1 : leT a b = true) (h2 : leT b a = true) : a = b := by
  unfold leT at h1 h2
  exact Ord1.anti a b (by simpa using h2) (by simpa using h1)
theorem sorted_same [Ord1 α] : ∀ {xs ys : List α}, xs.Perm ys → xs.Pairwise (fun a b => leT a b = true) → ys.Pairwise (fun a b => leT a b = true) → xs = ys
  | [], ys, p, _, _ => (List.Perm.nil_eq p)
  | x :: xs, [], p, _, _ => absurd p.length_eq (by simp)
  | x :: xs, y :: ys, p, h1, h2 => by
    obtain ⟨a1, a2⟩ := List.pairwise_cons.mp h1
    obtain ⟨b1, b2⟩ := List.pairwise_cons.mp h2
    have e : x = y := by
      rcases List.mem_cons.mp (p.mem_iff.mp (List.mem_cons_self ..)) with c | c
      · exact c
      · rcases List.mem_cons.mp (p.mem_iff.mpr (List.mem_cons_self ..)) with d | d
        · exact d.symm
        · exact leT_anti (a1 y d) (b1 x c)
    subst e
    rw [sorted_same (List.Perm.cons_inv p) a2 b2]
theorem sort_perm [Ord1 α] {xs ys : List α} (p : xs.Perm ys) : xs.mergeSort leT = ys.mergeSort leT :=
  sorted_same (((List.mergeSort_perm xs _).trans p).trans (List.mergeSort_perm ys _).symm) (PySem.W.sort_pairwise leT_total xs) (PySem.W.sort_pairwise leT_total ys)
theorem sort_sameMem [Ord1 α] {xs ys : List α} (n1 : xs.Nodup) (n2 : ys.Nodup) (h : ∀ a, a ∈ xs ↔ a ∈ ys) : xs.mergeSort leT = ys.mergeSort leT := sort_perm ((List.perm_ext_iff_of_nodup n1 n2).mpr h)
theorem sort_sorted [Ord1 α] {xs : List α} (h : xs.Pairwise (fun a b => leT a b = true)) : xs.mergeSort leT = xs := sorted_same (List.mergeSort_perm xs _) (PySem.W.sort_pairwise leT_total xs) h
theorem sort_nodup [Ord1 α] {xs : List α} (n : xs.Nodup) : (xs.mergeSort leT).Nodup := (List.mergeSort_perm xs _).nodup_iff.mpr n
end
/-! ### data as keys -/
/-- a type whose values are keys of numbers -/
class KeyT (α : Type) [DecidableEq α] [Datum α] where
  key : α → NestedKey
  data : ∀ a, (key a).data = D a
  dep : ∀ a, (key a).depth ≤ 8
  num : ∀ a, numK (key a) = true
  inj : ∀ a b, key a = key b → a = b
  tup : ∀ a, ∃ ks, key a = .tup ks
instance : KeyT Pt where
  key c := .tup [.num c.1, .num c.2]
  data c := rfl
  dep c := by show max 0 (max 0 0) + 1 ≤ 8; decide
  num c := rfl
  inj a b h := by
    injection h with h
    injection h with h1 h2
    injection h2 with h2 _
    injection h1 with h1
    injection h2 with h2
    exact Prod.ext h1 h2
  tup c := ⟨_, rfl⟩
instance : KeyT Cp where
  key c := .tup [.tup [.num c.1.1, .num c.1.2], .tup [.num c.2.1, .num c.2.2]]
  data c := rfl
  dep c := by show max (max 0 (max 0 0) + 1) (max (max 0 (max 0 0) + 1) 0) + 1 ≤ 8; decide
  num c := rfl
  inj a b h := by
    injection h with h
    injection h with h1 h2
    injection h2 with h2 _
    have e1 : a.1 = b.1 := KeyT.inj (α := Pt) _ _ h1
    have e2 : a.2 = b.2 := KeyT.inj (α := Pt) _ _ h2
    exact Prod.ext e1 e2
  tup c := ⟨_, rfl⟩
section
variable {X : Cx} {pins : List (Addr × Obj)} {σ : L2.St} {H : Hp} {s : Shared}
mutual
theorem dq_key (I : Inv X pins σ H s) : ∀ (k : NestedKey) (v : V) (u : Value), Dq H v k.data → RelV v u → NestedIs s.heap k u
  | .none, _, _, h, r => by cases h; cases r; exact .none
  | .num i, _, _, h, r => by cases h; obtain ⟨t, rfl⟩ := r; exact .int i t
  | .text x, _, _, h, r => by cases h; obtain ⟨t, rfl⟩ := r; exact .text x t
  | .tup ks, _, u, h, r => by
    cases h with
    | @tup a xs _ ht hr =>
      cases (show u = Value.ref a from r)
      obtain ⟨_, its, rv, o, h1, h2, n, h3⟩ := (show ObjOk X.prog X.w H s.heap a (.tup xs) from I.hok a _ ht)
      exact .tup h1 h2 h3 (by simpa using dq_keys I ks xs its hr rv)
theorem dq_keys (I : Inv X pins σ H s) : ∀ (ks : List NestedKey) (vs : List V) (us : List Value), DqA H vs (NestedKey.datas ks) → Vals vs us → NestedAll s.heap ks us
  | [], _, _, h, r => by cases h; cases r; exact .nil
  | k :: ks, _, _, h, r => by
    cases h with
    | cons h hr =>
      cases r with
      | cons r rr => exact .cons (dq_key I k _ _ h r) (dq_keys I ks _ _ hr rr)
end
variable {α : Type} [DecidableEq α] [DatumOrd α] [KeyT α] [Ord1 α]
/-- the addresses of the items -/
theorem dq_adrs {H : Hp} : ∀ {vs : List V} {xs : List α}, DqA H vs (xs.map D) → ∃ as : List Addr, vs = as.map V.ref ∧ as.length = xs.length ∧ ∀ (j : Nat) a x, as[j]? = some a → xs[j]? = some x → Dq H (.ref a) (D x)
  | _, [], h => by cases h; exact ⟨[], rfl, rfl, fun j a x e => by simp at e⟩
  | _, x :: xs, h => by
    cases h with
    | cons h r =>
      obtain ⟨as, e1, e2, e3⟩ := dq_adrs r
      obtain ⟨ks, ek⟩ := KeyT.tup x
      rw [← KeyT.data, ek] at h
      cases h with
      | @tup a ys _ ht hr =>
        have h : Dq H (.ref a) (D x) := by rw [← KeyT.data, ek]; exact .tup ht hr
        refine ⟨a :: as, by rw [List.map_cons, e1], by rw [List.length_cons, List.length_cons, e2], fun j b y h1 h2 => ?_⟩
        cases j with
        | zero => cases h1; cases h2; exact h
        | succ j => exact e3 j b y (by simpa using h1) (by simpa using h2)
/-- the set at a has the elements at these places -/
def nsO (P : Program) (w : World) (a : Addr) (L : List (Addr × NestedKey)) : HO := .ext fun h => ∃ es ep t, NS P w h a L es ep t
theorem nsO_ok {P : Program} {w : World} {H : Hp} {h : Heap} {a : Addr} {L : List (Addr × NestedKey)} {es : Array (Int × Value)} {ep : Nat} {t : SetTable} (R : NS P w h a L es ep t) : ObjOk P w H h a (nsO P w a L) := by
  obtain ⟨o, ho, r⟩ := R.ob
  exact ⟨⟨es, ep, t, R⟩, ⟨o, ho⟩, fun h1 h2 ⟨es', ep', t', R'⟩ k => ⟨es', ep', t', R'.keep k⟩⟩
def rSetN (α : Type) [DecidableEq α] [DatumOrd α] [KeyT α] (P : Program) (w : World) : List V → Hp → VK → Prop := fun us H Q => ∃ (l : Addr) (vs : List V) (xs : List α), us = [.ref l] ∧ (H l = some (.lst vs) ∨ H l = some (.tup vs)) ∧ DqA H vs (xs.map D) ∧ xs.Nodup ∧ xs.length < 64 ∧
  ∀ a (L : List (Addr × α)), H a = none → (L.map (·.2)).Perm xs → (∀ p ∈ L, Dq H (.ref p.1) (D p.2) ∧ V.ref p.1 ∈ vs) → Q (.ref a) (upd H a (nsO P w a (L.map fun p => (p.1, KeyT.key p.2))))
theorem zip_at {β γ : Type} {as : List β} {xs : List γ} {p : β × γ} (h : p ∈ as.zip xs) : ∃ j : Nat, as[j]? = some p.1 ∧ xs[j]? = some p.2 := by
  obtain ⟨j, hj, e⟩ := List.mem_iff_getElem.mp h
  have h1 : j < as.length := by rw [List.length_zip] at hj; omega
  have h2 : j < xs.length := by rw [List.length_zip] at hj; omega
  rw [List.getElem_zip] at e
  exact ⟨j, by rw [List.getElem?_eq_getElem h1, ← e], by rw [List.getElem?_eq_getElem h2, ← e]⟩
theorem cr_setN (hc : X.calm = true) (hu : X.A.units + 20 < cLine) : CallR X (.type "set") (rSetN α X.prog X.w) := by
  intro pins s σ H us ws Q I r ⟨l, vs, xs, e, hl, hd, hnd, hf, q⟩
  subst e
  obtain ⟨u, rfl, ru⟩ := vals1 r
  cases (show u = Value.ref l from ru)
  obtain ⟨as, e1, e2, e3⟩ := dq_adrs hd
  subst e1
  have keys : ∀ p ∈ as.zip xs, Dq H (.ref p.1) (D p.2) := fun p hp => by
    obtain ⟨j, h1, h2⟩ := zip_at hp
    exact e3 j _ _ h1 h2
  have m1 : (as.zip xs).map Prod.fst = as := List.map_fst_zip (Nat.le_of_eq e2)
  have m2 : (as.zip xs).map Prod.snd = xs := List.map_snd_zip (Nat.le_of_eq e2.symm)
  have lz : (as.zip xs).length < 64 := by rw [List.length_zip]; omega
  have base : ∀ {T : String} {items : List Value}, (T = "list" ∨ T = "tuple") → Vals (as.map V.ref) items → (∃ o, s.heap.get? l = some o ∧ o.cls = .type T ∧ ∃ n, o.data = .seq items.toArray n) → wpAny (model X.prog X.w) X.A (call (.type "set") [.ref l]) (EP X pins σ Q) X.xe s := fun {T items} hT rv ho => by
    have ei : items = as.map Value.ref := by
      have z : ∀ {bs : List Addr} {us : List Value}, Vals (bs.map V.ref) us → us = bs.map Value.ref := by
        intro bs
        induction bs with
        | nil => intro us h; cases h; rfl
        | cons b bs ih => intro us h; cases h with | cons r t => cases r; rw [ih t]; rfl
      exact z rv
    refine call_setN hT ((as.zip xs).map fun p => (p.1, KeyT.key p.2)) (I.ok.hd hc) ho ?_ (fun p hp => ?_) ?_ (by rw [List.length_map]; exact lz) hu fun h' tk L es ep t R g k => ?_
    · rw [List.map_map, ei]
      have z : (as.zip xs).map ((fun p => Value.ref p.1) ∘ fun p => (p.1, KeyT.key p.2)) = ((as.zip xs).map Prod.fst).map Value.ref := by rw [List.map_map]; rfl
      rw [z, m1]
    · obtain ⟨z, hz, rfl⟩ := List.mem_map.mp hp
      exact ⟨dq_key I (KeyT.key z.2) (.ref z.1) (.ref z.1) (by rw [KeyT.data]; exact keys z hz) rfl, KeyT.dep _, KeyT.num _⟩
    · have z : ((as.zip xs).map fun p => (p.1, KeyT.key p.2)).map (·.2) = ((as.zip xs).map Prod.snd).map KeyT.key := by rw [List.map_map, List.map_map]; rfl
      rw [z, m2]
      exact List.pairwise_map.mpr (List.Pairwise.imp (fun {x y} h z => h (KeyT.inj _ _ z)) hnd)
    · obtain ⟨L2, pL, eL⟩ : ∃ L2 : List (Addr × α), L2.Perm (as.zip xs) ∧ L2.map (fun p => (p.1, KeyT.key p.2)) = L := unmap g
      subst eL
      have hn := I.hok.fresh (Nat.le_refl s.heap.objs.size)
      exact ⟨.ref s.heap.objs.size, _, I.laid (t' := tk) k (Nat.le_refl _) (nsO_ok R), rfl, q _ L2 hn (by have z := pL.map Prod.snd; rwa [m2] at z) fun p hp => ⟨keys p (pL.mem_iff.mp hp), by
        obtain ⟨j, h1, h2⟩ := zip_at (pL.mem_iff.mp hp)
        exact List.mem_map.mpr ⟨p.1, List.mem_of_getElem? h1, rfl⟩⟩⟩
  rcases hl with hl | hl
  · obtain ⟨its, n, rv, ho, _⟩ := I.lst hl
    exact base (.inl rfl) rv ⟨_, ho, rfl, n, rfl⟩
  · obtain ⟨_, its, rv, o, h1, h2, n, h3⟩ := (show ObjOk X.prog X.w H s.heap l (.tup (as.map V.ref)) from I.hok l _ hl)
    exact base (.inr rfl) rv ⟨o, h1, h2, n, h3⟩
where
  unmap {β γ : Type} {f : β → γ} {zs : List β} {L : List γ} (g : L.Perm (zs.map f)) : ∃ L2 : List β, L2.Perm zs ∧ L2.map f = L := by
    generalize e : zs.map f = m at g
    induction g generalizing zs with
    | nil => exact ⟨[], by rw [List.map_eq_nil_iff.mp e], rfl⟩
    | @cons x l1 l2 g ih =>
      cases zs with
      | nil => cases e
      | cons z zs =>
        injection e with e1 e2
        obtain ⟨L2, p, e3⟩ := ih e2
        exact ⟨z :: L2, p.cons z, by rw [List.map_cons, e3, e1]⟩
    | swap x y l =>
      cases zs with
      | nil => cases e
      | cons z zs =>
        cases zs with
        | nil => cases e
        | cons z2 zs =>
          injection e with e1 e2
          injection e2 with e2 e3
          exact ⟨z2 :: z :: zs, .swap _ _ _, by rw [List.map_cons, List.map_cons, e1, e2, e3]⟩
    | trans g1 g2 ih1 ih2 =>
      obtain ⟨M, p2, e2⟩ := ih2 e
      obtain ⟨N, p1, e1⟩ := ih1 e2
      exact ⟨N, p1.trans p2, e1⟩
end
end Hf

/-! ## HfV -/
set_option Elab.async false
set_option linter.all false
set_option maxRecDepth 100000
set_option maxHeartbeats 1000000
/-! sorted(set(xs)). -/
namespace Hf
open L2 PySem PySem.Spec PyProof.Rows
open PySem.W (Datum DatumOrd Tup EachIs AllAlike Sortable dataLe dataLt)
section
variable {X : Cx} {ρ : List SV} {e : Expr} {p q pos pos2 : Pos} {α : Type} [DecidableEq α] [DatumOrd α] [KeyT α] [Ord1 α]
theorem each_zip {α β : Type} {R : β → α → Prop} {f : α → β} : ∀ {zs : List α}, (∀ z ∈ zs, R (f z) z) → EachIs R (zs.map f) zs
  | [], _ => .nil
  | z :: zs, h => .cons (h z (List.mem_cons_self ..)) (each_zip fun y hy => h y (List.mem_cons_of_mem _ hy))
def rSortN (α : Type) [DecidableEq α] [DatumOrd α] [KeyT α] (X : Cx) : List V → Hp → VK → Prop := fun us H Q => ∃ (a : Addr) (L : List (Addr × α)), us = [.ref a] ∧ H a = some (nsO X.prog X.w a (L.map fun p => (p.1, KeyT.key p.2))) ∧ (∀ p ∈ L, Dq H (.ref p.1) (D p.2)) ∧ SrtOk X ((L.map (·.2)).map D) ∧ L.length < 64 ∧
  ∀ b ws, H b = none → DqA H ws ((((L.map (·.2)).mergeSort leT).map D)) → (∀ w ∈ ws, ∃ p ∈ L, w = V.ref p.1) → Q (.ref b) (upd H b (.lst ws))
theorem cr_sortN (hc : X.calm = true) : CallR X (.builtin "sorted") (rSortN α X) := by
  intro pins s σ H us vs Q I r ⟨a, L, e, ha, hd, ok, few, k⟩
  subst e
  obtain ⟨u, rfl, ru⟩ := vals1 r
  cases (show u = Value.ref a from ru)
  obtain ⟨es, ep, t, R⟩ := (I.hok a _ ha).1
  obtain ⟨o, ho, hex, hdat⟩ := R.ob
  have sz := R.size
  rw [List.length_map] at sz
  refine Calls.call_function_entry kind_sorted plain_sorted entry_sorted (args_sorted1 _) ?_
  unfold Builtin.«sorted»
  refine wpAny_bind (m := checkCount "sorted" 1 1 _) (wpAny_pure ?_)
  refine wpAny_bind (collect_set (A := X.A.in1) (I.ok.hd hc) ⟨o, ho, hex.1, hdat⟩ R.fits (by unfold scanBound; omega) R.tab.ris R.led fun s1 out k1 hz g1 o1 pm => ?_)
  have ee : es.toList.map (·.2) = L.map fun q => Value.ref q.1 := by
    rw [R.rows, List.map_map, List.map_map]; rfl
  rw [ee] at pm
  obtain ⟨L2, p2, e2⟩ := cr_setN.unmap pm
  subst e2
  have I1 : Inv X pins σ H s1 := I.call' (ch := []) o1 (Un.kept k1) (I.hok.kept k1) (by rw [g1]; exact I.bare) (fun _ z => nomatch z)
  have zs2 : (L2.map fun p => (V.ref p.1, D p.2)).map (·.2) = (L2.map (·.2)).map D := by rw [List.map_map, List.map_map]; rfl
  have hd2 : ∀ z ∈ L2.map (fun p => (V.ref p.1, D p.2)), Dq H z.1 z.2 := fun z hz => by
    obtain ⟨p, hp, rfl⟩ := List.mem_map.mp hz
    exact hd p (p2.mem_iff.mp hp)
  have pmD : ((L2.map (·.2)).map D).Perm ((L.map (·.2)).map (fun x : α => D x)) := (p2.map (·.2)).map _
  have ok2 : SrtOk X ((L2.map (·.2)).map D) := by
    refine ⟨fun d h d' h' => ok.al d (pmD.mem_iff.mp h) d' (pmD.mem_iff.mp h'), ?_, by rw [pmD.length_eq]; exact ok.len, fun d h => ok.dep d (pmD.mem_iff.mp h)⟩
    rcases ok.sk with h | h
    · exact .inl fun d hd => h d (pmD.mem_iff.mp hd)
    · exact .inr fun d hd => h d (pmD.mem_iff.mp hd)
  have ev : EachIs (fun (u : Value) (z : V × PyData) => RelV z.1 u) (L2.map fun q => Value.ref q.1) (L2.map fun p => (V.ref p.1, D p.2)) := by
    have z : (L2.map fun q => Value.ref q.1) = (L2.map fun p => (V.ref p.1, D p.2)).map (fun z => match z.1 with | .ref a => Value.ref a | _ => .none) := by rw [List.map_map]; rfl
    rw [z]
    exact each_zip fun z hz => by
      obtain ⟨p, _, rfl⟩ := List.mem_map.mp hz
      exact rfl
  have hl2 : L2.length < 64 := by rw [p2.length_eq]; exact few
  refine sorted_tail I1 ev hd2 (by rw [zs2]; exact ok2.al) (by rw [zs2]; exact ok2.sk) (by rw [List.length_map, sizeLine_eq]; omega) (fun z hz => ?_) fun b hb => ?_
  · have := ok2.dep z.2 (by rw [← zs2]; exact List.mem_map.mpr ⟨z, hz, rfl⟩)
    exact this
  · have hs : ∀ z ∈ (L2.map fun p => (V.ref p.1, D p.2)).mergeSort (dataLe false (fun z => z.2)), z ∈ L2.map fun p => (V.ref p.1, D p.2) := fun z h => (List.mergeSort_perm _ _).mem_iff.mp h
    refine k b _ hb ?_ fun w hw => ?_
    · have z : (((L2.map fun p => (V.ref p.1, D p.2)).mergeSort (dataLe false (fun z => z.2))).map (·.2)) = ((L.map (·.2)).mergeSort leT).map D := by
        rw [sort_snd, zs2, sort_D, sort_perm (p2.map (·.2))]
      rw [← z]
      exact dqa_of fun z h => hd2 z (hs z h)
    · obtain ⟨z, h, rfl⟩ := List.mem_map.mp hw
      obtain ⟨p, hp, rfl⟩ := List.mem_map.mp (hs z h)
      exact ⟨p, p2.mem_iff.mp hp, rfl⟩
/-- sorted(set(e)), e a list or a tuple of different elements -/
theorem pd_sortSet {xs : List α} (hc : X.calm = true) (hu : X.A.units + 20 < cLine) (hm : X.mg "sorted" = none) (hm2 : X.mg "set" = none) (h : PDA X ρ [e] [.list (xs.map D)] ∨ PDA X ρ [e] [.tuple (xs.map D)]) (hn : xs.Nodup) (hf : xs.length < 64) (ok : SrtOk X (xs.map D))
    (hs : starEach [.Call (.Name "set" q) [e] [] pos2] X.env = (false, eval (.Call (.Name "set" q) [e] [] pos2) X.env) :: starEach [] X.env := by rfl) (hpl : (backTo pos (starEach [] X.env)).any (·.1) = false := by rfl) (hg : Gl X "sorted" := by rfl)
    (hs2 : starEach [e] X.env = (false, eval e X.env) :: starEach [] X.env := by rfl) (hpl2 : (backTo pos2 (starEach [] X.env)).any (·.1) = false := by rfl) (hg2 : Gl X "set" := by rfl) :
    PD X ρ (.Call (.Name "sorted" p) [.Call (.Name "set" q) [e] [] pos2] [] pos) (.list ((xs.mergeSort leT).map D)) := by
  have go : ∀ d, (d = .list (xs.map D) ∨ d = .tuple (xs.map D)) → PDA X ρ [e] [d] → PD X ρ (.Call (.Name "sorted" p) [.Call (.Name "set" q) [e] [] pos2] [] pos) (.list ((xs.mergeSort leT).map D)) := fun d hd h =>
    pe_imp (pe_callB (cr_sortN (α := α) hc) hg hm boot_sorted' (pa_cons (pe_callTy (cr_setN (α := α) hc hu) hg2 hm2 boot_set' h (by decide) (by decide) hs2 hpl2) pa_nil hs) (by decide) (by decide) hs hpl) fun σ H Q ⟨H0, s, ev, k⟩ => ⟨H0, s, ev, fun vs H1 H' y dv => by
      obtain ⟨v, rfl, dw⟩ := one_dq dv
      obtain ⟨l, ys, rfl, hl, r⟩ : ∃ l ys, v = .ref l ∧ (H1 l = some (.lst ys) ∨ H1 l = some (.tup ys)) ∧ DqA H1 ys (xs.map D) := by
        rcases hd with z | z
        · subst z; cases dw with | lst hl r => exact ⟨_, _, rfl, .inl hl, r⟩
        · subst z; cases dw with | tup hl r => exact ⟨_, _, rfl, .inr hl, r⟩
      refine ⟨l, ys, xs, rfl, hl.imp (y.sub _ _) (y.sub _ _), r.at y.sub, hn, hf, fun a L ha pL dL => ?_⟩
      have hs1 := same_new ha (nsO X.prog X.w a (L.map fun p => (p.1, KeyT.key p.2)))
      refine ⟨a, L, rfl, upd_same, fun p hp => (dL p hp).1.at hs1, ?_, ?_, fun b ws hb dws mem => ?_⟩
      · have pm : ((L.map (·.2)).map D).Perm (xs.map (fun x : α => D x)) := pL.map _
        refine ⟨fun d h d' h' => ok.al d (pm.mem_iff.mp h) d' (pm.mem_iff.mp h'), ?_, by rw [pm.length_eq]; exact ok.len, fun d h => ok.dep d (pm.mem_iff.mp h)⟩
        rcases ok.sk with h | h
        · exact .inl fun d hd => h d (pm.mem_iff.mp hd)
        · exact .inr fun d hd => h d (pm.mem_iff.mp hd)
      · have := pL.length_eq
        rw [List.length_map] at this
        omega
      · rw [sort_perm pL] at dws
        -- the sorted values are of H1
        have back : DqA H1 ws ((xs.mergeSort leT).map D) := by
          refine pd_sortL.dqa_back (H := upd H' a _) (fun b u z => hs1 b u (y.sub b u z)) dws fun w hw => ?_
          obtain ⟨p, hp, rfl⟩ := mem w hw
          exact known r (dL p hp).2
        refine k _ (upd H1 b (.lst ws)) _ ?_ (.lst upd_same (back.at (same_new ?_ _)))
        · have z1 : Ext H0 H H1 (upd H' a (nsO X.prog X.w a (L.map fun p => (p.1, KeyT.key p.2)))) := y.trans (.more y.sub ha _)
          exact z1.trans (.new z1.sub hb _)
        · exact Same.free (fun b u z => hs1 b u (y.sub b u z)) hb⟩
  rcases h with h | h
  · exact go _ (.inl rfl) h
  · exact go _ (.inr rfl) h
where
  known {H1 : Hp} : ∀ {ys : List V} {ds : List PyData} {w : V}, DqA H1 ys ds → w ∈ ys → ∃ d, Dq H1 w d
    | _, _, _, .nil, h => nomatch h
    | _, _, _, .cons d r, h => (List.mem_cons.mp h).elim (fun e => ⟨_, e ▸ d⟩) fun h => known r h
end
end Hf

/-! ## HfX -/
set_option Elab.async false
set_option linter.all false
set_option maxRecDepth 100000
set_option maxHeartbeats 1000000
/-! Lists of lists of one's own. -/
namespace Hf
open L2 PySem PySem.Spec PyProof.Rows
open PySem.W (Datum DatumOrd Tup EachIs AllAlike Sortable dataLe dataLt)
/-- new lists in a new list -/
def tRows (ρ : List SV) (rs : List (List PyData)) : TE := fun σ H Q => ∃ H0, Same H0 H ∧ EnvD H0 ρ σ ∧ ∀ (q : Addr) (bs : List Addr) H0' H', Ext H0 H H0' H' → H q = none → H0' q = none → H' q = some (.lst (bs.map V.ref)) → bs.length = rs.length → (q :: bs).Nodup →
  (∀ (j : Nat) b r, bs[j]? = some b → rs[j]? = some r → H b = none ∧ H0' b = none ∧ ∃ xs, H' b = some (.lst xs) ∧ DqA H0' xs r) → Q (.ref q) H'
abbrev PRows (X : Cx) (ρ : List SV) (e : Expr) (rs : List (List PyData)) : Prop := PCmp X e (tRows ρ rs)
section
variable {X : Cx} {ρ ρ1 ρ2 ρ' : List SV} {M M1 M2 : Own} {L : List (Addr × OT)} {st : Stmt} {rest sts body : List Stmt} {d : PyData} {ds : List PyData} {e : Expr} {pos : Pos} {a b : Addr}
theorem pw_rowsN {elt tg iter : Expr} {scope : Scope} {own : List (Str × Nat)} {n : Nat} {dat : Nat → PyData} {ρ' : Nat → List SV} {is : List Nat} {r : Nat → List PyData} (hc : X.calm = true) (hN : X.N.Nodup)
    (hi : PDI X ρ tg iter n dat) (ok : BlkOk X.N X.env.scope scope own) (his : ∀ k ∈ is, k ∈ own.map (·.2)) (hz : n < sizeLine)
    (hg : ∀ j, j < n → Blk X scope fun Y => PDG Y (wipeS ρ (own.map (·.2))) tg (dat j) (ρ' j) is)
    (he : ∀ j, j < n → Blk X scope fun Y => PNew Y (ρ' j) elt (oL (r j))) (hs : ∀ x, foldedSetIterable iter X.env x = pure x := by intro _; rfl) :
    PRows X ρ (.ListComp elt [⟨tg, iter, [], 0⟩] scope pos) ((List.range n).map r) := by
  have hG := fun (s : Shared) (H : Hp) (C : Addr) (cl : List (Str × Addr)) (fp : List Addr) => pg_any fun j hj => hg j hj s H C cl fp
  have hT := fun (s : Shared) (H : Hp) (C : Addr) (cl : List (Str × Addr)) (fp : List Addr) => pts_any (X := X.blk s H scope (compEnvC scope cl C X.env) fp) (ifs := []) (n := n) (t := fun j => tDT (ρ' j) true) fun j hj => pdts_nil
  have hE := fun (s : Shared) (H : Hp) (C : Addr) (cl : List (Str × Addr)) (fp : List Addr) => pe_any (P := fun _ => True) fun j hj _ => he j hj s H C cl fp
  suffices key : ∀ σ H Q, tRows ρ ((List.range n).map r) σ H Q → tLc (tDI ρ n dat) (anyG n fun j => gD (wipeS ρ (own.map (·.2))) (dat j) (ρ' j) is) (anyT n fun j => tDT (ρ' j) true) (anyE n (fun _ => True) fun j => tNw (ρ' j) (oL (r j))) (own.map (·.2)) σ H Q from
    ⟨pe_imp (pe_lc hc hN hi ok hG hT hE hs) key, fun hy hyl hsw => ps_imp (ps_setLc hc hN hy hyl hsw hi ok hG hT hE hs) fun D σ H h => key σ H _ h⟩
  intro σ H Q ⟨H0, s, ev, q⟩
  refine ⟨H0, s, ev, fun J A B G x goes gA D hD => ?_⟩
  refine ⟨fun i m H' => m = n - i ∧ i ≤ n ∧ ∃ H0' bs, Ext A B H0' H' ∧ H0' D = none ∧ H' D = some (.lst (bs.map V.ref)) ∧ bs.length = i ∧ (D :: bs).Nodup ∧ ∀ (j : Nat) b, bs[j]? = some b → B b = none ∧ H0' b = none ∧ ∃ xs, H' b = some (.lst xs) ∧ DqA H0' xs (r j),
    ⟨n, by omega, Nat.zero_le _, A, [], .more x.sub hD _, x.sub.free hD, upd_same, rfl, List.nodup_cons.mpr ⟨fun h => (nomatch h), List.nodup_nil⟩, fun j b h => by simp at h⟩, ?_⟩
  rintro i m H' ⟨rfl, hin, H0', bs, xe, hD0, hDa, hlen, hnd, hb⟩
  have evA : EnvD A ρ σ := ev.at x.s0
  have gi : G H0' := goes.mono _ _ gA xe.s0
  by_cases hlt : i < n
  · refine .inr ⟨goes.go i hlt H0' H' xe.sub gi, fun H'' => ∃ H0'' bs, Ext A B H0'' H'' ∧ H0'' D = none ∧ H'' D = some (.lst (bs.map V.ref)) ∧ bs.length = i + 1 ∧ (D :: bs).Nodup ∧ ∀ (j : Nat) b, bs[j]? = some b → B b = none ∧ H0'' b = none ∧ ∃ xs, H'' b = some (.lst xs) ∧ DqA H0'' xs (r j),
      fun H'' k => ⟨n - (i + 1), by omega, rfl, hlt, k⟩, fun v H2 y => ?_⟩
    obtain ⟨H02, x2, dv⟩ := goes.yld i hlt H0' H' xe.sub gi v H2 y
    refine ⟨i, hlt, H02, x2.sub, EnvD.wipe (evA.at (xe.s0.trans x2.s0)) _, dv, fun σ2 ev2 o2 => ⟨?_, ?_⟩⟩
    · have e1 := o2.wipe his
      rw [e1]
      exact wipe_wipe
    · refine ⟨i, hlt, H02, x2.sub, ev2, fun H03 H3 x3 => ?_⟩
      show if true = true then _ else _
      rw [if_pos rfl]
      refine ⟨i, hlt, trivial, H03, x3.sub, ev2.at x3.s0, fun nb o H04 H4 x4 n1 n2 n3 ⟨xs, eo, dn⟩ => ?_⟩
      subst eo
      have step := (x2.trans x3).trans x4
      have hD4 : H4 D = some (.lst (bs.map V.ref)) := step.s _ _ hDa
      have hD04 : H04 D = none := step.out D _ hD0 hDa trivial
      have neD : nb ≠ D := fun z => by
        rw [z, (x2.trans x3).s _ _ hDa] at n1
        cases n1
      have nbs : nb ∉ bs := fun z => by
        obtain ⟨j, hj, ej⟩ := List.mem_iff_getElem.mp z
        obtain ⟨_, _, ys, h3, _⟩ := hb j nb (by rw [List.getElem?_eq_getElem hj, ej])
        rw [(x2.trans x3).s _ _ h3] at n1
        cases n1
      refine ⟨bs.map V.ref, hD4, by rw [List.length_map]; omega, H04, bs ++ [nb], (xe.trans step).mut hD hD04 _, hD04, by rw [upd_same, List.map_append]; rfl, by rw [List.length_append, hlen]; rfl, ?_, fun j c hj => ?_⟩
      · obtain ⟨a1, a2⟩ := List.nodup_cons.mp hnd
        refine List.nodup_cons.mpr ⟨fun z => ?_, List.nodup_append.mpr ⟨a2, by simp, fun u hu w hw z => ?_⟩⟩
        · rcases List.mem_append.mp z with z | z
          · exact a1 z
          · exact neD (List.mem_singleton.mp z).symm
        · rw [List.mem_singleton.mp hw] at z
          exact nbs (z ▸ hu)
      · by_cases hji : j < i
        · rw [List.getElem?_append_left (by omega)] at hj
          obtain ⟨b1, b2, ys, b3, b4⟩ := hb j c hj
          refine ⟨b1, step.out c _ b2 b3 trivial, ys, ?_, b4.at step.s0⟩
          rw [upd_ne (fun z => (List.nodup_cons.mp hnd).1 (by rw [← z]; exact List.mem_of_getElem? hj))]
          exact step.s _ _ b3
        · rw [List.getElem?_append_right (by omega)] at hj
          have ej : j = i := by
            have := (List.getElem?_eq_some_iff.mp hj).1
            simp only [List.length_cons, List.length_nil] at this
            omega
          subst ej
          rw [hlen, Nat.sub_self] at hj
          cases hj
          exact ⟨((xe.trans (x2.trans x3)).s).free n1, n2, xs, by rw [upd_ne neD]; exact n3, dn⟩
  · have e : i = n := by omega
    subst e
    refine .inl ⟨goes.stop H0' H' xe.sub gi, ?_⟩
    refine q D bs H0' H' (x.trans xe) (x.s.free hD) hD0 hDa (by rw [hlen, List.length_map, List.length_range]) hnd fun j b rr h1 h2 => ?_
    obtain ⟨b1, b2, b3⟩ := hb j b h1
    refine ⟨x.s.free b1, b2, ?_⟩
    rw [List.getElem?_map] at h2
    obtain ⟨j', h3, h4⟩ := Option.map_eq_some_iff.mp h2
    have e5 := (List.getElem?_eq_some_iff.mp h3).2
    rw [List.getElem_range] at e5
    rw [← h4, ← e5]
    exact b3
theorem pw_rowsG {α : Type} {elt tg iter : Expr} {scope : Scope} {own : List (Str × Nat)} {n : Nat} {dat : Nat → PyData} (xs : List α) (g : α → PyData) (ρ' : α → List SV) {is : List Nat} (r : α → List PyData) (hc : X.calm = true) (hN : X.N.Nodup)
    (hi : PDI X ρ tg iter n dat) (hn : n = xs.length) (hdat : ∀ (j : Nat) a, xs[j]? = some a → dat j = g a) (ok : BlkOk X.N X.env.scope scope own) (his : ∀ k ∈ is, k ∈ own.map (·.2)) (hz : xs.length < sizeLine)
    (hg : ∀ a ∈ xs, Blk X scope fun Y => PDG Y (wipeS ρ (own.map (·.2))) tg (g a) (ρ' a) is)
    (he : ∀ a ∈ xs, Blk X scope fun Y => PNew Y (ρ' a) elt (oL (r a))) (hs : ∀ x, foldedSetIterable iter X.env x = pure x := by intro _; rfl) :
    PRows X ρ (.ListComp elt [⟨tg, iter, [], 0⟩] scope pos) (xs.map r) := by
  subst hn
  have at_ : ∀ j, j < xs.length → ∃ a, xs[j]? = some a ∧ a ∈ xs := fun j hj => ⟨xs[j], List.getElem?_eq_getElem hj, List.getElem_mem hj⟩
  have e : xs.map r = (List.range xs.length).map fun j => match xs[j]? with | some a => r a | none => [] := by
    apply List.ext_getElem?
    intro j
    rw [List.getElem?_map, List.getElem?_map]
    by_cases h : j < xs.length
    · rw [List.getElem?_eq_getElem h, List.getElem?_range h]
      simp only [Option.map_some]
      rw [List.getElem?_eq_getElem h]
    · rw [List.getElem?_eq_none (by omega), List.getElem?_eq_none (by rw [List.length_range]; omega)]
      rfl
  rw [e]
  refine pw_rowsN (ρ' := fun j => match xs[j]? with | some a => ρ' a | none => ρ) hc hN hi ok his hz (fun j hj => ?_) (fun j hj => ?_) hs
  · obtain ⟨a, h, hm⟩ := at_ j hj
    simp only [h]
    rw [hdat j a h]
    exact hg a hm
  · obtain ⟨a, h, hm⟩ := at_ j hj
    simp only [h]
    exact he a hm
/-- [x] * k, new -/
theorem pw_rep {a b : Expr} {k : Nat} (ha : PD X ρ a (.list [d])) (hb : PD X ρ b (.int k)) (hk : k ≤ 1000000) : PNew X ρ (.BinOp a .Mult b pos) (oL (List.replicate k d)) :=
  pe_imp (pe_op op_rep ha hb) fun σ H Q ⟨H0, s, ev, q⟩ => two rfl rfl H0 s ev fun v u H1 H' x d1 d2 => by
    cases d2
    cases d1 with
    | lst h1 r1 =>
      cases r1 with
      | cons h r =>
        cases r
        refine ⟨_, _, _, rfl, rfl, x.sub _ _ h1, by omega, by omega, ?_, fun l hl => ?_⟩
        · rw [sizeLine_eq]; simp; omega
        · exact q l _ H1 _ (x.trans (.more x.sub hl _)) (x.s.free hl) (x.sub.free hl) upd_same ⟨_, rfl, dqa_rep h k⟩
/-- list(e), new -/
theorem pw_listT {p : Pos} (hm : X.mg "list" = none) (h : PDA X ρ [e] [.tuple ds]) (hs : starEach [e] X.env = (false, eval e X.env) :: starEach [] X.env := by rfl) (hpl : (backTo pos (starEach [] X.env)).any (·.1) = false := by rfl) (hg : Gl X "list" := by rfl) : PNew X ρ (.Call (.Name "list" p) [e] [] pos) (oL ds) :=
  pe_imp (pe_callTy call_list_of hg hm boot_list' h (by decide) (by decide) hs hpl) fun σ H Q ⟨H0, s, ev, q⟩ => ⟨H0, s, ev, fun vs H1 H' x dv => by
    obtain ⟨v, rfl, dw⟩ := one_dq dv
    cases dw with
    | tup ht r => exact ⟨_, _, rfl, .inr (SqT.of (x.sub _ _ ht)), fun l hl => q l _ H1 _ (x.trans (.more x.sub hl _)) (x.s.free hl) (x.sub.free hl) upd_same ⟨_, rfl, r⟩⟩⟩
/-! ### as owned -/
def matL (a : Addr) (vs : List V) (bs : List Addr) (rs : List (List PyData)) : List (Addr × OT) := (a, oV vs) :: List.zipWith (fun b r => (b, oL r)) bs rs
theorem mat_at {vs : List V} {bs : List Addr} {rs : List (List PyData)} {k : Nat} {r : List PyData} (h1 : bs[k]? = some b) (h2 : rs[k]? = some r) : (matL a vs bs rs)[k + 1]? = some (b, oL r) := by
  show (List.zipWith _ bs rs)[k]? = _
  rw [List.getElem?_zipWith, h1, h2]
theorem mat_set {vs : List V} : ∀ {bs : List Addr} {rs : List (List PyData)} {k : Nat} {r : List PyData}, bs[k]? = some b → (matL a vs bs rs).set (k + 1) (b, oL r) = matL a vs bs (rs.set k r) := by
  intro bs rs k r h
  show (a, oV vs) :: (List.zipWith _ bs rs).set k (b, oL r) = (a, oV vs) :: List.zipWith _ bs (rs.set k r)
  congr 1
  induction bs generalizing rs k with
  | nil => simp at h
  | cons c bs ih =>
    cases rs with
    | nil => cases k <;> rfl
    | cons x rs =>
      cases k with
      | zero => cases h; rfl
      | succ k =>
        show _ :: (List.zipWith _ bs rs).set k _ = _ :: List.zipWith _ bs (rs.set k r)
        rw [ih (by simpa using h)]
theorem mat_own {B H0 H : Hp} {bs : List Addr} {rs : List (List PyData)} (hlen : bs.length = rs.length) (hnd : (a :: bs).Nodup) (ha : B a = none ∧ H0 a = none ∧ H a = some (.lst (bs.map V.ref))) (hb : ∀ (j : Nat) b r, bs[j]? = some b → rs[j]? = some r → B b = none ∧ H0 b = none ∧ ∃ xs, H b = some (.lst xs) ∧ DqA H0 xs r) :
    (own (matL a (bs.map V.ref) bs rs)).p B H0 H := by
  have keys : (matL a (bs.map V.ref) bs rs).map Prod.fst = a :: bs := by
    show a :: (List.zipWith (fun b r => (b, oL r)) bs rs).map Prod.fst = a :: bs
    congr 1
    rw [List.map_zipWith]
    show List.zipWith (fun b _ => b) bs rs = bs
    clear ha hb hnd
    induction bs generalizing rs with
    | nil => rfl
    | cons b bs ih =>
      cases rs with
      | nil => cases hlen
      | cons r rs => rw [List.zipWith_cons_cons, ih (by simpa using hlen)]
  refine ⟨by rw [keys]; exact hnd, fun x hx => ?_⟩
  rcases List.mem_cons.mp hx with e | hx
  · rw [e]; exact ⟨ha.1, ha.2.1, _, ha.2.2, rfl⟩
  · obtain ⟨j, hj, ej⟩ := List.mem_iff_getElem.mp hx
    have z : (List.zipWith (fun b r => ((b, oL r) : Addr × OT)) bs rs)[j]? = some x := by rw [List.getElem?_eq_getElem hj, ej]
    rw [List.getElem?_zipWith] at z
    cases h1 : bs[j]? with
    | none => rw [h1] at z; cases z
    | some b =>
      cases h2 : rs[j]? with
      | none => rw [h1, h2] at z; cases z
      | some r =>
        rw [h1, h2] at z
        cases z
        obtain ⟨b1, b2, xs, b3, b4⟩ := hb j b r h1 h2
        exact ⟨b1, b2, _, b3, xs, rfl, b4⟩
theorem pss_exP {p : Prop} {sts : List Stmt} {t : TS} (h : p → PSs X sts t) : PSs X sts (fun D σ H => p ∧ t D σ H) := ⟨fun pins s σ H D I ⟨a, q⟩ => (h a).run pins s σ H D I q⟩
/-- name = new rows -/
theorem pb_rows (i : Nat) {x : Str} {p : Pos} {rs : List (List PyData)} (h : PRows X ρ e rs) (r : ∀ a bs, bs.length = rs.length → PB X (ρ.set i (.val (.ref a))) (own (matL a (bs.map V.ref) bs rs)) rest d) (hi : X.N[i]? = some x := by rfl) (hx : X.env.scope.names.lookup x = some .local := by rfl) (hs : swapsWith e (some (.Name x p)) pos.line X.env = pure true := by rfl) :
    PB X ρ emp (.Assign [.Name x p] e pos :: rest) d :=
  pss_imp (pss_cons (h.set hi hx hs) (t := _) (pss_ex fun a => pss_ex fun bs => pss_exP fun (hl : bs.length = rs.length) => r a bs hl)) fun D σ H ⟨B0, B, H0, x, ev, m, q⟩ => ⟨H0, x.sub, ev, fun a bs H1 H' y h1 h2 h3 h4 h5 h6 =>
    ⟨a, bs, h4, B0, B, H1, x.trans y, (ev.at y.s0).set (s := .val (.ref a)) rfl i, mat_own h4 h5 ⟨x.s.free h1, h2, h3⟩ fun j b r hj hr => let ⟨c1, c2, c3⟩ := h6 j b r hj hr; ⟨x.s.free c1, c2, c3⟩, q⟩⟩
/-- name = rows[k] -/
theorem pn_row (k i : Nat) (i2 : Nat) {vs : List V} {x y : Str} {px py : Pos} {ie : Expr} {j : Int} {v : V} (p : Peek ρ L ρ') (hN : X.N.Nodup) (hj : PD X ρ' ie (.int j)) (hv : atI vs j = some v) (hL : L[k]? = some (a, oV vs) := by rfl) (hi : ρ[i]? = some (.val (.ref a)) := by rfl) (hNi : X.N[i]? = some y := by rfl) (hN2 : X.N[i2]? = some x := by rfl)
    (hvis : Vis X.env.scope y := by first | exact Or.inl rfl | exact Or.inr (Or.inl rfl) | exact Or.inr (Or.inr rfl)) (hb1 : (y == ("__debug__" : Str)) = false := by decide) (hb2 : (y == ("__classdict__" : Str)) = false := by decide) (hx : Loc X.env.scope x := by first | exact Or.inl rfl | exact Or.inr rfl) (hpi : PlainIx ie := by exact (fun _ _ => rfl)) {pe : Pos}
    (hs : swapsWith (.Subscript (.Name y py) ie pe) (some (.Name x px)) pos.line X.env = pure false := by rfl) (hf : X.fn x = true ∨ X.env.scope.names.lookup x = some .local := by first | exact .inl rfl | exact .inr rfl) :
    PN X ρ (ρ.set i2 (.val v)) (own L) (own L) (.Assign [.Name x px] (.Subscript (.Name y py) ie pe) pos) :=
  ps_imp (ps_set hN hN2 hx (pe_ix ix_list (pv_at i hi hNi hvis hb1 hb2) (pe_peek p hj) hpi) hs hf) fun De σ H ⟨B0, B, H0, x, ev, m, q⟩ => ⟨H0, ev, B, H0, x.sub, ev, m, fun H' y => by
    have m1 := (own L).st _ _ _ _ _ y m
    obtain ⟨_, _, o, b3, eo⟩ := own_at m1 hL
    have eo : o = .lst vs := eo
    subst eo
    exact ⟨a, vs, j, v, rfl, rfl, SqL.of b3, hv, q _ H0 H' (x.trans y) (.refl _) (ev.set (s := .val v) rfl i2) m1⟩⟩
/-- the rows are henceforth read -/
theorem pb_keepM (i : Nat) {bs : List Addr} {rs : List (List PyData)} (hlen : bs.length = rs.length) (h : PB X (ρ.set i (.dat (.list (rs.map .list)))) emp sts d) (hi : ρ[i]? = some (.val (.ref a)) := by rfl) : PB X ρ (own (matL a (bs.map V.ref) bs rs)) sts d :=
  pss_imp h fun De σ H ⟨B0, B, H0, x, ev, m, q⟩ => by
    have pk := Peek.rows (Peek.refl (ρ := ρ) (L := matL a (bs.map V.ref) bs rs)) i 0 hlen (fun j b r h1 h2 => ⟨j + 1, mat_at h1 h2⟩) hi rfl
    refine ⟨B0, B, lay (matL a (bs.map V.ref) bs rs) H0 H, ⟨x.s0.trans (lay_0 m), x.s, lay_1 x.sub, fun c o h1 h2 h3 => ?_⟩, pk B H0 H σ m x.sub ev, trivial, q⟩
    rw [lay_out]
    · exact x.out c o h1 h2 h3
    · intro z
      obtain ⟨w, hw, e⟩ := List.mem_map.mp z
      have := (m.2 w hw).1
      rw [e, h2] at this
      cases this
end
end Hf

/-! ## HfY -/
set_option Elab.async false
set_option linter.all false
set_option maxRecDepth 100000
set_option maxHeartbeats 1000000
/-! Walks whose values are told exactly; rules for det_in. -/
namespace Hf
open L2 PySem PySem.Spec PyProof.Rows
open PySem.W (Datum DatumOrd Tup EachIs AllAlike Sortable dataLe dataLt)
structure GoesV (J : It) (n : Nat) (val : Nat → V) (G : Hp → Prop) : Prop where
  stop : ∀ H0 H, Same H0 H → G H0 → J.stop n H
  go : ∀ j, j < n → ∀ H0 H, Same H0 H → G H0 → J.go j H
  yld : ∀ j, j < n → ∀ H0 H, Same H0 H → G H0 → ∀ x H', J.yld j H x H' → x = val j ∧ H' = H
  mono : ∀ H0 H0', G H0 → Same H0 H0' → G H0'
def tEI (ρ : List SV) (L : List (Addr × OT)) (n : Nat) (val : Nat → V) : TI := fun σ H R => ∃ B H0, Same H0 H ∧ EnvD H0 ρ σ ∧ (own L).p B H0 H ∧ ∀ J H0' H' G, Ext H0 H H0' H' → GoesV J n val G → G H0' → R J H'
theorem goesVR {lo : Int} {n : Nat} : GoesV (Itr lo n) n (fun j => .int (lo + j)) (fun _ => True) where
  stop := fun _ _ _ _ => Nat.le_refl _
  go := fun j hj _ _ _ _ => hj
  yld := fun j hj H0 H s _ x H' ⟨e, y⟩ => ⟨y, e⟩
  mono := fun _ _ _ _ => trivial
theorem goesVL {K : PySem.W.Frag} {a : Addr} {vs : List V} : GoesV (Itl K a) vs.length (fun j => vs.getD j .non) (fun H => H a = some (.lst vs)) where
  stop := fun H0 H s h => ⟨vs, SqL.of (s _ _ h), Nat.le_refl _⟩
  go := fun j hj H0 H s h => ⟨vs, vs[j], SqL.of (s _ _ h), List.getElem?_eq_getElem hj⟩
  yld := fun j hj H0 H s h x H' ⟨e, y⟩ => ⟨by
    have q := y vs (SqL.of (s _ _ h))
    rw [List.getD_eq_getElem?_getD, q]
    rfl, e⟩
  mono := fun H0 H0' h s => s _ _ h
section
variable {X : Cx} {ρ ρ1 ρ2 ρ' : List SV} {M M1 M2 : Own} {L : List (Addr × OT)} {st : Stmt} {rest sts body : List Stmt} {d : PyData} {ds : List PyData} {e e2 iter tg : Expr} {pos : Pos} {a b : Addr}
theorem pn_forE (i : Nat) {n : Nat} (val : Nat → V) (sv : Nat → SV) (ρs : Nat → List SV) (Ls : Nat → List (Addr × OT)) {x : Str} {px : Pos} (hN : X.N.Nodup) (hi : PI X (.Name x px) iter (tEI (ρs 0) (Ls 0) n val)) (hsv : ∀ j H, j < n → slotOk H (sv j) (some (val j)))
    (hb : ∀ j, j < n → PNs X ((ρs j).set i (sv j)) (ρs (j + 1)) (own (Ls j)) (own (Ls (j + 1))) body) (hp : PassesOwn (model X.prog X.w) X.A X.env X.xe := by exact PassesOwn.never) (hc : X.calm = true := by rfl) (hi' : X.N[i]? = some x := by rfl) (hx : Loc X.env.scope x := by first | exact Or.inl rfl | exact Or.inr rfl)
    (hf : X.fn x = true ∨ X.env.scope.names.lookup x = some .local := by first | exact .inl rfl | exact .inr rfl) (hs : ∀ x, foldedSetIterable iter X.env x = pure x := by intro _; rfl) : PN X (ρs 0) (ρs n) (own (Ls 0)) (own (Ls n)) (.For (.Name x px) iter body [] pos) := by
  refine ps_imp (ps_for (g := gName i) (tb := anyS n fun j => tN ((ρs j).set i (sv j)) (ρs (j + 1)) (own (Ls j)) (own (Ls (j + 1)))) hp hc hi (pg_name hN hi' hx hf) (pss_any hb) hs) fun D σ H ⟨B0, B, H0, x, ev, m, q⟩ => ?_
  refine ⟨B, H0, x.sub, ev, m, fun J A HA G y goes gA => ?_⟩
  refine ⟨fun k w σ' H' => w = n - k ∧ k ≤ n ∧ ∃ H0', Ext B0 B H0' H' ∧ Same H0 H0' ∧ EnvD H0' (ρs k) σ' ∧ (own (Ls k)).p B H0' H' ∧ G H0', ⟨n, by omega, Nat.zero_le _, A, x.trans y, y.s0, ev.at y.s0, (own (Ls 0)).st _ _ _ _ _ y m, gA⟩, ?_⟩
  rintro k w σ' H' ⟨rfl, hkn, H0', xe, se, ev', m', gi⟩
  by_cases hlt : k < n
  · refine .inr ⟨goes.go k hlt H0' H' xe.sub gi, fun σ'' H'' => ∃ H0'', Ext B0 B H0'' H'' ∧ Same H0 H0'' ∧ EnvD H0'' (ρs (k + 1)) σ'' ∧ (own (Ls (k + 1))).p B H0'' H'' ∧ G H0'', fun σ'' H'' z => ⟨n - (k + 1), by omega, rfl, hlt, z⟩, fun v H2 yl => ?_⟩
    obtain ⟨rfl, rfl⟩ := goes.yld k hlt H0' H' xe.sub gi v H2 yl
    exact ⟨k, hlt, B0, B, H0', xe, ev'.set (hsv k H0' hlt) i, m', fun σ3 H03 H3 x3 s3 ev3 m3 => ⟨H03, x3, se.trans s3, ev3, m3, goes.mono _ _ gi s3⟩⟩
  · have e : k = n := by omega
    subst e
    exact .inl ⟨goes.stop H0' H' xe.sub gi, q σ' H0' H' xe se ev' m'⟩
/-- range(e), range(e, e2), read off the own objects -/
theorem pi_rng1 {p pos : Pos} {j : Int} (pk : Peek ρ L ρ') (hm : X.mg "range" = none) (h : PD X ρ' e (.int j)) (h1 : -(2 ^ 62) ≤ j) (h2 : j < 2 ^ 62) (hg : Gl X "range" := by rfl) (hs : starEach [e] X.env = [(false, eval e X.env)] := by rfl) (hs1 : starEach [e] X.env = (false, eval e X.env) :: starEach [] X.env := by rfl) :
    PI X tg (.Call (.Name "range" p) [e] [] pos) (tEI ρ L j.toNat (fun k => .int (0 + (k : Nat)))) := pi_imp (pi_range1 hg hm (pa_cons (pe_peek pk h) pa_nil hs1) hs) fun σ H R ⟨B, H0, s, ev, m, q⟩ => ⟨B, H0, s, ev, m, fun H' x => ⟨j, rfl, h1, h2, q _ H0 H' _ x goesVR trivial⟩⟩
theorem pi_rng2 {p pos : Pos} {i j : Int} (pk : Peek ρ L ρ') (hm : X.mg "range" = none) (h : PD X ρ' e (.int i)) (h' : PD X ρ' e2 (.int j)) (hb : -(2 ^ 62) ≤ i ∧ i < 2 ^ 62 ∧ -(2 ^ 62) ≤ j ∧ j < 2 ^ 62) (hg : Gl X "range" := by rfl) (hs : starEach [e, e2] X.env = [(false, eval e X.env), (false, eval e2 X.env)] := by rfl) (hs2 : starEach [e2] X.env = [(false, eval e2 X.env)] := by rfl)
    (hs3 : starEach [e, e2] X.env = (false, eval e X.env) :: starEach [e2] X.env := by rfl) (hs4 : starEach [e2] X.env = (false, eval e2 X.env) :: starEach [] X.env := by rfl) :
    PI X tg (.Call (.Name "range" p) [e, e2] [] pos) (tEI ρ L (j - i).toNat (fun k => .int (i + (k : Nat)))) := pi_imp (pi_range2 hg hm (pa_cons (pe_peek pk h) (pa_cons (pe_peek pk h') pa_nil hs4) hs3) hs hs2) fun σ H R ⟨B, H0, s, ev, m, q⟩ => ⟨B, H0, s, ev, m, fun H' x => ⟨B, H0, x.sub, ev, (own L).st _ _ _ _ _ x m, fun H'' x2 => ⟨i, j, rfl, hb, q _ H0 H'' _ (x.trans x2) goesVR trivial⟩⟩⟩
/-- name[e:], a list of one's own -/
theorem pi_slice (k i : Nat) {vs : List V} {y : Str} {py p2 pe : Pos} {j : Nat} (pk : Peek ρ L ρ') (h : PD X ρ' e (.int j)) (hL : L[k]? = some (a, oV vs) := by rfl) (hi : ρ[i]? = some (.val (.ref a)) := by rfl) (hNi : X.N[i]? = some y := by rfl)
    (hvis : Vis X.env.scope y := by first | exact Or.inl rfl | exact Or.inr (Or.inl rfl) | exact Or.inr (Or.inr rfl)) (hb1 : (y == ("__debug__" : Str)) = false := by decide) (hb2 : (y == ("__classdict__" : Str)) = false := by decide) :
    PI X tg (.Subscript (.Name y py) (.Slice (some e) none none p2) pe) (tEI ρ L (vs.drop j).length (fun k => (vs.drop j).getD k .non)) :=
  pi_imp (pi_list (pe_slice sl_list (pv_at i hi hNi hvis hb1 hb2) (po_some (pe_peek pk h)) po_none)) fun σ H R ⟨B, H0, s, ev, m, q⟩ => ⟨H0, ev, B, H0, s, ev, m, fun H' x => by
    have m1 := (own L).st _ _ _ _ _ x m
    obtain ⟨_, _, o, b3, eo⟩ := own_at m1 hL
    have eo : o = .lst vs := eo
    subst eo
    refine ⟨(j : Int), rfl, a, vs, rfl, SqL.of b3, fun l hl => ?_⟩
    have e : cutV vs (some (j : Int)) none = vs.drop j := by
      unfold cutV
      rw [HT.sIx_nat, HT.sIx_none]
      rcases Nat.le_total j vs.length with h | h
      · rw [Nat.min_eq_left h]
        exact List.take_of_length_le (by rw [List.length_drop]; exact Nat.le_refl _)
      · rw [Nat.min_eq_right h, List.drop_eq_nil_of_le h, List.drop_eq_nil_of_le (Nat.le_refl _)]
        exact List.take_nil
    rw [e]
    exact ⟨l, rfl, ⟨_, SqL.of upd_same⟩, q _ (upd H0 l (.lst (vs.drop j))) _ _ (x.trans (.new x.sub hl _)) goesVL upd_same⟩⟩
/-- name = a comprehension of numbers, read off the own objects -/
theorem pn_setCO (i : Nat) {x : Str} {p : Pos} {is : List Int} (pk : Peek ρ L ρ') (h : PNewC X ρ' e (oL (is.map .int))) (hi : X.N[i]? = some x := by rfl) (hx : X.env.scope.names.lookup x = some .local := by rfl) (hs : swapsWith e (some (.Name x p)) pos.line X.env = pure true := by rfl) :
    PN X ρ (ρ.set i (.dat (.list (is.map .int)))) (own L) (own L) (.Assign [.Name x p] e pos) :=
  ps_imp (h.set hi hx hs) fun D σ H ⟨B0, B, H0, x, ev, m, q⟩ => ⟨lay L H0 H, lay_1 x.sub, pk B H0 H σ m x.sub ev, fun l o H1 H' y h1 h2 h3 ⟨xs, eo, r⟩ => by
    subst eo
    have hl0 : H0 l = none := x.sub.free h1
    have z : Ext H0 H (upd H0 l (.lst xs)) H' := ⟨same_new hl0 _, y.s, fun b u k => by
      by_cases c : b = l
      · subst c; rw [upd_same] at k; rw [← k]; exact h3
      · rw [upd_ne c] at k; exact y.s _ _ (x.sub _ _ k), fun b u k1 k2 _ => by rw [upd_ne (ne_of_none k2 h1)]; exact k1⟩
    exact q _ _ H' (x.trans z) z.s0 ((ev.at z.s0).set (s := .dat (.list (is.map .int))) ⟨_, rfl, .lst upd_same (flatI r)⟩ i) ((own L).st _ _ _ _ _ z m)⟩
where
  flatI {H H' : Hp} : ∀ {xs : List V} {is : List Int}, DqA H xs (is.map .int) → DqA H' xs (is.map .int)
    | _, [], h => by cases h; exact .nil
    | _, i :: is, h => by
      cases h with
      | cons h r => cases h; exact .cons (.int i) (flatI r)
/-- rows, a, b = new rows, two numbers -/
theorem pb_rows3 {i j l : Nat} {x y z : Str} {e2 e3 : Expr} {d2 d3 : Int} {rs : List (List PyData)} {px py pz pt : Pos} {kt k2 pt2} (hN : X.N.Nodup) (h : PRows X ρ e rs) (h2 : PD X ρ e2 (.int d2)) (h3 : PD X ρ e3 (.int d3))
    (r : ∀ a bs, bs.length = rs.length → PB X (((ρ.set i (.val (.ref a))).set j (.dat (.int d2))).set l (.dat (.int d3))) (own (matL a (bs.map V.ref) bs rs)) rest d) (hc : X.calm = true := by rfl) (hi : X.N[i]? = some x := by rfl) (hj : X.N[j]? = some y := by rfl) (hl : X.N[l]? = some z := by rfl) (hij : i ≠ j := by decide) (hil : i ≠ l := by decide) (hjl : j ≠ l := by decide)
    (hx : X.env.scope.names.lookup x = some .local := by rfl) (hy : X.env.scope.names.lookup y = some .local := by rfl) (hz : X.env.scope.names.lookup z = some .local := by rfl)
    (hw : swappedStores [.Tuple [.Name x px, .Name y py, .Name z pz] kt pt] (.Tuple [e, e2, e3] k2 pt2) X.env = pure (some [x, y, z]) := by rfl) (hs : swapsWithSole [.Tuple [.Name x px, .Name y py, .Name z pz] kt pt] (.Tuple [e, e2, e3] k2 pt2) pos.line X.env = pure false := by rfl)
    (hs1 : starEach [e, e2, e3] X.env = (false, eval e X.env) :: starEach [e2, e3] X.env := by rfl) (hs2 : starEach [e2, e3] X.env = (false, eval e2 X.env) :: starEach [e3] X.env := by rfl) (hs3 : starEach [e3] X.env = (false, eval e3 X.env) :: starEach [] X.env := by rfl) :
    PB X ρ emp (.Assign [.Tuple [.Name x px, .Name y py, .Name z pz] kt pt] (.Tuple [e, e2, e3] k2 pt2) pos :: rest) d :=
  pss_imp (pss_cons (ps_par3 hc hN hi hj hl hij hil hjl hx hy hz (pa_cons h.val (pa_cons h2 (pa_cons h3 pa_nil hs3) hs2) hs1) hw hs) (pss_ex fun a => pss_ex fun bs => pss_exP fun (hl : bs.length = rs.length) => r a bs hl)) fun D σ H ⟨B0, B, H0, x, ev, m, q⟩ => ⟨H0, x.sub, ev, fun a bs H1 H' y k1 k2 k3 k4 k5 k6 => ⟨H1, y.sub, ev.at y.s0, fun v2 H2 H'' y2 dv2 => ⟨H2, y2.sub, ev.at (y.s0.trans y2.s0), fun v3 H3 H3' y3 dv3 => by
    cases dv2
    cases dv3
    have yy := y2.trans y3
    refine ⟨_, _, _, rfl, a, bs, k4, B0, B, H3, (x.trans y).trans yy, (((ev.at (y.s0.trans yy.s0)).set (s := .val (.ref a)) rfl i).set (s := .dat (.int d2)) ⟨_, rfl, .int _⟩ j).set (s := .dat (.int d3)) ⟨_, rfl, .int _⟩ l, ?_, q⟩
    exact mat_own k4 k5 ⟨x.s.free k1, yy.out _ _ k2 k3 trivial, yy.s _ _ k3⟩ fun jj b r hj hr => by
      obtain ⟨c1, c2, xs, c3, c4⟩ := k6 jj b r hj hr
      exact ⟨x.s.free c1, yy.out _ _ c2 c3 trivial, xs, yy.s _ _ c3, c4.at yy.s0⟩⟩⟩⟩
/-- the same, some of the names held in cells -/
theorem pb_rows3c {i j l : Nat} {x y z : Str} {e2 e3 : Expr} {d2 d3 : Int} {rs : List (List PyData)} {px py pz pt : Pos} {kt k2 pt2} (hN : X.N.Nodup) (h : PRows X ρ e rs) (h2 : PD X ρ e2 (.int d2)) (h3 : PD X ρ e3 (.int d3))
    (r : ∀ a bs, bs.length = rs.length → PB X (((ρ.set i (.val (.ref a))).set j (.dat (.int d2))).set l (.dat (.int d3))) (own (matL a (bs.map V.ref) bs rs)) rest d) (hc : X.calm = true := by rfl) (hi : X.N[i]? = some x := by rfl) (hj : X.N[j]? = some y := by rfl) (hl : X.N[l]? = some z := by rfl)
    (hx : Loc X.env.scope x := by first | exact Or.inl rfl | exact Or.inr rfl) (hy : Loc X.env.scope y := by first | exact Or.inl rfl | exact Or.inr rfl) (hz : Loc X.env.scope z := by first | exact Or.inl rfl | exact Or.inr rfl)
    (hf : X.fn x = true ∨ X.env.scope.names.lookup x = some .local := by first | exact .inl rfl | exact .inr rfl) (hf2 : X.fn y = true ∨ X.env.scope.names.lookup y = some .local := by first | exact .inl rfl | exact .inr rfl) (hf3 : X.fn z = true ∨ X.env.scope.names.lookup z = some .local := by first | exact .inl rfl | exact .inr rfl)
    (hn : (assignEach [.Name x px, .Name y py, .Name z pz] X.env).length = 3 := by rfl) (hst : (assignEach [.Name x px, .Name y py, .Name z pz] X.env).findIdx? (·.1) = none := by rfl)
    (ht1 : (assignEach [.Name x px, .Name y py, .Name z pz] X.env).map (·.2) = assign (.Name x px) X.env :: (assignEach [.Name y py, .Name z pz] X.env).map (·.2) := by rfl) (ht2 : (assignEach [.Name y py, .Name z pz] X.env).map (·.2) = assign (.Name y py) X.env :: (assignEach [.Name z pz] X.env).map (·.2) := by rfl) (ht3 : (assignEach [.Name z pz] X.env).map (·.2) = assign (.Name z pz) X.env :: (assignEach [] X.env).map (·.2) := by rfl)
    (hs : swapsWithSole [.Tuple [.Name x px, .Name y py, .Name z pz] kt pt] (.Tuple [e, e2, e3] k2 pt2) pos.line X.env = pure false := by rfl) (hw : swappedStores [.Tuple [.Name x px, .Name y py, .Name z pz] kt pt] (.Tuple [e, e2, e3] k2 pt2) X.env = pure none := by rfl)
    (h1 : (assignEach [.Tuple [.Name x px, .Name y py, .Name z pz] kt pt] X.env).map (·.2) = [assign (.Tuple [.Name x px, .Name y py, .Name z pz] kt pt) X.env] := by rfl)
    (hs1 : starEach [e, e2, e3] X.env = (false, eval e X.env) :: starEach [e2, e3] X.env := by rfl) (hs2 : starEach [e2, e3] X.env = (false, eval e2 X.env) :: starEach [e3] X.env := by rfl) (hs3 : starEach [e3] X.env = (false, eval e3 X.env) :: starEach [] X.env := by rfl) :
    PB X ρ emp (.Assign [.Tuple [.Name x px, .Name y py, .Name z pz] kt pt] (.Tuple [e, e2, e3] k2 pt2) pos :: rest) d :=
  pss_imp (pss_cons (ps_asg (pe_tup (pa_cons h.val (pa_cons h2 (pa_cons h3 pa_nil hs3) hs2) hs1)) (pg_tup hc (pgs_cons (pg_name hN hi hx hf) (pgs_cons (pg_name hN hj hy hf2) (pgs_cons (pg_name hN hl hz hf3) pgs_nil ht3) ht2) ht1) hn hst) hs hw h1) (pss_ex fun a => pss_ex fun bs => pss_exP fun (hl : bs.length = rs.length) => r a bs hl)) fun D σ H ⟨B0, B, H0, x, ev, m, q⟩ => ⟨H0, x.sub, ev, fun a bs H1 H' y k1 k2 k3 k4 k5 k6 => ⟨H1, y.sub, ev.at y.s0, fun v2 H2 H'' y2 dv2 => ⟨H2, y2.sub, ev.at (y.s0.trans y2.s0), fun v3 H3 H3' y3 dv3 => by
    cases dv2
    cases dv3
    have yy := y2.trans y3
    refine ⟨by show 3 ≤ sizeLine; rw [sizeLine_eq]; omega, fun tp htp => ?_⟩
    have more := Ext.more yy.sub htp (.tup [.ref a, .int d2, .int d3])
    have y4 : Ext H1 H' H3 (upd H3' tp (.tup [.ref a, .int d2, .int d3])) := yy.trans (Ext.more (y2.trans y3).sub htp _)
    refine ⟨tp, _, rfl, SqT.of upd_same, rfl, _, _, rfl, _, _, rfl, _, _, rfl, rfl, a, bs, k4, B0, B, H3, (x.trans y).trans y4, (((ev.at (y.s0.trans y4.s0)).set (s := .val (.ref a)) rfl i).set (s := .dat (.int d2)) ⟨_, rfl, .int _⟩ j).set (s := .dat (.int d3)) ⟨_, rfl, .int _⟩ l, ?_, q⟩
    exact mat_own k4 k5 ⟨x.s.free k1, y4.out _ _ k2 k3 trivial, y4.s _ _ k3⟩ fun jj b r hj hr => by
      obtain ⟨c1, c2, xs, c3, c4⟩ := k6 jj b r hj hr
      exact ⟨x.s.free c1, y4.out _ _ c2 c3 trivial, xs, y4.s _ _ c3, c4.at y4.s0⟩⟩⟩⟩
end
end Hf

/-! ## HfZ -/
set_option Elab.async false
set_option linter.all false
set_option maxRecDepth 100000
set_option maxHeartbeats 1000000
/-! A statement that walks a dict; calls with dicts. -/
namespace Hf
open L2 PySem PySem.Spec PyProof.Rows
open PySem.W (Datum DatumOrd Tup EachIs AllAlike Sortable dataLe dataLt)
def unf : SV → SV
  | .fzd k => .dic k
  | s => s
section
variable {X : Cx} {ρ ρ1 ρ2 ρ' : List SV} {st : Stmt} {kds : List (Pt × PyData)}
theorem env_unlock {H1 : Hp} {a : Addr} {o : Obj} {kvs : List (List Key × V)} (ha : H1 a = some (.frz o (.dT kvs))) : ∀ {ρ : List SV} {σ : L2.St}, EnvD H1 ρ σ → EnvD (upd H1 a (.dT kvs)) (ρ.map unf) σ := by
  have hl : ∀ b xs, H1 b = some (.lst xs) → (upd H1 a (.dT kvs)) b = some (.lst xs) := fun b xs q => by rw [upd_ne (ne_of q ha (fun z => nomatch z))]; exact q
  have ht : ∀ b xs, H1 b = some (.tup xs) → (upd H1 a (.dT kvs)) b = some (.tup xs) := fun b xs q => by rw [upd_ne (ne_of q ha (fun z => nomatch z))]; exact q
  have one : ∀ {s : SV} {v : Option V}, slotOk H1 s v → slotOk (upd H1 a (.dT kvs)) (unf s) v := by
    intro s v h
    cases s with
    | no => trivial
    | dat d => obtain ⟨u, e, q⟩ := h; exact ⟨u, e, Dq.swap hl ht d u q⟩
    | val y => exact h
    | dic ks =>
      obtain ⟨b, kv, e, q, r⟩ := h
      refine ⟨b, kv, e, ?_, r.swap hl ht⟩
      by_cases z : b = a
      · subst z
        rcases q with q | ⟨o', q⟩
        · rw [ha] at q; cases q
        · rw [ha] at q; cases q; exact .inl upd_same
      · exact q.imp (fun q => by rw [upd_ne z]; exact q) fun ⟨o', q⟩ => ⟨o', by rw [upd_ne z]; exact q⟩
    | fzd ks =>
      obtain ⟨b, o', kv, e, q, r⟩ := h
      refine ⟨b, kv, e, ?_, r.swap hl ht⟩
      by_cases z : b = a
      · subst z
        rw [ha] at q
        cases q
        exact .inl upd_same
      · exact .inr ⟨o', by rw [upd_ne z]; exact q⟩
    | sq K b xs =>
      obtain ⟨e, q⟩ := h
      refine ⟨e, q.elim (fun r => .inl ?_) .inr⟩
      rcases r with r | ⟨o', r⟩
      · exact .inl (hl _ _ r)
      · exact .inr ⟨o', by rw [upd_ne (ne_of r ha (fun z => nomatch z))]; exact r⟩
  intro ρ
  induction ρ with
  | nil => intro σ h; cases σ <;> exact h
  | cons s ρ ih => intro σ h; cases σ with
    | nil => exact h
    | cons v σ => exact ⟨one h.1, ih h.2⟩
theorem env_unf {H : Hp} : ∀ {ρ : List SV} {σ : L2.St}, EnvD H ρ σ → EnvD H (ρ.map unf) σ
  | [], [], _ => trivial
  | s :: ρ, v :: σ, ⟨a, b⟩ => ⟨by
      cases s with
      | fzd k => obtain ⟨b, o, kv, e, q, r⟩ := a; exact ⟨b, kv, e, .inr ⟨o, q⟩, r⟩
      | _ => exact a, env_unf b⟩
  | [], _ :: _, h => h.elim
  | _ :: _, [], h => h.elim
/-- a statement that walks the dict in slot i -/
theorem pn_lock (i : Nat) (h : PN X (ρ.set i (.fzd kds)) ρ2 emp emp st) (hd : ρ[i]? = some (.dic kds) := by rfl) : PN X ρ (ρ2.map unf) emp emp st := by
  refine ⟨fun pins s σ H D I ⟨B0, B, H0, x, ev, m, q⟩ => ?_⟩
  obtain ⟨_, e1, a, kvs, rfl, rd, r⟩ := ev.get hd
  rcases rd with ha | ⟨o, ha⟩
  · refine (ps_lock h).run pins s σ H D I ⟨a, .dT kvs, x.sub _ _ ha, trivial, fun od => ?_⟩
    have hl := fun b xs (z : H0 b = some (.lst xs)) => show (upd H0 a (.frz od (.dT kvs))) b = some (.lst xs) by rw [upd_ne (ne_of z ha (fun z => nomatch z))]; exact z
    have ht := fun b xs (z : H0 b = some (.tup xs)) => show (upd H0 a (.frz od (.dT kvs))) b = some (.tup xs) by rw [upd_ne (ne_of z ha (fun z => nomatch z))]; exact z
    have ev2 : EnvD (upd H0 a (.frz od (.dT kvs))) (ρ.set i (.fzd kds)) σ := (env_lock ha ev).re e1 ⟨a, od, kvs, rfl, upd_same, r.swap hl ht⟩
    refine ⟨upd H0 a (.frz od (.dT kvs)), upd H a (.frz od (.dT kvs)), upd H0 a (.frz od (.dT kvs)), .refl (same_upd x.sub _), ev2, trivial, fun σ' H0' H' y s' ev' _ => ?_⟩
    obtain ⟨k1, k2, k3, k4⟩ := ext_unlock ha x.sub y
    have hf : H0' a = some (.frz od (.dT kvs)) := s' _ _ upd_same
    exact ⟨k1, q σ' _ _ (x.trans k2) k2.s0 (env_unlock hf ev') trivial⟩
  · refine h.run pins s σ H D I ⟨B0, B, H0, x, ev.re e1 ⟨a, o, kvs, rfl, ha, r⟩, trivial, fun σ' H0' H' y s' ev' _ => q σ' H0' H' y s' (env_unf ev') trivial⟩
end
/-! ### calls whose arguments are told by slots -/
def spS (R : List SV → PyData → Prop) : Sp := fun vs H Q _ => ∃ H0 ss d, Same H0 H ∧ EnvD H0 ss (vs.map some) ∧ R ss d ∧ Ret H0 H d Q
def CalS (P : Program) (w : World) (K : PySem.W.Frag) (mg : Str → Option Value) (base : Heap) (k : Nat) (x : Str) (ps : List Str) (R : List SV → PyData → Prop) : Prop :=
  ∃ f fd, FnOk P w K mg base CX0 k f fd ps (spS R) ∧ mg x = some (.ref f) ∧ PySem.W.keepIn K (.ref f) = true ∧ L2.Binds K fd ps []
theorem env_begS {H : Hp} {n : Nat} : ∀ {ss : List SV} {vs : List V}, EnvD H ss (vs.map some) → EnvD H (ss ++ List.replicate n .no) (vs.map some ++ List.replicate n none)
  | [], [], _ => env_no n
  | _ :: _, _ :: _, ⟨a, b⟩ => ⟨a, env_begS b⟩
  | [], _ :: _, h => h.elim
  | _ :: _, [], h => h.elim
theorem calS_of {P : Program} {w : World} {K : PySem.W.Frag} {mg : Str → Option Value} {base : Heap} {x : Str} {st : Stmt} {N ps : List Str} {k : Nat} {R : List SV → PyData → Prop} (F : Def K mg x st) (S : FnScope N ps (defScope st)) (b : BindOk x st ps) (hl : ∀ ss d, R ss d → ss.length = ps.length)
    (h : ∀ (f : Addr) (cdv : Value) (A : Around) (outer : List Env) (s : Shared) (H : Hp) (E : XK), Room k (A.deeper (envOfC x (defScope st) s.heap.objs.size f cdv)) → ∀ ss d, R ss d → PB (cxOf CX0 P w K mg base N x (defScope st) f cdv A outer s H E).nox (ss ++ List.replicate (N.length - ss.length) .no) emp (defBody st) d) :
    CalS P w K mg base (k + 1) x ps R := by
  obtain ⟨f, fd, F, m⟩ := F
  have len : ∀ (vs : List V) (ss : List SV) (H0 : Hp), EnvD H0 ss (vs.map some) → vs.length = ss.length := fun vs ss H0 e => by have := e.length; rw [List.length_map] at this; exact this.symm
  refine ⟨f, fd, F.ok S (fun vs H Q E ⟨H0, ss, d, s, ev, r, q⟩ => (len vs ss H0 ev).trans (hl ss d r)) fun cdv A outer s H vs Q E hr ⟨H0, ss, d, sm, ev, r, q⟩ => ?_, m, F.kp, F.binds b⟩
  refine ⟨tB (ss ++ List.replicate (N.length - ss.length) .no) emp d, h f cdv A outer s H E hr ss d r, H0, H, H0, .refl sm, ?_, trivial, fun v H0' H' x dq => q v H0' H' x dq⟩
  unfold L2.start
  rw [len vs ss H0 ev]
  exact env_begS ev
section
variable {X : Cx} {ρ : List SV} {d : PyData} {p pos : Pos}
/-- f(x, y), x and y dicts in slots -/
theorem pd_call2 (i j : Nat) {k : Nat} {ps : List Str} {R : List SV → PyData → Prop} {x a b : Str} {pa pb : Pos} {k1 k2 : List (Pt × PyData)} (c : CalS X.prog X.w X.K X.mg X.base k x ps R) (hr : Room k X.A) (h : R [.dic k1, .dic k2] d) (hi : ρ[i]? = some (.dic k1) := by rfl) (hj : ρ[j]? = some (.dic k2) := by rfl) (hNi : X.N[i]? = some a := by rfl) (hNj : X.N[j]? = some b := by rfl)
    (hv1 : Vis X.env.scope a := by first | exact Or.inl rfl | exact Or.inr (Or.inl rfl) | exact Or.inr (Or.inr rfl)) (hv2 : Vis X.env.scope b := by first | exact Or.inl rfl | exact Or.inr (Or.inl rfl) | exact Or.inr (Or.inr rfl)) (h1 : (a == ("__debug__" : Str)) = false := by decide) (h2 : (a == ("__classdict__" : Str)) = false := by decide) (h3 : (b == ("__debug__" : Str)) = false := by decide) (h4 : (b == ("__classdict__" : Str)) = false := by decide)
    (hg : Gl X x := by rfl) (hdb : (x == ("__debug__" : Str)) = false := by decide) (he : starEach [.Name a pa, .Name b pb] X.env = (false, eval (.Name a pa) X.env) :: starEach [.Name b pb] X.env := by rfl) (he2 : starEach [.Name b pb] X.env = (false, eval (.Name b pb) X.env) :: starEach [] X.env := by rfl) (hpl : (backTo pos (starEach [.Name b pb] X.env)).any (·.1) = false := by rfl) :
    PD X ρ (.Call (.Name x p) [.Name a pa, .Name b pb] [] pos) d := by
  obtain ⟨f, fd, F, m, kp, bd⟩ := c
  exact pe_imp (pe_call F hr hg m kp bd .nil pass0 (pa_cons (pe_var hNi hv1 h1 h2) (pa_cons (pe_var hNj hv2 h3 h4) pa_nil he2) he) hdb he hpl) fun σ H Q ⟨H0, s, ev, q⟩ => by
    obtain ⟨_, e1, a1, kv1, rfl, r1⟩ := ev.get hi
    obtain ⟨_, e2, a2, kv2, rfl, r2⟩ := ev.get hj
    exact ⟨_, e1, _, e2, by
      show spS R ([V.ref a1, V.ref a2] ++ []) H Q E0
      exact ⟨H0, [.dic k1, .dic k2], d, s, ⟨⟨a1, kv1, rfl, r1⟩, ⟨a2, kv2, rfl, r2⟩, trivial⟩, h, q⟩⟩
end
theorem look_known (L : List Pt) (c : Pt) : (look (L.map fun c => (c, PyData.bool true)) c).isSome = decide (c ∈ L) := by
  unfold look
  induction L with
  | nil => rfl
  | cons x L ih =>
    rw [List.map_cons]
    by_cases h : x = c
    · subst h
      rw [List.find?_cons_of_pos (by simp)]
      simp
    · rw [List.find?_cons_of_neg (by simp [h]), ih]
      have e : (c ∈ x :: L) ↔ c ∈ L := ⟨fun z => (List.mem_cons.mp z).resolve_left fun w => h w.symm, List.mem_cons_of_mem _⟩
      exact (decide_eq_decide.mpr e).symm
end Hf

/-! ## HfP1 -/
set_option Elab.async false
set_option linter.all false
set_option maxRecDepth 100000
set_option maxHeartbeats 1000000
/-! Defs of the program, 1. -/
namespace Hf
open L2 PySem PySem.Spec PyProof.Rows
open PySem.W (Datum DatumOrd Tup EachIs AllAlike Sortable dataLe)

def top (i : Nat) : Stmt := PySem.Challenge.pw_holefloors_k09_whole_all_floors_by_cover.main.body.getD i (.Pass ⟨0, 0, 0, 0⟩)

section
variable {P : Program} {w : World} {K : PySem.W.Frag} {mg : Str → Option Value} {base : Heap}

/-! is_number -/
theorem sc5 : FnScope ["thing"] ["thing"] (defScope (top 5)) := ⟨rfl, rfl, rfl, by decide +kernel, rfl, by decide +kernel, by decide +kernel⟩
def R5 : List PyData → PyData → Prop := fun ds d => ∃ i : Int, ds = [.int i] ∧ d = .bool true
theorem c5 (F : Def K mg "is_number" (top 5)) (b : Blt mg) : Cal P w K mg base 1 "is_number" ["thing"] R5 :=
  cal_of F sc5 (fun _ _ _ _ _ _ us hl => match us, hl with | [_], _ => rfl) (fun ds d ⟨_, e, _⟩ => by rw [e]; rfl) fun f cdv A outer s H E hr ds d ⟨i, e1, e2⟩ => by
    subst e1 e2
    exact pb_ret (pd_and2 (pd_isi (d := .int i) b.isi b.int (pd_v 0) boot_int' kit_ii) fun _ => pd_not (pd_isi (d := .int i) b.isi b.bool (pd_v 0) boot_bool' kit_ib))
/-! kind_in -/
def kindS (c : Pt) : Str := if (c.1 % 2 + c.2 % 2) = 0 then "post" else if (c.1 % 2 + c.2 % 2) = 1 then "rail" else "plot"
theorem sc24 : FnScope ["cell", "odd"] ["cell"] (defScope (top 24)) := ⟨rfl, rfl, rfl, by decide +kernel, rfl, by decide +kernel, by decide +kernel⟩
def R24 : List PyData → PyData → Prop := fun ds d => ∃ c : Pt, ds = [D c] ∧ d = D (kindS c)
theorem kind_at (c : Pt) : atI [PyData.str "post", .str "rail", .str "plot"] (c.1 % 2 + c.2 % 2) = some (.str (kindS c)) := by
  have h1 : c.1 % 2 = 0 ∨ c.1 % 2 = 1 := by omega
  have h2 : c.2 % 2 = 0 ∨ c.2 % 2 = 1 := by omega
  unfold kindS
  rcases h1 with h1 | h1 <;> rcases h2 with h2 | h2 <;> rw [h1, h2] <;> rfl
theorem c24 (F : Def K mg "kind_in" (top 24)) : Cal P w K mg base 1 "kind_in" ["cell"] R24 :=
  cal_of F sc24 (fun _ _ _ _ _ _ us hl => match us, hl with | [_], _ => rfl) (fun ds d ⟨_, e, _⟩ => by rw [e]; rfl) fun f cdv A outer s H E hr ds d ⟨c, e1, e2⟩ => by
    subst e1 e2
    exact pb_cons (pn_set 1 sc24.nd (pd_add (pd_mod (pd_ixT (d := .int c.1) (pd_v 0) pd_int) pd_int (by decide)) (pd_mod (pd_ixT (d := .int c.2) (pd_v 0) pd_int) pd_int (by decide))))
      (pb_ret (pd_ixT (pd_tup (pda_cons pd_str (pda_cons pd_str (pda_cons pd_str pda_nil)))) (pd_v 1) (kind_at c)))
end
end Hf

/-! ## HfP2 -/
set_option Elab.async false
set_option linter.all false
set_option maxRecDepth 100000
set_option maxHeartbeats 1000000
/-! Defs of the program, 2: plain things, yards. -/
namespace Hf
open L2 PySem PySem.Spec PyProof.Rows
open PySem.W (Datum DatumOrd Tup EachIs AllAlike Sortable dataLe)

theorem ru {u k : Nat} (h : u + 64 < cLine) (hk : k ≤ 64 := by decide) : u + k < cLine := Nat.lt_of_le_of_lt (Nat.add_le_add_left hk u) h
theorem ru1 {u k : Nat} (h : u + 64 < cLine) (hk : 1 + k ≤ 64 := by decide) : u + 1 + k < cLine := by rw [Nat.add_assoc]; exact Nat.lt_of_le_of_lt (Nat.add_le_add_left hk u) h
section
variable {X : Cx} {ρ : List SV}
theorem filter_yes {α : Type} (xs : List α) : xs.filter (fun _ => true) = xs := List.filter_eq_self.mpr fun _ _ => rfl
/-- no test, one name -/
theorem pw_lcm {α : Type} (i : Nat) {elt iter : Expr} {scope : Scope} {x : Str} {px pos : Pos} (xs : List α) (g f : α → PyData) (hc : X.calm = true) (hN : X.N.Nodup)
    (hi : PDI X ρ (.Name x px) iter (xs.map g).length (fun j => (xs.map g).getD j .none)) (ok : BlkOk X.N X.env.scope scope [(x, i)]) (hz : xs.length < 1000000)
    (he : ∀ a ∈ xs, Blk X scope fun Y => PD Y ((ρ.set i .no).set i (.dat (g a))) elt (f a)) (hx : Blk X scope fun Y => Loc Y.env.scope x := by exact fun _ _ _ _ _ => Or.inl rfl) (hf : Blk X scope fun Y => Y.fn x = true ∨ Y.env.scope.names.lookup x = some .local := by exact fun _ _ _ _ _ => Or.inr rfl)
    (hi' : X.N[i]? = some x := by rfl) (hs : ∀ x, foldedSetIterable iter X.env x = pure x := by intro _; rfl) :
    PNewC X ρ (.ListComp elt [⟨.Name x px, iter, [], 0⟩] scope pos) (oL (xs.map f)) := by
  have h := pw_lc1 (pos := pos) i xs g (fun _ => true) f hc hN hi ok (by rw [sizeLine_eq]; omega) hx hf (fun a _ s H C cl fp => pdts_nil) (fun a ha _ => he a ha) hi' hs
  rwa [filter_yes] at h
theorem pd_lcm {α : Type} (i : Nat) {elt iter : Expr} {scope : Scope} {x : Str} {px pos : Pos} (xs : List α) (g f : α → PyData) (hc : X.calm = true) (hN : X.N.Nodup)
    (hi : PDI X ρ (.Name x px) iter (xs.map g).length (fun j => (xs.map g).getD j .none)) (ok : BlkOk X.N X.env.scope scope [(x, i)]) (hz : xs.length < 1000000)
    (he : ∀ a ∈ xs, Blk X scope fun Y => PD Y ((ρ.set i .no).set i (.dat (g a))) elt (f a)) (hx : Blk X scope fun Y => Loc Y.env.scope x := by exact fun _ _ _ _ _ => Or.inl rfl) (hf : Blk X scope fun Y => Y.fn x = true ∨ Y.env.scope.names.lookup x = some .local := by exact fun _ _ _ _ _ => Or.inr rfl)
    (hi' : X.N[i]? = some x := by rfl) (hs : ∀ x, foldedSetIterable iter X.env x = pure x := by intro _; rfl) :
    PD X ρ (.ListComp elt [⟨.Name x px, iter, [], 0⟩] scope pos) (.list (xs.map f)) := pd_of_new (pw_lcm i xs g f hc hN hi ok hz he hx hf hi' hs).val
/-- a test, one name -/
theorem pw_lcf {α : Type} (i : Nat) {elt iter c : Expr} {scope : Scope} {x : Str} {px pos : Pos} (xs : List α) (g f : α → PyData) (p : α → Bool) (hc : X.calm = true) (hN : X.N.Nodup)
    (hi : PDI X ρ (.Name x px) iter (xs.map g).length (fun j => (xs.map g).getD j .none)) (ok : BlkOk X.N X.env.scope scope [(x, i)]) (hz : xs.length < 1000000)
    (ht : ∀ a ∈ xs, Blk X scope fun Y => PDT Y ((ρ.set i .no).set i (.dat (g a))) c (p a))
    (he : ∀ a ∈ xs, Blk X scope fun Y => PD Y ((ρ.set i .no).set i (.dat (g a))) elt (f a)) (hx : Blk X scope fun Y => Loc Y.env.scope x := by exact fun _ _ _ _ _ => Or.inl rfl) (hf : Blk X scope fun Y => Y.fn x = true ∨ Y.env.scope.names.lookup x = some .local := by exact fun _ _ _ _ _ => Or.inr rfl)
    (hi' : X.N[i]? = some x := by rfl) (hs : ∀ x, foldedSetIterable iter X.env x = pure x := by intro _; rfl) :
    PNewC X ρ (.ListComp elt [⟨.Name x px, iter, [c], 0⟩] scope pos) (oL ((xs.filter p).map f)) :=
  pw_lc1 i xs g p f hc hN hi ok (by rw [sizeLine_eq]; omega) hx hf (fun a ha s H C cl fp => pdts_one (ht a ha s H C cl fp)) (fun a ha _ => he a ha) hi' hs
theorem pd_lcf {α : Type} (i : Nat) {elt iter c : Expr} {scope : Scope} {x : Str} {px pos : Pos} (xs : List α) (g f : α → PyData) (p : α → Bool) (hc : X.calm = true) (hN : X.N.Nodup)
    (hi : PDI X ρ (.Name x px) iter (xs.map g).length (fun j => (xs.map g).getD j .none)) (ok : BlkOk X.N X.env.scope scope [(x, i)]) (hz : xs.length < 1000000)
    (ht : ∀ a ∈ xs, Blk X scope fun Y => PDT Y ((ρ.set i .no).set i (.dat (g a))) c (p a))
    (he : ∀ a ∈ xs, Blk X scope fun Y => PD Y ((ρ.set i .no).set i (.dat (g a))) elt (f a)) (hx : Blk X scope fun Y => Loc Y.env.scope x := by exact fun _ _ _ _ _ => Or.inl rfl) (hf : Blk X scope fun Y => Y.fn x = true ∨ Y.env.scope.names.lookup x = some .local := by exact fun _ _ _ _ _ => Or.inr rfl)
    (hi' : X.N[i]? = some x := by rfl) (hs : ∀ x, foldedSetIterable iter X.env x = pure x := by intro _; rfl) :
    PD X ρ (.ListComp elt [⟨.Name x px, iter, [c], 0⟩] scope pos) (.list ((xs.filter p).map f)) := pd_of_new (pw_lcf i xs g f p hc hN hi ok hz ht he hx hf hi' hs).val
end
section
variable {P : Program} {w : World} {K : PySem.W.Frag} {mg : Str → Option Value} {base : Heap}
/-! is_long -/
theorem sc6 : FnScope ["thing", "length"] ["thing", "length"] (defScope (top 6)) := ⟨rfl, rfl, rfl, by decide +kernel, rfl, by decide +kernel, by decide +kernel⟩
def R6 : List PyData → PyData → Prop := fun ds d => ∃ (es : List PyData) (n : Int), ds = [.tuple es, .int n] ∧ d = .bool (decide ((es.length : Int) = n))
theorem c6 (F : Def K mg "is_long" (top 6)) (b : Blt mg) : Cal P w K mg base 1 "is_long" ["thing", "length"] R6 :=
  cal_of F sc6 (fun _ _ _ _ _ _ us hl => match us, hl with | [_, _], _ => rfl) (fun ds d ⟨_, _, e, _⟩ => by rw [e]; rfl) fun f cdv A outer s H E hr ds d ⟨es, n, e1, e2⟩ => by
    subst e1 e2
    exact pb_ret (pd_and2 (pd_isi (d := .tuple es) b.isi b.tuple (pd_v 0) boot_tuple kit_tt) fun _ => pd_eq (α := Int) (x := (es.length : Int)) (y := n) (ru hr.units) (pd_lenT b.len (pda_cons (pd_v 0) pda_nil)) (pd_v 1))
/-! are_numbers -/
theorem sc10 : FnScope ["thing", "own"] ["thing"] (defScope (top 10)) := ⟨rfl, rfl, rfl, by decide +kernel, rfl, by decide +kernel, by decide +kernel⟩
def R10 : List PyData → PyData → Prop := fun ds d => ∃ is : List Int, ds = [.tuple (is.map .int)] ∧ is.length ≤ 10 ∧ d = .bool true
theorem c10 (F : Def K mg "are_numbers" (top 10)) (b : Blt mg) (C5 : Cal P w K mg base 1 "is_number" ["thing"] R5) : Cal P w K mg base 2 "are_numbers" ["thing"] R10 :=
  cal_of F sc10 (fun _ _ _ _ _ _ us hl => match us, hl with | [_], _ => rfl) (fun ds d ⟨_, e, _, _⟩ => by rw [e]; rfl) fun f cdv A outer s H E hr ds d ⟨is, e1, hl, e2⟩ => by
    subst e1 e2
    have e : (is.map fun _ => true).all id = true := by simp
    refine pb_ret (pd_and2 (pd_isi (d := .tuple (is.map .int)) b.isi b.tuple (pd_v 0) boot_tuple kit_tt) fun _ => pd_of_eq (pd_all (bs := is.map fun _ => true) rfl b.all (pda_cons (pd_of_eq (pd_lcm 1 is .int (fun _ => .bool true) rfl sc10.nd (pdi_tup (pd_v 0)) ?_ (by omega)
      fun a _ s H C cl fp => pdc C5 hr (pda_cons (pd_v 1) pda_nil) ⟨a, rfl, rfl⟩) (by rw [List.map_map]; rfl)) pda_nil)) (by rw [e]))
    show BlkOk ["thing", "own"] (defScope (top 10)) _ _
    exact ⟨rfl, by decide +kernel, by decide +kernel, by decide +kernel, by decide +kernel⟩
/-! is_pair -/
theorem sc12 : FnScope ["thing"] ["thing"] (defScope (top 12)) := ⟨rfl, rfl, rfl, by decide +kernel, rfl, by decide +kernel, by decide +kernel⟩
def R12 : List PyData → PyData → Prop := fun ds d => ∃ c : Pt, ds = [D c] ∧ d = .bool true
theorem c12 (F : Def K mg "is_pair" (top 12)) (b : Blt mg) (C6 : Cal P w K mg base 1 "is_long" ["thing", "length"] R6) (C10 : Cal P w K mg base 2 "are_numbers" ["thing"] R10) : Cal P w K mg base 3 "is_pair" ["thing"] R12 :=
  cal_of F sc12 (fun _ _ _ _ _ _ us hl => match us, hl with | [_], _ => rfl) (fun ds d ⟨_, e, _⟩ => by rw [e]; rfl) fun f cdv A outer s H E hr ds d ⟨c, e1, e2⟩ => by
    subst e1 e2
    exact pb_ret (pd_and2 (c := true) (c' := true) (pdc C6 (hr.mono (by decide)) (pda_cons (pd_v 0) (pda_cons pd_int pda_nil)) ⟨_, 2, rfl, rfl⟩) fun _ => pdc C10 hr (pda_cons (pd_v 0) pda_nil) ⟨[c.1, c.2], rfl, Nat.le_of_ble_eq_true rfl, rfl⟩)
/-! is_any_square -/
theorem sc13 : FnScope ["thing"] ["thing"] (defScope (top 13)) := ⟨rfl, rfl, rfl, by decide +kernel, rfl, by decide +kernel, by decide +kernel⟩
def sqB (c : Pt) : Bool := decide (0 ≤ c.1) && decide (0 ≤ c.2)
def R13 : List PyData → PyData → Prop := fun ds d => ∃ c : Pt, ds = [D c] ∧ d = .bool (sqB c)
theorem c13 (F : Def K mg "is_any_square" (top 13)) (C12 : Cal P w K mg base 3 "is_pair" ["thing"] R12) : Cal P w K mg base 4 "is_any_square" ["thing"] R13 :=
  cal_of F sc13 (fun _ _ _ _ _ _ us hl => match us, hl with | [_], _ => rfl) (fun ds d ⟨_, e, _⟩ => by rw [e]; rfl) fun f cdv A outer s H E hr ds d ⟨c, e1, e2⟩ => by
    subst e1 e2
    exact pb_ret (pd_and (c := true) (pdc C12 hr (pda_cons (pd_v 0) pda_nil) ⟨c, rfl, rfl⟩) (fun _ => pd_and2 (pd_ge (pd_ixT (d := .int c.1) (pd_v 0) pd_int) pd_int) fun _ => pd_ge (pd_ixT (d := .int c.2) (pd_v 0) pd_int) pd_int) (fun h => nomatch h))
/-! next_to -/
theorem sc14 : FnScope ["square", "x", "y"] ["square"] (defScope (top 14)) := ⟨rfl, rfl, rfl, by decide +kernel, rfl, by decide +kernel, by decide +kernel⟩
def nextL (c : Pt) : List Pt := [(c.1 - 1, c.2), (c.1, c.2 - 1), (c.1, c.2 + 1), (c.1 + 1, c.2)]
def R14 : List PyData → PyData → Prop := fun ds d => ∃ c : Pt, ds = [D c] ∧ d = D (nextL c)
theorem c14 (F : Def K mg "next_to" (top 14)) : Cal P w K mg base 1 "next_to" ["square"] R14 :=
  cal_of F sc14 (fun _ _ _ _ _ _ us hl => match us, hl with | [_], _ => rfl) (fun ds d ⟨_, e, _⟩ => by rw [e]; rfl) fun f cdv A outer s H E hr ds d ⟨c, e1, e2⟩ => by
    subst e1 e2
    exact pb_cons (pn_asg (pd_v 0) (pdg_tup (ds := [.int c.1, .int c.2]) rfl (pdgs_cons (pdg 1 sc14.nd) (pdgs_cons (pdg 2 sc14.nd) pdgs_nil))))
      (pb_ret (pd_lst (pda_cons (pd_tup (pda_cons (pd_sub (pd_v 1) pd_int) (pda_cons (pd_v 2) pda_nil))) (pda_cons (pd_tup (pda_cons (pd_v 1) (pda_cons (pd_sub (pd_v 2) pd_int) pda_nil))) (pda_cons (pd_tup (pda_cons (pd_v 1) (pda_cons (pd_add (pd_v 2) pd_int) pda_nil))) (pda_cons (pd_tup (pda_cons (pd_add (pd_v 1) pd_int) (pda_cons (pd_v 2) pda_nil))) pda_nil))))))
/-! ascends -/
theorem sc8 : FnScope ["row", "k"] ["row"] (defScope (top 8)) := ⟨rfl, rfl, rfl, by decide +kernel, rfl, by decide +kernel, by decide +kernel⟩
def ascB (S : List Pt) : Bool := (List.range (S.length - 1)).all fun k => DatumOrd.lt (S.getD k (0, 0)) (S.getD (k + 1) (0, 0))
def R8 : List PyData → PyData → Prop := fun ds d => ∃ S : List Pt, ds = [.tuple (S.map D)] ∧ S ≠ [] ∧ S.length ≤ 1000 ∧ d = .bool (ascB S)
theorem at_pt {S : List Pt} {k : Nat} {i : Int} (h : k < S.length) (e : i = k) : atI (S.map D) i = some (D (S.getD k (0, 0))) := by
  subst e
  unfold atI ixN
  rw [List.length_map, if_pos (by omega)]
  simp [List.getD_eq_getElem?_getD, h]
theorem c8 (F : Def K mg "ascends" (top 8)) (b : Blt mg) : Cal P w K mg base 1 "ascends" ["row"] R8 :=
  cal_of F sc8 (fun _ _ _ _ _ _ us hl => match us, hl with | [_], _ => rfl) (fun ds d ⟨_, e, _⟩ => by rw [e]; rfl) fun f cdv A outer s H E hr ds d ⟨S, e1, hn, hl, e2⟩ => by
    subst e1 e2
    have h0 : 0 < S.length := List.length_pos_iff.mpr hn
    refine pb_ret (pd_of_eq (pd_all (bs := (List.range (S.length - 1)).map fun k => DatumOrd.lt (S.getD k (0, 0)) (S.getD (k + 1) (0, 0))) rfl b.all (pda_cons (pd_of_eq (pd_of_new (pw_lcG (own := [("k", 1)]) (is := [1]) (List.range (S.length - 1)) (fun k => .int k) (fun k => (begS ["row", "k"] [.tuple (S.map D)]).set 1 (.dat (.int k))) (fun _ => true) (fun k => .bool (DatumOrd.lt (S.getD k (0, 0)) (S.getD (k + 1) (0, 0)))) rfl sc8.nd
      (pdi_range1 b.range (pda_cons (pd_sub (pd_lenT b.len (pda_cons (pd_v 0) pda_nil)) pd_int) pda_nil) ?_ ?_) ?_ ?_ ?_ (fun k h => h) ?_ ?_ ?_ ?_).val) ?_) pda_nil)) ?_)
    · rw [List.length_map]; omega
    · rw [List.length_map]; omega
    · rw [List.length_map, List.length_range]; omega
    · intro j a h
      obtain ⟨h1, h2⟩ := List.getElem?_eq_some_iff.mp h
      rw [List.getElem_range] at h2
      subst h2
      show PyData.int (0 + (j : Int)) = _
      rw [Int.zero_add]
    · show BlkOk ["row", "k"] (defScope (top 8)) _ _
      exact ⟨rfl, by decide +kernel, by decide +kernel, by decide +kernel, by decide +kernel⟩
    · rw [List.length_range, sizeLine_eq]; omega
    · exact fun a _ s H C cl fp => pdg 1 sc8.nd
    · exact fun a _ s H C cl fp => pdts_nil
    · intro a ha _ s H C cl fp
      have hk : a < S.length - 1 := List.mem_range.mp ha
      exact pd_ltT (ru hr.units) (pd_ixT (pd_v 0) (pd_v 1) (at_pt (by omega) rfl)) (pd_ixT (pd_v 0) (pd_add (pd_v 1) pd_int) (at_pt (k := a + 1) (by omega) rfl))
    · rw [filter_yes, List.map_map]; rfl
    · rw [List.all_map]; rfl
end
end Hf

/-! ## HfP3 -/
set_option Elab.async false
set_option linter.all false
set_option maxRecDepth 100000
set_option maxHeartbeats 1000000
/-! Defs of the program, 3: tupled, the cells of a yard. -/
namespace Hf
open L2 PySem PySem.Spec PyProof.Rows
open PySem.W (Datum DatumOrd Tup EachIs AllAlike Sortable dataLe)

theorem dmul {i j : Int} (h : -1000000 ≤ i ∧ i ≤ 1000000) : CMul i j := .inl ⟨by omega, by omega⟩
section
variable {P : Program} {w : World} {K : PySem.W.Frag} {mg : Str → Option Value} {base : Heap}
/-! tupled -/
theorem sc7 : FnScope ["value", "own"] ["value"] (defScope (top 7)) := ⟨rfl, rfl, rfl, by decide +kernel, rfl, by decide +kernel, by decide +kernel⟩
def Nest : Nat → PyData → Prop
  | 0, e => ∃ i, e = .int i
  | n + 1, e => (∃ i, e = .int i) ∨ ∃ ds, (e = .list ds ∨ e = .tuple ds) ∧ ds.length ≤ 1000 ∧ ∀ x ∈ ds, Nest n x
def tupN : Nat → PyData → PyData
  | n + 1, .list ds => .tuple (ds.map (tupN n))
  | n + 1, .tuple ds => .tuple (ds.map (tupN n))
  | _, e => e
def R7 (n : Nat) : List PyData → PyData → Prop := fun ds d => ∃ e, ds = [e] ∧ Nest n e ∧ d = tupN n e
theorem bk7 : BlkOk ["value", "own"] (defScope (top 7)) (match defBody (top 7) with | [.Return (some (.IfExp _ (.Call _ [.ListComp _ _ sc _] _ _) _ _)) _] => sc | _ => defScope (top 7)) [("own", 1)] :=
  ⟨by decide +kernel, by decide +kernel, by decide +kernel, by decide +kernel, by decide +kernel⟩
theorem c7 (F : Def K mg "tupled" (top 7)) (b : Blt mg) : ∀ n, Cal P w K mg base (n + 1) "tupled" ["value"] (R7 n)
  | 0 => cal_of F sc7 (fun _ _ _ _ _ _ us hl => match us, hl with | [_], _ => rfl) (fun ds d ⟨_, e, _, _⟩ => by rw [e]; rfl) fun f cdv A outer s H E hr ds d ⟨e, e1, ⟨i, hi⟩, e2⟩ => by
    subst e1 e2 hi
    exact pb_ret (pd_if (c := false) (pdt_val (pd_isi2 (d := .int i) b.isi b.list b.tuple (pd_v 0) boot_list' boot_tuple kit_il kit_it)) (fun h => nomatch h) fun _ => pd_v 0)
  | n + 1 => cal_of F sc7 (fun _ _ _ _ _ _ us hl => match us, hl with | [_], _ => rfl) (fun ds d ⟨_, e, _, _⟩ => by rw [e]; rfl) fun f cdv A outer s H E hr ds d ⟨e, e1, hn, e2⟩ => by
    subst e1 e2
    have rec_ := c7 F b n
    rcases hn with ⟨i, hi⟩ | ⟨xs, hx, hl, hall⟩
    · subst hi
      exact pb_ret (pd_if (c := false) (pdt_val (pd_isi2 (d := .int i) b.isi b.list b.tuple (pd_v 0) boot_list' boot_tuple kit_il kit_it)) (fun h => nomatch h) fun _ => pd_v 0)
    · have nm : ∀ (xs : List PyData), xs.map (fun d => d) = xs := fun xs => List.map_id' xs
      rcases hx with hx | hx
      · subst hx
        exact pb_ret (pd_if (c := true) (pdt_val (pd_isi2 (d := .list xs) b.isi b.list b.tuple (pd_v 0) boot_list' boot_tuple kit_ll kit_lt)) (fun _ => pd_tupleL b.tuple (pda_cons (pd_lcm 1 xs (fun d => d) (tupN n) rfl sc7.nd (by rw [nm]; exact pdi_list (pd_v 0)) bk7 (by omega)
          fun a ha s H C cl fp => pdc rec_ hr (pda_cons (pd_v 1) pda_nil) ⟨a, rfl, hall a ha, rfl⟩) pda_nil)) fun h => nomatch h)
      · subst hx
        exact pb_ret (pd_if (c := true) (pdt_val (pd_isi2 (d := .tuple xs) b.isi b.list b.tuple (pd_v 0) boot_list' boot_tuple kit_tl kit_tt)) (fun _ => pd_tupleL b.tuple (pda_cons (pd_lcm 1 xs (fun d => d) (tupN n) rfl sc7.nd (by rw [nm]; exact pdi_tup (pd_v 0)) bk7 (by omega)
          fun a ha s H C cl fp => pdc rec_ hr (pda_cons (pd_v 1) pda_nil) ⟨a, rfl, hall a ha, rfl⟩) pda_nil)) fun h => nomatch h)
/-! squares_of -/
theorem sc22 : FnScope ["cell", "halves", "found", "x", "own", "y"] ["cell"] (defScope (top 22)) := ⟨rfl, rfl, rfl, by decide +kernel, rfl, by decide +kernel, by decide +kernel⟩
def half (i : Int) : List Int := if i % 2 = 0 then [i / 2 - 1, i / 2] else [i / 2]
def squaresL (c : Pt) : List Pt := (half c.1).flatMap fun x => (half c.2).map fun y => (x, y)
theorem half_len (i : Int) : (half i).length ≤ 2 := by unfold half; split <;> simp
def R22 : List PyData → PyData → Prop := fun ds d => ∃ c : Pt, ds = [D c] ∧ d = D (squaresL c)
theorem bk22a : BlkOk ["cell", "halves", "found", "x", "own", "y"] (defScope (top 22)) (match defBody (top 22) with | .Assign _ (.ListComp _ _ sc _) _ :: _ => sc | _ => defScope (top 7)) [("own", 4)] :=
  ⟨by decide +kernel, by decide +kernel, by decide +kernel, by decide +kernel, by decide +kernel⟩
theorem bk22b : BlkOk ["cell", "halves", "found", "x", "own", "y"] (defScope (top 22)) (match defBody (top 22) with | [_, _, .For _ _ [.Expr (.Call _ [.ListComp _ _ sc _] _ _) _] _ _, _] => sc | _ => defScope (top 7)) [("y", 5)] :=
  ⟨by decide +kernel, by decide +kernel, by decide +kernel, by decide +kernel, by decide +kernel⟩
def sq22 (c : Pt) (j : Nat) : List Pt := ((half c.1).take j).flatMap fun x => (half c.2).map fun y => (x, y)
theorem sq22_len (c : Pt) : ∀ j, (sq22 c j).length ≤ 2 * j
  | 0 => Nat.zero_le _
  | j + 1 => by
    have h := sq22_len c j
    have h2 := half_len c.2
    unfold sq22 at h ⊢
    rw [List.take_add_one, List.flatMap_append, List.length_append]
    cases (half c.1)[j]? with
    | none => simp only [Option.toList_none, List.flatMap_nil, List.length_nil]; omega
    | some a => simp only [Option.toList_some, List.flatMap_cons, List.flatMap_nil, List.append_nil, List.length_map]; omega
theorem c22 (F : Def K mg "squares_of" (top 22)) (b : Blt mg) : Cal P w K mg base 1 "squares_of" ["cell"] R22 :=
  cal_of F sc22 (fun _ _ _ _ _ _ us hl => match us, hl with | [_], _ => rfl) (fun ds d ⟨_, e, _⟩ => by rw [e]; rfl) fun f cdv A outer s H E hr ds d ⟨c, e1, e2⟩ => by
    subst e1 e2
    have hl1 := half_len c.1
    have hl2 := half_len c.2
    have fin : D (squaresL c) = .list ((sq22 c (half c.1).length).map D) := by unfold sq22; rw [List.take_length]; rfl
    rw [fin]
    refine pb_own (pb_cons (pn_setC (ds := [D (half c.1), D (half c.2)]) 1 (pw_lcm 4 [c.1, c.2] .int (fun i => D (half i)) rfl sc22.nd (pdi_tup (pd_v 0)) bk22a (by show 2 < _; omega) fun i _ s H C cl fp => ?_))
      (pb_new 2 sc22.nd (pw_lst pda_nil) fun fa => pb_cons (pn_for1 3 (half c.1) .int (fun j => own [(fa, oL ((sq22 c j).map D))]) sc22.nd
        (pdi_list (ds := (half c.1).map .int) (pd_ixL (pd_v 1) pd_int)) fun j a ha => pns_w (pns_one (pn_extend 0 2 (es := ((half c.2).map fun y => ((a, y) : Pt)).map D) (pd_of_eq (pd_lcm 5 (half c.2) .int (fun y => D ((a, y) : Pt)) rfl sc22.nd (pdi_list (ds := (half c.2).map .int) (pd_ixL (pd_v 1) pd_int)) bk22b (by omega)
          fun y _ s H C cl fp => pd_tup (pda_cons (pd_v 3) (pda_cons (pd_v 5) pda_nil))) (by rw [List.map_map]; rfl)) rfl ?_ ?_))) (pb_retL 0 2)))
    · have hz := i
      exact pd_if (c := decide (i % 2 = 0)) (pdt_eq (α := Int) (ru hr.units) (pd_mod (pd_v 4) pd_int (by decide)) pd_int)
        (fun h => pd_of_eq (pd_lst (pda_cons (pd_sub (pd_fdiv (pd_v 4) pd_int ⟨by decide, by decide⟩) pd_int) (pda_cons (pd_fdiv (pd_v 4) pd_int ⟨by decide, by decide⟩) pda_nil))) (by unfold half; rw [if_pos (of_decide_eq_true h)]; rfl))
        (fun h => pd_of_eq (pd_lst (pda_cons (pd_fdiv (pd_v 4) pd_int ⟨by decide, by decide⟩) pda_nil)) (by unfold half; rw [if_neg (of_decide_eq_false h)]; rfl))
    · have h1 := sq22_len c j
      have h2 : j < (half c.1).length := (List.getElem?_eq_some_iff.mp ha).1
      rw [List.length_map, List.length_map, List.length_map, sizeLine_eq]
      omega
    · unfold sq22
      rw [List.take_add_one, ha, List.flatMap_append, List.map_append]
      simp only [Option.toList_some, List.flatMap_cons, List.flatMap_nil, List.append_nil]
end
end Hf

/-! ## HfP4 -/
set_option Elab.async false
set_option linter.all false
set_option maxRecDepth 100000
set_option maxHeartbeats 1000000
/-! Defs of the program, 4: posts, rails, plots. -/
namespace Hf
open L2 PySem PySem.Spec PyProof.Rows
open PySem.W (Datum DatumOrd Tup EachIs AllAlike Sortable dataLe)

/-- the dict found after found[c] = True for each c -/
def putAll (kds : List (Pt × PyData)) (cs : List Pt) : List (Pt × PyData) := cs.foldl (fun acc c => putP acc c (.bool true)) kds
theorem putAll_app (kds : List (Pt × PyData)) (a b : List Pt) : putAll (putAll kds a) b = putAll kds (a ++ b) := by unfold putAll; rw [List.foldl_append]
theorem putAll_len : ∀ (cs : List Pt) (kds : List (Pt × PyData)), (putAll kds cs).length ≤ kds.length + cs.length
  | [], kds => Nat.le_refl _
  | c :: cs, kds => by
    have h1 := putAll_len cs (putP kds c (.bool true))
    have h2 := putP_length kds c (.bool true)
    show (putAll (putP kds c (.bool true)) cs).length ≤ _
    rw [List.length_cons]
    omega
/-- the keys, sorted -/
def keysU (cs : List Pt) : List Pt := ((putAll [] cs).map (·.1)).mergeSort leT
theorem keysU_D (cs : List Pt) : ((putAll [] cs).map fun z => D z.1).mergeSort leD = (keysU cs).map D := by
  have e : ((putAll [] cs).map fun z => D z.1) = ((putAll [] cs).map (·.1)).map D := by rw [List.map_map]; rfl
  rw [e, sort_D]
  rfl
theorem flat_len {α : Type} (f : α → List Pt) (n : Nat) (h : ∀ a, (f a).length ≤ n) : ∀ xs : List α, (xs.flatMap f).length ≤ n * xs.length
  | [] => Nat.zero_le _
  | x :: xs => by
    have h1 := flat_len f n h xs
    have h2 := h x
    rw [List.flatMap_cons, List.length_append, List.length_cons, Nat.mul_add]
    omega
theorem take_next' {α : Type} {l : List α} {i : Nat} {x : α} (h : l[i]? = some x) : l.take (i + 1) = l.take i ++ [x] := by
  rw [List.take_add_one, h]; rfl
section
variable {P : Program} {w : World} {K : PySem.W.Frag} {mg : Str → Option Value} {base : Heap}
/-! posts_in -/
theorem sc16 : FnScope ["squares", "found", "x", "y", "east"] ["squares"] (defScope (top 16)) := ⟨rfl, rfl, rfl, by decide +kernel, rfl, by decide +kernel, by decide +kernel⟩
def post2 (c : Pt) (e : Int) : List Pt := [(2 * c.1 + e, 2 * c.2), (2 * c.1 + e, 2 * c.2 + 2)]
def postsOf (c : Pt) : List Pt := ([0, 2] : List Int).flatMap (post2 c)
def postsL (S : List Pt) : List Pt := keysU (S.flatMap postsOf)
def R16 : List PyData → PyData → Prop := fun ds d => ∃ S : List Pt, ds = [.tuple (S.map D)] ∧ S.length ≤ 1000 ∧ d = D (postsL S)
theorem c16 (F : Def K mg "posts_in" (top 16)) (b : Blt mg) : Cal P w K mg base 1 "posts_in" ["squares"] R16 :=
  cal_of F sc16 (fun _ _ _ _ _ _ us hl => match us, hl with | [_], _ => rfl) (fun ds d ⟨_, e, _⟩ => by rw [e]; rfl) fun f cdv A outer s H E hr ds d ⟨S, e1, hl, e2⟩ => by
    subst e1 e2
    have fin : D (postsL S) = .list (((putAll [] ((S.take S.length).flatMap postsOf)).map fun z => D z.1).mergeSort leD) := by rw [List.take_length, keysU_D]; rfl
    rw [fin]
    have lens : ∀ (n j : Nat) (c : Pt), (putAll [] ((S.take n).flatMap postsOf ++ (([0, 2] : List Int).take j).flatMap (post2 c))).length + 4 < sizeLine := fun n j c => by
      have h1 := putAll_len ((S.take n).flatMap postsOf ++ (([0, 2] : List Int).take j).flatMap (post2 c)) []
      have h2 := flat_len postsOf 4 (fun _ => Nat.le_refl _) (S.take n)
      have h3 := flat_len (post2 c) 2 (fun _ => Nat.le_refl _) (([0, 2] : List Int).take j)
      rw [List.length_append] at h1
      rw [List.length_take] at h2 h3
      have h4 : ([0, 2] : List Int).length = 2 := rfl
      simp only [List.length_nil] at h1
      rw [sizeLine_eq]
      omega
    have step : ∀ (A : List Pt) (c : Pt), putP (putAll [] A) c (.bool true) = putAll [] (A ++ [c]) := fun A c => (putAll_app [] A [c])
    refine pb_own (pb_new 1 sc16.nd pw_dict fun fa => pb_cons (pn_for2 2 3 S (fun j => own [(fa, oD (putAll [] ((S.take j).flatMap postsOf)))]) sc16.nd (pdi_tup (pd_v 0)) fun j c hj => pns_w (pns_one (pn_eq (pn_for1 4 ([0, 2] : List Int) .int (fun i => own [(fa, oD (putAll [] ((S.take j).flatMap postsOf ++ (([0, 2] : List Int).take i).flatMap (post2 c))))]) sc16.nd
      (pdi_tup (ds := [.int 0, .int 2]) (pd_tup (pda_cons pd_int (pda_cons pd_int pda_nil)))) fun i e he => pns_w (pns_cons (pn_dput (c := (2 * c.1 + e, 2 * c.2)) 0 1 (ru1 hr.units (k := 0)) (pd_tup (pda_cons (pd_add (pd_mul pd_int (pd_v 2) (dmul (by decide))) (pd_v 4)) (pda_cons (pd_mul pd_int (pd_v 3) (dmul (by decide))) pda_nil))) pd_bl rfl (Nat.lt_of_le_of_lt (Nat.le_add_right _ 4) (lens j i c)) (step _ _))
        (pns_one (pn_dput (c := (2 * c.1 + e, 2 * c.2 + 2)) 0 1 (ru1 hr.units (k := 0)) (pd_tup (pda_cons (pd_add (pd_mul pd_int (pd_v 2) (dmul (by decide))) (pd_v 4)) (pda_cons (pd_add (pd_mul pd_int (pd_v 3) (dmul (by decide))) pd_int) pda_nil))) pd_bl rfl ?_ ?_)))) ?_ ?_))) (pb_retSK 0 1 rfl b.sorted ?_))
    · have h1 := lens j i c
      have h2 := putAll_len [(2 * c.1 + e, 2 * c.2)] (putAll [] ((S.take j).flatMap postsOf ++ (([0, 2] : List Int).take i).flatMap (post2 c)))
      rw [putAll_app] at h2
      simp only [List.length_cons, List.length_nil] at h2
      omega
    · rw [step, take_next' he, List.flatMap_append]
      simp only [List.append_assoc]
      rfl
    · simp only [List.take_zero, List.flatMap_nil, List.append_nil]
    · rw [take_next' hj, List.flatMap_append]
      rfl
    · have h1 := putAll_len ((S.take S.length).flatMap postsOf) []
      have h2 := flat_len postsOf 4 (fun _ => Nat.le_refl _) (S.take S.length)
      rw [List.take_length] at h1 h2 ⊢
      have e : ((putAll [] (S.flatMap postsOf)).map fun z => D z.1) = ((putAll [] (S.flatMap postsOf)).map (·.1)).map D := by rw [List.map_map]; rfl
      rw [e]
      simp only [List.length_nil] at h1
      exact srt_pt _ (by rw [List.length_map, sizeLine_eq]; omega) (by have := hr.units; rw [Nat.add_assoc]; exact ru hr.units)
/-! rails_in -/
theorem sc17 : FnScope ["squares", "found", "x", "y", "more"] ["squares"] (defScope (top 17)) := ⟨rfl, rfl, rfl, by decide +kernel, rfl, by decide +kernel, by decide +kernel⟩
def rail2 (c : Pt) (e : Int) : List Pt := [(2 * c.1 + e, 2 * c.2 + 1), (2 * c.1 + 1, 2 * c.2 + e)]
def railsOf (c : Pt) : List Pt := ([0, 2] : List Int).flatMap (rail2 c)
def railsL (S : List Pt) : List Pt := keysU (S.flatMap railsOf)
def R17 : List PyData → PyData → Prop := fun ds d => ∃ S : List Pt, ds = [.tuple (S.map D)] ∧ S.length ≤ 1000 ∧ d = D (railsL S)
theorem c17 (F : Def K mg "rails_in" (top 17)) (b : Blt mg) : Cal P w K mg base 1 "rails_in" ["squares"] R17 :=
  cal_of F sc17 (fun _ _ _ _ _ _ us hl => match us, hl with | [_], _ => rfl) (fun ds d ⟨_, e, _⟩ => by rw [e]; rfl) fun f cdv A outer s H E hr ds d ⟨S, e1, hl, e2⟩ => by
    subst e1 e2
    have fin : D (railsL S) = .list (((putAll [] ((S.take S.length).flatMap railsOf)).map fun z => D z.1).mergeSort leD) := by rw [List.take_length, keysU_D]; rfl
    rw [fin]
    have lens : ∀ (n j : Nat) (c : Pt), (putAll [] ((S.take n).flatMap railsOf ++ (([0, 2] : List Int).take j).flatMap (rail2 c))).length + 4 < sizeLine := fun n j c => by
      have h1 := putAll_len ((S.take n).flatMap railsOf ++ (([0, 2] : List Int).take j).flatMap (rail2 c)) []
      have h2 := flat_len railsOf 4 (fun _ => Nat.le_refl _) (S.take n)
      have h3 := flat_len (rail2 c) 2 (fun _ => Nat.le_refl _) (([0, 2] : List Int).take j)
      rw [List.length_append] at h1
      rw [List.length_take] at h2 h3
      have h4 : ([0, 2] : List Int).length = 2 := rfl
      simp only [List.length_nil] at h1
      rw [sizeLine_eq]
      omega
    have step : ∀ (A : List Pt) (c : Pt), putP (putAll [] A) c (.bool true) = putAll [] (A ++ [c]) := fun A c => (putAll_app [] A [c])
    refine pb_own (pb_new 1 sc17.nd pw_dict fun fa => pb_cons (pn_for2 2 3 S (fun j => own [(fa, oD (putAll [] ((S.take j).flatMap railsOf)))]) sc17.nd (pdi_tup (pd_v 0)) fun j c hj => pns_w (pns_one (pn_eq (pn_for1 4 ([0, 2] : List Int) .int (fun i => own [(fa, oD (putAll [] ((S.take j).flatMap railsOf ++ (([0, 2] : List Int).take i).flatMap (rail2 c))))]) sc17.nd
      (pdi_tup (ds := [.int 0, .int 2]) (pd_tup (pda_cons pd_int (pda_cons pd_int pda_nil)))) fun i e he => pns_w (pns_cons (pn_dput (c := (2 * c.1 + e, 2 * c.2 + 1)) 0 1 (ru1 hr.units (k := 0)) (pd_tup (pda_cons (pd_add (pd_mul pd_int (pd_v 2) (dmul (by decide))) (pd_v 4)) (pda_cons (pd_add (pd_mul pd_int (pd_v 3) (dmul (by decide))) pd_int) pda_nil))) pd_bl rfl (Nat.lt_of_le_of_lt (Nat.le_add_right _ 4) (lens j i c)) (step _ _))
        (pns_one (pn_dput (c := (2 * c.1 + 1, 2 * c.2 + e)) 0 1 (ru1 hr.units (k := 0)) (pd_tup (pda_cons (pd_add (pd_mul pd_int (pd_v 2) (dmul (by decide))) pd_int) (pda_cons (pd_add (pd_mul pd_int (pd_v 3) (dmul (by decide))) (pd_v 4)) pda_nil))) pd_bl rfl ?_ ?_)))) ?_ ?_))) (pb_retSK 0 1 rfl b.sorted ?_))
    · have h1 := lens j i c
      have h2 := putAll_len [(2 * c.1 + e, 2 * c.2 + 1)] (putAll [] ((S.take j).flatMap railsOf ++ (([0, 2] : List Int).take i).flatMap (rail2 c)))
      rw [putAll_app] at h2
      simp only [List.length_cons, List.length_nil] at h2
      omega
    · rw [step, take_next' he, List.flatMap_append]
      simp only [List.append_assoc]
      rfl
    · simp only [List.take_zero, List.flatMap_nil, List.append_nil]
    · rw [take_next' hj, List.flatMap_append]
      rfl
    · have h1 := putAll_len ((S.take S.length).flatMap railsOf) []
      have h2 := flat_len railsOf 4 (fun _ => Nat.le_refl _) (S.take S.length)
      rw [List.take_length] at h1 h2 ⊢
      have e : ((putAll [] (S.flatMap railsOf)).map fun z => D z.1) = ((putAll [] (S.flatMap railsOf)).map (·.1)).map D := by rw [List.map_map]; rfl
      rw [e]
      simp only [List.length_nil] at h1
      exact srt_pt _ (by rw [List.length_map, sizeLine_eq]; omega) (by have := hr.units; rw [Nat.add_assoc]; exact ru hr.units)
/-! plots_in -/
theorem sc18 : FnScope ["squares", "x", "y"] ["squares"] (defScope (top 18)) := ⟨rfl, rfl, rfl, by decide +kernel, rfl, by decide +kernel, by decide +kernel⟩
def plotOf (c : Pt) : Pt := (2 * c.1 + 1, 2 * c.2 + 1)
def plotsL (S : List Pt) : List Pt := (S.map plotOf).mergeSort leT
theorem plot_inj {a b : Pt} (h : plotOf a = plotOf b) : a = b := by
  unfold plotOf at h
  injection h with h1 h2
  exact Prod.ext (by omega) (by omega)
theorem plots_nd {S : List Pt} (h : S.Nodup) : (S.map plotOf).Nodup := List.pairwise_map.mpr (List.Pairwise.imp (fun {x y} h z => h (plot_inj z)) h)
theorem bk18 : BlkOk ["squares", "x", "y"] (defScope (top 18)) (match defBody (top 18) with | [.Return (some (.Call _ [.Call _ [.ListComp _ _ sc _] _ _] _ _)) _] => sc | _ => defScope (top 7)) [("x", 1), ("y", 2)] :=
  ⟨by decide +kernel, by decide +kernel, by decide +kernel, by decide +kernel, by decide +kernel⟩
def R18 : List PyData → PyData → Prop := fun ds d => ∃ S : List Pt, ds = [.tuple (S.map D)] ∧ S.Nodup ∧ S.length ≤ 50 ∧ d = D (plotsL S)
theorem c18 (F : Def K mg "plots_in" (top 18)) (b : Blt mg) : Cal P w K mg base 1 "plots_in" ["squares"] R18 :=
  cal_of F sc18 (fun _ _ _ _ _ _ us hl => match us, hl with | [_], _ => rfl) (fun ds d ⟨_, e, _⟩ => by rw [e]; rfl) fun f cdv A outer s H E hr ds d ⟨S, e1, hn, hl, e2⟩ => by
    subst e1 e2
    refine pb_ret (pd_sortSet (xs := S.map plotOf) rfl (ru hr.units) b.sorted b.set (.inl (pda_cons (pd_of_eq (pd_lcG (own := [("x", 1), ("y", 2)]) (is := [1] ++ ([2] ++ [])) S D (fun c => ((begS ["squares", "x", "y"] [.tuple (S.map D)]).set 1 (.dat (.int c.1))).set 2 (.dat (.int c.2))) (fun _ => true) (fun c => D (plotOf c)) rfl sc18.nd (pdi_tup (pd_v 0)) (by rw [List.length_map]) (fun j a h => getD_map h) bk18 (by decide) (by rw [sizeLine_eq]; omega)
      (fun c _ s H C cl fp => pdg_tup (ds := [.int c.1, .int c.2]) rfl (pdgs_cons (pdg 1 sc18.nd) (pdgs_cons (pdg 2 sc18.nd) pdgs_nil))) (fun c _ s H C cl fp => pdts_nil) fun c _ _ s H C cl fp => pd_tup (pda_cons (pd_add (pd_mul pd_int (pd_v 1) (dmul (by decide))) pd_int) (pda_cons (pd_add (pd_mul pd_int (pd_v 2) (dmul (by decide))) pd_int) pda_nil))) ?_) pda_nil)) (plots_nd hn) (by rw [List.length_map]; omega) (srt_pt _ (by rw [List.length_map, sizeLine_eq]; omega) (by rw [Nat.add_assoc]; exact ru hr.units)))
    rw [filter_yes, List.map_map]
    rfl
/-! surplus_in -/
theorem sc19 : FnScope ["squares"] ["squares"] (defScope (top 19)) := ⟨rfl, rfl, rfl, by decide +kernel, rfl, by decide +kernel, by decide +kernel⟩
def surplusS (S : List Pt) : Int := (postsL S).length + (plotsL S).length - (railsL S).length
def R19 : List PyData → PyData → Prop := fun ds d => ∃ S : List Pt, ds = [.tuple (S.map D)] ∧ S.Nodup ∧ S.length ≤ 50 ∧ d = .int (surplusS S)
theorem c19 (F : Def K mg "surplus_in" (top 19)) (b : Blt mg) (C16 : Cal P w K mg base 1 "posts_in" ["squares"] R16) (C17 : Cal P w K mg base 1 "rails_in" ["squares"] R17) (C18 : Cal P w K mg base 1 "plots_in" ["squares"] R18) : Cal P w K mg base 2 "surplus_in" ["squares"] R19 :=
  cal_of F sc19 (fun _ _ _ _ _ _ us hl => match us, hl with | [_], _ => rfl) (fun ds d ⟨_, e, _⟩ => by rw [e]; rfl) fun f cdv A outer s H E hr ds d ⟨S, e1, hn, hl, e2⟩ => by
    subst e1 e2
    have q : ∀ xs : List Pt, D xs = .list (xs.map D) := fun _ => rfl
    exact pb_ret (pd_of_eq (pd_sub (pd_add (pd_lenL b.len (pda_cons (pdc C16 hr (pda_cons (pd_v 0) pda_nil) ⟨S, rfl, by omega, q _⟩) pda_nil)) (pd_lenL b.len (pda_cons (pdc C18 hr (pda_cons (pd_v 0) pda_nil) ⟨S, rfl, hn, hl, q _⟩) pda_nil))) (pd_lenL b.len (pda_cons (pdc C17 hr (pda_cons (pd_v 0) pda_nil) ⟨S, rfl, by omega, q _⟩) pda_nil))) (by rw [List.length_map, List.length_map, List.length_map]; rfl))
end
end Hf

/-! ## HfP5 -/
set_option Elab.async false
set_option linter.all false
set_option maxRecDepth 100000
set_option maxHeartbeats 1000000
/-! Defs of the program, 5: hangs_in, is_yard, sure_yard. -/
namespace Hf
open L2 PySem PySem.Spec PyProof.Rows
open PySem.W (Datum DatumOrd Tup EachIs AllAlike Sortable dataLe)

abbrev HSt : Type := List (Pt × PyData) × List Pt
def knownS (S : List Pt) : List (Pt × PyData) := S.map fun c => (c, .bool true)
def nearB (S : List Pt) (st : HSt) (c : Pt) : Bool := (look (knownS S) c).isSome && !(look st.1 c).isSome
def near1 (S : List Pt) (st : HSt) (c : Pt) : HSt := if nearB S st c = true then (putP st.1 c (.bool true), st.2 ++ [c]) else st
def nearF (S : List Pt) (st : HSt) (cs : List Pt) : HSt := cs.foldl (near1 S) st
def own1 (S : List Pt) (st : HSt) (c : Pt) : HSt := nearF S st (nextL c)
def ownF (S : List Pt) (st : HSt) (cs : List Pt) : HSt := cs.foldl (own1 S) st
def hangN (S : List Pt) : Nat → HSt
  | 0 => ([(S.headD (0, 0), .bool true)], [S.headD (0, 0)])
  | n + 1 => ownF S ((hangN S n).1, []) (hangN S n).2
theorem near1_len (S : List Pt) (st : HSt) (c : Pt) : (near1 S st c).1.length ≤ st.1.length + 1 ∧ (near1 S st c).2.length ≤ st.2.length + 1 := by
  unfold near1
  split
  · have := putP_length st.1 c (.bool true)
    simp only [List.length_append, List.length_cons, List.length_nil]
    exact ⟨this, by omega⟩
  · exact ⟨by omega, by omega⟩
theorem nearF_len (S : List Pt) : ∀ (cs : List Pt) (st : HSt), (nearF S st cs).1.length ≤ st.1.length + cs.length ∧ (nearF S st cs).2.length ≤ st.2.length + cs.length
  | [], st => ⟨Nat.le_refl _, Nat.le_refl _⟩
  | c :: cs, st => by
    have h1 := near1_len S st c
    have h2 := nearF_len S cs (near1 S st c)
    show (nearF S (near1 S st c) cs).1.length ≤ _ ∧ (nearF S (near1 S st c) cs).2.length ≤ _
    rw [List.length_cons]
    omega
theorem ownF_len (S : List Pt) : ∀ (cs : List Pt) (st : HSt), (ownF S st cs).1.length ≤ st.1.length + 4 * cs.length ∧ (ownF S st cs).2.length ≤ st.2.length + 4 * cs.length
  | [], st => ⟨Nat.le_refl _, Nat.le_refl _⟩
  | c :: cs, st => by
    have h1 := nearF_len S (nextL c) st
    have h2 := ownF_len S cs (own1 S st c)
    have h3 : (nextL c).length = 4 := rfl
    show (ownF S (own1 S st c) cs).1.length ≤ _ ∧ (ownF S (own1 S st c) cs).2.length ≤ _
    unfold own1 at h2 ⊢
    rw [List.length_cons]
    omega
theorem hangN_len (S : List Pt) : ∀ n, (hangN S n).1.length ≤ 5 ^ n ∧ (hangN S n).2.length ≤ 5 ^ n
  | 0 => ⟨Nat.le_refl _, Nat.le_refl _⟩
  | n + 1 => by
    have h1 := hangN_len S n
    have h2 := ownF_len S (hangN S n).2 ((hangN S n).1, [])
    simp only [List.length_nil] at h2
    show (ownF S ((hangN S n).1, []) (hangN S n).2).1.length ≤ _ ∧ (ownF S ((hangN S n).1, []) (hangN S n).2).2.length ≤ _
    rw [Nat.pow_succ]
    omega
/-- the rounds until nothing new is met -/
def hangs (S : List Pt) (n : Nat) : Bool := (List.range n).all (fun j => decide ((hangN S j).2 ≠ [])) && decide ((hangN S n).2 = [])
theorem pdt_of_eq {X : Cx} {ρ : List SV} {e : Expr} {b b' : Bool} (h : PDT X ρ e b) (q : b = b') : PDT X ρ e b' := q ▸ h
def oSt (S : List Pt) (j i : Nat) : HSt := ownF S ((hangN S j).1, []) ((hangN S j).2.take i)
def nSt (S : List Pt) (j i : Nat) (c : Pt) (k : Nat) : HSt := nearF S (oSt S j i) ((nextL c).take k)
theorem oSt_next {S : List Pt} {j i : Nat} {c : Pt} (h : (hangN S j).2[i]? = some c) : oSt S j (i + 1) = own1 S (oSt S j i) c := by
  unfold oSt
  rw [take_next' h]
  unfold ownF
  rw [List.foldl_append]
  rfl
theorem nSt_next {S : List Pt} {j i : Nat} {c d : Pt} {k : Nat} (h : (nextL c)[k]? = some d) : nSt S j i c (k + 1) = near1 S (nSt S j i c k) d := by
  unfold nSt
  rw [take_next' h]
  unfold nearF
  rw [List.foldl_append]
  rfl
theorem oSt_len (S : List Pt) (j i : Nat) : (oSt S j i).1.length ≤ 5 ^ (j + 1) ∧ (oSt S j i).2.length ≤ 5 ^ (j + 1) := by
  have h1 := hangN_len S j
  have h2 := ownF_len S ((hangN S j).2.take i) ((hangN S j).1, [])
  simp only [List.length_nil, List.length_take] at h2
  unfold oSt
  rw [Nat.pow_succ]
  omega
theorem nSt_len (S : List Pt) (j i : Nat) (c : Pt) (k : Nat) : (nSt S j i c k).1.length ≤ 5 ^ (j + 1) + 4 ∧ (nSt S j i c k).2.length ≤ 5 ^ (j + 1) + 4 := by
  have h1 := oSt_len S j i
  have h2 := nearF_len S ((nextL c).take k) (oSt S j i)
  have h3 : ((nextL c).take k).length ≤ 4 := by rw [List.length_take]; exact Nat.min_le_right _ _
  unfold nSt
  omega
section
variable {P : Program} {w : World} {K : PySem.W.Frag} {mg : Str → Option Value} {base : Heap}
theorem sc15 : FnScope ["squares", "known", "found", "newest", "later", "own", "near"] ["squares"] (defScope (top 15)) := ⟨rfl, rfl, rfl, by decide +kernel, rfl, by decide +kernel, by decide +kernel⟩
theorem bk15 : BlkOk ["squares", "known", "found", "newest", "later", "own", "near"] (defScope (top 15)) (match defBody (top 15) with | .Assign _ (.DictComp _ _ _ sc _) _ :: _ => sc | _ => defScope (top 7)) [("own", 5)] :=
  ⟨by decide +kernel, by decide +kernel, by decide +kernel, by decide +kernel, by decide +kernel⟩
def R15 : List PyData → PyData → Prop := fun ds d => ∃ (S : List Pt) (n : Nat), ds = [.tuple (S.map D)] ∧ S ≠ [] ∧ S.Nodup ∧ S.length ≤ 100 ∧ n ≤ 7 ∧ hangs S n = true ∧ d = .bool (decide (((hangN S n).1.length : Int) = (S.length : Int)))
/-- the slots ahead of a round -/
def slots15 (S N : List Pt) (a : Addr) : List SV := [.dat (.tuple (S.map D)), .dic (knownS S), .val (.ref a), .dat (D N), .no, .no, .no]
theorem c15 (F : Def K mg "hangs_in" (top 15)) (b : Blt mg) (C14 : Cal P w K mg base 1 "next_to" ["square"] R14) : Cal P w K mg base 2 "hangs_in" ["squares"] R15 :=
  cal_of F sc15 (fun _ _ _ _ _ _ us hl => match us, hl with | [_], _ => rfl) (fun ds d ⟨_, _, e, _⟩ => by rw [e]; rfl) fun f cdv A outer s H E hr ds d ⟨S, n, e1, hne, hnd, hl, hn, hh, e2⟩ => by
    subst e1 e2
    have h0 : 0 < S.length := List.length_pos_iff.mpr hne
    obtain ⟨hh1, hh2⟩ := (Bool.and_eq_true _ _).mp hh
    have hh2 := of_decide_eq_true hh2
    have hd : S.headD (0, 0) = S.getD 0 (0, 0) := by cases S <;> rfl
    have first : ∀ {X : Cx} {ρ : List SV} {a b : Expr} {pos : Pos}, PD X ρ a (.tuple (S.map D)) → PD X ρ b (.int 0) → PlainIx b → PD X ρ (.Subscript a b pos) (D (S.headD (0, 0))) := fun h1 h2 hp => pd_ixT h1 h2 (by rw [hd]; exact at_pt h0 rfl) hp
    have big : ∀ j, j ≤ n → (hangN S j).1.length ≤ 78125 ∧ (hangN S j).2.length ≤ 78125 := fun j hj => by
      have h := hangN_len S j
      have h2 : 5 ^ j ≤ 5 ^ 7 := Nat.pow_le_pow_right (by decide) (by omega)
      have h3 : 5 ^ 7 = 78125 := rfl
      omega
    refine pb_own (pb_cons (pn_dicC (kds := knownS S) 1 (pw_dcG (own := [("own", 5)]) (is := [5]) S D (fun c => (begS ["squares", "known", "found", "newest", "later", "own", "near"] [.tuple (S.map D)]).set 5 (.dat (D c))) (fun c => c) (fun _ c => D c) rfl (ru hr.units (k := 0)) sc15.nd (pdi_tup (pd_v 0)) (by rw [List.length_map]) (fun j a h => getD_map h) bk15 (by decide) (by rw [sizeLine_eq]; omega) (by rw [List.map_id']; exact hnd)
      (fun c _ s H C cl fp => pdg 5 sc15.nd) (fun c _ s H C cl fp => pd_v 5) (fun _ => .bool true) (fun c _ s H C cl fp => pd_bl)))
      (pb_par2 (i := 2) (j := 3) sc15.nd (pa_new2 (pw_disp1 (c := S.headD (0, 0)) (ru1 hr.units (k := 0)) (first (pd_v 0) pd_int (fun _ _ => rfl)) pd_bl) (pw_lst (ds := [D (S.headD (0, 0))]) (pda_cons (first (pd_v 0) pd_int (fun _ _ => rfl)) pda_nil))) fun a bb =>
        pb_keepL 1 3 (pb_cons (pn_while n (fun j => slots15 S (hangN S j).2 a) (fun j => slots15 S (hangN S (j + 1)).2 a) (fun j => own [(a, oD (hangN S j).1)]) PassesOwn.never (fun j hj => ?_) ?_ (leS.refl _) (fun j hj => ?_) fun j hj => leS.refl _)
          (pb_keepD 0 2 (pb_ret (pd_eq (α := Int) (ru hr.units) (pd_lenD 2 b.len) (pd_of_eq (pd_lenD 1 b.len) ?_)))))))
    · refine pdt_of_eq (pdt_ne (α := List Pt) (x := (hangN S j).2) (y := []) (ru hr.units) (pd_v 3) (pd_lst pda_nil)) ?_
      exact List.all_eq_true.mp hh1 j (List.mem_range.mpr hj)
    · refine pdt_of_eq (pdt_ne (α := List Pt) (x := (hangN S n).2) (y := []) (ru hr.units) (pd_v 3) (pd_lst pda_nil)) ?_
      rw [hh2]; rfl
    · have pw : ∀ i c k, (nSt S j i c k).1.length + 5 < sizeLine ∧ ((nSt S j i c k).2.map D).length + 5 < sizeLine := fun i c k => by
        have h := nSt_len S j i c k
        have h2 : 5 ^ (j + 1) ≤ 5 ^ 7 := Nat.pow_le_pow_right (by decide) (by omega)
        have h3 : 5 ^ 7 = 78125 := rfl
        rw [List.length_map, sizeLine_eq]
        omega
      refine pns_new 4 sc15.nd (pw_lst (ds := []) pda_nil) fun l => pns_cons (ρ1 := (slots15 S (hangN S j).2 a).set 4 (.val (.ref l))) (M1 := own [(l, oL ((hangN S (j + 1)).2.map D)), (a, oD (hangN S (j + 1)).1)]) ?_ ?_
      · refine pn_eq (pn_for1 5 (hangN S j).2 D (fun i => own [(l, oL ((oSt S j i).2.map D)), (a, oD (oSt S j i).1)]) sc15.nd (pdi_list (pd_v 3)) fun i c hc => ?_) rfl ?_
        · refine pns_w (pns_one (pn_eq (pn_for1 6 (nextL c) D (fun k => own [(l, oL ((nSt S j i c k).2.map D)), (a, oD (nSt S j i c k).1)]) sc15.nd
            (pdi_list (ds := (nextL c).map D) (pdc C14 hr (pda_cons (pd_v 5) pda_nil) ⟨c, rfl, rfl⟩)) fun k near hk => ?_) ?_ ?_))
          · refine pns_w (pns_one (pn_ifK (b := nearB S (nSt S j i c k) near) (Peek.refl.dict 2 1) (pdw_and (pdt_inD 1 (ru1 hr.units (k := 0)) (pd_v 6)) fun _ => pdw_and1 (pdt_notInD 2 (ru1 hr.units (k := 0)) (pd_v 6))).pt (fun hb => ?_) fun hb => ?_))
            · have e : nSt S j i c (k + 1) = (putP (nSt S j i c k).1 near (.bool true), (nSt S j i c k).2 ++ [near]) := by rw [nSt_next hk]; unfold near1; rw [if_pos hb]
              rw [e]
              refine pns_cons (pn_dput 1 2 (ru1 hr.units (k := 0)) (pd_v 6) pd_bl rfl (Nat.lt_of_le_of_lt (Nat.le_add_right _ 5) (pw i c k).1)) (pns_one (pn_append 0 4 (ds' := ((nSt S j i c k).2 ++ [near]).map D) (pd_v 6) rfl (Nat.lt_of_le_of_lt (Nat.le_add_right _ 5) (pw i c k).2) ?_))
              rw [List.map_append]
              rfl
            · have e : nSt S j i c (k + 1) = nSt S j i c k := by rw [nSt_next hk]; unfold near1; rw [if_neg (by rw [hb]; decide)]
              rw [e]
              exact pns_nil
          · rfl
          · rw [oSt_next hc]; rfl
        · show own [(l, oL ((oSt S j (hangN S j).2.length).2.map D)), (a, oD (oSt S j (hangN S j).2.length).1)] = _
          unfold oSt
          rw [List.take_length]
          rfl
      · exact pns_keepL 0 4 (pns_w (pns_one (pn_set 3 sc15.nd (pd_v 4))))
    · show PyData.int ((knownS S).length : Nat) = _
      unfold knownS
      rw [List.length_map]
      rfl
end
end Hf

/-! ## HfP6 -/
set_option Elab.async false
set_option linter.all false
set_option maxRecDepth 100000
set_option maxHeartbeats 1000000
/-! Defs of the program, 6: yards, cells, lines. -/
namespace Hf
open L2 PySem PySem.Spec PyProof.Rows
open PySem.W (Datum DatumOrd Tup EachIs AllAlike Sortable dataLe)

structure Yd (S : List Pt) : Prop where
  ne : S ≠ []
  len : S.length ≤ 20
  nd : S.Nodup
  sq : S.all sqB = true
  asc : ascB S = true
  hang : ∃ n, n ≤ 7 ∧ hangs S n = true ∧ (hangN S n).1.length = S.length
  sur : surplusS S = 1
def isCell (S : List Pt) (c : Pt) : Bool := (squaresL c).any fun q => decide (q ∈ S)
def lowOf (h : Pt) : Int := if kindS h = "post" then h.2 else h.2 - 1
def lineL (S : List Pt) (h : Pt) : List Pt := (railsL S).filter fun r => decide (r.2 = lowOf h) && (decide (r.1 % 2 = 1) && decide (h.1 < r.1))
def couple (a b : Pt) : Cp := if kindS a = "rail" then (b, a) else (a, b)
theorem squares_len (c : Pt) : (squaresL c).length ≤ 4 := by
  have h1 := half_len c.1
  have h2 := half_len c.2
  have h := flat_len (fun x : Int => (half c.2).map fun y => ((x, y) : Pt)) 2 (fun _ => by rw [List.length_map]; exact h2) (half c.1)
  unfold squaresL
  omega
theorem rails_len (S : List Pt) : (railsL S).length ≤ 4 * S.length := by
  have h1 := putAll_len (S.flatMap railsOf) []
  have h2 := flat_len railsOf 4 (fun _ => Nat.le_refl _) S
  unfold railsL keysU
  rw [List.length_mergeSort, List.length_map]
  simp only [List.length_nil] at h1
  omega
theorem posts_len (S : List Pt) : (postsL S).length ≤ 4 * S.length := by
  have h1 := putAll_len (S.flatMap postsOf) []
  have h2 := flat_len postsOf 4 (fun _ => Nat.le_refl _) S
  unfold postsL keysU
  rw [List.length_mergeSort, List.length_map]
  simp only [List.length_nil] at h1
  omega
theorem plots_len (S : List Pt) : (plotsL S).length = S.length := by unfold plotsL; rw [List.length_mergeSort, List.length_map]
theorem D_list {α : Type} [DecidableEq α] [Datum α] (xs : List α) : D xs = .list (xs.map D) := rfl
theorem pdt_of_eq2 {X : Cx} {ρ : List SV} {e : Expr} {b b' : Bool} (h : PDT X ρ e b) (q : b = b') : PDT X ρ e b' := q ▸ h
section
variable {P : Program} {w : World} {K : PySem.W.Frag} {mg : Str → Option Value} {base : Heap}
/-! is_yard -/
theorem sc20 : FnScope ["thing", "own"] ["thing"] (defScope (top 20)) := ⟨rfl, rfl, rfl, by decide +kernel, rfl, by decide +kernel, by decide +kernel⟩
theorem bk20 : BlkOk ["thing", "own"] (defScope (top 20)) (match defBody (top 20) with | .If (.BoolOp _ [_, _, .UnaryOp _ (.Call _ [.ListComp _ _ sc _] _ _) _] _) _ _ _ :: _ => sc | _ => defScope (top 7)) [("own", 1)] :=
  ⟨by decide +kernel, by decide +kernel, by decide +kernel, by decide +kernel, by decide +kernel⟩
def R20 : List PyData → PyData → Prop := fun ds d => ∃ S : List Pt, ds = [.tuple (S.map D)] ∧ Yd S ∧ d = .bool true
theorem c20 (F : Def K mg "is_yard" (top 20)) (b : Blt mg) (C13 : Cal P w K mg base 4 "is_any_square" ["thing"] R13) (C8 : Cal P w K mg base 1 "ascends" ["row"] R8) (C15 : Cal P w K mg base 2 "hangs_in" ["squares"] R15) (C19 : Cal P w K mg base 2 "surplus_in" ["squares"] R19) : Cal P w K mg base 5 "is_yard" ["thing"] R20 :=
  cal_of F sc20 (fun _ _ _ _ _ _ us hl => match us, hl with | [_], _ => rfl) (fun ds d ⟨_, e, _⟩ => by rw [e]; rfl) fun f cdv A outer s H E hr ds d ⟨S, e1, Y, e2⟩ => by
    subst e1 e2
    have yl := Y.len
    have h0 : 0 < S.length := List.length_pos_iff.mpr Y.ne
    obtain ⟨n, n1, n2, n3⟩ := Y.hang
    refine pb_if (b := false) (pdt_of_eq (pdw_or (pdt_not (pdt_val (pd_isi (d := .tuple (S.map D)) b.isi b.tuple (pd_v 0) boot_tuple kit_tt))) fun _ => pdw_or (pdt_eq (α := Int) (y := 0) (ru hr.units) (pd_lenT b.len (pda_cons (pd_v 0) pda_nil)) pd_int) fun _ => pdw_or1 (pdt_not (pdt_val (pd_all (bs := S.map sqB) rfl b.all (pda_cons (pd_of_eq (pd_lcm 1 S D (fun c => .bool (sqB c)) rfl sc20.nd (pdi_tup (pd_v 0)) bk20 (by omega)
      fun c _ s H C cl fp => pdc C13 hr (pda_cons (pd_v 1) pda_nil) ⟨c, rfl, rfl⟩) ?_) pda_nil))))).pt ?_) (fun h => nomatch h) fun _ => pb_ret (pd_and (c := true) (pdc C8 (hr.mono (by decide)) (pda_cons (pd_v 0) pda_nil) ⟨S, rfl, Y.ne, by omega, by rw [Y.asc]⟩)
        (fun _ => pd_and2 (c := true) (c' := true) (pdc C15 (hr.mono (by decide)) (pda_cons (pd_v 0) pda_nil) ⟨S, n, rfl, Y.ne, Y.nd, by omega, n1, n2, by rw [n3]; simp⟩) fun _ => pd_of_eq (pd_eq (α := Int) (x := 1) (y := 1) (ru hr.units) (pdc C19 (hr.mono (by decide)) (pda_cons (pd_v 0) pda_nil) ⟨S, rfl, Y.nd, by omega, by rw [Y.sur]; rfl⟩) pd_int) rfl) fun h => nomatch h)
    · rw [List.map_map]; rfl
    · have e1 : (S.map sqB).all id = true := by rw [List.all_map]; exact Y.sq
      have e2 : decide ((((S.map D).length : Nat) : Int) = 0) = false := decide_eq_false (by rw [List.length_map]; omega)
      rw [e1, e2]
      rfl
/-! sure_yard -/
theorem sc21 : FnScope ["yard", "own"] ["yard"] (defScope (top 21)) := ⟨rfl, rfl, rfl, by decide +kernel, rfl, by decide +kernel, by decide +kernel⟩
def R21 : List PyData → PyData → Prop := fun ds d => ∃ (e : PyData) (S : List Pt), ds = [e] ∧ Nest 2 e ∧ tupN 2 e = .tuple (S.map D) ∧ Yd S ∧ d = .tuple (S.map D)
theorem c21 (F : Def K mg "sure_yard" (top 21)) (C7 : Cal P w K mg base 3 "tupled" ["value"] (R7 2)) (C20 : Cal P w K mg base 5 "is_yard" ["thing"] R20) : Cal P w K mg base 6 "sure_yard" ["yard"] R21 :=
  cal_of F sc21 (fun _ _ _ _ _ _ us hl => match us, hl with | [_], _ => rfl) (fun ds d ⟨_, _, e, _⟩ => by rw [e]; rfl) fun f cdv A outer s H E hr ds d ⟨e, S, e1, hn, ht, Y, e2⟩ => by
    subst e1 e2
    exact pb_cons (pn_set 1 sc21.nd (pdc C7 (hr.mono (by decide)) (pda_cons (pd_v 0) pda_nil) ⟨e, rfl, hn, ht.symm⟩)) (pb_if (b := false) (pdt_not (c := true) (pdt_val (pdc C20 hr (pda_cons (pd_v 1) pda_nil) ⟨S, rfl, Y, rfl⟩))) (fun h => nomatch h) fun _ => pb_ret (pd_v 1))
/-! is_cell_in -/
theorem sc25 : FnScope ["yard", "thing", "own"] ["yard", "thing"] (defScope (top 25)) := ⟨rfl, rfl, rfl, by decide +kernel, rfl, by decide +kernel, by decide +kernel⟩
theorem bk25 : BlkOk ["yard", "thing", "own"] (defScope (top 25)) (match defBody (top 25) with | [.Return (some (.BoolOp _ [_, .Call _ [.ListComp _ _ sc _] _ _] _)) _] => sc | _ => defScope (top 7)) [("own", 2)] :=
  ⟨by decide +kernel, by decide +kernel, by decide +kernel, by decide +kernel, by decide +kernel⟩
def R25 : List PyData → PyData → Prop := fun ds d => ∃ (S : List Pt) (c : Pt), ds = [.tuple (S.map D), D c] ∧ d = .bool (isCell S c)
theorem c25 (F : Def K mg "is_cell_in" (top 25)) (b : Blt mg) (C12 : Cal P w K mg base 3 "is_pair" ["thing"] R12) (C22 : Cal P w K mg base 1 "squares_of" ["cell"] R22) : Cal P w K mg base 4 "is_cell_in" ["yard", "thing"] R25 :=
  cal_of F sc25 (fun _ _ _ _ _ _ us hl => match us, hl with | [_, _], _ => rfl) (fun ds d ⟨_, _, e, _⟩ => by rw [e]; rfl) fun f cdv A outer s H E hr ds d ⟨S, c, e1, e2⟩ => by
    subst e1 e2
    refine pb_ret (pd_of_eq (pd_and2 (c := true) (pdc C12 hr (pda_cons (pd_v 1) pda_nil) ⟨c, rfl, rfl⟩) fun _ => pd_any' (bs := (squaresL c).map fun q => decide (q ∈ S)) rfl b.any (pda_cons (pd_of_eq (pd_lcm 2 (squaresL c) D (fun q => .bool (decide (q ∈ S))) rfl sc25.nd (pdi_list (ds := (squaresL c).map D) (pdc C22 (hr.mono (by decide)) (pda_cons (pd_v 1) pda_nil) ⟨c, rfl, rfl⟩)) bk25 (by have := squares_len c; omega)
      fun q _ s H C cl fp => pd_of_eq (pd_inT (α := Pt) (x := q) (xs := S) (ru1 hr.units) (pd_v 2) (pd_v 0)) (congrArg PyData.bool (decide_eq_decide.mpr Iff.rfl))) ?_) pda_nil)) ?_)
    · rw [List.map_map]; rfl
    · rw [List.any_map]; rfl
/-! is_place_in -/
theorem sc26 : FnScope ["yard", "thing"] ["yard", "thing"] (defScope (top 26)) := ⟨rfl, rfl, rfl, by decide +kernel, rfl, by decide +kernel, by decide +kernel⟩
def R26 : List PyData → PyData → Prop := fun ds d => ∃ (S : List Pt) (c : Pt), ds = [.tuple (S.map D), D c] ∧ d = .bool (isCell S c && decide (kindS c ≠ "rail"))
theorem c26 (F : Def K mg "is_place_in" (top 26)) (C25 : Cal P w K mg base 4 "is_cell_in" ["yard", "thing"] R25) (C24 : Cal P w K mg base 1 "kind_in" ["cell"] R24) : Cal P w K mg base 5 "is_place_in" ["yard", "thing"] R26 :=
  cal_of F sc26 (fun _ _ _ _ _ _ us hl => match us, hl with | [_, _], _ => rfl) (fun ds d ⟨_, _, e, _⟩ => by rw [e]; rfl) fun f cdv A outer s H E hr ds d ⟨S, c, e1, e2⟩ => by
    subst e1 e2
    exact pb_ret (pd_and2 (pdc C25 hr (pda_cons (pd_v 0) (pda_cons (pd_v 1) pda_nil)) ⟨S, c, rfl, rfl⟩) fun _ => pd_ne (α := Str) (x := kindS c) (y := "rail") (ru hr.units) (pdc C24 (hr.mono (by decide)) (pda_cons (pd_v 1) pda_nil) ⟨c, rfl, rfl⟩) pd_str)
/-! sure_pair -/
theorem sc27 : FnScope ["pair", "own"] ["pair"] (defScope (top 27)) := ⟨rfl, rfl, rfl, by decide +kernel, rfl, by decide +kernel, by decide +kernel⟩
def R27 : List PyData → PyData → Prop := fun ds d => ∃ (e : PyData) (c : Pt), ds = [e] ∧ Nest 1 e ∧ tupN 1 e = D c ∧ d = D c
theorem c27 (F : Def K mg "sure_pair" (top 27)) (C7 : Cal P w K mg base 2 "tupled" ["value"] (R7 1)) (C12 : Cal P w K mg base 3 "is_pair" ["thing"] R12) : Cal P w K mg base 4 "sure_pair" ["pair"] R27 :=
  cal_of F sc27 (fun _ _ _ _ _ _ us hl => match us, hl with | [_], _ => rfl) (fun ds d ⟨_, _, e, _⟩ => by rw [e]; rfl) fun f cdv A outer s H E hr ds d ⟨e, c, e1, hn, ht, e2⟩ => by
    subst e1 e2
    exact pb_cons (pn_set 1 sc27.nd (pdc C7 (hr.mono (by decide)) (pda_cons (pd_v 0) pda_nil) ⟨e, rfl, hn, ht.symm⟩)) (pb_if (b := false) (pdt_not (c := true) (pdt_val (pdc C12 hr (pda_cons (pd_v 1) pda_nil) ⟨c, rfl, rfl⟩))) (fun h => nomatch h) fun _ => pb_ret (pd_v 1))
/-! cells_in -/
theorem sc28 : FnScope ["yard"] ["yard"] (defScope (top 28)) := ⟨rfl, rfl, rfl, by decide +kernel, rfl, by decide +kernel, by decide +kernel⟩
def cellsL (S : List Pt) : List Pt := (postsL S ++ railsL S ++ plotsL S).mergeSort leT
def R28 : List PyData → PyData → Prop := fun ds d => ∃ S : List Pt, ds = [.tuple (S.map D)] ∧ S.Nodup ∧ S.length ≤ 20 ∧ d = D (cellsL S)
theorem c28 (F : Def K mg "cells_in" (top 28)) (b : Blt mg) (C16 : Cal P w K mg base 1 "posts_in" ["squares"] R16) (C17 : Cal P w K mg base 1 "rails_in" ["squares"] R17) (C18 : Cal P w K mg base 1 "plots_in" ["squares"] R18) : Cal P w K mg base 2 "cells_in" ["yard"] R28 :=
  cal_of F sc28 (fun _ _ _ _ _ _ us hl => match us, hl with | [_], _ => rfl) (fun ds d ⟨_, e, _⟩ => by rw [e]; rfl) fun f cdv A outer s H E hr ds d ⟨S, e1, hn, hl, e2⟩ => by
    subst e1 e2
    have l1 := posts_len S
    have l2 := rails_len S
    have l3 := plots_len S
    have big : ∀ n, n ≤ 1000 → n ≤ sizeLine := fun n h => by rw [sizeLine_eq]; omega
    refine pb_ret (pd_of_eq (pd_sortL b.sorted (pda_cons (pd_of_eq (pd_catL (ds := (postsL S ++ railsL S).map D) (es := (plotsL S).map D) (pd_of_eq (pd_catL (pdc C16 hr (pda_cons (pd_v 0) pda_nil) ⟨S, rfl, by omega, (D_list _).symm⟩) (pdc C17 hr (pda_cons (pd_v 0) pda_nil) ⟨S, rfl, by omega, (D_list _).symm⟩) ?_) ?_) (pdc C18 hr (pda_cons (pd_v 0) pda_nil) ⟨S, rfl, hn, by omega, (D_list _).symm⟩) ?_) ?_) pda_nil) (srt_pt (postsL S ++ railsL S ++ plotsL S) ?_ (by rw [Nat.add_assoc]; exact ru hr.units))) ?_)
    · rw [List.length_map, List.length_map]; exact big _ (by omega)
    · rw [List.map_append]
    · rw [List.length_map, List.length_map, List.length_append]; exact big _ (by omega)
    · rw [List.map_append (l₂ := plotsL S)]
    · rw [List.length_append, List.length_append]; exact big _ (by omega)
    · rw [sort_D]; rfl
/-! beside_in, rails_by -/
theorem sc29 : FnScope ["yard", "cell", "x", "y", "own"] ["yard", "cell"] (defScope (top 29)) := ⟨rfl, rfl, rfl, by decide +kernel, rfl, by decide +kernel, by decide +kernel⟩
theorem bk29 : BlkOk ["yard", "cell", "x", "y", "own"] (defScope (top 29)) (match defBody (top 29) with | [_, .Return (some (.ListComp _ _ sc _)) _] => sc | _ => defScope (top 7)) [("own", 4)] :=
  ⟨by decide +kernel, by decide +kernel, by decide +kernel, by decide +kernel, by decide +kernel⟩
def besideL (S : List Pt) (c : Pt) : List Pt := (nextL c).filter (isCell S)
def R29 : List PyData → PyData → Prop := fun ds d => ∃ (S : List Pt) (c : Pt), ds = [.tuple (S.map D), D c] ∧ d = D (besideL S c)
theorem c29 (F : Def K mg "beside_in" (top 29)) (C25 : Cal P w K mg base 4 "is_cell_in" ["yard", "thing"] R25) : Cal P w K mg base 5 "beside_in" ["yard", "cell"] R29 :=
  cal_of F sc29 (fun _ _ _ _ _ _ us hl => match us, hl with | [_, _], _ => rfl) (fun ds d ⟨_, _, e, _⟩ => by rw [e]; rfl) fun f cdv A outer s H E hr ds d ⟨S, c, e1, e2⟩ => by
    subst e1 e2
    exact pb_cons (pn_pair 2 3 sc29.nd (pd_v 1)) (pb_ret (pd_lcf 4 (nextL c) D D (isCell S) rfl sc29.nd (pdi_tup (ds := (nextL c).map D) (pd_tup (pda_cons (pd_tup (pda_cons (pd_sub (pd_v 2) pd_int) (pda_cons (pd_v 3) pda_nil))) (pda_cons (pd_tup (pda_cons (pd_v 2) (pda_cons (pd_sub (pd_v 3) pd_int) pda_nil))) (pda_cons (pd_tup (pda_cons (pd_v 2) (pda_cons (pd_add (pd_v 3) pd_int) pda_nil))) (pda_cons (pd_tup (pda_cons (pd_add (pd_v 2) pd_int) (pda_cons (pd_v 3) pda_nil))) pda_nil)))))) bk29 (by show 4 < _; omega)
      (fun q _ s H C cl fp => pdt_val (pdc C25 hr (pda_cons (pd_v 0) (pda_cons (pd_v 4) pda_nil)) ⟨S, q, rfl, rfl⟩)) fun q _ s H C cl fp => pd_v 4))
theorem sc30 : FnScope ["yard", "place"] ["yard", "place"] (defScope (top 30)) := ⟨rfl, rfl, rfl, by decide +kernel, rfl, by decide +kernel, by decide +kernel⟩
theorem c30 (F : Def K mg "rails_by" (top 30)) (C29 : Cal P w K mg base 5 "beside_in" ["yard", "cell"] R29) : Cal P w K mg base 6 "rails_by" ["yard", "place"] R29 :=
  cal_of F sc30 (fun _ _ _ _ _ _ us hl => match us, hl with | [_, _], _ => rfl) (fun ds d ⟨_, _, e, _⟩ => by rw [e]; rfl) fun f cdv A outer s H E hr ds d ⟨S, c, e1, e2⟩ => by
    subst e1 e2
    exact pb_ret (pdc C29 hr (pda_cons (pd_v 0) (pda_cons (pd_v 1) pda_nil)) ⟨S, c, rfl, rfl⟩)
/-! over_against -/
theorem sc31 : FnScope ["place", "rail"] ["place", "rail"] (defScope (top 31)) := ⟨rfl, rfl, rfl, by decide +kernel, rfl, by decide +kernel, by decide +kernel⟩
def overP (p r : Pt) : Pt := (2 * r.1 - p.1, 2 * r.2 - p.2)
def R31 : List PyData → PyData → Prop := fun ds d => ∃ p r : Pt, ds = [D p, D r] ∧ d = D (overP p r)
theorem c31 (F : Def K mg "over_against" (top 31)) : Cal P w K mg base 1 "over_against" ["place", "rail"] R31 :=
  cal_of F sc31 (fun _ _ _ _ _ _ us hl => match us, hl with | [_, _], _ => rfl) (fun ds d ⟨_, _, e, _⟩ => by rw [e]; rfl) fun f cdv A outer s H E hr ds d ⟨p, r, e1, e2⟩ => by
    subst e1 e2
    exact pb_ret (pd_tup (pda_cons (pd_sub (pd_mul pd_int (pd_ixT (d := .int r.1) (pd_v 1) pd_int) (dmul (by decide))) (pd_ixT (d := .int p.1) (pd_v 0) pd_int)) (pda_cons (pd_sub (pd_mul pd_int (pd_ixT (d := .int r.2) (pd_v 1) pd_int) (dmul (by decide))) (pd_ixT (d := .int p.2) (pd_v 0) pd_int)) pda_nil)))
/-! couple_of -/
theorem sc42 : FnScope ["one", "other"] ["one", "other"] (defScope (top 42)) := ⟨rfl, rfl, rfl, by decide +kernel, rfl, by decide +kernel, by decide +kernel⟩
def R42 : List PyData → PyData → Prop := fun ds d => ∃ p r : Pt, ds = [D p, D r] ∧ d = D (couple p r)
theorem c42 (F : Def K mg "couple_of" (top 42)) (C24 : Cal P w K mg base 1 "kind_in" ["cell"] R24) : Cal P w K mg base 2 "couple_of" ["one", "other"] R42 :=
  cal_of F sc42 (fun _ _ _ _ _ _ us hl => match us, hl with | [_, _], _ => rfl) (fun ds d ⟨_, _, e, _⟩ => by rw [e]; rfl) fun f cdv A outer s H E hr ds d ⟨p, r, e1, e2⟩ => by
    subst e1 e2
    exact pb_ret (pd_if (pdt_eq (α := Str) (x := kindS p) (y := "rail") (ru hr.units) (pdc C24 hr (pda_cons (pd_v 0) pda_nil) ⟨p, rfl, rfl⟩) pd_str) (fun h => pd_of_eq (pd_tup (pda_cons (pd_v 1) (pda_cons (pd_v 0) pda_nil))) (by unfold couple; rw [if_pos (of_decide_eq_true h)]; rfl))
      fun h => pd_of_eq (pd_tup (pda_cons (pd_v 0) (pda_cons (pd_v 1) pda_nil))) (by unfold couple; rw [if_neg (of_decide_eq_false h)]; rfl))
/-! set_of -/
theorem sc9 : FnScope ["row"] ["row"] (defScope (top 9)) := ⟨rfl, rfl, rfl, by decide +kernel, rfl, by decide +kernel, by decide +kernel⟩
def R9 : List PyData → PyData → Prop := fun ds d => ∃ cs : List Cp, ds = [.tuple (cs.map D)] ∧ cs.Nodup ∧ cs.length < 64 ∧ d = .tuple ((cs.mergeSort leT).map D)
theorem c9 (F : Def K mg "set_of" (top 9)) (b : Blt mg) : Cal P w K mg base 1 "set_of" ["row"] R9 :=
  cal_of F sc9 (fun _ _ _ _ _ _ us hl => match us, hl with | [_], _ => rfl) (fun ds d ⟨_, e, _⟩ => by rw [e]; rfl) fun f cdv A outer s H E hr ds d ⟨cs, e1, hn, hl, e2⟩ => by
    subst e1 e2
    exact pb_ret (pd_tupleL b.tuple (pda_cons (pd_sortSet rfl (ru hr.units) b.sorted b.set (.inr (pda_cons (pd_v 0) pda_nil)) hn hl (srt_cp cs (by rw [sizeLine_eq]; omega) (by rw [Nat.add_assoc]; exact ru hr.units))) pda_nil))
/-! line_in, places_of -/
theorem sc33 : FnScope ["yard", "hole", "kind", "x", "y", "high", "low", "rail"] ["yard", "hole", "kind"] (defScope (top 33)) := ⟨rfl, rfl, rfl, by decide +kernel, rfl, by decide +kernel, by decide +kernel⟩
theorem bk33 : BlkOk ["yard", "hole", "kind", "x", "y", "high", "low", "rail"] (defScope (top 33)) (match defBody (top 33) with | [_, _, _, .Return (some (.Call _ [.ListComp _ _ sc _] _ _)) _] => sc | _ => defScope (top 7)) [("rail", 7)] :=
  ⟨by decide +kernel, by decide +kernel, by decide +kernel, by decide +kernel, by decide +kernel⟩
def R33 : List PyData → PyData → Prop := fun ds d => ∃ (S : List Pt) (h : Pt), ds = [.tuple (S.map D), D h, D ("plot" : Str)] ∧ S.length ≤ 1000 ∧ d = .tuple ((lineL S h).map D)
theorem c33 (F : Def K mg "line_in" (top 33)) (b : Blt mg) (C24 : Cal P w K mg base 1 "kind_in" ["cell"] R24) (C17 : Cal P w K mg base 1 "rails_in" ["squares"] R17) : Cal P w K mg base 2 "line_in" ["yard", "hole", "kind"] R33 :=
  cal_of F sc33 (fun _ _ _ _ _ _ us hl => match us, hl with | [_, _, _], _ => rfl) (fun ds d ⟨_, _, e, _⟩ => by rw [e]; rfl) fun f cdv A outer s H E hr ds d ⟨S, h, e1, hl, e2⟩ => by
    subst e1 e2
    refine pb_cons (pn_pair 3 4 sc33.nd (pd_v 1)) (pb_if (b := false) (pdt_of_eq (pdt_eq (α := Str) (x := "plot") (y := "post") (ru hr.units) (pd_v 2) pd_str) (by decide)) (fun h => nomatch h) fun _ =>
      pb_cons (pn_set (d := .int (lowOf h)) 6 sc33.nd (pd_if (pdt_eq (α := Str) (x := kindS h) (y := "post") (ru hr.units) (pdc C24 hr (pda_cons (pd_v 1) pda_nil) ⟨h, rfl, rfl⟩) pd_str) (fun q => pd_of_eq (pd_v 4) (by unfold lowOf; rw [if_pos (of_decide_eq_true q)])) fun q => pd_of_eq (pd_sub (pd_v 4) pd_int) (by unfold lowOf; rw [if_neg (of_decide_eq_false q)])))
      (pb_ret (pd_tupleL b.tuple (pda_cons (pd_lcf 7 (railsL S) D D (fun r => decide (r.2 = lowOf h) && (decide (r.1 % 2 = 1) && decide (h.1 < r.1))) rfl sc33.nd (pdi_list (ds := (railsL S).map D) (pdc C17 hr (pda_cons (pd_v 0) pda_nil) ⟨S, rfl, hl, rfl⟩)) bk33 (by have := rails_len S; omega)
        (fun r _ s H C cl fp => (pdw_and (pdt_eq (α := Int) (x := r.2) (y := lowOf h) (ru hr.units) (pd_ixT (d := .int r.2) (pd_v 7) pd_int) (pd_v 6)) fun _ => pdw_and (pdt_eq (α := Int) (x := r.1 % 2) (y := 1) (ru hr.units) (pd_mod (pd_ixT (d := .int r.1) (pd_v 7) pd_int) pd_int (by decide)) pd_int) fun _ => pdw_and1 (pdt_gt (pd_ixT (d := .int r.1) (pd_v 7) pd_int) (pd_v 3))).pt)
        fun r _ s H C cl fp => pd_v 7) pda_nil))))
theorem sc34 : FnScope ["yard", "hole", "kind", "place"] ["yard", "hole", "kind"] (defScope (top 34)) := ⟨rfl, rfl, rfl, by decide +kernel, rfl, by decide +kernel, by decide +kernel⟩
theorem bk34 : BlkOk ["yard", "hole", "kind", "place"] (defScope (top 34)) (match defBody (top 34) with | [.Return (some (.ListComp _ _ sc _)) _] => sc | _ => defScope (top 7)) [("place", 3)] :=
  ⟨by decide +kernel, by decide +kernel, by decide +kernel, by decide +kernel, by decide +kernel⟩
def placesL (S : List Pt) (h : Pt) : List Pt := (plotsL S).filter fun p => decide (p ≠ h)
def R34 : List PyData → PyData → Prop := fun ds d => ∃ (S : List Pt) (h : Pt), ds = [.tuple (S.map D), D h, D ("plot" : Str)] ∧ S.Nodup ∧ S.length ≤ 20 ∧ d = D (placesL S h)
theorem c34 (F : Def K mg "places_of" (top 34)) (b : Blt mg) (C18 : Cal P w K mg base 1 "plots_in" ["squares"] R18) : Cal P w K mg base 2 "places_of" ["yard", "hole", "kind"] R34 :=
  cal_of F sc34 (fun _ _ _ _ _ _ us hl => match us, hl with | [_, _, _], _ => rfl) (fun ds d ⟨_, _, e, _⟩ => by rw [e]; rfl) fun f cdv A outer s H E hr ds d ⟨S, h, e1, hn, hl, e2⟩ => by
    subst e1 e2
    exact pb_ret (pd_lcf 3 (plotsL S) D D (fun p => decide (p ≠ h)) rfl sc34.nd (pdi_list (ds := (plotsL S).map D) (pd_if (c := false) (pdt_of_eq (pdt_eq (α := Str) (x := "plot") (y := "post") (ru hr.units) (pd_v 2) pd_str) (by decide)) (fun h => nomatch h) fun _ => pdc C18 hr (pda_cons (pd_v 0) pda_nil) ⟨S, rfl, hn, by omega, rfl⟩)) bk34 (by have := plots_len S; omega)
      (fun p _ s H C cl fp => pdt_ne (α := Pt) (ru hr.units) (pd_v 3) (pd_v 1)) fun p _ s H C cl fp => pd_v 3)
end
end Hf

/-! ## HfP7 -/
set_option Elab.async false
set_option linter.all false
set_option maxRecDepth 100000
set_option maxHeartbeats 1000000
/-! Defs of the program, 7: table_in. -/
namespace Hf
open L2 PySem PySem.Spec PyProof.Rows
open PySem.W (Datum DatumOrd Tup EachIs AllAlike Sortable dataLe)

def numD (ps : List Pt) : List (Pt × PyData) := ps.zipIdx.map fun p => (p.1, .int p.2)
def atP (ps : List Pt) (c : Pt) : Option Nat := ps.findIdx? fun x => decide (x = c)
theorem look_num (ps : List Pt) (c : Pt) : look (numD ps) c = (atP ps c).map fun i => .int i := by
  have go : ∀ (ps : List Pt) (k : Nat), look ((ps.zipIdx k).map fun p => (p.1, .int p.2)) c = (ps.findIdx? fun x => decide (x = c)).map fun i => .int ((i + k : Nat) : Int) := by
    intro ps
    induction ps with
    | nil => intro k; rfl
    | cons x ps ih =>
      intro k
      rw [List.zipIdx_cons, List.map_cons, List.findIdx?_cons]
      by_cases h : x = c
      · unfold look
        rw [List.find?_cons_of_pos (by simp [h])]
        simp [h]
      · have e : look ((x, PyData.int k) :: (ps.zipIdx (k + 1)).map fun p => (p.1, .int p.2)) c = look ((ps.zipIdx (k + 1)).map fun p => (p.1, .int p.2)) c := by
          unfold look
          rw [List.find?_cons_of_neg (by simp [h])]
        rw [e, ih (k + 1), decide_eq_false h]
        simp only [Bool.false_eq_true, if_false, Option.map_map]
        congr 1
        funext i
        show PyData.int ((i + (k + 1) : Nat) : Int) = PyData.int ((i + 1 + k : Nat) : Int)
        congr 1
        omega
  exact go ps 0
theorem atP_some {ps : List Pt} {c : Pt} {i : Nat} (h : atP ps c = some i) : i < ps.length := by
  obtain ⟨h1, _⟩ := List.findIdx?_eq_some_iff_getElem.mp h
  exact h1
theorem atP_mem {ps : List Pt} {c : Pt} (h : c ∈ ps) : ∃ i, atP ps c = some i := by
  cases e : atP ps c with
  | some i => exact ⟨i, rfl⟩
  | none =>
    have := List.findIdx?_eq_none_iff.mp e c h
    simp at this
def addAt (r : List Int) (i : Nat) (x : Int) : List Int := r.set i (r.getD i 0 + x)
def signOf (line : List Pt) (r : Pt) : Int := if r ∈ line then 1 else -1
def railStep (ps line : List Pt) (p : Pt) (i : Nat) (r : List Int) (rail : Pt) : List Int := match atP ps (overP p rail) with
  | some k => addAt (addAt r i 1) k (signOf line rail)
  | none => addAt r i 1
def rowFold (ps line : List Pt) (p : Pt) (i : Nat) (r : List Int) (rails : List Pt) : List Int := rails.foldl (railStep ps line p i) r
def tabStep (S ps line : List Pt) (rs : List (List Int)) (p : Pt) : List (List Int) := match atP ps p with
  | some i => rs.set i (rowFold ps line p i (rs.getD i []) (besideL S p))
  | none => rs
def tab0 (n : Nat) : List (List Int) := List.replicate n (List.replicate n 0)
def tabF (S ps line qs : List Pt) : List (List Int) := qs.foldl (tabStep S ps line) (tab0 ps.length)
def tableM (S : List Pt) (h : Pt) : List (List Int) := tabF S (placesL S h) (lineL S h) (placesL S h)
def rowsD (rs : List (List Int)) : List (List PyData) := rs.map fun r => r.map .int
theorem railStep_len (ps line : List Pt) (p : Pt) (i : Nat) (r : List Int) (rail : Pt) : (railStep ps line p i r rail).length = r.length := by
  unfold railStep addAt
  split <;> simp
theorem rowFold_len (ps line : List Pt) (p : Pt) (i : Nat) : ∀ (rails : List Pt) (r : List Int), (rowFold ps line p i r rails).length = r.length
  | [], r => rfl
  | x :: rails, r => by
    show (rowFold ps line p i (railStep ps line p i r x) rails).length = _
    rw [rowFold_len ps line p i rails, railStep_len]
def Sq (n : Nat) (rs : List (List Int)) : Prop := rs.length = n ∧ ∀ (i : Nat) r, rs[i]? = some r → r.length = n
theorem sq_set {n : Nat} {rs : List (List Int)} {k : Nat} {r : List Int} (h : Sq n rs) (hr : r.length = n) : Sq n (rs.set k r) := by
  refine ⟨by rw [List.length_set]; exact h.1, fun i x hx => ?_⟩
  rw [List.getElem?_set] at hx
  split at hx
  · split at hx
    · cases hx; exact hr
    · cases hx
  · exact h.2 i x hx
theorem sq_get {n : Nat} {rs : List (List Int)} {k : Nat} (h : Sq n rs) (hk : k < n) : rs[k]? = some (rs.getD k []) ∧ (rs.getD k []).length = n := by
  have hl : k < rs.length := by rw [h.1]; exact hk
  have e : rs.getD k [] = rs[k] := by rw [List.getD_eq_getElem?_getD, List.getElem?_eq_getElem hl]; rfl
  rw [e]
  exact ⟨List.getElem?_eq_getElem hl, h.2 k _ (List.getElem?_eq_getElem hl)⟩
theorem sq_step {S ps line : List Pt} {rs : List (List Int)} {p : Pt} (h : Sq ps.length rs) : Sq ps.length (tabStep S ps line rs p) := by
  unfold tabStep
  split
  · rename_i i hi
    refine sq_set h ?_
    rw [rowFold_len]
    exact (sq_get h (atP_some hi)).2
  · exact h
theorem sq_0 (n : Nat) : Sq n (tab0 n) := ⟨by unfold tab0; rw [List.length_replicate], fun i r h => by
  unfold tab0 at h
  rw [List.getElem?_replicate] at h
  split at h
  · cases h; rw [List.length_replicate]
  · cases h⟩
theorem sq_fold (S ps line : List Pt) : ∀ (qs : List Pt) (rs : List (List Int)), Sq ps.length rs → Sq ps.length (qs.foldl (tabStep S ps line) rs)
  | [], _, h => h
  | q :: qs, rs, h => sq_fold S ps line qs _ (sq_step h)
theorem atI_nat {α : Type} {xs : List α} {k : Nat} {x : α} (h : xs[k]? = some x) : atI xs (k : Int) = some x := by
  obtain ⟨hl, e⟩ := List.getElem?_eq_some_iff.mp h
  unfold atI ixN
  rw [if_pos (by omega)]
  simp [hl, e]
theorem ixN_nat {n k : Nat} (h : k < n) : ixN n (k : Int) = some k := by
  unfold ixN
  rw [if_pos (by omega)]
  simp [h]
theorem ints_set (r : List Int) (k : Nat) (z : Int) : (r.map PyData.int).set k (.int z) = (r.set k z).map .int := by rw [List.map_set]
theorem ints_at {r : List Int} {k : Nat} (h : k < r.length) : (r.map PyData.int)[k]? = some (.int (r.getD k 0)) := by
  rw [List.getElem?_map, List.getElem?_eq_getElem h, List.getD_eq_getElem?_getD, List.getElem?_eq_getElem h]
  rfl
section
variable {P : Program} {w : World} {K : PySem.W.Frag} {mg : Str → Option Value} {base : Heap}
abbrev n35 : List Str := ["yard", "hole", "kind", "rails", "places", "number", "found", "place", "row", "rail", "over", "at", "_"]
theorem sc35 : FnScope n35 ["yard", "hole", "kind", "rails"] (defScope (top 35)) := ⟨rfl, rfl, rfl, by decide +kernel, rfl, by decide +kernel, by decide +kernel⟩
theorem bk35a : BlkOk n35 (defScope (top 35)) (match defBody (top 35) with | _ :: .Assign _ (.DictComp _ _ _ sc _) _ :: _ => sc | _ => defScope (top 7)) [("at", 11), ("place", 7)] :=
  ⟨by decide +kernel, by decide +kernel, by decide +kernel, by decide +kernel, by decide +kernel⟩
theorem bk35b : BlkOk n35 (defScope (top 35)) (match defBody (top 35) with | _ :: _ :: .Assign _ (.ListComp _ _ sc _) _ :: _ => sc | _ => defScope (top 7)) [("_", 12)] :=
  ⟨by decide +kernel, by decide +kernel, by decide +kernel, by decide +kernel, by decide +kernel⟩
theorem bk35c : BlkOk n35 (defScope (top 35)) (match defBody (top 35) with | [_, _, _, _, .Return (some (.Call _ [.ListComp _ _ sc _] _ _)) _] => sc | _ => defScope (top 7)) [("row", 8)] :=
  ⟨by decide +kernel, by decide +kernel, by decide +kernel, by decide +kernel, by decide +kernel⟩
def R35 : List PyData → PyData → Prop := fun ds d => ∃ (S : List Pt) (h : Pt), ds = [.tuple (S.map D), D h, D ("plot" : Str), .tuple ((lineL S h).map D)] ∧ S.Nodup ∧ S.length ≤ 20 ∧ d = .tuple ((tableM S h).map fun r => .tuple (r.map .int))
theorem places_len (S : List Pt) (h : Pt) : (placesL S h).length ≤ S.length := by
  unfold placesL
  have := List.length_filter_le (fun p => decide (p ≠ h)) (plotsL S)
  rw [plots_len] at this
  exact this
theorem places_nd {S : List Pt} (h : Pt) (hn : S.Nodup) : (placesL S h).Nodup := List.Nodup.sublist List.filter_sublist (sort_nodup (plots_nd hn))
theorem c35 (F : Def K mg "table_in" (top 35)) (b : Blt mg) (C34 : Cal P w K mg base 2 "places_of" ["yard", "hole", "kind"] R34) (C30 : Cal P w K mg base 6 "rails_by" ["yard", "place"] R29) (C31 : Cal P w K mg base 1 "over_against" ["place", "rail"] R31) : Cal P w K mg base 7 "table_in" ["yard", "hole", "kind", "rails"] R35 :=
  cal_of F sc35 (fun _ _ _ _ _ _ us hl => match us, hl with | [_, _, _, _], _ => rfl) (fun ds d ⟨_, _, e, _⟩ => by rw [e]; rfl) fun f cdv A outer s H E hr ds d ⟨S, h, e1, hn, hl, e2⟩ => by
    subst e1 e2
    have pl := places_len S h
    have pn := places_nd h hn
    unfold tableM
    generalize hps : placesL S h = ps at pl pn
    generalize lineL S h = line
    have zl : ps.zipIdx.length = ps.length := by rw [List.length_zipIdx]
    have zat : ∀ (j : Nat) a, ps.zipIdx[j]? = some a → ps[j]? = some a.1 ∧ a.2 = j := fun j a h => by
      rw [List.getElem?_zipIdx] at h
      obtain ⟨x, h1, h2⟩ := Option.map_eq_some_iff.mp h
      subst h2
      exact ⟨h1, by simp⟩
    refine pb_cons (pn_set (d := D ps) 4 sc35.nd (pdc C34 (hr.mono (by decide)) (pda_cons (pd_v 0) (pda_cons (pd_v 1) (pda_cons (pd_v 2) pda_nil))) ⟨S, h, rfl, hn, hl, by rw [hps]⟩)) (pb_cons (pn_dicC (kds := numD ps) 5 (pw_dcG (own := [("at", 11), ("place", 7)]) (is := [11] ++ ([7] ++ [])) ps.zipIdx (fun a => .tuple [.int a.2, D a.1]) (fun a => ((((begS n35 [.tuple (S.map D), D h, D ("plot" : Str), .tuple (line.map D)]).set 4 (.dat (D ps))).set 11 (.dat (.int a.2))).set 7 (.dat (D a.1)))) (fun a => a.1) (fun _ a => .int a.2) rfl (ru hr.units (k := 0)) sc35.nd
      (pdi_enum b.enum (pda_cons (pd_v 4) pda_nil)) (by rw [zl, List.length_map]) (fun j a h => ?_) bk35a (by decide) (by rw [zl, sizeLine_eq]; omega) ?_ (fun a _ s H C cl fp => pdg_tup (ds := [.int a.2, D a.1]) rfl (pdgs_cons (pdg 11 sc35.nd) (pdgs_cons (pdg 7 sc35.nd) pdgs_nil))) (fun a _ s H C cl fp => pd_v 7) (fun a => .int a.2) (fun a _ s H C cl fp => pd_v 11)))
      (pb_rows 6 (rs := rowsD (tab0 ps.length)) ?_ fun a bs hbs => pb_cons (pn_for1 7 ps D (fun j => own (matL a (bs.map V.ref) bs (rowsD (tabF S ps line (ps.take j))))) sc35.nd (pdi_list (ds := ps.map D) (pd_v 4)) fun j p hj => ?_) ?_))
    · obtain ⟨h1, h2⟩ := zat j a h
      show PyData.tuple [.int j, (ps.map D).getD j .none] = _
      rw [getD_map h1, ← h2]
    · have e : ps.zipIdx.map (fun a => a.1) = ps := by
        have := List.zipIdx_map_fst 0 ps
        exact this
      rw [e]
      exact pn
    · -- the rows of noughts
      have e : rowsD (tab0 ps.length) = ps.map fun _ => List.replicate ps.length (PyData.int 0) := by
        unfold rowsD tab0
        rw [List.map_replicate, List.map_replicate, List.map_const']
      rw [e]
      exact pw_rowsG (own := [("_", 12)]) (is := [12]) ps D (fun p => (((begS n35 [.tuple (S.map D), D h, D ("plot" : Str), .tuple (line.map D)]).set 4 (.dat (D ps))).set 5 (.dic (numD ps))).set 12 (.dat (D p))) (fun _ => List.replicate ps.length (PyData.int 0)) rfl sc35.nd (pdi_list (ds := ps.map D) (pd_v 4)) (by rw [List.length_map]) (fun j a h => getD_map h) bk35b (by decide) (by rw [sizeLine_eq]; omega)
        (fun p _ s H C cl fp => pdg 12 sc35.nd) fun p _ s H C cl fp => pw_rep (pd_lst (pda_cons pd_int pda_nil)) (pd_of_eq (pd_lenL (ds := ps.map D) b.len (pda_cons (pd_v 4) pda_nil)) (by rw [List.length_map])) (by omega)
    · -- one place
      obtain ⟨i, hi⟩ := atP_mem (List.mem_of_getElem? hj)
      have il := atP_some hi
      have sq : Sq ps.length (tabF S ps line (ps.take j)) := sq_fold S ps line (ps.take j) (tab0 ps.length) (sq_0 _)
      have sql : (rowsD (tabF S ps line (ps.take j))).length = ps.length := by unfold rowsD; rw [List.length_map]; exact sq.1
      obtain ⟨g1, g2⟩ := sq_get sq il
      have bl : bs.length = ps.length := by rw [hbs]; unfold rowsD; rw [List.length_map]; exact (sq_0 _).1
      have hb : bs[i]? = some (bs.getD i 0) := by rw [List.getD_eq_getElem?_getD, List.getElem?_eq_getElem (show i < bs.length by omega)]; rfl
      have hv : (bs.map V.ref)[i]? = some (.ref (bs.getD i 0)) := by rw [List.getElem?_map, hb]; rfl
      have hlk : look (numD ps) p = some (.int i) := by rw [look_num, hi]; rfl
      generalize hbb : bs.getD i 0 = bb at hb hv
      -- the table with the row r at its place
      obtain ⟨T, hT⟩ : ∃ T : List Int → List (List PyData), T = fun r => rowsD ((tabF S ps line (ps.take j)).set i r) := ⟨_, rfl⟩
      have Tset : ∀ r r', (T r).set i (r'.map .int) = T r' := fun r r' => by
        rw [hT]
        show (((tabF S ps line (ps.take j)).set i r).map _).set i _ = ((tabF S ps line (ps.take j)).set i r').map _
        rw [List.map_set, List.map_set, List.set_set]
      have Tat : ∀ r, (T r)[i]? = some (r.map .int) := fun r => by
        rw [hT]
        show (((tabF S ps line (ps.take j)).set i r).map _)[i]? = _
        rw [List.getElem?_map, List.getElem?_set_self (by rw [sq.1]; exact il)]
        rfl
      have T0 : rowsD (tabF S ps line (ps.take j)) = T ((tabF S ps line (ps.take j)).getD i []) := by
        rw [hT]
        show _ = rowsD _
        congr 1
        apply List.ext_getElem?
        intro k
        rw [List.getElem?_set]
        by_cases hk : i = k
        · subst hk
          rw [if_pos rfl, if_pos (by rw [sq.1]; exact il)]
          exact g1
        · rw [if_neg hk]
      have T1 : rowsD (tabF S ps line (ps.take (j + 1))) = T (rowFold ps line p i ((tabF S ps line (ps.take j)).getD i []) (besideL S p)) := by
        rw [hT]
        show rowsD _ = rowsD _
        congr 1
        unfold tabF
        rw [take_next' hj, List.foldl_append]
        show tabStep S ps line _ p = _
        unfold tabStep
        rw [hi]
      rw [T0, T1]
      generalize (tabF S ps line (ps.take j)).getD i [] = r0 at g2
      clear T0 T1 g1
      refine pns_w (pns_cons (pn_row 0 6 8 Peek.refl sc35.nd (pd_getD 5 (ru1 hr.units (k := 0)) (pd_v 7) hlk) (atI_nat hv)) (pns_one (ρ1 := ((((begS n35 [.tuple (S.map D), D h, D ("plot" : Str), .tuple (line.map D)]).set 4 (.dat (D ps))).set 5 (.dic (numD ps))).set 6 (.val (.ref a))).set 7 (.dat (D p)) |>.set 8 (.val (.ref bb))) ?_))
      have rl : ∀ k, (rowFold ps line p i r0 ((besideL S p).take k)).length = ps.length := fun k => by rw [rowFold_len]; exact g2
      refine pn_eq (pn_for1 9 (besideL S p) D (fun k => own (matL a (bs.map V.ref) bs (T (rowFold ps line p i r0 ((besideL S p).take k))))) sc35.nd (pdi_list (ds := (besideL S p).map D) (pdc C30 hr (pda_cons (pd_v 0) (pda_cons (pd_v 7) pda_nil)) ⟨S, p, rfl, rfl⟩)) fun k rail hk => ?_) rfl (by rw [List.take_length])
      have nx : rowFold ps line p i r0 ((besideL S p).take (k + 1)) = railStep ps line p i (rowFold ps line p i r0 ((besideL S p).take k)) rail := by
        unfold rowFold
        rw [take_next' hk, List.foldl_append]
        rfl
      rw [nx]
      have rlk := rl k
      generalize rowFold ps line p i r0 ((besideL S p).take k) = r at rlk
      -- row[number[key]] = row[number[key]] + x
      have after : ∀ (r : List Int) (k : Nat) (z : Int), own ((matL a (bs.map V.ref) bs (T r)).set (i + 1) (bb, oL ((r.set k z).map .int))) = own (matL a (bs.map V.ref) bs (T (r.set k z))) := fun r k z => by
        rw [mat_set hb, Tset]
      refine pns_w (pns_cons (pn_eq (pn_lset (i + 1) 8 (z := r.getD i 0 + 1) (j := i) (n := i) (ds' := (r.set i (r.getD i 0 + 1)).map .int) (Peek.refl.list 8 (i + 1) rfl (mat_at hb (Tat r))) (pd_add (pd_ixL (ds := r.map .int) (pd_v 8) (pd_getD 5 (ru1 hr.units (k := 0)) (pd_v 7) hlk) (atI_nat (ints_at (by rw [rlk]; exact il)))) pd_int) (pd_getD 5 (ru1 hr.units (k := 0)) (pd_v 7) hlk) (ixN_nat (by rw [List.length_map, rlk]; exact il)) (ints_set _ _ _) (mat_at hb (Tat r))) rfl (after _ _ _))
        (pns_cons (pn_set (d := D (overP p rail)) 10 sc35.nd (pdc C31 (hr.mono (by decide)) (pda_cons (pd_v 7) (pda_cons (pd_v 9) pda_nil)) ⟨p, rail, rfl, rfl⟩)) (pns_one (pn_ifK Peek.refl (pdt_inD 5 (ru1 hr.units (k := 0)) (pd_v 10)) (fun hin => ?_) fun hin => ?_))))
      · obtain ⟨k2, hk2⟩ : ∃ k2, atP ps (overP p rail) = some k2 := by
          rw [look_num, Option.isSome_map] at hin
          exact Option.isSome_iff_exists.mp hin
        have il2 := atP_some hk2
        have hlk2 : look (numD ps) (overP p rail) = some (.int k2) := by rw [look_num, hk2]; rfl
        have e : railStep ps line p i r rail = addAt (addAt r i 1) k2 (signOf line rail) := by unfold railStep; rw [hk2]
        rw [e]
        have rl1 : (addAt r i 1).length = ps.length := by unfold addAt; rw [List.length_set]; exact rlk
        show PNs _ _ _ (own (matL a (bs.map V.ref) bs (T (addAt r i 1)))) _ _
        generalize addAt r i 1 = r1 at rl1
        refine pns_one (pn_eq (pn_lset (i + 1) 8 (z := r1.getD k2 0 + signOf line rail) (j := k2) (n := k2) (ds' := (r1.set k2 (r1.getD k2 0 + signOf line rail)).map .int) (Peek.refl.list 8 (i + 1) rfl (mat_at hb (Tat r1))) (pd_add (pd_ixL (ds := r1.map .int) (pd_v 8) (pd_getD 5 (ru1 hr.units (k := 0)) (pd_v 10) hlk2) (atI_nat (ints_at (by rw [rl1]; exact il2)))) ?_) (pd_getD 5 (ru1 hr.units (k := 0)) (pd_v 10) hlk2) (ixN_nat (by rw [List.length_map, rl1]; exact il2)) (ints_set _ _ _) (mat_at hb (Tat r1))) rfl (after _ _ _))
        exact pd_if (c := decide (rail ∈ line)) (pdt_of_eq2 (pdt_inT (α := Pt) (x := rail) (xs := line) (ru1 hr.units) (pd_v 9) (pd_v 3)) (decide_eq_decide.mpr Iff.rfl)) (fun q => pd_of_eq pd_int (by unfold signOf; rw [if_pos (of_decide_eq_true q)])) fun q => pd_of_eq (pd_neg pd_int) (by unfold signOf; rw [if_neg (of_decide_eq_false q)])
      · have hk2 : atP ps (overP p rail) = none := by
          rw [look_num, Option.isSome_map] at hin
          exact Option.isNone_iff_eq_none.mp (by rw [← Option.not_isSome, hin]; rfl)
        have e : railStep ps line p i r rail = addAt r i 1 := by unfold railStep; rw [hk2]
        rw [e]
        exact pns_nil
    · have e : tabF S ps line ps = tabF S ps line (ps.take ps.length) := by rw [List.take_length]
      rw [e]
      have sq : Sq ps.length (tabF S ps line (ps.take ps.length)) := sq_fold S ps line _ (tab0 ps.length) (sq_0 _)
      have bl : bs.length = ps.length := by rw [hbs]; unfold rowsD; rw [List.length_map]; exact (sq_0 _).1
      generalize tabF S ps line (ps.take ps.length) = T at sq
      refine pb_keepM 6 (by rw [bl]; unfold rowsD; rw [List.length_map]; exact sq.1.symm) (pb_ret (pd_tupleL b.tuple (pda_cons (pd_lcm 8 T (fun r => .list (r.map .int)) (fun r => .tuple (r.map .int)) rfl sc35.nd (pdi_list (ds := T.map fun r => .list (r.map .int)) (pd_of_eq (pd_v 6) ?_)) bk35c (by rw [sq.1]; omega)
        fun r _ s H C cl fp => pd_tupleL b.tuple (pda_cons (pd_v 8) pda_nil)) pda_nil)))
      unfold rowsD
      rw [List.map_map]
      rfl
end
end Hf

/-! ## HfP8 -/
set_option Elab.async false
set_option linter.all false
set_option maxRecDepth 100000
set_option maxHeartbeats 1000000
/-! Defs of the program, 8: det_in, told_in, many_in. -/
namespace Hf
open L2 PySem PySem.Spec PyProof.Rows
open PySem.W (Datum DatumOrd Tup EachIs AllAlike Sortable dataLe)

def newv (head : List Int) (t : Nat) (last lead : Int) (r : List Int) (x : Nat) : Int := (r.getD x 0 * head.getD t 0 - lead * head.getD x 0) / last
def updF (head : List Int) (t : Nat) (last lead : Int) (r : List Int) (k : Nat) : List Int := (List.range k).foldl (fun r i => r.set (t + 1 + i) (newv head t last lead r (t + 1 + i))) r
def elimF (n : Nat) (rs : List (List Int)) (t : Nat) (last : Int) (k : Nat) : List (List Int) := (List.range k).foldl (fun R i => R.set (t + 1 + i) (updF (rs.getD t []) t last ((R.getD (t + 1 + i) []).getD t 0) (R.getD (t + 1 + i) []) (n - (t + 1)))) rs
def detSt (n : Nat) (T : List (List Int)) : Nat → List (List Int) × Int
  | 0 => (T, 1)
  | t + 1 => (elimF n (detSt n T t).1 t (detSt n T t).2 (n - (t + 1)), ((detSt n T t).1.getD t []).getD t 0)
def detM (n : Nat) (T : List (List Int)) : Int := (detSt n T n).2
/-- heads above nought, and small -/
def headOk (t : Nat) (head : List Int) : Bool := decide (0 < head.getD t 0) && (decide (head.getD t 0 < 1000000000) && head.all fun x => decide (-1000000000 < x ∧ x < 1000000000))
def detOk (n : Nat) (T : List (List Int)) : Bool := (List.range n).all fun t => headOk t ((detSt n T t).1.getD t [])
theorem updF_len (head : List Int) (t : Nat) (last lead : Int) (r : List Int) : ∀ k, (updF head t last lead r k).length = r.length
  | 0 => rfl
  | k + 1 => by
    unfold updF
    rw [List.range_succ, List.foldl_append]
    show ((updF head t last lead r k).set _ _).length = _
    rw [List.length_set, updF_len head t last lead r k]
theorem updF_next (head : List Int) (t : Nat) (last lead : Int) (r : List Int) (k : Nat) : updF head t last lead r (k + 1) = (updF head t last lead r k).set (t + 1 + k) (newv head t last lead (updF head t last lead r k) (t + 1 + k)) := by
  unfold updF
  rw [List.range_succ, List.foldl_append]
  rfl
theorem elimF_next (n : Nat) (rs : List (List Int)) (t : Nat) (last : Int) (k : Nat) : elimF n rs t last (k + 1) = (elimF n rs t last k).set (t + 1 + k) (updF (rs.getD t []) t last (((elimF n rs t last k).getD (t + 1 + k) []).getD t 0) ((elimF n rs t last k).getD (t + 1 + k) []) (n - (t + 1))) := by
  unfold elimF
  rw [List.range_succ, List.foldl_append]
  rfl
theorem elimF_sq {n : Nat} {rs : List (List Int)} {t : Nat} {last : Int} (h : Sq n rs) : ∀ k, t + 1 + k ≤ n → Sq n (elimF n rs t last k) ∧ ∀ i, i ≤ t → (elimF n rs t last k)[i]? = rs[i]?
  | 0, _ => ⟨h, fun _ _ => rfl⟩
  | k + 1, hk => by
    obtain ⟨h1, h2⟩ := elimF_sq h (t := t) (last := last) k (by omega)
    rw [elimF_next]
    refine ⟨sq_set h1 ?_, fun i hi => ?_⟩
    · rw [updF_len]
      exact (sq_get h1 (k := t + 1 + k) (by omega)).2
    · rw [List.getElem?_set_ne (show t + 1 + k ≠ i by omega)]
      exact h2 i hi
theorem detSt_sq {n : Nat} {T : List (List Int)} (h : Sq n T) : ∀ t, t ≤ n → Sq n (detSt n T t).1
  | 0, _ => h
  | t + 1, ht => (elimF_sq (detSt_sq h t (by omega)) (n - (t + 1)) (by omega)).1
theorem set_getD {α : Type} {xs : List α} {i : Nat} {d : α} (h : i < xs.length) : xs.set i (xs.getD i d) = xs := by
  apply List.ext_getElem?
  intro k
  rw [List.getElem?_set]
  by_cases c : i = k
  · subst c
    rw [if_pos rfl, if_pos h, List.getD_eq_getElem?_getD, List.getElem?_eq_getElem h]
    rfl
  · rw [if_neg c]
section
variable {P : Program} {w : World} {K : PySem.W.Frag} {mg : Str → Option Value} {base : Heap}
abbrev n36 : List Str := ["table", "rows", "sign", "last", "at", "pivots", "head", "row", "lead", "number"]
theorem sc36 : FnScope n36 ["table"] (defScope (top 36)) := ⟨rfl, rfl, rfl, by decide +kernel, rfl, by decide +kernel, by decide +kernel⟩
theorem bk36a : BlkOk n36 (defScope (top 36)) (match defBody (top 36) with | .Assign _ (.Tuple (.ListComp _ _ sc _ :: _) _ _) _ :: _ => sc | _ => defScope (top 7)) [("row", 7)] :=
  ⟨by decide +kernel, by decide +kernel, by decide +kernel, by decide +kernel, by decide +kernel⟩
theorem bk36b : BlkOk n36 (defScope (top 36)) (match defBody (top 36) with | _ :: .For _ _ (.Assign _ (.ListComp _ _ sc _) _ :: _) _ _ :: _ => sc | _ => defScope (top 7)) [("number", 9)] :=
  ⟨by decide +kernel, by decide +kernel, by decide +kernel, by decide +kernel, by decide +kernel⟩
def tabD (T : List (List Int)) : PyData := .tuple (T.map fun r => .tuple (r.map .int))
def R36 : List PyData → PyData → Prop := fun ds d => ∃ (n : Nat) (T : List (List Int)), ds = [tabD T] ∧ Sq n T ∧ n ≤ 20 ∧ detOk n T = true ∧ d = .int (detM n T)
def slots36 (T : List (List Int)) (a : Addr) (last : Int) : List SV := [.dat (tabD T), .val (.ref a), .dat (.int 1), .dat (.int last), .no, .no, .no, .no, .no, .no]
def piv (rs : List (List Int)) (n t : Nat) : List Int := ((List.range (n - t)).filter fun k => decide ((rs.getD (t + k) []).getD t 0 ≠ 0)).map fun k => ((t + k : Nat) : Int)
theorem piv_head {rs : List (List Int)} {n t : Nat} (ht : t < n) (h : (rs.getD t []).getD t 0 ≠ 0) : ∃ r, piv rs n t = (t : Int) :: r := by
  unfold piv
  obtain ⟨m, hm⟩ : ∃ m, n - t = m + 1 := ⟨n - t - 1, by omega⟩
  rw [hm, List.range_succ_eq_map, List.filter_cons_of_pos (by simpa using h), List.map_cons]
  exact ⟨_, rfl⟩
theorem c36 (F : Def K mg "det_in" (top 36)) (b : Blt mg) : Cal P w K mg base 1 "det_in" ["table"] R36 :=
  cal_of F sc36 (fun _ _ _ _ _ _ us hl => match us, hl with | [_], _ => rfl) (fun ds d ⟨_, _, e, _⟩ => by rw [e]; rfl) fun f cdv A outer s H E hr ds d ⟨n, T, e1, sq, hn, ok, e2⟩ => by
    subst e1 e2
    have sql : (rowsD T).length = n := by unfold rowsD; rw [List.length_map]; exact sq.1
    refine pb_rows3c (rs := rowsD T) (i := 1) (j := 2) (l := 3) (d2 := 1) (d3 := 1) sc36.nd (pw_rowsG (own := [("row", 7)]) (is := [7]) T (fun r => .tuple (r.map .int)) (fun r => (begS n36 [tabD T]).set 7 (.dat (.tuple (r.map .int)))) (fun r => r.map .int) rfl sc36.nd (pdi_tup (ds := T.map fun r => .tuple (r.map .int)) (pd_v 0)) (by rw [List.length_map]) (fun j a h => getD_map h) bk36a (by decide) (by rw [sq.1, sizeLine_eq]; omega)
      (fun r _ s H C cl fp => pdg 7 sc36.nd) fun r _ s H C cl fp => pw_listT b.list (pda_cons (pd_v 7) pda_nil)) pd_int pd_int fun a bs hbs => ?_
    have bl : bs.length = n := by rw [hbs]; exact sql
    have lenOf : ∀ t, t ≤ n → (rowsD (detSt n T t).1).length = n := fun t ht => by unfold rowsD; rw [List.length_map]; exact (detSt_sq sq t ht).1
    -- the rows as if they were read
    have peek : ∀ (ρ : List SV) (rs : List (List Int)), Sq n rs → ρ[1]? = some (.val (.ref a)) → Peek ρ (matL a (bs.map V.ref) bs (rowsD rs)) (ρ.set 1 (.dat (.list ((rowsD rs).map .list)))) := fun ρ rs hs hi =>
      Peek.refl.rows 1 0 (by rw [bl]; unfold rowsD; rw [List.length_map]; exact hs.1.symm) (fun j b r h1 h2 => ⟨j + 1, mat_at h1 h2⟩) hi rfl
    have hlen : ∀ rs : List (List Int), Sq n rs → (((rowsD rs).map PyData.list).length : Int) = n := fun rs hs => by unfold rowsD; rw [List.length_map, List.length_map, hs.1]
    refine pb_cons (pn_forE 4 (fun k => .int (0 + (k : Nat))) (fun k => .dat (.int k)) (fun k => slots36 T a (detSt n T k).2) (fun k => matL a (bs.map V.ref) bs (rowsD (detSt n T k).1)) sc36.nd (pi_rng1 (j := n) (peek _ T sq rfl) b.range (pd_of_eq (pd_lenL b.len (pda_cons (pd_v 1) pda_nil)) (by rw [hlen T sq])) (by omega) (by omega)) (fun j H _ => ⟨_, rfl, by rw [Int.zero_add]; exact .int _⟩) fun t ht => ?_) (pb_ret (pd_of_eq (pd_mul (i := 1) (pd_v 2) (pd_v 3) (dmul (by decide))) (by rw [Int.one_mul]; rfl)))
    -- the turn t
    have ht : t < n := ht
    have sqt := detSt_sq sq t (by omega)
    have hok := List.all_eq_true.mp ok t (List.mem_range.mpr ht)
    have hlast : 0 < (detSt n T t).2 ∧ (detSt n T t).2 < 1000000000 := by
      cases t with
      | zero => exact ⟨by show (0 : Int) < 1; decide, by show (1 : Int) < 1000000000; decide⟩
      | succ t =>
        have h2 := List.all_eq_true.mp ok t (List.mem_range.mpr (by omega))
        obtain ⟨h3, h4⟩ := (Bool.and_eq_true _ _).mp h2
        obtain ⟨h5, _⟩ := (Bool.and_eq_true _ _).mp h4
        exact ⟨of_decide_eq_true h3, of_decide_eq_true h5⟩
    have nextE : detSt n T (t + 1) = (elimF n (detSt n T t).1 t (detSt n T t).2 (n - (t + 1)), ((detSt n T t).1.getD t []).getD t 0) := rfl
    rw [nextE]
    dsimp only
    generalize (detSt n T t).1 = rs at sqt hok
    generalize (detSt n T t).2 = last at hlast
    obtain ⟨g1, g2⟩ := sq_get sqt ht
    obtain ⟨k3, k4⟩ := (Bool.and_eq_true _ _).mp hok
    obtain ⟨k5, k6⟩ := (Bool.and_eq_true _ _).mp k4
    have k3 := of_decide_eq_true k3
    have k5 := of_decide_eq_true k5
    have small : ∀ x, -1000000000 < (rs.getD t []).getD x 0 ∧ (rs.getD t []).getD x 0 < 1000000000 := fun x => by
      rw [List.getD_eq_getElem?_getD]
      cases hx : (rs.getD t [])[x]? with
      | none => exact ⟨by decide, by decide⟩
      | some y => exact of_decide_eq_true (List.all_eq_true.mp k6 y (List.mem_of_getElem? hx))
    obtain ⟨pr, hpr⟩ := piv_head (rs := rs) ht (by omega)
    have hb : ∀ k, k < n → bs[k]? = some (bs.getD k 0) := fun k hk => by rw [List.getD_eq_getElem?_getD, List.getElem?_eq_getElem (show k < bs.length by omega)]; rfl
    have hv : ∀ k, k < n → (bs.map V.ref)[k]? = some (.ref (bs.getD k 0)) := fun k hk => by rw [List.getElem?_map, hb k hk]; rfl
    have rat : ∀ (R : List (List Int)) k, Sq n R → k < n → (rowsD R)[k]? = some ((R.getD k []).map .int) := fun R k hR hk => by
      unfold rowsD
      rw [List.getElem?_map, (sq_get hR hk).1]
      rfl
    have rows_at : ∀ k, k < n → ((rowsD rs).map PyData.list)[k]? = some (.list ((rs.getD k []).map .int)) := fun k hk => by
      rw [List.getElem?_map, rat rs k sqt hk]; rfl
    have s0 : List SV := slots36 T a last
    refine pns_cons (pn_setCO (is := piv rs n t) 5 (peek _ rs sqt rfl) ?_) (pns_cons (pn_if (b := false) (pdt_of_eq (pdt_eq (α := List Int) (x := piv rs n t) (y := []) (ru hr.units) (pd_v 5) (pd_lst pda_nil)) (by rw [hpr]; rfl)) (fun h => nomatch h) fun _ => pns_nil) (pns_cons (pn_if (b := false) (pdt_of_eq (pdt_ne (α := Int) (x := (t : Int)) (y := (t : Int)) (ru hr.units) (pd_ixL (ds := (piv rs n t).map .int) (pd_v 5) pd_int (by rw [hpr]; exact atI_nat (k := 0) rfl)) (pd_v 4)) (by simp)) (fun h => nomatch h) fun _ => pns_nil)
      (pns_cons (pn_row 0 1 6 Peek.refl sc36.nd (pd_v 4) (atI_nat (hv t ht))) (pns_cons (ρ1 := (((slots36 T a last).set 4 (.dat (.int t))).set 5 (.dat (.list ((piv rs n t).map .int)))).set 6 (.val (.ref (bs.getD t 0)))) (M1 := own (matL a (bs.map V.ref) bs (rowsD (elimF n rs t last (n - (t + 1)))))) ?_ (pns_w (pns_one (pn_setO (z := (rs.getD t []).getD t 0) 3 (Peek.refl.list (ds := (rs.getD t []).map .int) 6 (t + 1) rfl (mat_at (hb t ht) ?_)) sc36.nd (pd_ixL (ds := (rs.getD t []).map .int) (pd_v 6) (pd_v 4) (atI_nat (ints_at (by rw [g2]; exact ht)))))))))))
    · have e : (piv rs n t).map PyData.int = ((List.range (n - t)).filter fun k => decide ((rs.getD (t + k) []).getD t 0 ≠ 0)).map fun k => .int ((t + k : Nat) : Int) := by unfold piv; rw [List.map_map]; rfl
      rw [e]
      refine pw_lcG (own := [("number", 9)]) (is := [9]) (List.range (n - t)) (fun k => .int ((t + k : Nat) : Int)) (fun k => ((((slots36 T a last).set 4 (.dat (.int t))).set 1 (.dat (.list ((rowsD rs).map .list)))).set 9 (.dat (.int ((t + k : Nat) : Int))))) (fun k => decide ((rs.getD (t + k) []).getD t 0 ≠ 0)) (fun k => .int ((t + k : Nat) : Int)) rfl sc36.nd
        (pdi_range2 (i := t) (j := n) b.range (pda_cons (pd_v 4) (pda_cons (pd_of_eq (pd_lenL b.len (pda_cons (pd_v 1) pda_nil)) (by rw [hlen rs sqt])) pda_nil)) (by omega)) ?_ (fun j k hj => ?_) bk36b (by decide) (by rw [List.length_range, sizeLine_eq]; omega) (fun k _ s H C cl fp => pdg 9 sc36.nd) (fun k hk s H C cl fp => ?_) fun k _ _ s H C cl fp => pd_v 9
      · rw [List.length_range]; omega
      · obtain ⟨h1, h2⟩ := List.getElem?_eq_some_iff.mp hj
        rw [List.getElem_range] at h2
        subst h2
        show PyData.int ((t : Int) + (j : Nat)) = .int ((t + j : Nat) : Int)
        rw [Int.natCast_add]
      · have hk2 : t + k < n := by have := List.mem_range.mp hk; omega
        exact pdts_one (pdt_ne (α := Int) (x := (rs.getD (t + k) []).getD t 0) (y := 0) (ru hr.units) (pd_ixL (ds := (rs.getD (t + k) []).map .int) (pd_ixL (ds := (rowsD rs).map .list) (pd_v 1) (pd_v 9) (atI_nat (rows_at (t + k) hk2))) (pd_v 4) (atI_nat (ints_at (by rw [(sq_get sqt hk2).2]; exact ht)))) pd_int)
    · have dl : ((bs.map V.ref).drop (t + 1)).length = n - (t + 1) := by rw [List.length_drop, List.length_map, bl]
      have dv : ∀ k, k < n - (t + 1) → ((bs.map V.ref).drop (t + 1)).getD k .non = .ref (bs.getD (t + 1 + k) 0) := fun k hk => by
        rw [List.getD_eq_getElem?_getD, List.getElem?_drop, hv (t + 1 + k) (by omega)]
        rfl
      refine pn_eq (pn_forE 7 (n := ((bs.map V.ref).drop (t + 1)).length) (fun k => ((bs.map V.ref).drop (t + 1)).getD k .non) (fun k => .val (((bs.map V.ref).drop (t + 1)).getD k .non)) (fun _ => (((slots36 T a last).set 4 (.dat (.int t))).set 5 (.dat (.list ((piv rs n t).map .int)))).set 6 (.val (.ref (bs.getD t 0)))) (fun k => matL a (bs.map V.ref) bs (rowsD (elimF n rs t last k))) sc36.nd
        (pi_slice 0 1 (Peek.refl) (pd_of_eq (pd_add (pd_v 4) pd_int) (by rw [Int.natCast_add]; rfl))) (fun j H _ => rfl) fun k hk => ?_) rfl (by rw [dl])
      rw [dl] at hk
      rw [dv k hk, elimF_next]
      have sqk := (elimF_sq sqt (t := t) (last := last) k (by omega)).1
      have headk : (elimF n rs t last k).getD t [] = rs.getD t [] := by
        rw [List.getD_eq_getElem?_getD, List.getD_eq_getElem?_getD, (elimF_sq sqt (t := t) (last := last) k (by omega)).2 t (Nat.le_refl _)]
      generalize elimF n rs t last k = R at sqk headk
      have xl : t + 1 + k < n := by omega
      obtain ⟨x1, x2⟩ := sq_get sqk xl
      -- row by row
      have T0 : R = R.set (t + 1 + k) (R.getD (t + 1 + k) []) := (set_getD (by rw [sqk.1]; exact xl)).symm
      have Tset : ∀ r r' : List Int, (rowsD (R.set (t + 1 + k) r)).set (t + 1 + k) (r'.map .int) = rowsD (R.set (t + 1 + k) r') := fun r r' => by
        unfold rowsD
        rw [List.map_set, List.map_set, List.set_set]
      have Tat : ∀ r : List Int, (rowsD (R.set (t + 1 + k) r))[t + 1 + k]? = some (r.map .int) := fun r => by
        unfold rowsD
        rw [List.getElem?_map, List.getElem?_set_self (by rw [sqk.1]; exact xl)]
        rfl
      have Thead : ∀ r : List Int, (rowsD (R.set (t + 1 + k) r))[t]? = some ((rs.getD t []).map .int) := fun r => by
        unfold rowsD
        rw [List.getElem?_map, List.getElem?_set_ne (show t + 1 + k ≠ t by omega), (sq_get sqk ht).1, headk]
        rfl
      have Tsq : ∀ r : List Int, r.length = n → Sq n (R.set (t + 1 + k) r) := fun r h => sq_set sqk h
      generalize R.getD (t + 1 + k) [] = r0 at x2 T0
      rw [T0]
      generalize hbb : bs.getD (t + 1 + k) 0 = bb
      have hb2 : bs[t + 1 + k]? = some bb := by rw [← hbb]; exact hb _ xl
      have fin : (R.set (t + 1 + k) r0).set (t + 1 + k) = fun r => R.set (t + 1 + k) r := by funext r; rw [List.set_set]
      rw [fin]
      dsimp only
      refine pns_w (pns_cons (pn_setO (z := r0.getD t 0) 8 (Peek.refl.list (ds := r0.map .int) 7 (t + 1 + k + 1) rfl (mat_at hb2 (Tat r0))) sc36.nd (pd_ixL (ds := r0.map .int) (pd_v 7) (pd_v 4) (atI_nat (ints_at (by rw [x2]; exact ht))))) (pns_one (ρ1 := ((((slots36 T a last).set 4 (.dat (.int t))).set 5 (.dat (.list ((piv rs n t).map .int)))).set 6 (.val (.ref (bs.getD t 0)))).set 7 (.val (.ref bb)) |>.set 8 (.dat (.int (r0.getD t 0)))) ?_))
      have cnt : ((n : Int) - ((t + 1 : Nat) : Int)).toNat = n - (t + 1) := by omega
      refine pn_eq (pn_forE 9 (n := ((n : Int) - ((t + 1 : Nat) : Int)).toNat) (fun m => .int (((t + 1 : Nat) : Int) + (m : Nat))) (fun m => .dat (.int ((t + 1 + m : Nat) : Int))) (fun _ => ((((slots36 T a last).set 4 (.dat (.int t))).set 5 (.dat (.list ((piv rs n t).map .int)))).set 6 (.val (.ref (bs.getD t 0)))).set 7 (.val (.ref bb)) |>.set 8 (.dat (.int (r0.getD t 0)))) (fun m => matL a (bs.map V.ref) bs (rowsD (R.set (t + 1 + k) (updF (rs.getD t []) t last (r0.getD t 0) r0 m)))) sc36.nd
        (pi_rng2 (peek _ (R.set (t + 1 + k) r0) (Tsq r0 x2) rfl) b.range (pd_of_eq (pd_add (pd_v 4) pd_int) (by rw [Int.natCast_add]; rfl)) (pd_of_eq (pd_lenL b.len (pda_cons (pd_v 1) pda_nil)) (by rw [hlen _ (Tsq r0 x2)])) (by omega)) (fun m H _ => ⟨_, rfl, by rw [Int.natCast_add]; exact .int _⟩) fun m hm => ?_) rfl (by rw [cnt])
      rw [cnt] at hm
      rw [updF_next]
      have ul := updF_len (rs.getD t []) t last (r0.getD t 0) r0 m
      rw [x2] at ul
      generalize updF (rs.getD t []) t last (r0.getD t 0) r0 m = r at ul
      have nl : t + 1 + m < n := by omega
      refine pns_w (pns_one (pn_eq (pn_lset (t + 1 + k + 1) 7 (z := newv (rs.getD t []) t last (r0.getD t 0) r (t + 1 + m)) (j := ((t + 1 + m : Nat) : Int)) (n := t + 1 + m) (ds' := (r.set (t + 1 + m) (newv (rs.getD t []) t last (r0.getD t 0) r (t + 1 + m))).map .int)
        ((Peek.refl.list (ds := r.map .int) 7 (t + 1 + k + 1) rfl (mat_at hb2 (Tat r))).list (ds := (rs.getD t []).map .int) 6 (t + 1) rfl (mat_at (hb t ht) (Thead r)))
        (pd_fdiv (pd_sub (pd_mul (pd_ixL (ds := r.map .int) (pd_v 7) (pd_v 9) (atI_nat (ints_at (by rw [ul]; exact nl)))) (pd_ixL (ds := (rs.getD t []).map .int) (pd_v 6) (pd_v 4) (atI_nat (ints_at (by rw [g2]; exact ht)))) (.inr ⟨by have := small t; omega, by have := small t; omega⟩)) (pd_mul (pd_v 8) (pd_ixL (ds := (rs.getD t []).map .int) (pd_v 6) (pd_v 9) (atI_nat (ints_at (by rw [g2]; exact nl)))) (.inr ⟨by have := small (t + 1 + m); omega, by have := small (t + 1 + m); omega⟩))) (pd_v 3) ⟨hlast.1, by omega⟩)
        (pd_v 9) (ixN_nat (by rw [List.length_map, ul]; exact nl)) (ints_set _ _ _) (mat_at hb2 (Tat r))) rfl (by rw [mat_set hb2, Tset])))
    · unfold rowsD
      rw [List.getElem?_map, (elimF_sq sqt (t := t) (last := last) (n - (t + 1)) (by omega)).2 t (Nat.le_refl _), g1]
      rfl
end
end Hf

/-! ## HfP9 -/
set_option Elab.async false
set_option linter.all false
set_option maxRecDepth 100000
set_option maxHeartbeats 1000000
/-! Defs of the program, 9: told_in, many_in, sure_hole. -/
namespace Hf
open L2 PySem PySem.Spec PyProof.Rows
open PySem.W (Datum DatumOrd Tup EachIs AllAlike Sortable dataLe)
def toldM (S : List Pt) (h : Pt) : Int := detM (placesL S h).length (tableM S h)
def toldOk (S : List Pt) (h : Pt) : Bool := detOk (placesL S h).length (tableM S h)
def manyM (S : List Pt) (h : Pt) : Int := if kindS h = "post" then toldM S h else 2 * toldM S h
theorem table_sq (S : List Pt) (h : Pt) : Sq (placesL S h).length (tableM S h) := sq_fold S _ _ _ _ (sq_0 _)
section
variable {P : Program} {w : World} {K : PySem.W.Frag} {mg : Str → Option Value} {base : Heap}
theorem sc38 : FnScope ["yard", "hole", "kind"] ["yard", "hole", "kind"] (defScope (top 38)) := ⟨rfl, rfl, rfl, by decide +kernel, rfl, by decide +kernel, by decide +kernel⟩
def R38 : List PyData → PyData → Prop := fun ds d => ∃ (S : List Pt) (h : Pt), ds = [.tuple (S.map D), D h, D ("plot" : Str)] ∧ S.Nodup ∧ S.length ≤ 20 ∧ toldOk S h = true ∧ d = .int (toldM S h)
theorem c38 (F : Def K mg "told_in" (top 38)) (C36 : Cal P w K mg base 1 "det_in" ["table"] R36) (C35 : Cal P w K mg base 7 "table_in" ["yard", "hole", "kind", "rails"] R35) (C33 : Cal P w K mg base 2 "line_in" ["yard", "hole", "kind"] R33) : Cal P w K mg base 8 "told_in" ["yard", "hole", "kind"] R38 :=
  cal_of F sc38 (fun _ _ _ _ _ _ us hl => match us, hl with | [_, _, _], _ => rfl) (fun ds d ⟨_, _, e, _⟩ => by rw [e]; rfl) fun f cdv A outer s H E hr ds d ⟨S, h, e1, hn, hl, ok, e2⟩ => by
    subst e1 e2
    exact pb_ret (pdc C36 (hr.mono (by decide)) (pda_cons (pdc C35 hr (pda_cons (pd_v 0) (pda_cons (pd_v 1) (pda_cons (pd_v 2) (pda_cons (pdc C33 (hr.mono (by decide)) (pda_cons (pd_v 0) (pda_cons (pd_v 1) (pda_cons (pd_v 2) pda_nil))) ⟨S, h, rfl, by omega, rfl⟩) pda_nil)))) ⟨S, h, rfl, hn, hl, rfl⟩) pda_nil)
      ⟨_, _, rfl, table_sq S h, Nat.le_trans (places_len S h) hl, ok, rfl⟩)
theorem sc39 : FnScope ["yard", "hole", "many"] ["yard", "hole"] (defScope (top 39)) := ⟨rfl, rfl, rfl, by decide +kernel, rfl, by decide +kernel, by decide +kernel⟩
def R39 : List PyData → PyData → Prop := fun ds d => ∃ (S : List Pt) (h : Pt), ds = [.tuple (S.map D), D h] ∧ S.Nodup ∧ S.length ≤ 20 ∧ toldOk S h = true ∧ d = .int (manyM S h)
theorem c39 (F : Def K mg "many_in" (top 39)) (C38 : Cal P w K mg base 8 "told_in" ["yard", "hole", "kind"] R38) (C24 : Cal P w K mg base 1 "kind_in" ["cell"] R24) : Cal P w K mg base 9 "many_in" ["yard", "hole"] R39 :=
  cal_of F sc39 (fun _ _ _ _ _ _ us hl => match us, hl with | [_, _], _ => rfl) (fun ds d ⟨_, _, e, _⟩ => by rw [e]; rfl) fun f cdv A outer s H E hr ds d ⟨S, h, e1, hn, hl, ok, e2⟩ => by
    subst e1 e2
    exact pb_cons (pn_set 2 sc39.nd (pdc C38 hr (pda_cons (pd_v 0) (pda_cons (pd_v 1) (pda_cons pd_str pda_nil))) ⟨S, h, rfl, hn, hl, ok, rfl⟩)) (pb_ret (pd_if (pdt_eq (α := Str) (x := kindS h) (y := "post") (ru hr.units) (pdc C24 (hr.mono (by decide)) (pda_cons (pd_v 1) pda_nil) ⟨h, rfl, rfl⟩) pd_str)
      (fun q => pd_of_eq (pd_v 2) (by unfold manyM; rw [if_pos (of_decide_eq_true q)])) fun q => pd_of_eq (pd_mul pd_int (pd_v 2) (dmul (by decide))) (by unfold manyM; rw [if_neg (of_decide_eq_false q)])))
/-! sure_hole -/
theorem sc45 : FnScope ["yard", "hole", "own"] ["yard", "hole"] (defScope (top 45)) := ⟨rfl, rfl, rfl, by decide +kernel, rfl, by decide +kernel, by decide +kernel⟩
def R45 : List PyData → PyData → Prop := fun ds d => ∃ (S : List Pt) (e : PyData) (c : Pt), ds = [.tuple (S.map D), e] ∧ Nest 1 e ∧ tupN 1 e = D c ∧ isCell S c = true ∧ kindS c ≠ "rail" ∧ d = D c
theorem c45 (F : Def K mg "sure_hole" (top 45)) (C27 : Cal P w K mg base 4 "sure_pair" ["pair"] R27) (C26 : Cal P w K mg base 5 "is_place_in" ["yard", "thing"] R26) : Cal P w K mg base 6 "sure_hole" ["yard", "hole"] R45 :=
  cal_of F sc45 (fun _ _ _ _ _ _ us hl => match us, hl with | [_, _], _ => rfl) (fun ds d ⟨_, _, _, e, _⟩ => by rw [e]; rfl) fun f cdv A outer s H E hr ds d ⟨S, e, c, e1, hn, ht, h1, h2, e2⟩ => by
    subst e1 e2
    exact pb_cons (pn_set 2 sc45.nd (pdc C27 (hr.mono (by decide)) (pda_cons (pd_v 1) pda_nil) ⟨e, c, rfl, hn, ht, rfl⟩)) (pb_if (b := false) (pdt_not (c := true) (pdt_val (pdc C26 hr (pda_cons (pd_v 0) (pda_cons (pd_v 2) pda_nil)) ⟨S, c, rfl, by rw [h1, decide_eq_true h2]; rfl⟩))) (fun h => nomatch h) fun _ => pb_ret (pd_v 2))
end
end Hf

/-! ## HfP10 -/
set_option Elab.async false
set_option linter.all false
set_option maxRecDepth 100000
set_option maxHeartbeats 1000000
/-! Defs of the program, 10: fewest_beside. -/
namespace Hf
open L2 PySem PySem.Spec PyProof.Rows
open PySem.W (Datum DatumOrd Tup EachIs AllAlike Sortable dataLe)
def optD : Option Pt → PyData
  | some c => D c
  | none => .none
/-- the neighbours that are left -/
def nearLeft (S L : List Pt) (c : Pt) : List Pt := (besideL S c).filter fun o => decide (o ∈ L)
def fewStep (S L : List Pt) (st : Option Pt × Nat) (c : Pt) : Option Pt × Nat := if (nearLeft S L c).length < st.2 then (some c, (nearLeft S L c).length) else st
def fewF (S L cs : List Pt) : Option Pt × Nat := cs.foldl (fewStep S L) (none, 5)
def besD (S cells : List Pt) : List (Pt × PyData) := cells.map fun c => (c, D (besideL S c))
theorem look_map (f : Pt → PyData) : ∀ {cs : List Pt} {c : Pt}, c ∈ cs → look (cs.map fun c => (c, f c)) c = some (f c)
  | [], _, h => nomatch h
  | x :: cs, c, h => by
    unfold look
    rw [List.map_cons]
    by_cases e : x = c
    · subst e
      rw [List.find?_cons_of_pos (by simp)]
      rfl
    · rw [List.find?_cons_of_neg (by simp [e])]
      exact look_map f ((List.mem_cons.mp h).resolve_left fun z => e z.symm)
section
variable {P : Program} {w : World} {K : PySem.W.Frag} {mg : Str → Option Value} {base : Heap}
abbrev n43 : List Str := ["left", "beside", "best", "most", "cell", "many", "own"]
theorem sc43 : FnScope n43 ["left", "beside"] (defScope (top 43)) := ⟨rfl, rfl, rfl, by decide +kernel, rfl, by decide +kernel, by decide +kernel⟩
theorem bk43 : BlkOk n43 (defScope (top 43)) (match defBody (top 43) with | [_, .For _ _ (.Assign _ (.Call _ [.ListComp _ _ sc _] _ _) _ :: _) _ _, _] => sc | _ => defScope (top 7)) [("own", 6)] :=
  ⟨by decide +kernel, by decide +kernel, by decide +kernel, by decide +kernel, by decide +kernel⟩
def R43 : List SV → PyData → Prop := fun ss d => ∃ S L cells : List Pt, ss = [.dic (knownS L), .dic (besD S cells)] ∧ (∀ c ∈ L, c ∈ cells) ∧ d = optD (fewF S L L).1
def slots43 (S L cells : List Pt) (j : Nat) : List SV := [.fzd (knownS L), .dic (besD S cells), .dat (optD (fewF S L (L.take j)).1), .dat (.int (fewF S L (L.take j)).2), .no, .no, .no]
theorem c43 (F : Def K mg "fewest_beside" (top 43)) (b : Blt mg) : CalS P w K mg base 1 "fewest_beside" ["left", "beside"] R43 :=
  calS_of F sc43 (fun _ _ _ _ _ _ us hl => match us, hl with | [_, _], _ => rfl) (fun ss d ⟨_, _, _, e, _⟩ => by rw [e]; rfl) fun f cdv A outer s H E hr ss d ⟨S, L, cells, e1, hin, e2⟩ => by
    subst e1 e2
    have zl : (knownS L).length = L.length := by unfold knownS; rw [List.length_map]
    have zat : ∀ (j : Nat) c, L[j]? = some c → (match (knownS L)[j]? with | some q => D q.1 | none => PyData.none) = D c := fun j c h => by
      unfold knownS
      rw [List.getElem?_map, h]
      rfl
    have at_ : ∀ j, j < (knownS L).length → ∃ c, L[j]? = some c := fun j hj => ⟨L[j]'(by omega), List.getElem?_eq_getElem _⟩
    refine pb_cons (pn_asg (pd_tup (ds := [.none, .int 5]) (pda_cons pd_non (pda_cons pd_int pda_nil))) (pdg_tup (ds := [.none, .int 5]) rfl (pdgs_cons (pdg 2 sc43.nd) (pdgs_cons (pdg 3 sc43.nd) pdgs_nil)))) (pb_cons (pn_lock (ρ2 := slots43 S L cells (knownS L).length) (kds := knownS L) 0 (pn_for (n := (knownS L).length) (dat := fun j => match (knownS L)[j]? with | some q => D q.1 | none => .none) (slots43 S L cells) (fun j => match L[j]? with | some c => (slots43 S L cells j).set 4 (.dat (D c)) | none => []) (fun j => match L[j]? with | some c => (slots43 S L cells (j + 1)).set 4 (.dat (D c)) |>.set 5 (.dat (.int (nearLeft S L c).length)) | none => []) (fun _ => emp) (is := fun _ => [4]) PassesOwn.never rfl (pdi_keys 0) (leS.refl _) (fun j hj => ?_) (fun j hj => ?_) fun j hj => ?_)) (pb_ret (pd_of_eq (pd_v 2) (by rw [zl, List.take_length]))))
    · obtain ⟨c, hc⟩ := at_ j hj
      rw [zat j c hc]
      simp only [hc]
      exact pdg 4 sc43.nd
    · obtain ⟨c, hc⟩ := at_ j hj
      simp only [hc]
      have hcl : c ∈ L := List.mem_of_getElem? hc
      have nx : fewF S L (L.take (j + 1)) = fewStep S L (fewF S L (L.take j)) c := by
        unfold fewF
        rw [take_next' hc, List.foldl_append]
        rfl
      refine pns_cons (pn_set (d := .int (nearLeft S L c).length) 5 sc43.nd (pd_of_eq (pd_lenL b.len (pda_cons (pd_lcf 6 (besideL S c) D D (fun o => decide (o ∈ L)) rfl sc43.nd (pdi_list (ds := (besideL S c).map D) (pd_getD 1 (ru1 hr.units (k := 0)) (pd_v 4) (look_map _ (hin c hcl)))) bk43 ?_ (fun o _ s H C cl fp => pdt_of_eq2 (pdt_inD 0 (ru1 hr.units (k := 0)) (pd_v 6)) (look_known L o)) fun o _ s H C cl fp => pd_v 6) pda_nil)) ?_))
        (pns_one (pn_if (pdt_lt (pd_v 5) (pd_v 3)) (fun h => ?_) fun h => ?_))
      · have := List.length_filter_le (isCell S) (nextL c)
        unfold besideL
        have h4 : (nextL c).length = 4 := rfl
        omega
      · rw [List.length_map]; rfl
      · have h' : (nearLeft S L c).length < (fewF S L (L.take j)).2 := by have := of_decide_eq_true h; omega
        have e : fewF S L (L.take (j + 1)) = (some c, (nearLeft S L c).length) := by rw [nx]; unfold fewStep; rw [if_pos h']
        unfold slots43
        rw [e]
        exact pns_one (pn_par (i := 2) (j := 3) sc43.nd (pda_cons (pd_v 4) (pda_cons (pd_v 5) pda_nil)))
      · have h' : ¬ (nearLeft S L c).length < (fewF S L (L.take j)).2 := by have := of_decide_eq_false h; omega
        have e : fewF S L (L.take (j + 1)) = fewF S L (L.take j) := by rw [nx]; unfold fewStep; rw [if_neg h']
        unfold slots43
        rw [e]
        exact pns_nil
    · obtain ⟨c, hc⟩ := at_ j hj
      simp only [hc]
      exact ⟨.inr rfl, .inr rfl, .inr rfl, .inr rfl, .inl rfl, .inl rfl, .inr rfl, trivial⟩
end
end Hf

/-! ## HfQ1 -/
set_option Elab.async false
set_option linter.all false
set_option maxRecDepth 100000
set_option maxHeartbeats 1000000
/-! The search of floors_in, in plain Lean. -/
namespace Hf
open PySem.W (Datum DatumOrd Tup)
abbrev Ent : Type := List Pt × List Cp
def restL (L : List Pt) (c o : Pt) : List Pt := L.filter fun x => decide (x ∉ [c, o])
def kids (S L : List Pt) (row : List Cp) (c : Pt) : List Ent := (nearLeft S L c).map fun o => (restL L c o, row ++ [couple c o])
def stepM (S : List Pt) (st : List Ent × List (List Cp)) : List Ent × List (List Cp) := match st.1.getLast? with
  | none => st
  | some e => if e.1 = [] then (st.1.dropLast, st.2 ++ [e.2]) else match (fewF S e.1 e.1).1 with
    | none => (st.1.dropLast, st.2)
    | some c => (st.1.dropLast ++ kids S e.1 e.2 c, st.2)
def stM (S L0 : List Pt) : Nat → List Ent × List (List Cp)
  | 0 => ([(L0, [])], [])
  | n + 1 => stepM S (stM S L0 n)
def enumF (S : List Pt) : Nat → List Pt → List Cp → List (List Cp)
  | 0, L, row => if L = [] then [row] else []
  | n + 1, L, row => if L = [] then [row] else match (fewF S L L).1 with
    | none => []
    | some c => (kids S L row c).reverse.flatMap fun e => enumF S n e.1 e.2
/-! the cell with the fewest -/
theorem near_len (S L : List Pt) (c : Pt) : (nearLeft S L c).length ≤ 4 := by
  unfold nearLeft besideL
  have h1 := List.length_filter_le (fun o => decide (o ∈ L)) ((nextL c).filter (isCell S))
  have h2 := List.length_filter_le (isCell S) (nextL c)
  have h3 : (nextL c).length = 4 := rfl
  omega
theorem few_inv (S L : List Pt) : ∀ (cs : List Pt) (st : Option Pt × Nat), (∀ c, st.1 = some c → st.2 = (nearLeft S L c).length) → st.2 ≤ 5 →
    (∀ c, (cs.foldl (fewStep S L) st).1 = some c → (cs.foldl (fewStep S L) st).2 = (nearLeft S L c).length ∧ (st.1 = some c ∨ c ∈ cs)) ∧ (cs.foldl (fewStep S L) st).2 ≤ st.2 ∧ (∀ c ∈ cs, (cs.foldl (fewStep S L) st).2 ≤ (nearLeft S L c).length) ∧ ((st.1.isSome = true ∨ (cs ≠ [] ∧ st.2 = 5)) → (cs.foldl (fewStep S L) st).1.isSome = true)
  | [], st, h, _ => ⟨fun c e => ⟨h c e, .inl e⟩, Nat.le_refl _, fun c hc => (nomatch hc), fun z => z.elim id fun z => absurd rfl z.1⟩
  | x :: cs, st, h, h5 => by
    have step : (fewStep S L st x).2 ≤ st.2 ∧ (fewStep S L st x).2 ≤ (nearLeft S L x).length ∧ (∀ c, (fewStep S L st x).1 = some c → (fewStep S L st x).2 = (nearLeft S L c).length ∧ (st.1 = some c ∨ c = x)) ∧ ((st.1.isSome = true ∨ st.2 = 5) → (fewStep S L st x).1.isSome = true) := by
      unfold fewStep
      by_cases z : (nearLeft S L x).length < st.2
      · rw [if_pos z]
        exact ⟨by show _ ≤ _; omega, Nat.le_refl _, fun c e => by cases e; exact ⟨rfl, .inr rfl⟩, fun _ => rfl⟩
      · rw [if_neg z]
        refine ⟨Nat.le_refl _, by omega, fun c e => ⟨h c e, .inl e⟩, fun w => ?_⟩
        rcases w with w | w
        · exact w
        · have := near_len S L x
          omega
    obtain ⟨a1, a2, a3, a4⟩ := step
    obtain ⟨b1, b2, b3, b4⟩ := few_inv S L cs (fewStep S L st x) (fun c e => (a3 c e).1) (by omega)
    show (∀ c, (cs.foldl (fewStep S L) (fewStep S L st x)).1 = some c → _) ∧ _ ∧ _ ∧ _
    refine ⟨fun c e => ?_, Nat.le_trans b2 a1, fun c hc => ?_, fun w => b4 (.inl (a4 (w.imp id fun w => w.2)))⟩
    · obtain ⟨c1, c2⟩ := b1 c e
      refine ⟨c1, ?_⟩
      rcases c2 with c2 | c2
      · rcases (a3 c c2).2 with d | d
        · exact .inl d
        · exact .inr (d ▸ List.mem_cons_self ..)
      · exact .inr (List.mem_cons_of_mem _ c2)
    · rcases List.mem_cons.mp hc with e | hc
      · rw [e]; exact Nat.le_trans b2 a2
      · exact b3 c hc
theorem few_some (S : List Pt) {L : List Pt} (h : L ≠ []) : ∃ c, (fewF S L L).1 = some c ∧ c ∈ L ∧ ∀ d ∈ L, (nearLeft S L c).length ≤ (nearLeft S L d).length := by
  obtain ⟨h1, h2, h3, h4⟩ := few_inv S L L (none, 5) (fun c e => nomatch e) (Nat.le_refl _)
  obtain ⟨c, hc⟩ := Option.isSome_iff_exists.mp (h4 (.inr ⟨h, rfl⟩))
  obtain ⟨e1, e2⟩ := h1 c hc
  exact ⟨c, hc, e2.resolve_left (fun z => nomatch z), fun d hd => by rw [← e1]; exact h3 d hd⟩
/-! what the entries hold -/
def used (row : List Cp) : List Pt := row.flatMap fun p => [p.1, p.2]
theorem couple_cells (c o : Pt) : ([(couple c o).1, (couple c o).2] : List Pt).Perm [c, o] := by
  unfold couple
  split
  · exact .swap _ _ _
  · exact .refl _
theorem next_ne {c o : Pt} (h : o ∈ nextL c) : o ≠ c := by
  intro e
  subst e
  unfold nextL at h
  simp only [List.mem_cons, List.not_mem_nil, or_false, Prod.ext_iff] at h
  omega
theorem near_mem {S L : List Pt} {c o : Pt} (h : o ∈ nearLeft S L c) : o ∈ L ∧ o ∈ nextL c ∧ isCell S o = true := by
  obtain ⟨h1, h2⟩ := List.mem_filter.mp h
  obtain ⟨h3, h4⟩ := List.mem_filter.mp h1
  exact ⟨of_decide_eq_true h2, h3, h4⟩
theorem rest_perm {L : List Pt} {c o : Pt} (hn : L.Nodup) (hc : c ∈ L) (ho : o ∈ L) (ne : o ≠ c) : L.Perm (c :: o :: restL L c o) := by
  refine (List.perm_ext_iff_of_nodup hn ?_).mpr fun x => ?_
  · refine List.nodup_cons.mpr ⟨fun z => ?_, List.nodup_cons.mpr ⟨fun z => ?_, List.Nodup.sublist List.filter_sublist hn⟩⟩
    · rcases List.mem_cons.mp z with e | z
      · exact ne e.symm
      · have := (List.mem_filter.mp z).2
        simp at this
    · have := (List.mem_filter.mp z).2
      simp at this
  · unfold restL
    constructor
    · intro hx
      by_cases e1 : x = c
      · rw [e1]; exact List.mem_cons_self ..
      · by_cases e2 : x = o
        · rw [e2]; exact List.mem_cons_of_mem _ (List.mem_cons_self ..)
        · refine List.mem_cons_of_mem _ (List.mem_cons_of_mem _ (List.mem_filter.mpr ⟨hx, by simp [e1, e2]⟩))
    · intro hx
      rcases List.mem_cons.mp hx with e | hx
      · rw [e]; exact hc
      · rcases List.mem_cons.mp hx with e | hx
        · rw [e]; exact ho
        · exact (List.mem_filter.mp hx).1
/-- a couple of the row: neighbours, cells of the yard -/
def CpOk (S : List Pt) (p : Cp) : Prop := ∃ c o, p = couple c o ∧ o ∈ nextL c
structure Good (S L0 : List Pt) (e : Ent) : Prop where
  perm : (used e.2 ++ e.1).Perm L0
  cps : ∀ p ∈ e.2, CpOk S p
theorem good_kid {S L0 : List Pt} (h0 : L0.Nodup) {L : List Pt} {row : List Cp} (g : Good S L0 (L, row)) {c : Pt} (hc : c ∈ L) {e : Ent} (he : e ∈ kids S L row c) : Good S L0 e ∧ e.1.length + 2 = L.length := by
  obtain ⟨o, ho, rfl⟩ := List.mem_map.mp he
  obtain ⟨o1, o2, _⟩ := near_mem ho
  have ne := next_ne o2
  have hn : L.Nodup := ((g.perm.nodup_iff.mpr h0).sublist (List.sublist_append_right _ _))
  have pr := rest_perm hn hc o1 ne
  refine ⟨⟨?_, fun p hp => ?_⟩, ?_⟩
  · show (used (row ++ [couple c o]) ++ restL L c o).Perm L0
    have e : used (row ++ [couple c o]) = used row ++ [(couple c o).1, (couple c o).2] := by unfold used; rw [List.flatMap_append]; rfl
    rw [e, List.append_assoc]
    refine .trans (.append_left _ ?_) g.perm
    exact ((couple_cells c o).append_right _).trans pr.symm
  · rcases List.mem_append.mp hp with hp | hp
    · exact g.cps p hp
    · exact ⟨c, o, List.mem_singleton.mp hp, o2⟩
  · have := pr.length_eq
    simp only [List.length_cons] at this
    show (restL L c o).length + 2 = _
    omega
theorem used_len : ∀ row : List Cp, (used row).length = 2 * row.length
  | [] => rfl
  | p :: row => by
    have h := used_len row
    show (p.1 :: p.2 :: used row).length = _
    rw [List.length_cons, List.length_cons, h, List.length_cons]
    omega
theorem used_nd : ∀ {row : List Cp}, (used row).Nodup → row.Nodup
  | [], _ => List.nodup_nil
  | p :: row, h => by
    have h : (p.1 :: p.2 :: used row).Nodup := h
    obtain ⟨h1, h2⟩ := List.nodup_cons.mp h
    refine List.nodup_cons.mpr ⟨fun z => h1 (List.mem_cons_of_mem _ ?_), used_nd (List.nodup_cons.mp h2).2⟩
    exact List.mem_flatMap.mpr ⟨p, z, List.mem_cons_self ..⟩
theorem good_len {S L0 : List Pt} {e : Ent} (g : Good S L0 e) : 2 * e.2.length + e.1.length = L0.length := by
  have := g.perm.length_eq
  rwa [List.length_append, used_len] at this
theorem good_sub {S L0 : List Pt} {e : Ent} (g : Good S L0 e) {c : Pt} (h : c ∈ e.1) : c ∈ L0 := g.perm.mem_iff.mp (List.mem_append_right _ h)
theorem good_row {S L0 : List Pt} (h0 : L0.Nodup) {e : Ent} (g : Good S L0 e) : e.2.Nodup := used_nd ((g.perm.nodup_iff.mpr h0).sublist (List.sublist_append_left _ _))
theorem good_nd {S L0 : List Pt} (h0 : L0.Nodup) {e : Ent} (g : Good S L0 e) : e.1.Nodup := (g.perm.nodup_iff.mpr h0).sublist (List.sublist_append_right _ _)
/-! the stack stays small -/
def Low (S L0 : List Pt) (st : List Ent) : Prop := ∀ (i : Nat) e, st[i]? = some e → Good S L0 e ∧ i + 1 + 3 * (e.1.length / 2) ≤ 1 + 3 * (L0.length / 2)
theorem low_len {S L0 : List Pt} {st : List Ent} (h : Low S L0 st) : st.length ≤ 1 + 3 * (L0.length / 2) := by
  cases hl : st.length with
  | zero => omega
  | succ n =>
    have := (h n (st[n]'(by omega)) (List.getElem?_eq_getElem _)).2
    omega
theorem low_drop {S L0 : List Pt} {st : List Ent} (h : Low S L0 st) : Low S L0 st.dropLast := fun i e he => by
  rw [List.getElem?_dropLast] at he
  split at he
  · exact h i e he
  · cases he
theorem low_step {S L0 : List Pt} (h0 : L0.Nodup) {st : List Ent × List (List Cp)} (h : Low S L0 st.1) : Low S L0 (stepM S st).1 := by
  unfold stepM
  cases hl : st.1.getLast? with
  | none => exact h
  | some e =>
    dsimp only
    by_cases he : e.1 = []
    · rw [if_pos he]; exact low_drop h
    · rw [if_neg he]
      obtain ⟨c, hc, hcl, _⟩ := few_some S he
      rw [hc]
      dsimp only
      have ne : st.1 ≠ [] := fun z => by rw [z] at hl; cases hl
      have hlen : 0 < st.1.length := List.length_pos_iff.mpr ne
      have top : st.1[st.1.length - 1]? = some e := by rw [List.getLast?_eq_getElem?] at hl; exact hl
      obtain ⟨g, w⟩ := h _ e top
      intro i x hx
      by_cases hi : i < st.1.dropLast.length
      · rw [List.getElem?_append_left hi] at hx
        exact low_drop h i x hx
      · rw [List.getElem?_append_right (by omega)] at hx
        have hm := List.mem_of_getElem? hx
        obtain ⟨gk, lk⟩ := good_kid h0 g hcl hm
        refine ⟨gk, ?_⟩
        have hk := (List.getElem?_eq_some_iff.mp hx).1
        have kl : (kids S e.1 e.2 c).length ≤ 4 := by unfold kids; rw [List.length_map]; exact near_len _ _ _
        rw [List.length_dropLast] at hk hi
        omega
/-! the machine ends with all -/
def runM (S : List Pt) : Nat → List Ent × List (List Cp) → List Ent × List (List Cp)
  | 0, st => st
  | n + 1, st => stepM S (runM S n st)
theorem runM_add (S : List Pt) (a : Nat) (st : List Ent × List (List Cp)) : ∀ b, runM S (a + b) st = runM S b (runM S a st)
  | 0 => rfl
  | b + 1 => by
    show stepM S (runM S (a + b) st) = stepM S (runM S b (runM S a st))
    rw [runM_add S a st b]
theorem stM_run (S L0 : List Pt) : ∀ n, stM S L0 n = runM S n ([(L0, [])], [])
  | 0 => rfl
  | n + 1 => by
    show stepM S (stM S L0 n) = stepM S (runM S n _)
    rw [stM_run S L0 n]
theorem step_last (S : List Pt) (st : List Ent) (e : Ent) (f : List (List Cp)) : stepM S (st ++ [e], f) = if e.1 = [] then (st, f ++ [e.2]) else match (fewF S e.1 e.1).1 with
    | none => (st, f)
    | some c => (st ++ kids S e.1 e.2 c, f) := by
  unfold stepM
  simp only [List.getLast?_append, List.getLast?_singleton, Option.some_or, List.dropLast_concat]
theorem run_enum {S L0 : List Pt} (h0 : L0.Nodup) : ∀ (n : Nat) (L : List Pt) (row : List Cp), Good S L0 (L, row) → L.length ≤ n → ∀ st f, ∃ k, runM S k (st ++ [(L, row)], f) = (st, f ++ enumF S n L row)
  | 0, L, row, g, hl, st, f => by
    have e : L = [] := List.eq_nil_of_length_eq_zero (by omega)
    subst e
    refine ⟨1, ?_⟩
    show stepM S (st ++ [([], row)], f) = _
    rw [step_last]
    rfl
  | n + 1, L, row, g, hl, st, f => by
    by_cases he : L = []
    · subst he
      refine ⟨1, ?_⟩
      show stepM S (st ++ [([], row)], f) = _
      rw [step_last]
      rfl
    · obtain ⟨c, hc, hcl, _⟩ := few_some S he
      have many : ∀ (ks : List Ent), (∀ e ∈ ks, Good S L0 e ∧ e.1.length ≤ n) → ∀ f, ∃ k, runM S k (st ++ ks, f) = (st, f ++ ks.reverse.flatMap fun e => enumF S n e.1 e.2) := by
        intro ks
        generalize hr : ks.reverse = rs
        have hks : ks = rs.reverse := by rw [← hr, List.reverse_reverse]
        subst hks
        clear hr
        induction rs with
        | nil => intro _ f; exact ⟨0, by simp [runM]⟩
        | cons e rs ih =>
          intro hall f
          rw [List.reverse_cons] at hall ⊢
          obtain ⟨ge, le⟩ := hall e (List.mem_append_right _ (List.mem_singleton.mpr rfl))
          obtain ⟨k1, e1⟩ := run_enum h0 n e.1 e.2 ge le (st ++ rs.reverse) f
          obtain ⟨k2, e2⟩ := ih (fun x hx => hall x (List.mem_append_left _ hx)) (f ++ enumF S n e.1 e.2)
          refine ⟨k1 + k2, ?_⟩
          rw [runM_add, ← List.append_assoc]
          have e1' : runM S k1 (st ++ rs.reverse ++ [e], f) = (st ++ rs.reverse, f ++ enumF S n e.1 e.2) := e1
          rw [e1', e2, List.flatMap_cons, List.append_assoc]
      obtain ⟨k, hk⟩ := many (kids S L row c) (fun e he => by
        obtain ⟨g1, g2⟩ := good_kid h0 g hcl he
        exact ⟨g1, by omega⟩) f
      refine ⟨1 + k, ?_⟩
      rw [runM_add]
      have one : runM S 1 (st ++ [(L, row)], f) = (st ++ kids S L row c, f) := by
        show stepM S (st ++ [(L, row)], f) = _
        rw [step_last, if_neg he]
        dsimp only
        rw [hc]
      rw [one, hk]
      have e : enumF S (n + 1) L row = (kids S L row c).reverse.flatMap fun e => enumF S n e.1 e.2 := by
        show (if L = [] then [row] else _) = _
        rw [if_neg he, hc]
      rw [e]
theorem found_grows (S : List Pt) (st : List Ent × List (List Cp)) : st.2.length ≤ (stepM S st).2.length := by
  unfold stepM
  split
  · exact Nat.le_refl _
  · split
    · simp
    · split <;> exact Nat.le_refl _
theorem run_grows (S : List Pt) (st : List Ent × List (List Cp)) : ∀ k, st.2.length ≤ (runM S k st).2.length
  | 0 => Nat.le_refl _
  | k + 1 => Nat.le_trans (run_grows S st k) (found_grows S _)
theorem run_stays (S : List Pt) {st : List Ent × List (List Cp)} (h : st.1 = []) : ∀ k, runM S k st = st
  | 0 => rfl
  | k + 1 => by
    show stepM S (runM S k st) = st
    rw [run_stays S h k]
    unfold stepM
    rw [h]
    rfl
theorem machine (S : List Pt) {L0 : List Pt} (h0 : L0.Nodup) : ∃ n, (∀ j, j < n → (stM S L0 j).1 ≠ []) ∧ (stM S L0 n).1 = [] ∧ (stM S L0 n).2 = enumF S L0.length L0 [] ∧ (∀ j, Low S L0 (stM S L0 j).1) ∧ ∀ j, j ≤ n → (stM S L0 j).2.length ≤ (enumF S L0.length L0 []).length := by
  have g0 : Good S L0 (L0, []) := ⟨.refl _, fun p hp => nomatch hp⟩
  obtain ⟨k, hk⟩ := run_enum h0 L0.length L0 [] g0 (Nat.le_refl _) [] []
  have hk' : runM S k ([(L0, [])], []) = ([], enumF S L0.length L0 []) := hk
  obtain ⟨n, h1, h2, h3⟩ := L2.st_least (p := fun n => (stM S L0 n).1 = []) k (by show (stM S L0 k).1 = []; rw [stM_run, hk'])
  have fin : stM S L0 n = stM S L0 k := by
    obtain ⟨d, rfl⟩ : ∃ d, k = n + d := ⟨k - n, by omega⟩
    have h2' : (runM S n ([(L0, [])], [])).1 = [] := by rw [← stM_run]; exact h2
    rw [stM_run, stM_run, runM_add, run_stays S h2']
  have low : ∀ j, Low S L0 (stM S L0 j).1 := by
    intro j
    induction j with
    | zero =>
      intro i e he
      have z : ([(L0, [])] : List Ent)[i]? = some e := he
      cases i with
      | zero => cases z; exact ⟨g0, by show 0 + 1 + 3 * (L0.length / 2) ≤ _; omega⟩
      | succ i => simp at z
    | succ j ih => exact low_step h0 ih
  refine ⟨n, fun j hj => h3 j hj, h2, by rw [fin, stM_run, hk'], low, fun j hj => ?_⟩
  have e : (stM S L0 n).2 = enumF S L0.length L0 [] := by rw [fin, stM_run, hk']
  rw [← e]
  obtain ⟨d, rfl⟩ : ∃ d, n = j + d := ⟨n - j, by omega⟩
  rw [stM_run, stM_run, runM_add]
  exact run_grows S _ d
theorem enum_good {S L0 : List Pt} (h0 : L0.Nodup) : ∀ (n : Nat) (L : List Pt) (row : List Cp), Good S L0 (L, row) → L.length ≤ n → ∀ r ∈ enumF S n L row, Good S L0 ([], r)
  | 0, L, row, g, hl, r, hr => by
    have e : L = [] := List.eq_nil_of_length_eq_zero (by omega)
    subst e
    have hr : r ∈ [row] := hr
    rw [List.mem_singleton.mp hr]
    exact g
  | n + 1, L, row, g, hl, r, hr => by
    by_cases he : L = []
    · subst he
      have hr : r ∈ [row] := hr
      rw [List.mem_singleton.mp hr]
      exact g
    · obtain ⟨c, hc, hcl, _⟩ := few_some S he
      have e : enumF S (n + 1) L row = (kids S L row c).reverse.flatMap fun e => enumF S n e.1 e.2 := by
        show (if L = [] then [row] else _) = _
        rw [if_neg he, hc]
      rw [e] at hr
      obtain ⟨k, hk, hr⟩ := List.mem_flatMap.mp hr
      obtain ⟨g1, g2⟩ := good_kid h0 g hcl (List.mem_reverse.mp hk)
      exact enum_good h0 n k.1 k.2 g1 (by omega) r hr
end Hf

/-! ## HfR -/
set_option Elab.async false
set_option linter.all false
set_option maxRecDepth 100000
set_option maxHeartbeats 1000000
/-! Rows of floors_in: lists of (dict, tuple); == with an empty dict, != with an empty list. -/
namespace Hf
open L2 PySem PySem.Spec PyProof.Rows
open PySem.W (Datum DatumOrd Tup EachIs AllAlike Sortable dataLe dataLt)
theorem same_empty {prog : Program} {w : World} {A : Around} {E : Value → Shared → Prop} {s : Shared} {nm : String} {a b : Addr} {oa ob : Obj} {es : Array DictEntry} {ep ep' : Nat} {Q : Bool → Shared → Prop} (ha : (a == sysModules) = false) (hb : (b == sysModules) = false)
    (h1 : s.heap.get? a = some oa) (d1 : oa.data = .dict es ep) (h2 : s.heap.get? b = some ob) (d2 : ob.data = .dict #[] ep') (q : Q (decide (es.size = 0)) s) : wpAny (model prog w) A (Builtin.Dict.samePairs nm a b) Q E s := by
  unfold Builtin.Dict.samePairs Builtin.Dict.showsAll
  rw [if_neg (show ¬ (a == sysModules) = true by rw [ha]; exact Bool.false_ne_true), if_neg (show ¬ (b == sysModules) = true by rw [hb]; exact Bool.false_ne_true)]
  refine wpAny_bind (wpAny_pure (wpAny_bind (wpAny_pure ?_)))
  refine wpAny_bind (wpAny_dictEntries h1 d1 ?_)
  dsimp only
  refine wpAny_bind (wpAny_dictEntries h2 d2 ?_)
  by_cases c : es.size = 0
  · rw [decide_eq_true c] at q
    rw [if_neg (by rw [c]; simp)]
    refine wpAny_bind (wpAny_dictEpoch h1 d1 ?_)
    refine wpAny_bind ?_
    rw [Std.Legacy.Range.forIn_eq_forIn_range']
    simp only [Std.Legacy.Range.size, Nat.sub_zero, Nat.add_sub_cancel, Nat.div_one, c, List.range'_zero]
    exact wpAny_pure (wpAny_pure q)
  · rw [decide_eq_false c] at q
    rw [if_pos (by simpa using c)]
    exact wpAny_bind (wpAny_rule (wpAny_pure q))
section
variable {X : Cx} {ρ ρ1 ρ2 ρ' : List SV} {L : List (Addr × OT)} {e : Expr} {pos : Pos} {a : Addr} {kds : List (Pt × PyData)}
def rEqE : R2 := fun v u H Q => ∃ a b kvs, v = .ref a ∧ u = .ref b ∧ Rd H a (.dT kvs) ∧ H b = some (.dT []) ∧ Q (.bl (decide (kvs.length = 0))) H
theorem op_eqE (hu : X.A.units < cLine) : OpR X (compareOp .Eq) rEqE := by
  intro pins s σ H x y v u Q I rx ry ⟨a, b, kvs, e1, e2, ha, hb, q⟩
  subst e1 e2
  cases (show v = Value.ref a from rx)
  cases (show u = Value.ref b from ry)
  obtain ⟨za, ya, xs, ra, da⟩ := dt_rd I.hok ha
  obtain ⟨zb, yb, ys, rb, db⟩ := dt_of I.hok hb
  cases rb
  have tA := da.typeIs
  have tB := db.typeIs
  obtain ⟨oa, es, ep, h1, _, d1, k1, _, _⟩ := da
  obtain ⟨ob, es', ep', h2, _, d2, k2, _, _⟩ := db
  have e0 : es' = #[] := by
    have z := size_of_entries k2
    exact Array.eq_empty_of_size_eq_zero z
  subst e0
  have sz : es.size = kvs.length := by rw [size_of_entries k1]; exact (Paired.length ra).symm
  refine wpAny_richCompare_same_room (op := .Eq) tA tB PySem.F.slot_dict_eq (wpAny_call_entry PySem.F.slot_dict_eq tA PySem.F.entry_dict_eq ?_ (PySem.F.args_dict_eq_2 _ _)) hu
  show wpAny _ _ (Builtin.Dict.dictSlotArgs "__eq__" ⟨[.ref a, .ref b], []⟩ >>= _) _ _ s
  refine wpAny_bind ?_
  unfold Builtin.Dict.dictSlotArgs
  refine wpAny_bind (wpAny_notOrdered_dict tA ?_)
  show wpAny _ _ (pure (Value.ref a, Value.ref b)) _ _ s
  refine wpAny_pure ?_
  refine wpAny_bind (wpAny_isInstance (T := "dict") tB PySem.F.sub_dict_dict ?_)
  simp only [Bool.not_true, Bool.false_eq_true, if_false]
  refine wpAny_bind (wpAny_pure (wpAny_bind (wpAny_pure ?_)))
  refine wpAny_bind (same_empty ya yb h1 d1 h2 d2 ?_)
  refine wpAny_pure ⟨_, rfl, fun x => (nomatch x), ?_⟩
  rw [sz]
  have fin : EP X pins σ Q (.bool (decide (kvs.length = 0))) s := ⟨.bl _, H, I, rfl, q⟩
  simpa using fin
/-- name == {}, the name's slot a dict -/
theorem pdt_eqE (i : Nat) {x : Str} {p p2 : Pos} (hu : X.A.units < cLine) (hd : ρ[i]? = some (.dic kds) := by rfl) (hN : X.N[i]? = some x := by rfl) (hv : Vis X.env.scope x := by first | exact Or.inl rfl | exact Or.inr (Or.inl rfl) | exact Or.inr (Or.inr rfl)) (hb1 : (x == ("__debug__" : Str)) = false := by decide) (hb2 : (x == ("__classdict__" : Str)) = false := by decide) :
    PDT X ρ (.Compare (.Name x p) [.Eq] [.Dict [] [] p2] pos) (decide (kds.length = 0)) :=
  pt_imp (pt_cmpR (op_eqE hu) (pe_var hN hv hb1 hb2) pe_dnewT (nomark _)) fun σ H Q ⟨H0, s, ev, q⟩ => by
    obtain ⟨_, e1, a, kvs, rfl, rd, r⟩ := ev.get hd
    have hl : kvs.length = kds.length := Paired.length r
    refine ⟨.ref a, e1, fun b hb => ⟨a, b, kvs, rfl, rfl, ?_, upd_same, _, rfl, ?_⟩⟩
    · exact (same_rd s rd).imp (fun z => by rw [upd_ne (ne_of_none z hb)]; exact z) fun ⟨o, z⟩ => ⟨o, by rw [upd_ne (ne_of_none z hb)]; exact z⟩
    · rw [hl]
      exact q H0 _ (.more s hb _)
def rNeE : R2 := fun v u H Q => ∃ a b xs, v = .ref a ∧ u = .ref b ∧ a ≠ b ∧ H a = some (.lst xs) ∧ H b = some (.lst []) ∧ Q (.bl (decide (xs ≠ []))) H
theorem op_neE (hu : X.A.units + 1 < cLine) : OpR X (compareOp .NotEq) rNeE := by
  intro pins s σ H x y v u Q I rx ry ⟨a, b, xs, e1, e2, ne, ha, hb, q⟩
  subst e1 e2
  cases (show v = Value.ref a from rx)
  cases (show u = Value.ref b from ry)
  obtain ⟨its, n, rv, ho, hz⟩ := I.lst ha
  obtain ⟨its', n', rv', ho', hz'⟩ := I.lst hb
  cases rv'
  have l1 : s.heap.IsList a its.toArray := ⟨_, ho, rfl, n, rfl⟩
  have l2 : s.heap.IsList b ([] : List Value).toArray := ⟨_, ho', rfl, n', rfl⟩
  by_cases c : xs = []
  · subst c
    cases rv
    refine SeqAt.RcNeAt.lists l1 l2 rfl (by omega) (e := fun _ => true) (fun j h1 h2 => absurd h1 (Nat.not_lt_zero _)) _ _ _ _ ?_
    exact ⟨.bl false, H, I, rfl, by simpa using q⟩
  · have hl : its.length ≠ 0 := by
      rw [← rv.length]
      exact fun z => c (List.eq_nil_of_length_eq_zero z)
    refine SeqAt.RcNeAt.lists_lengths l1 l2 (by simpa using hl) (by omega) _ _ _ _ ?_
    exact ⟨.bl true, H, I, rfl, by simpa [c] using q⟩
/-! ### rows -/
def RowAt (H : Hp) (t : Addr) (e : Ent) : Prop := ∃ l v kvs, H t = some (.tup [.ref l, v]) ∧ Rd H l (.dT kvs) ∧ KDq H kvs (knownS e.1) ∧ Dq H v (D (Tup.mk e.2))
theorem RowAt.at {H H' : Hp} (s : Same H H') {t : Addr} {e : Ent} : RowAt H t e → RowAt H' t e := fun ⟨l, v, kvs, h1, h2, h3, h4⟩ => ⟨l, v, kvs, s _ _ h1, same_rd s h2, h3.at s, h4.at s⟩
inductive RowsA (H : Hp) : List V → List Ent → Prop
  | nil : RowsA H [] []
  | cons {t : Addr} {e : Ent} {xs : List V} {rs : List Ent} : RowAt H t e → RowsA H xs rs → RowsA H (.ref t :: xs) (e :: rs)
theorem RowsA.at {H H' : Hp} (s : Same H H') : ∀ {xs : List V} {rs : List Ent}, RowsA H xs rs → RowsA H' xs rs
  | _, _, .nil => .nil
  | _, _, .cons h r => .cons (h.at s) (RowsA.at s r)
theorem RowsA.len {H : Hp} : ∀ {xs : List V} {rs : List Ent}, RowsA H xs rs → xs.length = rs.length
  | _, _, .nil => rfl
  | _, _, .cons h r => by rw [List.length_cons, List.length_cons, RowsA.len r]
theorem RowsA.snoc {H : Hp} {t : Addr} {e : Ent} (h : RowAt H t e) : ∀ {xs : List V} {rs : List Ent}, RowsA H xs rs → RowsA H (xs ++ [.ref t]) (rs ++ [e])
  | _, _, .nil => .cons h .nil
  | _, _, .cons g r => .cons g (RowsA.snoc h r)
theorem RowsA.last {H : Hp} {e : Ent} : ∀ {xs : List V} {rs : List Ent}, RowsA H xs (rs ++ [e]) → ∃ ys t, xs = ys ++ [.ref t] ∧ RowsA H ys rs ∧ RowAt H t e
  | _, [], h => by
    cases h with
    | cons h r => cases r; exact ⟨[], _, rfl, .nil, h⟩
  | _, x :: rs, h => by
    cases h with
    | cons h r =>
      obtain ⟨ys, t, e1, e2, e3⟩ := RowsA.last r
      exact ⟨_ :: ys, t, by rw [e1]; rfl, .cons h e2, e3⟩
def oRows (rs : List Ent) : OT := ⟨fun H o => ∃ xs, o = .lst xs ∧ RowsA H xs rs, fun H H' o s ⟨xs, e, r⟩ => ⟨xs, e, r.at s⟩, fun H o ⟨xs, e, _⟩ => by rw [e]; trivial⟩
/-- [(a new dict, a tuple)] -/
theorem pw_rows0 {e2 : Expr} {p1 p2 : Pos} {kt : Nat} {c : Ent} (h : PNew X ρ e (oD (knownS c.1))) (h2 : PD X ρ e2 (D (Tup.mk c.2))) (hs1 : starEach [e, e2] X.env = (false, eval e X.env) :: starEach [e2] X.env := by rfl) (hs2 : starEach [e2] X.env = (false, eval e2 X.env) :: starEach [] X.env := by rfl)
    (hs3 : starEach [.Tuple [e, e2] kt p1] X.env = (false, eval (.Tuple [e, e2] kt p1) X.env) :: starEach [] X.env := by rfl) : PNew X ρ (.List [.Tuple [e, e2] kt p1] p2) (oRows [c]) :=
  pe_imp (pe_lst (pa_cons (pe_tup (pa_cons h (pa_cons h2 pa_nil hs2) hs1)) pa_nil hs3)) fun σ H Q ⟨H0, s, ev, q⟩ => ⟨H0, s, ev, fun l o H1 H' x h1 h2 h3 ⟨kvs, eo, r⟩ => by
    subst eo
    have x1 := x.keep h1 h2 h3
    refine ⟨upd H1 l (.dT kvs), x1.sub, ev.at x1.s0, fun v H2 H'' y dv => ⟨by show 2 ≤ sizeLine; rw [sizeLine_eq]; omega, fun t ht => ⟨by show 1 ≤ sizeLine; rw [sizeLine_eq]; omega, fun p hp => ?_⟩⟩⟩
    have x2 := (x1.trans y).trans (.new y.sub ht (.tup [.ref l, v]))
    have st := same_new (y.sub.free ht) (.tup [.ref l, v])
    have sl := same_new h2 (.dT kvs)
    refine q p _ (upd H2 t (.tup [.ref l, v])) _ (x2.trans (.more x2.sub hp _)) (x2.s.free hp) (x2.sub.free hp) upd_same ⟨_, rfl, .cons ⟨l, v, kvs, upd_same, .inl (st _ _ (y.s0 _ _ upd_same)), (r.at (sl.trans (y.s0.trans st))), dv.at st⟩ .nil⟩⟩
/-- name != [], rows of one's own -/
theorem pt_rowsNe (k i : Nat) {rs : List Ent} {x : Str} {p p2 : Pos} (hu : X.A.units + 1 < cLine) (hL : L[k]? = some (a, oRows rs) := by rfl) (hi : ρ[i]? = some (.val (.ref a)) := by rfl) (hN : X.N[i]? = some x := by rfl)
    (hvis : Vis X.env.scope x := by first | exact Or.inl rfl | exact Or.inr (Or.inl rfl) | exact Or.inr (Or.inr rfl)) (hb1 : (x == ("__debug__" : Str)) = false := by decide) (hb2 : (x == ("__classdict__" : Str)) = false := by decide) :
    PT X (.Compare (.Name x p) [.NotEq] [.List [] p2] pos) (tPT ρ L (decide (rs ≠ []))) :=
  pt_imp (pt_cmpR (op_neE hu) (pv_at i hi hN hvis hb1 hb2) (pe_lst pa_nil) (nomark _)) fun σ H Q ⟨B, H0, s, ev, m, q⟩ => ⟨H0, ev, by show 0 ≤ sizeLine; omega, fun b hb => by
    obtain ⟨b1, b2, o, b3, xs, eo, r⟩ := own_at m hL
    subst eo
    have ne : a ≠ b := fun z => by rw [← z, b3] at hb; cases hb
    refine ⟨a, b, xs, rfl, rfl, ne, by rw [upd_ne ne]; exact b3, upd_same, _, rfl, ?_⟩
    have e : decide (xs ≠ []) = decide (rs ≠ []) := by
      have hl := r.len
      apply decide_eq_decide.mpr
      rw [← List.length_pos_iff, ← List.length_pos_iff, hl]
    rw [e]
    exact q _ (.more s hb _)⟩
/-- x, y = rows.pop() -/
theorem pn_pop (k i i1 i2 : Nat) {rs : List Ent} {c : Ent} {n x y : Str} {pn ap cp px py pt : Pos} {kt : Nat} (hNd : X.N.Nodup) (hL : L[k]? = some (a, oRows (rs ++ [c]))) (hi : ρ[i]? = some (.val (.ref a)) := by rfl) (hN : X.N[i]? = some n := by rfl) (hc : X.calm = true := by rfl)
    (hi1 : X.N[i1]? = some x := by rfl) (hi2 : X.N[i2]? = some y := by rfl) (hx : Loc X.env.scope x := by first | exact Or.inl rfl | exact Or.inr rfl) (hy : Loc X.env.scope y := by first | exact Or.inl rfl | exact Or.inr rfl)
    (hf : X.fn x = true ∨ X.env.scope.names.lookup x = some .local := by first | exact .inl rfl | exact .inr rfl) (hf2 : X.fn y = true ∨ X.env.scope.names.lookup y = some .local := by first | exact .inl rfl | exact .inr rfl)
    (hvis : Vis X.env.scope n := by first | exact Or.inl rfl | exact Or.inr (Or.inl rfl) | exact Or.inr (Or.inr rfl)) (hb1 : (n == ("__debug__" : Str)) = false := by decide) (hb2 : (n == ("__classdict__" : Str)) = false := by decide)
    (hbase : attributeBase (.Name n pn) "pop" X.env (eval (.Name n pn) X.env) = eval (.Name n pn) X.env := by rfl) (hline : (ap.endLine == cp.line) = true := by rfl)
    (hn : (assignEach [.Name x px, .Name y py] X.env).length = 2 := by rfl) (hst : (assignEach [.Name x px, .Name y py] X.env).findIdx? (·.1) = none := by rfl)
    (hs1 : (assignEach [.Name x px, .Name y py] X.env).map (·.2) = assign (.Name x px) X.env :: (assignEach [.Name y py] X.env).map (·.2) := by rfl) (hs2 : (assignEach [.Name y py] X.env).map (·.2) = assign (.Name y py) X.env :: (assignEach [] X.env).map (·.2) := by rfl)
    (hs : swapsWithSole [.Tuple [.Name x px, .Name y py] kt pt] (.Call (.Attribute (.Name n pn) "pop" ap) [] [] cp) pos.line X.env = pure false := by rfl) (hw : swappedStores [.Tuple [.Name x px, .Name y py] kt pt] (.Call (.Attribute (.Name n pn) "pop" ap) [] [] cp) X.env = pure none := by rfl)
    (h1 : (assignEach [.Tuple [.Name x px, .Name y py] kt pt] X.env).map (·.2) = [assign (.Tuple [.Name x px, .Name y py] kt pt) X.env] := by rfl) :
    PN X ρ ((ρ.set i1 (.dic (knownS c.1))).set i2 (.dat (D (Tup.mk c.2)))) (own L) (own (L.set k (a, oRows rs))) (.Assign [.Tuple [.Name x px, .Name y py] kt pt] (.Call (.Attribute (.Name n pn) "pop" ap) [] [] cp) pos) :=
  ps_imp (ps_asg (pe_bm0 PySem.F.plainAttrs_list PySem.F.slot_list_pop PySem.F.type_list_pop mt_pop (pv_at i hi hN hvis hb1 hb2) hbase hline) (pg_tup hc (pgs_cons (pg_name hNd hi1 hx hf) (pgs_cons (pg_name hNd hi2 hy hf2) pgs_nil hs2) hs1) hn hst) hs hw h1) fun De σ H ⟨B0, B, H0, x, ev, m, q⟩ => by
    obtain ⟨b1, b2, o, b3, xs, eo, r⟩ := own_at m hL
    subst eo
    obtain ⟨ys, t, e1, r1, l, v, kvs, r2, r3, r4, r5⟩ := r.last
    subst e1
    have b3' := b3
    refine ⟨H0, ev, .inl ⟨rfl, _, SqL.of b3⟩, a, ys ++ [.ref t], .ref t, rfl, rfl, b3, by simp, ?_⟩
    have ta : t ≠ a := fun z => by rw [z, b2] at r2; cases r2
    refine ⟨t, _, rfl, SqT.of (by rw [upd_ne ta]; exact x.sub _ _ r2), rfl, _, _, rfl, _, _, rfl, rfl, ?_⟩
    refine q _ H0 _ (x.mut b1 b2 _) (.refl _) ((ev.set (s := .dic (knownS c.1)) ⟨l, kvs, rfl, r3, r4⟩ i1).set (s := .dat (D (Tup.mk c.2))) ⟨v, rfl, r5⟩ i2) (own_set m hL ⟨_, rfl, ?_⟩)
    rw [List.dropLast_concat]
    exact r1
/-- rows.append((x, e)) -/
theorem pn_appRow (k i j : Nat) {rs : List Ent} {c : Ent} {n x : Str} {pn px ap cp pt : Pos} {kt : Nat} (he : PD X ρ e (D (Tup.mk c.2))) (hL : L[k]? = some (a, oRows rs)) (hz : rs.length < sizeLine) (hi : ρ[i]? = some (.val (.ref a)) := by rfl) (hj : ρ[j]? = some (.dic (knownS c.1)) := by rfl) (hN : X.N[i]? = some n := by rfl) (hNj : X.N[j]? = some x := by rfl)
    (hvis : Vis X.env.scope n := by first | exact Or.inl rfl | exact Or.inr (Or.inl rfl) | exact Or.inr (Or.inr rfl)) (hb1 : (n == ("__debug__" : Str)) = false := by decide) (hb2 : (n == ("__classdict__" : Str)) = false := by decide) (hvis2 : Vis X.env.scope x := by first | exact Or.inl rfl | exact Or.inr (Or.inl rfl) | exact Or.inr (Or.inr rfl)) (hb3 : (x == ("__debug__" : Str)) = false := by decide) (hb4 : (x == ("__classdict__" : Str)) = false := by decide)
    (hbase : attributeBase (.Name n pn) "append" X.env (eval (.Name n pn) X.env) = eval (.Name n pn) X.env := by rfl)
    (hfew : ((backTo cp (starEach [.Tuple [.Name x px, e] kt pt] X.env)).all (fun x => !x.1) && (backToKw cp (keywordEach [] X.env)).all (fun x => x.1.isSome)
      && decide (([.Tuple [.Name x px, e] kt pt] : List Expr).length + ([] : List Keyword).length + (if ([] : List Keyword).isEmpty then 0 else 1) < 30)) = true := by rfl)
    (hline : (ap.endLine == cp.line) = true := by rfl) (hs : starEach [.Tuple [.Name x px, e] kt pt] X.env = (false, eval (.Tuple [.Name x px, e] kt pt) X.env) :: starEach [] X.env := by rfl) (hpl : (backTo cp (starEach [] X.env)).any (·.1) = false := by rfl)
    (hs1 : starEach [.Name x px, e] X.env = (false, eval (.Name x px) X.env) :: starEach [e] X.env := by rfl) (hs2 : starEach [e] X.env = (false, eval e X.env) :: starEach [] X.env := by rfl)
    (hsw : swapsWith (.Call (.Attribute (.Name n pn) "append" ap) [.Tuple [.Name x px, e] kt pt] [] cp) none pos.line X.env = pure false := by rfl) :
    PN X ρ ρ (own L) (own (L.set k (a, oRows (rs ++ [c])))) (.Expr (.Call (.Attribute (.Name n pn) "append" ap) [.Tuple [.Name x px, e] kt pt] [] cp) pos) :=
  ps_imp (ps_expr (pe_bm PySem.F.plainAttrs_list PySem.F.slot_list_append PySem.F.type_list_append mt_append (pv_at i hi hN hvis hb1 hb2) (pa_cons (pe_tup (pa_cons (pe_var hNj hvis2 hb3 hb4) (pa_cons he pa_nil hs2) hs1)) pa_nil hs) hbase hfew hline hs hpl) hsw) fun De σ H ⟨B0, B, H0, x, ev, m, q⟩ => by
    obtain ⟨_, _, o0, h0, xs0, eo0, _⟩ := own_at m hL
    subst eo0
    obtain ⟨_, ej, l, kvs, rfl, rd, kd⟩ := ev.get hj
    refine ⟨H0, ev, .inl ⟨rfl, _, SqL.of h0⟩, .ref l, ej, H0, x.sub, ev, fun v H1 H' y dv => ⟨by show 2 ≤ sizeLine; rw [sizeLine_eq]; omega, fun t ht => ?_⟩⟩
    have m1 := (own L).st _ _ _ _ _ y m
    have y2 : Ext H1 H' (upd H1 t (.tup [.ref l, v])) (upd H' t (.tup [.ref l, v])) := .new y.sub ht _
    have m2 := (own L).st _ _ _ _ _ y2 m1
    obtain ⟨b1, b2, o, b3, xs, eo, r⟩ := own_at m2 hL
    subst eo
    have st := same_new (y.sub.free ht) (.tup [.ref l, v])
    refine ⟨a, xs, .ref t, rfl, rfl, b3, by rw [r.len]; exact hz, q σ _ _ (((x.trans y).trans y2).mut b1 b2 _) (y.s0.trans st) (ev.at (y.s0.trans st)) (own_set m2 hL ⟨_, rfl, r.snoc ⟨l, v, kvs, upd_same, same_rd (y.s0.trans st) rd, kd.at (y.s0.trans st), dv.at st⟩⟩)⟩
end
/-! ### a while whose body may continue -/
def tNC (ρ ρ' : List SV) (M M' : Own) : TS := fun D σ H => ∃ B0 B H0, Ext B0 B H0 H ∧ EnvD H0 ρ σ ∧ M.p B H0 H ∧ ∀ σ' H0' H', Ext B0 B H0' H' → Same H0 H0' → EnvD H0' ρ' σ' → M'.p B H0' H' → D.nx σ' H' ∧ D.ct σ' H'
def tCt (ρ ρ' : List SV) (M M' : Own) : TS := fun D σ H => ∃ B0 B H0, Ext B0 B H0 H ∧ EnvD H0 ρ σ ∧ M.p B H0 H ∧ ∀ σ' H0' H', Ext B0 B H0' H' → Same H0 H0' → EnvD H0' ρ' σ' → M'.p B H0' H' → D.ct σ' H'
section
variable {X : Cx} {ρ ρ1 ρ2 ρ' : List SV} {M M1 M2 : Own} {L : List (Addr × OT)} {st : Stmt} {sts body rest : List Stmt} {c : Expr} {pos : Pos}
theorem pnc_of (h : PNs X ρ ρ1 M M1 sts) : PSs X sts (tNC ρ ρ1 M M1) := pss_imp h fun D σ H ⟨B0, B, H0, x, ev, m, q⟩ => ⟨B0, B, H0, x, ev, m, fun σ' H0' H' a b d e => (q σ' H0' H' a b d e).1⟩
theorem pnc_cons (h : PN X ρ ρ1 M M1 st) (r : PSs X sts (tNC ρ1 ρ2 M1 M2)) : PSs X (st :: sts) (tNC ρ ρ2 M M2) := pss_imp (pss_cons h r) fun D σ H ⟨B0, B, H0, x, ev, m, q⟩ => ⟨B0, B, H0, x, ev, m, fun σ' H0' H' x' s' ev' m' => ⟨B0, B, H0', x', ev', m', fun σ2 H02 H2 x2 s2 ev2 m2 => q σ2 H02 H2 x2 (s'.trans s2) ev2 m2⟩⟩
theorem pct_cons (h : PN X ρ ρ1 M M1 st) (r : PSs X sts (tCt ρ1 ρ2 M1 M2)) : PSs X (st :: sts) (tCt ρ ρ2 M M2) := pss_imp (pss_cons h r) fun D σ H ⟨B0, B, H0, x, ev, m, q⟩ => ⟨B0, B, H0, x, ev, m, fun σ' H0' H' x' s' ev' m' => ⟨B0, B, H0', x', ev', m', fun σ2 H02 H2 x2 s2 ev2 m2 => q σ2 H02 H2 x2 (s'.trans s2) ev2 m2⟩⟩
theorem pct_end (l : leS ρ ρ1) : PSs X [.Continue pos] (tCt ρ ρ1 M M) := pss_imp (pss_one ps_continue) fun D σ H ⟨B0, B, H0, x, ev, m, q⟩ => q σ H0 H x (.refl _) (l.env ev) m
theorem pnc_if {b : Bool} (hc : PDT X ρ c b) (ht : b = true → PSs X body (tCt ρ ρ1 M M1)) (hf : b = false → PSs X rest (tNC ρ ρ1 M M1)) : PSs X (.If c body [] pos :: rest) (tNC ρ ρ1 M M1) := by
  cases b with
  | true => exact pss_imp (pss_cons (ps_if hc (ht rfl) pss_nil) pss_never) fun D σ H ⟨B0, B, H0, x, ev, m, q⟩ => ⟨H0, x.sub, ev, fun H1 H' y => iteT ⟨B0, B, H1, x.trans y, ev.at y.s0, M.st _ _ _ _ _ y m, fun σ2 H02 H2 x2 s2 ev2 m2 => (q σ2 H02 H2 x2 (y.s0.trans s2) ev2 m2).2⟩⟩
  | false => exact pss_imp (pss_cons (ps_if hc pss_never pss_nil) (hf rfl)) fun D σ H ⟨B0, B, H0, x, ev, m, q⟩ => ⟨H0, x.sub, ev, fun H1 H' y => iteF ⟨B0, B, H1, x.trans y, ev.at y.s0, M.st _ _ _ _ _ y m, fun σ2 H02 H2 x2 s2 ev2 m2 => q σ2 H02 H2 x2 (y.s0.trans s2) ev2 m2⟩⟩
theorem pn_whileO (n : Nat) (ρ : List SV) (Ls : Nat → List (Addr × OT)) (hp : PassesOwn (model X.prog X.w) X.A X.env X.xe) (hc : ∀ j, j ≤ n → PT X c (tPT ρ (Ls j) (decide (j < n)))) (hb : ∀ j, j < n → PSs X body (tNC ρ ρ (own (Ls j)) (own (Ls (j + 1))))) : PN X ρ ρ (own (Ls 0)) (own (Ls n)) (.While c body [] pos) := by
  refine ps_imp (ps_while (tc := fun σ H Q => ∃ j, j ≤ n ∧ tPT ρ (Ls j) (decide (j < n)) σ H Q) (tb := anyS n fun j => tNC ρ ρ (own (Ls j)) (own (Ls (j + 1)))) hp ⟨fun pins s σ H Q I ⟨j, hj, q⟩ => (hc j hj).run pins s σ H Q I q⟩ (pss_any hb)) fun D σ H ⟨B0, B, H0, x, ev, m, q⟩ => ?_
  refine ⟨fun k σ' H' => ∃ i H0', k = n - i ∧ i ≤ n ∧ Ext B0 B H0' H' ∧ Same H0 H0' ∧ EnvD H0' ρ σ' ∧ (own (Ls i)).p B H0' H', ⟨n, 0, H0, by omega, Nat.zero_le _, x, .refl _, ev, m⟩, ?_⟩
  rintro k σ' H' ⟨i, H0', rfl, hin, x', s', ev', m'⟩
  refine ⟨i, hin, B, H0', x'.sub, ev', m', fun H2 y => ?_⟩
  by_cases h : i < n
  · rw [decide_eq_true h]
    refine iteT ⟨fun σ'' H'' => ∃ H0'', Ext B0 B H0'' H'' ∧ Same H0 H0'' ∧ EnvD H0'' ρ σ'' ∧ (own (Ls (i + 1))).p B H0'' H'', fun σ'' H'' ⟨H0'', z1, z2, z3, z4⟩ => ⟨n - (i + 1), by omega, i + 1, H0'', rfl, h, z1, z2, z3, z4⟩, ?_⟩
    exact ⟨i, h, B0, B, H0', x'.trans y, ev', (own (Ls i)).st _ _ _ _ _ y m', fun σ3 H03 H3 x3 s3 ev3 m3 => ⟨⟨H03, x3, s'.trans s3, ev3, m3⟩, ⟨H03, x3, s'.trans s3, ev3, m3⟩⟩⟩
  · have e : i = n := by omega
    subst e
    rw [decide_eq_false h]
    refine iteF ?_
    exact q σ' H0' H2 (x'.trans y) s' ev' ((own (Ls i)).st _ _ _ _ _ y m')
end
end Hf

/-! ## HfP11 -/
set_option Elab.async false
set_option linter.all false
set_option maxRecDepth 100000
set_option maxHeartbeats 1000000
/-! Defs of the program, 11: floors_in. -/
namespace Hf
open L2 PySem PySem.Spec PyProof.Rows
open PySem.W (Datum DatumOrd Tup EachIs AllAlike Sortable dataLe)
def gapL (S : List Pt) (h : Pt) : List Pt := (cellsL S).filter fun c => decide (c ≠ h)
def rowsAll (S : List Pt) (h : Pt) : List (List Cp) := enumF S (gapL S h).length (gapL S h) []
def setF (r : List Cp) : Fl := Tup.mk (r.mergeSort leT)
def floorsM (S : List Pt) (h : Pt) : List Fl := ((rowsAll S h).map setF).mergeSort leT
structure FlOk (S : List Pt) (h : Pt) : Prop where
  nd : S.Nodup
  len : S.length ≤ 20
  told : toldOk S h = true
  few : manyM S h ≤ 2000
  cnd : (cellsL S).Nodup
  clen : (cellsL S).length ≤ 60
  ne : gapL S h ≠ []
  all : (rowsAll S h).length ≤ 1000000
section
variable {X : Cx} {ρ : List SV} {tg : Expr} {x : Str} {p : Pos}
theorem pdi_eq {e : Expr} {n n' : Nat} {dat dat' : Nat → PyData} (h : PDI X ρ tg e n dat) (hn : n = n') (hd : ∀ j, dat j = dat' j) : PDI X ρ tg e n' dat' := by
  have z := funext hd
  subst hn z
  exact h
theorem pdi_keysL (i : Nat) {xs : List Pt} {f : Pt → PyData} (hd : ρ[i]? = some (.fzd (xs.map fun c => (c, f c))) := by rfl) (hN : X.N[i]? = some x := by rfl) (hv : Vis X.env.scope x := by first | exact Or.inl rfl | exact Or.inr (Or.inl rfl) | exact Or.inr (Or.inr rfl))
    (hb1 : (x == ("__debug__" : Str)) = false := by decide) (hb2 : (x == ("__classdict__" : Str)) = false := by decide) : PDI X ρ tg (.Name x p) (xs.map D).length (fun j => (xs.map D).getD j .none) := by
  refine pdi_eq (pdi_keys (tg := tg) (p := p) i hd hN hv hb1 hb2) (by rw [List.length_map, List.length_map]) fun j => ?_
  rw [List.getD_eq_getElem?_getD, List.getElem?_map, List.getElem?_map]
  cases xs[j]? <;> rfl
end
section
variable {P : Program} {w : World} {K : PySem.W.Frag} {mg : Str → Option Value} {base : Heap}
abbrev n44 : List Str := ["yard", "hole", "beside", "rows", "found", "left", "row", "cell", "other", "later", "own"]
theorem sc44 : FnScope n44 ["yard", "hole"] (defScope (top 44)) := ⟨rfl, rfl, rfl, by decide +kernel, rfl, by decide +kernel, by decide +kernel⟩
theorem bk44a : BlkOk n44 (defScope (top 44)) (match defBody (top 44) with | [_, .Assign _ (.Call _ [.ListComp _ _ sc _] _ _) _, _, _, _] => sc | _ => defScope (top 7)) [("cell", 7)] :=
  ⟨by decide +kernel, by decide +kernel, by decide +kernel, by decide +kernel, by decide +kernel⟩
theorem bk44b : BlkOk n44 (defScope (top 44)) (match defBody (top 44) with | [_, _, .Assign _ (.Tuple [.List [.Tuple [.Call _ [.ListComp _ _ sc _] _ _, _] _ _] _, _] _ _) _, _, _] => sc | _ => defScope (top 7)) [("cell", 7)] :=
  ⟨by decide +kernel, by decide +kernel, by decide +kernel, by decide +kernel, by decide +kernel⟩
theorem bk44c : BlkOk n44 (defScope (top 44)) (match defBody (top 44) with | [_, _, _, .While _ [_, _, _, .For _ _ [.If _ [.Assign _ (.Call _ [.ListComp _ _ sc _] _ _) _, _] _ _] _ _] _ _, _] => sc | _ => defScope (top 7)) [("own", 10)] :=
  ⟨by decide +kernel, by decide +kernel, by decide +kernel, by decide +kernel, by decide +kernel⟩
def R44 : List PyData → PyData → Prop := fun ds d => ∃ (S : List Pt) (h : Pt), ds = [.tuple (S.map D), D h] ∧ FlOk S h ∧ d = D (floorsM S h)
def slots44 (S : List Pt) (h : Pt) (ra fa : Addr) : List SV := [.dat (.tuple (S.map D)), .dat (D h), .dic (besD S (cellsL S)), .val (.ref ra), .val (.ref fa), .no, .no, .no, .no, .no, .no]
def kidsP (S L : List Pt) (row : List Cp) (c : Pt) (k : Nat) : List Ent := (((besideL S c).take k).filter fun o => decide (o ∈ L)).map fun o => (restL L c o, row ++ [couple c o])
theorem c44 (F : Def K mg "floors_in" (top 44)) (b : Blt mg) (hli : ∃ u, mg "LISTED" = some u ∧ RelV (.int 2000) u) (C39 : Cal P w K mg base 9 "many_in" ["yard", "hole"] R39) (C29 : Cal P w K mg base 5 "beside_in" ["yard", "cell"] R29) (C28 : Cal P w K mg base 2 "cells_in" ["yard"] R28) (C9 : Cal P w K mg base 1 "set_of" ["row"] R9) (C43 : CalS P w K mg base 1 "fewest_beside" ["left", "beside"] R43) (C42 : Cal P w K mg base 2 "couple_of" ["one", "other"] R42) : Cal P w K mg base 10 "floors_in" ["yard", "hole"] R44 :=
  cal_of F sc44 (fun _ _ _ _ _ _ us hl => match us, hl with | [_, _], _ => rfl) (fun ds d ⟨_, _, e, _⟩ => by rw [e]; rfl) fun f cdv A outer s H E hr ds d ⟨S, h, e1, ok, e2⟩ => by
    subst e1 e2
    obtain ⟨u, hu, ru2⟩ := hli
    have cl := ok.clen
    have gl : (gapL S h).length ≤ 60 := Nat.le_trans (List.length_filter_le _ _) cl
    have gnd : (gapL S h).Nodup := List.Nodup.sublist List.filter_sublist ok.cnd
    have gin : ∀ c ∈ gapL S h, c ∈ cellsL S := fun c hc => (List.mem_filter.mp hc).1
    obtain ⟨n, m1, m2, m3, m4, m5⟩ := machine S gnd
    have fin : D (floorsM S h) = .list ((((stM S (gapL S h) n).2.map fun r => D (setF r)).mergeSort leD)) := by
      rw [m3]
      have e : ((enumF S (gapL S h).length (gapL S h) []).map fun r => D (setF r)) = ((rowsAll S h).map setF).map D := by rw [List.map_map]; rfl
      rw [e, sort_D]
      rfl
    rw [fin]
    refine pb_if (b := false) (pdt_of_eq (pdt_gt (i := manyM S h) (j := 2000) (pdc C39 hr (pda_cons (pd_v 0) (pda_cons (pd_v 1) pda_nil)) ⟨S, h, rfl, ok.nd, ok.len, ok.told, rfl⟩) (pd_glob hu ru2)) (decide_eq_false (by have := ok.few; omega))) (fun h => nomatch h) fun _ => ?_
    refine pb_own (pb_cons (pn_dic (kds := besD S (cellsL S)) 2 sc44.nd (pw_dictP rfl (by have := hr.units; exact ru hr.units (k := 2)) b.dict (pda_cons (pd_of_eq (pd_lcm 7 (cellsL S) D (fun c => .tuple [D c, D (besideL S c)]) rfl sc44.nd (pdi_list (ds := (cellsL S).map D) (pdc C28 (hr.mono (by decide)) (pda_cons (pd_v 0) pda_nil) ⟨S, rfl, ok.nd, ok.len, rfl⟩)) bk44a (by omega)
      fun c _ s H C cl fp => pd_tup (pda_cons (pd_v 7) (pda_cons (pdc C29 (hr.mono (by decide)) (pda_cons (pd_v 0) (pda_cons (pd_v 7) pda_nil)) ⟨S, c, rfl, rfl⟩) pda_nil))) ?_) pda_nil) ?_))
      (pb_par2 (i := 3) (j := 4) sc44.nd (pa_new2 (t := oRows [(gapL S h, [])]) (t2 := oL []) (pw_rows0 (c := (gapL S h, [])) (pw_dictP rfl (ru hr.units (k := 2)) b.dict (pda_cons (pd_of_eq (pd_lock 2 (pd_lcf 7 (cellsL S) D (fun c => .tuple [D c, .bool true]) (fun c => decide (c ≠ h)) rfl sc44.nd (pdi_keysL (f := fun c => D (besideL S c)) 2) bk44b (by omega)
        (fun c _ s H C cl fp => pdt_ne (α := Pt) (ru hr.units) (pd_v 7) (pd_v 1)) fun c _ s H C cl fp => pd_tup (pda_cons (pd_v 7) (pda_cons pd_bl pda_nil)))) ?_) pda_nil) ?_) (pd_tup pda_nil)) (pw_lst pda_nil)) fun ra fa => ?_))
    · unfold besD; rw [List.map_map]; rfl
    · unfold besD; rw [List.map_map]; exact (List.map_id' (cellsL S)).symm ▸ ok.cnd
    · unfold knownS gapL; rw [List.map_map]; rfl
    · unfold knownS; rw [List.map_map]; exact (List.map_id' (gapL S h)).symm ▸ gnd
    refine pb_cons (ρ1 := slots44 S h ra fa) (M1 := own [(ra, oRows []), (fa, oL ((stM S (gapL S h) n).2.map fun r => D (setF r)))]) ?_ (pb_keepL 1 4 (pb_ret (pd_sortL b.sorted (pda_cons (pd_v 4) pda_nil) ?_)))
    · refine pn_eq (pn_whileO n (slots44 S h ra fa) (fun j => [(ra, oRows (stM S (gapL S h) j).1), (fa, oL ((stM S (gapL S h) j).2.map fun r => D (setF r)))]) PassesOwn.never (fun j hj => ?_) fun j hj => ?_) rfl (by rw [m2])
      · have e : decide (j < n) = decide ((stM S (gapL S h) j).1 ≠ []) := by
          by_cases c : j < n
          · rw [decide_eq_true c, decide_eq_true (m1 j c)]
          · have : j = n := by omega
            rw [decide_eq_false c, this, m2]
            rfl
        rw [e]
        exact pt_rowsNe 0 3 (ru1 hr.units (k := 0))
      · have low := m4 j
        have fl := m5 j (by omega)
        have hstep : stM S (gapL S h) (j + 1) = stepM S (stM S (gapL S h) j) := rfl
        rw [hstep]
        have hne := m1 j hj
        have slen := low_len low
        generalize stM S (gapL S h) j = st at low fl hne slen
        obtain ⟨stk, fnd⟩ := st
        dsimp only at low fl hne slen ⊢
        obtain ⟨init, e, rfl⟩ : ∃ init e, stk = init ++ [e] := ⟨stk.dropLast, stk.getLast hne, (List.dropLast_concat_getLast hne).symm⟩
        rw [step_last]
        have ge := (low init.length e (by simp)).1
        have el := good_len ge
        have rl : (rowsAll S h).length ≤ 1000000 := ok.all
        have fl2 : fnd.length ≤ 1000000 := Nat.le_trans fl rl
        rw [List.length_append, List.length_singleton] at slen
        refine pnc_cons (pn_pop 0 3 5 6 (rs := init) (c := e) sc44.nd rfl) (pnc_if (b := decide (e.1 = [])) (pdt_of_eq2 (pdt_eqE 5 (ru1 hr.units (k := 0) |> fun z => Nat.lt_of_succ_lt z)) ?_) (fun he => ?_) fun he => ?_)
        · unfold knownS
          rw [List.length_map]
          exact decide_eq_decide.mpr List.length_eq_zero_iff
        · have he := of_decide_eq_true he
          rw [if_pos he]
          rw [he, List.length_nil] at el
          refine pct_cons (pn_append 1 4 (ds' := (fnd ++ [e.2]).map fun r => D (setF r)) (d := D (setF e.2)) (pdc C9 (hr.mono (by decide)) (pda_cons (pd_v 6) pda_nil) ⟨e.2, rfl, good_row gnd ge, by omega, rfl⟩) rfl (by rw [List.length_map, sizeLine_eq]; omega) (by rw [List.map_append]; rfl)) (pct_end ?_)
          exact ⟨.inr rfl, .inr rfl, .inr rfl, .inr rfl, .inr rfl, .inl rfl, .inl rfl, .inl rfl, .inl rfl, .inl rfl, .inl rfl, trivial⟩
        · have he := of_decide_eq_false he
          rw [if_neg he]
          obtain ⟨c, hc, hcl, _⟩ := few_some S he
          rw [hc]
          dsimp only
          have sub : ∀ c ∈ e.1, c ∈ cellsL S := fun c hc => gin c (good_sub ge hc)
          have en := good_nd gnd ge
          have elen : e.1.length ≤ 60 := by omega
          have row_len : e.2.length ≤ 60 := by omega
          refine pnc_cons (pn_set (d := D c) 7 sc44.nd (pd_of_eq (pd_call2 5 2 C43 (hr.mono (by decide)) ⟨S, e.1, cellsL S, rfl, sub, rfl⟩) (by rw [hc]; rfl))) (pnc_of (pns_w (pns_one (ρ1 := (((slots44 S h ra fa).set 5 (.dic (knownS e.1))).set 6 (.dat (D (Tup.mk e.2)))).set 7 (.dat (D c))) ?_)))
          have bl : (besideL S c).length ≤ 4 := by
            have := List.length_filter_le (isCell S) (nextL c)
            have h4 : (nextL c).length = 4 := rfl
            unfold besideL
            omega
          refine pn_eq (pn_for1 8 (besideL S c) D (fun k => own [(ra, oRows (init ++ kidsP S e.1 e.2 c k)), (fa, oL (fnd.map fun r => D (setF r)))]) sc44.nd (pdi_list (ds := (besideL S c).map D) (pd_getD 2 (ru1 hr.units (k := 0)) (pd_v 7) (look_map _ (sub c hcl)))) fun k o hk => ?_) (by unfold kidsP; simp) ?_
          · have kl : (kidsP S e.1 e.2 c k).length ≤ 4 := by
              unfold kidsP
              rw [List.length_map]
              refine Nat.le_trans (List.length_filter_le _ _) ?_
              rw [List.length_take]
              omega
            refine pns_w (pns_one (pn_ifK (b := decide (o ∈ e.1)) Peek.refl (pdt_of_eq2 (pdt_inD 5 (ru1 hr.units (k := 0)) (pd_v 8)) (look_known e.1 o)) (fun hin => ?_) fun hin => ?_))
            · have nx : kidsP S e.1 e.2 c (k + 1) = kidsP S e.1 e.2 c k ++ [(restL e.1 c o, e.2 ++ [couple c o])] := by
                unfold kidsP
                rw [take_next' hk, List.filter_append, List.map_append, List.filter_cons, if_pos hin]
                rfl
              rw [nx, ← List.append_assoc]
              refine pns_w (pns_cons (pn_dic (kds := knownS (restL e.1 c o)) 9 sc44.nd (pw_dictP rfl (ru hr.units (k := 2)) b.dict (pda_cons (pd_of_eq (pd_lock 5 (pd_lcf 10 e.1 D (fun x => .tuple [D x, .bool true]) (fun x => decide (x ∉ [c, o])) rfl sc44.nd (pdi_keysL (f := fun _ => .bool true) 5) bk44c (by omega)
                (fun x _ s H C cl fp => pdt_of_eq2 (pdt_notInT (α := Pt) (x := x) (xs := [c, o]) (ru1 hr.units) (pd_v 10) (pd_tup (pda_cons (pd_v 7) (pda_cons (pd_v 8) pda_nil)))) (decide_eq_decide.mpr Iff.rfl)) fun x _ s H C cl fp => pd_tup (pda_cons (pd_v 10) (pda_cons pd_bl pda_nil)))) ?_) pda_nil) ?_))
                (pns_one (pn_appRow 0 3 9 (c := (restL e.1 c o, e.2 ++ [couple c o])) (rs := init ++ kidsP S e.1 e.2 c k) (pd_of_eq (pd_catT (ds := e.2.map D) (es := [D (couple c o)]) (pd_v 6) (pd_tup (pda_cons (pdc C42 (hr.mono (by decide)) (pda_cons (pd_v 7) (pda_cons (pd_v 8) pda_nil)) ⟨c, o, rfl, rfl⟩) pda_nil)) ?_) ?_) rfl ?_)))
              · unfold knownS restL; rw [List.map_map]; rfl
              · unfold knownS; rw [List.map_map]; exact (List.map_id' (restL e.1 c o)).symm ▸ List.Nodup.sublist List.filter_sublist en
              · rw [List.length_map, sizeLine_eq]; show e.2.length + 1 ≤ _; omega
              · show PyData.tuple _ = .tuple ((e.2 ++ [couple c o]).map D)
                rw [List.map_append]
                rfl
              · rw [List.length_append, sizeLine_eq]; omega
            · have nx : kidsP S e.1 e.2 c (k + 1) = kidsP S e.1 e.2 c k := by
                unfold kidsP
                rw [take_next' hk, List.filter_append, List.map_append, List.filter_cons, if_neg (by rw [hin]; decide)]
                simp
              rw [nx]
              exact pns_nil
          · unfold kidsP
            rw [List.take_length]
            rfl
    · have ge : ∀ r ∈ (stM S (gapL S h) n).2, r ≠ [] := fun r hr2 z => by
        rw [m3] at hr2
        have g := good_len (enum_good gnd (gapL S h).length (gapL S h) [] ⟨.refl _, fun p hp => nomatch hp⟩ (Nat.le_refl _) r hr2)
        rw [z] at g
        have := List.length_pos_iff.mpr ok.ne
        simp only [List.length_nil] at g
        omega
      have e : ((stM S (gapL S h) n).2.map fun r => D (setF r)) = ((stM S (gapL S h) n).2.map setF).map D := by rw [List.map_map]; rfl
      rw [e]
      refine srt_fl _ ?_ (fun x hx => ?_) (by rw [Nat.add_assoc]; exact ru hr.units)
      · rw [List.length_map, sizeLine_eq]
        have h1 := m5 n (Nat.le_refl _)
        have h2 : (rowsAll S h).length ≤ 1000000 := ok.all
        have h3 : (stM S (gapL S h) n).2.length ≤ (rowsAll S h).length := h1
        omega
      · obtain ⟨r, hr2, rfl⟩ := List.mem_map.mp hx
        intro z
        have z : r.mergeSort leT = [] := z
        have := List.length_mergeSort (le := leT) r
        rw [z] at this
        exact ge r hr2 (List.eq_nil_of_length_eq_zero this.symm)
end
end Hf

/-! ## HfW -/
set_option Elab.async false
set_option linter.all false
set_option maxRecDepth 100000
set_option maxHeartbeats 1000000
/-! TooMany: made, let out, caught; calls by keywords. -/
namespace Hf
open L2 PySem PySem.Spec PyProof.Rows
open PySem.W (Datum DatumOrd Tup EachIs AllAlike Sortable dataLe)
section
variable {X : Cx} {C : Addr} {bmB : List Value} {B newId initId : String}
/-- C() -/
theorem pmk_own0 {x : Str} {p pos : Pos} (F : ExcBaseFacts B newId initId bmB) (q : PySem.W.excIn X.K C bmB newId = true) (gC : X.mg x = some (.ref C)) (kC : PySem.W.keepIn X.K (.ref C) = true) (r : Raises X (.ref C)) (hg : Gl X x := by rfl)
    (hdb : (x == ("__debug__" : Str)) = false := by decide) : PMk X (.Call (.Name x p) [] [] pos) (fun _ H Q => Q (.ref C) none H) := by
  intro pins s σ H Q I h
  refine wpAny_Call_Name_kw (ld_glob I hg gC ?_ hdb)
  refine PySem.W.callWith_K0 I.kIn kC ?_
  show wpAny _ _ (call (.ref C) []) _ _ s
  obtain ⟨bm, N, nm, qn, bs, hdct, sn, sub, ab, col, dd, k0, k1, k2, k3, k5, mN, hC, hN, hni, T⟩ := exc_obj I.kIn q
  refine wpAny_call_exc_subT F T hC hN hni (fun h' e hm => ?_) (by show 0 ≤ sizeLine; omega)
  exact mk_of I hm r h (I.hok.gone hm.new)
/-- f(k = v, ..), what it lets out told at the slots -/
theorem pe_kwS {CX : CXT} {k : Nat} {f : Addr} {fd : FuncData} {ps ks : List Str} {sp : Sp} {E : L2.St → XK} {x : Str} {p pos : Pos} {kws : List Keyword} {tk : TA} {g : List Value → List Value → List Value} {gV : List V → List V → List V}
    (F : FnOk X.prog X.w X.K X.mg X.base CX k f fd ps sp) (hr : Room k X.A) (hm : X.mg x = some (.ref f)) (hk : PySem.W.keepIn X.K (.ref f) = true) (hb : KBinds X.K fd ps ks g gV) (hx : ∀ σ, PassesAt CX X σ (E σ))
    (hkw : PK X kws tk) (hg : Gl X x := by rfl) (hall : (backToKw pos (keywordEach kws X.env)).all (·.1.isSome) = true := by rfl) (hks : (backToKw pos (keywordEach kws X.env)).filterMap (·.1) = ks := by rfl)
    (hdb : (x == ("__debug__" : Str)) = false := by decide) (hpl : ((backTo pos (starEach [] X.env)).any (·.1) || (backToKw pos (keywordEach kws X.env)).any (·.1.isNone)) = false := by rfl) :
    PE X (.Call (.Name x p) [] kws pos) (fun σ H Q => tk σ H fun zs H2 => sp (gV [] zs) H2 Q (E σ)) := by
  refine ⟨fun pins s σ H Q I h => ?_⟩
  refine wpAny_Call_Name_kw (ld_glob I hg hm ?_ hdb)
  refine PySem.W.callWith_KW0 (h₀ := X.base) I.ok.mod.kin hk hall ?_ hpl
  refine thn (hkw.run pos pins s σ H _ I h) fun ws s2 ⟨zs, H2, I2, rz, q2⟩ => ⟨I2.kIn, ?_⟩
  rw [hks]
  show wpAny _ _ (call (.ref f) [] (ks.zip ws)) _ _ _
  have r2 := hb.rel (vs := []) (us := []) .nil rz
  have hl : (g [] ws).length = ps.length := by rw [← r2.length]; exact F.len _ _ _ _ q2
  refine wpAny_call (codeAny_mono (F.run X.A X.stack s2 H2 ⟨[], ks.zip ws⟩ (g [] ws) (gV [] zs) Q (E σ) hr I2.env0 (hb.to s2 [] ws I2.kIn hl) r2 q2) fun r s' hq => ?_)
  cases r with
  | error e => exact hx σ pins H2 s2 e s' I2 hq
  | ok fl =>
    cases fl with
    | ret u => exact I2.after hq
    | next => exact False.elim hq
    | brk => exact False.elim hq
    | cont => exact False.elim hq
end
/-- what is said of TooMany -/
structure TmOk (K : PySem.W.Frag) (mg : Str → Option Value) (C : Addr) : Prop where
  g : mg "TooMany" = some (.ref C)
  exc : ∃ (bmB : List Value) (B newId initId : String), ExcBaseFacts B newId initId bmB ∧ PySem.W.excIn K C bmB newId = true
  kp : PySem.W.keepIn K (.ref C) = true
  sub : PySem.W.subIn K (.ref C) (.type "BaseException") = some true
  ty : PySem.W.typeIn K (.ref C) = some (.type "type")
  ec : ExcC K C
  ex : PySem.W.exmOne K (.ref C) (.ref C) = some true
  ve : PySem.W.kitOne K (.ref C) (.type "ValueError") = some true
def spE (C : Addr) (Rq : List PyData → Prop) : Sp := fun vs H _ E => ∃ H0 ds, Same H0 H ∧ DqA H0 vs ds ∧ Rq ds ∧ ∀ H0' H', Ext H0 H H0' H' → E (.ref C) none H'
def CalE (P : Program) (w : World) (K : PySem.W.Frag) (mg : Str → Option Value) (base : Heap) (k : Nat) (x : Str) (ps : List Str) (C : Addr) (Rq : List PyData → Prop) : Prop :=
  ∃ f fd, FnOk P w K mg base (L2.CX P w) k f fd ps (spE C Rq) ∧ mg x = some (.ref f) ∧ PySem.W.keepIn K (.ref f) = true ∧ L2.Binds K fd ps []
section
variable {P : Program} {w : World} {K : PySem.W.Frag} {mg : Str → Option Value} {base : Heap}
structure BigOk (S : List Pt) (h : Pt) : Prop where
  nd : S.Nodup
  len : S.length ≤ 20
  told : toldOk S h = true
  big : 2000 < manyM S h
def Q44 : List PyData → Prop := fun ds => ∃ (S : List Pt) (h : Pt), ds = [.tuple (S.map D), D h] ∧ BigOk S h
theorem x44 {C : Addr} (F : Def K mg "floors_in" (top 44)) (T : TmOk K mg C) (hli : ∃ u, mg "LISTED" = some u ∧ RelV (.int 2000) u) (C39 : Cal P w K mg base 9 "many_in" ["yard", "hole"] R39) : CalE P w K mg base 10 "floors_in" ["yard", "hole"] C Q44 := by
  obtain ⟨f, fd, F, m⟩ := F
  obtain ⟨u, hu, ru2⟩ := hli
  obtain ⟨bmB, B, newId, initId, EF, eq⟩ := T.exc
  refine ⟨f, fd, F.okX sc44 (fun vs H Q E ⟨H0, ds, s, dv, ⟨S, h, e, _⟩, _⟩ => by rw [dv.length, e]; rfl) fun cdv A outer s H vs Q E hr ⟨H0, ds, sm, dv, ⟨S, h, e, ok⟩, q⟩ => ?_, m, F.kp, F.binds (fun _ _ _ _ _ _ us hl => match us, hl with | [_, _], _ => rfl)⟩
  subst e
  refine ⟨fun D σ H => ∃ H0, Same H0 H ∧ EnvD H0 (begS n44 [.tuple (S.map Hf.D), Hf.D h]) σ ∧ ∀ H0' H', Ext H0 H H0' H' → E (.ref C) none H', ?_, H0, sm, ?_, q⟩
  · exact pss_imp (pss_cons (ps_if (pdt_of_eq (pdt_gt (i := manyM S h) (j := 2000) (pdc C39 hr (pda_cons (pd_v 0) (pda_cons (pd_v 1) pda_nil)) ⟨S, h, rfl, ok.nd, ok.len, ok.told, rfl⟩) (pd_glob hu ru2)) (decide_eq_true (by have := ok.big; omega))) (pss_one (ps_raise rfl (takes_of rfl rfl rfl rfl) (pmk_own0 EF eq T.g T.kp (raises_own T.sub T.ty)))) pss_nil) pss_never) fun D σ H ⟨H0, s, ev, q⟩ => ⟨H0, s, ev, fun H1 H' y => iteT (q H1 H' y)⟩
  · unfold L2.start begS
    rw [dv.length]
    exact env_beg dv
/-! all_floors -/
theorem sc46 : FnScope ["yard", "hole", "own"] ["yard", "hole"] (defScope (top 46)) := ⟨rfl, rfl, rfl, by decide +kernel, rfl, by decide +kernel, by decide +kernel⟩
structure Ask (S : List Pt) (h : Pt) (ye he : PyData) : Prop where
  n1 : Nest 2 ye
  t1 : tupN 2 ye = .tuple (S.map D)
  n2 : Nest 1 he
  t2 : tupN 1 he = D h
  yd : Yd S
  cell : isCell S h = true
  kind : kindS h ≠ "rail"
def R46 : List PyData → PyData → Prop := fun ds d => ∃ (S : List Pt) (h : Pt) (ye he : PyData), ds = [ye, he] ∧ Ask S h ye he ∧ FlOk S h ∧ d = D (floorsM S h)
theorem c46 (F : Def K mg "all_floors" (top 46)) (C21 : Cal P w K mg base 6 "sure_yard" ["yard"] R21) (C45 : Cal P w K mg base 6 "sure_hole" ["yard", "hole"] R45) (C44 : Cal P w K mg base 10 "floors_in" ["yard", "hole"] R44) : Cal P w K mg base 11 "all_floors" ["yard", "hole"] R46 :=
  cal_of F sc46 (fun _ _ _ _ _ _ us hl => match us, hl with | [_, _], _ => rfl) (fun ds d ⟨_, _, _, _, e, _⟩ => by rw [e]; rfl) fun f cdv A outer s H E hr ds d ⟨S, h, ye, he, e1, a, ok, e2⟩ => by
    subst e1 e2
    exact pb_cons (pn_set 2 sc46.nd (pdc C21 (hr.mono (by decide)) (pda_cons (pd_v 0) pda_nil) ⟨ye, S, rfl, a.n1, a.t1, a.yd, rfl⟩)) (pb_ret (pdc C44 hr (pda_cons (pd_v 2) (pda_cons (pdc C45 (hr.mono (by decide)) (pda_cons (pd_v 2) (pda_cons (pd_v 1) pda_nil)) ⟨S, he, h, rfl, a.n2, a.t2, a.cell, a.kind, rfl⟩) pda_nil)) ⟨S, h, rfl, ok, rfl⟩))
def Q46 : List PyData → Prop := fun ds => ∃ (S : List Pt) (h : Pt) (ye he : PyData), ds = [ye, he] ∧ Ask S h ye he ∧ BigOk S h
theorem x46 {C : Addr} (F : Def K mg "all_floors" (top 46)) (C21 : Cal P w K mg base 6 "sure_yard" ["yard"] R21) (C45 : Cal P w K mg base 6 "sure_hole" ["yard", "hole"] R45) (X44 : CalE P w K mg base 10 "floors_in" ["yard", "hole"] C Q44) : CalE P w K mg base 11 "all_floors" ["yard", "hole"] C Q46 := by
  obtain ⟨f, fd, F, m⟩ := F
  obtain ⟨f2, fd2, F2, m2, k2, b2⟩ := X44
  refine ⟨f, fd, F.okX sc46 (fun vs H Q E ⟨H0, ds, s, dv, ⟨S, h, ye, he, e, _⟩, _⟩ => by rw [dv.length, e]; rfl) fun cdv A outer s H vs Q E hr ⟨H0, ds, sm, dv, ⟨S, h, ye, he, e, a, ok⟩, q⟩ => ?_, m, F.kp, F.binds (fun _ _ _ _ _ _ us hl => match us, hl with | [_, _], _ => rfl)⟩
  subst e
  refine ⟨fun D σ H => ∃ H0, Same H0 H ∧ EnvD H0 (begS ["yard", "hole", "own"] [ye, he]) σ ∧ ∀ H0' H', Ext H0 H H0' H' → E (.ref C) none H', ?_, H0, sm, ?_, q⟩
  · exact pss_imp (pss_cons ((show PN _ (begS ["yard", "hole", "own"] [ye, he]) _ emp emp _ from pn_set 2 sc46.nd (pdc C21 (hr.mono (by decide)) (pda_cons (pd_v 0) pda_nil) ⟨ye, S, rfl, a.n1, a.t1, a.yd, rfl⟩))) (pss_one (ps_ret (pe_callS (E := fun _ => E) F2 hr rfl m2 k2 b2 (fun σ => passAt (W := fun cls d _ H => E cls d H) (takes_of rfl rfl rfl rfl) σ) (pda_cons (pd_v 2) (pda_cons (pdc C45 (hr.mono (by decide)) (pda_cons (pd_v 2) (pda_cons (pd_v 1) pda_nil)) ⟨S, he, h, rfl, a.n2, a.t2, a.cell, a.kind, rfl⟩) pda_nil)))))) fun D σ H ⟨H0, s, ev, q⟩ => ⟨H0, H, H0, .refl s, ev, trivial, fun σ' H0' H' x s' ev' _ => ⟨H0', x.sub, ev', fun vs H1 H'' y dv => ⟨H1, _, y.sub, dv, ⟨S, h, rfl, ok⟩, fun H2 H3 z => q H2 H3 ((x.trans y).trans z)⟩⟩⟩
  · unfold L2.start begS
    rw [dv.length]
    exact env_beg dv
end
end Hf

/-! ## HfL1 -/
set_option Elab.async false
set_option linter.all false
set_option maxRecDepth 100000
set_option maxHeartbeats 1000000
/-! The law's own defs, 1. -/
namespace Hf
open L2 PySem PySem.Spec PyProof.Rows
open PySem.W (Datum DatumOrd Tup EachIs AllAlike Sortable dataLe)
section
variable {X : Cx} {ρ : List SV} {tg e : Expr} {x : Str} {p pos : Pos}
theorem pdi_eqL {n n' : Nat} {dat dat' : Nat → PyData} (h : PDI X ρ tg e n dat) (hn : n = n') (hd : ∀ j, j < n → dat j = dat' j) : PDI X ρ tg e n' dat' := by
  subst hn
  exact pi_imp h fun σ H R ⟨H0, s, ev, q⟩ => ⟨H0, s, ev, fun J H0' H' G x g gA => q J H0' H' G x ⟨g.stop, g.go, fun j hj H0 H s gg y H'' w => by rw [← hd j hj]; exact g.yld j hj H0 H s gg y H'' w, g.mono⟩ gA⟩
/-- range(k) as a list of numbers -/
def upto (k : Nat) : List Int := (List.range k).map fun (i : Nat) => (i : Int)
theorem upto_at {k j : Nat} (h : j < k) : (upto k)[j]? = some (j : Int) := by
  unfold upto
  rw [List.getElem?_map, List.getElem?_range h]
  rfl
theorem upto_len (k : Nat) : (upto k).length = k := by unfold upto; rw [List.length_map, List.length_range]
theorem pdi_upto {k : Nat} (hm : X.mg "range" = none) (h : PDA X ρ [e] [.int k]) (hk : k < 1000000) (hg : Gl X "range" := by rfl) (hs : starEach [e] X.env = [(false, eval e X.env)] := by rfl) : PDI X ρ tg (.Call (.Name "range" p) [e] [] pos) ((upto k).map PyData.int).length (fun j => ((upto k).map PyData.int).getD j .none) :=
  pdi_eqL (pdi_range1 hm h (by omega) (by omega) hg hs) (by rw [List.length_map, upto_len]; rfl) fun j hj => by
    rw [getD_map (upto_at (show j < k from hj)), Int.zero_add]
end
section
variable {P : Program} {w : World} {K : PySem.W.Frag} {mg : Str → Option Value} {base : Heap}
/-! _law_cells_of -/
abbrev n55 : List Str := ["_law_ground", "_law_found", "_law_x", "_law_y", "_law_i", "_law_j"]
theorem sc55 : FnScope n55 ["_law_ground"] (defScope (top 55)) := ⟨rfl, rfl, rfl, by decide +kernel, rfl, by decide +kernel, by decide +kernel⟩
def three (c : Pt) (i : Int) : List Pt := (upto 3).map fun j => (2 * c.1 + i, 2 * c.2 + j)
def nine (c : Pt) : List Pt := (upto 3).flatMap (three c)
def lcellsL (S : List Pt) : List Pt := keysU (S.flatMap nine)
def R55 : List PyData → PyData → Prop := fun ds d => ∃ (S : List Pt) (d0 : PyData), ds = [d0] ∧ (d0 = .tuple (S.map D) ∨ d0 = .list (S.map D)) ∧ S.length ≤ 1000 ∧ d = D (lcellsL S)
theorem c55 (F : Def K mg "_law_cells_of" (top 55)) (b : Blt mg) : Cal P w K mg base 1 "_law_cells_of" ["_law_ground"] R55 :=
  cal_of F sc55 (fun _ _ _ _ _ _ us hl => match us, hl with | [_], _ => rfl) (fun ds d ⟨_, _, e, _⟩ => by rw [e]; rfl) fun f cdv A outer s H E hr ds d ⟨S, d0, e1, hd0, hl, e2⟩ => by
    subst e1 e2
    have fin : D (lcellsL S) = .list (((putAll [] ((S.take S.length).flatMap nine)).map fun z => D z.1).mergeSort leD) := by rw [List.take_length, keysU_D]; rfl
    rw [fin]
    have l3 : ∀ c i, (three c i).length = 3 := fun c i => by unfold three; rw [List.length_map, upto_len]
    have l9 : ∀ c, (nine c).length ≤ 9 := fun c => by
      have := flat_len (three c) 3 (fun i => Nat.le_of_eq (l3 c i)) (upto 3)
      rw [upto_len] at this
      exact this
    have lens : ∀ (n i : Nat) (c : Pt) (cs : List Pt), cs.length ≤ 4 → (putAll [] ((S.take n).flatMap nine ++ (((upto 3).take i).flatMap (three c) ++ cs))).length < sizeLine := fun n i c cs hcs => by
      have h1 := putAll_len ((S.take n).flatMap nine ++ (((upto 3).take i).flatMap (three c) ++ cs)) []
      have h2 := flat_len nine 9 l9 (S.take n)
      have h3 := flat_len (three c) 3 (fun i => Nat.le_of_eq (l3 c i)) ((upto 3).take i)
      rw [List.length_append, List.length_append] at h1
      rw [List.length_take] at h2 h3
      rw [upto_len] at h3
      simp only [List.length_nil] at h1
      rw [sizeLine_eq]
      omega
    have step : ∀ (A : List Pt) (c : Pt), putP (putAll [] A) c (.bool true) = putAll [] (A ++ [c]) := fun A c => (putAll_app [] A [c])
    refine pb_own (pb_new 1 sc55.nd pw_dict fun fa => pb_cons (pn_for2 2 3 S (fun n => own [(fa, oD (putAll [] ((S.take n).flatMap nine)))]) sc55.nd ?_ fun n c hn => pns_w (pns_one (pn_eq (pn_for1 4 (upto 3) .int (fun i => own [(fa, oD (putAll [] ((S.take n).flatMap nine ++ ((upto 3).take i).flatMap (three c))))]) sc55.nd
      (pdi_upto b.range (pda_cons pd_int pda_nil) (by decide)) fun i e he => pns_w (pns_one (pn_eq (pn_for1 5 (upto 3) .int (fun j => own [(fa, oD (putAll [] ((S.take n).flatMap nine ++ (((upto 3).take i).flatMap (three c) ++ ((upto 3).take j).map fun j => ((2 * c.1 + e, 2 * c.2 + j) : Pt)))))]) sc55.nd
        (pdi_upto b.range (pda_cons pd_int pda_nil) (by decide)) fun j e2 he2 => pns_w (pns_one (pn_dput (c := (2 * c.1 + e, 2 * c.2 + e2)) 0 1 (ru1 hr.units (k := 0)) (pd_tup (pda_cons (pd_add (pd_mul pd_int (pd_v 2) (dmul (by decide))) (pd_v 4)) (pda_cons (pd_add (pd_mul pd_int (pd_v 3) (dmul (by decide))) (pd_v 5)) pda_nil))) pd_bl rfl (lens n i c _ ?_) ?_))) ?_ ?_))) ?_ ?_))) (pb_retSK 0 1 rfl b.sorted ?_))
    · rcases hd0 with rfl | rfl
      · exact pdi_tup (pd_v 0)
      · exact pdi_list (pd_v 0)
    · rw [List.length_map, List.length_take, upto_len]; omega
    · rw [step, take_next' he2, List.map_append]
      simp only [List.append_assoc]
      rfl
    · simp only [List.take_zero, List.map_nil, List.append_nil]
    · rw [take_next' he, List.flatMap_append, List.take_length]
      simp only [List.flatMap_cons, List.flatMap_nil, List.append_nil]
      rfl
    · simp only [List.take_zero, List.flatMap_nil, List.append_nil]
    · rw [take_next' hn, List.flatMap_append, List.take_length]
      simp only [List.flatMap_cons, List.flatMap_nil, List.append_nil]
      rfl
    · have h1 := putAll_len ((S.take S.length).flatMap nine) []
      have h2 := flat_len nine 9 l9 (S.take S.length)
      rw [List.take_length] at h1 h2 ⊢
      have e : ((putAll [] (S.flatMap nine)).map fun z => D z.1) = ((putAll [] (S.flatMap nine)).map (·.1)).map D := by rw [List.map_map]; rfl
      rw [e]
      simp only [List.length_nil] at h1
      exact srt_pt _ (by rw [List.length_map, sizeLine_eq]; omega) (by rw [Nat.add_assoc]; exact ru hr.units)
/-! _law_is_place -/
theorem sc56 : FnScope ["_law_spot"] ["_law_spot"] (defScope (top 56)) := ⟨rfl, rfl, rfl, by decide +kernel, rfl, by decide +kernel, by decide +kernel⟩
def placeB (c : Pt) : Bool := decide ((c.1 + c.2) % 2 = 0)
def R56 : List PyData → PyData → Prop := fun ds d => ∃ c : Pt, ds = [D c] ∧ d = .bool (placeB c)
theorem c56 (F : Def K mg "_law_is_place" (top 56)) (b : Blt mg) : Cal P w K mg base 1 "_law_is_place" ["_law_spot"] R56 :=
  cal_of F sc56 (fun _ _ _ _ _ _ us hl => match us, hl with | [_], _ => rfl) (fun ds d ⟨_, e, _⟩ => by rw [e]; rfl) fun f cdv A outer s H E hr ds d ⟨c, e1, e2⟩ => by
    subst e1 e2
    exact pb_ret (pd_eq (α := Int) (x := (c.1 + c.2) % 2) (y := 0) (ru hr.units) (pd_mod (pd_intI b.int (pda_cons (pd_add (pd_ixT (d := .int c.1) (pd_v 0) pd_int) (pd_ixT (d := .int c.2) (pd_v 0) pd_int)) pda_nil)) pd_int (by decide)) pd_int)
/-! _law_beside -/
theorem sc57 : FnScope ["_law_spot"] ["_law_spot"] (defScope (top 57)) := ⟨rfl, rfl, rfl, by decide +kernel, rfl, by decide +kernel, by decide +kernel⟩
def lbesideL (c : Pt) : List Pt := [(c.1 + 1, c.2), (c.1, c.2 + 1), (c.1 - 1, c.2), (c.1, c.2 - 1)]
def R57 : List PyData → PyData → Prop := fun ds d => ∃ c : Pt, ds = [D c] ∧ d = D (lbesideL c)
theorem c57 (F : Def K mg "_law_beside" (top 57)) : Cal P w K mg base 1 "_law_beside" ["_law_spot"] R57 :=
  cal_of F sc57 (fun _ _ _ _ _ _ us hl => match us, hl with | [_], _ => rfl) (fun ds d ⟨_, e, _⟩ => by rw [e]; rfl) fun f cdv A outer s H E hr ds d ⟨c, e1, e2⟩ => by
    subst e1 e2
    exact pb_ret (pd_lst (pda_cons (pd_tup (pda_cons (pd_add (pd_ixT (d := .int c.1) (pd_v 0) pd_int) pd_int) (pda_cons (pd_ixT (d := .int c.2) (pd_v 0) pd_int) pda_nil))) (pda_cons (pd_tup (pda_cons (pd_ixT (d := .int c.1) (pd_v 0) pd_int) (pda_cons (pd_add (pd_ixT (d := .int c.2) (pd_v 0) pd_int) pd_int) pda_nil)))
      (pda_cons (pd_tup (pda_cons (pd_sub (pd_ixT (d := .int c.1) (pd_v 0) pd_int) pd_int) (pda_cons (pd_ixT (d := .int c.2) (pd_v 0) pd_int) pda_nil))) (pda_cons (pd_tup (pda_cons (pd_ixT (d := .int c.1) (pd_v 0) pd_int) (pda_cons (pd_sub (pd_ixT (d := .int c.2) (pd_v 0) pd_int) pd_int) pda_nil))) pda_nil)))))
/-! _law_pair -/
theorem sc58 : FnScope ["_law_one_here", "_law_two"] ["_law_one_here", "_law_two"] (defScope (top 58)) := ⟨rfl, rfl, rfl, by decide +kernel, rfl, by decide +kernel, by decide +kernel⟩
def lpair (a b : Pt) : Cp := if placeB a = true then (a, b) else (b, a)
def R58 : List PyData → PyData → Prop := fun ds d => ∃ a b : Pt, ds = [D a, D b] ∧ d = D (lpair a b)
theorem c58 (F : Def K mg "_law_pair" (top 58)) (C56 : Cal P w K mg base 1 "_law_is_place" ["_law_spot"] R56) : Cal P w K mg base 2 "_law_pair" ["_law_one_here", "_law_two"] R58 :=
  cal_of F sc58 (fun _ _ _ _ _ _ us hl => match us, hl with | [_, _], _ => rfl) (fun ds d ⟨_, _, e, _⟩ => by rw [e]; rfl) fun f cdv A outer s H E hr ds d ⟨a, b, e1, e2⟩ => by
    subst e1 e2
    exact pb_ret (pd_if (pdt_val (pdc C56 hr (pda_cons (pd_v 0) pda_nil) ⟨a, rfl, rfl⟩)) (fun h => pd_of_eq (pd_tup (pda_cons (pd_v 0) (pda_cons (pd_v 1) pda_nil))) (by unfold lpair; rw [if_pos h]; rfl))
      fun h => pd_of_eq (pd_tup (pda_cons (pd_v 1) (pda_cons (pd_v 0) pda_nil))) (by unfold lpair; rw [if_neg (by rw [h]; decide)]; rfl))
/-! _law_is_whole -/
theorem sc61 : FnScope ["_law_squares_so", "_law_cells_so", "_law_own"] ["_law_squares_so"] (defScope (top 61)) := ⟨rfl, rfl, rfl, by decide +kernel, rfl, by decide +kernel, by decide +kernel⟩
theorem bk61 : BlkOk ["_law_squares_so", "_law_cells_so", "_law_own"] (defScope (top 61)) (match defBody (top 61) with | [_, .Return (some (.Compare (.BinOp _ _ (.Call _ [.ListComp _ _ sc _] _ _) _) _ _ _)) _] => sc | _ => defScope (top 7)) [("_law_own", 2)] :=
  ⟨by decide +kernel, by decide +kernel, by decide +kernel, by decide +kernel, by decide +kernel⟩
def wholeB (S : List Pt) : Bool := decide ((2 * (((lcellsL S).filter placeB).length : Int)) = ((lcellsL S).length : Int) + 1)
theorem lcells_len (S : List Pt) : (lcellsL S).length ≤ 9 * S.length := by
  have l3 : ∀ c i, (three c i).length = 3 := fun c i => by unfold three; rw [List.length_map, upto_len]
  have l9 : ∀ c, (nine c).length ≤ 9 := fun c => by
    have := flat_len (three c) 3 (fun i => Nat.le_of_eq (l3 c i)) (upto 3)
    rw [upto_len] at this
    exact this
  have h1 := putAll_len (S.flatMap nine) []
  have h2 := flat_len nine 9 l9 S
  unfold lcellsL keysU
  rw [List.length_mergeSort, List.length_map]
  simp only [List.length_nil] at h1
  omega
def R61 : List PyData → PyData → Prop := fun ds d => ∃ S : List Pt, ds = [.list (S.map D)] ∧ S.length ≤ 1000 ∧ d = .bool (wholeB S)
theorem c61 (F : Def K mg "_law_is_whole" (top 61)) (b : Blt mg) (C55 : Cal P w K mg base 1 "_law_cells_of" ["_law_ground"] R55) (C56 : Cal P w K mg base 1 "_law_is_place" ["_law_spot"] R56) : Cal P w K mg base 2 "_law_is_whole" ["_law_squares_so"] R61 :=
  cal_of F sc61 (fun _ _ _ _ _ _ us hl => match us, hl with | [_], _ => rfl) (fun ds d ⟨_, e, _⟩ => by rw [e]; rfl) fun f cdv A outer s H E hr ds d ⟨S, e1, hl, e2⟩ => by
    subst e1 e2
    have cl := lcells_len S
    refine pb_cons (pn_set (d := D (lcellsL S)) 1 sc61.nd (pdc C55 hr (pda_cons (pd_v 0) pda_nil) ⟨S, _, rfl, .inr rfl, hl, rfl⟩)) (pb_ret (pd_eq (α := Int) (ru hr.units) (pd_mul pd_int (pd_of_eq (pd_lenL b.len (pda_cons (pd_lcf 2 (lcellsL S) D D placeB rfl sc61.nd (pdi_list (ds := (lcellsL S).map D) (pd_v 1)) bk61 (by omega) (fun c _ s H C cl fp => pdt_val (pdc C56 hr (pda_cons (pd_v 2) pda_nil) ⟨c, rfl, rfl⟩)) fun c _ s H C cl fp => pd_v 2) pda_nil)) ?_) (dmul (by decide))) (pd_add (pd_of_eq (pd_lenL (ds := (lcellsL S).map D) b.len (pda_cons (pd_v 1) pda_nil)) ?_) pd_int)))
    · rw [List.length_map]
    · rw [List.length_map]
/-! _law_boxed -/
/-! _law_one -/
theorem sc64 : FnScope [] [] (defScope (top 64)) := ⟨rfl, rfl, rfl, by decide +kernel, rfl, by decide +kernel, by decide +kernel⟩
end
end Hf

/-! ## HfL2 -/
set_option Elab.async false
set_option linter.all false
set_option maxRecDepth 100000
set_option maxHeartbeats 1000000
/-! The law's own defs, 2: _law_floors. -/
namespace Hf
open L2 PySem PySem.Spec PyProof.Rows
open PySem.W (Datum DatumOrd Tup EachIs AllAlike Sortable dataLe)
abbrev LRow : Type := List Cp × Int
def lrowD (r : LRow) : PyData := .tuple [.tuple (r.1.map D), .int r.2]
def goodsL (cells : List Pt) (s : Pt) : List Pt := ([(s.1, s.2 + 1), (s.1 + 1, s.2)] : List Pt).filter fun o => (look (numD cells) o).isSome
def ixOf (cells : List Pt) (c : Pt) : Nat := (atP cells c).getD 0
def bitsOf (k m : Nat) : Int := Builtin.bitOr (1 * 2 ^ k) (1 * 2 ^ m)
def lIts (cells : List Pt) (k : Nat) (s : Pt) (found later : List LRow) (its : Pt) : List LRow :=
  later ++ (found.filter fun r => decide (Builtin.bitAnd r.2 (bitsOf k (ixOf cells its)) = 0)).map fun r => (r.1 ++ [lpair s its], Builtin.bitOr r.2 (bitsOf k (ixOf cells its)))
def lStart (k : Nat) (found : List LRow) : List LRow := found.filter fun r => decide (Builtin.bitAnd (r.2 / 2 ^ k) 1 = 1)
def lAfter (cells : List Pt) (k : Nat) (s : Pt) (found : List LRow) (gs : List Pt) : List LRow := gs.foldl (lIts cells k s found) (lStart k found)
def lStep (cells : List Pt) (found : List LRow) (p : Pt × Nat) : List LRow := lAfter cells p.2 p.1 found (goodsL cells p.1)
def lFound (cells : List Pt) (g : Pt) (ps : List (Pt × Nat)) : List LRow := ps.foldl (lStep cells) [([], 1 * 2 ^ ixOf cells g)]
def lfloorsL (S : List Pt) (g : Pt) : List Fl := ((lFound (lcellsL S) g (lcellsL S).zipIdx).map fun r => setF r.1).mergeSort leT
structure LfOk (S : List Pt) (g : Pt) : Prop where
  len : S.length ≤ 100
  cnd : (lcellsL S).Nodup
  clen : (lcellsL S).length ≤ 60
  gin : g ∈ lcellsL S
  few : ∀ j, j ≤ (lcellsL S).length → (lFound (lcellsL S) g ((lcellsL S).zipIdx.take j)).length ≤ 500000
  few2 : ∀ (j : Nat) s, (lcellsL S)[j]? = some s → ∀ m, (lAfter (lcellsL S) j s (lFound (lcellsL S) g ((lcellsL S).zipIdx.take j)) ((goodsL (lcellsL S) s).take m)).length ≤ 500000
  rows : ∀ j, j ≤ (lcellsL S).length → ∀ r ∈ lFound (lcellsL S) g ((lcellsL S).zipIdx.take j), r.1.length ≤ 100
  ne : ∀ r ∈ lFound (lcellsL S) g (lcellsL S).zipIdx, r.1 ≠ []
theorem goods_ix {cells : List Pt} {s o : Pt} (h : o ∈ goodsL cells s) : look (numD cells) o = some (.int (ixOf cells o)) ∧ ixOf cells o < cells.length := by
  have h2 := (List.mem_filter.mp h).2
  rw [look_num] at h2 ⊢
  unfold ixOf
  cases e : atP cells o with
  | none => rw [e] at h2; cases h2
  | some i => exact ⟨rfl, atP_some e⟩
section
variable {P : Program} {w : World} {K : PySem.W.Frag} {mg : Str → Option Value} {base : Heap}
abbrev n59 : List Str := ["_law_ground", "_law_gap_so", "_law_cells_so", "_law_number_so", "_law_found", "_law_k", "_law_spot", "_law_goods_so", "_law_later_so", "_law_its", "_law_pair_so", "_law_bits_so", "_law_rest_so", "_law_own"]
theorem sc59 : FnScope n59 ["_law_ground", "_law_gap_so"] (defScope (top 59)) := ⟨rfl, rfl, rfl, by decide +kernel, rfl, by decide +kernel, by decide +kernel⟩
def scAt (k : Nat) : List Stmt → Scope
  | .Assign _ (.Call _ [.ListComp _ _ sc _] _ _) _ :: r => if k = 0 then sc else scAt (k - 1) r
  | .Assign _ (.ListComp _ _ sc _) _ :: r => if k = 0 then sc else scAt (k - 1) r
  | .Assign _ (.BinOp _ _ (.ListComp _ _ sc _) _) _ :: r => if k = 0 then sc else scAt (k - 1) r
  | _ :: r => scAt k r
  | [] => defScope (top 7)
def forBody : List Stmt → List Stmt
  | .For _ _ b _ _ :: _ => b
  | _ :: r => forBody r
  | [] => []
theorem bk59a : BlkOk n59 (defScope (top 59)) (scAt 0 (defBody (top 59))) [("_law_k", 5), ("_law_own", 13)] := ⟨by decide +kernel, by decide +kernel, by decide +kernel, by decide +kernel, by decide +kernel⟩
theorem bk59b : BlkOk n59 (defScope (top 59)) (scAt 0 (forBody (defBody (top 59)))) [("_law_own", 13)] := ⟨by decide +kernel, by decide +kernel, by decide +kernel, by decide +kernel, by decide +kernel⟩
theorem bk59c : BlkOk n59 (defScope (top 59)) (scAt 1 (forBody (defBody (top 59)))) [("_law_own", 13)] := ⟨by decide +kernel, by decide +kernel, by decide +kernel, by decide +kernel, by decide +kernel⟩
theorem bk59d : BlkOk n59 (defScope (top 59)) (scAt 0 (forBody (forBody (defBody (top 59))))) [("_law_own", 13)] := ⟨by decide +kernel, by decide +kernel, by decide +kernel, by decide +kernel, by decide +kernel⟩
theorem bk59e : BlkOk n59 (defScope (top 59)) (scAt 1 (forBody (forBody (defBody (top 59))))) [("_law_own", 13)] := ⟨by decide +kernel, by decide +kernel, by decide +kernel, by decide +kernel, by decide +kernel⟩
theorem bk59f : BlkOk n59 (defScope (top 59)) (match (defBody (top 59)).getLast? with | some (.Return (some (.Call _ [.ListComp _ _ sc _] _ _)) _) => sc | _ => defScope (top 7)) [("_law_own", 13)] := ⟨by decide +kernel, by decide +kernel, by decide +kernel, by decide +kernel, by decide +kernel⟩
def R59 : List PyData → PyData → Prop := fun ds d => ∃ (S : List Pt) (g : Pt), ds = [.tuple (S.map D), D g] ∧ LfOk S g ∧ d = D (lfloorsL S g)
def lrowsD (rs : List LRow) : PyData := .list (rs.map lrowD)
def slots59 (S : List Pt) (g : Pt) (cells : List Pt) (found : List LRow) : List SV := [.dat (.tuple (S.map D)), .dat (D g), .dat (D cells), .dic (numD cells), .dat (lrowsD found), .no, .no, .no, .no, .no, .no, .no, .no, .no]
theorem shl_ok {k : Nat} (h : k ≤ 1000) : CPow 1 (k : Int) := ⟨by omega, by omega, by decide⟩
theorem c59 (F : Def K mg "_law_floors" (top 59)) (b : Blt mg) (C55 : Cal P w K mg base 1 "_law_cells_of" ["_law_ground"] R55) (C58 : Cal P w K mg base 2 "_law_pair" ["_law_one_here", "_law_two"] R58) : Cal P w K mg base 3 "_law_floors" ["_law_ground", "_law_gap_so"] R59 :=
  cal_of F sc59 (fun _ _ _ _ _ _ us hl => match us, hl with | [_, _], _ => rfl) (fun ds d ⟨_, _, e, _⟩ => by rw [e]; rfl) fun f cdv A outer s H E hr ds d ⟨S, g, e1, ok, e2⟩ => by
    subst e1 e2
    obtain ⟨k1, k2, k3, k4, k5, k6, k7, k8⟩ := ok
    unfold lfloorsL
    generalize hcells : lcellsL S = cells at k2 k3 k4 k5 k6 k7 k8
    obtain ⟨gi, hgi⟩ := atP_mem k4
    have hgl := atP_some hgi
    have lkg : look (numD cells) g = some (.int (ixOf cells g)) := by rw [look_num]; unfold ixOf; rw [hgi]; rfl
    have ixg : ixOf cells g ≤ 1000 := by unfold ixOf; rw [hgi]; show gi ≤ 1000; omega
    have zl : cells.zipIdx.length = cells.length := by rw [List.length_zipIdx]
    have zat : ∀ (j : Nat) a, cells.zipIdx[j]? = some a → cells[j]? = some a.1 ∧ a.2 = j := fun j a h => by
      rw [List.getElem?_zipIdx] at h
      obtain ⟨x, h1, h2⟩ := Option.map_eq_some_iff.mp h
      subst h2
      exact ⟨h1, by simp⟩
    refine pb_cons (pn_set (d := D cells) 2 sc59.nd (pdc C55 (hr.mono (by decide)) (pda_cons (pd_v 0) pda_nil) ⟨S, _, rfl, .inl rfl, by omega, by rw [hcells]⟩)) (pb_cons (pn_dic (kds := numD cells) 3 sc59.nd (pw_dictP rfl (ru hr.units (k := 2)) b.dict (pda_cons (pd_of_eq (pd_lcG (own := [("_law_k", 5), ("_law_own", 13)]) (is := [5] ++ ([13] ++ [])) cells.zipIdx (fun a => .tuple [.int a.2, D a.1]) (fun a => ((((begS n59 [.tuple (S.map D), D g]).set 2 (.dat (D cells))).set 5 (.dat (.int a.2))).set 13 (.dat (D a.1)))) (fun _ => true) (fun a => .tuple [D a.1, .int a.2]) rfl sc59.nd
      (pdi_enum b.enum (pda_cons (pd_v 2) pda_nil)) (by rw [zl, List.length_map]) (fun j a h => ?_) bk59a (by decide) (by rw [zl, sizeLine_eq]; omega) (fun a _ s H C cl fp => pdg_tup (ds := [.int a.2, D a.1]) rfl (pdgs_cons (pdg 5 sc59.nd) (pdgs_cons (pdg 13 sc59.nd) pdgs_nil))) (fun a _ s H C cl fp => pdts_nil) fun a _ _ s H C cl fp => pd_tup (pda_cons (pd_v 13) (pda_cons (pd_v 5) pda_nil))) ?_) pda_nil) ?_))
      (pb_cons (pn_set (d := lrowsD [([], 1 * 2 ^ ixOf cells g)]) 4 sc59.nd (pd_lst (pda_cons (pd_tup (pda_cons (pd_tup pda_nil) (pda_cons (pd_shl pd_int (pd_getD 3 (ru1 hr.units (k := 0)) (pd_v 1) lkg) (shl_ok ixg)) pda_nil))) pda_nil)))
      (pb_cons (pn_for (n := ((cells.map (fun c : Pt => D c)).length)) (fun j => slots59 S g cells (lFound cells g (cells.zipIdx.take j))) (fun j => match cells[j]? with | some c => ((slots59 S g cells (lFound cells g (cells.zipIdx.take j))).set 5 (.dat (.int j))).set 6 (.dat (D c)) | none => []) (fun j => slots59 S g cells (lFound cells g (cells.zipIdx.take (j + 1)))) (fun _ => emp) (is := fun _ => [5] ++ ([6] ++ [])) PassesOwn.never rfl (pdi_enum b.enum (pda_cons (pd_v 2) pda_nil)) (leS.refl _) (fun j hj => ?_) (fun j hj => ?_) fun j hj => leS.refl _) ?_)))
    · obtain ⟨h1, h2⟩ := zat j a h
      show PyData.tuple [.int j, (cells.map D).getD j .none] = _
      rw [getD_map h1, ← h2]
    · rw [filter_yes]; unfold numD; rw [List.map_map]; rfl
    · have e : (numD cells).map (fun a => a.1) = cells := by
        unfold numD
        rw [List.map_map]
        exact List.zipIdx_map_fst 0 cells
      exact e.symm ▸ k2
    · have hj : j < cells.length := by rw [List.length_map] at hj; exact hj
      have hc : cells[j]? = some cells[j] := List.getElem?_eq_getElem hj
      have e : (cells.map (fun c : Pt => D c)).getD j .none = D cells[j] := getD_map hc
      simp only [hc, e]
      exact pdg_tup (ds := [.int j, D cells[j]]) rfl (pdgs_cons (pdg 5 sc59.nd) (pdgs_cons (pdg 6 sc59.nd) pdgs_nil))
    · have hj : j < cells.length := by rw [List.length_map] at hj; exact hj
      have hc : cells[j]? = some cells[j] := List.getElem?_eq_getElem hj
      simp only [hc]
      have hz : cells.zipIdx[j]? = some (cells[j], j) := by rw [List.getElem?_zipIdx, hc]; simp
      have nx : lFound cells g (cells.zipIdx.take (j + 1)) = lAfter cells j cells[j] (lFound cells g (cells.zipIdx.take j)) (goodsL cells cells[j]) := by
        unfold lFound
        rw [take_next' hz, List.foldl_append]
        rfl
      have few := k5 j (by omega)
      have few2 := k6 j cells[j] hc
      have rowl := k7 j (by omega)
      generalize cells[j] = s at nx few2
      generalize lFound cells g (cells.zipIdx.take j) = fd at nx few few2 rowl
      rw [nx]
      have nm : fd.map lrowD = fd.map fun r => lrowD r := rfl
      have big : ∀ n, n ≤ 1000000 → n < 2000000 := fun n h => by omega
      have gl : (goodsL cells s).length ≤ 2 := List.length_filter_le _ _
      refine pns_w (pns_cons (pn_setC (ds := (goodsL cells s).map D) 7 (pw_lcf 13 ([(s.1, s.2 + 1), (s.1 + 1, s.2)] : List Pt) D D (fun o => (look (numD cells) o).isSome) rfl sc59.nd (pdi_tup (ds := [D ((s.1, s.2 + 1) : Pt), D ((s.1 + 1, s.2) : Pt)]) (pd_tup (pda_cons (pd_tup (pda_cons (pd_ixT (d := .int s.1) (pd_v 6) pd_int) (pda_cons (pd_add (pd_ixT (d := .int s.2) (pd_v 6) pd_int) pd_int) pda_nil))) (pda_cons (pd_tup (pda_cons (pd_add (pd_ixT (d := .int s.1) (pd_v 6) pd_int) pd_int) (pda_cons (pd_ixT (d := .int s.2) (pd_v 6) pd_int) pda_nil))) pda_nil)))) bk59b (by show 2 < _; omega)
          (fun o _ s H C cl fp => pdt_inD 3 (ru1 hr.units (k := 0)) (pd_v 13)) fun o _ s H C cl fp => pd_v 13))
        (pns_cons (pn_setC (ds := (lStart j fd).map lrowD) 8 (pw_lcf 13 fd lrowD lrowD (fun r => decide (Builtin.bitAnd (r.2 / 2 ^ j) 1 = 1)) rfl sc59.nd (pdi_list (ds := fd.map lrowD) (pd_v 4)) bk59c (by omega)
          (fun r _ s H C cl fp => pdt_eq (α := Int) (ru hr.units) (pd_band (pd_shr (i := r.2) (j := (j : Int)) (pd_ixT (d := .int r.2) (pd_v 13) pd_int) (pd_v 5) (by omega)) pd_int) pd_int) fun r _ s H C cl fp => pd_v 13))
        (pns_cons (ρ1 := ((((slots59 S g cells fd).set 5 (.dat (.int j))).set 6 (.dat (D s))).set 7 (.dat (.list ((goodsL cells s).map D)))).set 8 (.dat (lrowsD (lAfter cells j s fd (goodsL cells s))))) (M1 := emp) ?_ (pns_one (pn_set 4 sc59.nd (pd_v 8))))))
      refine pn_w (ρ1 := ((((slots59 S g cells fd).set 5 (.dat (.int j))).set 6 (.dat (D s))).set 7 (.dat (.list ((goodsL cells s).map D)))).set 8 (.dat (lrowsD (lAfter cells j s fd ((goodsL cells s).take ((goodsL cells s).map (fun c : Pt => D c)).length))))) (pn_for (n := ((goodsL cells s).map (fun c : Pt => D c)).length) (dat := fun m => ((goodsL cells s).map (fun c : Pt => D c)).getD m .none) (fun m => ((((slots59 S g cells fd).set 5 (.dat (.int j))).set 6 (.dat (D s))).set 7 (.dat (.list ((goodsL cells s).map D)))).set 8 (.dat (lrowsD (lAfter cells j s fd ((goodsL cells s).take m))))) (fun m => (((((slots59 S g cells fd).set 5 (.dat (.int j))).set 6 (.dat (D s))).set 7 (.dat (.list ((goodsL cells s).map D)))).set 8 (.dat (lrowsD (lAfter cells j s fd ((goodsL cells s).take m))))).set 9 (.dat (((goodsL cells s).map (fun c : Pt => D c)).getD m .none)))
        (fun m => ((((slots59 S g cells fd).set 5 (.dat (.int j))).set 6 (.dat (D s))).set 7 (.dat (.list ((goodsL cells s).map D)))).set 8 (.dat (lrowsD (lAfter cells j s fd ((goodsL cells s).take (m + 1)))))) (fun _ => emp) (is := fun _ => [9]) PassesOwn.never rfl (pdi_list (ds := (goodsL cells s).map D) (pd_v 7)) ⟨.inr rfl, .inr rfl, .inr rfl, .inr rfl, .inr rfl, .inr rfl, .inr rfl, .inr rfl, .inr rfl, .inr rfl, .inr rfl, .inr rfl, .inr rfl, .inr rfl, trivial⟩ (fun m hm => pdg 9 sc59.nd) (fun m hm => ?_) fun m hm => leS.refl _) (by rw [List.length_map, List.take_length]; exact leS.refl _)
      obtain ⟨its, hits, hd⟩ := atm (xs := goodsL cells s) (g := fun c : Pt => D c) hm
      rw [hd]
      obtain ⟨lk, ixl⟩ := goods_ix (List.mem_of_getElem? hits)
      have nx2 : lAfter cells j s fd ((goodsL cells s).take (m + 1)) = lIts cells j s fd (lAfter cells j s fd ((goodsL cells s).take m)) its := by
        unfold lAfter
        rw [take_next' hits, List.foldl_append]
        rfl
      have f1 := few2 m
      have f2 := few2 (m + 1)
      rw [nx2] at f2 ⊢
      generalize lAfter cells j s fd ((goodsL cells s).take m) = later at f1 f2
      have restl := List.length_filter_le (fun r : LRow => decide (Builtin.bitAnd r.2 (bitsOf j (ixOf cells its)) = 0)) fd
      refine pns_w (pns_cons (pn_asg (d := .tuple [D (lpair s its), .int (bitsOf j (ixOf cells its))]) (pd_tup (pda_cons (pdc C58 hr (pda_cons (pd_v 6) (pda_cons (pd_v 9) pda_nil)) ⟨s, its, rfl, rfl⟩) (pda_cons (pd_bor (pd_shl (j := (j : Int)) pd_int (pd_v 5) (shl_ok (by omega))) (pd_shl pd_int (pd_getD 3 (ru1 hr.units (k := 0)) (pd_v 9) lk) (shl_ok (by omega)))) pda_nil))) (pdg_tup (ds := [D (lpair s its), .int (bitsOf j (ixOf cells its))]) rfl (pdgs_cons (pdg 10 sc59.nd) (pdgs_cons (pdg 11 sc59.nd) pdgs_nil))))
        (pns_cons (pn_setC (ds := (fd.filter fun r : LRow => decide (Builtin.bitAnd r.2 (bitsOf j (ixOf cells its)) = 0)).map lrowD) 12 (pw_lcf 13 fd lrowD lrowD (fun r : LRow => decide (Builtin.bitAnd r.2 (bitsOf j (ixOf cells its)) = 0)) rfl sc59.nd (pdi_list (ds := fd.map lrowD) (pd_v 4)) bk59d (by omega)
          (fun r _ s H C cl fp => pdt_eq (α := Int) (ru hr.units) (pd_band (pd_ixT (d := .int r.2) (pd_v 13) pd_int) (pd_v 11)) pd_int) fun r _ s H C cl fp => pd_v 13))
        (pns_one (pn_set 8 sc59.nd (pd_of_eq (pd_catL (ds := later.map lrowD) (es := ((fd.filter fun r : LRow => decide (Builtin.bitAnd r.2 (bitsOf j (ixOf cells its)) = 0)).map fun r => lrowD (r.1 ++ [lpair s its], Builtin.bitOr r.2 (bitsOf j (ixOf cells its))))) (pd_v 8) (pd_lcm 13 (fd.filter fun r : LRow => decide (Builtin.bitAnd r.2 (bitsOf j (ixOf cells its)) = 0)) lrowD (fun r => lrowD (r.1 ++ [lpair s its], Builtin.bitOr r.2 (bitsOf j (ixOf cells its)))) rfl sc59.nd (pdi_list (ds := (fd.filter fun r : LRow => decide (Builtin.bitAnd r.2 (bitsOf j (ixOf cells its)) = 0)).map lrowD) (pd_v 12)) bk59e (by omega)
          fun r hr2 s2 H C cl fp => pd_tup (pda_cons (pd_of_eq (pd_catT (ds := r.1.map D) (es := [D (lpair s its)]) (pd_ixT (d := .tuple (r.1.map D)) (pd_v 13) pd_int) (pd_tup (pda_cons (pd_v 10) pda_nil)) ?_) ?_) (pda_cons (pd_bor (pd_ixT (d := .int r.2) (pd_v 13) pd_int) (pd_v 11)) pda_nil))) ?_) ?_)))))
      · have := rowl r (List.mem_filter.mp hr2).1
        rw [List.length_map, sizeLine_eq]
        show r.1.length + 1 ≤ _
        omega
      · rw [List.map_append]; rfl
      · rw [List.length_map, List.length_map, sizeLine_eq]; omega
      · show PyData.list _ = .list _
        unfold lIts
        rw [List.map_append, List.map_map]
        rfl
    · have e : (cells.map (fun c : Pt => D c)).length = cells.length := by rw [List.length_map]
      rw [e]
      have tk : cells.zipIdx.take cells.length = cells.zipIdx := List.take_of_length_le (Nat.le_of_eq zl)
      have few := k5 cells.length (Nat.le_refl _)
      rw [tk] at few ⊢
      have rowl := k7 cells.length (Nat.le_refl _)
      rw [tk] at rowl
      generalize lFound cells g cells.zipIdx = fd at few rowl k8
      refine pb_ret (pd_of_eq (pd_sortL b.sorted (pda_cons (pd_lcm 13 fd lrowD (fun r => D (setF r.1)) rfl sc59.nd (pdi_list (ds := fd.map lrowD) (pd_v 4)) bk59f (by omega) fun r hr2 s H C cl fp => ?_) pda_nil) ?_) ?_)
      · exact pd_tupleL b.tuple (pda_cons (pd_of_eq (pd_sortT b.sorted (pda_cons (pd_ixT (d := .tuple (r.1.map D)) (pd_v 13) pd_int) pda_nil) (srt_cp r.1 (by have := rowl r hr2; rw [sizeLine_eq]; omega) (by rw [Nat.add_assoc]; exact ru hr.units))) (by rw [sort_D]; rfl)) pda_nil)
      · have e : (fd.map fun r => D (setF r.1)) = (fd.map fun r => setF r.1).map D := by rw [List.map_map]; rfl
        rw [e]
        refine srt_fl _ (by rw [List.length_map, sizeLine_eq]; omega) (fun x hx => ?_) (by rw [Nat.add_assoc]; exact ru hr.units)
        obtain ⟨r, hr2, rfl⟩ := List.mem_map.mp hx
        intro z
        have z : r.1.mergeSort leT = [] := z
        have := List.length_mergeSort (le := leT) r.1
        rw [z] at this
        exact k8 r hr2 (List.eq_nil_of_length_eq_zero this.symm)
      · have e : (fd.map fun r => D (setF r.1)) = (fd.map fun r => setF r.1).map D := by rw [List.map_map]; rfl
        rw [e, sort_D]
        rfl
end
end Hf

/-! ## HfL3 -/
set_option Elab.async false
set_option linter.all false
set_option maxRecDepth 100000
set_option maxHeartbeats 1000000
/-! The law's own defs, 3: _law_lists, _law_same, _law_boxed, _law_one, _law_heard. -/
namespace Hf
open L2 PySem PySem.Spec PyProof.Rows
open PySem.W (Datum DatumOrd Tup EachIs AllAlike Sortable dataLe)
section
variable {X : Cx} {ρ : List SV} {e : Expr} {pos p : Pos} {j : Nat} {d : PyData}
def notNon : PyData → Bool
  | .none => false
  | _ => true
theorem pd_isNone (hd : notNon d = true) (h : PD X ρ e d) : PD X ρ (.Compare e [.Is] [.Constant .none j p] pos) (.bool false) :=
  pd_cmp op_isN h pd_non (nomark _) fun v u H0 H Q s d1 d2 q => by
    cases d2
    refine ⟨rfl, ?_⟩
    have e : decide (v = V.non) = false := by
      cases d1 with
      | non => cases hd
      | bl b => rfl
      | int i => rfl
      | str x => rfl
      | lst _ _ => rfl
      | tup _ _ => rfl
    rw [e]
    exact q _ _ _ (.refl s) (.bl _)
theorem pdt_isNone (hd : notNon d = true) (h : PD X ρ e d) : PDT X ρ (.Compare e [.Is] [.Constant .none j p] pos) false :=
  pdt_cmp op_isN h pd_non (nomark _) fun v u H0 H Q s d1 d2 q => by
    cases d2
    refine ⟨rfl, ?_⟩
    have e : decide (v = V.non) = false := by
      cases d1 with
      | non => cases hd
      | bl b => rfl
      | int i => rfl
      | str x => rfl
      | lst _ _ => rfl
      | tup _ _ => rfl
    rw [e]
    exact q _ _ _ (.refl s) (.bl _)
end
section
variable {P : Program} {w : World} {K : PySem.W.Frag} {mg : Str → Option Value} {base : Heap}
/-! _law_lists -/
theorem sc52 : FnScope ["_law_matter", "_law_bit"] ["_law_matter"] (defScope (top 52)) := ⟨rfl, rfl, rfl, by decide +kernel, rfl, by decide +kernel, by decide +kernel⟩
def listN : Nat → PyData → PyData
  | n + 1, .list ds => .list (ds.map (listN n))
  | n + 1, .tuple ds => .list (ds.map (listN n))
  | _, e => e
def R52 (n : Nat) : List PyData → PyData → Prop := fun ds d => ∃ e, ds = [e] ∧ Nest n e ∧ d = listN n e
theorem bk52 : BlkOk ["_law_matter", "_law_bit"] (defScope (top 52)) (match defBody (top 52) with | [.Return (some (.IfExp _ (.ListComp _ _ sc _) _ _)) _] => sc | _ => defScope (top 7)) [("_law_bit", 1)] :=
  ⟨by decide +kernel, by decide +kernel, by decide +kernel, by decide +kernel, by decide +kernel⟩
theorem c52 (F : Def K mg "_law_lists" (top 52)) (b : Blt mg) : ∀ n, Cal P w K mg base (n + 1) "_law_lists" ["_law_matter"] (R52 n)
  | 0 => cal_of F sc52 (fun _ _ _ _ _ _ us hl => match us, hl with | [_], _ => rfl) (fun ds d ⟨_, e, _, _⟩ => by rw [e]; rfl) fun f cdv A outer s H E hr ds d ⟨e, e1, ⟨i, hi⟩, e2⟩ => by
    subst e1 e2 hi
    exact pb_ret (pd_if (c := false) (pdt_val (pd_isi2 (d := .int i) b.isi b.list b.tuple (pd_v 0) boot_list' boot_tuple kit_il kit_it)) (fun h => nomatch h) fun _ => pd_v 0)
  | n + 1 => cal_of F sc52 (fun _ _ _ _ _ _ us hl => match us, hl with | [_], _ => rfl) (fun ds d ⟨_, e, _, _⟩ => by rw [e]; rfl) fun f cdv A outer s H E hr ds d ⟨e, e1, hn, e2⟩ => by
    subst e1 e2
    have rec_ := c52 F b n
    rcases hn with ⟨i, hi⟩ | ⟨xs, hx, hl, hall⟩
    · subst hi
      exact pb_ret (pd_if (c := false) (pdt_val (pd_isi2 (d := .int i) b.isi b.list b.tuple (pd_v 0) boot_list' boot_tuple kit_il kit_it)) (fun h => nomatch h) fun _ => pd_v 0)
    · have nm : ∀ (xs : List PyData), xs.map (fun d => d) = xs := fun xs => List.map_id' xs
      rcases hx with hx | hx
      · subst hx
        exact pb_ret (pd_if (c := true) (pdt_val (pd_isi2 (d := .list xs) b.isi b.list b.tuple (pd_v 0) boot_list' boot_tuple kit_ll kit_lt)) (fun _ => pd_lcm 1 xs (fun d => d) (listN n) rfl sc52.nd (by rw [nm]; exact pdi_list (pd_v 0)) bk52 (by omega)
          fun a ha s H C cl fp => pdc rec_ hr (pda_cons (pd_v 1) pda_nil) ⟨a, rfl, hall a ha, rfl⟩) fun h => nomatch h)
      · subst hx
        exact pb_ret (pd_if (c := true) (pdt_val (pd_isi2 (d := .tuple xs) b.isi b.list b.tuple (pd_v 0) boot_list' boot_tuple kit_tl kit_tt)) (fun _ => pd_lcm 1 xs (fun d => d) (listN n) rfl sc52.nd (by rw [nm]; exact pdi_tup (pd_v 0)) bk52 (by omega)
          fun a ha s H C cl fp => pdc rec_ hr (pda_cons (pd_v 1) pda_nil) ⟨a, rfl, hall a ha, rfl⟩) fun h => nomatch h)
/-! _law_same, of equal data -/
abbrev n53 : List Str := ["_law_got", "_law_due", "_law_mine", "_law_its"]
theorem sc53 : FnScope n53 ["_law_got", "_law_due"] (defScope (top 53)) := ⟨rfl, rfl, rfl, by decide +kernel, rfl, by decide +kernel, by decide +kernel⟩
def Leaf : PyData → Prop
  | .int _ => True
  | .bool _ => True
  | .str _ => True
  | _ => False
def NestS : Nat → PyData → Prop
  | 0, e => Leaf e
  | n + 1, e => Leaf e ∨ ∃ ds, (e = .list ds ∨ e = .tuple ds) ∧ ds.length ≤ 100000 ∧ ∀ x ∈ ds, NestS n x
def R53 (n : Nat) : List PyData → PyData → Prop := fun ds d => ∃ e, ds = [e, e] ∧ NestS n e ∧ d = .bool true
theorem bk53 : BlkOk n53 (defScope (top 53)) (match defBody (top 53) with | .If _ [_, .Return (some (.BoolOp _ [_, .Call _ [.ListComp _ _ sc _] _ _] _)) _] _ _ :: _ => sc | _ => defScope (top 7)) [("_law_mine", 2), ("_law_its", 3)] :=
  ⟨by decide +kernel, by decide +kernel, by decide +kernel, by decide +kernel, by decide +kernel⟩
theorem same_leaf {f : Addr} {cdv : Value} {A : Around} {outer : List Env} {s : Shared} {H : Hp} {E : XK} {k : Nat} (b : Blt mg) (hr : Room k (A.deeper (envOfC "_law_same" (defScope (top 53)) s.heap.objs.size f cdv))) (e : PyData) (h : Leaf e) :
    PB (cxOf CX0 P w K mg base n53 "_law_same" (defScope (top 53)) f cdv A outer s H E).nox (begS n53 [e, e]) emp (defBody (top 53)) (.bool true) := by
  cases e with
  | int i =>
    exact pb_if (b := false) (pdt_val (pd_isi2 (d := .int i) b.isi b.list b.tuple (pd_v 1) boot_list' boot_tuple kit_il kit_it)) (fun h => nomatch h) fun _ => pb_if (b := false) (pdw_or (pdt_isNone (d := .int i) rfl (pd_v 1)) fun _ => pdw_or1 (pdt_val (pd_isi2 (d := .int i) b.isi b.bool b.str (pd_v 1) boot_bool' boot_str' kit_ib kit_is))).pt (fun h => nomatch h) fun _ =>
      pb_ret (pd_and (c := true) (pd_isi (d := .int i) b.isi b.int (pd_v 0) boot_int' kit_ii) (fun _ => pd_and2 (c := true) (c' := true) (pd_not (c := false) (pd_isi (d := .int i) b.isi b.bool (pd_v 0) boot_bool' kit_ib)) fun _ => pd_of_eq (pd_eq (α := Int) (x := i) (y := i) (ru hr.units) (pd_v 0) (pd_v 1)) (by simp)) fun h => nomatch h)
  | bool i =>
    exact pb_if (b := false) (pdt_val (pd_isi2 (d := .bool i) b.isi b.list b.tuple (pd_v 1) boot_list' boot_tuple kit_bl kit_bt)) (fun h => nomatch h) fun _ => pb_if (b := true) (pdw_or (pdt_isNone (d := .bool i) rfl (pd_v 1)) fun _ => pdw_or1 (pdt_val (pd_isi2 (d := .bool i) b.isi b.bool b.str (pd_v 1) boot_bool' boot_str' kit_bb kit_bs))).pt (fun _ =>
      pb_ret (pd_and (c := true) (pd_of_eq (pd_eq (α := Bool) (x := i) (y := i) (ru hr.units) (pd_v 0) (pd_v 1)) (by simp)) (fun _ => pd_and2 (c := true) (c' := true) (pd_eq (α := Bool) (x := true) (y := true) (ru hr.units) (pd_isi (d := .bool i) b.isi b.bool (pd_v 0) boot_bool' kit_bb) (pd_isi (d := .bool i) b.isi b.bool (pd_v 1) boot_bool' kit_bb)) fun _ => pd_eq (α := Bool) (x := false) (y := false) (ru hr.units) (pd_isNone (d := .bool i) rfl (pd_v 0)) (pd_isNone (d := .bool i) rfl (pd_v 1))) fun h => nomatch h)) fun h => nomatch h
  | str i =>
    exact pb_if (b := false) (pdt_val (pd_isi2 (d := .str i) b.isi b.list b.tuple (pd_v 1) boot_list' boot_tuple kit_sl kit_st)) (fun h => nomatch h) fun _ => pb_if (b := true) (pdw_or (pdt_isNone (d := .str i) rfl (pd_v 1)) fun _ => pdw_or1 (pdt_val (pd_isi2 (d := .str i) b.isi b.bool b.str (pd_v 1) boot_bool' boot_str' kit_sb kit_ss))).pt (fun _ =>
      pb_ret (pd_and (c := true) (pd_of_eq (pd_eq (α := Str) (x := i) (y := i) (ru hr.units) (pd_v 0) (pd_v 1)) (by simp)) (fun _ => pd_and2 (c := true) (c' := true) (pd_eq (α := Bool) (x := false) (y := false) (ru hr.units) (pd_isi (d := .str i) b.isi b.bool (pd_v 0) boot_bool' kit_sb) (pd_isi (d := .str i) b.isi b.bool (pd_v 1) boot_bool' kit_sb)) fun _ => pd_eq (α := Bool) (x := false) (y := false) (ru hr.units) (pd_isNone (d := .str i) rfl (pd_v 0)) (pd_isNone (d := .str i) rfl (pd_v 1))) fun h => nomatch h)) fun h => nomatch h
  | none => exact h.elim
  | list _ => exact h.elim
  | tuple _ => exact h.elim
  | dict _ => exact h.elim
theorem c53 (F : Def K mg "_law_same" (top 53)) (b : Blt mg) : ∀ n, Cal P w K mg base (n + 1) "_law_same" ["_law_got", "_law_due"] (R53 n)
  | 0 => cal_of F sc53 (fun _ _ _ _ _ _ us hl => match us, hl with | [_, _], _ => rfl) (fun ds d ⟨_, e, _, _⟩ => by rw [e]; rfl) fun f cdv A outer s H E hr ds d ⟨e, e1, hi, e2⟩ => by
    subst e1 e2
    exact same_leaf b hr e hi
  | n + 1 => cal_of F sc53 (fun _ _ _ _ _ _ us hl => match us, hl with | [_, _], _ => rfl) (fun ds d ⟨_, e, _, _⟩ => by rw [e]; rfl) fun f cdv A outer s H E hr ds d ⟨e, e1, hn, e2⟩ => by
    subst e1 e2
    have rec_ := c53 F b n
    rcases hn with hi | ⟨xs, hx, hl, hall⟩
    · exact same_leaf b hr e hi
    · have al : ((xs.map fun _ => true).all id) = true := by simp
      have comp : ∀ {X : Cx} {ρ : List SV}, True := trivial
      rcases hx with hx | hx
      · subst hx
        refine pb_if (b := true) (pdt_val (pd_isi2 (d := .list xs) b.isi b.list b.tuple (pd_v 1) boot_list' boot_tuple kit_ll kit_lt)) (fun _ => pb_if (b := false) (pdw_or (pdt_ne (α := Bool) (x := true) (y := true) (ru hr.units) (pd_isi (d := .list xs) b.isi b.list (pd_v 0) boot_list' kit_ll) (pd_isi (d := .list xs) b.isi b.list (pd_v 1) boot_list' kit_ll)) fun _ => pdw_or1 (pdt_ne (α := Bool) (x := false) (y := false) (ru hr.units) (pd_isi (d := .list xs) b.isi b.tuple (pd_v 0) boot_tuple kit_lt) (pd_isi (d := .list xs) b.isi b.tuple (pd_v 1) boot_tuple kit_lt))).pt (fun h => nomatch h) fun _ =>
          pb_ret (pd_and2 (c := true) (c' := true) (pd_of_eq (pd_eq (α := Int) (ru hr.units) (pd_lenL (ds := xs) b.len (pda_cons (pd_v 0) pda_nil)) (pd_lenL (ds := xs) b.len (pda_cons (pd_v 1) pda_nil))) (by simp)) fun _ => pd_of_eq (pd_all (bs := xs.map fun _ => true) rfl b.all (pda_cons (pd_of_eq (pd_lcG (own := [("_law_mine", 2), ("_law_its", 3)]) (is := [2] ++ ([3] ++ [])) xs (fun d => .tuple [d, d]) (fun d => ((begS n53 [.list xs, .list xs]).set 2 (.dat d)).set 3 (.dat d)) (fun _ => true) (fun _ => .bool true) rfl sc53.nd
            (pdi_zipL b.zip (pda_cons (pd_v 0) (pda_cons (pd_v 1) pda_nil)) rfl) rfl ?_ bk53 (by decide) (by rw [sizeLine_eq]; omega) (fun d _ s H C cl fp => pdg_tup (ds := [d, d]) rfl (pdgs_cons (pdg 2 sc53.nd) (pdgs_cons (pdg 3 sc53.nd) pdgs_nil))) (fun d _ s H C cl fp => pdts_nil) fun d hd _ s H C cl fp => pdc rec_ hr (pda_cons (pd_v 2) (pda_cons (pd_v 3) pda_nil)) ⟨d, rfl, hall d hd, rfl⟩) ?_) pda_nil)) (by rw [al]))) fun h => nomatch h
        · intro j a h
          show PyData.tuple [xs.getD j .none, xs.getD j .none] = _
          rw [List.getD_eq_getElem?_getD, h]
          rfl
        · rw [filter_yes, List.map_map]; rfl
      · subst hx
        refine pb_if (b := true) (pdt_val (pd_isi2 (d := .tuple xs) b.isi b.list b.tuple (pd_v 1) boot_list' boot_tuple kit_tl kit_tt)) (fun _ => pb_if (b := false) (pdw_or (pdt_ne (α := Bool) (x := false) (y := false) (ru hr.units) (pd_isi (d := .tuple xs) b.isi b.list (pd_v 0) boot_list' kit_tl) (pd_isi (d := .tuple xs) b.isi b.list (pd_v 1) boot_list' kit_tl)) fun _ => pdw_or1 (pdt_ne (α := Bool) (x := true) (y := true) (ru hr.units) (pd_isi (d := .tuple xs) b.isi b.tuple (pd_v 0) boot_tuple kit_tt) (pd_isi (d := .tuple xs) b.isi b.tuple (pd_v 1) boot_tuple kit_tt))).pt (fun h => nomatch h) fun _ =>
          pb_ret (pd_and2 (c := true) (c' := true) (pd_of_eq (pd_eq (α := Int) (ru hr.units) (pd_lenT (ds := xs) b.len (pda_cons (pd_v 0) pda_nil)) (pd_lenT (ds := xs) b.len (pda_cons (pd_v 1) pda_nil))) (by simp)) fun _ => pd_of_eq (pd_all (bs := xs.map fun _ => true) rfl b.all (pda_cons (pd_of_eq (pd_lcG (own := [("_law_mine", 2), ("_law_its", 3)]) (is := [2] ++ ([3] ++ [])) xs (fun d => .tuple [d, d]) (fun d => ((begS n53 [.tuple xs, .tuple xs]).set 2 (.dat d)).set 3 (.dat d)) (fun _ => true) (fun _ => .bool true) rfl sc53.nd
            (pdi_zipT b.zip (pda_cons (pd_v 0) (pda_cons (pd_v 1) pda_nil)) rfl) rfl ?_ bk53 (by decide) (by rw [sizeLine_eq]; omega) (fun d _ s H C cl fp => pdg_tup (ds := [d, d]) rfl (pdgs_cons (pdg 2 sc53.nd) (pdgs_cons (pdg 3 sc53.nd) pdgs_nil))) (fun d _ s H C cl fp => pdts_nil) fun d hd _ s H C cl fp => pdc rec_ hr (pda_cons (pd_v 2) (pda_cons (pd_v 3) pda_nil)) ⟨d, rfl, hall d hd, rfl⟩) ?_) pda_nil)) (by rw [al]))) fun h => nomatch h
        · intro j a h
          show PyData.tuple [xs.getD j .none, xs.getD j .none] = _
          rw [List.getD_eq_getElem?_getD, h]
          rfl
        · rw [filter_yes, List.map_map]; rfl
end
end Hf

/-! ## HfL4 -/
set_option Elab.async false
set_option linter.all false
set_option maxRecDepth 100000
set_option maxHeartbeats 1000000
/-! The law's own defs, 4: _law_boxed, _law_one, _law_heard. -/
namespace Hf
open L2 PySem PySem.Spec PyProof.Rows
open PySem.W (Datum DatumOrd Tup EachIs AllAlike Sortable dataLe)
section
variable {P : Program} {w : World} {K : PySem.W.Frag} {mg : Str → Option Value} {base : Heap}
/-! _law_boxed -/
abbrev n62 : List Str := ["_law_many_so", "_law_high_so", "_law_found", "_law_x", "_law_y"]
theorem sc62 : FnScope n62 ["_law_many_so", "_law_high_so"] (defScope (top 62)) := ⟨rfl, rfl, rfl, by decide +kernel, rfl, by decide +kernel, by decide +kernel⟩
def bcol (h : Nat) (x : Int) : List Pt := (upto h).map fun y => (x, y)
def boxedL (m h : Nat) : List Pt := (upto m).flatMap (bcol h)
def R62 : List PyData → PyData → Prop := fun ds d => ∃ m h : Nat, ds = [.int m, .int h] ∧ m ≤ 100 ∧ h ≤ 100 ∧ d = .tuple ((boxedL m h).map D)
theorem bk62 : BlkOk n62 (defScope (top 62)) (scAt 0 (forBody (defBody (top 62)))) [("_law_y", 4)] := ⟨by decide +kernel, by decide +kernel, by decide +kernel, by decide +kernel, by decide +kernel⟩
theorem bcol_len (h : Nat) (x : Int) : (bcol h x).length = h := by unfold bcol; rw [List.length_map, upto_len]
theorem c62 (F : Def K mg "_law_boxed" (top 62)) (b : Blt mg) : Cal P w K mg base 1 "_law_boxed" ["_law_many_so", "_law_high_so"] R62 :=
  cal_of F sc62 (fun _ _ _ _ _ _ us hl => match us, hl with | [_, _], _ => rfl) (fun ds d ⟨_, _, e, _⟩ => by rw [e]; rfl) fun f cdv A outer s H E hr ds d ⟨m, h, e1, hm, hh, e2⟩ => by
    subst e1 e2
    refine pb_cons (pn_set (d := D ([] : List Pt)) 2 sc62.nd (pd_lst pda_nil)) (pb_cons (pn_for (n := ((upto m).map PyData.int).length) (dat := fun j => ((upto m).map PyData.int).getD j .none)
      (fun j => [.dat (.int m), .dat (.int h), .dat (D (((upto m).take j).flatMap (bcol h))), .no, .no]) (fun j => [.dat (.int m), .dat (.int h), .dat (D (((upto m).take j).flatMap (bcol h))), .dat (((upto m).map PyData.int).getD j .none), .no])
      (fun j => [.dat (.int m), .dat (.int h), .dat (D (((upto m).take (j + 1)).flatMap (bcol h))), .dat (((upto m).map PyData.int).getD j .none), .no]) (fun _ => emp) (is := fun _ => [3]) PassesOwn.never rfl (pdi_upto b.range (pda_cons (pd_v 0) pda_nil) (by omega)) (leS.refl _) (fun j hj => pdg 3 sc62.nd) (fun j hj => ?_)
      fun j hj => ⟨.inr rfl, .inr rfl, .inr rfl, .inl rfl, .inr rfl, trivial⟩) (pb_ret (pd_of_eq (pd_tupleL b.tuple (pda_cons (pd_v 2) pda_nil)) ?_)))
    · rw [List.length_map] at hj
      have hx : (upto m)[j]? = some (upto m)[j] := List.getElem?_eq_getElem hj
      rw [getD_map hx]
      generalize (upto m)[j] = x at hx
      have l := flat_len (bcol h) h (fun i => Nat.le_of_eq (bcol_len h i)) ((upto m).take j)
      rw [List.length_take, upto_len] at l
      have l2 : min j m ≤ 100 := by omega
      have l3 : h * min j m ≤ 100 * 100 := Nat.mul_le_mul hh l2
      refine pns_one (pn_set 2 sc62.nd (pd_of_eq (pd_catL (ds := (((upto m).take j).flatMap (bcol h)).map D) (es := (upto h).map fun y => D ((x, y) : Pt)) (pd_v 2) (pd_lcm 4 (upto h) .int (fun y => D ((x, y) : Pt)) rfl sc62.nd (pdi_upto b.range (pda_cons (pd_v 1) pda_nil) (by omega)) bk62 (by rw [upto_len]; omega)
        fun y hy s H C cl fp => pd_tup (pda_cons (pd_v 3) (pda_cons (pd_v 4) pda_nil))) ?_) ?_))
      · rw [List.length_map, List.length_map, upto_len, sizeLine_eq]
        have : (((upto m).take j).flatMap (bcol h)).length ≤ 10000 := Nat.le_trans l (by first | exact l3 | (rw [Nat.mul_comm]; exact l3))
        omega
      · rw [take_next' hx, List.flatMap_append]
        show PyData.list _ = .list (List.map D _)
        rw [List.map_append]
        simp only [List.flatMap_cons, List.flatMap_nil, List.append_nil]
        unfold bcol
        rw [List.map_map]
        rfl
    · rw [List.length_map]
      unfold boxedL
      rw [List.take_of_length_le (Nat.le_refl _)]
/-! _law_one -/
def oneY : List Pt := [(0, 0)]
def ringF : Fl := Tup.mk ([((0, 0), (1, 0)), ((0, 2), (0, 1)), ((2, 0), (2, 1)), ((2, 2), (1, 2))] : List Cp)
def R64 : List PyData → PyData → Prop := fun ds d => ds = [] ∧ d = .tuple [.tuple (oneY.map D), D ringF]
theorem c64 (F : Def K mg "_law_one" (top 64)) : Cal P w K mg base 1 "_law_one" [] R64 :=
  cal_of F sc64 (fun _ _ _ _ _ _ us hl => match us, hl with | [], _ => rfl) (fun ds d ⟨e, _⟩ => by rw [e]; rfl) fun f cdv A outer s H E hr ds d ⟨e1, e2⟩ => by
    subst e1 e2
    have pt : ∀ {X : Cx} {ρ : List SV} {i j : Int} {p1 p2 k1 k2 k3 pos}, PD X ρ (.Tuple [.Constant (.int i) k1 p1, .Constant (.int j) k2 p2] k3 pos) (D ((i, j) : Pt)) := fun {_ _ _ _ _ _ _ _ _ _} => pd_tup (pda_cons pd_int (pda_cons pd_int pda_nil))
    exact pb_ret (pd_tup (pda_cons (pd_tup (pda_cons pt pda_nil)) (pda_cons (pd_tup (pda_cons (pd_tup (pda_cons pt (pda_cons pt pda_nil))) (pda_cons (pd_tup (pda_cons pt (pda_cons pt pda_nil))) (pda_cons (pd_tup (pda_cons pt (pda_cons pt pda_nil))) (pda_cons (pd_tup (pda_cons pt (pda_cons pt pda_nil))) pda_nil))))) pda_nil)))
/-! all_floors by keywords -/
def swp {α : Type} : List α → List α → List α
  | [], [h, y] => [y, h]
  | _, _ => []
structure AskK (P : Program) (w : World) (K : PySem.W.Frag) (mg : Str → Option Value) (base : Heap) (C : Addr) (f : Addr) (fd : FuncData) : Prop where
  F : Fn P w K mg base 11 f fd ["yard", "hole"] R46
  G : FnOk P w K mg base (L2.CX P w) 11 f fd ["yard", "hole"] (spE C Q46)
  m : mg "all_floors" = some (.ref f)
  k : PySem.W.keepIn K (.ref f) = true
  b : KBinds K fd ["yard", "hole"] ["hole", "yard"] swp swp
theorem kb46 {f : Addr} {fd : FuncData} (F : Fun K "all_floors" "all_floors" (top 46) f fd) : KBinds K fd ["yard", "hole"] ["hole", "yard"] swp swp where
  to := fun s us ws hk hl => by
    obtain ⟨oc, od, kV, doc, pm, an, cdv, ct, osl, rfl, lk, hcd⟩ := F.ex
    match us, ws, hl with
    | [], [h, y], _ => exact .of_eq rfl
  rel := fun {vs us zs ws} r1 r2 => by
    cases r1 with
    | cons _ _ => exact .nil
    | nil =>
      cases r2 with
      | nil => exact .nil
      | cons a r2 =>
        cases r2 with
        | nil => exact .nil
        | cons b r2 =>
          cases r2 with
          | nil => exact .cons b (.cons a .nil)
          | cons _ _ => exact .nil
theorem k46 {C : Addr} (F : Def K mg "all_floors" (top 46)) (C21 : Cal P w K mg base 6 "sure_yard" ["yard"] R21) (C45 : Cal P w K mg base 6 "sure_hole" ["yard", "hole"] R45) (C44 : Cal P w K mg base 10 "floors_in" ["yard", "hole"] R44) (X44 : CalE P w K mg base 10 "floors_in" ["yard", "hole"] C Q44) : ∃ f fd, AskK P w K mg base C f fd := by
  obtain ⟨f, fd, F, m⟩ := F
  refine ⟨f, fd, fn_ok F sc46 (fun ds d ⟨_, _, _, _, e, _⟩ => by rw [e]; rfl) fun X ⟨cdv, A, outer, s, H, E, e, hr⟩ ds d r => ?_, ?_, m, F.kp, kb46 F⟩
  · subst e
    obtain ⟨S, h, ye, he, e1, a, ok, e2⟩ := r
    subst e1 e2
    exact pb_cons (pn_set 2 sc46.nd (pdc C21 (hr.mono (by decide)) (pda_cons (pd_v 0) pda_nil) ⟨ye, S, rfl, a.n1, a.t1, a.yd, rfl⟩)) (pb_ret (pdc C44 hr (pda_cons (pd_v 2) (pda_cons (pdc C45 (hr.mono (by decide)) (pda_cons (pd_v 2) (pda_cons (pd_v 1) pda_nil)) ⟨S, he, h, rfl, a.n2, a.t2, a.cell, a.kind, rfl⟩) pda_nil)) ⟨S, h, rfl, ok, rfl⟩))
  · obtain ⟨f2, fd2, F2, m2, k2, b2⟩ := X44
    refine F.okX sc46 (fun vs H Q E ⟨H0, ds, s, dv, ⟨S, h, ye, he, e, _⟩, _⟩ => by rw [dv.length, e]; rfl) fun cdv A outer s H vs Q E hr ⟨H0, ds, sm, dv, ⟨S, h, ye, he, e, a, ok⟩, q⟩ => ?_
    subst e
    refine ⟨fun D σ H => ∃ H0, Same H0 H ∧ EnvD H0 (begS ["yard", "hole", "own"] [ye, he]) σ ∧ ∀ H0' H', Ext H0 H H0' H' → E (.ref C) none H', ?_, H0, sm, ?_, q⟩
    · exact pss_imp (pss_cons ((show PN _ (begS ["yard", "hole", "own"] [ye, he]) _ emp emp _ from pn_set 2 sc46.nd (pdc C21 (hr.mono (by decide)) (pda_cons (pd_v 0) pda_nil) ⟨ye, S, rfl, a.n1, a.t1, a.yd, rfl⟩))) (pss_one (ps_ret (pe_callS (E := fun _ => E) F2 hr rfl m2 k2 b2 (fun σ => passAt (W := fun cls d _ H => E cls d H) (takes_of rfl rfl rfl rfl) σ) (pda_cons (pd_v 2) (pda_cons (pdc C45 (hr.mono (by decide)) (pda_cons (pd_v 2) (pda_cons (pd_v 1) pda_nil)) ⟨S, he, h, rfl, a.n2, a.t2, a.cell, a.kind, rfl⟩) pda_nil)))))) fun D σ H ⟨H0, s, ev, q⟩ => ⟨H0, H, H0, .refl s, ev, trivial, fun σ' H0' H' x s' ev' _ => ⟨H0', x.sub, ev', fun vs H1 H'' y dv => ⟨H1, _, y.sub, dv, ⟨S, h, rfl, ok⟩, fun H2 H3 z => q H2 H3 ((x.trans y).trans z)⟩⟩⟩
    · unfold L2.start begS
      rw [dv.length]
      exact env_beg dv
/-! _law_heard -/
theorem pk_imp {X : Cx} {kws : List Keyword} {t t' : TA} (h : PK X kws t) (k : ∀ σ H Q, t' σ H Q → t σ H Q) : PK X kws t' := ⟨fun pos pins s σ H Q I q => h.run pos pins s σ H Q I (k σ H Q q)⟩
theorem pdk_nil {X : Cx} {ρ : List SV} : PK X [] (tDA ρ []) := pk_imp pk_nil fun _ _ _ ⟨_, s, _, q⟩ => q _ _ _ (.refl s) .nil
theorem pdk_cons {X : Cx} {ρ : List SV} {e : Expr} {kws : List Keyword} {d : PyData} {ds : List PyData} {nm : Option Str} {kpos : Pos} (h : PD X ρ e d) (r : PK X kws (tDA ρ ds)) : PK X (⟨nm, e, kpos⟩ :: kws) (tDA ρ (d :: ds)) :=
  pk_imp (pk_cons h r) fun σ H Q ⟨H0, s, ev, q⟩ => ⟨H0, s, ev, fun v H1 H' x dv => ⟨H1, x.sub, ev.at x.s0, fun vs H2 H'' y dvs => q _ H2 H'' (x.trans y) (.cons (dv.at y.s0) dvs)⟩⟩
theorem pd_isE {X : Cx} {C a : Addr} {oe : Obj} {pn : List (Addr × Obj)} {ρ : List SV} {x : Str} {p p2 p3 pos : Pos} (i : Nat) (ec : ExcC X.K C) (ve : PySem.W.kitOne X.K (.ref C) (.type "ValueError") = some true) (hz : Zc (.ref C) none oe) (hf : ∃ vs, oe.data = .fields vs) (hm : X.mg "isinstance" = none) (hT : X.mg "ValueError" = none)
    (hi : ρ[i]? = some (.val (.ref a)) := by rfl) (hN : (X.suite a ((a, oe) :: pn)).N[i]? = some x := by rfl) (hv : Vis (X.suite a ((a, oe) :: pn)).env.scope x := by first | exact Or.inl rfl | exact Or.inr (Or.inl rfl) | exact Or.inr (Or.inr rfl)) (hd : (x == ("__debug__" : Str)) = false := by decide) (hcd : (x == ("__classdict__" : Str)) = false := by decide)
    (hg : Gl (X.suite a ((a, oe) :: pn)) "isinstance" := by rfl) (hgT : Gl (X.suite a ((a, oe) :: pn)) "ValueError" := by rfl)
    (hs : starEach [.Name x p2, .Name "ValueError" p3] (X.suite a ((a, oe) :: pn)).env = (false, eval (.Name x p2) (X.suite a ((a, oe) :: pn)).env) :: starEach [.Name "ValueError" p3] (X.suite a ((a, oe) :: pn)).env := by rfl)
    (hs2 : starEach [.Name "ValueError" p3] (X.suite a ((a, oe) :: pn)).env = (false, eval (.Name "ValueError" p3) (X.suite a ((a, oe) :: pn)).env) :: starEach [] (X.suite a ((a, oe) :: pn)).env := by rfl)
    (hpl : (backTo pos (starEach [.Name "ValueError" p3] (X.suite a ((a, oe) :: pn)).env)).any (·.1) = false := by rfl) :
    PD (X.suite a ((a, oe) :: pn)) ρ (.Call (.Name "isinstance" p) [.Name x p2, .Name "ValueError" p3] [] pos) (.bool true) :=
  pe_imp (pe_callB (call_isE ec hz hf) hg hm boot_isi (pa_cons (pv_at i hi hN hv hd hcd) (pa_cons (pe_bltn (v := .ty "ValueError") hgT hT boot_ValErr rfl (by decide) (by decide)) pa_nil hs2) hs) (he := hs) (hpl := hpl))
    fun σ H Q ⟨H0, s, ev, q⟩ => ⟨H0, ev, _, _, true, rfl, fun u r => by cases r; rfl, ve, q _ _ _ (.refl s) (.bl _)⟩
abbrev n65 : List Str := ["_law_ground", "_law_spot", "_law_told", "flaw"]
theorem sc65 : FnScope n65 ["_law_ground", "_law_spot"] (defScope (top 65)) := ⟨rfl, rfl, rfl, by decide +kernel, rfl, by decide +kernel, by decide +kernel⟩
def manyD : PyData := .list [.str "many", .bool true]
def R65 : List PyData → PyData → Prop := fun ds d => ∃ (S : List Pt) (h : Pt) (ye he : PyData), ds = [ye, he] ∧ Ask S h ye he ∧ ((FlOk S h ∧ d = D (floorsM S h)) ∨ (BigOk S h ∧ d = manyD))
theorem two_sw {H : Hp} {vs : List V} {d e : PyData} (h : DqA H vs [d, e]) : DqA H (swp [] vs) [e, d] := by
  obtain ⟨v, u, rfl, a, b⟩ := two_dq h
  exact .cons b (.cons a .nil)
def suiteB : List Stmt → List Stmt
  | _ :: .Try _ [.ExceptHandler _ _ b _] _ _ _ :: _ => b
  | _ => []
def tS65 (C : Addr) (ye he : PyData) : Addr → Value → Option Addr → TS := fun a cls dc D σ H => cls = .ref C ∧ dc = none ∧ ∃ B0 B H0, Ext B0 B H0 H ∧ EnvD H0 [.dat ye, .dat he, .dat .none, .val (.ref a)] σ ∧ ∀ σ' H0' H', Ext B0 B H0' H' → Same H0 H0' → EnvD H0' [.dat ye, .dat he, .dat manyD, .no] σ' → D.nx σ' H'
theorem c65 {C : Addr} (F : Def K mg "_law_heard" (top 65)) (b : Blt mg) (T : TmOk K mg C) (Ak : ∃ f fd, AskK P w K mg base C f fd) : Cal P w K mg base 12 "_law_heard" ["_law_ground", "_law_spot"] R65 :=
  cal_of F sc65 (fun _ _ _ _ _ _ us hl => match us, hl with | [_, _], _ => rfl) (fun ds d ⟨_, _, _, _, e, _⟩ => by rw [e]; rfl) fun f cdv A outer s H E hr ds d ⟨S, h, ye, he, e1, ask, cs⟩ => by
    subst e1
    obtain ⟨f2, fd2, K2⟩ := Ak
    refine pb_cons (pn_set (d := .none) 2 sc65.nd pd_non) (pb_cons (ρ1 := [.dat ye, .dat he, .dat d, .no]) (M1 := emp) ?_ (pb_ret (pd_v 2)))
    rcases cs with ⟨ok, e⟩ | ⟨ok, e⟩
    · subst e
      refine ps_imp (ps_try_as (i := 3) (c := .ref C) (tb := fun _ => tN [.dat ye, .dat he, .dat .none, .no] [.dat ye, .dat he, .dat (D (floorsM S h)), .no] emp emp) (ts := fun _ _ _ _ _ _ => False) (Wout := fun _ _ _ _ => False) rfl rfl sc65.nd rfl rfl ⟨rfl, by decide, Or.inl T.g⟩ takes0
        (fun W pn xe tk _ => pns_one (pn_set 2 sc65.nd (pe_imp (pe_kwS (E := fun _ => E0) K2.F hr K2.m K2.k K2.b (fun _ _ _ _ _ _ _ h => h.elim) (pdk_cons (pd_v 1) (pdk_cons (pd_v 0) pdk_nil))) fun σ H Q ⟨H0, s, ev, q⟩ => ⟨H0, s, ev, fun vs H1 H' y dv =>
          ⟨H1, _, _, y.sub, two_sw dv, ⟨S, h, ye, he, rfl, ask, ok, rfl⟩, fun v H2 H'' z dq => q v H2 H'' (y.trans z) dq⟩⟩)))
        fun a oe cls d pn hz hf => pss_never) fun D σ H q => q
    · subst e
      refine ps_imp (ps_try_as (i := 3) (c := .ref C) (tb := fun W D σ H => ∃ H0, Same H0 H ∧ EnvD H0 [.dat ye, .dat he, .dat .none, .no] σ ∧ ∀ H0' H', Ext H0 H H0' H' → W (.ref C) none σ H') (ts := tS65 C ye he) (Wout := fun _ _ _ _ => False) rfl rfl sc65.nd rfl rfl ⟨rfl, by decide, Or.inl T.g⟩ takes0
        (fun W pn xe tk _ => pss_one (ps_imp (ps_set (i := 2) sc65.nd rfl (Or.inl rfl) (pe_kwS (E := WE W) K2.G hr K2.m K2.k K2.b (fun σ => passAt tk σ) (pdk_cons (pd_v 1) (pdk_cons (pd_v 0) pdk_nil)))) fun D σ H ⟨H0, s, ev, q⟩ => ⟨H0, s, ev, fun vs H1 H' y dv =>
          ⟨H1, _, y.sub, two_sw dv, ⟨S, h, ye, he, rfl, ask, ok⟩, fun H2 H3 z => q H2 H3 (y.trans z)⟩⟩))
        fun a oe cls d pn hz hf => ⟨fun pins s9 σ H9 De I ⟨hc, hd, B0, B, H0, x, ev, q⟩ => ?_⟩) fun De σ H ⟨B0, B, H0, x, ev, _, q⟩ => ⟨H0, x.sub, ev, fun H1 H2 y => ⟨true, T.ex, fun _ a ha => ⟨rfl, rfl, B0, B, H1, x.trans y, EnvD.set (s := .val (.ref a)) rfl 3 (ev.at y.s0), fun σ' H0' H' x' s' ev' => q _ H0' H' x' (y.s0.trans s') (EnvD.set (s := .no) trivial 3 ev') trivial⟩, fun h => nomatch h⟩⟩
      subst hc hd
      have st : PNs ((cxOf CX0 P w K mg base n65 "_law_heard" (defScope (top 65)) f cdv A outer s H E).nox.suite a ((a, oe) :: pn)) [.dat ye, .dat he, .dat .none, .val (.ref a)] [.dat ye, .dat he, .dat manyD, .val (.ref a)] emp emp (suiteB (defBody (top 65))) :=
        pns_one (pn_set (d := manyD) 2 sc65.nd (pd_lst (pda_cons pd_str (pda_cons (pd_isE (X := (cxOf CX0 P w K mg base n65 "_law_heard" (defScope (top 65)) f cdv A outer s H E).nox) (x := "flaw") 3 T.ec T.ve hz hf b.isi b.verr) pda_nil))))
      exact st.run pins s9 σ H9 De I ⟨B0, B, H0, x, ev, trivial, fun σ' H0' H' x' s' ev' _ => q σ' H0' H' x' s' (leS.env (ρ := [.dat ye, .dat he, .dat manyD, .val (.ref a)]) ⟨.inr rfl, .inr rfl, .inr rfl, .inl rfl, trivial⟩ ev')⟩
end
end Hf

/-! ## HfL5 -/
set_option Elab.async false
set_option linter.all false
set_option maxRecDepth 100000
set_option maxHeartbeats 1000000
/-! The source of draws, a list of three numbers at a: it is changed by the calls. -/
namespace Hf
open L2 PySem PySem.Spec PyProof.Rows
open PySem.W (Datum DatumOrd Tup EachIs AllAlike Sortable dataLe)
abbrev Tn : Type := Int × Int × Int
def tV (t : Tn) : List V := [.int t.1, .int t.2.1, .int t.2.2]
def tDs (t : Tn) : List PyData := [.int t.1, .int t.2.1, .int t.2.2]
def TAt (a : Addr) (t : Tn) (H0 H : Hp) : Prop := H0 a = none ∧ H a = some (.lst (tV t))
theorem TAt.ext {a : Addr} {t : Tn} {H0 H H0' H' : Hp} (x : Ext H0 H H0' H') (h : TAt a t H0 H) : TAt a t H0' H' := ⟨x.out _ _ h.1 h.2 trivial, x.s _ _ h.2⟩
def atM (a : Addr) (t : Tn) : Own := ⟨fun B H0 H => TAt a t H0 H, fun B H0 H H0' H' x h => h.ext x⟩
def noH : Hp := fun _ => none
theorem ext_no {H0 H : Hp} (s : Same H0 H) : Ext noH noH H0 H := ⟨fun _ _ h => (nomatch h), fun _ _ h => (nomatch h), s, fun _ _ _ h => (nomatch h)⟩
/-! ### expressions -/
def tX (ρ : List SV) (a : Addr) (t t' : Tn) (d : PyData) : TE := fun σ H Q => ∃ H0, Same H0 H ∧ EnvD H0 ρ σ ∧ TAt a t H0 H ∧ ∀ v H0' H', Same H0 H0' → Same H0' H' → TAt a t' H0' H' → Dq H0' v d → Q v H'
def tXA (ρ : List SV) (a : Addr) (t t' : Tn) (ds : List PyData) : TA := fun σ H Q => ∃ H0, Same H0 H ∧ EnvD H0 ρ σ ∧ TAt a t H0 H ∧ ∀ vs H0' H', Same H0 H0' → Same H0' H' → TAt a t' H0' H' → DqA H0' vs ds → Q vs H'
def tXT (ρ : List SV) (a : Addr) (t t' : Tn) (c : Bool) : TT := fun σ H Q => ∃ H0, Same H0 H ∧ EnvD H0 ρ σ ∧ TAt a t H0 H ∧ ∀ H0' H', Same H0 H0' → Same H0' H' → TAt a t' H0' H' → Q c H'
abbrev PX (X : Cx) (ρ : List SV) (a : Addr) (t t' : Tn) (e : Expr) (d : PyData) : Prop := PE X e (tX ρ a t t' d)
abbrev PXA (X : Cx) (ρ : List SV) (a : Addr) (t t' : Tn) (es : List Expr) (ds : List PyData) : Prop := PA X es (tXA ρ a t t' ds)
abbrev PXT (X : Cx) (ρ : List SV) (a : Addr) (t t' : Tn) (e : Expr) (c : Bool) : Prop := PT X e (tXT ρ a t t' c)
section
variable {X : Cx} {ρ ρ1 ρ2 : List SV} {a : Addr} {t t1 t2 t3 : Tn} {e e1 e2 : Expr} {es : List Expr} {d : PyData} {ds : List PyData} {pos p : Pos} {c : Bool}
theorem px_pd (h : PD X ρ e d) : PX X ρ a t t e d := pe_imp h fun σ H Q ⟨H0, s, ev, m, q⟩ => ⟨H0, s, ev, fun v H1 H' x dv => q v H1 H' x.s0 x.sub (m.ext x) dv⟩
theorem px_of_eq {d' : PyData} (h : PX X ρ a t t1 e d) (q : d = d') : PX X ρ a t t1 e d' := q ▸ h
theorem pxa_pd (h : PDA X ρ es ds) : PXA X ρ a t t es ds := pa_imp h fun σ H Q ⟨H0, s, ev, m, q⟩ => ⟨H0, s, ev, fun v H1 H' x dv => q v H1 H' x.s0 x.sub (m.ext x) dv⟩
theorem pxa_cons (h : PX X ρ a t t1 e d) (r : PXA X ρ a t1 t2 es ds) (hs : starEach (e :: es) X.env = (false, eval e X.env) :: starEach es X.env := by rfl) : PXA X ρ a t t2 (e :: es) (d :: ds) :=
  pa_imp (pa_cons h r hs) fun σ H Q ⟨H0, s, ev, m, q⟩ => ⟨H0, s, ev, m, fun v H1 H' x s1 m1 dv => ⟨H1, s1, ev.at x, m1, fun vs H2 H'' y s2 m2 dvs => q _ H2 H'' (x.trans y) s2 m2 (.cons (dv.at y) dvs)⟩⟩
theorem px_op {op : Operator} {r : R2} {f g : PyData} (ho : OpR X (binaryOp op) r) (ha : PX X ρ a t t1 e1 d) (hb : PX X ρ a t1 t2 e2 f)
    (k : ∀ v u H0 H Q, Same H0 H → Dq H0 v d → Dq H0 u f → Ret H0 H g Q → r v u H Q) : PX X ρ a t t2 (.BinOp e1 op e2 pos) g :=
  pe_imp (pe_op ho ha hb) fun σ H Q ⟨H0, s, ev, m, q⟩ => ⟨H0, s, ev, m, fun v H1 H' x s1 m1 dv => ⟨H1, s1, ev.at x, m1, fun u H2 H'' y s2 m2 du => k v u H2 H'' Q s2 (dv.at y) du fun z H3 H3' w dz => q z H3 H3' (x.trans (y.trans w.s0)) w.sub (m2.ext w) dz⟩⟩
theorem px_add {i j : Int} (ha : PX X ρ a t t1 e1 (.int i)) (hb : PX X ρ a t1 t2 e2 (.int j)) : PX X ρ a t t2 (.BinOp e1 .Add e2 pos) (.int (i + j)) := px_op op_add ha hb (k_int0 fun _ => .int _)
theorem px_tup {k : Nat} (h : PXA X ρ a t t1 es ds) (hz : ds.length ≤ sizeLine := by first | decide | exact Nat.le_of_ble_eq_true rfl) : PX X ρ a t t1 (.Tuple es k pos) (.tuple ds) :=
  pe_imp (pe_tup h) fun σ H Q ⟨H0, s, ev, m, q⟩ => ⟨H0, s, ev, m, fun vs H1 H' x s1 m1 dvs => ⟨by rw [dvs.length]; exact hz, fun p hp => by
    have y := Ext.new s1 hp (.tup vs)
    exact q _ _ _ (x.trans y.s0) y.sub (m1.ext y) (.tup upd_same (dvs.at y.s0))⟩⟩
theorem px_lst (h : PXA X ρ a t t1 es ds) (hz : ds.length ≤ sizeLine := by first | decide | exact Nat.le_of_ble_eq_true rfl) : PX X ρ a t t1 (.List es pos) (.list ds) :=
  pe_imp (pe_lst h) fun σ H Q ⟨H0, s, ev, m, q⟩ => ⟨H0, s, ev, m, fun vs H1 H' x s1 m1 dvs => ⟨by rw [dvs.length]; exact hz, fun p hp => by
    have y := Ext.new s1 hp (.lst vs)
    exact q _ _ _ (x.trans y.s0) y.sub (m1.ext y) (.lst upd_same (dvs.at y.s0))⟩⟩
theorem px_ixL {i : Int} (ha : PX X ρ a t t1 e1 (.list ds)) (hb : PX X ρ a t1 t2 e2 (.int i)) (h : atI ds i = some d := by rfl) (hs : PlainIx e2 := by exact (fun _ _ => rfl)) : PX X ρ a t t2 (.Subscript e1 e2 pos) d :=
  pe_imp (pe_ix ix_list ha hb hs) fun σ H Q ⟨H0, s, ev, m, q⟩ => ⟨H0, s, ev, m, fun v H1 H' x s1 m1 dv => ⟨H1, s1, ev.at x, m1, fun u H2 H'' y s2 m2 du => by
    cases du
    cases (dv.at y) with
    | lst ht r =>
      obtain ⟨j, e1, e2⟩ := atI_len r.length h
      obtain ⟨w, e3, dw⟩ := r.get e1
      exact ⟨_, _, i, w, rfl, rfl, SqL.of (s2 _ _ ht), e2 w e3, q w H2 H'' (x.trans y) s2 m2 dw⟩⟩⟩
theorem pxt_cmp {op : CmpOp} {r : R2} {f : PyData} (ho : OpR X (compareOp op) r) (ha : PX X ρ a t t1 e1 d) (hb : PX X ρ a t1 t2 e2 f) (hm : behindInMarks op e2 = false)
    (k : ∀ v u H0 H Q, Same H0 H → Dq H0 v d → Dq H0 u f → Ret H0 H (.bool c) Q → r v u H Q) : PXT X ρ a t t2 (.Compare e1 [op] [e2] pos) c :=
  pt_imp (pt_cmpR ho ha hb hm) fun σ H Q ⟨H0, s, ev, m, q⟩ => ⟨H0, s, ev, m, fun v H1 H' x s1 m1 dv => ⟨H1, s1, ev.at x, m1, fun u H2 H'' y s2 m2 du => k v u H2 H'' _ s2 (dv.at y) du fun z H3 H3' w dz => by
    cases dz
    exact ⟨c, rfl, q H3 H3' (x.trans (y.trans w.s0)) w.sub (m2.ext w)⟩⟩⟩
theorem px_if {c : Bool} {tc : Expr} (hc : PXT X ρ a t t1 tc c) (ha : c = true → PX X ρ a t1 t2 e1 d) (hb : c = false → PX X ρ a t1 t2 e2 d) : PX X ρ a t t2 (.IfExp tc e1 e2 pos) d := by
  cases c with
  | true => exact pe_imp (pe_ifExp hc (ha rfl) pe_never) fun σ H Q ⟨H0, s, ev, m, q⟩ => ⟨H0, s, ev, m, fun H1 H' x s1 m1 => iteT ⟨H1, s1, ev.at x, m1, fun u H2 H'' y s2 m2 du => q u H2 H'' (x.trans y) s2 m2 du⟩⟩
  | false => exact pe_imp (pe_ifExp hc pe_never (hb rfl)) fun σ H Q ⟨H0, s, ev, m, q⟩ => ⟨H0, s, ev, m, fun H1 H' x s1 m1 => iteF ⟨H1, s1, ev.at x, m1, fun u H2 H'' y s2 m2 du => q u H2 H'' (x.trans y) s2 m2 du⟩⟩
/-- a def over data, one of its arguments draws -/
theorem px_cal {k : Nat} {ps : List Str} {R : List PyData → PyData → Prop} {x : Str} (C : Cal X.prog X.w X.K X.mg X.base k x ps R) (hr : Room k X.A)
    (ha : PXA X ρ a t t1 (e :: es) ds) (h : R ds d) (hg : Gl X x := by rfl) (hdb : (x == ("__debug__" : Str)) = false := by decide) (he : starEach (e :: es) X.env = (false, eval e X.env) :: starEach es X.env := by rfl) (hpl : (backTo pos (starEach es X.env)).any (·.1) = false := by rfl) :
    PX X ρ a t t1 (.Call (.Name x p) (e :: es) [] pos) d := by
  obtain ⟨f, fd, F, hm, kp, b⟩ := C
  exact pe_imp (pe_call F hr hg hm kp b .nil pass0 ha hdb he hpl) fun σ H Q ⟨H0, s, ev, m, q⟩ => ⟨H0, s, ev, m, fun vs H1 H' y s1 m1 dv => by
    show spP R (vs ++ []) H' Q E0
    rw [List.append_nil]
    exact ⟨H1, ds, d, s1, dv, h, fun v H2 H'' z dq => q v H2 H'' (y.trans z.s0) z.sub (m1.ext z) dq⟩⟩
end
/-! ### defs that draw -/
/-- strong: the caller's data still stand; weak: not told -/
def spT (R : Tn → Tn → List PyData → PyData → Prop) : Sp := fun vs H Q _ => ∃ a t t' us H0 ds d, vs = .ref a :: us ∧ Same H0 H ∧ TAt a t H0 H ∧ DqA H0 us ds ∧ R t t' ds d ∧ ∀ v H0' H', Same H0 H0' → Same H0' H' → TAt a t' H0' H' → Dq H0' v d → Q v H'
def spW (R : Tn → Tn → List PyData → PyData → Prop) : Sp := fun vs H Q _ => ∃ a t t' us H0 ds d, vs = .ref a :: us ∧ Same H0 H ∧ TAt a t H0 H ∧ DqA H0 us ds ∧ R t t' ds d ∧ ∀ v H0' H', Same H0' H' → TAt a t' H0' H' → Dq H0' v d → Q v H'
def tR (ρ : List SV) (a : Addr) (t t' : Tn) (d : PyData) : TS := fun D σ H => ∃ H0, Same H0 H ∧ EnvD H0 ρ σ ∧ TAt a t H0 H ∧ ∀ v H0' H', Same H0 H0' → Same H0' H' → TAt a t' H0' H' → Dq H0' v d → D.rt v H'
def tRW (ρ : List SV) (a : Addr) (t t' : Tn) (d : PyData) : TS := fun D σ H => ∃ H0, Same H0 H ∧ EnvD H0 ρ σ ∧ TAt a t H0 H ∧ ∀ v H0' H', Same H0' H' → TAt a t' H0' H' → Dq H0' v d → D.rt v H'
def CalT (P : Program) (w : World) (K : PySem.W.Frag) (mg : Str → Option Value) (base : Heap) (k : Nat) (x : Str) (ps : List Str) (sp : Sp) : Prop :=
  ∃ f fd, FnOk P w K mg base CX0 k f fd ps sp ∧ mg x = some (.ref f) ∧ PySem.W.keepIn K (.ref f) = true ∧ L2.Binds K fd ps []
def begT (N : List Str) (a : Addr) (ds : List PyData) : List SV := .val (.ref a) :: (ds.map SV.dat ++ List.replicate (N.length - (ds.length + 1)) .no)
section
variable {P : Program} {w : World} {K : PySem.W.Frag} {mg : Str → Option Value} {base : Heap}
theorem env_begT {N : List Str} {a : Addr} {us : List V} {ds : List PyData} {H0 : Hp} (dv : DqA H0 us ds) : EnvD H0 (begT N a ds) (L2.start N (.ref a :: us)) := by
  unfold L2.start begT
  show EnvD H0 (_ :: _) (some (.ref a) :: (us.map some ++ List.replicate (N.length - (us.length + 1)) none))
  rw [dv.length]
  exact ⟨rfl, env_beg dv⟩
theorem calT_of {x : Str} {st : Stmt} {N ps : List Str} {k : Nat} {R : Tn → Tn → List PyData → PyData → Prop} (F : Def K mg x st) (S : FnScope N ps (defScope st)) (b : BindOk x st ps) (hl : ∀ t t' ds d, R t t' ds d → ds.length + 1 = ps.length)
    (h : ∀ (f : Addr) (cdv : Value) (A : Around) (outer : List Env) (s : Shared) (H : Hp) (E : XK), Room k (A.deeper (envOfC x (defScope st) s.heap.objs.size f cdv)) → ∀ a t t' ds d, R t t' ds d → PSs (cxOf CX0 P w K mg base N x (defScope st) f cdv A outer s H E).nox (defBody st) (tR (begT N a ds) a t t' d)) :
    CalT P w K mg base (k + 1) x ps (spT R) := by
  obtain ⟨f, fd, F, m⟩ := F
  refine ⟨f, fd, F.ok S (fun vs H Q E ⟨a, t, t', us, H0, ds, d, e, s, m, dv, r, q⟩ => by rw [e]; exact (congrArg (· + 1) dv.length).trans (hl _ _ _ _ r)) fun cdv A outer s H vs Q E hr ⟨a, t, t', us, H0, ds, d, e, sm, m, dv, r, q⟩ => ?_, m, F.kp, F.binds b⟩
  subst e
  exact ⟨_, h f cdv A outer s H E hr a t t' ds d r, H0, sm, env_begT dv, m, q⟩
theorem calW_of {x : Str} {st : Stmt} {N ps : List Str} {k : Nat} {R : Tn → Tn → List PyData → PyData → Prop} (F : Def K mg x st) (S : FnScope N ps (defScope st)) (b : BindOk x st ps) (hl : ∀ t t' ds d, R t t' ds d → ds.length + 1 = ps.length)
    (h : ∀ (f : Addr) (cdv : Value) (A : Around) (outer : List Env) (s : Shared) (H : Hp) (E : XK), Room k (A.deeper (envOfC x (defScope st) s.heap.objs.size f cdv)) → ∀ a t t' ds d, R t t' ds d → PSs (cxOf CX0 P w K mg base N x (defScope st) f cdv A outer s H E).nox (defBody st) (tRW (begT N a ds) a t t' d)) :
    CalT P w K mg base (k + 1) x ps (spW R) := by
  obtain ⟨f, fd, F, m⟩ := F
  refine ⟨f, fd, F.ok S (fun vs H Q E ⟨a, t, t', us, H0, ds, d, e, s, m, dv, r, q⟩ => by rw [e]; exact (congrArg (· + 1) dv.length).trans (hl _ _ _ _ r)) fun cdv A outer s H vs Q E hr ⟨a, t, t', us, H0, ds, d, e, sm, m, dv, r, q⟩ => ?_, m, F.kp, F.binds b⟩
  subst e
  exact ⟨_, h f cdv A outer s H E hr a t t' ds d r, H0, sm, env_begT dv, m, q⟩
end
section
variable {X : Cx} {ρ ρ1 ρ2 : List SV} {a : Addr} {t t1 t2 t3 : Tn} {e e1 e2 : Expr} {es : List Expr} {d : PyData} {ds : List PyData} {pos p p2 : Pos} {c : Bool}
/-- f(tin, e) -/
theorem px_draw (i : Nat) {k : Nat} {ps : List Str} {R : Tn → Tn → List PyData → PyData → Prop} {x y : Str} (C : CalT X.prog X.w X.K X.mg X.base k x ps (spT R)) (hr : Room k X.A) (ha : PD X ρ e d) (h : R t t1 [d] d') (hi : ρ[i]? = some (.val (.ref a)) := by rfl)
    (hN : X.N[i]? = some y := by rfl) (hv : Vis X.env.scope y := by first | exact Or.inl rfl | exact Or.inr (Or.inl rfl) | exact Or.inr (Or.inr rfl)) (hd : (y == ("__debug__" : Str)) = false := by decide) (hcd : (y == ("__classdict__" : Str)) = false := by decide)
    (hg : Gl X x := by rfl) (hdb : (x == ("__debug__" : Str)) = false := by decide) (he : starEach [.Name y p2, e] X.env = (false, eval (.Name y p2) X.env) :: starEach [e] X.env := by rfl) (he2 : starEach [e] X.env = (false, eval e X.env) :: starEach [] X.env := by rfl) (hpl : (backTo pos (starEach [e] X.env)).any (·.1) = false := by rfl) :
    PX X ρ a t t1 (.Call (.Name x p) [.Name y p2, e] [] pos) d' := by
  obtain ⟨f, fd, F, hm, kp, b⟩ := C
  exact pe_imp (pe_call F hr hg hm kp b .nil pass0 (pa_cons (pv_at i hi hN hv hd hcd) (pa_cons ha pa_nil he2) he) hdb he hpl) fun σ H Q ⟨H0, s, ev, m, q⟩ => ⟨H0, ev, H0, s, ev, fun v H1 H' y dv => by
    show spT R ([.ref a, v] ++ []) H' Q E0
    exact ⟨a, t, t1, [v], H1, [d], _, rfl, y.sub, m.ext y, .cons dv .nil, h, fun v H2 H'' z s2 m2 dq => q v H2 H'' (y.s0.trans z) s2 m2 dq⟩⟩
theorem pr_ret (h : PX X ρ a t t1 e d) : PSs X [.Return (some e) pos] (tR ρ a t t1 d) := pss_imp (pss_one (ps_ret h)) fun D σ H q => q
theorem pr_retW (h : PD X ρ e d) : PSs X [.Return (some e) pos] (tRW ρ a t t d) := pss_imp (pss_one (ps_ret h)) fun D σ H ⟨H0, s, ev, m, q⟩ => ⟨H0, s, ev, fun v H1 H' x dv => q v H1 H' x.sub (m.ext x) dv⟩
end
end Hf

/-! ## HfL6 -/
set_option Elab.async false
set_option linter.all false
set_option maxRecDepth 100000
set_option maxHeartbeats 1000000
/-! _law_take, _law_of, _law_hole_of. -/
namespace Hf
open L2 PySem PySem.Spec PyProof.Rows
open PySem.W (Datum DatumOrd Tup EachIs AllAlike Sortable dataLe)
/-! ### a block that returns and tells what it owns -/
def tRM (ρ : List SV) (M M' : Own) (d : PyData) : TS := fun D σ H => ∃ B0 B H0, Ext B0 B H0 H ∧ EnvD H0 ρ σ ∧ M.p B H0 H ∧ ∀ v H0' H', Ext B0 B H0' H' → Same H0 H0' → Dq H0' v d → M'.p B H0' H' → D.rt v H'
section
variable {X : Cx} {ρ ρ1 ρ' : List SV} {M M1 M2 : Own} {L : List (Addr × OT)} {st : Stmt} {sts : List Stmt} {d : PyData} {e : Expr} {pos : Pos} {a : Addr} {t t' : Tn}
theorem rm_cons (h : PN X ρ ρ1 M M1 st) (r : PSs X sts (tRM ρ1 M1 M2 d)) : PSs X (st :: sts) (tRM ρ M M2 d) := pss_imp (pss_cons h r) fun D σ H ⟨B0, B, H0, x, ev, m, q⟩ => ⟨B0, B, H0, x, ev, m, fun σ' H0' H' x' s' ev' m' => ⟨B0, B, H0', x', ev', m', fun v H1 H2 y s dv m2 => q v H1 H2 y (s'.trans s) dv m2⟩⟩
theorem rm_ret (h : PD X ρ e d) : PSs X [.Return (some e) pos] (tRM ρ M M d) := pss_imp (pss_one (ps_ret h)) fun D σ H ⟨B0, B, H0, x, ev, m, q⟩ => inB x ev fun v H1 H' x1 y dv => q v H1 H' x1 y.s0 dv (M.st _ _ _ _ _ y m)
theorem rm_if {c : Expr} {b : Bool} {body rest : List Stmt} (p : Peek ρ L ρ') (hc : PDT X ρ' c b) (ht : b = true → PSs X body (tRM ρ (own L) M2 d)) (hf : b = false → PSs X rest (tRM ρ (own L) M2 d)) : PSs X (.If c body [] pos :: rest) (tRM ρ (own L) M2 d) := by
  cases b with
  | true => exact pss_imp (pss_cons (ps_if (pt_peek p hc) (ht rfl) pss_nil) pss_never) fun D σ H ⟨B0, B, H0, x, ev, m, q⟩ => ⟨B, H0, x.sub, ev, m, fun H' y => iteT ⟨B0, B, H0, x.trans y, ev, (own L).st _ _ _ _ _ y m, q⟩⟩
  | false => exact pss_imp (pss_cons (ps_if (pt_peek p hc) pss_never pss_nil) (hf rfl)) fun D σ H ⟨B0, B, H0, x, ev, m, q⟩ => ⟨B, H0, x.sub, ev, m, fun H' y => iteF ⟨B0, B, H0, x.trans y, ev, (own L).st _ _ _ _ _ y m, q⟩⟩
theorem tds_dq {H : Hp} (t : Tn) : DqA H (tV t) (tDs t) := .cons (.int _) (.cons (.int _) (.cons (.int _) .nil))
theorem dq_tds {H : Hp} {xs : List V} (h : DqA H xs (tDs t)) : xs = tV t := by
  cases h with
  | cons h1 r =>
    cases h1
    cases r with
    | cons h2 r =>
      cases h2
      cases r with
      | cons h3 r =>
        cases h3
        cases r
        rfl
theorem tr_rm (h : PSs X sts (tRM ρ (own [(a, oL (tDs t))]) (own [(a, oL (tDs t'))]) d)) : PSs X sts (tR ρ a t t' d) := pss_imp h fun D σ H ⟨H0, s, ev, m, q⟩ =>
  ⟨noH, noH, H0, ext_no s, ev, ⟨List.nodup_cons.mpr ⟨fun h => (nomatch h), List.nodup_nil⟩, fun x hx => by
    cases List.mem_singleton.mp hx
    exact ⟨rfl, m.1, _, m.2, _, rfl, tds_dq t⟩⟩, fun v H0' H' x s' dv ⟨_, m'⟩ => by
    obtain ⟨_, b2, o, b3, xs, eo, b4⟩ := m' _ (List.mem_singleton_self _)
    subst eo
    exact q v H0' H' s' x.sub ⟨b2, by rw [← dq_tds b4]; exact b3⟩ dv⟩
end
/-! ### the draws -/
structure TnOk (t : Tn) : Prop where
  l1 : 0 ≤ t.2.1
  l2 : 0 ≤ t.2.2
  h2 : t.2.2 ≤ 100000
def onceV (t : Tn) : Int := ((t.2.1 + 48271 * (t.2.2 + 1)) * (39373 + (t.2.2 + 1))) % 2147483647
def wideV (t : Tn) : Int := onceV t % 40009 + 7
def twiceV (t : Tn) : Int := ((onceV t + (t.2.2 + 1) + t.2.1 / 1000003) * wideV t) % 2147483629
def drawV (t : Tn) (b : Int) : Int := if 0 < t.1 then t.1 % b else ((twiceV t * 48271 + onceV t) % 2147483587 / 64) % b
def drawT (t : Tn) (b : Int) : Tn := if 0 < t.1 then (t.1 / b, t.2.1, t.2.2) else (t.1, t.2.1, t.2.2 + 1)
theorem drawV_lt (t : Tn) {b : Int} (h : 0 < b) : 0 ≤ drawV t b ∧ drawV t b < b := by
  unfold drawV
  split
  · exact ⟨Int.emod_nonneg _ (by omega), Int.emod_lt_of_pos _ h⟩
  · exact ⟨Int.emod_nonneg _ (by omega), Int.emod_lt_of_pos _ h⟩
section
variable {P : Program} {w : World} {K : PySem.W.Frag} {mg : Str → Option Value} {base : Heap}
abbrev n49 : List Str := ["_law_tin", "_law_below_so", "_law_drawn", "_law_once_so", "_law_wide_so", "_law_twice_so"]
theorem sc49 : FnScope n49 ["_law_tin", "_law_below_so"] (defScope (top 49)) := ⟨rfl, rfl, rfl, by decide +kernel, rfl, by decide +kernel, by decide +kernel⟩
def R49 : Tn → Tn → List PyData → PyData → Prop := fun t t' ds d => ∃ b : Int, ds = [.int b] ∧ 0 < b ∧ b ≤ 1000000 ∧ TnOk t ∧ d = .int (drawV t b) ∧ t' = drawT t b
theorem c49 (F : Def K mg "_law_take" (top 49)) (b : Blt mg) : CalT P w K mg base 1 "_law_take" ["_law_tin", "_law_below_so"] (spT R49) :=
  calT_of F sc49 (fun _ _ _ _ _ _ us hl => match us, hl with | [_, _], _ => rfl) (fun t t' ds d ⟨_, e, _⟩ => by rw [e]; rfl) fun f cdv A outer s H E hr a t t' ds d ⟨m, e1, h1, h2, ok, e2, e3⟩ => by
    subst e1 e2 e3
    obtain ⟨t0, t1, t2⟩ := t
    obtain ⟨k1, k2, k3⟩ := ok
    have k1 : 0 ≤ t1 := k1
    have k2 : 0 ≤ t2 := k2
    have k3 : t2 ≤ 100000 := k3
    have pk : ∀ (t : Tn) (ρ : List SV), ρ[0]? = some (.val (.ref a)) → Peek ρ [(a, oL (tDs t))] (ρ.set 0 (.dat (.list (tDs t)))) := fun t ρ h => Peek.refl.list 0 0 h rfl
    refine tr_rm (rm_if (b := decide (0 < t0)) (pk (t0, t1, t2) _ rfl) (pdt_gt (pd_ixL (d := .int t0) (pd_v 0) pd_int) pd_int) (fun hb => ?_) fun hb => ?_)
    · have hb := of_decide_eq_true hb
      have e1 : drawV (t0, t1, t2) m = t0 % m := by unfold drawV; rw [if_pos hb]
      have e2 : drawT (t0, t1, t2) m = (t0 / m, t1, t2) := by unfold drawT; rw [if_pos hb]
      rw [e1, e2]
      exact rm_cons (pn_setO 2 (z := t0 % m) (pk (t0, t1, t2) _ rfl) sc49.nd (pd_mod (pd_intI b.int (pda_cons (pd_ixL (d := .int t0) (pd_v 0) pd_int) pda_nil)) (pd_v 1) h1))
        (rm_cons (pn_lset 0 0 (z := t0 / m) (j := 0) (n := 0) (ds := tDs (t0, t1, t2)) (ds' := tDs (t0 / m, t1, t2)) (pk (t0, t1, t2) _ rfl) (pd_fdiv (pd_ixL (d := .int t0) (pd_v 0) pd_int) (pd_v 1) ⟨h1, by omega⟩) pd_int rfl) (rm_ret (pd_v 2)))
    · have hb := of_decide_eq_false hb
      have e1 : drawV (t0, t1, t2) m = ((twiceV (t0, t1, t2) * 48271 + onceV (t0, t1, t2)) % 2147483587 / 64) % m := by unfold drawV; rw [if_neg hb]
      have e2 : drawT (t0, t1, t2) m = (t0, t1, t2 + 1) := by unfold drawT; rw [if_neg hb]
      rw [e1, e2]
      have wd : 0 ≤ wideV (t0, t1, t2) ∧ wideV (t0, t1, t2) < 50000 := by
        have h1 := Int.emod_nonneg (onceV (t0, t1, t2)) (show (40009 : Int) ≠ 0 by decide)
        have h2 := Int.emod_lt_of_pos (onceV (t0, t1, t2)) (show (0 : Int) < 40009 by decide)
        unfold wideV
        omega
      refine rm_cons (pn_lset 0 0 (z := t2 + 1) (j := 2) (n := 2) (ds := tDs (t0, t1, t2)) (ds' := tDs (t0, t1, t2 + 1)) (pk (t0, t1, t2) _ rfl) (pd_add (pd_ixL (d := .int t2) (pd_v 0) pd_int) pd_int) pd_int rfl)
        (rm_cons (pn_setO 3 (z := onceV (t0, t1, t2)) (pk (t0, t1, t2 + 1) _ rfl) sc49.nd (pd_mod (pd_intI b.int (pda_cons (pd_mul (pd_add (pd_ixL (d := .int t1) (pd_v 0) pd_int) (pd_mul pd_int (pd_ixL (d := .int (t2 + 1)) (pd_v 0) pd_int) (.inl ⟨by decide, by decide⟩))) (pd_add pd_int (pd_ixL (d := .int (t2 + 1)) (pd_v 0) pd_int)) (.inr ⟨by omega, by omega⟩)) pda_nil)) pd_int (by decide)))
        (rm_cons (pn_setO 4 (z := wideV (t0, t1, t2)) Peek.refl sc49.nd (pd_add (pd_mod (pd_intI b.int (pda_cons (pd_v 3) pda_nil)) pd_int (by decide)) pd_int))
        (rm_cons (pn_setO 5 (z := twiceV (t0, t1, t2)) (pk (t0, t1, t2 + 1) _ rfl) sc49.nd (pd_mod (pd_intI b.int (pda_cons (pd_mul (pd_add (pd_add (pd_v 3) (pd_ixL (d := .int (t2 + 1)) (pd_v 0) pd_int)) (pd_fdiv (pd_ixL (d := .int t1) (pd_v 0) pd_int) pd_int ⟨by decide, by decide⟩)) (pd_v 4) (.inr ⟨by omega, by omega⟩)) pda_nil)) pd_int (by decide)))
        (rm_ret (pd_mod (pd_intI b.int (pda_cons (pd_fdiv (pd_mod (pd_intI b.int (pda_cons (pd_add (pd_mul (pd_v 5) pd_int (.inr ⟨by decide, by decide⟩)) (pd_v 3)) pda_nil)) pd_int (by decide)) pd_int ⟨by decide, by decide⟩) pda_nil)) (pd_v 1) h1)))))
/-! _law_of -/
theorem sc51 : FnScope ["_law_tin", "_law_goods_so"] ["_law_tin", "_law_goods_so"] (defScope (top 51)) := ⟨rfl, rfl, rfl, by decide +kernel, rfl, by decide +kernel, by decide +kernel⟩
def pickV (t : Tn) (cs : List Pt) : Pt := cs.getD (drawV t cs.length).toNat (0, 0)
def R51 : Tn → Tn → List PyData → PyData → Prop := fun t t' ds d => ∃ cs : List Pt, ds = [.list (cs.map D)] ∧ cs ≠ [] ∧ cs.length ≤ 100000 ∧ TnOk t ∧ d = D (pickV t cs) ∧ t' = drawT t cs.length
theorem c51 (F : Def K mg "_law_of" (top 51)) (b : Blt mg) (C49 : CalT P w K mg base 1 "_law_take" ["_law_tin", "_law_below_so"] (spT R49)) : CalT P w K mg base 2 "_law_of" ["_law_tin", "_law_goods_so"] (spT R51) :=
  calT_of F sc51 (fun _ _ _ _ _ _ us hl => match us, hl with | [_, _], _ => rfl) (fun t t' ds d ⟨_, e, _⟩ => by rw [e]; rfl) fun f cdv A outer s H E hr a t t' ds d ⟨cs, e1, h1, h2, ok, e2, e3⟩ => by
    subst e1 e2 e3
    have hp : 0 < cs.length := List.length_pos_iff.mpr h1
    have dl := drawV_lt t (b := cs.length) (by omega)
    refine pr_ret (px_ixL (i := drawV t cs.length) (px_pd (pd_v 1)) (px_draw (d := .int cs.length) (d' := .int (drawV t cs.length)) 0 C49 hr (pd_of_eq (pd_lenL (ds := cs.map D) b.len (pda_cons (pd_v 1) pda_nil)) (by rw [List.length_map])) ⟨_, rfl, by omega, by omega, ok, rfl, rfl⟩) ?_)
    have e : drawV t cs.length = ((drawV t cs.length).toNat : Int) := by omega
    have hl : (drawV t cs.length).toNat < cs.length := by omega
    rw [e]
    refine atI_nat ?_
    unfold pickV
    rw [List.getElem?_map, List.getD_eq_getElem?_getD, List.getElem?_eq_getElem hl]
    rfl
/-! _law_hole_of -/
abbrev n63 : List Str := ["_law_tin", "_law_ground", "_law_own"]
theorem sc63 : FnScope n63 ["_law_tin", "_law_ground"] (defScope (top 63)) := ⟨rfl, rfl, rfl, by decide +kernel, rfl, by decide +kernel, by decide +kernel⟩
theorem bk63 : BlkOk n63 (defScope (top 63)) (match defBody (top 63) with | [.Return (some (.Call _ [_, .ListComp _ _ sc _] _ _)) _] => sc | _ => defScope (top 7)) [("_law_own", 2)] := ⟨by decide +kernel, by decide +kernel, by decide +kernel, by decide +kernel, by decide +kernel⟩
def lplaces (S : List Pt) : List Pt := (lcellsL S).filter placeB
def R63 : Tn → Tn → List PyData → PyData → Prop := fun t t' ds d => ∃ S : List Pt, ds = [.tuple (S.map D)] ∧ S.length ≤ 100 ∧ lplaces S ≠ [] ∧ TnOk t ∧ d = D (pickV t (lplaces S)) ∧ t' = drawT t (lplaces S).length
theorem c63 (F : Def K mg "_law_hole_of" (top 63)) (b : Blt mg) (C51 : CalT P w K mg base 2 "_law_of" ["_law_tin", "_law_goods_so"] (spT R51)) (C55 : Cal P w K mg base 1 "_law_cells_of" ["_law_ground"] R55) (C56 : Cal P w K mg base 1 "_law_is_place" ["_law_spot"] R56) : CalT P w K mg base 3 "_law_hole_of" ["_law_tin", "_law_ground"] (spT R63) :=
  calT_of F sc63 (fun _ _ _ _ _ _ us hl => match us, hl with | [_, _], _ => rfl) (fun t t' ds d ⟨_, e, _⟩ => by rw [e]; rfl) fun f cdv A outer s H E hr a t t' ds d ⟨S, e1, h1, h2, ok, e2, e3⟩ => by
    subst e1 e2 e3
    have l1 := lcells_len S
    have l2 := List.length_filter_le placeB (lcellsL S)
    have l3 : (lplaces S).length = ((lcellsL S).filter placeB).length := rfl
    exact pr_ret (px_draw (d := .list ((lplaces S).map D)) (d' := D (pickV t (lplaces S))) 0 C51 hr (pd_lcf 2 (lcellsL S) D D placeB rfl sc63.nd (pdi_list (ds := (lcellsL S).map D) (pdc C55 (hr.mono (by decide)) (pda_cons (pd_v 1) pda_nil) ⟨S, _, rfl, .inl rfl, by omega, rfl⟩)) bk63 (by omega) (fun c _ s H C cl fp => pdt_val (pdc C56 (hr.mono (by decide)) (pda_cons (pd_v 2) pda_nil) ⟨c, rfl, rfl⟩)) fun c _ s H C cl fp => pd_v 2) ⟨_, rfl, h2, by omega, ok, rfl, rfl⟩)
end
end Hf

/-! ## HfL7 -/
set_option Elab.async false
set_option linter.all false
set_option maxRecDepth 100000
set_option maxHeartbeats 1000000
/-! Statements that draw; _law_yard. -/
namespace Hf
open L2 PySem PySem.Spec PyProof.Rows
open PySem.W (Datum DatumOrd Tup EachIs AllAlike Sortable dataLe)
def tS (ρ ρ' : List SV) (a : Addr) (t t' : Tn) : TS := fun D σ H => ∃ H0, Same H0 H ∧ EnvD H0 ρ σ ∧ TAt a t H0 H ∧ ∀ σ' H0' H', Same H0' H' → EnvD H0' ρ' σ' → TAt a t' H0' H' → D.nx σ' H'
def PIR (X : Cx) (ρ : List SV) (tg e : Expr) (n : Nat) : Prop := PI X tg e (fun σ H R => ∃ H0, Same H0 H ∧ EnvD H0 ρ σ ∧ ∀ H0' H', Ext H0 H H0' H' → R (Itr 0 n) H')
/-! flat data: nothing in them is a list -/
def flat0 : PyData → Bool
  | .none => true
  | .bool _ => true
  | .int _ => true
  | .str _ => true
  | _ => false
def flatD : PyData → Bool
  | .tuple ds => ds.all flat0
  | d => flat0 d
def flatS : SV → Bool
  | .no => true
  | .val _ => true
  | .dat d => flatD d
  | _ => false
def Tups (H H' : Hp) : Prop := ∀ b xs, H b = some (.tup xs) → H' b = some (.tup xs)
theorem flat0_dq {H H' : Hp} {v : V} {d : PyData} (f : flat0 d = true) (h : Dq H v d) : Dq H' v d := by
  cases h with
  | non => exact .non
  | bl b => exact .bl b
  | int i => exact .int i
  | str x => exact .str x
  | lst _ _ => cases f
  | tup _ _ => cases f
theorem flat0_dqa {H H' : Hp} : ∀ {vs : List V} {ds : List PyData}, ds.all flat0 = true → DqA H vs ds → DqA H' vs ds
  | _, _, _, .nil => .nil
  | _, _, f, .cons h r => by
    have f := Bool.and_eq_true_iff.mp (List.all_cons (f := flat0) ▸ f)
    exact .cons (flat0_dq f.1 h) (flat0_dqa f.2 r)
theorem flatD_dq {H H' : Hp} (t : Tups H H') {v : V} {d : PyData} (f : flatD d = true) (h : Dq H v d) : Dq H' v d := by
  cases h with
  | non => exact .non
  | bl b => exact .bl b
  | int i => exact .int i
  | str x => exact .str x
  | lst _ _ => cases f
  | tup h r => exact .tup (t _ _ h) (flat0_dqa f r)
theorem flatD_dqa {H H' : Hp} (t : Tups H H') : ∀ {vs : List V} {ds : List PyData}, (∀ d ∈ ds, flatD d = true) → DqA H vs ds → DqA H' vs ds
  | _, _, _, .nil => .nil
  | _, _, f, .cons h r => .cons (flatD_dq t (f _ (List.mem_cons_self ..)) h) (flatD_dqa t (fun d hd => f d (List.mem_cons_of_mem _ hd)) r)
theorem flatS_ok {H H' : Hp} (t : Tups H H') {s : SV} {v : Option V} (f : flatS s = true) (h : slotOk H s v) : slotOk H' s v := by
  cases s with
  | no => trivial
  | val _ => exact h
  | dat d => obtain ⟨u, e, q⟩ := h; exact ⟨u, e, flatD_dq t f q⟩
  | dic _ => cases f
  | fzd _ => cases f
  | sq _ _ _ => cases f
theorem env_flat {H H' : Hp} (t : Tups H H') : ∀ {ρ : List SV} {σ : L2.St}, ρ.all flatS = true → EnvD H ρ σ → EnvD H' ρ σ
  | [], [], _, _ => trivial
  | _ :: _, _ :: _, f, ⟨a, b⟩ => by
    have f := Bool.and_eq_true_iff.mp (List.all_cons (f := flatS) ▸ f)
    exact ⟨flatS_ok t f.1 a, env_flat t f.2 b⟩
  | [], _ :: _, _, h => h.elim
  | _ :: _, [], _, h => h.elim
section
variable {X : Cx} {ρ ρ1 ρ2 : List SV} {a : Addr} {t t1 t2 t3 : Tn} {e e1 e2 : Expr} {es : List Expr} {d : PyData} {ds : List PyData} {pos p p2 : Pos} {c : Bool} {st : Stmt} {sts : List Stmt}
theorem ts_pn (h : PN X ρ ρ1 (atM a t) (atM a t) st) : PS X st (tS ρ ρ1 a t t) := ps_imp h fun D σ H ⟨H0, s, ev, m, q⟩ => ⟨noH, noH, H0, ext_no s, ev, m, fun σ' H0' H' x s' ev' m' => q σ' H0' H' x.sub ev' m'⟩
theorem ts_weak (h : PSs X sts (tS ρ ρ1 a t t1)) (l : leS ρ1 ρ2) : PSs X sts (tS ρ ρ2 a t t1) := pss_imp h fun D σ H ⟨H0, s, ev, m, q⟩ => ⟨H0, s, ev, m, fun σ' H0' H' x' ev' m' => q σ' H0' H' x' (l.env ev') m'⟩
theorem ts_nil : PSs X [] (tS ρ ρ a t t) := pss_imp pss_nil fun D σ H ⟨H0, s, ev, m, q⟩ => q σ H0 H s ev m
theorem ts_cons (h : PS X st (tS ρ ρ1 a t t1)) (r : PSs X sts (tS ρ1 ρ2 a t1 t2)) : PSs X (st :: sts) (tS ρ ρ2 a t t2) := pss_imp (pss_cons h r) fun D σ H ⟨H0, s, ev, m, q⟩ => ⟨H0, s, ev, m, fun σ' H0' H' s' ev' m' => ⟨H0', s', ev', m', q⟩⟩
theorem tw_cons (h : PS X st (tS ρ ρ1 a t t1)) (r : PSs X sts (tRW ρ1 a t1 t2 d)) : PSs X (st :: sts) (tRW ρ a t t2 d) := pss_imp (pss_cons h r) fun D σ H ⟨H0, s, ev, m, q⟩ => ⟨H0, s, ev, m, fun σ' H0' H' s' ev' m' => ⟨H0', s', ev', m', q⟩⟩
theorem ts_set (i : Nat) {x : Str} {p : Pos} (hN : X.N.Nodup) (h : PX X ρ a t t1 e d) (hi : X.N[i]? = some x := by rfl) (hx : Loc X.env.scope x := by first | exact Or.inl rfl | exact Or.inr rfl)
    (hs : swapsWith e (some (.Name x p)) pos.line X.env = pure false := by rfl) (hf : X.fn x = true ∨ X.env.scope.names.lookup x = some .local := by first | exact .inl rfl | exact .inr rfl) : PS X (.Assign [.Name x p] e pos) (tS ρ (ρ.set i (.dat d)) a t t1) :=
  ps_imp (L2.ps_set hN hi hx h hs hf) fun D σ H ⟨H0, s, ev, m, q⟩ => ⟨H0, s, ev, m, fun v H1 H' x s1 m1 dv => q _ H1 H' s1 ((ev.at x).set (s := .dat d) ⟨v, rfl, dv⟩ i) m1⟩
theorem ts_if {c : Expr} {b : Bool} {body els : List Stmt} (hc : PDT X ρ c b) (ht : b = true → PSs X body (tS ρ ρ1 a t t1)) (hf : b = false → PSs X els (tS ρ ρ1 a t t1)) : PS X (.If c body els pos) (tS ρ ρ1 a t t1) := by
  cases b with
  | true => exact ps_imp (ps_if hc (ht rfl) pss_never) fun D σ H ⟨H0, s, ev, m, q⟩ => ⟨H0, s, ev, fun H1 H' y => iteT ⟨H1, y.sub, ev.at y.s0, m.ext y, q⟩⟩
  | false => exact ps_imp (ps_if hc pss_never (hf rfl)) fun D σ H ⟨H0, s, ev, m, q⟩ => ⟨H0, s, ev, fun H1 H' y => iteF ⟨H1, y.sub, ev.at y.s0, m.ext y, q⟩⟩
theorem pir_range {k : Nat} {tg : Expr} (hm : X.mg "range" = none) (h : PDA X ρ [e] [.int k]) (hk : k < 1000000) (hg : Gl X "range" := by rfl) (hs : starEach [e] X.env = [(false, eval e X.env)] := by rfl) : PIR X ρ tg (.Call (.Name "range" p) [e] [] pos) k :=
  pi_imp (pi_range1 hg hm h hs) fun σ H R ⟨H0, s, ev, q⟩ => ⟨H0, s, ev, fun vs H1 H' x d => by
    cases d with
    | cons h r => cases h; cases r; exact ⟨k, rfl, by omega, by omega, q H1 H' x⟩⟩
theorem ts_for {tg iter : Expr} {body : List Stmt} {n : Nat} (ρs ρt : Nat → List SV) (ts : Nat → Tn) {is : Nat → List Nat} (hp : PassesOwn (model X.prog X.w) X.A X.env X.xe) (hc : X.calm = true) (hi : PIR X ρ tg iter n) (h0 : leS ρ (ρs 0))
    (hg : ∀ j, j < n → PDG X (ρs j) tg (.int (0 + (j : Nat))) (ρt j) (is j)) (hb : ∀ j, j < n → PSs X body (tS (ρt j) (ρs (j + 1)) a (ts j) (ts (j + 1))))
    (hs : ∀ x, foldedSetIterable iter X.env x = pure x := by intro _; rfl) : PS X (.For tg iter body [] pos) (tS ρ (ρs n) a (ts 0) (ts n)) := by
  refine ps_imp (ps_for (g := anyG n fun j => gD (ρs j) (.int (0 + (j : Nat))) (ρt j) (is j)) (tb := anyS n fun j => tS (ρt j) (ρs (j + 1)) a (ts j) (ts (j + 1))) hp hc hi (pg_any hg) (pss_any hb) hs) fun D σ H ⟨H0, s, ev, m, q⟩ => ?_
  refine ⟨H0, s, ev, fun A HA y => ?_⟩
  have goes := goesR (lo := 0) (n := n)
  refine ⟨fun i k σ' H' => k = n - i ∧ i ≤ n ∧ ∃ H0', Same H0' H' ∧ EnvD H0' (ρs i) σ' ∧ TAt a (ts i) H0' H', ⟨n, by omega, Nat.zero_le _, A, y.sub, h0.env (ev.at y.s0), m.ext y⟩, ?_⟩
  rintro i k σ' H' ⟨rfl, hin, H0', s', ev', m'⟩
  by_cases hlt : i < n
  · refine .inr ⟨goes.go i hlt H0' H' s' trivial, fun σ'' H'' => ∃ H0'', Same H0'' H'' ∧ EnvD H0'' (ρs (i + 1)) σ'' ∧ TAt a (ts (i + 1)) H0'' H'', fun σ'' H'' w => ⟨n - (i + 1), by omega, rfl, hlt, w⟩, fun v H2 yl => ?_⟩
    obtain ⟨H02, x2, dv⟩ := goes.yld i hlt H0' H' s' trivial v H2 yl
    refine ⟨i, hlt, H02, x2.sub, ev'.at x2.s0, dv, fun σ2 ev2 _ => ?_⟩
    exact ⟨i, hlt, H02, x2.sub, ev2, m'.ext x2, fun σ3 H03 H3 s3 ev3 m3 => ⟨H03, s3, ev3, m3⟩⟩
  · have e : i = n := by omega
    subst e
    exact .inl ⟨goes.stop H0' H' s' trivial, q σ' H0' H' s' ev' m'⟩
/-- name.append(e), the list and all else flat -/
theorem ts_app (i : Nat) {x : Str} {p ap cp : Pos} (he : PD X ρ e d) (hz : ds.length < sizeLine) (fd : flatD d = true) (fs : ∀ d ∈ ds, flatD d = true) (hfl : (ρ.set i .no).all flatS = true) (hi : ρ[i]? = some (.dat (.list ds)) := by rfl) (hN : X.N[i]? = some x := by rfl)
    (hvis : Vis X.env.scope x := by first | exact Or.inl rfl | exact Or.inr (Or.inl rfl) | exact Or.inr (Or.inr rfl)) (hb1 : (x == ("__debug__" : Str)) = false := by decide) (hb2 : (x == ("__classdict__" : Str)) = false := by decide)
    (hbase : attributeBase (.Name x p) "append" X.env (eval (.Name x p) X.env) = eval (.Name x p) X.env := by rfl)
    (hfew : ((backTo cp (starEach [e] X.env)).all (fun x => !x.1) && (backToKw cp (keywordEach [] X.env)).all (fun x => x.1.isSome)
      && decide (([e] : List Expr).length + ([] : List Keyword).length + (if ([] : List Keyword).isEmpty then 0 else 1) < 30)) = true := by rfl)
    (hline : (ap.endLine == cp.line) = true := by rfl) (hs : starEach [e] X.env = (false, eval e X.env) :: starEach [] X.env := by rfl) (hpl : (backTo cp (starEach [] X.env)).any (·.1) = false := by rfl)
    (hsw : swapsWith (.Call (.Attribute (.Name x p) "append" ap) [e] [] cp) none pos.line X.env = pure false := by rfl) :
    PS X (.Expr (.Call (.Attribute (.Name x p) "append" ap) [e] [] cp) pos) (tS ρ (ρ.set i (.dat (.list (ds ++ [d])))) a t t) :=
  ps_imp (ps_expr (pe_bm PySem.F.plainAttrs_list PySem.F.slot_list_append PySem.F.type_list_append mt_append (pe_var hN hvis hb1 hb2) (pda_cons he pda_nil hs) hbase hfew hline hs hpl) hsw) fun De σ H ⟨H0, s, ev, m, q⟩ => by
    obtain ⟨v, e1, dl⟩ := ev.dat hi
    cases dl with
    | @lst b xs _ hl r =>
      refine ⟨.ref b, e1, .inl ⟨rfl, xs, SqL.of (s _ _ hl)⟩, H0, s, ev, fun vs H1 H' y dv => ?_⟩
      obtain ⟨w, rfl, dw⟩ := one_dq dv
      have m1 := m.ext y
      have ev1 := ev.at y.s0
      have hl1 := y.s0 _ _ hl
      have ne : a ≠ b := fun z => by rw [z] at m1; rw [m1.1] at hl1; cases hl1
      have tp : Tups H1 (upd H1 b (.lst (xs ++ [w]))) := fun c ys hc => by
        have : c ≠ b := fun z => by rw [z, hl1] at hc; cases hc
        rw [upd_ne this]; exact hc
      have ev2 := env_flat tp hfl (ev1.re e1 (s := .no) trivial)
      refine ⟨b, xs, w, rfl, rfl, y.sub _ _ hl1, by rw [r.length]; exact hz, q σ (upd H1 b (.lst (xs ++ [w]))) _ (same_upd y.sub _) ?_ ⟨by rw [upd_ne ne]; exact m1.1, by rw [upd_ne ne]; exact m1.2⟩⟩
      have ev3 := ev2.re e1 (s := .dat (.list (ds ++ [d]))) ⟨_, rfl, .lst upd_same ((flatD_dqa tp fs (r.at y.s0)).append (.cons (flatD_dq tp fd dw) .nil))⟩
      rwa [List.set_set] at ev3
end
/-! ### _law_yard -/
def okNear (found : List Pt) (o : Pt) : Bool := decide (o ∉ found) && decide (0 ≤ (if o.2 < o.1 then o.2 else o.1))
def nearOf (found : List Pt) (c : Pt) : List Pt := (lbesideL c).filter (okNear found)
def nearL (found : List Pt) : List Pt := (found.flatMap (nearOf found)).mergeSort leT
def lapV (s : List Pt × Tn) : List Pt × Tn := (if wholeB (s.1 ++ [pickV s.2 (nearL s.1)]) = true then s.1 ++ [pickV s.2 (nearL s.1)] else s.1, drawT s.2 (nearL s.1).length)
def lapsV (s : List Pt × Tn) : Nat → List Pt × Tn
  | 0 => s
  | n + 1 => lapV (lapsV s n)
def longV (t : Tn) (most : Int) : Int := if drawV t 8 = 0 then 1 + drawV (drawT t 8) most else 2 + drawV (drawT t 8) (if most - 1 > 1 then most - 1 else 1)
def longT (t : Tn) (most : Int) : Tn := if drawV t 8 = 0 then drawT (drawT t 8) most else drawT (drawT t 8) (if most - 1 > 1 then most - 1 else 1)
def begV (t : Tn) : List Pt × Tn := ([(drawV t 3, drawV (drawT t 3) 3)], drawT (drawT t 3) 3)
def yardV (t : Tn) (most : Int) : List Pt × Tn := lapsV (begV (longT t most)) (longV t most - 1).toNat
theorem lapV_len (s : List Pt × Tn) : (lapV s).1.length ≤ s.1.length + 1 := by
  unfold lapV
  show (if _ then _ else _ : List Pt).length ≤ _
  split
  · rw [List.length_append]; exact Nat.le_refl _
  · omega
theorem lapsV_len (s : List Pt × Tn) : ∀ n, (lapsV s n).1.length ≤ s.1.length + n
  | 0 => Nat.le_refl _
  | n + 1 => Nat.le_trans (lapV_len _) (by have := lapsV_len s n; omega)
end Hf

/-! ## HfL8 -/
set_option Elab.async false
set_option linter.all false
set_option maxRecDepth 100000
set_option maxHeartbeats 1000000
/-! _law_yard. -/
namespace Hf
open L2 PySem PySem.Spec PyProof.Rows
open PySem.W (Datum DatumOrd Tup EachIs AllAlike Sortable dataLe)
section
variable {X : Cx} {ρ : List SV} {a : Addr} {t t1 t2 : Tn} {e1 e2 : Expr} {pos : Pos}
theorem pxt_eqI {i j : Int} (hu : X.A.units + Datum.depth Int < cLine) (ha : PX X ρ a t t1 e1 (.int i)) (hb : PX X ρ a t1 t2 e2 (.int j)) : PXT X ρ a t t2 (.Compare e1 [.Eq] [e2] pos) (decide (i = j)) :=
  pxt_cmp (op_eqT (α := Int) hu) ha hb (nomark _) fun v u H0 H Q s d1 d2 q => ⟨i, j, d1.at s, d2.at s, q _ _ _ (.refl s) (.bl _)⟩
end
theorem ts_weak1 {X : Cx} {ρ ρ1 ρ2 : List SV} {a : Addr} {t t1 : Tn} {st : Stmt} (h : PS X st (tS ρ ρ1 a t t1)) (l : leS ρ1 ρ2) : PS X st (tS ρ ρ2 a t t1) := ps_imp h fun D σ H ⟨H0, s, ev, m, q⟩ => ⟨H0, s, ev, m, fun σ' H0' H' x' ev' m' => q σ' H0' H' x' (l.env ev') m'⟩
structure TnB (n : Int) (t : Tn) : Prop where
  l1 : 0 ≤ t.2.1
  l2 : 0 ≤ t.2.2
  h2 : t.2.2 ≤ n
theorem TnB.ok {n : Int} {t : Tn} (h : TnB n t) (hn : n ≤ 100000) : TnOk t := ⟨h.l1, h.l2, Int.le_trans h.h2 hn⟩
theorem TnB.draw {n : Int} {t : Tn} (h : TnB n t) (b : Int) : TnB (n + 1) (drawT t b) := by
  obtain ⟨h1, h2, h3⟩ := h
  unfold drawT
  split
  · exact ⟨h1, h2, by show t.2.2 ≤ n + 1; omega⟩
  · exact ⟨h1, by show 0 ≤ t.2.2 + 1; omega, by show t.2.2 + 1 ≤ n + 1; omega⟩
theorem TnB.laps {n : Int} {s : List Pt × Tn} (h : TnB n s.2) : ∀ k : Nat, TnB (n + k) (lapsV s k).2
  | 0 => by
    have e : n + ((0 : Nat) : Int) = n := by omega
    rw [e]
    exact h
  | k + 1 => by
    have := (TnB.laps h k).draw ((nearL (lapsV s k).1).length : Int)
    show TnB _ (drawT _ _)
    have e : n + ((k + 1 : Nat) : Int) = n + k + 1 := by omega
    rw [e]
    exact this
theorem TnB.long {n : Int} {t : Tn} (h : TnB n t) (most : Int) : TnB (n + 2) (longT t most) := by
  have e : n + 2 = n + 1 + 1 := by omega
  unfold longT
  rw [e]
  split
  · exact (h.draw _).draw _
  · exact (h.draw _).draw _
theorem TnB.beg {n : Int} {t : Tn} (h : TnB n t) : TnB (n + 2) (begV t).2 := by
  have e : n + 2 = n + 1 + 1 := by omega
  rw [e]
  exact (h.draw _).draw _
theorem longV_le (t : Tn) {most : Int} (h : 1 ≤ most) : 1 ≤ longV t most ∧ longV t most ≤ most + 2 := by
  unfold longV
  split
  · have := drawV_lt (drawT t 8) (b := most) (by omega); omega
  · have mb : 0 < (if most - 1 > 1 then most - 1 else 1) ∧ (if most - 1 > 1 then most - 1 else 1) ≤ most := by split <;> omega
    generalize (if most - 1 > 1 then most - 1 else 1) = q at mb ⊢
    have := drawV_lt (drawT t 8) mb.1
    omega
theorem nearL_len (fd : List Pt) : (nearL fd).length ≤ 4 * fd.length := by
  unfold nearL
  rw [List.length_mergeSort]
  exact flat_len (nearOf fd) 4 (fun c => List.length_filter_le _ _) fd
section
variable {P : Program} {w : World} {K : PySem.W.Frag} {mg : Str → Option Value} {base : Heap}
abbrev n60 : List Str := ["_law_tin", "_law_most_so", "_law_long_so", "_law_found", "_law_lap", "_law_near_so", "_law_own", "_law_its"]
theorem sc60 : FnScope n60 ["_law_tin", "_law_most_so"] (defScope (top 60)) := ⟨rfl, rfl, rfl, by decide +kernel, rfl, by decide +kernel, by decide +kernel⟩
theorem bk60 : BlkOk n60 (defScope (top 60)) (scAt 0 (forBody (forBody (defBody (top 60))))) [("_law_its", 7)] := ⟨by decide +kernel, by decide +kernel, by decide +kernel, by decide +kernel, by decide +kernel⟩
structure YardOk (t : Tn) (most : Int) : Prop where
  m1 : 1 ≤ most
  m2 : most ≤ 10
  tb : TnB 1000 t
  near : ∀ j, j < (longV t most - 1).toNat → nearL (lapsV (begV (longT t most)) j).1 ≠ []
def R60 : Tn → Tn → List PyData → PyData → Prop := fun t t' ds d => ∃ most : Int, ds = [.int most] ∧ YardOk t most ∧ d = .tuple (((yardV t most).1.mergeSort leT).map D) ∧ t' = (yardV t most).2
theorem c60 (F : Def K mg "_law_yard" (top 60)) (b : Blt mg) (C49 : CalT P w K mg base 1 "_law_take" ["_law_tin", "_law_below_so"] (spT R49)) (C51 : CalT P w K mg base 2 "_law_of" ["_law_tin", "_law_goods_so"] (spT R51)) (C57 : Cal P w K mg base 1 "_law_beside" ["_law_spot"] R57)
    (C61 : Cal P w K mg base 2 "_law_is_whole" ["_law_squares_so"] R61) : CalT P w K mg base 3 "_law_yard" ["_law_tin", "_law_most_so"] (spW R60) :=
  calW_of F sc60 (fun _ _ _ _ _ _ us hl => match us, hl with | [_, _], _ => rfl) (fun t t' ds d ⟨_, e, _⟩ => by rw [e]; rfl) fun f cdv A outer s H E hr a t t' ds d ⟨most, e1, ok, e2, e3⟩ => by
    subst e1 e2 e3
    obtain ⟨m1, m2, tb, near⟩ := ok
    have ll := longV_le t m1
    have mx : 0 < (if most - 1 > 1 then most - 1 else 1) ∧ (if most - 1 > 1 then most - 1 else 1) ≤ 10 := by split <;> omega
    have tb1 := tb.draw 8
    have tbl := tb.long most
    have tbb := tbl.beg
    have ladd : 1 + drawV (drawT t 8) most = 1 + drawV (drawT t 8) most := rfl
    unfold yardV
    generalize hst : begV (longT t most) = st at near tbb
    have stl : st.1.length = 1 := by rw [← hst]; rfl
    refine tw_cons (ts_set 2 (d := .int (longV t most)) (t1 := longT t most) sc60.nd (px_if (c := decide (drawV t 8 = 0)) (t1 := drawT t 8) (pxt_eqI (ru hr.units) (px_draw (d := .int 8) (d' := .int (drawV t 8)) 0 C49 (hr.mono (by decide)) pd_int ⟨8, rfl, by decide, by decide, tb.ok (by decide), rfl, rfl⟩) (px_pd pd_int)) (fun h => ?_) fun h => ?_))
      (tw_cons (ts_set 3 (d := D st.1) (t1 := st.2) sc60.nd ?_)
      (tw_cons (ts_for (n := (longV t most - 1).toNat) (fun j => [.val (.ref a), .dat (.int most), .dat (.int (longV t most)), .dat (D (lapsV st j).1), .no, .no, .no, .no]) (fun j => [.val (.ref a), .dat (.int most), .dat (.int (longV t most)), .dat (D (lapsV st j).1), .dat (.int (0 + (j : Nat))), .no, .no, .no]) (fun j => (lapsV st j).2) (is := fun _ => [4])
        PassesOwn.never rfl (pir_range (k := (longV t most - 1).toNat) b.range (pda_cons (pd_of_eq (pd_sub (pd_v 2) pd_int) (congrArg PyData.int (by omega))) pda_nil) (by omega)) ⟨.inr rfl, .inr rfl, .inr rfl, .inr rfl, .inr rfl, .inr rfl, .inr rfl, .inr rfl, trivial⟩ (fun j hj => pdg 4 sc60.nd) fun j hj => ?_)
      (pr_retW (pd_tupleL b.tuple (pda_cons (pd_of_eq (pd_sortL b.sorted (pda_cons (pd_v 3) pda_nil) (srt_pt _ ?_ (by rw [Nat.add_assoc]; exact ru hr.units))) (by rw [sort_D])) pda_nil)))))
    · have h := of_decide_eq_true h
      have e1 : longV t most = 1 + drawV (drawT t 8) most := by unfold longV; rw [if_pos h]
      have e2 : longT t most = drawT (drawT t 8) most := by unfold longT; rw [if_pos h]
      rw [e1, e2]
      exact px_add (px_pd pd_int) (px_draw (d := .int most) (d' := .int (drawV (drawT t 8) most)) 0 C49 (hr.mono (by decide)) (pd_v 1) ⟨_, rfl, by omega, by omega, tb1.ok (by decide), rfl, rfl⟩)
    · have h := of_decide_eq_false h
      have e1 : longV t most = 2 + drawV (drawT t 8) (if most - 1 > 1 then most - 1 else 1) := by unfold longV; rw [if_neg h]
      have e2 : longT t most = drawT (drawT t 8) (if most - 1 > 1 then most - 1 else 1) := by unfold longT; rw [if_neg h]
      rw [e1, e2]
      exact px_add (px_pd pd_int) (px_draw (d := .int (if most - 1 > 1 then most - 1 else 1)) (d' := .int (drawV (drawT t 8) (if most - 1 > 1 then most - 1 else 1))) 0 C49 (hr.mono (by decide)) (pd_max2 rfl b.max (pda_cons pd_int (pda_cons (pd_sub (pd_v 1) pd_int) pda_nil))) ⟨_, rfl, mx.1, by omega, tb1.ok (by decide), rfl, rfl⟩)
    · rw [← hst]
      exact px_lst (ds := [D ((drawV (longT t most) 3, drawV (drawT (longT t most) 3) 3) : Pt)]) (pxa_cons (px_tup (ds := [.int (drawV (longT t most) 3), .int (drawV (drawT (longT t most) 3) 3)]) (pxa_cons (px_draw (d := .int 3) (d' := .int (drawV (longT t most) 3)) 0 C49 (hr.mono (by decide)) pd_int ⟨3, rfl, by decide, by decide, tbl.ok (by decide), rfl, rfl⟩)
        (pxa_cons (px_draw (d := .int 3) (d' := .int (drawV (drawT (longT t most) 3) 3)) 0 C49 (hr.mono (by decide)) pd_int ⟨3, rfl, by decide, by decide, (tbl.draw 3).ok (by decide), rfl, rfl⟩) (pxa_pd pda_nil)))) (pxa_pd pda_nil))
    · have nj := near j hj
      have lj := lapsV_len st j
      have tj := (tbb.laps j).ok (by omega)
      show PSs _ _ (tS _ [.val (.ref a), .dat (.int most), .dat (.int (longV t most)), .dat (D (lapV (lapsV st j)).1), .no, .no, .no, .no] a (lapsV st j).2 (lapV (lapsV st j)).2)
      generalize lapsV st j = sj at nj lj tj
      obtain ⟨fd, tt⟩ := sj
      have nj : nearL fd ≠ [] := nj
      have lj : fd.length ≤ 20 := by have : fd.length ≤ st.1.length + j := lj; omega
      have tj : TnOk tt := tj
      have nl := nearL_len fd
      have nfl : ∀ m : Nat, ((fd.take m).flatMap (nearOf fd)).length ≤ 80 := fun m => by
        have := flat_len (nearOf fd) 4 (fun c => List.length_filter_le _ _) (fd.take m)
        rw [List.length_take] at this
        omega
      refine ts_weak (ρ1 := [.val (.ref a), .dat (.int most), .dat (.int (longV t most)), .dat (D (lapV (fd, tt)).1), .dat (.int (0 + (j : Nat))), .no, .dat (D (pickV tt (nearL fd))), .no]) (ts_cons (ts_pn (pn_set (d := D ([] : List Pt)) 5 sc60.nd (pd_lst pda_nil)))
        (ts_cons (ρ1 := [.val (.ref a), .dat (.int most), .dat (.int (longV t most)), .dat (D fd), .dat (.int (0 + (j : Nat))), .dat (D (fd.flatMap (nearOf fd))), .no, .no]) (ts_pn (pn_weak (ρ1 := [.val (.ref a), .dat (.int most), .dat (.int (longV t most)), .dat (D fd), .dat (.int (0 + (j : Nat))), .dat (D ((fd.take (fd.map (fun c : Pt => D c)).length).flatMap (nearOf fd))), .no, .no])
          (pn_for (n := (fd.map (fun c : Pt => D c)).length) (dat := fun m => (fd.map (fun c : Pt => D c)).getD m .none) (fun m => [.val (.ref a), .dat (.int most), .dat (.int (longV t most)), .dat (D fd), .dat (.int (0 + (j : Nat))), .dat (D ((fd.take m).flatMap (nearOf fd))), .no, .no])
            (fun m => [.val (.ref a), .dat (.int most), .dat (.int (longV t most)), .dat (D fd), .dat (.int (0 + (j : Nat))), .dat (D ((fd.take m).flatMap (nearOf fd))), .dat ((fd.map (fun c : Pt => D c)).getD m .none), .no]) (fun m => [.val (.ref a), .dat (.int most), .dat (.int (longV t most)), .dat (D fd), .dat (.int (0 + (j : Nat))), .dat (D ((fd.take (m + 1)).flatMap (nearOf fd))), .dat ((fd.map (fun c : Pt => D c)).getD m .none), .no])
            (fun _ => atM a tt) (is := fun _ => [6]) PassesOwn.never rfl (pdi_list (ds := fd.map D) (pd_v 3)) ⟨.inr rfl, .inr rfl, .inr rfl, .inr rfl, .inr rfl, .inr rfl, .inr rfl, .inr rfl, trivial⟩ (fun m hm => pdg 6 sc60.nd) (fun m hm => ?_) fun m hm => ⟨.inr rfl, .inr rfl, .inr rfl, .inr rfl, .inr rfl, .inr rfl, .inl rfl, .inr rfl, trivial⟩) ?_))
        (ts_cons (ts_weak1 (ρ2 := [.val (.ref a), .dat (.int most), .dat (.int (longV t most)), .dat (D fd), .dat (.int (0 + (j : Nat))), .no, .dat (D (pickV tt (nearL fd))), .no]) (ts_set 6 (d := D (pickV tt (nearL fd))) (t1 := drawT tt (nearL fd).length) sc60.nd (px_draw (d := .list ((nearL fd).map D)) 0 C51 hr (pd_of_eq (pd_sortL b.sorted (pda_cons (pd_v 5) pda_nil) (srt_pt _ ?_ (by rw [Nat.add_assoc]; exact ru hr.units))) (by rw [sort_D]; rfl)) ⟨_, rfl, nj, by omega, tj, rfl, rfl⟩)) ⟨.inr rfl, .inr rfl, .inr rfl, .inr rfl, .inr rfl, .inl rfl, .inr rfl, .inr rfl, trivial⟩)
        (ts_cons (ts_if (b := wholeB (fd ++ [pickV tt (nearL fd)])) (pdt_val (pdc C61 hr (pda_cons (pd_of_eq (pd_catL (ds := fd.map D) (es := [D (pickV tt (nearL fd))]) (pd_v 3) (pd_lst (pda_cons (pd_v 6) pda_nil)) ?_) ?_) pda_nil) ⟨_, rfl, ?_, rfl⟩)) (fun h => ?_) fun h => ?_) ts_nil))))
        ⟨.inr rfl, .inr rfl, .inr rfl, .inr rfl, .inl rfl, .inr rfl, .inl rfl, .inr rfl, trivial⟩
      · obtain ⟨c, hc, hd⟩ := atm (xs := fd) (g := fun c : Pt => D c) hm
        rw [hd]
        refine pns_one (pn_set 5 sc60.nd (pd_of_eq (pd_catL (ds := ((fd.take m).flatMap (nearOf fd)).map D) (es := (nearOf fd c).map D) (pd_v 5) (pd_lcf 7 (lbesideL c) D D (okNear fd) rfl sc60.nd (pdi_list (ds := (lbesideL c).map D) (pdc C57 (hr.mono (by decide)) (pda_cons (pd_v 6) pda_nil) ⟨c, rfl, rfl⟩)) bk60 (by show 4 < _; omega)
          (fun o _ s H C cl fp => (pdw_and (pdt_of_eq2 (pdt_notInL (α := Pt) (x := o) (xs := fd) (ru1 hr.units) (pd_v 7) (pd_v 3)) (decide_eq_decide.mpr Iff.rfl)) fun _ => pdw_and1 (pdt_ge (pd_min2 rfl (ru hr.units) b.min (pda_cons (pd_v 7) pda_nil)) pd_int)).pt) fun o _ s H C cl fp => pd_v 7) ?_) ?_))
        · have h1 := nfl m
          have h2 : (nearOf fd c).length ≤ 4 := List.length_filter_le _ _
          rw [List.length_map, List.length_map, sizeLine_eq]
          omega
        · rw [take_next' hc, List.flatMap_append]
          show PyData.list _ = .list (List.map D _)
          rw [List.map_append]
          simp only [List.flatMap_cons, List.flatMap_nil, List.append_nil]
      · rw [List.length_map, List.take_length]
        exact leS.refl _
      · have h1 := nfl fd.length
        rw [List.take_length] at h1
        rw [sizeLine_eq]
        omega
      · rw [List.length_map, sizeLine_eq]
        show fd.length + 1 ≤ _
        omega
      · rw [List.map_append]; rfl
      · rw [List.length_append]
        show fd.length + 1 ≤ _
        omega
      · have e : (lapV (fd, tt)).1 = fd ++ [pickV tt (nearL fd)] := by unfold lapV; exact if_pos h
        rw [e]
        have e2 : D (fd ++ [pickV tt (nearL fd)]) = .list (fd.map D ++ [D (pickV tt (nearL fd))]) := by show PyData.list (List.map D _) = _; rw [List.map_append]; rfl
        rw [e2]
        exact ts_cons (ts_app 3 (pd_v 6) (by rw [List.length_map, sizeLine_eq]; omega) rfl (fun d hd => by obtain ⟨c, _, rfl⟩ := List.mem_map.mp hd; rfl) rfl) ts_nil
      · have e : (lapV (fd, tt)).1 = fd := by unfold lapV; exact if_neg (by rw [h]; decide)
        rw [e]
        exact ts_nil
    · have := lapsV_len st (longV t most - 1).toNat
      rw [sizeLine_eq]
      omega
end
end Hf

/-! ## HfL9 -/
set_option Elab.async false
set_option linter.all false
set_option maxRecDepth 100000
set_option maxHeartbeats 1000000
/-! _law_box, _law_cells. -/
namespace Hf
open L2 PySem PySem.Spec PyProof.Rows
open PySem.W (Datum DatumOrd Tup EachIs AllAlike Sortable dataLe)
section
variable {X : Cx} {ρ : List SV} {d : PyData} {ds es : List PyData} {e a b : Expr} {p pos : Pos}
theorem pw_orL (ha : PNew X ρ a (oL ds)) (hb : PNew X ρ b (oL es)) : PNew X ρ (.BoolOp .Or [a, b] pos) (oL (if ds.isEmpty = true then es else ds)) :=
  pe_imp (pe_orT ha (pe_one hb)) fun σ H Q ⟨H0, s, ev, q⟩ => ⟨H0, s, ev, fun l o H1 H' x h1 h2 h3 ⟨xs, eo, r⟩ => by
    subst eo
    refine ⟨!ds.isEmpty, .inl ⟨xs, SqL.of h3, ?_⟩, ?_⟩
    · cases r <;> rfl
    · cases hd : ds.isEmpty with
      | true =>
        rw [hd] at q
        exact iteF ⟨H1, x.sub, ev.at x.s0, fun l2 o2 H2 H'' y k1 k2 k3 k4 => q l2 o2 H2 H'' (x.trans y) (x.s.free k1) k2 k3 k4⟩
      | false =>
        rw [hd] at q
        exact iteT (q l _ H1 H' x h1 h2 h3 ⟨xs, rfl, r⟩)⟩
theorem pw_listL {p : Pos} (hm : X.mg "list" = none) (h : PDA X ρ [e] [.list ds]) (hs : starEach [e] X.env = (false, eval e X.env) :: starEach [] X.env := by rfl) (hpl : (backTo pos (starEach [] X.env)).any (·.1) = false := by rfl) (hg : Gl X "list" := by rfl) : PNew X ρ (.Call (.Name "list" p) [e] [] pos) (oL ds) :=
  pe_imp (pe_callTy call_list_of hg hm boot_list' h (by decide) (by decide) hs hpl) fun σ H Q ⟨H0, s, ev, q⟩ => ⟨H0, s, ev, fun vs H1 H' x dv => by
    obtain ⟨v, rfl, dw⟩ := one_dq dv
    cases dw with
    | lst ht r => exact ⟨_, _, rfl, .inl (SqL.of (x.sub _ _ ht)), fun l hl => q l _ H1 _ (x.trans (.more x.sub hl _)) (x.s.free hl) (x.sub.free hl) upd_same ⟨_, rfl, r⟩⟩⟩
theorem pd_till {p2 : Pos} {k : Nat} (ha : PD X ρ a (.list ds)) (hb : PD X ρ b (.int k)) : PD X ρ (.Subscript a (.Slice none (some b) none p2) pos) (.list (ds.take k)) :=
  pe_imp (pe_slice sl_list ha po_none (po_some hb)) fun σ H Q ⟨H0, s, ev, q⟩ => ⟨H0, s, ev, fun v H1 H' x d1 => ⟨H1, x.sub, ev.at x.s0, fun u H2 H'' y d2 => by
    cases d2
    cases d1 with
    | lst h1 r1 =>
      refine ⟨_, rfl, _, _, rfl, SqL.of (y.sub _ _ (y.s0 _ _ h1)), fun l hl => ?_⟩
      refine q _ _ _ ((x.trans y).trans (.new y.sub hl _)) (.lst upd_same ?_)
      have e : ∀ zs : List V, cutV zs none (some (k : Int)) = zs.take k := fun zs => by
        unfold cutV
        rw [HT.sIx_nat, HT.sIx_none, List.drop_zero, Nat.sub_zero]
        rcases Nat.le_total k zs.length with h | h
        · rw [Nat.min_eq_left h]
        · rw [Nat.min_eq_right h, List.take_of_length_le (Nat.le_refl _), List.take_of_length_le h]
      rw [e]
      exact ((r1.take k).at y.s0).at (same_new (y.sub.free hl) _)⟩⟩
theorem pd_cut {c : Expr} {p2 : Pos} {j k : Nat} (ha : PD X ρ a (.list ds)) (hb : PD X ρ b (.int j)) (hc : PD X ρ c (.int k)) : PD X ρ (.Subscript a (.Slice (some b) (some c) none p2) pos) (.list ((ds.drop j).take (k - j))) :=
  pe_imp (pe_slice sl_list ha (po_some hb) (po_some hc)) fun σ H Q ⟨H0, s, ev, q⟩ => ⟨H0, s, ev, fun v H1 H' x d1 => ⟨H1, x.sub, ev.at x.s0, fun u H2 H'' y d2 => by
   cases d2
   exact ⟨_, rfl, H2, y.sub, (ev.at x.s0).at y.s0, fun z H3 H3' w d3 => by
    cases d3
    cases d1 with
    | lst h1 r1 =>
      have yw := y.trans w
      refine ⟨_, rfl, _, _, rfl, SqL.of (yw.sub _ _ (yw.s0 _ _ h1)), fun l hl => ?_⟩
      refine q _ _ _ ((x.trans yw).trans (.new yw.sub hl _)) (.lst upd_same ?_)
      have e : ∀ zs : List V, cutV zs (some (j : Int)) (some (k : Int)) = (zs.drop j).take (k - j) := fun zs => by
        unfold cutV
        rw [HT.sIx_nat, HT.sIx_nat]
        rcases Nat.le_total j zs.length with h | h
        · rw [Nat.min_eq_left h]
          rcases Nat.le_total k zs.length with h2 | h2
          · rw [Nat.min_eq_left h2]
          · rw [Nat.min_eq_right h2, List.take_of_length_le (by rw [List.length_drop]; exact Nat.le_refl _), List.take_of_length_le (by rw [List.length_drop]; omega)]
        · rw [Nat.min_eq_right h, List.drop_eq_nil_of_le h, List.drop_eq_nil_of_le (Nat.le_refl _), List.take_nil, List.take_nil]
      rw [e]
      exact (((r1.drop j).take (k - j)).at yw.s0).at (same_new (yw.sub.free hl) _)⟩⟩⟩
/-! slices of a list that stands -/
theorem dqa_ints {H : Hp} : ∀ zs : List Int, DqA H (zs.map V.int) (zs.map PyData.int)
  | [] => .nil
  | z :: zs => .cons (.int z) (dqa_ints zs)
theorem cut_till (k : Nat) (zs : List V) : cutV zs none (some (k : Int)) = zs.take k := by
  unfold cutV
  rw [HT.sIx_nat, HT.sIx_none, List.drop_zero, Nat.sub_zero]
  rcases Nat.le_total k zs.length with h | h
  · rw [Nat.min_eq_left h]
  · rw [Nat.min_eq_right h, List.take_of_length_le (Nat.le_refl _), List.take_of_length_le h]
theorem cut_from (j k : Nat) (zs : List V) : cutV zs (some (j : Int)) (some (k : Int)) = (zs.drop j).take (k - j) := by
  unfold cutV
  rw [HT.sIx_nat, HT.sIx_nat]
  rcases Nat.le_total j zs.length with h | h
  · rw [Nat.min_eq_left h]
    rcases Nat.le_total k zs.length with h2 | h2
    · rw [Nat.min_eq_left h2]
    · rw [Nat.min_eq_right h2, List.take_of_length_le (by rw [List.length_drop]; exact Nat.le_refl _), List.take_of_length_le (by rw [List.length_drop]; omega)]
  · rw [Nat.min_eq_right h, List.drop_eq_nil_of_le h, List.drop_eq_nil_of_le (Nat.le_refl _), List.take_nil, List.take_nil]
theorem pd_tillS (i : Nat) {l : Addr} {zs : List Int} {x : Str} {p2 : Pos} {k : Nat} (hb : PD X ρ b (.int k)) (hi : ρ[i]? = some (.sq X.K l (zs.map V.int)) := by rfl) (hN : X.N[i]? = some x := by rfl) (hv : Vis X.env.scope x := by first | exact Or.inl rfl | exact Or.inr (Or.inl rfl) | exact Or.inr (Or.inr rfl)) (hd : (x == ("__debug__" : Str)) = false := by decide)
    (hcd : (x == ("__classdict__" : Str)) = false := by decide) : PD X ρ (.Subscript (.Name x p) (.Slice none (some b) none p2) pos) (.list ((zs.map .int).take k)) :=
  pe_imp (pe_slice sl_list (pe_var hN hv hd hcd) po_none (po_some hb)) fun σ H Q ⟨H0, s, ev, q⟩ => by
    obtain ⟨_, e1, rfl, hq⟩ := ev.get hi
    refine ⟨.ref l, e1, H0, s, ev, fun u H2 H'' y d2 => ?_⟩
    cases d2
    refine ⟨_, rfl, _, _, rfl, sq_same (s.trans y.s) hq, fun m hm => ?_⟩
    refine q _ _ _ (y.trans (.new y.sub hm _)) (.lst upd_same ?_)
    rw [cut_till]
    exact (dqa_ints zs).take k
theorem pd_cutS (i : Nat) {l : Addr} {zs : List Int} {x : Str} {c : Expr} {p2 : Pos} {j k : Nat} (hb : PD X ρ b (.int j)) (hc : PD X ρ c (.int k)) (hi : ρ[i]? = some (.sq X.K l (zs.map V.int)) := by rfl) (hN : X.N[i]? = some x := by rfl) (hv : Vis X.env.scope x := by first | exact Or.inl rfl | exact Or.inr (Or.inl rfl) | exact Or.inr (Or.inr rfl)) (hd : (x == ("__debug__" : Str)) = false := by decide)
    (hcd : (x == ("__classdict__" : Str)) = false := by decide) : PD X ρ (.Subscript (.Name x p) (.Slice (some b) (some c) none p2) pos) (.list (((zs.map .int).drop j).take (k - j))) :=
  pe_imp (pe_slice sl_list (pe_var hN hv hd hcd) (po_some hb) (po_some hc)) fun σ H Q ⟨H0, s, ev, q⟩ => by
    obtain ⟨_, e1, rfl, hq⟩ := ev.get hi
    refine ⟨.ref l, e1, H0, s, ev, fun u H2 H'' y d2 => ?_⟩
    cases d2
    refine ⟨_, rfl, H2, y.sub, ev.at y.s0, fun u3 H3 H3' w d3 => ?_⟩
    cases d3
    have yw := y.trans w
    refine ⟨_, rfl, _, _, rfl, sq_same (s.trans yw.s) hq, fun m hm => ?_⟩
    refine q _ _ _ (yw.trans (.new yw.sub hm _)) (.lst upd_same ?_)
    rw [cut_from]
    exact ((dqa_ints zs).drop j).take (k - j)
end
section
variable {P : Program} {w : World} {K : PySem.W.Frag} {mg : Str → Option Value} {base : Heap}
/-! _law_box -/
abbrev n48 : List Str := ["_law_script", "_law_k", "_law_bit_so"]
theorem sc48 : FnScope n48 ["_law_script", "_law_k"] (defScope (top 48)) := ⟨rfl, rfl, rfl, by decide +kernel, rfl, by decide +kernel, by decide +kernel⟩
def absI (z : Int) : Int := if z < 0 then -z else z
def boxV (z : Int) : Tn := (absI z * (if decide ((10 : Int) ^ (18 : Int).toNat ≤ absI z) = true then 1 else 0), z % 2305843009213693951 + 39373 * 0 + 5321009, 0)
def R48 : List PyData → PyData → Prop := fun ds d => ∃ zs : List Int, ds = [.list (zs.map .int), .int 0] ∧ d = .list (tDs (boxV (zs.headD 0)))
theorem c48 (F : Def K mg "_law_box" (top 48)) (b : Blt mg) : Cal P w K mg base 1 "_law_box" ["_law_script", "_law_k"] R48 :=
  cal_of F sc48 (fun _ _ _ _ _ _ us hl => match us, hl with | [_, _], _ => rfl) (fun ds d ⟨_, e, _⟩ => by rw [e]; rfl) fun f cdv A outer s H E hr ds d ⟨zs, e1, e2⟩ => by
    subst e1 e2
    refine pb_cons (pn_set (d := .int (zs.headD 0)) 2 sc48.nd (pd_if (pdt_lt (pd_v 1) (pd_lenL (ds := zs.map .int) b.len (pda_cons (pd_v 0) pda_nil))) (fun h => ?_) fun h => ?_)) (pb_ret (pd_lst (ds := tDs (boxV (zs.headD 0))) (pda_cons (pd_mul (pd_abs b.abs (pda_cons (pd_v 2) pda_nil)) (pd_intB b.int (pda_cons (pd_ge (pd_abs b.abs (pda_cons (pd_v 2) pda_nil)) (pd_pow pd_int pd_int ⟨by decide, by decide, by decide⟩)) pda_nil)) (.inr ?_))
      (pda_cons (pd_add (pd_add (pd_mod (pd_intI b.int (pda_cons (pd_v 2) pda_nil)) pd_int (by decide)) (pd_mul pd_int (pd_v 1) (.inl ⟨by decide, by decide⟩))) pd_int) (pda_cons pd_int pda_nil)))))
    · have h := of_decide_eq_true h
      rw [List.length_map] at h
      cases zs with
      | nil => exact absurd h (by decide)
      | cons z zs => exact pd_ixL (ds := (z :: zs).map .int) (pd_v 0) (pd_v 1) (show atI ((z :: zs).map PyData.int) ((0 : Nat) : Int) = some (.int z) from atI_nat rfl)
    · have h := of_decide_eq_false h
      rw [List.length_map] at h
      cases zs with
      | nil => exact pd_int
      | cons z zs => exact absurd (show (0 : Int) < ((z :: zs).length : Int) by rw [List.length_cons]; omega) h
    · split <;> decide
/-! _law_cells, of one number -/
abbrev n50 : List Str := ["_law_script", "_law_most_so", "_law_cells_so", "_law_k", "_law_bit_so", "_law_at_so"]
theorem sc50 : FnScope n50 ["_law_script", "_law_most_so"] (defScope (top 50)) := ⟨rfl, rfl, rfl, by decide +kernel, rfl, by decide +kernel, by decide +kernel⟩
def cellN (c : Int) (ys : List Int) : Nat → Int
  | 0 => c
  | n + 1 => cellN c ys n + ys.getD n 0 * (n + 2)
def cellV (zs : List Int) : Int := cellN (zs.headD 0) ((zs.drop 1).take 62) ((zs.drop 1).take 62).length
def spCells (K : PySem.W.Frag) : Sp := fun vs H Q _ => ∃ (l : Addr) (zs : List Int) (H0 : Hp), vs = [.ref l, .int 1] ∧ SqL K H0 l (zs.map V.int) ∧ Same H0 H ∧ Ret H0 H (.list [.int (cellV zs)]) Q
theorem b50 {f : Addr} {cdv : Value} {A : Around} {outer : List Env} {s : Shared} {H : Hp} {E : XK} (b : Blt mg) (l0 : Addr) (zs : List Int) :
    PB (cxOf CX0 P w K mg base n50 "_law_cells" (defScope (top 50)) f cdv A outer s H E).nox [.sq K l0 (zs.map V.int), .dat (.int 1), .no, .no, .no, .no] emp (defBody (top 50)) (.list [.int (cellV zs)]) := by
    have st : (if ((zs.map PyData.int).take 1).isEmpty = true then [PyData.int 0] else (zs.map PyData.int).take 1) = [.int (zs.headD 0)] := by cases zs <;> rfl
    have cut : (((zs.map PyData.int).drop 1).take (63 - 1)) = ((zs.drop 1).take 62).map PyData.int := by rw [List.map_take, List.map_drop]
    unfold cellV
    refine pb_own (pb_new 2 (t := oL [.int (zs.headD 0)]) sc50.nd (st ▸ pw_orL (pw_listL b.list (pda_cons (pd_tillS (k := 1) 0 (pd_v 1)) pda_nil)) (pw_lst (pda_cons pd_int pda_nil))) fun l => ?_)
    generalize hy : (zs.drop 1).take 62 = ys at cut
    have yl : ys.length ≤ 62 := by rw [← hy, List.length_take]; omega
    refine pb_cons (pn_for (n := (ys.map PyData.int).length) (dat := fun j => .tuple [.int j, (ys.map PyData.int).getD j .none]) (fun j => [.sq K l0 (zs.map V.int), .dat (.int 1), .val (.ref l), .no, .no, .no]) (fun j => [.sq K l0 (zs.map V.int), .dat (.int 1), .val (.ref l), .dat (.int j), .dat ((ys.map PyData.int).getD j .none), .no])
      (fun j => [.sq K l0 (zs.map V.int), .dat (.int 1), .val (.ref l), .dat (.int j), .dat ((ys.map PyData.int).getD j .none), .dat (.int 0)]) (fun j => own [(l, oL [.int (cellN (zs.headD 0) ys j)])]) (is := fun _ => [3] ++ ([4] ++ [])) PassesOwn.never rfl (pdi_enum b.enum (pda_cons (cut ▸ pd_cutS (j := 1) (k := 63) 0 (pd_v 1) pd_int) pda_nil)) (leS.refl _) (fun j hj => pdg_tup (ds := [.int j, (ys.map PyData.int).getD j .none]) rfl (pdgs_cons (pdg 3 sc50.nd) (pdgs_cons (pdg 4 sc50.nd) pdgs_nil))) (fun j hj => ?_)
      fun j hj => ⟨.inr rfl, .inr rfl, .inr rfl, .inl rfl, .inl rfl, .inl rfl, trivial⟩) ?_
    · rw [List.length_map] at hj
      have hx : ys[j]? = some ys[j] := List.getElem?_eq_getElem hj
      have hd : ys.getD j 0 = ys[j] := by rw [List.getD_eq_getElem?_getD, hx]; rfl
      rw [getD_map hx]
      show PNs _ _ _ _ (own [(l, oL [.int (cellN (zs.headD 0) ys j + ys.getD j 0 * ((j : Int) + 2))])]) _
      rw [hd]
      generalize ys[j] = y
      generalize cellN (zs.headD 0) ys j = c
      refine pns_cons (pn_set (d := .int 0) 5 sc50.nd (pd_of_eq (pd_mod (i := (j : Int)) (j := 1) (pd_intI b.int (pda_cons (pd_v 3) pda_nil)) (pd_v 1) (by decide)) (congrArg PyData.int (by omega))))
        (pns_one (pn_lset 0 2 (z := c + y * ((j : Int) + 2)) (j := 0) (n := 0) (ds := [.int c]) (ds' := [.int (c + y * ((j : Int) + 2))]) (Peek.refl.list 2 0) (pd_add (pd_ixL (d := .int c) (ds := [.int c]) (pd_v 2) (pd_v 5)) (pd_mul (pd_v 4) (pd_add (pd_v 3) pd_int) (.inr ⟨by omega, by omega⟩))) (pd_v 5) rfl))
    · rw [List.length_map]
      exact pb_retL 0 2
theorem c50 (F : Def K mg "_law_cells" (top 50)) (b : Blt mg) : CalT P w K mg base 1 "_law_cells" ["_law_script", "_law_most_so"] (spCells K) := by
  obtain ⟨f, fd, F, m⟩ := F
  refine ⟨f, fd, F.ok sc50 (fun vs H Q E ⟨l, zs, H0, e, _⟩ => by rw [e]; rfl) fun cdv A outer s H vs Q E hr ⟨l, zs, H0, e, hq, sm, q⟩ => ⟨_, b50 b l zs, ?_⟩, m, F.kp, F.binds fun _ _ _ _ _ _ us hl => match us, hl with | [_, _], _ => rfl⟩
  subst e
  exact ⟨H0, H, H0, .refl sm, ⟨⟨rfl, hq⟩, ⟨_, rfl, .int 1⟩, trivial, trivial, trivial, trivial, trivial⟩, trivial, fun v H0' H' x dq => q v H0' H' x dq⟩
end
end Hf

/-! ## HfL10 -/
set_option Elab.async false
set_option linter.all false
set_option maxRecDepth 100000
set_option maxHeartbeats 1000000
/-! _law_by_hand_right. -/
namespace Hf
open L2 PySem PySem.Spec PyProof.Rows
open PySem.W (Datum DatumOrd Tup EachIs AllAlike Sortable dataLe)
/-- a yard and a hole that may be asked, and their floors are few -/
structure HOk (S : List Pt) (h : Pt) : Prop where
  yd : Yd S
  len : S.length ≤ 50
  cell : isCell S h = true
  kind : kindS h ≠ "rail"
theorem nest_pt (c : Pt) : Nest 1 (D c) := .inr ⟨[.int c.1, .int c.2], .inr rfl, by show 2 ≤ _; decide, fun x hx => by
  rcases List.mem_cons.mp hx with e | hx
  · exact ⟨_, e⟩
  · exact ⟨_, List.mem_singleton.mp hx⟩⟩
theorem nest_lp (c : Pt) : Nest 1 (.list [.int c.1, .int c.2]) := .inr ⟨[.int c.1, .int c.2], .inl rfl, by show 2 ≤ _; decide, fun x hx => by
  rcases List.mem_cons.mp hx with e | hx
  · exact ⟨_, e⟩
  · exact ⟨_, List.mem_singleton.mp hx⟩⟩
def ptL (c : Pt) : PyData := .list [.int c.1, .int c.2]
theorem ask_t {S : List Pt} {h : Pt} (o : HOk S h) : Ask S h (.tuple (S.map D)) (D h) where
  n1 := .inr ⟨_, .inr rfl, by rw [List.length_map]; have := o.len; omega, fun x hx => by obtain ⟨c, _, rfl⟩ := List.mem_map.mp hx; exact nest_pt c⟩
  t1 := by show PyData.tuple ((S.map D).map (tupN 1)) = _; rw [List.map_map]; rfl
  n2 := nest_pt h
  t2 := rfl
  yd := o.yd
  cell := o.cell
  kind := o.kind
theorem ask_l {S : List Pt} {h : Pt} (o : HOk S h) : Ask S h (.list (S.map ptL)) (ptL h) where
  n1 := .inr ⟨_, .inl rfl, by rw [List.length_map]; have := o.len; omega, fun x hx => by obtain ⟨c, _, rfl⟩ := List.mem_map.mp hx; exact nest_lp c⟩
  t1 := by show PyData.tuple ((S.map ptL).map (tupN 1)) = _; rw [List.map_map]; rfl
  n2 := nest_lp h
  t2 := rfl
  yd := o.yd
  cell := o.cell
  kind := o.kind
/-- the floors by hand -/
def fourP : List Pt := [(0, 0), (0, 2), (2, 0), (2, 2)]
def fourQ : List Pt := [(0, 0), (1, 1), (2, 2), (3, 1)]
def longY : List Pt := [(0, 0), (1, 0)]
def triY : List Pt := [(0, 0), (1, 0), (2, 0)]
def backF : Fl := Tup.mk ([((0, 0), (0, 1)), ((0, 2), (1, 2)), ((2, 0), (1, 0)), ((2, 2), (2, 1))] : List Cp)
def firstF : Fl := Tup.mk ([((0, 2), (0, 1)), ((1, 1), (1, 0)), ((2, 0), (2, 1)), ((2, 2), (1, 2))] : List Cp)
structure HandOk : Prop where
  o1 : HOk oneY (1, 1) ∧ FlOk oneY (1, 1)
  o4 : ∀ p ∈ fourP, HOk oneY p ∧ FlOk oneY p
  oq : ∀ p ∈ fourQ, HOk longY p ∧ FlOk longY p
  ot : HOk triY (3, 1) ∧ FlOk triY (3, 1)
  h1 : floorsM oneY (1, 1) = [backF, ringF]
  h2 : (floorsM oneY (0, 0))[0]? = some firstF
  h4 : (fourP.map fun p => (floorsM oneY p).length) = [4, 4, 4, 4]
  hq : (fourQ.map fun p => (floorsM longY p).length) = [15, 8, 15, 8]
  ht : (floorsM triY (3, 1)).length = 32
theorem r65_t {S : List Pt} {h : Pt} (o : HOk S h ∧ FlOk S h) : R65 [.tuple (S.map D), D h] (D (floorsM S h)) := ⟨S, h, _, _, rfl, ask_t o.1, .inl ⟨o.2, rfl⟩⟩
theorem r65_l {S : List Pt} {h : Pt} (o : HOk S h ∧ FlOk S h) : R65 [.list (S.map ptL), ptL h] (D (floorsM S h)) := ⟨S, h, _, _, rfl, ask_l o.1, .inl ⟨o.2, rfl⟩⟩
def leafB : PyData → Bool
  | .int _ => true
  | .bool _ => true
  | .str _ => true
  | _ => false
theorem leaf_of {e : PyData} (h : leafB e = true) : Leaf e := by cases e <;> first | exact trivial | cases h
theorem nests_pt (c : Pt) : NestS 1 (D c) := .inr ⟨[.int c.1, .int c.2], .inr rfl, by show 2 ≤ _; decide, fun x hx => by
  rcases List.mem_cons.mp hx with e | hx
  · rw [e]; exact trivial
  · rw [List.mem_singleton.mp hx]; exact trivial⟩
theorem nests_cp (c : Cp) : NestS 2 (D c) := .inr ⟨[D c.1, D c.2], .inr rfl, by show 2 ≤ _; decide, fun x hx => by
  rcases List.mem_cons.mp hx with e | hx
  · rw [e]; exact nests_pt _
  · rw [List.mem_singleton.mp hx]; exact nests_pt _⟩
theorem nests_fl (f : Fl) (h : f.items.length ≤ 100000) : NestS 3 (D f) := .inr ⟨f.items.map D, .inr rfl, by rw [List.length_map]; exact h, fun x hx => by obtain ⟨c, _, rfl⟩ := List.mem_map.mp hx; exact nests_cp c⟩
theorem nests_fls (fs : List Fl) (hl : fs.length ≤ 100000) (h : ∀ f ∈ fs, f.items.length ≤ 100000) : NestS 4 (D fs) := .inr ⟨fs.map D, .inl rfl, by rw [List.length_map]; exact hl, fun x hx => by obtain ⟨c, hc, rfl⟩ := List.mem_map.mp hx; exact nests_fl c (h c hc)⟩
theorem NestS.up : ∀ {n : Nat} {e : PyData}, NestS n e → NestS (n + 1) e
  | 0, _, h => .inl h
  | _ + 1, _, .inl h => .inl h
  | _ + 1, _, .inr ⟨ds, h1, h2, h3⟩ => .inr ⟨ds, h1, h2, fun x hx => (h3 x hx).up⟩
def handD : PyData := .list [D [backF, ringF], D firstF, .list [.int 4, .int 4, .int 4, .int 4], .list [.int 15, .int 8, .int 15, .int 8], .int 32]
theorem nests_ints (is : List Int) (h : is.length ≤ 100000) : NestS 1 (.list (is.map .int)) := .inr ⟨_, .inl rfl, by rw [List.length_map]; exact h, fun x hx => by obtain ⟨c, _, rfl⟩ := List.mem_map.mp hx; exact trivial⟩
theorem nests_hand : NestS 5 handD := .inr ⟨_, .inl rfl, by show 5 ≤ _; decide, fun x hx => by
  rcases List.mem_cons.mp hx with e | hx
  · rw [e]
    exact nests_fls [backF, ringF] (by decide) fun f hf => by
      rcases List.mem_cons.mp hf with e | hf
      · rw [e]; decide
      · rw [List.mem_singleton.mp hf]; decide
  rcases List.mem_cons.mp hx with e | hx
  · rw [e]; exact (nests_fl firstF (by decide)).up
  rcases List.mem_cons.mp hx with e | hx
  · rw [e]; exact (nests_ints [4, 4, 4, 4] (by decide)).up.up.up
  rcases List.mem_cons.mp hx with e | hx
  · rw [e]; exact (nests_ints [15, 8, 15, 8] (by decide)).up.up.up
  · rw [List.mem_singleton.mp hx]; exact .inl trivial⟩
section
variable {P : Program} {w : World} {K : PySem.W.Frag} {mg : Str → Option Value} {base : Heap}
abbrev n66 : List Str := ["_law_one_here", "_law_ring_so", "_law_back_so", "_law_got", "_law_due", "_law_long_so", "_law_own"]
theorem sc66 : FnScope n66 [] (defScope (top 66)) := ⟨rfl, rfl, rfl, by decide +kernel, rfl, by decide +kernel, by decide +kernel⟩
def scGot (k : Nat) : List Stmt → Scope
  | _ :: _ :: .Assign _ (.List [_, _, .ListComp _ _ sc _] _) _ :: r => if k = 0 then sc else match r with
    | _ :: _ :: .Assign _ (.BinOp _ _ (.List [.ListComp _ _ sc2 _, _] _) _) _ :: _ => sc2
    | _ => defScope (top 7)
  | _ => defScope (top 7)
theorem bk66a : BlkOk n66 (defScope (top 66)) (scGot 0 (defBody (top 66))) [("_law_own", 6)] := ⟨by decide +kernel, by decide +kernel, by decide +kernel, by decide +kernel, by decide +kernel⟩
theorem bk66b : BlkOk n66 (defScope (top 66)) (scGot 1 (defBody (top 66))) [("_law_own", 6)] := ⟨by decide +kernel, by decide +kernel, by decide +kernel, by decide +kernel, by decide +kernel⟩
def R66 : List PyData → PyData → Prop := fun ds d => ds = [] ∧ d = .bool true
theorem c66 (F : Def K mg "_law_by_hand_right" (top 66)) (b : Blt mg) (O : HandOk) (C53 : Cal P w K mg base 6 "_law_same" ["_law_got", "_law_due"] (R53 5)) (C64 : Cal P w K mg base 1 "_law_one" [] R64) (C65 : Cal P w K mg base 12 "_law_heard" ["_law_ground", "_law_spot"] R65) : Cal P w K mg base 13 "_law_by_hand_right" [] R66 :=
  cal_of F sc66 (fun _ _ _ _ _ _ us hl => match us, hl with | [], _ => rfl) (fun ds d ⟨e, _⟩ => by rw [e]; rfl) fun f cdv A outer s H E hr ds d ⟨e1, e2⟩ => by
    subst e1 e2
    have pt : ∀ {X : Cx} {ρ : List SV} {i j : Int} {p1 p2 k1 k2 k3 pos}, PD X ρ (.Tuple [.Constant (.int i) k1 p1, .Constant (.int j) k2 p2] k3 pos) (D ((i, j) : Pt)) := fun {_ _ _ _ _ _ _ _ _ _} => pd_tup (pda_cons pd_int (pda_cons pd_int pda_nil))
    have one : ((oneY.map D : List PyData)) = [D ((0, 0) : Pt)] := rfl
    refine pb_cons (pn_asg (d := .tuple [.tuple (oneY.map D), D ringF]) (pdc0 C64 (hr.mono (by decide)) ⟨rfl, rfl⟩) (pdg_tup (ds := [.tuple (oneY.map D), D ringF]) rfl (pdgs_cons (pdg 0 sc66.nd) (pdgs_cons (pdg 1 sc66.nd) pdgs_nil)))) ?_
    refine pb_cons (pn_set (d := D backF) 2 sc66.nd (pd_tup (pda_cons (pd_tup (pda_cons pt (pda_cons pt pda_nil))) (pda_cons (pd_tup (pda_cons pt (pda_cons pt pda_nil))) (pda_cons (pd_tup (pda_cons pt (pda_cons pt pda_nil))) (pda_cons (pd_tup (pda_cons pt (pda_cons pt pda_nil))) pda_nil)))))) ?_
    refine pb_cons (pn_set (d := .list [D [backF, ringF], D firstF, .list [.int 4, .int 4, .int 4, .int 4]]) 3 sc66.nd (pd_lst (pda_cons (pd_of_eq (pdc C65 hr (pda_cons (pd_v 0) (pda_cons pt pda_nil)) (r65_t O.o1)) (by rw [O.h1])) (pda_cons (pd_ixL (ds := (floorsM oneY (0, 0)).map D) (i := ((0 : Nat) : Int)) (pdc C65 hr (pda_cons (pd_lst (pda_cons (pd_lst (pda_cons pd_int (pda_cons pd_int pda_nil))) pda_nil)) (pda_cons (pd_lst (pda_cons pd_int (pda_cons pd_int pda_nil))) pda_nil)) (r65_l (O.o4 (0, 0) (List.mem_cons_self ..)))) pd_int (atI_nat (by rw [List.getElem?_map, O.h2]; rfl)))
      (pda_cons (pd_of_eq (pd_lcm 6 fourP D (fun p => .int (floorsM oneY p).length) rfl sc66.nd (pdi_tup (ds := fourP.map D) (pd_tup (pda_cons pt (pda_cons pt (pda_cons pt (pda_cons pt pda_nil)))))) bk66a (by decide) fun p hp s H C cl fp => pd_of_eq (pd_lenL (ds := (floorsM oneY p).map D) b.len (pda_cons (pdc C65 hr (pda_cons (pd_v 0) (pda_cons (pd_v 6) pda_nil)) (r65_t (O.o4 p hp))) pda_nil)) (by rw [List.length_map])) ?_) pda_nil))))) ?_
    · have : (fourP.map fun p => PyData.int (floorsM oneY p).length) = (fourP.map fun p => (floorsM oneY p).length).map fun n : Nat => PyData.int n := by rw [List.map_map]; rfl
      rw [this, O.h4]
      rfl
    refine pb_cons (pn_set (d := .list [D [backF, ringF], D firstF, .list [.int 4, .int 4, .int 4, .int 4]]) 4 sc66.nd (pd_lst (pda_cons (pd_lst (ds := [D backF, D ringF]) (pda_cons (pd_v 2) (pda_cons (pd_v 1) pda_nil))) (pda_cons (pd_tup (pda_cons (pd_tup (pda_cons pt (pda_cons pt pda_nil))) (pda_cons (pd_tup (pda_cons pt (pda_cons pt pda_nil))) (pda_cons (pd_tup (pda_cons pt (pda_cons pt pda_nil))) (pda_cons (pd_tup (pda_cons pt (pda_cons pt pda_nil))) pda_nil)))))
      (pda_cons (pd_rep (k := 4) (pd_lst (pda_cons pd_int pda_nil)) pd_int (by decide)) pda_nil))))) ?_
    refine pb_cons (pn_set (d := .tuple (longY.map D)) 5 sc66.nd (pd_tup (pda_cons pt (pda_cons pt pda_nil)))) ?_
    refine pb_cons (pn_set (d := handD) 3 sc66.nd (pd_of_eq (pd_catL (es := [.list [.int 15, .int 8, .int 15, .int 8], .int 32]) (pd_v 3) (pd_lst (pda_cons (pd_of_eq (pd_lcm 6 fourQ D (fun p => .int (floorsM longY p).length) rfl sc66.nd (pdi_tup (ds := fourQ.map D) (pd_tup (pda_cons pt (pda_cons pt (pda_cons pt (pda_cons pt pda_nil)))))) bk66b (by decide) fun p hp s H C cl fp => pd_of_eq (pd_lenL (ds := (floorsM longY p).map D) b.len (pda_cons (pdc C65 hr (pda_cons (pd_v 5) (pda_cons (pd_v 6) pda_nil)) (r65_t (O.oq p hp))) pda_nil)) (by rw [List.length_map])) ?_)
      (pda_cons (pd_of_eq (pd_lenL (ds := (floorsM triY (3, 1)).map D) b.len (pda_cons (pdc C65 hr (pda_cons (pd_tup (pda_cons pt (pda_cons pt (pda_cons pt pda_nil)))) (pda_cons pt pda_nil)) (r65_t O.ot)) pda_nil)) (by rw [List.length_map, O.ht]; rfl)) pda_nil))) (by decide)) rfl)) ?_
    · have : (fourQ.map fun p => PyData.int (floorsM longY p).length) = (fourQ.map fun p => (floorsM longY p).length).map fun n : Nat => PyData.int n := by rw [List.map_map]; rfl
      rw [this, O.hq]
      rfl
    exact pb_ret (pdc C53 (hr.mono (by decide)) (pda_cons (pd_v 3) (pda_cons (pd_of_eq (pd_catL (es := [.list [.int 15, .int 8, .int 15, .int 8], .int 32]) (pd_v 4) (pd_lst (pda_cons (pd_lst (pda_cons pd_int (pda_cons pd_int (pda_cons pd_int (pda_cons pd_int pda_nil))))) (pda_cons pd_int pda_nil))) (by decide)) (show _ = handD from rfl)) pda_nil)) ⟨handD, rfl, nests_hand, rfl⟩)
end
end Hf

/-! ## HfL11 -/
set_option Elab.async false
set_option linter.all false
set_option maxRecDepth 100000
set_option maxHeartbeats 1000000
/-! A told list is its caller's: _law_spoil; what holds between. -/
namespace Hf
open L2 PySem PySem.Spec PyProof.Rows
open PySem.W (Datum DatumOrd Tup EachIs AllAlike Sortable dataLe)
/-! ### the tuples of a heap -/
def tupsOf (H : Hp) : Hp := fun b => match H b with
  | some (.tup xs) => some (.tup xs)
  | _ => none
theorem tups_same (H : Hp) : Same (tupsOf H) H := fun b o h => by
  unfold tupsOf at h
  split at h
  · rename_i xs e; rw [e]; exact h
  · cases h
theorem tups_at {H : Hp} {b : Addr} {xs : List V} (h : H b = some (.tup xs)) : tupsOf H b = some (.tup xs) := by unfold tupsOf; rw [h]
theorem tups_tup {H : Hp} {b : Addr} {o : HO} (h : tupsOf H b = some o) : ∃ xs, o = .tup xs := by
  unfold tupsOf at h
  split at h
  · exact ⟨_, (Option.some.inj h).symm⟩
  · cases h
mutual
def noL : PyData → Bool
  | .list _ => false
  | .dict _ => false
  | .tuple ds => noLs ds
  | _ => true
def noLs : List PyData → Bool
  | [] => true
  | d :: ds => noL d && noLs ds
end
mutual
theorem noL_dq {H : Hp} : ∀ (d : PyData) (v : V), noL d = true → Dq H v d → Dq (tupsOf H) v d
  | .none, _, _, h => by cases h; exact .non
  | .bool _, _, _, h => by cases h; exact .bl _
  | .int _, _, _, h => by cases h; exact .int _
  | .str _, _, _, h => by cases h; exact .str _
  | .list ds, _, f, h => by cases f
  | .tuple ds, _, f, h => by cases h with | tup h r => exact .tup (tups_at h) (noLs_dq ds _ f r)
  | .dict _, _, f, h => by cases f
theorem noLs_dq {H : Hp} : ∀ (ds : List PyData) (vs : List V), noLs ds = true → DqA H vs ds → DqA (tupsOf H) vs ds
  | [], _, _, h => by cases h; exact .nil
  | d :: ds, _, f, h => by
    have f := Bool.and_eq_true_iff.mp f
    cases h with | cons h r => exact .cons (noL_dq d _ f.1 h) (noLs_dq ds _ f.2 r)
end
def noLS : SV → Bool
  | .no => true
  | .val _ => true
  | .dat d => noL d
  | _ => false
theorem env_tups {H : Hp} : ∀ {ρ : List SV} {σ : L2.St}, ρ.all noLS = true → EnvD H ρ σ → EnvD (tupsOf H) ρ σ
  | [], [], _, _ => trivial
  | s :: _, _ :: _, f, ⟨a, b⟩ => by
    have f := Bool.and_eq_true_iff.mp (List.all_cons (f := noLS) ▸ f)
    refine ⟨?_, env_tups f.2 b⟩
    cases s with
    | no => trivial
    | val _ => exact a
    | dat d => obtain ⟨u, e, q⟩ := a; exact ⟨u, e, noL_dq d u f.1 q⟩
    | dic _ => exact nomatch (show false = true from f.1)
    | fzd _ => exact nomatch (show false = true from f.1)
    | sq _ _ _ => exact nomatch (show false = true from f.1)
  | [], _ :: _, _, h => h.elim
  | _ :: _, [], _, h => h.elim
/-- a list that is made is new -/
theorem ext_fresh {H0 H H1 H' : Hp} {b : Addr} {xs : List V} (x : Ext (tupsOf H0) H H1 H') (h : H1 b = some (.lst xs)) : H b = none := by
  cases e : H b with
  | none => rfl
  | some o =>
    have h' := x.sub _ _ h
    have s := x.s _ _ e
    rw [h'] at s
    cases s
    have n : tupsOf H0 b = none := by
      cases e2 : tupsOf H0 b with
      | none => rfl
      | some o2 =>
        obtain ⟨ys, rfl⟩ := tups_tup e2
        have := x.s0 _ _ e2
        rw [h] at this
        cases this
    have := x.out _ _ n e trivial
    rw [h] at this
    cases this
def joinH (A B : Hp) : Hp := fun b => match A b with
  | some o => some o
  | none => B b
theorem join_l (A B : Hp) : Same A (joinH A B) := fun b o h => by unfold joinH; rw [h]
theorem join_r {A B H : Hp} (s : Same A H) (t : Same B H) : Same B (joinH A B) := fun b o h => by
  unfold joinH
  cases e : A b with
  | none => exact h
  | some o2 =>
    have h1 := s _ _ e
    have h2 := t _ _ h
    rw [h1] at h2
    exact h2
theorem join_s {A B H : Hp} (s : Same A H) (t : Same B H) : Same (joinH A B) H := fun b o h => by
  unfold joinH at h
  cases e : A b with
  | none => rw [e] at h; exact t _ _ h
  | some o2 => rw [e] at h; rw [← h]; exact s _ _ e
/-! ### between: a told list of one's own, in slot i -/
def SF (ρ : List SV) (a : Addr) (t : Tn) (i : Nat) (ds : List PyData) (σ : L2.St) (H : Hp) : Prop :=
  ∃ H0 U b, Same H0 U ∧ Same U H ∧ EnvD H0 ρ σ ∧ σ[i]? = some (some (.ref b)) ∧ H0 b = none ∧ Dq U (.ref b) (.list ds) ∧ TAt a t U H
section
variable {X : Cx} {ρ ρ1 ρ2 : List SV} {a : Addr} {t t1 t2 t3 : Tn} {e e1 e2 : Expr} {es : List Expr} {d : PyData} {ds : List PyData} {pos p p2 : Pos} {c : Bool} {st : Stmt} {sts : List Stmt}
/-- name = e, a list that is new: e sees only tuples -/
theorem sf_set (i : Nat) {x : Str} {p : Pos} (hN : X.N.Nodup) (h : PD X ρ1 e (.list ds)) (l : leS ρ ρ1) (nl : ρ1.all noLS = true) (hlt : i < ρ.length) (hi : X.N[i]? = some x := by rfl) (hx : Loc X.env.scope x := by first | exact Or.inl rfl | exact Or.inr rfl)
    (hs : swapsWith e (some (.Name x p)) pos.line X.env = pure false := by rfl) (hf : X.fn x = true ∨ X.env.scope.names.lookup x = some .local := by first | exact .inl rfl | exact .inr rfl) :
    PS X (.Assign [.Name x p] e pos) (fun D σ H => ∃ H0, Same H0 H ∧ EnvD H0 ρ σ ∧ TAt a t H0 H ∧ ∀ σ' H', SF (ρ.set i .no) a t i ds σ' H' → D.nx σ' H') :=
  ps_imp (L2.ps_set hN hi hx h hs hf) fun D σ H ⟨H0, s, ev, m, q⟩ => ⟨tupsOf H0, (tups_same H0).trans s, env_tups nl (l.env ev), fun v H1 H' y dv => by
    cases dv with
    | @lst b xs _ hl r =>
      have hb := ext_fresh y hl
      have s1 : Same H0 H' := s.trans y.s
      have n0 : H0 b = none := s.free hb
      have na : H1 a = none := y.out _ _ (by cases e : tupsOf H0 a with
        | none => rfl
        | some o => have := tups_same H0 _ _ e; rw [m.1] at this; cases this) m.2 trivial
      refine q _ _ ⟨H0, joinH H0 H1, b, join_l _ _, join_s s1 y.sub, ev.set (s := .no) trivial i, ?_, n0, (Dq.lst hl r).at (join_r s1 y.sub), ?_, y.s _ _ m.2⟩
      · rw [List.getElem?_set_self (by rw [← ev.length]; exact hlt)]
      · unfold joinH; rw [m.1]; exact na⟩
/-- a test that sees it -/
theorem sf_if {c : Expr} {body : List Stmt} (i : Nat) (hc : PDT X (ρ.set i (.dat (.list ds))) c false) : PS X (.If c body [] pos) (fun D σ H => SF ρ a t i ds σ H ∧ ∀ H', SF ρ a t i ds σ H' → D.nx σ H') :=
  ps_imp (ps_if hc pss_never pss_nil) fun D σ H ⟨⟨H0, U, b, s0, su, ev, hb, nb, dl, m⟩, q⟩ => ⟨U, su, (ev.at s0).re hb ⟨_, rfl, dl⟩, fun H1 H' y => iteF (q H' ⟨H0, U, b, s0, su.trans y.s, ev, hb, nb, dl, m.1, y.s _ _ m.2⟩)⟩
end
/-! ### _law_spoil -/
def spSp : Sp := fun vs H Q _ => ∃ U b ds, vs = [.ref b] ∧ Same U H ∧ Dq U (.ref b) (.list ds) ∧ ds.length < sizeLine ∧ ∀ H', (∀ c o, c ≠ b → H c = some o → H' c = some o) → Q .non H'
section
variable {P : Program} {w : World} {K : PySem.W.Frag} {mg : Str → Option Value} {base : Heap}
theorem sc54 : FnScope ["_law_matter"] ["_law_matter"] (defScope (top 54)) := ⟨rfl, rfl, rfl, by decide +kernel, rfl, by decide +kernel, by decide +kernel⟩
theorem ps_app0 {X : Cx} {ρ : List SV} {e : Expr} {d : PyData} {ds : List PyData} {pos : Pos} (i : Nat) {x : Str} {p ap cp : Pos} (he : PD X ρ e d) (hz : ds.length < sizeLine) (hi : ρ[i]? = some (.dat (.list ds)) := by rfl) (hN : X.N[i]? = some x := by rfl)
    (hvis : Vis X.env.scope x := by first | exact Or.inl rfl | exact Or.inr (Or.inl rfl) | exact Or.inr (Or.inr rfl)) (hb1 : (x == ("__debug__" : Str)) = false := by decide) (hb2 : (x == ("__classdict__" : Str)) = false := by decide)
    (hbase : attributeBase (.Name x p) "append" X.env (eval (.Name x p) X.env) = eval (.Name x p) X.env := by rfl)
    (hfew : ((backTo cp (starEach [e] X.env)).all (fun x => !x.1) && (backToKw cp (keywordEach [] X.env)).all (fun x => x.1.isSome)
      && decide (([e] : List Expr).length + ([] : List Keyword).length + (if ([] : List Keyword).isEmpty then 0 else 1) < 30)) = true := by rfl)
    (hline : (ap.endLine == cp.line) = true := by rfl) (hs : starEach [e] X.env = (false, eval e X.env) :: starEach [] X.env := by rfl) (hpl : (backTo cp (starEach [] X.env)).any (·.1) = false := by rfl)
    (hsw : swapsWith (.Call (.Attribute (.Name x p) "append" ap) [e] [] cp) none pos.line X.env = pure false := by rfl) :
    PS X (.Expr (.Call (.Attribute (.Name x p) "append" ap) [e] [] cp) pos) (fun D σ H => ∃ H0 b, Same H0 H ∧ EnvD H0 ρ σ ∧ σ[i]? = some (some (.ref b)) ∧ ∀ H', (∀ c o, c ≠ b → H c = some o → H' c = some o) → D.nx σ H') :=
  ps_imp (ps_expr (pe_bm PySem.F.plainAttrs_list PySem.F.slot_list_append PySem.F.type_list_append mt_append (pe_var hN hvis hb1 hb2) (pda_cons he pda_nil hs) hbase hfew hline hs hpl) hsw) fun De σ H ⟨H0, b, s, ev, hb, q⟩ => by
    obtain ⟨v, e1, dl⟩ := ev.dat hi
    rw [hb] at e1
    cases e1
    cases dl with
    | @lst _ xs _ hl r =>
      refine ⟨.ref b, hb, .inl ⟨rfl, xs, SqL.of (s _ _ hl)⟩, H0, s, ev, fun vs H1 H' y dv => ?_⟩
      obtain ⟨w, rfl, dw⟩ := one_dq dv
      exact ⟨b, xs, w, rfl, rfl, y.sub _ _ (y.s0 _ _ hl), by rw [r.length]; exact hz, q _ fun c o hc h => by rw [upd_ne hc]; exact y.s _ _ h⟩
theorem c54 (F : Def K mg "_law_spoil" (top 54)) (b : Blt mg) : CalT P w K mg base 1 "_law_spoil" ["_law_matter"] spSp := by
  obtain ⟨f, fd, F, m⟩ := F
  refine ⟨f, fd, F.ok sc54 (fun vs H Q E ⟨U, b, ds, e, _⟩ => by rw [e]; rfl) fun cdv A outer s H vs Q E hr ⟨U, l, ds, e, su, dl, hz, q⟩ => ⟨fun D σ H => ∃ U l, Same U H ∧ EnvD U [.dat (.list ds)] σ ∧ σ[0]? = some (some (.ref l)) ∧ ∀ H', (∀ c o, c ≠ l → H c = some o → H' c = some o) → D.nx σ H', ?_, ?_⟩, m, F.kp, F.binds fun _ _ _ _ _ _ us hl => match us, hl with | [_], _ => rfl⟩
  · refine pss_imp (pss_one (ps_if (pdt_val (pd_isi (d := .list ds) b.isi b.list (pd_v 0) boot_list' kit_ll)) (pss_one (ps_app0 (ρ := [.dat (.list ds)]) (ds := ds) 0 (pd_tup pda_nil) hz)) pss_nil)) fun D σ H ⟨U, l, su, ev, hl, q⟩ => ⟨U, su, ev, fun H1 H' y => iteT ⟨U, l, su.trans y.s, ev, hl, fun H2 k => q H2 fun c o hc h => k c o hc (y.s _ _ h)⟩⟩
  · subst e
    exact ⟨U, l, su, ⟨⟨_, rfl, dl⟩, trivial⟩, rfl, fun H' k => q H' k⟩
section
variable {X : Cx} {ρ : List SV} {a : Addr} {t : Tn} {ds : List PyData} {pos p p2 p3 : Pos}
theorem sf_spoil (i : Nat) {k : Nat} {x y : Str} (C : CalT X.prog X.w X.K X.mg X.base k x ["_law_matter"] spSp) (hr : Room k X.A) (hz : ds.length < sizeLine) (hN : X.N[i]? = some y := by rfl) (hv : Vis X.env.scope y := by first | exact Or.inl rfl | exact Or.inr (Or.inl rfl) | exact Or.inr (Or.inr rfl)) (hd : (y == ("__debug__" : Str)) = false := by decide) (hcd : (y == ("__classdict__" : Str)) = false := by decide)
    (hg : Gl X x := by rfl) (hdb : (x == ("__debug__" : Str)) = false := by decide) (he : starEach [.Name y p2] X.env = (false, eval (.Name y p2) X.env) :: starEach [] X.env := by rfl) (hpl : (backTo p3 (starEach [] X.env)).any (·.1) = false := by rfl)
    (hsw : swapsWith (.Call (.Name x p) [.Name y p2] [] p3) none pos.line X.env = pure false := by rfl) :
    PS X (.Expr (.Call (.Name x p) [.Name y p2] [] p3) pos) (fun D σ H => SF ρ a t i ds σ H ∧ ∀ H0 H', Same H0 H' → EnvD H0 ρ σ → TAt a t H0 H' → D.nx σ H') := by
  obtain ⟨f, fd, F, hm, kp, b⟩ := C
  exact ps_imp (ps_expr (pe_call F hr hg hm kp b .nil pass0 (pa_cons (pe_var hN hv hd hcd) pa_nil he) hdb he hpl) hsw) fun D σ H ⟨⟨H0, U, b, s0, su, ev, hb, nb, dl, m⟩, q⟩ => ⟨.ref b, hb, U, b, ds, rfl, su, dl, hz, fun H' k => by
    have ab : a ≠ b := fun z => by
      cases dl with
      | lst h _ => rw [← z, m.1] at h; cases h
    refine q H0 H' (fun c o h => k c o (fun z => by rw [z, nb] at h; cases h) ((s0.trans su) _ _ h)) ev ⟨s0.free m.1, k _ _ ab m.2⟩⟩
end
end
end Hf

/-! ## HfL12 -/
set_option Elab.async false
set_option linter.all false
set_option maxRecDepth 100000
set_option maxHeartbeats 1000000
/-! _law_right. -/
namespace Hf
open L2 PySem PySem.Spec PyProof.Rows
open PySem.W (Datum DatumOrd Tup EachIs AllAlike Sortable dataLe)
/-- a body that returns True; nothing is asked of what it leaves -/
def tE (ρ : List SV) (a : Addr) (t : Tn) : TS := fun D σ H => ∃ H0, Same H0 H ∧ EnvD H0 ρ σ ∧ TAt a t H0 H ∧ ∀ H', D.rt (.bl true) H'
def flat0S : SV → Bool
  | .no => true
  | .val _ => true
  | .dat d => flat0 d
  | _ => false
theorem env_flat0 {H H' : Hp} : ∀ {ρ : List SV} {σ : L2.St}, ρ.all flat0S = true → EnvD H ρ σ → EnvD H' ρ σ
  | [], [], _, _ => trivial
  | s :: _, _ :: _, f, ⟨a, b⟩ => by
    have f := Bool.and_eq_true_iff.mp (List.all_cons (f := flat0S) ▸ f)
    refine ⟨?_, env_flat0 f.2 b⟩
    cases s with
    | no => trivial
    | val _ => exact a
    | dat d => obtain ⟨u, e, q⟩ := a; exact ⟨u, e, flat0_dq f.1 q⟩
    | dic _ => exact nomatch (show false = true from f.1)
    | fzd _ => exact nomatch (show false = true from f.1)
    | sq _ _ _ => exact nomatch (show false = true from f.1)
  | [], _ :: _, _, h => h.elim
  | _ :: _, [], _, h => h.elim
section
variable {X : Cx} {ρ ρ1 ρ2 : List SV} {a : Addr} {t t1 t2 t3 : Tn} {e e1 e2 : Expr} {es : List Expr} {d : PyData} {ds : List PyData} {pos p p2 p3 : Pos} {st : Stmt} {sts : List Stmt}
theorem te_cons (h : PS X st (tS ρ ρ1 a t t1)) (r : PSs X sts (tE ρ1 a t1)) : PSs X (st :: sts) (tE ρ a t) := pss_imp (pss_cons h r) fun D σ H ⟨H0, s, ev, m, q⟩ => ⟨H0, s, ev, m, fun σ' H0' H' s' ev' m' => ⟨H0', s', ev', m', q⟩⟩
theorem te_ret (h : PD X ρ e (.bool true)) : PSs X [.Return (some e) pos] (tE ρ a t) := pss_imp (pss_one (ps_ret h)) fun D σ H ⟨H0, s, ev, m, q⟩ => ⟨H0, s, ev, fun v H1 H' x dv => by cases dv; exact q H'⟩
theorem te_retX (h : PX X ρ a t t1 e (.bool true)) : PSs X [.Return (some e) pos] (tE ρ a t) := pss_imp (pss_one (ps_ret h)) fun D σ H ⟨H0, s, ev, m, q⟩ => ⟨H0, s, ev, m, fun v H1 H' x s1 m1 dv => by cases dv; exact q H'⟩
theorem te_if {c : Expr} {b : Bool} {body rest : List Stmt} (hc : PDT X ρ c b) (ht : b = true → PSs X body (tE ρ a t)) (hf : b = false → PSs X rest (tE ρ a t)) : PSs X (.If c body [] pos :: rest) (tE ρ a t) := by
  cases b with
  | true => exact pss_imp (pss_cons (ps_if hc (ht rfl) pss_nil) pss_never) fun D σ H ⟨H0, s, ev, m, q⟩ => ⟨H0, s, ev, fun H1 H' y => iteT ⟨H1, y.sub, ev.at y.s0, m.ext y, q⟩⟩
  | false => exact pss_imp (pss_cons (ps_if hc pss_never pss_nil) (hf rfl)) fun D σ H ⟨H0, s, ev, m, q⟩ => ⟨H0, s, ev, fun H1 H' y => iteF ⟨H1, y.sub, ev.at y.s0, m.ext y, q⟩⟩
/-- name = f(tin, e), the slots numbers only -/
theorem ts_drawW (i j : Nat) {k : Nat} {ps : List Str} {R : Tn → Tn → List PyData → PyData → Prop} {x y z : Str} {d' : PyData} (C : CalT X.prog X.w X.K X.mg X.base k x ps (spW R)) (hr : Room k X.A) (hNd : X.N.Nodup) (ha : PD X ρ e d) (h : R t t1 [d] d') (hfl : ρ.all flat0S = true) (hi : ρ[i]? = some (.val (.ref a)) := by rfl)
    (hN : X.N[i]? = some y := by rfl) (hv : Vis X.env.scope y := by first | exact Or.inl rfl | exact Or.inr (Or.inl rfl) | exact Or.inr (Or.inr rfl)) (hd : (y == ("__debug__" : Str)) = false := by decide) (hcd : (y == ("__classdict__" : Str)) = false := by decide)
    (hg : Gl X x := by rfl) (hdb : (x == ("__debug__" : Str)) = false := by decide) (he : starEach [.Name y p2, e] X.env = (false, eval (.Name y p2) X.env) :: starEach [e] X.env := by rfl) (he2 : starEach [e] X.env = (false, eval e X.env) :: starEach [] X.env := by rfl) (hpl : (backTo p3 (starEach [e] X.env)).any (·.1) = false := by rfl)
    (hj : X.N[j]? = some z := by rfl) (hx : Loc X.env.scope z := by first | exact Or.inl rfl | exact Or.inr rfl)
    (hs : swapsWith (.Call (.Name x p) [.Name y p2, e] [] p3) (some (.Name z pz)) pos.line X.env = pure false := by rfl) (hf : X.fn z = true ∨ X.env.scope.names.lookup z = some .local := by first | exact .inl rfl | exact .inr rfl) :
    PS X (.Assign [.Name z pz] (.Call (.Name x p) [.Name y p2, e] [] p3) pos) (tS ρ (ρ.set j (.dat d')) a t t1) := by
  obtain ⟨f, fd, F, hm, kp, b⟩ := C
  exact ps_imp (L2.ps_set hNd hj hx (pe_call F hr hg hm kp b .nil pass0 (pa_cons (pv_at i hi hN hv hd hcd) (pa_cons ha pa_nil he2) he) hdb he hpl) hs hf) fun D σ H ⟨H0, s, ev, m, q⟩ => ⟨H0, ev, H0, s, ev, fun v H1 H' y dv => by
    show spW R ([.ref a, v] ++ []) H' _ E0
    exact ⟨a, t, t1, [v], H1, [d], _, rfl, y.sub, m.ext y, .cons dv .nil, h, fun v H2 H'' s2 m2 dq => q _ H2 H'' s2 ((env_flat0 hfl ev).set (s := .dat d') ⟨v, rfl, dq⟩ j) m2⟩⟩
end
/-! ### what the yards and their floors must be -/
structure GoodH (S : List Pt) (h : Pt) : Prop where
  o : HOk S h
  f : FlOk S h
  l : LfOk S h
  eq : floorsM S h = lfloorsL S h
  n1 : (floorsM S h).length ≤ 100000
  n2 : ∀ x ∈ floorsM S h, x.items.length ≤ 100000
structure GoodY (S : List Pt) : Prop where
  len : S.length ≤ 100
  ne : lplaces S ≠ []
  all : ∀ h ∈ lplaces S, GoodH S h
def cornersL : List Pt := [(0, 0), (6, 4), (6, 0)]
structure BigsOk : Prop where
  c : ∀ c ∈ cornersL, HOk (boxedL 3 2) c ∧ BigOk (boxedL 3 2) c
  o : HOk (boxedL 2 2) (0, 0) ∧ FlOk (boxedL 2 2) (0, 0)
  n : (floorsM (boxedL 2 2) (0, 0)).length = 192
def YardsOk : Prop := ∀ (t : Tn) (most : Int), TnB 1000 t → most = 3 ∨ most = 4 → YardOk t most ∧ GoodY ((yardV t most).1.mergeSort leT)
theorem noLs_pts : ∀ S : List Pt, noLs (S.map D) = true
  | [] => rfl
  | c :: S => by show (noL (D c) && noLs (S.map D)) = true; rw [noLs_pts S]; rfl
theorem pick_mem (t : Tn) {cs : List Pt} (h : cs ≠ []) : pickV t cs ∈ cs := by
  have hp : 0 < cs.length := List.length_pos_iff.mpr h
  have dl := drawV_lt t (b := cs.length) (by omega)
  have hl : (drawV t cs.length).toNat < cs.length := by omega
  unfold pickV
  rw [List.getD_eq_getElem?_getD, List.getElem?_eq_getElem hl]
  exact List.getElem_mem hl
def holeT (S : List Pt) (t : Tn) : Nat → Tn
  | 0 => t
  | n + 1 => drawT (holeT S t n) (lplaces S).length
theorem TnB.hole {n : Int} {S : List Pt} {t : Tn} (h : TnB n t) : ∀ k : Nat, TnB (n + k) (holeT S t k)
  | 0 => by
    have e : n + ((0 : Nat) : Int) = n := by omega
    rw [e]
    exact h
  | k + 1 => by
    have := (TnB.hole (S := S) h k).draw ((lplaces S).length : Int)
    have e : n + ((k + 1 : Nat) : Int) = n + k + 1 := by omega
    rw [e]
    exact this
def spR : Sp := fun vs H Q _ => ∃ a t, vs = [.ref a] ∧ H a = some (.lst (tV t)) ∧ TnB 100 t ∧ ∀ H', Q (.bl true) H'
section
variable {P : Program} {w : World} {K : PySem.W.Frag} {mg : Str → Option Value} {base : Heap}
abbrev n67 : List Str := ["_law_tin", "_law_way_so", "_law_ground", "_law_lap", "_law_spot", "_law_due", "_law_told"]
theorem sc67 : FnScope n67 ["_law_tin"] (defScope (top 67)) := ⟨rfl, rfl, rfl, by decide +kernel, rfl, by decide +kernel, by decide +kernel⟩
def bigD : PyData := .list [manyD, .int 192]
theorem nests_big : NestS 5 bigD := .inr ⟨_, .inl rfl, by show 2 ≤ _; decide, fun x hx => by
  rcases List.mem_cons.mp hx with e | hx
  · rw [e]
    exact .inr ⟨_, .inl rfl, by show 2 ≤ _; decide, fun y hy => by
      rcases List.mem_cons.mp hy with e | hy
      · rw [e]; exact .inl trivial
      · rw [List.mem_singleton.mp hy]; exact .inl trivial⟩
  · rw [List.mem_singleton.mp hx]; exact .inl trivial⟩
end
end Hf

/-! ## HfL13 -/
set_option Elab.async false
set_option linter.all false
set_option maxRecDepth 100000
set_option maxHeartbeats 1000000
/-! _law_right. -/
namespace Hf
open L2 PySem PySem.Spec PyProof.Rows
open PySem.W (Datum DatumOrd Tup EachIs AllAlike Sortable dataLe)
section
variable {P : Program} {w : World} {K : PySem.W.Frag} {mg : Str → Option Value} {base : Heap}
theorem c67 (F : Def K mg "_law_right" (top 67)) (b : Blt mg) (Bg : BigsOk) (Ys : YardsOk) (C49 : CalT P w K mg base 1 "_law_take" ["_law_tin", "_law_below_so"] (spT R49)) (C51 : CalT P w K mg base 2 "_law_of" ["_law_tin", "_law_goods_so"] (spT R51))
    (C52 : Cal P w K mg base 3 "_law_lists" ["_law_matter"] (R52 2)) (C53 : Cal P w K mg base 6 "_law_same" ["_law_got", "_law_due"] (R53 5)) (C54 : CalT P w K mg base 1 "_law_spoil" ["_law_matter"] spSp)
    (C59 : Cal P w K mg base 3 "_law_floors" ["_law_ground", "_law_gap_so"] R59) (C60 : CalT P w K mg base 3 "_law_yard" ["_law_tin", "_law_most_so"] (spW R60)) (C62 : Cal P w K mg base 1 "_law_boxed" ["_law_many_so", "_law_high_so"] R62)
    (C63 : CalT P w K mg base 3 "_law_hole_of" ["_law_tin", "_law_ground"] (spT R63)) (C65 : Cal P w K mg base 12 "_law_heard" ["_law_ground", "_law_spot"] R65) : CalT P w K mg base 13 "_law_right" ["_law_tin"] spR := by
  obtain ⟨f, fd, F, m⟩ := F
  refine ⟨f, fd, F.ok sc67 (fun vs H Q E ⟨a, t, e, _⟩ => by rw [e]; rfl) fun cdv A outer s H vs Q E hr ⟨a, t, e, ha, tb, q⟩ => ⟨tE [.val (.ref a), .no, .no, .no, .no, .no, .no] a t, ?_, ?_⟩, m, F.kp, F.binds fun _ _ _ _ _ _ us hl => match us, hl with | [_], _ => rfl⟩
  · have pt : ∀ {X : Cx} {ρ : List SV} {i j : Int} {p1 p2 k1 k2 k3 pos}, PD X ρ (.Tuple [.Constant (.int i) k1 p1, .Constant (.int j) k2 p2] k3 pos) (D ((i, j) : Pt)) := fun {_ _ _ _ _ _ _ _ _ _} => pd_tup (pda_cons pd_int (pda_cons pd_int pda_nil))
    have tb1 := tb.draw 24
    refine te_cons (ts_set 1 (d := .int (drawV t 24)) (t1 := drawT t 24) sc67.nd (px_draw (d := .int 24) (d' := .int (drawV t 24)) 0 C49 (hr.mono (by decide)) pd_int ⟨24, rfl, by decide, by decide, tb.ok (by decide), rfl, rfl⟩)) ?_
    generalize drawV t 24 = way
    generalize drawT t 24 = t1 at tb1
    refine te_if (b := decide (way = 0)) (pdt_eq (α := Int) (x := way) (y := 0) (ru hr.units) (pd_v 1) pd_int) (fun hb => ?_) fun hb => ?_
    · have cm := pick_mem t1 (cs := cornersL) (by decide)
      obtain ⟨o1, o2⟩ := Bg.c _ cm
      exact te_retX (px_cal C53 (hr.mono (by decide)) (ds := [bigD, bigD]) (pxa_cons (px_lst (ds := [manyD, .int 192]) (pxa_cons (px_cal C65 hr (ds := [.tuple ((boxedL 3 2).map D), D (pickV t1 cornersL)]) (pxa_cons (px_pd (pdc C62 (hr.mono (by decide)) (pda_cons (pd_int (i := 3)) (pda_cons (pd_int (i := 2)) pda_nil)) ⟨3, 2, rfl, by decide, by decide, rfl⟩))
        (pxa_cons (px_draw (d := .list (cornersL.map D)) (d' := D (pickV t1 cornersL)) 0 C51 (hr.mono (by decide)) (pd_lst (pda_cons pt (pda_cons pt (pda_cons pt pda_nil)))) ⟨cornersL, rfl, by decide, by decide, tb1.ok (by decide), rfl, rfl⟩) (pxa_pd pda_nil))) ⟨_, _, _, _, rfl, ask_t o1, .inr ⟨o2, rfl⟩⟩)
        (pxa_pd (pda_cons (pd_of_eq (pd_lenL (ds := (floorsM (boxedL 2 2) (0, 0)).map D) b.len (pda_cons (pdc C65 hr (pda_cons (pdc C62 (hr.mono (by decide)) (pda_cons (pd_int (i := 2)) (pda_cons (pd_int (i := 2)) pda_nil)) ⟨2, 2, rfl, by decide, by decide, rfl⟩) (pda_cons pt pda_nil)) (r65_t Bg.o)) pda_nil)) (by rw [List.length_map, Bg.n]; rfl)) pda_nil))))
        (pxa_pd (pda_cons (pd_lst (ds := [manyD, .int 192]) (pda_cons (pd_lst (pda_cons pd_str (pda_cons pd_bl pda_nil))) (pda_cons pd_int pda_nil))) pda_nil))) ⟨bigD, rfl, nests_big, rfl⟩)
    · have hm : (if way < 3 then (4 : Int) else 3) = 3 ∨ (if way < 3 then (4 : Int) else 3) = 4 := by split <;> simp
      obtain ⟨yo, gy⟩ := Ys t1 (if way < 3 then 4 else 3) ⟨tb1.l1, tb1.l2, by have := tb1.h2; omega⟩ hm
      have ty : TnB 100000 (yardV t1 (if way < 3 then 4 else 3)).2 ∧ TnB 200 (yardV t1 (if way < 3 then 4 else 3)).2 := by
        have lv := longV_le t1 (most := if way < 3 then 4 else 3) (by split <;> decide)
        have h := ((tb1.long (if way < 3 then 4 else 3)).beg).laps (longV t1 (if way < 3 then 4 else 3) - 1).toNat
        have le : (if way < 3 then (4 : Int) else 3) ≤ 4 := by split <;> decide
        have h2 := h.h2
        exact ⟨⟨h.l1, h.l2, Int.le_trans h2 (by omega)⟩, ⟨h.l1, h.l2, Int.le_trans h2 (by omega)⟩⟩
      refine te_cons (ts_drawW 0 2 C60 (hr.mono (by decide)) sc67.nd (pd_if (c := decide (way < 3)) (d := .int (if way < 3 then 4 else 3)) (pdt_lt (pd_v 1) pd_int) (fun h => by rw [if_pos (of_decide_eq_true h)]; exact pd_int) fun h => by rw [if_neg (of_decide_eq_false h)]; exact pd_int) ⟨_, rfl, yo, rfl, rfl⟩ rfl) ?_
      generalize (yardV t1 (if way < 3 then 4 else 3)).1.mergeSort leT = S at gy
      generalize (yardV t1 (if way < 3 then 4 else 3)).2 = t2 at ty
      obtain ⟨g1, g2, g3⟩ := gy
      obtain ⟨_, tb2⟩ := ty
      refine te_cons (ts_for (n := if 3 < S.length then 1 else 2) (fun j => [.val (.ref a), .dat (.int way), .dat (.tuple (S.map D)), .no, .no, .no, .no]) (fun j => [.val (.ref a), .dat (.int way), .dat (.tuple (S.map D)), .dat (.int (0 + (j : Nat))), .no, .no, .no]) (fun j => holeT S t2 j) (is := fun _ => [3])
        PassesOwn.never rfl (pir_range b.range (pda_cons (pd_if (c := decide (3 < S.length)) (d := .int ((if 3 < S.length then 1 else 2 : Nat) : Int)) (pdt_of_eq (pdt_gt (pd_lenT (ds := S.map D) b.len (pda_cons (pd_v 2) pda_nil)) pd_int) ?_) (fun h => by rw [if_pos (of_decide_eq_true h)]; exact pd_int) fun h => by rw [if_neg (of_decide_eq_false h)]; exact pd_int) pda_nil) (by split <;> decide)) (leS.refl _) (fun j hj => pdg 3 sc67.nd) fun j hj => ?_) (te_ret pd_bl)
      · rw [List.length_map]
        apply decide_eq_decide.mpr
        omega
      · have j2 : j < 2 := by split at hj <;> omega
        have tj := tb2.hole (S := S) j
        have hmem := pick_mem (holeT S t2 j) g2
        show PSs _ _ (tS _ _ a (holeT S t2 j) (drawT (holeT S t2 j) (lplaces S).length))
        generalize holeT S t2 j = tt at tj hmem
        have tok : TnOk tt := tj.ok (by omega)
        obtain ⟨o, fo, lo, eq, n1, n2⟩ := g3 _ hmem
        have dof : D (floorsM S (pickV tt (lplaces S))) = .list ((floorsM S (pickV tt (lplaces S))).map D) := rfl
        have nst : NestS 5 (D (floorsM S (pickV tt (lplaces S)))) := (nests_fls _ n1 n2).up
        have fl : ((floorsM S (pickV tt (lplaces S))).map D).length < sizeLine := by rw [List.length_map, sizeLine_eq]; omega
        refine ts_cons (ts_set 4 (d := D (pickV tt (lplaces S))) (t1 := drawT tt (lplaces S).length) sc67.nd (px_draw (d := .tuple (S.map D)) 0 C63 (hr.mono (by decide)) (pd_v 2) ⟨S, rfl, g1, g2, tok, rfl, rfl⟩)) ?_
        generalize drawT tt (lplaces S).length = t3
        generalize pickV tt (lplaces S) = h at o fo lo eq n1 n2 dof nst fl
        refine ts_cons (ts_pn (pn_set (d := D (floorsM S h)) 5 sc67.nd (pdc C59 (hr.mono (by decide)) (pda_cons (pd_v 2) (pda_cons (pd_v 4) pda_nil)) ⟨S, h, rfl, lo, by rw [eq]⟩))) ?_
        refine pss_imp (pss_cons (sf_set (a := a) (t := t3) (ds := (floorsM S h).map D) (ρ := [.val (.ref a), .dat (.int way), .dat (.tuple (S.map D)), .dat (.int (0 + (j : Nat))), .dat (D h), .dat (D (floorsM S h)), .no]) (ρ1 := [.val (.ref a), .dat (.int way), .dat (.tuple (S.map D)), .dat (.int (0 + (j : Nat))), .dat (D h), .no, .no]) 6 sc67.nd
            (pdc C65 hr (pda_cons (pd_of_eq (pdc C52 (hr.mono (by decide)) (pda_cons (pd_v 2) pda_nil) ⟨.tuple (S.map D), rfl, (ask_t o).n1, rfl⟩) (show PyData.list ((S.map D).map (listN 1)) = .list (S.map ptL) by rw [List.map_map]; rfl)) (pda_cons (pd_listT b.list (pda_cons (pd_v 4) pda_nil)) pda_nil)) (r65_l ⟨o, fo⟩))
            ⟨.inr rfl, .inr rfl, .inr rfl, .inr rfl, .inr rfl, .inl rfl, .inr rfl, trivial⟩ (by show (noL (.tuple (S.map D)) && true) = true; rw [show noL (.tuple (S.map D)) = true from noLs_pts S]; rfl) (by show 6 < 7; decide))
          (pss_cons (sf_if (a := a) (t := t3) (ds := (floorsM S h).map D) (ρ := [.val (.ref a), .dat (.int way), .dat (.tuple (S.map D)), .dat (.int (0 + (j : Nat))), .dat (D h), .dat (D (floorsM S h)), .no]) 6 (pdt_not (c := true) (pdt_val (pdc C53 (hr.mono (by decide)) (pda_cons (pd_v 6) (pda_cons (pd_v 5) pda_nil)) ⟨D (floorsM S h), rfl, nst, rfl⟩))))
          (pss_cons (sf_spoil (a := a) (t := t3) (ds := (floorsM S h).map D) (ρ := [.val (.ref a), .dat (.int way), .dat (.tuple (S.map D)), .dat (.int (0 + (j : Nat))), .dat (D h), .dat (D (floorsM S h)), .no]) 6 C54 (hr.mono (by decide)) fl)
          (pss_one (ts_if (a := a) (t := t3) (t1 := t3) (ρ := [.val (.ref a), .dat (.int way), .dat (.tuple (S.map D)), .dat (.int (0 + (j : Nat))), .dat (D h), .dat (D (floorsM S h)), .no]) (ρ1 := [.val (.ref a), .dat (.int way), .dat (.tuple (S.map D)), .no, .no, .no, .no]) (b := false) (pdt_not (c := true) (pdt_val (pdc C53 (hr.mono (by decide)) (pda_cons (pdc C65 hr (pda_cons (pd_v 2) (pda_cons (pd_v 4) pda_nil)) (r65_t ⟨o, fo⟩)) (pda_cons (pd_v 5) pda_nil)) ⟨D (floorsM S h), rfl, nst, rfl⟩))) (fun h => nomatch h) fun _ => ts_weak ts_nil ⟨.inr rfl, .inr rfl, .inr rfl, .inl rfl, .inl rfl, .inl rfl, .inr rfl, trivial⟩)))))
          fun De σ H ⟨H0, s, ev, m, q⟩ => ⟨H0, s, ev, m, fun σ' H' sf => ⟨sf, fun H2 sf2 => ⟨sf2, fun H0' H3 s3 ev3 m3 => ⟨H0', s3, ev3, m3, q⟩⟩⟩⟩
  · subst e
    exact ⟨noH, fun _ _ h => (nomatch h), ⟨rfl, trivial, trivial, trivial, trivial, trivial, trivial, trivial⟩, ⟨rfl, ha⟩, q⟩
end
end Hf

/-! ## HfL14 -/
set_option Elab.async false
set_option linter.all false
set_option maxRecDepth 100000
set_option maxHeartbeats 1000000
/-! law. -/
namespace Hf
open L2 PySem PySem.Spec PyProof.Rows
open PySem.W (Datum DatumOrd Tup EachIs AllAlike Sortable dataLe)
def spLaw (K : PySem.W.Frag) : Sp := fun vs H Q _ => ∃ (l : Addr) (zs : List Int), vs = [.ref l] ∧ SqL K H l (zs.map V.int) ∧ ∀ H', Q (.bl true) H'
theorem box_b (z : Int) : TnB 100 (boxV z) := by
  have h := Int.emod_nonneg z (show (2305843009213693951 : Int) ≠ 0 by decide)
  refine ⟨?_, ?_, ?_⟩
  · show 0 ≤ z % 2305843009213693951 + 39373 * 0 + 5321009
    omega
  · show (0 : Int) ≤ 0; decide
  · show (0 : Int) ≤ 100; decide
section
variable {P : Program} {w : World} {K : PySem.W.Frag} {mg : Str → Option Value} {base : Heap}
theorem sc68 : FnScope ["_law_script"] ["_law_script"] (defScope (top 68)) := ⟨rfl, rfl, rfl, by decide +kernel, rfl, by decide +kernel, by decide +kernel⟩
theorem c68 {f : Addr} {fd : FuncData} (F : Fun K "law" "law" (top 68) f fd) (b : Blt mg) (C48 : Cal P w K mg base 1 "_law_box" ["_law_script", "_law_k"] R48) (C50 : CalT P w K mg base 1 "_law_cells" ["_law_script", "_law_most_so"] (spCells K)) (C66 : Cal P w K mg base 13 "_law_by_hand_right" [] R66) (C67 : CalT P w K mg base 13 "_law_right" ["_law_tin"] spR) : FnOk P w K mg base CX0 14 f fd ["_law_script"] (spLaw K) := by
  obtain ⟨f50, d50, F50, m50, k50, b50⟩ := C50
  obtain ⟨f67, d67, F67, m67, k67, b67⟩ := C67
  refine F.ok sc68 (fun vs H Q E ⟨l, zs, e, _⟩ => by rw [e]; rfl) fun cdv A outer s H vs Q E hr ⟨l, zs, e, hq, q⟩ => ⟨fun D σ H => EnvD H [.sq K l (zs.map V.int)] σ ∧ ∀ H', D.rt (.bl true) H', ?_, ?_⟩
  · have cells : ∀ {p p2 p3 : Pos} {j : Nat} {pos : Pos}, PD (cxOf CX0 P w K mg base ["_law_script"] "law" (defScope (top 68)) f cdv A outer s H E).nox [.sq K l (zs.map V.int)] (.Call (.Name "_law_cells" p) [.Name "_law_script" p2, .Constant (.int 1) j p3] [] pos) (.list [.int (cellV zs)]) := fun {p p2 p3 j pos} =>
      pe_imp (pe_call F50 (hr.mono (by decide)) rfl m50 k50 b50 .nil pass0 (pa_cons (pe_var (i := 0) rfl (Or.inl rfl)) (pa_cons pe_int pa_nil))) fun σ H Q ⟨H0, s, ev, q⟩ => by
        obtain ⟨_, e1, rfl, hq⟩ := ev.get (i := 0) rfl
        exact ⟨.ref l, e1, l, zs, H0, rfl, hq, s, q⟩
    refine pss_imp (pss_one (ps_ret (L2.pe_and (pdc0 C66 hr ⟨rfl, rfl⟩) (pe_one (pe_call F67 hr rfl m67 k67 b67 .nil pass0 (pa_cons (pdc C48 (hr.mono (by decide)) (pda_cons cells (pda_cons pd_int pda_nil)) ⟨[cellV zs], rfl, rfl⟩) pa_nil)))))) fun De σ H ⟨ev, q⟩ => ⟨H, .refl _, ev, fun v H1 H' x dv => by
      cases dv
      exact ⟨true, rfl, iteT ⟨H1, x.sub, ev.at x.s0, fun u H2 H'' y du => by
        cases du with
        | @lst a2 xs _ hl r =>
          exact ⟨a2, boxV (cellV zs), rfl, by have e := dq_tds r; rw [e] at hl; exact y.sub _ _ hl, box_b _, q⟩⟩⟩⟩
  · subst e
    exact ⟨⟨⟨rfl, hq⟩, trivial⟩, q⟩
end
end Hf

/-! ## HfQ2 -/
set_option Elab.async false
set_option linter.all false
set_option maxRecDepth 100000
set_option maxHeartbeats 1000000
/-! Two ways to tell every covering once tell the same, sorted. -/
namespace Hf
open PySem.W (Datum DatumOrd Tup)
theorem lpair_couple (a b : Pt) : lpair a b = couple a b := by
  unfold lpair couple placeB kindS
  have h1 : a.1 % 2 = 0 ∨ a.1 % 2 = 1 := by omega
  have h2 : a.2 % 2 = 0 ∨ a.2 % 2 = 1 := by omega
  have e : (a.1 + a.2) % 2 = (a.1 % 2 + a.2 % 2) % 2 := by omega
  rw [e]
  rcases h1 with h1 | h1 <;> rcases h2 with h2 | h2 <;> rw [h1, h2] <;> rfl
theorem next_symm {c o : Pt} (h : o ∈ nextL c) : c ∈ nextL o := by
  unfold nextL at h ⊢
  simp only [List.mem_cons, List.not_mem_nil, or_false, Prod.ext_iff] at h ⊢
  omega
theorem couple_comm {c o : Pt} (h : o ∈ nextL c) : couple c o = couple o c := by
  rw [← lpair_couple, ← lpair_couple]
  unfold nextL at h
  simp only [List.mem_cons, List.not_mem_nil, or_false, Prod.ext_iff] at h
  unfold lpair placeB
  by_cases e : (c.1 + c.2) % 2 = 0
  · have e2 : ¬ (o.1 + o.2) % 2 = 0 := by omega
    rw [if_pos (decide_eq_true e), if_neg (by simpa using e2)]
  · have e2 : (o.1 + o.2) % 2 = 0 := by omega
    rw [if_neg (by simpa using e), if_pos (decide_eq_true e2)]
theorem couple_inj {c o o' : Pt} (h : couple c o = couple c o') : o = o' := by
  unfold couple at h
  split at h
  · exact (Prod.ext_iff.mp h).1
  · exact (Prod.ext_iff.mp h).2
theorem used_mem {m : List Cp} {x : Pt} : x ∈ used m ↔ ∃ p ∈ m, x = p.1 ∨ x = p.2 := by
  unfold used
  rw [List.mem_flatMap]
  constructor
  · rintro ⟨p, hp, h⟩
    simp only [List.mem_cons, List.not_mem_nil, or_false] at h
    exact ⟨p, hp, h⟩
  · rintro ⟨p, hp, h⟩
    exact ⟨p, hp, by simp only [List.mem_cons, List.not_mem_nil, or_false]; exact h⟩
theorem used_perm {m m' : List Cp} (h : m.Perm m') : (used m).Perm (used m') := h.flatMap_right _
/-- the couple of a row that holds c -/
theorem couple_at {S : List Pt} {m : List Cp} {c : Pt} (hc : c ∈ used m) (h : ∀ p ∈ m, CpOk S p) : ∃ o, couple c o ∈ m ∧ o ∈ nextL c := by
  obtain ⟨p, hp, e⟩ := used_mem.mp hc
  obtain ⟨a, b, rfl, hb⟩ := h p hp
  have k : c = a ∨ c = b := by
    have := (couple_cells a b).mem_iff (a := c)
    simp only [List.mem_cons, List.not_mem_nil, or_false] at this
    exact this.mp e
  rcases k with k | k
  · subst k; exact ⟨b, hp, hb⟩
  · subst k; exact ⟨a, by rw [couple_comm (next_symm hb)]; exact hp, next_symm hb⟩
theorem couple_mem (c o : Pt) : (c = (couple c o).1 ∨ c = (couple c o).2) ∧ (o = (couple c o).1 ∨ o = (couple c o).2) := by
  unfold couple
  split
  · exact ⟨.inr rfl, .inl rfl⟩
  · exact ⟨.inl rfl, .inr rfl⟩
/-- in a row without doubles a cell stands in one couple -/
theorem one_couple : ∀ {m : List Cp}, (used m).Nodup → ∀ {p q : Cp} {x : Pt}, p ∈ m → q ∈ m → (x = p.1 ∨ x = p.2) → (x = q.1 ∨ x = q.2) → p = q
  | [], _, _, _, _, hp, _, _, _ => nomatch hp
  | a :: m, n, p, q, x, hp, hq, e1, e2 => by
    have n : (a.1 :: a.2 :: used m).Nodup := n
    have n1 := List.nodup_cons.mp n
    have n2 := List.nodup_cons.mp n1.2
    have out : ∀ {z : Cp}, z ∈ m → (x = z.1 ∨ x = z.2) → (x = a.1 ∨ x = a.2) → False := fun {z} hz e3 e4 => by
      have hx : x ∈ used m := used_mem.mpr ⟨z, hz, e3⟩
      rcases e4 with e | e
      · subst e; exact n1.1 (List.mem_cons_of_mem _ hx)
      · subst e; exact n2.1 hx
    rcases List.mem_cons.mp hp with h1 | h1
    · rcases List.mem_cons.mp hq with h2 | h2
      · rw [h1, h2]
      · subst h1; exact (out h2 e2 e1).elim
    · rcases List.mem_cons.mp hq with h2 | h2
      · subst h2; exact (out h1 e1 e2).elim
      · exact one_couple n2.2 h1 h2 e1 e2
/-- a covering of L -/
structure PM (S L : List Pt) (m : List Cp) : Prop where
  cps : ∀ p ∈ m, CpOk S p
  perm : (used m).Perm L
structure Enum (S L : List Pt) (rows : List (List Cp)) : Prop where
  sound : ∀ r ∈ rows, PM S L r
  all : ∀ m, PM S L m → ∃ r ∈ rows, r.Perm m
  nd : rows.Pairwise fun r r' => ¬ r.Perm r'
theorem setF_iff {r r' : List Cp} : setF r = setF r' ↔ r.Perm r' := by
  unfold setF
  constructor
  · intro h
    have h : r.mergeSort leT = r'.mergeSort leT := congrArg Tup.items h
    exact (List.mergeSort_perm r leT).symm.trans (h ▸ List.mergeSort_perm r' leT)
  · intro h
    rw [sort_perm h]
theorem Enum.setNd {S L : List Pt} {A : List (List Cp)} (h : Enum S L A) : (A.map setF).Nodup := List.pairwise_map.mpr (h.nd.imp fun k e => k (setF_iff.mp e))
theorem enum_perm {S L : List Pt} {A B : List (List Cp)} (a : Enum S L A) (b : Enum S L B) : (A.map setF).Perm (B.map setF) := by
  have sub : ∀ {A B : List (List Cp)}, Enum S L A → Enum S L B → ∀ f, f ∈ A.map setF → f ∈ B.map setF := fun {A B} a b f hf => by
    obtain ⟨r, hr, rfl⟩ := List.mem_map.mp hf
    obtain ⟨r', hr', e⟩ := b.all r (a.sound r hr)
    exact List.mem_map.mpr ⟨r', hr', setF_iff.mpr e⟩
  exact (List.perm_ext_iff_of_nodup a.setNd b.setNd).mpr fun f => ⟨sub a b f, sub b a f⟩
theorem enum_len {S L : List Pt} {A B : List (List Cp)} (a : Enum S L A) (b : Enum S L B) : A.length = B.length := by
  have := (enum_perm a b).length_eq
  rwa [List.length_map, List.length_map] at this
theorem enum_sort {S L : List Pt} {A B : List (List Cp)} (a : Enum S L A) (b : Enum S L B) : (A.map setF).mergeSort leT = (B.map setF).mergeSort leT := sort_perm (enum_perm a b)
/-! ### the search of the program -/
theorem enum_pre (S : List Pt) : ∀ (n : Nat) (L : List Pt) (row : List Cp), ∀ r ∈ enumF S n L row, ∃ m, r = row ++ m
  | 0, L, row, r, h => by
    unfold enumF at h
    split at h
    · rw [List.mem_singleton.mp h]; exact ⟨[], by rw [List.append_nil]⟩
    · cases h
  | n + 1, L, row, r, h => by
    unfold enumF at h
    split at h
    · rw [List.mem_singleton.mp h]; exact ⟨[], by rw [List.append_nil]⟩
    · split at h
      · cases h
      · rename_i c _
        obtain ⟨e, he, hr⟩ := List.mem_flatMap.mp h
        obtain ⟨o, ho, rfl⟩ := List.mem_map.mp (List.mem_reverse.mp he)
        obtain ⟨m, hm⟩ := enum_pre S n _ _ r hr
        exact ⟨couple c o :: m, by rw [hm, List.append_assoc]; rfl⟩
theorem enum_all {S L0 : List Pt} (hcell : ∀ c ∈ L0, isCell S c = true) : ∀ (n : Nat) (L : List Pt) (row m : List Cp), L.Nodup → (∀ c ∈ L, c ∈ L0) → PM S L m → L.length ≤ n → ∃ r ∈ enumF S n L row, r.Perm (row ++ m) := by
  have nil : ∀ {m : List Cp}, (used m).Perm [] → m = [] := fun {m} h => by
    have := h.length_eq
    rw [used_len] at this
    exact List.eq_nil_of_length_eq_zero (by simp at this; omega)
  intro n
  induction n with
  | zero =>
    intro L row m hn hs pm hl
    have e : L = [] := List.eq_nil_of_length_eq_zero (by omega)
    subst e
    rw [nil pm.perm, List.append_nil]
    exact ⟨row, by unfold enumF; rw [if_pos rfl]; exact List.mem_singleton_self _, .refl _⟩
  | succ n ih =>
    intro L row m hn hs pm hl
    by_cases e : L = []
    · subst e
      rw [nil pm.perm, List.append_nil]
      exact ⟨row, by unfold enumF; rw [if_pos rfl]; exact List.mem_singleton_self _, .refl _⟩
    · obtain ⟨c, h1, h2, _⟩ := few_some S e
      obtain ⟨o, hp, ho⟩ := couple_at (pm.perm.mem_iff.mpr h2) pm.cps
      have hoL : o ∈ L := pm.perm.mem_iff.mp (used_mem.mpr ⟨_, hp, (couple_mem c o).2⟩)
      have near : o ∈ nearLeft S L c := List.mem_filter.mpr ⟨List.mem_filter.mpr ⟨ho, hcell o (hs o hoL)⟩, decide_eq_true hoL⟩
      obtain ⟨m1, m2, em⟩ := List.append_of_mem hp
      have pm1 : m.Perm (couple c o :: (m1 ++ m2)) := by rw [em]; exact List.perm_middle
      have rp := rest_perm hn h2 hoL (next_ne ho)
      have up : (used (m1 ++ m2)).Perm (restL L c o) := by
        have a1 := (used_perm pm1).symm.trans pm.perm
        have a2 : (c :: o :: used (m1 ++ m2)).Perm (c :: o :: restL L c o) := by
          refine .trans ?_ (a1.trans rp)
          exact ((couple_cells c o).symm.append_right (used (m1 ++ m2)))
        exact (List.perm_cons _).mp ((List.perm_cons _).mp a2)
      have len := rp.length_eq
      simp only [List.length_cons] at len
      obtain ⟨r, hr, hr2⟩ := ih (restL L c o) (row ++ [couple c o]) (m1 ++ m2) (List.Nodup.sublist List.filter_sublist hn) (fun x hx => hs x (List.mem_filter.mp hx).1) ⟨fun p hp => pm.cps p (pm1.mem_iff.mpr (List.mem_cons_of_mem _ hp)), up⟩ (by omega)
      refine ⟨r, ?_, hr2.trans ?_⟩
      · unfold enumF
        rw [if_neg e]
        simp only [h1]
        exact List.mem_flatMap.mpr ⟨(restL L c o, row ++ [couple c o]), List.mem_reverse.mpr (List.mem_map.mpr ⟨o, near, rfl⟩), hr⟩
      · rw [List.append_assoc]
        exact .append_left _ pm1.symm
theorem next_nd (c : Pt) : (nextL c).Nodup := by
  unfold nextL
  simp [Prod.ext_iff]
  omega
theorem enum_nd {S L0 : List Pt} (h0 : L0.Nodup) : ∀ (n : Nat) (L : List Pt) (row : List Cp), Good S L0 (L, row) → L.length ≤ n → (enumF S n L row).Pairwise fun r r' => ¬ r.Perm r'
  | 0, L, row, g, hl => by
    unfold enumF
    split
    · exact List.pairwise_singleton _ _
    · exact .nil
  | n + 1, L, row, g, hl => by
    unfold enumF
    split
    · exact List.pairwise_singleton _ _
    · rename_i ne
      obtain ⟨c, h1, h2, _⟩ := few_some S ne
      simp only [h1]
      refine List.pairwise_flatMap.mpr ⟨fun e he => ?_, ?_⟩
      · obtain ⟨g2, l2⟩ := good_kid h0 g h2 (List.mem_reverse.mp he)
        exact enum_nd h0 n e.1 e.2 g2 (by omega)
      · refine List.pairwise_reverse.mpr ?_
        unfold kids
        refine List.pairwise_map.mpr ?_
        have nn : (nearLeft S L c).Nodup := List.Nodup.sublist (List.filter_sublist.trans List.filter_sublist) (next_nd c)
        refine List.Pairwise.imp_of_mem (fun {o o'} ho ho' ne2 r hr r' hr' pp => ne2 ?_) nn
        have gk : ∀ {z : Pt}, z ∈ nearLeft S L c → Good S L0 (restL L c z, row ++ [couple c z]) ∧ (restL L c z).length + 2 = L.length := fun {z} hz => good_kid h0 g h2 (List.mem_map.mpr ⟨z, hz, rfl⟩)
        obtain ⟨g1, l1⟩ := gk ho'
        have gr := enum_good h0 n _ _ g1 (by omega) r hr
        obtain ⟨q, hq⟩ := enum_pre S n _ _ r hr
        obtain ⟨q', hq'⟩ := enum_pre S n _ _ r' hr'
        have nd : (used r).Nodup := (gr.perm.nodup_iff.mpr h0).sublist (List.sublist_append_left _ _)
        have m1 : couple c o' ∈ r := by rw [hq]; exact List.mem_append_left _ (List.mem_append_right _ (List.mem_singleton_self _))
        have m2 : couple c o ∈ r := pp.mem_iff.mpr (by rw [hq']; exact List.mem_append_left _ (List.mem_append_right _ (List.mem_singleton_self _)))
        exact couple_inj (one_couple nd m2 m1 (couple_mem c o).1 (couple_mem c o').1)
theorem enum_prog {S L0 : List Pt} (h0 : L0.Nodup) (hcell : ∀ c ∈ L0, isCell S c = true) : Enum S L0 (enumF S L0.length L0 []) := by
  have g0 : Good S L0 (L0, []) := ⟨.refl _, fun p hp => nomatch hp⟩
  refine ⟨fun r hr => ?_, fun m pm => ?_, enum_nd h0 _ _ _ g0 (Nat.le_refl _)⟩
  · have g := enum_good h0 _ _ _ g0 (Nat.le_refl _) r hr
    exact ⟨g.cps, by have := g.perm; rwa [List.append_nil] at this⟩
  · obtain ⟨r, h1, h2⟩ := enum_all hcell _ L0 [] m h0 (fun c h => h) pm (Nat.le_refl _)
    exact ⟨r, h1, h2⟩
end Hf

/-! ## HfQ3 -/
set_option Elab.async false
set_option linter.all false
set_option maxRecDepth 100000
set_option maxHeartbeats 1000000
/-! _law_floors tells every covering once. -/
namespace Hf
open L2 PySem PySem.Spec PyProof.Rows
open PySem.W (Datum DatumOrd Tup)
theorem and_nat (a b : Nat) : Builtin.bitAnd (a : Int) (b : Int) = ((a &&& b : Nat) : Int) := by
  unfold Builtin.bitAnd
  rw [decide_eq_true (show (0 : Int) ≤ (a : Int) by omega), decide_eq_true (show (0 : Int) ≤ (b : Int) by omega)]
  rfl
theorem not_not (a : Int) : Builtin.bitNot (Builtin.bitNot a) = a := by unfold Builtin.bitNot; omega
theorem or_nat (a b : Nat) : Builtin.bitOr (a : Int) (b : Int) = ((a ||| b : Nat) : Int) := by
  unfold Builtin.bitOr Builtin.bitAnd
  have n : ∀ c : Nat, decide (0 ≤ Builtin.bitNot (c : Int)) = false := fun c => decide_eq_false (by unfold Builtin.bitNot; omega)
  rw [n a, n b]
  show Builtin.bitNot (Builtin.bitNot _) = _
  rw [not_not, not_not, not_not]
  rfl
theorem bits_nat (k m : Nat) : bitsOf k m = ((2 ^ k ||| 2 ^ m : Nat) : Int) := by
  unfold bitsOf
  have e : ∀ j : Nat, (1 : Int) * 2 ^ j = ((2 ^ j : Nat) : Int) := fun j => by rw [Int.one_mul]; exact (Int.natCast_pow 2 j).symm
  rw [e, e, or_nat]
theorem bit_at (B k : Nat) : (Builtin.bitAnd ((B : Int) / 2 ^ k) 1 = 1) ↔ B.testBit k = true := by
  have e : ((B : Int) / 2 ^ k) = ((B / 2 ^ k : Nat) : Int) := by rw [Int.natCast_ediv, Int.natCast_pow]; rfl
  have e1 : (1 : Int) = ((1 : Nat) : Int) := rfl
  rw [e, e1, and_nat, Nat.and_one_is_mod, Nat.testBit_eq_decide_div_mod_eq, decide_eq_true_eq]
  omega
theorem bit_free (B k m : Nat) : (Builtin.bitAnd (B : Int) (bitsOf k m) = 0) ↔ (B.testBit k = false ∧ B.testBit m = false) := by
  rw [bits_nat, and_nat]
  constructor
  · intro h
    have h : (B &&& (2 ^ k ||| 2 ^ m)) = 0 := by omega
    have t : ∀ i, (B.testBit i && ((2 ^ k).testBit i || (2 ^ m).testBit i)) = false := fun i => by
      have := congrArg (fun x => Nat.testBit x i) h
      simpa [Nat.testBit_and, Nat.testBit_or] using this
    constructor
    · have := t k
      rw [Nat.testBit_two_pow_self] at this
      simpa using this
    · have := t m
      rw [Nat.testBit_two_pow_self] at this
      simpa using this
  · rintro ⟨h1, h2⟩
    have : (B &&& (2 ^ k ||| 2 ^ m)) = 0 := Nat.eq_of_testBit_eq fun i => by
      rw [Nat.testBit_and, Nat.testBit_or, Nat.testBit_two_pow, Nat.testBit_two_pow, Nat.zero_testBit]
      by_cases e1 : k = i
      · subst e1; rw [h1]; rfl
      · by_cases e2 : m = i
        · subst e2; rw [h2]; rfl
        · rw [decide_eq_false e1, decide_eq_false e2]; simp
    rw [this]; rfl
theorem bit_or (B k m i : Nat) : (B ||| (2 ^ k ||| 2 ^ m)).testBit i = (B.testBit i || (decide (k = i) || decide (m = i))) := by
  rw [Nat.testBit_or, Nat.testBit_or, Nat.testBit_two_pow, Nat.testBit_two_pow]
/-! ### order of the cells -/
def ltP (a b : Pt) : Prop := a.1 < b.1 ∨ (a.1 = b.1 ∧ a.2 < b.2)
theorem ltP_irr {a : Pt} (h : ltP a a) : False := by unfold ltP at h; omega
theorem ltP_anti {a b : Pt} (h : ltP a b) (h2 : ltP b a) : False := by unfold ltP at h h2; omega
theorem leT_pt {a b : Pt} (h : leT a b = true) (ne : a ≠ b) : ltP a b := by
  have h : (!(if b.1 = a.1 then decide (b.2 < a.2) else decide (b.1 < a.1))) = true := h
  have ne2 : ¬ (a.1 = b.1 ∧ a.2 = b.2) := fun z => ne (Prod.ext z.1 z.2)
  unfold ltP
  split at h <;> simp at h <;> omega
theorem atP_at {ps : List Pt} {c : Pt} (h : c ∈ ps) : ps[(atP ps c).getD 0]? = some c := by
  obtain ⟨i, hi⟩ := atP_mem h
  rw [hi]
  unfold atP at hi
  obtain ⟨h1, h2, _⟩ := List.findIdx?_eq_some_iff_getElem.mp hi
  show ps[i]? = _
  rw [List.getElem?_eq_getElem h1, of_decide_eq_true h2]
/-! ### the rows -/
structure RowOk (S cells : List Pt) (g : Pt) (k : Nat) (r : LRow) : Prop where
  nd : (g :: used r.1).Nodup
  sub : ∀ x ∈ used r.1, x ∈ cells
  cps : ∀ p ∈ r.1, CpOk S p
  cov : ∀ x ∈ cells.take k, x ∈ g :: used r.1
  low : ∀ p ∈ r.1, p.1 ∈ cells.take k ∨ p.2 ∈ cells.take k
  bits : ∃ B : Nat, r.2 = (B : Int) ∧ ∀ (i : Nat) x, cells[i]? = some x → (B.testBit i = true ↔ x ∈ g :: used r.1)
def freeB (cells : List Pt) (k : Nat) (its : Pt) (r : LRow) : Bool := decide (Builtin.bitAnd r.2 (bitsOf k (ixOf cells its)) = 0)
def addR (cells : List Pt) (k : Nat) (s its : Pt) (r : LRow) : LRow := (r.1 ++ [lpair s its], Builtin.bitOr r.2 (bitsOf k (ixOf cells its)))
def setB (k : Nat) (r : LRow) : Bool := decide (Builtin.bitAnd (r.2 / 2 ^ k) 1 = 1)
theorem lAfter_eq (cells : List Pt) (k : Nat) (s : Pt) (found : List LRow) (gs : List Pt) : lAfter cells k s found gs = found.filter (setB k) ++ gs.flatMap fun its => (found.filter (freeB cells k its)).map (addR cells k s its) := by
  unfold lAfter
  have : ∀ (gs : List Pt) (l : List LRow), gs.foldl (lIts cells k s found) l = l ++ gs.flatMap fun its => (found.filter (freeB cells k its)).map (addR cells k s its) := by
    intro gs
    induction gs with
    | nil => intro l; simp
    | cons x gs ih =>
      intro l
      rw [List.foldl_cons, ih, List.flatMap_cons, ← List.append_assoc]
      rfl
  exact this gs _
theorem goods_mem {cells : List Pt} {s o : Pt} : o ∈ goodsL cells s ↔ o ∈ cells ∧ (o = (s.1, s.2 + 1) ∨ o = (s.1 + 1, s.2)) := by
  unfold goodsL
  rw [List.mem_filter]
  have : (look (numD cells) o).isSome = true ↔ o ∈ cells := by
    rw [look_num]
    constructor
    · intro h
      cases e : atP cells o with
      | none => rw [e] at h; cases h
      | some i =>
        unfold atP at e
        obtain ⟨h1, h2, _⟩ := List.findIdx?_eq_some_iff_getElem.mp e
        have := of_decide_eq_true h2
        rw [← this]; exact List.getElem_mem h1
    · intro h
      obtain ⟨i, hi⟩ := atP_mem h
      rw [hi]; rfl
  rw [this]
  simp only [List.mem_cons, List.not_mem_nil, or_false]
  exact And.comm
theorem goods_next {cells : List Pt} {s o : Pt} (h : o ∈ goodsL cells s) : o ∈ nextL s ∧ ltP s o := by
  have := (goods_mem.mp h).2
  unfold nextL ltP
  rcases this with e | e <;> subst e <;> simp <;> omega
/-! ### cells in order -/
structure Cells (cells : List Pt) : Prop where
  nd : cells.Nodup
  ord : ∀ (i j : Nat) a b, cells[i]? = some a → cells[j]? = some b → ltP a b → i < j
theorem Cells.take {cells : List Pt} (C : Cells cells) {k : Nat} {s o : Pt} (hs : cells[k]? = some s) (ho : o ∈ cells) (h : ltP o s) : o ∈ cells.take k := by
  obtain ⟨i, hi⟩ := List.getElem?_of_mem ho
  have := C.ord i k o s hi hs h
  exact List.mem_of_getElem? (i := i) (by rw [List.getElem?_take, if_pos this]; exact hi)
theorem Cells.out {cells : List Pt} (C : Cells cells) {k : Nat} {s o : Pt} (hs : cells[k]? = some s) (ho : o ∈ cells.take k) : o ≠ s ∧ ¬ ltP s o := by
  obtain ⟨i, hi⟩ := List.getElem?_of_mem ho
  rw [List.getElem?_take] at hi
  split at hi
  · rename_i lt
    refine ⟨fun e => ?_, fun h => ?_⟩
    · subst e
      have := (List.getElem?_inj (List.getElem?_eq_some_iff.mp hi).1 C.nd).mp (hi.trans hs.symm)
      omega
    · have := C.ord k i s o hs hi h
      omega
  · cases hi
theorem take_succ_mem {cells : List Pt} {k : Nat} {s x : Pt} (hs : cells[k]? = some s) : x ∈ cells.take (k + 1) ↔ x ∈ cells.take k ∨ x = s := by
  rw [take_next' hs, List.mem_append, List.mem_singleton]
theorem used_app (r : List Cp) (p : Cp) : used (r ++ [p]) = used r ++ [p.1, p.2] := by unfold used; rw [List.flatMap_append]; rfl
theorem lpair_cells (s o : Pt) : ([(lpair s o).1, (lpair s o).2] : List Pt).Perm [s, o] := by rw [lpair_couple]; exact couple_cells s o
theorem used_add_mem (r : List Cp) (s o x : Pt) : x ∈ used (r ++ [lpair s o]) ↔ x ∈ used r ∨ x = s ∨ x = o := by
  rw [used_app, List.mem_append, (lpair_cells s o).mem_iff]
  simp
theorem atP_ix {ps : List Pt} (n : ps.Nodup) {c : Pt} {i : Nat} (h : ps[i]? = some c) : (atP ps c).getD 0 = i := by
  have hm := List.mem_of_getElem? h
  have e := atP_at hm
  exact (List.getElem?_inj (List.getElem?_eq_some_iff.mp e).1 n).mp (e.trans h.symm)
theorem rowOk_add {S cells : List Pt} (C : Cells cells) {g : Pt} {k : Nat} {r : LRow} {s o : Pt} (h : RowOk S cells g k r) (hs : cells[k]? = some s) (ho : o ∈ goodsL cells s) (n1 : s ∉ g :: used r.1) (n2 : o ∉ g :: used r.1) : RowOk S cells g (k + 1) (addR cells k s o r) := by
  obtain ⟨hnd, hsub, hcps, hcov, hlow, B, hB, hbits⟩ := h
  obtain ⟨oc, _⟩ := goods_mem.mp ho
  obtain ⟨on, ol⟩ := goods_next ho
  have sc := List.mem_of_getElem? hs
  have mem := used_add_mem r.1 s o
  have ne : o ≠ s := next_ne on
  refine ⟨?_, fun x hx => ?_, fun p hp => ?_, fun x hx => ?_, fun p hp => ?_, ?_⟩
  · show (g :: used (r.1 ++ [lpair s o])).Nodup
    rw [used_app]
    have p1 : (g :: (used r.1 ++ [(lpair s o).1, (lpair s o).2])).Perm (s :: o :: (g :: used r.1)) := by
      refine .trans (List.Perm.append_left (g :: used r.1) (lpair_cells s o)) ?_
      exact List.perm_append_comm
    rw [p1.nodup_iff]
    exact List.nodup_cons.mpr ⟨fun z => by
      rcases List.mem_cons.mp z with e | z
      · exact ne e.symm
      · exact n1 z, List.nodup_cons.mpr ⟨n2, hnd⟩⟩
  · rcases (mem x).mp hx with h | h | h
    · exact hsub x h
    · rw [h]; exact sc
    · rw [h]; exact oc
  · rcases List.mem_append.mp hp with hp | hp
    · exact hcps p hp
    · rw [List.mem_singleton.mp hp, lpair_couple]; exact ⟨s, o, rfl, on⟩
  · rcases (take_succ_mem hs).mp hx with hx | hx
    · rcases List.mem_cons.mp (hcov x hx) with e | e
      · rw [e]; exact List.mem_cons_self ..
      · exact List.mem_cons_of_mem _ ((mem x).mpr (.inl e))
    · exact List.mem_cons_of_mem _ ((mem x).mpr (.inr (.inl hx)))
  · have tk : ∀ {x : Pt}, x ∈ cells.take k → x ∈ cells.take (k + 1) := fun hx => (take_succ_mem hs).mpr (.inl hx)
    rcases List.mem_append.mp hp with hp | hp
    · exact (hlow p hp).imp tk tk
    · rw [List.mem_singleton.mp hp, lpair_couple]
      have hk : s ∈ cells.take (k + 1) := (take_succ_mem hs).mpr (.inr rfl)
      rcases (couple_mem s o).1 with e | e
      · exact .inl (by rw [← e]; exact hk)
      · exact .inr (by rw [← e]; exact hk)
  · obtain ⟨m, hm⟩ := List.getElem?_of_mem oc
    have em : ixOf cells o = m := atP_ix C.nd hm
    refine ⟨B ||| (2 ^ k ||| 2 ^ m), ?_, fun i x hx => ?_⟩
    · show Builtin.bitOr r.2 (bitsOf k (ixOf cells o)) = _
      rw [em, hB, bits_nat, or_nat]
    · rw [bit_or]
      have ix : ∀ {j : Nat} {y : Pt}, cells[j]? = some y → (decide (j = i) = true ↔ x = y) := fun {j y} hj => by
        rw [decide_eq_true_eq]
        constructor
        · intro e; subst e; rw [hj] at hx; exact (Option.some.inj hx).symm
        · intro e; subst e; exact (List.getElem?_inj (List.getElem?_eq_some_iff.mp hj).1 C.nd).mp (hj.trans hx.symm)
      rw [Bool.or_eq_true, Bool.or_eq_true, hbits i x hx, ix hs, ix hm, List.mem_cons, List.mem_cons]
      show _ ↔ x = g ∨ x ∈ used (r.1 ++ [lpair s o])
      rw [mem x, or_assoc]
theorem rowOk_keep {S cells : List Pt} {g : Pt} {k : Nat} {r : LRow} {s : Pt} (h : RowOk S cells g k r) (hs : cells[k]? = some s) (n1 : s ∈ g :: used r.1) : RowOk S cells g (k + 1) r := by
  obtain ⟨hnd, hsub, hcps, hcov, hlow, hb⟩ := h
  refine ⟨hnd, hsub, hcps, fun x hx => ?_, fun p hp => ?_, hb⟩
  · rcases (take_succ_mem hs).mp hx with hx | hx
    · exact hcov x hx
    · rw [hx]; exact n1
  · have tk : ∀ {x : Pt}, x ∈ cells.take k → x ∈ cells.take (k + 1) := fun hx => (take_succ_mem hs).mpr (.inl hx)
    exact (hlow p hp).imp tk tk
theorem setB_iff {S cells : List Pt} {g : Pt} {k : Nat} {r : LRow} {s : Pt} (h : RowOk S cells g k r) (hs : cells[k]? = some s) : setB k r = true ↔ s ∈ g :: used r.1 := by
  obtain ⟨B, hB, hb⟩ := h.bits
  unfold setB
  rw [decide_eq_true_eq, hB, bit_at, hb k s hs]
theorem freeB_iff {S cells : List Pt} (C : Cells cells) {g : Pt} {k : Nat} {r : LRow} {s o : Pt} (h : RowOk S cells g k r) (hs : cells[k]? = some s) (ho : o ∈ cells) : freeB cells k o r = true ↔ s ∉ g :: used r.1 ∧ o ∉ g :: used r.1 := by
  obtain ⟨B, hB, hb⟩ := h.bits
  obtain ⟨m, hm⟩ := List.getElem?_of_mem ho
  have em : ixOf cells o = m := atP_ix C.nd hm
  unfold freeB
  rw [decide_eq_true_eq, hB, em, bit_free]
  have nb : ∀ {i : Nat} {x : Pt}, cells[i]? = some x → (B.testBit i = false ↔ x ∉ g :: used r.1) := fun {i x} hx => by
    rw [← hb i x hx, Bool.not_eq_true]
  rw [nb hs, nb hm]
/-! ### the invariant of the search -/
structure Inv (S cells L : List Pt) (g : Pt) (k : Nat) (found : List LRow) : Prop where
  ok : ∀ r ∈ found, RowOk S cells g k r
  all : ∀ m, PM S L m → ∃ r ∈ found, ∀ p ∈ r.1, p ∈ m
  nd : found.Pairwise fun r r' => ¬ r.1.Perm r'.1
theorem lStep_eq (cells : List Pt) (found : List LRow) (s : Pt) (k : Nat) : lStep cells found (s, k) = found.filter (setB k) ++ (goodsL cells s).flatMap fun its => (found.filter (freeB cells k its)).map (addR cells k s its) := lAfter_eq cells k s found _
theorem after_mem {cells : List Pt} {found : List LRow} {s : Pt} {k : Nat} {gs : List Pt} {r : LRow} : r ∈ lAfter cells k s found gs ↔ (r ∈ found ∧ setB k r = true) ∨ ∃ o ∈ gs, ∃ r0 ∈ found, freeB cells k o r0 = true ∧ r = addR cells k s o r0 := by
  rw [lAfter_eq, List.mem_append, List.mem_filter, List.mem_flatMap]
  constructor
  · rintro (h | ⟨o, ho, h⟩)
    · exact .inl h
    · obtain ⟨r0, h0, rfl⟩ := List.mem_map.mp h
      obtain ⟨h1, h2⟩ := List.mem_filter.mp h0
      exact .inr ⟨o, ho, r0, h1, h2, rfl⟩
  · rintro (h | ⟨o, ho, r0, h1, h2, rfl⟩)
    · exact .inl h
    · exact .inr ⟨o, ho, List.mem_map.mpr ⟨r0, List.mem_filter.mpr ⟨h1, h2⟩, rfl⟩⟩
theorem after_ok {S cells : List Pt} (C : Cells cells) {g : Pt} {k : Nat} {found : List LRow} {s : Pt} (h : ∀ r ∈ found, RowOk S cells g k r) (hs : cells[k]? = some s) {gs : List Pt} (hg : ∀ o ∈ gs, o ∈ goodsL cells s) : ∀ r ∈ lAfter cells k s found gs, RowOk S cells g (k + 1) r := fun r hr => by
  rcases after_mem.mp hr with ⟨h1, h2⟩ | ⟨o, ho, r0, h1, h2, rfl⟩
  · exact rowOk_keep (h r h1) hs ((setB_iff (h r h1) hs).mp h2)
  · have hg2 := hg o ho
    obtain ⟨a, b⟩ := (freeB_iff C (h r0 h1) hs (goods_mem.mp hg2).1).mp h2
    exact rowOk_add C (h r0 h1) hs hg2 a b
theorem inv_step {S cells L : List Pt} (C : Cells cells) {g : Pt} (hL : ∀ x, x ∈ L ↔ x ∈ cells ∧ x ≠ g) (nL : L.Nodup) {k : Nat} {found : List LRow} {s : Pt} (h : Inv S cells L g k found) (hs : cells[k]? = some s) : Inv S cells L g (k + 1) (lStep cells found (s, k)) := by
  obtain ⟨hok, hall, hnd⟩ := h
  have sc := List.mem_of_getElem? hs
  refine ⟨after_ok C hok hs fun o ho => ho, fun m pm => ?_, ?_⟩
  · obtain ⟨r, hr, sub⟩ := hall m pm
    have ro := hok r hr
    have mn : (used m).Nodup := pm.perm.nodup_iff.mpr nL
    by_cases z : s ∈ g :: used r.1
    · exact ⟨r, after_mem.mpr (.inl ⟨hr, (setB_iff ro hs).mpr z⟩), sub⟩
    · have sg : s ≠ g := fun e => z (by rw [e]; exact List.mem_cons_self ..)
      have su : s ∉ used r.1 := fun e => z (List.mem_cons_of_mem _ e)
      have sL : s ∈ L := (hL s).mpr ⟨sc, sg⟩
      obtain ⟨o, hp, on⟩ := couple_at (pm.perm.mem_iff.mpr sL) pm.cps
      have oL : o ∈ L := pm.perm.mem_iff.mp (used_mem.mpr ⟨_, hp, (couple_mem s o).2⟩)
      obtain ⟨oc, og⟩ := (hL o).mp oL
      have ou : o ∉ g :: used r.1 := fun e => by
        rcases List.mem_cons.mp e with e | e
        · exact og e
        · obtain ⟨q, hq, eq⟩ := used_mem.mp e
          have := one_couple mn (sub q hq) hp eq (couple_mem s o).2
          exact su (used_mem.mpr ⟨q, hq, by rw [this]; exact (couple_mem s o).1⟩)
      have ot : ¬ ltP o s := fun l => ou (ro.cov o (C.take hs oc l))
      have good : o ∈ goodsL cells s := goods_mem.mpr ⟨oc, by
        unfold nextL at on
        simp only [List.mem_cons, List.not_mem_nil, or_false] at on
        unfold ltP at ot
        rcases on with e | e | e | e
        · rw [e] at ot; exact (ot (.inl (by show s.1 - 1 < s.1; omega))).elim
        · rw [e] at ot; exact (ot (.inr ⟨rfl, by show s.2 - 1 < s.2; omega⟩)).elim
        · exact .inl e
        · exact .inr e⟩
      refine ⟨addR cells k s o r, after_mem.mpr (.inr ⟨o, good, r, hr, (freeB_iff C ro hs oc).mpr ⟨z, ou⟩, rfl⟩), fun p hp2 => ?_⟩
      rcases List.mem_append.mp hp2 with h | h
      · exact sub p h
      · rw [List.mem_singleton.mp h, lpair_couple]; exact hp
  · rw [lStep_eq]
    have fresh : ∀ {o : Pt} {r : LRow}, r ∈ found → o ∈ goodsL cells s → lpair s o ∉ r.1 := fun {o r} hr ho z => by
      have ro := hok r hr
      have lo := (goods_next ho).2
      have k1 := C.out hs (o := s)
      have k2 := C.out hs (o := o)
      have a1 : s ∉ cells.take k := fun e => (k1 e).1 rfl
      have a2 : o ∉ cells.take k := fun e => (k2 e).2 lo
      have m := lpair_cells s o
      have q : ∀ x, x = (lpair s o).1 ∨ x = (lpair s o).2 → x ∉ cells.take k := fun x hx => by
        have : x ∈ [s, o] := m.mem_iff.mp (by simpa using hx)
        simp only [List.mem_cons, List.not_mem_nil, or_false] at this
        rcases this with e | e
        · rw [e]; exact a1
        · rw [e]; exact a2
      rcases ro.low _ z with w | w
      · exact q _ (.inl rfl) w
      · exact q _ (.inr rfl) w
    refine List.pairwise_append.mpr ⟨hnd.sublist List.filter_sublist, ?_, fun r hr r' hr' pp => ?_⟩
    · refine List.pairwise_flatMap.mpr ⟨fun o ho => ?_, ?_⟩
      · refine List.pairwise_map.mpr ((hnd.sublist List.filter_sublist).imp fun {r r'} n pp => n ?_)
        exact (List.perm_append_right_iff _).mp pp
      · have gn : (goodsL cells s).Nodup := by
          unfold goodsL
          refine List.Nodup.sublist List.filter_sublist (List.nodup_cons.mpr ⟨fun z => ?_, List.nodup_cons.mpr ⟨fun z => (nomatch z), List.nodup_nil⟩⟩)
          have z := congrArg Prod.fst (List.mem_singleton.mp z)
          have z : s.1 = s.1 + 1 := z
          omega
        refine List.Pairwise.imp_of_mem (fun {o o'} ho ho' ne r hr r' hr' pp => ne ?_) gn
        obtain ⟨r0, h0, rfl⟩ := List.mem_map.mp hr
        obtain ⟨r1, h1, rfl⟩ := List.mem_map.mp hr'
        obtain ⟨h2, h3⟩ := List.mem_filter.mp h0
        obtain ⟨h4, h5⟩ := List.mem_filter.mp h1
        obtain ⟨b1, b2⟩ := (freeB_iff C (hok r1 h4) hs (goods_mem.mp ho').1).mp h5
        have ok' := rowOk_add C (hok r1 h4) hs ho' b1 b2
        have m1 : lpair s o ∈ (addR cells k s o' r1).1 := pp.mem_iff.mp (List.mem_append_right _ (List.mem_singleton_self _))
        have m2 : lpair s o' ∈ (addR cells k s o' r1).1 := List.mem_append_right _ (List.mem_singleton_self _)
        rw [lpair_couple] at m1 m2
        exact couple_inj (one_couple (List.nodup_cons.mp ok'.nd).2 m1 m2 (couple_mem s o).1 (couple_mem s o').1)
    · obtain ⟨hr1, _⟩ := List.mem_filter.mp hr
      obtain ⟨o, ho, hr'⟩ := List.mem_flatMap.mp hr'
      obtain ⟨r1, h1, rfl⟩ := List.mem_map.mp hr'
      exact fresh hr1 ho (pp.mem_iff.mpr (List.mem_append_right _ (List.mem_singleton_self _)))
theorem zip_take (cells : List Pt) : ∀ {k : Nat} {s : Pt}, cells[k]? = some s → cells.zipIdx.take (k + 1) = cells.zipIdx.take k ++ [(s, k)] := fun {k s} h => by
  rw [List.take_add_one, List.getElem?_zipIdx, h]
  simp
theorem lFound_next {cells : List Pt} (g : Pt) {k : Nat} {s : Pt} (h : cells[k]? = some s) : lFound cells g (cells.zipIdx.take (k + 1)) = lStep cells (lFound cells g (cells.zipIdx.take k)) (s, k) := by
  unfold lFound
  rw [zip_take cells h, List.foldl_append]
  rfl
theorem inv_all {S cells L : List Pt} (C : Cells cells) {g : Pt} (hg : g ∈ cells) (hL : ∀ x, x ∈ L ↔ x ∈ cells ∧ x ≠ g) (nL : L.Nodup) : ∀ k, k ≤ cells.length → Inv S cells L g k (lFound cells g (cells.zipIdx.take k))
  | 0, _ => by
    obtain ⟨m, hm⟩ := List.getElem?_of_mem hg
    have em : ixOf cells g = m := atP_ix C.nd hm
    have e : lFound cells g (cells.zipIdx.take 0) = [([], 1 * 2 ^ ixOf cells g)] := rfl
    rw [e, em]
    refine ⟨fun r hr => ?_, fun m pm => ⟨_, List.mem_singleton_self _, fun p hp => (nomatch hp)⟩, List.pairwise_singleton _ _⟩
    rw [List.mem_singleton.mp hr]
    refine ⟨List.nodup_cons.mpr ⟨fun h => (nomatch h), List.nodup_nil⟩, fun x hx => (nomatch hx), fun p hp => (nomatch hp), fun x hx => (nomatch (show x ∈ ([] : List Pt) from hx)), fun p hp => (nomatch hp), 2 ^ m, ?_, fun i x hx => ?_⟩
    · show (1 : Int) * 2 ^ m = _
      rw [Int.one_mul]; exact (Int.natCast_pow 2 m).symm
    · rw [Nat.testBit_two_pow, decide_eq_true_eq]
      show _ ↔ x ∈ [g]
      rw [List.mem_singleton]
      constructor
      · intro e; subst e; rw [hm] at hx; exact (Option.some.inj hx).symm
      · intro e; subst e; exact (List.getElem?_inj (List.getElem?_eq_some_iff.mp hm).1 C.nd).mp (hm.trans hx.symm)
  | k + 1, hk => by
    have hs : cells[k]? = some cells[k] := List.getElem?_eq_getElem (by omega)
    rw [lFound_next g hs]
    exact inv_step C hL nL (inv_all C hg hL nL k (by omega)) hs
theorem lFound_enum {S cells L : List Pt} (C : Cells cells) {g : Pt} (hg : g ∈ cells) (hL : ∀ x, x ∈ L ↔ x ∈ cells ∧ x ≠ g) (nL : L.Nodup) : Enum S L ((lFound cells g cells.zipIdx).map (·.1)) := by
  have I := inv_all (S := S) C hg hL nL cells.length (Nat.le_refl _)
  rw [List.take_of_length_le (by rw [List.length_zipIdx]; exact Nat.le_refl _)] at I
  obtain ⟨hok, hall, hnd⟩ := I
  have full : ∀ {r : LRow}, RowOk S cells g cells.length r → (used r.1).Perm L := fun {r} ro => by
    refine (List.perm_ext_iff_of_nodup (List.nodup_cons.mp ro.nd).2 nL).mpr fun x => ?_
    rw [hL x]
    constructor
    · intro hx
      exact ⟨ro.sub x hx, fun e => (List.nodup_cons.mp ro.nd).1 (e ▸ hx)⟩
    · rintro ⟨hx, ne⟩
      exact (List.mem_cons.mp (ro.cov x (by rw [List.take_length]; exact hx))).resolve_left ne
  refine ⟨fun r hr => ?_, fun m pm => ?_, List.pairwise_map.mpr hnd⟩
  · obtain ⟨r0, h0, rfl⟩ := List.mem_map.mp hr
    exact ⟨(hok r0 h0).cps, full (hok r0 h0)⟩
  · obtain ⟨r, hr, sub⟩ := hall m pm
    refine ⟨r.1, List.mem_map.mpr ⟨r, hr, rfl⟩, ?_⟩
    have mn : (used m).Nodup := pm.perm.nodup_iff.mpr nL
    have pu := (full (hok r hr)).trans pm.perm.symm
    refine (List.perm_ext_iff_of_nodup (used_nd (List.nodup_cons.mp (hok r hr).nd).2) (used_nd mn)).mpr fun p => ⟨sub p, fun hp => ?_⟩
    have hx : p.1 ∈ used r.1 := pu.mem_iff.mpr (used_mem.mpr ⟨p, hp, .inl rfl⟩)
    obtain ⟨q, hq, e⟩ := used_mem.mp hx
    have := one_couple mn hp (sub q hq) (.inl rfl) e
    rw [this]; exact hq
/-! ### they stay few -/
def wt (M : Nat) : List LRow → Nat
  | [] => 0
  | r :: rs => 2 ^ (M - r.1.length) + wt M rs
theorem wt_app (M : Nat) : ∀ a b : List LRow, wt M (a ++ b) = wt M a + wt M b
  | [], b => by show wt M b = 0 + wt M b; omega
  | r :: a, b => by
    show _ + wt M (a ++ b) = _ + wt M a + wt M b
    rw [wt_app M a b]
    omega
theorem wt_len (M : Nat) : ∀ rs : List LRow, rs.length ≤ wt M rs
  | [] => Nat.le_refl _
  | r :: rs => by
    have := wt_len M rs
    have p : 0 < 2 ^ (M - r.1.length) := Nat.two_pow_pos _
    show rs.length + 1 ≤ _ + wt M rs
    omega
theorem rowOk_len {S cells : List Pt} {g : Pt} {k : Nat} {r : LRow} (h : RowOk S cells g k r) (hg : g ∈ cells) : 2 * r.1.length + 1 ≤ cells.length := by
  have n := h.nd.length_le_of_subset (l₂ := cells) fun x hx => by
    rcases List.mem_cons.mp hx with e | hx
    · rw [e]; exact hg
    · exact h.sub x hx
  rwa [List.length_cons, used_len] at n
theorem wt_split (M k : Nat) : ∀ rs : List LRow, wt M (rs.filter (setB k)) + wt M (rs.filter fun r => !setB k r) = wt M rs
  | [] => rfl
  | r :: rs => by
    have h := wt_split M k rs
    have e : wt M (r :: rs) = 2 ^ (M - r.1.length) + wt M rs := rfl
    by_cases z : setB k r = true
    · have z2 : ¬ ((!setB k r) = true) := by rw [z]; decide
      rw [List.filter_cons_of_pos z, List.filter_cons_of_neg (p := fun r => !setB k r) z2, e]
      show 2 ^ (M - r.1.length) + wt M (rs.filter (setB k)) + _ = _
      omega
    · have z2 : ((!setB k r) = true) := by simpa using z
      rw [List.filter_cons_of_neg z, List.filter_cons_of_pos (p := fun r => !setB k r) z2, e]
      show _ + (2 ^ (M - r.1.length) + wt M (rs.filter fun r => !setB k r)) = _
      omega
theorem wt_kid {cells : List Pt} {k M : Nat} {s o : Pt} : ∀ rs : List LRow, (∀ r ∈ rs, freeB cells k o r = true → setB k r = false ∧ r.1.length < M) → 2 * wt M ((rs.filter (freeB cells k o)).map (addR cells k s o)) ≤ wt M (rs.filter fun r => !setB k r)
  | [], _ => Nat.le_refl _
  | r :: rs, h => by
    have ih := wt_kid (s := s) rs fun r hr => h r (List.mem_cons_of_mem _ hr)
    by_cases z : freeB cells k o r = true
    · obtain ⟨h1, h2⟩ := h r (List.mem_cons_self ..) z
      have z2 : ((!setB k r) = true) := by rw [h1]; rfl
      rw [List.filter_cons_of_pos z, List.filter_cons_of_pos (p := fun r => !setB k r) z2, List.map_cons]
      show 2 * (2 ^ (M - (r.1 ++ [lpair s o]).length) + wt M ((rs.filter (freeB cells k o)).map (addR cells k s o))) ≤ 2 ^ (M - r.1.length) + wt M (rs.filter fun r => !setB k r)
      have e : M - r.1.length = (M - (r.1 ++ [lpair s o]).length) + 1 := by rw [List.length_append, List.length_singleton]; omega
      rw [e, Nat.pow_succ]
      omega
    · rw [List.filter_cons_of_neg z]
      refine Nat.le_trans ih ?_
      by_cases z2 : (!setB k r) = true
      · rw [List.filter_cons_of_pos (p := fun r => !setB k r) z2]
        show _ ≤ _ + _
        exact Nat.le_add_left _ _
      · rw [List.filter_cons_of_neg (p := fun r => !setB k r) z2]
        exact Nat.le_refl _
theorem wt_kids {cells : List Pt} {k M : Nat} {s : Pt} (rs : List LRow) : ∀ gs : List Pt, (∀ o ∈ gs, ∀ r ∈ rs, freeB cells k o r = true → setB k r = false ∧ r.1.length < M) → 2 * wt M (gs.flatMap fun o => (rs.filter (freeB cells k o)).map (addR cells k s o)) ≤ gs.length * wt M (rs.filter fun r => !setB k r)
  | [], _ => by show 2 * 0 ≤ _; omega
  | o :: gs, h => by
    have h1 := wt_kid (s := s) rs (h o (List.mem_cons_self ..))
    have h2 := wt_kids (s := s) rs gs fun o ho => h o (List.mem_cons_of_mem _ ho)
    rw [List.flatMap_cons, wt_app, List.length_cons, Nat.add_mul]
    omega
theorem goods_two (cells : List Pt) (s : Pt) : (goodsL cells s).length ≤ 2 := by
  unfold goodsL
  exact List.length_filter_le _ _
theorem wt_after {S cells : List Pt} (C : Cells cells) {g : Pt} (hg : g ∈ cells) {k M : Nat} {s : Pt} (hs : cells[k]? = some s) (hM : cells.length ≤ 2 * M + 1) {found : List LRow} (hok : ∀ r ∈ found, RowOk S cells g k r) {gs : List Pt} (h2 : gs.length ≤ 2) (hgs : ∀ o ∈ gs, o ∈ goodsL cells s) : wt M (lAfter cells k s found gs) ≤ wt M found := by
  have h := wt_kids (s := s) (M := M) found gs fun o ho r hr hf => by
    have hg2 := hgs o ho
    have ro := hok r hr
    obtain ⟨a, b⟩ := (freeB_iff C ro hs (goods_mem.mp hg2).1).mp hf
    have l := rowOk_len (rowOk_add C ro hs hg2 a b) hg
    have e : (addR cells k s o r).1.length = r.1.length + 1 := by show (r.1 ++ [lpair s o]).length = _; rw [List.length_append]; rfl
    refine ⟨?_, by omega⟩
    cases z : setB k r with
    | false => rfl
    | true => exact (a ((setB_iff ro hs).mp z)).elim
  have sp := wt_split M k found
  rw [lAfter_eq, wt_app]
  have : gs.length * wt M (found.filter fun r => !setB k r) ≤ 2 * wt M (found.filter fun r => !setB k r) := Nat.mul_le_mul_right _ h2
  omega
theorem wt_all {S cells L : List Pt} (C : Cells cells) {g : Pt} (hg : g ∈ cells) (hL : ∀ x, x ∈ L ↔ x ∈ cells ∧ x ≠ g) (nL : L.Nodup) {M : Nat} (hM : cells.length ≤ 2 * M + 1) : ∀ k, k ≤ cells.length → wt M (lFound cells g (cells.zipIdx.take k)) ≤ 2 ^ M
  | 0, _ => by show 2 ^ (M - 0) + 0 ≤ 2 ^ M; rw [Nat.sub_zero]; exact Nat.le_refl _
  | k + 1, hk => by
    have hs : cells[k]? = some cells[k] := List.getElem?_eq_getElem (by omega)
    rw [lFound_next g hs]
    exact Nat.le_trans (wt_after (S := S) C hg hs hM (inv_all C hg hL nL k (by omega)).ok (goods_two _ _) fun o ho => ho) (wt_all (S := S) C hg hL nL hM k (by omega))
theorem lf_ok {S L : List Pt} (C : Cells (lcellsL S)) {g : Pt} (hg : g ∈ lcellsL S) (hL : ∀ x, x ∈ L ↔ x ∈ lcellsL S ∧ x ≠ g) (nL : L.Nodup) (ne : L ≠ []) (hlen : (lcellsL S).length ≤ 37) (hS : S.length ≤ 100) : LfOk S g := by
  have hM : (lcellsL S).length ≤ 2 * 18 + 1 := hlen
  have p : 2 ^ 18 ≤ 500000 := by decide
  refine ⟨hS, C.nd, by omega, hg, fun j hj => ?_, fun j s hs m => ?_, fun j hj r hr => ?_, fun r hr e => ?_⟩
  · exact Nat.le_trans (wt_len 18 _) (Nat.le_trans (wt_all (S := S) C hg hL nL hM j hj) p)
  · have hj := (List.getElem?_eq_some_iff.mp hs).1
    have I := inv_all (S := S) C hg hL nL j (by omega)
    refine Nat.le_trans (wt_len 18 _) (Nat.le_trans (wt_after (S := S) C hg hs hM I.ok ?_ fun o ho => List.mem_of_mem_take ho) (Nat.le_trans (wt_all (S := S) C hg hL nL hM j (by omega)) p))
    rw [List.length_take]; exact Nat.le_trans (Nat.min_le_right _ _) (goods_two _ _)
  · have I := inv_all (S := S) C hg hL nL j hj
    have := rowOk_len (I.ok r hr) hg
    omega
  · have E := lFound_enum (S := S) C hg hL nL
    have pm := E.sound r.1 (List.mem_map.mpr ⟨r, hr, rfl⟩)
    have := pm.perm.length_eq
    rw [e] at this
    exact ne (List.eq_nil_of_length_eq_zero this.symm)
end Hf

/-! ## HfQ4 -/
set_option Elab.async false
set_option linter.all false
set_option maxRecDepth 100000
set_option maxHeartbeats 1000000
/-! The cells of a yard, told twice; the yard's floors. -/
namespace Hf
open L2 PySem PySem.Spec PyProof.Rows
open PySem.W (Datum DatumOrd Tup)
theorem put_keys (kds : List (Pt × PyData)) (c : Pt) (d : PyData) : (putP kds c d).map (·.1) = if c ∈ kds.map (·.1) then kds.map (·.1) else kds.map (·.1) ++ [c] := by
  unfold putP
  have e : (kds.any fun p => decide (p.1 = c)) = true ↔ c ∈ kds.map (·.1) := by
    rw [List.any_eq_true, List.mem_map]
    constructor
    · rintro ⟨p, hp, h⟩; exact ⟨p, hp, of_decide_eq_true h⟩
    · rintro ⟨p, hp, h⟩; exact ⟨p, hp, decide_eq_true h⟩
  by_cases h : (kds.any fun p => decide (p.1 = c)) = true
  · rw [if_pos h, if_pos (e.mp h), List.map_map]
    refine List.map_congr_left fun p _ => ?_
    show (if p.1 = c then (p.1, d) else p).1 = p.1
    split <;> rfl
  · rw [if_neg h, if_neg fun z => h (e.mpr z), List.map_append]
    rfl
theorem putAll_keys : ∀ (cs : List Pt) (kds : List (Pt × PyData)), (kds.map (·.1)).Nodup → ((putAll kds cs).map (·.1)).Nodup ∧ ∀ x, x ∈ (putAll kds cs).map (·.1) ↔ x ∈ kds.map (·.1) ∨ x ∈ cs
  | [], kds, h => ⟨h, fun x => ⟨.inl, fun z => z.resolve_right fun z => nomatch z⟩⟩
  | c :: cs, kds, h => by
    have k := put_keys kds c (.bool true)
    have nd : ((putP kds c (.bool true)).map (·.1)).Nodup := by
      rw [k]
      split
      · exact h
      · rename_i n
        exact List.nodup_append.mpr ⟨h, List.nodup_cons.mpr ⟨fun z => (nomatch z), List.nodup_nil⟩, fun a ha b hb e => n (by rw [← List.mem_singleton.mp hb, ← e]; exact ha)⟩
    obtain ⟨h1, h2⟩ := putAll_keys cs (putP kds c (.bool true)) nd
    refine ⟨h1, fun x => ?_⟩
    show x ∈ (putAll (putP kds c (.bool true)) cs).map (·.1) ↔ _
    rw [h2 x, k, List.mem_cons]
    split
    · rename_i m
      constructor
      · rintro (z | z)
        · exact .inl z
        · exact .inr (.inr z)
      · rintro (z | z | z)
        · exact .inl z
        · exact .inl (z ▸ m)
        · exact .inr z
    · rw [List.mem_append, List.mem_singleton, or_assoc]
theorem keysU_mem {cs : List Pt} {x : Pt} : x ∈ keysU cs ↔ x ∈ cs := by
  unfold keysU
  rw [(List.mergeSort_perm _ _).mem_iff, (putAll_keys cs [] List.nodup_nil).2 x]
  exact ⟨fun z => z.resolve_left fun z => (nomatch z), .inr⟩
theorem keysU_nd (cs : List Pt) : (keysU cs).Nodup := sort_nodup (putAll_keys cs [] List.nodup_nil).1
theorem keysU_same {cs ds : List Pt} (h : ∀ x, x ∈ cs ↔ x ∈ ds) : keysU cs = keysU ds := by
  unfold keysU
  refine sort_sameMem (putAll_keys cs [] List.nodup_nil).1 (putAll_keys ds [] List.nodup_nil).1 fun x => ?_
  rw [(putAll_keys cs [] List.nodup_nil).2 x, (putAll_keys ds [] List.nodup_nil).2 x, h x]
theorem keysU_eq {cs ds : List Pt} (n : ds.Nodup) (h : ∀ x, x ∈ cs ↔ x ∈ ds) : keysU cs = ds.mergeSort leT := by
  unfold keysU
  refine sort_sameMem (putAll_keys cs [] List.nodup_nil).1 n fun x => ?_
  rw [(putAll_keys cs [] List.nodup_nil).2 x, ← h x]
  exact ⟨fun z => z.resolve_left fun z => (nomatch z), .inr⟩
/-! ### cells -/
theorem nine_mem {q c : Pt} : c ∈ nine q ↔ (2 * q.1 ≤ c.1 ∧ c.1 ≤ 2 * q.1 + 2) ∧ (2 * q.2 ≤ c.2 ∧ c.2 ≤ 2 * q.2 + 2) := by
  have up : ∀ i : Int, i ∈ upto 3 ↔ 0 ≤ i ∧ i ≤ 2 := fun i => by
    show i ∈ [((0 : Nat) : Int), ((1 : Nat) : Int), ((2 : Nat) : Int)] ↔ _
    simp only [List.mem_cons, List.not_mem_nil, or_false]
    omega
  unfold nine three
  simp only [List.mem_flatMap, List.mem_map, up, Prod.ext_iff]
  constructor
  · rintro ⟨i, hi, j, hj, e1, e2⟩; omega
  · intro h; exact ⟨c.1 - 2 * q.1, by omega, c.2 - 2 * q.2, by omega, by omega, by omega⟩
theorem squares_mem {q c : Pt} : q ∈ squaresL c ↔ (2 * q.1 ≤ c.1 ∧ c.1 ≤ 2 * q.1 + 2) ∧ (2 * q.2 ≤ c.2 ∧ c.2 ≤ 2 * q.2 + 2) := by
  have hf : ∀ i x : Int, x ∈ half i ↔ 2 * x ≤ i ∧ i ≤ 2 * x + 2 := fun i x => by
    unfold half
    split
    · simp only [List.mem_cons, List.not_mem_nil, or_false]; omega
    · simp only [List.mem_cons, List.not_mem_nil, or_false]; omega
  unfold squaresL
  simp only [List.mem_flatMap, List.mem_map, hf, Prod.ext_iff]
  constructor
  · rintro ⟨i, hi, j, hj, e1, e2⟩; omega
  · intro h; exact ⟨q.1, by omega, q.2, by omega, rfl, rfl⟩
theorem cell_mem {S : List Pt} {c : Pt} : isCell S c = true ↔ c ∈ lcellsL S := by
  unfold isCell lcellsL
  rw [keysU_mem, List.any_eq_true, List.mem_flatMap]
  constructor
  · rintro ⟨q, h1, h2⟩; exact ⟨q, of_decide_eq_true h2, nine_mem.mpr (squares_mem.mp h1)⟩
  · rintro ⟨q, h1, h2⟩; exact ⟨q, squares_mem.mpr (nine_mem.mp h2), decide_eq_true h1⟩
theorem posts_mem {q c : Pt} : c ∈ postsOf q ↔ (c.1 = 2 * q.1 ∨ c.1 = 2 * q.1 + 2) ∧ (c.2 = 2 * q.2 ∨ c.2 = 2 * q.2 + 2) := by
  unfold postsOf post2
  simp only [List.mem_flatMap, List.mem_cons, List.not_mem_nil, or_false, Prod.ext_iff]
  constructor
  · rintro ⟨i, hi, h⟩; omega
  · intro h; exact ⟨c.1 - 2 * q.1, by omega, by omega⟩
theorem rails_mem {q c : Pt} : c ∈ railsOf q ↔ ((c.1 = 2 * q.1 ∨ c.1 = 2 * q.1 + 2) ∧ c.2 = 2 * q.2 + 1) ∨ (c.1 = 2 * q.1 + 1 ∧ (c.2 = 2 * q.2 ∨ c.2 = 2 * q.2 + 2)) := by
  unfold railsOf rail2
  simp only [List.mem_flatMap, List.mem_cons, List.not_mem_nil, or_false, Prod.ext_iff]
  constructor
  · rintro ⟨i, hi, h⟩; omega
  · rintro (h | h)
    · exact ⟨c.1 - 2 * q.1, by omega, by omega⟩
    · exact ⟨c.2 - 2 * q.2, by omega, by omega⟩
theorem cells_eq {S : List Pt} (hn : S.Nodup) : lcellsL S = cellsL S := by
  have pm : ∀ x, x ∈ postsL S ↔ ∃ q ∈ S, x ∈ postsOf q := fun x => by unfold postsL; rw [keysU_mem, List.mem_flatMap]
  have rm : ∀ x, x ∈ railsL S ↔ ∃ q ∈ S, x ∈ railsOf q := fun x => by unfold railsL; rw [keysU_mem, List.mem_flatMap]
  have qm : ∀ x, x ∈ plotsL S ↔ ∃ q ∈ S, x = plotOf q := fun x => by
    unfold plotsL
    rw [(List.mergeSort_perm _ _).mem_iff, List.mem_map]
    exact ⟨fun ⟨q, h, e⟩ => ⟨q, h, e.symm⟩, fun ⟨q, h, e⟩ => ⟨q, h, e.symm⟩⟩
  unfold lcellsL cellsL
  refine keysU_eq ?_ fun x => ?_
  · refine List.nodup_append.mpr ⟨List.nodup_append.mpr ⟨keysU_nd _, keysU_nd _, fun a ha b hb e => ?_⟩, sort_nodup (plots_nd hn), fun a ha b hb e => ?_⟩
    · obtain ⟨q, _, h1⟩ := (pm a).mp ha
      obtain ⟨q2, _, h2⟩ := (rm b).mp hb
      subst e
      have h1 := posts_mem.mp h1
      have h2 := rails_mem.mp h2
      omega
    · obtain ⟨q2, _, h2⟩ := (qm b).mp hb
      subst e
      have e1 : a.1 = 2 * q2.1 + 1 := by rw [h2]; rfl
      have e2 : a.2 = 2 * q2.2 + 1 := by rw [h2]; rfl
      rcases List.mem_append.mp ha with ha | ha
      · obtain ⟨q, _, h1⟩ := (pm a).mp ha
        have h1 := posts_mem.mp h1
        omega
      · obtain ⟨q, _, h1⟩ := (rm a).mp ha
        have h1 := rails_mem.mp h1
        omega
  · rw [List.mem_flatMap, List.mem_append, List.mem_append, pm, rm, qm]
    constructor
    · rintro ⟨q, hq, h⟩
      have h := nine_mem.mp h
      by_cases a1 : x.1 = 2 * q.1 + 1
      · by_cases a2 : x.2 = 2 * q.2 + 1
        · exact .inr ⟨q, hq, Prod.ext a1 a2⟩
        · exact .inl (.inr ⟨q, hq, rails_mem.mpr (by omega)⟩)
      · by_cases a2 : x.2 = 2 * q.2 + 1
        · exact .inl (.inr ⟨q, hq, rails_mem.mpr (by omega)⟩)
        · exact .inl (.inl ⟨q, hq, posts_mem.mpr (by omega)⟩)
    · rintro ((⟨q, hq, h⟩ | ⟨q, hq, h⟩) | ⟨q, hq, h⟩)
      · have h := posts_mem.mp h; exact ⟨q, hq, nine_mem.mpr (by omega)⟩
      · have h := rails_mem.mp h; exact ⟨q, hq, nine_mem.mpr (by omega)⟩
      · have e1 : x.1 = 2 * q.1 + 1 := by rw [h]; rfl
        have e2 : x.2 = 2 * q.2 + 1 := by rw [h]; rfl
        exact ⟨q, hq, nine_mem.mpr (by omega)⟩
theorem lt_leT {a b : Pt} (h : ltP a b) : leT b a = false := by
  show (!(if a.1 = b.1 then decide (a.2 < b.2) else decide (a.1 < b.1))) = false
  unfold ltP at h
  split
  · rw [decide_eq_true (by omega)]; rfl
  · rw [decide_eq_true (by omega)]; rfl
theorem cells_ok (S : List Pt) : Cells (lcellsL S) := by
  refine ⟨keysU_nd _, fun i j a b hi hj h => ?_⟩
  have pw : (lcellsL S).Pairwise fun a b => leT a b = true := PySem.W.sort_pairwise leT_total _
  rcases Nat.lt_trichotomy i j with e | e | e
  · exact e
  · subst e; rw [hi] at hj; cases hj; exact (ltP_irr h).elim
  · obtain ⟨h1, e1⟩ := List.getElem?_eq_some_iff.mp hi
    obtain ⟨h2, e2⟩ := List.getElem?_eq_some_iff.mp hj
    have := List.pairwise_iff_getElem.mp pw j i h2 h1 e
    rw [e1, e2, lt_leT h] at this
    cases this
theorem gap_mem {S : List Pt} (hn : S.Nodup) (h : Pt) (x : Pt) : x ∈ gapL S h ↔ x ∈ lcellsL S ∧ x ≠ h := by
  unfold gapL
  rw [List.mem_filter, ← cells_eq hn, decide_eq_true_eq]
theorem place_kind {c : Pt} (h : placeB c = true) : kindS c ≠ "rail" := by
  have h := of_decide_eq_true h
  unfold kindS
  split
  · decide
  · split
    · omega
    · decide
theorem lcells_mem {S : List Pt} {c : Pt} : c ∈ lcellsL S ↔ ∃ q ∈ S, c ∈ nine q := by unfold lcellsL; rw [keysU_mem, List.mem_flatMap]
theorem gap_ne {S : List Pt} (hn : S.Nodup) (ne : S ≠ []) (h : Pt) : gapL S h ≠ [] := by
  obtain ⟨q, hq⟩ := List.exists_mem_of_ne_nil S ne
  have c1 : ((2 * q.1, 2 * q.2) : Pt) ∈ lcellsL S := lcells_mem.mpr ⟨q, hq, nine_mem.mpr (by show (2 * q.1 ≤ 2 * q.1 ∧ 2 * q.1 ≤ 2 * q.1 + 2) ∧ (2 * q.2 ≤ 2 * q.2 ∧ 2 * q.2 ≤ 2 * q.2 + 2); omega)⟩
  have c2 : ((2 * q.1 + 1, 2 * q.2) : Pt) ∈ lcellsL S := lcells_mem.mpr ⟨q, hq, nine_mem.mpr (by show (2 * q.1 ≤ 2 * q.1 + 1 ∧ 2 * q.1 + 1 ≤ 2 * q.1 + 2) ∧ (2 * q.2 ≤ 2 * q.2 ∧ 2 * q.2 ≤ 2 * q.2 + 2); omega)⟩
  by_cases e : ((2 * q.1, 2 * q.2) : Pt) = h
  · refine List.ne_nil_of_mem ((gap_mem hn h _).mpr ⟨c2, fun z => ?_⟩)
    have := congrArg Prod.fst (e.trans z.symm)
    have : 2 * q.1 = 2 * q.1 + 1 := this
    omega
  · exact List.ne_nil_of_mem ((gap_mem hn h _).mpr ⟨c1, e⟩)
theorem places_ne {S : List Pt} (ne : S ≠ []) : lplaces S ≠ [] := by
  obtain ⟨q, hq⟩ := List.exists_mem_of_ne_nil S ne
  have c1 : ((2 * q.1, 2 * q.2) : Pt) ∈ lcellsL S := lcells_mem.mpr ⟨q, hq, nine_mem.mpr (by show (2 * q.1 ≤ 2 * q.1 ∧ 2 * q.1 ≤ 2 * q.1 + 2) ∧ (2 * q.2 ≤ 2 * q.2 ∧ 2 * q.2 ≤ 2 * q.2 + 2); omega)⟩
  exact List.ne_nil_of_mem (List.mem_filter.mpr ⟨c1, decide_eq_true (show (2 * q.1 + 2 * q.2) % 2 = 0 by omega)⟩)
theorem places_mem {S : List Pt} {h : Pt} (hp : h ∈ lplaces S) : h ∈ lcellsL S ∧ placeB h = true := List.mem_filter.mp hp
/-! ### what is looked at, yard by yard -/
structure YF (S : List Pt) : Prop where
  yd : Yd S
  l4 : S.length ≤ 4
  cl : (cellsL S).length ≤ 27
  told : ∀ h ∈ lplaces S, toldOk S h = true ∧ manyM S h ≤ 2000
theorem hok_of {S : List Pt} (y : Yd S) {h : Pt} (hp : h ∈ lplaces S) : HOk S h :=
  ⟨y, Nat.le_trans y.len (by decide), cell_mem.mpr (places_mem hp).1, place_kind (places_mem hp).2⟩
theorem enum_h {S : List Pt} (hn : S.Nodup) {h : Pt} (hc : h ∈ lcellsL S) : Enum S (gapL S h) (rowsAll S h) ∧ Enum S (gapL S h) ((lFound (lcellsL S) h (lcellsL S).zipIdx).map (·.1)) := by
  have C := cells_ok S
  have gn : (gapL S h).Nodup := by
    unfold gapL
    rw [← cells_eq hn]
    exact List.Nodup.sublist List.filter_sublist C.nd
  exact ⟨enum_prog gn fun c h2 => cell_mem.mpr ((gap_mem hn h c).mp h2).1, lFound_enum C hc (gap_mem hn h) gn⟩
theorem floors_len {S : List Pt} (hn : S.Nodup) {h : Pt} (hc : h ∈ lcellsL S) : (floorsM S h).length = (lFound (lcellsL S) h (lcellsL S).zipIdx).length := by
  obtain ⟨e1, e2⟩ := enum_h hn hc
  unfold floorsM
  rw [List.length_mergeSort, List.length_map, enum_len e1 e2, List.length_map]
theorem goodH_of {S : List Pt} (y : YF S) {h : Pt} (hp : h ∈ lplaces S) : GoodH S h := by
  have hn := y.yd.nd
  have hc := (places_mem hp).1
  obtain ⟨e1, e2⟩ := enum_h hn hc
  have C := cells_ok S
  have gn : (gapL S h).Nodup := by
    unfold gapL
    rw [← cells_eq hn]
    exact List.Nodup.sublist List.filter_sublist C.nd
  have cl : (lcellsL S).length ≤ 27 := by rw [cells_eq hn]; exact y.cl
  have gm := gap_mem hn h
  have few : (lFound (lcellsL S) h (lcellsL S).zipIdx).length ≤ 2 ^ 13 := by
    have := wt_all (S := S) C hc gm gn (M := 13) (by omega) (lcellsL S).length (Nat.le_refl _)
    rw [List.take_of_length_le (by rw [List.length_zipIdx]; exact Nat.le_refl _)] at this
    exact Nat.le_trans (wt_len 13 _) this
  have p13 : (2 : Nat) ^ 13 = 8192 := by decide
  have fl := floors_len hn hc
  obtain ⟨t1, t2⟩ := y.told h hp
  have l20 : S.length ≤ 20 := Nat.le_trans y.l4 (by decide)
  refine ⟨hok_of y.yd hp, ⟨hn, l20, t1, t2, by rw [← cells_eq hn]; exact C.nd, Nat.le_trans y.cl (by decide), gap_ne hn y.yd.ne h, ?_⟩, lf_ok C hc gm gn (gap_ne hn y.yd.ne h) (Nat.le_trans cl (by decide)) (Nat.le_trans y.l4 (by decide)), ?_, ?_, fun x hx => ?_⟩
  · have := enum_len e1 e2
    rw [List.length_map] at this
    omega
  · have := enum_sort e1 e2
    unfold floorsM lfloorsL
    rw [this, List.map_map]
    rfl
  · omega
  · unfold floorsM at hx
    rw [(List.mergeSort_perm _ _).mem_iff] at hx
    obtain ⟨r, hr, rfl⟩ := List.mem_map.mp hx
    have pm := (e1.sound r hr).perm.length_eq
    rw [used_len] at pm
    have g : (gapL S h).length ≤ (cellsL S).length := List.length_filter_le _ _
    have c := y.cl
    show (r.mergeSort leT).length ≤ _
    rw [List.length_mergeSort]
    omega
theorem goodY_of {S : List Pt} (y : YF S) : GoodY S := ⟨Nat.le_trans y.l4 (by decide), places_ne y.yd.ne, fun h hp => goodH_of y hp⟩
end Hf

/-! ## HfQ5 -/
set_option Elab.async false
set_option linter.all false
set_option maxRecDepth 100000
set_option maxHeartbeats 1000000
/-! What is looked at, in a form that can be worked out. -/
namespace Hf
open L2 PySem PySem.Spec PyProof.Rows
open PySem.W (Datum DatumOrd Tup)
section
variable {α : Type} [DecidableEq α] [DatumOrd α]
def ins (x : α) : List α → List α
  | [] => [x]
  | y :: ys => if leT x y = true then x :: y :: ys else y :: ins x ys
def isort : List α → List α
  | [] => []
  | x :: xs => ins x (isort xs)
theorem ins_perm (x : α) : ∀ ys : List α, (ins x ys).Perm (x :: ys)
  | [] => .refl _
  | y :: ys => by
    unfold ins
    split
    · exact .refl _
    · exact ((ins_perm x ys).cons y).trans (.swap _ _ _)
theorem isort_perm : ∀ xs : List α, (isort xs).Perm xs
  | [] => .refl _
  | x :: xs => (ins_perm x _).trans ((isort_perm xs).cons x)
theorem ins_sorted (x : α) : ∀ {ys : List α}, ys.Pairwise (fun a b => leT a b = true) → (ins x ys).Pairwise (fun a b => leT a b = true)
  | [], _ => List.pairwise_singleton _ _
  | y :: ys, h => by
    obtain ⟨h1, h2⟩ := List.pairwise_cons.mp h
    unfold ins
    split
    · rename_i z
      exact List.pairwise_cons.mpr ⟨fun a ha => by
        rcases List.mem_cons.mp ha with e | ha
        · rw [e]; exact z
        · exact leT_total.trans _ _ _ z (h1 a ha), h⟩
    · rename_i z
      have z2 := (leT_total.total x y).resolve_left z
      exact List.pairwise_cons.mpr ⟨fun a ha => by
        rcases List.mem_cons.mp ((ins_perm x ys).mem_iff.mp ha) with e | ha
        · rw [e]; exact z2
        · exact h1 a ha, ins_sorted x h2⟩
theorem isort_sorted : ∀ xs : List α, (isort xs).Pairwise (fun a b => leT a b = true)
  | [] => .nil
  | x :: xs => ins_sorted x (isort_sorted xs)
theorem sort_isort [Ord1 α] (xs : List α) : xs.mergeSort leT = isort xs :=
  sorted_same ((List.mergeSort_perm xs _).trans (isort_perm xs).symm) (PySem.W.sort_pairwise leT_total xs) (isort_sorted xs)
end
def keysK (cs : List Pt) : List Pt := (putAll [] cs).map (·.1)
theorem keysK_len (cs : List Pt) : (keysU cs).length = (keysK cs).length := by unfold keysU keysK; rw [List.length_mergeSort]
/-! ### the number of floors -/
theorem sign_same {l1 l2 : List Pt} (h : ∀ r, r ∈ l1 ↔ r ∈ l2) (r : Pt) : signOf l1 r = signOf l2 r := by
  unfold signOf
  by_cases z : r ∈ l1
  · rw [if_pos z, if_pos ((h r).mp z)]
  · rw [if_neg z, if_neg fun w => z ((h r).mpr w)]
theorem tab_same {l1 l2 : List Pt} (h : ∀ r, r ∈ l1 ↔ r ∈ l2) (S ps qs : List Pt) : tabF S ps l1 qs = tabF S ps l2 qs := by
  have e1 : ∀ p i, railStep ps l1 p i = railStep ps l2 p i := fun p i => by
    funext r x
    unfold railStep
    rw [sign_same h]
  have e2 : tabStep S ps l1 = tabStep S ps l2 := by
    funext rs p
    unfold tabStep rowFold
    split
    · rw [e1]
    · rfl
  unfold tabF
  rw [e2]
def lineK (S : List Pt) (h : Pt) : List Pt := (S.flatMap railsOf).filter fun r => decide (r.2 = lowOf h) && (decide (r.1 % 2 = 1) && decide (h.1 < r.1))
def plotK (S : List Pt) (h : Pt) : List Pt := (isort (S.map plotOf)).filter fun p => decide (p ≠ h)
def tableK (S : List Pt) (h : Pt) : List (List Int) := tabF S (plotK S h) (lineK S h) (plotK S h)
theorem plotK_eq (S : List Pt) (h : Pt) : placesL S h = plotK S h := by unfold placesL plotK plotsL; rw [sort_isort]
theorem tableK_eq (S : List Pt) (h : Pt) : tableM S h = tableK S h := by
  unfold tableM tableK
  rw [plotK_eq]
  refine tab_same (fun r => ?_) S _ _
  unfold lineL lineK railsL
  rw [List.mem_filter, List.mem_filter, keysU_mem]
def manyK (S : List Pt) (h : Pt) : Int := if kindS h = "post" then detM (plotK S h).length (tableK S h) else 2 * detM (plotK S h).length (tableK S h)
def toldK (S : List Pt) (h : Pt) : Bool := detOk (plotK S h).length (tableK S h)
theorem told_eq (S : List Pt) (h : Pt) : toldOk S h = toldK S h := by unfold toldOk toldK; rw [plotK_eq, tableK_eq]
theorem many_eq (S : List Pt) (h : Pt) : manyM S h = manyK S h := by unfold manyM manyK toldM; rw [plotK_eq, tableK_eq]
/-! ### a yard -/
def ydK (S : List Pt) : Bool := decide (S ≠ []) && (decide (S.length ≤ 20) && (decide S.Nodup && (S.all sqB && (ascB S && ((List.range 8).any (fun n => hangs S n && decide ((hangN S n).1.length = S.length)) && decide (((keysK (S.flatMap postsOf)).length : Int) + S.length - (keysK (S.flatMap railsOf)).length = 1))))))
theorem yd_of {S : List Pt} (h : ydK S = true) : Yd S := by
  unfold ydK at h
  simp only [Bool.and_eq_true, decide_eq_true_eq, List.any_eq_true, List.mem_range] at h
  obtain ⟨h1, h2, h3, h4, h5, ⟨n, n1, n2, n3⟩, h6⟩ := h
  refine ⟨h1, h2, h3, h4, h5, ⟨n, by omega, n2, n3⟩, ?_⟩
  unfold surplusS postsL railsL plotsL
  rw [keysK_len, keysK_len, List.length_mergeSort, List.length_map]
  exact h6
def tellK (S : List Pt) (h : Pt) : Bool := toldK S h && decide (manyK S h ≤ 2000)
def yfK (S : List Pt) : Bool := ydK S && (decide (S.length ≤ 4) && (decide ((keysK (S.flatMap postsOf)).length ≤ 10) && ((keysK (S.flatMap postsOf)).all (tellK S) && (S.map plotOf).all (tellK S))))
theorem yf_of {S : List Pt} (h : yfK S = true) : YF S := by
  unfold yfK at h
  simp only [Bool.and_eq_true, decide_eq_true_eq] at h
  obtain ⟨h1, h2, h3, h4, h5⟩ := h
  have y := yd_of h1
  have sur := y.sur
  refine ⟨y, h2, ?_, fun c hc => ?_⟩
  · unfold surplusS plotsL at sur
    unfold cellsL
    have e : (postsL S).length = (keysK (S.flatMap postsOf)).length := keysK_len _
    rw [List.length_mergeSort, List.length_map] at sur
    rw [List.length_mergeSort, List.length_append, List.length_append]
    unfold plotsL
    rw [List.length_mergeSort, List.length_map]
    omega
  · have tl : tellK S c = true := by
      obtain ⟨m1, m2⟩ := places_mem hc
      rw [cells_eq y.nd] at m1
      unfold cellsL at m1
      rw [(List.mergeSort_perm _ _).mem_iff, List.mem_append, List.mem_append] at m1
      rcases m1 with (m | m) | m
      · unfold postsL keysU at m
        rw [(List.mergeSort_perm _ _).mem_iff] at m
        exact List.all_eq_true.mp h4 c m
      · unfold railsL at m
        rw [keysU_mem] at m
        obtain ⟨q, _, hq⟩ := List.mem_flatMap.mp m
        have hq := rails_mem.mp hq
        have m2 := of_decide_eq_true m2
        omega
      · unfold plotsL at m
        rw [(List.mergeSort_perm _ _).mem_iff] at m
        exact List.all_eq_true.mp h5 c m
    unfold tellK at tl
    simp only [Bool.and_eq_true, decide_eq_true_eq] at tl
    rw [told_eq, many_eq]
    exact tl
end Hf

/-! ## HfQ6 -/
set_option Elab.async false
set_option linter.all false
set_option maxRecDepth 100000
set_option maxHeartbeats 4000000
/-! The yards that may be drawn (printed by q6.py). -/
namespace Hf
open L2 PySem PySem.Spec PyProof.Rows
open PySem.W (Datum DatumOrd Tup)
def ys0 : List (List Pt) := [
  [(0, 0)], [(0, 1)], [(0, 2)], [(1, 0)],
  [(1, 1)], [(1, 2)], [(2, 0)], [(2, 1)],
  [(2, 2)]]
def ys1 : List (List Pt) := [
  [(0, 0), (0, 1)], [(0, 0), (1, 0)], [(0, 1), (0, 2)], [(0, 1), (1, 1)],
  [(0, 2), (0, 3)], [(0, 2), (1, 2)], [(1, 0), (1, 1)], [(1, 0), (2, 0)],
  [(1, 1), (1, 2)], [(1, 1), (2, 1)], [(1, 2), (1, 3)], [(1, 2), (2, 2)],
  [(2, 0), (2, 1)], [(2, 0), (3, 0)], [(2, 1), (2, 2)], [(2, 1), (3, 1)],
  [(2, 2), (2, 3)], [(2, 2), (3, 2)]]
def ys2 : List (List Pt) := [
  [(0, 0), (0, 1), (0, 2)], [(0, 0), (0, 1), (1, 0)], [(0, 0), (0, 1), (1, 1)], [(0, 0), (1, 0), (1, 1)],
  [(0, 0), (1, 0), (2, 0)], [(0, 1), (0, 2), (0, 3)], [(0, 1), (0, 2), (1, 1)], [(0, 1), (0, 2), (1, 2)],
  [(0, 1), (1, 0), (1, 1)], [(0, 1), (1, 1), (1, 2)], [(0, 1), (1, 1), (2, 1)], [(0, 2), (0, 3), (0, 4)],
  [(0, 2), (0, 3), (1, 2)], [(0, 2), (0, 3), (1, 3)], [(0, 2), (1, 1), (1, 2)], [(0, 2), (1, 2), (1, 3)],
  [(0, 2), (1, 2), (2, 2)], [(0, 3), (1, 2), (1, 3)], [(1, 0), (1, 1), (1, 2)], [(1, 0), (1, 1), (2, 0)],
  [(1, 0), (1, 1), (2, 1)], [(1, 0), (2, 0), (2, 1)], [(1, 0), (2, 0), (3, 0)], [(1, 1), (1, 2), (1, 3)],
  [(1, 1), (1, 2), (2, 1)], [(1, 1), (1, 2), (2, 2)], [(1, 1), (2, 0), (2, 1)], [(1, 1), (2, 1), (2, 2)],
  [(1, 1), (2, 1), (3, 1)], [(1, 2), (1, 3), (1, 4)], [(1, 2), (1, 3), (2, 2)], [(1, 2), (1, 3), (2, 3)],
  [(1, 2), (2, 1), (2, 2)], [(1, 2), (2, 2), (2, 3)], [(1, 2), (2, 2), (3, 2)], [(1, 3), (2, 2), (2, 3)],
  [(2, 0), (2, 1), (2, 2)], [(2, 0), (2, 1), (3, 0)], [(2, 0), (2, 1), (3, 1)], [(2, 0), (3, 0), (3, 1)],
  [(2, 0), (3, 0), (4, 0)], [(2, 1), (2, 2), (2, 3)], [(2, 1), (2, 2), (3, 1)], [(2, 1), (2, 2), (3, 2)],
  [(2, 1), (3, 0), (3, 1)], [(2, 1), (3, 1), (3, 2)], [(2, 1), (3, 1), (4, 1)], [(2, 2), (2, 3), (2, 4)],
  [(2, 2), (2, 3), (3, 2)], [(2, 2), (2, 3), (3, 3)], [(2, 2), (3, 1), (3, 2)], [(2, 2), (3, 2), (3, 3)],
  [(2, 2), (3, 2), (4, 2)]]
def ys3 : List (List Pt) := [
  [(0, 0), (0, 1), (0, 2), (0, 3)], [(0, 0), (0, 1), (0, 2), (1, 0)], [(0, 0), (0, 1), (0, 2), (1, 1)], [(0, 0), (0, 1), (0, 2), (1, 2)],
  [(0, 0), (0, 1), (1, 0), (1, 1)], [(0, 0), (0, 1), (1, 0), (2, 0)], [(0, 0), (0, 1), (1, 1), (1, 2)], [(0, 0), (0, 1), (1, 1), (2, 1)],
  [(0, 0), (1, 0), (1, 1), (1, 2)], [(0, 0), (1, 0), (1, 1), (2, 0)], [(0, 0), (1, 0), (1, 1), (2, 1)], [(0, 0), (1, 0), (2, 0), (2, 1)],
  [(0, 0), (1, 0), (2, 0), (3, 0)], [(0, 1), (0, 2), (0, 3), (0, 4)], [(0, 1), (0, 2), (0, 3), (1, 1)], [(0, 1), (0, 2), (0, 3), (1, 2)],
  [(0, 1), (0, 2), (0, 3), (1, 3)], [(0, 1), (0, 2), (1, 0), (1, 1)], [(0, 1), (0, 2), (1, 1), (1, 2)], [(0, 1), (0, 2), (1, 1), (2, 1)],
  [(0, 1), (0, 2), (1, 2), (1, 3)], [(0, 1), (0, 2), (1, 2), (2, 2)], [(0, 1), (1, 0), (1, 1), (1, 2)], [(0, 1), (1, 0), (1, 1), (2, 0)],
  [(0, 1), (1, 0), (1, 1), (2, 1)], [(0, 1), (1, 1), (1, 2), (1, 3)], [(0, 1), (1, 1), (1, 2), (2, 1)], [(0, 1), (1, 1), (1, 2), (2, 2)],
  [(0, 1), (1, 1), (2, 0), (2, 1)], [(0, 1), (1, 1), (2, 1), (2, 2)], [(0, 1), (1, 1), (2, 1), (3, 1)], [(0, 2), (0, 3), (0, 4), (0, 5)],
  [(0, 2), (0, 3), (0, 4), (1, 2)], [(0, 2), (0, 3), (0, 4), (1, 3)], [(0, 2), (0, 3), (0, 4), (1, 4)], [(0, 2), (0, 3), (1, 1), (1, 2)],
  [(0, 2), (0, 3), (1, 2), (1, 3)], [(0, 2), (0, 3), (1, 2), (2, 2)], [(0, 2), (0, 3), (1, 3), (1, 4)], [(0, 2), (0, 3), (1, 3), (2, 3)],
  [(0, 2), (1, 0), (1, 1), (1, 2)], [(0, 2), (1, 1), (1, 2), (1, 3)], [(0, 2), (1, 1), (1, 2), (2, 1)], [(0, 2), (1, 1), (1, 2), (2, 2)],
  [(0, 2), (1, 2), (1, 3), (1, 4)], [(0, 2), (1, 2), (1, 3), (2, 2)], [(0, 2), (1, 2), (1, 3), (2, 3)], [(0, 2), (1, 2), (2, 1), (2, 2)],
  [(0, 2), (1, 2), (2, 2), (2, 3)], [(0, 2), (1, 2), (2, 2), (3, 2)], [(0, 3), (0, 4), (1, 2), (1, 3)], [(0, 3), (1, 1), (1, 2), (1, 3)],
  [(0, 3), (1, 2), (1, 3), (1, 4)], [(0, 3), (1, 2), (1, 3), (2, 2)], [(0, 3), (1, 2), (1, 3), (2, 3)], [(0, 3), (1, 3), (2, 2), (2, 3)],
  [(0, 4), (1, 2), (1, 3), (1, 4)], [(1, 0), (1, 1), (1, 2), (1, 3)], [(1, 0), (1, 1), (1, 2), (2, 0)], [(1, 0), (1, 1), (1, 2), (2, 1)],
  [(1, 0), (1, 1), (1, 2), (2, 2)], [(1, 0), (1, 1), (2, 0), (2, 1)], [(1, 0), (1, 1), (2, 0), (3, 0)], [(1, 0), (1, 1), (2, 1), (2, 2)],
  [(1, 0), (1, 1), (2, 1), (3, 1)], [(1, 0), (2, 0), (2, 1), (2, 2)], [(1, 0), (2, 0), (2, 1), (3, 0)], [(1, 0), (2, 0), (2, 1), (3, 1)],
  [(1, 0), (2, 0), (3, 0), (3, 1)], [(1, 0), (2, 0), (3, 0), (4, 0)], [(1, 1), (1, 2), (1, 3), (1, 4)], [(1, 1), (1, 2), (1, 3), (2, 1)],
  [(1, 1), (1, 2), (1, 3), (2, 2)], [(1, 1), (1, 2), (1, 3), (2, 3)], [(1, 1), (1, 2), (2, 0), (2, 1)], [(1, 1), (1, 2), (2, 1), (2, 2)],
  [(1, 1), (1, 2), (2, 1), (3, 1)], [(1, 1), (1, 2), (2, 2), (2, 3)], [(1, 1), (1, 2), (2, 2), (3, 2)], [(1, 1), (2, 0), (2, 1), (2, 2)],
  [(1, 1), (2, 0), (2, 1), (3, 0)], [(1, 1), (2, 0), (2, 1), (3, 1)], [(1, 1), (2, 1), (2, 2), (2, 3)], [(1, 1), (2, 1), (2, 2), (3, 1)],
  [(1, 1), (2, 1), (2, 2), (3, 2)], [(1, 1), (2, 1), (3, 0), (3, 1)], [(1, 1), (2, 1), (3, 1), (3, 2)], [(1, 1), (2, 1), (3, 1), (4, 1)],
  [(1, 2), (1, 3), (1, 4), (1, 5)], [(1, 2), (1, 3), (1, 4), (2, 2)], [(1, 2), (1, 3), (1, 4), (2, 3)], [(1, 2), (1, 3), (1, 4), (2, 4)],
  [(1, 2), (1, 3), (2, 1), (2, 2)], [(1, 2), (1, 3), (2, 2), (2, 3)], [(1, 2), (1, 3), (2, 2), (3, 2)], [(1, 2), (1, 3), (2, 3), (2, 4)],
  [(1, 2), (1, 3), (2, 3), (3, 3)], [(1, 2), (2, 0), (2, 1), (2, 2)], [(1, 2), (2, 1), (2, 2), (2, 3)], [(1, 2), (2, 1), (2, 2), (3, 1)],
  [(1, 2), (2, 1), (2, 2), (3, 2)], [(1, 2), (2, 2), (2, 3), (2, 4)], [(1, 2), (2, 2), (2, 3), (3, 2)], [(1, 2), (2, 2), (2, 3), (3, 3)],
  [(1, 2), (2, 2), (3, 1), (3, 2)], [(1, 2), (2, 2), (3, 2), (3, 3)], [(1, 2), (2, 2), (3, 2), (4, 2)], [(1, 3), (1, 4), (2, 2), (2, 3)],
  [(1, 3), (2, 1), (2, 2), (2, 3)], [(1, 3), (2, 2), (2, 3), (2, 4)], [(1, 3), (2, 2), (2, 3), (3, 2)], [(1, 3), (2, 2), (2, 3), (3, 3)],
  [(1, 4), (2, 2), (2, 3), (2, 4)], [(2, 0), (2, 1), (2, 2), (2, 3)], [(2, 0), (2, 1), (2, 2), (3, 0)], [(2, 0), (2, 1), (2, 2), (3, 1)],
  [(2, 0), (2, 1), (2, 2), (3, 2)], [(2, 0), (2, 1), (3, 0), (3, 1)], [(2, 0), (2, 1), (3, 0), (4, 0)], [(2, 0), (2, 1), (3, 1), (3, 2)],
  [(2, 0), (2, 1), (3, 1), (4, 1)], [(2, 0), (3, 0), (3, 1), (3, 2)], [(2, 0), (3, 0), (3, 1), (4, 0)], [(2, 0), (3, 0), (3, 1), (4, 1)],
  [(2, 0), (3, 0), (4, 0), (4, 1)], [(2, 0), (3, 0), (4, 0), (5, 0)], [(2, 1), (2, 2), (2, 3), (2, 4)], [(2, 1), (2, 2), (2, 3), (3, 1)],
  [(2, 1), (2, 2), (2, 3), (3, 2)], [(2, 1), (2, 2), (2, 3), (3, 3)], [(2, 1), (2, 2), (3, 0), (3, 1)], [(2, 1), (2, 2), (3, 1), (3, 2)],
  [(2, 1), (2, 2), (3, 1), (4, 1)], [(2, 1), (2, 2), (3, 2), (3, 3)], [(2, 1), (2, 2), (3, 2), (4, 2)], [(2, 1), (3, 0), (3, 1), (3, 2)],
  [(2, 1), (3, 0), (3, 1), (4, 0)], [(2, 1), (3, 0), (3, 1), (4, 1)], [(2, 1), (3, 1), (3, 2), (3, 3)], [(2, 1), (3, 1), (3, 2), (4, 1)],
  [(2, 1), (3, 1), (3, 2), (4, 2)], [(2, 1), (3, 1), (4, 0), (4, 1)], [(2, 1), (3, 1), (4, 1), (4, 2)], [(2, 1), (3, 1), (4, 1), (5, 1)],
  [(2, 2), (2, 3), (2, 4), (2, 5)], [(2, 2), (2, 3), (2, 4), (3, 2)], [(2, 2), (2, 3), (2, 4), (3, 3)], [(2, 2), (2, 3), (2, 4), (3, 4)],
  [(2, 2), (2, 3), (3, 1), (3, 2)], [(2, 2), (2, 3), (3, 2), (3, 3)], [(2, 2), (2, 3), (3, 2), (4, 2)], [(2, 2), (2, 3), (3, 3), (3, 4)],
  [(2, 2), (2, 3), (3, 3), (4, 3)], [(2, 2), (3, 0), (3, 1), (3, 2)], [(2, 2), (3, 1), (3, 2), (3, 3)], [(2, 2), (3, 1), (3, 2), (4, 1)],
  [(2, 2), (3, 1), (3, 2), (4, 2)], [(2, 2), (3, 2), (3, 3), (3, 4)], [(2, 2), (3, 2), (3, 3), (4, 2)], [(2, 2), (3, 2), (3, 3), (4, 3)],
  [(2, 2), (3, 2), (4, 1), (4, 2)], [(2, 2), (3, 2), (4, 2), (4, 3)], [(2, 2), (3, 2), (4, 2), (5, 2)]]
/-! ### how a yard grows -/
def growK (A B : List (List Pt)) : Bool := A.all fun S => decide (S.flatMap (nearOf S) ≠ []) && (S.flatMap (nearOf S)).all fun o => decide (ins o S ∈ B)
theorem near_same {fd S : List Pt} (p : fd.Perm S) (o : Pt) : o ∈ nearL fd ↔ o ∈ S.flatMap (nearOf S) := by
  unfold nearL
  rw [(List.mergeSort_perm _ _).mem_iff, List.mem_flatMap, List.mem_flatMap]
  have e : ∀ c, nearOf fd c = nearOf S c := fun c => by
    unfold nearOf
    congr 1
    funext o
    unfold okNear
    rw [decide_eq_decide.mpr (not_congr (p.mem_iff (a := o)))]
  constructor
  · rintro ⟨c, h1, h2⟩; exact ⟨c, p.mem_iff.mp h1, e c ▸ h2⟩
  · rintro ⟨c, h1, h2⟩; exact ⟨c, p.mem_iff.mpr h1, (e c).symm ▸ h2⟩
theorem grow_step {A B : List (List Pt)} (g : growK A B = true) {fd S : List Pt} (p : fd.Perm S) (hS : S ∈ A) : nearL fd ≠ [] ∧ ∀ o ∈ nearL fd, ∃ S' ∈ B, (fd ++ [o]).Perm S' := by
  have g := List.all_eq_true.mp g S hS
  simp only [Bool.and_eq_true, decide_eq_true_eq, List.all_eq_true] at g
  obtain ⟨g1, g2⟩ := g
  refine ⟨?_, fun o ho => ?_⟩
  · obtain ⟨o, ho⟩ := List.exists_mem_of_ne_nil _ g1
    exact List.ne_nil_of_mem ((near_same p o).mpr ho)
  · refine ⟨ins o S, g2 o ((near_same p o).mp ho), ?_⟩
    exact (List.perm_append_comm.trans (p.cons o)).trans (ins_perm o S).symm
def ysL : Nat → List (List Pt)
  | 0 => ys0
  | 1 => ys1
  | 2 => ys2
  | _ => ys3
theorem grow0 : growK ys0 ys1 = true := by decide +kernel
theorem grow1 : growK ys1 ys2 = true := by decide +kernel
theorem grow2 : growK ys2 ys3 = true := by decide +kernel
theorem grows {j : Nat} (h : j < 3) : growK (ysL j) (ysL (j + 1)) = true := by
  match j, h with
  | 0, _ => exact grow0
  | 1, _ => exact grow1
  | 2, _ => exact grow2
end Hf

/-! ## HfQ7 -/
set_option Elab.async false
set_option linter.all false
set_option maxRecDepth 100000
set_option maxHeartbeats 4000000
/-! Every yard that may be drawn is good. -/
namespace Hf
open L2 PySem PySem.Spec PyProof.Rows
open PySem.W (Datum DatumOrd Tup)
theorem all_split {α : Type} {p : α → Bool} (k : Nat) {l : List α} (h1 : (l.take k).all p = true) (h2 : (l.drop k).all p = true) : l.all p = true := by
  rw [← List.take_append_drop k l, List.all_append, h1, h2]
  rfl
theorem yf0 : ys0.all yfK = true := by decide +kernel
theorem yf1 : ys1.all yfK = true := by decide +kernel
theorem yf2_0 : (ys2.take 18).all yfK = true := by decide +kernel
theorem yf2_1 : ((ys2.drop 18).take 18).all yfK = true := by decide +kernel
theorem yf2_2 : ((ys2.drop 18).drop 18).all yfK = true := by decide +kernel
theorem yf2 : ys2.all yfK = true := all_split 18 yf2_0 (all_split 18 yf2_1 yf2_2)
theorem yf3_0 : (ys3.take 14).all yfK = true := by decide +kernel
theorem yf3_1 : ((ys3.drop 14).take 14).all yfK = true := by decide +kernel
theorem yf3_2 : ((ys3.drop 28).take 14).all yfK = true := by decide +kernel
theorem yf3_3 : ((ys3.drop 42).take 14).all yfK = true := by decide +kernel
theorem yf3_4 : ((ys3.drop 56).take 14).all yfK = true := by decide +kernel
theorem yf3_5 : ((ys3.drop 70).take 14).all yfK = true := by decide +kernel
theorem yf3_6 : ((ys3.drop 84).take 14).all yfK = true := by decide +kernel
theorem yf3_7 : ((ys3.drop 98).take 14).all yfK = true := by decide +kernel
theorem yf3_8 : ((ys3.drop 112).take 14).all yfK = true := by decide +kernel
theorem yf3_9 : ((ys3.drop 126).take 14).all yfK = true := by decide +kernel
theorem yf3_10 : ((ys3.drop 140).take 14).all yfK = true := by decide +kernel
theorem yf3_11 : (ys3.drop 154).all yfK = true := by decide +kernel
theorem all_next {α : Type} {p : α → Bool} (k m : Nat) {l : List α} (h1 : ((l.drop m).take k).all p = true) (h2 : (l.drop (m + k)).all p = true) : (l.drop m).all p = true := all_split k h1 (by rw [List.drop_drop]; exact h2)
theorem yf3 : ys3.all yfK = true := all_split 14 yf3_0 (all_next 14 14 yf3_1 (all_next 14 28 yf3_2 (all_next 14 42 yf3_3 (all_next 14 56 yf3_4 (all_next 14 70 yf3_5 (all_next 14 84 yf3_6 (all_next 14 98 yf3_7 (all_next 14 112 yf3_8 (all_next 14 126 yf3_9 (all_next 14 140 yf3_10 yf3_11))))))))))
theorem so0 : (ys0.all fun S => decide (isort S = S)) = true := by decide +kernel
theorem so1 : (ys1.all fun S => decide (isort S = S)) = true := by decide +kernel
theorem so2 : (ys2.all fun S => decide (isort S = S)) = true := by decide +kernel
theorem so3 : (ys3.all fun S => decide (isort S = S)) = true := by decide +kernel
theorem ys_yf : ∀ (j : Nat) {S : List Pt}, S ∈ ysL j → YF S
  | 0, S, h => yf_of (List.all_eq_true.mp yf0 S h)
  | 1, S, h => yf_of (List.all_eq_true.mp yf1 S h)
  | 2, S, h => yf_of (List.all_eq_true.mp yf2 S h)
  | _ + 3, S, h => yf_of (List.all_eq_true.mp yf3 S h)
theorem ys_so : ∀ (j : Nat) {S : List Pt}, S ∈ ysL j → S.mergeSort leT = S := fun j S h => by
  rw [sort_isort]
  match j, h with
  | 0, h => exact of_decide_eq_true (List.all_eq_true.mp so0 S h)
  | 1, h => exact of_decide_eq_true (List.all_eq_true.mp so1 S h)
  | 2, h => exact of_decide_eq_true (List.all_eq_true.mp so2 S h)
  | _ + 3, h => exact of_decide_eq_true (List.all_eq_true.mp so3 S h)
theorem beg_in (t : Tn) : (begV t).1 ∈ ysL 0 := by
  have h1 := drawV_lt t (b := 3) (by decide)
  have h2 := drawV_lt (drawT t 3) (b := 3) (by decide)
  show [(drawV t 3, drawV (drawT t 3) 3)] ∈ ys0
  generalize drawV t 3 = a at h1
  generalize drawV (drawT t 3) 3 = b at h2
  have c1 : a = 0 ∨ a = 1 ∨ a = 2 := by omega
  have c2 : b = 0 ∨ b = 1 ∨ b = 2 := by omega
  rcases c1 with e | e | e <;> rcases c2 with e2 | e2 | e2 <;> subst e <;> subst e2 <;> decide
theorem laps_in (t : Tn) : ∀ k, k ≤ 3 → ∃ j, j ≤ k ∧ ∃ S ∈ ysL j, (lapsV (begV t) k).1.Perm S
  | 0, _ => ⟨0, Nat.le_refl _, _, beg_in t, .refl _⟩
  | k + 1, hk => by
    obtain ⟨j, hj, S, hS, p⟩ := laps_in t k (by omega)
    obtain ⟨g1, g2⟩ := grow_step (grows (show j < 3 by omega)) p hS
    show ∃ j', j' ≤ k + 1 ∧ ∃ S ∈ ysL j', (lapV (lapsV (begV t) k)).1.Perm S
    generalize lapsV (begV t) k = st at p g1 g2
    unfold lapV
    by_cases w : wholeB (st.1 ++ [pickV st.2 (nearL st.1)]) = true
    · obtain ⟨S', hS', p'⟩ := g2 _ (pick_mem st.2 g1)
      exact ⟨j + 1, by omega, S', hS', by show (if _ then _ else _ : List Pt).Perm S'; rw [if_pos w]; exact p'⟩
    · exact ⟨j, by omega, S, hS, by show (if _ then _ else _ : List Pt).Perm S; rw [if_neg w]; exact p⟩
theorem longV_most (t : Tn) {most : Int} (h : most = 3 ∨ most = 4) : longV t most ≤ most := by
  unfold longV
  split
  · have := drawV_lt (drawT t 8) (b := most) (by omega); omega
  · have e : (if most - 1 > 1 then most - 1 else 1) = most - 1 := if_pos (by omega)
    rw [e]
    have := drawV_lt (drawT t 8) (b := most - 1) (by omega)
    omega
theorem yardsOk : YardsOk := fun t most tb hm => by
  have lm := longV_most t hm
  have lk : (longV t most - 1).toNat ≤ 3 := by omega
  refine ⟨⟨by omega, by omega, tb, fun j hj => ?_⟩, ?_⟩
  · obtain ⟨i, hi, S, hS, p⟩ := laps_in (longT t most) j (by omega)
    exact (grow_step (grows (show i < 3 by omega)) p hS).1
  · obtain ⟨i, hi, S, hS, p⟩ := laps_in (longT t most) _ lk
    have e : (yardV t most).1.mergeSort leT = S := (sort_perm p).trans (ys_so i hS)
    rw [e]
    exact goodY_of (ys_yf i hS)
end Hf

/-! ## HfQ8 -/
set_option Elab.async false
set_option linter.all false
set_option maxRecDepth 100000
set_option maxHeartbeats 4000000
/-! What is given by hand; the large boxes. -/
namespace Hf
open L2 PySem PySem.Spec PyProof.Rows
open PySem.W (Datum DatumOrd Tup)
theorem place_of {S : List Pt} {c : Pt} (h : ∃ q ∈ S, c ∈ nine q) (p : placeB c = true) : c ∈ lplaces S := List.mem_filter.mpr ⟨lcells_mem.mpr h, p⟩
def lcellsK (S : List Pt) : List Pt := isort (keysK (S.flatMap nine))
theorem lcellsK_eq (S : List Pt) : lcellsL S = lcellsK S := by unfold lcellsL lcellsK keysU keysK; rw [sort_isort]
def countK (S : List Pt) (h : Pt) : Nat := (lFound (lcellsK S) h (lcellsK S).zipIdx).length
theorem count_eq {S : List Pt} (y : YF S) {h : Pt} (hp : h ∈ lplaces S) : (floorsM S h).length = countK S h := by
  rw [floors_len y.yd.nd (places_mem hp).1, lcellsK_eq]
  rfl
def floorsK (S : List Pt) (h : Pt) : List Fl := isort ((lFound (lcellsK S) h (lcellsK S).zipIdx).map fun r => Tup.mk (isort r.1))
theorem floorsK_eq {S : List Pt} (y : YF S) {h : Pt} (hp : h ∈ lplaces S) : floorsM S h = floorsK S h := by
  rw [(goodH_of y hp).eq]
  unfold lfloorsL floorsK setF
  rw [lcellsK_eq, sort_isort]
  simp only [sort_isort]
theorem y1 : YF oneY := ys_yf 0 (by decide)
theorem y2 : YF longY := ys_yf 1 (by decide)
theorem y3 : YF triY := ys_yf 2 (by decide)
theorem box22 : boxedL 2 2 = [(0, 0), (0, 1), (1, 0), (1, 1)] := by decide
theorem box32 : boxedL 3 2 = [(0, 0), (0, 1), (1, 0), (1, 1), (2, 0), (2, 1)] := by decide
theorem y4 : YF (boxedL 2 2) := ys_yf 3 (by rw [box22]; decide)
theorem p1 : ((1, 1) : Pt) ∈ lplaces oneY := place_of (by decide) (by decide)
theorem p4 : ∀ p ∈ fourP, p ∈ lplaces oneY := fun p hp => place_of ((show ∀ p ∈ fourP, ∃ q ∈ oneY, p ∈ nine q by decide) p hp) ((show ∀ p ∈ fourP, placeB p = true by decide) p hp)
theorem pq : ∀ p ∈ fourQ, p ∈ lplaces longY := fun p hp => place_of ((show ∀ p ∈ fourQ, ∃ q ∈ longY, p ∈ nine q by decide) p hp) ((show ∀ p ∈ fourQ, placeB p = true by decide) p hp)
theorem pt3 : ((3, 1) : Pt) ∈ lplaces triY := place_of (by decide) (by decide)
theorem pb2 : ((0, 0) : Pt) ∈ lplaces (boxedL 2 2) := by rw [box22]; exact place_of (by decide) (by decide)
theorem pb3 : ∀ c ∈ cornersL, c ∈ lplaces (boxedL 3 2) := fun c hc => by
  rw [box32]
  exact place_of ((show ∀ p ∈ cornersL, ∃ q ∈ ([(0, 0), (0, 1), (1, 0), (1, 1), (2, 0), (2, 1)] : List Pt), p ∈ nine q by decide) c hc) ((show ∀ p ∈ cornersL, placeB p = true by decide) c hc)
theorem n1 : floorsK oneY (1, 1) = [backF, ringF] := by decide +kernel
theorem n2 : (floorsK oneY (0, 0))[0]? = some firstF := by decide +kernel
theorem n4 : (fourP.map fun p => countK oneY p) = [4, 4, 4, 4] := by decide +kernel
theorem nq : (fourQ.map fun p => countK longY p) = [15, 8, 15, 8] := by decide +kernel
theorem n3 : countK triY (3, 1) = 32 := by decide +kernel
theorem nb : countK (boxedL 2 2) (0, 0) = 192 := by decide +kernel
theorem handOk : HandOk where
  o1 := ⟨(goodH_of y1 p1).o, (goodH_of y1 p1).f⟩
  o4 := fun p hp => ⟨(goodH_of y1 (p4 p hp)).o, (goodH_of y1 (p4 p hp)).f⟩
  oq := fun p hp => ⟨(goodH_of y2 (pq p hp)).o, (goodH_of y2 (pq p hp)).f⟩
  ot := ⟨(goodH_of y3 pt3).o, (goodH_of y3 pt3).f⟩
  h1 := (floorsK_eq y1 p1).trans n1
  h2 := by rw [floorsK_eq y1 (p4 (0, 0) (List.mem_cons_self ..))]; exact n2
  h4 := by rw [← n4]; exact List.map_congr_left fun p hp => count_eq y1 (p4 p hp)
  hq := by rw [← nq]; exact List.map_congr_left fun p hp => count_eq y2 (pq p hp)
  ht := (count_eq y3 pt3).trans n3
theorem yb3 : ydK (boxedL 3 2) = true := by rw [box32]; decide +kernel
theorem tb3 : (cornersL.all fun c => toldK (boxedL 3 2) c && decide (2000 < manyK (boxedL 3 2) c)) = true := by rw [box32]; decide +kernel
theorem bigsOk : BigsOk where
  c := fun c hc => by
    have y := yd_of yb3
    have t := List.all_eq_true.mp tb3 c hc
    simp only [Bool.and_eq_true, decide_eq_true_eq] at t
    exact ⟨hok_of y (pb3 c hc), ⟨y.nd, y.len, by rw [told_eq]; exact t.1, by rw [many_eq]; exact t.2⟩⟩
  o := ⟨(goodH_of y4 pb2).o, (goodH_of y4 pb2).f⟩
  n := (count_eq y4 pb2).trans nb
end Hf

/-! ## HfZ1 -/
set_option Elab.async false
set_option linter.all false
set_option maxRecDepth 100000
set_option maxHeartbeats 1000000
/-! All defs of the text together (printed by genend.py). -/
namespace Hf
open L2 PySem PySem.Spec PyProof.Rows
open PySem.W (Datum DatumOrd Tup)
theorem all_ok {P : Program} {w : World} {K : PySem.W.Frag} {mg : Str → Option Value} {base : Heap} {C : Addr} (b : Blt mg) (T : TmOk K mg C) (hli : ∃ u, mg "LISTED" = some u ∧ RelV (.int 2000) u)
    (F5 : Def K mg "is_number" (top 5))
    (F6 : Def K mg "is_long" (top 6))
    (F7 : Def K mg "tupled" (top 7))
    (F8 : Def K mg "ascends" (top 8))
    (F9 : Def K mg "set_of" (top 9))
    (F10 : Def K mg "are_numbers" (top 10))
    (F12 : Def K mg "is_pair" (top 12))
    (F13 : Def K mg "is_any_square" (top 13))
    (F14 : Def K mg "next_to" (top 14))
    (F15 : Def K mg "hangs_in" (top 15))
    (F16 : Def K mg "posts_in" (top 16))
    (F17 : Def K mg "rails_in" (top 17))
    (F18 : Def K mg "plots_in" (top 18))
    (F19 : Def K mg "surplus_in" (top 19))
    (F20 : Def K mg "is_yard" (top 20))
    (F21 : Def K mg "sure_yard" (top 21))
    (F22 : Def K mg "squares_of" (top 22))
    (F24 : Def K mg "kind_in" (top 24))
    (F25 : Def K mg "is_cell_in" (top 25))
    (F26 : Def K mg "is_place_in" (top 26))
    (F27 : Def K mg "sure_pair" (top 27))
    (F28 : Def K mg "cells_in" (top 28))
    (F29 : Def K mg "beside_in" (top 29))
    (F30 : Def K mg "rails_by" (top 30))
    (F31 : Def K mg "over_against" (top 31))
    (F33 : Def K mg "line_in" (top 33))
    (F34 : Def K mg "places_of" (top 34))
    (F35 : Def K mg "table_in" (top 35))
    (F36 : Def K mg "det_in" (top 36))
    (F38 : Def K mg "told_in" (top 38))
    (F39 : Def K mg "many_in" (top 39))
    (F42 : Def K mg "couple_of" (top 42))
    (F43 : Def K mg "fewest_beside" (top 43))
    (F44 : Def K mg "floors_in" (top 44))
    (F45 : Def K mg "sure_hole" (top 45))
    (F46 : Def K mg "all_floors" (top 46))
    (F48 : Def K mg "_law_box" (top 48))
    (F49 : Def K mg "_law_take" (top 49))
    (F50 : Def K mg "_law_cells" (top 50))
    (F51 : Def K mg "_law_of" (top 51))
    (F52 : Def K mg "_law_lists" (top 52))
    (F53 : Def K mg "_law_same" (top 53))
    (F54 : Def K mg "_law_spoil" (top 54))
    (F55 : Def K mg "_law_cells_of" (top 55))
    (F56 : Def K mg "_law_is_place" (top 56))
    (F57 : Def K mg "_law_beside" (top 57))
    (F58 : Def K mg "_law_pair" (top 58))
    (F59 : Def K mg "_law_floors" (top 59))
    (F60 : Def K mg "_law_yard" (top 60))
    (F61 : Def K mg "_law_is_whole" (top 61))
    (F62 : Def K mg "_law_boxed" (top 62))
    (F63 : Def K mg "_law_hole_of" (top 63))
    (F64 : Def K mg "_law_one" (top 64))
    (F65 : Def K mg "_law_heard" (top 65))
    (F66 : Def K mg "_law_by_hand_right" (top 66))
    (F67 : Def K mg "_law_right" (top 67))
    {f : Addr} {fd : FuncData} (F68 : Fun K "law" "law" (top 68) f fd) : FnOk P w K mg base CX0 14 f fd ["_law_script"] (spLaw K) := by
  have C48 : Cal P w K mg base 1 "_law_box" ["_law_script", "_law_k"] R48 := c48 F48 b
  have C50 : CalT P w K mg base 1 "_law_cells" ["_law_script", "_law_most_so"] (spCells K) := c50 F50 b
  have C64 : Cal P w K mg base 1 "_law_one" [] R64 := c64 F64
  have C6 : Cal P w K mg base 1 "is_long" ["thing", "length"] R6 := c6 F6 b
  have C5 : Cal P w K mg base 1 "is_number" ["thing"] R5 := c5 F5 b
  have C10 : Cal P w K mg base 2 "are_numbers" ["thing"] R10 := c10 F10 b C5
  have C12 : Cal P w K mg base 3 "is_pair" ["thing"] R12 := c12 F12 b C6 C10
  have C13 : Cal P w K mg base 4 "is_any_square" ["thing"] R13 := c13 F13 C12
  have C8 : Cal P w K mg base 1 "ascends" ["row"] R8 := c8 F8 b
  have C14 : Cal P w K mg base 1 "next_to" ["square"] R14 := c14 F14
  have C15 : Cal P w K mg base 2 "hangs_in" ["squares"] R15 := c15 F15 b C14
  have C16 : Cal P w K mg base 1 "posts_in" ["squares"] R16 := c16 F16 b
  have C17 : Cal P w K mg base 1 "rails_in" ["squares"] R17 := c17 F17 b
  have C18 : Cal P w K mg base 1 "plots_in" ["squares"] R18 := c18 F18 b
  have C19 : Cal P w K mg base 2 "surplus_in" ["squares"] R19 := c19 F19 b C16 C17 C18
  have C20 : Cal P w K mg base 5 "is_yard" ["thing"] R20 := c20 F20 b C13 C8 C15 C19
  have C21 : Cal P w K mg base 6 "sure_yard" ["yard"] R21 := c21 F21 (c7 F7 b 2) C20
  have C27 : Cal P w K mg base 4 "sure_pair" ["pair"] R27 := c27 F27 (c7 F7 b 1) C12
  have C22 : Cal P w K mg base 1 "squares_of" ["cell"] R22 := c22 F22 b
  have C25 : Cal P w K mg base 4 "is_cell_in" ["yard", "thing"] R25 := c25 F25 b C12 C22
  have C24 : Cal P w K mg base 1 "kind_in" ["cell"] R24 := c24 F24
  have C26 : Cal P w K mg base 5 "is_place_in" ["yard", "thing"] R26 := c26 F26 C25 C24
  have C45 : Cal P w K mg base 6 "sure_hole" ["yard", "hole"] R45 := c45 F45 C27 C26
  have C36 : Cal P w K mg base 1 "det_in" ["table"] R36 := c36 F36 b
  have C34 : Cal P w K mg base 2 "places_of" ["yard", "hole", "kind"] R34 := c34 F34 b C18
  have C29 : Cal P w K mg base 5 "beside_in" ["yard", "cell"] R29 := c29 F29 C25
  have C30 : Cal P w K mg base 6 "rails_by" ["yard", "place"] R29 := c30 F30 C29
  have C31 : Cal P w K mg base 1 "over_against" ["place", "rail"] R31 := c31 F31
  have C35 : Cal P w K mg base 7 "table_in" ["yard", "hole", "kind", "rails"] R35 := c35 F35 b C34 C30 C31
  have C33 : Cal P w K mg base 2 "line_in" ["yard", "hole", "kind"] R33 := c33 F33 b C24 C17
  have C38 : Cal P w K mg base 8 "told_in" ["yard", "hole", "kind"] R38 := c38 F38 C36 C35 C33
  have C39 : Cal P w K mg base 9 "many_in" ["yard", "hole"] R39 := c39 F39 C38 C24
  have C28 : Cal P w K mg base 2 "cells_in" ["yard"] R28 := c28 F28 b C16 C17 C18
  have C9 : Cal P w K mg base 1 "set_of" ["row"] R9 := c9 F9 b
  have C43 : CalS P w K mg base 1 "fewest_beside" ["left", "beside"] R43 := c43 F43 b
  have C42 : Cal P w K mg base 2 "couple_of" ["one", "other"] R42 := c42 F42 C24
  have C44 : Cal P w K mg base 10 "floors_in" ["yard", "hole"] R44 := c44 F44 b hli C39 C29 C28 C9 C43 C42
  have X44 : CalE P w K mg base 10 "floors_in" ["yard", "hole"] C Q44 := x44 F44 T hli C39
  have K46 : ∃ f fd, AskK P w K mg base C f fd := k46 F46 C21 C45 C44 X44
  have C65 : Cal P w K mg base 12 "_law_heard" ["_law_ground", "_law_spot"] R65 := c65 F65 b T K46
  have C66 : Cal P w K mg base 13 "_law_by_hand_right" [] R66 := c66 F66 b handOk (c53 F53 b 5) C64 C65
  have C49 : CalT P w K mg base 1 "_law_take" ["_law_tin", "_law_below_so"] (spT R49) := c49 F49 b
  have C51 : CalT P w K mg base 2 "_law_of" ["_law_tin", "_law_goods_so"] (spT R51) := c51 F51 b C49
  have C54 : CalT P w K mg base 1 "_law_spoil" ["_law_matter"] spSp := c54 F54 b
  have C55 : Cal P w K mg base 1 "_law_cells_of" ["_law_ground"] R55 := c55 F55 b
  have C56 : Cal P w K mg base 1 "_law_is_place" ["_law_spot"] R56 := c56 F56 b
  have C58 : Cal P w K mg base 2 "_law_pair" ["_law_one_here", "_law_two"] R58 := c58 F58 C56
  have C59 : Cal P w K mg base 3 "_law_floors" ["_law_ground", "_law_gap_so"] R59 := c59 F59 b C55 C58
  have C57 : Cal P w K mg base 1 "_law_beside" ["_law_spot"] R57 := c57 F57
  have C61 : Cal P w K mg base 2 "_law_is_whole" ["_law_squares_so"] R61 := c61 F61 b C55 C56
  have C60 : CalT P w K mg base 3 "_law_yard" ["_law_tin", "_law_most_so"] (spW R60) := c60 F60 b C49 C51 C57 C61
  have C62 : Cal P w K mg base 1 "_law_boxed" ["_law_many_so", "_law_high_so"] R62 := c62 F62 b
  have C63 : CalT P w K mg base 3 "_law_hole_of" ["_law_tin", "_law_ground"] (spT R63) := c63 F63 b C51 C55 C56
  have C67 : CalT P w K mg base 13 "_law_right" ["_law_tin"] spR := c67 F67 b bigsOk yardsOk C49 C51 (c52 F52 b 2) (c53 F53 b 5) C54 C59 C60 C62 C63 C65
  have C68 : FnOk P w K mg base CX0 14 f fd ["_law_script"] (spLaw K) := c68 F68 b C48 C50 C66 C67
  exact C68
end Hf

/-! ## HfZ2 -/
set_option Elab.async false
set_option linter.all false
set_option maxRecDepth 100000
set_option maxHeartbeats 1000000
/-! What the top has written, one def at a time. -/
namespace Hf
open L2 PySem PySem.Spec PyProof.Rows
open PySem.W (Datum DatumOrd Tup)
section
variable {G0 : Prop} {K : PySem.W.Frag} {h : Heap} {mg : Str → Option Value}
theorem with_def (X : K.In h) (G : h.Ns mainGlobals mg) (x : Str) (st : Stmt) {f : Addr} {od an : Option Addr} {sl : Array (Option Value)} {oc kV dc pm cd ct : Value} (a : PySem.W.nsIn K mainGlobals x = some (some (.ref f)))
    (l : K.lookup f = some ⟨oc, od, .func (PySem.W.fnOf x x (defArgs st) (defBody st) (defScope st) .none kV dc pm an cd ct), sl⟩) (c : PySem.W.codeIn K cd x = true) (k : PySem.W.keepIn K (.ref f) = true) (go : Def K mg x st → G0) : G0 :=
  go ⟨f, _, fun_mk l c k, PySem.W.mg_of X G a⟩
theorem with_no (X : K.In h) (G : h.Ns mainGlobals mg) (x : Str) (a : PySem.W.nsIn K mainGlobals x = some none) (go : mg x = none → G0) : G0 := go (PySem.W.mg_none_of X G a)
theorem with_int (X : K.In h) (G : h.Ns mainGlobals mg) (x : Str) (i : Int) {t : Tok} (a : PySem.W.nsIn K mainGlobals x = some (some (.int i t))) (go : (∃ u, mg x = some u ∧ RelV (.int i) u) → G0) : G0 := go ⟨_, PySem.W.mg_of X G a, t, rfl⟩
theorem exm_same {S : Addr} (h1 : PySem.W.subIn K (.ref S) (.type "BaseException") = some true) (h2 : PySem.W.isClsIn K S = true) (h3 : PySem.W.typeIn K (.ref S) = some (.type "type")) (h4 : PySem.W.subIn K (.ref S) (.ref S) = some true) :
    PySem.W.exmOne K (.ref S) (.ref S) = some true := by
  have e1 : (PySem.W.subIn K (.ref S) (.type "BaseException") == some true) = true := by rw [h1] <;> rfl
  have h2' : (PySem.W.clsIn K S).isSome = true := h2
  have e2 : ((PySem.W.clsIn K S).isSome && PySem.W.typeIn K (.ref S) == some (.type "type")) = true := by rw [h2', h3] <;> rfl
  show (if (PySem.W.subIn K (.ref S) (.type "BaseException") == some true) = true then (if ((PySem.W.clsIn K S).isSome && PySem.W.typeIn K (.ref S) == some (.type "type")) = true then PySem.W.subIn K (.ref S) (.ref S) else none) else none) = some true
  rw [if_pos e1, if_pos e2]
  exact h4
theorem with_tm (X : K.In h) (G : h.Ns mainGlobals mg) {C : Addr} (g : PySem.W.nsIn K mainGlobals "TooMany" = some (some (.ref C))) (ex : PySem.W.excIn K C [.type "ValueError", .type "Exception", .type "BaseException", .type "object"] "ValueError.__new__" = true)
    (kp : PySem.W.keepIn K (.ref C) = true) (sub : PySem.W.subIn K (.ref C) (.type "BaseException") = some true) (ty : PySem.W.typeIn K (.ref C) = some (.type "type"))
    (hg : PySem.W.findIn K (.ref C) "__getattribute__" = some (some (.builtin "BaseException.__getattribute__"))) (hk : PySem.W.findIn K (.ref C) "__getattr__" = some none) (hd : PySem.W.hasDictIn K C = true)
    (ha : PySem.W.findIn K (.ref C) "__class__" = some (some (.builtin "object.__class__"))) (hn : PySem.W.specialIn K (.builtin "object.__class__") "__get__" = some (some (.builtin "getset_descriptor.__get__"))) (ht : PySem.W.takesIn K (.builtin "object.__class__") = some true) (hm : PySem.W.mroIn K C (.type "object") = some true)
    (ic : PySem.W.isClsIn K C = true) (ss : PySem.W.subIn K (.ref C) (.ref C) = some true) (sv : PySem.W.subIn K (.ref C) (.type "ValueError") = some true) (go : TmOk K mg C → G0) : G0 :=
  go ⟨PySem.W.mg_of X G g, ⟨_, _, _, _, PySem.F.excBase_ValueError, ex⟩, kp, sub, ty, ⟨hg, hk, sub, hd, ha, hn, ht, hm⟩, exm_same sub ic ty ss, by
    have e1 : ((Value.ref C == Value.type "ValueError") = true) ↔ False := by constructor <;> intro z <;> first | cases z | exact z.elim
    have e2 : PySem.W.kitMeta "ValueError" = true := by decide +kernel
    unfold PySem.W.kitOne PySem.W.kitCls
    rw [if_neg fun z => e1.mp z]
    show (if PySem.W.kitMeta "ValueError" = true then _ else _) = _
    rw [if_pos e2]
    exact sv⟩
/-- the law's own def -/
theorem with_law (X : K.In h) (G : h.Ns mainGlobals mg) {fa f : Addr} (hfa : mg "law" = some (.ref fa)) {od an : Option Addr} {sl : Array (Option Value)} {oc kV dc pm cd ct : Value} (a : PySem.W.nsIn K mainGlobals "law" = some (some (.ref f)))
    (l : K.lookup f = some ⟨oc, od, .func (PySem.W.fnOf "law" "law" (defArgs (top 68)) (defBody (top 68)) (defScope (top 68)) .none kV dc pm an cd ct), sl⟩) (c : PySem.W.codeIn K cd "law" = true) (k : PySem.W.keepIn K (.ref f) = true)
    {P : Program} {w : World} (go : ∀ (fd : FuncData), Fun K "law" "law" (top 68) fa fd → ∀ base : Heap, FnOk P w K mg base CX0 14 fa fd ["_law_script"] (spLaw K)) :
    ∃ fd : FuncData, (∀ (s : Shared) (u : Value), BindsTo s fd ⟨[u], []⟩ [("_law_script", u)]) ∧ ∀ base : Heap, K.In base → base.Ns mainGlobals mg → FnOk P w K mg base CX0 14 fa fd ["_law_script"] (spLaw K) := by
  have e := hfa.symm.trans (PySem.W.mg_of X G a)
  cases e
  exact ⟨PySem.W.fnOf "law" "law" (defArgs (top 68)) (defBody (top 68)) (defScope (top 68)) .none kV dc pm an cd ct, fun s u => .of_eq rfl, fun base _ _ => go _ (fun_mk l c k) base⟩
end
end Hf

/-! ## HfFin -/
set_option Elab.async false
set_option linter.all false
set_option maxRecDepth 100000
/-! The end (printed by genfin.py). -/
namespace Hf
open L2 PySem PySem.Spec PyProof.Rows
theorem walk {l : PySem.W.OpenLaw} {q : Program} {loose : List Str} {XP : (Str → Option Value) → Heap → Prop} {YP : World → Heap → Prop} {d : DefRec} {K : Params → PySem.W.Frag} (hn : l.most = some 63) (hdf : d.params.defaults = [])
    (hY : ∀ (w : World) (h : Heap), YP w h → (K w.params).In h)
    (F : ∀ (w : World) (mg : Str → Option Value) (fa : Addr) (h : Heap), (K w.params).In h → h.Ns mainGlobals mg → mg d.name = some (.ref fa) →
      ∃ fd : FuncData, (∀ (s : Shared) (u : Value), BindsTo s fd ⟨[u], []⟩ [("_law_script", u)]) ∧ ∀ base : Heap, (K w.params).In base → base.Ns mainGlobals mg → FnOk l.prog w (K w.params) mg base CX0 14 fa fd ["_law_script"] (spLaw (K w.params))) :
    PySem.W.WalkO q loose XP YP l.row.toRowW d [] (fun f vs => PySem.call f vs) :=
  L2.walk_ofB (n := 63) (k := 14) (x := "_law_script") (CX := fun _ => CX0) (sp := fun w => spLaw (K w.params)) hn (by decide) hdf ⟨rfl, by decide, by decide⟩ hY F (fun _ _ a ns _ _ _ hS => ⟨a, ns, rfl, hS, fun _ => rfl⟩) fun _ _ _ _ _ z => z
end Hf
open PySem PySem.W PyProof.Rows
set_option maxRecDepth 100000 in
set_option maxHeartbeats 0 in
theorem PySem.Challenge.cw_holefloors_k09_whole_all_floors_by_cover_holds : PySem.Challenge.rw_holefloors_k09_whole_all_floors_by_cover.Holds := by
  w_on; o_law; k_head; (case hw => w_witness2)
  k_fill
  refine Hf.walk (l := PySem.Challenge.rw_holefloors_k09_whole_all_floors_by_cover) rfl rfl (fun w h Y => PySem.W.kIn_of Y) ?F
  case F =>
    intro w mg fa h KX G hmg
    refine' Hf.with_no KX G "isinstance" ?a (fun n_isi => ?_)
    (case a => k_is)
    refine' Hf.with_no KX G "int" ?a (fun n_int => ?_)
    (case a => k_is)
    refine' Hf.with_no KX G "bool" ?a (fun n_bool => ?_)
    (case a => k_is)
    refine' Hf.with_no KX G "str" ?a (fun n_str => ?_)
    (case a => k_is)
    refine' Hf.with_no KX G "tuple" ?a (fun n_tuple => ?_)
    (case a => k_is)
    refine' Hf.with_no KX G "list" ?a (fun n_list => ?_)
    (case a => k_is)
    refine' Hf.with_no KX G "dict" ?a (fun n_dict => ?_)
    (case a => k_is)
    refine' Hf.with_no KX G "set" ?a (fun n_set => ?_)
    (case a => k_is)
    refine' Hf.with_no KX G "len" ?a (fun n_len => ?_)
    (case a => k_is)
    refine' Hf.with_no KX G "all" ?a (fun n_all => ?_)
    (case a => k_is)
    refine' Hf.with_no KX G "any" ?a (fun n_any => ?_)
    (case a => k_is)
    refine' Hf.with_no KX G "range" ?a (fun n_range => ?_)
    (case a => k_is)
    refine' Hf.with_no KX G "sorted" ?a (fun n_sorted => ?_)
    (case a => k_is)
    refine' Hf.with_no KX G "enumerate" ?a (fun n_enum => ?_)
    (case a => k_is)
    refine' Hf.with_no KX G "zip" ?a (fun n_zip => ?_)
    (case a => k_is)
    refine' Hf.with_no KX G "abs" ?a (fun n_abs => ?_)
    (case a => k_is)
    refine' Hf.with_no KX G "min" ?a (fun n_min => ?_)
    (case a => k_is)
    refine' Hf.with_no KX G "max" ?a (fun n_max => ?_)
    (case a => k_is)
    refine' Hf.with_no KX G "ValueError" ?a (fun n_verr => ?_)
    (case a => k_is)
    refine' Hf.with_int KX G "LISTED" 2000 ?a (fun hli => ?_)
    (case a => k_is)
    refine' Hf.with_tm KX G ?g ?ex ?kp ?sub ?ty ?hg ?hk ?hd ?ha ?hn ?ht ?hm ?ic ?ss ?sv (fun T => ?_)
    (case g => k_is)
    (case ex => k_exc)
    (case kp => k_is)
    (case sub => k_is)
    (case ty => k_is)
    (case hg => k_is)
    (case hk => k_is)
    (case hd => k_is)
    (case ha => k_is)
    (case hn => k_is)
    (case ht => k_is)
    (case hm => k_is)
    (case ic => k_is)
    (case ss => k_is)
    (case sv => k_is)
    refine' Hf.with_def KX G "is_number" (Hf.top 5) ?a ?l ?c ?k (fun F5 => ?_)
    (case a => k_is)
    (case l => k_is)
    (case c => k_is)
    (case k => k_is)
    refine' Hf.with_def KX G "is_long" (Hf.top 6) ?a ?l ?c ?k (fun F6 => ?_)
    (case a => k_is)
    (case l => k_is)
    (case c => k_is)
    (case k => k_is)
    refine' Hf.with_def KX G "tupled" (Hf.top 7) ?a ?l ?c ?k (fun F7 => ?_)
    (case a => k_is)
    (case l => k_is)
    (case c => k_is)
    (case k => k_is)
    refine' Hf.with_def KX G "ascends" (Hf.top 8) ?a ?l ?c ?k (fun F8 => ?_)
    (case a => k_is)
    (case l => k_is)
    (case c => k_is)
    (case k => k_is)
    refine' Hf.with_def KX G "set_of" (Hf.top 9) ?a ?l ?c ?k (fun F9 => ?_)
    (case a => k_is)
    (case l => k_is)
    (case c => k_is)
    (case k => k_is)
    refine' Hf.with_def KX G "are_numbers" (Hf.top 10) ?a ?l ?c ?k (fun F10 => ?_)
    (case a => k_is)
    (case l => k_is)
    (case c => k_is)
    (case k => k_is)
    refine' Hf.with_def KX G "is_pair" (Hf.top 12) ?a ?l ?c ?k (fun F12 => ?_)
    (case a => k_is)
    (case l => k_is)
    (case c => k_is)
    (case k => k_is)
    refine' Hf.with_def KX G "is_any_square" (Hf.top 13) ?a ?l ?c ?k (fun F13 => ?_)
    (case a => k_is)
    (case l => k_is)
    (case c => k_is)
    (case k => k_is)
    refine' Hf.with_def KX G "next_to" (Hf.top 14) ?a ?l ?c ?k (fun F14 => ?_)
    (case a => k_is)
    (case l => k_is)
    (case c => k_is)
    (case k => k_is)
    refine' Hf.with_def KX G "hangs_in" (Hf.top 15) ?a ?l ?c ?k (fun F15 => ?_)
    (case a => k_is)
    (case l => k_is)
    (case c => k_is)
    (case k => k_is)
    refine' Hf.with_def KX G "posts_in" (Hf.top 16) ?a ?l ?c ?k (fun F16 => ?_)
    (case a => k_is)
    (case l => k_is)
    (case c => k_is)
    (case k => k_is)
    refine' Hf.with_def KX G "rails_in" (Hf.top 17) ?a ?l ?c ?k (fun F17 => ?_)
    (case a => k_is)
    (case l => k_is)
    (case c => k_is)
    (case k => k_is)
    refine' Hf.with_def KX G "plots_in" (Hf.top 18) ?a ?l ?c ?k (fun F18 => ?_)
    (case a => k_is)
    (case l => k_is)
    (case c => k_is)
    (case k => k_is)
    refine' Hf.with_def KX G "surplus_in" (Hf.top 19) ?a ?l ?c ?k (fun F19 => ?_)
    (case a => k_is)
    (case l => k_is)
    (case c => k_is)
    (case k => k_is)
    refine' Hf.with_def KX G "is_yard" (Hf.top 20) ?a ?l ?c ?k (fun F20 => ?_)
    (case a => k_is)
    (case l => k_is)
    (case c => k_is)
    (case k => k_is)
    refine' Hf.with_def KX G "sure_yard" (Hf.top 21) ?a ?l ?c ?k (fun F21 => ?_)
    (case a => k_is)
    (case l => k_is)
    (case c => k_is)
    (case k => k_is)
    refine' Hf.with_def KX G "squares_of" (Hf.top 22) ?a ?l ?c ?k (fun F22 => ?_)
    (case a => k_is)
    (case l => k_is)
    (case c => k_is)
    (case k => k_is)
    refine' Hf.with_def KX G "kind_in" (Hf.top 24) ?a ?l ?c ?k (fun F24 => ?_)
    (case a => k_is)
    (case l => k_is)
    (case c => k_is)
    (case k => k_is)
    refine' Hf.with_def KX G "is_cell_in" (Hf.top 25) ?a ?l ?c ?k (fun F25 => ?_)
    (case a => k_is)
    (case l => k_is)
    (case c => k_is)
    (case k => k_is)
    refine' Hf.with_def KX G "is_place_in" (Hf.top 26) ?a ?l ?c ?k (fun F26 => ?_)
    (case a => k_is)
    (case l => k_is)
    (case c => k_is)
    (case k => k_is)
    refine' Hf.with_def KX G "sure_pair" (Hf.top 27) ?a ?l ?c ?k (fun F27 => ?_)
    (case a => k_is)
    (case l => k_is)
    (case c => k_is)
    (case k => k_is)
    refine' Hf.with_def KX G "cells_in" (Hf.top 28) ?a ?l ?c ?k (fun F28 => ?_)
    (case a => k_is)
    (case l => k_is)
    (case c => k_is)
    (case k => k_is)
    refine' Hf.with_def KX G "beside_in" (Hf.top 29) ?a ?l ?c ?k (fun F29 => ?_)
    (case a => k_is)
    (case l => k_is)
    (case c => k_is)
    (case k => k_is)
    refine' Hf.with_def KX G "rails_by" (Hf.top 30) ?a ?l ?c ?k (fun F30 => ?_)
    (case a => k_is)
    (case l => k_is)
    (case c => k_is)
    (case k => k_is)
    refine' Hf.with_def KX G "over_against" (Hf.top 31) ?a ?l ?c ?k (fun F31 => ?_)
    (case a => k_is)
    (case l => k_is)
    (case c => k_is)
    (case k => k_is)
    refine' Hf.with_def KX G "line_in" (Hf.top 33) ?a ?l ?c ?k (fun F33 => ?_)
    (case a => k_is)
    (case l => k_is)
    (case c => k_is)
    (case k => k_is)
    refine' Hf.with_def KX G "places_of" (Hf.top 34) ?a ?l ?c ?k (fun F34 => ?_)
    (case a => k_is)
    (case l => k_is)
    (case c => k_is)
    (case k => k_is)
    refine' Hf.with_def KX G "table_in" (Hf.top 35) ?a ?l ?c ?k (fun F35 => ?_)
    (case a => k_is)
    (case l => k_is)
    (case c => k_is)
    (case k => k_is)
    refine' Hf.with_def KX G "det_in" (Hf.top 36) ?a ?l ?c ?k (fun F36 => ?_)
    (case a => k_is)
    (case l => k_is)
    (case c => k_is)
    (case k => k_is)
    refine' Hf.with_def KX G "told_in" (Hf.top 38) ?a ?l ?c ?k (fun F38 => ?_)
    (case a => k_is)
    (case l => k_is)
    (case c => k_is)
    (case k => k_is)
    refine' Hf.with_def KX G "many_in" (Hf.top 39) ?a ?l ?c ?k (fun F39 => ?_)
    (case a => k_is)
    (case l => k_is)
    (case c => k_is)
    (case k => k_is)
    refine' Hf.with_def KX G "couple_of" (Hf.top 42) ?a ?l ?c ?k (fun F42 => ?_)
    (case a => k_is)
    (case l => k_is)
    (case c => k_is)
    (case k => k_is)
    refine' Hf.with_def KX G "fewest_beside" (Hf.top 43) ?a ?l ?c ?k (fun F43 => ?_)
    (case a => k_is)
    (case l => k_is)
    (case c => k_is)
    (case k => k_is)
    refine' Hf.with_def KX G "floors_in" (Hf.top 44) ?a ?l ?c ?k (fun F44 => ?_)
    (case a => k_is)
    (case l => k_is)
    (case c => k_is)
    (case k => k_is)
    refine' Hf.with_def KX G "sure_hole" (Hf.top 45) ?a ?l ?c ?k (fun F45 => ?_)
    (case a => k_is)
    (case l => k_is)
    (case c => k_is)
    (case k => k_is)
    refine' Hf.with_def KX G "all_floors" (Hf.top 46) ?a ?l ?c ?k (fun F46 => ?_)
    (case a => k_is)
    (case l => k_is)
    (case c => k_is)
    (case k => k_is)
    refine' Hf.with_def KX G "_law_box" (Hf.top 48) ?a ?l ?c ?k (fun F48 => ?_)
    (case a => k_is)
    (case l => k_is)
    (case c => k_is)
    (case k => k_is)
    refine' Hf.with_def KX G "_law_take" (Hf.top 49) ?a ?l ?c ?k (fun F49 => ?_)
    (case a => k_is)
    (case l => k_is)
    (case c => k_is)
    (case k => k_is)
    refine' Hf.with_def KX G "_law_cells" (Hf.top 50) ?a ?l ?c ?k (fun F50 => ?_)
    (case a => k_is)
    (case l => k_is)
    (case c => k_is)
    (case k => k_is)
    refine' Hf.with_def KX G "_law_of" (Hf.top 51) ?a ?l ?c ?k (fun F51 => ?_)
    (case a => k_is)
    (case l => k_is)
    (case c => k_is)
    (case k => k_is)
    refine' Hf.with_def KX G "_law_lists" (Hf.top 52) ?a ?l ?c ?k (fun F52 => ?_)
    (case a => k_is)
    (case l => k_is)
    (case c => k_is)
    (case k => k_is)
    refine' Hf.with_def KX G "_law_same" (Hf.top 53) ?a ?l ?c ?k (fun F53 => ?_)
    (case a => k_is)
    (case l => k_is)
    (case c => k_is)
    (case k => k_is)
    refine' Hf.with_def KX G "_law_spoil" (Hf.top 54) ?a ?l ?c ?k (fun F54 => ?_)
    (case a => k_is)
    (case l => k_is)
    (case c => k_is)
    (case k => k_is)
    refine' Hf.with_def KX G "_law_cells_of" (Hf.top 55) ?a ?l ?c ?k (fun F55 => ?_)
    (case a => k_is)
    (case l => k_is)
    (case c => k_is)
    (case k => k_is)
    refine' Hf.with_def KX G "_law_is_place" (Hf.top 56) ?a ?l ?c ?k (fun F56 => ?_)
    (case a => k_is)
    (case l => k_is)
    (case c => k_is)
    (case k => k_is)
    refine' Hf.with_def KX G "_law_beside" (Hf.top 57) ?a ?l ?c ?k (fun F57 => ?_)
    (case a => k_is)
    (case l => k_is)
    (case c => k_is)
    (case k => k_is)
    refine' Hf.with_def KX G "_law_pair" (Hf.top 58) ?a ?l ?c ?k (fun F58 => ?_)
    (case a => k_is)
    (case l => k_is)
    (case c => k_is)
    (case k => k_is)
    refine' Hf.with_def KX G "_law_floors" (Hf.top 59) ?a ?l ?c ?k (fun F59 => ?_)
    (case a => k_is)
    (case l => k_is)
    (case c => k_is)
    (case k => k_is)
    refine' Hf.with_def KX G "_law_yard" (Hf.top 60) ?a ?l ?c ?k (fun F60 => ?_)
    (case a => k_is)
    (case l => k_is)
    (case c => k_is)
    (case k => k_is)
    refine' Hf.with_def KX G "_law_is_whole" (Hf.top 61) ?a ?l ?c ?k (fun F61 => ?_)
    (case a => k_is)
    (case l => k_is)
    (case c => k_is)
    (case k => k_is)
    refine' Hf.with_def KX G "_law_boxed" (Hf.top 62) ?a ?l ?c ?k (fun F62 => ?_)
    (case a => k_is)
    (case l => k_is)
    (case c => k_is)
    (case k => k_is)
    refine' Hf.with_def KX G "_law_hole_of" (Hf.top 63) ?a ?l ?c ?k (fun F63 => ?_)
    (case a => k_is)
    (case l => k_is)
    (case c => k_is)
    (case k => k_is)
    refine' Hf.with_def KX G "_law_one" (Hf.top 64) ?a ?l ?c ?k (fun F64 => ?_)
    (case a => k_is)
    (case l => k_is)
    (case c => k_is)
    (case k => k_is)
    refine' Hf.with_def KX G "_law_heard" (Hf.top 65) ?a ?l ?c ?k (fun F65 => ?_)
    (case a => k_is)
    (case l => k_is)
    (case c => k_is)
    (case k => k_is)
    refine' Hf.with_def KX G "_law_by_hand_right" (Hf.top 66) ?a ?l ?c ?k (fun F66 => ?_)
    (case a => k_is)
    (case l => k_is)
    (case c => k_is)
    (case k => k_is)
    refine' Hf.with_def KX G "_law_right" (Hf.top 67) ?a ?l ?c ?k (fun F67 => ?_)
    (case a => k_is)
    (case l => k_is)
    (case c => k_is)
    (case k => k_is)
    refine' Hf.with_law KX G hmg ?a ?l ?c ?k (fun fd F68 base => ?_)
    (case a => k_is)
    (case l => k_is)
    (case c => k_is)
    (case k => k_is)
    exact Hf.all_ok ⟨n_isi, n_int, n_bool, n_str, n_tuple, n_list, n_dict, n_set, n_len, n_all, n_any, n_range, n_sorted, n_enum, n_zip, n_abs, n_min, n_max, n_verr⟩ T hli F5 F6 F7 F8 F9 F10 F12 F13 F14 F15 F16 F17 F18 F19 F20 F21 F22 F24 F25 F26 F27 F28 F29 F30 F31 F33 F34 F35 F36 F38 F39 F42 F43 F44 F45 F46 F48 F49 F50 F51 F52 F53 F54 F55 F56 F57 F58 F59 F60 F61 F62 F63 F64 F65 F66 F67 F68
#print axioms PySem.Challenge.cw_holefloors_k09_whole_all_floors_by_cover_holds
