import PyProof.Rows.All
import Wide.All
import OpenK.AllK
import Wide.FinOn
import HandS.ForMost
import HandS.Deep
import HandS.TupAny
import HandS.TupMul
import HandS.TupSets
import HandS.TupLe
import HandS.Wide
import HandS.IsInst
import HandS.Conv
import HandS.Style
import HandS.SortInts
import HandS.Rev
import HandS.Exc
import HandS.Strs
import HandS.SetFor
import KE.GoesNew
import HandS.ExcOwn
import HandS.WordsExc
import HandS.ExcIs
import KE.GoesRaise
import HandS.Lambda
import HandS.EndTab
import KE.SortKeyHeap
import PyProof.FactsAll.tuple_2
import HandS.ForList
import HandS.EndBits
import PySem.Challenge.RW_pageties_k08_whole_runs
set_option Elab.async false
set_option linter.all false
set_option maxRecDepth 100000
namespace DL
open PySem PySem.Spec L2
set_option autoImplicit false

/-! heaps, a part of them hidden -/
def hide (S : List Addr) (H : Hp) : Hp := fun a => if a ∈ S then none else H a
theorem hide_in {S : List Addr} {H : Hp} {a : Addr} (h : a ∈ S) : hide S H a = none := if_pos h
theorem hide_out {S : List Addr} {H : Hp} {a : Addr} (h : a ∉ S) : hide S H a = H a := if_neg h
theorem hide_sub (S : List Addr) (H : Hp) : Same (hide S H) H := fun b o e => by
  by_cases h : b ∈ S
  · rw [hide_in h] at e; cases e
  · rw [hide_out h] at e; exact e
theorem hide_mono {S : List Addr} {H H' : Hp} (s : Same H H') : Same (hide S H) (hide S H') := fun b o e => by
  by_cases h : b ∈ S
  · rw [hide_in h] at e; cases e
  · rw [hide_out h] at e ⊢; exact s b o e
theorem hide_some {S : List Addr} {H : Hp} {a : Addr} {o : HO} (e : hide S H a = some o) : a ∉ S ∧ H a = some o := by
  by_cases h : a ∈ S
  · rw [hide_in h] at e; cases e
  · rw [hide_out h] at e; exact ⟨h, e⟩
theorem hide_app (S T : List Addr) (H : Hp) : hide (S ++ T) H = hide T (hide S H) := by
  funext a
  unfold hide
  by_cases h1 : a ∈ S <;> by_cases h2 : a ∈ T <;> simp [h1, h2]
/-- a new object, hidden: nothing is seen of it -/
theorem hide_upd {S : List Addr} {H : Hp} {p : Addr} {o : HO} (h : p ∈ S) : hide S (upd H p o) = hide S H := by
  funext a
  by_cases e : a ∈ S
  · rw [hide_in e, hide_in e]
  · rw [hide_out e, hide_out e, upd_ne (fun z => e (by rw [z]; exact h))]
theorem hide_cons_new {S : List Addr} {H : Hp} {p : Addr} (h : H p = none) : hide (p :: S) H = hide S H := by
  funext a
  by_cases e : a = p
  · subst e
    rw [hide_in List.mem_cons_self]
    by_cases e2 : a ∈ S
    · rw [hide_in e2]
    · rw [hide_out e2, h]
  · by_cases e2 : a ∈ S
    · rw [hide_in e2, hide_in (List.mem_cons_of_mem _ e2)]
    · rw [hide_out e2, hide_out (by simp [e, e2])]
theorem hide_cons_upd {S : List Addr} {H : Hp} {p : Addr} {o : HO} (h : H p = none) : hide (p :: S) (upd H p o) = hide S H := by
  rw [hide_upd List.mem_cons_self, hide_cons_new h]
def SOk (S : List Addr) (H : Hp) : Prop := ∀ a ∈ S, H a ≠ none
theorem SOk.mono {S : List Addr} {H H' : Hp} (h : SOk S H) (s : Same H H') : SOk S H' := fun a ha e => h a ha (s.free e)
theorem SOk.new {S : List Addr} {H : Hp} {p : Addr} (h : SOk S H) (n : H p = none) : p ∉ S := fun z => h p z n
theorem same_upd {H : Hp} {p : Addr} (h : H p = none) (o : HO) : Same H (upd H p o) := fun b u q => by rw [upd_ne (ne_of_none q h)]; exact q
theorem hide_upd_at {S : List Addr} {H : Hp} {p : Addr} {o : HO} (h : SOk S H) (n : H p = none) : hide S (upd H p o) p = some o := by
  rw [hide_out (h.new n), upd_same]
theorem Same.ofEq {H H' : Hp} (e : H = H') : Same H H' := e ▸ Same.refl H

/-! a value that stands for data -/
mutual
inductive Rp (K : PySem.W.Frag) (H : Hp) : V → PyData → Prop
  | non : Rp K H .non .none
  | bl (b : Bool) : Rp K H (.bl b) (.bool b)
  | int (i : Int) : Rp K H (.int i) (.int i)
  | str (x : Str) : Rp K H (.str x) (.str x)
  | lst {a : Addr} {xs : List V} {ds : List PyData} : H a = some (.lst xs) → xs.length ≤ sizeLine → RpAll K H xs ds → Rp K H (.ref a) (.list ds)
  | tup {a : Addr} {xs : List V} {ds : List PyData} {o : Obj} : H a = some (.frz o (.tup xs)) → o.dict = none → xs.length ≤ sizeLine → RpAll K H xs ds → Rp K H (.ref a) (.tuple ds)
  | dct {a : Addr} {kvs : List (Int × Int)} : Rd H a (.dK (kvs.map fun p => (Sum.inl p.1, V.int p.2))) → kvs.length ≤ sizeLine → Rp K H (.ref a) (.dict (kvs.map fun p => (.int p.1, .int p.2)))
  | dctF {a : Addr} {o : Obj} {kvs : List (Int × Int)} : H a = some (.frz o (.dK (kvs.map fun p => (Sum.inl p.1, V.int p.2)))) → kvs.length ≤ sizeLine → Rp K H (.ref a) (.dict ((.bool true, .none) :: kvs.map fun p => (.int p.1, .int p.2)))
  | scr {a : Addr} {ns : List Int} : SqL K H a (ns.map V.int) → ns.length ≤ 63 → Rp K H (.ref a) (.dict [(.none, .list (ns.map .int))])
inductive RpAll (K : PySem.W.Frag) (H : Hp) : List V → List PyData → Prop
  | nil : RpAll K H [] []
  | cons {v : V} {vs : List V} {d : PyData} {ds : List PyData} : Rp K H v d → RpAll K H vs ds → RpAll K H (v :: vs) (d :: ds)
end
theorem Rd.same {H H' : Hp} {a : Addr} {u : HO} (r : Rd H a u) (s : Same H H') : Rd H' a u := r.elim (fun e => .inl (s _ _ e)) fun ⟨o, e⟩ => .inr ⟨o, s _ _ e⟩
mutual
theorem Rp.mono {K : PySem.W.Frag} {H H' : Hp} (s : Same H H') : ∀ {v : V} {d : PyData}, Rp K H v d → Rp K H' v d
  | _, _, .non => .non
  | _, _, .bl b => .bl b
  | _, _, .int i => .int i
  | _, _, .str x => .str x
  | _, _, .lst e z r => .lst (s _ _ e) z (RpAll.mono s r)
  | _, _, .tup e k z r => .tup (s _ _ e) k z (RpAll.mono s r)
  | _, _, .dct r z => .dct (Rd.same r s) z
  | _, _, .dctF e z => .dctF (s _ _ e) z
  | _, _, .scr r z => .scr (s.seq r) z
theorem RpAll.mono {K : PySem.W.Frag} {H H' : Hp} (s : Same H H') : ∀ {vs : List V} {ds : List PyData}, RpAll K H vs ds → RpAll K H' vs ds
  | _, _, .nil => .nil
  | _, _, .cons h t => .cons (Rp.mono s h) (RpAll.mono s t)
end
section
variable {K : PySem.W.Frag} {H H' : Hp}
theorem RpAll.len : ∀ {vs : List V} {ds : List PyData}, RpAll K H vs ds → vs.length = ds.length
  | _, _, .nil => rfl
  | _, _, .cons _ t => congrArg (· + 1) t.len
theorem RpAll.get : ∀ {vs : List V} {ds : List PyData} {i : Nat} {d : PyData}, RpAll K H vs ds → ds[i]? = some d → ∃ v, vs[i]? = some v ∧ Rp K H v d
  | _, _, _, _, .nil, e => by simp at e
  | _, _, 0, _, .cons h _, e => ⟨_, rfl, Option.some.inj e ▸ h⟩
  | _, _, i + 1, _, .cons _ t, e => by
    obtain ⟨v, h1, h2⟩ := t.get (i := i) (by simpa using e)
    exact ⟨v, by simpa using h1, h2⟩
theorem RpAll.getV : ∀ {vs : List V} {ds : List PyData} {i : Nat} {v : V}, RpAll K H vs ds → vs[i]? = some v → ∃ d, ds[i]? = some d ∧ Rp K H v d
  | _, _, _, _, .nil, e => by simp at e
  | _, _, 0, _, .cons h _, e => ⟨_, rfl, Option.some.inj e ▸ h⟩
  | _, _, i + 1, _, .cons _ t, e => by
    obtain ⟨v, h1, h2⟩ := t.getV (i := i) (by simpa using e)
    exact ⟨v, by simpa using h1, h2⟩
theorem RpAll.app : ∀ {vs ws : List V} {ds es : List PyData}, RpAll K H vs ds → RpAll K H ws es → RpAll K H (vs ++ ws) (ds ++ es)
  | _, _, _, _, .nil, t => t
  | _, _, _, _, .cons h r, t => .cons h (r.app t)
theorem RpAll.drop : ∀ {vs : List V} {ds : List PyData} (n : Nat), RpAll K H vs ds → RpAll K H (vs.drop n) (ds.drop n)
  | _, _, 0, r => r
  | _, _, _ + 1, .nil => .nil
  | _, _, n + 1, .cons _ t => t.drop n
theorem RpAll.take : ∀ {vs : List V} {ds : List PyData} (n : Nat), RpAll K H vs ds → RpAll K H (vs.take n) (ds.take n)
  | _, _, 0, _ => .nil
  | _, _, _ + 1, .nil => .nil
  | _, _, n + 1, .cons h t => .cons h (t.take n)
theorem RpAll.one {v : V} {d : PyData} (h : Rp K H v d) : RpAll K H [v] [d] := .cons h .nil
theorem RpAll.erase : ∀ {vs : List V} {ds : List PyData} (n : Nat), RpAll K H vs ds → RpAll K H (vs.eraseIdx n) (ds.eraseIdx n)
  | _, _, _, .nil => .nil
  | _, _, 0, .cons _ t => t
  | _, _, n + 1, .cons h t => .cons h (t.erase n)
theorem RpAll.rev : ∀ {vs : List V} {ds : List PyData}, RpAll K H vs ds → RpAll K H vs.reverse ds.reverse
  | _, _, .nil => .nil
  | _, _, .cons h t => by rw [List.reverse_cons, List.reverse_cons]; exact t.rev.app (.one h)
theorem RpAll.flat : ∀ (n : Nat) {vs : List V} {ds : List PyData}, RpAll K H vs ds → RpAll K H (List.replicate n vs).flatten (List.replicate n ds).flatten
  | 0, _, _, _ => .nil
  | n + 1, _, _, r => by rw [List.replicate_succ, List.replicate_succ, List.flatten_cons, List.flatten_cons]; exact r.app (RpAll.flat n r)
/-- whole numbers -/
theorem RpAll.ints : ∀ {vs : List V} {ns : List Int}, RpAll K H vs (ns.map .int) → vs = ns.map V.int
  | _, [], .nil => rfl
  | _, n :: ns, .cons h t => by cases h; rw [RpAll.ints t]; rfl
theorem RpAll.ofInts : ∀ (ns : List Int), RpAll K H (ns.map V.int) (ns.map .int)
  | [] => .nil
  | n :: ns => .cons (.int n) (RpAll.ofInts ns)
theorem RpAll.strs : ∀ {vs : List V} {ns : List Str}, RpAll K H vs (ns.map .str) → vs = ns.map V.str
  | _, [], .nil => rfl
  | _, n :: ns, .cons h t => by cases h; rw [RpAll.strs t]; rfl
theorem RpAll.ofStrs : ∀ (ns : List Str), RpAll K H (ns.map V.str) (ns.map .str)
  | [] => .nil
  | n :: ns => .cons (.str n) (RpAll.ofStrs ns)
theorem RpAll.bls : ∀ {vs : List V} {ns : List Bool}, RpAll K H vs (ns.map .bool) → vs = ns.map V.bl
  | _, [], .nil => rfl
  | _, n :: ns, .cons h t => by cases h; rw [RpAll.bls t]; rfl
end
/-! data without lists, dicts: what no change of a list can reach -/
mutual
def imm : PyData → Bool
  | .none => true
  | .bool _ => true
  | .int _ => true
  | .str _ => true
  | .tuple xs => immAll xs
  | .list _ => false
  | .dict _ => false
def immAll : List PyData → Bool
  | [] => true
  | x :: xs => imm x && immAll xs
end
mutual
/-- such data is seen with the lists at T hidden, too -/
theorem Rp.imm_hide {K : PySem.W.Frag} {S T : List Addr} {H : Hp} (hT : ∀ a ∈ T, ∀ (o : Obj) (xs : List V), H a ≠ some (.frz o (.tup xs))) : ∀ {d : PyData} {v : V}, imm d = true → Rp K (hide S H) v d → Rp K (hide (T ++ S) H) v d
  | .none, _, _, .non => .non
  | .bool _, _, _, .bl b => .bl b
  | .int _, _, _, .int i => .int i
  | .str _, _, _, .str x => .str x
  | .tuple ds, _, h, .tup (a := a) (xs := xs) e k z r => by
    obtain ⟨h1, h2⟩ := hide_some e
    have hn : a ∉ T := fun q => hT a q _ _ h2
    refine .tup (a := a) (xs := xs) ?_ k z (RpAll.imm_hide hT (by simpa [imm] using h) r)
    rw [hide_out (by simp [hn, h1])]
    exact h2
  | .list _, _, h, _ => by simp [imm] at h
  | .dict _, _, h, _ => by simp [imm] at h
theorem RpAll.imm_hide {K : PySem.W.Frag} {S T : List Addr} {H : Hp} (hT : ∀ a ∈ T, ∀ (o : Obj) (xs : List V), H a ≠ some (.frz o (.tup xs))) : ∀ {ds : List PyData} {vs : List V}, immAll ds = true → RpAll K (hide S H) vs ds → RpAll K (hide (T ++ S) H) vs ds
  | [], _, _, .nil => .nil
  | d :: ds, _, h, .cons r t => by
    have h' : imm d = true ∧ immAll ds = true := by simpa [immAll] using h
    exact .cons (Rp.imm_hide hT h'.1 r) (RpAll.imm_hide hT h'.2 t)
end
end DL

set_option Elab.async false
set_option linter.all false
set_option maxRecDepth 100000
namespace DL
open PySem PySem.Spec L2
set_option autoImplicit false

/-! ### what is fixed -/
structure Md where
  P : Program
  w : World
  K : PySem.W.Frag
  mg : PySem.Str → Option Value
  base : Heap
/-- a def's (or a block's) fixed surroundings: its names by slot, its scope, the calls that are allowed within -/
structure Ct where
  m : Md
  N : List PySem.Str
  sc : Scope
  rm : Nat
  /-- which cells are the block's own -/
  fnB : PySem.Str → Bool
structure Ct.Is (G : Ct) (X : Cx) : Prop where
  prog : X.prog = G.m.P
  w : X.w = G.m.w
  K : X.K = G.m.K
  mg : X.mg = G.m.mg
  base : X.base = G.m.base
  N : X.N = G.N
  nd : X.N.Nodup
  sc : X.env.scope = G.sc
  calm : X.calm = true
  rm : Room G.rm X.A
  xe : PassesOwn (model X.prog X.w) X.A X.env X.xe
  fn : ∀ x, X.fn x = G.fnB x
  nodbg : ∀ x ∈ G.N, (x == ("__debug__" : PySem.Str)) = false ∧ (x == ("__classdict__" : PySem.Str)) = false

abbrev DEnv := List (Option PyData)
structure Rel (K : PySem.W.Frag) (S : List Addr) (δ : DEnv) (σ : L2.St) (H : Hp) : Prop where
  len : σ.length = δ.length
  val : ∀ (i : Nat) (d : PyData), δ[i]? = some (some d) → ∃ v, σ[i]? = some (some v) ∧ Rp K (hide S H) v d
theorem Rel.mono {K : PySem.W.Frag} {S : List Addr} {δ : DEnv} {σ : L2.St} {H H' : Hp} (r : Rel K S δ σ H) (s : Same H H') : Rel K S δ σ H' :=
  ⟨r.len, fun i d e => let ⟨v, h1, h2⟩ := r.val i d e; ⟨v, h1, h2.mono (hide_mono s)⟩⟩
theorem Rel.set {K : PySem.W.Frag} {S : List Addr} {δ : DEnv} {σ : L2.St} {H : Hp} {i : Nat} {v : V} {d : PyData} (r : Rel K S δ σ H) (h : Rp K (hide S H) v d) : Rel K S (δ.set i (some d)) (σ.set i (some v)) H := by
  refine ⟨by simp [r.len], fun j e hj => ?_⟩
  by_cases q : i = j
  · subst q
    by_cases hl : i < δ.length
    · rw [List.getElem?_set_self hl] at hj
      cases hj
      exact ⟨v, List.getElem?_set_self (by rw [r.len]; exact hl), h⟩
    · rw [List.getElem?_eq_none (by simpa using hl)] at hj; cases hj
  · rw [List.getElem?_set_ne q] at hj ⊢
    exact r.val j e hj
theorem Rel.forget {K : PySem.W.Frag} {S : List Addr} {δ : DEnv} {σ : L2.St} {H : Hp} (r : Rel K S δ σ H) (i : Nat) (v : Option V) : Rel K S (δ.set i none) (σ.set i v) H := by
  refine ⟨by simp [r.len], fun j e hj => ?_⟩
  by_cases q : i = j
  · subst q
    by_cases hl : i < δ.length
    · rw [List.getElem?_set_self hl] at hj; cases hj
    · rw [List.getElem?_eq_none (by simpa using hl)] at hj; cases hj
  · rw [List.getElem?_set_ne q] at hj ⊢
    exact r.val j e hj

/-! ### the judgements -/
/-- a reading by a relation of what the names hold and what comes of it -/
def tDR (K : PySem.W.Frag) (R : DEnv → PyData → Prop) : TE := fun σ H Q => ∃ S δ d, R δ d ∧ SOk S H ∧ Rel K S δ σ H ∧ ∀ v H', Same H H' → Rp K (hide S H') v d → Q v H'
def tDT (K : PySem.W.Frag) (R : DEnv → Bool → Prop) : TT := fun σ H Q => ∃ S δ b, R δ b ∧ SOk S H ∧ Rel K S δ σ H ∧ ∀ H', Same H H' → Q b H'
def tDA (K : PySem.W.Frag) (R : DEnv → List PyData → Prop) : TA := fun σ H Q => ∃ S δ ds, R δ ds ∧ SOk S H ∧ Rel K S δ σ H ∧ ∀ vs H', Same H H' → RpAll K (hide S H') vs ds → Q vs H'
/-- e gives d where the names hold what δ says -/
def DV (G : Ct) (δ : DEnv) (e : Expr) (d : PyData) : Prop := ∀ X, G.Is X → PE X e (tDR G.m.K fun δ' d' => δ' = δ ∧ d' = d)
def DT (G : Ct) (δ : DEnv) (e : Expr) (b : Bool) : Prop := ∀ X, G.Is X → PT X e (tDT G.m.K fun δ' b' => δ' = δ ∧ b' = b)
/-- a test whatever its whole is -/
def DW (G : Ct) (δ : DEnv) (e : Expr) (b : Bool) : Prop := ∀ X, G.Is X → PW X e (tDT G.m.K fun δ' b' => δ' = δ ∧ b' = b)
def DA (G : Ct) (δ : DEnv) (es : List Expr) (ds : List PyData) : Prop := ∀ X, G.Is X → PA X es (tDA G.m.K fun δ' d' => δ' = δ ∧ d' = ds)
section
variable {X : Cx} {e : Expr} {es : List Expr} {K : PySem.W.Frag}
theorem PE.imp {t t' : TE} (h : PE X e t) (w : ∀ σ H Q, t' σ H Q → t σ H Q) : PE X e t' := ⟨fun pins s σ H Q I q => h.run pins s σ H Q I (w _ _ _ q)⟩
theorem PT.imp {t t' : TT} (h : PT X e t) (w : ∀ σ H Q, t' σ H Q → t σ H Q) : PT X e t' := ⟨fun pins s σ H Q I q => h.run pins s σ H Q I (w _ _ _ q)⟩
theorem PW.imp {t t' : TT} (h : PW X e t) (w : ∀ σ H Q, t' σ H Q → t σ H Q) : PW X e t' := ⟨fun wh pins s σ H Q I q => h.run wh pins s σ H Q I (w _ _ _ q)⟩
theorem PA.imp {t t' : TA} (h : PA X es t) (w : ∀ σ H Q, t' σ H Q → t σ H Q) : PA X es t' := ⟨fun pos pins s σ H Q I q => h.run pos pins s σ H Q I (w _ _ _ q)⟩
theorem PE.rel {R : DEnv → PyData → Prop} (h : ∀ δ d, R δ d → PE X e (tDR K fun δ' d' => δ' = δ ∧ d' = d)) : PE X e (tDR K R) :=
  ⟨fun pins s σ H Q I ⟨S, δ, d, r, q⟩ => (h δ d r).run pins s σ H Q I ⟨S, δ, d, ⟨rfl, rfl⟩, q⟩⟩
theorem PT.rel {R : DEnv → Bool → Prop} (h : ∀ δ d, R δ d → PT X e (tDT K fun δ' d' => δ' = δ ∧ d' = d)) : PT X e (tDT K R) :=
  ⟨fun pins s σ H Q I ⟨S, δ, d, r, q⟩ => (h δ d r).run pins s σ H Q I ⟨S, δ, d, ⟨rfl, rfl⟩, q⟩⟩
end
section
variable {G : Ct} {δ : DEnv} {a b e c : Expr} {es rest : List Expr} {x y d : PyData} {ds : List PyData} {pos : Pos}
theorem DV.conv (h : DV G δ e d) {d' : PyData} (q : d = d') : DV G δ e d' := q ▸ h
theorem DT.conv {b b' : Bool} (h : DT G δ e b) (q : b = b') : DT G δ e b' := q ▸ h
theorem dv_cst {v : V} (hp : ∀ X, G.Is X → PE X e (tC v)) (hr : ∀ H, Rp G.m.K H v d) : DV G δ e d := fun X h => PE.imp (hp X h) fun σ H Q ⟨S, δ', d', ⟨e1, e2⟩, ok, r, q⟩ => by
  subst e1 e2
  exact q v H (Same.refl H) (hr _)
theorem dv_int {i : Int} {j} : DV G δ (.Constant (.int i) j pos) (.int i) := dv_cst (fun _ _ => pe_int) fun _ => .int i
theorem dv_bl {i : Bool} {j} : DV G δ (.Constant (.bool i) j pos) (.bool i) := dv_cst (fun _ _ => pe_bl) fun _ => .bl i
theorem dv_str {i : PySem.Str} {j} : DV G δ (.Constant (.str i) j pos) (.str i) := dv_cst (fun _ _ => pe_str) fun _ => .str i
theorem dv_non {j} : DV G δ (.Constant .none j pos) .none := dv_cst (fun _ _ => pe_non) fun _ => .non
/-- names that one may read -/
def visB (sc : Scope) (x : PySem.Str) : Bool := match sc.names.lookup x with
  | some .local => true
  | some .cell => true
  | some .free => true
  | _ => false
theorem vis_of {sc : Scope} {x : PySem.Str} (h : visB sc x = true) : Vis sc x := by
  unfold visB at h
  unfold Vis
  split at h <;> simp_all
/-- names that one may store -/
def locB (G : Ct) (x : PySem.Str) : Bool := match G.sc.names.lookup x with
  | some .local => true
  | some .cell => G.fnB x
  | _ => false
theorem loc_of {x : PySem.Str} (h : locB G x = true) : L2.Loc G.sc x := by
  unfold locB at h
  unfold L2.Loc
  split at h <;> simp_all
theorem loc_fn {X : Cx} (hX : G.Is X) {x : PySem.Str} (h : locB G x = true) : X.fn x = true ∨ X.env.scope.names.lookup x = some .local := by
  rw [hX.fn, hX.sc]
  unfold locB at h
  split at h <;> simp_all
theorem dv_n (i : Nat) {x : PySem.Str} (hN : G.N[i]? = some x) (hv : visB G.sc x = true) (hd : δ[i]? = some (some d)) : DV G δ (.Name x pos) d := fun X h => by
  have hN' : X.N[i]? = some x := by rw [h.N]; exact hN
  have hx := h.nodbg x (List.mem_of_getElem? hN)
  refine PE.imp (pe_var hN' (by rw [h.sc]; exact vis_of hv) hx.1 hx.2) fun σ H Q ⟨S, δ', d', ⟨e1, e2⟩, ok, r, q⟩ => ?_
  subst e1 e2
  obtain ⟨v, h1, h2⟩ := r.val i _ hd
  exact ⟨v, h1, q v H (Same.refl H) h2⟩
/-- two parts -/
theorem dv_bin {f : Value → Value → Sem Value} {r : R2} (hp : ∀ X, G.Is X → ∀ {ta tb : TE}, PE X a ta → PE X b tb → PE X e (tOp r ta tb)) (ha : DV G δ a x) (hb : DV G δ b y)
    (hr : ∀ S H v w Q, SOk S H → Rp G.m.K (hide S H) v x → Rp G.m.K (hide S H) w y → (∀ u H', Same H H' → Rp G.m.K (hide S H') u d → Q u H') → r v w H Q) : DV G δ e d := fun X h =>
  PE.imp (hp X h (ha X h) (hb X h)) fun σ H Q ⟨S, δ', d', ⟨e1, e2⟩, ok, R, q⟩ => by
    subst e1 e2
    exact ⟨S, _, _, ⟨rfl, rfl⟩, ok, R, fun v H1 s1 r1 => ⟨S, _, _, ⟨rfl, rfl⟩, ok.mono s1, R.mono s1, fun w H2 s2 r2 =>
      hr S H2 v w Q ((ok.mono s1).mono s2) (r1.mono (hide_mono s2)) r2 fun u H3 s3 r3 => q u H3 ((s1.trans s2).trans s3) r3⟩⟩
theorem dv_op {op : Operator} {r : R2} (ho : ∀ X, G.Is X → OpR X (binaryOp op) r) (ha : DV G δ a x) (hb : DV G δ b y)
    (hr : ∀ S H v w Q, SOk S H → Rp G.m.K (hide S H) v x → Rp G.m.K (hide S H) w y → (∀ u H', Same H H' → Rp G.m.K (hide S H') u d → Q u H') → r v w H Q) : DV G δ (.BinOp a op b pos) d :=
  dv_bin (f := binaryOp op) (fun X h _ _ p q => pe_op (ho X h) p q) ha hb hr
/-- one part -/
theorem dv_un {r : V → Hp → VK → Prop} (hp : ∀ X, G.Is X → ∀ {ta : TE}, PE X a ta → PE X e (tUn r ta)) (ha : DV G δ a x)
    (hr : ∀ S H v Q, SOk S H → Rp G.m.K (hide S H) v x → (∀ u H', Same H H' → Rp G.m.K (hide S H') u d → Q u H') → r v H Q) : DV G δ e d := fun X h =>
  PE.imp (hp X h (ha X h)) fun σ H Q ⟨S, δ', d', ⟨e1, e2⟩, ok, R, q⟩ => by
    subst e1 e2
    exact ⟨S, _, _, ⟨rfl, rfl⟩, ok, R, fun v H1 s1 r1 => hr S H1 v Q (ok.mono s1) r1 fun u H3 s3 r3 => q u H3 (s1.trans s3) r3⟩
theorem dv_neg {i : Int} (ha : DV G δ a (.int i)) : DV G δ (.UnaryOp .USub a pos) (.int (-i)) :=
  dv_un (r := rU fun i => .int (-i)) (fun X h _ p => pe_un un_neg p) ha fun S H v Q ok r q => by
    cases r
    exact ⟨i, rfl, q _ H (Same.refl H) (.int _)⟩

/-! ### arguments, displays -/
theorem da_nil : DA G δ [] [] := fun X h => PA.imp pa_nil fun σ H Q ⟨S, δ', d', ⟨e1, e2⟩, ok, R, q⟩ => by
  subst e1 e2
  exact q [] H (Same.refl H) .nil
theorem da_cons (ha : DV G δ a x) (hr : DA G δ es ds) (hs : ∀ env : Env, starEach (a :: es) env = (false, eval a env) :: starEach es env := by intro _; rfl) : DA G δ (a :: es) (x :: ds) := fun X h =>
  PA.imp (pa_cons (ha X h) (hr X h) (hs _)) fun σ H Q ⟨S, δ', d', ⟨e1, e2⟩, ok, R, q⟩ => by
    subst e1 e2
    exact ⟨S, _, _, ⟨rfl, rfl⟩, ok, R, fun v H1 s1 r1 => ⟨S, _, _, ⟨rfl, rfl⟩, ok.mono s1, R.mono s1, fun w H2 s2 r2 => q (v :: w) H2 (s1.trans s2) (.cons (r1.mono (hide_mono s2)) r2)⟩⟩
/-! tuples: what stands at the address is known, its own dict is none -/
theorem inv_tnew {X : Cx} {pins : List (Addr × Obj)} {σ : L2.St} {H : Hp} {s : Shared} {ys : List V} {its : List Value} {t' : Nat} (I : Inv X pins σ H s) (hv : Vals ys its) (hz : ys.length ≤ sizeLine) :
    Inv X pins σ (upd H s.heap.objs.size (.frz { cls := .type "tuple", data := .seq its.toArray } (.tup ys))) { s with heap := s.heap.push { cls := .type "tuple", data := .seq its.toArray }, toks := t' } :=
  I.laid (fun _ _ q => Heap.get?_push_of_some _ q) (Nat.le_refl _) ⟨Heap.get?_push_size _ rfl, hz, its, hv, PyProof.Rows.IsTup.new _ _⟩
/-- a new tuple of these -/
abbrev NewT (H : Hp) (xs : List V) (Q : VK) : Prop := ∀ (p : Addr) (o : Obj), H p = none → o.dict = none → Q (.ref p) (upd H p (.frz o (.tup xs)))
theorem newT {X : Cx} {pins : List (Addr × Obj)} {σ : L2.St} {H : Hp} {s : Shared} {ys : List V} {its : List Value} {t' : Nat} {Q : VK} (I : Inv X pins σ H s) (hv : Vals ys its) (hz : ys.length ≤ sizeLine) (q : NewT H ys Q) :
    EP X pins σ Q (.ref s.heap.objs.size) { s with heap := s.heap.push { cls := .type "tuple", data := .seq its.toArray }, toks := t' } :=
  ⟨.ref s.heap.objs.size, _, inv_tnew I hv hz, rfl, q _ { cls := .type "tuple", data := .seq its.toArray } (I.hok.fresh (Nat.le_refl _)) rfl⟩
theorem SqT.frz {K : PySem.W.Frag} {H : Hp} {a : Addr} {o : Obj} {xs : List V} (e : H a = some (.frz o (.tup xs))) : SqT K H a xs := .inl (.inr ⟨o, e⟩)
theorem Rp.newT {K : PySem.W.Frag} {S : List Addr} {H H0 : Hp} {xs : List V} {ds : List PyData} {Q : VK} (ok : SOk S H) (hz : xs.length ≤ sizeLine) (r : RpAll K (hide S H) xs ds) (s0 : Same H0 H) (q : ∀ v H', Same H0 H' → Rp K (hide S H') v (.tuple ds) → Q v H') : NewT H xs Q :=
  fun p _ hp ho => q _ _ (s0.trans (same_upd hp _)) (.tup (hide_upd_at ok hp) ho hz (r.mono (hide_mono (same_upd hp _))))
def tTupF (t : TA) : TE := fun σ H Q => t σ H fun xs H1 => xs.length ≤ sizeLine ∧ NewT H1 xs Q
theorem pe_tupF {X : Cx} {t : TA} {k} (h : PA X es t) : PE X (.Tuple es k pos) (tTupF t) := by
  refine ⟨fun pins s σ H Q I hq => ?_⟩
  refine wpAny_Tuple_spliced (thn (h.run pos pins s σ H _ I hq) fun us s1 ⟨xs, H1, I1, r, z, q⟩ => ⟨by rw [← r.length]; exact z, ?_⟩)
  exact newT (t' := s1.toks) I1 r z q
theorem dv_tup {k} (h : DA G δ es ds) (hz : ds.length ≤ 1000) : DV G δ (.Tuple es k pos) (.tuple ds) := fun X hX =>
  PE.imp (pe_tupF (h X hX)) fun σ H Q ⟨S, δ', d', ⟨e1, e2⟩, ok, R, q⟩ => by
    subst e1 e2
    refine ⟨S, _, _, ⟨rfl, rfl⟩, ok, R, fun vs H1 s1 r1 => ?_⟩
    have hz' : vs.length ≤ sizeLine := by rw [r1.len]; exact Nat.le_of_lt (small1000 hz)
    exact ⟨hz', Rp.newT (ok.mono s1) hz' r1 s1 q⟩
/-- a list that is new: made last, its items stood ahead -/
def tDN (K : PySem.W.Frag) (R : DEnv → List PyData → Prop) : TE := fun σ H Q => ∃ S δ ds, R δ ds ∧ SOk S H ∧ Rel K S δ σ H ∧
  ∀ xs p H', Same H H' → H' p = none → xs.length ≤ sizeLine → RpAll K (hide S H') xs ds → Q (.ref p) (upd H' p (.lst xs))
def DN (G : Ct) (δ : DEnv) (e : Expr) (ds : List PyData) : Prop := ∀ X, G.Is X → PE X e (tDN G.m.K fun δ' d' => δ' = δ ∧ d' = ds)
theorem dn_dv (h : DN G δ e ds) : DV G δ e (.list ds) := fun X hX =>
  PE.imp (h X hX) fun σ H Q ⟨S, δ', d', ⟨e1, e2⟩, ok, R, q⟩ => by
    subst e1 e2
    exact ⟨S, _, _, ⟨rfl, rfl⟩, ok, R, fun xs p H1 s1 hp hz r1 => q _ _ (s1.trans (same_upd hp _)) (.lst (hide_upd_at (ok.mono s1) hp) hz (r1.mono (hide_mono (same_upd hp _))))⟩
theorem DN.conv (h : DN G δ e ds) {ds' : List PyData} (q : ds = ds') : DN G δ e ds' := q ▸ h
theorem dn_lst (h : DA G δ es ds) (hz : ds.length ≤ 1000) : DN G δ (.List es pos) ds := fun X hX =>
  PE.imp (pe_lst (h X hX)) fun σ H Q ⟨S, δ', d', ⟨e1, e2⟩, ok, R, q⟩ => by
    subst e1 e2
    exact ⟨S, _, _, ⟨rfl, rfl⟩, ok, R, fun vs H1 s1 r1 => ⟨by rw [r1.len]; exact Nat.le_of_lt (small1000 hz), fun p hp => q vs p H1 s1 hp (by rw [r1.len]; exact Nat.le_of_lt (small1000 hz)) r1⟩⟩

/-! ### tests, and, or, not -/
theorem dt_val {k : Bool} (ha : DV G δ e (.bool k)) (he : ∀ (env : Env) whole, isTrue e env whole = (do let v ← whole; standAt e.pos; holding [v] (truthy v)) := by intro _ _; rfl) : DT G δ e k := fun X h =>
  PT.imp (pt_val (ha X h) (he _)) fun σ H Q ⟨S, δ', d', ⟨e1, e2⟩, ok, R, q⟩ => by
    subst e1 e2
    exact ⟨S, _, _, ⟨rfl, rfl⟩, ok, R, fun v H1 s1 r1 => by cases r1; exact ⟨_, rfl, q H1 s1⟩⟩
theorem dt_w {k : Bool} (h : DW G δ e k) : DT G δ e k := fun X hX => (h X hX).pt
theorem dw_and1 {k : Bool} (h : DT G δ a k) : DW G δ (.BoolOp .And [a] pos) k := fun X hX => pw_and1 (h X hX)
theorem dw_or1 {k : Bool} (h : DT G δ a k) : DW G δ (.BoolOp .Or [a] pos) k := fun X hX => pw_or1 (h X hX)
theorem dw_and {k j : Bool} (ha : DT G δ a k) (hb : k = true → DW G δ (.BoolOp .And (b :: rest) pos) j) : DW G δ (.BoolOp .And (a :: b :: rest) pos) (k && j) := fun X h => by
  cases k with
  | true =>
    refine PW.imp (pw_and (ha X h) (hb rfl X h)) fun σ H Q ⟨S, δ', d', ⟨e1, e2⟩, ok, R, q⟩ => ?_
    subst e1 e2
    refine ⟨S, _, _, ⟨rfl, rfl⟩, ok, R, fun H1 s1 => ?_⟩
    refine iteT ?_
    exact ⟨S, _, _, ⟨rfl, rfl⟩, ok.mono s1, R.mono s1, fun H2 s2 => q H2 (s1.trans s2)⟩
  | false =>
    refine ⟨fun wh pins s σ H Q I ⟨S, δ', d', ⟨e1, e2⟩, ok, R, q⟩ => ?_⟩
    subst e1 e2
    refine PyProof.Rows.isTrue_and (thn ((ha X h).run pins s σ H (fun c H1 => c = false ∧ Q false H1) I ⟨S, _, _, ⟨rfl, rfl⟩, ok, R, fun H1 s1 => ⟨rfl, q H1 s1⟩⟩) fun c s1 ⟨H1, I1, ec, q1⟩ => ?_)
    subst ec
    exact ⟨H1, I1, q1⟩
theorem dw_or {k j : Bool} (ha : DT G δ a k) (hb : k = false → DW G δ (.BoolOp .Or (b :: rest) pos) j) : DW G δ (.BoolOp .Or (a :: b :: rest) pos) (k || j) := fun X h => by
  cases k with
  | false =>
    refine PW.imp (pw_or (ha X h) (hb rfl X h)) fun σ H Q ⟨S, δ', d', ⟨e1, e2⟩, ok, R, q⟩ => ?_
    subst e1 e2
    refine ⟨S, _, _, ⟨rfl, rfl⟩, ok, R, fun H1 s1 => ?_⟩
    refine iteF ?_
    exact ⟨S, _, _, ⟨rfl, rfl⟩, ok.mono s1, R.mono s1, fun H2 s2 => q H2 (s1.trans s2)⟩
  | true =>
    refine ⟨fun wh pins s σ H Q I ⟨S, δ', d', ⟨e1, e2⟩, ok, R, q⟩ => ?_⟩
    subst e1 e2
    refine PyProof.Rows.isTrue_or (thn ((ha X h).run pins s σ H (fun c H1 => c = true ∧ Q true H1) I ⟨S, _, _, ⟨rfl, rfl⟩, ok, R, fun H1 s1 => ⟨rfl, q H1 s1⟩⟩) fun c s1 ⟨H1, I1, ec, q1⟩ => ?_)
    subst ec
    exact ⟨H1, I1, q1⟩
theorem dt_not {k : Bool} (ha : DT G δ a k) : DT G δ (.UnaryOp .Not a pos) (!k) := fun X h =>
  PT.imp (pt_not (ha X h)) fun σ H Q ⟨S, δ', d', ⟨e1, e2⟩, ok, R, q⟩ => by
    subst e1 e2
    exact ⟨S, _, _, ⟨rfl, rfl⟩, ok, R, fun H1 s1 => q H1 s1⟩
/-- .. as values -/
theorem dv_bop1 {op : BoolOp} (ha : DV G δ a x) : DV G δ (.BoolOp op [a] pos) x := fun X h => pe_one (ha X h)
theorem dv_and {k j : Bool} (ha : DV G δ a (.bool k)) (hb : k = true → DV G δ (.BoolOp .And (b :: rest) pos) (.bool j)) : DV G δ (.BoolOp .And (a :: b :: rest) pos) (.bool (k && j)) := fun X h => by
  cases k with
  | true =>
    refine PE.imp (pe_and (ha X h) (hb rfl X h)) fun σ H Q ⟨S, δ', d', ⟨e1, e2⟩, ok, R, q⟩ => ?_
    subst e1 e2
    refine ⟨S, _, _, ⟨rfl, rfl⟩, ok, R, fun v H1 s1 r1 => ?_⟩
    cases r1
    refine ⟨true, rfl, ?_⟩
    refine iteT ?_
    exact ⟨S, _, _, ⟨rfl, rfl⟩, ok.mono s1, R.mono s1, fun v H2 s2 r2 => q v H2 (s1.trans s2) r2⟩
  | false =>
    refine ⟨fun pins s σ H Q I ⟨S, δ', d', ⟨e1, e2⟩, ok, R, q⟩ => ?_⟩
    subst e1 e2
    refine PyProof.Rows.BoolOp_and (thn ((ha X h).run pins s σ H (fun v H1 => v = .bl false ∧ Q (.bl false) H1) I ⟨S, _, _, ⟨rfl, rfl⟩, ok, R, fun v H1 s1 r1 => by cases r1; exact ⟨rfl, q _ H1 s1 (.bl _)⟩⟩) fun u s1 ⟨v, H1, I1, ru, ev, q1⟩ => ?_)
    subst ev
    cases ru
    exact wpAny_truthy_bool ⟨.bl false, H1, I1, rfl, q1⟩
theorem dv_or {k j : Bool} (ha : DV G δ a (.bool k)) (hb : k = false → DV G δ (.BoolOp .Or (b :: rest) pos) (.bool j)) : DV G δ (.BoolOp .Or (a :: b :: rest) pos) (.bool (k || j)) := fun X h => by
  cases k with
  | false =>
    refine PE.imp (pe_or (ha X h) (hb rfl X h)) fun σ H Q ⟨S, δ', d', ⟨e1, e2⟩, ok, R, q⟩ => ?_
    subst e1 e2
    refine ⟨S, _, _, ⟨rfl, rfl⟩, ok, R, fun v H1 s1 r1 => ?_⟩
    cases r1
    refine ⟨false, rfl, ?_⟩
    refine iteF ?_
    exact ⟨S, _, _, ⟨rfl, rfl⟩, ok.mono s1, R.mono s1, fun v H2 s2 r2 => q v H2 (s1.trans s2) r2⟩
  | true =>
    refine ⟨fun pins s σ H Q I ⟨S, δ', d', ⟨e1, e2⟩, ok, R, q⟩ => ?_⟩
    subst e1 e2
    refine PyProof.Rows.BoolOp_or (thn ((ha X h).run pins s σ H (fun v H1 => v = .bl true ∧ Q (.bl true) H1) I ⟨S, _, _, ⟨rfl, rfl⟩, ok, R, fun v H1 s1 r1 => by cases r1; exact ⟨rfl, q _ H1 s1 (.bl _)⟩⟩) fun u s1 ⟨v, H1, I1, ru, ev, q1⟩ => ?_)
    subst ev
    cases ru
    exact wpAny_truthy_bool ⟨.bl true, H1, I1, rfl, q1⟩
theorem dv_not {k : Bool} (ha : DV G δ a (.bool k)) : DV G δ (.UnaryOp .Not a pos) (.bool (!k)) := fun X h =>
  PE.imp (pe_not (ha X h)) fun σ H Q ⟨S, δ', d', ⟨e1, e2⟩, ok, R, q⟩ => by
    subst e1 e2
    exact ⟨S, _, _, ⟨rfl, rfl⟩, ok, R, fun v H1 s1 r1 => by cases r1; exact ⟨_, rfl, q _ H1 s1 (.bl _)⟩⟩
end
end DL

set_option Elab.async false
set_option linter.all false
set_option maxRecDepth 100000
namespace DL
open PySem PySem.Spec L2
set_option autoImplicit false

/-! ### data for the library's own equality -/
mutual
theorem Rp.toDp {K : PySem.W.Frag} {S : List Addr} {H : Hp} : ∀ {d : PyData} {v : V}, d.canLay0 = true → Rp K (hide S H) v d → Dp K H v d
  | .none, _, _, .non => .non
  | .bool _, _, _, .bl b => .bl b
  | .int _, _, _, .int i => .int i
  | .str _, _, _, .str x => .str x
  | .tuple ds, _, h, .tup e _ z r => .tup (SqT.frz (hide_some e).2) (RpAll.toDp (by simpa [PyData.canLay0] using h) r)
  | .list ds, _, h, .lst e z r => .lst (SqL.of (hide_some e).2) (RpAll.toDp (by simpa [PyData.canLay0] using h) r)
  | .dict _, _, h, _ => by simp [PyData.canLay0] at h
theorem RpAll.toDp {K : PySem.W.Frag} {S : List Addr} {H : Hp} : ∀ {ds : List PyData} {vs : List V}, PyData.canLayAll0 ds = true → RpAll K (hide S H) vs ds → DpAll K H vs ds
  | [], _, _, .nil => .nil
  | d :: ds, _, h, .cons r t => by
    have h' : d.canLay0 = true ∧ PyData.canLayAll0 ds = true := by simpa [PyData.canLayAll0] using h
    exact .cons (Rp.toDp h'.1 r) (RpAll.toDp h'.2 t)
end
theorem lay_of {d : PyData} (h : SeqAt.shaped d = true) : d.canLay0 = true := SeqAt.canLay_of_shaped h
/-! tuple + tuple, tuple * int -/
def rCatF (K : PySem.W.Frag) : R2 := fun x y H Q => ∃ a b xs ys, x = .ref a ∧ y = .ref b ∧ SqT K H a xs ∧ SqT K H b ys ∧ xs.length + ys.length ≤ sizeLine ∧
  (xs = [] → Q (.ref b) H) ∧ (ys = [] → Q (.ref a) H) ∧ NewT H (xs ++ ys) Q
theorem op_catF {X : Cx} : OpR X (binaryOp .Add) (rCatF X.K) := by
  intro pins s σ H x y v u Q I rx ry h
  obtain ⟨a, b, xs, ys, ex, ey, ha, hb, hz, q0, q1, q2⟩ := h
  subst ex ey
  obtain rfl : v = .ref a := rx
  obtain rfl : u = .ref b := ry
  obtain ⟨i1, r1, p1, z1⟩ := I.tuple ha
  obtain ⟨i2, r2, p2, z2⟩ := I.tuple hb
  by_cases hx : i1 = []
  · subst hx
    exact cat_tup0 p1 p2 ⟨.ref b, H, I, rfl, q0 (by cases r1; rfl)⟩
  · refine HT.cat_tup p1 p2 hx (fun e => ⟨.ref a, H, I, rfl, q1 (r2.nil_iff.mp e)⟩) (fun _ => ?_) (by rw [← r1.length, ← r2.length]; exact hz)
    exact newT (t' := s.toks) I (r1.append r2) (by rw [List.length_append]; exact hz) q2
section
variable {G : Ct} {δ : DEnv} {a b c e : Expr} {es rest : List Expr} {x y z d : PyData} {ds : List PyData} {pos : Pos}
/-! ### + - * % // -/
inductive DAdd : PyData → PyData → PyData → Prop
  | int (i j : Int) : DAdd (.int i) (.int j) (.int (i + j))
  | str (i j : PySem.Str) (h : i.length + j.length ≤ sizeLine) : DAdd (.str i) (.str j) (.str (i ++ j))
  | tup (xs ys : List PyData) (h : xs.length + ys.length ≤ 1000) : DAdd (.tuple xs) (.tuple ys) (.tuple (xs ++ ys))
theorem dv_add (ha : DV G δ a x) (hb : DV G δ b y) (h : DAdd x y d) : DV G δ (.BinOp a .Add b pos) d := by
  cases h with
  | int i j =>
    refine dv_op (r := rI0 fun i j => .int (i + j)) (fun _ _ => op_add) ha hb fun S H v w Q ok r1 r2 q => ?_
    cases r1
    cases r2
    exact ⟨i, j, rfl, rfl, q _ H (Same.refl H) (.int _)⟩
  | str i j h =>
    refine dv_op (r := fun x y H Q => ∃ i j, x = .str i ∧ y = .str j ∧ i.length + j.length ≤ sizeLine ∧ Q (.str (i ++ j)) H) (fun _ _ => op_add_str) ha hb fun S H v w Q ok r1 r2 q => ?_
    cases r1
    cases r2
    exact ⟨i, j, rfl, rfl, h, q _ H (Same.refl H) (.str _)⟩
  | tup xs ys h =>
    refine dv_op (r := rCatF G.m.K) (fun X hX => hX.K ▸ op_catF) ha hb fun S H v w Q ok r1 r2 q => ?_
    cases r1 with
    | tup e1 k1 z1 a1 =>
      cases r2 with
      | tup e2 k2 z2 a2 =>
        rename_i p vs _ p' ws _
        have hz : vs.length + ws.length ≤ sizeLine := by rw [a1.len, a2.len]; exact Nat.le_of_lt (small1000 h)
        refine ⟨p, p', vs, ws, rfl, rfl, SqT.frz (hide_some e1).2, SqT.frz (hide_some e2).2, hz, fun hx => ?_, fun hy => ?_, Rp.newT ok (by rw [List.length_append]; exact hz) (a1.app a2) (Same.refl H) q⟩
        · subst hx
          cases a1
          exact q _ H (Same.refl H) (.tup e2 k2 z2 a2)
        · subst hy
          cases a2
          rw [List.append_nil] at q
          exact q _ H (Same.refl H) (.tup e1 k1 z1 a1)
/-- list + list: a new one -/
theorem dn_cat {xs ys : List PyData} (ha : DV G δ a (.list xs)) (hb : DV G δ b (.list ys)) (h : xs.length + ys.length ≤ 1000) : DN G δ (.BinOp a .Add b pos) (xs ++ ys) := fun X hX =>
  PE.imp (pe_op op_cat (ha X hX) (hb X hX)) fun σ H Q ⟨S, δ', d', ⟨e1, e2⟩, ok, R, q⟩ => by
    subst e1 e2
    refine ⟨S, _, _, ⟨rfl, rfl⟩, ok, R, fun v H1 s1 r1 => ⟨S, _, _, ⟨rfl, rfl⟩, ok.mono s1, R.mono s1, fun w H2 s2 r2 => ?_⟩⟩
    cases r1 with
    | lst e1 z1 a1 =>
      cases r2 with
      | lst e2 z2 a2 =>
        rename_i p vs p' ws
        have hz : vs.length + ws.length ≤ sizeLine := by rw [a1.len, a2.len]; exact Nat.le_of_lt (small1000 h)
        exact ⟨p, p', vs, ws, rfl, rfl, s2 _ _ (hide_some e1).2, (hide_some e2).2, hz, fun t ht => q _ t H2 (s1.trans s2) ht (by rw [List.length_append]; exact hz) ((a1.mono (hide_mono s2)).app a2)⟩
theorem dv_sub {i j : Int} (ha : DV G δ a (.int i)) (hb : DV G δ b (.int j)) : DV G δ (.BinOp a .Sub b pos) (.int (i - j)) :=
  dv_op (r := rI0 fun i j => .int (i - j)) (fun _ _ => op_sub) ha hb fun S H v w Q ok r1 r2 q => by
    cases r1
    cases r2
    exact ⟨i, j, rfl, rfl, q _ H (Same.refl H) (.int _)⟩
theorem dv_mul {i j : Int} (ha : DV G δ a (.int i)) (hb : DV G δ b (.int j)) (h : CMulW i j) : DV G δ (.BinOp a .Mult b pos) (.int (i * j)) :=
  dv_op (r := rI CMulW fun i j => .int (i * j)) (fun _ _ => op_mulW) ha hb fun S H v w Q ok r1 r2 q => by
    cases r1
    cases r2
    exact ⟨i, j, rfl, rfl, h, q _ H (Same.refl H) (.int _)⟩
theorem dv_mod {i j : Int} (ha : DV G δ a (.int i)) (hb : DV G δ b (.int j)) (h : 0 < j) : DV G δ (.BinOp a .Mod b pos) (.int (i % j)) :=
  dv_op (r := rI (fun _ j => 0 < j) fun i j => .int (i % j)) (fun _ _ => op_mod) ha hb fun S H v w Q ok r1 r2 q => by
    cases r1
    cases r2
    exact ⟨i, j, rfl, rfl, h, q _ H (Same.refl H) (.int _)⟩
theorem dv_fdiv {i j : Int} (ha : DV G δ a (.int i)) (hb : DV G δ b (.int j)) (h : CDivW i j) : DV G δ (.BinOp a .FloorDiv b pos) (.int (i / j)) :=
  dv_op (r := rI CDivW fun i j => .int (i / j)) (fun _ _ => op_fdivW) ha hb fun S H v w Q ok r1 r2 q => by
    cases r1
    cases r2
    exact ⟨i, j, rfl, rfl, h, q _ H (Same.refl H) (.int _)⟩
/-! ### comparisons: of two parts, an answer -/
structure DC (G : Ct) (δ : DEnv) (op : CmpOp) (a b : Expr) (k : Bool) : Prop where
  ex : ∃ x y, DV G δ a x ∧ DV G δ b y ∧ ∀ X, G.Is X → ∃ r : R2, OpR X (compareOp op) r ∧ ∀ S H v w (Q : VK), SOk S H → Rp G.m.K (hide S H) v x → Rp G.m.K (hide S H) w y → Q (.bl k) H → r v w H Q
theorem DC.conv {op : CmpOp} {k k' : Bool} (h : DC G δ op a b k) (q : k = k') : DC G δ op a b k' := q ▸ h
theorem dv_c {op : CmpOp} {k : Bool} (h : DC G δ op a b k) (hm : behindInMarks op b = false := by first | exact nomark _ | rfl) : DV G δ (.Compare a [op] [b] pos) (.bool k) := fun X hX => by
  obtain ⟨x, y, ha, hb, hr⟩ := h.ex
  obtain ⟨r, ho, hq⟩ := hr X hX
  refine PE.imp (pe_cmpR ho (ha X hX) (hb X hX) hm) fun σ H Q ⟨S, δ', d', ⟨e1, e2⟩, ok, R, q⟩ => ?_
  subst e1 e2
  exact ⟨S, _, _, ⟨rfl, rfl⟩, ok, R, fun v H1 s1 r1 => ⟨S, _, _, ⟨rfl, rfl⟩, ok.mono s1, R.mono s1, fun w H2 s2 r2 =>
    hq S H2 v w Q ((ok.mono s1).mono s2) (r1.mono (hide_mono s2)) r2 (q _ H2 (s1.trans s2) (.bl _))⟩⟩
theorem dt_c {op : CmpOp} {k : Bool} (h : DC G δ op a b k) (hm : behindInMarks op b = false := by first | exact nomark _ | rfl) : DT G δ (.Compare a [op] [b] pos) k := fun X hX => by
  obtain ⟨x, y, ha, hb, hr⟩ := h.ex
  obtain ⟨r, ho, hq⟩ := hr X hX
  refine PT.imp (pt_cmpR ho (ha X hX) (hb X hX) hm) fun σ H Q ⟨S, δ', d', ⟨e1, e2⟩, ok, R, q⟩ => ?_
  subst e1 e2
  exact ⟨S, _, _, ⟨rfl, rfl⟩, ok, R, fun v H1 s1 r1 => ⟨S, _, _, ⟨rfl, rfl⟩, ok.mono s1, R.mono s1, fun w H2 s2 r2 =>
    hq S H2 v w _ ((ok.mono s1).mono s2) (r1.mono (hide_mono s2)) r2 ⟨_, rfl, q H2 (s1.trans s2)⟩⟩⟩
theorem dc_lt {i j : Int} (ha : DV G δ a (.int i)) (hb : DV G δ b (.int j)) : DC G δ .Lt a b (decide (i < j)) :=
  ⟨_, _, ha, hb, fun X _ => ⟨_, op_lt, fun S H v w Q ok r1 r2 q => by cases r1; cases r2; exact ⟨i, j, rfl, rfl, q⟩⟩⟩
theorem dc_le {i j : Int} (ha : DV G δ a (.int i)) (hb : DV G δ b (.int j)) : DC G δ .LtE a b (decide (i ≤ j)) :=
  ⟨_, _, ha, hb, fun X _ => ⟨_, op_le, fun S H v w Q ok r1 r2 q => by cases r1; cases r2; exact ⟨i, j, rfl, rfl, q⟩⟩⟩
theorem dc_gt {i j : Int} (ha : DV G δ a (.int i)) (hb : DV G δ b (.int j)) : DC G δ .Gt a b (decide (j < i)) :=
  ⟨_, _, ha, hb, fun X _ => ⟨_, op_gt, fun S H v w Q ok r1 r2 q => by cases r1; cases r2; exact ⟨i, j, rfl, rfl, q⟩⟩⟩
theorem dc_ge {i j : Int} (ha : DV G δ a (.int i)) (hb : DV G δ b (.int j)) : DC G δ .GtE a b (decide (j ≤ i)) :=
  ⟨_, _, ha, hb, fun X _ => ⟨_, op_ge, fun S H v w Q ok r1 r2 q => by cases r1; cases r2; exact ⟨i, j, rfl, rfl, q⟩⟩⟩
/-- tuples of whole numbers -/
theorem dc_ltt {ns ms : List Int} (ha : DV G δ a (.tuple (ns.map .int))) (hb : DV G δ b (.tuple (ms.map .int))) : DC G δ .Lt a b (HT.lexLt ns ms) :=
  ⟨_, _, ha, hb, fun X hX => ⟨rLtT G.m.K, hX.K ▸ op_ltT hX.rm.units0, fun S H v w Q ok r1 r2 q => by
    cases r1 with
    | tup e1 _ z1 a1 =>
      cases r2 with
      | tup e2 _ z2 a2 =>
        have e3 := a1.ints
        have e4 := a2.ints
        subst e3 e4
        exact ⟨_, _, ns, ms, rfl, rfl, SqT.frz (hide_some e1).2, SqT.frz (hide_some e2).2, q⟩⟩⟩
theorem dc_eq (ha : DV G δ a x) (hb : DV G δ b y) (hx : SeqAt.shaped x = true) (hy : SeqAt.shaped y = true) : DC G δ .Eq a b (PyData.eqv x y) :=
  ⟨_, _, ha, hb, fun X hX => ⟨rEqD G.m.K, hX.K ▸ op_eqD hX.rm.units, fun S H v w Q ok r1 r2 q => ⟨x, y, r1.toDp (lay_of hx), r2.toDp (lay_of hy), hx, hy, q⟩⟩⟩
theorem dc_ne (ha : DV G δ a x) (hb : DV G δ b y) (hx : SeqAt.shaped x = true) (hy : SeqAt.shaped y = true) : DC G δ .NotEq a b (!PyData.eqv x y) :=
  ⟨_, _, ha, hb, fun X hX => ⟨rNeD G.m.K, hX.K ▸ op_neD hX.rm.units, fun S H v w Q ok r1 r2 q => ⟨x, y, r1.toDp (lay_of hx), r2.toDp (lay_of hy), hx, hy, q⟩⟩⟩
/-- None or not -/
theorem Rp.non_iff {K : PySem.W.Frag} {H : Hp} {v : V} (r : Rp K H v d) : decide (v = .non) = (match d with | .none => true | _ => false) := by
  cases r <;> rfl
def isNoneD : PyData → Bool
  | .none => true
  | _ => false
theorem dc_isn (ha : DV G δ a x) (hb : DV G δ b .none) : DC G δ .Is a b (isNoneD x) :=
  ⟨_, _, ha, hb, fun X _ => ⟨_, op_isN, fun S H v w Q ok r1 r2 q => by
    cases r2
    refine ⟨rfl, ?_⟩
    have e := r1.non_iff
    have e2 : decide (v = .non) = isNoneD x := by rw [e]; cases x <;> rfl
    rw [e2]
    exact q⟩⟩
theorem dc_notn (ha : DV G δ a x) (hb : DV G δ b .none) : DC G δ .IsNot a b (!isNoneD x) :=
  ⟨_, _, ha, hb, fun X _ => ⟨_, op_notN, fun S H v w Q ok r1 r2 q => by
    cases r2
    refine ⟨rfl, ?_⟩
    have e := r1.non_iff
    have e2 : decide (v = .non) = isNoneD x := by rw [e]; cases x <;> rfl
    rw [e2]
    exact q⟩⟩
theorem dc_isb {i j : Bool} (ha : DV G δ a (.bool i)) (hb : DV G δ b (.bool j)) : DC G δ .Is a b (decide (i = j)) :=
  ⟨_, _, ha, hb, fun X _ => ⟨_, op_isBl, fun S H v w Q ok r1 r2 q => by cases r1; cases r2; exact ⟨i, j, rfl, rfl, q⟩⟩⟩
theorem dc_notb {i j : Bool} (ha : DV G δ a (.bool i)) (hb : DV G δ b (.bool j)) : DC G δ .IsNot a b (!decide (i = j)) :=
  ⟨_, _, ha, hb, fun X _ => ⟨_, op_notBl, fun S H v w Q ok r1 r2 q => by cases r1; cases r2; exact ⟨i, j, rfl, rfl, q⟩⟩⟩
/-- in, not in of a tuple -/
theorem room65 {X : Cx} (h : G.Is X) : X.A.units + 65 < cLine := by have := h.rm.un; omega
def rInTD (K : PySem.W.Frag) : R2 := fun x y H Q => ∃ d ds, Dp K H x d ∧ Dp K H y (.tuple ds) ∧ SeqAt.shaped d = true ∧ SeqAt.shaped (.tuple ds) = true ∧ Q (.bl (ds.any fun z => PyData.eqv z d)) H
def rNotInTD (K : PySem.W.Frag) : R2 := fun x y H Q => ∃ d ds, Dp K H x d ∧ Dp K H y (.tuple ds) ∧ SeqAt.shaped d = true ∧ SeqAt.shaped (.tuple ds) = true ∧ Q (.bl (!ds.any fun z => PyData.eqv z d)) H
theorem room_in_shaped' {A : Around} {d : PyData} {n : Nat} (sd : SeqAt.shaped d = true) (hu : A.units + 65 < cLine) : A.units + 1 + min n d.depth < cLine := by
  have h1 := SeqAt.depth_of_shaped sd
  have h2 : min n d.depth ≤ d.depth := Nat.min_le_right _ _
  omega
theorem op_inTD {X : Cx} (hu : X.A.units + 65 < cLine) : OpR X (compareOp .In) (rInTD X.K) := by
  intro pins s σ H x y v u Q I rx ry h
  obtain ⟨d, ds, hd, he, sd, se, q⟩ := h
  obtain ⟨as, r1⟩ := Dp.reads I d x v hd rx
  obtain ⟨bs, r2⟩ := Dp.reads I (.tuple ds) y u he ry
  exact SeqAt.in_tuple_reads r2 r1 (SeqAt.canLay_of_shaped se) (SeqAt.canLay_of_shaped sd) (room_in_shaped' sd hu) ⟨.bl _, H, I, rfl, q⟩
theorem op_notInTD {X : Cx} (hu : X.A.units + 65 < cLine) : OpR X (compareOp .NotIn) (rNotInTD X.K) := by
  intro pins s σ H x y v u Q I rx ry h
  obtain ⟨d, ds, hd, he, sd, se, q⟩ := h
  obtain ⟨as, r1⟩ := Dp.reads I d x v hd rx
  obtain ⟨bs, r2⟩ := Dp.reads I (.tuple ds) y u he ry
  exact SeqAt.notIn_tuple_reads r2 r1 (SeqAt.canLay_of_shaped se) (SeqAt.canLay_of_shaped sd) (room_in_shaped' sd hu) ⟨.bl _, H, I, rfl, q⟩
/-- what a thing in which one looks holds -/
inductive Seq : PyData → List PyData → Prop
  | lst (ds : List PyData) : Seq (.list ds) ds
  | tup (ds : List PyData) : Seq (.tuple ds) ds
theorem dc_in (ha : DV G δ a x) (hb : DV G δ b y) (h : Seq y ds) (hx : SeqAt.shaped x = true) (hy : SeqAt.shaped y = true) : DC G δ .In a b (ds.any fun z => PyData.eqv z x) := by
  cases h with
  | lst => exact ⟨_, _, ha, hb, fun X hX => ⟨rInD G.m.K, hX.K ▸ op_inD (room65 hX), fun S H v w Q ok r1 r2 q => ⟨x, ds, r1.toDp (lay_of hx), r2.toDp (lay_of hy), hx, hy, q⟩⟩⟩
  | tup => exact ⟨_, _, ha, hb, fun X hX => ⟨rInTD G.m.K, hX.K ▸ op_inTD (room65 hX), fun S H v w Q ok r1 r2 q => ⟨x, ds, r1.toDp (lay_of hx), r2.toDp (lay_of hy), hx, hy, q⟩⟩⟩
theorem dc_notin (ha : DV G δ a x) (hb : DV G δ b y) (h : Seq y ds) (hx : SeqAt.shaped x = true) (hy : SeqAt.shaped y = true) : DC G δ .NotIn a b (!ds.any fun z => PyData.eqv z x) := by
  cases h with
  | lst => exact ⟨_, _, ha, hb, fun X hX => ⟨rNotInD G.m.K, hX.K ▸ op_notInD (room65 hX), fun S H v w Q ok r1 r2 q => ⟨x, ds, r1.toDp (lay_of hx), r2.toDp (lay_of hy), hx, hy, q⟩⟩⟩
  | tup => exact ⟨_, _, ha, hb, fun X hX => ⟨rNotInTD G.m.K, hX.K ▸ op_notInTD (room65 hX), fun S H v w Q ok r1 r2 q => ⟨x, ds, r1.toDp (lay_of hx), r2.toDp (lay_of hy), hx, hy, q⟩⟩⟩
/-! chains of < and <= of whole numbers -/
inductive LO : CmpOp → (Int → Int → Bool) → Prop
  | lt : LO .Lt fun i j => decide (i < j)
  | le : LO .LtE fun i j => decide (i ≤ j)
theorem LO.op {op : CmpOp} {p : Int → Int → Bool} (h : LO op p) {X : Cx} : OpR X (compareOp op) (rI0 fun i j => .bl (p i j)) := by
  cases h
  · exact op_lt
  · exact op_le
theorem tChain_ok {i j k : Int} {p p' : Int → Int → Bool} {X : Cx} (hX : G.Is X) (ha : DV G δ a (.int i)) (hb : DV G δ b (.int j)) (hc : DV G δ c (.int k)) (σ : L2.St) (H : Hp) (Q : VK) (S : List Addr) (ok : SOk S H) (R : Rel G.m.K S δ σ H) (q : ∀ H', Same H H' → Q (.bl (p i j && p' j k)) H') :
    tChain (rI0 fun i j => .bl (p i j)) (rI0 fun i j => .bl (p' i j)) (tDR G.m.K fun δ' d' => δ' = δ ∧ d' = .int i) (tDR G.m.K fun δ' d' => δ' = δ ∧ d' = .int j) (tDR G.m.K fun δ' d' => δ' = δ ∧ d' = .int k) σ H Q := by
  refine ⟨S, _, _, ⟨rfl, rfl⟩, ok, R, fun v H1 s1 r1 => ⟨S, _, _, ⟨rfl, rfl⟩, ok.mono s1, R.mono s1, fun w H2 s2 r2 => ?_⟩⟩
  cases r1
  cases r2
  refine ⟨i, j, rfl, rfl, _, rfl, ?_⟩
  cases e : p i j with
  | false =>
    rw [e, Bool.false_and] at q
    refine iteF (q H2 (s1.trans s2))
  | true =>
    rw [e, Bool.true_and] at q
    refine iteT ⟨S, _, _, ⟨rfl, rfl⟩, (ok.mono s1).mono s2, (R.mono s1).mono s2, fun w' H3 s3 r3 => ?_⟩
    cases r3
    exact ⟨j, k, rfl, rfl, q H3 ((s1.trans s2).trans s3)⟩
theorem dv_ch {op op' : CmpOp} {p p' : Int → Int → Bool} {i j k : Int} (h : LO op p) (h' : LO op' p') (ha : DV G δ a (.int i)) (hb : DV G δ b (.int j)) (hc : DV G δ c (.int k))
    (hm : lastMarks [op, op'] [b, c] = false := by with_unfolding_all rfl) : DV G δ (.Compare a [op, op'] [b, c] pos) (.bool (p i j && p' j k)) := fun X hX =>
  PE.imp (pe_chain h.op h'.op (ha X hX) (hb X hX) (hc X hX) hm) fun σ H Q ⟨S, δ', d', ⟨e1, e2⟩, ok, R, q⟩ => by
    subst e1 e2
    exact tChain_ok hX ha hb hc σ H Q S ok R fun H' s => q _ H' s (.bl _)
theorem dt_ch {op op' : CmpOp} {p p' : Int → Int → Bool} {i j k : Int} (h : LO op p) (h' : LO op' p') (ha : DV G δ a (.int i)) (hb : DV G δ b (.int j)) (hc : DV G δ c (.int k))
    (hm : lastMarks [op, op'] [b, c] = false := by with_unfolding_all rfl) : DT G δ (.Compare a [op, op'] [b, c] pos) (p i j && p' j k) := fun X hX =>
  PT.imp (pt_chain h.op h'.op (ha X hX) (hb X hX) (hc X hX) hm) fun σ H Q ⟨S, δ', d', ⟨e1, e2⟩, ok, R, q⟩ => by
    subst e1 e2
    exact tChain_ok hX ha hb hc σ H _ S ok R fun H' s => ⟨_, rfl, q H' s⟩
/-- three in a row, as a test -/
theorem dt_ch3 {d' : Expr} {op op' op'' : CmpOp} {p p' p'' : Int → Int → Bool} {i j k l : Int} (h : LO op p) (h' : LO op' p') (h'' : LO op'' p'') (ha : DV G δ a (.int i)) (hb : DV G δ b (.int j)) (hc : DV G δ c (.int k)) (hd : DV G δ d' (.int l))
    (hm : lastMarks [op, op', op''] [b, c, d'] = false := by with_unfolding_all rfl) : DT G δ (.Compare a [op, op', op''] [b, c, d'] pos) (p i j && (p' j k && p'' k l)) := fun X hX => by
  refine ⟨fun pins s σ H Q I ⟨S, δ', d', ⟨e1, e2⟩, ok, R, q⟩ => ?_⟩
  subst e1 e2
  have run : ∀ {e : Expr} {m : Int}, DV G δ' e (.int m) → ∀ (H1 : Hp) (s1 : Shared) , Same H H1 → Inv X pins σ H1 s1 → ∀ {Q : Value → Shared → Prop}, (∀ t s2 H2, Same H H2 → Inv X pins σ H2 s2 → Q (.int m t) s2) → wpAny (model X.prog X.w) X.A (eval e X.env) Q X.xe s1 := by
    intro e m he H1 s1 sm I1 Q hq
    refine thn ((he X hX).run pins s1 σ H1 (fun v H' => Same H1 H' ∧ v = .int m) I1 ⟨S, _, _, ⟨rfl, rfl⟩, ok.mono sm, R.mono sm, fun v H' s2 r => ?_⟩) fun u s2 ⟨v, H2, I2, r2, sm2, ev⟩ => ?_
    · cases r
      exact ⟨s2, rfl⟩
    · subst ev
      obtain ⟨t, rfl⟩ := r2
      exact hq t s2 H2 (sm.trans sm2) I2
  have cmp : ∀ {op : CmpOp} {p : Int → Int → Bool}, LO op p → ∀ (m n : Int) (t u : Tok) (H1 : Hp) (s1 : Shared), Inv X pins σ H1 s1 → ∀ {Q : Value → Shared → Prop}, (∀ s2, Inv X pins σ H1 s2 → Q (.bool (p m n)) s2) → wpAny (model X.prog X.w) X.A (compareOp op (.int m t) (.int n u)) Q X.xe s1 := by
    intro op p hp m n t u H1 s1 I1 Q hq
    refine thn (hp.op pins s1 σ H1 (.int m) (.int n) _ _ (fun v H' => H' = H1 ∧ v = .bl (p m n)) I1 ⟨t, rfl⟩ ⟨u, rfl⟩ ⟨m, n, rfl, rfl, rfl, rfl⟩) fun x s2 ⟨v, H2, I2, r2, e1, e2⟩ => ?_
    subst e1 e2
    cases r2
    exact hq s2 I2
  refine PyProof.Rows.isTrue_chain (run ha H s (Same.refl H) I fun t s1 H1 sm1 I1 => PyProof.Rows.test_link (run hb H1 s1 sm1 I1 fun t2 s2 H2 sm2 I2 => cmp h i j t t2 H2 s2 I2 fun s3 I3 => wpAny_truthy_bool ?_)) hm
  cases e : p i j with
  | false =>
    rw [e, Bool.false_and] at q
    exact PyProof.Rows.ite_ff ⟨H2, I3, q H2 sm2⟩
  | true =>
    rw [e, Bool.true_and] at q
    refine PyProof.Rows.ite_tt (PyProof.Rows.test_link (run hc H2 s3 sm2 I3 fun t4 s4 H4 sm4 I4 => cmp h' j k t2 t4 H4 s4 I4 fun s5 I5 => wpAny_truthy_bool ?_))
    cases e' : p' j k with
    | false =>
      rw [e', Bool.false_and] at q
      exact PyProof.Rows.ite_ff ⟨H4, I5, q H4 sm4⟩
    | true =>
      rw [e', Bool.true_and] at q
      refine PyProof.Rows.ite_tt (PyProof.Rows.test_last (run hd H4 s5 sm4 I5 fun t6 s6 H6 sm6 I6 => cmp h'' k l t4 t6 H6 s6 I6 fun s7 I7 => wpAny_truthy_bool ⟨H6, I7, q H6 sm6⟩))
end
end DL

set_option Elab.async false
set_option linter.all false
set_option maxRecDepth 100000
namespace DL
open PySem PySem.Spec L2
set_option autoImplicit false

theorem map_int_inj : ∀ {xs ys : List Int}, xs.map PyData.int = ys.map PyData.int → xs = ys
  | [], [], _ => rfl
  | [], _ :: _, h => by simp at h
  | _ :: _, [], h => by simp at h
  | x :: xs, y :: ys, h => by
    rw [List.map_cons, List.map_cons] at h
    injection h with h1 h2
    injection h1 with h1
    rw [h1, map_int_inj h2]
/-- the script, as data -/
abbrev scrD (ns : List Int) : PyData := .dict [(.none, .list (ns.map .int))]
theorem Rp.scr_inv {K : PySem.W.Frag} {H : Hp} {v : V} {ns : List Int} (h : Rp K H v (scrD ns)) : ∃ a, v = .ref a ∧ SqL K H a (ns.map V.int) ∧ ns.length ≤ 63 := by
  generalize e : scrD ns = d at h
  cases h with
  | dct r z =>
    rename_i a kvs
    exfalso
    cases kvs with
    | nil => simp at e
    | cons q qs => simp at e
  | dctF r z => simp at e
  | scr r z =>
    rename_i a ms
    have e' : ns = ms := by
      simp only [PyData.dict.injEq, List.cons.injEq, Prod.mk.injEq, PyData.list.injEq, true_and, and_true] at e
      exact map_int_inj e
    subst e'
    exact ⟨a, rfl, r, z⟩
  | _ => cases e
def globB (sc : Scope) (x : PySem.Str) : Bool := match sc.names.lookup x with
  | some .globalImplicit => true
  | _ => false
theorem gl_of {G : Ct} {X : Cx} (h : G.Is X) {x : PySem.Str} (g : globB G.sc x = true) : Gl X x := by
  unfold globB at g
  show X.env.scope.names.lookup x = _
  rw [h.sc]
  split at g <;> simp_all
/-- the built-in names that the program leaves alone -/
structure Blt (m : Md) : Prop where
  len : m.mg "len" = none
  range : m.mg "range" = none
  isinstance : m.mg "isinstance" = none
  tuple : m.mg "tuple" = none
  int : m.mg "int" = none
  bool : m.mg "bool" = none
  str : m.mg "str" = none
  list : m.mg "list" = none
  set : m.mg "set" = none
  dict : m.mg "dict" = none
  sorted : m.mg "sorted" = none
  min : m.mg "min" = none
  max : m.mg "max" = none
  all : m.mg "all" = none
  any : m.mg "any" = none
  enumerate : m.mg "enumerate" = none
  zip : m.mg "zip" = none
  reversed : m.mg "reversed" = none
section
variable {G : Ct} {δ : DEnv} {a b c e : Expr} {es rest : List Expr} {x y z d : PyData} {ds : List PyData} {pos p : Pos}
/-! ### a built-in function, a built-in class, called -/
theorem dv_cb {n : PySem.Str} {id : String} {r : List V → Hp → VK → Prop} (hc : ∀ X, G.Is X → CallR X (.builtin id) r) (hg : globB G.sc n = true) (hm : G.m.mg n = none) (hv : bootBuiltins n = some (.builtin id)) (ha : DA G δ (e :: es) ds)
    (hr : ∀ S H vs Q, SOk S H → RpAll G.m.K (hide S H) vs ds → (∀ u H', Same H H' → Rp G.m.K (hide S H') u d → Q u H') → r vs H Q) (hn : n ≠ "__name__") (hdb : (n == ("__debug__" : PySem.Str)) = false)
    (he : ∀ env : Env, starEach (e :: es) env = (false, eval e env) :: starEach es env := by intro _; rfl) (hpl : ∀ env : Env, (backTo pos (starEach es env)).any (·.1) = false := by intro _; rfl) : DV G δ (.Call (.Name n p) (e :: es) [] pos) d := fun X hX =>
  PE.imp (pe_callB (hc X hX) (gl_of hX hg) (by rw [hX.mg]; exact hm) hv (ha X hX) hn hdb (he _) (hpl _)) fun σ H Q ⟨S, δ', d', ⟨e1, e2⟩, ok, R, q⟩ => by
    subst e1 e2
    exact ⟨S, _, _, ⟨rfl, rfl⟩, ok, R, fun vs H1 s1 r1 => hr S H1 vs Q (ok.mono s1) r1 fun u H' s2 r2 => q u H' (s1.trans s2) r2⟩
theorem dv_ct {n : PySem.Str} {T : String} {r : List V → Hp → VK → Prop} (hc : ∀ X, G.Is X → CallR X (.type T) r) (hg : globB G.sc n = true) (hm : G.m.mg n = none) (hv : bootBuiltins n = some (.type T)) (ha : DA G δ (e :: es) ds)
    (hr : ∀ S H vs Q, SOk S H → RpAll G.m.K (hide S H) vs ds → (∀ u H', Same H H' → Rp G.m.K (hide S H') u d → Q u H') → r vs H Q) (hn : n ≠ "__name__") (hdb : (n == ("__debug__" : PySem.Str)) = false)
    (he : ∀ env : Env, starEach (e :: es) env = (false, eval e env) :: starEach es env := by intro _; rfl) (hpl : ∀ env : Env, (backTo pos (starEach es env)).any (·.1) = false := by intro _; rfl) : DV G δ (.Call (.Name n p) (e :: es) [] pos) d := fun X hX =>
  PE.imp (pe_callTy (hc X hX) (gl_of hX hg) (by rw [hX.mg]; exact hm) hv (ha X hX) hn hdb (he _) (hpl _)) fun σ H Q ⟨S, δ', d', ⟨e1, e2⟩, ok, R, q⟩ => by
    subst e1 e2
    exact ⟨S, _, _, ⟨rfl, rfl⟩, ok, R, fun vs H1 s1 r1 => hr S H1 vs Q (ok.mono s1) r1 fun u H' s2 r2 => q u H' (s1.trans s2) r2⟩
/-- .. that makes a list -/
theorem dn_cb {n : PySem.Str} {id : String} {r : List V → Hp → VK → Prop} {es' : List PyData} (hc : ∀ X, G.Is X → CallR X (.builtin id) r) (hg : globB G.sc n = true) (hm : G.m.mg n = none) (hv : bootBuiltins n = some (.builtin id)) (ha : DA G δ (e :: es) ds)
    (hr : ∀ S H vs Q, SOk S H → RpAll G.m.K (hide S H) vs ds → (∀ xs p, H p = none → xs.length ≤ sizeLine → RpAll G.m.K (hide S H) xs es' → Q (.ref p) (upd H p (.lst xs))) → r vs H Q) (hn : n ≠ "__name__") (hdb : (n == ("__debug__" : PySem.Str)) = false)
    (he : ∀ env : Env, starEach (e :: es) env = (false, eval e env) :: starEach es env := by intro _; rfl) (hpl : ∀ env : Env, (backTo pos (starEach es env)).any (·.1) = false := by intro _; rfl) : DN G δ (.Call (.Name n p) (e :: es) [] pos) es' := fun X hX =>
  PE.imp (pe_callB (hc X hX) (gl_of hX hg) (by rw [hX.mg]; exact hm) hv (ha X hX) hn hdb (he _) (hpl _)) fun σ H Q ⟨S, δ', d', ⟨e1, e2⟩, ok, R, q⟩ => by
    subst e1 e2
    exact ⟨S, _, _, ⟨rfl, rfl⟩, ok, R, fun vs H1 s1 r1 => hr S H1 vs Q (ok.mono s1) r1 fun xs p hp hz r2 => q xs p H1 s1 hp hz r2⟩
theorem dn_ct {n : PySem.Str} {T : String} {r : List V → Hp → VK → Prop} {es' : List PyData} (hc : ∀ X, G.Is X → CallR X (.type T) r) (hg : globB G.sc n = true) (hm : G.m.mg n = none) (hv : bootBuiltins n = some (.type T)) (ha : DA G δ (e :: es) ds)
    (hr : ∀ S H vs Q, SOk S H → RpAll G.m.K (hide S H) vs ds → (∀ xs p, H p = none → xs.length ≤ sizeLine → RpAll G.m.K (hide S H) xs es' → Q (.ref p) (upd H p (.lst xs))) → r vs H Q) (hn : n ≠ "__name__") (hdb : (n == ("__debug__" : PySem.Str)) = false)
    (he : ∀ env : Env, starEach (e :: es) env = (false, eval e env) :: starEach es env := by intro _; rfl) (hpl : ∀ env : Env, (backTo pos (starEach es env)).any (·.1) = false := by intro _; rfl) : DN G δ (.Call (.Name n p) (e :: es) [] pos) es' := fun X hX =>
  PE.imp (pe_callTy (hc X hX) (gl_of hX hg) (by rw [hX.mg]; exact hm) hv (ha X hX) hn hdb (he _) (hpl _)) fun σ H Q ⟨S, δ', d', ⟨e1, e2⟩, ok, R, q⟩ => by
    subst e1 e2
    exact ⟨S, _, _, ⟨rfl, rfl⟩, ok, R, fun vs H1 s1 r1 => hr S H1 vs Q (ok.mono s1) r1 fun xs p hp hz r2 => q xs p H1 s1 hp hz r2⟩
/-! len -/
inductive DLen : PyData → Nat → Prop
  | seq {y : PyData} {ds : List PyData} : Seq y ds → DLen y ds.length
  | str (x : PySem.Str) (h : x.length ≤ sizeLine) : DLen (.str x) x.length
  | scr (ns : List Int) : DLen (scrD ns) ns.length
theorem dv_len {n : Nat} (B : Blt G.m) (hg : globB G.sc "len" = true) (ha : DV G δ a x) (h : DLen x n) (hs : ∀ env : Env, starEach [a] env = (false, eval a env) :: starEach [] env := by intro _; rfl) : DV G δ (.Call (.Name "len" p) [a] [] pos) (.int n) := by
  refine dv_cb (r := fun xs H Q => ∃ x n, xs = [x] ∧ LenV G.m.K x H n ∧ Q (.int n) H) (fun X hX => hX.K ▸ call_len) hg B.len boot_len (da_cons ha da_nil hs) (fun S H vs Q ok r q => ?_) (by decide) (by decide) hs
  cases r with
  | cons r1 r2 =>
    cases r2
    refine ⟨_, n, rfl, ?_, q _ H (Same.refl H) (.int _)⟩
    cases h with
    | seq h =>
      cases h with
      | lst =>
        cases r1 with
        | lst e1 z1 a1 => exact .inl ⟨_, SqL.of (hide_some e1).2, a1.len.symm⟩
      | tup =>
        cases r1 with
        | tup e1 _ z1 a1 => exact .inr ⟨_, SqT.frz (hide_some e1).2, a1.len.symm⟩
    | str x h =>
      cases r1
      exact ⟨h, rfl⟩
    | scr ns =>
      obtain ⟨a, rfl, s1, _⟩ := r1.scr_inv
      exact .inl ⟨_, (hide_sub S H).seq s1, by rw [List.length_map]⟩
end
end DL

set_option Elab.async false
set_option linter.all false
set_option maxRecDepth 100000
namespace DL
open PySem PySem.Spec L2
set_option autoImplicit false

def tyName : PyData → String
  | .none => "NoneType"
  | .bool _ => "bool"
  | .int _ => "int"
  | .str _ => "str"
  | .list _ => "list"
  | .tuple _ => "tuple"
  | .dict _ => "dict"
/-- isinstance by the data -/
def isD : PyData → String → Bool
  | .bool _, T => T == "bool" || T == "int"
  | x, T => tyName x == T
def isDict : PyData → Bool
  | .dict _ => true
  | _ => false
inductive IsTy (m : Md) : PySem.Str → String → Prop
  | int (B : Blt m) : IsTy m "int" "int"
  | bool (B : Blt m) : IsTy m "bool" "bool"
  | tuple (B : Blt m) : IsTy m "tuple" "tuple"
theorem kit_all : (["NoneType", "bool", "int", "str", "list", "tuple"].all fun a => ["int", "bool", "tuple"].all fun b => kitB a b == some (a == b || (a == "bool" && b == "int"))) = true := by decide +kernel
theorem kit_at {a b : String} (ha : a ∈ ["NoneType", "bool", "int", "str", "list", "tuple"]) (hb : b ∈ ["int", "bool", "tuple"]) : kitB a b = some (a == b || (a == "bool" && b == "int")) := by
  have h := List.all_eq_true.mp (List.all_eq_true.mp kit_all a ha) b hb
  exact eq_of_beq h
theorem Rp.tyx {K : PySem.W.Frag} {S : List Addr} {H : Hp} {v : V} {d : PyData} (r : Rp K (hide S H) v d) (h : isDict d = false) : TyX K H v (.type (tyName d)) := by
  cases r with
  | non => exact .base .non
  | bl b => exact .base (.bl b)
  | int i => exact .base (.int i)
  | str x => exact .base (.str x)
  | lst e z t => exact .base (.lst (hide_some e).2)
  | tup e k z t => exact .fTuple (hide_some e).2
  | dct r z => cases h
  | dctF r z => cases h
  | scr r z => cases h
section
variable {G : Ct} {δ : DEnv} {a b c e : Expr} {es rest : List Expr} {x y z d : PyData} {ds : List PyData} {pos p p2 : Pos}
theorem dv_isi {n : PySem.Str} {T : String} (B : Blt G.m) (hg : globB G.sc "isinstance" = true) (ht : IsTy G.m n T) (hgT : globB G.sc n = true) (ha : DV G δ a x) (hd : isDict x = false)
    (he : ∀ env : Env, starEach [a, .Name n p2] env = (false, eval a env) :: starEach [.Name n p2] env := by intro _; rfl) (hpl : ∀ env : Env, (backTo pos (starEach [.Name n p2] env)).any (·.1) = false := by intro _; rfl)
    (hs : ∀ env : Env, starEach [.Name n p2] env = (false, eval (.Name n p2) env) :: starEach [] env := by intro _; rfl) : DV G δ (.Call (.Name "isinstance" p) [a, .Name n p2] [] pos) (.bool (isD x T)) := fun X hX => by
  have hk : PySem.W.kitOne G.m.K (.type (tyName x)) (.type T) = some (isD x T) := by
    have hT : T ∈ ["int", "bool", "tuple"] := by cases ht <;> simp
    have hx : tyName x ∈ ["NoneType", "bool", "int", "str", "list", "tuple"] := by cases x <;> first | (simp [tyName]; done) | cases hd
    refine kit_ty ?_
    rw [kit_at hx hT]
    congr 1
    cases x <;> cases ht <;> first | rfl | cases hd
  have hb : PE X (.Name n p2) (tC (.ty T)) := by
    cases ht with
    | int B => exact pe_bltn (gl_of hX hgT) (by rw [hX.mg]; exact B.int) PyProof.Rows.boot_int rfl
    | bool B => exact pe_bltn (gl_of hX hgT) (by rw [hX.mg]; exact B.bool) PyProof.Rows.boot_bool rfl
    | tuple B => exact pe_bltn (gl_of hX hgT) (by rw [hX.mg]; exact B.tuple) PyProof.Rows.boot_tuple rfl
  refine PE.imp (pe_callB (call_isi (X := X)) (gl_of hX hg) (by rw [hX.mg]; exact B.isinstance) PyProof.Rows.boot_isinstance (pa_cons (ha X hX) (pa_cons hb pa_nil (hs _)) (he _)) (by decide) (by decide) (he _) (hpl _)) fun σ H Q ⟨S, δ', d', ⟨e1, e2⟩, ok, R, q⟩ => ?_
  subst e1 e2
  rw [hX.K]
  refine ⟨S, _, _, ⟨rfl, rfl⟩, ok, R, fun v H1 s1 r1 => ?_⟩
  exact ⟨v, .ty T, _, .type T, isD x T, rfl, .ty T, r1.tyx hd, hk, q _ H1 s1 (.bl _)⟩
/-! int(..), bool(..), str(..) -/
inductive DInt : PyData → Int → Prop
  | int (i : Int) : DInt (.int i) i
  | bl (k : Bool) : DInt (.bool k) (if k then 1 else 0)
theorem dv_int1 {i : Int} (B : Blt G.m) (hg : globB G.sc "int" = true) (ha : DV G δ a x) (h : DInt x i) (hs : ∀ env : Env, starEach [a] env = (false, eval a env) :: starEach [] env := by intro _; rfl) : DV G δ (.Call (.Name "int" p) [a] [] pos) (.int i) := by
  refine dv_ct (fun X hX => call_int1) hg B.int PyProof.Rows.boot_int (da_cons ha da_nil hs) (fun S H vs Q ok r q => ?_) (by decide) (by decide) hs
  cases r with
  | cons r1 r2 =>
    cases r2
    cases h with
    | int i =>
      cases r1
      exact .inl ⟨i, rfl, q _ H (Same.refl H) (.int _)⟩
    | bl k =>
      cases r1
      exact .inr ⟨k, rfl, q _ H (Same.refl H) (.int _)⟩
theorem dv_bool1 {i : Int} (B : Blt G.m) (hg : globB G.sc "bool" = true) (ha : DV G δ a (.int i)) (hs : ∀ env : Env, starEach [a] env = (false, eval a env) :: starEach [] env := by intro _; rfl) : DV G δ (.Call (.Name "bool" p) [a] [] pos) (.bool (i != 0)) := by
  refine dv_ct (fun X hX => call_bool1) hg B.bool PyProof.Rows.boot_bool (da_cons ha da_nil hs) (fun S H vs Q ok r q => ?_) (by decide) (by decide) hs
  cases r with
  | cons r1 r2 =>
    cases r2
    cases r1
    exact .inl ⟨i, rfl, q _ H (Same.refl H) (.bl _)⟩
theorem dv_str1 {i : Int} (B : Blt G.m) (hg : globB G.sc "str" = true) (ha : DV G δ a (.int i)) (hi : i.natAbs.log2 < 1920) (hs : ∀ env : Env, starEach [a] env = (false, eval a env) :: starEach [] env := by intro _; rfl) : DV G δ (.Call (.Name "str" p) [a] [] pos) (.str (toString i)) := by
  refine dv_ct (fun X hX => call_str_int) hg B.str PyProof.Rows.boot_str (da_cons ha da_nil hs) (fun S H vs Q ok r q => ?_) (by decide) (by decide) hs
  cases r with
  | cons r1 r2 =>
    cases r2
    cases r1
    exact ⟨i, rfl, hi, q _ H (Same.refl H) (.str _)⟩
/-! tuple(..), list(..) -/
def rTupF (K : PySem.W.Frag) : List V → Hp → VK → Prop := fun vs H Q => ∃ p xs, vs = [.ref p] ∧ ((SqL K H p xs ∧ NewT H xs Q) ∨ (SqT K H p xs ∧ Q (.ref p) H))
theorem cr_tupF {X : Cx} : CallR X (.type "tuple") (rTupF X.K) := by
  intro pins s σ H vs us Q I r h
  obtain ⟨p, xs, e, h⟩ := h
  subst e
  obtain rfl := Vals.ref1 r
  rcases h with ⟨hs, q⟩ | ⟨hs, q⟩
  · obtain ⟨its, rv, pl, hz⟩ := I.list hs
    refine call_tuple_list pl.isList (fun h' hk => ?_) (by rw [List.size_toArray, ← rv.length]; exact hz)
    have I1 : Inv X pins σ H { s with heap := h' } := I.kept (t' := s.toks) hk
    exact newT (t' := s.toks) I1 rv hz q
  · obtain ⟨its, rv, pl, hz⟩ := I.tuple hs
    exact PyProof.Rows.call_tuple_tup pl ⟨.ref p, H, I, rfl, q⟩
theorem dv_tuple (B : Blt G.m) (hg : globB G.sc "tuple" = true) (ha : DV G δ a y) (h : Seq y ds) (hs : ∀ env : Env, starEach [a] env = (false, eval a env) :: starEach [] env := by intro _; rfl) : DV G δ (.Call (.Name "tuple" p) [a] [] pos) (.tuple ds) := by
  refine dv_ct (r := rTupF G.m.K) (fun X hX => hX.K ▸ cr_tupF) hg B.tuple PyProof.Rows.boot_tuple (da_cons ha da_nil hs) (fun S H vs Q ok r q => ?_) (by decide) (by decide) hs
  cases r with
  | cons r1 r2 =>
    cases r2
    cases h with
    | lst =>
      cases r1 with
      | lst e1 z1 a1 => exact ⟨_, _, rfl, .inl ⟨SqL.of (hide_some e1).2, Rp.newT ok z1 a1 (Same.refl H) q⟩⟩
    | tup =>
      cases r1 with
      | tup e1 k1 z1 a1 => exact ⟨_, _, rfl, .inr ⟨SqT.frz (hide_some e1).2, q _ H (Same.refl H) (.tup e1 k1 z1 a1)⟩⟩
theorem dn_list (B : Blt G.m) (hg : globB G.sc "list" = true) (ha : DV G δ a y) (h : Seq y ds) (hs : ∀ env : Env, starEach [a] env = (false, eval a env) :: starEach [] env := by intro _; rfl) : DN G δ (.Call (.Name "list" p) [a] [] pos) ds := by
  refine dn_ct (r := fun xs H Q => ∃ p ys, xs = [.ref p] ∧ (SqL G.m.K H p ys ∨ SqT G.m.K H p ys) ∧ ∀ l, H l = none → Q (.ref l) (upd H l (.lst ys))) (fun X hX => hX.K ▸ call_list_of) hg B.list PyProof.Rows.boot_list (da_cons ha da_nil hs) (fun S H vs Q ok r q => ?_) (by decide) (by decide) hs
  cases r with
  | cons r1 r2 =>
    cases r2
    cases h with
    | lst =>
      cases r1 with
      | lst e1 z1 a1 => exact ⟨_, _, rfl, .inl (SqL.of (hide_some e1).2), fun l hl => q _ _ hl z1 a1⟩
    | tup =>
      cases r1 with
      | tup e1 k1 z1 a1 => exact ⟨_, _, rfl, .inr (SqT.frz (hide_some e1).2), fun l hl => q _ _ hl z1 a1⟩
theorem rgV_ints (n : Int) : rgV 0 n = ((List.range n.toNat).map fun i => ((i : Nat) : Int)).map V.int := by
  unfold rgV
  rw [List.map_map]
  simp
/-- 0, 1, .. below n -/
def upto (n : Int) : List Int := (List.range n.toNat).map fun i => ((i : Nat) : Int)
theorem dn_listrange {n : Int} (B : Blt G.m) (hg : globB G.sc "list" = true) (hg2 : globB G.sc "range" = true) (ha : DV G δ a (.int n)) (h0 : 0 ≤ n) (h1 : n ≤ 16777216)
    (na : ∀ env : Env, starEach [a] env = (false, eval a env) :: starEach [] env := by intro _; rfl) {p3 pos3 : Pos} (nb : ∀ env : Env, starEach [.Call (.Name "range" p3) [a] [] pos3] env = (false, eval (.Call (.Name "range" p3) [a] [] pos3) env) :: starEach [] env := by intro _; rfl) :
    DN G δ (.Call (.Name "list" p) [.Call (.Name "range" p3) [a] [] pos3] [] pos) ((upto n).map .int) := fun X hX =>
  PE.imp (pe_listRg hX.calm (gl_of hX hg) (by rw [hX.mg]; exact B.list) (prg_1 (gl_of hX hg2) (by rw [hX.mg]; exact B.range) (ha X hX) (na _)) (nb _)) fun σ H Q ⟨S, δ', d', ⟨e1, e2⟩, ok, R, q⟩ => by
    subst e1 e2
    refine ⟨S, _, _, ⟨rfl, rfl⟩, ok, R, fun v H1 s1 r1 => ?_⟩
    cases r1
    refine ⟨n, rfl, RgOk.of_le (by omega) h1 (by omega) h0, fun t ht => ?_⟩
    rw [rgV_ints]
    refine q _ t H1 s1 ht ?_ (RpAll.ofInts _)
    rw [List.length_map, List.length_map, List.length_range, sizeLine_eq]
    omega
/-! min, max, all, any -/
theorem dv_min2 {i j : Int} (B : Blt G.m) (hg : globB G.sc "min" = true) (ha : DV G δ a (.int i)) (hb : DV G δ b (.int j)) (hs : ∀ env : Env, starEach [a, b] env = (false, eval a env) :: starEach [b] env := by intro _; rfl) (hs2 : ∀ env : Env, starEach [b] env = (false, eval b env) :: starEach [] env := by intro _; rfl)
    (hpl : ∀ env : Env, (backTo pos (starEach [b] env)).any (·.1) = false := by intro _; rfl) : DV G δ (.Call (.Name "min" p) [a, b] [] pos) (.int (min i j)) := by
  refine dv_cb (fun X hX => call_min2 hX.calm) hg B.min PyProof.Rows.boot_min (da_cons ha (da_cons hb da_nil hs2) hs) (fun S H vs Q ok r q => ?_) (by decide) (by decide) hs hpl
  cases r with
  | cons r1 r2 =>
    cases r2 with
    | cons r2 r3 =>
      cases r3
      cases r1
      cases r2
      refine ⟨i, j, rfl, ?_⟩
      have e : (if j < i then j else i) = min i j := by split <;> omega
      rw [e]
      exact q _ H (Same.refl H) (.int _)
theorem dv_max2 {i j : Int} (B : Blt G.m) (hg : globB G.sc "max" = true) (ha : DV G δ a (.int i)) (hb : DV G δ b (.int j)) (hs : ∀ env : Env, starEach [a, b] env = (false, eval a env) :: starEach [b] env := by intro _; rfl) (hs2 : ∀ env : Env, starEach [b] env = (false, eval b env) :: starEach [] env := by intro _; rfl)
    (hpl : ∀ env : Env, (backTo pos (starEach [b] env)).any (·.1) = false := by intro _; rfl) : DV G δ (.Call (.Name "max" p) [a, b] [] pos) (.int (max i j)) := by
  refine dv_cb (fun X hX => call_max2 hX.calm) hg B.max PyProof.Rows.boot_max (da_cons ha (da_cons hb da_nil hs2) hs) (fun S H vs Q ok r q => ?_) (by decide) (by decide) hs hpl
  cases r with
  | cons r1 r2 =>
    cases r2 with
    | cons r2 r3 =>
      cases r3
      cases r1
      cases r2
      refine ⟨i, j, rfl, ?_⟩
      have e : (if j > i then j else i) = max i j := by split <;> omega
      rw [e]
      exact q _ H (Same.refl H) (.int _)
theorem dv_minl {ns : List Int} {m : Int} (B : Blt G.m) (hg : globB G.sc "min" = true) (ha : DV G δ a (.list (ns.map .int))) (hm : m ∈ ns) (hle : ∀ y ∈ ns, m ≤ y) (hs : ∀ env : Env, starEach [a] env = (false, eval a env) :: starEach [] env := by intro _; rfl) : DV G δ (.Call (.Name "min" p) [a] [] pos) (.int m) := by
  refine dv_cb (r := rMin G.m.K) (fun X hX => hX.K ▸ cr_min hX.calm) hg B.min PyProof.Rows.boot_min (da_cons ha da_nil hs) (fun S H vs Q ok r q => ?_) (by decide) (by decide) hs
  cases r with
  | cons r1 r2 =>
    cases r2
    cases r1 with
    | lst e1 z1 a1 =>
      obtain rfl := a1.ints
      refine ⟨_, ns, rfl, SqL.of (hide_some e1).2, List.length_pos_of_mem hm, fun m' h1 h2 => ?_⟩
      have e : m' = m := by have := h2 m hm; have := hle m' h1; omega
      rw [e]
      exact q _ H (Same.refl H) (.int _)
theorem dv_maxl {ns : List Int} {m : Int} (B : Blt G.m) (hg : globB G.sc "max" = true) (ha : DV G δ a (.list (ns.map .int))) (hm : m ∈ ns) (hle : ∀ y ∈ ns, y ≤ m) (hs : ∀ env : Env, starEach [a] env = (false, eval a env) :: starEach [] env := by intro _; rfl) : DV G δ (.Call (.Name "max" p) [a] [] pos) (.int m) := by
  refine dv_cb (r := rMax G.m.K) (fun X hX => hX.K ▸ cr_max hX.calm) hg B.max PyProof.Rows.boot_max (da_cons ha da_nil hs) (fun S H vs Q ok r q => ?_) (by decide) (by decide) hs
  cases r with
  | cons r1 r2 =>
    cases r2
    cases r1 with
    | lst e1 z1 a1 =>
      obtain rfl := a1.ints
      refine ⟨_, ns, rfl, SqL.of (hide_some e1).2, List.length_pos_of_mem hm, fun m' h1 h2 => ?_⟩
      have e : m' = m := by have := h2 m hm; have := hle m' h1; omega
      rw [e]
      exact q _ H (Same.refl H) (.int _)
theorem dv_all {bs : List Bool} (B : Blt G.m) (hg : globB G.sc "all" = true) (ha : DV G δ a (.list (bs.map .bool))) (hs : ∀ env : Env, starEach [a] env = (false, eval a env) :: starEach [] env := by intro _; rfl) : DV G δ (.Call (.Name "all" p) [a] [] pos) (.bool (bs.all id)) := by
  refine dv_cb (r := rAll G.m.K) (fun X hX => hX.K ▸ cr_all hX.calm) hg B.all PyProof.Rows.boot_all (da_cons ha da_nil hs) (fun S H vs Q ok r q => ?_) (by decide) (by decide) hs
  cases r with
  | cons r1 r2 =>
    cases r2
    cases r1 with
    | lst e1 z1 a1 =>
      obtain rfl := a1.bls
      exact ⟨_, bs, rfl, SqL.of (hide_some e1).2, q _ H (Same.refl H) (.bl _)⟩
theorem dv_any {bs : List Bool} (B : Blt G.m) (hg : globB G.sc "any" = true) (ha : DV G δ a (.list (bs.map .bool))) (hs : ∀ env : Env, starEach [a] env = (false, eval a env) :: starEach [] env := by intro _; rfl) : DV G δ (.Call (.Name "any" p) [a] [] pos) (.bool (bs.any id)) := by
  refine dv_cb (r := rAny G.m.K) (fun X hX => hX.K ▸ cr_any hX.calm) hg B.any PyProof.Rows.boot_any (da_cons ha da_nil hs) (fun S H vs Q ok r q => ?_) (by decide) (by decide) hs
  cases r with
  | cons r1 r2 =>
    cases r2
    cases r1 with
    | lst e1 z1 a1 =>
      obtain rfl := a1.bls
      exact ⟨_, bs, rfl, SqL.of (hide_some e1).2, q _ H (Same.refl H) (.bl _)⟩
/-! sorted of whole numbers -/
theorem dn_sorted {ns ms : List Int} (B : Blt G.m) (hg : globB G.sc "sorted" = true) (ha : DV G δ a (.list (ns.map .int))) (hp : ms.Perm ns) (hs' : ms.Pairwise (· ≤ ·)) (hs : ∀ env : Env, starEach [a] env = (false, eval a env) :: starEach [] env := by intro _; rfl) : DN G δ (.Call (.Name "sorted" p) [a] [] pos) (ms.map .int) := by
  refine dn_cb (r := rSortedI G.m.K) (fun X hX => hX.K ▸ cr_sortedI) hg B.sorted PyProof.Rows.boot_sorted (da_cons ha da_nil hs) (fun S H vs Q ok r q => ?_) (by decide) (by decide) hs
  cases r with
  | cons r1 r2 =>
    cases r2
    cases r1 with
    | lst e1 z1 a1 =>
      obtain rfl := a1.ints
      refine ⟨_, ns, rfl, SqL.of (hide_some e1).2, fun ns' t h1 h2 h3 => ?_⟩
      have e : ns' = ms := (h1.trans hp.symm).eq_of_pairwise (le := (· ≤ ·)) (fun a b _ _ h1 h2 => Int.le_antisymm h1 h2) h2 hs'
      subst e
      refine q _ _ h3 ?_ (RpAll.ofInts _)
      rw [List.length_map, h1.length_eq, ← List.length_map (f := V.int)]
      exact z1
end
end DL

set_option Elab.async false
set_option linter.all false
set_option maxRecDepth 100000
namespace DL
open PySem PySem.Spec L2
set_option autoImplicit false

theorem RpAll.atI {K : PySem.W.Frag} {H : Hp} {vs : List V} {ds : List PyData} {i : Int} {d : PyData} (r : RpAll K H vs ds) (h : L2.atI ds i = some d) : ∃ v, L2.atI vs i = some v ∧ Rp K H v d := by
  unfold L2.atI at h ⊢
  rw [r.len]
  cases e : ixN ds.length i with
  | none => rw [e] at h; cases h
  | some j =>
    rw [e] at h
    exact r.get h
section
variable {G : Ct} {δ : DEnv} {a b c e : Expr} {es rest : List Expr} {x y z d : PyData} {ds : List PyData} {pos p p2 : Pos}
/-! ### a[i] -/
inductive DIx : PyData → Int → PyData → Prop
  | lst {ds : List PyData} {i : Int} {d : PyData} (h : L2.atI ds i = some d) : DIx (.list ds) i d
  | tup {ds : List PyData} {i : Int} {d : PyData} (h : L2.atI ds i = some d) : DIx (.tuple ds) i d
  | str {z : PySem.Str} {i : Int} {c : Nat} (hz : z.length ≤ sizeLine) (h : L2.atI z.cps.toList i = some c) : DIx (.str z) i (.str ⟨#[c]⟩)
  | scr {ns : List Int} {i : Int} {k : Int} (h : L2.atI ns i = some k) : DIx (scrD ns) i (.int k)
theorem dv_ix {i : Int} (ha : DV G δ a x) (hb : DV G δ b (.int i)) (h : DIx x i d) (hs : PlainIx b := by intro _ _; rfl) : DV G δ (.Subscript a b pos) d := by
  refine dv_bin (f := getItem) (r := rIx G.m.K) (fun X hX _ _ p q => hX.K ▸ pe_ix ix_seq p q hs) ha hb fun S H v w Q ok r1 r2 q => ?_
  cases r2
  cases h with
  | lst h =>
    cases r1 with
    | lst e1 z1 a1 =>
      obtain ⟨u, h1, h2⟩ := a1.atI h
      exact .inl ⟨_, _, i, u, rfl, rfl, SqL.of (hide_some e1).2, h1, q _ H (Same.refl H) h2⟩
  | tup h =>
    cases r1 with
    | tup e1 k1 z1 a1 =>
      obtain ⟨u, h1, h2⟩ := a1.atI h
      exact .inr (.inl ⟨_, _, i, u, rfl, rfl, SqT.frz (hide_some e1).2, h1, q _ H (Same.refl H) h2⟩)
  | str hz h =>
    cases r1
    exact .inr (.inr ⟨_, i, _, rfl, rfl, hz, h, q _ H (Same.refl H) (.str _)⟩)
  | scr h =>
    obtain ⟨p, rfl, s1, _⟩ := r1.scr_inv
    rename_i ns k _
    have h' : L2.atI (ns.map V.int) i = some (.int k) := by
      unfold L2.atI at h ⊢
      rw [List.length_map]
      cases e : ixN ns.length i with
      | none => rw [e] at h; cases h
      | some j =>
        rw [e] at h
        show (ns.map V.int)[j]? = _
        rw [List.getElem?_map, show ns[j]? = some k from h]
        rfl
    exact .inl ⟨p, _, i, _, rfl, rfl, (hide_sub S H).seq s1, h', q _ H (Same.refl H) (.int _)⟩
/-! ### slices -/
def tDO (K : PySem.W.Frag) (R : DEnv → Option Int → Prop) : TO := fun σ H Q => ∃ S δ o, R δ o ∧ SOk S H ∧ Rel K S δ σ H ∧ ∀ H', Same H H' → Q o H'
def DO (G : Ct) (δ : DEnv) (e : Option Expr) (o : Option Int) : Prop := ∀ X, G.Is X → PO X e (tDO G.m.K fun δ' o' => δ' = δ ∧ o' = o)
theorem do_none : DO G δ none none := fun X hX => ⟨fun pins s σ H Q I ⟨S, δ', o, ⟨e1, e2⟩, ok, R, q⟩ => by
  subst e1 e2
  exact po_none.run pins s σ H Q I (q H (Same.refl H))⟩
theorem do_some {i : Int} (h : DV G δ e (.int i)) : DO G δ (some e) (some i) := fun X hX => ⟨fun pins s σ H Q I ⟨S, δ', o, ⟨e1, e2⟩, ok, R, q⟩ => by
  subst e1 e2
  exact (po_some (h X hX)).run pins s σ H Q I ⟨S, _, _, ⟨rfl, rfl⟩, ok, R, fun v H' s' r => by cases r; exact ⟨i, rfl, q H' s'⟩⟩⟩
def cutD {α : Type} (xs : List α) (lo hi : Option Int) : List α := (xs.drop (HT.sIx xs.length 0 lo)).take (HT.sIx xs.length xs.length hi - HT.sIx xs.length 0 lo)
theorem RpAll.cut {K : PySem.W.Frag} {H : Hp} {vs : List V} {ds : List PyData} (r : RpAll K H vs ds) (lo hi : Option Int) : RpAll K H (cutV vs lo hi) (cutD ds lo hi) := by
  unfold cutV cutD
  rw [r.len]
  exact (r.drop _).take _
variable {lo hi : Option Expr} {l u : Option Int}
theorem slice_run {X : Cx} {r : V → Option Int → Option Int → Hp → VK → Prop} {Q : VK} {σ : L2.St} {H : Hp} {S : List Addr} (hX : G.Is X) (ha : DV G δ a x) (hl : DO G δ lo l) (hu : DO G δ hi u) (ok : SOk S H) (R : Rel G.m.K S δ σ H)
    (h : ∀ v H', Same H H' → Rp G.m.K (hide S H') v x → r v l u H' Q) : tSl r (tDR G.m.K fun δ' d' => δ' = δ ∧ d' = x) (tDO G.m.K fun δ' o' => δ' = δ ∧ o' = l) (tDO G.m.K fun δ' o' => δ' = δ ∧ o' = u) σ H Q :=
  ⟨S, _, _, ⟨rfl, rfl⟩, ok, R, fun v H1 s1 r1 => ⟨S, _, _, ⟨rfl, rfl⟩, ok.mono s1, R.mono s1, fun H2 s2 => ⟨S, _, _, ⟨rfl, rfl⟩, (ok.mono s1).mono s2, (R.mono s1).mono s2, fun H3 s3 =>
    h v H3 ((s1.trans s2).trans s3) (r1.mono (hide_mono (s2.trans s3)))⟩⟩⟩
theorem dn_sl (ha : DV G δ a (.list ds)) (hl : DO G δ lo l) (hu : DO G δ hi u) : DN G δ (.Subscript a (.Slice lo hi none p2) pos) (cutD ds l u) := fun X hX =>
  PE.imp (pe_slice sl_list (ha X hX) (hl X hX) (hu X hX)) fun σ H Q ⟨S, δ', d', ⟨e1, e2⟩, ok, R, q⟩ => by
    subst e1 e2
    refine slice_run hX ha hl hu ok R fun v H1 s1 r1 => ?_
    cases r1 with
    | lst e1 z1 a1 => exact ⟨_, _, rfl, SqL.of (hide_some e1).2, fun t ht => q _ t H1 s1 ht (Nat.le_trans (cutV_length _ _ _) z1) (a1.cut l u)⟩
/-- the script's first numbers, as a list of their own -/
theorem dn_slscr {ns : List Int} (ha : DV G δ a (scrD ns)) (hl : DO G δ lo l) (hu : DO G δ hi u) : DN G δ (.Subscript a (.Slice lo hi none p2) pos) ((cutD ns l u).map .int) := fun X hX =>
  PE.imp (pe_slice sl_list (ha X hX) (hl X hX) (hu X hX)) fun σ H Q ⟨S, δ', d', ⟨e1, e2⟩, ok, R, q⟩ => by
    subst e1 e2
    refine slice_run hX ha hl hu ok R fun v H1 s1 r1 => ?_
    obtain ⟨p, rfl, sq, hz⟩ := r1.scr_inv
    refine ⟨p, _, rfl, hX.K ▸ (hide_sub S H1).seq sq, fun t ht => ?_⟩
    have e : cutV (ns.map V.int) l u = (cutD ns l u).map V.int := by
      unfold cutV cutD
      rw [List.length_map, List.map_take, List.map_drop]
    rw [e]
    refine q _ t H1 s1 ht ?_ (RpAll.ofInts _)
    have h1 := cutV_length (ns.map V.int) l u
    rw [e, List.length_map] at h1
    rw [List.length_map]
    rw [List.length_map] at h1
    rw [sizeLine_eq]
    omega
def rSlF (K : PySem.W.Frag) : V → Option Int → Option Int → Hp → VK → Prop := fun x lo hi H Q => ∃ a xs, x = .ref a ∧ SqT K H a xs ∧
  (cutV xs lo hi = xs → Q (.ref a) H) ∧ NewT H (cutV xs lo hi) Q
theorem sl_tupF {X : Cx} : SlR X (rSlF X.K) := by
  intro pins s σ H x v vl vu lo hi sl Q I rx hs pl pu h
  obtain ⟨a, xs, e, hx, q1, q2⟩ := h
  subst e
  obtain rfl : v = .ref a := rx
  obtain ⟨its, r, ht, hz⟩ := I.tuple hx
  have hn : its.toArray.size = xs.length := by rw [List.size_toArray]; exact r.length.symm
  refine ⟨"tuple", _, PyProof.Rows.slot_tuple_getitem.lookup, ht.typeIs, ?_⟩
  by_cases hw : HT.sIx xs.length 0 lo = 0 ∧ HT.sIx xs.length xs.length hi = xs.length
  · refine getItem_tuple_whole ht hs pl pu (by rw [hn]; exact hw) ⟨.ref a, H, I, rfl, q1 ?_⟩
    unfold cutV
    rw [hw.1, hw.2, List.drop_zero, Nat.sub_zero, List.take_length]
  · refine HT.getItem_tuple_cut ht hs pl pu (by rw [hn]; exact hw) ?_ (by rw [hn]; exact hz)
    rw [hn]
    exact newT (t' := s.toks) I ((r.drop _).take _) (Nat.le_trans (cutV_length xs lo hi) hz) q2
theorem dv_slt (ha : DV G δ a (.tuple ds)) (hl : DO G δ lo l) (hu : DO G δ hi u) : DV G δ (.Subscript a (.Slice lo hi none p2) pos) (.tuple (cutD ds l u)) := fun X hX =>
  PE.imp (pe_slice sl_tupF (ha X hX) (hl X hX) (hu X hX)) fun σ H Q ⟨S, δ', d', ⟨e1, e2⟩, ok, R, q⟩ => by
    subst e1 e2
    rw [hX.K]
    refine slice_run hX ha hl hu ok R fun v H1 s1 r1 => ?_
    cases r1 with
    | tup e1 k1 z1 a1 =>
      refine ⟨_, _, rfl, SqT.frz (hide_some e1).2, fun hw => ?_, Rp.newT (ok.mono s1) (Nat.le_trans (cutV_length _ _ _) z1) (a1.cut l u) s1 q⟩
      refine q _ H1 s1 (.tup e1 k1 z1 ?_)
      have := a1.cut l u
      rw [hw] at this
      exact this
theorem dv_sls {t : PySem.Str} (ha : DV G δ a (.str t)) (hl : DO G δ lo l) (hu : DO G δ hi u) (hz : t.length ≤ sizeLine) : DV G δ (.Subscript a (.Slice lo hi none p2) pos) (.str (cutS t l u)) := fun X hX =>
  PE.imp (pe_slice sl_str (ha X hX) (hl X hX) (hu X hX)) fun σ H Q ⟨S, δ', d', ⟨e1, e2⟩, ok, R, q⟩ => by
    subst e1 e2
    refine slice_run hX ha hl hu ok R fun v H1 s1 r1 => ?_
    cases r1
    exact ⟨t, rfl, hz, q _ H1 s1 (.str _)⟩

/-! ### len(set(..)) of whole numbers -/
def dedup (ns : List Int) : List Int := ns.foldl PyProof.Rows.step_dedup []
theorem firstMet_dedup (ns : List Int) : PyProof.Rows.firstMet (fun i => ns.getD i 0) ns.length = dedup ns := by
  unfold PyProof.Rows.firstMet dedup
  congr 1
  apply List.ext_getElem
  · simp
  · intro i h1 h2
    simp [List.getD_eq_getElem?_getD, List.getElem?_eq_getElem h2]
theorem mem_dedup_aux (ns : List Int) : ∀ (acc : List Int) (k : Int), k ∈ ns.foldl PyProof.Rows.step_dedup acc ↔ k ∈ acc ∨ k ∈ ns := by
  induction ns with
  | nil => intro acc k; simp
  | cons n ns ih =>
    intro acc k
    rw [List.foldl_cons, ih]
    unfold PyProof.Rows.step_dedup
    by_cases h : acc.any (· == n) = true
    · rw [if_pos h]
      obtain ⟨m, hm, e⟩ := List.any_eq_true.mp h
      have e' : m = n := eq_of_beq e
      subst e'
      constructor
      · rintro (q | q)
        · exact .inl q
        · exact .inr (List.mem_cons_of_mem _ q)
      · rintro (q | q)
        · exact .inl q
        · rcases List.mem_cons.mp q with q | q
          · exact .inl (q ▸ hm)
          · exact .inr q
    · rw [if_neg h]
      simp only [List.mem_append, List.mem_cons, List.not_mem_nil, or_false]
      constructor
      · rintro ((q | q) | q)
        · exact .inl q
        · exact .inr (.inl q)
        · exact .inr (.inr q)
      · rintro (q | q | q)
        · exact .inl (.inl q)
        · exact .inl (.inr q)
        · exact .inr q
theorem mem_dedup {ns : List Int} {k : Int} : k ∈ dedup ns ↔ k ∈ ns := by
  unfold dedup
  rw [mem_dedup_aux]
  simp
theorem nodup_dedup_aux (ns : List Int) : ∀ (acc : List Int), acc.Nodup → (ns.foldl PyProof.Rows.step_dedup acc).Nodup := by
  induction ns with
  | nil => intro acc h; exact h
  | cons n ns ih =>
    intro acc h
    rw [List.foldl_cons]
    refine ih _ ?_
    unfold PyProof.Rows.step_dedup
    by_cases q : acc.any (· == n) = true
    · rw [if_pos q]; exact h
    · rw [if_neg q]
      refine List.nodup_append.mpr ⟨h, by simp, fun a ha b hb e => ?_⟩
      rw [List.mem_singleton] at hb
      subst hb
      exact q (List.any_eq_true.mpr ⟨a, ha, by rw [e]; exact beq_self_eq_true _⟩)
theorem nodup_dedup (ns : List Int) : (dedup ns).Nodup := nodup_dedup_aux ns [] List.nodup_nil
theorem dedup_le (ns : List Int) : (dedup ns).length ≤ ns.length := by
  rw [← firstMet_dedup]
  exact PyProof.Rows.firstMet_length_le _ _
/-- one number for lists of the same members, each once -/
theorem nodup_len {xs ys : List Int} (hx : xs.Nodup) (hy : ys.Nodup) (h : ∀ k, k ∈ xs ↔ k ∈ ys) : xs.length = ys.length := (List.perm_ext_iff_of_nodup hx hy |>.mpr h).length_eq
def tLenSetF (K : PySem.W.Frag) (ta : TE) : TE := fun σ H Q => ta σ H fun x H1 => ∃ (l : Addr) (ns : List Int), x = V.ref l ∧ (SqL K H1 l (ns.map V.int) ∨ SqT K H1 l (ns.map V.int)) ∧ ns.length ≤ 1000 ∧ Q (.int (dedup ns).length) H1
theorem pe_lenSetF {X : Cx} {ta : TE} {q : Pos} (hc : X.calm = true) (hg : Gl X "len") (hm : X.mg "len" = none) (hg2 : Gl X "set") (hm2 : X.mg "set" = none) (ha : PE X a ta)
    (na : starEach [a] X.env = (false, eval a X.env) :: starEach [] X.env) (nb : starEach [.Call (.Name "set" p2) [a] [] q] X.env = (false, eval (.Call (.Name "set" p2) [a] [] q) X.env) :: starEach [] X.env) : PE X (.Call (.Name "len" p) [.Call (.Name "set" p2) [a] [] q] [] pos) (tLenSetF X.K ta) := by
  refine ⟨fun pins s σ H Q I h => ?_⟩
  refine PyProof.Rows.Call_ (ld_blt I hg hm PySem.boot_len ?_)
  refine PyProof.Rows.callWith_builtin1 (PyProof.Rows.args_cons ?_ nb) nb rfl
  refine PyProof.Rows.Call_ (ld_blt I hg2 hm2 PyProof.Rows.boot_set ?_)
  refine PyProof.Rows.callWith_type1 (PyProof.Rows.args_cons (thn (ha.run pins s σ H _ I h) fun v s1 ⟨x, H1, I1, r1, q1⟩ => PyProof.Rows.args_nil ?_) na) na rfl
  obtain ⟨l, ns, e, hq, hz, q1⟩ := q1
  subst e
  obtain rfl : v = .ref l := r1
  rcases hq with hq | hq
  · obtain ⟨its, r, pl, _⟩ := I1.list hq
    have hl : its.toArray.size = ns.length := by rw [List.size_toArray, ← r.length, List.length_map]
    refine call_set_list (I1.ok.hd hc) pl.isList (ns := ns) (by simpa using r.ints) (by unfold scanBound; omega) fun h' tk hS hk => ?_
    rw [hl, firstMet_dedup] at hS
    refine PyProof.Rows.args_nil ?_
    obtain ⟨o, es, ep, t, ho, hex, hd, _, _, _, hf, hn⟩ := hS
    have I2 : Inv X pins σ H1 { s1 with heap := h', toks := tk } := I1.kept fun b o e => hk b o (Heap.lt_size e) e
    have h1 := dedup_le ns
    refine call_len_set ho hex hd hf (by rw [hn] <;> omega) ⟨.int (dedup ns).length, H1, I2.tok _, ⟨_, by rw [hn]⟩, q1⟩
  · obtain ⟨its, r, pt, _⟩ := I1.tuple hq
    refine call_set_tupI ns (I1.ok.hd hc) (show s1.heap.IsTuple l its.toArray from pt) (by simpa using r.ints) (by unfold scanBound; omega) fun h' tk c R1 hcn k => ?_
    obtain ⟨o, es, ep, t, ho, hex, hd, g, nd, hm3, hb, hf, hn, hr, hl2⟩ := R1
    refine PyProof.Rows.args_nil ?_
    have I2 : Inv X pins σ H1 { s1 with heap := h', toks := tk } := I1.kept k
    have hlen : es.size = (dedup ns).length := by
      rw [← Array.length_toList, ← List.length_map (f := keyOf)]
      refine nodup_len nd (nodup_dedup ns) fun j => ?_
      rw [← hm3 j, mem_dedup]
      simp
    refine call_len_set ho hex hd hf (by omega) ⟨.int (dedup ns).length, H1, I2.tok _, ⟨_, by rw [hlen]⟩, q1⟩
theorem dv_lenset {ns : List Int} {q : Pos} (B : Blt G.m) (hg : globB G.sc "len" = true) (hg2 : globB G.sc "set" = true) (ha : DV G δ a y) (h : Seq y (ns.map .int)) (hz : ns.length ≤ 1000)
    (na : ∀ env : Env, starEach [a] env = (false, eval a env) :: starEach [] env := by intro _; rfl) (nb : ∀ env : Env, starEach [.Call (.Name "set" p2) [a] [] q] env = (false, eval (.Call (.Name "set" p2) [a] [] q) env) :: starEach [] env := by intro _; rfl) :
    DV G δ (.Call (.Name "len" p) [.Call (.Name "set" p2) [a] [] q] [] pos) (.int (dedup ns).length) := fun X hX =>
  PE.imp (pe_lenSetF hX.calm (gl_of hX hg) (by rw [hX.mg]; exact B.len) (gl_of hX hg2) (by rw [hX.mg]; exact B.set) (ha X hX) (na _) (nb _)) fun σ H Q ⟨S, δ', d', ⟨e1, e2⟩, ok, R, q⟩ => by
    subst e1 e2
    rw [hX.K]
    refine ⟨S, _, _, ⟨rfl, rfl⟩, ok, R, fun v H1 s1 r1 => ?_⟩
    generalize hy : ns.map PyData.int = ys at h
    cases h with
    | lst =>
      subst hy
      cases r1 with
      | lst e1 z1 a1 =>
        obtain rfl := a1.ints
        exact ⟨_, ns, rfl, .inl (SqL.of (hide_some e1).2), hz, q _ H1 s1 (.int _)⟩
    | tup =>
      subst hy
      cases r1 with
      | tup e1 k1 z1 a1 =>
        obtain rfl := a1.ints
        exact ⟨_, ns, rfl, .inr (SqT.frz (hide_some e1).2), hz, q _ H1 s1 (.int _)⟩

/-! ### own defs -/
/-- a def's promise: R tells what comes of which arguments -/
def spD (K : PySem.W.Frag) (R : List PyData → PyData → Prop) : Sp := fun vs H Q _ => ∃ S ds d, R ds d ∧ SOk S H ∧ RpAll K (hide S H) vs ds ∧ ∀ v H', Same H H' → Rp K (hide S H') v d → Q v H'
structure Fn (m : Md) (n : PySem.Str) (k : Nat) (R : List PyData → PyData → Prop) : Prop where
  ex : ∃ f fd ps, m.mg n = some (.ref f) ∧ PySem.W.keepIn m.K (.ref f) = true ∧ Binds m.K fd ps [] ∧ FnOk m.P m.w m.K m.mg m.base CX0 k f fd ps (spD m.K R)
theorem Fn.imp {m : Md} {n : PySem.Str} {k : Nat} {R R' : List PyData → PyData → Prop} (h : Fn m n k R) (w : ∀ ds d, R' ds d → R ds d) : Fn m n k R' := by
  obtain ⟨f, fd, ps, h1, h2, h3, h4⟩ := h.ex
  exact ⟨f, fd, ps, h1, h2, h3, h4.imp fun vs H Q E ⟨S, ds, d, r, q⟩ => ⟨S, ds, d, w _ _ r, q⟩⟩
theorem Fn.mono {m : Md} {n : PySem.Str} {j k : Nat} {R : List PyData → PyData → Prop} (h : Fn m n j R) (w : j ≤ k) : Fn m n k R := by
  obtain ⟨f, fd, ps, h1, h2, h3, h4⟩ := h.ex
  exact ⟨f, fd, ps, h1, h2, h3, h4.mono w⟩
theorem dv_call {n : PySem.Str} {k : Nat} {R : List PyData → PyData → Prop} (F : Fn G.m n k R) (hk : k ≤ G.rm) (hg : globB G.sc n = true) (ha : DA G δ (e :: es) ds) (hR : R ds d)
    (hd : (n == ("__debug__" : PySem.Str)) = false := by decide)
    (he : ∀ env : Env, starEach (e :: es) env = (false, eval e env) :: starEach es env := by intro _; rfl) (hpl : ∀ env : Env, (backTo pos (starEach es env)).any (·.1) = false := by intro _; rfl) :
    DV G δ (.Call (.Name n p) (e :: es) [] pos) d := fun X hX => by
  obtain ⟨f, fd, ps, h1, h2, h3, h4⟩ := F.ex
  have F' : FnOk X.prog X.w X.K X.mg X.base CX0 k f fd ps (spD G.m.K R) := by rw [hX.prog, hX.w, hX.K, hX.mg, hX.base]; exact h4
  refine PE.imp (pe_call F' (hX.rm.mono hk) (gl_of hX hg) (by rw [hX.mg]; exact h1) (by rw [hX.K]; exact h2) (by rw [hX.K]; exact h3) .nil pass0 (ha X hX) hd (he _) (hpl _)) fun σ H Q ⟨S, δ', d', ⟨e1, e2⟩, ok, R', q⟩ => ?_
  subst e1 e2
  refine ⟨S, _, _, ⟨rfl, rfl⟩, ok, R', fun vs H1 s1 r1 => ?_⟩
  exact ⟨S, ds, _, hR, ok.mono s1, by rw [List.append_nil]; exact r1, fun v H' s2 r2 => q v H' (s1.trans s2) r2⟩
end
end DL

set_option Elab.async false
set_option linter.all false
set_option maxRecDepth 100000
namespace DL
open PySem PySem.Spec L2
set_option autoImplicit false

/-! ### names that hold a list or a dict of the def's own, which it changes -/
inductive OC where
  | lst (ds : List PyData)
  | dct (kvs : List (Int × Int))
def OC.data : OC → PyData
  | .lst ds => .list ds
  | .dct kvs => .dict (kvs.map fun p => (.int p.1, .int p.2))
/-- at a of H stands what it says, its parts to be seen in F -/
def OCat (K : PySem.W.Frag) (F H : Hp) (a : Addr) : OC → Prop
  | .lst ds => ∃ xs, H a = some (.lst xs) ∧ xs.length ≤ sizeLine ∧ RpAll K F xs ds
  | .dct kvs => H a = some (.dK (kvs.map fun p => (Sum.inl p.1, V.int p.2))) ∧ kvs.length ≤ sizeLine
abbrev Own := List (Nat × OC)
def ov (δ : DEnv) (ω : Own) : DEnv := ω.foldl (fun δ p => δ.set p.1 (some p.2.data)) δ
structure SRel (K : PySem.W.Frag) (S : List Addr) (H0 : Hp) (δ : DEnv) (ω : Own) (σ : L2.St) (H : Hp) : Prop where
  ex : ∃ as : List Addr, as.length = ω.length ∧ as.Nodup ∧ SOk (as ++ S) H ∧ Same H0 (hide as H) ∧ Rel K (as ++ S) δ σ H ∧
    ∀ (k i : Nat) (c : OC) (a : Addr), ω[k]? = some (i, c) → as[k]? = some a → σ[i]? = some (some (.ref a)) ∧ OCat K (hide (as ++ S) H) H a c
theorem OCat.mono {K : PySem.W.Frag} {F F' H H' : Hp} {a : Addr} {c : OC} (h : OCat K F H a c) (s : Same F F') (t : ∀ o, H a = some o → H' a = some o) : OCat K F' H' a c := by
  cases c with
  | lst ds =>
    obtain ⟨xs, h1, h2, h3⟩ := h
    exact ⟨xs, t _ h1, h2, h3.mono s⟩
  | dct kvs =>
    obtain ⟨h1, h2⟩ := h
    exact ⟨t _ h1, h2⟩
theorem OCat.rp {K : PySem.W.Frag} {F H : Hp} {a : Addr} {c : OC} (h : OCat K F H a c) {G : Hp} (s : Same F G) (e : ∀ o, H a = some o → G a = some o) : Rp K G (.ref a) c.data := by
  cases c with
  | lst ds =>
    obtain ⟨xs, h1, h2, h3⟩ := h
    exact .lst (e _ h1) h2 (h3.mono s)
  | dct kvs =>
    obtain ⟨h1, h2⟩ := h
    exact .dct (.inl (e _ h1)) h2
theorem OCat.notup {K : PySem.W.Frag} {F H : Hp} {a : Addr} {c : OC} (h : OCat K F H a c) (o : Obj) (xs : List V) : H a ≠ some (.frz o (.tup xs)) := by
  intro e
  cases c with
  | lst ds =>
    obtain ⟨xs, h1, h2, h3⟩ := h
    rw [e] at h1; cases h1
  | dct kvs =>
    obtain ⟨h1, h2⟩ := h
    rw [e] at h1; cases h1
section
variable {K : PySem.W.Frag} {S : List Addr} {H0 H H' : Hp} {δ : DEnv} {ω : Own} {σ : L2.St}
theorem SRel.mono (r : SRel K S H0 δ ω σ H) (s : Same H H') : SRel K S H0 δ ω σ H' := by
  obtain ⟨as, h1, h2, h3, h4, h5, h6⟩ := r.ex
  exact ⟨as, h1, h2, h3.mono s, h4.trans (hide_mono s), h5.mono s, fun k i c a e1 e2 => let ⟨q1, q2⟩ := h6 k i c a e1 e2; ⟨q1, q2.mono (hide_mono s) (s _)⟩⟩
theorem hide_le {S T : List Addr} (h : ∀ a, a ∈ T → a ∈ S) (H : Hp) : Same (hide S H) (hide T H) := fun b o e => by
  obtain ⟨h1, h2⟩ := hide_some e
  rw [hide_out fun z => h1 (h b z)]
  exact h2
theorem hide_more (as S : List Addr) (H : Hp) : Same (hide (as ++ S) H) (hide S H) := by
  rw [hide_app]
  exact hide_mono (hide_sub as H)
theorem Rel.more {as : List Addr} (r : Rel K (as ++ S) δ σ H) : Rel K S δ σ H := ⟨r.len, fun i d e => let ⟨v, h1, h2⟩ := r.val i d e; ⟨v, h1, h2.mono (hide_more as S H)⟩⟩
theorem Rel.look {i : Nat} {v : V} {d : PyData} (r : Rel K S δ σ H) (e : σ[i]? = some (some v)) (h : Rp K (hide S H) v d) : Rel K S (δ.set i (some d)) σ H := by
  refine ⟨by rw [List.length_set]; exact r.len, fun j d' hj => ?_⟩
  by_cases q : i = j
  · subst q
    have hl : i < δ.length := by rw [← r.len]; exact (List.getElem?_eq_some_iff.mp e).1
    rw [List.getElem?_set_self hl] at hj
    cases hj
    exact ⟨v, e, h⟩
  · rw [List.getElem?_set_ne q] at hj
    exact r.val j d' hj
theorem Rel.over : ∀ (ω : Own) {δ : DEnv}, Rel K S δ σ H → (∀ p ∈ ω, ∃ v, σ[p.1]? = some (some v) ∧ Rp K (hide S H) v p.2.data) → Rel K S (ov δ ω) σ H
  | [], _, r, _ => r
  | p :: ω, δ, r, h => by
    obtain ⟨v, h1, h2⟩ := h p List.mem_cons_self
    exact Rel.over ω (r.look h1 h2) fun q hq => h q (List.mem_cons_of_mem _ hq)
theorem SRel.ofS (r : SRel K S H0 δ ω σ H) : ∀ a ∈ S, a ∈ S := fun _ h => h
/-- the whole of it, to be read -/
theorem SRel.over (hS : SOk S H0) (r : SRel K S H0 δ ω σ H) : SOk S H ∧ Same H0 H ∧ Rel K S (ov δ ω) σ H := by
  obtain ⟨as, h1, h2, h3, h4, h5, h6⟩ := r.ex
  refine ⟨fun a ha => h3 a (List.mem_append_right _ ha), h4.trans (hide_sub as H), Rel.over ω h5.more fun p hp => ?_⟩
  obtain ⟨k, hk, e⟩ := List.mem_iff_getElem.mp hp
  have hka : k < as.length := by rw [h1]; exact hk
  obtain ⟨q1, q2⟩ := h6 k p.1 p.2 as[k] (by rw [List.getElem?_eq_getElem hk, e]) (List.getElem?_eq_getElem hka)
  refine ⟨_, q1, q2.rp (hide_more as S H) fun o ho => ?_⟩
  have hn : as[k] ∉ S := fun z => by
    cases q : H0 as[k] with
    | none => exact hS _ z q
    | some u =>
      have := h4 _ _ q
      rw [hide_in (List.getElem_mem hka)] at this
      cases this
  rw [hide_out hn]
  exact ho
end
/-! ### statements -/
inductive Out where
  | next (δ : DEnv) (ω : Own)
  | ret (d : PyData)
def OutOk (K : PySem.W.Frag) (S : List Addr) (H0 : Hp) (D : Ends) : Out → Prop
  | .next δ ω => ∀ σ' H', SRel K S H0 δ ω σ' H' → D.nx σ' H'
  | .ret d => ∀ v H', Same H0 H' → Rp K (hide S H') v d → D.rt v H'
def tDS (K : PySem.W.Frag) (R : DEnv → Own → Out → Prop) : TS := fun D σ H => ∃ S H0 δ ω out, R δ ω out ∧ SOk S H0 ∧ SRel K S H0 δ ω σ H ∧ OutOk K S H0 D out
def DS (G : Ct) (δ : DEnv) (ω : Own) (st : Stmt) (out : Out) : Prop := ∀ X, G.Is X → PS X st (tDS G.m.K fun δ' ω' o' => δ' = δ ∧ ω' = ω ∧ o' = out)
def DSs (G : Ct) (δ : DEnv) (ω : Own) (sts : List Stmt) (out : Out) : Prop := ∀ X, G.Is X → PSs X sts (tDS G.m.K fun δ' ω' o' => δ' = δ ∧ ω' = ω ∧ o' = out)
theorem PS.imp {X : Cx} {st : Stmt} {t t' : TS} (h : PS X st t) (w : ∀ D σ H, t' D σ H → t D σ H) : PS X st t' := ⟨fun pins s σ H D I q => h.run pins s σ H D I (w _ _ _ q)⟩
theorem PSs.imp {X : Cx} {st : List Stmt} {t t' : TS} (h : PSs X st t) (w : ∀ D σ H, t' D σ H → t D σ H) : PSs X st t' := ⟨fun pins s σ H D I q => h.run pins s σ H D I (w _ _ _ q)⟩
theorem PSs.rel {X : Cx} {sts : List Stmt} {K : PySem.W.Frag} {R : DEnv → Own → Out → Prop} (h : ∀ δ ω o, R δ ω o → PSs X sts (tDS K fun δ' ω' o' => δ' = δ ∧ ω' = ω ∧ o' = o)) : PSs X sts (tDS K R) :=
  ⟨fun pins s σ H D I ⟨S, H0, δ, ω, o, r, q⟩ => (h δ ω o r).run pins s σ H D I ⟨S, H0, δ, ω, o, ⟨rfl, rfl, rfl⟩, q⟩⟩
section
variable {G : Ct} {δ δ1 : DEnv} {ω ω1 : Own} {st : Stmt} {rest body thn els : List Stmt} {out : Out} {a b c e : Expr} {es : List Expr} {x y z d : PyData} {ds : List PyData} {pos p p2 : Pos}
theorem DSs.conv (h : DSs G δ ω rest out) {o : Out} (q : out = o) : DSs G δ ω rest o := q ▸ h
theorem DS.conv (h : DS G δ ω st out) {o : Out} (q : out = o) : DS G δ ω st o := q ▸ h
theorem DSs.from (h : DSs G δ ω rest out) (q1 : δ1 = δ) (q2 : ω1 = ω) : DSs G δ1 ω1 rest out := q1 ▸ q2 ▸ h
theorem dss_nil : DSs G δ ω [] (.next δ ω) := fun X hX => PSs.imp pss_nil fun D σ H ⟨S, H0, δ', ω', o', ⟨e1, e2, e3⟩, hS, r, q⟩ => by
  subst e1 e2 e3
  exact q σ H r
theorem dss_cons (h : DS G δ ω st (.next δ1 ω1)) (h2 : DSs G δ1 ω1 rest out) : DSs G δ ω (st :: rest) out := fun X hX => PSs.imp (pss_cons (h X hX) (h2 X hX)) fun D σ H ⟨S, H0, δ', ω', o', ⟨e1, e2, e3⟩, hS, r, q⟩ => by
  subst e1 e2 e3
  refine ⟨S, H0, _, _, _, ⟨rfl, rfl, rfl⟩, hS, r, fun σ' H' r' => ⟨S, H0, _, _, _, ⟨rfl, rfl, rfl⟩, hS, r', q⟩⟩
theorem dss_end (h : DS G δ ω st (.ret d)) : DSs G δ ω (st :: rest) (.ret d) := fun X hX => PSs.imp (pss_cons (h X hX) pss_never) fun D σ H ⟨S, H0, δ', ω', o', ⟨e1, e2, e3⟩, hS, r, q⟩ => by
  subst e1 e2 e3
  exact ⟨S, H0, _, _, _, ⟨rfl, rfl, rfl⟩, hS, r, q⟩
theorem ds_ret (h : DV G (ov δ ω) e d) : DS G δ ω (.Return (some e) pos) (.ret d) := fun X hX => PS.imp (ps_ret (h X hX)) fun D σ H ⟨S, H0, δ', ω', o', ⟨e1, e2, e3⟩, hS, r, q⟩ => by
  subst e1 e2 e3
  obtain ⟨h1, h2, h3⟩ := r.over hS
  exact ⟨S, _, _, ⟨rfl, rfl⟩, h1, h3, fun v H' s rv => q v H' (h2.trans s) rv⟩
/-- what expressions need, and what a store leaves -/
structure Bs (K : PySem.W.Frag) (S : List Addr) (H0 : Hp) (δ : DEnv) (ω : Own) (σ : L2.St) (H : Hp) (as : List Addr) : Prop where
  ok : SOk (as ++ S) H
  rel : Rel K (as ++ S) δ σ H
  okS : SOk S H
  relS : Rel K S (ov δ ω) σ H
  h0 : Same H0 H
  imm : ∀ (H' : Hp) (v : V) (d : PyData), Same H H' → imm d = true → Rp K (hide S H') v d → Rp K (hide (as ++ S) H') v d
  store : ∀ (H' : Hp) (i : Nat) (v : V) (d : PyData), Same H H' → Rp K (hide (as ++ S) H') v d → (∀ p ∈ ω, p.1 ≠ i) → SRel K S H0 (δ.set i (some d)) ω (σ.set i (some v)) H'
  own : ∀ (H' : Hp) (i : Nat) (p : Addr) (c : OC) (o : HO), Same H H' → H' p = none → OCat K (hide (as ++ S) H') (upd H' p o) p c → (∀ p ∈ ω, p.1 ≠ i) → i < δ.length → SRel K S H0 (δ.set i none) ((i, c) :: ω) (σ.set i (some (.ref p))) (upd H' p o)
  at_ : ∀ (k i : Nat) (c : OC), ω[k]? = some (i, c) → ∃ a, a ∈ as ∧ σ[i]? = some (some (.ref a)) ∧ OCat K (hide (as ++ S) H) H a c ∧
    ∀ (H' : Hp) (o : HO) (c' : OC), Same H H' → OCat K (hide (as ++ S) H') (upd H' a o) a c' → SRel K S H0 δ (ω.set k (i, c')) σ (upd H' a o)
theorem SRel.bs {K : PySem.W.Frag} {S : List Addr} {H0 H : Hp} {δ : DEnv} {ω : Own} {σ : L2.St} (hS : SOk S H0) (r : SRel K S H0 δ ω σ H) : ∃ as : List Addr, Bs K S H0 δ ω σ H as := by
  obtain ⟨h1', h2', h3'⟩ := r.over hS
  obtain ⟨as, h1, h2, h3, h4, h5, h6⟩ := r.ex
  have notS : ∀ a ∈ as, a ∉ S := fun a ha z => by
    cases q : H0 a with
    | none => exact hS _ z q
    | some u =>
      have := h4 _ _ q
      rw [hide_in ha] at this
      cases this
  have kOf : ∀ a ∈ as, ∃ k i c, ω[k]? = some (i, c) ∧ as[k]? = some a := fun a ha => by
    obtain ⟨k, hk, e⟩ := List.mem_iff_getElem.mp ha
    have hk' : k < ω.length := by rw [← h1]; exact hk
    exact ⟨k, ω[k].1, ω[k].2, List.getElem?_eq_getElem hk', by rw [List.getElem?_eq_getElem hk, e]⟩
  have fresh : ∀ {H' : Hp} {p : Addr}, Same H H' → H' p = none → p ∉ as ++ S := fun s n => (h3.mono s).new n
  refine ⟨as, h3, h5, h1', h3', h2', fun H' v d s im rv => ?_, fun H' i v d s rv hi => ⟨as, h1, h2, h3.mono s, h4.trans (hide_mono s), (h5.mono s).set rv, fun k j c a e1 e2 => ?_⟩, fun H' i p c o s n oc hi hl => ?_, fun k i c hk => ?_⟩
  · refine Rp.imm_hide (fun a ha o xs => ?_) im rv
    obtain ⟨k, i, c, e1, e2⟩ := kOf a ha
    exact (OCat.mono (h6 k i c a e1 e2).2 (hide_mono s) (s _)).notup o xs
  · obtain ⟨q1, q2⟩ := h6 k j c a e1 e2
    refine ⟨?_, q2.mono (hide_mono s) (s _)⟩
    rw [List.getElem?_set_ne (fun z => hi _ (List.mem_of_getElem? e1) z.symm)]
    exact q1
  · have hp := fresh s n
    have e0 : hide (p :: as ++ S) (upd H' p o) = hide (as ++ S) H' := hide_cons_upd n
    have sm : Same H' (upd H' p o) := same_upd n o
    refine ⟨p :: as, by simp [h1], List.nodup_cons.mpr ⟨fun z => hp (List.mem_append_left _ z), h2⟩, fun a ha => ?_, ?_, ?_, fun k j c' a e1 e2 => ?_⟩
    · rcases List.mem_cons.mp ha with e | ha
      · rw [e, upd_same]; simp
      · exact ((h3.mono s).mono sm) a ha
    · rw [hide_cons_upd n]
      exact h4.trans (hide_mono s)
    · have q := ((h5.mono s).forget i (some (.ref p)))
      exact ⟨q.len, fun j d e => let ⟨v, z1, z2⟩ := q.val j d e; ⟨v, z1, by rw [e0]; exact z2⟩⟩
    · rw [e0]
      cases k with
      | zero =>
        simp only [List.getElem?_cons_zero, Option.some.injEq, Prod.mk.injEq] at e1 e2
        obtain ⟨e1, e3⟩ := e1
        subst e1 e2 e3
        exact ⟨List.getElem?_set_self (by rw [h5.len]; exact hl), oc⟩
      | succ k =>
        simp only [List.getElem?_cons_succ] at e1 e2
        obtain ⟨q1, q2⟩ := h6 k j c' a e1 e2
        refine ⟨?_, q2.mono (hide_mono s) (fun o e => sm _ _ (s _ _ e))⟩
        rw [List.getElem?_set_ne (fun z => hi _ (List.mem_of_getElem? e1) z.symm)]
        exact q1
  · have hka : k < as.length := by rw [h1]; exact (List.getElem?_eq_some_iff.mp hk).1
    have hka' : as[k]? = some as[k] := List.getElem?_eq_getElem hka
    obtain ⟨q1, q2⟩ := h6 k i c as[k] hk hka'
    have hm : as[k] ∈ as := List.getElem_mem hka
    refine ⟨as[k], hm, q1, q2, fun H' o c' s oc => ?_⟩
    have e0 : hide (as ++ S) (upd H' as[k] o) = hide (as ++ S) H' := hide_upd (List.mem_append_left _ hm)
    refine ⟨as, by rw [List.length_set]; exact h1, h2, fun a ha => ?_, ?_, ?_, fun j i' c2 a e1 e2 => ?_⟩
    · by_cases e : a = as[k]
      · rw [e, upd_same]; simp
      · rw [upd_ne e]; exact (h3.mono s) a ha
    · rw [hide_upd hm]
      exact h4.trans (hide_mono s)
    · exact ⟨h5.len, fun j d e => let ⟨v, z1, z2⟩ := (h5.mono s).val j d e; ⟨v, z1, by rw [e0]; exact z2⟩⟩
    · rw [e0]
      by_cases e : k = j
      · subst e
        rw [List.getElem?_set_self (by rw [← h1]; exact hka)] at e1
        rw [hka'] at e2
        cases e1
        cases e2
        exact ⟨q1, oc⟩
      · rw [List.getElem?_set_ne e] at e1
        obtain ⟨z1, z2⟩ := h6 j i' c2 a e1 e2
        have hne : a ≠ as[k] := fun z => e (by
          have hj : j < as.length := (List.getElem?_eq_some_iff.mp e2).1
          have ej : as[j] = a := (List.getElem?_eq_some_iff.mp e2).2
          exact ((List.getElem_inj h2).mp (ej.trans z)).symm)
        exact ⟨z1, z2.mono (hide_mono s) fun o' eo => by rw [upd_ne hne]; exact s _ _ eo⟩
theorem SRel.forget {K : PySem.W.Frag} {S : List Addr} {H0 H : Hp} {δ : DEnv} {ω : Own} {σ : L2.St} (k : Nat) (r : SRel K S H0 δ ω σ H) : SRel K S H0 δ (ω.eraseIdx k) σ H := by
  obtain ⟨as, h1, h2, h3, h4, h5, h6⟩ := r.ex
  have sub : ∀ a, a ∈ as.eraseIdx k → a ∈ as := fun a ha => List.mem_of_mem_eraseIdx ha
  have sub2 : ∀ a, a ∈ as.eraseIdx k ++ S → a ∈ as ++ S := fun a ha => (List.mem_append.mp ha).elim (fun z => List.mem_append_left _ (sub a z)) fun z => List.mem_append_right _ z
  have m := hide_le sub2 H
  refine ⟨as.eraseIdx k, ?_, h2.sublist (List.eraseIdx_sublist _ _), fun a ha => h3 a (sub2 a ha), h4.trans (hide_le sub H), ⟨h5.len, fun i d e => let ⟨v, z1, z2⟩ := h5.val i d e; ⟨v, z1, z2.mono m⟩⟩, fun j i c a e1 e2 => ?_⟩
  · rw [List.length_eraseIdx, List.length_eraseIdx, h1]
  · rw [List.getElem?_eraseIdx] at e1 e2
    by_cases q : j < k
    · rw [if_pos q] at e1 e2
      obtain ⟨z1, z2⟩ := h6 j i c a e1 e2
      exact ⟨z1, z2.mono m fun _ e => e⟩
    · rw [if_neg q] at e1 e2
      obtain ⟨z1, z2⟩ := h6 (j + 1) i c a e1 e2
      exact ⟨z1, z2.mono m fun _ e => e⟩
theorem dss_forget (k : Nat) (h : DSs G δ (ω.eraseIdx k) rest out) : DSs G δ ω rest out := fun X hX => PSs.imp (h X hX) fun D σ H ⟨S, H0, δ', ω', o', ⟨e1, e2, e3⟩, hS, r, q⟩ => by
  subst e1 e2 e3
  exact ⟨S, H0, _, _, _, ⟨rfl, rfl, rfl⟩, hS, r.forget k, q⟩
/-- a list that is changed no more -/
theorem dss_freeze {i : Nat} {cc : OC} (k : Nat) (hk : ω[k]? = some (i, cc)) (hi : ∀ j q, ω[j]? = some q → j ≠ k → q.1 ≠ i) (h : DSs G (δ.set i (some cc.data)) (ω.eraseIdx k) rest out) : DSs G δ ω rest out := fun X hX => PSs.imp (h X hX) fun D σ H ⟨S, H0, δ', ω', o', ⟨e1, e2, e3⟩, hS, r, q⟩ => by
  subst e1 e2 e3
  refine ⟨S, H0, _, _, _, ⟨rfl, rfl, rfl⟩, hS, ?_, q⟩
  obtain ⟨as, h1, h2, h3, h4, h5, h6⟩ := r.ex
  have hka : k < as.length := by rw [h1]; exact (List.getElem?_eq_some_iff.mp hk).1
  obtain ⟨q1, q2⟩ := h6 k i cc as[k] hk (List.getElem?_eq_getElem hka)
  have hn : as[k] ∉ as.eraseIdx k ++ S := fun z => by
    rcases List.mem_append.mp z with z | z
    · obtain ⟨j, hj, e⟩ := List.mem_iff_getElem.mp z
      have e2 : (as.eraseIdx k)[j]? = some as[k] := by rw [List.getElem?_eq_getElem hj, e]
      rw [List.getElem?_eraseIdx] at e2
      by_cases q : j < k
      · rw [if_pos q] at e2
        obtain ⟨h7, h8⟩ := List.getElem?_eq_some_iff.mp e2
        have := (List.getElem_inj h2).mp h8
        omega
      · rw [if_neg q] at e2
        obtain ⟨h7, h8⟩ := List.getElem?_eq_some_iff.mp e2
        have := (List.getElem_inj h2).mp h8
        omega
    · cases q : H0 as[k] with
      | none => exact hS _ z q
      | some u =>
        have := h4 _ _ q
        rw [hide_in (List.getElem_mem hka)] at this
        cases this
  have sub : ∀ a, a ∈ as.eraseIdx k → a ∈ as := fun a ha => List.mem_of_mem_eraseIdx ha
  have sub2 : ∀ a, a ∈ as.eraseIdx k ++ S → a ∈ as ++ S := fun a ha => (List.mem_append.mp ha).elim (fun z => List.mem_append_left _ (sub a z)) fun z => List.mem_append_right _ z
  obtain ⟨bs, b1, b2, b3, b4, b5, b6⟩ := (r.forget k).ex
  have m := hide_le sub2 H
  have r0 : SRel G.m.K S H0 δ' (ω'.eraseIdx k) σ H := r.forget k
  refine ⟨as.eraseIdx k, ?_, h2.sublist (List.eraseIdx_sublist _ _), fun a ha => h3 a (sub2 a ha), h4.trans (hide_le sub H), ?_, fun j i c a e1 e2 => ?_⟩
  · rw [List.length_eraseIdx, List.length_eraseIdx, h1]
  · have rr : Rel G.m.K (as.eraseIdx k ++ S) δ' σ H := ⟨h5.len, fun i d e => let ⟨v, z1, z2⟩ := h5.val i d e; ⟨v, z1, z2.mono m⟩⟩
    refine rr.look q1 (q2.rp m fun o ho => ?_)
    rw [hide_out hn]
    exact ho
  · rw [List.getElem?_eraseIdx] at e1 e2
    by_cases q : j < k
    · rw [if_pos q] at e1 e2
      obtain ⟨z1, z2⟩ := h6 j i c a e1 e2
      exact ⟨z1, z2.mono m fun _ e => e⟩
    · rw [if_neg q] at e1 e2
      obtain ⟨z1, z2⟩ := h6 (j + 1) i c a e1 e2
      exact ⟨z1, z2.mono m fun _ e => e⟩
end
end DL

set_option Elab.async false
set_option linter.all false
set_option maxRecDepth 100000
namespace DL
open PySem PySem.Spec L2
set_option autoImplicit false

/-! ### targets -/
inductive TSpec where
  | one (i : Nat)
  | two (i j : Nat)
def TSpec.ix : TSpec → List Nat
  | .one i => [i]
  | .two i j => [i, j]
def bindT : TSpec → PyData → DEnv → Option DEnv
  | .one i, d, δ => some (δ.set i (some d))
  | .two i j, .tuple [d, e], δ => some ((δ.set i (some d)).set j (some e))
  | _, _, _ => none
/-- a value that stands for data; of a tuple nothing more than its items need be known -/
def Rw (K : PySem.W.Frag) (H : Hp) (v : V) (d : PyData) : Prop := Rp K H v d ∨ ∃ a xs ds, v = .ref a ∧ d = .tuple ds ∧ H a = some (.tup xs) ∧ RpAll K H xs ds
def TSpec.rep (K : PySem.W.Frag) (H : Hp) (v : V) (d : PyData) : TSpec → Prop
  | .one _ => Rp K H v d
  | .two _ _ => Rw K H v d
theorem TSpec.rep_of {K : PySem.W.Frag} {H : Hp} {v : V} {d : PyData} (h : Rp K H v d) : ∀ ts : TSpec, ts.rep K H v d
  | .one _ => h
  | .two _ _ => .inl h
def tDG (K : PySem.W.Frag) (ts : TSpec) : TG := fun v σ H Q => ∃ S δ d δ2, bindT ts d δ = some δ2 ∧ SOk S H ∧ Rel K S δ σ H ∧ ts.rep K (hide S H) v d ∧ ∀ σ', Rel K S δ2 σ' H → (∀ i, i ∉ ts.ix → σ'[i]? = σ[i]?) → σ'.length = σ.length → Q σ' H
def DG (G : Ct) (tg : Expr) (ts : TSpec) : Prop := ∀ X, G.Is X → PG X tg (tDG G.m.K ts)
theorem PG.imp {X : Cx} {tg : Expr} {t t' : TG} (h : PG X tg t) (w : ∀ v σ H Q, t' v σ H Q → t v σ H Q) : PG X tg t' := ⟨fun pins s σ H v u Q I r q => h.run pins s σ H v u Q I r (w _ _ _ _ q)⟩
section
variable {G : Ct} {δ δ1 : DEnv} {ω ω1 : Own} {st : Stmt} {rest body thn els : List Stmt} {out : Out} {a b c e tg iter : Expr} {es : List Expr} {x y z d : PyData} {ds items : List PyData} {pos p p2 p3 : Pos} {ts : TSpec}
theorem pg_n {X : Cx} (hX : G.Is X) {i : Nat} {n : PySem.Str} (hN : G.N[i]? = some n) (hl : locB G n = true) : PG X (.Name n p) (gName i) :=
  pg_name hX.nd (by rw [hX.N]; exact hN) (by rw [hX.sc]; exact loc_of hl) (loc_fn hX hl)
theorem dg_one (i : Nat) {n : PySem.Str} (hN : G.N[i]? = some n) (hl : locB G n = true) : DG G (.Name n p) (.one i) := fun X hX =>
  PG.imp (pg_n hX hN hl) fun v σ H Q ⟨S, δ, d, δ2, e, ok, R, rv, q⟩ => by
    simp only [bindT, Option.some.injEq] at e
    subst e
    refine q _ (R.set rv) (fun j hj => ?_) (by rw [List.length_set])
    rw [List.getElem?_set_ne (fun z => hj (by simp [TSpec.ix, z]))]
theorem dg_two (i j : Nat) {n n' : PySem.Str} {k : Nat} (hN : G.N[i]? = some n) (hl : locB G n = true) (hN' : G.N[j]? = some n') (hl' : locB G n' = true)
    (h1 : ∀ env : Env, (assignEach [.Name n p, .Name n' p2] env).map (·.2) = assign (.Name n p) env :: (assignEach [.Name n' p2] env).map (·.2) := by intro _; rfl)
    (h2 : ∀ env : Env, (assignEach [.Name n' p2] env).map (·.2) = assign (.Name n' p2) env :: (assignEach [] env).map (·.2) := by intro _; rfl)
    (hn : ∀ env : Env, (assignEach [.Name n p, .Name n' p2] env).length = 2 := by intro _; rfl) (hst : ∀ env : Env, (assignEach [.Name n p, .Name n' p2] env).findIdx? (·.1) = none := by intro _; rfl) : DG G (.Tuple [.Name n p, .Name n' p2] k p3) (.two i j) := fun X hX =>
  PG.imp (pg_tup hX.calm (pgs_cons (pg_n hX hN hl) (pgs_cons (pg_n hX hN' hl') pgs_nil (h2 _)) (h1 _)) (hn _) (hst _)) fun v σ H Q ⟨S, δ, d, δ2, e, ok, R, rv, q⟩ => by
    have fin : ∀ (a : Addr) (xs : List V) (ds : List PyData), v = .ref a → d = .tuple ds → SqT X.K H a xs → RpAll G.m.K (hide S H) xs ds → gTup X.K 2 (gCons (gName i) (gCons (gName j) gNil)) v σ H Q := by
      intro a xs ds ev ed hT ra
      subst ev ed
      cases ra with
      | nil => cases e
      | cons r1 t =>
        cases t with
        | nil => cases e
        | cons r2 t =>
          cases t with
          | cons r3 t => cases e
          | nil =>
            cases e
            refine ⟨a, _, rfl, hT, rfl, _, _, rfl, _, _, rfl, rfl, q _ ((R.set r1).set r2) (fun m hm => ?_) (by rw [List.length_set, List.length_set])⟩
            have hm' : m ≠ i ∧ m ≠ j := by simpa [TSpec.ix] using hm
            rw [List.getElem?_set_ne (fun z => hm'.2 z.symm), List.getElem?_set_ne (fun z => hm'.1 z.symm)]
    rcases rv with rv | ⟨a, xs, ds, ev, ed, ht, ra⟩
    · cases d with
      | tuple ds =>
        cases rv with
        | tup e1 k1 z1 a1 => exact fin _ _ _ rfl rfl (SqT.frz (hide_some e1).2) a1
      | _ => cases e
    · exact fin a xs ds ev ed (SqT.of (hide_some ht).2) ra

/-! ### x = e; a, b = e -/
theorem ds_set (i : Nat) {n : PySem.Str} (hN : G.N[i]? = some n) (hl : locB G n = true) (h : DV G δ e d) (hi : ∀ q ∈ ω, q.1 ≠ i := by simp) (hs : ∀ env : Env, swapsWith e (some (.Name n p)) pos.line env = pure false := by intro _; rfl) :
    DS G δ ω (.Assign [.Name n p] e pos) (.next (δ.set i (some d)) ω) := fun X hX =>
  PS.imp (ps_set hX.nd (by rw [hX.N]; exact hN) (by rw [hX.sc]; exact loc_of hl) (h X hX) (hs _) (loc_fn hX hl)) fun D σ H ⟨S, H0, δ', ω', o', ⟨e1, e2, e3⟩, hS, r, q⟩ => by
    subst e1 e2 e3
    obtain ⟨as, B⟩ := r.bs hS
    exact ⟨_, _, _, ⟨rfl, rfl⟩, B.ok, B.rel, fun v H' s rv => q _ _ (B.store H' i v d s rv hi)⟩
/-- .. read off the own names, what comes of it is no list -/
theorem ds_seti (i : Nat) {n : PySem.Str} (hN : G.N[i]? = some n) (hl : locB G n = true) (h : DV G (ov δ ω) e d) (hd : imm d = true) (hi : ∀ q ∈ ω, q.1 ≠ i := by simp) (hs : ∀ env : Env, swapsWith e (some (.Name n p)) pos.line env = pure false := by intro _; rfl) :
    DS G δ ω (.Assign [.Name n p] e pos) (.next (δ.set i (some d)) ω) := fun X hX =>
  PS.imp (ps_set hX.nd (by rw [hX.N]; exact hN) (by rw [hX.sc]; exact loc_of hl) (h X hX) (hs _) (loc_fn hX hl)) fun D σ H ⟨S, H0, δ', ω', o', ⟨e1, e2, e3⟩, hS, r, q⟩ => by
    subst e1 e2 e3
    obtain ⟨as, B⟩ := r.bs hS
    exact ⟨_, _, _, ⟨rfl, rfl⟩, B.okS, B.relS, fun v H' s rv => q _ _ (B.store H' i v d s (B.imm H' v d s hd rv) hi)⟩
/-- a new list of one's own -/
theorem ds_own (i : Nat) {n : PySem.Str} (hN : G.N[i]? = some n) (hl : locB G n = true) (h : DN G δ e ds) (hi : ∀ q ∈ ω, q.1 ≠ i := by simp) (hlen : i < δ.length := by simp) (hs : ∀ env : Env, swapsWith e (some (.Name n p)) pos.line env = pure false := by intro _; rfl) :
    DS G δ ω (.Assign [.Name n p] e pos) (.next (δ.set i none) ((i, .lst ds) :: ω)) := fun X hX =>
  PS.imp (ps_set hX.nd (by rw [hX.N]; exact hN) (by rw [hX.sc]; exact loc_of hl) (h X hX) (hs _) (loc_fn hX hl)) fun D σ H ⟨S, H0, δ', ω', o', ⟨e1, e2, e3⟩, hS, r, q⟩ => by
    subst e1 e2 e3
    obtain ⟨as, B⟩ := r.bs hS
    refine ⟨_, _, _, ⟨rfl, rfl⟩, B.ok, B.rel, fun xs t H' s ht hz ra => q _ _ (B.own H' i t (.lst ds) (.lst xs) s ht ⟨xs, upd_same, hz, ra⟩ hi hlen)⟩
theorem ds_two (i j : Nat) {δ2 : DEnv} (hg : DG G tg (.two i j)) (h : DV G δ e d) (hb : bindT (.two i j) d δ = some δ2) (hi : ∀ q ∈ ω, q.1 ≠ i ∧ q.1 ≠ j := by simp)
    (hs : ∀ env : Env, swapsWithSole [tg] e pos.line env = pure false := by intro _; rfl) (hw : ∀ env : Env, swappedStores [tg] e env = pure none := by intro _; rfl) (h1 : ∀ env : Env, (assignEach [tg] env).map (·.2) = [assign tg env] := by intro _; rfl) :
    DS G δ ω (.Assign [tg] e pos) (.next δ2 ω) := fun X hX =>
  PS.imp (ps_asg (h X hX) (hg X hX) (hs _) (hw _) (h1 _)) fun D σ H ⟨S, H0, δ', ω', o', ⟨e1, e2, e3⟩, hS, r, q⟩ => by
    subst e1 e2 e3
    obtain ⟨as, g1, g2, g3, g4, g5, g6⟩ := r.ex
    refine ⟨_, _, _, ⟨rfl, rfl⟩, g3, g5, fun v H' s rv => ⟨_, _, d, δ2, hb, g3.mono s, g5.mono s, .inl rv, fun σ' R' keep hl => q _ _ ⟨as, g1, g2, g3.mono s, g4.trans (hide_mono s), R', fun k m c a f1 f2 => ?_⟩⟩⟩
    obtain ⟨q1, q2⟩ := g6 k m c a f1 f2
    have := hi _ (List.mem_of_getElem? f1)
    exact ⟨by rw [keep m (by simp [TSpec.ix]; exact this)]; exact q1, q2.mono (hide_mono s) (s _)⟩

/-! ### x.append(e), x.extend(e), x[k] = e -/
theorem pe_n {X : Cx} (hX : G.Is X) {i : Nat} {n : PySem.Str} (hN : G.N[i]? = some n) (hl : locB G n = true) : PE X (.Name n p) (tVar i) := by
  have hx := hX.nodbg n (List.mem_of_getElem? hN)
  have hv : Vis X.env.scope n := by
    rw [hX.sc]
    rcases loc_of hl with q | q
    · exact .inl q
    · exact .inr (.inl q)
  exact pe_var (by rw [hX.N]; exact hN) hv hx.1 hx.2
theorem ds_append (i k : Nat) {n : PySem.Str} {ap cp : Pos} (hN : G.N[i]? = some n) (hl : locB G n = true) (hk : ω[k]? = some (i, .lst ds)) (h : DV G δ e d) (hz : ds.length < 16777216)
    (hs : ∀ env : Env, swapsWith (.Call (.Attribute (.Name n p) "append" ap) [e] [] cp) none pos.line env = pure false := by intro _; rfl)
    (hbase : ∀ env : Env, attributeBase (.Name n p) "append" env (eval (.Name n p) env) = eval (.Name n p) env := by intro _; rfl)
    (hfew : ∀ env : Env, ((backTo cp (starEach [e] env)).all (fun x => !x.1) && (backToKw cp (keywordEach [] env)).all (fun x => x.1.isSome) && decide ([e].length + ([] : List Keyword).length + (if ([] : List Keyword).isEmpty then 0 else 1) < 30)) = true := by intro _; rfl)
    (hline : (ap.endLine == cp.line) = true := by rfl) (hs2 : ∀ env : Env, starEach [e] env = (false, eval e env) :: starEach [] env := by intro _; rfl) :
    DS G δ ω (.Expr (.Call (.Attribute (.Name n p) "append" ap) [e] [] cp) pos) (.next δ (ω.set k (i, .lst (ds ++ [d])))) := fun X hX =>
  PS.imp (ps_expr (pe_bm PySem.F.plainAttrs_list PySem.F.slot_list_append PySem.F.type_list_append mt_append (pe_n hX hN hl) (pa_cons (h X hX) pa_nil (hs2 _)) (hbase _) (hfew _) hline (hs2 _) rfl) (hs _)) fun D σ H ⟨S, H0, δ', ω', o', ⟨e1, e2, e3⟩, hS, r, q⟩ => by
    subst e1 e2 e3
    obtain ⟨as, B⟩ := r.bs hS
    obtain ⟨a, ha, q1, ⟨xs, q2, q3, q4⟩, fin⟩ := B.at_ k i _ hk
    refine ⟨.ref a, q1, .inl ⟨rfl, xs, SqL.of q2⟩, _, _, _, ⟨rfl, rfl⟩, B.ok, B.rel, fun v H' s rv => ⟨a, xs, v, rfl, rfl, s _ _ q2, ?_, q _ _ (fin H' _ _ s ⟨xs ++ [v], upd_same, ?_, (q4.mono (hide_mono s)).app (.one rv)⟩)⟩⟩
    · rw [q4.len, sizeLine_eq]; exact hz
    · rw [List.length_append, List.length_singleton, q4.len, sizeLine_eq]; omega
theorem ds_appendi (i k : Nat) {n : PySem.Str} {ap cp : Pos} (hN : G.N[i]? = some n) (hl : locB G n = true) (hk : ω[k]? = some (i, .lst ds)) (h : DV G (ov δ ω) e d) (hd : imm d = true) (hz : ds.length < 16777216)
    (hs : ∀ env : Env, swapsWith (.Call (.Attribute (.Name n p) "append" ap) [e] [] cp) none pos.line env = pure false := by intro _; rfl)
    (hbase : ∀ env : Env, attributeBase (.Name n p) "append" env (eval (.Name n p) env) = eval (.Name n p) env := by intro _; rfl)
    (hfew : ∀ env : Env, ((backTo cp (starEach [e] env)).all (fun x => !x.1) && (backToKw cp (keywordEach [] env)).all (fun x => x.1.isSome) && decide ([e].length + ([] : List Keyword).length + (if ([] : List Keyword).isEmpty then 0 else 1) < 30)) = true := by intro _; rfl)
    (hline : (ap.endLine == cp.line) = true := by rfl) (hs2 : ∀ env : Env, starEach [e] env = (false, eval e env) :: starEach [] env := by intro _; rfl) :
    DS G δ ω (.Expr (.Call (.Attribute (.Name n p) "append" ap) [e] [] cp) pos) (.next δ (ω.set k (i, .lst (ds ++ [d])))) := fun X hX =>
  PS.imp (ps_expr (pe_bm PySem.F.plainAttrs_list PySem.F.slot_list_append PySem.F.type_list_append mt_append (pe_n hX hN hl) (pa_cons (h X hX) pa_nil (hs2 _)) (hbase _) (hfew _) hline (hs2 _) rfl) (hs _)) fun D σ H ⟨S, H0, δ', ω', o', ⟨e1, e2, e3⟩, hS, r, q⟩ => by
    subst e1 e2 e3
    obtain ⟨as, B⟩ := r.bs hS
    obtain ⟨a, ha, q1, ⟨xs, q2, q3, q4⟩, fin⟩ := B.at_ k i _ hk
    refine ⟨.ref a, q1, .inl ⟨rfl, xs, SqL.of q2⟩, _, _, _, ⟨rfl, rfl⟩, B.okS, B.relS, fun v H' s rv => ⟨a, xs, v, rfl, rfl, s _ _ q2, ?_, q _ _ (fin H' _ _ s ⟨xs ++ [v], upd_same, ?_, (q4.mono (hide_mono s)).app (.one (B.imm H' v d s hd rv))⟩)⟩⟩
    · rw [q4.len, sizeLine_eq]; exact hz
    · rw [List.length_append, List.length_singleton, q4.len, sizeLine_eq]; omega
theorem ds_extend (i k : Nat) {n : PySem.Str} {ap cp : Pos} {es2 : List PyData} (hN : G.N[i]? = some n) (hl : locB G n = true) (hk : ω[k]? = some (i, .lst ds)) (h : DV G δ e (.list es2)) (hz : ds.length + es2.length ≤ 16777216)
    (hs : ∀ env : Env, swapsWith (.Call (.Attribute (.Name n p) "extend" ap) [e] [] cp) none pos.line env = pure false := by intro _; rfl)
    (hbase : ∀ env : Env, attributeBase (.Name n p) "extend" env (eval (.Name n p) env) = eval (.Name n p) env := by intro _; rfl)
    (hfew : ∀ env : Env, ((backTo cp (starEach [e] env)).all (fun x => !x.1) && (backToKw cp (keywordEach [] env)).all (fun x => x.1.isSome) && decide ([e].length + ([] : List Keyword).length + (if ([] : List Keyword).isEmpty then 0 else 1) < 30)) = true := by intro _; rfl)
    (hline : (ap.endLine == cp.line) = true := by rfl) (hs2 : ∀ env : Env, starEach [e] env = (false, eval e env) :: starEach [] env := by intro _; rfl) :
    DS G δ ω (.Expr (.Call (.Attribute (.Name n p) "extend" ap) [e] [] cp) pos) (.next δ (ω.set k (i, .lst (ds ++ es2)))) := fun X hX =>
  PS.imp (ps_expr (pe_bm PySem.F.plainAttrs_list PySem.F.slot_list_extend PySem.F.type_list_extend mt_extend (pe_n hX hN hl) (pa_cons (h X hX) pa_nil (hs2 _)) (hbase _) (hfew _) hline (hs2 _) rfl) (hs _)) fun D σ H ⟨S, H0, δ', ω', o', ⟨e1, e2, e3⟩, hS, r, q⟩ => by
    subst e1 e2 e3
    obtain ⟨as, B⟩ := r.bs hS
    obtain ⟨a, ha, q1, ⟨xs, q2, q3, q4⟩, fin⟩ := B.at_ k i _ hk
    refine ⟨.ref a, q1, .inl ⟨rfl, xs, SqL.of q2⟩, _, _, _, ⟨rfl, rfl⟩, B.ok, B.rel, fun v H' s rv => ?_⟩
    cases rv with
    | lst g1 g2 g3 =>
      rename_i a2 ys
      have hz' : xs.length + ys.length ≤ sizeLine := by rw [q4.len, g3.len, sizeLine_eq]; exact hz
      exact ⟨a, a2, xs, ys, rfl, rfl, s _ _ q2, (hide_some g1).2, hz', q _ _ (fin H' _ _ s ⟨xs ++ ys, upd_same, by rw [List.length_append]; exact hz', (q4.mono (hide_mono s)).app g3⟩)⟩

/-! ### if -/
theorem ds_if {k : Bool} (hc : DT G (ov δ ω) c k) (ht : k = true → DSs G δ ω thn out) (he : k = false → DSs G δ ω els out) : DS G δ ω (.If c thn els pos) out := fun X hX => by
  cases k with
  | true =>
    refine PS.imp (ps_if (hc X hX) (ht rfl X hX) (pss_never (sts := els))) fun D σ H ⟨S, H0, δ', ω', o', ⟨e1, e2, e3⟩, hS, r, q⟩ => ?_
    subst e1 e2 e3
    obtain ⟨as, B⟩ := r.bs hS
    exact ⟨_, _, _, ⟨rfl, rfl⟩, B.okS, B.relS, fun H' s => iteT ⟨S, H0, _, _, _, ⟨rfl, rfl, rfl⟩, hS, r.mono s, q⟩⟩
  | false =>
    refine PS.imp (ps_if (hc X hX) (pss_never (sts := thn)) (he rfl X hX)) fun D σ H ⟨S, H0, δ', ω', o', ⟨e1, e2, e3⟩, hS, r, q⟩ => ?_
    subst e1 e2 e3
    obtain ⟨as, B⟩ := r.bs hS
    exact ⟨_, _, _, ⟨rfl, rfl⟩, B.okS, B.relS, fun H' s => iteF ⟨S, H0, _, _, _, ⟨rfl, rfl, rfl⟩, hS, r.mono s, q⟩⟩
/-- if c: .. return ..; what stands behind it -/
theorem dss_if {k : Bool} (hc : DT G (ov δ ω) c k) (ht : k = true → ∃ d, out = .ret d ∧ DSs G δ ω thn (.ret d)) (he : k = false → DSs G δ ω rest out) : DSs G δ ω (.If c thn [] pos :: rest) out := by
  cases k with
  | true =>
    obtain ⟨d, e, h⟩ := ht rfl
    subst e
    exact dss_end (ds_if hc (fun _ => h) fun z => nomatch z)
  | false => exact dss_cons (ds_if hc (fun z => nomatch z) fun _ => dss_nil) (he rfl)
end
end DL

set_option Elab.async false
set_option linter.all false
set_option maxRecDepth 100000
namespace DL
open PySem PySem.Spec L2
set_option autoImplicit false

/-! ### enumerate(tuple), zip(list, tuple) -/
def IteT (K : PySem.W.Frag) (a : Addr) : It :=
  ⟨fun i H => ∃ (xs : List V) (x : V), SqT K H a xs ∧ xs[i]? = some x, fun i H v H' => ∃ T x, v = .ref T ∧ H T = none ∧ H' = upd H T (.tup [.int (i : Nat), x]) ∧ ∀ xs, SqT K H a xs → xs[i]? = some x, fun i H => ∃ xs : List V, SqT K H a xs ∧ xs.length = i⟩
theorem turn_enumT {P : Program} {w : World} {K : PySem.W.Frag} {elts : List Expr} {kk : Nat} {tpos : Pos} (a e it : Addr) (hei : e ≠ it) (hae : a ≠ e) (hai : a ≠ it) :
    Turn P w K (.Tuple elts kk tpos) (IteT K a) [e, it] e (fun i h => (∃ old, IsEnum h e it ((0 : Int) + (i : Int)) old) ∧ h.IsTupleIter it a i) where
  mem := by simp
  obj := fun i h st b hb => by
    obtain ⟨⟨old, he⟩, hit⟩ := st
    obtain ⟨o, ho, hc, hd⟩ := hit
    rcases List.mem_cons.mp hb with z | z
    · rw [z]; exact ⟨_, he, fun v q => nomatch q⟩
    · rw [List.mem_singleton] at z
      exact ⟨o, by rw [z]; exact ho, fun v q => by rw [hd] at q; cases q⟩
  keep := fun i h h' st k => ⟨let ⟨old, he⟩ := st.1; ⟨old, k e (by simp) _ he⟩, st.2.at fun o q => k it (by simp) o q⟩
  item := by
    intro X hP hw hK hc i pins s σ H E I hf st hg
    subst hP hw hK
    obtain ⟨he, hit⟩ := st
    obtain ⟨xs, x, hq, hx⟩ := hg
    obtain ⟨its, rv, p, hz⟩ := I.tuple hq
    obtain ⟨u, hu, ru⟩ := rv.get hx
    have hh : X.A.in1.handled = none := I.ok.hd hc
    have hi : i < its.toArray.size := by rw [List.size_toArray]; exact (List.getElem?_eq_some_iff.mp hu).1
    have hlt : ∀ b ∈ [e, it], b < s.heap.objs.size := fun b hb => by
      rcases List.mem_cons.mp hb with z | z
      · rw [z]; obtain ⟨_, q⟩ := he; exact Heap.lt_size q
      · rw [List.mem_singleton] at z; rw [z]; obtain ⟨_, q, _⟩ := hit; exact Heap.lt_size q
    refine (GoesN.enumFrom (elts := elts) (x1 := kk) (pos := tpos) 0 (Draws.tuple (prog := X.prog) (w := X.w) hh it a hai its.toArray) e hei (by simp [hei, hae.symm]) (by simp)).goes i s _ E hi ⟨he, hit, p⟩ fun v h' tk hY st' hk htk => ?_
    obtain ⟨T, t, y, ev, hT, hy, hIs⟩ := hY
    subst ev
    have ey : y = u := by
      rw [List.getElem?_toArray] at hy
      exact Option.some.inj (hy.symm.trans hu)
    subst ey
    have new : ObjOk X.prog X.w (upd H T (.tup [.int (i : Nat), x])) h' T (.tup [.int (i : Nat), x]) :=
      ⟨by show 2 ≤ sizeLine; decide, [.int (0 + (i : Int)) t, y], .cons ⟨t, by rw [Int.zero_add]⟩ (.cons ru .nil), hIs⟩
    have I1 : Inv X pins σ (upd H T (.tup [.int (i : Nat), x])) { s with heap := h', toks := tk } := I.turnedNew (ch := [e, it]) hk hf hT new
    refine ⟨.ref T, _, I1, rfl, ⟨T, x, rfl, I.hok.fresh hT, rfl, fun ys hy => by rw [I.tuple_inj hy hq]; exact hx⟩, ⟨st'.1, st'.2.1⟩, fun b hb => ?_⟩
    rw [upd_ne (Nat.ne_of_lt (Nat.lt_of_lt_of_le (hlt b hb) hT))]
    exact (hf b hb).1
  done := by
    intro X hP hw hK hc i pins s σ H E I hf st hg
    subst hP hw hK
    obtain ⟨he, hit⟩ := st
    obtain ⟨xs, hq, hx⟩ := hg
    obtain ⟨its, rv, p, hz⟩ := I.tuple hq
    have hh : X.A.in1.handled = none := I.ok.hd hc
    have en : i = its.toArray.size := by rw [List.size_toArray, ← rv.length]; exact hx.symm
    subst en
    refine (GoesN.enumFrom (elts := elts) (x1 := kk) (pos := tpos) 0 (Draws.tuple (prog := X.prog) (w := X.w) hh it a hai its.toArray) e hei (by simp [hei, hae.symm]) (by simp)).stops s _ E ⟨he, hit, p⟩ fun h' tk hk htk => ?_
    exact I.turnedL (ch := [e, it]) hk hf
  self := fun A i s Q E st h => let ⟨⟨_, he⟩, _⟩ := st; wpAny_pyIter_enum he h
set_option maxHeartbeats 1000000 in
theorem meets_enum1 {v : Value} {o : Obj} {H : Heap → Prop} (B : Begins v o H) :
    Meets (Builtin.«enumerate.__new__» ⟨[.type "enumerate", v], []⟩) (fun _ R s => H s.heap ∧
      R (.ok (.ret (.ref (s.heap.push o).objs.size))) { s with heap := (s.heap.push o).push { cls := .type "enumerate", data := .fields #[.none, .bool false, .ref s.heap.objs.size, rawInt 0, .none, .none] } }) :=
  .of_wp fun prog w A R s hh => by
    obtain ⟨hp, g, d, tk, os⟩ := s
    obtain ⟨h1, h⟩ := hh
    have hs1 := sub_enumerate
    have go : ∀ {A' : Around} {E : Value → Shared → Prop} {Q : Value → Shared → Prop}, Q (.ref hp.objs.size) ⟨hp.push o, g, d, tk, os⟩ → wpAny (model prog w) A' (pyIter v) Q E ⟨hp, g, d, tk, os⟩ :=
      fun q => B.iter prog w _ _ ⟨hp, g, d, tk, os⟩ _ h1 q
    wp_walk using go
    refine wpAny_stack_any fun st => wpAny_pure ?_
    split
    · rename_i c _ _ _ _ _
      cases (c == Value.type "enumerate")
      · wp_walk using go
        exact ⟨_, rfl, h⟩
      · wp_walk using go
        exact ⟨_, rfl, h⟩
    · wp_walk using go
      exact ⟨_, rfl, h⟩
theorem enum_begins1 {prog : Program} {w : World} {A : Around} {E : Value → Shared → Prop} {s : Shared} {v : Value} {o : Obj} {H : Heap → Prop} {Q : Value → Shared → Prop} (B : Begins v o H) (h1 : H s.heap)
    (h : ∀ h', IsEnum h' (s.heap.objs.size + 1) s.heap.objs.size 0 .none → h'.get? s.heap.objs.size = some o → h'.objs.size = s.heap.objs.size + 2 →
      (∀ b o, s.heap.get? b = some o → h'.get? b = some o) → Q (.ref (s.heap.objs.size + 1)) { s with heap := h' }) :
    wpAny (model prog w) A (call (.type "enumerate") [v]) Q E s := by
  refine callType_new F.called_enumerate (by decide) (F.typeCall_enumerate_1 _) (F.newCall_enumerate_1 _) (fun obj => F.args_object_init_2 obj _) F.entry_enumerate_new (meets_enum1 B) ⟨h1, ?_⟩
  have hz : (s.heap.push o).objs.size = s.heap.objs.size + 1 := Heap.size_push ..
  show _ ∧ _
  rw [hz]
  have he : IsEnum ((s.heap.push o).push { cls := .type "enumerate", data := .fields #[.none, .bool false, .ref s.heap.objs.size, rawInt 0, .none, .none] }) (s.heap.objs.size + 1) s.heap.objs.size 0 .none := by
    have e := Heap.get?_push_size (s.heap.push o) (o := { cls := .type "enumerate", data := .fields #[.none, .bool false, .ref s.heap.objs.size, rawInt 0, .none, .none] }) rfl
    rw [hz] at e
    exact e
  exact ⟨⟨_, he, rfl⟩, h _ he (Heap.get?_push_of_some _ (Heap.get?_push_size _ B.free)) (by rw [Heap.size_push, hz]) fun b o x => Heap.get?_push_of_some _ (Heap.get?_push_of_some _ x)⟩
def iEnumT (K : PySem.W.Frag) (ta : TA) : TI := fun σ H R => ta σ H fun vs H1 => ∃ a xs, vs = [.ref a] ∧ SqT K H1 a xs ∧ R (IteT K a) H1
theorem pi_enumT {X : Cx} {e : Expr} {ta : TA} {p pos tpos : Pos} {elts : List Expr} {kk : Nat} (hg : Gl X "enumerate") (hm : X.mg "enumerate" = none) (ha : PA X [e] ta) (hs : starEach [e] X.env = [(false, eval e X.env)]) :
    PI X (.Tuple elts kk tpos) (.Call (.Name "enumerate" p) [e] [] pos) (iEnumT X.K ta) := by
  refine ⟨fun pins s σ H R I h => ?_⟩
  refine PyProof.Rows.Call_ (ld_blt I hg hm PyProof.Rows.boot_enumerate (PyProof.Rows.callWith_type1 (thn (ha.run pos pins s σ H _ I h) fun us s1 ⟨vs, H1, I1, r1, q1⟩ => ?_) hs rfl))
  obtain ⟨a, xs, ex, hq, q⟩ := q1
  subst ex
  obtain rfl := Vals.ref1 r1
  obtain ⟨its, rv, p', hz⟩ := I1.tuple hq
  have la : a < s1.heap.objs.size := p'.lt
  refine enum_begins1 (begins_tuple a its.toArray) p' fun h' he hit hsz hk => wpAny_pyIter_enum he ?_
  have I2 : Inv X pins σ H1 { s1 with heap := h' } := I1.kept (t' := s1.toks) hk
  refine ⟨s1.heap.objs.size + 1, [s1.heap.objs.size + 1, s1.heap.objs.size], _, _, H1, rfl, I2, turn_enumT a (s1.heap.objs.size + 1) s1.heap.objs.size (Nat.succ_ne_self _) (Nat.ne_of_lt (Nat.lt_succ_of_lt la)) (Nat.ne_of_lt la), ⟨⟨.none, he⟩, ⟨_, hit, rfl, rfl⟩⟩, fun b hb => ?_, q⟩
  have hle : s1.heap.objs.size ≤ b := by
    rcases List.mem_cons.mp hb with z | z
    · rw [z]; exact Nat.le_add_right _ _
    · rw [List.mem_singleton] at z; rw [z]; exact Nat.le_refl _
  exact I1.fpOk hle (I1.hok.fresh hle)
end DL

set_option Elab.async false
set_option linter.all false
set_option maxRecDepth 100000
namespace DL
open PySem PySem.Spec L2
set_option autoImplicit false

/-! ### what is walked -/
def ItOk (K : PySem.W.Frag) (F : Hp) (J : It) (items : List PyData) : Prop := ∀ (S2 : List Addr) (H2 : Hp), Same F (hide S2 H2) → SOk S2 H2 →
  (∀ (i : Nat) (d : PyData), items[i]? = some d → J.go i H2 ∧ ∀ x H3, J.yld i H2 x H3 → Same H2 H3 ∧ Rw K (hide S2 H3) x d) ∧ J.stop items.length H2
def tDI (K : PySem.W.Frag) (R : DEnv → List PyData → Prop) : TI := fun σ H Q => ∃ S δ items, R δ items ∧ SOk S H ∧ Rel K S δ σ H ∧ ∀ J H', Same H H' → ItOk K (hide S H') J items → Q J H'
def DI (G : Ct) (δ : DEnv) (tg iter : Expr) (items : List PyData) : Prop := ∀ X, G.Is X → PI X tg iter (tDI G.m.K fun δ' d' => δ' = δ ∧ d' = items)
/-- where the items may be bound to one name -/
def ItOk1 (K : PySem.W.Frag) (F : Hp) (J : It) (items : List PyData) : Prop := ∀ (S2 : List Addr) (H2 : Hp), Same F (hide S2 H2) → SOk S2 H2 →
  (∀ (i : Nat) (d : PyData), items[i]? = some d → J.go i H2 ∧ ∀ x H3, J.yld i H2 x H3 → Same H2 H3 ∧ Rp K (hide S2 H3) x d) ∧ J.stop items.length H2
def tDI1 (K : PySem.W.Frag) (R : DEnv → List PyData → Prop) : TI := fun σ H Q => ∃ S δ items, R δ items ∧ SOk S H ∧ Rel K S δ σ H ∧ ∀ J H', Same H H' → ItOk1 K (hide S H') J items → Q J H'
def DI1 (G : Ct) (δ : DEnv) (tg iter : Expr) (items : List PyData) : Prop := ∀ X, G.Is X → PI X tg iter (tDI1 G.m.K fun δ' d' => δ' = δ ∧ d' = items)
theorem ItOk1.weak {K : PySem.W.Frag} {F : Hp} {J : It} {items : List PyData} (h : ItOk1 K F J items) : ItOk K F J items := fun S2 H2 s ok =>
  let ⟨h1, h2⟩ := h S2 H2 s ok
  ⟨fun i d e => let ⟨g, y⟩ := h1 i d e; ⟨g, fun x H3 q => let ⟨a, b⟩ := y x H3 q; ⟨a, .inl b⟩⟩, h2⟩
theorem PI.imp {X : Cx} {tg iter : Expr} {t t' : TI} (h : PI X tg iter t) (w : ∀ σ H Q, t' σ H Q → t σ H Q) : PI X tg iter t' := ⟨fun pins s σ H R I q => h.run pins s σ H R I (w _ _ _ q)⟩
section
variable {G : Ct} {δ δ1 : DEnv} {ω ω1 : Own} {st : Stmt} {rest body thn els : List Stmt} {out : Out} {a b c e tg iter : Expr} {es : List Expr} {x y z d : PyData} {ds items : List PyData} {pos p p2 p3 : Pos} {ts : TSpec}
theorem DI1.weak (h : DI1 G δ tg iter items) : DI G δ tg iter items := fun X hX => PI.imp (h X hX) fun σ H Q ⟨S, δ', d', r, ok, R, q⟩ => ⟨S, δ', d', r, ok, R, fun J H' s i => q J H' s i.weak⟩
theorem DI1.conv (h : DI1 G δ tg iter items) {i2 : List PyData} (q : items = i2) : DI1 G δ tg iter i2 := q ▸ h
theorem DI.conv (h : DI G δ tg iter items) {i2 : List PyData} (q : items = i2) : DI G δ tg iter i2 := q ▸ h
theorem seq_itok {K : PySem.W.Frag} {S : List Addr} {H : Hp} {v : V} (r : Rp K (hide S H) v y) (h : Seq y ds) : (∃ a, v = .ref a ∧ (∃ xs, SqL K H a xs) ∧ ItOk1 K (hide S H) (Itl K a) ds ∧ ∃ z, y = .list z) ∨ (∃ a, v = .ref a ∧ (∃ xs, SqT K H a xs) ∧ ItOk1 K (hide S H) (Itt K a) ds ∧ ∃ z, y = .tuple z) := by
  cases h with
  | lst =>
    left
    cases r with
    | lst e1 z1 a1 =>
      rename_i a xs
      refine ⟨a, rfl, ⟨xs, SqL.of (hide_some e1).2⟩, fun S2 H2 s ok => ⟨fun i d e => ?_, xs, SqL.of (hide_some (s _ _ e1)).2, by rw [a1.len]; exact Nat.le_refl _⟩, _, rfl⟩
      obtain ⟨v, hv, rv⟩ := a1.get e
      refine ⟨⟨xs, v, SqL.of (hide_some (s _ _ e1)).2, hv⟩, fun x H3 y => ?_⟩
      obtain ⟨e3, hx⟩ := y
      subst e3
      have := hx xs (SqL.of (hide_some (s _ _ e1)).2)
      rw [hv] at this
      cases this
      exact ⟨Same.refl _, rv.mono s⟩
  | tup =>
    right
    cases r with
    | tup e1 k1 z1 a1 =>
      rename_i a xs o
      refine ⟨a, rfl, ⟨xs, SqT.frz (hide_some e1).2⟩, fun S2 H2 s ok => ⟨fun i d e => ?_, xs, SqT.frz (hide_some (s _ _ e1)).2, by rw [a1.len]; exact Nat.le_refl _⟩, _, rfl⟩
      obtain ⟨v, hv, rv⟩ := a1.get e
      refine ⟨⟨xs, v, SqT.frz (hide_some (s _ _ e1)).2, hv⟩, fun x H3 y => ?_⟩
      obtain ⟨e3, hx⟩ := y
      subst e3
      have := hx xs (SqT.frz (hide_some (s _ _ e1)).2)
      rw [hv] at this
      cases this
      exact ⟨Same.refl _, rv.mono s⟩
theorem di_seq (ha : DV G δ iter y) (h : Seq y ds) : DI1 G δ tg iter ds := fun X hX => by
  cases h with
  | lst =>
    refine PI.imp (pi_list (ha X hX)) fun σ H Q ⟨S, δ', d', ⟨e1, e2⟩, ok, R, q⟩ => ?_
    subst e1 e2
    refine ⟨S, _, _, ⟨rfl, rfl⟩, ok, R, fun v H1 s1 r1 => ?_⟩
    rcases seq_itok r1 (Seq.lst d') with ⟨a, h1, h2, h3, _⟩ | ⟨_, _, _, _, z, hz⟩
    · rw [hX.K]
      exact ⟨a, h1, h2, q _ H1 s1 h3⟩
    · cases hz
  | tup =>
    refine PI.imp (pi_tup (ha X hX)) fun σ H Q ⟨S, δ', d', ⟨e1, e2⟩, ok, R, q⟩ => ?_
    subst e1 e2
    refine ⟨S, _, _, ⟨rfl, rfl⟩, ok, R, fun v H1 s1 r1 => ?_⟩
    rcases seq_itok r1 (Seq.tup d') with ⟨_, _, _, _, z, hz⟩ | ⟨a, h1, h2, h3, _⟩
    · cases hz
    · rw [hX.K]
      exact ⟨a, h1, h2, q _ H1 s1 h3⟩
theorem itr_ok {K : PySem.W.Frag} {F : Hp} {lo : Int} {n : Nat} : ItOk1 K F (Itr lo n) (((List.range n).map fun i => lo + ((i : Nat) : Int)).map .int) := fun S2 H2 s ok => by
  refine ⟨fun i d e => ?_, by show n ≤ _; simp⟩
  rw [List.map_map, List.getElem?_map] at e
  have hi : i < n := by
    cases q : (List.range n)[i]? with
    | none => rw [q] at e; cases e
    | some j => have := (List.getElem?_eq_some_iff.mp q).1; simpa using this
  rw [List.getElem?_range hi] at e
  cases e
  refine ⟨hi, fun x H3 y => ?_⟩
  obtain ⟨e1, e2⟩ := y
  subst e1 e2
  exact ⟨Same.refl _, .int _⟩
theorem di_range {n : Int} (B : Blt G.m) (hg : globB G.sc "range" = true) (ha : DV G δ a (.int n)) (h0 : -(2 ^ 62) ≤ n) (h1 : n < 2 ^ 62) (hs : ∀ env : Env, starEach [a] env = (false, eval a env) :: starEach [] env := by intro _; rfl)
    (hs2 : ∀ env : Env, starEach [a] env = [(false, eval a env)] := by intro _; rfl) : DI1 G δ tg (.Call (.Name "range" p) [a] [] pos) ((upto n).map .int) := fun X hX =>
  PI.imp (pi_range1 (gl_of hX hg) (by rw [hX.mg]; exact B.range) (pa_cons (ha X hX) pa_nil (hs _)) (hs2 _)) fun σ H Q ⟨S, δ', d', ⟨e1, e2⟩, ok, R, q⟩ => by
    subst e1 e2
    refine ⟨S, _, _, ⟨rfl, rfl⟩, ok, R, fun v H1 s1 r1 => ?_⟩
    cases r1
    refine ⟨n, rfl, h0, h1, q _ H1 s1 ?_⟩
    have e : upto n = (List.range n.toNat).map fun i => (0 : Int) + ((i : Nat) : Int) := by
      unfold upto
      congr 1
      funext i
      rw [Int.zero_add]
    rw [e]
    exact itr_ok
theorem di_range2 {m n : Int} (B : Blt G.m) (hg : globB G.sc "range" = true) (ha : DV G δ a (.int m)) (hb : DV G δ b (.int n)) (h0 : -(2 ^ 62) ≤ m ∧ m < 2 ^ 62 ∧ -(2 ^ 62) ≤ n ∧ n < 2 ^ 62)
    (hs : ∀ env : Env, starEach [a, b] env = (false, eval a env) :: starEach [b] env := by intro _; rfl) (hs3 : ∀ env : Env, starEach [b] env = (false, eval b env) :: starEach [] env := by intro _; rfl)
    (hs2 : ∀ env : Env, starEach [a, b] env = [(false, eval a env), (false, eval b env)] := by intro _; rfl) (hs4 : ∀ env : Env, starEach [b] env = [(false, eval b env)] := by intro _; rfl) :
    DI1 G δ tg (.Call (.Name "range" p) [a, b] [] pos) (((List.range (n - m).toNat).map fun i => m + ((i : Nat) : Int)).map .int) := fun X hX =>
  PI.imp (pi_range2 (gl_of hX hg) (by rw [hX.mg]; exact B.range) (pa_cons (ha X hX) (pa_cons (hb X hX) pa_nil (hs3 _)) (hs _)) (hs2 _) (hs4 _)) fun σ H Q ⟨S, δ', d', ⟨e1, e2⟩, ok, R, q⟩ => by
    subst e1 e2
    refine ⟨S, _, _, ⟨rfl, rfl⟩, ok, R, fun v H1 s1 r1 => ⟨S, _, _, ⟨rfl, rfl⟩, ok.mono s1, R.mono s1, fun w H2 s2 r2 => ?_⟩⟩
    cases r1
    cases r2
    exact ⟨m, n, rfl, h0, q _ H2 (s1.trans s2) itr_ok⟩
/-- the items with their numbers -/
def numbered (ds : List PyData) : List PyData := ds.zipIdx.map fun q => .tuple [.int (q.2 : Nat), q.1]
theorem numbered_get {i : Nat} {d : PyData} (h : (numbered ds)[i]? = some d) : ∃ d', ds[i]? = some d' ∧ d = .tuple [.int (i : Nat), d'] := by
  unfold numbered at h
  rw [List.getElem?_map, List.getElem?_zipIdx] at h
  cases e : ds[i]? with
  | none => rw [e] at h; cases h
  | some d' =>
    rw [e] at h
    simp only [Option.map_some, Option.some.injEq, Nat.zero_add] at h
    exact ⟨d', rfl, h.symm⟩
theorem numbered_len : (numbered ds).length = ds.length := by unfold numbered; simp
theorem pair_rw {K : PySem.W.Frag} {S2 : List Addr} {H2 : Hp} {T : Addr} {v : V} {i : Nat} (ok : SOk S2 H2) (hT : H2 T = none) (rv : Rp K (hide S2 H2) v d) : Rw K (hide S2 (upd H2 T (.tup [.int (i : Nat), v]))) (.ref T) (.tuple [.int (i : Nat), d]) :=
  .inr ⟨T, _, _, rfl, rfl, hide_upd_at ok hT, .cons (.int _) (.cons (rv.mono (hide_mono (same_upd hT _))) .nil)⟩
theorem di_enum {elts : List Expr} {kk : Nat} {tpos : Pos} (B : Blt G.m) (hg : globB G.sc "enumerate" = true) (ha : DV G δ a y) (h : Seq y ds) (hs : ∀ env : Env, starEach [a] env = (false, eval a env) :: starEach [] env := by intro _; rfl)
    (hs2 : ∀ env : Env, starEach [a] env = [(false, eval a env)] := by intro _; rfl) : DI G δ (.Tuple elts kk tpos) (.Call (.Name "enumerate" p) [a] [] pos) (numbered ds) := fun X hX => by
  cases h with
  | lst =>
    refine PI.imp (pi_enum (gl_of hX hg) (by rw [hX.mg]; exact B.enumerate) (pa_cons (ha X hX) pa_nil (hs _)) (hs2 _)) fun σ H Q ⟨S, δ', d', ⟨e1, e2⟩, ok, R, q⟩ => ?_
    subst e1 e2
    refine ⟨S, _, _, ⟨rfl, rfl⟩, ok, R, fun v H1 s1 r1 => ?_⟩
    cases r1 with
    | lst g1 g2 g3 =>
      rename_i a xs
      rw [hX.K]
      refine ⟨a, xs, rfl, SqL.of (hide_some g1).2, q _ H1 s1 fun S2 H2 s ok => ⟨fun i d e => ?_, xs, SqL.of (hide_some (s _ _ g1)).2, by rw [numbered_len, g3.len]; exact Nat.le_refl _⟩⟩
      obtain ⟨d', h1, h2⟩ := numbered_get e
      subst h2
      obtain ⟨v, hv, rv⟩ := g3.get h1
      refine ⟨⟨xs, v, SqL.of (hide_some (s _ _ g1)).2, hv⟩, fun x H3 y => ?_⟩
      obtain ⟨T, u, e1, hT, e3, hu⟩ := y
      subst e1 e3
      have := hu xs (SqL.of (hide_some (s _ _ g1)).2)
      rw [hv] at this
      cases this
      exact ⟨same_upd hT _, pair_rw ok hT (rv.mono s)⟩
  | tup =>
    refine PI.imp (pi_enumT (gl_of hX hg) (by rw [hX.mg]; exact B.enumerate) (pa_cons (ha X hX) pa_nil (hs _)) (hs2 _)) fun σ H Q ⟨S, δ', d', ⟨e1, e2⟩, ok, R, q⟩ => ?_
    subst e1 e2
    refine ⟨S, _, _, ⟨rfl, rfl⟩, ok, R, fun v H1 s1 r1 => ?_⟩
    cases r1 with
    | tup g1 k1 g2 g3 =>
      rename_i a xs o
      rw [hX.K]
      refine ⟨a, xs, rfl, SqT.frz (hide_some g1).2, q _ H1 s1 fun S2 H2 s ok => ⟨fun i d e => ?_, xs, SqT.frz (hide_some (s _ _ g1)).2, by rw [numbered_len, g3.len]⟩⟩
      obtain ⟨d', h1, h2⟩ := numbered_get e
      subst h2
      obtain ⟨v, hv, rv⟩ := g3.get h1
      refine ⟨⟨xs, v, SqT.frz (hide_some (s _ _ g1)).2, hv⟩, fun x H3 y => ?_⟩
      obtain ⟨T, u, e1, hT, e3, hu⟩ := y
      subst e1 e3
      have := hu xs (SqT.frz (hide_some (s _ _ g1)).2)
      rw [hv] at this
      cases this
      exact ⟨same_upd hT _, pair_rw ok hT (rv.mono s)⟩

/-! ### for -/
def ofree (ts : TSpec) (ω : Own) : Prop := ∀ q ∈ ω, q.1 ∉ ts.ix
def DFor (G : Ct) (ts : TSpec) (body : List Stmt) : List PyData → DEnv → Own → Out → Prop
  | [], δ, ω, out => out = .next δ ω
  | d :: ds, δ, ω, out => ∃ δb, bindT ts d δ = some δb ∧ ofree ts ω ∧ ((∃ δ1 ω1, DSs G δb ω body (.next δ1 ω1) ∧ DFor G ts body ds δ1 ω1 out) ∨ ∃ r, out = .ret r ∧ DSs G δb ω body (.ret r))
theorem SRel.rebase {K : PySem.W.Frag} {S : List Addr} {H0 H : Hp} {σ : L2.St} (r : SRel K S H0 δ ω σ H) : ∃ F, Same H0 F ∧ SRel K S F δ ω σ H ∧ (∃ as : List Addr, F = hide as H) := by
  obtain ⟨as, h1, h2, h3, h4, h5, h6⟩ := r.ex
  exact ⟨hide as H, h4, ⟨as, h1, h2, h3, Same.refl _, h5, h6⟩, as, rfl⟩
theorem SRel.unbase {K : PySem.W.Frag} {S : List Addr} {H0 F H : Hp} {σ : L2.St} (r : SRel K S F δ ω σ H) (s : Same H0 F) : SRel K S H0 δ ω σ H := by
  obtain ⟨as, h1, h2, h3, h4, h5, h6⟩ := r.ex
  exact ⟨as, h1, h2, h3, s.trans h4, h5, h6⟩
theorem OutOk.unbase {K : PySem.W.Frag} {S : List Addr} {H0 F : Hp} {D : Ends} (s : Same H0 F) : ∀ {out : Out}, OutOk K S H0 D out → OutOk K S F D out
  | .next _ _, q => fun σ' H' r => q σ' H' (r.unbase s)
  | .ret _, q => fun v H' s' rv => q v H' (s.trans s') rv
theorem ds_for_core {wi : TI} (hg : DG G tg ts) (hpi : ∀ X, G.Is X → PI X tg iter wi) (hbody : DFor G ts body items δ ω out)
    (hwi : ∀ (S : List Addr) (σ : L2.St) (H : Hp) (Q : It → Hp → Prop), SOk S H → Rel G.m.K S δ σ H →
      (∀ J H', Same H H' → (∀ (S2 : List Addr) (H2 : Hp), Same (hide S H') (hide S2 H2) → SOk S2 H2 →
        (∀ (i : Nat) (d : PyData), items[i]? = some d → J.go i H2 ∧ ∀ x H3, J.yld i H2 x H3 → Same H2 H3 ∧ ts.rep G.m.K (hide S2 H3) x d) ∧ J.stop items.length H2) → Q J H') → wi σ H Q)
    (hs : ∀ (env : Env) (x : Value), foldedSetIterable iter env x = pure x) : DS G δ ω (.For tg iter body [] pos) out := fun X hX => by
  have hb : PSs X body (tDS G.m.K fun δ' ω' o' => DSs G δ' ω' body o') := PSs.rel fun δ' ω' o' h => h X hX
  refine PS.imp (ps_for hX.xe hX.calm (hpi X hX) (hg X hX) hb (hs _)) fun D σ H ⟨S, H0, δ', ω', o', ⟨e1, e2, e3⟩, hS, r, q⟩ => ?_
  subst e1 e2 e3
  obtain ⟨as, h1, h2, h3, h4, h5, h6⟩ := r.ex
  refine hwi _ σ H _ h3 h5 fun J H1 s1 itok => ?_
  have hF : Same H0 (hide as H1) := h4.trans (hide_mono s1)
  have hSF : SOk S (hide as H1) := hS.mono hF
  have r1 : SRel G.m.K S (hide as H1) δ' ω' σ H1 := ⟨as, h1, h2, h3.mono s1, Same.refl _, h5.mono s1, fun k i c a e1 e2 => let ⟨q1, q2⟩ := h6 k i c a e1 e2; ⟨q1, q2.mono (hide_mono s1) (s1 _)⟩⟩
  generalize hFe : hide as H1 = F at hF hSF r1
  refine ⟨fun i m σ' H' => m = items.length - i ∧ i ≤ items.length ∧ ∃ δi ωi, DFor G ts body (items.drop i) δi ωi o' ∧ SRel G.m.K S F δi ωi σ' H', ⟨_, rfl, Nat.zero_le _, δ', ω', hbody, r1⟩, ?_⟩
  rintro i m σ' H' ⟨em, hi, δi, ωi, hrun, r'⟩
  obtain ⟨as', b1, b2, b3, b4, b5, b6⟩ := r'.ex
  have hsm : Same (hide (as ++ S) H1) (hide (as' ++ S) H') := by
    rw [hide_app, hide_app, hFe]
    exact hide_mono b4
  obtain ⟨hgo, hstop⟩ := itok _ _ hsm b3
  by_cases hlt : i < items.length
  · rw [List.drop_eq_getElem_cons hlt] at hrun
    obtain ⟨δb, hbd, hfree, halt⟩ := hrun
    obtain ⟨go, yld⟩ := hgo i items[i] (List.getElem?_eq_getElem hlt)
    have body : ∀ (N : L2.St → Hp → Prop) (o2 : Out), DSs G δb ωi body o2 → OutOk G.m.K S F { D with nx := N, ct := N, bk := D.nx } o2 → ∀ x H3, J.yld i H' x H3 → tDG G.m.K ts x σ' H3 fun σ2 H2 => tDS G.m.K (fun δ' ω' o' => DSs G δ' ω' body o') { D with nx := N, ct := N, bk := D.nx } σ2 H2 := by
      intro N o2 hd ho x H3 y
      obtain ⟨s3, rx⟩ := yld x H3 y
      refine ⟨_, δi, items[i], δb, hbd, b3.mono s3, b5.mono s3, rx, fun σ2 R2 keep hl => ⟨S, F, δb, ωi, o2, hd, hSF, ⟨as', b1, b2, b3.mono s3, b4.trans (hide_mono s3), R2, fun k j c a e1 e2 => ?_⟩, ho⟩⟩
      obtain ⟨z1, z2⟩ := b6 k j c a e1 e2
      exact ⟨by rw [keep j (hfree _ (List.mem_of_getElem? e1))]; exact z1, z2.mono (hide_mono s3) (s3 _)⟩
    rcases halt with ⟨δ1, ω1, hd, hrest⟩ | ⟨rr, eo, hd⟩
    · refine .inr ⟨go, fun σ2 H2 => ∃ δ1 ω1, DFor G ts _ (items.drop (i + 1)) δ1 ω1 o' ∧ SRel G.m.K S F δ1 ω1 σ2 H2, fun σ2 H2 ⟨d1, w1, g1, g2⟩ => ⟨items.length - (i + 1), by omega, rfl, hlt, d1, w1, g1, g2⟩, ?_⟩
      exact body _ _ hd fun σ2 H2 r2 => ⟨δ1, ω1, hrest, r2⟩
    · subst eo
      refine .inr ⟨go, fun _ _ => False, fun _ _ z => z.elim, ?_⟩
      exact body _ _ hd fun v H2 s2 rv => q v H2 (hF.trans s2) rv
  · have ei : i = items.length := by omega
    subst ei
    rw [List.drop_length] at hrun
    have eo : o' = .next δi ωi := hrun
    subst eo
    exact .inl ⟨hstop, q σ' H' (r'.unbase hF)⟩
/-- for x in .., x one name -/
theorem ds_for1 (i : Nat) (hg : DG G tg (.one i)) (hi : DI1 G δ tg iter items) (hbody : DFor G (.one i) body items δ ω out) (hs : ∀ (env : Env) (x : Value), foldedSetIterable iter env x = pure x := by intro _ _; rfl) : DS G δ ω (.For tg iter body [] pos) out :=
  ds_for_core hg hi hbody (fun S σ H Q ok R h => ⟨S, δ, items, ⟨rfl, rfl⟩, ok, R, fun J H' s it => h J H' s it⟩) hs
/-- for x, y in .. -/
theorem ds_for2 (i j : Nat) (hg : DG G tg (.two i j)) (hi : DI G δ tg iter items) (hbody : DFor G (.two i j) body items δ ω out) (hs : ∀ (env : Env) (x : Value), foldedSetIterable iter env x = pure x := by intro _ _; rfl) : DS G δ ω (.For tg iter body [] pos) out :=
  ds_for_core hg hi hbody (fun S σ H Q ok R h => ⟨S, δ, items, ⟨rfl, rfl⟩, ok, R, fun J H' s it => h J H' s it⟩) hs
/-! ### while -/
def DWh (G : Ct) (c : Expr) (body : List Stmt) : Nat → DEnv → Own → Out → Prop
  | 0, δ, ω, out => DT G (ov δ ω) c false ∧ out = .next δ ω
  | n + 1, δ, ω, out => DT G (ov δ ω) c true ∧ ∃ δ1 ω1, DSs G δ ω body (.next δ1 ω1) ∧ DWh G c body n δ1 ω1 out
theorem ds_while (n : Nat) (h : DWh G c body n δ ω out) : DS G δ ω (.While c body [] pos) out := fun X hX => by
  have hb : PSs X body (tDS G.m.K fun δ' ω' o' => DSs G δ' ω' body o') := PSs.rel fun δ' ω' o' h => h X hX
  have hc : PT X c (tDT G.m.K fun δ' b' => DT G δ' c b') := PT.rel fun δ' b' h => h X hX
  refine PS.imp (ps_while hX.xe hc hb) fun D σ H ⟨S, H0, δ', ω', o', ⟨e1, e2, e3⟩, hS, r, q⟩ => ?_
  subst e1 e2 e3
  refine ⟨fun m σ' H' => ∃ δi ωi, DWh G c body m δi ωi o' ∧ SRel G.m.K S H0 δi ωi σ' H', ⟨n, δ', ω', h, r⟩, ?_⟩
  rintro m σ' H' ⟨δi, ωi, hrun, r'⟩
  obtain ⟨g1, g2, g3⟩ := r'.over hS
  cases m with
  | zero =>
    obtain ⟨ht, eo⟩ := hrun
    subst eo
    exact ⟨S, _, false, ht, g1, g3, fun H2 s2 => iteF (q σ' H2 (r'.mono s2))⟩
  | succ m =>
    obtain ⟨ht, δ1, ω1, hd, hrest⟩ := hrun
    refine ⟨S, _, true, ht, g1, g3, fun H2 s2 => iteT ⟨fun σ2 H3 => ∃ δi ωi, DWh G c body m δi ωi o' ∧ SRel G.m.K S H0 δi ωi σ2 H3, fun σ2 H3 z => ⟨m, Nat.lt_succ_self m, z⟩, ?_⟩⟩
    exact ⟨S, H0, δi, ωi, _, hd, hS, r'.mono s2, fun σ3 H3 r3 => ⟨δ1, ω1, hrest, r3⟩⟩

/-! ### comprehensions -/
/-- a block's surroundings -/
def Ct.blk (G : Ct) (scope : Scope) : Ct := { G with sc := relS scope G.sc, fnB := fun x => scope.names.lookup x == some .cell }
theorem Ct.Is.blk {X : Cx} (h : G.Is X) {scope : Scope} (s : Shared) (H : Hp) (C : Addr) (cl : List (PySem.Str × Addr)) (fp : List Addr) : (G.blk scope).Is (X.blk s H scope (compEnvC scope cl C X.env) fp) where
  prog := h.prog
  w := h.w
  K := h.K
  mg := h.mg
  base := h.base
  N := h.N
  nd := h.nd
  sc := by
    show relS scope X.env.scope = relS scope G.sc
    rw [h.sc]
  calm := h.calm
  rm := h.rm
  xe := PassesOwn.never
  fn := fun x => rfl
  nodbg := h.nodbg
/-- the slots at vs forgotten -/
def dwipe (δ : DEnv) : List Nat → DEnv
  | [] => δ
  | v :: vs => (dwipe δ vs).set v none
theorem wipe_at (σ : L2.St) (i : Nat) : ∀ vs : List Nat, i ∉ vs → (wipe σ vs)[i]? = σ[i]?
  | [], _ => rfl
  | v :: vs, h => by
    simp only [List.mem_cons, not_or] at h
    unfold wipe
    rw [List.getElem?_set_ne (fun z => h.1 z.symm)]
    exact wipe_at σ i vs h.2
theorem wipe_in (σ : L2.St) (i : Nat) : ∀ vs : List Nat, i ∈ vs → (wipe σ vs)[i]? = if i < σ.length then some none else none
  | [], h => by simp at h
  | v :: vs, h => by
    unfold wipe
    by_cases e : v = i
    · subst e
      by_cases hl : v < σ.length
      · rw [if_pos hl, List.getElem?_set_self (by rw [wipe_length]; exact hl)]
      · rw [if_neg hl, List.getElem?_eq_none (by rw [List.length_set, wipe_length]; omega)]
    · rw [List.getElem?_set_ne e]
      exact wipe_in σ i vs (by simpa [Ne.symm e] using h)
theorem wipe_same {σ σ' : L2.St} {vs : List Nat} (hl : σ'.length = σ.length) (h : ∀ i, i ∉ vs → σ'[i]? = σ[i]?) : wipe σ' vs = wipe σ vs := by
  apply List.ext_getElem?
  intro i
  by_cases hi : i ∈ vs
  · rw [wipe_in _ _ _ hi, wipe_in _ _ _ hi, hl]
  · rw [wipe_at _ _ _ hi, wipe_at _ _ _ hi, h i hi]
theorem wipe_wipe (σ : L2.St) (vs : List Nat) : wipe (wipe σ vs) vs = wipe σ vs := wipe_same (wipe_length σ vs) fun i hi => wipe_at σ i vs hi
theorem Rel.wiped {K : PySem.W.Frag} {S : List Addr} {σ : L2.St} {H : Hp} (r : Rel K S δ σ H) : ∀ vs : List Nat, Rel K S (dwipe δ vs) (wipe σ vs) H
  | [] => r
  | v :: vs => (r.wiped vs).forget v none
/-- what one turn of a comprehension does with an item: the tests' answer, then the element -/
structure Turn1 (G : Ct) (scope : Scope) (ts : TSpec) (ifs : List Expr) (elt : Expr) (δ : DEnv) (d : PyData) (o : Option PyData) : Prop where
  ex : ∃ δb b, bindT ts d δ = some δb ∧ (∀ X, (G.blk scope).Is X → PTs X ifs (tDT G.m.K fun δ' b' => δ' = δb ∧ b' = b)) ∧ ((b = false ∧ o = none) ∨ (b = true ∧ ∃ r, o = some r ∧ DV (G.blk scope) δb elt r))
inductive Turns (G : Ct) (scope : Scope) (ts : TSpec) (ifs : List Expr) (elt : Expr) (δ : DEnv) : List PyData → List PyData → Prop
  | nil : Turns G scope ts ifs elt δ [] []
  | cons {d : PyData} {ds : List PyData} {o : Option PyData} {rs : List PyData} (h : Turn1 G scope ts ifs elt δ d o) (t : Turns G scope ts ifs elt δ ds rs) : Turns G scope ts ifs elt δ (d :: ds) (o.toList ++ rs)
end
end DL

set_option Elab.async false
set_option linter.all false
set_option maxRecDepth 100000
namespace DL
open PySem PySem.Spec L2
set_option autoImplicit false
section
variable {G : Ct} {δ δ1 : DEnv} {ω ω1 : Own} {out : Out} {a b c e tg iter elt : Expr} {es ifs : List Expr} {x y z d : PyData} {ds items res : List PyData} {pos p p2 p3 spos py : Pos} {ts : TSpec} {scope : Scope} {own : List (PySem.Str × Nat)}
def tOf (G : Ct) (scope : Scope) (ifs : List Expr) : TT := tDT G.m.K fun δ' b' => ∀ X, (G.blk scope).Is X → PTs X ifs (tDT G.m.K fun δ'' b'' => δ'' = δ' ∧ b'' = b')
def eOf (G : Ct) (scope : Scope) (elt : Expr) : TE := tDR G.m.K fun δ' d' => DV (G.blk scope) δ' elt d'
theorem pts_of {X : Cx} (hX : (G.blk scope).Is X) : PTs X ifs (tOf G scope ifs) :=
  ⟨fun pins s σ H Q I ⟨S, δ', b', h, q⟩ => (h X hX).run pins s σ H Q I ⟨S, δ', b', ⟨rfl, rfl⟩, q⟩⟩
theorem pe_of {X : Cx} (hX : (G.blk scope).Is X) : PE X elt (eOf G scope elt) :=
  ⟨fun pins s σ H Q I ⟨S, δ', b', h, q⟩ => (h X hX).run pins s σ H Q I ⟨S, δ', b', ⟨rfl, rfl⟩, q⟩⟩
theorem turns_len : ∀ {ds rs : List PyData}, Turns G scope ts ifs elt δ ds rs → rs.length ≤ ds.length
  | _, _, .nil => Nat.le_refl _
  | _, _, .cons (o := o) h t => by
    have := turns_len t
    rw [List.length_append, List.length_cons]
    cases o <;> simp <;> omega
theorem lc_run {wi : TI} {σ : L2.St} {H : Hp} {S : List Addr} {Q : VK} (vs : List Nat) (hsub : ∀ i ∈ ts.ix, i ∈ vs) (hz : items.length ≤ 16777216) (ht : Turns G scope ts ifs elt (dwipe δ vs) items res)
    (ok : SOk S H) (R : Rel G.m.K S δ σ H) (q : ∀ xs p H', Same H H' → H' p = none → xs.length ≤ sizeLine → RpAll G.m.K (hide S H') xs res → Q (.ref p) (upd H' p (.lst xs)))
    (hwi : ∀ (Q : It → Hp → Prop), (∀ J H', Same H H' → (∀ (S2 : List Addr) (H2 : Hp), Same (hide S H') (hide S2 H2) → SOk S2 H2 →
        (∀ (i : Nat) (d : PyData), items[i]? = some d → J.go i H2 ∧ ∀ x H3, J.yld i H2 x H3 → Same H2 H3 ∧ ts.rep G.m.K (hide S2 H3) x d) ∧ J.stop items.length H2) → Q J H') → wi σ H Q) :
    tLc wi (tDG G.m.K ts) (tOf G scope ifs) (eOf G scope elt) vs σ H Q := by
  refine hwi _ fun J H1 s1 itok D hD => ?_
  have hd0 : ∀ {H' : Hp}, hide (D :: S) H' = hide S (hide [D] H') := fun {H'} => hide_app [D] S H'
  refine ⟨fun i m H' => m = items.length - i ∧ i ≤ items.length ∧ Same H1 (hide [D] H') ∧ ∃ acc r1 r2, H' D = some (.lst acc) ∧ acc.length ≤ i ∧ res = r1 ++ r2 ∧ RpAll G.m.K (hide (D :: S) H') acc r1 ∧ Turns G scope ts ifs elt (dwipe δ vs) (items.drop i) r2,
    ⟨_, rfl, Nat.zero_le _, ?_, [], [], res, upd_same, Nat.le_refl _, rfl, .nil, ht⟩, ?_⟩
  · rw [hide_cons_upd hD]
    intro b o e
    rw [hide_out (by simp)]
    exact e
  rintro i m H' ⟨em, hi, hsm, acc, r1, r2, hacc, hal, hres, hra, hrun⟩
  have okD : SOk (D :: S) H' := fun a ha => by
    rcases List.mem_cons.mp ha with z | z
    · rw [z, hacc]; simp
    · exact (SOk.mono (SOk.mono (ok.mono s1) hsm) (hide_sub _ _)) a z
  have sF : Same (hide S H1) (hide (D :: S) H') := by rw [hd0]; exact hide_mono hsm
  have RD : Rel G.m.K (D :: S) (dwipe δ vs) (wipe σ vs) H' := by
    have := (R.mono s1).wiped vs
    exact ⟨this.len, fun i d e => let ⟨v, z1, z2⟩ := this.val i d e; ⟨v, z1, z2.mono sF⟩⟩
  obtain ⟨hgo, hstop⟩ := itok (D :: S) H' sF okD
  by_cases hlt : i < items.length
  · rw [List.drop_eq_getElem_cons hlt] at hrun
    obtain ⟨go, yld⟩ := hgo i items[i] (List.getElem?_eq_getElem hlt)
    cases hrun with
    | @cons _ _ o rs h t =>
      obtain ⟨δb, b, hb, hpt, halt⟩ := h.ex
      refine .inr ⟨go, _, fun H2 z => ⟨items.length - (i + 1), by omega, rfl, hlt, z⟩, fun x H2 yy => ?_⟩
      obtain ⟨s2, rx⟩ := yld x H2 yy
      refine ⟨D :: S, dwipe δ vs, items[i], δb, hb, okD.mono s2, RD.mono s2, rx, fun σ2 R2 keep hl => ⟨?_, D :: S, δb, b, hpt, okD.mono s2, R2, fun H3 s3 => ?_⟩⟩
      · exact (wipe_same hl fun j hj => keep j fun z => hj (hsub j z)).trans (wipe_wipe σ vs)
      · rcases halt with ⟨eb, eo⟩ | ⟨eb, r, eo, hv⟩
        · subst eb eo
          refine iteF ⟨fun b' o' e' => ?_, acc, r1, rs, s3 _ _ (s2 _ _ hacc), by omega, hres, hra.mono (hide_mono (s2.trans s3)), t⟩
          exact hide_mono (s2.trans s3) _ _ (hsm _ _ e')
        · subst eb eo
          refine iteT ⟨D :: S, δb, r, hv, (okD.mono s2).mono s3, R2.mono s3, fun y H4 s4 ry => ⟨acc, s4 _ _ (s3 _ _ (s2 _ _ hacc)), by rw [sizeLine_eq]; omega, fun b' o' e' => ?_, acc ++ [y], r1 ++ [r], rs, upd_same, by rw [List.length_append, List.length_singleton]; omega, ?_, ?_, t⟩⟩
          · rw [hide_upd (by simp)]
            exact hide_mono ((s2.trans s3).trans s4) _ _ (hsm _ _ e')
          · rw [hres]; simp
          · rw [hide_upd (by simp)]
            exact (hra.mono (hide_mono ((s2.trans s3).trans s4))).app (.one ry)
  · have ei : i = items.length := by omega
    subst ei
    rw [List.drop_length] at hrun
    cases hrun
    rw [List.append_nil] at hres
    subst hres
    refine .inl ⟨hstop, ?_⟩
    have hz2 : acc.length ≤ sizeLine := by rw [sizeLine_eq]; omega
    have := q acc D (hide [D] H') (s1.trans hsm) (hide_in (by simp)) hz2 (by rw [← hd0]; exact hra)
    have e : upd (hide [D] H') D (.lst acc) = H' := by
      funext b
      by_cases eb : b = D
      · rw [eb, upd_same, hacc]
      · rw [upd_ne eb, hide_out (by simp [eb])]
    rw [e] at this
    exact this
/-- [elt for x in .. if ..], one name -/
theorem dn_lc1 (i : Nat) (own : List (PySem.Str × Nat)) (hok : blkC G.N G.sc scope own = true) (hi : DI1 G δ tg iter items) (hg : DG (G.blk scope) tg (.one i)) (ht : Turns G scope (.one i) ifs elt (dwipe δ (own.map (·.2))) items res)
    (hz : items.length ≤ 16777216) (hsub : ∀ j ∈ (TSpec.one i).ix, j ∈ own.map (·.2) := by simp [TSpec.ix]) (hs : ∀ (env : Env) (x : Value), foldedSetIterable iter env x = pure x := by intro _ _; rfl) : DN G δ (.ListComp elt [⟨tg, iter, ifs, 0⟩] scope pos) res := fun X hX =>
  PE.imp (pe_lc hX.calm hX.nd (hi X hX) (by rw [hX.N, hX.sc]; exact blkOk_by hok) (fun s H C cl fp => hg _ (hX.blk s H C cl fp)) (fun s H C cl fp => pts_of (ifs := ifs) (hX.blk s H C cl fp)) (fun s H C cl fp => pe_of (elt := elt) (hX.blk s H C cl fp)) (hs _)) fun σ H Q ⟨S, δ', d', ⟨e1, e2⟩, ok, R, q⟩ => by
    subst e1 e2
    exact lc_run _ hsub hz ht ok R q fun Q2 h => ⟨S, _, items, ⟨rfl, rfl⟩, ok, R, fun J H' s it => h J H' s it⟩
theorem dn_lc2 (i j : Nat) (own : List (PySem.Str × Nat)) (hok : blkC G.N G.sc scope own = true) (hi : DI G δ tg iter items) (hg : DG (G.blk scope) tg (.two i j)) (ht : Turns G scope (.two i j) ifs elt (dwipe δ (own.map (·.2))) items res)
    (hz : items.length ≤ 16777216) (hsub : ∀ k ∈ (TSpec.two i j).ix, k ∈ own.map (·.2) := by simp [TSpec.ix]) (hs : ∀ (env : Env) (x : Value), foldedSetIterable iter env x = pure x := by intro _ _; rfl) : DN G δ (.ListComp elt [⟨tg, iter, ifs, 0⟩] scope pos) res := fun X hX =>
  PE.imp (pe_lc hX.calm hX.nd (hi X hX) (by rw [hX.N, hX.sc]; exact blkOk_by hok) (fun s H C cl fp => hg _ (hX.blk s H C cl fp)) (fun s H C cl fp => pts_of (ifs := ifs) (hX.blk s H C cl fp)) (fun s H C cl fp => pe_of (elt := elt) (hX.blk s H C cl fp)) (hs _)) fun σ H Q ⟨S, δ', d', ⟨e1, e2⟩, ok, R, q⟩ => by
    subst e1 e2
    exact lc_run _ hsub hz ht ok R q fun Q2 h => ⟨S, _, items, ⟨rfl, rfl⟩, ok, R, fun J H' s it => h J H' s it⟩
/-- y = [elt for x in ..] -/
theorem ds_lc1 (k : Nat) {n : PySem.Str} (i : Nat) (own : List (PySem.Str × Nat)) (hN : G.N[k]? = some n) (hl : G.sc.names.lookup n = some .local) (hkind : G.sc.kind = .function) (hline : (py.line == pos.line) = true) (hany : (scope.names.any fun (m, k) => m == n && (k == .local || k == .cell)) = false)
    (hok : blkC G.N G.sc scope own = true) (hi : DI1 G δ tg iter items) (hg : DG (G.blk scope) tg (.one i)) (ht : Turns G scope (.one i) ifs elt (dwipe δ (own.map (·.2))) items res) (hz : items.length ≤ 16777216) (hfree : ∀ q ∈ ω, q.1 ≠ k := by simp)
    (hsub : ∀ j ∈ (TSpec.one i).ix, j ∈ own.map (·.2) := by simp [TSpec.ix]) (hs : ∀ (env : Env) (x : Value), foldedSetIterable iter env x = pure x := by intro _ _; rfl) : DS G δ ω (.Assign [.Name n py] (.ListComp elt [⟨tg, iter, ifs, 0⟩] scope pos) spos) (.next (δ.set k (some (.list res))) ω) := fun X hX =>
  PS.imp (ps_setLc (i := k) hX.calm hX.nd (by rw [hX.N]; exact hN) (by rw [hX.sc]; exact hl) (sw_true (by rw [hX.sc]; exact hkind) (by rw [hX.sc]; exact hl) hline hany) (hi X hX) (by rw [hX.N, hX.sc]; exact blkOk_by hok) (fun s H C cl fp => hg _ (hX.blk s H C cl fp)) (fun s H C cl fp => pts_of (ifs := ifs) (hX.blk s H C cl fp)) (fun s H C cl fp => pe_of (elt := elt) (hX.blk s H C cl fp)) (hs _)) fun D σ H ⟨S, H0, δ', ω', o', ⟨e1, e2, e3⟩, hS, r, q⟩ => by
    subst e1 e2 e3
    obtain ⟨as, B⟩ := r.bs hS
    refine lc_run _ hsub hz ht B.ok B.rel (fun xs t H' s ht hz ra => ?_) fun Q2 h => ⟨as ++ S, _, items, ⟨rfl, rfl⟩, B.ok, B.rel, fun J H' s it => h J H' s it⟩
    have sm := same_upd ht (.lst xs)
    exact q _ _ (B.store _ k _ _ (s.trans sm) (.lst (hide_upd_at (B.ok.mono s) ht) hz (ra.mono (hide_mono sm))) hfree)
/-! a turn's tests -/
theorem t1_no (hb : ∃ δb, bindT ts d δ = some δb ∧ DV (G.blk scope) δb elt x) : Turn1 G scope ts [] elt δ d (some x) := by
  obtain ⟨δb, h1, h2⟩ := hb
  refine ⟨δb, true, h1, fun X hX => ⟨fun pins s σ H Q I ⟨S, δ', b', ⟨e1, e2⟩, ok, R, q⟩ => ?_⟩, .inr ⟨rfl, x, rfl, h2⟩⟩
  subst e1 e2
  exact pts_nil.run pins s σ H Q I (q H (Same.refl H))
theorem t1_if {k : Bool} {δb : DEnv} (hb : bindT ts d δ = some δb) (hc : DT (G.blk scope) δb c k) (he : k = true → DV (G.blk scope) δb elt x) : Turn1 G scope ts [c] elt δ d (if k then some x else none) := by
  refine ⟨δb, k, hb, fun X hX => pts_one (hc X hX), ?_⟩
  cases k with
  | true => exact .inr ⟨rfl, x, rfl, he rfl⟩
  | false => exact .inl ⟨rfl, rfl⟩
/-- without tests -/
theorem turns_map (f : PyData → PyData) : ∀ (items : List PyData), (∀ d ∈ items, ∃ δb, bindT ts d δ = some δb ∧ DV (G.blk scope) δb elt (f d)) → Turns G scope ts [] elt δ items (items.map f)
  | [], _ => .nil
  | d :: ds, h => by
    have := Turns.cons (t1_no (h d List.mem_cons_self)) (turns_map f ds fun d' hd => h d' (List.mem_cons_of_mem _ hd))
    exact this
theorem turns_filter (f : PyData → PyData) (k : PyData → Bool) : ∀ (items : List PyData), (∀ d ∈ items, ∃ δb, bindT ts d δ = some δb ∧ DT (G.blk scope) δb c (k d) ∧ (k d = true → DV (G.blk scope) δb elt (f d))) → Turns G scope ts [c] elt δ items ((items.filter k).map f)
  | [], _ => .nil
  | d :: ds, h => by
    obtain ⟨δb, h1, h2, h3⟩ := h d List.mem_cons_self
    have := Turns.cons (t1_if h1 h2 h3) (turns_filter f k ds fun d' hd => h d' (List.mem_cons_of_mem _ hd))
    rw [List.filter_cons]
    cases e : k d with
    | true =>
      rw [e] at this
      exact this
    | false =>
      rw [e] at this
      exact this

/-! ### a def -/
theorem fn_core {m : Md} {n : PySem.Str} {st : Stmt} {f : Addr} {fd : FuncData} {N ps : List PySem.Str} {k : Nat} {R : List PyData → PyData → Prop} (F : Fun m.K n n st f fd) (S : FnScope N ps (defScope st))
    (hd : ∀ x ∈ N, (x == ("__debug__" : PySem.Str)) = false ∧ (x == ("__classdict__" : PySem.Str)) = false) (len : ∀ ds d, R ds d → ds.length = ps.length)
    (body : ∀ ds d, R ds d → DSs ⟨m, N, defScope st, k, fun _ => true⟩ (ds.map some ++ List.replicate (N.length - ds.length) none) [] (defBody st) (.ret d)) : FnOk m.P m.w m.K m.mg m.base CX0 (k + 1) f fd ps (spD m.K R) := by
  refine F.ok S (fun vs H Q E ⟨_, ds, d, r, _, ra, _⟩ => by rw [ra.len]; exact len ds d r) fun cdv A outer s H vs Q E hr ⟨T, ds, d, r, ok, ra, q⟩ => ?_
  refine ⟨_, body ds d r _ ⟨rfl, rfl, rfl, rfl, rfl, rfl, S.nd, rfl, rfl, hr, PassesOwn.never, fun x => rfl, hd⟩, ?_⟩
  refine ⟨T, H, _, _, _, ⟨rfl, rfl, rfl⟩, ok, ⟨[], rfl, List.nodup_nil, ok, ?_, ⟨?_, fun i d' e => ?_⟩, fun k i c a e => by simp at e⟩, fun v H' s rv => q v H' s rv⟩
  · intro b o e
    rw [hide_out (by simp)]
    exact e
  · unfold L2.start
    simp [ra.len]
  · rw [List.nil_append]
    have hi : i < ds.length := by
      by_cases hi : i < ds.length
      · exact hi
      · rw [List.getElem?_append_right (by simpa using hi), List.getElem?_replicate] at e
        split at e <;> cases e
    rw [List.getElem?_append_left (by simpa using hi), List.getElem?_map] at e
    cases e2 : ds[i]? with
    | none => rw [e2] at e; cases e
    | some d2 =>
      rw [e2] at e
      cases e
      obtain ⟨v, hv, rv⟩ := ra.get e2
      refine ⟨v, ?_, rv⟩
      have hiv : i < vs.length := by rw [ra.len]; exact hi
      unfold L2.start
      rw [List.getElem?_append_left (by simpa using hiv), List.getElem?_map, hv]
      rfl
theorem fn_ok {m : Md} {n : PySem.Str} {st : Stmt} {f : Addr} {fd : FuncData} {N ps : List PySem.Str} {k : Nat} {R : List PyData → PyData → Prop} (F : Fun m.K n n st f fd) (hb : Binds m.K fd ps []) (hm : m.mg n = some (.ref f)) (S : FnScope N ps (defScope st))
    (hd : ∀ x ∈ N, (x == ("__debug__" : PySem.Str)) = false ∧ (x == ("__classdict__" : PySem.Str)) = false) (len : ∀ ds d, R ds d → ds.length = ps.length)
    (body : ∀ ds d, R ds d → DSs ⟨m, N, defScope st, k, fun _ => true⟩ (ds.map some ++ List.replicate (N.length - ds.length) none) [] (defBody st) (.ret d)) : Fn m n (k + 1) R :=
  ⟨f, fd, ps, hm, F.kp, hb, fn_core F S hd len body⟩
end
end DL

set_option Elab.async false
set_option linter.all false
set_option maxRecDepth 100000
namespace DL
open PySem PySem.Spec L2
set_option autoImplicit false

/-! ### t.index(k), whole numbers -/
def tTix (to te : TE) : TE := fun σ H Q => to σ H fun x H1 => ∃ (a : Addr) (ob : Obj) (ns : List Int), x = .ref a ∧ H1 a = some (.frz ob (.tup (ns.map V.int))) ∧ ob.dict = none ∧ te σ H1 fun y H2 =>
  ∃ (k : Int) (j : Nat), [y] = [V.int k] ∧ H2 a = some (.frz ob (.tup (ns.map V.int))) ∧ ns[j]? = some k ∧ (∀ m, m < j → ns[m]? ≠ some k) ∧ Q (.int (j : Nat)) H2
theorem flat_ints (ns : List Int) : (ns.map V.int).all flatV = true := by
  rw [List.all_map]
  exact List.all_eq_true.mpr fun _ _ => rfl
theorem call_tix {X : Cx} {pins : List (Addr × Obj)} {σ : L2.St} {H : Hp} {s : Shared} {Q : VK} {a : Addr} {ns : List Int} {k : Int} {t : Tok} {j : Nat} (I : Inv X pins σ H s) (hq : SqT X.K H a (ns.map V.int)) (hy : ns[j]? = some k) (hno : ∀ m, m < j → ns[m]? ≠ some k) (q : Q (.int (j : Nat)) H) :
    wpAny (model X.prog X.w) X.A (call (.builtin "tuple.index") [.ref a, .int k t]) (EP X pins σ Q) X.xe s := by
  obtain ⟨its, r, pl, hz⟩ := I.tuple hq
  obtain ⟨⟨cls, dd, dt, sl⟩, ho, hc, n, hd⟩ := pl
  simp only at hc hd
  subst hc hd
  have hl : its.toArray.size = ns.length := by rw [List.size_toArray, ← r.length, List.length_map]
  have hj : j < its.toArray.size := by rw [hl]; exact (List.getElem?_eq_some_iff.mp hy).1
  have look : ∀ (m : Nat) (hm : m < its.toArray.size), ∃ y t', ns[m]? = some y ∧ its.toArray[m] = Value.int y t' := fun m hm => by
    have hm' : m < ns.length := by rw [← hl]; exact hm
    obtain ⟨w, hw, t', hw'⟩ := r.get (i := m) (x := .int ns[m]) (by simp [hm'])
    refine ⟨ns[m], t', List.getElem?_eq_getElem hm', ?_⟩
    rw [← hw', ← (List.getElem?_eq_some_iff.mp hw).2]
    simp
  have eu : ∀ (y : Int) (t' : Tok), eqU (.int k) (.int y t') = decide (y = k) := fun y t' => by
    by_cases e : y = k
    · rw [decide_eq_true e, e]
      show (k == k) = true
      exact beq_self_eq_true k
    · rw [decide_eq_false e]
      show (y == k) = false
      exact beq_eq_false_iff_ne.mpr e
  refine call_meets PySem.F.slot_tuple_index ⟨_, ho, rfl⟩ PySem.F.entry_tuple_index (PySem.F.args_tuple_index_2 _ _) (TI.tuple_indexAt a its.toArray n dd sl (.int k t) (eqU (.int k)) j hj ?_ fun m hm hmj => ?_)
    ⟨ho, fun w hw => mem_eqAt (x := .int k) ⟨t, rfl⟩ rfl r (flat_ints ns) w (by simpa using hw), ⟨.int (j : Nat), H, I.tok _, ⟨_, rfl⟩, q⟩⟩
  · obtain ⟨y, t', h1, h2⟩ := look j hj
    rw [hy] at h1
    cases h1
    rw [h2, eu]
    exact decide_eq_true rfl
  · obtain ⟨y, t', h1, h2⟩ := look m hm
    rw [h2, eu]
    exact decide_eq_false fun e => hno m hmj (by rw [h1, e])
theorem pe_tix {X : Cx} {o e : Expr} {to te : TE} {apos cpos : Pos} (ho : PE X o to) (he : PE X e te)
    (hbase : attributeBase o "index" X.env (eval o X.env) = eval o X.env)
    (hfew : ((backTo cpos (starEach [e] X.env)).all (fun x => !x.1) && (backToKw cpos (keywordEach [] X.env)).all (fun x => x.1.isSome) && decide ([e].length + ([] : List Keyword).length + (if ([] : List Keyword).isEmpty then 0 else 1) < 30)) = true)
    (hline : (apos.endLine == cpos.line) = true) (hs : starEach [e] X.env = (false, eval e X.env) :: starEach [] X.env) : PE X (.Call (.Attribute o "index" apos) [e] [] cpos) (tTix to te) := by
  refine ⟨fun pins s σ H Q I h => ?_⟩
  refine wpAny_Call_method_late hbase hfew hline rfl (thn (ho.run pins s σ H _ I h) fun v s1 ⟨x, H1, I1, r1, a, ob, ns, ex, hob, hnd, q1⟩ => ?_)
  subst ex
  obtain rfl : v = .ref a := r1
  obtain ⟨hget, _⟩ := (I1.hok a _ hob : ObjOk X.prog X.w H1 s1.heap a (.frz ob (.tup (ns.map V.int))))
  obtain ⟨_, _, pt, _⟩ := I1.tuple (SqT.frz (K := X.K) hob)
  refine ⟨"tuple", "tuple.index", PySem.F.plainAttrs_tuple, PySem.F.slot_tuple_index, PySem.F.type_tuple_index, pt.typeIs, fun b eb => ?_, ?_⟩
  · cases eb
    exact ⟨ob, hget, hnd⟩
  · have hA := (pa_cons he pa_nil hs).run cpos pins s1 σ H1 (fun vs H2 => ∃ (k : Int) (j : Nat), vs = [V.int k] ∧ H2 a = some (.frz ob (.tup (ns.map V.int))) ∧ ns[j]? = some k ∧ (∀ m, m < j → ns[m]? ≠ some k) ∧ Q (.int (j : Nat)) H2) I1 q1
    rw [hs] at hA ⊢
    refine Calls.callWith_builtin (by show (false || (backTo cpos (starEach [] X.env)).any (·.1)) = false; rfl) (Calls.evalArgs_plain ?_)
    refine thn hA fun us s2 ⟨vs, H2, I2, r2, k, j, ev, hob2, hj, hno, q2⟩ => ?_
    subst ev
    obtain ⟨u, rfl, t, rfl⟩ := vals1 r2
    exact call_tix I2 (SqT.frz hob2) hj hno q2
section
variable {G : Ct} {δ : DEnv} {a b c e : Expr} {es rest : List Expr} {x y z d : PyData} {ds : List PyData} {pos p p2 ap cp : Pos}
theorem dv_tix {ns : List Int} {k : Int} {j : Nat} (ha : DV G δ a (.tuple (ns.map .int))) (hb : DV G δ b (.int k)) (hj : ns[j]? = some k) (hno : ∀ m, m < j → ns[m]? ≠ some k)
    (hbase : ∀ env : Env, attributeBase a "index" env (eval a env) = eval a env := by intro _; rfl)
    (hfew : ∀ env : Env, ((backTo cp (starEach [b] env)).all (fun x => !x.1) && (backToKw cp (keywordEach [] env)).all (fun x => x.1.isSome) && decide ([b].length + ([] : List Keyword).length + (if ([] : List Keyword).isEmpty then 0 else 1) < 30)) = true := by intro _; rfl)
    (hline : (ap.endLine == cp.line) = true := by rfl) (hs : ∀ env : Env, starEach [b] env = (false, eval b env) :: starEach [] env := by intro _; rfl) : DV G δ (.Call (.Attribute a "index" ap) [b] [] cp) (.int (j : Nat)) := fun X hX =>
  PE.imp (pe_tix (ha X hX) (hb X hX) (hbase _) (hfew _) hline (hs _)) fun σ H Q ⟨S, δ', d', ⟨e1, e2⟩, ok, R, q⟩ => by
    subst e1 e2
    refine ⟨S, _, _, ⟨rfl, rfl⟩, ok, R, fun v H1 s1 r1 => ?_⟩
    cases r1 with
    | tup f1 f2 f3 f4 =>
      obtain rfl := f4.ints
      refine ⟨_, _, ns, rfl, (hide_some f1).2, f2, S, _, _, ⟨rfl, rfl⟩, ok.mono s1, R.mono s1, fun w H2 s2 r2 => ?_⟩
      cases r2
      exact ⟨k, j, rfl, s2 _ _ (hide_some f1).2, hj, hno, q _ H2 (s1.trans s2) (.int _)⟩
/-! ### sorted of pairs of whole numbers, of texts -/
/-- a pair, as data -/
abbrev pairD (q : Int × Int) : PyData := .tuple [.int q.1, .int q.2]
def lexLe (q r : Int × Int) : Prop := q.1 < r.1 ∨ (q.1 = r.1 ∧ q.2 ≤ r.2)
theorem lexLe_antisymm {q r : Int × Int} (h1 : lexLe q r) (h2 : lexLe r q) : q = r := by
  unfold lexLe at h1 h2
  exact Prod.ext (by omega) (by omega)
theorem Rp.pair {K : PySem.W.Frag} {H : Hp} {v : V} {q : Int × Int} (h : Rp K H v (pairD q)) : ∃ t o, v = .ref t ∧ H t = some (.frz o (.tup [.int q.1, .int q.2])) := by
  cases h with
  | tup e k z r =>
    cases r with
    | cons r1 r2 =>
      cases r2 with
      | cons r2 r3 =>
        cases r3
        cases r1
        cases r2
        exact ⟨_, _, rfl, e⟩
theorem pairs_of {K : PySem.W.Frag} {H : Hp} : ∀ {xs : List V} {ps : List (Int × Int)}, RpAll K H xs (ps.map pairD) → ∃ l : List (V × (Int × Int)), xs = l.map (·.1) ∧ ps = l.map (·.2) ∧ ∀ q ∈ l, Rp K H q.1 (pairD q.2)
  | _, [], .nil => ⟨[], rfl, rfl, fun _ h => absurd h (by simp)⟩
  | x :: xs, p :: ps, .cons h t => by
    obtain ⟨l, e1, e2, h2⟩ := pairs_of t
    exact ⟨(x, p) :: l, by rw [e1]; rfl, by rw [e2]; rfl, fun q hq => (List.mem_cons.mp hq).elim (fun z => by rw [z]; exact h) (h2 q)⟩
theorem perm_map_inv {α β : Type} {f : α → β} : ∀ {ys : List β} {xs : List β}, ys.Perm xs → ∀ l : List α, xs = l.map f → ∃ l' : List α, l'.Perm l ∧ ys = l'.map f := by
  intro ys xs h
  induction h with
  | nil => intro l e; exact ⟨l, List.Perm.refl _, e⟩
  | cons x h ih =>
    intro l e
    cases l with
    | nil => cases e
    | cons b l =>
      rw [List.map_cons] at e
      injection e with e1 e2
      obtain ⟨l', h1, h2⟩ := ih l e2
      exact ⟨b :: l', h1.cons b, by rw [List.map_cons, h2, e1]⟩
  | swap x y l0 =>
    intro l e
    match l, e with
    | [], e => cases e
    | [_], e => simp at e
    | b :: c :: l, e =>
      simp only [List.map_cons, List.cons.injEq] at e
      exact ⟨c :: b :: l, List.Perm.swap b c l, by simp [e.1, e.2.1, e.2.2]⟩
  | trans h1 h2 ih1 ih2 =>
    intro l e
    obtain ⟨l2, p2, e2⟩ := ih2 l e
    obtain ⟨l1, p1, e1⟩ := ih1 l2 e2
    exact ⟨l1, p1.trans p2, e1⟩
theorem code2 (B x y : Int) : TS.code B [x, y] = x * B + y := by
  show x * B ^ 1 + (y * B ^ 0 + 0) = _
  rw [Int.pow_succ, Int.pow_zero, Int.one_mul, Int.mul_one, Int.add_zero]
theorem lex_of_code {B : Int} {q r : Int × Int} (h : TS.code B [q.1, q.2] ≤ TS.code B [r.1, r.2]) (hq : 0 ≤ q.1 ∧ q.1 < B ∧ 0 ≤ q.2 ∧ q.2 < B) (hr : 0 ≤ r.1 ∧ r.1 < B ∧ 0 ≤ r.2 ∧ r.2 < B) : lexLe q r := by
  rw [code2, code2] at h
  unfold lexLe
  rcases Int.lt_trichotomy q.1 r.1 with c | c | c
  · exact .inl c
  · rw [c] at h
    exact .inr ⟨c, by omega⟩
  · exfalso
    have h1 : (r.1 + 1) * B ≤ q.1 * B := Int.mul_le_mul_of_nonneg_right (by omega) (by omega)
    rw [Int.add_mul, Int.one_mul] at h1
    omega
theorem dn_sortedP {ps qs : List (Int × Int)} (bd : Int) (B : Blt G.m) (hg : globB G.sc "sorted" = true) (ha : DV G δ a (.list (ps.map pairD))) (hb : ∀ q ∈ ps, 0 ≤ q.1 ∧ q.1 < bd ∧ 0 ≤ q.2 ∧ q.2 < bd) (h64 : ps.length < 64) (hp : qs.Perm ps) (hs' : qs.Pairwise lexLe)
    (hs : ∀ env : Env, starEach [a] env = (false, eval a env) :: starEach [] env := by intro _; rfl) : DN G δ (.Call (.Name "sorted" p) [a] [] pos) (qs.map pairD) := by
  refine dn_cb (r := rSortU G.m.K 2 bd) (fun X hX => hX.K ▸ cr_sortT (by decide)) hg B.sorted PyProof.Rows.boot_sorted (da_cons ha da_nil hs) (fun S H vs Q ok r q => ?_) (by decide) (by decide) hs
  cases r with
  | cons r1 r2 =>
    cases r2
    cases r1 with
    | lst e1 z1 a1 =>
      obtain ⟨l, ex, ep, hl⟩ := pairs_of a1
      have tupI : ∀ {v : V} {z : Int × Int}, Rp G.m.K (hide S H) v (pairD z) → TupI G.m.K H v [z.1, z.2] := fun h => by
        obtain ⟨t, o, e2, e3⟩ := h.pair
        exact ⟨t, e2, SqT.frz (hide_some e3).2⟩
      refine ⟨_, _, rfl, SqL.of (hide_some e1).2, ?_, fun x hx => ?_, fun ys t h1 h2 h3 => ?_⟩
      · rw [ex, List.length_map]
        rw [ep, List.length_map] at h64
        exact h64
      · rw [ex] at hx
        obtain ⟨z, hz, e2⟩ := List.mem_map.mp hx
        subst e2
        refine ⟨[z.2.1, z.2.2], tupI (hl z hz), rfl, fun m hm => ?_⟩
        have := hb z.2 (by rw [ep]; exact List.mem_map_of_mem hz)
        rcases List.mem_cons.mp hm with e | hm
        · rw [e]; exact ⟨this.1, this.2.1⟩
        · rw [List.mem_singleton] at hm
          rw [hm]; exact ⟨this.2.2.1, this.2.2.2⟩
      · obtain ⟨l', pl, el⟩ := perm_map_inv h1 l ex
        have hl' : ∀ z ∈ l', Rp G.m.K (hide S H) z.1 (pairD z.2) := fun z hz => hl z (pl.mem_iff.mp hz)
        have hb' : ∀ z ∈ l', 0 ≤ z.2.1 ∧ z.2.1 < bd ∧ 0 ≤ z.2.2 ∧ z.2.2 < bd := fun z hz => hb z.2 (by rw [ep]; exact List.mem_map_of_mem (pl.mem_iff.mp hz))
        have srt : (l'.map (·.2)).Pairwise lexLe := by
          rw [List.pairwise_map]
          rw [el, List.pairwise_map] at h2
          refine List.Pairwise.imp_of_mem (fun {u v} hu hv huv => ?_) h2
          exact lex_of_code (huv _ _ (tupI (hl' u hu)) (tupI (hl' v hv))) (hb' u hu) (hb' v hv)
        have eq : l'.map (·.2) = qs := by
          refine List.Perm.eq_of_pairwise (le := lexLe) (fun _ _ _ _ h1 h2 => lexLe_antisymm h1 h2) srt hs' ?_
          exact ((pl.map (·.2)).trans (by rw [ep])).trans hp.symm
        have ra : ∀ m : List (V × (Int × Int)), (∀ z ∈ m, Rp G.m.K (hide S H) z.1 (pairD z.2)) → RpAll G.m.K (hide S H) (m.map (·.1)) ((m.map (·.2)).map pairD) := by
          intro m
          induction m with
          | nil => intro _; exact .nil
          | cons z m ih => intro h; exact .cons (h z List.mem_cons_self) (ih fun w hw => h w (List.mem_cons_of_mem _ hw))
        have := ra l' hl'
        rw [eq, ← el] at this
        exact q ys t h3 (by rw [this.len, List.length_map, hp.length_eq, sizeLine_eq]; omega) this
/-- texts -/
theorem dn_sortedS {ps qs : List PySem.Str} (B : Blt G.m) (hg : globB G.sc "sorted" = true) (ha : DV G δ a (.list (ps.map .str))) (h64 : ps.length < 64) (hu : ∀ ys : List PySem.Str, ys.Perm ps → PyProof.Rows.sortedS ys = true → ys = qs)
    (hs : ∀ env : Env, starEach [a] env = (false, eval a env) :: starEach [] env := by intro _; rfl) : DN G δ (.Call (.Name "sorted" p) [a] [] pos) (qs.map .str) := by
  refine dn_cb (r := rSortedS G.m.K) (fun X hX => hX.K ▸ cr_sortedS) hg B.sorted PyProof.Rows.boot_sorted (da_cons ha da_nil hs) (fun S H vs Q ok r q => ?_) (by decide) (by decide) hs
  cases r with
  | cons r1 r2 =>
    cases r2
    cases r1 with
    | lst e1 z1 a1 =>
      obtain rfl := a1.strs
      refine ⟨_, ps, rfl, SqL.of (hide_some e1).2, h64, fun ys t h1 h2 h3 => ?_⟩
      have e := hu ys h1 h2
      subst e
      refine q _ _ h3 ?_ (RpAll.ofStrs _)
      rw [List.length_map, h1.length_eq, sizeLine_eq]
      omega
end
end DL

set_option Elab.async false
set_option linter.all false
set_option maxRecDepth 100000
namespace DL
open PySem PySem.Spec L2
set_option autoImplicit false
abbrev natD (i : Nat) : PyData := .int (i : Int)
theorem upto_nat (n : Nat) : (upto (n : Int)).map PyData.int = (List.range n).map natD := by
  unfold upto
  rw [List.map_map, Int.toNat_natCast]
  rfl
section
variable {G : Ct} {δ δ1 : DEnv} {ω ω1 : Own} {out : Out} {a b c e tg iter elt : Expr} {es ifs body rest : List Expr} {x y z d : PyData} {ds items res : List PyData} {pos p p2 p3 spos py : Pos} {ts : TSpec} {scope : Scope} {own : List (PySem.Str × Nat)}
/-- range(n) -/
theorem di_rng {n : Nat} (B : Blt G.m) (hg : globB G.sc "range" = true) (ha : DV G δ a (natD n)) (h1 : n < 1000000) (hs : ∀ env : Env, starEach [a] env = (false, eval a env) :: starEach [] env := by intro _; rfl)
    (hs2 : ∀ env : Env, starEach [a] env = [(false, eval a env)] := by intro _; rfl) : DI1 G δ tg (.Call (.Name "range" p) [a] [] pos) ((List.range n).map natD) :=
  (di_range B hg ha (by omega) (by omega) hs hs2).conv (upto_nat n)
/-- range(m, n) -/
theorem di_rng2 {m n : Nat} (B : Blt G.m) (hg : globB G.sc "range" = true) (ha : DV G δ a (natD m)) (hb : DV G δ b (natD n)) (h0 : m < 1000000) (h1 : n < 1000000)
    (hs : ∀ env : Env, starEach [a, b] env = (false, eval a env) :: starEach [b] env := by intro _; rfl) (hs3 : ∀ env : Env, starEach [b] env = (false, eval b env) :: starEach [] env := by intro _; rfl)
    (hs2 : ∀ env : Env, starEach [a, b] env = [(false, eval a env), (false, eval b env)] := by intro _; rfl) (hs4 : ∀ env : Env, starEach [b] env = [(false, eval b env)] := by intro _; rfl) :
    DI1 G δ tg (.Call (.Name "range" p) [a, b] [] pos) (((List.range (n - m)).map (m + ·)).map natD) :=
  (di_range2 B hg ha hb (by omega) hs hs3 hs2 hs4).conv (by
    have e : ((n : Int) - (m : Int)).toNat = n - m := by omega
    rw [e, List.map_map, List.map_map]
    congr 1)
theorem turns_mapT {α : Type} (enc : α → PyData) (f : α → PyData) : ∀ (xs : List α), (∀ x ∈ xs, ∃ δb, bindT ts (enc x) δ = some δb ∧ DV (G.blk scope) δb elt (f x)) → Turns G scope ts [] elt δ (xs.map enc) (xs.map f)
  | [], _ => .nil
  | x :: xs, h => Turns.cons (t1_no (h x List.mem_cons_self)) (turns_mapT enc f xs fun y hy => h y (List.mem_cons_of_mem _ hy))
theorem turns_filtT {α : Type} (enc : α → PyData) (f : α → PyData) (k : α → Bool) : ∀ (xs : List α), (∀ x ∈ xs, ∃ δb, bindT ts (enc x) δ = some δb ∧ DT (G.blk scope) δb c (k x) ∧ (k x = true → DV (G.blk scope) δb elt (f x))) → Turns G scope ts [c] elt δ (xs.map enc) ((xs.filter k).map f)
  | [], _ => .nil
  | x :: xs, h => by
    obtain ⟨δb, h1, h2, h3⟩ := h x List.mem_cons_self
    have := Turns.cons (t1_if h1 h2 h3) (turns_filtT enc f k xs fun y hy => h y (List.mem_cons_of_mem _ hy))
    rw [List.filter_cons]
    cases e : k x with
    | true => rw [e] at this; exact this
    | false => rw [e] at this; exact this
/-- + of whole numbers, texts, tuples -/
theorem dv_addi {i j : Int} (ha : DV G δ a (.int i)) (hb : DV G δ b (.int j)) : DV G δ (.BinOp a .Add b pos) (.int (i + j)) := dv_add ha hb (.int i j)
theorem dv_adds {i j : PySem.Str} (ha : DV G δ a (.str i)) (hb : DV G δ b (.str j)) (h : i.length + j.length ≤ sizeLine) : DV G δ (.BinOp a .Add b pos) (.str (i ++ j)) := dv_add ha hb (.str i j h)
theorem dv_addt {xs ys : List PyData} (ha : DV G δ a (.tuple xs)) (hb : DV G δ b (.tuple ys)) (h : xs.length + ys.length ≤ 1000) : DV G δ (.BinOp a .Add b pos) (.tuple (xs ++ ys)) := dv_add ha hb (.tup xs ys h)
theorem dv_ixt {i : Int} (ha : DV G δ a (.tuple ds)) (hb : DV G δ b (.int i)) (h : L2.atI ds i = some d) (hs : PlainIx b := by intro _ _; rfl) : DV G δ (.Subscript a b pos) d := dv_ix ha hb (.tup h) hs
theorem dv_ixl {i : Int} (ha : DV G δ a (.list ds)) (hb : DV G δ b (.int i)) (h : L2.atI ds i = some d) (hs : PlainIx b := by intro _ _; rfl) : DV G δ (.Subscript a b pos) d := dv_ix ha hb (.lst h) hs
theorem dv_ixs {i : Int} {k : Int} {ns : List Int} (ha : DV G δ a (scrD ns)) (hb : DV G δ b (.int i)) (h : L2.atI ns i = some k) (hs : PlainIx b := by intro _ _; rfl) : DV G δ (.Subscript a b pos) (.int k) := dv_ix ha hb (.scr h) hs
theorem dv_lent (B : Blt G.m) (hg : globB G.sc "len" = true) (ha : DV G δ a y) (h : Seq y ds) (hs : ∀ env : Env, starEach [a] env = (false, eval a env) :: starEach [] env := by intro _; rfl) : DV G δ (.Call (.Name "len" p) [a] [] pos) (natD ds.length) := dv_len B hg ha (.seq h) hs
end
end DL

set_option Elab.async false
set_option linter.all false
set_option maxRecDepth 100000
namespace DL
open PySem PySem.Spec L2
set_option autoImplicit false

/-! ### a list of whole numbers emptied by places: [left.pop(e) for k in range(m)], made a tuple, handed back -/
def popM (j : Nat → Nat) : Nat → Nat → List Int → List Int
  | _, 0, _ => []
  | i, f + 1, l => l.getD (j i) 0 :: popM j (i + 1) f (l.eraseIdx (j i))
def PopOk (j : Nat → Nat) : Nat → Nat → List Int → Prop
  | _, 0, _ => True
  | i, f + 1, l => j i < l.length ∧ PopOk j (i + 1) f (l.eraseIdx (j i))
theorem popM_len (j : Nat → Nat) : ∀ (f i : Nat) (l : List Int), (popM j i f l).length = f
  | 0, _, _ => rfl
  | f + 1, i, l => by unfold popM; rw [List.length_cons, popM_len j f]
theorem seqIndex_nat {k n : Nat} (h : k < n) : seqIndex? (k : Int) n = some k := by
  have := (ixN_seq (n := n) (i := (k : Int)) (j := k) (by unfold ixN; rw [if_pos (by omega), if_pos (by omega)]; simp)).1
  exact this
theorem map_erase {α β : Type} (f : α → β) : ∀ (l : List α) (k : Nat), (l.map f).eraseIdx k = (l.eraseIdx k).map f
  | [], _ => rfl
  | _ :: _, 0 => rfl
  | x :: l, k + 1 => by
    show (f x :: (l.map f).eraseIdx k) = f x :: (l.eraseIdx k).map f
    rw [map_erase f l k]
section
variable {G : Ct} {δ δ1 : DEnv} {ω ω1 : Own} {out : Out} {a b c e tg iter elt : Expr} {es ifs body rest : List Expr} {x y z d : PyData} {ds items res : List PyData} {pos p p2 p3 spos py ap cp lp rp : Pos} {ts : TSpec} {scope : Scope} {own : List (PySem.Str × Nat)}
theorem ds_poprow (B : Blt G.m) (il ix m : Nat) (own : List (PySem.Str × Nat)) (j : Nat → Nat) (ns : List Int) {nl : PySem.Str} (hg : globB G.sc "tuple" = true) (hN : G.N[il]? = some nl) (hv : visB (G.blk scope).sc nl = true) (hil : il ∉ own.map (·.2)) (hilx : il ≠ ix)
    (hok : blkC G.N G.sc scope own = true) (hi : DI1 G δ tg iter ((List.range m).map natD)) (hdg : DG (G.blk scope) tg (.one ix)) (hsub : ix ∈ own.map (·.2))
    (he : ∀ i, i < m → DV (G.blk scope) ((dwipe δ (own.map (·.2))).set ix (some (natD i))) e (natD (j i))) (hj : ∀ i, j i < 1000000) (hp : PopOk j 0 m ns) (hm : m ≤ 1000)
    (hs0 : ∀ (env : Env) (x : Value), foldedSetIterable iter env x = pure x := by intro _ _; rfl)
    (hbase : ∀ env : Env, attributeBase (.Name nl p) "pop" env (eval (.Name nl p) env) = eval (.Name nl p) env := by intro _; rfl)
    (hfew : ∀ env : Env, ((backTo cp (starEach [e] env)).all (fun x => !x.1) && (backToKw cp (keywordEach [] env)).all (fun x => x.1.isSome) && decide ([e].length + ([] : List Keyword).length + (if ([] : List Keyword).isEmpty then 0 else 1) < 30)) = true := by intro _; rfl)
    (hline : (ap.endLine == cp.line) = true := by rfl) (hs2 : ∀ env : Env, starEach [e] env = (false, eval e env) :: starEach [] env := by intro _; rfl)
    (hs3 : ∀ env : Env, starEach [.ListComp (.Call (.Attribute (.Name nl p) "pop" ap) [e] [] cp) [⟨tg, iter, [], 0⟩] scope lp] env = (false, eval (.ListComp (.Call (.Attribute (.Name nl p) "pop" ap) [e] [] cp) [⟨tg, iter, [], 0⟩] scope lp) env) :: starEach [] env := by intro _; rfl) :
    DS G δ [(il, .lst (ns.map .int))] (.Return (some (.Call (.Name "tuple" p2) [.ListComp (.Call (.Attribute (.Name nl p) "pop" ap) [e] [] cp) [⟨tg, iter, [], 0⟩] scope lp] [] pos)) rp) (.ret (.tuple ((popM j 0 m ns).map .int))) := fun X hX => by
  have pev : ∀ (s : Shared) (H : Hp) (C : Addr) (cl : List (PySem.Str × Addr)) (fp : List Addr), PE (X.blk s H scope (compEnvC scope cl C X.env) fp) (.Name nl p) (tVar il) := fun s H C cl fp => by
    have hX' := hX.blk (scope := scope) s H C cl fp
    have hx := hX'.nodbg nl (List.mem_of_getElem? hN)
    exact pe_var (by rw [hX'.N]; exact hN) (by rw [hX'.sc]; exact vis_of hv) hx.1 hx.2
  have pel : ∀ (s : Shared) (H : Hp) (C : Addr) (cl : List (PySem.Str × Addr)) (fp : List Addr), PE (X.blk s H scope (compEnvC scope cl C X.env) fp) (.Call (.Attribute (.Name nl p) "pop" ap) [e] [] cp) (tBM G.m.K "list" rPopAt (tVar il) (tCons (eOf G scope e) tNil)) := fun s H C cl fp => by
    have hX' := hX.blk (scope := scope) s H C cl fp
    have := pe_bm PySem.F.plainAttrs_list PySem.F.slot_list_pop PySem.F.type_list_pop mt_popAt (pev s H C cl fp) (pa_cons (pe_of (elt := e) hX') pa_nil (hs2 _)) (hbase _) (hfew _) hline (hs2 _) rfl
    rw [hX'.K] at this
    exact this
  refine PS.imp (ps_ret (pe_callTy (hX.K ▸ cr_tupF (X := X)) (gl_of hX hg) (by rw [hX.mg]; exact B.tuple) PyProof.Rows.boot_tuple (pa_cons (pe_lc hX.calm hX.nd (hi X hX) (by rw [hX.N, hX.sc]; exact blkOk_by hok) (fun s H C cl fp => hdg _ (hX.blk s H C cl fp)) (fun s H C cl fp => pts_nil) pel (hs0 _)) pa_nil (hs3 _)) (by decide) (by decide) (hs3 _) rfl)) fun D σ H ⟨S, H0, δ', ω', o', ⟨e1, e2, e3⟩, hS, r, q⟩ => ?_
  subst e1 e2 e3
  obtain ⟨as, h1, h2, h3, h4, h5, h6⟩ := r.ex
  obtain ⟨a, rfl⟩ : ∃ a, as = [a] := by
    match as, h1 with
    | [a], _ => exact ⟨a, rfl⟩
  obtain ⟨ha, xs, hax, hxz, hra⟩ := h6 0 il _ a rfl rfl
  obtain rfl := hra.ints
  refine ⟨[a] ++ S, _, _, ⟨rfl, rfl⟩, h3, h5, fun J H1 s1 itok Dl hD => ?_⟩
  have haD : Dl ≠ a := fun z => by
    have := s1 _ _ hax
    rw [← z, hD] at this
    cases this
  -- behind i turns: what is left of the list at a, what is made at Dl
  refine ⟨fun i mm H' => mm = m - i ∧ i ≤ m ∧ Same (hide [a] H1) (hide [Dl, a] H') ∧ ∃ l acc, H' a = some (.lst (l.map V.int)) ∧ H' Dl = some (.lst (acc.map V.int)) ∧ PopOk j i (m - i) l ∧ acc ++ popM j i (m - i) l = popM j 0 m ns ∧ acc.length = i,
    ⟨_, rfl, Nat.zero_le _, ?_, ns, [], ?_, upd_same, hp, rfl, rfl⟩, ?_⟩
  · rw [hide_cons_upd hD]
    exact Same.refl _
  · rw [upd_ne (Ne.symm haD)]
    exact s1 _ _ hax
  rintro i mm H' ⟨em, him, hsm, l, acc, hl, hacc, hpo, hres, hal⟩
  have okD : SOk (Dl :: [a] ++ S) H' := fun b hb => by
    rcases List.mem_cons.mp hb with z | z
    · rw [z, hacc]; simp
    · rcases List.mem_cons.mp z with z | z
      · rw [z, hl]; simp
      · intro hn
        have hbne : b ≠ a := fun w => by rw [w, hl] at hn; cases hn
        have hb1 : H1 b ≠ none := (h3.mono s1) b (List.mem_append_right _ z)
        cases q1 : H1 b with
        | none => exact hb1 q1
        | some u =>
          have := hsm b u (by rw [hide_out (by simpa using hbne)]; exact q1)
          have := hide_sub _ _ _ _ this
          rw [hn] at this
          cases this
  have sF : Same (hide ([a] ++ S) H1) (hide (Dl :: [a] ++ S) H') := by
    have e1 : hide ([a] ++ S) H1 = hide S (hide [a] H1) := hide_app _ _ _
    have e2 : hide (Dl :: [a] ++ S) H' = hide S (hide [Dl, a] H') := hide_app [Dl, a] S H'
    rw [e1, e2]
    exact hide_mono hsm
  have RD : Rel G.m.K (Dl :: [a] ++ S) (dwipe δ' (own.map (·.2))) (wipe σ (own.map (·.2))) H' := by
    have := (h5.mono s1).wiped (own.map (·.2))
    exact ⟨this.len, fun i d e => let ⟨v, z1, z2⟩ := this.val i d e; ⟨v, z1, z2.mono sF⟩⟩
  obtain ⟨hgo, hstop⟩ := itok _ H' sF okD
  have hlen : ((List.range m).map natD).length = m := by simp
  by_cases hlt : i < m
  · have e1 : m - i = (m - (i + 1)) + 1 := by omega
    rw [e1] at hpo hres
    obtain ⟨hji, hpo'⟩ := hpo
    obtain ⟨go, yld⟩ := hgo i (natD i) (by rw [List.getElem?_map, List.getElem?_range hlt]; rfl)
    refine .inr ⟨go, _, fun H2 z => ⟨m - (i + 1), by omega, rfl, hlt, z⟩, fun x H2 yy => ?_⟩
    obtain ⟨s2, rx⟩ := yld x H2 yy
    refine ⟨Dl :: [a] ++ S, _, natD i, _, rfl, okD.mono s2, RD.mono s2, rx, fun σ2 R2 keep hl2 => ⟨?_, ?_⟩⟩
    · exact (wipe_same hl2 fun k hk => keep k fun z => hk (by simp [TSpec.ix] at z; rw [z]; exact hsub)).trans (wipe_wipe σ _)
    · unfold tYes
      dsimp only
      rw [if_pos rfl]
      refine ⟨.ref a, ?_, .inl ⟨rfl, _, SqL.of (s2 _ _ hl)⟩, Dl :: [a] ++ S, _, _, he i hlt, okD.mono s2, R2, fun v H3 s3 rv => ?_⟩
      · rw [keep il (by simp [TSpec.ix]; exact hilx), wipe_at _ _ _ hil]
        exact ha
      · cases rv
        refine ⟨a, _, (j i : Int), j i, .int (l.getD (j i) 0), rfl, rfl, s3 _ _ (s2 _ _ hl), by have := hj i; omega, by have := hj i; omega, seqIndex_nat (by rw [List.length_map]; exact hji), ?_, ?_⟩
        · rw [List.getElem?_map, List.getD_eq_getElem?_getD, List.getElem?_eq_getElem hji]
          rfl
        · refine ⟨acc.map V.int, ?_, ?_, ?_, l.eraseIdx (j i), acc ++ [l.getD (j i) 0], ?_, ?_, hpo', ?_, by rw [List.length_append, hal]; rfl⟩
          · rw [upd_ne haD]
            exact s3 _ _ (s2 _ _ hacc)
          · rw [List.length_map, hal, sizeLine_eq]
            omega
          · rw [hide_upd (by simp), hide_upd (by simp)]
            exact fun b o e => hide_mono (s2.trans s3) _ _ (hsm _ _ e)
          · rw [upd_ne (Ne.symm haD), upd_same, map_erase]
          · rw [upd_same, List.map_append]
            rfl
          · rw [← hres, List.append_assoc]
            rfl
  · have ei : i = m := by omega
    subst ei
    rw [Nat.sub_self] at hres
    refine .inl ⟨by rw [hlen] at hstop; exact hstop, ⟨Dl, _, rfl, .inl ⟨SqL.of hacc, ?_⟩⟩⟩
    have hres' : acc = popM j 0 i ns := by rw [← hres]; show acc = acc ++ []; simp
    have sH0 : Same H0 H' := by
      have e1 : Same H0 (hide [a] H1) := h4.trans (hide_mono s1)
      exact (e1.trans hsm).trans (hide_sub _ _)
    refine Rp.newT (K := G.m.K) (S := S) (H := H') (ds := (popM j 0 i ns).map .int) (fun b hb => okD b (List.mem_append_right _ hb)) ?_ ?_ sH0 fun v H'' s'' rv => q v H'' s'' rv
    · rw [List.length_map, hal, sizeLine_eq]
      omega
    · rw [← hres']
      exact RpAll.ofInts _
end
/-! ### products of any size that comes here -/
def CMulB (i j : Int) : Prop := i.natAbs.log2 + j.natAbs.log2 < 100000000
theorem CMulB.ok {i j : Int} (h : CMulB i j) : IntMulOk i j := by
  have bits : ∀ x : Int, Builtin.Int.intBits x ≤ x.natAbs.log2 + 1 := fun x => by
    unfold Builtin.Int.intBits
    split <;> omega
  have b1 := bits i
  have b2 := bits j
  have h3 : i.natAbs.log2 + j.natAbs.log2 < 100000000 := h
  intro z
  have z2 := (Bool.and_eq_true _ _ ▸ z).2
  unfold Builtin.Int.intTooBig at z2
  have z3 := of_decide_eq_true z2
  have e : bitsLine = 134217728 := by decide
  rw [e] at z3
  omega
theorem dv_mulB {G : Ct} {δ : DEnv} {a b : Expr} {pos : Pos} {i j : Int} (ha : DV G δ a (.int i)) (hb : DV G δ b (.int j)) (h : CMulB i j) : DV G δ (.BinOp a .Mult b pos) (.int (i * j)) :=
  dv_op (r := rI CMulB fun i j => .int (i * j)) (fun _ _ => opI fun _ _ _ _ _ _ _ hc q => PyProof.Rows.mul_int q hc.ok) ha hb fun S H v w Q ok r1 r2 q => by
    cases r1
    cases r2
    exact ⟨i, j, rfl, rfl, h, q _ H (Same.refl H) (.int _)⟩
end DL

set_option Elab.async false
set_option linter.all false
set_option maxRecDepth 100000
namespace DL
open PySem PySem.Spec L2
set_option autoImplicit false
/-! ### {'..': '..', '..': '..'}[name] -/
section
variable {G : Ct} {δ : DEnv} {k1 k2 v1 v2 i : Expr} {dp pos : Pos}
theorem dv_dict2 {a1 a2 b1 b2 x r : PySem.Str} (hk1 : DV G δ k1 (.str a1)) (hv1 : DV G δ v1 (.str b1)) (hk2 : DV G δ k2 (.str a2)) (hv2 : DV G δ v2 (.str b2)) (hi : DV G δ i (.str x))
    (h : valV (mergeK [] [((.inr a1 : Key), V.str b1), (.inr a2, .str b2)]) (.inr x : Key) = some (.str r)) (hs : NoSl i := by intro _ _; rfl) :
    DV G δ (.Subscript (.Dict [some k1, some k2] [v1, v2] dp) i pos) (.str r) := fun X hX => by
  refine PE.imp (pe_dget (by have := room65 hX; omega) (pe_disp (pps_cons (hk1 X hX) (hv1 X hX) (pps_cons (hk2 X hX) (hv2 X hX) pps_nil)) rfl rfl (by simp) (by simp)) (hi X hX) hs) fun σ H Q ⟨S, δ', d', ⟨e1, e2⟩, ok, R, q⟩ => ?_
  subst e1 e2
  intro p hp
  have s0 := same_upd hp (.dK [])
  refine ⟨S, _, _, ⟨rfl, rfl⟩, ok.mono s0, R.mono s0, fun u1 H1 s1 r1 => ?_⟩
  cases r1
  refine ⟨S, _, _, ⟨rfl, rfl⟩, ok.mono (s0.trans s1), R.mono (s0.trans s1), fun u2 H2 s2 r2 => ?_⟩
  cases r2
  have t2 := (s0.trans s1).trans s2
  refine ⟨S, _, _, ⟨rfl, rfl⟩, ok.mono t2, R.mono t2, fun u3 H3 s3 r3 => ?_⟩
  cases r3
  have t3 := t2.trans s3
  refine ⟨S, _, _, ⟨rfl, rfl⟩, ok.mono t3, R.mono t3, fun u4 H4 s4 r4 => ?_⟩
  cases r4
  have t4 := t3.trans s4
  have sp : Same (upd H p (.dK [])) H4 := ((s1.trans s2).trans s3).trans s4
  refine ⟨sp _ _ upd_same, [(.inr a1, .str b1), (.inr a2, .str b2)], rfl, by simp, ?_⟩
  have sf : Same H (upd H4 p (.dK (mergeK [] [((.inr a1 : Key), V.str b1), (.inr a2, .str b2)]))) := fun b o e => by
    by_cases hb : b = p
    · subst hb; rw [hp] at e; cases e
    · rw [upd_ne hb]; exact t4 _ _ e
  refine ⟨S, _, _, ⟨rfl, rfl⟩, ok.mono sf, R.mono sf, fun u5 H5 s5 r5 => ?_⟩
  cases r5
  refine ⟨p, .str r, rfl, ?_, q _ _ (sf.trans s5) (.str _)⟩
  rw [← h]
  exact DGet.k (k := .inr x) (s5 _ _ upd_same)
end
end DL

set_option Elab.async false
set_option linter.all false
set_option maxRecDepth 100000
namespace DL
open PySem PySem.Spec L2
set_option autoImplicit false
/-! ### a list's truth -/
theorem len_empty {α β : Type} {xs : List α} {ys : List β} (h : xs.length = ys.length) : xs.isEmpty = ys.isEmpty := by
  cases xs <;> cases ys <;> first | rfl | (simp at h)
section
variable {G : Ct} {δ δ1 δ2 : DEnv} {ω ω1 : Own} {out : Out} {e : Expr} {sts body : List Stmt} {ds : List PyData} {ts : TSpec} {y : PyData}
theorem dt_seq (ha : DV G δ e y) (h : Seq y ds) (he : ∀ (env : Env) whole, isTrue e env whole = (do let v ← whole; standAt e.pos; holding [v] (truthy v)) := by intro _ _; rfl) : DT G δ e (!ds.isEmpty) := fun X hX =>
  PT.imp (pt_truth (ha X hX) (he _)) fun σ H Q ⟨S, δ', d', ⟨e1, e2⟩, ok, R, q⟩ => by
    subst e1 e2
    refine ⟨S, _, _, ⟨rfl, rfl⟩, ok, R, fun v H1 s1 r1 => ?_⟩
    cases h with
    | lst =>
      cases r1 with
      | lst e1 z1 a1 =>
        exact ⟨!ds.isEmpty, .inl ⟨_, SqL.of (hide_some e1).2, by rw [len_empty a1.len]⟩, q H1 s1⟩
    | tup =>
      cases r1 with
      | tup e1 k1 z1 a1 =>
        exact ⟨!ds.isEmpty, .inr (.inl ⟨_, SqT.frz (hide_some e1).2, by rw [len_empty a1.len]⟩), q H1 s1⟩
/-! ### knowing less -/
structure Le (δ2 δ1 : DEnv) : Prop where
  len : δ2.length = δ1.length
  at' : ∀ (i : Nat) (d : PyData), δ2[i]? = some (some d) → δ1[i]? = some (some d)
theorem Le.refl (δ : DEnv) : Le δ δ := ⟨rfl, fun _ _ h => h⟩
theorem Le.trans {a b c : DEnv} (h1 : Le a b) (h2 : Le b c) : Le a c := ⟨h1.len.trans h2.len, fun i d e => h2.at' i d (h1.at' i d e)⟩
theorem Le.nil : Le [] [] := Le.refl _
theorem Le.cons {o : Option PyData} {a b : DEnv} (h : Le a b) : Le (o :: a) (o :: b) := ⟨by simp [h.len], fun i d e => by cases i with | zero => exact e | succ i => exact h.at' i d e⟩
theorem Le.drop {o : Option PyData} {a b : DEnv} (h : Le a b) : Le (none :: a) (o :: b) := ⟨by simp [h.len], fun i d e => by cases i with | zero => cases e | succ i => exact h.at' i d e⟩
theorem Rel.le {K : PySem.W.Frag} {S : List Addr} {σ : L2.St} {H : Hp} (r : Rel K S δ1 σ H) (w : Le δ2 δ1) : Rel K S δ2 σ H := ⟨r.len.trans w.len.symm, fun i d e => r.val i d (w.at' i d e)⟩
theorem SRel.le {K : PySem.W.Frag} {S : List Addr} {H0 H : Hp} {σ : L2.St} (r : SRel K S H0 δ1 ω σ H) (w : Le δ2 δ1) : SRel K S H0 δ2 ω σ H := by
  obtain ⟨as, h1, h2, h3, h4, h5, h6⟩ := r.ex
  exact ⟨as, h1, h2, h3, h4, h5.le w, h6⟩
theorem DSs.pre (h : DSs G δ2 ω sts out) (w : Le δ2 δ1) : DSs G δ1 ω sts out := fun X hX => PSs.imp (h X hX) fun D σ H ⟨S, H0, δ', ω', o', ⟨e1, e2, e3⟩, hS, r, q⟩ => by
  subst e1 e2 e3
  exact ⟨S, H0, _, _, _, ⟨rfl, rfl, rfl⟩, hS, r.le w, q⟩
theorem DSs.weak (h : DSs G δ ω sts (.next δ1 ω1)) (w : Le δ2 δ1) : DSs G δ ω sts (.next δ2 ω1) := fun X hX => PSs.imp (h X hX) fun D σ H ⟨S, H0, δ', ω', o', ⟨e1, e2, e3⟩, hS, r, q⟩ => by
  subst e1 e2 e3
  exact ⟨S, H0, _, _, _, ⟨rfl, rfl, rfl⟩, hS, r, fun σ' H' r' => q σ' H' (r'.le w)⟩
theorem DFor.conv {items : List PyData} (h : DFor G ts body items δ ω out) {o : Out} (q : out = o) : DFor G ts body items δ ω o := q ▸ h
theorem dv_addn {a b : Expr} {i j : Nat} {pos : Pos} (ha : DV G δ a (natD i)) (hb : DV G δ b (natD j)) : DV G δ (.BinOp a .Add b pos) (natD (i + j)) := (dv_addi (i := (i : Int)) (j := (j : Int)) ha hb).conv (by unfold natD; rw [Int.natCast_add])
theorem dv_intn {i : Int} (n : Nat) {j} {pos : Pos} (h : i = n := by rfl) : DV G δ (.Constant (.int i) j pos) (natD n) := h ▸ dv_int
theorem ds_ifk {c : Expr} {thn els : List Stmt} {pos : Pos} {k : Bool} (hc : DT G (ov δ ω) c k) (ht : k = true → DSs G δ ω thn (.next δ ω1)) (he : k = false → DSs G δ ω els (.next δ ω1)) : DS G δ ω (.If c thn els pos) (.next δ ω1) := ds_if hc ht he
/-! ### loops that keep what is known -/
theorem dfor_keep {α : Type} (enc : α → PyData) : ∀ (xs : List α), (∀ x ∈ xs, ∃ δb, bindT ts (enc x) δ = some δb ∧ ofree ts ω ∧ ∃ δ1, DSs G δb ω body (.next δ1 ω) ∧ Le δ δ1) → DFor G ts body (xs.map enc) δ ω (.next δ ω)
  | [], _ => rfl
  | x :: xs, h => by
    obtain ⟨δb, h1, h2, δ1, h3, w⟩ := h x List.mem_cons_self
    exact ⟨δb, h1, h2, .inl ⟨_, _, h3.weak w, dfor_keep enc xs fun y hy => h y (List.mem_cons_of_mem _ hy)⟩⟩
theorem dfor_fold {α β : Type} (enc : α → PyData) (st : β → Own) (f : β → α → β) (I : Nat → β → Prop) : ∀ (xs : List α) (b : β), I xs.length b → (∀ x ∈ xs, ∀ n b, I (n + 1) b → I n (f b x) ∧ ∃ δb, bindT ts (enc x) δ = some δb ∧ ofree ts (st b) ∧ ∃ δ1, DSs G δb (st b) body (.next δ1 (st (f b x))) ∧ Le δ δ1) →
    DFor G ts body (xs.map enc) δ (st b) (.next δ (st (xs.foldl f b)))
  | [], _, _, _ => rfl
  | x :: xs, b, hb, h => by
    obtain ⟨hi, δb, h1, h2, δ1, h3, w⟩ := h x List.mem_cons_self _ b hb
    exact ⟨δb, h1, h2, .inl ⟨_, _, h3.weak w, dfor_fold enc st f I xs _ hi fun y hy => h y (List.mem_cons_of_mem _ hy)⟩⟩
theorem fold_len {α β : Type} {f : List β → α → List β} {c : Nat} (h : ∀ b x, (f b x).length ≤ b.length + c) : ∀ (xs : List α) (b : List β), (xs.foldl f b).length ≤ b.length + c * xs.length
  | [], b => by simp
  | x :: xs, b => by
    have h1 := fold_len h xs (f b x)
    have h2 := h b x
    rw [List.foldl_cons, List.length_cons, Nat.mul_succ]
    omega
/-- a loop that hands back r at the first x where it finds it -/
theorem dfor_find {α : Type} (enc : α → PyData) (g : α → Option PyData) : ∀ (xs : List α), (∀ x ∈ xs, ∃ δb, bindT ts (enc x) δ = some δb ∧ ofree ts ω ∧ ((g x = none ∧ ∃ δ1, DSs G δb ω body (.next δ1 ω) ∧ Le δ δ1) ∨ ∃ r, g x = some r ∧ DSs G δb ω body (.ret r))) →
    DFor G ts body (xs.map enc) δ ω (match xs.findSome? g with | some r => .ret r | none => .next δ ω)
  | [], _ => rfl
  | x :: xs, h => by
    obtain ⟨δb, h1, h2, h3⟩ := h x List.mem_cons_self
    rw [List.findSome?_cons]
    rcases h3 with ⟨e, δ1, h3, w⟩ | ⟨r, e, h3⟩
    · rw [e]
      exact ⟨δb, h1, h2, .inl ⟨_, _, h3.weak w, dfor_find enc g xs fun y hy => h y (List.mem_cons_of_mem _ hy)⟩⟩
    · rw [e]
      exact ⟨δb, h1, h2, .inr ⟨r, rfl, h3⟩⟩
end
/-! ### depth -/
structure Nc (n : Nat) (d : PyData) : Prop where
  lay : d.canLay0 = true
  dep : d.depth ≤ n
theorem Nc.sh {n : Nat} {d : PyData} (h : Nc n d) (hn : n ≤ 64 := by omega) : SeqAt.shaped d = true := by
  unfold SeqAt.shaped
  rw [h.lay, Bool.true_and]
  exact decide_eq_true (Nat.le_trans h.dep hn)
theorem nc_int (i : Int) : Nc 0 (.int i) := ⟨rfl, Nat.le_refl _⟩
theorem nc_bool (i : Bool) : Nc 0 (.bool i) := ⟨rfl, Nat.le_refl _⟩
theorem nc_str (i : PySem.Str) (h : (PyData.str i).canLay0 = true := by decide) : Nc 0 (.str i) := ⟨h, Nat.le_refl _⟩
theorem nc_non : Nc 0 .none := ⟨rfl, Nat.le_refl _⟩
theorem nc_all {n : Nat} : ∀ {xs : List PyData}, (∀ x ∈ xs, Nc n x) → PyData.canLayAll0 xs = true ∧ PyData.depthAll xs ≤ n
  | [], _ => ⟨rfl, by simp [PyData.depthAll]⟩
  | x :: xs, h => by
    obtain ⟨h1, h2⟩ := h x List.mem_cons_self
    obtain ⟨h3, h4⟩ := nc_all (xs := xs) fun y hy => h y (List.mem_cons_of_mem _ hy)
    exact ⟨by simp [PyData.canLayAll0, h1, h3], by simp only [PyData.depthAll]; omega⟩
theorem nc_tup {n : Nat} {xs : List PyData} (h : ∀ x ∈ xs, Nc n x) : Nc (n + 1) (.tuple xs) := ⟨(nc_all h).1, by have := (nc_all h).2; simp only [PyData.depth]; omega⟩
theorem nc_lst {n : Nat} {xs : List PyData} (h : ∀ x ∈ xs, Nc n x) : Nc (n + 1) (.list xs) := ⟨(nc_all h).1, by have := (nc_all h).2; simp only [PyData.depth]; omega⟩
theorem Nc.up {n m : Nat} {d : PyData} (h : Nc n d) (w : n ≤ m) : Nc m d := ⟨h.lay, Nat.le_trans h.dep w⟩
theorem nc_ints (ns : List Int) : ∀ x ∈ ns.map PyData.int, Nc 0 x := fun x hx => by
  obtain ⟨i, _, rfl⟩ := List.mem_map.mp hx
  exact nc_int i
theorem nc_strs (ns : List PySem.Str) (h : ∀ x ∈ ns, (PyData.str x).canLay0 = true) : ∀ x ∈ ns.map PyData.str, Nc 0 x := fun x hx => by
  obtain ⟨i, hi, rfl⟩ := List.mem_map.mp hx
  exact nc_str i (h i hi)
theorem nc_pair (q : Int × Int) : Nc 1 (pairD q) := nc_tup fun x hx => by
  simp at hx
  rcases hx with rfl | rfl <;> exact nc_int _
theorem nc_pairs (ns : List (Int × Int)) : ∀ x ∈ ns.map pairD, Nc 1 x := fun x hx => by
  obtain ⟨i, _, rfl⟩ := List.mem_map.mp hx
  exact nc_pair i
theorem Nc.eq_self {n : Nat} {d : PyData} (h : Nc n d) : PyData.eqv d d = true := SeqAt.eqv_refl d h.lay
/-! ### equality of data -/
theorem eqv_int (i j : Int) : PyData.eqv (.int i) (.int j) = decide (i = j) := by
  simp only [PyData.eqv]
  exact Bool.eq_iff_iff.mpr (by simp)
theorem eqv_str (i j : PySem.Str) : PyData.eqv (.str i) (.str j) = decide (i = j) := by
  simp only [PyData.eqv]
  exact Bool.eq_iff_iff.mpr (by simp)
theorem eqvAll_map {α : Type} [DecidableEq α] (f : α → PyData) (h : ∀ x y, PyData.eqv (f x) (f y) = decide (x = y)) : ∀ xs ys : List α, PyData.eqvAll (xs.map f) (ys.map f) = decide (xs = ys)
  | [], [] => rfl
  | x :: xs, [] => rfl
  | [], y :: ys => rfl
  | x :: xs, y :: ys => by
    rw [List.map_cons, List.map_cons, PyData.eqvAll, h, eqvAll_map f h xs ys]
    exact Bool.eq_iff_iff.mpr (by simp)
theorem eqv_pair (p q : Int × Int) : PyData.eqv (pairD p) (pairD q) = decide (p = q) := by
  obtain ⟨a, b⟩ := p
  obtain ⟨c, d⟩ := q
  show PyData.eqv (.tuple [.int a, .int b]) (.tuple [.int c, .int d]) = _
  simp only [PyData.eqv, PyData.eqvAll]
  exact Bool.eq_iff_iff.mpr (by simp)
theorem eqv_tups {α : Type} [DecidableEq α] (f : α → PyData) (h : ∀ x y, PyData.eqv (f x) (f y) = decide (x = y)) (xs ys : List α) : PyData.eqv (.tuple (xs.map f)) (.tuple (ys.map f)) = decide (xs = ys) := by
  show PyData.eqvAll _ _ = _
  exact eqvAll_map f h xs ys
theorem any_map {α : Type} [DecidableEq α] (f : α → PyData) (h : ∀ x y, PyData.eqv (f x) (f y) = decide (x = y)) (xs : List α) (x : α) : ((xs.map f).any fun z => PyData.eqv z (f x)) = decide (x ∈ xs) := by
  rw [List.any_map]
  refine Bool.eq_iff_iff.mpr ?_
  rw [List.any_eq_true]
  constructor
  · rintro ⟨z, hz, e⟩
    rw [Function.comp_apply, h] at e
    exact decide_eq_true (of_decide_eq_true e ▸ hz)
  · intro e
    exact ⟨x, of_decide_eq_true e, by rw [Function.comp_apply, h]; exact decide_eq_true rfl⟩
end DL

set_option Elab.async false
set_option linter.all false
set_option maxRecDepth 100000
namespace DL
open PySem PySem.Spec L2
set_option autoImplicit false
/-! ### places in a row -/
def ix : List Int → Int → Nat
  | [], _ => 0
  | y :: r, x => if y = x then 0 else ix r x + 1
theorem ix_get : ∀ {r : List Int} {x : Int}, x ∈ r → r[ix r x]? = some x
  | y :: r, x, h => by
    unfold ix
    by_cases e : y = x
    · rw [if_pos e, e]; rfl
    · rw [if_neg e]
      have : x ∈ r := by
        rcases List.mem_cons.mp h with z | z
        · exact absurd z.symm e
        · exact z
      exact ix_get this
theorem ix_no : ∀ {r : List Int} {x : Int} {m : Nat}, m < ix r x → r[m]? ≠ some x
  | [], x, m, h => by simp
  | y :: r, x, m, h => by
    unfold ix at h
    by_cases e : y = x
    · rw [if_pos e] at h; omega
    · rw [if_neg e] at h
      cases m with
      | zero => simp; exact e
      | succ m => exact ix_no (r := r) (by omega)
theorem ix_inj {r : List Int} {x y : Int} (hx : x ∈ r) (hy : y ∈ r) (h : ix r x = ix r y) : x = y := by
  have h1 := ix_get hx
  have h2 := ix_get hy
  rw [h, h2] at h1
  exact (Option.some.inj h1).symm
/-- the two places of a tie, the lesser first -/
def spotsM (r : List Int) (t : Int × Int) : Int × Int := (if (ix r t.1 : Int) ≤ ix r t.2 then (ix r t.1, ix r t.2) else (ix r t.2, ix r t.1))
inductive Lie | meet | cross | within | apart
deriving DecidableEq
def Lie.t : Lie → PySem.Str
  | .meet => "meet"
  | .cross => "cross"
  | .within => "within"
  | .apart => "apart"
def howM (s t : Int × Int) : Lie :=
  if (s.1 = t.1 ∨ s.1 = t.2) ∨ (s.2 = t.1 ∨ s.2 = t.2) then .meet
  else if (s.1 < t.1 ∧ t.1 < s.2 ∧ s.2 < t.2) ∨ (t.1 < s.1 ∧ s.1 < t.2 ∧ t.2 < s.2) then .cross
  else if (s.1 < t.1 ∧ t.1 < t.2 ∧ t.2 < s.2) ∨ (t.1 < s.1 ∧ s.1 < s.2 ∧ s.2 < t.2) then .within
  else .apart
def webD (m : Nat) (ties : List (Int × Int)) : PyData := .tuple [natD m, .tuple (ties.map pairD)]
def rowD (r : List Int) : PyData := .tuple (r.map .int)
def Lr (r : List Int) (t u : Int × Int) : Lie := howM (spotsM r t) (spotsM r u)
/-- the kind: pile or queue -/
inductive Kd | pile | queue
deriving DecidableEq
def Kd.t : Kd → PySem.Str
  | .pile => "pile"
  | .queue => "queue"
def Kd.bad : Kd → Lie
  | .pile => .cross
  | .queue => .within
def clashB (r : List Int) (k : Kd) (t u : Int × Int) : Bool := decide (Lr r t u = k.bad)
theorem if_cg {α : Type} {b c : Prop} [Decidable b] [Decidable c] {x y u v : α} (h : b ↔ c) (h2 : x = u) (h3 : y = v) : ite b x y = ite c u v := by
  subst h2 h3
  by_cases q : b
  · rw [if_pos q, if_pos (h.mp q)]
  · rw [if_neg q, if_neg fun z => q (h.mpr z)]
theorem howM_comm (s t : Int × Int) : howM s t = howM t s := by
  unfold howM
  exact if_cg (by omega) rfl (if_cg (by omega) rfl (if_cg (by omega) rfl rfl))
theorem spots_le (r : List Int) (t : Int × Int) : (spotsM r t).1 ≤ (spotsM r t).2 := by
  unfold spotsM
  split <;> simp <;> omega
theorem spots_lt {r : List Int} {t : Int × Int} (h1 : t.1 ∈ r) (h2 : t.2 ∈ r) (h : t.1 ≠ t.2) : (spotsM r t).1 < (spotsM r t).2 := by
  have : ix r t.1 ≠ ix r t.2 := fun e => h (ix_inj h1 h2 e)
  unfold spotsM
  split <;> simp <;> omega
/-! ### the defs' promises -/
def rSpots (ds : List PyData) (d : PyData) : Prop := ∃ (m : Nat) (ties : List (Int × Int)) (r : List Int) (i : Nat) (t : Int × Int), ds = [webD m ties, rowD r, natD i] ∧ ties[i]? = some t ∧ t.1 ∈ r ∧ t.2 ∈ r ∧ d = pairD (spotsM r t)
def rHow (ds : List PyData) (d : PyData) : Prop := ∃ (m : Nat) (ties : List (Int × Int)) (r : List Int) (i j : Nat) (t u : Int × Int), ds = [webD m ties, rowD r, natD i, natD j] ∧ ties[i]? = some t ∧ ties[j]? = some u ∧ (t.1 ∈ r ∧ t.2 ∈ r) ∧ (u.1 ∈ r ∧ u.2 ∈ r) ∧ d = .str (Lr r t u).t
def rDo (ds : List PyData) (d : PyData) : Prop := ∃ (m : Nat) (ties : List (Int × Int)) (r : List Int) (k : Kd) (i j : Nat) (t u : Int × Int), ds = [webD m ties, rowD r, .str k.t, natD i, natD j] ∧ ties[i]? = some t ∧ ties[j]? = some u ∧ (t.1 ∈ r ∧ t.2 ∈ r) ∧ (u.1 ∈ r ∧ u.2 ∈ r) ∧ d = .bool (clashB r k t u)
def npD (p : Nat × Nat) : PyData := .tuple [natD p.1, natD p.2]
def clashAt (ties : List (Int × Int)) (r : List Int) (k : Kd) (i j : Nat) : Bool := clashB r k (ties.getD i (0, 0)) (ties.getD j (0, 0))
def inClash1 (ties : List (Int × Int)) (r : List Int) (k : Kd) (i : Nat) (acc : List (Nat × Nat)) (j : Nat) : List (Nat × Nat) := if clashAt ties r k i j then acc ++ [(i, j)] else acc
def inClash (ties : List (Int × Int)) (r : List Int) (k : Kd) (acc : List (Nat × Nat)) (i : Nat) : List (Nat × Nat) := ((List.range (ties.length - (i + 1))).map (i + 1 + ·)).foldl (inClash1 ties r k i) acc
def clashesM (ties : List (Int × Int)) (r : List Int) (k : Kd) : List (Nat × Nat) := (List.range ties.length).foldl (inClash ties r k) []
theorem inClash1_len (ties : List (Int × Int)) (r : List Int) (k : Kd) (i : Nat) (b : List (Nat × Nat)) (j : Nat) : (inClash1 ties r k i b j).length ≤ b.length + 1 := by
  unfold inClash1
  split <;> simp
theorem inClash_len (ties : List (Int × Int)) (r : List Int) (k : Kd) (b : List (Nat × Nat)) (i : Nat) : (inClash ties r k b i).length ≤ b.length + ties.length := by
  have := fold_len (inClash1_len ties r k i) ((List.range (ties.length - (i + 1))).map (i + 1 + ·)) b
  rw [List.length_map, List.length_range, Nat.one_mul] at this
  unfold inClash
  omega
def rClashes (ds : List PyData) (d : PyData) : Prop := ∃ (m : Nat) (ties : List (Int × Int)) (r : List Int) (k : Kd), ds = [webD m ties, rowD r, .str k.t] ∧ (∀ t ∈ ties, t.1 ∈ r ∧ t.2 ∈ r) ∧ ties.length ≤ 60 ∧ d = .tuple ((clashesM ties r k).map npD)
theorem lie_inj {a b : Lie} (h : a.t = b.t) : a = b := by
  cases a <;> cases b <;> first | rfl | (exact absurd h (by decide))
theorem lie_eqv (a b : Lie) : PyData.eqv (.str a.t) (.str b.t) = decide (a = b) := by
  rw [eqv_str]
  exact Bool.eq_iff_iff.mpr ⟨fun h => decide_eq_true (lie_inj (of_decide_eq_true h)), fun h => decide_eq_true (congrArg Lie.t (of_decide_eq_true h))⟩
theorem lie_sh (a : Lie) : SeqAt.shaped (.str a.t) = true := by cases a <;> decide +kernel
end DL

set_option Elab.async false
set_option linter.all false
set_option maxRecDepth 100000
namespace DL
open PySem PySem.Spec L2
set_option autoImplicit false
/-! ### numbers that are not too big -/
def Sm (n : Nat) (z : Int) : Prop := z.natAbs < 2 ^ n
theorem Sm.add {n : Nat} {z s : Int} (h : Sm n z) (hs : s.natAbs ≤ 1000) : Sm (n + 10) (z + s) := by
  unfold Sm at h ⊢
  rw [Nat.pow_add]
  have h1 : (2 : Nat) ^ 10 = 1024 := by decide
  rw [h1]
  generalize (2 : Nat) ^ n = x at h ⊢
  omega
theorem Sm.div3 {n : Nat} {z : Int} (h : Sm n z) : Sm n (z / 3) := by
  unfold Sm at h ⊢
  generalize (2 : Nat) ^ n = x at h ⊢
  omega
theorem Sm.mono {n m : Nat} {z : Int} (h : Sm n z) (w : n ≤ m) : Sm m z := Nat.lt_of_lt_of_le h (Nat.pow_le_pow_right (by omega) w)
theorem Sm.mulB {n : Nat} {z : Int} (h : Sm n z) (hn : n ≤ 5000000) : CMulB z 48271 := by
  unfold CMulB
  have h2 : (48271 : Int).natAbs.log2 = 15 := by decide
  rw [h2]
  by_cases e : z.natAbs = 0
  · rw [e, show Nat.log2 0 = 0 by decide]; omega
  · have := (Nat.log2_lt e).mpr h
    omega
theorem CMulB.small {i j : Int} (hi : i.natAbs < 1000000) (hj : j.natAbs < 1000000) : CMulB i j := by
  have h : ∀ n : Nat, n < 1000000 → n.log2 < 20 := fun n hn => by
    by_cases e : n = 0
    · subst e; decide
    · exact (Nat.log2_lt e).mpr (by omega)
  unfold CMulB
  have := h _ hi
  have := h _ hj
  omega
/-! ### cells made webs and rows -/
def mixM (z p m : Int) : Int := z * 48271 % p % m
theorem mixM_nn (z : Int) {p m : Int} (h : 0 < m) : 0 ≤ mixM z p m := Int.emod_nonneg _ (by omega)
theorem mixM_lt (z : Int) {p m : Int} (h : 0 < m) : mixM z p m < m := Int.emod_lt_of_pos _ h
def rMix (ds : List PyData) (d : PyData) : Prop := ∃ (n : Nat) (z p m : Int), ds = [.int z, .int p, .int m] ∧ Sm n z ∧ n ≤ 5000000 ∧ 0 < p ∧ 0 < m ∧ d = .int (mixM z p m)
def manyM (z : Int) (most : Nat) : Nat :=
  let many := 1 + (mixM z 9973 most).toNat
  if many < 4 ∧ 0 < z % 4 then most else many
def tieStep (z : Int) (many : Nat) (acc : List (Int × Int)) (k : Nat) : List (Int × Int) :=
  let one := mixM (z + 11 * (k : Int)) 9949 many
  let other := mixM (z + 13 * (k : Int) + 1) 9941 many
  if one ≠ other ∧ (min one other, max one other) ∉ acc then acc ++ [(min one other, max one other)] else acc
def foundM (z : Int) (many ties : Nat) : List (Int × Int) := (List.range (mixM z 9967 (ties + 1)).toNat).foldl (tieStep z many) []
def lexB (q r : Int × Int) : Bool := decide (q.1 < r.1 ∨ (q.1 = r.1 ∧ q.2 ≤ r.2))
def sortP (ps : List (Int × Int)) : List (Int × Int) := ps.mergeSort lexB
theorem sortP_perm (ps : List (Int × Int)) : (sortP ps).Perm ps := List.mergeSort_perm _ _
theorem sortP_sorted (ps : List (Int × Int)) : (sortP ps).Pairwise lexLe := by
  have := List.pairwise_mergeSort (le := lexB) (fun a b c h1 h2 => by
    simp only [lexB, decide_eq_true_eq] at h1 h2 ⊢
    omega) (fun a b => by
    simp only [lexB, Bool.or_eq_true, decide_eq_true_eq]
    omega) ps
  exact this.imp fun h => of_decide_eq_true h
def tiesM (z : Int) (most ties : Nat) : List (Int × Int) := sortP (foundM z (manyM z most) ties)
def wD (z : Int) (most ties : Nat) : PyData := webD (manyM z most) (tiesM z most ties)
theorem manyM_pos (z : Int) {most : Nat} (h : 0 < most) : 1 ≤ manyM z most ∧ manyM z most ≤ most := by
  unfold manyM
  have h1 := mixM_nn z (p := 9973) (m := most) (by omega)
  have h2 := mixM_lt z (p := 9973) (m := most) (by omega)
  dsimp only
  split <;> omega
structure TieOk (many : Nat) (t : Int × Int) : Prop where
  nn : 0 ≤ t.1
  lt : t.1 < t.2
  le : t.2 < many
theorem fold_inv {α β : Type} {f : β → α → β} (P : β → Prop) (h : ∀ b x, P b → P (f b x)) : ∀ (xs : List α) (b : β), P b → P (xs.foldl f b)
  | [], _, hb => hb
  | x :: xs, b, hb => fold_inv P h xs _ (h b x hb)
theorem tieStep_ok {z : Int} {many : Nat} (hm : 0 < many) (acc : List (Int × Int)) (k : Nat) (h : (∀ t ∈ acc, TieOk many t) ∧ acc.Nodup) : (∀ t ∈ tieStep z many acc k, TieOk many t) ∧ (tieStep z many acc k).Nodup := by
  unfold tieStep
  dsimp only
  have a1 := mixM_nn (z + 11 * (k : Int)) (p := 9949) (m := many) (by omega)
  have a2 := mixM_lt (z + 11 * (k : Int)) (p := 9949) (m := many) (by omega)
  have b1 := mixM_nn (z + 13 * (k : Int) + 1) (p := 9941) (m := many) (by omega)
  have b2 := mixM_lt (z + 13 * (k : Int) + 1) (p := 9941) (m := many) (by omega)
  generalize mixM (z + 11 * (k : Int)) 9949 many = o at *
  generalize mixM (z + 13 * (k : Int) + 1) 9941 many = p at *
  split
  · rename_i hc
    constructor
    · intro t ht
      rcases List.mem_append.mp ht with g | g
      · exact h.1 t g
      · rw [List.mem_singleton] at g
        subst g
        exact ⟨by dsimp only; omega, by dsimp only; omega, by dsimp only; omega⟩
    · exact List.nodup_append.mpr ⟨h.2, by simp, fun a ha b hb e => by rw [List.mem_singleton] at hb; subst hb; subst e; exact hc.2 ha⟩
  · exact h
theorem foundM_ok {z : Int} {many ties : Nat} (hm : 0 < many) : (∀ t ∈ foundM z many ties, TieOk many t) ∧ (foundM z many ties).Nodup := by
  unfold foundM
  exact fold_inv (fun acc => (∀ t ∈ acc, TieOk many t) ∧ acc.Nodup) (fun b x h => tieStep_ok hm b x h) _ [] ⟨by simp, List.nodup_nil⟩
theorem tieStep_len (z : Int) (many : Nat) (acc : List (Int × Int)) (k : Nat) : (tieStep z many acc k).length ≤ acc.length + 1 := by
  unfold tieStep
  dsimp only
  split <;> simp
theorem foundM_len (z : Int) (many ties : Nat) : (foundM z many ties).length ≤ ties := by
  have h := fold_len (tieStep_len z many) (List.range (mixM z 9967 (ties + 1)).toNat) []
  have h2 := mixM_lt z (p := 9967) (m := ties + 1) (by omega)
  have h3 := mixM_nn z (p := 9967) (m := ties + 1) (by omega)
  rw [List.length_range] at h
  simp only [List.length_nil] at h
  unfold foundM
  omega
/-- a web's ties are in order -/
structure WebOk (many : Nat) (ties : List (Int × Int)) : Prop where
  ok : ∀ t ∈ ties, TieOk many t
  nd : ties.Nodup
  srt : ties.Pairwise lexLe
theorem tiesM_ok (z : Int) {most : Nat} (ties : Nat) (h : 0 < most) : WebOk (manyM z most) (tiesM z most ties) ∧ (tiesM z most ties).length ≤ ties := by
  have hm := (manyM_pos z h).1
  obtain ⟨h1, h2⟩ := foundM_ok (z := z) (ties := ties) hm
  have hp := sortP_perm (foundM z (manyM z most) ties)
  refine ⟨⟨fun t ht => h1 t (hp.mem_iff.mp ht), hp.nodup_iff.mpr h2, sortP_sorted _⟩, ?_⟩
  have := foundM_len z (manyM z most) ties
  have e : (tiesM z most ties).length = _ := hp.length_eq
  omega
def rWeb (ds : List PyData) (d : PyData) : Prop := ∃ (n : Nat) (z : Int) (most ties : Nat), ds = [.int z, natD most, natD ties] ∧ Sm n z ∧ n ≤ 4000000 ∧ 0 < most ∧ most ≤ 60 ∧ ties ≤ 60 ∧ d = wD z most ties
/-! ### rows -/
def popJ (z : Int) (many : Nat) (k : Nat) : Nat := if k < many then (mixM (z + 5 * (k : Int)) 9931 ((many : Int) - k)).toNat else 0
def rowM (z : Int) (many : Nat) : List Int := popM (popJ z many) 0 many (upto many)
theorem get_erase_perm {α : Type} : ∀ (l : List α) (k : Nat) (h : k < l.length), (l[k] :: l.eraseIdx k).Perm l
  | x :: l, 0, _ => List.Perm.refl _
  | x :: l, k + 1, h => by
    have := get_erase_perm l k (by simpa using h)
    exact (List.Perm.swap _ _ _).trans (this.cons x)
theorem popM_perm (j : Nat → Nat) : ∀ (f i : Nat) (l : List Int), l.length = f → PopOk j i f l → (popM j i f l).Perm l
  | 0, i, l, hl, _ => by
    have : l = [] := List.eq_nil_of_length_eq_zero hl
    subst this
    exact List.Perm.refl _
  | f + 1, i, l, hl, h => by
    have h1 := popM_perm j f (i + 1) (l.eraseIdx (j i)) (by rw [List.length_eraseIdx_of_lt h.1]; omega) h.2
    unfold popM
    refine (h1.cons _).trans ?_
    rw [List.getD_eq_getElem?_getD, List.getElem?_eq_getElem h.1]
    exact get_erase_perm _ _ h.1
theorem popOk_all (z : Int) (many : Nat) : ∀ (f i : Nat) (l : List Int), l.length = f → i + f = many → PopOk (popJ z many) i f l
  | 0, _, _, _, _ => True.intro
  | f + 1, i, l, hl, hf => by
    have hj : popJ z many i < l.length := by
      unfold popJ
      rw [if_pos (by omega)]
      have h1 := mixM_nn (z + 5 * (i : Int)) (p := 9931) (m := (many : Int) - i) (by omega)
      have h2 := mixM_lt (z + 5 * (i : Int)) (p := 9931) (m := (many : Int) - i) (by omega)
      omega
    exact ⟨hj, popOk_all z many f (i + 1) _ (by rw [List.length_eraseIdx_of_lt hj]; omega) (by omega)⟩
theorem upto_len (n : Nat) : (upto (n : Int)).length = n := by unfold upto; simp
theorem rowM_perm (z : Int) (many : Nat) : (rowM z many).Perm (upto many) := popM_perm _ _ _ _ (upto_len many) (popOk_all z many _ _ _ (upto_len many) (by omega))
theorem mem_upto {n : Nat} {x : Int} : x ∈ upto (n : Int) ↔ 0 ≤ x ∧ x < n := by
  unfold upto
  simp
  constructor
  · rintro ⟨a, h, rfl⟩; omega
  · rintro ⟨h1, h2⟩; exact ⟨x.toNat, by omega, by omega⟩
theorem rowM_mem (z : Int) (many : Nat) {x : Int} : x ∈ rowM z many ↔ 0 ≤ x ∧ x < many := (rowM_perm z many).mem_iff.trans mem_upto
def rRow (ds : List PyData) (d : PyData) : Prop := ∃ (n : Nat) (z : Int) (many : Nat), ds = [.int z, natD many] ∧ Sm n z ∧ n ≤ 4000000 ∧ many ≤ 60 ∧ d = rowD (rowM z many)
/-! ### the law's own telling -/
def lawHow (a b c d : Int) : Lie :=
  if a ∈ [c, d] ∨ b ∈ [c, d] then .meet
  else if (([c, d].filter fun x => decide (min a b < x) && decide (x < max a b)).length = 1) then .cross
  else if (([c, d].filter fun x => decide (min a b < x) && decide (x < max a b)).length = 2) ∨ (min c d < min a b ∧ min a b < max c d) then .within
  else .apart
theorem between_len (a b c d : Int) : ([c, d].filter fun x => decide (min a b < x) && decide (x < max a b)).length = (if min a b < c ∧ c < max a b then 1 else 0) + (if min a b < d ∧ d < max a b then 1 else 0) := by
  rw [List.filter_cons, List.filter_cons, List.filter_nil]
  by_cases h1 : min a b < c ∧ c < max a b <;> by_cases h2 : min a b < d ∧ d < max a b
  · rw [if_pos h1, if_pos h2, if_pos (by simp [h1]), if_pos (by simp [h2])]; rfl
  · rw [if_pos h1, if_neg h2, if_pos (by simp [h1]), if_neg (by simpa using h2)]; rfl
  · rw [if_neg h1, if_pos h2, if_neg (by simpa using h1), if_pos (by simp [h2])]; rfl
  · rw [if_neg h1, if_neg h2, if_neg (by simpa using h1), if_neg (by simpa using h2)]; rfl
def ordP (a b : Int) : Int × Int := if a ≤ b then (a, b) else (b, a)
theorem lawHow_eq {a b c d : Int} (h1 : a ≠ b) (h2 : c ≠ d) : lawHow a b c d = howM (ordP a b) (ordP c d) := by
  have e1 : (ordP a b).1 = min a b ∧ (ordP a b).2 = max a b := by unfold ordP; split <;> simp <;> omega
  have e2 : (ordP c d).1 = min c d ∧ (ordP c d).2 = max c d := by unfold ordP; split <;> simp <;> omega
  have bl := between_len a b c d
  by_cases m : a = c ∨ a = d ∨ b = c ∨ b = d
  · have l : lawHow a b c d = .meet := if_pos (by simp; omega)
    have r : howM (ordP a b) (ordP c d) = .meet := if_pos (by rw [e1.1, e1.2, e2.1, e2.2]; omega)
    rw [l, r]
  · have l0 : ¬ (a ∈ [c, d] ∨ b ∈ [c, d]) := by simp; omega
    have r0 : ¬ (((ordP a b).1 = (ordP c d).1 ∨ (ordP a b).1 = (ordP c d).2) ∨ ((ordP a b).2 = (ordP c d).1 ∨ (ordP a b).2 = (ordP c d).2)) := by rw [e1.1, e1.2, e2.1, e2.2]; omega
    by_cases q1 : min a b < c ∧ c < max a b <;> by_cases q2 : min a b < d ∧ d < max a b
    · rw [if_pos q1, if_pos q2] at bl
      have l : lawHow a b c d = .within := (if_neg l0).trans ((if_neg (by omega)).trans (if_pos (by omega)))
      have r : howM (ordP a b) (ordP c d) = .within := (if_neg r0).trans ((if_neg (by rw [e1.1, e1.2, e2.1, e2.2]; omega)).trans (if_pos (by rw [e1.1, e1.2, e2.1, e2.2]; omega)))
      rw [l, r]
    · rw [if_pos q1, if_neg q2] at bl
      have l : lawHow a b c d = .cross := (if_neg l0).trans (if_pos (by omega))
      have r : howM (ordP a b) (ordP c d) = .cross := (if_neg r0).trans (if_pos (by rw [e1.1, e1.2, e2.1, e2.2]; omega))
      rw [l, r]
    · rw [if_neg q1, if_pos q2] at bl
      have l : lawHow a b c d = .cross := (if_neg l0).trans (if_pos (by omega))
      have r : howM (ordP a b) (ordP c d) = .cross := (if_neg r0).trans (if_pos (by rw [e1.1, e1.2, e2.1, e2.2]; omega))
      rw [l, r]
    · rw [if_neg q1, if_neg q2] at bl
      have l1 : lawHow a b c d = if min c d < min a b ∧ min a b < max c d then .within else .apart := (if_neg l0).trans ((if_neg (by omega)).trans (if_cg (by omega) rfl rfl))
      have r1 : howM (ordP a b) (ordP c d) = if min c d < min a b ∧ min a b < max c d then .within else .apart := (if_neg r0).trans ((if_neg (by rw [e1.1, e1.2, e2.1, e2.2]; omega)).trans (if_cg (by rw [e1.1, e1.2, e2.1, e2.2]; omega) rfl rfl))
      rw [l1, r1]
theorem spots_ord (r : List Int) (t : Int × Int) : spotsM r t = ordP (ix r t.1) (ix r t.2) := rfl
def rLHow (ds : List PyData) (d : PyData) : Prop := ∃ (m : Nat) (ties : List (Int × Int)) (r : List Int) (i j : Nat) (t u : Int × Int), ds = [webD m ties, rowD r, natD i, natD j] ∧ ties[i]? = some t ∧ ties[j]? = some u ∧ (t.1 ∈ r ∧ t.2 ∈ r ∧ t.1 ≠ t.2) ∧ (u.1 ∈ r ∧ u.2 ∈ r ∧ u.1 ≠ u.2) ∧ d = .str (Lr r t u).t
theorem mem2 {r : List Int} {p q x : Int} (hx : x ∈ [p, q]) (hp : p ∈ r) (hq : q ∈ r) : x ∈ r := by
  simp at hx
  rcases hx with rfl | rfl
  · exact hp
  · exact hq
theorem minmax2 (a b : Int) : (min a b ∈ [a, b] ∧ ∀ y ∈ [a, b], min a b ≤ y) ∧ (max a b ∈ [a, b] ∧ ∀ y ∈ [a, b], y ≤ max a b) := by
  simp
  omega
end DL

set_option Elab.async false
set_option linter.all false
set_option maxRecDepth 100000
namespace DL
open PySem PySem.Spec L2
set_option autoImplicit false
theorem sw_cell {elt : Expr} {gs : List Comprehension} {scope : Scope} {pos py : Pos} {y : PySem.Str} {l : Nat} {env : Env} (hy : env.scope.names.lookup y = some .cell) : swapsWith (.ListComp elt gs scope pos) (some (.Name y py)) l env = pure false := by
  have ky : env.kindOf y = some .cell := hy
  unfold swapsWith
  simp only [ky]
  have : ((some NameKind.cell : Option NameKind) == some .local) = false := by decide
  simp [this]
section
variable {G : Ct} {δ : DEnv} {ω : Own} {d : PyData} {pos p cpos : Pos} {elt : Expr} {gs : List Comprehension} {scope : Scope}
/-- x = [..] where x is read in an inner block -/
theorem ds_setc (i : Nat) {n : PySem.Str} (hN : G.N[i]? = some n) (hl : locB G n = true) (hc : G.sc.names.lookup n = some .cell) (h : DV G δ (.ListComp elt gs scope cpos) d) (hi : ∀ q ∈ ω, q.1 ≠ i := by simp) :
    DS G δ ω (.Assign [.Name n p] (.ListComp elt gs scope cpos) pos) (.next (δ.set i (some d)) ω) := fun X hX =>
  PS.imp (ps_set hX.nd (by rw [hX.N]; exact hN) (by rw [hX.sc]; exact loc_of hl) (h X hX) (sw_cell (by rw [hX.sc]; exact hc)) (loc_fn hX hl)) fun D σ H ⟨S, H0, δ', ω', o', ⟨e1, e2, e3⟩, hS, r, q⟩ => by
    subst e1 e2 e3
    obtain ⟨as, B⟩ := r.bs hS
    exact ⟨_, _, _, ⟨rfl, rfl⟩, B.ok, B.rel, fun v H' s rv => q _ _ (B.store H' i v d s rv hi)⟩
end
/-! ### what the tests of the law's telling say -/
theorem meet_of {a b c d : Int} (h : (!((([a, b].filter fun x => decide (x ∈ [c, d])).map PyData.int).isEmpty)) = true) : a ∈ [c, d] ∨ b ∈ [c, d] := by
  by_cases h1 : a ∈ [c, d]
  · exact .inl h1
  · by_cases h2 : b ∈ [c, d]
    · exact .inr h2
    · rw [List.filter_cons, List.filter_cons, decide_eq_false h1, decide_eq_false h2] at h
      cases h
theorem meet_not {a b c d : Int} (h : (!((([a, b].filter fun x => decide (x ∈ [c, d])).map PyData.int).isEmpty)) = false) : ¬(a ∈ [c, d] ∨ b ∈ [c, d]) := by
  intro w
  have : ([a, b].filter fun x => decide (x ∈ [c, d])) ≠ [] := by
    rcases w with w | w
    · exact List.ne_nil_of_mem (a := a) (List.mem_filter.mpr ⟨by simp, decide_eq_true w⟩)
    · exact List.ne_nil_of_mem (a := b) (List.mem_filter.mpr ⟨by simp, decide_eq_true w⟩)
  cases e : ([a, b].filter fun x => decide (x ∈ [c, d])) with
  | nil => exact this e
  | cons x l => rw [e] at h; cases h
theorem len_of {α : Type} {l : List α} {f : α → PyData} {n : Nat} (h : PyData.eqv (natD (l.map f).length) (.int (n : Int)) = true) : l.length = n := by
  unfold natD at h
  rw [eqv_int, List.length_map] at h
  have := of_decide_eq_true h
  omega
theorem len_not {α : Type} {l : List α} {f : α → PyData} {n : Nat} (h : PyData.eqv (natD (l.map f).length) (.int (n : Int)) = false) : ¬ l.length = n := by
  unfold natD at h
  rw [eqv_int, List.length_map] at h
  have := of_decide_eq_false h
  omega
end DL

set_option Elab.async false
set_option linter.all false
set_option maxRecDepth 100000
set_option maxHeartbeats 1000000
namespace DL
open PySem PySem.Spec L2
set_option autoImplicit false
/-! ### sorted(xs), xs pairs of whole numbers, any length -/
def kH (H : Hp) : V → Int × Int
  | .ref t => match H t with
    | some (.frz _ (.tup [.int i, .int j])) => (i, j)
    | _ => (0, 0)
  | _ => (0, 0)
theorem kH_at {H : Hp} {t : Addr} {o : Obj} {i j : Int} (h : H t = some (.frz o (.tup [.int i, .int j]))) : kH H (.ref t) = (i, j) := by
  unfold kH
  dsimp only
  rw [h]
def rSortedPF (K : PySem.W.Frag) : List V → Hp → VK → Prop := fun vs H Q => ∃ (a : Addr) (xs : List V) (k : V → Int × Int), vs = [V.ref a] ∧ SqL K H a xs ∧ (∀ x ∈ xs, ∃ t o, x = V.ref t ∧ H t = some (.frz o (.tup [.int (k x).1, .int (k x).2]))) ∧
  ∀ ys p, SrtO.Srtd (ltP k) ys → SrtO.Stb (ltP k) ys xs → H p = none → Q (.ref p) (upd H p (.lst ys))
theorem cr_sortedPF {X : Cx} : CallR X (.builtin "sorted") (rSortedPF X.K) := by
  intro pins s σ H vs us Q I r h
  obtain ⟨a, xs, k, rfl, hs, hx, q⟩ := h
  obtain ⟨its, rv, hl, hz⟩ := I.list hs
  obtain ⟨u, rfl, ru⟩ := vals1 r
  obtain rfl : u = Value.ref a := ru
  obtain ⟨e1, e2⟩ := refs_back rv fun x m => by
    obtain ⟨t, _, e, _⟩ := hx x m
    exact ⟨t, e⟩
  refine SrtO.sorted_pairsO (k := fun u => k (backV u)) hl.isList (by rw [← rv.length]; exact hz) (fun v hv => ?_) fun h' d out h1 h2 kp hd hn => ?_
  · obtain ⟨t, rfl⟩ := e2 v hv
    have hm : V.ref t ∈ xs := by rw [e1]; exact List.mem_map.mpr ⟨_, hv, rfl⟩
    obtain ⟨t', oo, e, ht⟩ := hx _ hm
    cases e
    obtain ⟨_, _, its2, r2, o, ho, hc, n, hd⟩ := I.hok _ _ ht
    obtain ⟨u1, u2, rfl, ri, rj⟩ := vals2 r2
    obtain ⟨t1, rfl⟩ := ri
    obtain ⟨t2, rfl⟩ := rj
    exact ⟨t, o, t1, t2, n, rfl, ho, hc, hd⟩
  · have h3 : ∀ u ∈ out, ∃ a, u = Value.ref a := fun u hu => e2 u (h2.perm.mem_iff.mp hu)
    obtain ⟨n, hn⟩ := hn
    have hb : SrtO.Stb (ltP k) (out.map backV) xs := by
      rw [e1]
      exact SrtO.Stb.map (ltP_swo k) backV h2
    refine ⟨.ref d, upd H d (.lst (out.map backV)), I.laid (t' := s.toks) kp hd ⟨?_, out, n, vals_back h3, hn⟩, rfl, q _ d (SrtO.srtd_map h1) hb (I.hok.fresh hd)⟩
    rw [hb.len]
    exact hz
section
variable {G : Ct} {δ : DEnv} {a : Expr} {pos p : Pos}
theorem dn_sortedQ {ps qs : List (Int × Int)} (B : Blt G.m) (hg : globB G.sc "sorted" = true) (ha : DV G δ a (.list (ps.map pairD))) (hp : qs.Perm ps) (hs' : qs.Pairwise lexLe)
    (hs : ∀ env : Env, starEach [a] env = (false, eval a env) :: starEach [] env := by intro _; rfl) : DN G δ (.Call (.Name "sorted" p) [a] [] pos) (qs.map pairD) := by
  refine dn_cb (r := rSortedPF G.m.K) (fun X hX => hX.K ▸ cr_sortedPF) hg B.sorted PyProof.Rows.boot_sorted (da_cons ha da_nil hs) (fun S H vs Q ok r q => ?_) (by decide) (by decide) hs
  cases r with
  | cons r1 r2 =>
    cases r2
    cases r1 with
    | lst e1 z1 a1 =>
      obtain ⟨l, ex, ep, hl⟩ := pairs_of a1
      have hk : ∀ z ∈ l, ∃ t o, z.1 = V.ref t ∧ H t = some (.frz o (.tup [.int z.2.1, .int z.2.2])) ∧ kH H z.1 = z.2 := fun z hz => by
        obtain ⟨t, o, e2, e3⟩ := (hl z hz).pair
        refine ⟨t, o, e2, (hide_some e3).2, ?_⟩
        rw [e2]
        exact kH_at (hide_some e3).2
      refine ⟨_, _, kH H, rfl, SqL.of (hide_some e1).2, fun x hx => ?_, fun ys t h1 h2 h3 => ?_⟩
      · rw [ex] at hx
        obtain ⟨z, hz, e2⟩ := List.mem_map.mp hx
        subst e2
        obtain ⟨t, o, f1, f2, f3⟩ := hk z hz
        exact ⟨t, o, f1, by rw [f3]; exact f2⟩
      · obtain ⟨l', pl, el⟩ := perm_map_inv h2.perm l ex
        have hl' : ∀ z ∈ l', Rp G.m.K (hide S H) z.1 (pairD z.2) := fun z hz => hl z (pl.mem_iff.mp hz)
        have srt : (l'.map (·.2)).Pairwise lexLe := by
          rw [List.pairwise_map]
          rw [el] at h1
          have h1' : (l'.map (·.1)).Pairwise (fun x y => ltP (kH H) y x = false) := h1
          rw [List.pairwise_map] at h1'
          refine List.Pairwise.imp_of_mem (fun {u v} hu hv huv => ?_) h1'
          obtain ⟨_, _, _, _, k1⟩ := hk u (pl.mem_iff.mp hu)
          obtain ⟨_, _, _, _, k2⟩ := hk v (pl.mem_iff.mp hv)
          have huv' : SrtO.lexB (kH H v.1) (kH H u.1) = false := huv
          rw [k1, k2, SrtO.lexB_no] at huv'
          unfold lexLe
          omega
        have eq : l'.map (·.2) = qs := by
          refine List.Perm.eq_of_pairwise (le := lexLe) (fun _ _ _ _ h1 h2 => lexLe_antisymm h1 h2) srt hs' ?_
          exact ((pl.map (·.2)).trans (by rw [ep])).trans hp.symm
        have ra : ∀ m : List (V × (Int × Int)), (∀ z ∈ m, Rp G.m.K (hide S H) z.1 (pairD z.2)) → RpAll G.m.K (hide S H) (m.map (·.1)) ((m.map (·.2)).map pairD) := by
          intro m
          induction m with
          | nil => intro _; exact .nil
          | cons z m ih => intro h; exact .cons (h z List.mem_cons_self) (ih fun w hw => h w (List.mem_cons_of_mem _ hw))
        have := ra l' hl'
        rw [eq, ← el] at this
        have zz : ys.length ≤ sizeLine := by rw [h2.perm.length_eq]; exact z1
        exact q ys t h3 zz this
end
end DL

set_option Elab.async false
set_option linter.all false
set_option maxRecDepth 100000
namespace DL
open PySem PySem.Spec L2
set_option autoImplicit false
theorem DSs.convo {G : Ct} {δ δ1 : DEnv} {ω ω1 ω2 : Own} {sts : List Stmt} (h : DSs G δ ω sts (.next δ1 ω1)) (q : ω1 = ω2) : DSs G δ ω sts (.next δ1 ω2) := q ▸ h
/-! ### the ties that clash, in order -/
theorem foldl_app {α β : Type} (h : α → List β) : ∀ (xs : List α) (acc : List β), xs.foldl (fun acc x => acc ++ h x) acc = acc ++ xs.flatMap h
  | [], acc => by simp
  | x :: xs, acc => by rw [List.foldl_cons, foldl_app h xs, List.flatMap_cons, List.append_assoc]
theorem foldl_filt {α β : Type} (p : α → Bool) (g : α → β) : ∀ (xs : List α) (acc : List β), xs.foldl (fun acc x => if p x then acc ++ [g x] else acc) acc = acc ++ (xs.filter p).map g
  | [], acc => by simp
  | x :: xs, acc => by
    rw [List.foldl_cons, foldl_filt p g xs, List.filter_cons]
    split
    · rw [List.map_cons, List.append_assoc]; rfl
    · rfl
section
variable {ties : List (Int × Int)} {r : List Int} {k : Kd}
def rowC (ties : List (Int × Int)) (r : List Int) (k : Kd) (i : Nat) : List (Nat × Nat) := (((List.range (ties.length - (i + 1))).map (i + 1 + ·)).filter (clashAt ties r k i)).map fun j => (i, j)
def colC (ties : List (Int × Int)) (r : List Int) (k : Kd) (j : Nat) : List (Nat × Nat) := ((List.range j).filter fun i => clashAt ties r k i j).map fun i => (i, j)
def lclash (ties : List (Int × Int)) (r : List Int) (k : Kd) : List (Nat × Nat) := (List.range ties.length).flatMap (colC ties r k)
theorem clashesM_eq : clashesM ties r k = (List.range ties.length).flatMap (rowC ties r k) := by
  unfold clashesM
  have : inClash ties r k = fun acc i => acc ++ rowC ties r k i := by
    funext acc i
    exact foldl_filt (clashAt ties r k i) (fun j => (i, j)) _ acc
  rw [this, foldl_app, List.nil_append]
theorem mem_rowC {i : Nat} {p : Nat × Nat} : p ∈ rowC ties r k i ↔ p.1 = i ∧ i < p.2 ∧ p.2 < ties.length ∧ clashAt ties r k p.1 p.2 = true := by
  unfold rowC
  rw [List.mem_map]
  constructor
  · rintro ⟨j, hj, rfl⟩
    obtain ⟨h1, h2⟩ := List.mem_filter.mp hj
    obtain ⟨x, hx, rfl⟩ := List.mem_map.mp h1
    rw [List.mem_range] at hx
    exact ⟨rfl, by show i < i + 1 + x; omega, by show i + 1 + x < _; omega, h2⟩
  · rintro ⟨rfl, h1, h2, h3⟩
    refine ⟨p.2, List.mem_filter.mpr ⟨List.mem_map.mpr ⟨p.2 - (p.1 + 1), by rw [List.mem_range]; omega, by omega⟩, h3⟩, rfl⟩
theorem mem_clashesM {p : Nat × Nat} : p ∈ clashesM ties r k ↔ p.1 < p.2 ∧ p.2 < ties.length ∧ clashAt ties r k p.1 p.2 = true := by
  rw [clashesM_eq, List.mem_flatMap]
  constructor
  · rintro ⟨i, _, h⟩
    obtain ⟨rfl, h1, h2, h3⟩ := mem_rowC.mp h
    exact ⟨h1, h2, h3⟩
  · rintro ⟨h1, h2, h3⟩
    exact ⟨p.1, by rw [List.mem_range]; omega, mem_rowC.mpr ⟨rfl, h1, h2, h3⟩⟩
theorem mem_colC {j : Nat} {p : Nat × Nat} : p ∈ colC ties r k j ↔ p.2 = j ∧ p.1 < j ∧ clashAt ties r k p.1 p.2 = true := by
  unfold colC
  rw [List.mem_map]
  constructor
  · rintro ⟨i, hi, rfl⟩
    obtain ⟨h1, h2⟩ := List.mem_filter.mp hi
    exact ⟨rfl, List.mem_range.mp h1, h2⟩
  · rintro ⟨rfl, h1, h2⟩
    exact ⟨p.1, List.mem_filter.mpr ⟨List.mem_range.mpr h1, h2⟩, rfl⟩
theorem mem_lclash {p : Nat × Nat} : p ∈ lclash ties r k ↔ p.1 < p.2 ∧ p.2 < ties.length ∧ clashAt ties r k p.1 p.2 = true := by
  unfold lclash
  rw [List.mem_flatMap]
  constructor
  · rintro ⟨i, hi, h⟩
    obtain ⟨rfl, h1, h2⟩ := mem_colC.mp h
    exact ⟨h1, List.mem_range.mp hi, h2⟩
  · rintro ⟨h1, h2, h3⟩
    exact ⟨p.2, List.mem_range.mpr h2, mem_colC.mpr ⟨rfl, h1, h3⟩⟩
theorem clashesM_srt : (clashesM ties r k).Pairwise fun p q => p.1 < q.1 ∨ (p.1 = q.1 ∧ p.2 < q.2) := by
  rw [clashesM_eq, List.pairwise_flatMap]
  refine ⟨fun i _ => ?_, ?_⟩
  · unfold rowC
    rw [List.pairwise_map]
    refine List.Pairwise.filter _ ?_
    rw [List.pairwise_map]
    exact List.pairwise_lt_range.imp fun h => .inr ⟨rfl, by dsimp only; omega⟩
  · refine List.pairwise_lt_range.imp fun {a b} h x hx y hy => .inl ?_
    rw [(mem_rowC.mp hx).1, (mem_rowC.mp hy).1]
    exact h
theorem lclash_srt : (lclash ties r k).Pairwise fun p q => p.2 < q.2 ∨ (p.2 = q.2 ∧ p.1 < q.1) := by
  unfold lclash
  rw [List.pairwise_flatMap]
  refine ⟨fun i _ => ?_, ?_⟩
  · unfold colC
    rw [List.pairwise_map]
    exact List.Pairwise.filter _ (List.pairwise_lt_range.imp fun h => .inr ⟨rfl, h⟩)
  · refine List.pairwise_lt_range.imp fun {a b} h x hx y hy => .inl ?_
    rw [(mem_colC.mp hx).1, (mem_colC.mp hy).1]
    exact h
theorem clash_perm : (clashesM ties r k).Perm (lclash ties r k) := by
  refine (List.perm_ext_iff_of_nodup ?_ ?_).mpr fun p => mem_clashesM.trans mem_lclash.symm
  · exact clashesM_srt.imp fun h e => by subst e; omega
  · exact lclash_srt.imp fun h e => by subst e; omega
def npC (p : Nat × Nat) : Int × Int := ((p.1 : Nat), (p.2 : Nat))
theorem npD_eq (ps : List (Nat × Nat)) : ps.map npD = (ps.map npC).map pairD := by rw [List.map_map]; rfl
theorem clash_perm' : ((clashesM ties r k).map npC).Perm ((lclash ties r k).map npC) := clash_perm.map _
theorem clash_srt' : ((clashesM ties r k).map npC).Pairwise lexLe := by
  rw [List.pairwise_map]
  exact clashesM_srt.imp fun h => by unfold lexLe npC; dsimp only; omega
theorem colC_len (j : Nat) : (colC ties r k j).length ≤ j := by
  unfold colC
  rw [List.length_map]
  have := List.length_filter_le (fun i => clashAt ties r k i j) (List.range j)
  rw [List.length_range] at this
  exact this
end
def rLClashes (ds : List PyData) (d : PyData) : Prop := ∃ (m : Nat) (ties : List (Int × Int)) (r : List Int) (k : Kd), ds = [webD m ties, rowD r, .str k.t] ∧ (∀ t ∈ ties, t.1 ∈ r ∧ t.2 ∈ r ∧ t.1 ≠ t.2) ∧ ties.length ≤ 60 ∧ d = .list ((clashesM ties r k).map npD)
def rLaw (ds : List PyData) (d : PyData) : Prop := ∃ (n : Nat) (ns : List Int), ds = [scrD ns] ∧ ns.length ≤ 63 ∧ n ≤ 2000000 ∧ (∀ z ∈ ns, Sm n z) ∧ d = .bool true
theorem mem_cut {α : Type} {xs : List α} {lo hi : Option Int} {x : α} (h : x ∈ cutD xs lo hi) : x ∈ xs := List.mem_of_mem_drop (List.mem_of_mem_take h)
theorem nc_np (p : Nat × Nat) : Nc 1 (npD p) := nc_pair (npC p)
theorem nc_nps (ps : List (Nat × Nat)) : ∀ x ∈ ps.map npD, Nc 1 x := fun x hx => by
  obtain ⟨i, _, rfl⟩ := List.mem_map.mp hx
  exact nc_np i
/-- a web and a row of it -/
structure WR (many : Nat) (ties : List (Int × Int)) (row : List Int) : Prop where
  ok : WebOk many ties
  row : row.Perm (upto many)
theorem WR.mem {many : Nat} {ties : List (Int × Int)} {row : List Int} (h : WR many ties row) {t : Int × Int} (ht : t ∈ ties) : t.1 ∈ row ∧ t.2 ∈ row ∧ t.1 ≠ t.2 := by
  have o := h.ok.ok t ht
  have := o.nn
  have := o.lt
  have := o.le
  exact ⟨h.row.mem_iff.mpr (mem_upto.mpr ⟨by omega, by omega⟩), h.row.mem_iff.mpr (mem_upto.mpr ⟨by omega, by omega⟩), by omega⟩
theorem tie_at {ties : List (Int × Int)} {i : Nat} (h : i < ties.length) : ties[i]? = some (ties.getD i (0, 0)) := by rw [List.getD_eq_getElem?_getD, List.getElem?_eq_getElem h]; rfl
theorem WR.at' {many : Nat} {ties : List (Int × Int)} {row : List Int} (h : WR many ties row) {i : Nat} (hi : i < ties.length) : (ties.getD i (0, 0)).1 ∈ row ∧ (ties.getD i (0, 0)).2 ∈ row ∧ (ties.getD i (0, 0)).1 ≠ (ties.getD i (0, 0)).2 := h.mem (List.mem_of_getElem? (tie_at hi))
theorem wr_of (z y : Int) {most : Nat} (ties : Nat) (h : 0 < most) : WR (manyM z most) (tiesM z most ties) (rowM y (manyM z most)) := ⟨(tiesM_ok z ties h).1, rowM_perm y _⟩
theorem sm_ok {z : Int} {k : Nat} (h : Builtin.Int.intBits z ≤ k) : Sm (k + 1) z := by
  unfold Sm
  unfold Builtin.Int.intBits at h
  by_cases e : z.natAbs = 0
  · rw [e]; exact Nat.two_pow_pos _
  · refine (Nat.log2_lt e).mp ?_
    have e2 : z ≠ 0 := by omega
    simp [e2] at h
    omega
theorem kd_sh (k : Kd) : SeqAt.shaped (.str k.t) = true := by cases k <;> decide +kernel
end DL

set_option Elab.async false
set_option linter.all false
set_option maxRecDepth 100000
namespace DL
open PySem PySem.Spec L2
set_option autoImplicit false
/-! ### xs * k, xs a tuple -/
def rRepTF (K : PySem.W.Frag) : R2 := fun x y H Q => ∃ l k xs, x = .ref l ∧ y = .int k ∧ SqT K H l xs ∧ xs ≠ [] ∧ 2 ≤ k ∧ k ≤ 1000 ∧ xs.length ≤ 1000 ∧ NewT H (List.replicate k.toNat xs).flatten Q
theorem rep_len {α : Type} {xs : List α} {k : Int} (h1 : k ≤ 1000) (h2 : xs.length ≤ 1000) : (List.replicate k.toNat xs).flatten.length ≤ 1000000 := by
  rw [PyProof.Rows.lm_len_rep_flat]
  exact Nat.mul_le_mul (show k.toNat ≤ 1000 by omega) h2
theorem op_repTF {X : Cx} : OpR X (binaryOp .Mult) (rRepTF X.K) := fun pins s σ H x y v u Q I rx ry ⟨l, k, xs, ex, ey, hT, hne, h1, h2, hz, q⟩ => by
  subst ex ey
  cases rx
  obtain ⟨t, rfl⟩ := ry
  obtain ⟨its, r, ⟨⟨cls, dd, data, sl⟩, ho, hc, n, hd⟩, hs⟩ := I.tuple hT
  dsimp only at hc hd
  subst hc hd
  have len : its.length = xs.length := r.length.symm
  have pos : 0 < xs.length := List.length_pos_iff.mpr hne
  have emp : its.toArray.isEmpty = false := by
    cases its with
    | nil => rw [← len] at pos; exact absurd pos (by simp)
    | cons _ _ => rfl
  have sz : ((its.toArray.size : Nat) : Int) * k ≤ 1000000 := by
    have e : its.toArray.size = xs.length := by rw [List.size_toArray, len]
    have := Int.mul_le_mul (show ((its.toArray.size : Nat) : Int) ≤ 1000 by omega) h2 (by omega) (by omega)
    omega
  have fl : (List.replicate k.toNat its).flatten.length ≤ sizeLine := by
    have := rep_len (xs := its) (k := k) h2 (by omega)
    rw [sizeLine_eq]; omega
  have fx : (List.replicate k.toNat xs).flatten.length ≤ sizeLine := by
    have := rep_len (xs := xs) (k := k) h2 hz
    rw [sizeLine_eq]; omega
  have many : Builtin.Tuple.tupleTooMany (((its.toArray.size : Nat) : Int) * k) = false := decide_eq_false (by rw [sizeLine_eq]; omega)
  have mulW := tuple_mulW l its.toArray n dd sl k t (by rw [decide_eq_false (by omega), decide_eq_false (by omega)]; rfl) (by rw [emp, Bool.false_or]; exact beq_eq_false_iff_ne.mpr (by omega)) (by rw [emp, Bool.or_false]; exact decide_eq_false (by omega)) (by omega) many (by rw [size_rep, List.size_toArray]; exact fl)
  refine wpAny_binaryOp_repeat_ref (T := "tuple") (U := "int") (by decide) ⟨_, ho, rfl⟩ (fun s' => typeIs_int s' k t) noFill_tuple_mul F.fills_int_mul F.slot_int_rmul repeat_tuple F.slot_int_index.lookup ?_
  refine call_meets F.slot_int_rmul (typeIs_int s k t) F.entry_int_rmul (F.args_int_rmul_2 _ _) (int_rmul_tuple k t l its.toArray n dd sl) ⟨ho, rfl, ⟨_, ho, rfl⟩, ?_⟩
  refine call_meets F.slot_tuple_mul ⟨_, ho, rfl⟩ F.entry_tuple_mul (F.args_tuple_mul_2 _ _) mulW ⟨ho, ?_⟩
  rw [size_rep]
  exact newT (t' := s.toks) I (r.rep k.toNat) fx q
theorem RpAll.rep {K : PySem.W.Frag} {H : Hp} {vs : List V} {ds : List PyData} (r : RpAll K H vs ds) : ∀ n : Nat, RpAll K H (List.replicate n vs).flatten (List.replicate n ds).flatten
  | 0 => .nil
  | n + 1 => by
    rw [List.replicate_succ, List.replicate_succ, List.flatten_cons, List.flatten_cons]
    exact r.app (RpAll.rep r n)
section
variable {G : Ct} {δ : DEnv} {a b : Expr} {pos : Pos} {ds : List PyData}
theorem dv_rept {k : Int} (ha : DV G δ a (.tuple ds)) (hb : DV G δ b (.int k)) (hne : ds ≠ []) (h1 : 2 ≤ k) (h2 : k ≤ 1000) (hz : ds.length ≤ 1000) : DV G δ (.BinOp a .Mult b pos) (.tuple (List.replicate k.toNat ds).flatten) := by
  refine dv_op (r := rRepTF G.m.K) (fun X hX => hX.K ▸ op_repTF) ha hb fun S H v w Q ok r1 r2 q => ?_
  cases r2
  cases r1 with
  | tup e1 k1 z1 a1 =>
    have hl := a1.len
    refine ⟨_, k, _, rfl, rfl, SqT.frz (hide_some e1).2, fun e => hne ?_, h1, h2, by omega, ?_⟩
    · rw [e] at hl
      exact List.eq_nil_of_length_eq_zero hl.symm
    · refine Rp.newT ok ?_ (a1.rep _) (Same.refl H) q
      have := rep_len (xs := ‹List V›) (k := k) h2 (by omega)
      rw [sizeLine_eq]; omega
end
/-! ### the defs that tell a web, a row -/
def isNumD : PyData → Int → Int → Bool
  | .int i, lo, hi => decide (lo ≤ i) && decide (i ≤ hi)
  | _, _, _ => false
def isTieD : PyData → Int → Bool
  | .tuple [.int i, y], m => isNumD (.int i) 0 (m - 1) && isNumD y (i + 1) (m - 1)
  | _, _ => false
def toPair : PyData → Int × Int
  | .tuple [.int i, .int j] => (i, j)
  | _ => (0, 0)
def toInt : PyData → Int
  | .int i => i
  | _ => 0
def risB {α : Type} (lt : α → α → Bool) (d : α) (xs : List α) : Bool := ((List.range (xs.length - 1)).map (1 + ·)).all fun k => lt (xs.getD (k - 1) d) (xs.getD k d)
def ltI (i j : Int) : Bool := decide (i < j)
def ltP2 (p q : Int × Int) : Bool := HT.lexLt [p.1, p.2] [q.1, q.2]
def isWebD : PyData → Bool
  | .tuple [.int m, .tuple ts] => isNumD (.int m) 1 6 && decide (ts.length ≤ 12) && ts.all (isTieD · m) && risB ltP2 (0, 0) (ts.map toPair)
  | _ => false
def isRowD (m : Nat) : PyData → Bool
  | .tuple l => decide (l.length = m) && l.all (isNumD · 0 ((m : Int) - 1)) && decide ((dedup (l.map toInt)).length = m)
  | _ => false
def lay (d : PyData) : Prop := d.canLay0 = true
theorem lay.nd {d : PyData} (h : lay d) : isDict d = false := by cases d <;> first | rfl | (cases h)
def rNum (ds : List PyData) (d : PyData) : Prop := ∃ x lo hi, ds = [x, .int lo, .int hi] ∧ lay x ∧ d = .bool (isNumD x lo hi)
def rRising (ds : List PyData) (d : PyData) : Prop := (∃ ns : List Int, ds = [.tuple (ns.map .int)] ∧ ns.length ≤ 1000 ∧ d = .bool (risB ltI 0 ns)) ∨ (∃ ps : List (Int × Int), ds = [.tuple (ps.map pairD)] ∧ ps.length ≤ 1000 ∧ d = .bool (risB ltP2 (0, 0) ps))
def rTie (ds : List PyData) (d : PyData) : Prop := ∃ x m, ds = [x, .int m] ∧ lay x ∧ d = .bool (isTieD x m)
def rIsWeb (ds : List PyData) (d : PyData) : Prop := ∃ x, ds = [x] ∧ lay x ∧ d = .bool (isWebD x)
def rIsRow (ds : List PyData) (d : PyData) : Prop := ∃ (m : Nat) (ties : List (Int × Int)) (x : PyData), ds = [webD m ties, x] ∧ lay x ∧ m ≤ 60 ∧ d = .bool (isRowD m x)
theorem lay_all {l : List PyData} (h : PyData.canLayAll0 l = true) : ∀ x ∈ l, lay x := by
  induction l with
  | nil => intro x hx; cases hx
  | cons y l ih =>
    intro x hx
    have h' : y.canLay0 = true ∧ PyData.canLayAll0 l = true := by simpa [PyData.canLayAll0] using h
    rcases List.mem_cons.mp hx with e | e
    · rw [e]; exact h'.1
    · exact ih h'.2 x e
theorem lay.tup {l : List PyData} (h : lay (.tuple l)) : ∀ x ∈ l, lay x := lay_all h
theorem tie_len {m : Int} : ∀ {l : List PyData}, l.length ≠ 2 → isTieD (.tuple l) m = false
  | [], _ => rfl
  | [x], _ => by cases x <;> rfl
  | [x, y], h => absurd rfl h
  | x :: y :: z :: r, _ => by cases x <;> rfl
theorem web_len : ∀ {l : List PyData}, l.length ≠ 2 → isWebD (.tuple l) = false
  | [], _ => rfl
  | [x], _ => by cases x <;> rfl
  | [x, y], h => absurd rfl h
  | x :: y :: z :: r, _ => by cases x <;> first | rfl | (cases y <;> rfl)
theorem tie_pair {x : PyData} {m : Int} (h : isTieD x m = true) : x = pairD (toPair x) := by
  unfold isTieD at h
  split at h
  · rename_i i y
    cases y with
    | int j => rfl
    | _ => simp [isNumD] at h
  · cases h
theorem num_int {x : PyData} {lo hi : Int} (h : isNumD x lo hi = true) : x = .int (toInt x) := by
  cases x with
  | int i => rfl
  | _ => cases h
theorem map_self {f : PyData → PyData} : ∀ {l : List PyData}, (∀ x ∈ l, x = f x) → l = l.map f
  | [], _ => rfl
  | x :: l, h => by
    rw [List.map_cons, ← h x List.mem_cons_self, ← map_self fun y hy => h y (List.mem_cons_of_mem _ hy)]
end DL

set_option Elab.async false
set_option linter.all false
set_option maxRecDepth 100000
namespace DL
open PySem PySem.Spec L2
set_option autoImplicit false
/-! ### webs and rows are told so -/
theorem lexLt2 {a b c d : Int} : HT.lexLt [a, b] [c, d] = true ↔ a < c ∨ (a = c ∧ b < d) := by
  show (if a = c then (if b = d then false else decide (b < d)) else decide (a < c)) = true ↔ _
  split
  · split
    · simp; omega
    · simp; omega
  · simp; omega
theorem ris_of {ps : List (Int × Int)} (h1 : ps.Pairwise lexLe) (h2 : ps.Nodup) : risB ltP2 (0, 0) ps = true := by
  unfold risB
  refine List.all_eq_true.mpr fun k hk => ?_
  obtain ⟨j, hj, rfl⟩ := List.mem_map.mp hk
  rw [List.mem_range] at hj
  have a1 : 1 + j - 1 < ps.length := by omega
  have a2 : 1 + j < ps.length := by omega
  rw [List.getD_eq_getElem?_getD, List.getD_eq_getElem?_getD, List.getElem?_eq_getElem a1, List.getElem?_eq_getElem a2]
  have g1 := List.pairwise_iff_getElem.mp h1 _ _ a1 a2 (by omega)
  have g2 := List.pairwise_iff_getElem.mp h2 _ _ a1 a2 (by omega)
  dsimp only [Option.getD]
  unfold ltP2
  generalize ps[1 + j - 1] = p at *
  generalize ps[1 + j] = q at *
  rw [lexLt2]
  unfold lexLe at g1
  rcases g1 with g | ⟨g, g3⟩
  · exact .inl g
  · refine .inr ⟨g, ?_⟩
    have : p.2 ≠ q.2 := fun e => g2 (Prod.ext g e)
    omega
theorem web_true {m : Nat} {ties : List (Int × Int)} (W : WebOk m ties) (h1 : 1 ≤ m) (h6 : m ≤ 6) (h12 : ties.length ≤ 12) : isWebD (webD m ties) = true := by
  show (isNumD (.int m) 1 6 && decide ((ties.map pairD).length ≤ 12) && (ties.map pairD).all (isTieD · m) && risB ltP2 (0, 0) ((ties.map pairD).map toPair)) = true
  have e : (ties.map pairD).map toPair = ties := by
    rw [List.map_map]
    exact (List.map_congr_left (g := id) fun x _ => rfl).trans (List.map_id _)
  rw [e, ris_of W.srt W.nd, List.length_map, decide_eq_true h12, Bool.and_true]
  have a : (ties.map pairD).all (isTieD · m) = true := by
    refine List.all_eq_true.mpr fun x hx => ?_
    obtain ⟨t, ht, rfl⟩ := List.mem_map.mp hx
    have o := W.ok t ht
    have := o.nn; have := o.lt; have := o.le
    show ((decide ((0 : Int) ≤ t.1) && decide (t.1 ≤ (m : Int) - 1)) && (decide (t.1 + 1 ≤ t.2) && decide (t.2 ≤ (m : Int) - 1))) = true
    simp; omega
  rw [a]
  show ((decide ((1 : Int) ≤ m) && decide ((m : Int) ≤ 6)) && true && true) = true
  simp; omega
theorem upto_nodup (n : Nat) : (upto (n : Int)).Nodup := by
  unfold upto
  rw [Int.toNat_natCast]
  unfold List.Nodup
  rw [List.pairwise_map]
  exact List.pairwise_lt_range.imp fun h e => by omega
theorem row_true {m : Nat} {row : List Int} (h : row.Perm (upto m)) : isRowD m (rowD row) = true := by
  show (decide ((row.map PyData.int).length = m) && (row.map PyData.int).all (isNumD · 0 ((m : Int) - 1)) && decide ((dedup ((row.map PyData.int).map toInt)).length = m)) = true
  have hl : row.length = m := h.length_eq.trans (upto_len m)
  have e : (row.map PyData.int).map toInt = row := by
    rw [List.map_map]
    exact (List.map_congr_left (g := id) fun x _ => rfl).trans (List.map_id _)
  have nd : row.Nodup := h.nodup_iff.mpr (upto_nodup m)
  have d : (dedup row).length = row.length := nodup_len (nodup_dedup row) nd fun k => mem_dedup
  have a : (row.map PyData.int).all (isNumD · 0 ((m : Int) - 1)) = true := by
    refine List.all_eq_true.mpr fun x hx => ?_
    obtain ⟨t, ht, rfl⟩ := List.mem_map.mp hx
    have := mem_upto.mp (h.mem_iff.mp ht)
    show (decide ((0 : Int) ≤ t) && decide (t ≤ (m : Int) - 1)) = true
    simp; omega
  rw [e, a, d, List.length_map, hl]
  simp
/-! ### spoilt ones are not -/
theorem row_len {m : Nat} {l : List PyData} (h : l.length ≠ m) : isRowD m (.tuple l) = false := by
  show (decide (l.length = m) && _ && _) = false
  rw [decide_eq_false h]; rfl
theorem row_at {m : Nat} {l : List PyData} {x : PyData} (hx : x ∈ l) (h : isNumD x 0 ((m : Int) - 1) = false) : isRowD m (.tuple l) = false := by
  show (_ && l.all _ && _) = false
  have : l.all (isNumD · 0 ((m : Int) - 1)) = false := by
    refine Bool.eq_false_iff.mpr fun w => ?_
    have := List.all_eq_true.mp w x hx
    rw [h] at this; cases this
  rw [this, Bool.and_false]; rfl
theorem nodup_sub : ∀ {xs ys : List Int}, xs.Nodup → (∀ x ∈ xs, x ∈ ys) → xs.length ≤ ys.length
  | [], _, _, _ => by simp
  | x :: xs, ys, h, s => by
    obtain ⟨h1, h2⟩ := List.nodup_cons.mp h
    have hx := s x List.mem_cons_self
    have := nodup_sub (ys := ys.erase x) h2 fun y hy => (List.mem_erase_of_ne fun e => by subst e; exact h1 hy).mpr (s y (List.mem_cons_of_mem _ hy))
    rw [List.length_erase_of_mem hx] at this
    have := List.length_pos_of_mem hx
    rw [List.length_cons]
    omega
theorem row_dup {m : Nat} {ns : List Int} {ys : List Int} (hs : ∀ x ∈ ns, x ∈ ys) (hy : ys.length < m) : isRowD m (.tuple (ns.map .int)) = false := by
  show (_ && _ && decide ((dedup ((ns.map PyData.int).map toInt)).length = m)) = false
  have e : (ns.map PyData.int).map toInt = ns := by
    rw [List.map_map]
    exact (List.map_congr_left (g := id) fun x _ => rfl).trans (List.map_id _)
  have := nodup_sub (nodup_dedup ns) fun x hx => hs x (mem_dedup.mp hx)
  have q : decide ((dedup ns).length = m) = false := decide_eq_false (by omega)
  rw [e, q, Bool.and_false]
theorem cut_m1 {α : Type} (xs : List α) : cutD xs none (some (-1)) = xs.take (xs.length - 1) := by
  unfold cutD HT.sIx
  simp
  rw [show (-1 + (xs.length : Int)).toNat = xs.length - 1 by omega]
  omega
theorem cut_drop {α : Type} (xs : List α) : cutD xs (some 1) none = xs.drop 1 := by
  show (xs.drop (HT.sIx xs.length 0 (some ((1 : Nat) : Int)))).take (HT.sIx xs.length xs.length none - HT.sIx xs.length 0 (some ((1 : Nat) : Int))) = _
  rw [HT.sIx_none, HT.sIx_nat]
  cases xs with
  | nil => rfl
  | cons x xs => rw [Nat.min_eq_left (by simp)]; exact List.take_of_length_le (by simp)
theorem cut_take {α : Type} (xs : List α) : cutD xs none (some 1) = xs.take 1 := by
  show (xs.drop (HT.sIx xs.length 0 none)).take (HT.sIx xs.length xs.length (some ((1 : Nat) : Int)) - HT.sIx xs.length 0 none) = _
  rw [HT.sIx_none, HT.sIx_nat]
  cases xs with
  | nil => rfl
  | cons x xs => simp
/-- the webs spoilt -/
def bads0 (m : PyData) (T : List PyData) : List PyData := [.tuple [.int 0, .tuple []], .tuple [.int 7, .tuple T], .tuple [.bool true, .tuple []], .tuple [m, .list T], .list [m, .tuple T], .tuple [m], .tuple [m, .tuple T, .int 0], .none]
def bads1 : List PyData := [.int 7, .str "web"]
def badT (m : PyData) : List PyData := [.tuple [.int 0, m], .tuple [.int (-1), .int 0], .tuple [.int 0, .int 0], .tuple [.int 1, .int 0], .tuple [.int 0], .tuple [.int 0, .int 1, .int 2], .list [.int 0, .int 1], .tuple [.bool false, .int 1], .tuple [.int 0, .bool true], .int 0, .str "0-1"]
def bads2 : List PyData := [.tuple [.int 3, .tuple [.tuple [.int 1, .int 2], .tuple [.int 0, .int 1]]], .tuple [.int 2, .tuple [.tuple [.int 0, .int 1], .tuple [.int 0, .int 1]]]]
def stepBad (m : PyData) (T : List PyData) (acc : List PyData) (b : PyData) : List PyData := acc ++ [.tuple [m, .tuple ([b] ++ T)]]
def pairs5 (k : Nat) : List PyData := ((List.range (6 - (k + 1))).map (k + 1 + ·)).map fun n => npD (k, n)
def fifteen : List PyData := (List.range 5).foldl (fun acc k => acc ++ pairs5 k) []
def badsM (m : PyData) (T : List PyData) : List PyData := ((badT m).foldl (stepBad m T) (bads0 m T ++ bads1) ++ bads2) ++ [.tuple [.int 6, .tuple (fifteen.take 13)]]
theorem badsM_eq (m : PyData) (T : List PyData) : badsM m T = ((bads0 m T ++ bads1) ++ (badT m).map (fun b => .tuple [m, .tuple ([b] ++ T)]) ++ bads2) ++ [.tuple [.int 6, .tuple (fifteen.take 13)]] := by
  unfold badsM
  have : stepBad m T = fun acc x => acc ++ [PyData.tuple [m, .tuple ([x] ++ T)]] := rfl
  rw [this, foldl_app]
  rw [← List.flatMap_singleton' ((badT m).map _), List.flatMap_map]
theorem bads_len (m : PyData) (T : List PyData) : (badsM m T).length = 24 := by
  rw [badsM_eq]
  simp [bads0, bads1, badT, bads2]
theorem web_bad_tie {m : Int} {b : PyData} {T : List PyData} (h : isTieD b m = false) : isWebD (.tuple [.int m, .tuple ([b] ++ T)]) = false := by
  show (_ && _ && (isTieD b m && _) && _) = false
  rw [h, Bool.false_and, Bool.and_false]; rfl
theorem bads_no (m : Nat) (ties : List (Int × Int)) : ∀ x ∈ badsM (natD m) (ties.map pairD), isWebD x = false ∧ lay x := by
  have hT : PyData.canLayAll0 (ties.map pairD) = true := (nc_all (nc_pairs ties)).1
  intro x hx
  rw [badsM_eq] at hx
  simp only [List.mem_append] at hx
  rcases hx with ((((hx | hx) | hx) | hx) | hx)
  · simp only [bads0, List.mem_cons, List.not_mem_nil, or_false] at hx
    rcases hx with rfl | rfl | rfl | rfl | rfl | rfl | rfl | rfl <;> refine ⟨rfl, ?_⟩ <;> simp [lay, PyData.canLay0, PyData.canLayAll0, hT, natD]
  · simp only [bads1, List.mem_cons, List.not_mem_nil, or_false] at hx
    rcases hx with rfl | rfl
    · exact ⟨rfl, rfl⟩
    · exact ⟨rfl, by unfold lay; decide +kernel⟩
  · obtain ⟨b, hb, rfl⟩ := List.mem_map.mp hx
    have q : isTieD b (m : Int) = false ∧ b.canLay0 = true := by
      simp only [badT, List.mem_cons, List.not_mem_nil, or_false] at hb
      rcases hb with rfl | rfl | rfl | rfl | rfl | rfl | rfl | rfl | rfl | rfl | rfl
      · refine ⟨?_, rfl⟩
        show ((decide ((0 : Int) ≤ 0) && decide ((0 : Int) ≤ (m : Int) - 1)) && (decide ((0 : Int) + 1 ≤ (m : Int)) && decide ((m : Int) ≤ (m : Int) - 1))) = false
        simp; omega
      · exact ⟨by simp [isTieD, isNumD], rfl⟩
      · exact ⟨by simp [isTieD, isNumD], rfl⟩
      · exact ⟨by simp [isTieD, isNumD], rfl⟩
      · exact ⟨rfl, rfl⟩
      · exact ⟨rfl, rfl⟩
      · exact ⟨rfl, rfl⟩
      · exact ⟨rfl, rfl⟩
      · exact ⟨Bool.and_false _, rfl⟩
      · exact ⟨rfl, rfl⟩
      · exact ⟨rfl, by decide +kernel⟩
    exact ⟨web_bad_tie q.1, by simp [lay, PyData.canLay0, PyData.canLayAll0, hT, natD, q.2]⟩
  · simp only [bads2, List.mem_cons, List.not_mem_nil, or_false] at hx
    rcases hx with rfl | rfl <;> exact ⟨by decide +kernel, by unfold lay; decide +kernel⟩
  · rw [List.mem_singleton] at hx
    subst hx
    exact ⟨by decide +kernel, by unfold lay; decide +kernel⟩
/-- the rows spoilt -/
def badR1 (R : List Int) (M : Nat) : List PyData := [.tuple ((R.map .int).take (R.length - 1)), .tuple (R.map .int ++ [.int 0]), .list (R.map .int), .tuple ((R.map .int).take (R.length - 1) ++ [natD M]), .tuple ((R.map .int).take (R.length - 1) ++ [.none]), .none, .int 0]
def badR2 (R : List Int) : List PyData := [.tuple ([.int (-1)] ++ (R.map .int).drop 1)]
def badR3 (R : List Int) (M : Nat) : List PyData := [.tuple ((R.map .int).take (R.length - 1) ++ (R.map .int).take 1), .tuple (R.map fun x => .bool (x != 0)), .tuple (List.replicate (M : Int).toNat [PyData.str "0"]).flatten]
theorem lay_tup {l : List PyData} (h : ∀ x ∈ l, lay x) : lay (.tuple l) := by
  show PyData.canLayAll0 l = true
  induction l with
  | nil => rfl
  | cons x l ih => simp only [PyData.canLayAll0, Bool.and_eq_true]; exact ⟨h x List.mem_cons_self, ih fun y hy => h y (List.mem_cons_of_mem _ hy)⟩
theorem lay_ints {R : List Int} : ∀ x ∈ R.map PyData.int, lay x := fun x hx => (nc_ints R x hx).lay
theorem lay_take {l : List PyData} {k : Nat} (h : ∀ x ∈ l, lay x) : ∀ x ∈ l.take k, lay x := fun x hx => h x (List.mem_of_mem_take hx)
theorem lay_drop {l : List PyData} {k : Nat} (h : ∀ x ∈ l, lay x) : ∀ x ∈ l.drop k, lay x := fun x hx => h x (List.mem_of_mem_drop hx)
theorem lay_app {l m : List PyData} (h : ∀ x ∈ l, lay x) (h2 : ∀ x ∈ m, lay x) : ∀ x ∈ l ++ m, lay x := fun x hx => (List.mem_append.mp hx).elim (h x) (h2 x)
theorem lay_one {x : PyData} (h : lay x) : ∀ y ∈ [x], lay y := fun y hy => by rw [List.mem_singleton] at hy; rw [hy]; exact h
theorem rows1_no {R : List Int} {M : Nat} (hl : R.length = M) (h1 : 1 ≤ M) : ∀ x ∈ badR1 R M ++ badR2 R, isRowD M x = false ∧ lay x := by
  intro x hx
  simp only [badR1, badR2, List.mem_append, List.mem_cons, List.not_mem_nil, or_false] at hx
  rcases hx with (rfl | rfl | rfl | rfl | rfl | rfl | rfl) | rfl
  · exact ⟨row_len (by simp; omega), lay_tup (lay_take lay_ints)⟩
  · exact ⟨row_len (by simp; omega), lay_tup (lay_app lay_ints (lay_one rfl))⟩
  · exact ⟨rfl, (nc_lst (nc_ints R)).lay⟩
  · refine ⟨row_at (x := natD M) (by simp) ?_, lay_tup (lay_app (lay_take lay_ints) (lay_one rfl))⟩
    show (decide ((0 : Int) ≤ (M : Int)) && decide ((M : Int) ≤ (M : Int) - 1)) = false
    rw [decide_eq_false (show ¬ (M : Int) ≤ (M : Int) - 1 by omega), Bool.and_false]
  · exact ⟨row_at (x := .none) (by simp) rfl, lay_tup (lay_app (lay_take lay_ints) (lay_one rfl))⟩
  · exact ⟨rfl, rfl⟩
  · exact ⟨rfl, rfl⟩
  · exact ⟨row_at (x := .int (-1)) (by simp) rfl, lay_tup (lay_app (lay_one rfl) (lay_drop lay_ints))⟩
theorem rows3_no {R : List Int} {M : Nat} (hl : R.length = M) (h1 : 1 < M) : ∀ x ∈ badR3 R M, isRowD M x = false ∧ lay x := by
  intro x hx
  simp only [badR3, List.mem_cons, List.not_mem_nil, or_false] at hx
  rcases hx with rfl | rfl | rfl
  · refine ⟨?_, lay_tup (lay_app (lay_take lay_ints) (lay_take lay_ints))⟩
    rw [← List.map_take, ← List.map_take, ← List.map_append]
    refine row_dup (ys := R.take (R.length - 1)) (fun y hy => ?_) (by simp; omega)
    rcases List.mem_append.mp hy with h | h
    · exact h
    · cases R with
      | nil => simp at h
      | cons a R =>
        cases R with
        | nil => simp at hl; omega
        | cons b R => simp at h ⊢; exact .inl h
  · cases R with
    | nil => simp at hl; omega
    | cons a R => 
      refine ⟨row_at (x := .bool (a != 0)) (by simp) rfl, lay_tup fun x hx => ?_⟩
      obtain ⟨y, _, rfl⟩ := List.mem_map.mp hx
      rfl
  · have hm : ∀ x ∈ (List.replicate (M : Int).toNat [PyData.str "0"]).flatten, x = .str "0" := by
      intro x hx
      obtain ⟨l, hl, hx⟩ := List.mem_flatten.mp hx
      rw [(List.mem_replicate.mp hl).2, List.mem_singleton] at hx
      exact hx
    have h0 : PyData.str "0" ∈ (List.replicate (M : Int).toNat [PyData.str "0"]).flatten := List.mem_flatten.mpr ⟨_, List.mem_replicate.mpr ⟨by omega, rfl⟩, by simp⟩
    refine ⟨row_at h0 rfl, lay_tup fun x hx => ?_⟩
    rw [hm x hx]
    unfold lay; decide +kernel
def rBad (ds : List PyData) (d : PyData) : Prop := ∃ (m : Nat) (ties : List (Int × Int)) (z : Int), ds = [webD m ties, .int z] ∧ ties.length ≤ 100 ∧ d = (badsM (natD m) (ties.map pairD)).getD (z % 24).toNat .none
end DL

set_option Elab.async false
set_option linter.all false
set_option maxRecDepth 100000
set_option maxHeartbeats 1000000
namespace DL
open PySem PySem.Spec L2
set_option autoImplicit false
/-! ### sorted(set(xs)), xs a tuple of whole numbers -/
def tSortSetF (K : PySem.W.Frag) (ta : TE) : TE := fun σ H Q => ta σ H fun x H1 => ∃ (l : Addr) (ns : List Int), x = V.ref l ∧ SqT K H1 l (ns.map V.int) ∧ ns.length < 64 ∧
  ∀ (ms : List Int) (p : Addr), ms.Pairwise (· < ·) → (∀ k : Int, k ∈ ms ↔ k ∈ ns) → H1 p = none → ms.length ≤ sizeLine → Q (.ref p) (upd H1 p (.lst (ms.map V.int)))
section
variable {G : Ct} {δ δ2 : DEnv} {ω : Own} {a e : Expr} {body : List Stmt} {pos p p2 q : Pos} {y : PyData} {ts : TSpec} {ds : List PyData}
theorem pe_sortSetF {X : Cx} {ta : TE} (hc : X.calm = true) (hg : Gl X "sorted") (hm : X.mg "sorted" = none) (hg2 : Gl X "set") (hm2 : X.mg "set" = none) (ha : PE X a ta)
    (na : starEach [a] X.env = (false, eval a X.env) :: starEach [] X.env) (nb : starEach [.Call (.Name "set" p2) [a] [] q] X.env = (false, eval (.Call (.Name "set" p2) [a] [] q) X.env) :: starEach [] X.env) : PE X (.Call (.Name "sorted" p) [.Call (.Name "set" p2) [a] [] q] [] pos) (tSortSetF X.K ta) := by
  refine ⟨fun pins s σ H Q I h => ?_⟩
  refine PyProof.Rows.Call_ (ld_blt I hg hm PyProof.Rows.boot_sorted ?_)
  refine PyProof.Rows.callWith_builtin1 (PyProof.Rows.args_cons ?_ nb) nb rfl
  refine PyProof.Rows.Call_ (ld_blt I hg2 hm2 PyProof.Rows.boot_set ?_)
  refine PyProof.Rows.callWith_type1 (PyProof.Rows.args_cons (thn (ha.run pins s σ H _ I h) fun v s1 ⟨x, H1, I1, r1, q1⟩ => PyProof.Rows.args_nil ?_) na) na rfl
  obtain ⟨l, ns, e, hq, hz, q1⟩ := q1
  subst e
  obtain rfl : v = .ref l := r1
  obtain ⟨its, r, pt, _⟩ := I1.tuple hq
  refine call_set_tupI ns (I1.ok.hd hc) (show s1.heap.IsTuple l its.toArray from pt) (by simpa using r.ints) (by unfold scanBound; omega) fun h' tk c R1 hcn k => ?_
  refine PyProof.Rows.args_nil ?_
  have I2 : Inv X pins σ H1 { s1 with heap := h', toks := tk } := I1.kept k
  refine sorted_set R1 (I1.ok.hd hc) (by omega) fun s' p out c ms kk g o hp hg hi hs hm hl => ?_
  have hlen : (ms.map V.int).length ≤ sizeLine := by rw [List.length_map, hl, sizeLine_eq]; omega
  have hn : H1 p = none := I2.hok.fresh hp
  have J : Inv X pins σ (upd H1 p (.lst (ms.map V.int))) { ({ s1 with heap := h', toks := tk } : Shared) with heap := s'.heap, gens := s'.gens, drawn := s'.drawn, toks := s'.toks } :=
    Inv.call (s := { s1 with heap := h', toks := tk }) I2 (ch := []) (Un.laid kk hp hn) (I2.hok.laid kk hp ⟨hlen, out.toList, c, vals_of_ints hi, hg⟩) (by rw [g]; exact I2.bare) (fun _ z => nomatch z)
  have e2 : s' = { s1 with heap := s'.heap, gens := s'.gens, drawn := s'.drawn, toks := s'.toks } := by
    cases s'
    cases s1
    cases o
    rfl
  rw [e2]
  exact ⟨.ref p, _, J, rfl, q1 ms p hs (fun j => (hm j).trans (by simp)) hn (by rw [List.length_map] at hlen; exact hlen)⟩
theorem dn_sortset {ns ms : List Int} (B : Blt G.m) (hg : globB G.sc "sorted" = true) (hg2 : globB G.sc "set" = true) (ha : DV G δ a (.tuple (ns.map .int))) (hz : ns.length < 64) (hu : ∀ l : List Int, l.Pairwise (· < ·) → (∀ k, k ∈ l ↔ k ∈ ns) → l = ms)
    (na : ∀ env : Env, starEach [a] env = (false, eval a env) :: starEach [] env := by intro _; rfl) (nb : ∀ env : Env, starEach [.Call (.Name "set" p2) [a] [] q] env = (false, eval (.Call (.Name "set" p2) [a] [] q) env) :: starEach [] env := by intro _; rfl) :
    DN G δ (.Call (.Name "sorted" p) [.Call (.Name "set" p2) [a] [] q] [] pos) (ms.map .int) := fun X hX => by
  refine PE.imp (pe_sortSetF hX.calm (gl_of hX hg) (by rw [hX.mg]; exact B.sorted) (gl_of hX hg2) (by rw [hX.mg]; exact B.set) (ha X hX) (na _) (nb _)) fun σ H Q ⟨S, δ', d', ⟨e1, e2⟩, ok, R, q⟩ => ?_
  subst e1 e2
  refine ⟨S, _, _, ⟨rfl, rfl⟩, ok, R, fun v H1 s1 r1 => ?_⟩
  cases r1 with
  | tup e1 k1 z1 a1 =>
    obtain rfl := a1.ints
    refine ⟨_, ns, rfl, by rw [hX.K]; exact SqT.frz (hide_some e1).2, hz, fun l p h1 h2 h3 h4 => ?_⟩
    have := hu l h1 h2
    subst this
    exact q _ p H1 s1 h3 (by rw [List.length_map]; exact h4) (RpAll.ofInts _)
theorem inc_unique : ∀ {l m : List Int}, l.Pairwise (· < ·) → m.Pairwise (· < ·) → (∀ k, k ∈ l ↔ k ∈ m) → l = m := fun {l m} h1 h2 h => by
  have p : l.Perm m := (List.perm_ext_iff_of_nodup (h1.imp fun h e => by omega) (h2.imp fun h e => by omega)).mpr h
  exact List.Perm.eq_of_pairwise (le := (· < ·)) (fun a b _ _ h1 h2 => by omega) h1 h2 p
/-! ### loops whose names change -/
theorem dfor_foldD {α β : Type} (enc : α → PyData) (sd : β → DEnv) (st : β → Own) (f : β → α → β) (I : Nat → β → Prop) : ∀ (xs : List α) (b : β), I xs.length b → (∀ x ∈ xs, ∀ n b, I (n + 1) b → I n (f b x) ∧ ∃ δb, bindT ts (enc x) (sd b) = some δb ∧ ofree ts (st b) ∧ ∃ δ1, DSs G δb (st b) body (.next δ1 (st (f b x))) ∧ Le (sd (f b x)) δ1) →
    DFor G ts body (xs.map enc) (sd b) (st b) (.next (sd (xs.foldl f b)) (st (xs.foldl f b)))
  | [], _, _, _ => rfl
  | x :: xs, b, hb, h => by
    obtain ⟨hi, δb, h1, h2, δ1, h3, w⟩ := h x List.mem_cons_self _ b hb
    exact ⟨δb, h1, h2, .inl ⟨_, _, h3.weak w, dfor_foldD enc sd st f I xs _ hi fun y hy => h y (List.mem_cons_of_mem _ hy)⟩⟩
theorem cut_dropn {α : Type} (xs : List α) (k : Nat) : cutD xs (some (k : Int)) none = xs.drop k := by
  unfold cutD
  rw [HT.sIx_none, HT.sIx_nat]
  by_cases h : k ≤ xs.length
  · rw [Nat.min_eq_left h]; exact List.take_of_length_le (by simp)
  · rw [List.drop_eq_nil_of_le (by omega), List.drop_eq_nil_of_le (by omega)]; simp
theorem numbered_nat {α : Type} (enc : α → PyData) (d : α) (l : List α) : numbered (l.map enc) = (List.range l.length).map fun k => .tuple [natD k, enc (l.getD k d)] := by
  refine List.ext_getElem? fun i => ?_
  cases h : (numbered (l.map enc))[i]? with
  | none =>
    have h1 := List.getElem?_eq_none_iff.mp h
    rw [numbered_len, List.length_map] at h1
    rw [List.getElem?_eq_none (by simpa using h1)]
  | some x =>
    obtain ⟨d', h1, rfl⟩ := numbered_get h
    rw [List.getElem?_map] at h1
    cases h2 : l[i]? with
    | none => rw [h2] at h1; cases h1
    | some y =>
      rw [h2] at h1
      cases h1
      have hi : i < l.length := by
        by_cases hi : i < l.length
        · exact hi
        · rw [List.getElem?_eq_none (by omega)] at h2; cases h2
      rw [List.getElem?_map, List.getElem?_range hi, Option.map_some, List.getD_eq_getElem?_getD, h2]
      rfl
end
/-! ### walks over a list's ends -/
def loopS {α β : Type} (g : β → α → List α → β) : List α → β → β
  | [], b => b
  | t :: rest, b => loopS g rest (g b t rest)
theorem loopS_fold {α β : Type} (g : β → α → List α → β) (d : α) : ∀ (l : List α) (b : β), (List.range l.length).foldl (fun b k => g b (l.getD k d) (l.drop (k + 1))) b = loopS g l b
  | [], b => rfl
  | t :: rest, b => by
    rw [List.length_cons, List.range_succ_eq_map, List.foldl_cons, List.foldl_map]
    exact loopS_fold g d rest (g b t rest)
end DL

set_option Elab.async false
set_option linter.all false
set_option maxRecDepth 100000
namespace DL
open PySem PySem.Spec L2
set_option autoImplicit false
/-! ### greatest sets each two of which clash -/
def gStep (P : Nat → Nat → Bool) (f : List Nat → List Nat → List Nat) (c : List Nat) (best : List Nat) (t : Nat) (rest : List Nat) : List Nat :=
  if best.length < c.length + rest.length + 1 then (if best.length < (f (c ++ [t]) (rest.filter (P t))).length then f (c ++ [t]) (rest.filter (P t)) else best) else best
def grownM (P : Nat → Nat → Bool) : Nat → List Nat → List Nat → List Nat
  | 0, c, _ => c
  | n + 1, c, left => loopS (gStep P (grownM P n) c) left c
def mcl (P : Nat → Nat → Bool) (f : List Nat → Nat) : List Nat → Nat
  | [] => 0
  | t :: rest => max (1 + f (rest.filter (P t))) (mcl P f rest)
def mc (P : Nat → Nat → Bool) : Nat → List Nat → Nat
  | 0, _ => 0
  | n + 1, l => mcl P (mc P n) l
def mStep (P : Nat → Nat → Bool) (f : List Nat → List Nat → Nat) (c : List Nat) (b : Nat) (t : Nat) (rest : List Nat) : Nat := if c.all (P · t) then max b (f (c ++ [t]) rest) else b
def mostM (P : Nat → Nat → Bool) : Nat → List Nat → List Nat → Nat
  | 0, c, _ => c.length
  | n + 1, c, left => loopS (mStep P (mostM P n) c) left c.length
section
variable {P : Nat → Nat → Bool}
theorem mcl_cons (f : List Nat → Nat) (t : Nat) (rest : List Nat) : mcl P f (t :: rest) = max (1 + f (rest.filter (P t))) (mcl P f rest) := rfl
theorem mcl_le {f : List Nat → Nat} (h : ∀ l, f l ≤ l.length) : ∀ l, mcl P f l ≤ l.length
  | [] => Nat.le_refl _
  | t :: rest => by
    have h1 := h (rest.filter (P t))
    have h2 := List.length_filter_le (P t) rest
    have h3 := mcl_le h rest
    rw [mcl_cons, List.length_cons]
    omega
theorem mc_le : ∀ (n : Nat) (l : List Nat), mc P n l ≤ l.length
  | 0, _ => Nat.zero_le _
  | n + 1, l => mcl_le (mc_le n) l
theorem grown_len : ∀ (n : Nat) (c left : List Nat), (grownM P n c left).length = c.length + mc P n left
  | 0, c, _ => rfl
  | n + 1, c, left => by
    have key : ∀ (l best : List Nat), c.length ≤ best.length → (loopS (gStep P (grownM P n) c) l best).length = max best.length (c.length + mcl P (mc P n) l) := by
      intro l
      induction l with
      | nil => intro best h; show best.length = max best.length (c.length + 0); omega
      | cons t rest ih =>
        intro best h
        have ih2 := grown_len n (c ++ [t]) (rest.filter (P t))
        rw [List.length_append, List.length_singleton] at ih2
        have m1 := mc_le (P := P) n (rest.filter (P t))
        have m2 := List.length_filter_le (P t) rest
        have hs : (gStep P (grownM P n) c best t rest).length = max best.length (c.length + 1 + mc P n (rest.filter (P t))) := by
          unfold gStep
          split
          · split <;> omega
          · omega
        show (loopS (gStep P (grownM P n) c) rest (gStep P (grownM P n) c best t rest)).length = _
        rw [ih _ (by rw [hs]; omega), hs]
        rw [mcl_cons]
        omega
    have := key left c (Nat.le_refl _)
    show (loopS (gStep P (grownM P n) c) left c).length = c.length + mcl P (mc P n) left
    omega
theorem most_eq : ∀ (n : Nat) (c left : List Nat), mostM P n c left = c.length + mc P n (left.filter fun x => c.all (P · x))
  | 0, _, _ => rfl
  | n + 1, c, left => by
    have key : ∀ (l : List Nat) (b : Nat), c.length ≤ b → loopS (mStep P (mostM P n) c) l b = max b (c.length + mcl P (mc P n) (l.filter fun x => c.all (P · x))) := by
      intro l
      induction l with
      | nil => intro b h; show b = max b (c.length + 0); omega
      | cons t rest ih =>
        intro b h
        show loopS (mStep P (mostM P n) c) rest (mStep P (mostM P n) c b t rest) = _
        rw [List.filter_cons]
        by_cases q : c.all (P · t) = true
        · have ih2 := most_eq n (c ++ [t]) rest
          have ef : (rest.filter fun x => (c ++ [t]).all (P · x)) = (rest.filter fun x => c.all (P · x)).filter (P t) := by
            rw [List.filter_filter]
            congr 1
            funext x
            rw [List.all_append, Bool.and_comm]
            simp
          rw [ef, List.length_append, List.length_singleton] at ih2
          have hs : mStep P (mostM P n) c b t rest = max b (mostM P n (c ++ [t]) rest) := if_pos q
          rw [if_pos q, hs, ih _ (by omega), ih2]
          rw [mcl_cons]
          omega
        · have hs : mStep P (mostM P n) c b t rest = b := if_neg q
          rw [if_neg q, hs, ih _ h]
    have := key left c.length (Nat.le_refl _)
    show loopS (mStep P (mostM P n) c) left c.length = c.length + mcl P (mc P n) _
    omega
theorem grown_ok : ∀ (n : Nat) (c left : List Nat), ∃ s, grownM P n c left = c ++ s ∧ s.Sublist left ∧ s.Pairwise fun i j => P i j = true
  | 0, c, left => ⟨[], (List.append_nil c).symm, List.nil_sublist _, List.Pairwise.nil⟩
  | n + 1, c, left => by
    have key : ∀ (l best : List Nat), l.Sublist left → (∃ s, best = c ++ s ∧ s.Sublist left ∧ s.Pairwise fun i j => P i j = true) → ∃ s, loopS (gStep P (grownM P n) c) l best = c ++ s ∧ s.Sublist left ∧ s.Pairwise fun i j => P i j = true := by
      intro l
      induction l with
      | nil => intro best _ h; exact h
      | cons t rest ih =>
        intro best hl h
        refine ih _ ((List.sublist_cons_self t rest).trans hl) ?_
        unfold gStep
        split
        · split
          · obtain ⟨s, e, h1, h2⟩ := grown_ok n (c ++ [t]) (rest.filter (P t))
            refine ⟨t :: s, by rw [e, List.append_assoc]; rfl, ((h1.trans List.filter_sublist).cons_cons t).trans hl, List.pairwise_cons.mpr ⟨fun x hx => (List.mem_filter.mp (h1.subset hx)).2, h2⟩⟩
          · exact h
        · exact h
    exact key left c (List.Sublist.refl _) ⟨[], (List.append_nil c).symm, List.nil_sublist _, List.Pairwise.nil⟩
end
theorem nodup_sub4 {xs ys : List Int} (h : xs.Nodup) (s : ∀ x ∈ xs, x ∈ ys) : xs.length ≤ ys.length := by
  induction xs generalizing ys with
  | nil => simp
  | cons x xs ih =>
    obtain ⟨h1, h2⟩ := List.nodup_cons.mp h
    have hx := s x List.mem_cons_self
    have := ih (ys := ys.erase x) h2 fun y hy => (List.mem_erase_of_ne fun e => by subst e; exact h1 hy).mpr (s y (List.mem_cons_of_mem _ hy))
    rw [List.length_erase_of_mem hx] at this
    have := List.length_pos_of_mem hx
    rw [List.length_cons]
    omega
/-! ### the defs' promises -/
def inP (ps : List (Nat × Nat)) (i j : Nat) : Bool := ps.any fun p => decide (p = (i, j))
theorem inP_iff {ps : List (Nat × Nat)} {i j : Nat} : inP ps i j = true ↔ (i, j) ∈ ps := by
  unfold inP
  rw [List.any_eq_true]
  exact ⟨fun ⟨p, hp, e⟩ => of_decide_eq_true e ▸ hp, fun h => ⟨_, h, decide_eq_true rfl⟩⟩
theorem eqv_np (p q : Nat × Nat) : PyData.eqv (npD p) (npD q) = decide (p = q) := by
  have := eqv_pair (npC p) (npC q)
  rw [show npD p = pairD (npC p) from rfl, show npD q = pairD (npC q) from rfl, this]
  refine Bool.eq_iff_iff.mpr ⟨fun h => ?_, fun h => ?_⟩
  · have h := of_decide_eq_true h
    unfold npC at h
    obtain ⟨a, b⟩ := p
    obtain ⟨c, d⟩ := q
    simp at h
    exact decide_eq_true (by rw [show a = c by omega, show b = d by omega])
  · rw [of_decide_eq_true h]; exact decide_eq_true rfl
theorem any_np (ps : List (Nat × Nat)) (i j : Nat) : ((ps.map npD).any fun z => PyData.eqv z (npD (i, j))) = inP ps i j := by
  rw [List.any_map]
  unfold inP
  congr 1
  funext p
  exact eqv_np p (i, j)
def rGrown (n : Nat) (ds : List PyData) (d : PyData) : Prop := ∃ (ps : List (Nat × Nat)) (c left : List Nat), ds = [.tuple (ps.map npD), .tuple (c.map natD), .list (left.map natD)] ∧ left.length < n ∧ c.length + left.length ≤ 60 ∧ d = .tuple ((grownM (inP ps) n c left).map natD)
def rLMost (n : Nat) (ds : List PyData) (d : PyData) : Prop := ∃ (ps : List (Nat × Nat)) (c left : List Nat), ds = [.list (ps.map npD), .list (c.map natD), .list (left.map natD)] ∧ left.length < n ∧ c.length + left.length ≤ 60 ∧ d = natD (mostM (inP ps) n c left)
def rGreatest (ds : List PyData) (d : PyData) : Prop := ∃ (m : Nat) (ties : List (Int × Int)) (r : List Int) (k : Kd), ds = [webD m ties, rowD r, .str k.t] ∧ (∀ t ∈ ties, t.1 ∈ r ∧ t.2 ∈ r) ∧ ties.length < 16 ∧ d = .tuple ((grownM (inP (clashesM ties r k)) 16 [] (List.range ties.length)).map natD)
/-- each with all behind it -/
def cliqB (P : Nat → Nat → Bool) (xs : List Nat) : Bool := (List.range xs.length).all fun k => (xs.drop (k + 1)).all fun o => P (xs.getD k 0) o
def rLClash (ds : List PyData) (d : PyData) : Prop := ∃ (ps : List (Nat × Nat)) (xs : List Nat), ds = [.list (ps.map npD), .tuple (xs.map natD)] ∧ xs.length ≤ 60 ∧ d = .bool (cliqB (inP ps) xs)
def isTiesD (n : Nat) : PyData → Bool
  | .tuple l => l.all (isNumD · 0 ((n : Int) - 1)) && risB ltI 0 (l.map toInt)
  | _ => false
def rTies (ds : List PyData) (d : PyData) : Prop := ∃ (m : Nat) (ties : List (Int × Int)) (x : PyData), ds = [webD m ties, x] ∧ lay x ∧ (∀ l, x = .tuple l → l.length ≤ 1000) ∧ d = .bool (isTiesD ties.length x)
def toNats : PyData → List Nat
  | .tuple l => l.map fun x => (toInt x).toNat
  | _ => []
def rAreCl (ds : List PyData) (d : PyData) : Prop := ∃ (m : Nat) (ties : List (Int × Int)) (r : List Int) (k : Kd) (x : PyData), ds = [webD m ties, rowD r, .str k.t, x] ∧ (∀ t ∈ ties, t.1 ∈ r ∧ t.2 ∈ r) ∧ ties.length ≤ 60 ∧ lay x ∧ (∀ l, x = .tuple l → l.length ≤ 60) ∧ d = .bool (isTiesD ties.length x && cliqB (inP (clashesM ties r k)) (toNats x))
theorem find_all {α : Type} (p : α → Bool) (r : PyData) (δ : DEnv) (ω : Own) (xs : List α) : (match xs.findSome? (fun k => if p k = true then none else some r) with | some r => Out.ret r | none => .next δ ω) = if xs.all p = true then .next δ ω else .ret r := by
  induction xs with
  | nil => rfl
  | cons x xs ih =>
    rw [List.findSome?_cons, List.all_cons]
    cases h : p x with
    | true => simp only [if_true, Bool.true_and]; exact ih
    | false => simp
theorem dss_alt {G : Ct} {δ δ1 : DEnv} {ω ω1 : Own} {st : Stmt} {rest : List Stmt} {b : Bool} {d d0 : PyData} (h : DS G δ ω st (if b = true then .next δ1 ω1 else .ret d0)) (h2 : b = true → DSs G δ1 ω1 rest (.ret d)) (hd : b = false → d = d0) : DSs G δ ω (st :: rest) (.ret d) := by
  cases b with
  | true => exact dss_cons h (h2 rfl)
  | false => rw [hd rfl]; exact dss_end h
theorem isE_filter {α : Type} (p : α → Bool) (f : α → PyData) (l : List α) : ((l.filter fun x => !p x).map f).isEmpty = l.all p := by
  induction l with
  | nil => rfl
  | cons x l ih =>
    rw [List.filter_cons, List.all_cons]
    cases p x with
    | true => simpa using ih
    | false => rfl
theorem ties_nats {n : Nat} {x : PyData} (h : isTiesD n x = true) : ∃ xs : List Nat, x = .tuple (xs.map natD) ∧ toNats x = xs := by
  unfold isTiesD at h
  split at h
  · rename_i l
    have ha := List.all_eq_true.mp (Bool.and_eq_true_iff.mp h).1
    refine ⟨l.map fun x => (toInt x).toNat, ?_, rfl⟩
    congr 1
    rw [List.map_map]
    refine map_self fun x hx => ?_
    have hx2 := ha x hx
    cases x with
    | int i =>
      have : 0 ≤ i := by
        have := (Bool.and_eq_true_iff.mp hx2).1
        exact of_decide_eq_true this
      show PyData.int i = .int ((i.toNat : Nat) : Int)
      rw [Int.toNat_of_nonneg this]
    | _ => cases hx2
  · cases h
/-- rising, below n -/
structure Inc (n : Nat) (xs : List Nat) : Prop where
  rise : xs.Pairwise (· < ·)
  lt : ∀ x ∈ xs, x < n
theorem Inc.len {n : Nat} {xs : List Nat} (h : Inc n xs) : xs.length ≤ n := by
  have : (xs.map fun x : Nat => (x : Int)).length ≤ (upto (n : Int)).length := by
    refine nodup_sub4 ?_ ?_
    · unfold List.Nodup
      rw [List.pairwise_map]
      exact h.rise.imp fun h e => by omega
    · intro x hx
      obtain ⟨y, hy, rfl⟩ := List.mem_map.mp hx
      exact mem_upto.mpr ⟨by omega, by have := h.lt y hy; omega⟩
  rw [List.length_map, upto_len] at this
  exact this
theorem Inc.filter {n : Nat} (p : Nat → Bool) : Inc n ((List.range n).filter p) := ⟨List.Pairwise.filter _ List.pairwise_lt_range, fun x hx => List.mem_range.mp (List.mem_filter.mp hx).1⟩
theorem Inc.sub {n : Nat} {xs : List Nat} (h : xs.Sublist (List.range n)) : Inc n xs := ⟨List.Pairwise.sublist h List.pairwise_lt_range, fun x hx => List.mem_range.mp (h.subset hx)⟩
theorem Inc.ties {n : Nat} {xs : List Nat} (h : Inc n xs) : isTiesD n (.tuple (xs.map natD)) = true ∧ toNats (.tuple (xs.map natD)) = xs := by
  constructor
  · show (_ && risB ltI 0 _) = true
    have e : (xs.map natD).map toInt = xs.map fun x : Nat => (x : Int) := by rw [List.map_map]; rfl
    have a : (xs.map natD).all (isNumD · 0 ((n : Int) - 1)) = true := by
      refine List.all_eq_true.mpr fun x hx => ?_
      obtain ⟨t, ht, rfl⟩ := List.mem_map.mp hx
      have := h.lt t ht
      show (decide ((0 : Int) ≤ (t : Int)) && decide ((t : Int) ≤ (n : Int) - 1)) = true
      simp; omega
    rw [a, e, Bool.true_and]
    unfold risB
    refine List.all_eq_true.mpr fun k hk => ?_
    obtain ⟨j, hj, rfl⟩ := List.mem_map.mp hk
    rw [List.mem_range, List.length_map] at hj
    have a1 : 1 + j - 1 < xs.length := by omega
    have a2 : 1 + j < xs.length := by omega
    have g := List.pairwise_iff_getElem.mp h.rise _ _ a1 a2 (by omega)
    rw [List.getD_eq_getElem?_getD, List.getD_eq_getElem?_getD, List.getElem?_map, List.getElem?_map, List.getElem?_eq_getElem a1, List.getElem?_eq_getElem a2]
    exact decide_eq_true (by show ((xs[1 + j - 1] : Nat) : Int) < ((xs[1 + j] : Nat) : Int); omega)
  · show (xs.map natD).map (fun x => (toInt x).toNat) = xs
    rw [List.map_map]
    exact (List.map_congr_left (g := id) fun x _ => by show (((x : Nat) : Int)).toNat = x; omega).trans (List.map_id _)
theorem Inc.ints {n : Nat} {xs : List Nat} (h : Inc n xs) : (xs.map fun x : Nat => (x : Int)).Pairwise (· < ·) := by
  rw [List.pairwise_map]
  exact h.rise.imp fun h => by omega
theorem natD_ints (xs : List Nat) : xs.map natD = (xs.map fun x : Nat => (x : Int)).map .int := by rw [List.map_map]; rfl
/-- things that are no ties -/
theorem ties_at {n : Nat} {l : List PyData} {x : PyData} (hx : x ∈ l) (h : isNumD x 0 ((n : Int) - 1) = false) : isTiesD n (.tuple l) = false := by
  show (l.all _ && _) = false
  have : l.all (isNumD · 0 ((n : Int) - 1)) = false := by
    refine Bool.eq_false_iff.mpr fun w => ?_
    have := List.all_eq_true.mp w x hx
    rw [h] at this; cases this
  rw [this]; rfl
def badTs (n : Nat) (found : List Nat) : List PyData := [.tuple (found.map natD ++ [natD n]), .tuple [.int (-1)], .tuple [.int 0, .int 0], .list (found.map natD), .none, .tuple [.str "0"], .tuple [.none], .tuple [.bool true, .int 2]]
theorem badTs_no {n : Nat} {found : List Nat} (hf : found.length ≤ 50) : ∀ x ∈ badTs n found, isTiesD n x = false ∧ lay x ∧ ∀ l, x = .tuple l → l.length ≤ 60 := by
  intro x hx
  simp only [badTs, List.mem_cons, List.not_mem_nil, or_false] at hx
  have nl : ∀ y ∈ found.map natD, lay y := fun y hy => by
    obtain ⟨i, _, rfl⟩ := List.mem_map.mp hy
    rfl
  rcases hx with rfl | rfl | rfl | rfl | rfl | rfl | rfl | rfl
  · refine ⟨ties_at (x := natD n) (by simp) ?_, ?_, fun l e => by cases e; simp; omega⟩
    · show (decide ((0 : Int) ≤ (n : Int)) && decide ((n : Int) ≤ (n : Int) - 1)) = false
      rw [decide_eq_false (show ¬ (n : Int) ≤ (n : Int) - 1 by omega), Bool.and_false]
    · exact (nc_tup (n := 0) fun y hy => by
        rcases List.mem_append.mp hy with h | h
        · obtain ⟨i, _, rfl⟩ := List.mem_map.mp h; exact nc_int _
        · rw [List.mem_singleton] at h; rw [h]; exact nc_int _).lay
  · exact ⟨ties_at (x := .int (-1)) (by simp) rfl, rfl, fun l e => by cases e; simp⟩
  · refine ⟨?_, rfl, fun l e => by cases e; simp⟩
    show (_ && false) = false
    rw [Bool.and_false]
  · exact ⟨rfl, (nc_lst (n := 0) fun y hy => by obtain ⟨i, _, rfl⟩ := List.mem_map.mp hy; exact nc_int _).lay, fun l e => by cases e⟩
  · exact ⟨rfl, rfl, fun l e => by cases e⟩
  · exact ⟨ties_at (x := .str "0") (by simp) rfl, by unfold lay; decide +kernel, fun l e => by cases e; simp⟩
  · exact ⟨ties_at (x := .none) (by simp) rfl, rfl, fun l e => by cases e; simp⟩
  · exact ⟨ties_at (x := .bool true) (by simp) rfl, rfl, fun l e => by cases e; simp⟩
theorem cut_take2 {α : Type} (xs : List α) : cutD xs none (some 2) = xs.take 2 := by
  show (xs.drop (HT.sIx xs.length 0 none)).take (HT.sIx xs.length xs.length (some ((2 : Nat) : Int)) - HT.sIx xs.length 0 none) = _
  rw [HT.sIx_none, HT.sIx_nat, List.drop_zero, Nat.sub_zero, List.take_eq_take_iff]
  omega
theorem cliq_of {P : Nat → Nat → Bool} {xs : List Nat} (h : xs.Pairwise fun i j => P i j = true) : cliqB P xs = true := by
  refine List.all_eq_true.mpr fun k hk => List.all_eq_true.mpr fun o ho => ?_
  rw [List.mem_range] at hk
  obtain ⟨i, hi, e⟩ := List.mem_iff_getElem.mp ho
  rw [List.getElem_drop] at e
  rw [List.length_drop] at hi
  rw [List.getD_eq_getElem?_getD, List.getElem?_eq_getElem hk, ← e]
  exact List.pairwise_iff_getElem.mp h _ _ hk (by omega) (by omega)
end DL

set_option Elab.async false
set_option linter.all false
set_option maxRecDepth 100000
set_option maxHeartbeats 4000000
namespace DL
open PySem PySem.Spec L2 PySem.HandSPX PyProof.Rows
set_option autoImplicit false
/-! ### an exception in the air, the frame that holds it at L -/
def AirL (X : Cx) (L : Addr) (W : XK) (u : Value) (s' : Shared) : Prop :=
  ∃ (a : Addr) (B : Heap) (sI : Shared) (pins : List (Addr × Obj)) (σ : L2.St) (H : Hp) (cls : Value) (d : Option Addr),
    u = .ref a ∧ Inv X pins σ H sI ∧ (∀ b o, sI.heap.get? b = some o → b ∉ frs X.stack → B.get? b = some o) ∧ sI.heap.UpToSlots s'.heap ∧
      Sky B X.stack a (Zc cls d) L s'.heap ∧ H a = none ∧ s'.os = sI.os ∧ AllBare s'.gens ∧ W cls d H
structure Tk (X : Cx) (L : Addr) (W : XK) : Prop where
  stk : ∃ e0 l, X.stack = e0 :: l ∧ e0.frame = some L
  fr : X.env.frame = some L
  tk : ∀ u s', AirL X L W u s' → X.xe u s'
theorem Tk.of {X : Cx} {W : XK} (hs : X.stack = X.env :: X.outer) (hf : X.env.frame = some X.env.locals) (t : Takes X fun c d _ H => W c d H) : Tk X X.env.locals W :=
  ⟨⟨_, _, hs, hf⟩, hf, fun u s' ⟨a, B, sI, pins, σ, H, cls, d, r⟩ => t u s' ⟨a, B, sI, pins, σ, H, cls, d, r⟩⟩
theorem Tk.takes {X : Cx} {W : XK} (t : Tk X X.env.locals W) : Takes X fun c d _ H => W c d H := fun u s' ⟨a, B, sI, pins, σ, H, cls, d, r⟩ => t.tk u s' ⟨a, B, sI, pins, σ, H, cls, d, r⟩
theorem air_call {X : Cx} {L : Addr} {W E : XK} {pins : List (Addr × Obj)} {σ : L2.St} {H : Hp} {s s' : Shared} (I : Inv X pins σ H s) (hW : ∀ cls d H', E cls d H' → W cls d H') {u : Value} (c : L2.CX X.prog X.w X.stack H s E u s') : AirL X L W u s' := by
  obtain ⟨a, B, sI, pins', σ', H', cls, d, e, J, nb, up, sky, na, os, ag, w⟩ := XE.of_call (W := fun c d _ H => W c d H) I hW c
  obtain ⟨a2, B2, H2, cls2, d2, e2, fl, _⟩ := c
  subst e
  cases e2
  obtain ⟨_, _, _, oe, vs, T, oT, ts, he, hz, hd, h1, _, _, hT, hdT, h3⟩ := fl
  refine ⟨a, B, sI, pins', σ', H', cls, d, rfl, J, nb, up, ?_, na, os, ag, w⟩
  rcases sky with ⟨_, _, _, oe', vs', he', _, hd', h1'⟩ | k | k
  · rw [he] at he'
    cases he'
    rw [hd] at hd'
    cases hd'
    rw [h1] at h1'
    cases h1'
  · exact .inr (.inl k)
  · obtain ⟨_, _, _, oe', vs', T', oT', ts', he', _, hd', h1', _, _, hT', hdT', h3'⟩ := k
    rw [he] at he'
    cases he'
    rw [hd] at hd'
    cases hd'
    rw [h1] at h1'
    cases h1'
    rw [hT] at hT'
    cases hT'
    rw [hdT] at hdT'
    cases hdT'
    rw [h3] at h3'
    exact absurd h3' (by simp [rawInt])
/-- the block of a comprehension hands on what flies through it -/
theorem tk_blk {X : Cx} {L : Addr} {W : XK} (tkX : Tk X L W) {pins : List (Addr × Obj)} {σ : L2.St} {H3 : Hp} {s3 : Shared} (I3 : Inv X pins σ H3 s3) {fp : List Addr} (f3 : ∀ b ∈ fp, FpOk X pins H3 b ∧ b < s3.heap.objs.size)
    {scope : Scope} {cl : List (PySem.Str × Addr)} {use : Option (Value → Sem Unit)} {Qf : Value → Shared → Prop} {acc : Value} {ce : Env} (hce : compEnvC scope cl s3.heap.objs.size X.env = ce) :
    Tk ((X.blk s3 H3 scope ce fp).wish (notedBy (model X.prog X.w) X.A ce fun e s' => compEnds (model X.prog X.w) X.A X.xe use Qf acc ce (.error e) s')) L W := by
  have cf : ce.frame = some L := by rw [← hce]; exact tkX.fr
  have cL : ce.locals = s3.heap.objs.size := by rw [← hce]; rfl
  refine ⟨tkX.stk, cf, fun u s' ⟨a, B, sI, pins', σ', H', cls, d, e, J', nb, up, sky, na, os, ag, w⟩ => ?_⟩
  subst e
  have J : Inv (X.blk s3 H3 scope ce fp) pins' σ' H' sI := J'.unwish
  obtain ⟨e0, l, hstk, he0⟩ := tkX.stk
  have hfr : X.A.frames = some (e0 :: l) := by rw [I3.ok.frames, hstk]
  obtain ⟨m, hnC, _⟩ := J.loc
  have hnC : sI.heap.Ns ce.locals m := hnC
  have sky : Sky B X.stack a (Zc cls d) L s'.heap := sky
  rw [hstk] at sky
  show wpAny (model X.prog X.w) X.A (noteFrame (.ref a) ce) (fun _ s'' => compEnds (model X.prog X.w) X.A X.xe use Qf acc ce (.error (.ref a)) s'') (fun e s'' => compEnds (model X.prog X.w) X.A X.xe use Qf acc ce (.error e) s'') s'
  rw [noteFrame_env (.ref a) (cf.trans he0.symm)]
  have note : ∀ {Q : Unit → Shared → Prop} {E : Value → Shared → Prop}, (∀ h', HeldZ B (e0 :: l) a (Zc cls d) L h' → s'.heap.UpToSlots h' → Q () { s' with heap := h' }) → wpAny (model X.prog X.w) X.A (noteFrame (.ref a) e0) Q E s' := fun {Q E} hQ => by
    rcases sky with ⟨k1, k2, k3, oe, vs, he, hz, hd, h1⟩ | k | k
    · exact look_newZ Zc.steady hfr k3 he0 he k1 k2 hd h1 hz hQ
    · exact looks_onZ Zc.steady hfr he0 k hQ
    · exact againZ he0 k.2.2.2 (hQ s'.heap k (Heap.UpToSlots.refl _))
  refine note fun h1 held up1 => ?_
  have fails : CompFails (model X.prog X.w) X.A X.xe ce (.ref a) { s' with heap := h1 } := by
    have hn1 : h1.Ns ce.locals m := (up.trans up1).ns hnC
    refine ⟨m, hn1, fun h2 m2 hn2 hs2 => ?_⟩
    have hs2 : Heap.SameBut ce.locals h1 h2 := hs2
    have hn2 : h2.Ns ce.locals m2 := hn2
    obtain ⟨B2, b1, b2⟩ := restrict B fun b => decide (b ≠ ce.locals)
    have le2 : ∀ b o, B2.get? b = some o → b ≠ ce.locals ∧ B.get? b = some o := fun b o e => by
      by_cases q : b = ce.locals
      · rw [b2 b (by simp [q])] at e
        cases e
      · exact ⟨q, by rw [← b1 b (by simp [q])]; exact e⟩
    have no2 : ∀ b, B.get? b = none → B2.get? b = none := fun b e => by
      cases q : B2.get? b with
      | none => rfl
      | some o =>
        have := (le2 b o q).2
        rw [e] at this
        cases this
    obtain ⟨oC, es, ep, hoC, hdC, _⟩ := id hn1
    obtain ⟨oe, vs, T, oT, ts, he, hz, hd, h1', hnT, hTe, hT, hdT, h3⟩ := id held.2.2.2
    have ac : a ≠ ce.locals := fun q => by
      rw [q, hoC] at he
      cases he
      rw [hdC] at hd
      cases hd
    have tc : T ≠ ce.locals := fun q => by
      rw [q, hoC] at hT
      cases hT
      rw [hdC] at hdT
      cases hdT
    have held2 : HeldZ B2 (e0 :: l) a (Zc cls d) L h2 :=
      ⟨fun b o e => (hs2.2 b (le2 b o e).1).trans (held.1 b o (le2 b o e).2), no2 a held.2.1, Heap.FunFrames.sameBut hs2 hn2 (funFrames_none held.2.2.1 fun L' hL' => no2 L' (held.2.2.1.mem hL').1),
        oe, vs, T, oT, ts, (hs2.2 a ac).trans he, hz, hd, h1', no2 T hnT, hTe, (hs2.2 T tc).trans hT, hdT, h3⟩
    unfold PySem.passOn
    refine wpAny_bind (wpAny_field (s := { s' with heap := h2 }) ((hs2.2 a ac).trans he) hd h1' ?_)
    rw [if_neg (show ¬ ((Value.ref T == Value.none) = true) from by simp)]
    rw [cf]
    refine wpAny_bind (setFlight_onZ (s := { s' with heap := h2 }) held2 fun h3 held3 up3 => ?_)
    refine wpAny_throw ?_
    obtain ⟨G, g1, g2⟩ := restrict sI.heap fun b => decide (b ≠ ce.locals)
    have leG : ∀ b o, G.get? b = some o → b ≠ ce.locals ∧ sI.heap.get? b = some o := fun b o e => by
      by_cases q : b = ce.locals
      · rw [g2 b (by simp [q])] at e
        cases e
      · exact ⟨q, by rw [← g1 b (by simp [q])]; exact e⟩
    have geG : ∀ b, b ≠ ce.locals → G.get? b = sI.heap.get? b := fun b q => g1 b (by simp [q])
    have old : ∀ b o, s3.heap.get? b = some o → b ≠ ce.locals := fun b o e => by
      rw [cL]
      exact Nat.ne_of_lt (Heap.lt_size e)
    have un : Un (frs X.stack) fp H3 H' s3.heap sI.heap := J.base
    have nCl : H' ce.locals = none := J.free
    have IX : Inv X pins σ H' { sI with heap := G } := by
      refine I3.call' (ch := fp) (s' := { sI with heap := G }) J.os ⟨fun b o q n hb hx => (geG b (old b o q)).trans (un.keep b o q n hb hx), fun b o q n hb hx => ?_, un.free, fun b o q hx => ?_, un.tups, un.frzs, un.tbls⟩ (fun b o q => ?_) J.bare fun b hb => ⟨(f3 b hb).1.2.2.2.1, (f3 b hb).1.2.1, (f3 b hb).1.2.2.2.2.1, (f3 b hb).1.2.2.2.2.2⟩
      · obtain ⟨sl, z⟩ := un.slot b o q n hb hx
        exact ⟨sl, (geG b (old b o q)).trans z⟩
      · obtain ⟨o', z⟩ := un.there b o q hx
        exact ⟨o', (geG b (old b o q)).trans z⟩
      · refine (J.hok b o q).stay (fun c u hc r => (geG c fun z => ?_).trans r) (fun _ r => r) fun _ _ r => r
        rcases hc with hc | hc
        · rw [← hc, z, nCl] at q
          cases q
        · rw [z, nCl] at hc
          cases hc
    refine tkX.tk _ _ ⟨a, B2, { sI with heap := G }, pins, σ, H', cls, d, rfl, IX, fun b o e hb => ?_, fun b o e hnf => ?_, .inr (.inr (by rw [hstk]; exact held3)), na, os, ag, w⟩
    · obtain ⟨z1, z2⟩ := leG b o e
      rw [b1 b (by simp [z1])]
      exact nb b o z2 hb
    · obtain ⟨z1, z2⟩ := leG b o e
      obtain ⟨sl, q1⟩ := (up.trans up1) b o z2 hnf
      obtain ⟨sl2, q2⟩ := up3 b _ ((hs2.2 b z1).trans q1) hnf
      exact ⟨sl2, q2⟩
  cases use <;> exact fails
end DL

set_option Elab.async false
set_option linter.all false
set_option maxRecDepth 100000
set_option maxHeartbeats 4000000
namespace DL
open PySem PySem.Spec L2 PySem.HandSPX PyProof.Rows
set_option autoImplicit false
/-! ### a list comprehension whose element may raise -/
section
variable {X : Cx} {L : Addr} {W : XK} {pins : List (Addr × Obj)} {s : Shared} {σ : L2.St} {H : Hp} {Q : VK} {elt tg iter : Expr} {ifs : List Expr} {scope : Scope} {own : List (PySem.Str × Nat)} {pos : Pos} {wi : TI} {g : TG} {tt : TT} {te : TE}
/-- the element's reading in the block, whatever it lets out going to W -/
def EltX (X : Cx) (L : Addr) (W : XK) (scope : Scope) (elt : Expr) (te : TE) : Prop :=
  ∀ (s : Shared) (H : Hp) (C : Addr) (cl : List (PySem.Str × Addr)) (fp : List Addr) (xe : Value → Shared → Prop), PassesOwn (model X.prog X.w) X.A (compEnvC scope cl C X.env) xe → Tk ((X.blk s H scope (compEnvC scope cl C X.env) fp).wish xe) L W → PE ((X.blk s H scope (compEnvC scope cl C X.env) fp).wish xe) elt te
theorem lcx {pos' : Pos} {use : Option (Value → Sem Unit)} {Qf : Value → Shared → Prop} (tkX : Tk X L W)
    (hc : X.calm = true) (hN : X.N.Nodup) (I : Inv X pins σ H s) (hi : PI X tg iter wi) (ok : BlkOk X.N X.env.scope scope own)
    (hg : ∀ (s : Shared) (H : Hp) (C : Addr) (cl : List (PySem.Str × Addr)) (fp : List Addr), PG (X.blk s H scope (compEnvC scope cl C X.env) fp) tg g) (ht : ∀ (s : Shared) (H : Hp) (C : Addr) (cl : List (PySem.Str × Addr)) (fp : List Addr), PTs (X.blk s H scope (compEnvC scope cl C X.env) fp) ifs tt)
    (he : EltX X L W scope elt te) (hs : ∀ x, foldedSetIterable iter X.env x = pure x) (h : tLc wi g tt te (own.map (·.2)) σ H Q)
    (hRR : ∀ D (ce : Env) s' m H', Inv X pins σ H' s' → Q (.ref D) H' → s'.heap.Ns ce.locals m → FpOk X pins H' ce.locals → compEnds (model X.prog X.w) X.A X.xe use Qf (.ref D) ce (.ok .next) s') :
    wpAny (model X.prog X.w) X.A (comprehension (.ListComp elt [⟨tg, iter, ifs, 0⟩] scope pos) scope X.env pos' (newList []) false (eval iter X.env) use) Qf X.xe s := by
  have hfree : ∀ y ∈ scope.names, y.2 = .free → ∃ c, X.env.cells.lookup y.1 = some c := fun y hy e => by
    rcases ok.free y hy e with k | k
    · exact I.ok.has _ (.inl k)
    · exact I.ok.has _ (.inr k)
  refine comprehension_at (use := use) rfl hs (closure_ok hfree) ok.kind (fun y hy e => by rw [ok.uniq y hy, e])
    (thn (hi.run pins s σ H _ I h) fun xv s1 hx => thn hx fun itv s2 h2 => ?_)
  obtain ⟨it, fp, tn, J, H2, e, I2, T, st2, f2, q⟩ := h2
  subst e
  refine wpAny_newObj_type (newEnv_comp ?_) (by show 0 ≤ sizeLine; decide)
  generalize hD : s2.heap.objs.size = D
  obtain ⟨W0, ⟨m0, w0⟩, turn⟩ := q D (I2.hok.fresh (Nat.le_of_eq hD))
  generalize hs3 : ({ s2 with heap := s2.heap.push { cls := .type "list", data := .seq ([] : List Value).toArray } } : Shared) = s3
  have I3 : Inv X pins σ (upd H2 D (.lst [])) s3 := by
    rw [← hs3]
    refine I2.laid (t' := s2.toks) (fun b o e => Heap.get?_push_of_some _ e) (Nat.le_of_eq hD) ⟨Nat.zero_le _, [], 0, .nil, ?_⟩
    rw [← hD]
    exact Heap.get?_push_size _ rfl
  have h3 : s3.heap = s2.heap.push { cls := .type "list", data := .seq ([] : List Value).toArray } := by rw [← hs3]
  have sz : ∀ b ∈ fp, b < s2.heap.objs.size := fun b hb => by
    obtain ⟨o, e, _⟩ := T.obj _ _ st2 b hb
    exact Heap.lt_size e
  have f3 : ∀ b ∈ fp, FpOk X pins (upd H2 D (.lst [])) b ∧ b < s3.heap.objs.size := fun b hb => by
    have hlt := sz b hb
    refine ⟨⟨?_, (f2 b hb).2⟩, by rw [h3, Heap.size_push]; exact Nat.lt_succ_of_lt hlt⟩
    rw [upd_ne (by rw [← hD]; exact Nat.ne_of_lt hlt)]
    exact (f2 b hb).1
  have st3 : tn 0 s3.heap := T.keep _ _ _ st2 fun b _ o e => by rw [h3]; exact Heap.get?_push_of_some _ e
  have I4 := block_start I3 ok hN f3
  generalize hcl : cellsFrom (s3.heap.objs.size + 1) scope.names (cloFrom X.env.cells scope.names []) = cl at I4
  generalize hce : compEnvC scope cl s3.heap.objs.size X.env = ce at I4
  show codeAny _ _ (.compStart (.ListComp elt [⟨tg, iter, ifs, 0⟩] scope pos) 0 (.ref it) (.ref D) (compEnvC scope cl s3.heap.objs.size X.env)) (compEnds (model X.prog X.w) X.A X.xe use Qf (.ref D) (compEnvC scope cl s3.heap.objs.size X.env)) { s3 with heap := pushCells (s3.heap.push { cls := .type "dict", data := .dict #[] }) scope.names }
  rw [hce]
  have pg := hg s3 (upd H2 D (.lst [])) s3.heap.objs.size cl fp
  have pt := ht s3 (upd H2 D (.lst [])) s3.heap.objs.size cl fp
  have pe := he s3 (upd H2 D (.lst [])) s3.heap.objs.size cl fp (notedBy (model X.prog X.w) X.A ce fun e s' => compEnds (model X.prog X.w) X.A X.xe use Qf (.ref D) ce (.error e) s')
  rw [hce] at pg pt pe
  have pe := pe PassesOwn.looking (tk_blk tkX I3 f3 hce)
  have nfp : ∀ b ∈ fp, (upd H2 D (.lst [])) b = none := fun b hb => (f3 b hb).1.1
  have cL : ce.locals = s3.heap.objs.size := by rw [← hce]; rfl
  generalize hH3 : upd H2 D (.lst []) = H3 at I3 I4 pg pt pe w0 nfp f3
  generalize hs4 : ({ s3 with heap := pushCells (s3.heap.push { cls := .type "dict", data := .dict #[] }) scope.names } : Shared) = s4 at I4 ⊢
  have st4 : tn 0 s4.heap := T.keep _ _ _ st3 fun b _ o e => by rw [← hs4]; exact pushCells_keeps _ _ _ _ (Heap.get?_push_of_some _ e)
  have stat : ∀ {σ' : L2.St} {H' : Hp} {s' : Shared}, Inv (X.blk s3 H3 scope ce fp) [] σ' H' s' → (∀ b ∈ fp, H' b = none) → ∀ b ∈ fp, FpOk (X.blk s3 H3 scope ce fp) [] H' b := fun {σ' H' s'} I' hn b hb =>
    ⟨hn b hb, (I'.ok.exf b hb).1, I'.ok.exfs b hb, .inl hb, fun x c e => (I'.ok.exf b hb).2 x c e, fun p hp => absurd (show p ∈ ([] : List (Addr × Obj)) ++ [] from hp) (by simp)⟩
  have loop : codeAny (model X.prog X.w) X.A (.compLoop (.ListComp elt [⟨tg, iter, ifs, 0⟩] scope pos) 0 (.ref it) (.ref D) ce) (compEnds (model X.prog X.w) X.A X.xe use Qf (.ref D) ce) s4 := by
    refine compLoop_any (fun n s' => ∃ i H', Inv (X.blk s3 H3 scope ce fp) [] (wipe σ (own.map (·.2))) H' s' ∧ tn i s'.heap ∧ (∀ b ∈ fp, H' b = none) ∧ W0 i n H') ?_ m0 ⟨0, H3, I4, st4, nfp, w0⟩
    rintro n s5 ⟨i, H5, I5, st5, n5, w5⟩
    rcases turn i n H5 w5 with ⟨stop, qq⟩ | ⟨go, Nx, hNx, step⟩
    · refine thnF (T.done (X.blk s3 H3 scope ce fp) rfl rfl rfl hc i [] s5 _ H5 (fun _ _ => False) I5 (stat I5 n5) st5 stop) fun r s6 ⟨hr, I6⟩ => ?_
      subst hr
      have I7 : Inv X pins σ H5 s6 := I3.call' (ch := fp) I6.os I6.base I6.hok I6.bare fun b hb => ⟨(f3 b hb).1.2.2.2.1, (f3 b hb).1.2.1, (f3 b hb).1.2.2.2.2.1, (f3 b hb).1.2.2.2.2.2⟩
      have nC : H5 ce.locals = none := I6.free
      obtain ⟨m, hn, _⟩ := I6.loc
      exact hRR D ce s6 m H5 I7 qq hn (by rw [cL]; exact I3.fpOk (Nat.le_refl _) (by rw [← cL]; exact nC))
    · refine thnF (T.item (X.blk s3 H3 scope ce fp) rfl rfl rfl hc i [] s5 _ H5 (fun _ _ => False) I5 (stat I5 n5) st5 go) fun r s6 ⟨u, hr, h6⟩ => ?_
      subst hr
      refine thnF h6 fun _ s7 ⟨x, H7, I7, r7, y7, st7, n7⟩ => ?_
      have I7' := I7.pinned (stat I7 n7) (T.obj _ _ st7)
      refine thnF (pg.run _ s7 _ H7 x u _ I7' r7 (step x H7 y7)) fun _ s8 ⟨σ8, H8, I8, hw8, q8⟩ => ?_
      refine thnF (pt.run _ s8 σ8 H8 _ I8 q8) fun b s9 ⟨H9, I9, q9⟩ => ?_
      have fin : ∀ {s' : Shared} {H' : Hp}, Inv (X.blk s3 H3 scope ce fp) ([] ++ pinsAt fp s7.heap) σ8 H' s' → Nx H' → ∃ m, m < n ∧ ∃ i H', Inv (X.blk s3 H3 scope ce fp) [] (wipe σ (own.map (·.2))) H' s' ∧ tn i s'.heap ∧ (∀ b ∈ fp, H' b = none) ∧ W0 i m H' := fun {s' H'} I' nx => by
        obtain ⟨m', hm, w'⟩ := hNx H' nx
        have pin' : ∀ b ∈ fp, ∀ o, s7.heap.get? b = some o → s'.heap.get? b = some o ∧ H' b = none := fun b hb o e =>
          let z := I'.pin (b, o) (List.mem_append_right _ (List.mem_append_right _ (mem_pinsAt hb e)))
          ⟨z.1, z.2.1⟩
        refine ⟨m', hm, i + 1, H', (I'.unpinned (pins := [])).weak (by rw [← hw8, wipe_length]) (fun j v e => ?_), T.keep _ _ _ st7 fun b hb o e => (pin' b hb o e).1, fun b hb => ?_, w'⟩
        · rw [← hw8] at e
          exact (wipe_some e).1
        · obtain ⟨o, e, _⟩ := T.obj _ _ st7 b hb
          exact (pin' b hb o e).2
      cases b with
      | false =>
        simp only [Bool.false_eq_true, if_false] at q9 ⊢
        exact fin I9 q9
      | true =>
        simp only [if_true] at q9 ⊢
        refine wpAny_mono (pe.run _ s9 σ8 H9 _ (I9.wish _) q9) (fun z s10 ⟨yv, H10, I10, r10, acc, hD10, hz10, nx⟩ => ?_) fun _ _ z => z
        exact app_ok (X := X.blk s3 H3 scope ce fp) I10.unwish hD10 hz10 r10 fun s11 I11 => fin I11 nx
  exact codeAny_compStart_list loop (T.self X.A 0 _ _ _ st4 loop)
theorem pe_lcx (tkX : Tk X L W) (hc : X.calm = true) (hN : X.N.Nodup) (hi : PI X tg iter wi) (ok : BlkOk X.N X.env.scope scope own)
    (hg : ∀ (s : Shared) (H : Hp) (C : Addr) (cl : List (PySem.Str × Addr)) (fp : List Addr), PG (X.blk s H scope (compEnvC scope cl C X.env) fp) tg g) (ht : ∀ (s : Shared) (H : Hp) (C : Addr) (cl : List (PySem.Str × Addr)) (fp : List Addr), PTs (X.blk s H scope (compEnvC scope cl C X.env) fp) ifs tt)
    (he : EltX X L W scope elt te) (hs : ∀ x, foldedSetIterable iter X.env x = pure x) : PE X (.ListComp elt [⟨tg, iter, ifs, 0⟩] scope pos) (tLc wi g tt te (own.map (·.2))) := by
  refine ⟨fun pins s σ H Q I h => ?_⟩
  rw [eval_ListComp]
  refine lcx tkX hc hN I hi ok hg ht he hs h fun D ce s' m H' I' q hn f => ⟨m, hn, fun h'' sb => ?_⟩
  obtain ⟨f0, f1, f2, f3, f4, f5⟩ := f
  exact ⟨.ref D, H', I'.turned (t' := s'.toks) (fun b o hb e => (sb.2 b hb).trans e) f0 f1 f3 f4 f5, rfl, q⟩
theorem ps_lcx {i : Nat} {y : PySem.Str} {py spos : Pos} (tkX : Tk X L W) (hc : X.calm = true) (hN : X.N.Nodup) (hy : X.N[i]? = some y) (hyl : X.env.scope.names.lookup y = some .local)
    (hsw : swapsWith (.ListComp elt [⟨tg, iter, ifs, 0⟩] scope pos) (some (.Name y py)) spos.line X.env = pure true) (hi : PI X tg iter wi) (ok : BlkOk X.N X.env.scope scope own)
    (hg : ∀ (s : Shared) (H : Hp) (C : Addr) (cl : List (PySem.Str × Addr)) (fp : List Addr), PG (X.blk s H scope (compEnvC scope cl C X.env) fp) tg g) (ht : ∀ (s : Shared) (H : Hp) (C : Addr) (cl : List (PySem.Str × Addr)) (fp : List Addr), PTs (X.blk s H scope (compEnvC scope cl C X.env) fp) ifs tt)
    (he : EltX X L W scope elt te) (hs : ∀ x, foldedSetIterable iter X.env x = pure x) :
    PS X (.Assign [.Name y py] (.ListComp elt [⟨tg, iter, ifs, 0⟩] scope pos) spos) (tAsg (tLc wi g tt te (own.map (·.2))) (gName i)) := by
  refine ⟨fun pins s σ H D I h => ?_⟩
  rw [exec_Assign_Name_used _ _ _ _ hsw]
  refine wpAny_bind (wpAny_standAt (wpAny_bind ?_))
  show wpAny _ X.A (do let _ ← comprehension (.ListComp elt [⟨tg, iter, ifs, 0⟩] scope pos) scope X.env (firstIterPos [⟨tg, iter, ifs, 0⟩] pos) (newList []) false (eval iter X.env) (some (assign (.Name y py) X.env))) _ _ s
  have h : tLc wi g tt te (own.map (·.2)) σ H (fun x H1 => gName i x σ H1 D.nx) := h
  refine wpAny_bind (thn (lcx (Qf := fun _ s' => SP X pins D .next s') tkX hc hN I hi ok hg ht he hs h fun D2 ce s' m H' I' q hn f => ?_) fun _ s' hq => wpAny_pure (wpAny_pure hq))
  show wpAny _ _ (assign (.Name y py) X.env (.ref D2)) _ _ _
  refine wpAny_assign_Name (store_ok2 (v := V.ref D2) I' hN hy (.inl hyl) rfl (fun s2 I2 ⟨a, sb, ha⟩ => ?_) (.inr hyl))
  obtain ⟨f0, f1, f2, f3, f4, f5⟩ := f
  have haC : ce.locals ≠ a := by
    rcases ha with z | z
    · rw [z]; exact f1
    · exact fun e => f4 y a z e.symm
  exact ⟨m, hn.sameBut sb haC, fun h3 sb3 => ⟨_, H', I2.turned (t' := s2.toks) (fun b o hb e => (sb3.2 b hb).trans e) f0 f1 f3 f4 f5, q⟩⟩
end
end DL

set_option Elab.async false
set_option linter.all false
set_option maxRecDepth 100000
set_option maxHeartbeats 4000000
namespace DL
open PySem PySem.Spec L2 PyProof.Rows
set_option autoImplicit false
/-! ### what raises, on data: always the class C, nothing else -/
def tXR (K : PySem.W.Frag) (C : Value) (W : XK) (δ : DEnv) : TE := fun σ H _ => ∃ S, SOk S H ∧ Rel K S δ σ H ∧ ∀ H', Same H H' → W C none H'
def tXS (K : PySem.W.Frag) (C : Value) (W : XK) (δ : DEnv) (ω : Own) : TS := fun _ σ H => ∃ S H0, SOk S H0 ∧ SRel K S H0 δ ω σ H ∧ ∀ H', Same H0 H' → W C none H'
def DVX (G : Ct) (δ : DEnv) (e : Expr) (C : Value) : Prop := ∀ X, G.Is X → ∀ L W, Tk X L W → PE X e (tXR G.m.K C W δ)
def DSX (G : Ct) (δ : DEnv) (ω : Own) (st : Stmt) (C : Value) : Prop := ∀ X, G.Is X → ∀ W, Tk X X.env.locals W → PS X st (tXS G.m.K C W δ ω)
def DSXs (G : Ct) (δ : DEnv) (ω : Own) (sts : List Stmt) (C : Value) : Prop := ∀ X, G.Is X → ∀ W, Tk X X.env.locals W → PSs X sts (tXS G.m.K C W δ ω)
theorem Ct.Is.wish {G : Ct} {X : Cx} (h : G.Is X) {xe : Value → Shared → Prop} (p : PassesOwn (model X.prog X.w) X.A X.env xe) : G.Is (X.wish xe) :=
  ⟨h.prog, h.w, h.K, h.mg, h.base, h.N, h.nd, h.sc, h.calm, h.rm, p, h.fn, h.nodbg⟩
/-- an own exception class, made of a text -/
structure ExcM (m : Md) (x : PySem.Str) (C : Addr) : Prop where
  exc : PySem.W.excIn m.K C [.type "ValueError", .type "Exception", .type "BaseException", .type "object"] "ValueError.__new__" = true
  gC : m.mg x = some (.ref C)
  kC : PySem.W.keepIn m.K (.ref C) = true
  sub : PySem.W.subIn m.K (.ref C) (.type "BaseException") = some true
  ty : PySem.W.typeIn m.K (.ref C) = some (.type "type")
/-- a def that raises -/
def spX (K : PySem.W.Frag) (C : Value) (R : List PyData → Prop) : Sp := fun vs H _ E => ∃ S ds, R ds ∧ SOk S H ∧ RpAll K (hide S H) vs ds ∧ ∀ H', Same H H' → E C none H'
structure FnX (m : Md) (n : PySem.Str) (k : Nat) (C : Value) (R : List PyData → Prop) : Prop where
  ex : ∃ f fd ps, m.mg n = some (.ref f) ∧ PySem.W.keepIn m.K (.ref f) = true ∧ Binds m.K fd ps [] ∧ FnOk m.P m.w m.K m.mg m.base (L2.CX m.P m.w) k f fd ps (spX m.K C R)
section
variable {G : Ct} {δ δ1 : DEnv} {ω ω1 : Own} {st : Stmt} {rest thn els body : List Stmt} {C : Value} {a c e elt tg iter : Expr} {es : List Expr} {x d : PyData} {ds items res : List PyData} {pos p p2 pos' spos py : Pos} {scope : Scope}
theorem dsxs_first (h : DSX G δ ω st C) : DSXs G δ ω (st :: rest) C := fun X hX W tk => PSs.imp (pss_cons (h X hX W tk) pss_never) fun D σ H q => q
theorem dsxs_cons (h : DS G δ ω st (.next δ1 ω1)) (h2 : DSXs G δ1 ω1 rest C) : DSXs G δ ω (st :: rest) C := fun X hX W tk =>
  PSs.imp (pss_cons (h X hX) (h2 X hX W tk)) fun D σ H ⟨S, H0, hS, r, q⟩ => ⟨S, H0, _, _, _, ⟨rfl, rfl, rfl⟩, hS, r, fun σ' H' r' => ⟨S, H0, hS, r', q⟩⟩
theorem dsx_if (hc : DT G (ov δ ω) c true) (h : DSXs G δ ω thn C) : DSX G δ ω (.If c thn els pos) C := fun X hX W tk =>
  PS.imp (ps_if (hc X hX) (h X hX W tk) (pss_never (sts := els))) fun D σ H ⟨S, H0, hS, r, q⟩ => by
    obtain ⟨as, B⟩ := r.bs hS
    exact ⟨_, _, _, ⟨rfl, rfl⟩, B.okS, B.relS, fun H' s => iteT ⟨S, H0, hS, r.mono s, q⟩⟩
theorem dsx_raise {n m : PySem.Str} {A : Addr} {j : Nat} (F : ExcM G.m n A) (hg : globB G.sc n = true) (hd : (n == ("__debug__" : PySem.Str)) = false := by decide) : DSX G δ ω (.Raise (some (.Call (.Name n p) [.Constant (.str m) j p2] [] pos)) none pos') (.ref A) := fun X hX W tk =>
  PS.imp (ps_raise hX.calm tk.takes (pmk_own PySem.F.excBase_ValueError (by rw [hX.K]; exact F.exc) (by rw [hX.mg]; exact F.gC) (by rw [hX.K]; exact F.kC) (raises_own (by rw [hX.K]; exact F.sub) (by rw [hX.K]; exact F.ty)) (gl_of hX hg) hd)) fun D σ H ⟨S, H0, hS, r, q⟩ => q H (r.over hS).2.1
theorem dsx_set {n : PySem.Str} {i : Nat} (hN : G.N[i]? = some n) (hl : locB G n = true) (h : DVX G (ov δ ω) e C) (hs : ∀ env : Env, swapsWith e (some (.Name n p)) pos.line env = pure false := by intro _; rfl) : DSX G δ ω (.Assign [.Name n p] e pos) C := fun X hX W tk =>
  PS.imp (ps_set hX.nd (by rw [hX.N]; exact hN) (by rw [hX.sc]; exact loc_of hl) (h X hX _ W tk) (hs _) (loc_fn hX hl)) fun D σ H ⟨S, H0, hS, r, q⟩ => by
    obtain ⟨h1, h2, h3⟩ := r.over hS
    exact ⟨S, h1, h3, fun H' s => q H' (h2.trans s)⟩
theorem pa_never {X : Cx} {es : List Expr} : PA X es (fun _ _ _ => False) := ⟨fun _ _ _ _ _ _ _ h => h.elim⟩
/-- f(e, ..), T(e, ..) where e raises -/
theorem dvx_ct {n : PySem.Str} {T : String} (hg : globB G.sc n = true) (hm : G.m.mg n = none) (hv : bootBuiltins n = some (.type T)) (h : DVX G δ e C) (hn : n ≠ "__name__" := by decide) (hdb : (n == ("__debug__" : PySem.Str)) = false := by decide)
    (he : ∀ env : Env, starEach (e :: es) env = (false, eval e env) :: starEach es env := by intro _; rfl) (hpl : ∀ env : Env, (backTo pos (starEach es env)).any (·.1) = false := by intro _; rfl) : DVX G δ (.Call (.Name n p) (e :: es) [] pos) C := fun X hX L W tk =>
  PE.imp (pe_callTy (r := fun _ _ _ => False) (fun _ _ _ _ _ _ _ _ _ z => z.elim) (gl_of hX hg) (by rw [hX.mg]; exact hm) hv (pa_cons (h X hX L W tk) pa_never (he _)) hn hdb (he _) (hpl _)) fun σ H Q q => q
theorem dvx_tup {k} (h : DVX G δ e C) (he : ∀ env : Env, starEach (e :: es) env = (false, eval e env) :: starEach es env := by intro _; rfl) : DVX G δ (.Tuple (e :: es) k pos) C := fun X hX L W tk =>
  PE.imp (pe_tup (pa_cons (h X hX L W tk) pa_never (he _))) fun σ H Q q => q
theorem dvx_call {n : PySem.Str} {k : Nat} {R : List PyData → Prop} (F : FnX G.m n k C R) (hk : k ≤ G.rm) (hg : globB G.sc n = true) (ha : DA G δ (e :: es) ds) (hR : R ds) (hd : (n == ("__debug__" : PySem.Str)) = false := by decide)
    (he : ∀ env : Env, starEach (e :: es) env = (false, eval e env) :: starEach es env := by intro _; rfl) (hpl : ∀ env : Env, (backTo pos (starEach es env)).any (·.1) = false := by intro _; rfl) : DVX G δ (.Call (.Name n p) (e :: es) [] pos) C := fun X hX L W tk => by
  obtain ⟨f, fd, ps, h1, h2, h3, h4⟩ := F.ex
  have F' : FnOk X.prog X.w X.K X.mg X.base (L2.CX X.prog X.w) k f fd ps (spX G.m.K C R) := by rw [hX.prog, hX.w, hX.K, hX.mg, hX.base]; exact h4
  refine PE.imp (pe_call (E := W) F' (hX.rm.mono hk) (gl_of hX hg) (by rw [hX.mg]; exact h1) (by rw [hX.K]; exact h2) (by rw [hX.K]; exact h3) .nil (fun _ _ _ _ e s' I c => tk.tk e s' (air_call I (fun _ _ _ h => h) c)) (ha X hX) hd (he _) (hpl _)) fun σ H Q ⟨S, ok, R', q⟩ => ?_
  refine ⟨S, _, _, ⟨rfl, rfl⟩, ok, R', fun vs H1 s1 r1 => ?_⟩
  exact ⟨S, ds, hR, ok.mono s1, by rw [List.append_nil]; exact r1, fun H' s2 => q H' (s1.trans s2)⟩
/-! a comprehension: the first items give, then one raises -/
def eXf (G : Ct) (scope : Scope) (elt : Expr) (C : Value) (W : XK) : TE := fun σ H Q => eOf G scope elt σ H Q ∨ ∃ δb, DVX (G.blk scope) δb elt C ∧ tXR G.m.K C W δb σ H Q
theorem elt_x {X : Cx} (hX : G.Is X) {L : Addr} {W : XK} : EltX X L W scope elt (eXf G scope elt C W) := fun s H C cl fp xe pass tk => by
  have hB := (hX.blk (scope := scope) s H C cl fp).wish pass
  refine ⟨fun pins s σ H Q I h => ?_⟩
  rcases h with h | ⟨δb, hx, h⟩
  · exact (pe_of hB).run pins s σ H Q I h
  · exact (hx _ hB L W tk).run pins s σ H Q I h
theorem lc_runx {wi : TI} {σ : L2.St} {H : Hp} {S : List Addr} {Q : VK} {W : XK} {ts : TSpec} {k : Nat} {d : PyData} {δb : DEnv} (vs : List Nat) (hsub : ∀ i ∈ ts.ix, i ∈ vs) (hz : items.length ≤ 16777216) (ht : Turns G scope ts [] elt (dwipe δ vs) (items.take k) res) (hkk : items[k]? = some d)
    (hb : bindT ts d (dwipe δ vs) = some δb) (hx : DVX (G.blk scope) δb elt C) (ok : SOk S H) (R : Rel G.m.K S δ σ H) (hW : ∀ H', Same H H' → W C none H')
    (hwi : ∀ (Q : It → Hp → Prop), (∀ J H', Same H H' → (∀ (S2 : List Addr) (H2 : Hp), Same (hide S H') (hide S2 H2) → SOk S2 H2 →
        (∀ (i : Nat) (d : PyData), items[i]? = some d → J.go i H2 ∧ ∀ x H3, J.yld i H2 x H3 → Same H2 H3 ∧ ts.rep G.m.K (hide S2 H3) x d) ∧ J.stop items.length H2) → Q J H') → wi σ H Q) :
    tLc wi (tDG G.m.K ts) (tOf G scope []) (eXf G scope elt C W) vs σ H Q := by
  have hkl : k < items.length := (List.getElem?_eq_some_iff.mp hkk).1
  refine hwi _ fun J H1 s1 itok D hD => ?_
  have hd0 : ∀ {H' : Hp}, hide (D :: S) H' = hide S (hide [D] H') := fun {H'} => hide_app [D] S H'
  refine ⟨fun i m H' => m = items.length - i ∧ i ≤ k ∧ Same H1 (hide [D] H') ∧ ∃ acc r2, H' D = some (.lst acc) ∧ acc.length ≤ i ∧ Turns G scope ts [] elt (dwipe δ vs) ((items.take k).drop i) r2,
    ⟨_, rfl, Nat.zero_le _, ?_, [], res, upd_same, Nat.le_refl _, ht⟩, ?_⟩
  · rw [hide_cons_upd hD]
    intro b o e
    rw [hide_out (by simp)]
    exact e
  rintro i m H' ⟨em, hi, hsm, acc, r2, hacc, hal, hrun⟩
  have okD : SOk (D :: S) H' := fun a ha => by
    rcases List.mem_cons.mp ha with z | z
    · rw [z, hacc]; simp
    · exact (SOk.mono (SOk.mono (ok.mono s1) hsm) (hide_sub _ _)) a z
  have sF : Same (hide S H1) (hide (D :: S) H') := by rw [hd0]; exact hide_mono hsm
  have RD : Rel G.m.K (D :: S) (dwipe δ vs) (wipe σ vs) H' := by
    have := (R.mono s1).wiped vs
    exact ⟨this.len, fun i d e => let ⟨v, z1, z2⟩ := this.val i d e; ⟨v, z1, z2.mono sF⟩⟩
  obtain ⟨hgo, hstop⟩ := itok (D :: S) H' sF okD
  have hil : i < items.length := by omega
  obtain ⟨go, yld⟩ := hgo i items[i] (List.getElem?_eq_getElem hil)
  by_cases hlt : i < k
  · have e1 : (items.take k).drop i = items[i] :: (items.take k).drop (i + 1) := by
      rw [List.drop_eq_getElem_cons (by rw [List.length_take]; omega), List.getElem_take]
    rw [e1] at hrun
    cases hrun with
    | @cons _ _ o rs h t =>
      obtain ⟨δb, b, hb, hpt, halt⟩ := h.ex
      refine .inr ⟨go, _, fun H2 z => ⟨items.length - (i + 1), by omega, rfl, hlt, z⟩, fun x H2 yy => ?_⟩
      obtain ⟨s2, rx⟩ := yld x H2 yy
      refine ⟨D :: S, dwipe δ vs, items[i], δb, hb, okD.mono s2, RD.mono s2, rx, fun σ2 R2 keep hl => ⟨?_, D :: S, δb, b, hpt, okD.mono s2, R2, fun H3 s3 => ?_⟩⟩
      · exact (wipe_same hl fun j hj => keep j fun z => hj (hsub j z)).trans (wipe_wipe σ vs)
      · rcases halt with ⟨eb, eo⟩ | ⟨eb, r, eo, hv⟩
        · subst eb eo
          refine iteF ⟨fun b' o' e' => ?_, acc, rs, s3 _ _ (s2 _ _ hacc), by omega, t⟩
          exact hide_mono (s2.trans s3) _ _ (hsm _ _ e')
        · subst eb eo
          refine iteT (.inl ⟨D :: S, δb, r, hv, (okD.mono s2).mono s3, R2.mono s3, fun y H4 s4 ry => ⟨acc, s4 _ _ (s3 _ _ (s2 _ _ hacc)), by rw [sizeLine_eq]; omega, fun b' o' e' => ?_, acc ++ [y], rs, upd_same, by rw [List.length_append, List.length_singleton]; omega, t⟩⟩)
          rw [hide_upd (by simp)]
          exact hide_mono ((s2.trans s3).trans s4) _ _ (hsm _ _ e')
  · obtain rfl : i = k := by omega
    have ed : items[i] = d := by
      rw [List.getElem?_eq_getElem hil] at hkk
      exact Option.some.inj hkk
    rw [ed] at yld
    refine .inr ⟨go, fun _ => False, fun _ z => z.elim, fun x H2 yy => ?_⟩
    obtain ⟨s2, rx⟩ := yld x H2 yy
    refine ⟨D :: S, dwipe δ vs, d, δb, hb, okD.mono s2, RD.mono s2, rx, fun σ2 R2 keep hl => ⟨?_, D :: S, δb, true, fun X hX => ⟨fun pins s σ H Q I ⟨S, δ', b', ⟨e1, e2⟩, ok, R, q⟩ => ?_⟩, okD.mono s2, R2, fun H3 s3 => ?_⟩⟩
    · exact (wipe_same hl fun j hj => keep j fun z => hj (hsub j z)).trans (wipe_wipe σ vs)
    · subst e1 e2
      exact pts_nil.run pins s σ H Q I (q H (Same.refl H))
    · refine iteT (.inr ⟨δb, hx, D :: S, (okD.mono s2).mono s3, R2.mono s3, fun H4 s4 => hW H4 (s1.trans ?_)⟩)
      exact (hsm.trans (hide_mono ((s2.trans s3).trans s4))).trans (hide_sub [D] H4)
theorem dvx_lc (i : Nat) (own : List (PySem.Str × Nat)) {k : Nat} {δb : DEnv} (hok : blkC G.N G.sc scope own = true) (hi : DI1 G δ tg iter items) (hg : DG (G.blk scope) tg (.one i)) (ht : Turns G scope (.one i) [] elt (dwipe δ (own.map (·.2))) (items.take k) res) (hkk : items[k]? = some d)
    (hb : bindT (.one i) d (dwipe δ (own.map (·.2))) = some δb) (hx : DVX (G.blk scope) δb elt C) (hz : items.length ≤ 16777216) (hsub : ∀ j ∈ (TSpec.one i).ix, j ∈ own.map (·.2) := by simp [TSpec.ix]) (hs : ∀ (env : Env) (x : Value), foldedSetIterable iter env x = pure x := by intro _ _; rfl) :
    DVX G δ (.ListComp elt [⟨tg, iter, [], 0⟩] scope pos) C := fun X hX L W tk =>
  PE.imp (pe_lcx tk hX.calm hX.nd (hi X hX) (by rw [hX.N, hX.sc]; exact blkOk_by hok) (fun s H C cl fp => hg _ (hX.blk s H C cl fp)) (fun s H C cl fp => pts_of (ifs := []) (hX.blk s H C cl fp)) (elt_x (C := C) hX) (hs _)) fun σ H Q ⟨S, ok, R, q⟩ =>
    lc_runx _ hsub hz ht hkk hb hx ok R q fun Q2 h => ⟨S, _, items, ⟨rfl, rfl⟩, ok, R, fun J H' s it => h J H' s it⟩
theorem dsx_lc (j : Nat) {n : PySem.Str} (i : Nat) (own : List (PySem.Str × Nat)) {k : Nat} {δb : DEnv} (hN : G.N[j]? = some n) (hl : G.sc.names.lookup n = some .local) (hkind : G.sc.kind = .function) (hline : (py.line == pos.line) = true) (hany : (scope.names.any fun (m, k) => m == n && (k == .local || k == .cell)) = false)
    (hok : blkC G.N G.sc scope own = true) (hi : DI1 G (ov δ ω) tg iter items) (hg : DG (G.blk scope) tg (.one i)) (ht : Turns G scope (.one i) [] elt (dwipe (ov δ ω) (own.map (·.2))) (items.take k) res) (hkk : items[k]? = some d)
    (hb : bindT (.one i) d (dwipe (ov δ ω) (own.map (·.2))) = some δb) (hx : DVX (G.blk scope) δb elt C) (hz : items.length ≤ 16777216) (hsub : ∀ j ∈ (TSpec.one i).ix, j ∈ own.map (·.2) := by simp [TSpec.ix]) (hs : ∀ (env : Env) (x : Value), foldedSetIterable iter env x = pure x := by intro _ _; rfl) :
    DSX G δ ω (.Assign [.Name n py] (.ListComp elt [⟨tg, iter, [], 0⟩] scope pos) spos) C := fun X hX W tk =>
  PS.imp (ps_lcx (i := j) tk hX.calm hX.nd (by rw [hX.N]; exact hN) (by rw [hX.sc]; exact hl) (sw_true (by rw [hX.sc]; exact hkind) (by rw [hX.sc]; exact hl) hline hany) (hi X hX) (by rw [hX.N, hX.sc]; exact blkOk_by hok) (fun s H C cl fp => hg _ (hX.blk s H C cl fp)) (fun s H C cl fp => pts_of (ifs := []) (hX.blk s H C cl fp)) (elt_x (C := C) hX) (hs _)) fun D σ H ⟨S, H0, hS, r, q⟩ => by
    obtain ⟨h1, h2, h3⟩ := r.over hS
    exact lc_runx _ hsub hz ht hkk hb hx h1 h3 (fun H' s => q H' (h2.trans s)) fun Q2 h => ⟨S, _, items, ⟨rfl, rfl⟩, h1, h3, fun J H' s it => h J H' s it⟩
/-! a def that raises, its body -/
theorem fnx_ok {m : Md} {n : PySem.Str} {st : Stmt} {f : Addr} {fd : FuncData} {N ps : List PySem.Str} {k : Nat} {R : List PyData → Prop} (F : Fun m.K n n st f fd) (hb : Binds m.K fd ps []) (hm : m.mg n = some (.ref f)) (S : FnScope N ps (defScope st))
    (hd : ∀ x ∈ N, (x == ("__debug__" : PySem.Str)) = false ∧ (x == ("__classdict__" : PySem.Str)) = false) (len : ∀ ds, R ds → ds.length = ps.length)
    (body : ∀ ds, R ds → DSXs ⟨m, N, defScope st, k, fun _ => true⟩ (ds.map some ++ List.replicate (N.length - ds.length) none) [] (defBody st) C) : FnX m n (k + 1) C R := by
  refine ⟨f, fd, ps, hm, F.kp, hb, F.okX S (fun vs H Q E ⟨_, ds, r, _, ra, _⟩ => by rw [ra.len]; exact len ds r) fun cdv A outer s H vs Q E hr ⟨T, ds, r, ok, ra, q⟩ => ?_⟩
  refine ⟨_, body ds r _ ⟨rfl, rfl, rfl, rfl, rfl, rfl, S.nd, rfl, rfl, hr, passes_of rfl, fun x => rfl, hd⟩ E (Tk.of rfl rfl (takes_of rfl rfl rfl rfl)), ?_⟩
  refine ⟨T, H, ok, ⟨[], rfl, List.nodup_nil, ok, ?_, ⟨?_, fun i d' e => ?_⟩, fun k i c a e => by simp at e⟩, q⟩
  · intro b o e
    rw [hide_out (by simp)]
    exact e
  · unfold L2.start
    simp [ra.len]
  · rw [List.nil_append]
    have hi : i < ds.length := by
      by_cases hi : i < ds.length
      · exact hi
      · rw [List.getElem?_append_right (by simpa using hi), List.getElem?_replicate] at e
        split at e <;> cases e
    rw [List.getElem?_append_left (by simpa using hi), List.getElem?_map] at e
    cases e2 : ds[i]? with
    | none => rw [e2] at e; cases e
    | some d2 =>
      rw [e2] at e
      cases e
      obtain ⟨v, hv, rv⟩ := ra.get e2
      refine ⟨v, ?_, rv⟩
      have hiv : i < vs.length := by rw [ra.len]; exact hi
      unfold L2.start
      rw [List.getElem?_append_left (by simpa using hiv), List.getElem?_map, hv]
      rfl
end
end DL

set_option Elab.async false
set_option linter.all false
set_option maxRecDepth 100000
set_option maxHeartbeats 4000000
namespace DL
open PySem PySem.Spec L2 PyProof.Rows
set_option autoImplicit false
/-! ### at a def's own frame: try .. except P as e: if isinstance(e, A) and not isinstance(e, R) and isinstance(e, ValueError): y = None -/
def Top (X : Cx) : Prop := X.stack = X.env :: X.outer ∧ X.env.frame = some X.env.locals
def DTs (G : Ct) (δ : DEnv) (ω : Own) (sts : List Stmt) (out : Out) : Prop := ∀ X, G.Is X → Top X → PSs X sts (tDS G.m.K fun δ' ω' o' => δ' = δ ∧ ω' = ω ∧ o' = out)
def DT1 (G : Ct) (δ : DEnv) (ω : Own) (st : Stmt) (out : Out) : Prop := ∀ X, G.Is X → Top X → PS X st (tDS G.m.K fun δ' ω' o' => δ' = δ ∧ ω' = ω ∧ o' = out)
structure ExcH (m : Md) (x c1 c2 : PySem.Str) (A : Addr) : Prop where
  ex : ∃ P R : Addr, m.mg x = some (.ref P) ∧ m.mg c1 = some (.ref A) ∧ m.mg c2 = some (.ref R) ∧ PySem.W.exmOne m.K (.ref A) (.ref P) = some true ∧ PySem.W.kitOne m.K (.ref A) (.ref A) = some true ∧ PySem.W.kitOne m.K (.ref A) (.ref R) = some false
  cls : ExcC m.K A
  val : PySem.W.kitOne m.K (.ref A) (.type "ValueError") = some true
  noV : m.mg "ValueError" = none
section
variable {G : Ct} {δ δ1 : DEnv} {ω ω1 : Own} {st : Stmt} {rest body : List Stmt} {out : Out} {d : PyData}
theorem dts_of (h : DSs G δ ω rest out) : DTs G δ ω rest out := fun X hX _ => h X hX
theorem dts_cons (h : DS G δ ω st (.next δ1 ω1)) (h2 : DTs G δ1 ω1 rest out) : DTs G δ ω (st :: rest) out := fun X hX t => PSs.imp (pss_cons (h X hX) (h2 X hX t)) fun D σ H ⟨S, H0, δ', ω', o', ⟨e1, e2, e3⟩, hS, r, q⟩ => by
  subst e1 e2 e3
  exact ⟨S, H0, _, _, _, ⟨rfl, rfl, rfl⟩, hS, r, fun σ' H' r' => ⟨S, H0, _, _, _, ⟨rfl, rfl, rfl⟩, hS, r', q⟩⟩
theorem dts_cons1 (h : DT1 G δ ω st (.next δ1 ω1)) (h2 : DTs G δ1 ω1 rest out) : DTs G δ ω (st :: rest) out := fun X hX t => PSs.imp (pss_cons (h X hX t) (h2 X hX t)) fun D σ H ⟨S, H0, δ', ω', o', ⟨e1, e2, e3⟩, hS, r, q⟩ => by
  subst e1 e2 e3
  exact ⟨S, H0, _, _, _, ⟨rfl, rfl, rfl⟩, hS, r, fun σ' H' r' => ⟨S, H0, _, _, _, ⟨rfl, rfl, rfl⟩, hS, r', q⟩⟩
/-- nothing is raised -/
theorem ds_thru {h0 : ExceptHandler} {hs : List ExceptHandler} {pos : Pos} (hb : DSs G δ ω body out) : DS G δ ω (.Try body (h0 :: hs) [] [] pos) out := fun X hX => ps_try_thru0 (hb X.nox (hX.wish PassesOwn.never))
theorem dt_caught {i j : Nat} {x n y c1 c2 : PySem.Str} {A : Addr} {np p1 p2 p3 p4 p5 p6 p7 p8 p9 p10 p11 p12 p13 p14 p15 p16 p17 p18 p19 p20 : Pos} {k0 : Nat} (E : ExcH G.m x c1 c2 A) (hi : G.N[i]? = some n) (hj : G.N[j]? = some y) (hij : i ≠ j) (hln : G.sc.names.lookup n = some .local) (hly : G.sc.names.lookup y = some .local)
    (hx : globB G.sc x = true) (hg1 : globB G.sc c1 = true) (hg2 : globB G.sc c2 = true) (hgi : globB G.sc "isinstance" = true) (hgv : globB G.sc "ValueError" = true) (hmi : G.m.mg "isinstance" = none)
    (hb : DSXs G δ [] body (.ref A)) (hdx : (x == ("__debug__" : PySem.Str)) = false := by decide) (hd1 : (c1 == ("__debug__" : PySem.Str)) = false := by decide) (hd2 : (c2 == ("__debug__" : PySem.Str)) = false := by decide) :
    DT1 G δ [] (.Try body [.ExceptHandler (some (.Name x np)) (some n) [.If (.BoolOp .And [.Call (.Name "isinstance" p1) [.Name n p2, .Name c1 p3] [] p4, .UnaryOp .Not (.Call (.Name "isinstance" p5) [.Name n p6, .Name c2 p7] [] p8) p9, .Call (.Name "isinstance" p10) [.Name n p11, .Name "ValueError" p12] [] p13] p14)
      [.Assign [.Name y p15] (.Constant .none k0 p16) p17] [] p18] p19] [] [] p20) (.next ((List.replicate G.N.length none).set j (some .none)) []) := fun X hX ⟨hs, hf⟩ => by
  obtain ⟨P, R, g1, g2, g3, g4, g5, g6⟩ := E.ex
  have hN : X.N[i]? = some n := by rw [hX.N]; exact hi
  have hJ : X.N[j]? = some y := by rw [hX.N]; exact hj
  have hLn : X.env.scope.names.lookup n = some .local := by rw [hX.sc]; exact hln
  have hLy : X.env.scope.names.lookup y = some .local := by rw [hX.sc]; exact hly
  have ndn := (hX.nodbg n (List.mem_of_getElem? hi))
  have hc : Names X x (.ref P) := ⟨gl_of hX hx, hdx, .inl (by rw [hX.mg]; exact g1)⟩
  refine PS.imp (ps_try_as (i := i) (Wout := fun _ _ _ _ => False) (tb := fun W D σ H => ∃ S H0, SOk S H0 ∧ SRel G.m.K S H0 δ [] σ H ∧ ∀ H' σ', Same H0 H' → σ'.length = G.N.length → W (.ref A) none σ' H')
    (ts := fun a cls d D σ H => cls = .ref A ∧ d = none ∧ σ[i]? = some (some (.ref a)) ∧ D.nx (σ.set j (some .non)) H) hs hf hX.nd hN hLn hc takes0 (fun W pn xe tk pass => ?_) (fun a oe cls d pn hz hfv => ?_)) fun D σ H ⟨S, H0, δ', ω', o', ⟨e1, e2, e3⟩, hS, r, q⟩ => ?_
  · have hT : G.Is (X.tr pn xe) := ⟨hX.prog, hX.w, hX.K, hX.mg, hX.base, hX.N, hX.nd, hX.sc, hX.calm, hX.rm, pass, hX.fn, hX.nodbg⟩
    refine PSs.imp (hb (X.tr pn xe) hT (fun c d H' => ∀ σ', σ'.length = G.N.length → W c d σ' H') (Tk.of hs hf fun u s' ⟨a, B, sI, pins, σ, H, cls, d, e, I, nb, up, sky, na, os, ag, w⟩ => tk u s' ⟨a, B, sI, pins, σ, H, cls, d, e, I, nb, up, sky, na, os, ag, w σ (by have := I.len; rw [← hX.N]; exact this)⟩)) fun D σ H ⟨S, H0, hS, r, q⟩ => ?_
    exact ⟨S, H0, hS, r, fun H' s σ' hl => q H' σ' s hl⟩
  · refine ⟨fun pins s σ H D I h => ?_⟩
    obtain ⟨ec, ed, hσ, q⟩ := h
    subst ec ed
    have C : ExcC X.K A := by rw [hX.K]; exact E.cls
    have cr := call_isE (a := a) (pn := pn) C hz hfv
    have gi : Gl (X.suite a ((a, oe) :: pn)) "isinstance" := gl_of hX hgi
    have mi : (X.suite a ((a, oe) :: pn)).mg "isinstance" = none := by show X.mg "isinstance" = none; rw [hX.mg]; exact hmi
    have pv : ∀ p : Pos, PE (X.suite a ((a, oe) :: pn)) (.Name n p) (tVar i) := fun p => pe_var hN (.inl hLn) ndn.1 ndn.2
    have pc : ∀ {c : PySem.Str} {r : Addr} (p : Pos), globB G.sc c = true → G.m.mg c = some (.ref r) → (c == ("__debug__" : PySem.Str)) = false → PE (X.suite a ((a, oe) :: pn)) (.Name c p) (tC (.ref r)) := fun {c r} p hg hm hd =>
      pe_glob (X := X.suite a ((a, oe) :: pn)) (u := .ref r) (gl_of hX hg) (by show X.mg c = _; rw [hX.mg]; exact hm) rfl hd
    have pV : PE (X.suite a ((a, oe) :: pn)) (.Name "ValueError" p12) (tC (.ty "ValueError")) :=
      pe_bltn (X := X.suite a ((a, oe) :: pn)) (u := .type "ValueError") (gl_of hX hgv) (by show X.mg _ = _; rw [hX.mg]; exact E.noV) (by first | rfl | decide +kernel) rfl
    have call : ∀ {c : PySem.Str} {tc : TE} (pi pn2 pc2 pp : Pos), PE (X.suite a ((a, oe) :: pn)) (.Name c pc2) tc → PE (X.suite a ((a, oe) :: pn)) (.Call (.Name "isinstance" pi) [.Name n pn2, .Name c pc2] [] pp) (tCB (rIsE X.K A a) (tCons (tVar i) (tCons tc tNil))) := fun {c tc} pi pn2 pc2 pp h =>
      pe_callB (X := X.suite a ((a, oe) :: pn)) cr gi mi PyProof.Rows.boot_isinstance (pa_cons (pv pn2) (pa_cons h pa_nil))
    have test := (pw_and (pt_val (call p1 p2 p3 p4 (pc p3 hg1 g2 hd1))) (pw_and (pt_not (pt_val (call p5 p6 p7 p8 (pc p7 hg2 g3 hd2)))) (pw_and1 (pt_val (call p10 p11 p12 p13 pV))))).pt (X := X.suite a ((a, oe) :: pn)) (e := .BoolOp .And [.Call (.Name "isinstance" p1) [.Name n p2, .Name c1 p3] [] p4, .UnaryOp .Not (.Call (.Name "isinstance" p5) [.Name n p6, .Name c2 p7] [] p8) p9, .Call (.Name "isinstance" p10) [.Name n p11, .Name "ValueError" p12] [] p13] p14)
    have set := pss_one (ps_set (X := X.suite a ((a, oe) :: pn)) (pos := p17) (pos' := p15) hX.nd hJ (.inl hLy) (pe_non (j := k0) (pos := p16)) (by rfl) (.inr hLy))
    have whole := pss_one (ps_if (pos := p18) test set (pss_nil (X := X.suite a ((a, oe) :: pn))))
    refine whole.run pins s σ H D I ?_
    refine ⟨_, hσ, .ref A, .ref A, true, rfl, fun u ru => ru, by rw [hX.K]; exact g5, true, rfl, iteT ⟨_, hσ, .ref R, .ref R, false, rfl, fun u ru => ru, by rw [hX.K]; exact g6, false, rfl, iteT ⟨_, hσ, .ty "ValueError", .type "ValueError", true, rfl, fun u ru => ru, by rw [hX.K]; exact E.val, true, rfl, iteT q⟩⟩⟩
  · subst e1 e2 e3
    refine ⟨S, H0, hS, r, fun H' σ' s hl => ⟨true, by rw [hX.K]; exact g4, fun _ a ha => ⟨rfl, rfl, ?_, ?_⟩, fun z => by cases z⟩⟩
    · exact List.getElem?_set_self (by rw [hl]; exact (List.getElem?_eq_some_iff.mp hi).1)
    · refine q _ _ ⟨[], rfl, List.nodup_nil, hS.mono s, ?_, ⟨by simp [hl], fun m d e => ?_⟩, fun k i c a e => by simp at e⟩
      · intro b o e
        rw [hide_out (by simp)]
        exact s b o e
      · by_cases hm : m = j
        · subst hm
          rw [List.getElem?_set_self (by rw [List.length_replicate]; exact (List.getElem?_eq_some_iff.mp hj).1)] at e
          cases e
          refine ⟨.non, ?_, .non⟩
          rw [List.getElem?_set_ne hij, List.getElem?_set_self (by rw [List.length_set, hl]; exact (List.getElem?_eq_some_iff.mp hj).1)]
        · rw [List.getElem?_set_ne (Ne.symm hm), List.getElem?_replicate] at e
          split at e <;> cases e
theorem fn_okT {m : Md} {n : PySem.Str} {st : Stmt} {f : Addr} {fd : FuncData} {N ps : List PySem.Str} {k : Nat} {R : List PyData → PyData → Prop} (F : Fun m.K n n st f fd) (hb : Binds m.K fd ps []) (hm : m.mg n = some (.ref f)) (S : FnScope N ps (defScope st))
    (hd : ∀ x ∈ N, (x == ("__debug__" : PySem.Str)) = false ∧ (x == ("__classdict__" : PySem.Str)) = false) (len : ∀ ds d, R ds d → ds.length = ps.length)
    (body : ∀ ds d, R ds d → DTs ⟨m, N, defScope st, k, fun _ => true⟩ (ds.map some ++ List.replicate (N.length - ds.length) none) [] (defBody st) (.ret d)) : Fn m n (k + 1) R := by
  refine ⟨f, fd, ps, hm, F.kp, hb, F.ok S (fun vs H Q E ⟨_, ds, d, r, _, ra, _⟩ => by rw [ra.len]; exact len ds d r) fun cdv A outer s H vs Q E hr ⟨T, ds, d, r, ok, ra, q⟩ => ?_⟩
  refine ⟨_, body ds d r _ ⟨rfl, rfl, rfl, rfl, rfl, rfl, S.nd, rfl, rfl, hr, PassesOwn.never, fun x => rfl, hd⟩ ⟨rfl, rfl⟩, ?_⟩
  refine ⟨T, H, _, _, _, ⟨rfl, rfl, rfl⟩, ok, ⟨[], rfl, List.nodup_nil, ok, ?_, ⟨?_, fun i d' e => ?_⟩, fun k i c a e => by simp at e⟩, fun v H' s rv => q v H' s rv⟩
  · intro b o e
    rw [hide_out (by simp)]
    exact e
  · unfold L2.start
    simp [ra.len]
  · rw [List.nil_append]
    have hi : i < ds.length := by
      by_cases hi : i < ds.length
      · exact hi
      · rw [List.getElem?_append_right (by simpa using hi), List.getElem?_replicate] at e
        split at e <;> cases e
    rw [List.getElem?_append_left (by simpa using hi), List.getElem?_map] at e
    cases e2 : ds[i]? with
    | none => rw [e2] at e; cases e
    | some d2 =>
      rw [e2] at e
      cases e
      obtain ⟨v, hv, rv⟩ := ra.get e2
      refine ⟨v, ?_, rv⟩
      have hiv : i < vs.length := by rw [ra.len]; exact hi
      unfold L2.start
      rw [List.getElem?_append_left (by simpa using hiv), List.getElem?_map, hv]
      rfl
end
end DL

set_option Elab.async false
set_option linter.all false
set_option maxRecDepth 100000
set_option maxHeartbeats 4000000
namespace DL
open PySem PySem.Spec L2 PyProof.Rows LamX
set_option autoImplicit false
/-! ### a lambda of one name, called with a value -/
structure Lam1 (sc scope : Scope) (x : PySem.Str) : Prop where
  kind : scope.kind = .function
  co : scope.isCoroutine = false
  gen : scope.isGenerator = false
  own : ∀ y ∈ scope.names, y.2 ≠ .cell ∧ (y.2 = .local → y.1 = x)
  par : scope.names.lookup x = some .local
  free : ∀ y ∈ scope.names, y.2 = .free → sc.names.lookup y.1 = some .cell ∨ sc.names.lookup y.1 = some .free
def lam1B (sc scope : Scope) (x : PySem.Str) : Bool :=
  decide (scope.kind = .function) && !scope.isCoroutine && !scope.isGenerator && decide (scope.names.lookup x = some .local) && scope.names.all fun y => !decide (y.2 = .cell) && (!decide (y.2 = .local) || decide (y.1 = x)) && (!decide (y.2 = .free) || decide (sc.names.lookup y.1 = some .cell) || decide (sc.names.lookup y.1 = some .free))
theorem lam1_by {sc scope : Scope} {x : PySem.Str} (h : lam1B sc scope x = true) : Lam1 sc scope x := by
  unfold lam1B at h
  simp only [Bool.and_eq_true, Bool.or_eq_true, Bool.not_eq_true', decide_eq_true_eq, decide_eq_false_iff_not, List.all_eq_true] at h
  obtain ⟨⟨⟨⟨h1, h2⟩, h3⟩, h5⟩, h4⟩ := h
  refine ⟨h1, h2, h3, fun y hy => ⟨(h4 y hy).1.1, fun e => ?_⟩, h5, fun y hy e => ?_⟩
  · rcases (h4 y hy).1.2 with z | z
    · exact absurd e z
    · exact z
  · rcases (h4 y hy).2 with (z | z) | z
    · exact absurd e z
    · exact .inl z
    · exact .inr z
section
variable {X : Cx} {pins : List (Addr × Obj)} {σ : L2.St} {H : Hp} {s : Shared}
theorem Lam1.has {scope : Scope} {x : PySem.Str} (L : Lam1 X.env.scope scope x) (ok : X.Ok) : ∀ y ∈ scope.names, y.2 = .free → ∃ c, X.env.cells.lookup y.1 = some c := fun y hy e => by
  rcases L.free y hy e with k | k
  · exact ok.has _ (.inl k)
  · exact ok.has _ (.inr k)
/-- in the lambda's body: what it sees of the def around, and its own name -/
theorem lam_start3 {A : Around} {E : XK} {scope : Scope} {f c' : Addr} {h₁ : Heap} {tk : Nat} {x : PySem.Str} {i : Nat} {y : V} {v : Value} (I : Inv X pins σ H s) (L : Lam1 X.env.scope scope x) (hN : X.N.Nodup) (hi : X.N[i]? = some x) (rv : RelV y v) (hfr : A.frames = some X.stack) (hd : A.handled = none)
    (hns : h₁.Ns s.heap.objs.size fun z => ([(x, v)] : List (PySem.Str × Value)).reverse.lookup z) (kp : ∀ b o, s.heap.get? b = some o → h₁.get? b = some o) :
    Inv (lamCx X A X.stack s H E scope f c') [] (σ.set i (some y)) H { s with heap := h₁, toks := tk } := by
  have e0 : Env0 X.prog X.w X.K X.mg X.base A X.stack s H := ⟨hfr, I.env0.mod, I.env0.bs, I.env0.bsz, I.env0.funs, I.env0.frf, I.env0.hok, I.env0.bare⟩
  have hfree := L.has I.ok
  have cm : ∀ {z c}, (cloFrom X.env.cells scope.names []).lookup z = some c → X.env.cells.lookup z = some c := fun {z c} e => by
    rcases cloFrom_mem (PySem.mem_of_lookup e) with hm | ⟨h1, h2⟩
    · cases hm
    · obtain ⟨c1, hc⟩ := hfree _ h1 rfl
      have hc : X.env.cells.lookup z = some c1 := hc
      have e2 : c = c1 := by
        rw [h2, hc] <;> rfl
      rw [e2]
      exact hc
  have look : ∀ {z}, scope.names.lookup z = some .free → ∃ c, (cloFrom X.env.cells scope.names []).lookup z = some c := fun {z} hl => by
    have hy : (z, NameKind.free) ∈ scope.names := PySem.mem_of_lookup hl
    exact mem_lookup (cloFrom_has (cells := X.env.cells) (acc := []) hy)
  have noA : ∀ b : Addr, b ∉ (lamCx X A X.stack s H E scope f c').ex := fun b z => absurd (show b ∈ ([] : List Addr) from z) (by simp)
  refine ⟨⟨e0.mod, L.kind, rfl, rfl, Nat.le_refl _, fun a b c e1 e2 => I.ok.inj a b c (cm e1) (cm e2), fun a ha => ?_, fun a c z _ => ?_, fun _ => hd, Around.frames_deeper e0.frames, .inr ⟨rfl, rfl⟩, fun b z => absurd z (noA b), e0.bs, e0.bsz, fun b _ _ => noA b,
      fun b z => absurd z (noA b), e0.funs, e0.frf⟩,
    rfl, e0.bare, Un.kept kp, ⟨_, hns, fun j z w e1 e2 e3 => ?_⟩, fun z c e => ?_, e0.hok.fresh (Nat.le_refl _), fun z c e => ?_, fun q hq => absurd (show q ∈ ([] : List (Addr × Obj)) ++ [] from hq) (by simp), e0.hok.kept kp, by rw [List.length_set]; exact I.len⟩
  · have ha : scope.names.lookup a = some .cell ∨ scope.names.lookup a = some .free := ha
    rcases ha with ha | ha
    · exact absurd rfl (L.own _ (PySem.mem_of_lookup ha)).1
    · exact look ha
  · have z : false = true := z
    cases z
  · have e1 : X.N[j]? = some z := e1
    have e3 : Vis scope z := e3
    rcases e3 with k | k | k
    · have ez : z = x := (L.own _ (PySem.mem_of_lookup k)).2 rfl
      subst ez
      have ej : j = i := (List.getElem?_inj (List.getElem?_eq_some_iff.mp e1).1 hN).mp (e1.trans hi.symm)
      subst ej
      have hl : j < σ.length := by
        have := (List.getElem?_eq_some_iff.mp e2).1
        rwa [List.length_set] at this
      rw [List.getElem?_set_self hl] at e2
      cases e2
      exact ⟨v, rv, .inl ⟨k, by simp⟩⟩
    · exact absurd rfl (L.own _ (PySem.mem_of_lookup k)).1
    · have hji : i ≠ j := fun q => by
        subst q
        rw [hi] at e1
        cases e1
        rw [L.par] at k
        cases k
      rw [List.getElem?_set_ne hji] at e2
      obtain ⟨m, hn, hl⟩ := I.loc
      have hvis : Vis X.env.scope z := (L.free _ (PySem.mem_of_lookup k) rfl).elim (fun k => .inr (.inl k)) (fun k => .inr (.inr k))
      obtain ⟨w', r, q⟩ := hl j z w e1 e2 hvis
      obtain ⟨c2, h2⟩ := look k
      refine ⟨w', r, .inr ⟨.inr k, c2, h2, ?_⟩⟩
      have c1 := cm h2
      rcases q with ⟨k', _⟩ | ⟨_, c3, e', zc⟩
      · have k' : X.env.scope.names.lookup z = some .local := k'
        rcases L.free _ (PySem.mem_of_lookup k) rfl with k2 | k2 <;> rw [show X.env.scope.names.lookup z = _ from k2] at k' <;> cases k'
      · rw [c1] at e'
        cases e'
        exact zc.keeps kp
  · obtain ⟨w', z⟩ := I.cell z c (cm e)
    exact ⟨w', z.keeps kp⟩
  · exact I.freeC z c (cm e)
/-- the lambda, called -/
theorem lam_run {A : Around} {params : Arguments} {body : Expr} {scope : Scope} {f c' : Addr} {pm ctv : Value} {x : PySem.Str} {i k : Nat} {y : V} {v : Value} {tb : TE} {Q : VK} (I : Inv X pins σ H s) (L : Lam1 X.env.scope scope x) (hN : X.N.Nodup) (hi : X.N[i]? = some x) (rv : RelV y v)
    (hf : s.heap.get? f = some (PySem.W.kla_obj "<lambda>" (X.env.qual ++ "<lambda>") params body scope (cloFrom X.env.cells scope.names []) pm c' ctv)) (hc : H c' = some (CodeO c' (X.env.qual ++ "<lambda>")))
    (hbind : ∀ u, bindArgs (PySem.W.kla_fn "<lambda>" (X.env.qual ++ "<lambda>") params body scope (cloFrom X.env.cells scope.names []) pm (.ref c') ctv) ⟨[u], []⟩ = pure [(x, u)])
    (hr : Room (k + 1) A) (hfr : A.frames = some X.stack) (hd : A.handled = none)
    (hbody : ∀ (A : Around) (E : XK), Room k (A.deeper (lamEnv X scope s.heap.objs.size f c')) → PE (lamCx X A X.stack s H E scope f c') body tb) (ht : tb (σ.set i (some y)) H Q) :
    wpAny (model X.prog X.w) A (call (.ref f) [v]) (fun u s' => CE X.stack X.prog X.w H s Q u s') (fun _ _ => False) s := by
  obtain ⟨⟨oc, vs, t, hoc, hdc, hvc⟩, _, _⟩ := I.hok c' _ hc
  refine wpAny_call (codeAny_mono (R := fun r s' => match r with | .ok (.ret u) => CE X.stack X.prog X.w H s Q u s' | _ => False) ?_ fun r s' hq => ?_)
  · refine PySem.W.kla_callFunE hr.depth hf rfl L.co L.gen rfl ⟨c', oc, vs, t, rfl, hoc, hdc, hvc⟩ ?_
    rw [hbind]
    refine wpAny_pure (wpAny_newFunctionEnv (fun z hz => (L.own z hz).1) (fun z hz => ?_) (fun h₁ hns hsb => ⟨I.nolimit.fresh _ hsb, ?_⟩) L.kind)
    · rw [List.mem_singleton] at hz
      rw [hz]
      exact L.par
    have kp : ∀ b o, s.heap.get? b = some o → h₁.get? b = some o := fun b o e => hsb.extBut b o (Nat.ne_of_lt (Heap.lt_size e)) (Heap.get?_push_of_some _ e)
    have J := lam_start3 (tk := s.toks + ([(x, v)] : List (PySem.Str × Value)).length) (E := fun _ _ _ => False) (f := f) (c' := c') I L hN hi rv hfr hd hns kp
    refine PySem.W.kla_codeExpr (wpAny_mono ((hbody A (fun _ _ _ => False) (hr.deeper _)).run [] _ _ H Q J ht) (fun u s' hq => ?_) fun e s' hq => ?_)
    · obtain ⟨w', H', J', rv', q⟩ := hq
      exact ⟨w', H', J'.os, J'.bare, J'.base, J'.hok, rv', q⟩
    · refine wpAny_mono hq (fun _ s'' z => ?_) fun _ s'' z => ?_
      all_goals
        obtain ⟨_, _, _, _, _, _, _, _, _, _, _, _, z⟩ := z
        exact z.elim
  · cases r with
    | error e => exact hq.elim
    | ok fl =>
      cases fl with
      | ret u => exact hq
      | next => exact hq.elim
      | brk => exact hq.elim
      | cont => exact hq.elim
end
end DL

set_option Elab.async false
set_option linter.all false
set_option maxRecDepth 100000
set_option maxHeartbeats 4000000
namespace DL
open PySem PySem.Spec L2 PyProof.Rows LamX PySem.W
set_option autoImplicit false
/-- all but the tables stay -/
def XT (T : List (Addr × PySem.Str)) (H H' : Hp) : Prop := Same (hide (T.map (·.1)) H) (hide (T.map (·.1)) H')
theorem XT.refl (T : List (Addr × PySem.Str)) (H : Hp) : XT T H H := Same.refl _
theorem XT.trans {T : List (Addr × PySem.Str)} {H H1 H2 : Hp} (a : XT T H H1) (b : XT T H1 H2) : XT T H H2 := Same.trans a b
theorem XT.of {T : List (Addr × PySem.Str)} {H H' : Hp} (s : Same H H') : XT T H H' := hide_mono s
/-! ### sorted(xs, key=f): xs whole numbers, f's calls give whole numbers and may grow the tables -/
section
variable {X : Cx} {pins : List (Addr × Obj)} {σ : L2.St} {H1 : Hp} {s1 : Shared}
/-- the lambda is made: its code object is new, or found in the table -/
theorem lam_made {T : List (Addr × PySem.Str)} {c P : Addr} {params : Arguments} {body : Expr} {scope : Scope} {pos : Pos} {E : Value → Shared → Prop} {Q : Value → Shared → Prop} {H : Hp} {s : Shared} (I : Inv X pins σ H s) (TB : TabB X.base X.mg c P) (hcode : X.env.code = .ref c)
    (hm : (P, X.env.qual ++ "<lambda>") ∈ T) (hu : ∀ p ∈ T, p.1 = P → p.2 = X.env.qual ++ "<lambda>") (hT : Tabs T H) (hone : ∀ p ∈ T, p.1 = P) (hdef : defaultsOf params X.env = ([], [])) (hfree : ∀ y ∈ scope.names, y.2 = .free → ∃ c, X.env.cells.lookup y.1 = some c)
    (h : ∀ (f c' : Addr) (pm ctv : Value) (H1 : Hp) (s' : Shared), Inv X pins σ H1 s' → XT T H H1 → Tabs T H1 →
      s'.heap.get? f = some (PySem.W.kla_obj "<lambda>" (X.env.qual ++ "<lambda>") params body scope (cloFrom X.env.cells scope.names []) pm c' ctv) → H1 f = none → f ∉ frs X.stack → H1 c' = some (CodeO c' (X.env.qual ++ "<lambda>")) → Q (.ref f) s') :
    wpAny (model X.prog X.w) X.A (eval (.Lambda params body scope pos) X.env) Q E s := by
  obtain ⟨ps, hP, ht, ha⟩ := hT _ hm
  have hPT : P ∈ T.map (·.1) := List.mem_map.mpr ⟨_, hm, rfl⟩
  refine PySem.W.kla_eval hdef ?_
  have bP : s.heap.BuiltinsAt X.mg P := TB.bm.keeps I.bk
  have hP' : s.heap.get? P = some { cls := .none, data := .fields ps } := I.hok P _ hP
  have nofr : ∀ f, s.heap.objs.size ≤ f → f ∉ frs X.stack := fun f hf z => by
    rcases List.mem_cons.mp (I.stkSub _ z) with e | e
    · have h1 := I.lt
      rw [← e] at h1
      exact Nat.lt_irrefl _ (Nat.lt_of_lt_of_le h1 hf)
    · exact I.nofs hf e
  cases hc : codeAmong pos ps.toList with
  | none =>
    refine PySem.W.kla_makeFunction (mg := X.mg) (c := c) (P := P) (ps := ps) (closure_ok hfree) I.ok.glob (I.mod.glob.keeps I.bk) hcode (TB.code.keeps I.bk) hP' ht hc TB.gP bP fun c' ctv h' tk hx hge hlt hrec htb => ?_
    obtain ⟨c2, oc, vs, t, e2, hoc, hd, hv⟩ := hrec
    cases e2
    have hsz : s.heap.objs.size ≤ h'.objs.size := Nat.le_trans hge (Nat.le_of_lt hlt)
    have nC : H c' = none := I.hok.fresh hge
    have I1 := inv_table (t' := tk) (more := #[rawInt pos.line, rawInt pos.col, .ref c']) (h' := h'.push (PySem.W.kla_obj "<lambda>" (X.env.qual ++ "<lambda>") params body scope (cloFrom X.env.cells scope.names []) ((X.mg "__name__").getD .none) c' ctv)) I hP
      (fun b o hb e => Heap.get?_push_of_some _ (hx b o hb e)) (Heap.get?_push_of_some _ htb) hge ⟨oc, vs, t, Heap.get?_push_of_some _ hoc, hd, hv⟩
    have hX : XT T H (upd (upd H P (.tbl (ps ++ #[rawInt pos.line, rawInt pos.col, .ref c']))) c' (CodeO c' (X.env.qual ++ "<lambda>"))) := fun b o e => by
      obtain ⟨e1, e2⟩ := hide_some e
      rw [hide_out e1, upd_ne (ne_of_none e2 nC), upd_ne fun z => e1 (by rw [z]; exact hPT)]
      exact e2
    have eL : (ps ++ #[rawInt pos.line, rawInt pos.col, .ref c']).toList = ps.toList ++ [rawInt pos.line, rawInt pos.col, .ref c'] := by simp
    refine h h'.objs.size c' ((X.mg "__name__").getD .none) ctv _ _ I1 hX (fun p hp => ?_) (Heap.get?_push_size _ rfl) ?_ (nofr _ hsz) upd_same
    · have hb := hone p hp
      rw [hu p hp hb, hb]
      refine ⟨_, by rw [upd_ne (ne_of_none hP nC), upd_same], by rw [eL]; exact PySem.TriplesOk_snoc _ _ _ _ ht, fun p' cv hcv => ?_⟩
      rw [eL] at hcv
      rcases among_app _ ht hcv with z | z
      · obtain ⟨c0, e1, e2⟩ := ha p' cv z
        refine ⟨c0, e1, ?_⟩
        rw [upd_ne (ne_of_none e2 nC), upd_ne fun z2 => ?_]
        · exact e2
        · rw [z2] at e2
          have e2 : H P = some (CodeO P (X.env.qual ++ "<lambda>")) := by rw [z2] at *; exact e2
          rw [hP] at e2
          cases e2
      · exact ⟨c', z, upd_same⟩
    · have z : H h'.objs.size = none := I.hok.fresh hsz
      rw [upd_ne (Nat.ne_of_gt hlt), upd_ne fun z2 => ?_]
      · exact z
      · rw [z2, hP] at z
        cases z
  | some cv =>
    obtain ⟨c', e1, e2⟩ := ha pos cv hc
    subst e1
    refine PySem.W.kla_makeFunctionHit (mg := X.mg) (c := c) (P := P) (ps := ps) (closure_ok hfree) I.ok.glob (I.mod.glob.keeps I.bk) hcode (TB.code.keeps I.bk) hP' ht hc bP fun ctv h' tk hx hsz => ?_
    exact h h'.objs.size c' ((X.mg "__name__").getD .none) ctv H _ (I.kept (h' := h'.push (PySem.W.kla_obj "<lambda>" (X.env.qual ++ "<lambda>") params body scope (cloFrom X.env.cells scope.names []) ((X.mg "__name__").getD .none) c' ctv)) (t' := tk) fun b o e => Heap.get?_push_of_some _ (hx b o e)) (XT.refl T H) hT (Heap.get?_push_size _ rfl) (I.hok.fresh hsz) (nofr _ hsz) e2
theorem vals_of_each : ∀ {out : List Value} {ns : List Int}, EachIs (fun v n => RelV (.int n) v) out ns → Vals (ns.map V.int) out
  | _, _, .nil => .nil
  | _, _, .cons h t => .cons h (vals_of_each t)
theorem each_of_vals : ∀ {ns : List Int} {its : List Value}, Vals (ns.map V.int) its → EachIs (fun v n => RelV (.int n) v) its ns
  | [], _, .nil => .nil
  | _ :: _, _, .cons h t => .cons h (each_of_vals t)
theorem call_sortKey {T : List (Addr × PySem.Str)} {l f : Addr} {fo : Obj} {ns : List Int} {kf : Int → Int} {Q : VK} (I1 : Inv X pins σ H1 s1) (hT1 : Tabs T H1) (hu : X.A.units + 64 < cLine) (hs : SqL X.K H1 l (ns.map V.int))
    (hf : s1.heap.get? f = some fo) (hfn : H1 f = none) (hff : f ∉ frs X.stack)
    (turn : ∀ (s' : Shared) (H' : Hp) (n : Int) (v : Value), n ∈ ns → RelV (.int n) v → Inv X pins σ H' s' → XT T H1 H' → Tabs T H' → s'.heap.get? f = some fo →
      wpAny (model X.prog X.w) X.A.in1.in1 (call (.ref f) [v]) (fun u s'' => CE X.stack X.prog X.w H' s' (fun w H'' => w = .int (kf n) ∧ XT T H' H'' ∧ Tabs T H'') u s'') (fun _ _ => False) s')
    (q : ∀ (out : List Int) (p : Addr) (H3 : Hp), XT T H1 H3 → Tabs T H3 → H3 p = none → out = (ns.mergeSort fun a b => decide (kf a ≤ kf b)) → Q (.ref p) (upd H3 p (.lst (out.map V.int)))) :
    wpAny (model X.prog X.w) X.A (call (.builtin "sorted") [.ref l] [(Str.ofString "key", .ref f)]) (EP X pins σ Q) X.xe s1 := by
  obtain ⟨its, rv, hl, hz⟩ := I1.list hs
  have hlen : its.length = ns.length := by rw [← rv.length, List.length_map]
  have hz' : its.length ≤ sizeLine := by rw [← rv.length]; exact hz
  have hE := each_of_vals rv
  have stkLt : ∀ b, s1.heap.objs.size ≤ b → b ∉ frs X.stack := fun b hb z => by
    rcases List.mem_cons.mp (I1.stkSub _ z) with e | e
    · have h1 := I1.lt
      rw [← e] at h1
      exact Nat.lt_irrefl _ (Nat.lt_of_lt_of_le h1 hb)
    · exact I1.nofs hb e
  refine sorted_of_sort hl.isList hz' (ksk_s1 _ _) (fun x => ksk_l1 _ _) fun E' => ?_
  rw [ksk_t1]
  generalize ha : s1.heap.objs.size + 1 = a
  have hsa : s1.heap.objs.size ≤ a := by omega
  have ho : (copyHeap s1.heap its).get? a = some (seqObj "list" its.toArray 0) := by rw [← ha]; exact copyHeap_at s1.heap its
  have hlt : a < (copyHeap s1.heap its).objs.size := Heap.lt_size ho
  obtain ⟨e1, ho1⟩ : ∃ e1, ((copyHeap s1.heap its).update a (Obj.mapSeq fun _ => (#[] : Array Value))).get? a = some (seqObj "list" #[] e1) := ⟨_, get?_update_seq ho fun _ => #[]⟩
  have up0 : ∀ b o, s1.heap.get? b = some o → ((copyHeap s1.heap its).update a (Obj.mapSeq fun _ => (#[] : Array Value))).get? b = some o := fun b o e => by
    rw [Heap.get?_update_ne _ _ _ _ (Nat.ne_of_lt (Nat.lt_of_lt_of_le (Heap.lt_size e) hsa))]
    exact copyHeap_old e
  unfold ksk_tree
  refine wpAny_bind (listItems_at (s := { s1 with heap := copyHeap s1.heap its }) ho rfl ?_)
  refine wpAny_bind (listUpdate_at (s := { s1 with heap := copyHeap s1.heap its }) ho rfl ?_ (by rw [List.size_toArray]; exact hz') (Nat.zero_le _))
  refine wpAny_bind (seqEpoch_at (s := { s1 with heap := (copyHeap s1.heap its).update a (Obj.mapSeq fun _ => (#[] : Array Value)) }) ho1 rfl ?_)
  refine wpAny_bind (wpAny_newTuple ?_ (by show its.length ≤ _; exact hz'))
  refine wpAny_bind (wpAny_newList ?_ (Nat.zero_le _))
  refine wpAny_holding ?_
  generalize hh1 : (copyHeap s1.heap its).update a (Obj.mapSeq fun _ => (#[] : Array Value)) = h1 at ho1 up0
  have hs1 : h1.objs.size = (copyHeap s1.heap its).objs.size := by rw [← hh1, Heap.size_update]
  show wpAny _ _ (ksk_rest a (.ref f) false its.toArray e1 (.ref (h1.push (seqObj "tuple" its.toArray 0)).objs.size)) _ _ { s1 with heap := (h1.push (seqObj "tuple" its.toArray 0)).push (seqObj "list" #[] 0) }
  generalize hkS : (h1.push (seqObj "tuple" its.toArray 0)).objs.size = kS
  have hka : kS ≠ a := by rw [← hkS, size_push', hs1]; omega
  have hsk : s1.heap.objs.size ≤ kS := by rw [← hkS, size_push', hs1]; omega
  have upL : ∀ b o, s1.heap.get? b = some o → ((h1.push (seqObj "tuple" its.toArray 0)).push (seqObj "list" #[] 0)).get? b = some o := fun b o e => Heap.get?_push_of_some _ (Heap.get?_push_of_some _ (up0 b o e))
  have aL : ((h1.push (seqObj "tuple" its.toArray 0)).push (seqObj "list" #[] 0)).get? a = some (seqObj "list" #[] e1) := Heap.get?_push_of_some _ (Heap.get?_push_of_some _ ho1)
  have kL : ((h1.push (seqObj "tuple" its.toArray 0)).push (seqObj "list" #[] 0)).get? kS = some (seqObj "list" #[] 0) := by rw [← hkS]; exact Heap.get?_push_size _ rfl
  have IL : Inv X pins σ H1 { s1 with heap := (h1.push (seqObj "tuple" its.toArray 0)).push (seqObj "list" #[] 0) } := I1.kept (t' := s1.toks) upL
  have n1 : ∀ b, s1.heap.objs.size ≤ b → H1 b = none := fun b hb => I1.hok.fresh hb
  generalize ((h1.push (seqObj "tuple" its.toArray 0)).push (seqObj "list" #[] 0)) = hL at upL aL kL IL
  unfold ksk_rest
  refine wpAny_bind (wpAny_rule ?_)
  first
    | rw [List.forIn_toArray]
    | (rw [← Array.forIn_toList]; simp only [List.toList_toArray])
    | rw [← Array.forIn_toList]
  refine wpAny_bind (ksk_fold (fun i s' => ∃ H' kA e, Inv X pins σ H' s' ∧ XT T H1 H' ∧ Tabs T H' ∧ H' a = none ∧ H' kS = none ∧ H' f = none ∧ s'.heap.get? kS = some (seqObj "list" kA e) ∧ s'.heap.get? a = some (seqObj "list" #[] e1) ∧ s'.heap.get? f = some fo ∧
      EachIs (fun v n => ∃ t, v = Value.int n t) kA.toList ((ns.map kf).take i)) its 0 _ ⟨H1, #[], 0, IL, XT.refl T H1, hT1, n1 a hsa, n1 kS hsk, hfn, kL, aL, upL f fo hf, by rw [List.take_zero]; exact EachIs.nil⟩ ?step ?done)
  case step =>
    rintro j x s' hx ⟨H', kA, e, I', xN, xT, na, nk, nf, gk, ga, gf, hk⟩
    simp only [Nat.zero_add] at hk ⊢
    have hj : j < its.length := (List.getElem?_eq_some_iff.mp hx).1
    obtain ⟨n, hn⟩ : ∃ n, ns[j]? = some n := ⟨_, List.getElem?_eq_getElem (by omega)⟩
    have hxn : RelV (.int n) x := by
      have := hE.zip (x, n) (List.mem_of_getElem? (i := j) (by rw [List.getElem?_zip_eq_some]; exact ⟨hx, hn⟩))
      exact this
    have hz2 : kA.size ≤ its.length := by
      have h1 := hk.length
      rw [Array.length_toList, List.length_take, List.length_map] at h1
      omega
    refine wpAny_bind (wpAny_attempt (wpAny_mono (turn s' H' n x (List.mem_of_getElem? hn) hxn I' xN xT gf) (fun u s'' he => ?_) fun _ _ hF => hF.elim))
    obtain ⟨w0, H'', os, bare, un, hok, rw0, ew, xN2, xT2⟩ := he
    subst ew
    obtain ⟨t, rfl⟩ := rw0
    try dsimp only
    have I2 : Inv X pins σ H'' s'' := I'.call' (ch := []) os un hok bare fun b z => nomatch z
    have keep : ∀ b o, s'.heap.get? b = some o → H' b = none → b ∉ frs X.stack → s''.heap.get? b = some o := fun b o e n hb => un.keep b o e n hb (by simp)
    have gk2 := keep kS _ gk nk (stkLt kS hsk)
    have ga2 := keep a _ ga na (stkLt a hsa)
    have gf2 := keep f _ gf nf hff
    have nk2 : H'' kS = none := un.free kS _ gk nk (by simp)
    have na2 : H'' a = none := un.free a _ ga na (by simp)
    have nf2 : H'' f = none := un.free f _ gf nf (by simp)
    have sb := Heap.SameBut.update s''.heap kS (Obj.mapSeq (·.push (Value.int (kf n) t)))
    obtain ⟨c2, hc2⟩ : ∃ c2, (s''.heap.update kS (Obj.mapSeq (·.push (Value.int (kf n) t)))).get? kS = some (seqObj "list" (kA.push (Value.int (kf n) t)) c2) := ⟨_, get?_update_seq gk2 (·.push (Value.int (kf n) t))⟩
    obtain ⟨f0, f1, f2, f3, f4, f5⟩ := I1.fpOk (H' := H'') hsk nk2
    refine wpAny_bind (listUpdate_at gk2 rfl ?_ (Nat.le_trans hz2 hz') (Nat.le_trans (Nat.le_of_eq (Array.size_push ..)) (Nat.succ_le_succ (Nat.le_trans hz2 hz'))))
    refine wpAny_pure ⟨rfl, H'', kA.push (Value.int (kf n) t), c2, I2.turned (t' := s''.toks) (fun b o hb e => (sb.2 b hb).trans e) f0 f1 f3 f4 f5, xN.trans xN2, xT2, na2, nk2, nf2, hc2, (sb.2 a hka.symm).trans ga2, (sb.2 f fun z => ?_).trans gf2, ?_⟩
    · rw [z] at hf
      exact absurd (Nat.lt_of_lt_of_le (Heap.lt_size hf) hsk) (Nat.lt_irrefl _)
    · have ea : (kA.push (Value.int (kf n) t)).toList = kA.toList ++ [Value.int (kf n) t] := by simp
      have ek : (ns.map kf).take (j + 1) = (ns.map kf).take j ++ [kf n] := by rw [List.take_add_one, List.getElem?_map, hn]; simp
      rw [ea, ek]
      exact each_snoc (R := fun (v : Value) (n : Int) => ∃ t, v = Value.int n t) ⟨t, rfl⟩ hk
  case done =>
    rintro s' ⟨H', kA, e, I', xN, xT, na, nk, nf, gk, ga, gf, hk⟩
    have hk' : EachIs (fun v d => ∃ as, Reads s'.heap v d as) kA.toList ((ns.map kf).map PyData.int) := by
      have e3 : (ns.map kf).take (0 + its.length) = ns.map kf := List.take_of_length_le (by rw [List.length_map]; omega)
      rw [e3] at hk
      clear e3
      generalize kA.toList = ks at hk
      generalize ns.map kf = ms at hk
      induction hk with
      | nil => exact .nil
      | cons h _ ih =>
        obtain ⟨t, rfl⟩ := h
        exact .cons ⟨[], .int _ _⟩ ih
    have hsz : kA.size = its.length := by
      have h1 := hk'.length
      rw [Array.length_toList, List.length_map, List.length_map] at h1
      omega
    have hal : AllAlike ((ns.map kf).map PyData.int) := fun d hd d' hd' => by
      obtain ⟨i, _, rfl⟩ := List.mem_map.mp hd
      obtain ⟨i', _, rfl⟩ := List.mem_map.mp hd'
      rfl
    have hsk2 : Sortable ((ns.map kf).map PyData.int) := .inr fun d hd => by
      obtain ⟨i, _, rfl⟩ := List.mem_map.mp hd
      exact ⟨by simp, by simp⟩
    have hud : ∀ d, d ∈ (ns.map kf).map PyData.int → X.A.in1.in1.units + d.depth < cLine := fun d hd => by
      obtain ⟨i, _, rfl⟩ := List.mem_map.mp hd
      show X.A.units + 1 + 1 + 0 < cLine
      omega
    obtain ⟨G, g1, g2⟩ := restrict s'.heap fun b => decide (b ≠ kS)
    have geG : ∀ b, b ≠ kS → G.get? b = s'.heap.get? b := fun b hb => g1 b (by simp [hb])
    have noG : G.get? kS = none := g2 kS (by simp)
    have kpG : KeepsBut a G s'.heap := fun b o hb e => by
      by_cases z : b = kS
      · rw [z, noG] at e
        cases e
      · rw [← geG b z]
        exact e
    try dsimp only
    refine wpAny_bind (listItems_at gk rfl ?_)
    refine keyH_end (κ := dataKind s'.heap ((ns.map kf).map PyData.int)) (h₁ := G) kpG noG gk ga hka (SortsAt.data hk' hal hsk2 hud) hsz hz' fun h3 tk3 c k3 n3 => ⟨rfl, ?_⟩
    have ko : KeyedOut false (ns.map fun n => PyData.int (kf n)) its (sortVals (dataKind s'.heap ((ns.map kf).map PyData.int)) false kA.toList its) := by
      have ee : (ns.map fun n => PyData.int (kf n)) = (ns.map kf).map PyData.int := by rw [List.map_map]; rfl
      rw [ee]
      exact ⟨s'.heap, kA.toList, hal, rfl, hk'⟩
    have eo := keyedOut_each (R := fun v n => RelV (.int n) v) (bs := ns) (fun n => PyData.int (kf n)) ko hE
    rw [dataLe_int] at eo
    generalize hO : sortVals (dataKind s'.heap ((ns.map kf).map PyData.int)) false kA.toList its = O at n3 eo
    generalize hM : (ns.mergeSort fun a b => decide (kf a ≤ kf b)) = M at eo
    have pm : M.Perm ns := by rw [← hM]; exact List.mergeSort_perm _ _
    have pw : M.Pairwise (fun a b => kf a ≤ kf b) := by
      rw [← hM]
      exact (List.pairwise_mergeSort (le := fun a b => decide (kf a ≤ kf b)) (fun a b c h1 h2 => by simp only [decide_eq_true_eq] at *; omega) (fun a b => by simp only [Bool.or_eq_true, decide_eq_true_eq]; omega) ns).imp fun h => of_decide_eq_true h
    have rvO := vals_of_each eo
    obtain ⟨fa0, fa1, fa2, fa3, fa4, fa5⟩ := I1.fpOk (H' := H') hsa na
    obtain ⟨fk0, fk1, fk2, fk3, fk4, fk5⟩ := I1.fpOk (H' := H') hsk nk
    have old : ∀ b o, b ≠ a → b ≠ kS → s'.heap.get? b = some o → h3.get? b = some o := fun b o ba bk e => k3 b o ba (by rw [geG b bk]; exact e)
    have hMl : (M.map V.int).length ≤ sizeLine := by rw [List.length_map, pm.length_eq, ← hlen]; exact hz'
    have J : Inv X pins σ (upd H' a (.lst (M.map V.int))) { s' with heap := h3, toks := tk3 } := by
      refine I'.call' (ch := [a, kS]) (s' := { s' with heap := h3, toks := tk3 }) rfl ⟨fun b o e _ _ hx => ?_, fun b o e _ _ hx => ?_, fun b o e hn hx => ?_, fun b o e hx => ?_, fun b xs e => ?_, fun b o u e => ?_, fun b ps e => ⟨#[], ?_⟩⟩ (fun b o e => ?_) I'.bare fun b hb => ?_
      · simp only [List.mem_cons, List.not_mem_nil, or_false, not_or] at hx
        exact old b o hx.1 hx.2 e
      · simp only [List.mem_cons, List.not_mem_nil, or_false, not_or] at hx
        exact ⟨o.slots, old b o hx.1 hx.2 e⟩
      · simp only [List.mem_cons, List.not_mem_nil, or_false, not_or] at hx
        rw [upd_ne hx.1]
        exact hn
      · simp only [List.mem_cons, List.not_mem_nil, or_false, not_or] at hx
        exact ⟨o, old b o hx.1 hx.2 e⟩
      · rw [upd_ne (ne_of_none e na)]; exact e
      · rw [upd_ne (ne_of_none e na)]; exact e
      · rw [upd_ne (ne_of_none e na)]; simp [e]
      · by_cases eb : b = a
        · subst eb
          rw [upd_same] at e
          cases e
          exact ⟨hMl, O, c, rvO, n3⟩
        · rw [upd_ne eb] at e
          refine (I'.hok b o e).stay (fun z u hz r => old z u (fun y => ?_) (fun y => ?_) r) (fun z hz => ?_) fun z xs hz => ?_
          · rcases hz with hz | hz
            · exact eb (hz.symm.trans y)
            · rw [y, na] at hz; cases hz
          · rcases hz with hz | hz
            · rw [← hz, y, nk] at e; cases e
            · rw [y, nk] at hz; cases hz
          · rw [upd_ne (ne_of_none hz na)]; exact hz
          · rw [upd_ne (ne_of_none hz na)]; exact hz
      · simp only [List.mem_cons, List.not_mem_nil, or_false] at hb
        rcases hb with rfl | rfl
        · exact ⟨fa3, fa1, fa4, fa5⟩
        · exact ⟨fk3, fk1, fk4, fk5⟩
    exact ⟨.ref a, _, J, rfl, q M a H' xN xT na hM.symm⟩
end
end DL

set_option Elab.async false
set_option linter.all false
set_option maxRecDepth 100000
set_option maxHeartbeats 4000000
namespace DL
open PySem PySem.Spec L2 PyProof.Rows LamX PySem.W
set_option autoImplicit false
/-! ### sorted(a, key=lambda x: body) as an expression -/
def TP (T : List (Addr × PySem.Str)) : List Addr := T.map (·.1)
section
variable {X : Cx}
theorem xt_tbl {T : List (Addr × PySem.Str)} {H : Hp} {a : Addr} {o : HO} (hT : Tabs T H) (e : H a = some o) (no : ∀ ps, o ≠ .tbl ps) : a ∉ TP T := fun z => by
  obtain ⟨p, hp, rfl⟩ := List.mem_map.mp z
  obtain ⟨ps, h1, _⟩ := hT p hp
  rw [h1] at e
  cases e
  exact no ps rfl
theorem XT.get {T : List (Addr × PySem.Str)} {H H' : Hp} (x : XT T H H') {a : Addr} {o : HO} (h : a ∉ TP T) (e : H a = some o) : H' a = some o := by
  have := x a o ((hide_out (S := T.map (·.1)) h).trans e)
  exact (hide_some this).2
theorem XT.at {T : List (Addr × PySem.Str)} {H H' : Hp} (x : XT T H H') (hT : Tabs T H) {a : Addr} {o : HO} (e : H a = some o) (no : ∀ ps, o ≠ .tbl ps) : H' a = some o := x.get (xt_tbl hT e no) e
theorem sq_xt {K : PySem.W.Frag} {T : List (Addr × PySem.Str)} {H H' : Hp} {a : Addr} {xs : List V} (x : XT T H H') (hT : Tabs T H) (s : SqL K H a xs) : SqL K H' a xs := by
  rcases s with (e | ⟨o, e⟩) | s
  · exact .inl (.inl (x.at hT e (by intro _ z; cases z)))
  · exact .inl (.inr ⟨o, x.at hT e (by intro _ z; cases z)⟩)
  · exact .inr s
def tSortLam (K : PySem.W.Frag) (T : List (Addr × PySem.Str)) (i : Nat) (ta tb : TE) : TE := fun σ H Q => ta σ H fun x H1 => ∃ (l : Addr) (ns : List Int) (kf : Int → Int), [x] = [V.ref l] ∧ SqL K H1 l (ns.map V.int) ∧ Tabs T H1 ∧
  (∀ H2, XT T H1 H2 → Tabs T H2 → ∀ n ∈ ns, tb (σ.set i (some (.int n))) H2 fun w H3 => w = .int (kf n) ∧ XT T H2 H3 ∧ Tabs T H3) ∧
  ∀ (out : List Int) (p : Addr) (H3 : Hp), XT T H1 H3 → Tabs T H3 → H3 p = none → out = (ns.mergeSort fun a b => decide (kf a ≤ kf b)) → Q (.ref p) (upd H3 p (.lst (out.map V.int)))
theorem pe_sortLam {T : List (Addr × PySem.Str)} {c P : Addr} {params : Arguments} {body : Expr} {scope : Scope} {x : PySem.Str} {i k : Nat} {a : Expr} {ta tb : TE} {p pos lpos kpos : Pos} (hg : Gl X "sorted") (hm : X.mg "sorted" = none) (ha : PE X a ta)
    (TB : TabB X.base X.mg c P) (hcode : X.env.code = .ref c) (hmT : (P, X.env.qual ++ "<lambda>") ∈ T) (hu : ∀ p ∈ T, p.1 = P → p.2 = X.env.qual ++ "<lambda>") (hone : ∀ p ∈ T, p.1 = P) (hdef : defaultsOf params X.env = ([], []))
    (L : Lam1 X.env.scope scope x) (hN : X.N.Nodup) (hi : X.N[i]? = some x) (hr : Room (k + 3) X.A) (hc : X.calm = true)
    (hbind : ∀ (q : PySem.Str) (cl : List (PySem.Str × Addr)) (pm cv ctv u : Value), bindArgs (PySem.W.kla_fn "<lambda>" q params body scope cl pm cv ctv) ⟨[u], []⟩ = pure [(x, u)])
    (hbody : ∀ (A : Around) (s : Shared) (H : Hp) (E : XK) (f c' : Addr), Room k (A.deeper (lamEnv X scope s.heap.objs.size f c')) → PE (lamCx X A X.stack s H E scope f c') body tb)
    (na : starEach [a] X.env = (false, eval a X.env) :: starEach [] X.env := by rfl) :
    PE X (.Call (.Name "sorted" p) [a] [⟨some "key", .Lambda params body scope lpos, kpos⟩] pos) (tSortLam X.K T i ta tb) := by
  refine ⟨fun pins s σ H Q I h => ?_⟩
  refine wpAny_Call_Name_kw (ld_blt I hg hm PyProof.Rows.boot_sorted ?_)
  have he : backTo pos (starEach [a] X.env) = (false, eval a X.env) :: backTo pos (starEach [] X.env) := by rw [na]; rfl
  refine PyProof.Rows.callWith_kw (thn ((pa_cons ha pa_nil na).run pos pins s σ H (fun vs H1 => ∃ (l : Addr) (ns : List Int) (kf : Int → Int), vs = [.ref l] ∧ SqL X.K H1 l (ns.map V.int) ∧ Tabs T H1 ∧
      (∀ H2, XT T H1 H2 → Tabs T H2 → ∀ n ∈ ns, tb (σ.set i (some (.int n))) H2 fun w H3 => w = .int (kf n) ∧ XT T H2 H3 ∧ Tabs T H3) ∧
      ∀ (out : List Int) (p : Addr) (H3 : Hp), XT T H1 H3 → Tabs T H3 → H3 p = none → out = (ns.mergeSort fun a b => decide (kf a ≤ kf b)) → Q (.ref p) (upd H3 p (.lst (out.map V.int)))) I ?pre) fun us s1 hq => ?_) he (by rw [he]; rfl) rfl rfl
  case pre => exact h
  obtain ⟨vs, H1, I1, r1, l, ns, kf, rfl, hs, hT1, hk, q⟩ := hq
  obtain rfl := Vals.ref1 r1
  show wpAny _ _ (evalAll ((do let v ← eval (.Lambda params body scope lpos) X.env; standAt pos; pure v) :: [])) _ _ s1
  refine wpAny_evalAll_cons (wpAny_bind (lam_made I1 TB hcode hmT hu hT1 hone hdef (L.has I1.ok) fun f c' pm ctv H2 s2 I2 x2 T2 hf hfn hff hco => wpAny_bind (wpAny_standAt (wpAny_pure (wpAny_evalAll_nil ?_)))))
  refine call_sortKey (kf := kf) I2 T2 hr.units (sq_xt x2 hT1 hs) hf hfn hff (fun s' H' n v hn rv I' x' T' hf' => ?_) fun out p H3 x3 T3 n3 pm3 => q out p H3 (x2.trans x3) T3 n3 pm3
  exact lam_run (A := X.A.in1.in1) I' L hN hi rv hf' (x'.at T2 hco (by intro _ z; cases z)) (fun u => hbind _ _ _ _ _ u) hr.in1.in1 I'.ok.frames hr.in1.in1.hd (fun A E hrA => hbody A s' H' E f c' hrA) (hk H' (x2.trans x') T' n hn)
end
end DL

set_option Elab.async false
set_option linter.all false
set_option maxRecDepth 100000
set_option maxHeartbeats 4000000
namespace DL
open PySem PySem.Spec L2 PyProof.Rows LamX PySem.W
set_option autoImplicit false
/-! ### data is blind to tables -/
mutual
theorem Rp.monoN {K : PySem.W.Frag} {H H' : Hp} (s : ExtN H H') : ∀ {v : V} {d : PyData}, Rp K H v d → Rp K H' v d
  | _, _, .non => .non
  | _, _, .bl b => .bl b
  | _, _, .int i => .int i
  | _, _, .str x => .str x
  | _, _, .lst e z r => .lst (s _ _ e (by intro _ h; cases h)) z (RpAll.monoN s r)
  | _, _, .tup e k z r => .tup (s _ _ e (by intro _ h; cases h)) k z (RpAll.monoN s r)
  | _, _, .dct r z => .dct (r.elim (fun e => .inl (s _ _ e (by intro _ h; cases h))) fun ⟨o, e⟩ => .inr ⟨o, s _ _ e (by intro _ h; cases h)⟩) z
  | _, _, .dctF e z => .dctF (s _ _ e (by intro _ h; cases h)) z
  | _, _, .scr r z => .scr (by
      rcases r with (e | ⟨o, e⟩) | e
      · exact .inl (.inl (s _ _ e (by intro _ h; cases h)))
      · exact .inl (.inr ⟨o, s _ _ e (by intro _ h; cases h)⟩)
      · exact .inr e) z
theorem RpAll.monoN {K : PySem.W.Frag} {H H' : Hp} (s : ExtN H H') : ∀ {vs : List V} {ds : List PyData}, RpAll K H vs ds → RpAll K H' vs ds
  | _, _, .nil => .nil
  | _, _, .cons h t => .cons (Rp.monoN s h) (RpAll.monoN s t)
end
section
variable {K : PySem.W.Frag} {S : List Addr} {H0 H H' : Hp} {δ δ1 : DEnv} {ω ω1 : Own} {σ : L2.St} {T : List (Addr × PySem.Str)}
theorem extN_hide {H H' : Hp} (s : ExtN H H') (S : List Addr) : ExtN (DL.hide S H) (DL.hide S H') := fun b o e no => by
  obtain ⟨h1, h2⟩ := hide_some e
  rw [hide_out h1]
  exact s b o h2 no
theorem XT.extN (x : XT T H H') (hT : Tabs T H) : ExtN H H' := fun _ _ e no => x.at hT e no
theorem hide_comm (A B : List Addr) (H : Hp) : hide A (hide B H) = hide B (hide A H) := by
  funext a
  unfold hide
  by_cases h1 : a ∈ A <;> by_cases h2 : a ∈ B <;> simp [h1, h2]
theorem tabs_at (hT : Tabs T H) : ∀ a ∈ TP T, ∃ ps, H a = some (.tbl ps) := fun a ha => by
  obtain ⟨p, hp, rfl⟩ := List.mem_map.mp ha
  obtain ⟨ps, h, _⟩ := hT p hp
  exact ⟨ps, h⟩
theorem nt_hide (hT : Tabs T H) : ExtN H (hide (TP T) H) := fun b o e no => by
  rw [hide_out (xt_tbl hT e no)]
  exact e
/-- an own thing is a list or a dict -/
theorem OCat.kind {F : Hp} {a : Addr} {c : OC} (h : OCat K F H a c) : (∃ xs, H a = some (.lst xs)) ∨ ∃ kvs, H a = some (.dK kvs) := by
  cases c with
  | lst ds =>
    obtain ⟨xs, h, _⟩ := h
    exact .inl ⟨_, h⟩
  | dct kvs =>
    obtain ⟨h, _⟩ := h
    exact .inr ⟨_, h⟩
theorem OCat.monoN {F F' : Hp} {a : Addr} {c : OC} (h : OCat K F H a c) (s : ExtN F F') (t : ∀ o, H a = some o → (∀ ps, o ≠ .tbl ps) → H' a = some o) : OCat K F' H' a c := by
  cases c with
  | lst ds =>
    obtain ⟨xs, h1, h2, h3⟩ := h
    exact ⟨xs, t _ h1 (by intro _ z; cases z), h2, h3.monoN s⟩
  | dct kvs =>
    obtain ⟨h1, h2⟩ := h
    exact ⟨t _ h1 (by intro _ z; cases z), h2⟩
theorem SRel.exT (hS : SOk S H0) (h0 : ∀ a ∈ TP T, H0 a = none) (hT : Tabs T H) (r : SRel K S H0 δ ω σ H) : ∃ as : List Addr, (as.length = ω.length ∧ as.Nodup ∧ SOk (as ++ S) H ∧ Same H0 (hide as H) ∧ Rel K (as ++ S) δ σ H ∧
    ∀ (k i : Nat) (c : OC) (a : Addr), ω[k]? = some (i, c) → as[k]? = some a → σ[i]? = some (some (.ref a)) ∧ OCat K (hide (as ++ S) H) H a c) ∧ (∀ a ∈ as ++ S, a ∉ TP T) ∧ Tabs T (hide as H) := by
  obtain ⟨as, h1, h2, h3, h4, h5, h6⟩ := r.ex
  have kOf : ∀ a ∈ as, (∃ xs, H a = some (.lst xs)) ∨ ∃ kvs, H a = some (.dK kvs) := fun a ha => by
    obtain ⟨k, hk, e⟩ := List.mem_iff_getElem.mp ha
    have hk' : k < ω.length := by rw [← h1]; exact hk
    exact (h6 k ω[k].1 ω[k].2 a (List.getElem?_eq_getElem hk') (by rw [List.getElem?_eq_getElem hk, e])).2.kind
  have ne : ∀ a ∈ as, ∀ o, H a = some o → (∀ ps, o ≠ .tbl ps) ∧ ∀ f, o ≠ .ext f := fun a ha o e => by
    rcases kOf a ha with ⟨xs, h⟩ | ⟨kvs, h⟩
    · rw [h] at e
      cases e
      exact ⟨(by intro _ z; cases z), (by intro _ z; cases z)⟩
    · rw [h] at e
      cases e
      exact ⟨(by intro _ z; cases z), (by intro _ z; cases z)⟩
  refine ⟨as, ⟨h1, h2, h3, h4, h5, h6⟩, fun a ha z => ?_, fun p hp => ?_⟩
  · obtain ⟨ps, e⟩ := tabs_at hT a z
    rcases List.mem_append.mp ha with m | m
    · exact (ne a m _ e).1 ps rfl
    · exact hS a m (h0 a z)
  · obtain ⟨ps, e1, e2, e3⟩ := hT p hp
    refine ⟨ps, by rw [hide_out fun m => (ne _ m _ e1).1 ps rfl]; exact e1, e2, fun pos cv hc => ?_⟩
    obtain ⟨c, g1, g2⟩ := e3 pos cv hc
    exact ⟨c, g1, by rw [hide_out fun m => (ne _ m _ g2).2 _ rfl]; exact g2⟩
/-- the tables may change -/
theorem SRel.xt (hS : SOk S H0) (h0 : ∀ a ∈ TP T, H0 a = none) (hT : Tabs T H) (x : XT T H H') (r : SRel K S H0 δ ω σ H) : SRel K S H0 δ ω σ H' := by
  obtain ⟨as, ⟨h1, h2, h3, h4, h5, h6⟩, h7, h8⟩ := r.exT hS h0 hT
  have xn := x.extN hT
  refine ⟨as, h1, h2, fun a ha => ?_, fun b o e => ?_, ⟨h5.len, fun i d e => let ⟨v, z1, z2⟩ := h5.val i d e; ⟨v, z1, z2.monoN (extN_hide xn _)⟩⟩, fun k i c a e1 e2 => let ⟨q1, q2⟩ := h6 k i c a e1 e2; ⟨q1, q2.monoN (extN_hide xn _) (xn a)⟩⟩
  · cases e : H a with
    | none => exact absurd e (h3 a ha)
    | some o => rw [x.get (h7 a ha) e]; simp
  · obtain ⟨g1, g2⟩ := hide_some (h4 b o e)
    rw [hide_out g1]
    refine x.get (fun z => ?_) g2
    rw [h0 b z] at e
    cases e
theorem SRel.bsX (hS : SOk S H0) (h0 : ∀ a ∈ TP T, H0 a = none) (hT : Tabs T H) (r : SRel K S H0 δ ω σ H) : ∃ as : List Addr, SOk (as ++ S) H ∧ Rel K (as ++ S) δ σ H ∧ (∀ a ∈ as ++ S, a ∉ TP T) ∧
    ∀ (H' : Hp) (i : Nat) (v : V) (d : PyData), XT T H H' → Rp K (hide (as ++ S) H') v d → (∀ p ∈ ω, p.1 ≠ i) → SRel K S H0 (δ.set i (some d)) ω (σ.set i (some v)) H' := by
  obtain ⟨as, ⟨h1, h2, h3, h4, h5, h6⟩, h7, h8⟩ := r.exT hS h0 hT
  refine ⟨as, h3, h5, h7, fun H' i v d x rv hi => ?_⟩
  have xn := x.extN hT
  refine ⟨as, h1, h2, fun a ha => ?_, fun b o e => ?_, (Rel.set (i := i) ⟨h5.len, fun i d e => let ⟨v, z1, z2⟩ := h5.val i d e; ⟨v, z1, z2.monoN (extN_hide xn _)⟩⟩ rv), fun k j c a e1 e2 => ?_⟩
  · cases e : H a with
    | none => exact absurd e (h3 a ha)
    | some o => rw [x.get (h7 a ha) e]; simp
  · obtain ⟨g1, g2⟩ := hide_some (h4 b o e)
    rw [hide_out g1]
    refine x.get (fun z => ?_) g2
    rw [h0 b z] at e
    cases e
  · obtain ⟨q1, q2⟩ := h6 k j c a e1 e2
    refine ⟨?_, q2.monoN (extN_hide xn _) (xn a)⟩
    rw [List.getElem?_set_ne fun z => hi _ (List.mem_of_getElem? e1) z.symm]
    exact q1
end
/-! ### statements that may change tables -/
def OutY (K : PySem.W.Frag) (T : List (Addr × PySem.Str)) (S : List Addr) (H0 : Hp) (D : Ends) : Out → Prop
  | .next δ ω => ∀ σ' H', SRel K S H0 δ ω σ' H' → Tabs T H' → D.nx σ' H'
  | .ret d => ∀ v H', Same H0 H' → Tabs T H' → Rp K (hide S H') v d → D.rt v H'
def tDY (K : PySem.W.Frag) (T : List (Addr × PySem.Str)) (R : DEnv → Own → Out → Prop) : TS := fun D σ H => ∃ S H0 δ ω out, R δ ω out ∧ SOk S H0 ∧ (∀ a ∈ TP T, H0 a = none) ∧ Tabs T H ∧ SRel K S H0 δ ω σ H ∧ OutY K T S H0 D out
def DY (G : Ct) (T : List (Addr × PySem.Str)) (C : Cx → Prop) (δ : DEnv) (ω : Own) (st : Stmt) (out : Out) : Prop := ∀ X, G.Is X → C X → PS X st (tDY G.m.K T fun δ' ω' o' => δ' = δ ∧ ω' = ω ∧ o' = out)
def DYs (G : Ct) (T : List (Addr × PySem.Str)) (C : Cx → Prop) (δ : DEnv) (ω : Own) (sts : List Stmt) (out : Out) : Prop := ∀ X, G.Is X → C X → PSs X sts (tDY G.m.K T fun δ' ω' o' => δ' = δ ∧ ω' = ω ∧ o' = out)
def tYV (K : PySem.W.Frag) (T : List (Addr × PySem.Str)) (R : DEnv → PyData → Prop) : TE := fun σ H Q => ∃ S δ d, R δ d ∧ SOk S H ∧ (∀ a ∈ S, a ∉ TP T) ∧ Tabs T H ∧ Rel K S δ σ H ∧ ∀ v H', XT T H H' → Tabs T H' → Rp K (hide S H') v d → Q v H'
def DVY (G : Ct) (T : List (Addr × PySem.Str)) (C : Cx → Prop) (δ : DEnv) (e : Expr) (d : PyData) : Prop := ∀ X, G.Is X → C X → PE X e (tYV G.m.K T fun δ' d' => δ' = δ ∧ d' = d)
theorem PSs.relY {X : Cx} {sts : List Stmt} {K : PySem.W.Frag} {T : List (Addr × PySem.Str)} {R : DEnv → Own → Out → Prop} (h : ∀ δ ω o, R δ ω o → PSs X sts (tDY K T fun δ' ω' o' => δ' = δ ∧ ω' = ω ∧ o' = o)) : PSs X sts (tDY K T R) :=
  ⟨fun pins s σ H D I ⟨S, H0, δ, ω, o, r, q⟩ => (h δ ω o r).run pins s σ H D I ⟨S, H0, δ, ω, o, ⟨rfl, rfl, rfl⟩, q⟩⟩
section
variable {G : Ct} {T : List (Addr × PySem.Str)} {C : Cx → Prop} {δ δ1 : DEnv} {ω ω1 : Own} {st : Stmt} {rest body thn els : List Stmt} {out : Out} {a b c e tg iter : Expr} {es : List Expr} {x y z d : PyData} {ds items : List PyData} {pos p p2 : Pos} {ts : TSpec}
theorem yOf {K : PySem.W.Frag} {S : List Addr} {H0 H : Hp} {σ : L2.St} {D : Ends} (hS : SOk S H0) (h0 : ∀ a ∈ TP T, H0 a = none) (hT : Tabs T H) (r : SRel K S H0 δ ω σ H) (q : OutY K T S H0 D out) : ∃ F, SOk S F ∧ SRel K S F δ ω σ H ∧ OutOk K S F D out := by
  obtain ⟨as, ⟨h1, h2, h3, h4, h5, h6⟩, h7, h8⟩ := r.exT hS h0 hT
  refine ⟨hide as H, hS.mono h4, ⟨as, h1, h2, h3, Same.refl _, h5, h6⟩, ?_⟩
  cases out with
  | next δ' ω' =>
    intro σ' H' r'
    refine q σ' H' (r'.unbase h4) ?_
    obtain ⟨as', _, _, _, g4, _⟩ := r'.ex
    exact h8.ext (g4.trans (hide_sub _ _))
  | ret d =>
    intro v H' s rv
    exact q v H' (h4.trans s) (h8.ext s) rv
theorem dy_of (h : DS G δ ω st out) : DY G T C δ ω st out := fun X hX _ => PS.imp (h X hX) fun D σ H ⟨S, H0, δ', ω', o', ⟨e1, e2, e3⟩, hS, h0, hT, r, q⟩ => by
  subst e1 e2 e3
  obtain ⟨F, g1, g2, g3⟩ := yOf hS h0 hT r q
  exact ⟨S, F, _, _, _, ⟨rfl, rfl, rfl⟩, g1, g2, g3⟩
theorem dy_of1 (h : DT1 G δ ω st out) (hC : ∀ X, C X → Top X) : DY G T C δ ω st out := fun X hX c => PS.imp (h X hX (hC X c)) fun D σ H ⟨S, H0, δ', ω', o', ⟨e1, e2, e3⟩, hS, h0, hT, r, q⟩ => by
  subst e1 e2 e3
  obtain ⟨F, g1, g2, g3⟩ := yOf hS h0 hT r q
  exact ⟨S, F, _, _, _, ⟨rfl, rfl, rfl⟩, g1, g2, g3⟩
theorem dys_of (h : DSs G δ ω rest out) : DYs G T C δ ω rest out := fun X hX _ => PSs.imp (h X hX) fun D σ H ⟨S, H0, δ', ω', o', ⟨e1, e2, e3⟩, hS, h0, hT, r, q⟩ => by
  subst e1 e2 e3
  obtain ⟨F, g1, g2, g3⟩ := yOf hS h0 hT r q
  exact ⟨S, F, _, _, _, ⟨rfl, rfl, rfl⟩, g1, g2, g3⟩
theorem dys_cons (h : DY G T C δ ω st (.next δ1 ω1)) (h2 : DYs G T C δ1 ω1 rest out) : DYs G T C δ ω (st :: rest) out := fun X hX c => PSs.imp (pss_cons (h X hX c) (h2 X hX c)) fun D σ H ⟨S, H0, δ', ω', o', ⟨e1, e2, e3⟩, hS, h0, hT, r, q⟩ => by
  subst e1 e2 e3
  exact ⟨S, H0, _, _, _, ⟨rfl, rfl, rfl⟩, hS, h0, hT, r, fun σ' H' r' hT' => ⟨S, H0, _, _, _, ⟨rfl, rfl, rfl⟩, hS, h0, hT', r', q⟩⟩
theorem dys_step (h : DS G δ ω st (.next δ1 ω1)) (h2 : DYs G T C δ1 ω1 rest out) : DYs G T C δ ω (st :: rest) out := dys_cons (dy_of h) h2
theorem dys_nil : DYs G T C δ ω [] (.next δ ω) := dys_of dss_nil
theorem dys_end (h : DY G T C δ ω st (.ret d)) : DYs G T C δ ω (st :: rest) (.ret d) := fun X hX c => PSs.imp (pss_cons (h X hX c) pss_never) fun D σ H ⟨S, H0, δ', ω', o', ⟨e1, e2, e3⟩, hS, h0, hT, r, q⟩ => by
  subst e1 e2 e3
  exact ⟨S, H0, _, _, _, ⟨rfl, rfl, rfl⟩, hS, h0, hT, r, q⟩
theorem dys_forget (k : Nat) (h : DYs G T C δ (ω.eraseIdx k) rest out) : DYs G T C δ ω rest out := fun X hX c => PSs.imp (h X hX c) fun D σ H ⟨S, H0, δ', ω', o', ⟨e1, e2, e3⟩, hS, h0, hT, r, q⟩ => by
  subst e1 e2 e3
  exact ⟨S, H0, _, _, _, ⟨rfl, rfl, rfl⟩, hS, h0, hT, r.forget k, q⟩
theorem DYs.conv (h : DYs G T C δ ω rest out) {o : Out} (q : out = o) : DYs G T C δ ω rest o := q ▸ h
/-- y = e -/
theorem dy_set (i : Nat) {n : PySem.Str} (hN : G.N[i]? = some n) (hl : locB G n = true) (h : DVY G T C δ e d) (hi : ∀ q ∈ ω, q.1 ≠ i := by simp) (hs : ∀ env : Env, swapsWith e (some (.Name n p)) pos.line env = pure false := by intro _; rfl) :
    DY G T C δ ω (.Assign [.Name n p] e pos) (.next (δ.set i (some d)) ω) := fun X hX c =>
  PS.imp (ps_set hX.nd (by rw [hX.N]; exact hN) (by rw [hX.sc]; exact loc_of hl) (h X hX c) (hs _) (loc_fn hX hl)) fun D σ H ⟨S, H0, δ', ω', o', ⟨e1, e2, e3⟩, hS, h0, hT, r, q⟩ => by
    subst e1 e2 e3
    obtain ⟨as, g1, g2, g3, g4⟩ := r.bsX hS h0 hT
    exact ⟨_, _, _, ⟨rfl, rfl⟩, g1, g3, hT, g2, fun v H' x hT' rv => q _ _ (g4 H' i v d x rv hi) hT'⟩
theorem dvy_of (h : DV G δ e d) : DVY G T C δ e d := fun X hX _ => PE.imp (h X hX) fun σ H Q ⟨S, δ', d', ⟨e1, e2⟩, ok, nS, hT, R, q⟩ => by
  subst e1 e2
  exact ⟨S, _, _, ⟨rfl, rfl⟩, ok, R, fun v H' s rv => q v H' (XT.of s) (hT.ext s) rv⟩
/-! for -/
def DForY (G : Ct) (T : List (Addr × PySem.Str)) (C : Cx → Prop) (ts : TSpec) (body : List Stmt) : List PyData → DEnv → Own → Out → Prop
  | [], δ, ω, out => out = .next δ ω
  | d :: ds, δ, ω, out => ∃ δb, bindT ts d δ = some δb ∧ ofree ts ω ∧ ((∃ δ1 ω1, DYs G T C δb ω body (.next δ1 ω1) ∧ DForY G T C ts body ds δ1 ω1 out) ∨ ∃ r, out = .ret r ∧ DYs G T C δb ω body (.ret r))
theorem OutY.unbase {K : PySem.W.Frag} {S : List Addr} {H0 F : Hp} {D : Ends} (s : Same H0 F) : ∀ {out : Out}, OutY K T S H0 D out → OutY K T S F D out
  | .next _ _, q => fun σ' H' r => q σ' H' (r.unbase s)
  | .ret _, q => fun v H' s' rv => q v H' (s.trans s') rv
theorem dy_for_core {wi : TI} (hg : DG G tg ts) (hpi : ∀ X, G.Is X → PI X tg iter wi) (hbody : DForY G T C ts body items δ ω out)
    (hwi : ∀ (S : List Addr) (σ : L2.St) (H : Hp) (Q : It → Hp → Prop), SOk S H → Rel G.m.K S δ σ H →
      (∀ J H', Same H H' → (∀ (S2 : List Addr) (H2 : Hp), Same (hide S H') (hide S2 H2) → SOk S2 H2 →
        (∀ (i : Nat) (d : PyData), items[i]? = some d → J.go i H2 ∧ ∀ x H3, J.yld i H2 x H3 → Same H2 H3 ∧ ts.rep G.m.K (hide S2 H3) x d) ∧ J.stop items.length H2) → Q J H') → wi σ H Q)
    (hs : ∀ (env : Env) (x : Value), foldedSetIterable iter env x = pure x) : DY G T C δ ω (.For tg iter body [] pos) out := fun X hX c => by
  have hb : PSs X body (tDY G.m.K T fun δ' ω' o' => DYs G T C δ' ω' body o') := PSs.relY fun δ' ω' o' h => h X hX c
  refine PS.imp (ps_for hX.xe hX.calm (hpi X hX) (hg X hX) hb (hs _)) fun D σ H ⟨S, H0, δ', ω', o', ⟨e1, e2, e3⟩, hS, h0, hT, r, q⟩ => ?_
  subst e1 e2 e3
  obtain ⟨as, ⟨h1, h2, h3, h4, h5, h6⟩, h7, h8⟩ := r.exT hS h0 hT
  have okT : ∀ {A : List Addr} {H : Hp}, Tabs T H → SOk A H → SOk (TP T ++ A) H := fun hT ok a ha => by
    rcases List.mem_append.mp ha with m | m
    · obtain ⟨ps, e⟩ := tabs_at hT a m
      rw [e]
      simp
    · exact ok a m
  have relT : ∀ {A : List Addr} {δ : DEnv} {σ : L2.St} {H : Hp}, Tabs T H → Rel G.m.K A δ σ H → Rel G.m.K (TP T ++ A) δ σ H := fun {A δ σ H} hT R => ⟨R.len, fun i d e => by
    obtain ⟨v, z1, z2⟩ := R.val i d e
    refine ⟨v, z1, ?_⟩
    rw [hide_app, hide_comm]
    refine z2.monoN fun b o e no => ?_
    obtain ⟨k1, k2⟩ := hide_some e
    rw [hide_out (xt_tbl hT k2 no), hide_out k1]
    exact k2⟩
  refine hwi (TP T ++ (as ++ S)) σ H _ (okT hT h3) (relT hT h5) fun J H1 s1 itok => ?_
  have hT1 : Tabs T H1 := hT.ext s1
  have hF : Same H0 (hide (TP T) (hide as H1)) := fun b o e => by
    rw [hide_out fun z => by rw [h0 b z] at e; cases e]
    exact hide_mono s1 _ _ (h4 b o e)
  have hSF : SOk S (hide (TP T) (hide as H1)) := hS.mono hF
  have r1 : SRel G.m.K S (hide (TP T) (hide as H1)) δ' ω' σ H1 := ⟨as, h1, h2, h3.mono s1, hide_sub _ _, h5.mono s1, fun k i c a e1 e2 => let ⟨q1, q2⟩ := h6 k i c a e1 e2; ⟨q1, q2.mono (hide_mono s1) (s1 _)⟩⟩
  have hF0 : ∀ a ∈ TP T, hide (TP T) (hide as H1) a = none := fun a ha => hide_in ha
  generalize hFe : hide (TP T) (hide as H1) = F at hF hSF r1 hF0
  refine ⟨fun i m σ' H' => m = items.length - i ∧ i ≤ items.length ∧ Tabs T H' ∧ ∃ δi ωi, DForY G T C ts body (items.drop i) δi ωi o' ∧ SRel G.m.K S F δi ωi σ' H', ⟨_, rfl, Nat.zero_le _, hT1, δ', ω', hbody, r1⟩, ?_⟩
  rintro i m σ' H' ⟨em, hi, hT', δi, ωi, hrun, r'⟩
  obtain ⟨as', ⟨b1, b2, b3, b4, b5, b6⟩, b7, b8⟩ := r'.exT hSF hF0 hT'
  have hsm : Same (hide (TP T ++ (as ++ S)) H1) (hide (TP T ++ (as' ++ S)) H') := by
    rw [hide_app, hide_app as, hide_comm as, hFe, hide_app (TP T), hide_app as', hide_comm as']
    refine hide_mono fun b o e => ?_
    rw [hide_out fun z => by rw [hF0 b z] at e; cases e]
    exact b4 b o e
  obtain ⟨hgo, hstop⟩ := itok _ _ hsm (okT hT' b3)
  by_cases hlt : i < items.length
  · rw [List.drop_eq_getElem_cons hlt] at hrun
    obtain ⟨δb, hbd, hfree, halt⟩ := hrun
    obtain ⟨go, yld⟩ := hgo i items[i] (List.getElem?_eq_getElem hlt)
    have body : ∀ (N : L2.St → Hp → Prop) (o2 : Out), DYs G T C δb ωi body o2 → OutY G.m.K T S F { D with nx := N, ct := N, bk := D.nx } o2 → ∀ x H3, J.yld i H' x H3 → tDG G.m.K ts x σ' H3 fun σ2 H2 => tDY G.m.K T (fun δ' ω' o' => DYs G T C δ' ω' body o') { D with nx := N, ct := N, bk := D.nx } σ2 H2 := by
      intro N o2 hd ho x H3 y
      obtain ⟨s3, rx⟩ := yld x H3 y
      refine ⟨_, δi, items[i], δb, hbd, (okT hT' b3).mono s3, (relT hT' b5).mono s3, rx, fun σ2 R2 keep hl => ⟨S, F, δb, ωi, o2, hd, hSF, hF0, hT'.ext s3, ⟨as', b1, b2, b3.mono s3, b4.trans (hide_mono s3), ?_, fun k j c a e1 e2 => ?_⟩, ho⟩⟩
      · exact ⟨R2.len, fun i d e => let ⟨v, z1, z2⟩ := R2.val i d e; ⟨v, z1, z2.mono (hide_le (fun a ha => List.mem_append_right _ ha) _)⟩⟩
      · obtain ⟨z1, z2⟩ := b6 k j c a e1 e2
        exact ⟨by rw [keep j (hfree _ (List.mem_of_getElem? e1))]; exact z1, z2.mono (hide_mono s3) (s3 _)⟩
    rcases halt with ⟨δ1, ω1, hd, hrest⟩ | ⟨rr, eo, hd⟩
    · refine .inr ⟨go, fun σ2 H2 => Tabs T H2 ∧ ∃ δ1 ω1, DForY G T C ts _ (items.drop (i + 1)) δ1 ω1 o' ∧ SRel G.m.K S F δ1 ω1 σ2 H2, fun σ2 H2 ⟨t2, d1, w1, g1, g2⟩ => ⟨items.length - (i + 1), by omega, rfl, hlt, t2, d1, w1, g1, g2⟩, ?_⟩
      exact body _ _ hd fun σ2 H2 r2 t2 => ⟨t2, δ1, ω1, hrest, r2⟩
    · subst eo
      refine .inr ⟨go, fun _ _ => False, fun _ _ z => z.elim, ?_⟩
      exact body _ _ hd fun v H2 s2 t2 rv => q v H2 (hF.trans s2) t2 rv
  · have ei : i = items.length := by omega
    subst ei
    rw [List.drop_length] at hrun
    have eo : o' = .next δi ωi := hrun
    subst eo
    exact .inl ⟨hstop, q σ' H' (r'.unbase hF) hT'⟩
theorem dy_for1 (i : Nat) (hg : DG G tg (.one i)) (hi : DI1 G δ tg iter items) (hbody : DForY G T C (.one i) body items δ ω out) (hs : ∀ (env : Env) (x : Value), foldedSetIterable iter env x = pure x := by intro _ _; rfl) : DY G T C δ ω (.For tg iter body [] pos) out :=
  dy_for_core hg hi hbody (fun S σ H Q ok R h => ⟨S, δ, items, ⟨rfl, rfl⟩, ok, R, fun J H' s it => h J H' s it⟩) hs
/-! an own def that changes tables -/
def spY (K : PySem.W.Frag) (T : List (Addr × PySem.Str)) (R : List PyData → PyData → Prop) : Sp := fun vs H Q _ => ∃ S ds d, R ds d ∧ SOk S H ∧ (∀ a ∈ S, a ∉ TP T) ∧ Tabs T H ∧ RpAll K (hide S H) vs ds ∧ ∀ v H', XT T H H' → Tabs T H' → Rp K (hide S H') v d → Q v H'
structure FnY (m : Md) (T : List (Addr × PySem.Str)) (n : PySem.Str) (k : Nat) (R : List PyData → PyData → Prop) : Prop where
  ex : ∃ f fd ps, m.mg n = some (.ref f) ∧ PySem.W.keepIn m.K (.ref f) = true ∧ Binds m.K fd ps [] ∧ FnOk m.P m.w m.K m.mg m.base CX0 k f fd ps (spY m.K T R)
theorem dvy_call {n : PySem.Str} {k : Nat} {R : List PyData → PyData → Prop} (F : FnY G.m T n k R) (hk : k ≤ G.rm) (hg : globB G.sc n = true) (ha : DA G δ (e :: es) ds) (hR : R ds d)
    (hd : (n == ("__debug__" : PySem.Str)) = false := by decide)
    (he : ∀ env : Env, starEach (e :: es) env = (false, eval e env) :: starEach es env := by intro _; rfl) (hpl : ∀ env : Env, (backTo pos (starEach es env)).any (·.1) = false := by intro _; rfl) :
    DVY G T C δ (.Call (.Name n p) (e :: es) [] pos) d := fun X hX _ => by
  obtain ⟨f, fd, ps, h1, h2, h3, h4⟩ := F.ex
  have F' : FnOk X.prog X.w X.K X.mg X.base CX0 k f fd ps (spY G.m.K T R) := by rw [hX.prog, hX.w, hX.K, hX.mg, hX.base]; exact h4
  refine PE.imp (pe_call F' (hX.rm.mono hk) (gl_of hX hg) (by rw [hX.mg]; exact h1) (by rw [hX.K]; exact h2) (by rw [hX.K]; exact h3) .nil pass0 (ha X hX) hd (he _) (hpl _)) fun σ H Q ⟨S, δ', d', ⟨e1, e2⟩, ok, nS, hT, R', q⟩ => ?_
  subst e1 e2
  refine ⟨S, _, _, ⟨rfl, rfl⟩, ok, R', fun vs H1 s1 r1 => ?_⟩
  exact ⟨S, ds, _, hR, ok.mono s1, nS, hT.ext s1, by rw [List.append_nil]; exact r1, fun v H' x hT' r2 => q v H' ((XT.of s1).trans x) hT' r2⟩
/-- nothing is raised -/
theorem dy_thru {h0 : ExceptHandler} {hs : List ExceptHandler} (hC : ∀ X, C X → C X.nox) (hb : DYs G T C δ ω body out) : DY G T C δ ω (.Try body (h0 :: hs) [] [] pos) out := fun X hX c => ps_try_thru0 (hb X.nox (hX.wish PassesOwn.never) (hC X c))
theorem fn_coreY {m : Md} {n : PySem.Str} {st : Stmt} {f : Addr} {fd : FuncData} {N ps : List PySem.Str} {k : Nat} {R : List PyData → PyData → Prop} (F : Fun m.K n n st f fd) (S : FnScope N ps (defScope st))
    (hd : ∀ x ∈ N, (x == ("__debug__" : PySem.Str)) = false ∧ (x == ("__classdict__" : PySem.Str)) = false) (len : ∀ ds d, R ds d → ds.length = ps.length)
    (hC : ∀ X : Cx, Top X → X.env.code = fd.code → X.env.qual = n ++ ".<locals>." → X.base = m.base → X.mg = m.mg → C X)
    (body : ∀ ds d, R ds d → DYs ⟨m, N, defScope st, k, fun _ => true⟩ T C (ds.map some ++ List.replicate (N.length - ds.length) none) [] (defBody st) (.ret d)) : FnOk m.P m.w m.K m.mg m.base CX0 (k + 1) f fd ps (spY m.K T R) := by
  obtain ⟨oc, od, kV, doc, pm, an, cdv, ct, osl, efd, lk, hcd⟩ := F.ex
  subst efd
  refine fn_of lk hcd S (fun vs H Q E ⟨_, ds, d, r, _, _, _, ra, _⟩ => by rw [ra.len]; exact len ds d r) fun A outer s H vs Q E hr ⟨U, ds, d, r, ok, nU, hT, ra, q⟩ => ?_
  refine ⟨_, (body ds d r _ ⟨rfl, rfl, rfl, rfl, rfl, rfl, S.nd, rfl, rfl, hr, PassesOwn.never, fun x => rfl, hd⟩ (hC _ ⟨rfl, rfl⟩ ?code ?qual rfl rfl)).nox, ?_⟩
  case code => rfl
  case qual => rfl
  have h00 : ∀ a ∈ TP T, hide (TP T) H a = none := fun a ha => hide_in ha
  refine ⟨U, hide (TP T) H, _, _, _, ⟨rfl, rfl, rfl⟩, fun a ha => by rw [hide_out (nU a ha)]; exact ok a ha, h00, hT, ⟨[], rfl, List.nodup_nil, ok, ?_, ⟨?_, fun i d' e => ?_⟩, fun k i c a e => by simp at e⟩, fun v H' s hT' rv => q v H' (fun b o e => ?_) hT' rv⟩
  · intro b o e
    rw [hide_out (by simp)]
    exact hide_sub _ _ b o e
  · unfold L2.start
    simp [ra.len]
  · rw [List.nil_append]
    have hi : i < ds.length := by
      by_cases hi : i < ds.length
      · exact hi
      · rw [List.getElem?_append_right (by simpa using hi), List.getElem?_replicate] at e
        split at e <;> cases e
    rw [List.getElem?_append_left (by simpa using hi), List.getElem?_map] at e
    cases e2 : ds[i]? with
    | none => rw [e2] at e; cases e
    | some d2 =>
      rw [e2] at e
      cases e
      obtain ⟨v, hv, rv⟩ := ra.get e2
      refine ⟨v, ?_, rv⟩
      have hiv : i < vs.length := by rw [ra.len]; exact hi
      unfold L2.start
      rw [List.getElem?_append_left (by simpa using hiv), List.getElem?_map, hv]
      rfl
  · have e' : hide (TP T) H b = some o := e
    show hide (TP T) H' b = some o
    rw [hide_out (hide_some e').1]
    exact s b o e'
theorem fn_okY {m : Md} {n : PySem.Str} {st : Stmt} {f : Addr} {fd : FuncData} {N ps : List PySem.Str} {k : Nat} {R : List PyData → PyData → Prop} (F : Fun m.K n n st f fd) (hb : Binds m.K fd ps []) (hm : m.mg n = some (.ref f)) (S : FnScope N ps (defScope st))
    (hd : ∀ x ∈ N, (x == ("__debug__" : PySem.Str)) = false ∧ (x == ("__classdict__" : PySem.Str)) = false) (len : ∀ ds d, R ds d → ds.length = ps.length)
    (hC : ∀ X : Cx, Top X → X.env.code = fd.code → X.env.qual = n ++ ".<locals>." → X.base = m.base → X.mg = m.mg → C X)
    (body : ∀ ds d, R ds d → DYs ⟨m, N, defScope st, k, fun _ => true⟩ T C (ds.map some ++ List.replicate (N.length - ds.length) none) [] (defBody st) (.ret d)) : FnY m T n (k + 1) R :=
  ⟨f, fd, ps, hm, F.kp, hb, fn_coreY F S hd len hC body⟩
end
end DL

set_option Elab.async false
set_option linter.all false
set_option maxRecDepth 100000
set_option maxHeartbeats 4000000
namespace DL
open PySem PySem.Spec L2 PyProof.Rows LamX PySem.W
set_option autoImplicit false
/-! ### held + sorted(a, key=lambda x: body) -/
structure LamC (T : List (Addr × PySem.Str)) (q : PySem.Str) (X : Cx) : Prop where
  ex : ∃ c P, TabB X.base X.mg c P ∧ X.env.code = .ref c ∧ X.env.qual ++ "<lambda>" = q ∧ T = [(P, q)]
section
variable {G : Ct} {T : List (Addr × PySem.Str)} {δ : DEnv} {ω : Own} {a h body : Expr} {params : Arguments} {scope : Scope} {xs : List PyData} {ns res : List Int} {pos pos2 p lpos kpos : Pos} {x q0 : PySem.Str}
theorem Rel.xt {K : PySem.W.Frag} {S : List Addr} {σ : L2.St} {H H' : Hp} (r : Rel K S δ σ H) (hT : Tabs T H) (xx : XT T H H') : Rel K S δ σ H' :=
  ⟨r.len, fun i d e => let ⟨v, z1, z2⟩ := r.val i d e; ⟨v, z1, z2.monoN (extN_hide (xx.extN hT) _)⟩⟩
def lamCt (G : Ct) (scope : Scope) (k : Nat) : Ct := ⟨G.m, G.N, scope, k, fun _ => false⟩
theorem dvy_catSort (i k : Nat) (kf : Int → Int) (B : Blt G.m) (hg : globB G.sc "sorted" = true) (hh : DV G δ h (.list xs)) (ha : DV G δ a (.list (ns.map .int))) (hL : lam1B G.sc scope x = true) (hi : G.N[i]? = some x) (hk : k + 3 ≤ G.rm)
    (hdef : ∀ env : Env, defaultsOf params env = ([], [])) (hbind : ∀ (q : PySem.Str) (cl : List (PySem.Str × Addr)) (pm cv ctv u : Value), bindArgs (PySem.W.kla_fn "<lambda>" q params body scope cl pm cv ctv) ⟨[u], []⟩ = pure [(x, u)])
    (hbody : ∀ n ∈ ns, DV (lamCt G scope k) (δ.set i (some (.int n))) body (.int (kf n))) (hres : (ns.mergeSort fun a b => decide (kf a ≤ kf b)) = res) (hz : xs.length + ns.length ≤ 1000)
    (na : ∀ env : Env, starEach [a] env = (false, eval a env) :: starEach [] env := by intro _; rfl) :
    DVY G T (LamC T q0) δ (.BinOp h .Add (.Call (.Name "sorted" p) [a] [⟨some "key", .Lambda params body scope lpos, kpos⟩] pos) pos2) (.list (xs ++ res.map .int)) := fun X hX C => by
  obtain ⟨c, P, TB, hcode, hq, hTe⟩ := C.ex
  have hmT : (P, X.env.qual ++ "<lambda>") ∈ T := by rw [hTe, hq]; simp
  have hu : ∀ p ∈ T, p.1 = P → p.2 = X.env.qual ++ "<lambda>" := fun p hp _ => by
    rw [hTe] at hp
    rw [List.mem_singleton.mp hp, hq]
  have hone : ∀ p ∈ T, p.1 = P := fun p hp => by
    rw [hTe] at hp
    rw [List.mem_singleton.mp hp]
  have L : Lam1 X.env.scope scope x := by rw [hX.sc]; exact lam1_by hL
  have pl := pe_sortLam (X := X) (T := T) (i := i) (k := k) (lpos := lpos) (kpos := kpos) (p := p) (pos := pos) (tb := tDR G.m.K fun δ' d' => DV (lamCt G scope k) δ' body d') (gl_of hX hg) (by rw [hX.mg]; exact B.sorted) (ha X hX) TB hcode hmT hu hone (hdef _) L hX.nd (by rw [hX.N]; exact hi) (hX.rm.mono hk) hX.calm hbind
    (fun A s H E f c' hr => ⟨fun pins s σ H Q I ⟨S, δ', b', h, q⟩ => (h (lamCx X A X.stack _ _ E scope f c') ⟨hX.prog, hX.w, hX.K, hX.mg, hX.base, hX.N, hX.nd, rfl, rfl, hr, passes_of rfl, fun x => rfl, hX.nodbg⟩).run pins s σ H Q I ⟨S, δ', b', ⟨rfl, rfl⟩, q⟩⟩) (na _)
  refine PE.imp (pe_op op_cat (hh X hX) pl) fun σ H Q ⟨S, δ', d', ⟨e1, e2⟩, ok, nS, hT, R, q⟩ => ?_
  subst e1 e2
  refine ⟨S, _, _, ⟨rfl, rfl⟩, ok, R, fun v H1 s1 r1 => ⟨S, _, _, ⟨rfl, rfl⟩, ok.mono s1, R.mono s1, fun w H2 s2 r2 => ?_⟩⟩
  have hT2 : Tabs T H2 := hT.ext (s1.trans s2)
  cases r1 with
  | lst e1 z1 a1 =>
    cases r2 with
    | lst e2 z2 a2 =>
      rename_i p0 vs p1 ws
      obtain rfl := a2.ints
      refine ⟨p1, ns, kf, rfl, by rw [hX.K]; exact SqL.of (hide_some e2).2, hT2, fun H3 x3 T3 n hn => ?_, fun out p2 H3 x3 T3 n3 eo => ?_⟩
      · have R3 : Rel G.m.K S δ' σ H3 := (R.mono (s1.trans s2)).xt hT2 x3
        refine ⟨S, _, _, hbody n hn, fun a ha => ?_, R3.set (.int n), fun u H4 s4 ru => ?_⟩
        · cases e : H2 a with
          | none => exact absurd e ((ok.mono (s1.trans s2)) a ha)
          | some o => rw [x3.get (nS a ha) e]; simp
        · cases ru
          exact ⟨rfl, XT.of s4, T3.ext s4⟩
      · rw [hres] at eo
        subst eo
        have pm : out.Perm ns := hres ▸ List.mergeSort_perm _ _
        have sm := same_upd n3 (.lst (out.map V.int))
        have hp0 : H3 p0 = some (.lst vs) := x3.at hT2 (s2 _ _ (hide_some e1).2) (by intro _ z; cases z)
        have hz' : vs.length + (out.map V.int).length ≤ sizeLine := by
          have h1 := a1.len
          have h2 := pm.length_eq
          rw [List.length_map, h1, h2]
          exact Nat.le_of_lt (small1000 hz)
        refine ⟨p0, p2, vs, out.map V.int, rfl, rfl, sm _ _ hp0, upd_same, hz', fun t ht => ?_⟩
        have sm2 := same_upd ht (.lst (vs ++ out.map V.int))
        have ok4 : SOk S (upd H3 p2 (.lst (out.map V.int))) := fun a ha => by
          cases e : H2 a with
          | none => exact absurd e ((ok.mono (s1.trans s2)) a ha)
          | some o => rw [sm _ _ (x3.get (nS a ha) e)]; simp
        refine q _ _ ((XT.of (s1.trans s2)).trans (x3.trans (XT.of (sm.trans sm2)))) (T3.ext (sm.trans sm2)) (.lst (hide_upd_at ok4 ht) (by rw [List.length_append]; exact hz') ?_)
        refine RpAll.app ?_ (RpAll.ofInts _)
        exact ((a1.mono (hide_mono s2)).monoN (extN_hide (x3.extN hT2) _)).mono (hide_mono (sm.trans sm2))
end
theorem DVYc {G : Ct} {T : List (Addr × PySem.Str)} {C : Cx → Prop} {δ : DEnv} {e : Expr} {d d' : PyData} (h : DVY G T C δ e d) (q : d = d') : DVY G T C δ e d' := q ▸ h
end DL

set_option Elab.async false
set_option linter.all false
set_option maxRecDepth 100000
set_option maxHeartbeats 4000000
namespace DL
open PySem PySem.Spec L2
set_option autoImplicit false
/-! ### plain law of the runs -/
theorem cut_takeK {α : Type} (xs : List α) (k : Nat) : cutD xs none (some (k : Int)) = xs.take k := by
  show (xs.drop (HT.sIx xs.length 0 none)).take (HT.sIx xs.length xs.length (some (k : Int)) - HT.sIx xs.length 0 none) = _
  rw [HT.sIx_none, HT.sIx_nat, List.drop_zero, Nat.sub_zero, List.take_eq_take_iff]
  omega
theorem nodup_le : ∀ {xs ys : List Int}, xs.Nodup → (∀ x ∈ xs, x ∈ ys) → xs.length ≤ ys.length
  | [], _, _, _ => Nat.zero_le _
  | x :: xs, ys, hn, h => by
    have hx := h x List.mem_cons_self
    have hp := List.perm_cons_erase hx
    have e := hp.length_eq
    obtain ⟨n1, n2⟩ := List.nodup_cons.mp hn
    have := nodup_le (xs := xs) (ys := ys.erase x) n2 fun z hz => (List.mem_erase_of_ne fun q => n1 (by rw [← q]; exact hz)).mpr (h z (List.mem_cons_of_mem _ hz))
    rw [List.length_cons] at e ⊢
    omega
theorem nodup_perm : ∀ {xs ys : List Int}, xs.Nodup → (∀ x ∈ xs, x ∈ ys) → ys.length ≤ xs.length → xs.Perm ys
  | [], ys, _, _, hl => by
    have : ys = [] := List.eq_nil_of_length_eq_zero (by simpa using hl)
    rw [this]
  | x :: xs, ys, hn, h, hl => by
    have hx := h x List.mem_cons_self
    have hp := List.perm_cons_erase hx
    have e := hp.length_eq
    obtain ⟨n1, n2⟩ := List.nodup_cons.mp hn
    rw [List.length_cons] at e hl
    exact ((nodup_perm (xs := xs) (ys := ys.erase x) n2 (fun z hz => (List.mem_erase_of_ne fun q => n1 (by rw [← q]; exact hz)).mpr (h z (List.mem_cons_of_mem _ hz))) (by omega)).cons x).trans hp.symm
def sortI (xs : List Int) : List Int := xs.mergeSort fun a b => decide (a ≤ b)
theorem sortI_perm (xs : List Int) : (sortI xs).Perm xs := List.mergeSort_perm _ _
theorem sortI_pw (xs : List Int) : (sortI xs).Pairwise (· ≤ ·) :=
  (List.pairwise_mergeSort (le := fun a b => decide (a ≤ b)) (fun a b c h1 h2 => by simp only [decide_eq_true_eq] at *; omega) (fun a b => by simp only [Bool.or_eq_true, decide_eq_true_eq]; omega) xs).imp fun h => of_decide_eq_true h
theorem sortI_of {xs ys : List Int} (p : xs.Perm ys) (h : xs.Pairwise (· ≤ ·)) : sortI ys = xs :=
  List.Perm.eq_of_pairwise (le := (· ≤ ·)) (fun _ _ _ _ h1 h2 => Int.le_antisymm h1 h2) (sortI_pw ys) h ((sortI_perm ys).trans p.symm)
theorem sortI_iff {xs ys : List Int} : sortI xs = sortI ys ↔ xs.Perm ys :=
  ⟨fun h => ((sortI_perm xs).symm.trans (h ▸ List.Perm.refl _)).trans (sortI_perm ys), fun p => (sortI_of ((sortI_perm ys).trans p.symm) (sortI_pw ys))⟩
section
variable (b e : Int → Int) (k : Kd) (so : List Int)
def endsF (at_ : Int) : List Int := so.filter fun x => decide (e x = at_)
def goneK (bf : List Int) (m : Nat) : List Int := match k with
  | .pile => cutD bf (some ((bf.length : Int) - m)) none
  | .queue => cutD bf none (some (m : Int))
def restK (bf : List Int) (m : Nat) : List Int := match k with
  | .pile => cutD bf none (some ((bf.length : Int) - m))
  | .queue => cutD bf (some (m : Int)) none
def sameB (xs ys : List Int) : Bool := decide (sortI xs = sortI ys)
def stepB (bf af en bg : List Int) : Bool := sameB (goneK k bf en.length) en && (decide (cutD af none (some ((restK k bf en.length).length : Int)) = restK k bf en.length) && sameB (cutD af (some ((restK k bf en.length).length : Int)) none) bg)
def isIntB : PyData → Bool
  | .int _ => true
  | _ => false
def tupI : PyData → Option (List Int)
  | .tuple xs => if xs.all isIntB = true then some (xs.map toInt) else none
  | _ => none
def goM : Int → List Int → List PyData → Bool
  | _, _, [] => true
  | at_, bf, d :: ds => match tupI d with
    | none => false
    | some af => if stepB k bf af (endsF e so at_) (endsF b so at_) = true then goM (at_ + 1) af ds else false
def topK (h : List Int) : Int := match k with
  | .pile => h.getLastD 0
  | .queue => h.headD 0
def popK (h : List Int) : List Int := match k with
  | .pile => cutD h none (some (-1))
  | .queue => cutD h (some 1) none
def popAll (en : List Int) : Nat → List Int → Option (List Int)
  | 0, h => some h
  | n + 1, h => if h = [] ∨ topK k h ∉ en then none else popAll en n (popK k h)
def lgo : Int → List Int → List PyData → Bool
  | _, h, [] => decide (h = [])
  | at_, h, d :: ds => match tupI d with
    | none => false
    | some af => match popAll k (endsF e so at_) (endsF e so at_).length h with
      | none => false
      | some h' => if cutD af none (some (h'.length : Int)) = h' ∧ sortI (cutD af (some (h'.length : Int)) none) = endsF b so at_ then lgo (at_ + 1) af ds else false
/-- the held ones before a spot: begun, not ended -/
structure Iv (at_ : Int) (bf : List Int) : Prop where
  nd : bf.Nodup
  mem : ∀ x, x ∈ bf ↔ x ∈ so ∧ b x < at_ ∧ at_ ≤ e x
def sg : Int := match k with
  | .pile => -1
  | .queue => 1
def runStep (at_ : Int) (held : List Int) : List Int := (held.filter fun x => !decide (e x = at_)) ++ (endsF b so at_).mergeSort fun x y => decide (sg k * e x ≤ sg k * e y)
def runGo : Nat → Int → List Int → List (List Int)
  | 0, _, _ => []
  | c + 1, at_, held => runStep b e k so at_ held :: runGo c (at_ + 1) (runStep b e k so at_ held)
def tupD (h : List Int) : PyData := .tuple (h.map .int)
def Ord (h : List Int) : Prop := h.Pairwise fun x y => sg k * e x ≤ sg k * e y
def NC : Prop := ∀ x ∈ so, ∀ y ∈ so, b x < b y → b y < e x → sg k * e x ≤ sg k * e y
end
section
variable {b e : Int → Int} {k : Kd} {so : List Int} {n : Int}
theorem tupI_D (h : List Int) : tupI (tupD h) = some h := by
  unfold tupD tupI
  have h1 : (h.map PyData.int).all isIntB = true := by simp [isIntB]
  show (if (h.map PyData.int).all isIntB = true then some ((h.map PyData.int).map toInt) else none) = some h
  rw [if_pos h1, List.map_map]
  have : toInt ∘ PyData.int = id := rfl
  rw [this, List.map_id]
theorem gone_pile {bf : List Int} {m : Nat} (h : m ≤ bf.length) : goneK .pile bf m = bf.drop (bf.length - m) ∧ restK .pile bf m = bf.take (bf.length - m) := by
  have e1 : ((bf.length : Int) - m) = ((bf.length - m : Nat) : Int) := by omega
  exact ⟨by show cutD bf (some ((bf.length : Int) - m)) none = _; rw [e1, cut_dropn], by show cutD bf none (some ((bf.length : Int) - m)) = _; rw [e1, cut_takeK]⟩
theorem gone_queue {bf : List Int} {m : Nat} : goneK .queue bf m = bf.take m ∧ restK .queue bf m = bf.drop m := ⟨cut_takeK _ _, cut_dropn _ _⟩
theorem gone_perm {bf : List Int} {m : Nat} (h : m ≤ bf.length) : (goneK k bf m ++ restK k bf m).Perm bf ∧ (goneK k bf m).length = m := by
  cases k with
  | pile =>
    obtain ⟨h1, h2⟩ := gone_pile h
    rw [h1, h2, List.length_drop]
    exact ⟨List.perm_append_comm.trans (List.Perm.of_eq (List.take_append_drop _ _)), by omega⟩
  | queue =>
    obtain ⟨h1, h2⟩ := gone_queue (bf := bf) (m := m)
    rw [h1, h2, List.length_take]
    exact ⟨List.Perm.of_eq (List.take_append_drop _ _), by omega⟩
theorem popAll_eq {en : List Int} : ∀ (k : Kd) (m : Nat) {h : List Int}, m ≤ h.length → popAll k en m h = if (∀ x ∈ goneK k h m, x ∈ en) then some (restK k h m) else none
  | k, 0, h, hl => by
    cases k with
    | pile =>
      obtain ⟨h1, h2⟩ := gone_pile hl
      rw [h1, h2]
      simp [popAll]
    | queue =>
      obtain ⟨h1, h2⟩ := gone_queue (bf := h) (m := 0)
      rw [h1, h2]
      simp [popAll]
  | k, m + 1, h, hl => by
    have hne : h ≠ [] := fun z => by rw [z] at hl; simp at hl
    cases k with
    | pile =>
      obtain ⟨t, x, rfl⟩ : ∃ t x, h = t ++ [x] := ⟨h.dropLast, h.getLast hne, (List.dropLast_concat_getLast hne).symm⟩
      obtain ⟨h1, h2⟩ := gone_pile hl
      have hl' : m ≤ t.length := by rw [List.length_append, List.length_singleton] at hl; omega
      obtain ⟨h3, h4⟩ := gone_pile hl'
      have e0 : (t ++ [x]).length - (m + 1) = t.length - m := by rw [List.length_append, List.length_singleton]; omega
      rw [h1, h2, e0, List.drop_append_of_le_length (by omega), List.take_append_of_le_length (by omega)]
      have ih := popAll_eq (en := en) .pile m hl'
      rw [h3, h4] at ih
      have et : topK .pile (t ++ [x]) = x := by unfold topK; simp
      have ep : popK .pile (t ++ [x]) = t := by
        show cutD (t ++ [x]) none (some (-1)) = t
        rw [cut_m1]
        simp
      show (if t ++ [x] = [] ∨ topK .pile (t ++ [x]) ∉ en then none else popAll .pile en m (popK .pile (t ++ [x]))) = _
      rw [et, ep, ih]
      by_cases hx : x ∈ en
      · rw [if_neg (by simp [hx])]
        exact if_cg ⟨fun g y hy => (List.mem_append.mp hy).elim (g y) fun z => by rw [List.mem_singleton.mp z]; exact hx, fun g y hy => g y (List.mem_append_left _ hy)⟩ rfl rfl
      · rw [if_pos (.inr hx), if_neg fun g => hx (g x (by simp))]
    | queue =>
      obtain ⟨x, t, rfl⟩ := List.exists_cons_of_ne_nil hne
      obtain ⟨h1, h2⟩ := gone_queue (bf := x :: t) (m := m + 1)
      obtain ⟨h3, h4⟩ := gone_queue (bf := t) (m := m)
      rw [h1, h2, List.take_succ_cons, List.drop_succ_cons]
      have ih := popAll_eq (en := en) .queue m (h := t) (by simpa using hl)
      rw [h3, h4] at ih
      have ep : popK .queue (x :: t) = t := by
        show cutD (x :: t) (some ((1 : Nat) : Int)) none = t
        rw [cut_dropn]
        rfl
      show (if x :: t = [] ∨ x ∉ en then none else popAll .queue en m (popK .queue (x :: t))) = _
      rw [ep, ih]
      by_cases hx : x ∈ en
      · rw [if_neg (by simp [hx])]
        exact if_cg ⟨fun g y hy => (List.mem_cons.mp hy).elim (fun z => by rw [z]; exact hx) (g y), fun g y hy => g y (List.mem_cons_of_mem _ hy)⟩ rfl rfl
      · rw [if_pos (.inr hx), if_neg fun g => hx (g x (by simp))]
theorem endsF_nd (hs : so.Pairwise (· < ·)) (f : Int → Int) (at_ : Int) : (endsF f so at_).Nodup := ((hs.imp fun h => Int.ne_of_lt h).filter _ : (endsF f so at_).Pairwise (· ≠ ·))
theorem endsF_srt (hs : so.Pairwise (· < ·)) (f : Int → Int) (at_ : Int) : sortI (endsF f so at_) = endsF f so at_ := sortI_of (List.Perm.refl _) ((hs.imp fun h => Int.le_of_lt h).filter _)
theorem mem_endsF {f : Int → Int} {at_ x : Int} : x ∈ endsF f so at_ ↔ x ∈ so ∧ f x = at_ := by unfold endsF; simp
theorem ends_in (hbe : ∀ x ∈ so, b x < e x) {at_ : Int} {bf : List Int} (I : Iv b e so at_ bf) : ∀ x ∈ endsF e so at_, x ∈ bf := fun x hx => by
  obtain ⟨h1, h2⟩ := mem_endsF.mp hx
  have := hbe x h1
  exact (I.mem x).mpr ⟨h1, by omega, by omega⟩
theorem iv_step (hs : so.Pairwise (· < ·)) (hbe : ∀ x ∈ so, b x < e x) {at_ : Int} {bf af : List Int} (I : Iv b e so at_ bf) (p : af.Perm ((bf.filter fun x => !decide (e x = at_)) ++ endsF b so at_)) : Iv b e so (at_ + 1) af := by
  refine ⟨p.nodup_iff.mpr (List.nodup_append.mpr ⟨I.nd.filter _, endsF_nd hs b at_, fun x hx y hy q => ?_⟩), fun x => p.mem_iff.trans ?_⟩
  · subst q
    have h1 := ((I.mem x).mp (List.mem_filter.mp hx).1).2.1
    have h2 := (mem_endsF.mp hy).2
    omega
  · rw [List.mem_append, List.mem_filter, mem_endsF, I.mem]
    simp only [Bool.not_eq_true', decide_eq_false_iff_not]
    constructor
    · rintro (⟨⟨h1, h2, h3⟩, h4⟩ | ⟨h1, h2⟩)
      · exact ⟨h1, by omega, by omega⟩
      · have := hbe x h1
        exact ⟨h1, by omega, by omega⟩
    · rintro ⟨h1, h2, h3⟩
      by_cases q : b x = at_
      · exact .inr ⟨h1, q⟩
      · exact .inl ⟨⟨h1, by omega, by omega⟩, by omega⟩
/-- what goes is just what ends -/
theorem gone_iff (hs : so.Pairwise (· < ·)) (hbe : ∀ x ∈ so, b x < e x) {at_ : Int} {bf : List Int} (I : Iv b e so at_ bf) :
    ((∀ x ∈ goneK k bf (endsF e so at_).length, x ∈ endsF e so at_) ↔ sameB (goneK k bf (endsF e so at_).length) (endsF e so at_) = true) ∧
      (sameB (goneK k bf (endsF e so at_).length) (endsF e so at_) = true → (restK k bf (endsF e so at_).length).Perm (bf.filter fun x => !decide (e x = at_))) := by
  have hl : (endsF e so at_).length ≤ bf.length := nodup_le (endsF_nd hs e at_) (ends_in hbe I)
  obtain ⟨p, l⟩ := gone_perm (k := k) hl
  generalize hg : goneK k bf (endsF e so at_).length = g at p l
  generalize hr : restK k bf (endsF e so at_).length = r at p
  have nd : (g ++ r).Nodup := p.nodup_iff.mpr I.nd
  obtain ⟨n1, n2, n3⟩ := List.nodup_append.mp nd
  have key : sameB g (endsF e so at_) = true ↔ g.Perm (endsF e so at_) := by unfold sameB; rw [decide_eq_true_eq]; exact sortI_iff
  refine ⟨⟨fun h => key.mpr (nodup_perm n1 h (by omega)), fun h x hx => (key.mp h).mem_iff.mp hx⟩, fun h => ?_⟩
  have pg := key.mp h
  refine (List.perm_ext_iff_of_nodup n2 (I.nd.filter _)).mpr fun x => ?_
  rw [List.mem_filter]
  simp only [Bool.not_eq_true', decide_eq_false_iff_not]
  constructor
  · intro hx
    have hb : x ∈ bf := p.mem_iff.mp (List.mem_append_right _ hx)
    refine ⟨hb, fun q => ?_⟩
    have : x ∈ g := pg.mem_iff.mpr (mem_endsF.mpr ⟨((I.mem x).mp hb).1, q⟩)
    exact n3 x this x hx rfl
  · rintro ⟨hb, hq⟩
    rcases List.mem_append.mp (p.mem_iff.mpr hb) with z | z
    · exact absurd (mem_endsF.mp (pg.mem_iff.mp z)).2 hq
    · exact z
theorem runs_same (hs : so.Pairwise (· < ·)) (hbe : ∀ x ∈ so, b x < e x) (he : ∀ x ∈ so, e x < n) : ∀ (ds : List PyData) (at_ : Int) (bf : List Int), Iv b e so at_ bf → at_ + ds.length = n → goM b e k so at_ bf ds = lgo b e k so at_ bf ds
  | [], at_, bf, I, hn => by
    have : bf = [] := by
      cases bf with
      | nil => rfl
      | cons x t =>
        obtain ⟨h1, h2, h3⟩ := (I.mem x).mp List.mem_cons_self
        have := he x h1
        simp at hn
        omega
    subst this
    rfl
  | d :: ds, at_, bf, I, hn => by
    unfold goM lgo
    cases tupI d with
    | none => rfl
    | some af =>
      have hl : (endsF e so at_).length ≤ bf.length := nodup_le (endsF_nd hs e at_) (ends_in hbe I)
      obtain ⟨g1, g2⟩ := gone_iff (k := k) hs hbe I
      dsimp only
      rw [popAll_eq _ _ hl]
      unfold stepB
      by_cases hq : sameB (goneK k bf (endsF e so at_).length) (endsF e so at_) = true
      · rw [if_pos (g1.mpr hq), hq, Bool.true_and]
        have pr := g2 hq
        generalize restK k bf (endsF e so at_).length = r at pr
        dsimp only
        by_cases h1 : cutD af none (some (r.length : Int)) = r
        · have hsb : (sameB (cutD af (some (r.length : Int)) none) (endsF b so at_) = true) ↔ sortI (cutD af (some (r.length : Int)) none) = endsF b so at_ := by
            unfold sameB
            rw [decide_eq_true_eq, endsF_srt hs]
          by_cases h2 : sortI (cutD af (some (r.length : Int)) none) = endsF b so at_
          · rw [if_pos (by rw [decide_eq_true h1, Bool.true_and]; exact hsb.mpr h2), if_pos ⟨h1, h2⟩]
            refine runs_same hs hbe he ds (at_ + 1) af (iv_step hs hbe I ?_) (by rw [List.length_cons] at hn; omega)
            have e1 : af = r ++ af.drop r.length := by
              rw [cut_takeK] at h1
              exact (List.take_append_drop r.length af).symm.trans (by rw [h1])
            rw [cut_dropn] at h2
            have p2 : (af.drop r.length).Perm (endsF b so at_) := (sortI_perm _).symm.trans (List.Perm.of_eq h2)
            exact (List.Perm.of_eq e1).trans (pr.append p2)
          · rw [if_neg fun z => h2 (hsb.mp (by rw [Bool.and_eq_true] at z; exact z.2)), if_neg fun z => h2 z.2]
        · rw [if_neg fun z => h1 (by rw [Bool.and_eq_true, decide_eq_true_eq] at z; exact z.1), if_neg fun z => h1 z.1]
      · rw [if_neg fun z => hq (g1.mp z), if_neg fun z => hq (by rw [Bool.and_eq_true] at z; exact z.1)]
theorem iv_0 (hb0 : ∀ x ∈ so, 0 ≤ b x) : Iv b e so 0 [] := ⟨List.nodup_nil, fun x => ⟨fun h => (by cases h), fun ⟨h1, h2, _⟩ => by have := hb0 x h1; omega⟩⟩
/-! a run made passes -/
theorem split_pile {at_ : Int} : ∀ {l : List Int}, l.Pairwise (fun x y => e y ≤ e x) → (∀ x ∈ l, at_ ≤ e x) → l = (l.filter fun x => !decide (e x = at_)) ++ l.filter fun x => decide (e x = at_)
  | [], _, _ => rfl
  | x :: l, hp, h => by
    obtain ⟨h1, h2⟩ := List.pairwise_cons.mp hp
    have hx := h x List.mem_cons_self
    have ih := split_pile h2 fun y hy => h y (List.mem_cons_of_mem _ hy)
    by_cases q : e x = at_
    · have all : ∀ y ∈ l, e y = at_ := fun y hy => by
        have := h1 y hy
        have := h y (List.mem_cons_of_mem _ hy)
        omega
      have f1 : ((x :: l).filter fun x => !decide (e x = at_)) = [] := by
        rw [List.filter_eq_nil_iff]
        intro y hy
        rcases List.mem_cons.mp hy with z | z
        · simp [z, q]
        · simp [all y z]
      have f2 : ((x :: l).filter fun x => decide (e x = at_)) = x :: l := by
        rw [List.filter_eq_self]
        intro y hy
        rcases List.mem_cons.mp hy with z | z
        · simp [z, q]
        · simp [all y z]
      rw [f1, f2]
      rfl
    · rw [List.filter_cons_of_pos (by simp [q]), List.filter_cons_of_neg (by simp [q]), List.cons_append, ← ih]
theorem split_queue {at_ : Int} : ∀ {l : List Int}, l.Pairwise (fun x y => e x ≤ e y) → (∀ x ∈ l, at_ ≤ e x) → l = (l.filter fun x => decide (e x = at_)) ++ l.filter fun x => !decide (e x = at_)
  | [], _, _ => rfl
  | x :: l, hp, h => by
    obtain ⟨h1, h2⟩ := List.pairwise_cons.mp hp
    have hx := h x List.mem_cons_self
    have ih := split_queue h2 fun y hy => h y (List.mem_cons_of_mem _ hy)
    by_cases q : e x = at_
    · rw [List.filter_cons_of_pos (by simp [q]), List.filter_cons_of_neg (by simp [q]), List.cons_append, ← ih]
    · have all : ∀ y ∈ x :: l, ¬ e y = at_ := fun y hy => by
        rcases List.mem_cons.mp hy with z | z
        · rw [z]; exact q
        · have := h1 y z
          omega
      have f1 : ((x :: l).filter fun x => decide (e x = at_)) = [] := by
        rw [List.filter_eq_nil_iff]
        intro y hy
        simpa using all y hy
      have f2 : ((x :: l).filter fun x => !decide (e x = at_)) = x :: l := by
        rw [List.filter_eq_self]
        intro y hy
        simpa using all y hy
      rw [f1, f2]
      rfl
theorem run_step (hs : so.Pairwise (· < ·)) (hbe : ∀ x ∈ so, b x < e x) (nc : NC b e k so) {at_ : Int} {h : List Int} (I : Iv b e so at_ h) (O : Ord e k h) :
    stepB k h (runStep b e k so at_ h) (endsF e so at_) (endsF b so at_) = true ∧ Iv b e so (at_ + 1) (runStep b e k so at_ h) ∧ Ord e k (runStep b e k so at_ h) := by
  have hl : (endsF e so at_).length ≤ h.length := nodup_le (endsF_nd hs e at_) (ends_in hbe I)
  have pe : (h.filter fun x => decide (e x = at_)).Perm (endsF e so at_) := (List.perm_ext_iff_of_nodup (I.nd.filter _) (endsF_nd hs e at_)).mpr fun x => by
    rw [List.mem_filter, mem_endsF, decide_eq_true_eq]
    exact ⟨fun ⟨h1, h2⟩ => ⟨((I.mem x).mp h1).1, h2⟩, fun ⟨h1, h2⟩ => ⟨ends_in hbe I x (mem_endsF.mpr ⟨h1, h2⟩), h2⟩⟩
  have hge : ∀ x ∈ h, at_ ≤ e x := fun x hx => ((I.mem x).mp hx).2.2
  have gr : goneK k h (endsF e so at_).length = (h.filter fun x => decide (e x = at_)) ∧ restK k h (endsF e so at_).length = (h.filter fun x => !decide (e x = at_)) := by
    cases k with
    | pile =>
      have sp := split_pile (e := e) (at_ := at_) (O.imp fun h => by simp only [sg] at h; omega) hge
      obtain ⟨h1, h2⟩ := gone_pile hl
      have hlen : h.length - (endsF e so at_).length = (h.filter fun x => !decide (e x = at_)).length := by
        have := congrArg List.length sp
        rw [List.length_append, pe.length_eq] at this
        omega
      rw [h1, h2, hlen]
      generalize (h.filter fun x => !decide (e x = at_)) = A at sp
      generalize (h.filter fun x => decide (e x = at_)) = B at sp
      rw [sp]
      exact ⟨List.drop_left, List.take_left⟩
    | queue =>
      have sp := split_queue (e := e) (at_ := at_) (O.imp fun h => by simp only [sg] at h; omega) hge
      obtain ⟨h1, h2⟩ := gone_queue (bf := h) (m := (endsF e so at_).length)
      rw [h1, h2, ← pe.length_eq]
      generalize (h.filter fun x => !decide (e x = at_)) = A at sp
      generalize (h.filter fun x => decide (e x = at_)) = B at sp
      rw [sp]
      exact ⟨List.take_left, List.drop_left⟩
  have pm : ((endsF b so at_).mergeSort fun x y => decide (sg k * e x ≤ sg k * e y)).Perm (endsF b so at_) := List.mergeSort_perm _ _
  have pw : ((endsF b so at_).mergeSort fun x y => decide (sg k * e x ≤ sg k * e y)).Pairwise fun x y => sg k * e x ≤ sg k * e y :=
    (List.pairwise_mergeSort (le := fun x y => decide (sg k * e x ≤ sg k * e y)) (fun a b c h1 h2 => by simp only [decide_eq_true_eq] at *; omega) (fun a b => by simp only [Bool.or_eq_true, decide_eq_true_eq]; omega) _).imp fun h => of_decide_eq_true h
  refine ⟨?_, iv_step hs hbe I ((List.Perm.refl _).append pm), ?_⟩
  · unfold stepB
    rw [gr.1, gr.2]
    have s1 : sameB (h.filter fun x => decide (e x = at_)) (endsF e so at_) = true := by unfold sameB; exact decide_eq_true (sortI_iff.mpr pe)
    rw [s1, Bool.true_and, cut_takeK, cut_dropn]
    unfold runStep
    rw [List.take_left, List.drop_left, decide_eq_true rfl, Bool.true_and]
    unfold sameB
    exact decide_eq_true (sortI_iff.mpr pm)
  · refine List.pairwise_append.mpr ⟨List.Pairwise.filter _ O, pw, fun x hx y hy => ?_⟩
    obtain ⟨h1, h2⟩ := List.mem_filter.mp hx
    obtain ⟨h3, h4, h5⟩ := (I.mem x).mp h1
    obtain ⟨h6, h7⟩ := mem_endsF.mp (pm.mem_iff.mp hy)
    simp only [Bool.not_eq_true', decide_eq_false_iff_not] at h2
    exact nc x h3 y h6 (by omega) (by omega)
theorem run_ok (hs : so.Pairwise (· < ·)) (hbe : ∀ x ∈ so, b x < e x) (nc : NC b e k so) : ∀ (c : Nat) (at_ : Int) (h : List Int), Iv b e so at_ h → Ord e k h → goM b e k so at_ h ((runGo b e k so c at_ h).map tupD) = true
  | 0, _, _, _, _ => rfl
  | c + 1, at_, h, I, O => by
    obtain ⟨h1, h2, h3⟩ := run_step hs hbe nc I O
    show (match tupI (tupD (runStep b e k so at_ h)) with | none => false | some af => if stepB k h af (endsF e so at_) (endsF b so at_) = true then goM b e k so (at_ + 1) af _ else false) = true
    rw [tupI_D]
    show (if stepB k h _ (endsF e so at_) (endsF b so at_) = true then _ else false) = true
    rw [if_pos h1]
    exact run_ok hs hbe nc c (at_ + 1) _ h2 h3
theorem runGo_len : ∀ (c : Nat) (at_ : Int) (h : List Int), (runGo b e k so c at_ h).length = c
  | 0, _, _ => rfl
  | c + 1, at_, h => congrArg (· + 1) (runGo_len c _ _)
end
end DL

set_option Elab.async false
set_option linter.all false
set_option maxRecDepth 100000
set_option maxHeartbeats 4000000
namespace DL
open PySem PySem.Spec L2 PyProof.Rows
set_option autoImplicit false
/-! ### xs[::-1], xs a tuple -/
section
variable {prog : Program} {w : World} {A : Around} {E : Value → Shared → Prop} {s : Shared}
theorem sliceApplied_back {sl : Addr} {vl vu vs : Value} {n : Nat} {Q : Int × Int × Nat → Shared → Prop} (hs : s.heap.IsSliceOf sl vl vu vs) (pl : IsPart vl none) (pu : IsPart vu none) (ps : IsPart vs (some (-1)))
    (h : Q ((n : Int) - 1, -1, n) s) : wpAny (model prog w) A (Builtin.Slice.sliceApplied (.ref sl) (pure (n : Int))) Q E s := by
  obtain ⟨os, hos, hcs, hds⟩ := id hs
  unfold Builtin.Slice.sliceApplied Builtin.Slice.sliceFields
  refine wpAny_bind (wpAny_bind (wpAny_field hos hds (x := vl) rfl (wpAny_bind (wpAny_field hos hds (x := vu) rfl (wpAny_bind (wpAny_field hos hds (x := vs) rfl (wpAny_pure ?_)))))))
  refine wpAny_bind (HT.slicePart_ ps ?_)
  show wpAny _ _ (if ((-1 : Int) == 0) = true then _ else _) _ _ s
  rw [if_neg (by decide)]
  refine wpAny_bind (HT.slicePart_ pl (wpAny_bind (HT.slicePart_ pu (wpAny_bind (wpAny_pure ?_)))))
  show wpAny _ _ (match Builtin.Slice.sliceAdjust none none (-1) (n : Int) with | (lo, hi) => pure (lo, (-1 : Int), Builtin.Slice.slicePlaces lo hi (-1))) _ _ s
  have e1 : Builtin.Slice.sliceAdjust none none (-1) (n : Int) = ((n : Int) - 1, -1) := by
    unfold Builtin.Slice.sliceAdjust
    simp
  rw [e1]
  have e2 : Builtin.Slice.slicePlaces ((n : Int) - 1) (-1) (-1) = n := by
    unfold Builtin.Slice.slicePlaces
    simp
    omega
  show wpAny _ _ (pure ((n : Int) - 1, (-1 : Int), Builtin.Slice.slicePlaces ((n : Int) - 1) (-1) (-1))) _ _ s
  rw [e2]
  exact wpAny_pure h
theorem fmap_cg {α β : Type} {f g : α → Option β} : ∀ {l : List α}, (∀ x ∈ l, f x = g x) → l.filterMap f = l.filterMap g
  | [], _ => rfl
  | x :: l, h => by
    rw [List.filterMap_cons, List.filterMap_cons, h x List.mem_cons_self, fmap_cg fun y hy => h y (List.mem_cons_of_mem _ hy)]
theorem pick_back (xs : Array Value) : ((List.range xs.size).filterMap fun (m : Nat) => xs[(((xs.size : Nat) : Int) - 1 + (m : Int) * (-1)).toNat]?).toArray = xs.toList.reverse.toArray := by
  congr 1
  have e : (List.range xs.size).filterMap (fun (m : Nat) => xs[(((xs.size : Nat) : Int) - 1 + (m : Int) * (-1)).toNat]?) = (List.range xs.size).filterMap ((fun k : Nat => xs[k]?) ∘ fun m => xs.size - 1 - m) := by
    refine fmap_cg fun m hm => ?_
    have := List.mem_range.mp hm
    show _ = xs[xs.size - 1 - m]?
    rw [show (((xs.size : Nat) : Int) - 1 + (m : Int) * (-1)).toNat = xs.size - 1 - m by omega]
  rw [e, ← List.filterMap_map, PySem.W.krv_range, List.filterMap_reverse, PySem.W.krv_all]
theorem getItem_tuple_back {t sl : Addr} {items : Array Value} {vl vu vs : Value} {Q : Value → Shared → Prop} (ht : IsTup s.heap t items) (hs : s.heap.IsSliceOf sl vl vu vs) (pl : IsPart vl none) (pu : IsPart vu none) (ps : IsPart vs (some (-1)))
    (h : Q (.ref s.heap.objs.size) { s with heap := s.heap.push { cls := .type "tuple", data := .seq items.toList.reverse.toArray } }) (hsz : items.size ≤ sizeLine) : wpAny (model prog w) A (getItem (.ref t) (.ref sl)) Q E s := by
  have fit : sizeOk (.seq items.toList.reverse.toArray) := by
    show items.toList.reverse.toArray.size ≤ sizeLine
    rw [List.size_toArray, List.length_reverse, Array.length_toList]
    exact hsz
  obtain ⟨os, hos, hcs, hds⟩ := id hs
  have tyS : s.TypeIs (.ref sl) "slice" := ⟨os, hos, hcs⟩
  unfold getItem
  try with_reducible refine wpAny_holding ?_
  first | refine wpAny_bind (wpAny_pure ?_) | skip
  refine wpAny_bind (wpAny_sequenceKey ht.typeIs (by decide) ?_)
  refine wpAny_bind (wpAny_callSpecial?_slot (name := Str.ofString "__getitem__") ht.typeIs PyProof.Rows.slot_tuple_getitem
    (wpAny_call_entry PyProof.Rows.slot_tuple_getitem ht.typeIs entry_tuple_getitem ?_ (args_tuple_getitem _ _)))
  show wpAny _ _ (Builtin.Tuple.tupleItemsOf (.ref t) >>= _) _ _ s
  refine wpAny_bind (tupleItemsOf_ ht ?_)
  refine wpAny_bind (wpAny_typeOf tyS ?_)
  rw [if_pos (by decide)]
  refine wpAny_bind (sliceApplied_back hs pl pu ps ?_)
  show wpAny _ _ (if ((((items.size : Nat) : Int) - 1) == 0 && (-1 : Int) == 1 && items.size == items.size) = true then _ else _) _ _ s
  rw [if_neg (by simp), pick_back]
  first
    | exact wpAny_bind (m := Builtin.Tuple.tupleExact _) (wpAny_newObj_type (wpAny_pure ⟨_, rfl, wpAny_pure h⟩) fit)
    | exact wpAny_bind (m := Builtin.Tuple.tupleExact _) (wpAny_newObj_type (wpAny_bind (wpAny_pure (wpAny_pure ⟨_, rfl, wpAny_pure h⟩))) fit)
    | exact wpAny_bind (wpAny_bind (m := Builtin.Tuple.tupleExact _) (wpAny_newObj_type (wpAny_pure (wpAny_pure ⟨_, rfl, wpAny_pure h⟩)) fit))
    | exact wpAny_bind (wpAny_bind (m := Builtin.Tuple.tupleExact _) (wpAny_newObj_type (wpAny_pure ⟨_, rfl, wpAny_pure h⟩) fit))
end
def tRevTF (K : PySem.W.Frag) (te : TE) : TE := fun σ H Q => te σ H fun x H1 => ∃ a xs, x = .ref a ∧ SqT K H1 a xs ∧ NewT H1 xs.reverse Q
theorem pe_revTF {X : Cx} {e : Expr} {te : TE} {k : Nat} {p1 p2 p3 pos : Pos} (he : PE X e te) : PE X (.Subscript e (.Slice none none (some (.UnaryOp .USub (.Constant (.int 1) k p1) p2)) p3) pos) (tRevTF X.K te) := by
  refine ⟨fun pins s σ H Q I h => ?_⟩
  refine Subscript_ (thn (he.run pins s σ H _ I h) fun v s1 ⟨x, H1, I1, r1, a, xs, ex, hx, q⟩ => ?_)
  subst ex
  cases r1
  have hst : PO X (some (.UnaryOp .USub (.Constant (.int 1) k p1) p2)) (tPart (tUn (rU fun i => .int (-i)) (tC (.int 1)))) := po_some (pe_un un_neg pe_int)
  refine wpAny_Slice (thn (po_none.run pins s1 σ H1 (fun o H2 => o = none ∧ H2 = H1) I1 ⟨rfl, rfl⟩) fun vl s2 ⟨l, H2, I2, pl, el, e2⟩ => ?_)
  subst el e2
  refine thn (po_none.run pins s2 σ H2 (fun o H3 => o = none ∧ H3 = H2) I2 ⟨rfl, rfl⟩) fun vu s3 ⟨u, H3, I3, pu, eu, e3⟩ => ?_
  subst eu e3
  refine thn (hst.run pins s3 σ H3 (fun o H4 => o = some (-1) ∧ H4 = H3) I3 ⟨1, rfl, -1, rfl, rfl, rfl⟩) fun vs s4 ⟨o, H4, I4, ps, eo, e4⟩ => ?_
  subst eo e4
  have I5 : Inv X pins σ H4 { s4 with heap := s4.heap.push { cls := .type "slice", data := .fields #[vl, vu, vs] } } := I4.kept (t' := s4.toks) fun b ob q => Heap.get?_push_of_some _ q
  obtain ⟨its, r, ht, hz⟩ := I5.tuple hx
  show wpAny (model X.prog X.w) X.A (subscriptTail e (.Slice none none (some (.UnaryOp .USub (.Constant (.int 1) k p1) p2)) p3) (.ref a) (.ref s4.heap.objs.size)) (EP X pins σ Q) X.xe { s4 with heap := s4.heap.push { cls := .type "slice", data := .fields #[vl, vu, vs] } }
  refine tail_any (ops := [.ref a, .ref s4.heap.objs.size]) ht.typeIs (PyProof.Rows.slot_tuple_getitem.lookup) ?_ (by with_unfolding_all rfl)
  refine getItem_tuple_back ht (Heap.IsSliceOf.new _ vl vu vs) pl pu ps ?_ (by rw [List.size_toArray, ← r.length]; exact hz)
  exact newT (s := { s4 with heap := s4.heap.push { cls := .type "slice", data := .fields #[vl, vu, vs] } }) (t' := s4.toks) I5 r.reverse (by rw [List.length_reverse]; exact hz) q
theorem dv_revt {G : Ct} {δ : DEnv} {a : Expr} {ds : List PyData} {k : Nat} {p1 p2 p3 pos : Pos} (ha : DV G δ a (.tuple ds)) : DV G δ (.Subscript a (.Slice none none (some (.UnaryOp .USub (.Constant (.int 1) k p1) p2)) p3) pos) (.tuple ds.reverse) := fun X hX =>
  PE.imp (pe_revTF (ha X hX)) fun σ H Q ⟨S, δ', d', ⟨e1, e2⟩, ok, R, q⟩ => by
    subst e1 e2
    refine ⟨S, _, _, ⟨rfl, rfl⟩, ok, R, fun v H1 s1 r1 => ?_⟩
    cases r1 with
    | tup e1 k1 z1 a1 =>
      rw [hX.K]
      exact ⟨_, _, rfl, SqT.frz (hide_some e1).2, Rp.newT (ok.mono s1) (by rw [List.length_reverse]; exact z1) a1.rev s1 q⟩
/-! ### sorted of a tuple of whole numbers -/
section
variable {prog : Program} {w : World} {A : Around} {E : Value → Shared → Prop} {s : Shared}
open SrtO in
theorem sorted_ordT {l : Addr} {vs : List Value} {ltv : Value → Value → Bool} {Q : Value → Shared → Prop} (O : SrtO.Swo ltv) (hl : IsTup s.heap l vs.toArray) (hz : vs.length ≤ sizeLine)
    (hS : 2 ≤ vs.length → ∀ (h₁ : Heap) (a : Addr), h₁.get? a = some (seqObj "list" vs.toArray 0) → SrtO.SortableO prog w A.in1.in1 { s with heap := h₁ } a vs ltv)
    (h : ∀ (h' : Heap) (out : List Value), (∀ b o, s.heap.get? b = some o → h'.get? b = some o) → SrtO.Srtd ltv out → SrtO.Stb ltv out vs → Q (.ref h'.objs.size) { s with heap := sortedHeap (h'.push (seqObj "list" vs.toArray 0)) h'.objs.size vs out.toArray }) :
    wpAny (model prog w) A (call (.builtin "sorted") [.ref l]) Q E s := by
  refine Calls.call_function_entry kind_sorted plain_sorted entry_sorted (args_sorted1 _) ?_
  unfold Builtin.«sorted»
  refine wpAny_bind (m := checkCount "sorted" 1 1 _) (wpAny_pure ?_)
  obtain ⟨o, ho, hc, n, hd⟩ := id hl
  refine wpAny_bind (wpAny_collect_seq l (.inr rfl) ho hc hd (fun h' k => ?_) (by simpa using hz))
  refine wpAny_bind (wpAny_newList ?_ hz)
  have hoL : (h'.push (seqObj "list" vs.toArray 0)).get? h'.objs.size = some (seqObj "list" vs.toArray 0) := Heap.get?_push_size _ rfl
  show wpAny _ _ _ _ _ { s with heap := h'.push (seqObj "list" vs.toArray 0) }
  refine wpAny_bind (wpAny_holding (wpAny_call_entry slot_list_sort ⟨_, hoL, rfl⟩ entry_list_sort (SrtO.list_sort_ord O hoL hz (fun h2 => hS h2 _ _ hoL) fun out hs hb => ⟨_, rfl, ?_⟩) (args_list_sort _)))
  exact wpAny_pure ⟨_, rfl, h h' out k hs hb⟩
end
def rSortedIT (K : PySem.W.Frag) : List V → Hp → VK → Prop := fun vs H Q => ∃ (a : Addr) (ns : List Int), vs = [V.ref a] ∧ SqT K H a (ns.map V.int) ∧
  ∀ (ns' : List Int) (p : Addr), ns'.Perm ns → ns'.Pairwise (· ≤ ·) → H p = none → Q (.ref p) (upd H p (.lst (ns'.map V.int)))
theorem cr_sortedIT {X : Cx} : CallR X (.builtin "sorted") (rSortedIT X.K) := by
  intro pins s σ H vs us Q I r h
  obtain ⟨a, ns, rfl, hs, q⟩ := h
  obtain ⟨its, rv, hl, hz⟩ := I.tuple hs
  rw [Vals.ref1 r]
  have hi := rv.ints
  refine sorted_ordT SrtO.swo_int hl (by rw [← rv.length]; exact hz) (fun h2 h₁ a' _ => SrtO.ints_sortable hi h2) fun h' out k h1 h2 => ?_
  obtain ⟨k1, k2, k3⟩ := SrtO.ints_out hi h1 h2
  obtain ⟨ep, he'⟩ := PyProof.Rows.sortedHeap_at (vs := its) (out := out.toArray) (show (h'.push (seqObj "list" its.toArray 0)).get? h'.objs.size = some (seqObj "list" its.toArray 0) from Heap.get?_push_size _ rfl)
  have hlen : ((out.map SrtO.iv).map V.int).length ≤ sizeLine := by
    rw [List.length_map, k2.length_eq]
    rw [List.length_map] at hz
    exact hz
  have I2 : Inv X pins σ H { s with heap := h' } := I.kept (t' := s.toks) k
  refine ⟨.ref _, upd H h'.objs.size (.lst ((out.map SrtO.iv).map V.int)), I2.laid (t' := s.toks) (fun b o hb => ?_) (Nat.le_refl _) ⟨hlen, out, ep, vals_of_ints k1, he'⟩, rfl, q _ _ k2 k3 (I2.hok.fresh (Nat.le_refl _))⟩
  have hlt : b < h'.objs.size := Heap.lt_size hb
  rw [sortedHeap_old (Nat.ne_of_lt hlt) (by rw [size_push']; exact Nat.lt_succ_of_lt hlt), Heap.get?_push_ne _ _ _ (Nat.ne_of_lt hlt)]
  exact hb
section
variable {G : Ct} {δ : DEnv} {a : Expr} {p pos : Pos}
theorem dn_sortedT {ns ms : List Int} (B : Blt G.m) (hg : globB G.sc "sorted" = true) (ha : DV G δ a (.tuple (ns.map .int))) (hp : ms.Perm ns) (hs' : ms.Pairwise (· ≤ ·)) (hs : ∀ env : Env, starEach [a] env = (false, eval a env) :: starEach [] env := by intro _; rfl) : DN G δ (.Call (.Name "sorted" p) [a] [] pos) (ms.map .int) := by
  refine dn_cb (r := rSortedIT G.m.K) (fun X hX => hX.K ▸ cr_sortedIT) hg B.sorted PyProof.Rows.boot_sorted (da_cons ha da_nil hs) (fun S H vs Q ok r q => ?_) (by decide) (by decide) hs
  cases r with
  | cons r1 r2 =>
    cases r2
    cases r1 with
    | tup e1 k1 z1 a1 =>
      obtain rfl := a1.ints
      refine ⟨_, ns, rfl, SqT.frz (hide_some e1).2, fun ns' t h1 h2 h3 => ?_⟩
      have e : ns' = ms := (h1.trans hp.symm).eq_of_pairwise (le := (· ≤ ·)) (fun a b _ _ h1 h2 => Int.le_antisymm h1 h2) h2 hs'
      subst e
      refine q _ _ h3 ?_ (RpAll.ofInts _)
      rw [List.length_map, h1.length_eq, ← List.length_map (f := V.int)]
      exact z1
end
/-! ### a for whose body raises -/
section
variable {G : Ct} {δ δ1 : DEnv} {ω ω1 : Own} {body : List Stmt} {out : Out} {tg iter : Expr} {items : List PyData} {pos : Pos} {ts : TSpec} {C : Value}
def DForX (G : Ct) (C : Value) (ts : TSpec) (body : List Stmt) : List PyData → DEnv → Own → Prop
  | [], _, _ => False
  | d :: ds, δ, ω => ∃ δb, bindT ts d δ = some δb ∧ ofree ts ω ∧ ((∃ δ1 ω1, DSs G δb ω body (.next δ1 ω1) ∧ DForX G C ts body ds δ1 ω1) ∨ DSXs G δb ω body C)
theorem dsx_for_core {wi : TI} (hg : DG G tg ts) (hpi : ∀ X, G.Is X → PI X tg iter wi) (hbody : DForX G C ts body items δ ω)
    (hwi : ∀ (S : List Addr) (σ : L2.St) (H : Hp) (Q : It → Hp → Prop), SOk S H → Rel G.m.K S δ σ H →
      (∀ J H', Same H H' → (∀ (S2 : List Addr) (H2 : Hp), Same (hide S H') (hide S2 H2) → SOk S2 H2 →
        (∀ (i : Nat) (d : PyData), items[i]? = some d → J.go i H2 ∧ ∀ x H3, J.yld i H2 x H3 → Same H2 H3 ∧ ts.rep G.m.K (hide S2 H3) x d) ∧ J.stop items.length H2) → Q J H') → wi σ H Q)
    (hs : ∀ (env : Env) (x : Value), foldedSetIterable iter env x = pure x) : DSX G δ ω (.For tg iter body [] pos) C := fun X hX W tk => by
  have hb : PSs X body (fun D σ H => (∃ δ ω o, DSs G δ ω body o ∧ tDS G.m.K (fun δ' ω' o' => δ' = δ ∧ ω' = ω ∧ o' = o) D σ H) ∨ ∃ δ ω, DSXs G δ ω body C ∧ tXS G.m.K C W δ ω D σ H) := ⟨fun pins s σ H D I h => by
    rcases h with ⟨δ, ω, o, h, q⟩ | ⟨δ, ω, h, q⟩
    · exact (h X hX).run pins s σ H D I q
    · exact (h X hX W tk).run pins s σ H D I q⟩
  refine PS.imp (ps_for hX.xe hX.calm (hpi X hX) (hg X hX) hb (hs _)) fun D σ H ⟨S, H0, hS, r, q⟩ => ?_
  obtain ⟨as, h1, h2, h3, h4, h5, h6⟩ := r.ex
  refine hwi _ σ H _ h3 h5 fun J H1 s1 itok => ?_
  have hF : Same H0 (hide as H1) := h4.trans (hide_mono s1)
  have hSF : SOk S (hide as H1) := hS.mono hF
  have r1 : SRel G.m.K S (hide as H1) δ ω σ H1 := ⟨as, h1, h2, h3.mono s1, Same.refl _, h5.mono s1, fun k i c a e1 e2 => let ⟨q1, q2⟩ := h6 k i c a e1 e2; ⟨q1, q2.mono (hide_mono s1) (s1 _)⟩⟩
  generalize hFe : hide as H1 = F at hF hSF r1
  refine ⟨fun i m σ' H' => m = items.length - i ∧ i ≤ items.length ∧ ∃ δi ωi, DForX G C ts body (items.drop i) δi ωi ∧ SRel G.m.K S F δi ωi σ' H', ⟨_, rfl, Nat.zero_le _, δ, ω, hbody, r1⟩, ?_⟩
  rintro i m σ' H' ⟨em, hi, δi, ωi, hrun, r'⟩
  obtain ⟨as', b1, b2, b3, b4, b5, b6⟩ := r'.ex
  have hsm : Same (hide (as ++ S) H1) (hide (as' ++ S) H') := by
    rw [hide_app, hide_app, hFe]
    exact hide_mono b4
  obtain ⟨hgo, hstop⟩ := itok _ _ hsm b3
  by_cases hlt : i < items.length
  · rw [List.drop_eq_getElem_cons hlt] at hrun
    obtain ⟨δb, hbd, hfree, halt⟩ := hrun
    obtain ⟨go, yld⟩ := hgo i items[i] (List.getElem?_eq_getElem hlt)
    have head : ∀ x H3, J.yld i H' x H3 → ∀ P : L2.St → Hp → Prop, (∀ σ2, SRel G.m.K S F δb ωi σ2 H3 → P σ2 H3) → tDG G.m.K ts x σ' H3 P := by
      intro x H3 y P hP
      obtain ⟨s3, rx⟩ := yld x H3 y
      refine ⟨_, δi, items[i], δb, hbd, b3.mono s3, b5.mono s3, rx, fun σ2 R2 keep hl => hP σ2 ⟨as', b1, b2, b3.mono s3, b4.trans (hide_mono s3), R2, fun k j c a e1 e2 => ?_⟩⟩
      obtain ⟨z1, z2⟩ := b6 k j c a e1 e2
      exact ⟨by rw [keep j (hfree _ (List.mem_of_getElem? e1))]; exact z1, z2.mono (hide_mono s3) (s3 _)⟩
    rcases halt with ⟨δ1, ω1, hd, hrest⟩ | hd
    · refine .inr ⟨go, fun σ2 H2 => ∃ δ1 ω1, DForX G C ts body (items.drop (i + 1)) δ1 ω1 ∧ SRel G.m.K S F δ1 ω1 σ2 H2, fun σ2 H2 ⟨d1, w1, g1, g2⟩ => ⟨items.length - (i + 1), by omega, rfl, hlt, d1, w1, g1, g2⟩, ?_⟩
      exact fun x H3 y => head x H3 y _ fun σ2 R2 => .inl ⟨δb, ωi, _, hd, S, F, δb, ωi, _, ⟨rfl, rfl, rfl⟩, hSF, R2, fun σ2 H2 r2 => ⟨δ1, ω1, hrest, r2⟩⟩
    · refine .inr ⟨go, fun _ _ => False, fun _ _ z => z.elim, ?_⟩
      exact fun x H3 y => head x H3 y _ fun σ2 R2 => .inr ⟨δb, ωi, hd, S, F, hSF, R2, fun H2 s2 => q H2 (hF.trans s2)⟩
  · have ei : i = items.length := by omega
    subst ei
    rw [List.drop_length] at hrun
    exact hrun.elim
theorem dsx_for2 (i j : Nat) (hg : DG G tg (.two i j)) (hi : DI G δ tg iter items) (hbody : DForX G C (.two i j) body items δ ω) (hs : ∀ (env : Env) (x : Value), foldedSetIterable iter env x = pure x := by intro _ _; rfl) : DSX G δ ω (.For tg iter body [] pos) C :=
  dsx_for_core hg (fun X hX => hi X hX) hbody (fun S σ H Q ok R h => ⟨S, δ, items, ⟨rfl, rfl⟩, ok, R, fun J H' s it => h J H' s it⟩) hs
theorem dforx_find {α : Type} (enc : α → PyData) (g : α → Bool) : ∀ (xs : List α), (∀ x ∈ xs, ∃ δb, bindT ts (enc x) δ = some δb ∧ ofree ts ω ∧ ((g x = false ∧ ∃ δ1, DSs G δb ω body (.next δ1 ω) ∧ Le δ δ1) ∨ (g x = true ∧ DSXs G δb ω body C))) → xs.any g = true →
    DForX G C ts body (xs.map enc) δ ω
  | [], _, h => by cases h
  | x :: xs, h, ha => by
    obtain ⟨δb, h1, h2, h3⟩ := h x List.mem_cons_self
    rcases h3 with ⟨e, δ1, h3, w⟩ | ⟨e, h3⟩
    · rw [List.any_cons, e, Bool.false_or] at ha
      exact ⟨δb, h1, h2, .inl ⟨_, _, h3.weak w, dforx_find enc g xs (fun y hy => h y (List.mem_cons_of_mem _ hy)) ha⟩⟩
    · exact ⟨δb, h1, h2, .inr h3⟩
end
/-! ### loops that may change tables -/
section
variable {G : Ct} {T : List (Addr × PySem.Str)} {C : Cx → Prop} {δ δ1 δ2 : DEnv} {ω ω1 : Own} {sts body : List Stmt} {out : Out} {ts : TSpec}
theorem DYs.weak (h : DYs G T C δ ω sts (.next δ1 ω1)) (w : Le δ2 δ1) : DYs G T C δ ω sts (.next δ2 ω1) := fun X hX c => PSs.imp (h X hX c) fun D σ H ⟨S, H0, δ', ω', o', ⟨e1, e2, e3⟩, hS, h0, hT, r, q⟩ => by
  subst e1 e2 e3
  exact ⟨S, H0, _, _, _, ⟨rfl, rfl, rfl⟩, hS, h0, hT, r, fun σ' H' r' => q σ' H' (r'.le w)⟩
theorem DYs.convo (h : DYs G T C δ ω sts (.next δ1 ω1)) {ω2 : Own} (q : ω1 = ω2) : DYs G T C δ ω sts (.next δ1 ω2) := q ▸ h
theorem DYs.from (h : DYs G T C δ ω sts out) (q1 : δ1 = δ) (q2 : ω1 = ω) : DYs G T C δ1 ω1 sts out := q1 ▸ q2 ▸ h
theorem dfory_keep {α : Type} (enc : α → PyData) : ∀ (xs : List α), (∀ x ∈ xs, ∃ δb, bindT ts (enc x) δ = some δb ∧ ofree ts ω ∧ ∃ δ1, DYs G T C δb ω body (.next δ1 ω) ∧ Le δ δ1) → DForY G T C ts body (xs.map enc) δ ω (.next δ ω)
  | [], _ => rfl
  | x :: xs, h => by
    obtain ⟨δb, h1, h2, δ1, h3, w⟩ := h x List.mem_cons_self
    exact ⟨δb, h1, h2, .inl ⟨_, _, h3.weak w, dfory_keep enc xs fun y hy => h y (List.mem_cons_of_mem _ hy)⟩⟩
theorem dfory_foldD {α β : Type} (enc : α → PyData) (sd : β → DEnv) (st : β → Own) (f : β → α → β) (I : Nat → β → Prop) : ∀ (xs : List α) (b : β), I xs.length b → (∀ x ∈ xs, ∀ n b, I (n + 1) b → I n (f b x) ∧ ∃ δb, bindT ts (enc x) (sd b) = some δb ∧ ofree ts (st b) ∧ ∃ δ1, DYs G T C δb (st b) body (.next δ1 (st (f b x))) ∧ Le (sd (f b x)) δ1) →
    DForY G T C ts body (xs.map enc) (sd b) (st b) (.next (sd (xs.foldl f b)) (st (xs.foldl f b)))
  | [], _, _, _ => rfl
  | x :: xs, b, hb, h => by
    obtain ⟨hi, δb, h1, h2, δ1, h3, w⟩ := h x List.mem_cons_self _ b hb
    exact ⟨δb, h1, h2, .inl ⟨_, _, h3.weak w, dfory_foldD enc sd st f I xs _ hi fun y hy => h y (List.mem_cons_of_mem _ hy)⟩⟩
theorem DForY.conv {items : List PyData} (h : DForY G T C ts body items δ ω out) {o : Out} (q : out = o) : DForY G T C ts body items δ ω o := q ▸ h
end
end DL

set_option Elab.async false
set_option linter.all false
set_option maxRecDepth 100000
set_option maxHeartbeats 4000000
namespace DL
open PySem PySem.Spec L2
set_option autoImplicit false
/-! ### runs of a web -/
def tI (ties : List (Int × Int)) (x : Int) : Int × Int := ties.getD x.toNat (0, 0)
def bI (ties : List (Int × Int)) (r : List Int) (x : Int) : Int := (spotsM r (tI ties x)).1
def eI (ties : List (Int × Int)) (r : List Int) (x : Int) : Int := (spotsM r (tI ties x)).2
def soD (so : List Int) : PyData := .tuple (so.map .int)
structure SoOk (L : Nat) (so : List Int) : Prop where
  hs : so.Pairwise (· < ·)
  rng : ∀ x ∈ so, 0 ≤ x ∧ x < L
def hitAt (ties : List (Int × Int)) (r : List Int) (k : Kd) (x y : Int) : Bool := clashB r k (tI ties x) (tI ties y)
def anyHit (ties : List (Int × Int)) (r : List Int) (k : Kd) : List Int → Bool
  | [] => false
  | x :: t => t.any (hitAt ties r k x) || anyHit ties r k t
def hAt (ties : List (Int × Int)) (r : List Int) (k : Kd) (so : List Int) : Nat → List Int
  | 0 => []
  | i + 1 => runStep (bI ties r) (eI ties r) k so i (hAt ties r k so i)
def runL (ties : List (Int × Int)) (r : List Int) (k : Kd) (so : List Int) (m : Nat) : List (List Int) := (List.range m).map fun j => hAt ties r k so (j + 1)
section
variable {m : Nat} {ties : List (Int × Int)} {r : List Int} {k : Kd} {so : List Int}
theorem SoOk.nd (h : SoOk ties.length so) : so.Nodup := h.hs.imp fun h => Int.ne_of_lt h
theorem SoOk.len (h : SoOk ties.length so) : so.length ≤ ties.length := by
  have := nodup_le h.nd (ys := upto (ties.length : Int)) fun x hx => mem_upto.mpr (h.rng x hx)
  rw [upto_len] at this
  exact this
theorem tI_at {x : Int} (h : 0 ≤ x ∧ x < ties.length) : ties[x.toNat]? = some (tI ties x) := tie_at (by omega)
theorem nat_of {x : Int} (h : 0 ≤ x) : PyData.int x = natD x.toNat := by
  unfold natD
  rw [Int.toNat_of_nonneg h]
theorem tI_mem (wr : WR m ties r) {x : Int} (h : 0 ≤ x ∧ x < ties.length) : (tI ties x).1 ∈ r ∧ (tI ties x).2 ∈ r ∧ (tI ties x).1 ≠ (tI ties x).2 := wr.mem (List.mem_of_getElem? (tI_at h))
theorem bI_lt (wr : WR m ties r) {x : Int} (h : 0 ≤ x ∧ x < ties.length) : bI ties r x < eI ties r x := by
  obtain ⟨h1, h2, h3⟩ := tI_mem wr h
  exact spots_lt h1 h2 h3
theorem ix_lt {r : List Int} {x : Int} (h : x ∈ r) : ix r x < r.length := (List.getElem?_eq_some_iff.mp (ix_get h)).1
theorem wrow_len (wr : WR m ties r) : r.length = m := by rw [wr.row.length_eq, upto_len]
theorem eI_lt (wr : WR m ties r) {x : Int} (h : 0 ≤ x ∧ x < ties.length) : eI ties r x < m := by
  obtain ⟨h1, h2, h3⟩ := tI_mem wr h
  have g1 := ix_lt h1
  have g2 := ix_lt h2
  rw [wrow_len wr] at g1 g2
  unfold eI spotsM
  split <;> simp <;> omega
theorem bI_nn (x : Int) : 0 ≤ bI ties r x := by
  unfold bI spotsM
  split <;> simp
theorem hitAt_comm (x y : Int) : hitAt ties r k x y = hitAt ties r k y x := by
  unfold hitAt clashB Lr
  rw [howM_comm]
theorem nohit : ∀ {so : List Int}, anyHit ties r k so = false → so.Pairwise fun x y => hitAt ties r k x y = false
  | [], _ => .nil
  | x :: t, h => by
    unfold anyHit at h
    rw [Bool.or_eq_false_iff] at h
    exact .cons (fun y hy => by
      have := List.any_eq_false.mp h.1 y hy
      simpa using this) (nohit h.2)
theorem nc_of (wr : WR m ties r) (ok : SoOk ties.length so) (h : anyHit ties r k so = false) : NC (bI ties r) (eI ties r) k so := fun x hx y hy h1 h2 => by
  have hxy : x ≠ y := fun q => by rw [q] at h1; omega
  have nh : hitAt ties r k x y = false := by
    have p := nohit h
    obtain ⟨i, hi, e1⟩ := List.mem_iff_getElem.mp hx
    obtain ⟨j, hj, e2⟩ := List.mem_iff_getElem.mp hy
    have pw := List.pairwise_iff_getElem.mp p
    rcases Nat.lt_trichotomy i j with q | q | q
    · have := pw i j hi hj q
      rw [e1, e2] at this
      exact this
    · subst q
      exact absurd (e1.symm.trans e2) hxy
    · have := pw j i hj hi q
      rw [e1, e2, hitAt_comm] at this
      exact this
  unfold hitAt clashB Lr at nh
  have nh := of_decide_eq_false nh
  have ly := bI_lt wr (ok.rng y hy)
  unfold bI eI at *
  generalize spotsM r (tI ties x) = s at *
  generalize spotsM r (tI ties y) = t at *
  cases k with
  | pile =>
    simp only [sg]
    by_cases q : s.2 < t.2
    · refine absurd ?_ nh
      unfold howM
      rw [if_neg (by omega), if_pos (by omega)]
      rfl
    · omega
  | queue =>
    simp only [sg]
    by_cases q : t.2 < s.2
    · refine absurd ?_ nh
      unfold howM
      rw [if_neg (by omega), if_neg (by omega), if_pos (by omega)]
      rfl
    · omega
theorem anyHit_iff : ∀ {so : List Int}, so.Pairwise (· < ·) → (anyHit ties r k so = true ↔ ∃ x ∈ so, ∃ y ∈ so, x < y ∧ hitAt ties r k x y = true)
  | [], _ => by simp [anyHit]
  | a :: t, hp => by
    obtain ⟨h1, h2⟩ := List.pairwise_cons.mp hp
    have ih := anyHit_iff h2
    unfold anyHit
    rw [Bool.or_eq_true, List.any_eq_true, ih]
    constructor
    · rintro (⟨y, hy, h⟩ | ⟨x, hx, y, hy, h⟩)
      · exact ⟨a, List.mem_cons_self, y, List.mem_cons_of_mem _ hy, h1 y hy, h⟩
      · exact ⟨x, List.mem_cons_of_mem _ hx, y, List.mem_cons_of_mem _ hy, h⟩
    · rintro ⟨x, hx, y, hy, hlt, h⟩
      rcases List.mem_cons.mp hx with q | q
      · subst q
        rcases List.mem_cons.mp hy with q2 | q2
        · omega
        · exact .inl ⟨y, q2, h⟩
      · rcases List.mem_cons.mp hy with q2 | q2
        · subst q2
          have := h1 x q
          omega
        · exact .inr ⟨x, q, y, q2, hlt, h⟩
theorem hAt_iv (wr : WR m ties r) (ok : SoOk ties.length so) : ∀ i : Nat, Iv (bI ties r) (eI ties r) so (i : Int) (hAt ties r k so i)
  | 0 => iv_0 fun x _ => bI_nn x
  | i + 1 => by
    have h := iv_step ok.hs (fun x hx => bI_lt wr (ok.rng x hx)) (hAt_iv wr ok i) ((List.Perm.refl _).append (List.mergeSort_perm (endsF (bI ties r) so (i : Int)) fun x y => decide (sg k * eI ties r x ≤ sg k * eI ties r y)))
    exact h
theorem hAt_len (wr : WR m ties r) (ok : SoOk ties.length so) (i : Nat) : (hAt ties r k so i).length ≤ ties.length :=
  Nat.le_trans (nodup_le (hAt_iv wr ok i).nd fun x hx => (((hAt_iv wr ok i).mem x).mp hx).1) ok.len
theorem runGo_eq : ∀ (c i : Nat), runGo (bI ties r) (eI ties r) k so c (i : Int) (hAt ties r k so i) = (List.range' i c).map fun j => hAt ties r k so (j + 1)
  | 0, _ => rfl
  | c + 1, i => by
    rw [List.range'_succ, List.map_cons]
    exact congrArg (_ :: ·) (runGo_eq c (i + 1))
theorem runL_eq : runL ties r k so m = runGo (bI ties r) (eI ties r) k so m 0 [] := by
  unfold runL
  rw [List.range_eq_range']
  exact (runGo_eq m 0).symm
theorem runL_len : (runL ties r k so m).length = m := by unfold runL; simp
theorem runL_in (wr : WR m ties r) (ok : SoOk ties.length so) {h : List Int} (hh : h ∈ runL ties r k so m) : h.length ≤ ties.length := by
  obtain ⟨j, _, rfl⟩ := List.mem_map.mp hh
  exact hAt_len wr ok _
/-! the two tellings -/
def isRunB (ties : List (Int × Int)) (r : List Int) (k : Kd) (so : List Int) (m : Nat) : PyData → Bool
  | .tuple l => decide (l.length = m) && goM (bI ties r) (eI ties r) k so 0 [] l
  | _ => false
def lisRunB (ties : List (Int × Int)) (r : List Int) (k : Kd) (so : List Int) (m : Nat) : PyData → Bool
  | .tuple l => decide (l.length = m) && lgo (bI ties r) (eI ties r) k so 0 [] l
  | _ => false
theorem told_same (wr : WR m ties r) (ok : SoOk ties.length so) (x : PyData) : isRunB ties r k so m x = lisRunB ties r k so m x := by
  cases x with
  | tuple l =>
    show (decide (l.length = m) && _) = (decide (l.length = m) && _)
    by_cases h : l.length = m
    · rw [runs_same (n := (m : Int)) ok.hs (fun x hx => bI_lt wr (ok.rng x hx)) (fun x hx => eI_lt wr (ok.rng x hx)) l 0 [] (iv_0 fun x _ => bI_nn x) (by omega)]
    · rw [decide_eq_false h, Bool.false_and, Bool.false_and]
  | _ => rfl
theorem run_told (wr : WR m ties r) (ok : SoOk ties.length so) (h : anyHit ties r k so = false) : isRunB ties r k so m (.tuple ((runL ties r k so m).map tupD)) = true := by
  show (decide (((runL ties r k so m).map tupD).length = m) && _) = true
  rw [List.length_map, runL_len, decide_eq_true rfl, Bool.true_and, runL_eq]
  exact run_ok ok.hs (fun x hx => bI_lt wr (ok.rng x hx)) (nc_of wr ok h) m 0 [] (iv_0 fun x _ => bI_nn x) .nil
end
/-! steps, one by one -/
def goS {α β : Type} (step : β → α → Option β) : β → List α → Option β
  | b, [] => some b
  | b, x :: xs => match step b x with
    | none => none
    | some b' => goS step b' xs
section
variable (b e : Int → Int) (k : Kd) (so : List Int)
def stepP (bf : List Int) (q : PyData × Nat) : Option (List Int) := match tupI q.1 with
  | none => none
  | some af => if stepB k bf af (endsF e so (q.2 : Int)) (endsF b so (q.2 : Int)) = true then some af else none
def stepL (h : List Int) (q : PyData × Nat) : Option (List Int) := match tupI q.1 with
  | none => none
  | some af => match popAll k (endsF e so (q.2 : Int)) (endsF e so (q.2 : Int)).length h with
    | none => none
    | some h' => if cutD af none (some (h'.length : Int)) = h' ∧ sortI (cutD af (some (h'.length : Int)) none) = endsF b so (q.2 : Int) then some af else none
theorem goM_eq : ∀ (ds : List PyData) (i : Nat) (bf : List Int), goM b e k so (i : Int) bf ds = (goS (stepP b e k so) bf (ds.zipIdx i)).isSome
  | [], _, _ => rfl
  | d :: ds, i, bf => by
    unfold goM
    rw [List.zipIdx_cons]
    unfold goS stepP
    dsimp only
    cases tupI d with
    | none => rfl
    | some af =>
      dsimp only
      by_cases h : stepB k bf af (endsF e so (i : Int)) (endsF b so (i : Int)) = true
      · rw [if_pos h, if_pos h]
        exact goM_eq ds (i + 1) af
      · rw [if_neg h, if_neg h]
        rfl
theorem lgo_eq : ∀ (ds : List PyData) (i : Nat) (h : List Int), lgo b e k so (i : Int) h ds = match goS (stepL b e k so) h (ds.zipIdx i) with
    | some h' => decide (h' = [])
    | none => false
  | [], _, _ => rfl
  | d :: ds, i, h => by
    unfold lgo
    rw [List.zipIdx_cons]
    unfold goS stepL
    dsimp only
    cases tupI d with
    | none => rfl
    | some af =>
      dsimp only
      cases popAll k (endsF e so (i : Int)) (endsF e so (i : Int)).length h with
      | none => rfl
      | some h' =>
        dsimp only
        by_cases c : cutD af none (some (h'.length : Int)) = h' ∧ sortI (cutD af (some (h'.length : Int)) none) = endsF b so (i : Int)
        · rw [if_pos c, if_pos c]
          exact lgo_eq ds (i + 1) af
        · rw [if_neg c, if_neg c]
def popS (en : List Int) (h : List Int) (_ : Nat) : Option (List Int) := if h = [] ∨ topK k h ∉ en then none else some (popK k h)
theorem popAll_go (en : List Int) : ∀ (xs : List Nat) (h : List Int), popAll k en xs.length h = goS (popS k en) h xs
  | [], _ => rfl
  | x :: xs, h => by
    show (if h = [] ∨ topK k h ∉ en then none else popAll k en xs.length (popK k h)) = _
    unfold goS popS
    by_cases c : h = [] ∨ topK k h ∉ en
    · rw [if_pos c, if_pos c]
    · rw [if_neg c, if_neg c]
      exact popAll_go en xs (popK k h)
end
section
variable {G : Ct} {body : List Stmt} {ts : TSpec}
def outGo {β : Type} (sd : β → DEnv) : Option β → Out
  | some b => .next (sd b) []
  | none => .ret (.bool false)
theorem dfor_go {α β : Type} (enc : α → PyData) (sd : β → DEnv) (step : β → α → Option β) (I : β → Prop) : ∀ (xs : List α) (b : β), I b →
    (∀ x ∈ xs, ∀ b, I b → ∃ δb, bindT ts (enc x) (sd b) = some δb ∧ ofree ts [] ∧ ((∃ b', step b x = some b' ∧ I b' ∧ ∃ δ1, DSs G δb [] body (.next δ1 []) ∧ Le (sd b') δ1) ∨ (step b x = none ∧ DSs G δb [] body (.ret (.bool false))))) →
    DFor G ts body (xs.map enc) (sd b) [] (outGo sd (goS step b xs))
  | [], _, _, _ => rfl
  | x :: xs, b, hb, h => by
    obtain ⟨δb, h1, h2, h3⟩ := h x List.mem_cons_self b hb
    unfold goS
    rcases h3 with ⟨b', e, hb', δ1, h3, w⟩ | ⟨e, h3⟩
    · rw [e]
      exact ⟨δb, h1, h2, .inl ⟨_, _, h3.weak w, dfor_go enc sd step I xs b' hb' fun y hy => h y (List.mem_cons_of_mem _ hy)⟩⟩
    · rw [e]
      exact ⟨δb, h1, h2, .inr ⟨_, rfl, h3⟩⟩
theorem dfory_range {T : List (Addr × PySem.Str)} {C : Cx → Prop} (sd : Nat → DEnv) (st : Nat → Own) : ∀ (c i : Nat), (∀ j, i ≤ j → j < i + c → ∃ δb, bindT ts (natD j) (sd j) = some δb ∧ ofree ts (st j) ∧ ∃ δ1, DYs G T C δb (st j) body (.next δ1 (st (j + 1))) ∧ Le (sd (j + 1)) δ1) →
    DForY G T C ts body ((List.range' i c).map natD) (sd i) (st i) (.next (sd (i + c)) (st (i + c)))
  | 0, _, _ => rfl
  | c + 1, i, h => by
    obtain ⟨δb, h1, h2, δ1, h3, w⟩ := h i (Nat.le_refl _) (by omega)
    rw [List.range'_succ, List.map_cons]
    have e : i + (c + 1) = (i + 1) + c := by omega
    rw [e]
    exact ⟨δb, h1, h2, .inl ⟨_, _, h3.weak w, dfory_range sd st c (i + 1) fun j g1 g2 => h j (by omega) (by omega)⟩⟩
theorem numbered_zip (ds : List PyData) : numbered ds = (ds.zipIdx 0).map fun q => .tuple [natD q.2, q.1] := rfl
end
/-! promises -/
def okIn (y : PyData) : Prop := isDict y = false ∧ ∀ l, y = .tuple l → l.length ≤ 1000 ∧ ∀ z ∈ l, isDict z = false
def okTh (x : PyData) : Prop := isDict x = false ∧ ∀ l, x = .tuple l → l.length ≤ 1000 ∧ ∀ y ∈ l, okIn y
def rEnding (ds : List PyData) (d : PyData) : Prop := ∃ (m : Nat) (ties : List (Int × Int)) (r so : List Int) (a : Int), ds = [webD m ties, rowD r, soD so, .int a] ∧ WR m ties r ∧ SoOk ties.length so ∧ ties.length ≤ 60 ∧ d = .list ((endsF (eI ties r) so a).map .int)
def rBegin (ds : List PyData) (d : PyData) : Prop := ∃ (m : Nat) (ties : List (Int × Int)) (r so : List Int) (a : Int), ds = [webD m ties, rowD r, soD so, .int a] ∧ WR m ties r ∧ SoOk ties.length so ∧ ties.length ≤ 60 ∧ d = .list ((endsF (bI ties r) so a).map .int)
def rRun (ds : List PyData) (d : PyData) : Prop := ∃ (m : Nat) (ties : List (Int × Int)) (r so : List Int) (k : Kd), ds = [webD m ties, rowD r, .str k.t, soD so] ∧ WR m ties r ∧ SoOk ties.length so ∧ ties.length ≤ 60 ∧ m ≤ 60 ∧ anyHit ties r k so = false ∧ d = .tuple ((runL ties r k so m).map tupD)
def rRunX (ds : List PyData) : Prop := ∃ (m : Nat) (ties : List (Int × Int)) (r so : List Int) (k : Kd), ds = [webD m ties, rowD r, .str k.t, soD so] ∧ WR m ties r ∧ SoOk ties.length so ∧ ties.length ≤ 60 ∧ m ≤ 60 ∧ anyHit ties r k so = true
def rSame (ds : List PyData) (d : PyData) : Prop := ∃ (xs ys : List Int), ds = [.tuple (xs.map .int), .list (ys.map .int)] ∧ d = .bool (sameB xs ys)
def rStep (ds : List PyData) (d : PyData) : Prop := ∃ (k : Kd) (bf af en bg : List Int), ds = [.str k.t, tupD bf, tupD af, .list (en.map .int), .list (bg.map .int)] ∧ d = .bool (stepB k bf af en bg)
def rIsRun (ds : List PyData) (d : PyData) : Prop := ∃ (m : Nat) (ties : List (Int × Int)) (r so : List Int) (k : Kd) (x : PyData), ds = [webD m ties, rowD r, .str k.t, soD so, x] ∧ WR m ties r ∧ SoOk ties.length so ∧ ties.length ≤ 60 ∧ m ≤ 60 ∧ okTh x ∧ d = .bool (isRunB ties r k so m x)
def rLIsRun (ds : List PyData) (d : PyData) : Prop := ∃ (m : Nat) (ties : List (Int × Int)) (r so : List Int) (k : Kd) (x : PyData), ds = [webD m ties, rowD r, .str k.t, soD so, x] ∧ WR m ties r ∧ SoOk ties.length so ∧ ties.length ≤ 60 ∧ m ≤ 60 ∧ okTh x ∧ d = .bool (lisRunB ties r k so m x)
def rLRun (ds : List PyData) (d : PyData) : Prop := ∃ (m : Nat) (ties : List (Int × Int)) (r so : List Int) (k : Kd), ds = [webD m ties, rowD r, .str k.t, soD so] ∧ WR m ties r ∧ SoOk ties.length so ∧ ties.length ≤ 60 ∧ m ≤ 60 ∧ d = if anyHit ties r k so = true then .none else .tuple ((runL ties r k so m).map tupD)
/-! spoilt runs -/
def spots10 (hs : List (List Int)) (a : Nat) : List PyData :=
  let part := hs.getD a []
  [.tuple ((hs.take a ++ [part.reverse] ++ hs.drop (a + 1)).map tupD), .tuple ((hs.take a ++ hs.drop (a + 1)).map tupD), .tuple (hs.map tupD ++ [.tuple []]), .list (hs.map tupD), .none,
   .tuple ((hs.take a ++ [part.drop 1] ++ hs.drop (a + 1)).map tupD), .tuple ((hs.take a ++ [part ++ [0]] ++ hs.drop (a + 1)).map tupD), .tuple (hs.reverse.map tupD),
   .tuple ((hs.take a).map tupD ++ [.list (part.map .int)] ++ (hs.drop (a + 1)).map tupD), .tuple ((hs.take a).map tupD ++ [.tuple (part.map .int ++ [.none])] ++ (hs.drop (a + 1)).map tupD)]
def spoiltD (hs : List (List Int)) (z : Int) : PyData := (spots10 hs (z % (hs.length : Int)).toNat).getD (z / 8 % 10).toNat .none
def rSpoilt (ds : List PyData) (d : PyData) : Prop := ∃ (hs : List (List Int)) (z : Int), ds = [.tuple (hs.map tupD), .int z] ∧ 0 < hs.length ∧ hs.length ≤ 60 ∧ (∀ h ∈ hs, h.length ≤ 60) ∧ d = spoiltD hs z
theorem okIn_tup {h : List Int} (hl : h.length ≤ 1000) : okIn (tupD h) := ⟨rfl, fun l e => by
  cases e
  exact ⟨by rw [List.length_map]; exact hl, fun z hz => by obtain ⟨i, _, rfl⟩ := List.mem_map.mp hz; rfl⟩⟩
theorem okTh_tups {hs : List (List Int)} (h1 : hs.length ≤ 1000) (h2 : ∀ h ∈ hs, h.length ≤ 1000) : okTh (.tuple (hs.map tupD)) := ⟨rfl, fun l e => by
  cases e
  exact ⟨by rw [List.length_map]; exact h1, fun y hy => by obtain ⟨h, hh, rfl⟩ := List.mem_map.mp hy; exact okIn_tup (h2 h hh)⟩⟩
theorem okTh_lst {l : List PyData} (h1 : l.length ≤ 1000) (h2 : ∀ y ∈ l, okIn y) : okTh (.tuple l) := ⟨rfl, fun l e => by cases e; exact ⟨h1, h2⟩⟩
theorem okTh_other {x : PyData} (h : isDict x = false) (n : ∀ l, x ≠ .tuple l) : okTh x := ⟨h, fun l e => absurd e (n l)⟩
theorem getD_in {α : Type} {P : α → Prop} : ∀ {l : List α} {d : α} (i : Nat), P d → (∀ x ∈ l, P x) → P (l.getD i d)
  | [], _, _, hd, _ => by simpa using hd
  | x :: l, d, 0, _, h => by simpa using h x List.mem_cons_self
  | x :: l, d, i + 1, hd, h => by
    have := getD_in (l := l) (d := d) i hd fun y hy => h y (List.mem_cons_of_mem _ hy)
    simpa using this
theorem spoilt_ok {hs : List (List Int)} (h60 : hs.length ≤ 60) (hi : ∀ h ∈ hs, h.length ≤ 60) (z : Int) : okTh (spoiltD hs z) := by
  unfold spoiltD
  generalize (z % (hs.length : Int)).toNat = a
  have hp : (hs.getD a []).length ≤ 60 := getD_in (P := fun h : List Int => h.length ≤ 60) a (by simp) hi
  have ht : ∀ h ∈ hs.take a, h.length ≤ 60 := fun h hh => hi h (List.mem_of_mem_take hh)
  have hd : ∀ h ∈ hs.drop (a + 1), h.length ≤ 60 := fun h hh => hi h (List.mem_of_mem_drop hh)
  have lt : (hs.take a).length ≤ 60 := by rw [List.length_take]; omega
  have ld : (hs.drop (a + 1)).length ≤ 60 := by rw [List.length_drop]; omega
  refine getD_in (P := okTh) _ (okTh_other rfl (by intro l e; cases e)) fun x hx => ?_
  unfold spots10 at hx
  generalize hs.getD a [] = part at hp hx
  have three : ∀ p : List Int, p.length ≤ 100 → okTh (.tuple ((hs.take a ++ [p] ++ hs.drop (a + 1)).map tupD)) := fun p h => okTh_tups (by simp only [List.length_append, List.length_singleton]; omega) fun h' hh => by
    rcases List.mem_append.mp hh with q | q
    · rcases List.mem_append.mp q with q | q
      · have := ht h' q; omega
      · rw [List.mem_singleton.mp q]; omega
    · have := hd h' q; omega
  have mix : ∀ y : PyData, okIn y → okTh (.tuple ((hs.take a).map tupD ++ [y] ++ (hs.drop (a + 1)).map tupD)) := fun y hy => okTh_lst (by simp only [List.length_append, List.length_singleton, List.length_map]; omega) fun y' hh => by
    rcases List.mem_append.mp hh with q | q
    · rcases List.mem_append.mp q with q | q
      · obtain ⟨h, h1, rfl⟩ := List.mem_map.mp q
        exact okIn_tup (by have := ht h h1; omega)
      · rw [List.mem_singleton.mp q]; exact hy
    · obtain ⟨h, h1, rfl⟩ := List.mem_map.mp q
      exact okIn_tup (by have := hd h h1; omega)
  simp only [List.mem_cons, List.not_mem_nil, or_false] at hx
  rcases hx with h | h | h | h | h | h | h | h | h | h
  · rw [h]; exact three _ (by rw [List.length_reverse]; omega)
  · rw [h]
    refine okTh_tups (by rw [List.length_append]; omega) fun h' hh => ?_
    rcases List.mem_append.mp hh with q | q
    · have := ht h' q; omega
    · have := hd h' q; omega
  · rw [h]
    refine okTh_lst (by simp only [List.length_append, List.length_singleton, List.length_map]; omega) fun y hy => ?_
    rcases List.mem_append.mp hy with q | q
    · obtain ⟨h, h1, rfl⟩ := List.mem_map.mp q
      exact okIn_tup (by have := hi h h1; omega)
    · rw [List.mem_singleton.mp q]
      exact okIn_tup (h := []) (by simp)
  · rw [h]; exact okTh_other rfl (by intro l e; cases e)
  · rw [h]; exact okTh_other rfl (by intro l e; cases e)
  · rw [h]; exact three _ (by rw [List.length_drop]; omega)
  · rw [h]; exact three _ (by rw [List.length_append, List.length_singleton]; omega)
  · rw [h]
    exact okTh_tups (by rw [List.length_reverse]; omega) fun h' hh => by have := hi h' (List.mem_reverse.mp hh); omega
  · rw [h]
    exact mix _ ⟨rfl, fun l e => by cases e⟩
  · rw [h]
    refine mix _ ⟨rfl, fun l e => ?_⟩
    cases e
    refine ⟨by rw [List.length_append, List.length_map, List.length_singleton]; omega, fun z hz => ?_⟩
    rcases List.mem_append.mp hz with q | q
    · obtain ⟨i, _, rfl⟩ := List.mem_map.mp q
      rfl
    · rw [List.mem_singleton.mp q]
      rfl
end DL

set_option Elab.async false
set_option linter.all false
set_option maxRecDepth 100000
set_option maxHeartbeats 4000000
namespace DL
open PySem PySem.Spec L2 PyProof.Rows
set_option autoImplicit false
theorem tuple_mul_none (l : Addr) (items : Array Value) (n : Nat) (dd : Option Addr) (sl : Array (Option Value)) (x : Int) (u : Tok) (c0 : (decide (x < -(2 ^ 63)) || decide (x ≥ 2 ^ 63)) = false) (c1 : (items.isEmpty || x == 1) = false) (c2 : (decide (x ≤ 0) || items.isEmpty) = true) :
    Meets (Builtin.«tuple.__mul__» ⟨[.ref l, .int x u], []⟩) (fun _ R s => s.heap.get? l = some { cls := .type "tuple", dict := dd, data := .seq items n, slots := sl } ∧
      R (.ok (.ret (Value.ref s.heap.objs.size))) { s with heap := s.heap.push { cls := Value.type "tuple", data := Data.seq #[] }, toks := s.toks }) :=
  .of_wp fun prog w A R s h => by
    obtain ⟨hp, g, d, tk, os⟩ := s
    obtain ⟨hl, h⟩ := h
    have f1 := AutoSeq1.idx_int
    wp_walk using wpAny_loadPart' hl
    refine wpAny_ite_false (decide_eq_false (by rw [c0]; exact Bool.false_ne_true)) ?_
    wp_walk using wpAny_loadPart' hl
    exact ⟨_, rfl, h⟩
theorem tuple_mul_one (l : Addr) (items : Array Value) (n : Nat) (dd : Option Addr) (sl : Array (Option Value)) (u : Tok) :
    Meets (Builtin.«tuple.__mul__» ⟨[.ref l, .int 1 u], []⟩) (fun _ R s => s.heap.get? l = some { cls := .type "tuple", dict := dd, data := .seq items n, slots := sl } ∧
      R (.ok (.ret (Value.ref l))) s) :=
  .of_wp fun prog w A R s h => by
    obtain ⟨hp, g, d, tk, os⟩ := s
    obtain ⟨hl, h⟩ := h
    have f1 := AutoSeq1.idx_int
    wp_walk using wpAny_loadPart' hl
    exact ⟨_, rfl, h⟩
def rRepFew (K : PySem.W.Frag) : R2 := fun x y H Q => ∃ l k xs, x = .ref l ∧ y = .int k ∧ SqT K H l xs ∧ xs ≠ [] ∧ ((k = 0 ∧ NewT H [] Q) ∨ (k = 1 ∧ Q (.ref l) H))
theorem op_repFew {X : Cx} : OpR X (binaryOp .Mult) (rRepFew X.K) := fun pins s σ H x y v u Q I rx ry ⟨l, k, xs, ex, ey, hT, hne, q⟩ => by
  subst ex ey
  cases rx
  obtain ⟨t, rfl⟩ := ry
  obtain ⟨its, r, ⟨⟨cls, dd, data, sl⟩, ho, hc, n, hd⟩, hs⟩ := I.tuple hT
  dsimp only at hc hd
  subst hc hd
  have len : its.length = xs.length := r.length.symm
  have pos : 0 < xs.length := List.length_pos_iff.mpr hne
  have emp : its.toArray.isEmpty = false := by
    cases its with
    | nil => rw [← len] at pos; exact absurd pos (by simp)
    | cons _ _ => rfl
  refine wpAny_binaryOp_repeat_ref (T := "tuple") (U := "int") (by decide) ⟨_, ho, rfl⟩ (fun s' => typeIs_int s' k t) noFill_tuple_mul F.fills_int_mul F.slot_int_rmul repeat_tuple F.slot_int_index.lookup ?_
  refine call_meets F.slot_int_rmul (typeIs_int s k t) F.entry_int_rmul (F.args_int_rmul_2 _ _) (int_rmul_tuple k t l its.toArray n dd sl) ⟨ho, rfl, ⟨_, ho, rfl⟩, ?_⟩
  rcases q with ⟨rfl, q⟩ | ⟨rfl, q⟩
  · refine call_meets F.slot_tuple_mul ⟨_, ho, rfl⟩ F.entry_tuple_mul (F.args_tuple_mul_2 _ _) (tuple_mul_none l its.toArray n dd sl 0 t (by decide) (by rw [emp]; rfl) rfl) ⟨ho, ?_⟩
    exact newT (its := []) (t' := s.toks) I .nil (Nat.zero_le _) q
  · refine call_meets F.slot_tuple_mul ⟨_, ho, rfl⟩ F.entry_tuple_mul (F.args_tuple_mul_2 _ _) (tuple_mul_one l its.toArray n dd sl t) ⟨ho, ?_⟩
    exact ⟨.ref l, H, I, rfl, q⟩
section
variable {G : Ct} {δ : DEnv} {a b : Expr} {pos : Pos} {ds : List PyData}
/-- xs * k, k = 0, 1, 2 .. -/
theorem dv_rept0 {k : Int} (ha : DV G δ a (.tuple ds)) (hb : DV G δ b (.int k)) (hne : ds ≠ []) (h1 : 0 ≤ k) (h2 : k ≤ 1000) (hz : ds.length ≤ 1000) : DV G δ (.BinOp a .Mult b pos) (.tuple (List.replicate k.toNat ds).flatten) := by
  by_cases c : 2 ≤ k
  · exact dv_rept ha hb hne c h2 hz
  · refine dv_op (r := rRepFew G.m.K) (fun X hX => hX.K ▸ op_repFew) ha hb fun S H v w Q ok r1 r2 q => ?_
    cases r2
    cases r1 with
    | tup e1 k1 z1 a1 =>
      have hl := a1.len
      refine ⟨_, k, _, rfl, rfl, SqT.frz (hide_some e1).2, fun e => hne ?_, ?_⟩
      · rw [e] at hl
        exact List.eq_nil_of_length_eq_zero hl.symm
      · by_cases c0 : k = 0
        · subst c0
          exact .inl ⟨rfl, Rp.newT ok (Nat.zero_le _) .nil (Same.refl H) q⟩
        · have c1 : k = 1 := by omega
          subst c1
          refine .inr ⟨rfl, q _ H (Same.refl H) ?_⟩
          have e : (List.replicate (1 : Int).toNat ds).flatten = ds := by simp
          rw [e]
          exact .tup e1 k1 z1 a1
end
section
variable {G : Ct} {δ : DEnv} {k1 k2 v1 v2 i : Expr} {dp pos : Pos}
theorem dv_dict2i {a1 a2 x : PySem.Str} {b1 b2 r : Int} (hk1 : DV G δ k1 (.str a1)) (hv1 : DV G δ v1 (.int b1)) (hk2 : DV G δ k2 (.str a2)) (hv2 : DV G δ v2 (.int b2)) (hi : DV G δ i (.str x))
    (h : valV (mergeK [] [((.inr a1 : Key), V.int b1), (.inr a2, .int b2)]) (.inr x : Key) = some (.int r)) (hs : NoSl i := by intro _ _; rfl) :
    DV G δ (.Subscript (.Dict [some k1, some k2] [v1, v2] dp) i pos) (.int r) := fun X hX => by
  refine PE.imp (pe_dget (by have := room65 hX; omega) (pe_disp (pps_cons (hk1 X hX) (hv1 X hX) (pps_cons (hk2 X hX) (hv2 X hX) pps_nil)) rfl rfl (by simp) (by simp)) (hi X hX) hs) fun σ H Q ⟨S, δ', d', ⟨e1, e2⟩, ok, R, q⟩ => ?_
  subst e1 e2
  intro p hp
  have s0 := same_upd hp (.dK [])
  refine ⟨S, _, _, ⟨rfl, rfl⟩, ok.mono s0, R.mono s0, fun u1 H1 s1 r1 => ?_⟩
  cases r1
  refine ⟨S, _, _, ⟨rfl, rfl⟩, ok.mono (s0.trans s1), R.mono (s0.trans s1), fun u2 H2 s2 r2 => ?_⟩
  cases r2
  have t2 := (s0.trans s1).trans s2
  refine ⟨S, _, _, ⟨rfl, rfl⟩, ok.mono t2, R.mono t2, fun u3 H3 s3 r3 => ?_⟩
  cases r3
  have t3 := t2.trans s3
  refine ⟨S, _, _, ⟨rfl, rfl⟩, ok.mono t3, R.mono t3, fun u4 H4 s4 r4 => ?_⟩
  cases r4
  have t4 := t3.trans s4
  have sp : Same (upd H p (.dK [])) H4 := ((s1.trans s2).trans s3).trans s4
  refine ⟨sp _ _ upd_same, [(.inr a1, .int b1), (.inr a2, .int b2)], rfl, by simp, ?_⟩
  have sf : Same H (upd H4 p (.dK (mergeK [] [((.inr a1 : Key), V.int b1), (.inr a2, .int b2)]))) := fun b o e => by
    by_cases hb : b = p
    · subst hb; rw [hp] at e; cases e
    · rw [upd_ne hb]; exact t4 _ _ e
  refine ⟨S, _, _, ⟨rfl, rfl⟩, ok.mono sf, R.mono sf, fun u5 H5 s5 r5 => ?_⟩
  cases r5
  refine ⟨p, .int r, rfl, ?_, q _ _ (sf.trans s5) (.int _)⟩
  rw [← h]
  exact DGet.k (k := .inr x) (s5 _ _ upd_same)
end
theorem cut_map {α β : Type} (f : α → β) (xs : List α) (lo hi : Option Int) : cutD (xs.map f) lo hi = (cutD xs lo hi).map f := by
  unfold cutD
  rw [List.map_take, List.map_drop, List.length_map]
theorem eqv_ints (xs ys : List Int) : PyData.eqv (.list (xs.map .int)) (.list (ys.map .int)) = decide (xs = ys) := by
  show PyData.eqvAll _ _ = _
  exact eqvAll_map PyData.int eqv_int xs ys
theorem eqv_intsT (xs ys : List Int) : PyData.eqv (.tuple (xs.map .int)) (.tuple (ys.map .int)) = decide (xs = ys) := eqv_tups PyData.int eqv_int xs ys
theorem sh_ints (xs : List Int) : SeqAt.shaped (.list (xs.map .int)) = true := (nc_lst (nc_ints _)).sh
theorem sh_intsT (xs : List Int) : SeqAt.shaped (.tuple (xs.map .int)) = true := (nc_tup (nc_ints _)).sh
end DL

set_option Elab.async false
set_option linter.all false
set_option maxRecDepth 100000
set_option maxHeartbeats 4000000
namespace DL
open PySem PySem.Spec L2
set_option autoImplicit false
def topS (i : Nat) : Stmt := PySem.Challenge.pw_pageties_k08_whole_runs.main.body.getD i (.Pass ⟨0, 0, 0, 0⟩)
/-! ### spots, how, do_clash -/
theorem f_spots {m : Md} {f : Addr} {fd : FuncData} (B : Blt m) (F : Fun m.K "spots" "spots" (topS 5) f fd) (hb : Binds m.K fd ["web", "row", "tie"] []) (hm : m.mg "spots" = some (.ref f)) : Fn m "spots" 1 rSpots :=
  fn_ok (N := ["web", "row", "tie", "one", "other"]) F hb hm ⟨rfl, rfl, rfl, by decide +kernel, rfl, by decide +kernel, by decide +kernel⟩ (by decide +kernel) (fun ds d ⟨_, _, _, _, _, h, _⟩ => by rw [h]; rfl) fun ds d ⟨mm, ties, r, i, t, h, ht, h1, h2, hd⟩ => by
    subst h hd
    refine (dss_cons (ds_two 3 4 (dg_two 3 4 rfl (by first | decide +kernel | (dsimp only [Ct.blk, locB]; decide +kernel)) rfl (by first | decide +kernel | (dsimp only [Ct.blk, locB]; decide +kernel))) (dv_ixt (dv_ixt (dv_n 0 rfl (by first | decide +kernel | (dsimp only [Ct.blk, locB]; decide +kernel)) rfl) dv_int rfl) (dv_n 2 rfl (by first | decide +kernel | (dsimp only [Ct.blk, locB]; decide +kernel)) rfl) (d := pairD t) ?ix1) rfl) (dss_end (ds_ret (DV.conv (dv_tuple B (by first | decide +kernel | (dsimp only [Ct.blk, locB]; decide +kernel)) (dn_dv (dn_sorted (ns := [(ix r t.1 : Int), (ix r t.2 : Int)]) (ms := [(spotsM r t).1, (spotsM r t).2]) B (by first | decide +kernel | (dsimp only [Ct.blk, locB]; decide +kernel)) (dn_dv (dn_lst (da_cons (dv_tix (dv_n 1 rfl (by first | decide +kernel | (dsimp only [Ct.blk, locB]; decide +kernel)) rfl) (dv_n 3 rfl (by first | decide +kernel | (dsimp only [Ct.blk, locB]; decide +kernel)) rfl) (ix_get h1) (fun _ => ix_no)) (da_cons (dv_tix (dv_n 1 rfl (by first | decide +kernel | (dsimp only [Ct.blk, locB]; decide +kernel)) rfl) (dv_n 4 rfl (by first | decide +kernel | (dsimp only [Ct.blk, locB]; decide +kernel)) rfl) (ix_get h2) (fun _ => ix_no)) da_nil)) (by simp))) ?p ?s)) (.lst _)) rfl))))
    case ix1 => exact L2.atI_nat (by rw [List.getElem?_map, ht]; rfl)
    case p =>
      unfold spotsM
      split
      · exact List.Perm.refl _
      · exact List.Perm.swap _ _ _
    case s =>
      unfold spotsM
      split <;> simp <;> omega
theorem f_how {m : Md} {f : Addr} {fd : FuncData} (B : Blt m) (F_spots : Fn m "spots" 1 rSpots) (F : Fun m.K "how" "how" (topS 6) f fd) (hb : Binds m.K fd ["web", "row", "one", "other"] []) (hm : m.mg "how" = some (.ref f)) : Fn m "how" 2 rHow :=
  fn_ok (N := ["web", "row", "one", "other", "a", "b", "c", "d"]) F hb hm ⟨rfl, rfl, rfl, by decide +kernel, rfl, by decide +kernel, by decide +kernel⟩ (by decide +kernel) (fun ds d ⟨_, _, _, _, _, _, _, h, _⟩ => by rw [h]; rfl) fun ds d ⟨mm, ties, r, i, j, t, u, h, ht, hu, h1, h2, hd⟩ => by
    subst h hd
    have e1 : rSpots [webD mm ties, rowD r, natD i] (pairD (spotsM r t)) := ⟨mm, ties, r, i, t, rfl, ht, h1.1, h1.2, rfl⟩
    have e2 : rSpots [webD mm ties, rowD r, natD j] (pairD (spotsM r u)) := ⟨mm, ties, r, j, u, rfl, hu, h2.1, h2.2, rfl⟩
    unfold Lr
    generalize spotsM r t = s at e1 ⊢
    generalize spotsM r u = v at e2 ⊢
    have sh1 : ∀ x : Int, SeqAt.shaped (.int x) = true := fun x => (nc_int x).sh
    have sh2 : SeqAt.shaped (.tuple [.int v.1, .int v.2]) = true := (nc_pair v).sh
    refine (dss_cons (ds_two 4 5 (dg_two 4 5 rfl (by first | decide +kernel | (dsimp only [Ct.blk, locB]; decide +kernel)) rfl (by first | decide +kernel | (dsimp only [Ct.blk, locB]; decide +kernel))) (dv_call F_spots (by dsimp only [Ct.blk]; omega) (by first | decide +kernel | (dsimp only [Ct.blk, locB]; decide +kernel)) (da_cons (dv_n 0 rfl (by first | decide +kernel | (dsimp only [Ct.blk, locB]; decide +kernel)) rfl) (da_cons (dv_n 1 rfl (by first | decide +kernel | (dsimp only [Ct.blk, locB]; decide +kernel)) rfl) (da_cons (dv_n 2 rfl (by first | decide +kernel | (dsimp only [Ct.blk, locB]; decide +kernel)) rfl) da_nil))) e1) rfl) (dss_cons (ds_two 6 7 (dg_two 6 7 rfl (by first | decide +kernel | (dsimp only [Ct.blk, locB]; decide +kernel)) rfl (by first | decide +kernel | (dsimp only [Ct.blk, locB]; decide +kernel))) (dv_call F_spots (by dsimp only [Ct.blk]; omega) (by first | decide +kernel | (dsimp only [Ct.blk, locB]; decide +kernel)) (da_cons (dv_n 0 rfl (by first | decide +kernel | (dsimp only [Ct.blk, locB]; decide +kernel)) rfl) (da_cons (dv_n 1 rfl (by first | decide +kernel | (dsimp only [Ct.blk, locB]; decide +kernel)) rfl) (da_cons (dv_n 3 rfl (by first | decide +kernel | (dsimp only [Ct.blk, locB]; decide +kernel)) rfl) da_nil))) e2) rfl) (dss_if (dt_w (dw_or (dt_c (dc_in (dv_n 4 rfl (by first | decide +kernel | (dsimp only [Ct.blk, locB]; decide +kernel)) rfl) (dv_tup (da_cons (dv_n 6 rfl (by first | decide +kernel | (dsimp only [Ct.blk, locB]; decide +kernel)) rfl) (da_cons (dv_n 7 rfl (by first | decide +kernel | (dsimp only [Ct.blk, locB]; decide +kernel)) rfl) da_nil)) (by simp)) (.tup _) (sh1 _) sh2)) (fun _ => (dw_or1 (dt_c (dc_in (dv_n 5 rfl (by first | decide +kernel | (dsimp only [Ct.blk, locB]; decide +kernel)) rfl) (dv_tup (da_cons (dv_n 6 rfl (by first | decide +kernel | (dsimp only [Ct.blk, locB]; decide +kernel)) rfl) (da_cons (dv_n 7 rfl (by first | decide +kernel | (dsimp only [Ct.blk, locB]; decide +kernel)) rfl) da_nil)) (by simp)) (.tup _) (sh1 _) sh2)))))) (fun hb => ⟨_, ?a, (dss_end (ds_ret dv_str))⟩) (fun hb => (dss_if (dt_w (dw_or (dt_ch3 .lt .lt .lt (dv_n 4 rfl (by first | decide +kernel | (dsimp only [Ct.blk, locB]; decide +kernel)) rfl) (dv_n 6 rfl (by first | decide +kernel | (dsimp only [Ct.blk, locB]; decide +kernel)) rfl) (dv_n 5 rfl (by first | decide +kernel | (dsimp only [Ct.blk, locB]; decide +kernel)) rfl) (dv_n 7 rfl (by first | decide +kernel | (dsimp only [Ct.blk, locB]; decide +kernel)) rfl)) (fun _ => (dw_or1 (dt_ch3 .lt .lt .lt (dv_n 6 rfl (by first | decide +kernel | (dsimp only [Ct.blk, locB]; decide +kernel)) rfl) (dv_n 4 rfl (by first | decide +kernel | (dsimp only [Ct.blk, locB]; decide +kernel)) rfl) (dv_n 7 rfl (by first | decide +kernel | (dsimp only [Ct.blk, locB]; decide +kernel)) rfl) (dv_n 5 rfl (by first | decide +kernel | (dsimp only [Ct.blk, locB]; decide +kernel)) rfl)))))) (fun hb2 => ⟨_, ?b, (dss_end (ds_ret dv_str))⟩) (fun hb2 => (dss_if (dt_w (dw_or (dt_ch3 .lt .lt .lt (dv_n 4 rfl (by first | decide +kernel | (dsimp only [Ct.blk, locB]; decide +kernel)) rfl) (dv_n 6 rfl (by first | decide +kernel | (dsimp only [Ct.blk, locB]; decide +kernel)) rfl) (dv_n 7 rfl (by first | decide +kernel | (dsimp only [Ct.blk, locB]; decide +kernel)) rfl) (dv_n 5 rfl (by first | decide +kernel | (dsimp only [Ct.blk, locB]; decide +kernel)) rfl)) (fun _ => (dw_or1 (dt_ch3 .lt .lt .lt (dv_n 6 rfl (by first | decide +kernel | (dsimp only [Ct.blk, locB]; decide +kernel)) rfl) (dv_n 4 rfl (by first | decide +kernel | (dsimp only [Ct.blk, locB]; decide +kernel)) rfl) (dv_n 5 rfl (by first | decide +kernel | (dsimp only [Ct.blk, locB]; decide +kernel)) rfl) (dv_n 7 rfl (by first | decide +kernel | (dsimp only [Ct.blk, locB]; decide +kernel)) rfl)))))) (fun hb3 => ⟨_, ?c, (dss_end (ds_ret dv_str))⟩) (fun hb3 => (dss_end (ds_ret (DV.conv dv_str ?d)))))))))))
    case a =>
      have : howM s v = .meet := if_pos (by simp [eqv_int] at hb; omega)
      rw [this]; rfl
    all_goals
      have g1 : ¬((s.1 = v.1 ∨ s.1 = v.2) ∨ (s.2 = v.1 ∨ s.2 = v.2)) := by simp [eqv_int] at hb; omega
    case b =>
      have : howM s v = .cross := (if_neg g1).trans (if_pos (by simpa using hb2))
      rw [this]; rfl
    all_goals
      have g2 : ¬((s.1 < v.1 ∧ v.1 < s.2 ∧ s.2 < v.2) ∨ (v.1 < s.1 ∧ s.1 < v.2 ∧ v.2 < s.2)) := by simpa using hb2
    case c =>
      have : howM s v = .within := (if_neg g1).trans ((if_neg g2).trans (if_pos (by simpa using hb3)))
      rw [this]; rfl
    case d =>
      have : howM s v = .apart := (if_neg g1).trans ((if_neg g2).trans (if_neg (by simpa using hb3)))
      rw [this]; rfl
theorem f_do {m : Md} {f : Addr} {fd : FuncData} (B : Blt m) (F_how : Fn m "how" 2 rHow) (F : Fun m.K "do_clash" "do_clash" (topS 7) f fd) (hb : Binds m.K fd ["web", "row", "kind", "one", "other"] []) (hm : m.mg "do_clash" = some (.ref f)) : Fn m "do_clash" 3 rDo :=
  fn_ok (N := ["web", "row", "kind", "one", "other"]) F hb hm ⟨rfl, rfl, rfl, by decide +kernel, rfl, by decide +kernel, by decide +kernel⟩ (by decide +kernel) (fun ds d ⟨_, _, _, _, _, _, _, _, h, _⟩ => by rw [h]; rfl) fun ds d ⟨mm, ties, r, k, i, j, t, u, h, ht, hu, h1, h2, hd⟩ => by
    subst h hd
    refine (dss_end (ds_ret (DV.conv (dv_c (dc_eq (dv_call F_how (by dsimp only [Ct.blk]; omega) (by first | decide +kernel | (dsimp only [Ct.blk, locB]; decide +kernel)) (da_cons (dv_n 0 rfl (by first | decide +kernel | (dsimp only [Ct.blk, locB]; decide +kernel)) rfl) (da_cons (dv_n 1 rfl (by first | decide +kernel | (dsimp only [Ct.blk, locB]; decide +kernel)) rfl) (da_cons (dv_n 3 rfl (by first | decide +kernel | (dsimp only [Ct.blk, locB]; decide +kernel)) rfl) (da_cons (dv_n 4 rfl (by first | decide +kernel | (dsimp only [Ct.blk, locB]; decide +kernel)) rfl) da_nil)))) ⟨mm, ties, r, i, j, t, u, rfl, ht, hu, h1, h2, rfl⟩) (dv_dict2 (r := k.bad.t) dv_str dv_str dv_str dv_str (dv_n 2 rfl (by first | decide +kernel | (dsimp only [Ct.blk, locB]; decide +kernel)) rfl) (by cases k <;> rfl)) (lie_sh _) (lie_sh _))) ?ret4)))
    rw [lie_eqv]
    rfl
theorem f_ending {m : Md} {f : Addr} {fd : FuncData} (B : Blt m) (F_spots : Fn m "spots" 1 rSpots) (F : Fun m.K "ending" "ending" (topS 9) f fd) (hb : Binds m.K fd ["web", "row", "some", "at"] []) (hm : m.mg "ending" = some (.ref f)) : Fn m "ending" 2 rEnding :=
  fn_ok (N := ["web", "row", "some", "at", "tie"]) F hb hm ⟨rfl, rfl, rfl, by decide +kernel, rfl, by decide +kernel, by decide +kernel⟩ (by decide +kernel) (fun ds d ⟨_, _, _, _, _, h, _⟩ => by rw [h]; rfl) fun ds d ⟨mm, ties, r, so, a, h, wr, ok, h60, hd⟩ => by
    subst h hd
    have hl := ok.len
    refine (dss_end (ds_ret (dn_dv (dn_lc1 4 [("tie", 4)] (by first | decide +kernel | (dsimp only [Ct.blk, locB]; decide +kernel)) (di_seq (dv_n 2 rfl (by first | decide +kernel | (dsimp only [Ct.blk, locB]; decide +kernel)) rfl) (.tup _)) (dg_one 4 rfl (by first | decide +kernel | (dsimp only [Ct.blk, locB]; decide +kernel))) (turns_filtT PyData.int PyData.int (fun x => decide (eI ties r x = a)) so (fun x hx => ⟨_, rfl, ?c, fun hk => (dv_n 4 rfl (by first | decide +kernel | (dsimp only [Ct.blk, locB]; decide +kernel)) rfl)⟩)) ?sz))))
    case sz => rw [List.length_map]; omega
    case c =>
      have g := ok.rng x hx
      obtain ⟨h1, h2, h3⟩ := tI_mem wr g
      exact DT.conv (dt_c (dc_eq (dv_ixt (dv_call F_spots (by dsimp only [Ct.blk]; omega) (by first | decide +kernel | (dsimp only [Ct.blk, locB]; decide +kernel)) (da_cons (dv_n 0 rfl (by first | decide +kernel | (dsimp only [Ct.blk, locB]; decide +kernel)) rfl) (da_cons (dv_n 1 rfl (by first | decide +kernel | (dsimp only [Ct.blk, locB]; decide +kernel)) rfl) (da_cons (DV.conv (d' := natD x.toNat) (dv_n 4 rfl (by first | decide +kernel | (dsimp only [Ct.blk, locB]; decide +kernel)) rfl) (nat_of g.1)) da_nil))) ⟨mm, ties, r, x.toNat, tI ties x, rfl, tI_at g, h1, h2, rfl⟩) dv_int (d := .int (eI ties r x)) rfl) (dv_n 3 rfl (by first | decide +kernel | (dsimp only [Ct.blk, locB]; decide +kernel)) rfl) (nc_int _).sh (nc_int _).sh)) (eqv_int _ _)
theorem f_beginning {m : Md} {f : Addr} {fd : FuncData} (B : Blt m) (F_spots : Fn m "spots" 1 rSpots) (F : Fun m.K "beginning" "beginning" (topS 10) f fd) (hb : Binds m.K fd ["web", "row", "some", "at"] []) (hm : m.mg "beginning" = some (.ref f)) : Fn m "beginning" 2 rBegin :=
  fn_ok (N := ["web", "row", "some", "at", "tie"]) F hb hm ⟨rfl, rfl, rfl, by decide +kernel, rfl, by decide +kernel, by decide +kernel⟩ (by decide +kernel) (fun ds d ⟨_, _, _, _, _, h, _⟩ => by rw [h]; rfl) fun ds d ⟨mm, ties, r, so, a, h, wr, ok, h60, hd⟩ => by
    subst h hd
    have hl := ok.len
    refine (dss_end (ds_ret (dn_dv (dn_lc1 4 [("tie", 4)] (by first | decide +kernel | (dsimp only [Ct.blk, locB]; decide +kernel)) (di_seq (dv_n 2 rfl (by first | decide +kernel | (dsimp only [Ct.blk, locB]; decide +kernel)) rfl) (.tup _)) (dg_one 4 rfl (by first | decide +kernel | (dsimp only [Ct.blk, locB]; decide +kernel))) (turns_filtT PyData.int PyData.int (fun x => decide (bI ties r x = a)) so (fun x hx => ⟨_, rfl, ?c, fun hk => (dv_n 4 rfl (by first | decide +kernel | (dsimp only [Ct.blk, locB]; decide +kernel)) rfl)⟩)) ?sz))))
    case sz => rw [List.length_map]; omega
    case c =>
      have g := ok.rng x hx
      obtain ⟨h1, h2, h3⟩ := tI_mem wr g
      exact DT.conv (dt_c (dc_eq (dv_ixt (dv_call F_spots (by dsimp only [Ct.blk]; omega) (by first | decide +kernel | (dsimp only [Ct.blk, locB]; decide +kernel)) (da_cons (dv_n 0 rfl (by first | decide +kernel | (dsimp only [Ct.blk, locB]; decide +kernel)) rfl) (da_cons (dv_n 1 rfl (by first | decide +kernel | (dsimp only [Ct.blk, locB]; decide +kernel)) rfl) (da_cons (DV.conv (d' := natD x.toNat) (dv_n 4 rfl (by first | decide +kernel | (dsimp only [Ct.blk, locB]; decide +kernel)) rfl) (nat_of g.1)) da_nil))) ⟨mm, ties, r, x.toNat, tI ties x, rfl, tI_at g, h1, h2, rfl⟩) dv_int (d := .int (bI ties r x)) rfl) (dv_n 3 rfl (by first | decide +kernel | (dsimp only [Ct.blk, locB]; decide +kernel)) rfl) (nc_int _).sh (nc_int _).sh)) (eqv_int _ _)
theorem f_same {m : Md} {f : Addr} {fd : FuncData} (B : Blt m) (F : Fun m.K "are_same" "are_same" (topS 12) f fd) (hb : Binds m.K fd ["one", "other"] []) (hm : m.mg "are_same" = some (.ref f)) : Fn m "are_same" 1 rSame :=
  fn_ok (N := ["one", "other"]) F hb hm ⟨rfl, rfl, rfl, by decide +kernel, rfl, by decide +kernel, by decide +kernel⟩ (by decide +kernel) (fun ds d ⟨_, _, h, _⟩ => by rw [h]; rfl) fun ds d ⟨xs, ys, h, hd⟩ => by
    subst h hd
    refine (dss_end (ds_ret (DV.conv (dv_c (dc_eq (dn_dv (dn_sortedT (ns := xs) (ms := sortI xs) B (by first | decide +kernel | (dsimp only [Ct.blk, locB]; decide +kernel)) (dv_n 0 rfl (by first | decide +kernel | (dsimp only [Ct.blk, locB]; decide +kernel)) rfl) (sortI_perm _) (sortI_pw _))) (dn_dv (dn_sorted (ns := ys) (ms := sortI ys) B (by first | decide +kernel | (dsimp only [Ct.blk, locB]; decide +kernel)) (dv_n 1 rfl (by first | decide +kernel | (dsimp only [Ct.blk, locB]; decide +kernel)) rfl) (sortI_perm _) (sortI_pw _))) (sh_ints _) (sh_ints _))) ?ret)))
    rw [eqv_ints]
    rfl
theorem f_step {m : Md} {f : Addr} {fd : FuncData} (B : Blt m) (F_same : Fn m "are_same" 1 rSame) (F : Fun m.K "is_step" "is_step" (topS 13) f fd) (hb : Binds m.K fd ["kind", "before", "after", "ends", "begins"] []) (hm : m.mg "is_step" = some (.ref f)) : Fn m "is_step" 2 rStep :=
  fn_ok (N := ["kind", "before", "after", "ends", "begins", "many", "gone", "rest"]) F hb hm ⟨rfl, rfl, rfl, by decide +kernel, rfl, by decide +kernel, by decide +kernel⟩ (by decide +kernel) (fun ds d ⟨_, _, _, _, _, h, _⟩ => by rw [h]; rfl) fun ds d ⟨k, bf, af, en, bg, h, hd⟩ => by
    subst h hd
    have hlen : (en.map PyData.int).length = en.length := List.length_map _
    have hblen : (bf.map PyData.int).length = bf.length := List.length_map _
    refine (dss_cons (ds_set 5 rfl (by first | decide +kernel | (dsimp only [Ct.blk, locB]; decide +kernel)) (DV.conv (d' := natD en.length) (dv_lent B (by first | decide +kernel | (dsimp only [Ct.blk, locB]; decide +kernel)) (dv_n 3 rfl (by first | decide +kernel | (dsimp only [Ct.blk, locB]; decide +kernel)) rfl) (.lst _)) (by rw [hlen]))) (dss_cons (ds_if (k := decide (k = .pile)) (out := .next [some (.str k.t), some (tupD bf), some (tupD af), some (.list (en.map .int)), some (.list (bg.map .int)), some (natD en.length), some (tupD (goneK k bf en.length)), some (tupD (restK k bf en.length))] []) ?test ?thn ?els) (dss_end (ds_ret (DV.conv (d := .bool (sameB (goneK k bf en.length) en && (decide (cutD af none (some ((restK k bf en.length).length : Int)) = restK k bf en.length) && sameB (cutD af (some ((restK k bf en.length).length : Int)) none) bg))) ?ret rfl)))))
    case test => exact DT.conv (dt_c (dc_eq (dv_n 0 rfl (by first | decide +kernel | (dsimp only [Ct.blk, locB]; decide +kernel)) rfl) dv_str (kd_sh k) (by decide +kernel))) (by cases k <;> decide +kernel)
    case thn =>
      intro hk
      obtain rfl := of_decide_eq_true hk
      exact (DSs.conv (dss_cons (ds_set 6 rfl (by first | decide +kernel | (dsimp only [Ct.blk, locB]; decide +kernel)) (dv_slt (dv_n 1 rfl (by first | decide +kernel | (dsimp only [Ct.blk, locB]; decide +kernel)) rfl) (do_some (dv_sub (DV.conv (d' := natD bf.length) (dv_lent B (by first | decide +kernel | (dsimp only [Ct.blk, locB]; decide +kernel)) (dv_n 1 rfl (by first | decide +kernel | (dsimp only [Ct.blk, locB]; decide +kernel)) rfl) (.tup _)) (by rw [hblen])) (dv_n 5 rfl (by first | decide +kernel | (dsimp only [Ct.blk, locB]; decide +kernel)) rfl))) do_none)) (dss_cons (ds_set 7 rfl (by first | decide +kernel | (dsimp only [Ct.blk, locB]; decide +kernel)) (dv_slt (dv_n 1 rfl (by first | decide +kernel | (dsimp only [Ct.blk, locB]; decide +kernel)) rfl) do_none (do_some (dv_sub (DV.conv (d' := natD bf.length) (dv_lent B (by first | decide +kernel | (dsimp only [Ct.blk, locB]; decide +kernel)) (dv_n 1 rfl (by first | decide +kernel | (dsimp only [Ct.blk, locB]; decide +kernel)) rfl) (.tup _)) (by rw [hblen])) (dv_n 5 rfl (by first | decide +kernel | (dsimp only [Ct.blk, locB]; decide +kernel)) rfl))))) dss_nil)) (by rw [cut_map, cut_map]; rfl))
    case els =>
      intro hk
      cases k with
      | pile => cases hk
      | queue => exact (DSs.conv (dss_cons (ds_set 6 rfl (by first | decide +kernel | (dsimp only [Ct.blk, locB]; decide +kernel)) (dv_slt (dv_n 1 rfl (by first | decide +kernel | (dsimp only [Ct.blk, locB]; decide +kernel)) rfl) do_none (do_some (dv_n 5 rfl (by first | decide +kernel | (dsimp only [Ct.blk, locB]; decide +kernel)) rfl)))) (dss_cons (ds_set 7 rfl (by first | decide +kernel | (dsimp only [Ct.blk, locB]; decide +kernel)) (dv_slt (dv_n 1 rfl (by first | decide +kernel | (dsimp only [Ct.blk, locB]; decide +kernel)) rfl) (do_some (dv_n 5 rfl (by first | decide +kernel | (dsimp only [Ct.blk, locB]; decide +kernel)) rfl)) do_none)) dss_nil)) (by rw [cut_map, cut_map]; rfl))
    case ret =>
      generalize restK k bf en.length = rest
      have hr : (rest.map PyData.int).length = rest.length := List.length_map _
      exact (dv_and (k := sameB (goneK k bf en.length) en) (j := decide (cutD af none (some (rest.length : Int)) = rest) && sameB (cutD af (some (rest.length : Int)) none) bg) (dv_call F_same (by dsimp only [Ct.blk]; omega) (by first | decide +kernel | (dsimp only [Ct.blk, locB]; decide +kernel)) (da_cons (dv_n 6 rfl (by first | decide +kernel | (dsimp only [Ct.blk, locB]; decide +kernel)) rfl) (da_cons (dv_n 3 rfl (by first | decide +kernel | (dsimp only [Ct.blk, locB]; decide +kernel)) rfl) da_nil)) ⟨_, _, rfl, rfl⟩) (fun _ => (dv_and (k := decide (cutD af none (some (rest.length : Int)) = rest)) (DV.conv (dv_c (dc_eq (DV.conv (d' := tupD (cutD af none (some (rest.length : Int)))) (dv_slt (dv_n 2 rfl (by first | decide +kernel | (dsimp only [Ct.blk, locB]; decide +kernel)) rfl) do_none (do_some (DV.conv (d' := natD rest.length) (dv_lent B (by first | decide +kernel | (dsimp only [Ct.blk, locB]; decide +kernel)) (dv_n 7 rfl (by first | decide +kernel | (dsimp only [Ct.blk, locB]; decide +kernel)) rfl) (.tup _)) (by rw [hr])))) (by rw [cut_map]; rfl)) (dv_n 7 rfl (by first | decide +kernel | (dsimp only [Ct.blk, locB]; decide +kernel)) rfl) (sh_intsT _) (sh_intsT _))) (congrArg PyData.bool (eqv_intsT _ _))) (fun _ => (dv_bop1 (dv_call F_same (by dsimp only [Ct.blk]; omega) (by first | decide +kernel | (dsimp only [Ct.blk, locB]; decide +kernel)) (da_cons (DV.conv (d' := tupD (cutD af (some (rest.length : Int)) none)) (dv_slt (dv_n 2 rfl (by first | decide +kernel | (dsimp only [Ct.blk, locB]; decide +kernel)) rfl) (do_some (DV.conv (d' := natD rest.length) (dv_lent B (by first | decide +kernel | (dsimp only [Ct.blk, locB]; decide +kernel)) (dv_n 7 rfl (by first | decide +kernel | (dsimp only [Ct.blk, locB]; decide +kernel)) rfl) (.tup _)) (by rw [hr]))) do_none) (by rw [cut_map]; rfl)) (da_cons (dv_n 4 rfl (by first | decide +kernel | (dsimp only [Ct.blk, locB]; decide +kernel)) rfl) da_nil)) ⟨_, _, rfl, rfl⟩))))))
theorem dss_go {β : Type} {G : Ct} {δ : DEnv} {st : Stmt} {rest : List Stmt} {out : Out} {o : Option β} {sd : β → DEnv} (h : DS G δ [] st (outGo sd o)) (h1 : ∀ b, o = some b → DSs G (sd b) [] rest out) (h2 : o = none → out = .ret (.bool false)) : DSs G δ [] (st :: rest) out := by
  cases o with
  | some b => exact dss_cons h (h1 b rfl)
  | none =>
    rw [h2 rfl]
    exact dss_end h
theorem isint_map (l : List PyData) : (l.map fun z => PyData.bool (isIntB z)) = (l.map isIntB).map PyData.bool := by simp [Function.comp_def]
theorem all_isint (l : List PyData) : (l.map isIntB).all id = l.all isIntB := by simp [Function.comp_def]
theorem isint_b (z : PyData) : (isD z "int" && !isD z "bool") = isIntB z := by cases z <;> simp [isD, tyName, isIntB]
theorem not_tup {y : PyData} (c : ¬ ∃ l, y = .tuple l) : isD y "tuple" = false ∧ tupI y = none := by
  cases y with
  | tuple l => exact absurd ⟨l, rfl⟩ c
  | _ => exact ⟨by simp [isD, tyName], rfl⟩
theorem int_all {l : List PyData} (h : l.all isIntB = true) : ∃ af : List Int, l = af.map .int := ⟨l.map toInt, by
  rw [List.map_map]
  refine map_self fun x hx => ?_
  have := List.all_eq_true.mp h x hx
  cases x <;> first | rfl | (cases this)⟩
theorem int_not {l : List PyData} (h : l.all isIntB = false) : tupI (.tuple l) = none := by
  show (if l.all isIntB = true then _ else none) = none
  rw [h]
  rfl
theorem zip_mem {l : List PyData} {q : PyData × Nat} (h : q ∈ l.zipIdx 0) : q.1 ∈ l := List.fst_mem_of_mem_zipIdx h
theorem f_isrun {m : Md} {f : Addr} {fd : FuncData} (B : Blt m) (F_ending : Fn m "ending" 2 rEnding) (F_beginning : Fn m "beginning" 2 rBegin) (F_step : Fn m "is_step" 2 rStep) (F : Fun m.K "is_run" "is_run" (topS 14) f fd) (hb : Binds m.K fd ["web", "row", "kind", "some", "thing"] []) (hm : m.mg "is_run" = some (.ref f)) : Fn m "is_run" 3 rIsRun :=
  fn_ok (N := ["web", "row", "kind", "some", "thing", "before", "at", "after", "tie"]) F hb hm ⟨rfl, rfl, rfl, by decide +kernel, rfl, by decide +kernel, by decide +kernel⟩ (by decide +kernel) (fun ds d ⟨_, _, _, _, _, _, h, _⟩ => by rw [h]; rfl) fun ds d ⟨mm, ties, r, so, k, x, h, wr, ok, h60, hm60, hx, hd⟩ => by
    subst h hd
    have hrl : (r.map PyData.int).length = mm := by rw [List.length_map, wrow_len wr]
    by_cases c : ∃ l, x = .tuple l
    · obtain ⟨l, rfl⟩ := c
      obtain ⟨hl1, hok⟩ := hx.2 l rfl
      by_cases hl : l.length = mm
      · have hgo : isRunB ties r k so mm (.tuple l) = (goS (stepP (bI ties r) (eI ties r) k so) [] (l.zipIdx 0)).isSome := by
          show (decide (l.length = mm) && goM (bI ties r) (eI ties r) k so ((0 : Nat) : Int) [] l) = _
          rw [decide_eq_true hl, Bool.true_and, goM_eq]
        rw [hgo]
        refine (dss_if (k := false) (DT.conv (dt_w (dw_or (k := false) (j := false) (DT.conv (dt_not (dt_val (dv_isi B (by first | decide +kernel | (dsimp only [Ct.blk, locB]; decide +kernel)) (.tuple B) (by first | decide +kernel | (dsimp only [Ct.blk, locB]; decide +kernel)) (dv_n 4 rfl (by first | decide +kernel | (dsimp only [Ct.blk, locB]; decide +kernel)) rfl) rfl))) rfl) (fun _ => (dw_or1 (DT.conv (dt_c (dc_ne (dv_lent B (by first | decide +kernel | (dsimp only [Ct.blk, locB]; decide +kernel)) (dv_n 4 rfl (by first | decide +kernel | (dsimp only [Ct.blk, locB]; decide +kernel)) rfl) (.tup _)) (dv_lent B (by first | decide +kernel | (dsimp only [Ct.blk, locB]; decide +kernel)) (dv_n 1 rfl (by first | decide +kernel | (dsimp only [Ct.blk, locB]; decide +kernel)) rfl) (.tup _)) (nc_int _).sh (nc_int _).sh)) ?len))))) rfl) (fun hb => by cases hb) (fun hb => (dss_cons (ds_set 5 rfl (by first | decide +kernel | (dsimp only [Ct.blk, locB]; decide +kernel)) (DV.conv (d' := tupD []) (dv_tup da_nil (by simp)) rfl)) (dss_go (sd := fun bf => [some (webD mm ties), some (rowD r), some (.str k.t), some (soD so), some (.tuple l), some (tupD bf), none, none, none]) (ds_for2 6 7 (dg_two 6 7 rfl (by first | decide +kernel | (dsimp only [Ct.blk, locB]; decide +kernel)) rfl (by first | decide +kernel | (dsimp only [Ct.blk, locB]; decide +kernel))) (DI.conv (di_enum B (by first | decide +kernel | (dsimp only [Ct.blk, locB]; decide +kernel)) (dv_n 4 rfl (by first | decide +kernel | (dsimp only [Ct.blk, locB]; decide +kernel)) rfl) (.tup _)) (numbered_zip l)) (dfor_go (fun q => .tuple [natD q.2, q.1]) (fun bf => [some (webD mm ties), some (rowD r), some (.str k.t), some (soD so), some (.tuple l), some (tupD bf), none, none, none]) (stepP (bI ties r) (eI ties r) k so) (fun _ => True) (l.zipIdx 0) [] trivial ?step)) (fun b hb => (dss_end (ds_ret (DV.conv dv_bl ?fin)))) (fun hb => by rw [hb]; rfl)))))
        case len =>
          rw [hrl, hl, (nc_int _).eq_self]
          rfl
        case fin => rw [hb]; rfl
        case step =>
          rintro ⟨y, i⟩ hq bf _
          obtain ⟨hnd, hin⟩ := hok y (zip_mem hq)
          refine ⟨_, rfl, by simp [ofree], ?_⟩
          dsimp only
          by_cases cy : ∃ l2, y = .tuple l2
          · obtain ⟨l2, rfl⟩ := cy
            obtain ⟨hl2, hz⟩ := hin l2 rfl
            cases ha : l2.all isIntB with
            | false =>
              refine .inr ⟨by unfold stepP; dsimp only; rw [int_not ha], ?_⟩
              refine (dss_if (k := false) (DT.conv (dt_not (dt_val (dv_isi B (by first | decide +kernel | (dsimp only [Ct.blk, locB]; decide +kernel)) (.tuple B) (by first | decide +kernel | (dsimp only [Ct.blk, locB]; decide +kernel)) (dv_n 7 rfl (by first | decide +kernel | (dsimp only [Ct.blk, locB]; decide +kernel)) rfl) rfl))) rfl) (fun hb => by cases hb) (fun hb => (dss_if (k := true) (DT.conv (dt_not (dt_val (DV.conv (dv_all B (by first | decide +kernel | (dsimp only [Ct.blk, locB]; decide +kernel)) (dn_dv (DN.conv (dn_lc1 8 [("tie", 8)] (by first | decide +kernel | (dsimp only [Ct.blk, locB]; decide +kernel)) (di_seq (dv_n 7 rfl (by first | decide +kernel | (dsimp only [Ct.blk, locB]; decide +kernel)) rfl) (.tup _)) (dg_one 8 rfl (by first | decide +kernel | (dsimp only [Ct.blk, locB]; decide +kernel))) (turns_map (fun z => .bool (isIntB z)) l2 (fun z hzz => ⟨_, rfl, DV.conv (dv_and (dv_isi B (by first | decide +kernel | (dsimp only [Ct.blk, locB]; decide +kernel)) (.int B) (by first | decide +kernel | (dsimp only [Ct.blk, locB]; decide +kernel)) (dv_n 8 rfl (by first | decide +kernel | (dsimp only [Ct.blk, locB]; decide +kernel)) rfl) (hz z hzz)) (fun _ => dv_bop1 (dv_not (dv_isi B (by first | decide +kernel | (dsimp only [Ct.blk, locB]; decide +kernel)) (.bool B) (by first | decide +kernel | (dsimp only [Ct.blk, locB]; decide +kernel)) (dv_n 8 rfl (by first | decide +kernel | (dsimp only [Ct.blk, locB]; decide +kernel)) rfl) (hz z hzz))))) (congrArg PyData.bool (isint_b z))⟩)) (by omega)) (isint_map l2)))) (congrArg PyData.bool (all_isint l2))))) (by rw [ha]; rfl)) (fun hb => ⟨_, rfl, (dss_end (ds_ret dv_bl))⟩) (fun hb => by cases hb))))
            | true =>
              obtain ⟨af, rfl⟩ := int_all ha
              have ht : tupI (.tuple (af.map PyData.int)) = some af := tupI_D af
              have hsp : stepP (bI ties r) (eI ties r) k so bf (.tuple (af.map PyData.int), i) = if stepB k bf af (endsF (eI ties r) so (i : Int)) (endsF (bI ties r) so (i : Int)) = true then some af else none := by
                unfold stepP
                dsimp only
                rw [ht]
              rw [hsp]
              cases hs : stepB k bf af (endsF (eI ties r) so (i : Int)) (endsF (bI ties r) so (i : Int)) with
              | false =>
                refine .inr ⟨rfl, ?_⟩
                refine (dss_if (k := false) (DT.conv (dt_not (dt_val (dv_isi B (by first | decide +kernel | (dsimp only [Ct.blk, locB]; decide +kernel)) (.tuple B) (by first | decide +kernel | (dsimp only [Ct.blk, locB]; decide +kernel)) (dv_n 7 rfl (by first | decide +kernel | (dsimp only [Ct.blk, locB]; decide +kernel)) rfl) rfl))) rfl) (fun hb => by cases hb) (fun hb => (dss_if (k := false) (DT.conv (dt_not (dt_val (DV.conv (dv_all B (by first | decide +kernel | (dsimp only [Ct.blk, locB]; decide +kernel)) (dn_dv (DN.conv (dn_lc1 8 [("tie", 8)] (by first | decide +kernel | (dsimp only [Ct.blk, locB]; decide +kernel)) (di_seq (dv_n 7 rfl (by first | decide +kernel | (dsimp only [Ct.blk, locB]; decide +kernel)) rfl) (.tup _)) (dg_one 8 rfl (by first | decide +kernel | (dsimp only [Ct.blk, locB]; decide +kernel))) (turns_map (fun z => .bool (isIntB z)) (af.map PyData.int) (fun z hzz => ⟨_, rfl, DV.conv (dv_and (dv_isi B (by first | decide +kernel | (dsimp only [Ct.blk, locB]; decide +kernel)) (.int B) (by first | decide +kernel | (dsimp only [Ct.blk, locB]; decide +kernel)) (dv_n 8 rfl (by first | decide +kernel | (dsimp only [Ct.blk, locB]; decide +kernel)) rfl) (hz z hzz)) (fun _ => dv_bop1 (dv_not (dv_isi B (by first | decide +kernel | (dsimp only [Ct.blk, locB]; decide +kernel)) (.bool B) (by first | decide +kernel | (dsimp only [Ct.blk, locB]; decide +kernel)) (dv_n 8 rfl (by first | decide +kernel | (dsimp only [Ct.blk, locB]; decide +kernel)) rfl) (hz z hzz))))) (congrArg PyData.bool (isint_b z))⟩)) (by omega)) (isint_map (af.map PyData.int))))) (congrArg PyData.bool (all_isint (af.map PyData.int)))))) (by rw [ha]; rfl)) (fun hb => by cases hb) (fun hb => (dss_if (k := true) (DT.conv (dt_not (dt_val (dv_call F_step (by dsimp only [Ct.blk]; omega) (by first | decide +kernel | (dsimp only [Ct.blk, locB]; decide +kernel)) (da_cons (dv_n 2 rfl (by first | decide +kernel | (dsimp only [Ct.blk, locB]; decide +kernel)) rfl) (da_cons (dv_n 5 rfl (by first | decide +kernel | (dsimp only [Ct.blk, locB]; decide +kernel)) rfl) (da_cons (dv_n 7 rfl (by first | decide +kernel | (dsimp only [Ct.blk, locB]; decide +kernel)) rfl) (da_cons (dv_call F_ending (by dsimp only [Ct.blk]; omega) (by first | decide +kernel | (dsimp only [Ct.blk, locB]; decide +kernel)) (da_cons (dv_n 0 rfl (by first | decide +kernel | (dsimp only [Ct.blk, locB]; decide +kernel)) rfl) (da_cons (dv_n 1 rfl (by first | decide +kernel | (dsimp only [Ct.blk, locB]; decide +kernel)) rfl) (da_cons (dv_n 3 rfl (by first | decide +kernel | (dsimp only [Ct.blk, locB]; decide +kernel)) rfl) (da_cons (dv_n 6 rfl (by first | decide +kernel | (dsimp only [Ct.blk, locB]; decide +kernel)) rfl) da_nil)))) ⟨mm, ties, r, so, (i : Int), rfl, wr, ok, h60, rfl⟩) (da_cons (dv_call F_beginning (by dsimp only [Ct.blk]; omega) (by first | decide +kernel | (dsimp only [Ct.blk, locB]; decide +kernel)) (da_cons (dv_n 0 rfl (by first | decide +kernel | (dsimp only [Ct.blk, locB]; decide +kernel)) rfl) (da_cons (dv_n 1 rfl (by first | decide +kernel | (dsimp only [Ct.blk, locB]; decide +kernel)) rfl) (da_cons (dv_n 3 rfl (by first | decide +kernel | (dsimp only [Ct.blk, locB]; decide +kernel)) rfl) (da_cons (dv_n 6 rfl (by first | decide +kernel | (dsimp only [Ct.blk, locB]; decide +kernel)) rfl) da_nil)))) ⟨mm, ties, r, so, (i : Int), rfl, wr, ok, h60, rfl⟩) da_nil))))) ⟨k, bf, af, _, _, rfl, rfl⟩))) (by rw [hs]; rfl)) (fun hb => ⟨_, rfl, (dss_end (ds_ret dv_bl))⟩) (fun hb => by cases hb))))))
              | true =>
                refine .inl ⟨af, rfl, trivial, _, (dss_if (k := false) (DT.conv (dt_not (dt_val (dv_isi B (by first | decide +kernel | (dsimp only [Ct.blk, locB]; decide +kernel)) (.tuple B) (by first | decide +kernel | (dsimp only [Ct.blk, locB]; decide +kernel)) (dv_n 7 rfl (by first | decide +kernel | (dsimp only [Ct.blk, locB]; decide +kernel)) rfl) rfl))) rfl) (fun hb => by cases hb) (fun hb => (dss_if (k := false) (DT.conv (dt_not (dt_val (DV.conv (dv_all B (by first | decide +kernel | (dsimp only [Ct.blk, locB]; decide +kernel)) (dn_dv (DN.conv (dn_lc1 8 [("tie", 8)] (by first | decide +kernel | (dsimp only [Ct.blk, locB]; decide +kernel)) (di_seq (dv_n 7 rfl (by first | decide +kernel | (dsimp only [Ct.blk, locB]; decide +kernel)) rfl) (.tup _)) (dg_one 8 rfl (by first | decide +kernel | (dsimp only [Ct.blk, locB]; decide +kernel))) (turns_map (fun z => .bool (isIntB z)) (af.map PyData.int) (fun z hzz => ⟨_, rfl, DV.conv (dv_and (dv_isi B (by first | decide +kernel | (dsimp only [Ct.blk, locB]; decide +kernel)) (.int B) (by first | decide +kernel | (dsimp only [Ct.blk, locB]; decide +kernel)) (dv_n 8 rfl (by first | decide +kernel | (dsimp only [Ct.blk, locB]; decide +kernel)) rfl) (hz z hzz)) (fun _ => dv_bop1 (dv_not (dv_isi B (by first | decide +kernel | (dsimp only [Ct.blk, locB]; decide +kernel)) (.bool B) (by first | decide +kernel | (dsimp only [Ct.blk, locB]; decide +kernel)) (dv_n 8 rfl (by first | decide +kernel | (dsimp only [Ct.blk, locB]; decide +kernel)) rfl) (hz z hzz))))) (congrArg PyData.bool (isint_b z))⟩)) (by omega)) (isint_map (af.map PyData.int))))) (congrArg PyData.bool (all_isint (af.map PyData.int)))))) (by rw [ha]; rfl)) (fun hb => by cases hb) (fun hb => (dss_if (k := false) (DT.conv (dt_not (dt_val (dv_call F_step (by dsimp only [Ct.blk]; omega) (by first | decide +kernel | (dsimp only [Ct.blk, locB]; decide +kernel)) (da_cons (dv_n 2 rfl (by first | decide +kernel | (dsimp only [Ct.blk, locB]; decide +kernel)) rfl) (da_cons (dv_n 5 rfl (by first | decide +kernel | (dsimp only [Ct.blk, locB]; decide +kernel)) rfl) (da_cons (dv_n 7 rfl (by first | decide +kernel | (dsimp only [Ct.blk, locB]; decide +kernel)) rfl) (da_cons (dv_call F_ending (by dsimp only [Ct.blk]; omega) (by first | decide +kernel | (dsimp only [Ct.blk, locB]; decide +kernel)) (da_cons (dv_n 0 rfl (by first | decide +kernel | (dsimp only [Ct.blk, locB]; decide +kernel)) rfl) (da_cons (dv_n 1 rfl (by first | decide +kernel | (dsimp only [Ct.blk, locB]; decide +kernel)) rfl) (da_cons (dv_n 3 rfl (by first | decide +kernel | (dsimp only [Ct.blk, locB]; decide +kernel)) rfl) (da_cons (dv_n 6 rfl (by first | decide +kernel | (dsimp only [Ct.blk, locB]; decide +kernel)) rfl) da_nil)))) ⟨mm, ties, r, so, (i : Int), rfl, wr, ok, h60, rfl⟩) (da_cons (dv_call F_beginning (by dsimp only [Ct.blk]; omega) (by first | decide +kernel | (dsimp only [Ct.blk, locB]; decide +kernel)) (da_cons (dv_n 0 rfl (by first | decide +kernel | (dsimp only [Ct.blk, locB]; decide +kernel)) rfl) (da_cons (dv_n 1 rfl (by first | decide +kernel | (dsimp only [Ct.blk, locB]; decide +kernel)) rfl) (da_cons (dv_n 3 rfl (by first | decide +kernel | (dsimp only [Ct.blk, locB]; decide +kernel)) rfl) (da_cons (dv_n 6 rfl (by first | decide +kernel | (dsimp only [Ct.blk, locB]; decide +kernel)) rfl) da_nil)))) ⟨mm, ties, r, so, (i : Int), rfl, wr, ok, h60, rfl⟩) da_nil))))) ⟨k, bf, af, _, _, rfl, rfl⟩))) (by rw [hs]; rfl)) (fun hb => by cases hb) (fun hb => (dss_cons (ds_set 5 rfl (by first | decide +kernel | (dsimp only [Ct.blk, locB]; decide +kernel)) (dv_n 7 rfl (by first | decide +kernel | (dsimp only [Ct.blk, locB]; decide +kernel)) rfl)) dss_nil))))))), (.cons (.cons (.cons (.cons (.cons (.cons (.drop (.drop (.drop .nil)))))))))⟩
          · obtain ⟨nt, ni⟩ := not_tup cy
            refine .inr ⟨by unfold stepP; dsimp only; rw [ni], ?_⟩
            exact (dss_if (k := true) (DT.conv (dt_not (dt_val (dv_isi B (by first | decide +kernel | (dsimp only [Ct.blk, locB]; decide +kernel)) (.tuple B) (by first | decide +kernel | (dsimp only [Ct.blk, locB]; decide +kernel)) (dv_n 7 rfl (by first | decide +kernel | (dsimp only [Ct.blk, locB]; decide +kernel)) rfl) hnd))) (by rw [nt]; rfl)) (fun hb => ⟨_, rfl, (dss_end (ds_ret dv_bl))⟩) (fun hb => by cases hb))
      · have hf : isRunB ties r k so mm (.tuple l) = false := by
          show (decide (l.length = mm) && _) = false
          rw [decide_eq_false hl, Bool.false_and]
        rw [hf]
        refine (dss_if (k := true) (DT.conv (dt_w (dw_or (k := false) (j := true) (DT.conv (dt_not (dt_val (dv_isi B (by first | decide +kernel | (dsimp only [Ct.blk, locB]; decide +kernel)) (.tuple B) (by first | decide +kernel | (dsimp only [Ct.blk, locB]; decide +kernel)) (dv_n 4 rfl (by first | decide +kernel | (dsimp only [Ct.blk, locB]; decide +kernel)) rfl) rfl))) rfl) (fun _ => (dw_or1 (DT.conv (dt_c (dc_ne (dv_lent B (by first | decide +kernel | (dsimp only [Ct.blk, locB]; decide +kernel)) (dv_n 4 rfl (by first | decide +kernel | (dsimp only [Ct.blk, locB]; decide +kernel)) rfl) (.tup _)) (dv_lent B (by first | decide +kernel | (dsimp only [Ct.blk, locB]; decide +kernel)) (dv_n 1 rfl (by first | decide +kernel | (dsimp only [Ct.blk, locB]; decide +kernel)) rfl) (.tup _)) (nc_int _).sh (nc_int _).sh)) ?len))))) rfl) (fun hb => ⟨_, rfl, (dss_end (ds_ret dv_bl))⟩) (fun hb => by cases hb))
        unfold natD
        rw [hrl, eqv_int, decide_eq_false (by omega)]
        rfl
    · obtain ⟨nt, _⟩ := not_tup c
      have hf : isRunB ties r k so mm x = false := by cases x <;> first | rfl | (exact absurd ⟨_, rfl⟩ c)
      rw [hf]
      exact (dss_if (k := true) (DT.conv (dt_w (dw_or (k := true) (j := true) (DT.conv (dt_not (dt_val (dv_isi B (by first | decide +kernel | (dsimp only [Ct.blk, locB]; decide +kernel)) (.tuple B) (by first | decide +kernel | (dsimp only [Ct.blk, locB]; decide +kernel)) (dv_n 4 rfl (by first | decide +kernel | (dsimp only [Ct.blk, locB]; decide +kernel)) rfl) hx.1))) (by rw [nt]; rfl)) (fun h => by cases h))) rfl) (fun hb => ⟨_, rfl, (dss_end (ds_ret dv_bl))⟩) (fun hb => by cases hb))
def qLam : PySem.Str := ("run" : PySem.Str) ++ ".<locals>." ++ "<lambda>"
theorem any_range {p : Int → Int → Bool} : ∀ (so : List Int), (List.range so.length).any (fun j => (so.drop (j + 1)).any (p (so.getD j 0))) = (match so with | [] => false | x :: t => t.any (p x) || (List.range t.length).any fun j => (t.drop (j + 1)).any (p (t.getD j 0)))
  | [] => rfl
  | x :: t => by
    rw [List.length_cons, List.range_succ_eq_map, List.any_cons, List.any_map]
    rfl
theorem anyHit_range {ties : List (Int × Int)} {r : List Int} {k : Kd} : ∀ so : List Int, anyHit ties r k so = (List.range so.length).any fun j => (so.drop (j + 1)).any (hitAt ties r k (so.getD j 0))
  | [] => rfl
  | x :: t => by
    rw [any_range]
    unfold anyHit
    rw [anyHit_range t]
theorem runL_succ {ties : List (Int × Int)} {r : List Int} {k : Kd} {so : List Int} (j : Nat) : runL ties r k so (j + 1) = runL ties r k so j ++ [hAt ties r k so (j + 1)] := by
  unfold runL
  rw [List.range_succ, List.map_append]
  rfl
theorem bools_map (p : Int → Bool) (l : List Int) : (l.map fun z => PyData.bool (p z)) = (l.map p).map PyData.bool := by simp [Function.comp_def]
theorem any_bools (p : Int → Bool) (l : List Int) : (l.map p).any id = l.any p := by simp [Function.comp_def]
theorem hit_do {mm : Nat} {ties : List (Int × Int)} {r : List Int} {k : Kd} (wr : WR mm ties r) {x y : Int} (hx : 0 ≤ x ∧ x < ties.length) (hy : 0 ≤ y ∧ y < ties.length) : rDo [webD mm ties, rowD r, .str k.t, natD x.toNat, natD y.toNat] (.bool (hitAt ties r k x y)) := by
  obtain ⟨h1, h2, h3⟩ := tI_mem wr hx
  obtain ⟨g1, g2, g3⟩ := tI_mem wr hy
  exact ⟨mm, ties, r, k, x.toNat, y.toNat, tI ties x, tI ties y, rfl, tI_at hx, tI_at hy, ⟨h1, h2⟩, ⟨g1, g2⟩, rfl⟩
theorem so_getD {L : Nat} {so : List Int} (ok : SoOk L so) {j : Nat} (hj : j < so.length) : 0 ≤ so.getD j 0 ∧ so.getD j 0 < L := by
  have : so.getD j 0 ∈ so := by rw [List.getD_eq_getElem?_getD, List.getElem?_eq_getElem hj]; exact List.getElem_mem hj
  exact ok.rng _ this
theorem f_run {m : Md} {f : Addr} {fd : FuncData} {T : List (Addr × PySem.Str)} {c P : Addr} (B : Blt m) (F_spots : Fn m "spots" 1 rSpots) (F_do_clash : Fn m "do_clash" 3 rDo) (F_beginning : Fn m "beginning" 2 rBegin) (hT : T = [(P, qLam)]) (TB : LamX.TabB m.base m.mg c P) (hcode : fd.code = .ref c) (F : Fun m.K "run" "run" (topS 11) f fd) (hb : Binds m.K fd ["web", "row", "kind", "some"] []) (hm : m.mg "run" = some (.ref f)) : FnY m T "run" 5 rRun :=
  fn_okY (C := LamC T qLam) (N := ["web", "row", "kind", "some", "k", "one", "other", "sign", "found", "held", "at", "tie"]) F hb hm ⟨rfl, rfl, rfl, by decide +kernel, rfl, by decide +kernel, by decide +kernel⟩ (by decide +kernel) (fun ds d ⟨_, _, _, _, _, h, _⟩ => by rw [h]; rfl) (fun X _ h1 h2 h3 h4 => ⟨c, P, by rw [h3, h4]; exact TB, h1.trans hcode, by rw [h2]; rfl, hT⟩) fun ds d ⟨mm, ties, r, so, k, h, wr, ok, h60, hm60, hh, hd⟩ => by
    subst h hd
    have hrl : (r.map PyData.int).length = mm := by rw [List.length_map, wrow_len wr]
    have hsl := ok.len
    rw [anyHit_range] at hh
    refine (dys_step (ds_for2 4 5 (dg_two 4 5 rfl (by first | decide +kernel | (dsimp only [Ct.blk, locB]; decide +kernel)) rfl (by first | decide +kernel | (dsimp only [Ct.blk, locB]; decide +kernel))) (DI.conv (di_enum B (by first | decide +kernel | (dsimp only [Ct.blk, locB]; decide +kernel)) (dv_n 3 rfl (by first | decide +kernel | (dsimp only [Ct.blk, locB]; decide +kernel)) rfl) (.tup _)) (numbered_nat PyData.int 0 so)) (dfor_keep (fun j => .tuple [natD j, .int (so.getD j 0)]) (List.range so.length) ?loop1))
      (dys_step (ds_set 7 rfl (by first | decide +kernel | (dsimp only [Ct.blk, locB]; decide +kernel)) (dv_dict2i (r := sg k) dv_str (dv_neg dv_int) dv_str dv_int (dv_n 2 rfl (by first | decide +kernel | (dsimp only [Ct.blk, locB]; decide +kernel)) rfl) (by cases k <;> rfl)))
      (dys_step (ds_own 8 rfl (by first | decide +kernel | (dsimp only [Ct.blk, locB]; decide +kernel)) (dn_lst da_nil (by simp)))
      (dys_step (ds_set 9 rfl (by first | decide +kernel | (dsimp only [Ct.blk, locB]; decide +kernel)) (dn_dv (dn_lst da_nil (by simp))))
      (dys_cons (dy_for1 10 (dg_one 10 rfl (by first | decide +kernel | (dsimp only [Ct.blk, locB]; decide +kernel))) (DI1.conv (i2 := (List.range' 0 mm).map natD) (di_rng B (by first | decide +kernel | (dsimp only [Ct.blk, locB]; decide +kernel)) (dv_lent B (by first | decide +kernel | (dsimp only [Ct.blk, locB]; decide +kernel)) (dv_n 1 rfl (by first | decide +kernel | (dsimp only [Ct.blk, locB]; decide +kernel)) rfl) (.tup _)) (by rw [hrl]; omega)) (by rw [hrl, List.range_eq_range'])) (dfory_range (fun j => [some (webD mm ties), some (rowD r), some (.str k.t), some (soD so), none, none, none, some (.int (sg k)), none, some (.list ((hAt ties r k so j).map .int)), none, none]) (fun j => [(8, .lst ((runL ties r k so j).map tupD))]) mm 0 ?loop2))
      (dys_of (dss_end (ds_ret (DV.conv (dv_tuple B (by first | decide +kernel | (dsimp only [Ct.blk, locB]; decide +kernel)) (dv_n 8 rfl (by first | decide +kernel | (dsimp only [Ct.blk, locB]; decide +kernel)) rfl) (.lst _)) ?ret)))))))))
    case ret => rw [Nat.zero_add]
    case loop1 =>
      intro j hj
      have hj' := List.mem_range.mp hj
      have gx := so_getD ok hj'
      have no := List.any_eq_false.mp hh j hj
      refine ⟨_, rfl, by simp [ofree], _, (dss_if (k := false) (DT.conv (dt_val (DV.conv (dv_any B (by first | decide +kernel | (dsimp only [Ct.blk, locB]; decide +kernel)) (dn_dv (DN.conv (dn_lc1 6 [("other", 6)] (by first | decide +kernel | (dsimp only [Ct.blk, locB]; decide +kernel)) (DI1.conv (i2 := (so.drop (j + 1)).map .int) (di_seq (dv_slt (dv_n 3 rfl (by first | decide +kernel | (dsimp only [Ct.blk, locB]; decide +kernel)) rfl) (do_some (dv_addn (dv_n 4 rfl (by first | decide +kernel | (dsimp only [Ct.blk, locB]; decide +kernel)) rfl) (dv_intn 1))) do_none) (.tup _)) (by rw [cut_dropn, List.map_drop])) (dg_one 6 rfl (by first | decide +kernel | (dsimp only [Ct.blk, locB]; decide +kernel))) (turns_mapT PyData.int (fun y => .bool (hitAt ties r k (so.getD j 0) y)) (so.drop (j + 1)) (fun y hy => ⟨_, rfl, ?call⟩)) ?sz) (bools_map _ _)))) (congrArg PyData.bool (any_bools _ _)))) ?eq) (fun hb => by cases hb) (fun hb => dss_nil)), (.cons (.cons (.cons (.cons (.drop (.drop (.cons (.cons (.cons (.cons (.cons (.cons .nil))))))))))))⟩
      case call =>
        have gy := ok.rng y (List.mem_of_mem_drop hy)
        exact (dv_call F_do_clash (by dsimp only [Ct.blk]; omega) (by first | decide +kernel | (dsimp only [Ct.blk, locB]; decide +kernel)) (da_cons (dv_n 0 rfl (by first | decide +kernel | (dsimp only [Ct.blk, locB]; decide +kernel)) rfl) (da_cons (dv_n 1 rfl (by first | decide +kernel | (dsimp only [Ct.blk, locB]; decide +kernel)) rfl) (da_cons (dv_n 2 rfl (by first | decide +kernel | (dsimp only [Ct.blk, locB]; decide +kernel)) rfl) (da_cons (DV.conv (d' := natD (so.getD j 0).toNat) (dv_n 5 rfl (by first | decide +kernel | (dsimp only [Ct.blk, locB]; decide +kernel)) rfl) (nat_of gx.1)) (da_cons (DV.conv (d' := natD y.toNat) (dv_n 6 rfl (by first | decide +kernel | (dsimp only [Ct.blk, locB]; decide +kernel)) rfl) (nat_of gy.1)) da_nil))))) (hit_do wr gx gy))
      case sz => rw [List.length_map, List.length_drop]; omega
      case eq => simpa using no
    case loop2 =>
      intro j _ hj
      have hl := hAt_len (k := k) wr ok j
      have hl2 := hAt_len (k := k) wr ok (j + 1)
      have he : (endsF (bI ties r) so (j : Int)).length ≤ so.length := List.length_filter_le _ _
      have hfl := List.length_filter_le (fun x => !decide (eI ties r x = (j : Int))) (hAt ties r k so j)
      refine ⟨_, rfl, by simp [ofree, TSpec.ix], _, DYs.convo (dys_step (ds_lc1 9 11 [("tie", 11)] rfl (by first | decide +kernel | (dsimp only [Ct.blk, locB]; decide +kernel)) (by first | decide +kernel | (dsimp only [Ct.blk, locB]; decide +kernel)) (by rfl) (by first | decide +kernel | (dsimp only [Ct.blk, locB]; decide +kernel)) (by first | decide +kernel | (dsimp only [Ct.blk, locB]; decide +kernel)) (di_seq (dv_n 9 rfl (by first | decide +kernel | (dsimp only [Ct.blk, locB]; decide +kernel)) rfl) (.lst _)) (dg_one 11 rfl (by first | decide +kernel | (dsimp only [Ct.blk, locB]; decide +kernel))) (turns_filtT PyData.int PyData.int (fun x => !decide (eI ties r x = (j : Int))) (hAt ties r k so j) (fun x hx => ⟨_, rfl, ?c, fun hk => (dv_n 11 rfl (by first | decide +kernel | (dsimp only [Ct.blk, locB]; decide +kernel)) rfl)⟩)) ?sz)
        (dys_cons (dy_set 9 rfl (by first | decide +kernel | (dsimp only [Ct.blk, locB]; decide +kernel)) (DVYc (d' := .list ((hAt ties r k so (j + 1)).map .int)) (dvy_catSort 11 1 (fun x => sg k * eI ties r x) B (by first | decide +kernel | (dsimp only [Ct.blk, locB]; decide +kernel)) (dv_n 9 rfl (by first | decide +kernel | (dsimp only [Ct.blk, locB]; decide +kernel)) rfl) (dv_call F_beginning (by dsimp only [Ct.blk]; omega) (by first | decide +kernel | (dsimp only [Ct.blk, locB]; decide +kernel)) (da_cons (dv_n 0 rfl (by first | decide +kernel | (dsimp only [Ct.blk, locB]; decide +kernel)) rfl) (da_cons (dv_n 1 rfl (by first | decide +kernel | (dsimp only [Ct.blk, locB]; decide +kernel)) rfl) (da_cons (dv_n 3 rfl (by first | decide +kernel | (dsimp only [Ct.blk, locB]; decide +kernel)) rfl) (da_cons (dv_n 10 rfl (by first | decide +kernel | (dsimp only [Ct.blk, locB]; decide +kernel)) rfl) da_nil)))) ⟨mm, ties, r, so, (j : Int), rfl, wr, ok, h60, rfl⟩) (by first | decide +kernel | (dsimp only [Ct.blk, locB]; decide +kernel)) rfl (by dsimp only [Ct.blk]; omega) (by intro _; rfl) (by intros; rfl) ?body rfl ?sz2) ?cat))
        (dys_step (ds_append 8 0 rfl (by first | decide +kernel | (dsimp only [Ct.blk, locB]; decide +kernel)) rfl (dv_tuple B (by first | decide +kernel | (dsimp only [Ct.blk, locB]; decide +kernel)) (dv_n 9 rfl (by first | decide +kernel | (dsimp only [Ct.blk, locB]; decide +kernel)) rfl) (.lst _)) ?sz3) dys_nil))) ?own, (.cons (.cons (.cons (.cons (.cons (.cons (.cons (.cons (.cons (.cons (.drop (.cons .nil))))))))))))⟩
      case c =>
        have g := ok.rng x (((hAt_iv wr ok j).mem x).mp hx).1
        obtain ⟨h1, h2, h3⟩ := tI_mem wr g
        exact DT.conv (dt_c (dc_ne (dv_ixt (dv_call F_spots (by dsimp only [Ct.blk]; omega) (by first | decide +kernel | (dsimp only [Ct.blk, locB]; decide +kernel)) (da_cons (dv_n 0 rfl (by first | decide +kernel | (dsimp only [Ct.blk, locB]; decide +kernel)) rfl) (da_cons (dv_n 1 rfl (by first | decide +kernel | (dsimp only [Ct.blk, locB]; decide +kernel)) rfl) (da_cons (DV.conv (d' := natD x.toNat) (dv_n 11 rfl (by first | decide +kernel | (dsimp only [Ct.blk, locB]; decide +kernel)) rfl) (nat_of g.1)) da_nil))) ⟨mm, ties, r, x.toNat, tI ties x, rfl, tI_at g, h1, h2, rfl⟩) dv_int (d := .int (eI ties r x)) rfl) (dv_n 10 rfl (by first | decide +kernel | (dsimp only [Ct.blk, locB]; decide +kernel)) rfl) (nc_int _).sh (nc_int _).sh)) (congrArg (!·) (eqv_int _ _))
      case sz => rw [List.length_map]; omega
      case sz2 => rw [List.length_map]; omega
      case sz3 => rw [List.length_map, runL_len]; omega
      case cat => rw [← List.map_append]; rfl
      case own => rw [runL_succ, List.map_append]; rfl
      case body =>
        intro n hn
        have g := ok.rng n (mem_endsF.mp hn).1
        obtain ⟨h1, h2, h3⟩ := tI_mem wr g
        have e1 := eI_lt wr g
        have e2 := bI_nn (ties := ties) (r := r) n
        have e3 := bI_lt wr g
        unfold lamCt
        dsimp only
        exact (dv_mulB (dv_n 7 rfl (by first | decide +kernel | (dsimp only [Ct.blk, locB]; decide +kernel)) rfl) (dv_ixt (dv_call F_spots (by dsimp only [Ct.blk]; omega) (by first | decide +kernel | (dsimp only [Ct.blk, locB]; decide +kernel)) (da_cons (dv_n 0 rfl (by first | decide +kernel | (dsimp only [Ct.blk, locB]; decide +kernel)) rfl) (da_cons (dv_n 1 rfl (by first | decide +kernel | (dsimp only [Ct.blk, locB]; decide +kernel)) rfl) (da_cons (DV.conv (d' := natD n.toNat) (dv_n 11 rfl (by first | decide +kernel | (dsimp only [Ct.blk, locB]; decide +kernel)) rfl) (nat_of g.1)) da_nil))) ⟨mm, ties, r, n.toNat, tI ties n, rfl, tI_at g, h1, h2, rfl⟩) dv_int (d := .int (eI ties r n)) rfl) (CMulB.small (by cases k <;> decide) (by omega)))
theorem f_runx {m : Md} {f : Addr} {fd : FuncData} {A : Addr} (B : Blt m) (E : ExcM m "NoRun" A) (F_do_clash : Fn m "do_clash" 3 rDo) (F : Fun m.K "run" "run" (topS 11) f fd) (hb : Binds m.K fd ["web", "row", "kind", "some"] []) (hm : m.mg "run" = some (.ref f)) : FnX m "run" 5 (.ref A) rRunX :=
  fnx_ok (N := ["web", "row", "kind", "some", "k", "one", "other", "sign", "found", "held", "at", "tie"]) F hb hm ⟨rfl, rfl, rfl, by decide +kernel, rfl, by decide +kernel, by decide +kernel⟩ (by decide +kernel) (fun ds ⟨_, _, _, _, _, h, _⟩ => by rw [h]; rfl) fun ds ⟨mm, ties, r, so, k, h, wr, ok, h60, hm60, hh⟩ => by
    subst h
    have hsl := ok.len
    rw [anyHit_range] at hh
    refine (dsxs_first (dsx_for2 4 5 (dg_two 4 5 rfl (by first | decide +kernel | (dsimp only [Ct.blk, locB]; decide +kernel)) rfl (by first | decide +kernel | (dsimp only [Ct.blk, locB]; decide +kernel))) (DI.conv (di_enum B (by first | decide +kernel | (dsimp only [Ct.blk, locB]; decide +kernel)) (dv_n 3 rfl (by first | decide +kernel | (dsimp only [Ct.blk, locB]; decide +kernel)) rfl) (.tup _)) (numbered_nat PyData.int 0 so)) (dforx_find (fun j => .tuple [natD j, .int (so.getD j 0)]) (fun j => (so.drop (j + 1)).any (hitAt ties r k (so.getD j 0))) (List.range so.length) ?step hh)))
    intro j hj
    have hj' := List.mem_range.mp hj
    have gx := so_getD ok hj'
    refine ⟨_, rfl, by simp [ofree], ?_⟩
    cases hg : (so.drop (j + 1)).any (hitAt ties r k (so.getD j 0)) with
    | false =>
      refine .inl ⟨rfl, _, (dss_if (k := false) (DT.conv (dt_val (DV.conv (dv_any B (by first | decide +kernel | (dsimp only [Ct.blk, locB]; decide +kernel)) (dn_dv (DN.conv (dn_lc1 6 [("other", 6)] (by first | decide +kernel | (dsimp only [Ct.blk, locB]; decide +kernel)) (DI1.conv (i2 := (so.drop (j + 1)).map .int) (di_seq (dv_slt (dv_n 3 rfl (by first | decide +kernel | (dsimp only [Ct.blk, locB]; decide +kernel)) rfl) (do_some (dv_addn (dv_n 4 rfl (by first | decide +kernel | (dsimp only [Ct.blk, locB]; decide +kernel)) rfl) (dv_intn 1))) do_none) (.tup _)) (by rw [cut_dropn, List.map_drop])) (dg_one 6 rfl (by first | decide +kernel | (dsimp only [Ct.blk, locB]; decide +kernel))) (turns_mapT PyData.int (fun y => .bool (hitAt ties r k (so.getD j 0) y)) (so.drop (j + 1)) (fun y hy => ⟨_, rfl, ?call⟩)) ?sz) (bools_map _ _)))) (congrArg PyData.bool (any_bools _ _)))) hg) (fun hb => by cases hb) (fun hb => dss_nil)), (.cons (.cons (.cons (.cons (.drop (.drop (.cons (.cons (.cons (.cons (.cons (.cons .nil))))))))))))⟩
      case call =>
        have gy := ok.rng y (List.mem_of_mem_drop hy)
        exact (dv_call F_do_clash (by dsimp only [Ct.blk]; omega) (by first | decide +kernel | (dsimp only [Ct.blk, locB]; decide +kernel)) (da_cons (dv_n 0 rfl (by first | decide +kernel | (dsimp only [Ct.blk, locB]; decide +kernel)) rfl) (da_cons (dv_n 1 rfl (by first | decide +kernel | (dsimp only [Ct.blk, locB]; decide +kernel)) rfl) (da_cons (dv_n 2 rfl (by first | decide +kernel | (dsimp only [Ct.blk, locB]; decide +kernel)) rfl) (da_cons (DV.conv (d' := natD (so.getD j 0).toNat) (dv_n 5 rfl (by first | decide +kernel | (dsimp only [Ct.blk, locB]; decide +kernel)) rfl) (nat_of gx.1)) (da_cons (DV.conv (d' := natD y.toNat) (dv_n 6 rfl (by first | decide +kernel | (dsimp only [Ct.blk, locB]; decide +kernel)) rfl) (nat_of gy.1)) da_nil))))) (hit_do wr gx gy))
      case sz => rw [List.length_map, List.length_drop]; omega
    | true =>
      refine .inr ⟨rfl, (dsxs_first (dsx_if (DT.conv (dt_val (DV.conv (dv_any B (by first | decide +kernel | (dsimp only [Ct.blk, locB]; decide +kernel)) (dn_dv (DN.conv (dn_lc1 6 [("other", 6)] (by first | decide +kernel | (dsimp only [Ct.blk, locB]; decide +kernel)) (DI1.conv (i2 := (so.drop (j + 1)).map .int) (di_seq (dv_slt (dv_n 3 rfl (by first | decide +kernel | (dsimp only [Ct.blk, locB]; decide +kernel)) rfl) (do_some (dv_addn (dv_n 4 rfl (by first | decide +kernel | (dsimp only [Ct.blk, locB]; decide +kernel)) rfl) (dv_intn 1))) do_none) (.tup _)) (by rw [cut_dropn, List.map_drop])) (dg_one 6 rfl (by first | decide +kernel | (dsimp only [Ct.blk, locB]; decide +kernel))) (turns_mapT PyData.int (fun y => .bool (hitAt ties r k (so.getD j 0) y)) (so.drop (j + 1)) (fun y hy => ⟨_, rfl, ?call2⟩)) ?sz2) (bools_map _ _)))) (congrArg PyData.bool (any_bools _ _)))) hg) (dsxs_first (dsx_raise E (by first | decide +kernel | (dsimp only [Ct.blk, locB]; decide +kernel))))))⟩
      case call2 =>
        have gy := ok.rng y (List.mem_of_mem_drop hy)
        exact (dv_call F_do_clash (by dsimp only [Ct.blk]; omega) (by first | decide +kernel | (dsimp only [Ct.blk, locB]; decide +kernel)) (da_cons (dv_n 0 rfl (by first | decide +kernel | (dsimp only [Ct.blk, locB]; decide +kernel)) rfl) (da_cons (dv_n 1 rfl (by first | decide +kernel | (dsimp only [Ct.blk, locB]; decide +kernel)) rfl) (da_cons (dv_n 2 rfl (by first | decide +kernel | (dsimp only [Ct.blk, locB]; decide +kernel)) rfl) (da_cons (DV.conv (d' := natD (so.getD j 0).toNat) (dv_n 5 rfl (by first | decide +kernel | (dsimp only [Ct.blk, locB]; decide +kernel)) rfl) (nat_of gx.1)) (da_cons (DV.conv (d' := natD y.toNat) (dv_n 6 rfl (by first | decide +kernel | (dsimp only [Ct.blk, locB]; decide +kernel)) rfl) (nat_of gy.1)) da_nil))))) (hit_do wr gx gy))
      case sz2 => rw [List.length_map, List.length_drop]; omega
theorem f_lrun {m : Md} {f : Addr} {fd : FuncData} {T : List (Addr × PySem.Str)} {A : Addr} (B : Blt m) (E : ExcH m "PageError" "NoRun" "NoText" A) (F_run : FnY m T "run" 5 rRun) (F_runx : FnX m "run" 5 (.ref A) rRunX) (F : Fun m.K "_law_run" "_law_run" (topS 22) f fd) (hb : Binds m.K fd ["_law_web_here", "_law_row_here", "_law_kind", "_law_some"] []) (hm : m.mg "_law_run" = some (.ref f)) : FnY m T "_law_run" 6 rLRun :=
  fn_okY (C := Top) (N := ["_law_web_here", "_law_row_here", "_law_kind", "_law_some", "_law_found", "e"]) F hb hm ⟨rfl, rfl, rfl, by decide +kernel, rfl, by decide +kernel, by decide +kernel⟩ (by decide +kernel) (fun ds d ⟨_, _, _, _, _, h, _⟩ => by rw [h]; rfl) (fun X h _ _ _ _ => h) fun ds d ⟨mm, ties, r, so, k, h, wr, ok, h60, hm60, hd⟩ => by
    subst h hd
    cases hh : anyHit ties r k so with
    | false =>
      rw [if_neg (by decide)]
      exact (dys_step (ds_set 4 rfl (by first | decide +kernel | (dsimp only [Ct.blk, locB]; decide +kernel)) dv_str) (dys_cons (dy_thru (fun X h => h) (dys_cons (dy_set 4 rfl (by first | decide +kernel | (dsimp only [Ct.blk, locB]; decide +kernel)) (dvy_call F_run (by dsimp only [Ct.blk]; omega) (by first | decide +kernel | (dsimp only [Ct.blk, locB]; decide +kernel)) (da_cons (dv_n 0 rfl (by first | decide +kernel | (dsimp only [Ct.blk, locB]; decide +kernel)) rfl) (da_cons (dv_n 1 rfl (by first | decide +kernel | (dsimp only [Ct.blk, locB]; decide +kernel)) rfl) (da_cons (dv_n 2 rfl (by first | decide +kernel | (dsimp only [Ct.blk, locB]; decide +kernel)) rfl) (da_cons (dv_n 3 rfl (by first | decide +kernel | (dsimp only [Ct.blk, locB]; decide +kernel)) rfl) da_nil)))) ⟨mm, ties, r, so, k, rfl, wr, ok, h60, hm60, hh, rfl⟩)) dys_nil)) (dys_of (dss_end (ds_ret (dv_n 4 rfl (by first | decide +kernel | (dsimp only [Ct.blk, locB]; decide +kernel)) rfl))))))
    | true =>
      rw [if_pos rfl]
      exact (dys_step (ds_set 4 rfl (by first | decide +kernel | (dsimp only [Ct.blk, locB]; decide +kernel)) dv_str) (dys_cons (dy_of1 (dt_caught (i := 5) (j := 4) E rfl rfl (by decide) (by first | decide +kernel | (dsimp only [Ct.blk, locB]; decide +kernel)) (by first | decide +kernel | (dsimp only [Ct.blk, locB]; decide +kernel)) (by first | decide +kernel | (dsimp only [Ct.blk, locB]; decide +kernel)) (by first | decide +kernel | (dsimp only [Ct.blk, locB]; decide +kernel)) (by first | decide +kernel | (dsimp only [Ct.blk, locB]; decide +kernel)) (by first | decide +kernel | (dsimp only [Ct.blk, locB]; decide +kernel)) (by first | decide +kernel | (dsimp only [Ct.blk, locB]; decide +kernel)) B.isinstance (dsxs_first (dsx_set (i := 4) rfl (by first | decide +kernel | (dsimp only [Ct.blk, locB]; decide +kernel)) (dvx_call F_runx (by dsimp only [Ct.blk]; omega) (by first | decide +kernel | (dsimp only [Ct.blk, locB]; decide +kernel)) (da_cons (dv_n 0 rfl (by first | decide +kernel | (dsimp only [Ct.blk, locB]; decide +kernel)) rfl) (da_cons (dv_n 1 rfl (by first | decide +kernel | (dsimp only [Ct.blk, locB]; decide +kernel)) rfl) (da_cons (dv_n 2 rfl (by first | decide +kernel | (dsimp only [Ct.blk, locB]; decide +kernel)) rfl) (da_cons (dv_n 3 rfl (by first | decide +kernel | (dsimp only [Ct.blk, locB]; decide +kernel)) rfl) da_nil)))) ⟨mm, ties, r, so, k, rfl, wr, ok, h60, hm60, hh⟩)))) (fun X h => h)) (dys_of (dss_end (ds_ret (dv_n 4 rfl (by first | decide +kernel | (dsimp only [Ct.blk, locB]; decide +kernel)) rfl))))))
theorem f_mix {m : Md} {f : Addr} {fd : FuncData} (B : Blt m) (F : Fun m.K "_law_mix" "_law_mix" (topS 17) f fd) (hb : Binds m.K fd ["_law_cell_here", "_law_prime", "_law_many"] []) (hm : m.mg "_law_mix" = some (.ref f)) : Fn m "_law_mix" 1 rMix :=
  fn_ok (N := ["_law_cell_here", "_law_prime", "_law_many"]) F hb hm ⟨rfl, rfl, rfl, by decide +kernel, rfl, by decide +kernel, by decide +kernel⟩ (by decide +kernel) (fun ds d ⟨_, _, _, _, h, _⟩ => by rw [h]; rfl) fun ds d ⟨n, z, p, mm, h, hz, hn, hp, hm', hd⟩ => by
    subst h hd
    exact (dss_end (ds_ret (dv_mod (dv_mod (dv_mulB (dv_n 0 rfl (by first | decide +kernel | (dsimp only [Ct.blk, locB]; decide +kernel)) rfl) dv_int (hz.mulB hn)) (dv_n 1 rfl (by first | decide +kernel | (dsimp only [Ct.blk, locB]; decide +kernel)) rfl) hp) (dv_n 2 rfl (by first | decide +kernel | (dsimp only [Ct.blk, locB]; decide +kernel)) rfl) hm')))
theorem f_web {m : Md} {f : Addr} {fd : FuncData} (B : Blt m) (F_mix : Fn m "_law_mix" 1 rMix) (F : Fun m.K "_law_web" "_law_web" (topS 18) f fd) (hb : Binds m.K fd ["_law_cell_here", "_law_most", "_law_ties"] []) (hm : m.mg "_law_web" = some (.ref f)) : Fn m "_law_web" 2 rWeb :=
  fn_ok (N := ["_law_cell_here", "_law_most", "_law_ties", "_law_many", "_law_found", "_law_k", "_law_one", "_law_other", "_law_tie"]) F hb hm ⟨rfl, rfl, rfl, by decide +kernel, rfl, by decide +kernel, by decide +kernel⟩ (by decide +kernel) (fun ds d ⟨_, _, _, _, h, _⟩ => by rw [h]; rfl) fun ds d ⟨n, z, most, ties, h, hz, hn, hmost, hm60, ht60, hd⟩ => by
    subst h hd
    have hM := manyM_pos z hmost
    have e1 : (1 : Int) + mixM z 9973 most = ((1 + (mixM z 9973 most).toNat : Nat) : Int) := by
      have := mixM_nn z (p := 9973) (m := most) (by omega)
      omega
    have e2 : mixM z 9967 ((ties : Int) + 1) = (((mixM z 9967 ((ties : Int) + 1)).toNat : Nat) : Int) := by
      have := mixM_nn z (p := 9967) (m := (ties : Int) + 1) (by omega)
      omega
    have e3 := mixM_lt z (p := 9967) (m := (ties : Int) + 1) (by omega)
    have hmm : (manyM z most : Int) = if decide ((1 : Int) + mixM z 9973 most < 4) && decide (0 < z % 4) then (most : Int) else 1 + mixM z 9973 most := by
      have e0 := mixM_nn z (p := 9973) (m := most) (by omega)
      unfold manyM
      dsimp only
      generalize mixM z 9973 (most : Int) = M at e0 ⊢
      have q : (1 + M.toNat < 4 ∧ 0 < z % 4) ↔ (decide ((1 : Int) + M < 4) && decide (0 < z % 4)) = true := by
        rw [Bool.and_eq_true, decide_eq_true_eq, decide_eq_true_eq]
        omega
      by_cases c : 1 + M.toNat < 4 ∧ 0 < z % 4
      · rw [if_pos c, if_pos (q.mp c)]
      · rw [if_neg c, if_neg fun w => c (q.mpr w)]
        omega
    have hfl := foundM_len z (manyM z most) ties
    have hfo := (foundM_ok (z := z) (many := manyM z most) (ties := ties) hM.1).1
    refine (dss_cons (ds_set 3 rfl (by first | decide +kernel | (dsimp only [Ct.blk, locB]; decide +kernel)) (dv_addi dv_int (dv_call F_mix (by dsimp only [Ct.blk]; omega) (by first | decide +kernel | (dsimp only [Ct.blk, locB]; decide +kernel)) (da_cons (dv_n 0 rfl (by first | decide +kernel | (dsimp only [Ct.blk, locB]; decide +kernel)) rfl) (da_cons dv_int (da_cons (dv_n 1 rfl (by first | decide +kernel | (dsimp only [Ct.blk, locB]; decide +kernel)) rfl) da_nil))) ⟨n, z, 9973, most, rfl, hz, by omega, by omega, by omega, rfl⟩)))
      (dss_cons (ds_if (out := .next [some (.int z), some (natD most), some (natD ties), some (natD (manyM z most)), none, none, none, none, none] []) (dt_w (dw_and (dt_c (dc_lt (dv_n 3 rfl (by first | decide +kernel | (dsimp only [Ct.blk, locB]; decide +kernel)) rfl) dv_int)) (fun _ => (dw_and1 (dt_c (dc_gt (dv_mod (dv_n 0 rfl (by first | decide +kernel | (dsimp only [Ct.blk, locB]; decide +kernel)) rfl) dv_int (by decide)) dv_int)))))) (fun hb => DSs.conv (dss_cons (ds_set 3 rfl (by first | decide +kernel | (dsimp only [Ct.blk, locB]; decide +kernel)) (dv_n 1 rfl (by first | decide +kernel | (dsimp only [Ct.blk, locB]; decide +kernel)) rfl)) dss_nil) ?join2) (fun hb => DSs.conv dss_nil ?join3))
      (dss_cons (ds_own 4 rfl (by first | decide +kernel | (dsimp only [Ct.blk, locB]; decide +kernel)) (dn_lst da_nil (by simp)))
      (dss_cons (ds_for1 5 (dg_one 5 rfl (by first | decide +kernel | (dsimp only [Ct.blk, locB]; decide +kernel))) (DI1.conv (di_rng (n := (mixM z 9967 ((ties : Int) + 1)).toNat) B (by first | decide +kernel | (dsimp only [Ct.blk, locB]; decide +kernel)) (DV.conv (dv_call F_mix (by dsimp only [Ct.blk]; omega) (by first | decide +kernel | (dsimp only [Ct.blk, locB]; decide +kernel)) (da_cons (dv_n 0 rfl (by first | decide +kernel | (dsimp only [Ct.blk, locB]; decide +kernel)) rfl) (da_cons dv_int (da_cons (dv_addi (dv_n 2 rfl (by first | decide +kernel | (dsimp only [Ct.blk, locB]; decide +kernel)) rfl) dv_int) da_nil))) ⟨n, z, 9967, (ties : Int) + 1, rfl, hz, by omega, by omega, by omega, rfl⟩) (congrArg PyData.int e2)) (by omega)) rfl) (DFor.conv (dfor_fold natD (fun acc => [(4, .lst (acc.map pairD))]) (tieStep z (manyM z most)) (fun n b => b.length + n ≤ 60) _ [] ?i0 ?step) rfl))
      (dss_end (ds_ret (DV.conv (dv_tup (da_cons (dv_n 3 rfl (by first | decide +kernel | (dsimp only [Ct.blk, locB]; decide +kernel)) rfl) (da_cons (dv_tuple B (by first | decide +kernel | (dsimp only [Ct.blk, locB]; decide +kernel)) (dn_dv (dn_sortedP (ps := foundM z (manyM z most) ties) (qs := tiesM z most ties) (manyM z most : Int) B (by first | decide +kernel | (dsimp only [Ct.blk, locB]; decide +kernel)) (dv_n 4 rfl (by first | decide +kernel | (dsimp only [Ct.blk, locB]; decide +kernel)) rfl) ?bd (by omega) (sortP_perm _) (sortP_sorted _))) (.lst _)) da_nil)) (by simp)) rfl)))))))
    case join2 =>
      have : (most : Int) = manyM z most := by rw [hmm, if_pos hb]
      rw [show natD (manyM z most) = natD most from congrArg PyData.int this.symm]
      rfl
    case join3 =>
      have : (1 : Int) + mixM z 9973 most = manyM z most := by rw [hmm, if_neg (by rw [hb]; simp)]
      rw [show natD (manyM z most) = .int (1 + mixM z 9973 most) from congrArg PyData.int this.symm]
      rfl
    case i0 => simp; omega
    case bd => exact fun q hq => ⟨(hfo q hq).nn, by have := (hfo q hq).lt; have := (hfo q hq).le; omega, by have := (hfo q hq).nn; have := (hfo q hq).lt; omega, (hfo q hq).le⟩
    case step =>
      intro k hk n' b hb
      rw [List.mem_range] at hk
      have sh : SeqAt.shaped (.list (b.map pairD)) = true := (nc_lst (nc_pairs b)).sh
      have w1 : Sm (n + 10) (z + 11 * (k : Int)) := hz.add (by omega)
      have w2 : Sm (n + 10 + 10) (z + 13 * (k : Int) + 1) := (hz.add (s := 13 * (k : Int)) (by omega)).add (by omega)
      refine ⟨by have := tieStep_len z (manyM z most) b k; omega, _, rfl, by simp [ofree, TSpec.ix], _, (dss_cons (ds_set 6 rfl (by first | decide +kernel | (dsimp only [Ct.blk, locB]; decide +kernel)) (dv_call F_mix (by dsimp only [Ct.blk]; omega) (by first | decide +kernel | (dsimp only [Ct.blk, locB]; decide +kernel)) (da_cons (dv_addi (dv_n 0 rfl (by first | decide +kernel | (dsimp only [Ct.blk, locB]; decide +kernel)) rfl) (dv_mulB dv_int (dv_n 5 rfl (by first | decide +kernel | (dsimp only [Ct.blk, locB]; decide +kernel)) rfl) ?mul0)) (da_cons dv_int (da_cons (dv_n 3 rfl (by first | decide +kernel | (dsimp only [Ct.blk, locB]; decide +kernel)) rfl) da_nil))) ⟨_, _, 9949, (manyM z most : Int), rfl, w1, by omega, by omega, by omega, rfl⟩))
        (dss_cons (ds_set 7 rfl (by first | decide +kernel | (dsimp only [Ct.blk, locB]; decide +kernel)) (dv_call F_mix (by dsimp only [Ct.blk]; omega) (by first | decide +kernel | (dsimp only [Ct.blk, locB]; decide +kernel)) (da_cons (dv_addi (dv_addi (dv_n 0 rfl (by first | decide +kernel | (dsimp only [Ct.blk, locB]; decide +kernel)) rfl) (dv_mulB dv_int (dv_n 5 rfl (by first | decide +kernel | (dsimp only [Ct.blk, locB]; decide +kernel)) rfl) ?mul2)) dv_int) (da_cons dv_int (da_cons (dv_n 3 rfl (by first | decide +kernel | (dsimp only [Ct.blk, locB]; decide +kernel)) rfl) da_nil))) ⟨_, _, 9941, (manyM z most : Int), rfl, w2, by omega, by omega, by omega, rfl⟩))
        (dss_cons (ds_set 8 rfl (by first | decide +kernel | (dsimp only [Ct.blk, locB]; decide +kernel)) (dv_tup (da_cons (dv_min2 B (by first | decide +kernel | (dsimp only [Ct.blk, locB]; decide +kernel)) (dv_n 6 rfl (by first | decide +kernel | (dsimp only [Ct.blk, locB]; decide +kernel)) rfl) (dv_n 7 rfl (by first | decide +kernel | (dsimp only [Ct.blk, locB]; decide +kernel)) rfl)) (da_cons (dv_max2 B (by first | decide +kernel | (dsimp only [Ct.blk, locB]; decide +kernel)) (dv_n 6 rfl (by first | decide +kernel | (dsimp only [Ct.blk, locB]; decide +kernel)) rfl) (dv_n 7 rfl (by first | decide +kernel | (dsimp only [Ct.blk, locB]; decide +kernel)) rfl)) da_nil)) (by simp)))
        (dss_cons (ds_ifk (dt_w (dw_and (dt_c (dc_ne (dv_n 6 rfl (by first | decide +kernel | (dsimp only [Ct.blk, locB]; decide +kernel)) rfl) (dv_n 7 rfl (by first | decide +kernel | (dsimp only [Ct.blk, locB]; decide +kernel)) rfl) (by rfl) (by rfl))) (fun _ => (dw_and1 (dt_c (dc_notin (dv_n 8 rfl (by first | decide +kernel | (dsimp only [Ct.blk, locB]; decide +kernel)) rfl) (dv_n 4 rfl (by first | decide +kernel | (dsimp only [Ct.blk, locB]; decide +kernel)) rfl) (.lst _) (by rfl) sh)))))) (fun hb => DSs.conv (dss_cons (ds_append 4 0 rfl (by first | decide +kernel | (dsimp only [Ct.blk, locB]; decide +kernel)) rfl (dv_n 8 rfl (by first | decide +kernel | (dsimp only [Ct.blk, locB]; decide +kernel)) rfl) ?sz6) dss_nil) ?join7) (fun hb => DSs.conv dss_nil ?join8)) dss_nil)))), ?le⟩
      case mul0 => exact CMulB.small (by decide) (by omega)
      case mul2 => exact CMulB.small (by decide) (by omega)
      case sz6 => rw [List.length_map]; omega
      case le => exact (.cons (.cons (.cons (.cons (.cons (.drop (.drop (.drop (.drop .nil)))))))))
      all_goals
        have q : (mixM (z + 11 * (k : Int)) 9949 (manyM z most) ≠ mixM (z + 13 * (k : Int) + 1) 9941 (manyM z most) ∧ (min (mixM (z + 11 * (k : Int)) 9949 (manyM z most)) (mixM (z + 13 * (k : Int) + 1) 9941 (manyM z most)), max (mixM (z + 11 * (k : Int)) 9949 (manyM z most)) (mixM (z + 13 * (k : Int) + 1) 9941 (manyM z most))) ∉ b) ↔
            ((!PyData.eqv (.int (mixM (z + 11 * (k : Int)) 9949 (manyM z most))) (.int (mixM (z + 13 * (k : Int) + 1) 9941 (manyM z most)))) && !((b.map pairD).any fun y => PyData.eqv y (pairD (min (mixM (z + 11 * (k : Int)) 9949 (manyM z most)) (mixM (z + 13 * (k : Int) + 1) 9941 (manyM z most)), max (mixM (z + 11 * (k : Int)) 9949 (manyM z most)) (mixM (z + 13 * (k : Int) + 1) 9941 (manyM z most)))))) = true := by
          rw [any_map pairD eqv_pair, eqv_int, Bool.and_eq_true, Bool.not_eq_true', Bool.not_eq_true', decide_eq_false_iff_not, decide_eq_false_iff_not]
      case join7 =>
        have e : tieStep z (manyM z most) b k = _ := if_pos (q.mpr hb)
        rw [e, List.map_append]
        rfl
      case join8 =>
        have e : tieStep z (manyM z most) b k = _ := if_neg fun w => by rw [q.mp w] at hb; cases hb
        rw [e]
theorem f_row {m : Md} {f : Addr} {fd : FuncData} (B : Blt m) (F_mix : Fn m "_law_mix" 1 rMix) (F : Fun m.K "_law_row" "_law_row" (topS 19) f fd) (hb : Binds m.K fd ["_law_cell_here", "_law_many"] []) (hm : m.mg "_law_row" = some (.ref f)) : Fn m "_law_row" 2 rRow :=
  fn_ok (N := ["_law_cell_here", "_law_many", "_law_left", "_law_k"]) F hb hm ⟨rfl, rfl, rfl, by decide +kernel, rfl, by decide +kernel, by decide +kernel⟩ (by decide +kernel) (fun ds d ⟨_, _, _, h, _⟩ => by rw [h]; rfl) fun ds d ⟨n, z, many, h, hz, hn, h60, hd⟩ => by
    subst h hd
    refine (dss_cons (ds_own 2 rfl (by first | decide +kernel | (dsimp only [Ct.blk, locB]; decide +kernel)) (dn_listrange B (by first | decide +kernel | (dsimp only [Ct.blk, locB]; decide +kernel)) (by first | decide +kernel | (dsimp only [Ct.blk, locB]; decide +kernel)) (dv_n 1 rfl (by first | decide +kernel | (dsimp only [Ct.blk, locB]; decide +kernel)) rfl) (by omega) (by omega))) (dss_end (ds_poprow B 2 3 many [("_law_k", 3)] (popJ z many) (upto many) (by first | decide +kernel | (dsimp only [Ct.blk, locB]; decide +kernel)) rfl (by first | decide +kernel | (dsimp only [Ct.blk, locB]; decide +kernel)) (by decide) (by decide) (by first | decide +kernel | (dsimp only [Ct.blk, locB]; decide +kernel)) (di_rng B (by first | decide +kernel | (dsimp only [Ct.blk, locB]; decide +kernel)) (dv_n 1 rfl (by first | decide +kernel | (dsimp only [Ct.blk, locB]; decide +kernel)) rfl) (by omega)) (dg_one 3 rfl (by first | decide +kernel | (dsimp only [Ct.blk, locB]; decide +kernel))) (by decide) ?he ?hj (popOk_all z many _ _ _ (upto_len many) (by omega)) (by omega))))
    case hj =>
      intro k
      unfold popJ
      split
      · have := mixM_lt (z + 5 * (k : Int)) (p := 9931) (m := (many : Int) - k) (by omega)
        omega
      · omega
    case he =>
      intro k hk
      have w1 : Sm (n + 10) (z + 5 * (k : Int)) := hz.add (by omega)
      have nn := mixM_nn (z + 5 * (k : Int)) (p := 9931) (m := (many : Int) - k) (by omega)
      refine DV.conv (dv_call F_mix (by dsimp only [Ct.blk]; omega) (by first | decide +kernel | (dsimp only [Ct.blk, locB]; decide +kernel)) (da_cons (dv_addi (dv_n 0 rfl (by first | decide +kernel | (dsimp only [Ct.blk, locB]; decide +kernel)) rfl) (dv_mulB dv_int (dv_n 3 rfl (by first | decide +kernel | (dsimp only [Ct.blk, locB]; decide +kernel)) rfl) (CMulB.small (by decide) (by omega)))) (da_cons dv_int (da_cons (dv_sub (dv_n 1 rfl (by first | decide +kernel | (dsimp only [Ct.blk, locB]; decide +kernel)) rfl) (dv_n 3 rfl (by first | decide +kernel | (dsimp only [Ct.blk, locB]; decide +kernel)) rfl)) da_nil))) ⟨_, _, 9931, (many : Int) - k, rfl, w1, by omega, by omega, by omega, rfl⟩) ?_
      unfold popJ natD
      rw [if_pos hk, Int.toNat_of_nonneg nn]
theorem f_lhow {m : Md} {f : Addr} {fd : FuncData} (B : Blt m) (F : Fun m.K "_law_how" "_law_how" (topS 20) f fd) (hb : Binds m.K fd ["_law_web_here", "_law_row_here", "_law_one", "_law_other"] []) (hm : m.mg "_law_how" = some (.ref f)) : Fn m "_law_how" 1 rLHow :=
  fn_ok (N := ["_law_web_here", "_law_row_here", "_law_one", "_law_other", "_law_first", "_law_place", "_law_second", "_law_spot", "_law_between"]) F hb hm ⟨rfl, rfl, rfl, by decide +kernel, rfl, by decide +kernel, by decide +kernel⟩ (by decide +kernel) (fun ds d ⟨_, _, _, _, _, _, _, h, _⟩ => by rw [h]; rfl) fun ds d ⟨mm, ties, r, i, j, t, u, h, ht, hu, h1, h2, hd⟩ => by
    subst h hd
    have e : Lr r t u = lawHow (ix r t.1) (ix r t.2) (ix r u.1) (ix r u.2) := by
      unfold Lr
      rw [lawHow_eq (fun z => h1.2.2 (ix_inj h1.1 h1.2.1 (by omega))) (fun z => h2.2.2 (ix_inj h2.1 h2.2.1 (by omega)))]
      rfl
    rw [e]
    have at1 : L2.atI (ties.map pairD) ((i : Nat) : Int) = some (pairD t) := L2.atI_nat (by rw [List.getElem?_map, ht]; rfl)
    have at2 : L2.atI (ties.map pairD) ((j : Nat) : Int) = some (pairD u) := L2.atI_nat (by rw [List.getElem?_map, hu]; rfl)
    have mm1 := minmax2 (ix r t.1) (ix r t.2)
    have mm2 := minmax2 (ix r u.1) (ix r u.2)
    have sh2 : SeqAt.shaped (.list ([(ix r u.1 : Int), (ix r u.2 : Int)].map .int)) = true := (nc_lst (nc_ints _)).sh
    refine (dss_cons (ds_setc 4 rfl (by first | decide +kernel | (dsimp only [Ct.blk, locB]; decide +kernel)) (by first | decide +kernel | (dsimp only [Ct.blk, locB]; decide +kernel)) (dn_dv (dn_lc1 5 [("_law_place", 5)] (by first | decide +kernel | (dsimp only [Ct.blk, locB]; decide +kernel)) (di_seq (dv_ixt (dv_ixt (dv_n 0 rfl (by first | decide +kernel | (dsimp only [Ct.blk, locB]; decide +kernel)) rfl) dv_int rfl) (dv_n 2 rfl (by first | decide +kernel | (dsimp only [Ct.blk, locB]; decide +kernel)) rfl) at1) (.tup _)) (dg_one 5 rfl (by first | decide +kernel | (dsimp only [Ct.blk, locB]; decide +kernel))) (turns_mapT PyData.int (fun x => .int (ix r x)) [t.1, t.2] (fun x hx => ⟨_, rfl, dv_tix (dv_n 1 rfl (by first | decide +kernel | (dsimp only [Ct.blk, locB]; decide +kernel)) rfl) (dv_n 5 rfl (by first | decide +kernel | (dsimp only [Ct.blk, locB]; decide +kernel)) rfl) (ix_get (mem2 hx h1.1 h1.2.1)) (fun _ => ix_no)⟩)) (by simp))))
      (dss_cons (ds_setc 6 rfl (by first | decide +kernel | (dsimp only [Ct.blk, locB]; decide +kernel)) (by first | decide +kernel | (dsimp only [Ct.blk, locB]; decide +kernel)) (dn_dv (dn_lc1 5 [("_law_place", 5)] (by first | decide +kernel | (dsimp only [Ct.blk, locB]; decide +kernel)) (di_seq (dv_ixt (dv_ixt (dv_n 0 rfl (by first | decide +kernel | (dsimp only [Ct.blk, locB]; decide +kernel)) rfl) dv_int rfl) (dv_n 3 rfl (by first | decide +kernel | (dsimp only [Ct.blk, locB]; decide +kernel)) rfl) at2) (.tup _)) (dg_one 5 rfl (by first | decide +kernel | (dsimp only [Ct.blk, locB]; decide +kernel))) (turns_mapT PyData.int (fun x => .int (ix r x)) [u.1, u.2] (fun x hx => ⟨_, rfl, dv_tix (dv_n 1 rfl (by first | decide +kernel | (dsimp only [Ct.blk, locB]; decide +kernel)) rfl) (dv_n 5 rfl (by first | decide +kernel | (dsimp only [Ct.blk, locB]; decide +kernel)) rfl) (ix_get (mem2 hx h2.1 h2.2.1)) (fun _ => ix_no)⟩)) (by simp))))
      (dss_if (dt_seq (dn_dv (dn_lc1 7 [("_law_spot", 7)] (by first | decide +kernel | (dsimp only [Ct.blk, locB]; decide +kernel)) (di_seq (dv_n 4 rfl (by first | decide +kernel | (dsimp only [Ct.blk, locB]; decide +kernel)) rfl) (.lst _)) (dg_one 7 rfl (by first | decide +kernel | (dsimp only [Ct.blk, locB]; decide +kernel))) (turns_filtT PyData.int PyData.int (fun x => decide (x ∈ [(ix r u.1 : Int), (ix r u.2 : Int)])) [(ix r t.1 : Int), (ix r t.2 : Int)] (fun x hx => ⟨_, rfl, DT.conv (dt_c (dc_in (dv_n 7 rfl (by first | decide +kernel | (dsimp only [Ct.blk, locB]; decide +kernel)) rfl) (dv_n 6 rfl (by first | decide +kernel | (dsimp only [Ct.blk, locB]; decide +kernel)) rfl) (.lst _) (nc_int x).sh sh2)) (any_map PyData.int eqv_int [(ix r u.1 : Int), (ix r u.2 : Int)] x), fun hk => (dv_n 7 rfl (by first | decide +kernel | (dsimp only [Ct.blk, locB]; decide +kernel)) rfl)⟩)) (by simp))) (.lst _)) (fun hb => ⟨_, ?a, (dss_end (ds_ret dv_str))⟩) (fun hb =>
      (dss_cons (ds_lc1 8 7 [("_law_spot", 7)] rfl (by first | decide +kernel | (dsimp only [Ct.blk, locB]; decide +kernel)) (by first | decide +kernel | (dsimp only [Ct.blk, locB]; decide +kernel)) (by rfl) (by first | decide +kernel | (dsimp only [Ct.blk, locB]; decide +kernel)) (by first | decide +kernel | (dsimp only [Ct.blk, locB]; decide +kernel)) (di_seq (dv_n 6 rfl (by first | decide +kernel | (dsimp only [Ct.blk, locB]; decide +kernel)) rfl) (.lst _)) (dg_one 7 rfl (by first | decide +kernel | (dsimp only [Ct.blk, locB]; decide +kernel))) (turns_filtT PyData.int PyData.int (fun x => decide (min (ix r t.1 : Int) (ix r t.2) < x) && decide (x < max (ix r t.1 : Int) (ix r t.2))) [(ix r u.1 : Int), (ix r u.2 : Int)] (fun x hx => ⟨_, rfl, (dt_ch .lt .lt (dv_minl (ns := [(ix r t.1 : Int), (ix r t.2 : Int)]) B (by first | decide +kernel | (dsimp only [Ct.blk, locB]; decide +kernel)) (dv_n 4 rfl (by first | decide +kernel | (dsimp only [Ct.blk, locB]; decide +kernel)) rfl) mm1.1.1 mm1.1.2) (dv_n 7 rfl (by first | decide +kernel | (dsimp only [Ct.blk, locB]; decide +kernel)) rfl) (dv_maxl (ns := [(ix r t.1 : Int), (ix r t.2 : Int)]) B (by first | decide +kernel | (dsimp only [Ct.blk, locB]; decide +kernel)) (dv_n 4 rfl (by first | decide +kernel | (dsimp only [Ct.blk, locB]; decide +kernel)) rfl) mm1.2.1 mm1.2.2)), fun hk => (dv_n 7 rfl (by first | decide +kernel | (dsimp only [Ct.blk, locB]; decide +kernel)) rfl)⟩)) (by simp))
      (dss_if (dt_c (dc_eq (dv_lent B (by first | decide +kernel | (dsimp only [Ct.blk, locB]; decide +kernel)) (dv_n 8 rfl (by first | decide +kernel | (dsimp only [Ct.blk, locB]; decide +kernel)) rfl) (.lst _)) dv_int (nc_int _).sh (by rfl))) (fun hb2 => ⟨_, ?b, (dss_end (ds_ret dv_str))⟩) (fun hb2 =>
      (dss_if (dt_w (dw_or (dt_c (dc_eq (dv_lent B (by first | decide +kernel | (dsimp only [Ct.blk, locB]; decide +kernel)) (dv_n 8 rfl (by first | decide +kernel | (dsimp only [Ct.blk, locB]; decide +kernel)) rfl) (.lst _)) dv_int (nc_int _).sh (by rfl))) (fun _ => (dw_or1 (dt_ch .lt .lt (dv_minl (ns := [(ix r u.1 : Int), (ix r u.2 : Int)]) B (by first | decide +kernel | (dsimp only [Ct.blk, locB]; decide +kernel)) (dv_n 6 rfl (by first | decide +kernel | (dsimp only [Ct.blk, locB]; decide +kernel)) rfl) mm2.1.1 mm2.1.2) (dv_minl (ns := [(ix r t.1 : Int), (ix r t.2 : Int)]) B (by first | decide +kernel | (dsimp only [Ct.blk, locB]; decide +kernel)) (dv_n 4 rfl (by first | decide +kernel | (dsimp only [Ct.blk, locB]; decide +kernel)) rfl) mm1.1.1 mm1.1.2) (dv_maxl (ns := [(ix r u.1 : Int), (ix r u.2 : Int)]) B (by first | decide +kernel | (dsimp only [Ct.blk, locB]; decide +kernel)) (dv_n 6 rfl (by first | decide +kernel | (dsimp only [Ct.blk, locB]; decide +kernel)) rfl) mm2.2.1 mm2.2.2)))))) (fun hb3 => ⟨_, ?c, (dss_end (ds_ret dv_str))⟩) (fun hb3 => (dss_end (ds_ret (DV.conv dv_str ?d))))))))))))
    case a =>
      have : lawHow (ix r t.1) (ix r t.2) (ix r u.1) (ix r u.2) = .meet := if_pos (meet_of hb)
      rw [this]; rfl
    all_goals
      have g1 := meet_not hb
    case b =>
      have : lawHow (ix r t.1) (ix r t.2) (ix r u.1) (ix r u.2) = .cross := (if_neg g1).trans (if_pos (len_of hb2))
      rw [this]; rfl
    all_goals
      have g2 := len_not hb2
    case c =>
      have : lawHow (ix r t.1) (ix r t.2) (ix r u.1) (ix r u.2) = .within := (if_neg g1).trans ((if_neg g2).trans (if_pos (by
        rcases Bool.or_eq_true _ _ ▸ hb3 with h | h
        · exact .inl (len_of h)
        · rw [Bool.and_eq_true, decide_eq_true_eq, decide_eq_true_eq] at h
          exact .inr h)))
      rw [this]; rfl
    case d =>
      have : lawHow (ix r t.1) (ix r t.2) (ix r u.1) (ix r u.2) = .apart := (if_neg g1).trans ((if_neg g2).trans (if_neg (by
        intro w
        rw [Bool.or_eq_false_iff] at hb3
        rcases w with w | w
        · exact len_not hb3.1 w
        · have := hb3.2
          rw [Bool.and_eq_false_iff, decide_eq_false_iff_not, decide_eq_false_iff_not] at this
          omega)))
      rw [this]; rfl
theorem f_lclashes {m : Md} {f : Addr} {fd : FuncData} (B : Blt m) (F_lhow : Fn m "_law_how" 1 rLHow) (F : Fun m.K "_law_clashes" "_law_clashes" (topS 21) f fd) (hb : Binds m.K fd ["_law_web_here", "_law_row_here", "_law_kind"] []) (hm : m.mg "_law_clashes" = some (.ref f)) : Fn m "_law_clashes" 2 rLClashes :=
  fn_ok (N := ["_law_web_here", "_law_row_here", "_law_kind", "_law_word", "_law_found", "_law_other", "_law_one"]) F hb hm ⟨rfl, rfl, rfl, by decide +kernel, rfl, by decide +kernel, by decide +kernel⟩ (by decide +kernel) (fun ds d ⟨_, _, _, _, h, _⟩ => by rw [h]; rfl) fun ds d ⟨mm, ties, r, k, h, hr, h60, hd⟩ => by
    subst h hd
    have ht : ∀ {i : Nat}, i < ties.length → ties[i]? = some (ties.getD i (0, 0)) := fun {i} h => by rw [List.getD_eq_getElem?_getD, List.getElem?_eq_getElem h]; rfl
    have hm : ∀ {i : Nat}, i < ties.length → (ties.getD i (0, 0)).1 ∈ r ∧ (ties.getD i (0, 0)).2 ∈ r ∧ (ties.getD i (0, 0)).1 ≠ (ties.getD i (0, 0)).2 := fun {i} h => hr _ (List.mem_of_getElem? (ht h))
    have hlen : (ties.map pairD).length = ties.length := List.length_map _
    refine (dss_cons (ds_set 3 rfl (by first | decide +kernel | (dsimp only [Ct.blk, locB]; decide +kernel)) (dv_ixl (d := .str k.bad.t) (dn_dv (dn_lst (da_cons dv_str (da_cons dv_str da_nil)) (by simp))) (dv_int1 B (by first | decide +kernel | (dsimp only [Ct.blk, locB]; decide +kernel)) (dv_c (dc_eq (dv_n 2 rfl (by first | decide +kernel | (dsimp only [Ct.blk, locB]; decide +kernel)) rfl) dv_str (kd_sh k) (by decide +kernel))) (.bl _)) ?ix2))
      (dss_cons (ds_own 4 rfl (by first | decide +kernel | (dsimp only [Ct.blk, locB]; decide +kernel)) (dn_lst da_nil (by simp)))
      (dss_cons (ds_for1 5 (dg_one 5 rfl (by first | decide +kernel | (dsimp only [Ct.blk, locB]; decide +kernel))) (di_rng B (by first | decide +kernel | (dsimp only [Ct.blk, locB]; decide +kernel)) (dv_lent B (by first | decide +kernel | (dsimp only [Ct.blk, locB]; decide +kernel)) (dv_ixt (dv_n 0 rfl (by first | decide +kernel | (dsimp only [Ct.blk, locB]; decide +kernel)) rfl) dv_int rfl) (.tup _)) (by rw [hlen]; omega)) (DFor.conv (o := .next _ [(4, .lst (((lclash ties r k).map npC).map pairD))]) (dfor_fold natD (fun acc => [(4, .lst (acc.map npD))]) (fun acc j => acc ++ colC ties r k j) (fun n b => b.length + n * 60 ≤ 3600) _ [] ?i0 ?step) (by rw [hlen, foldl_app, List.nil_append, ← npD_eq]; rfl)))
      (dss_end (ds_ret (DV.conv (dn_dv (dn_sortedQ (ps := (lclash ties r k).map npC) B (by first | decide +kernel | (dsimp only [Ct.blk, locB]; decide +kernel)) (dv_n 4 rfl (by first | decide +kernel | (dsimp only [Ct.blk, locB]; decide +kernel)) rfl) clash_perm' clash_srt')) ?ret))))))
    case ix2 => cases k <;> rfl
    case i0 => simp; omega
    case ret => rw [← npD_eq]
    case step =>
      intro j hj n b hb
      rw [hlen, List.mem_range] at hj
      have cl := colC_len (ties := ties) (r := r) (k := k) j
      refine ⟨by rw [List.length_append]; omega, _, rfl, by simp [ofree, TSpec.ix], _, DSs.convo (dss_cons (ds_extend 4 0 rfl (by first | decide +kernel | (dsimp only [Ct.blk, locB]; decide +kernel)) rfl (dn_dv (dn_lc1 6 [("_law_one", 6)] (by first | decide +kernel | (dsimp only [Ct.blk, locB]; decide +kernel)) (di_rng B (by first | decide +kernel | (dsimp only [Ct.blk, locB]; decide +kernel)) (dv_n 5 rfl (by first | decide +kernel | (dsimp only [Ct.blk, locB]; decide +kernel)) rfl) (by omega)) (dg_one 6 rfl (by first | decide +kernel | (dsimp only [Ct.blk, locB]; decide +kernel))) (turns_filtT natD (fun i => npD (i, j)) (fun i => clashAt ties r k i j) (List.range j) (fun i hi => ⟨_, rfl, ?c, fun hk => (dv_tup (da_cons (dv_n 6 rfl (by first | decide +kernel | (dsimp only [Ct.blk, locB]; decide +kernel)) rfl) (da_cons (dv_n 5 rfl (by first | decide +kernel | (dsimp only [Ct.blk, locB]; decide +kernel)) rfl) da_nil)) (by simp))⟩)) ?sz)) ?sz5) dss_nil) ?cv, (.cons (.cons (.cons (.cons (.cons (.drop (.cons .nil)))))))⟩
      case c =>
        have hi' : i < ties.length := by have := List.mem_range.mp hi; omega
        refine DT.conv (dt_c (dc_eq (dv_call F_lhow (by dsimp only [Ct.blk]; omega) (by first | decide +kernel | (dsimp only [Ct.blk, locB]; decide +kernel)) (da_cons (dv_n 0 rfl (by first | decide +kernel | (dsimp only [Ct.blk, locB]; decide +kernel)) rfl) (da_cons (dv_n 1 rfl (by first | decide +kernel | (dsimp only [Ct.blk, locB]; decide +kernel)) rfl) (da_cons (dv_n 6 rfl (by first | decide +kernel | (dsimp only [Ct.blk, locB]; decide +kernel)) rfl) (da_cons (dv_n 5 rfl (by first | decide +kernel | (dsimp only [Ct.blk, locB]; decide +kernel)) rfl) da_nil)))) ⟨mm, ties, r, i, j, _, _, rfl, ht hi', ht hj, hm hi', hm hj, rfl⟩) (dv_n 3 rfl (by first | decide +kernel | (dsimp only [Ct.blk, locB]; decide +kernel)) rfl) (lie_sh _) (lie_sh _))) ?_
        rw [lie_eqv]
        rfl
      case sz => simp; omega
      case sz5 =>
        unfold colC at cl
        rw [List.length_map] at cl ⊢
        rw [List.length_map]
        omega
      case cv =>
        rw [List.map_append]
        unfold colC
        rw [List.map_map]
        rfl
def iK : Kd → Int
  | .pile => -1
  | .queue => 0
theorem top_at {k : Kd} {h : List Int} (hne : h ≠ []) : L2.atI (h.map PyData.int) (iK k) = some (.int (topK k h)) := by
  cases k with
  | pile =>
    obtain ⟨t, x, rfl⟩ : ∃ t x, h = t ++ [x] := ⟨h.dropLast, h.getLast hne, (List.dropLast_concat_getLast hne).symm⟩
    have et : topK .pile (t ++ [x]) = x := by unfold topK; simp
    rw [et]
    have e : L2.ixN ((t ++ [x]).map PyData.int).length (-1) = some t.length := by
      unfold L2.ixN
      rw [if_neg (by omega), List.length_map, List.length_append, List.length_singleton, if_pos (by omega)]
      exact congrArg some (by omega)
    show (L2.ixN ((t ++ [x]).map PyData.int).length (-1)).bind (fun j => ((t ++ [x]).map PyData.int)[j]?) = _
    rw [e]
    simp
  | queue =>
    obtain ⟨x, t, rfl⟩ := List.exists_cons_of_ne_nil hne
    exact L2.atI_nat (j := 0) rfl
def goEnd : Option (List Int) → Bool
  | some h => decide (h = [])
  | none => false
def afterGo (af bg : List Int) : Option (List Int) → Option (List Int)
  | none => none
  | some h' => if cutD af none (some (h'.length : Int)) = h' ∧ sortI (cutD af (some (h'.length : Int)) none) = bg then some af else none
theorem alt_of {α β : Type} {G : Ct} {δb : DEnv} {body : List Stmt} {step : β → α → Option β} {sd sd2 : β → DEnv} {b : β} {x : α} {o : Option β} (hs : step b x = o) (h : DSs G δb [] body (outGo sd2 o)) (w : ∀ b', Le (sd b') (sd2 b')) :
    (∃ b', step b x = some b' ∧ True ∧ ∃ δ1, DSs G δb [] body (.next δ1 []) ∧ Le (sd b') δ1) ∨ (step b x = none ∧ DSs G δb [] body (.ret (.bool false))) := by
  cases o with
  | some b' => exact .inl ⟨b', hs, trivial, _, h, w b'⟩
  | none => exact .inr ⟨hs, h⟩
theorem notint_b (z : PyData) : (!isD z "int" || isD z "bool") = !isIntB z := by cases z <;> simp [isD, tyName, isIntB]
theorem notint_all {l : List PyData} (h : l.all isIntB = true) : (!((l.filter fun z => !isIntB z).map id).isEmpty) = false := by
  have : (l.filter fun z => !isIntB z) = [] := by
    rw [List.filter_eq_nil_iff]
    intro z hz
    have := List.all_eq_true.mp h z hz
    simp [this]
  rw [this]
  rfl
theorem notint_some {l : List PyData} (h : l.all isIntB = false) : (!((l.filter fun z => !isIntB z).map id).isEmpty) = true := by
  obtain ⟨z, hz, hf⟩ := List.all_eq_false.mp h
  have hm : z ∈ (l.filter fun z => !isIntB z).map id := by
    rw [List.map_id]
    exact List.mem_filter.mpr ⟨hz, by simpa using hf⟩
  cases hq : (l.filter fun z => !isIntB z).map id with
  | nil => rw [hq] at hm; cases hm
  | cons _ _ => rfl
theorem eI_max {ties : List (Int × Int)} {r : List Int} {x : Int} : (eI ties r x ∈ [(ix r (tI ties x).1 : Int), (ix r (tI ties x).2 : Int)] ∧ ∀ y ∈ [(ix r (tI ties x).1 : Int), (ix r (tI ties x).2 : Int)], y ≤ eI ties r x) := by
  unfold eI spotsM
  split <;> simp <;> omega
theorem bI_min {ties : List (Int × Int)} {r : List Int} {x : Int} : (bI ties r x ∈ [(ix r (tI ties x).1 : Int), (ix r (tI ties x).2 : Int)] ∧ ∀ y ∈ [(ix r (tI ties x).1 : Int), (ix r (tI ties x).2 : Int)], bI ties r x ≤ y) := by
  unfold bI spotsM
  split <;> simp <;> omega
theorem tie_ix {ties : List (Int × Int)} {x : Int} (h : 0 ≤ x ∧ x < ties.length) : L2.atI (ties.map pairD) x = some (pairD (tI ties x)) := by
  have e : x = ((x.toNat : Nat) : Int) := (Int.toNat_of_nonneg h.1).symm
  have h2 := tI_at h
  rw [e]
  refine L2.atI_nat ?_
  rw [List.getElem?_map, h2]
  rfl
theorem f_lisrun {m : Md} {f : Addr} {fd : FuncData} (B : Blt m) (F : Fun m.K "_law_is_run" "_law_is_run" (topS 23) f fd) (hb : Binds m.K fd ["_law_web_here", "_law_row_here", "_law_kind", "_law_some", "_law_thing"] []) (hm : m.mg "_law_is_run" = some (.ref f)) : Fn m "_law_is_run" 1 rLIsRun :=
  fn_ok (N := ["_law_web_here", "_law_row_here", "_law_kind", "_law_some", "_law_thing", "_law_held", "_law_at", "_law_after", "_law_tie", "_law_ends", "_law_place", "_law_begins", "_law_turn"]) F hb hm ⟨rfl, rfl, rfl, by decide +kernel, rfl, by decide +kernel, by decide +kernel⟩ (by decide +kernel) (fun ds d ⟨_, _, _, _, _, _, h, _⟩ => by rw [h]; rfl) fun ds d ⟨mm, ties, r, so, k, x, h, wr, ok, h60, hm60, hx, hd⟩ => by
    subst h hd
    have hrl : (r.map PyData.int).length = mm := by rw [List.length_map, wrow_len wr]
    have hsl := ok.len
    by_cases c : ∃ l, x = .tuple l
    · obtain ⟨l, rfl⟩ := c
      obtain ⟨hl1, hok⟩ := hx.2 l rfl
      by_cases hl : l.length = mm
      · have hgo : lisRunB ties r k so mm (.tuple l) = goEnd (goS (stepL (bI ties r) (eI ties r) k so) [] (l.zipIdx 0)) := by
          show (decide (l.length = mm) && lgo (bI ties r) (eI ties r) k so ((0 : Nat) : Int) [] l) = _
          rw [decide_eq_true hl, Bool.true_and, lgo_eq]
          cases goS (stepL (bI ties r) (eI ties r) k so) [] (l.zipIdx 0) <;> rfl
        rw [hgo]
        refine (dss_if (k := false) (DT.conv (dt_w (dw_or (k := false) (j := false) (DT.conv (dt_not (dt_val (dv_isi B (by first | decide +kernel | (dsimp only [Ct.blk, locB]; decide +kernel)) (.tuple B) (by first | decide +kernel | (dsimp only [Ct.blk, locB]; decide +kernel)) (dv_n 4 rfl (by first | decide +kernel | (dsimp only [Ct.blk, locB]; decide +kernel)) rfl) rfl))) rfl) (fun _ => (dw_or1 (DT.conv (dt_c (dc_ne (dv_lent B (by first | decide +kernel | (dsimp only [Ct.blk, locB]; decide +kernel)) (dv_n 4 rfl (by first | decide +kernel | (dsimp only [Ct.blk, locB]; decide +kernel)) rfl) (.tup _)) (dv_lent B (by first | decide +kernel | (dsimp only [Ct.blk, locB]; decide +kernel)) (dv_n 1 rfl (by first | decide +kernel | (dsimp only [Ct.blk, locB]; decide +kernel)) rfl) (.tup _)) (nc_int _).sh (nc_int _).sh)) ?len))))) rfl) (fun hb => by cases hb) (fun hb => (dss_cons (ds_set 5 rfl (by first | decide +kernel | (dsimp only [Ct.blk, locB]; decide +kernel)) (DV.conv (d' := .list (([] : List Int).map .int)) (dn_dv (dn_lst da_nil (by simp))) rfl)) (dss_go (sd := fun bf : List Int => [some (webD mm ties), some (rowD r), some (.str k.t), some (soD so), some (.tuple l), some (.list (bf.map .int)), none, none, none, none, none, none, none]) (ds_for2 6 7 (dg_two 6 7 rfl (by first | decide +kernel | (dsimp only [Ct.blk, locB]; decide +kernel)) rfl (by first | decide +kernel | (dsimp only [Ct.blk, locB]; decide +kernel))) (DI.conv (di_enum B (by first | decide +kernel | (dsimp only [Ct.blk, locB]; decide +kernel)) (dv_n 4 rfl (by first | decide +kernel | (dsimp only [Ct.blk, locB]; decide +kernel)) rfl) (.tup _)) (numbered_zip l)) (dfor_go (fun q => .tuple [natD q.2, q.1]) (fun bf : List Int => [some (webD mm ties), some (rowD r), some (.str k.t), some (soD so), some (.tuple l), some (.list (bf.map .int)), none, none, none, none, none, none, none]) (stepL (bI ties r) (eI ties r) k so) (fun _ => True) (l.zipIdx 0) [] trivial ?step)) (fun bf hb => (dss_end (ds_ret (DV.conv (dv_c (dc_eq (dv_n 5 rfl (by first | decide +kernel | (dsimp only [Ct.blk, locB]; decide +kernel)) rfl) (dn_dv (dn_lst da_nil (by simp))) (sh_ints _) (by rfl))) ?fin)))) (fun hb => by rw [hb]; rfl)))))
        case len =>
          rw [hrl, hl, (nc_int _).eq_self]
          rfl
        case fin =>
          rw [hb]
          exact congrArg PyData.bool (eqv_ints bf [])
        case step =>
          rintro ⟨y, i⟩ hq h _
          obtain ⟨hnd, hin⟩ := hok y (zip_mem hq)
          refine ⟨_, rfl, by simp [ofree], ?_⟩
          dsimp only
          by_cases cy : ∃ l2, y = .tuple l2
          · obtain ⟨l2, rfl⟩ := cy
            obtain ⟨hl2, hz⟩ := hin l2 rfl
            cases ha : l2.all isIntB with
            | false =>
              refine .inr ⟨by unfold stepL; dsimp only; rw [int_not ha], ?_⟩
              exact (dss_if (k := false) (DT.conv (dt_not (dt_val (dv_isi B (by first | decide +kernel | (dsimp only [Ct.blk, locB]; decide +kernel)) (.tuple B) (by first | decide +kernel | (dsimp only [Ct.blk, locB]; decide +kernel)) (dv_n 7 rfl (by first | decide +kernel | (dsimp only [Ct.blk, locB]; decide +kernel)) rfl) rfl))) rfl) (fun hb => by cases hb) (fun hb => (dss_if (k := true) (DT.conv (dt_seq (dn_dv (dn_lc1 8 [("_law_tie", 8)] (by first | decide +kernel | (dsimp only [Ct.blk, locB]; decide +kernel)) (di_seq (dv_n 7 rfl (by first | decide +kernel | (dsimp only [Ct.blk, locB]; decide +kernel)) rfl) (.tup _)) (dg_one 8 rfl (by first | decide +kernel | (dsimp only [Ct.blk, locB]; decide +kernel))) (turns_filter id (fun z => !isIntB z) l2 (fun z hzz => ⟨_, rfl, DT.conv (dt_w (dw_or (dt_not (dt_val (dv_isi B (by first | decide +kernel | (dsimp only [Ct.blk, locB]; decide +kernel)) (.int B) (by first | decide +kernel | (dsimp only [Ct.blk, locB]; decide +kernel)) (dv_n 8 rfl (by first | decide +kernel | (dsimp only [Ct.blk, locB]; decide +kernel)) rfl) (hz z hzz)))) (fun _ => dw_or1 (dt_val (dv_isi B (by first | decide +kernel | (dsimp only [Ct.blk, locB]; decide +kernel)) (.bool B) (by first | decide +kernel | (dsimp only [Ct.blk, locB]; decide +kernel)) (dv_n 8 rfl (by first | decide +kernel | (dsimp only [Ct.blk, locB]; decide +kernel)) rfl) (hz z hzz)))))) (notint_b z), fun hk => (dv_n 8 rfl (by first | decide +kernel | (dsimp only [Ct.blk, locB]; decide +kernel)) rfl)⟩)) (by omega))) (.lst _)) (notint_some ha)) (fun hb => ⟨_, rfl, (dss_end (ds_ret dv_bl))⟩) (fun hb => by cases hb))))
            | true =>
              obtain ⟨af, rfl⟩ := int_all ha
              have hsp : stepL (bI ties r) (eI ties r) k so h (.tuple (af.map PyData.int), i) = afterGo af (endsF (bI ties r) so (i : Int)) (goS (popS k (endsF (eI ties r) so (i : Int))) h (List.range (endsF (eI ties r) so (i : Int)).length)) := by
                have ht : tupI (.tuple (af.map PyData.int)) = some af := tupI_D af
                have hp := popAll_go k (endsF (eI ties r) so (i : Int)) (List.range (endsF (eI ties r) so (i : Int)).length) h
                rw [List.length_range] at hp
                unfold stepL
                dsimp only
                rw [ht]
                dsimp only
                rw [hp]
                cases goS (popS k (endsF (eI ties r) so (i : Int))) h (List.range (endsF (eI ties r) so (i : Int)).length) <;> rfl
              refine alt_of (sd2 := fun bf : List Int => [some (webD mm ties), some (rowD r), some (.str k.t), some (soD so), some (.tuple l), some (.list (bf.map .int)), none, none, none, none, none, none, none]) hsp ?walk (fun b' => Le.refl _)
              have hen : (endsF (eI ties r) so (i : Int)).length ≤ so.length := List.length_filter_le _ _
              have hbn : (endsF (bI ties r) so (i : Int)).length ≤ so.length := List.length_filter_le _ _
              have henl : ((endsF (eI ties r) so (i : Int)).map PyData.int).length = (endsF (eI ties r) so (i : Int)).length := List.length_map _
              refine (dss_if (k := false) (DT.conv (dt_not (dt_val (dv_isi B (by first | decide +kernel | (dsimp only [Ct.blk, locB]; decide +kernel)) (.tuple B) (by first | decide +kernel | (dsimp only [Ct.blk, locB]; decide +kernel)) (dv_n 7 rfl (by first | decide +kernel | (dsimp only [Ct.blk, locB]; decide +kernel)) rfl) rfl))) rfl) (fun hb => by cases hb) (fun hb => (dss_if (k := false) (DT.conv (dt_seq (dn_dv (dn_lc1 8 [("_law_tie", 8)] (by first | decide +kernel | (dsimp only [Ct.blk, locB]; decide +kernel)) (di_seq (dv_n 7 rfl (by first | decide +kernel | (dsimp only [Ct.blk, locB]; decide +kernel)) rfl) (.tup _)) (dg_one 8 rfl (by first | decide +kernel | (dsimp only [Ct.blk, locB]; decide +kernel))) (turns_filter id (fun z => !isIntB z) (af.map PyData.int) (fun z hzz => ⟨_, rfl, DT.conv (dt_w (dw_or (dt_not (dt_val (dv_isi B (by first | decide +kernel | (dsimp only [Ct.blk, locB]; decide +kernel)) (.int B) (by first | decide +kernel | (dsimp only [Ct.blk, locB]; decide +kernel)) (dv_n 8 rfl (by first | decide +kernel | (dsimp only [Ct.blk, locB]; decide +kernel)) rfl) (hz z hzz)))) (fun _ => dw_or1 (dt_val (dv_isi B (by first | decide +kernel | (dsimp only [Ct.blk, locB]; decide +kernel)) (.bool B) (by first | decide +kernel | (dsimp only [Ct.blk, locB]; decide +kernel)) (dv_n 8 rfl (by first | decide +kernel | (dsimp only [Ct.blk, locB]; decide +kernel)) rfl) (hz z hzz)))))) (notint_b z), fun hk => (dv_n 8 rfl (by first | decide +kernel | (dsimp only [Ct.blk, locB]; decide +kernel)) rfl)⟩)) (by omega))) (.lst _)) (notint_all ha)) (fun hb => by cases hb) (fun hb =>
                (dss_cons (ds_lc1 9 8 [("_law_tie", 8)] rfl (by first | decide +kernel | (dsimp only [Ct.blk, locB]; decide +kernel)) (by first | decide +kernel | (dsimp only [Ct.blk, locB]; decide +kernel)) (by rfl) (by first | decide +kernel | (dsimp only [Ct.blk, locB]; decide +kernel)) (by first | decide +kernel | (dsimp only [Ct.blk, locB]; decide +kernel)) (di_seq (dv_n 3 rfl (by first | decide +kernel | (dsimp only [Ct.blk, locB]; decide +kernel)) rfl) (.tup _)) (dg_one 8 rfl (by first | decide +kernel | (dsimp only [Ct.blk, locB]; decide +kernel))) (turns_filtT PyData.int PyData.int (fun x => decide (eI ties r x = (i : Int))) so (fun x hx => ⟨_, rfl, ?ce, fun hk => (dv_n 8 rfl (by first | decide +kernel | (dsimp only [Ct.blk, locB]; decide +kernel)) rfl)⟩)) ?sz1)
                (dss_cons (ds_lc1 11 8 [("_law_tie", 8)] rfl (by first | decide +kernel | (dsimp only [Ct.blk, locB]; decide +kernel)) (by first | decide +kernel | (dsimp only [Ct.blk, locB]; decide +kernel)) (by rfl) (by first | decide +kernel | (dsimp only [Ct.blk, locB]; decide +kernel)) (by first | decide +kernel | (dsimp only [Ct.blk, locB]; decide +kernel)) (di_seq (dv_n 3 rfl (by first | decide +kernel | (dsimp only [Ct.blk, locB]; decide +kernel)) rfl) (.tup _)) (dg_one 8 rfl (by first | decide +kernel | (dsimp only [Ct.blk, locB]; decide +kernel))) (turns_filtT PyData.int PyData.int (fun x => decide (bI ties r x = (i : Int))) so (fun x hx => ⟨_, rfl, ?cb, fun hk => (dv_n 8 rfl (by first | decide +kernel | (dsimp only [Ct.blk, locB]; decide +kernel)) rfl)⟩)) ?sz2)
                (DSs.pre (δ2 := [some (webD mm ties), some (rowD r), some (.str k.t), some (soD so), some (.tuple l), some (.list (h.map .int)), some (natD i), some (tupD af), none, some (.list ((endsF (eI ties r) so (i : Int)).map .int)), none, some (.list ((endsF (bI ties r) so (i : Int)).map .int)), none]) (dss_go (o := goS (popS k (endsF (eI ties r) so (i : Int))) h (List.range (endsF (eI ties r) so (i : Int)).length)) (sd := fun h' : List Int => [some (webD mm ties), some (rowD r), some (.str k.t), some (soD so), some (.tuple l), some (.list (h'.map .int)), some (natD i), some (tupD af), none, some (.list ((endsF (eI ties r) so (i : Int)).map .int)), none, some (.list ((endsF (bI ties r) so (i : Int)).map .int)), none]) (ds_for1 12 (dg_one 12 rfl (by first | decide +kernel | (dsimp only [Ct.blk, locB]; decide +kernel))) (DI1.conv (i2 := (List.range (endsF (eI ties r) so (i : Int)).length).map natD) (di_rng B (by first | decide +kernel | (dsimp only [Ct.blk, locB]; decide +kernel)) (dv_lent B (by first | decide +kernel | (dsimp only [Ct.blk, locB]; decide +kernel)) (dv_n 9 rfl (by first | decide +kernel | (dsimp only [Ct.blk, locB]; decide +kernel)) rfl) (.lst _)) ?sz3) (by rw [henl])) (dfor_go natD (fun h' : List Int => [some (webD mm ties), some (rowD r), some (.str k.t), some (soD so), some (.tuple l), some (.list (h'.map .int)), some (natD i), some (tupD af), none, some (.list ((endsF (eI ties r) so (i : Int)).map .int)), none, some (.list ((endsF (bI ties r) so (i : Int)).map .int)), none]) (popS k (endsF (eI ties r) so (i : Int))) (fun _ => True) (List.range (endsF (eI ties r) so (i : Int)).length) h trivial ?pop)) (fun h' hb => ?rest) (fun hb => by rw [hb]; rfl)) (.cons (.cons (.cons (.cons (.cons (.cons (.cons (.cons (.drop (.cons (.drop (.cons (.drop .nil))))))))))))))))))))
              case sz1 => rw [List.length_map]; omega
              case sz2 => rw [List.length_map]; omega
              case sz3 => rw [henl]; omega
              case ce =>
                have g := ok.rng x hx
                obtain ⟨h1, h2, h3⟩ := tI_mem wr g
                exact DT.conv (dt_c (dc_eq (dv_maxl (ns := [(ix r (tI ties x).1 : Int), (ix r (tI ties x).2 : Int)]) (m := eI ties r x) B (by first | decide +kernel | (dsimp only [Ct.blk, locB]; decide +kernel)) (dn_dv (dn_lc1 10 [("_law_place", 10)] (by first | decide +kernel | (dsimp only [Ct.blk, locB]; decide +kernel)) (di_seq (dv_ixt (dv_ixt (dv_n 0 rfl (by first | decide +kernel | (dsimp only [Ct.blk, locB]; decide +kernel)) rfl) dv_int rfl) (dv_n 8 rfl (by first | decide +kernel | (dsimp only [Ct.blk, locB]; decide +kernel)) rfl) (tie_ix g)) (.tup _)) (dg_one 10 rfl (by first | decide +kernel | (dsimp only [Ct.blk, locB]; decide +kernel))) (turns_mapT PyData.int (fun z => .int (ix r z)) [(tI ties x).1, (tI ties x).2] (fun z hzz => ⟨_, rfl, dv_tix (dv_n 1 rfl (by first | decide +kernel | (dsimp only [Ct.blk, locB]; decide +kernel)) rfl) (dv_n 10 rfl (by first | decide +kernel | (dsimp only [Ct.blk, locB]; decide +kernel)) rfl) (ix_get (mem2 hzz h1 h2)) (fun _ => ix_no)⟩)) (by simp))) eI_max.1 eI_max.2) (dv_n 6 rfl (by first | decide +kernel | (dsimp only [Ct.blk, locB]; decide +kernel)) rfl) (nc_int _).sh (nc_int _).sh)) (eqv_int _ _)
              case cb =>
                have g := ok.rng x hx
                obtain ⟨h1, h2, h3⟩ := tI_mem wr g
                exact DT.conv (dt_c (dc_eq (dv_minl (ns := [(ix r (tI ties x).1 : Int), (ix r (tI ties x).2 : Int)]) (m := bI ties r x) B (by first | decide +kernel | (dsimp only [Ct.blk, locB]; decide +kernel)) (dn_dv (dn_lc1 10 [("_law_place", 10)] (by first | decide +kernel | (dsimp only [Ct.blk, locB]; decide +kernel)) (di_seq (dv_ixt (dv_ixt (dv_n 0 rfl (by first | decide +kernel | (dsimp only [Ct.blk, locB]; decide +kernel)) rfl) dv_int rfl) (dv_n 8 rfl (by first | decide +kernel | (dsimp only [Ct.blk, locB]; decide +kernel)) rfl) (tie_ix g)) (.tup _)) (dg_one 10 rfl (by first | decide +kernel | (dsimp only [Ct.blk, locB]; decide +kernel))) (turns_mapT PyData.int (fun z => .int (ix r z)) [(tI ties x).1, (tI ties x).2] (fun z hzz => ⟨_, rfl, dv_tix (dv_n 1 rfl (by first | decide +kernel | (dsimp only [Ct.blk, locB]; decide +kernel)) rfl) (dv_n 10 rfl (by first | decide +kernel | (dsimp only [Ct.blk, locB]; decide +kernel)) rfl) (ix_get (mem2 hzz h1 h2)) (fun _ => ix_no)⟩)) (by simp))) bI_min.1 bI_min.2) (dv_n 6 rfl (by first | decide +kernel | (dsimp only [Ct.blk, locB]; decide +kernel)) rfl) (nc_int _).sh (nc_int _).sh)) (eqv_int _ _)
              case pop =>
                generalize endsF (eI ties r) so (i : Int) = en
                generalize endsF (bI ties r) so (i : Int) = bg
                intro z _ g _
                refine ⟨_, rfl, by simp [ofree], ?_⟩
                refine alt_of (o := popS k en g z) (sd2 := fun h' : List Int => [some (webD mm ties), some (rowD r), some (.str k.t), some (soD so), some (.tuple l), some (.list (h'.map .int)), some (natD i), some (tupD af), none, some (.list (en.map .int)), none, some (.list (bg.map .int)), none]) rfl ?_ (fun b' => Le.refl _)
                by_cases hg : g = []
                · subst hg
                  have e : popS k en [] z = none := if_pos (.inl rfl)
                  rw [e]
                  exact (dss_if (k := true) (DT.conv (dt_w (dw_or (k := true) (j := true) (DT.conv (dt_not (dt_seq (dv_n 5 rfl (by first | decide +kernel | (dsimp only [Ct.blk, locB]; decide +kernel)) rfl) (.lst _))) rfl) (fun h => by cases h))) rfl) (fun hb => ⟨_, rfl, (dss_end (ds_ret dv_bl))⟩) (fun hb => by cases hb))
                · have ge : (g.map PyData.int).isEmpty = false := by
                    cases g with
                    | nil => exact absurd rfl hg
                    | cons _ _ => rfl
                  refine (dss_if (k := !decide (topK k g ∈ en)) (DT.conv (dt_w (dw_or (k := false) (j := !decide (topK k g ∈ en)) (DT.conv (dt_not (dt_seq (dv_n 5 rfl (by first | decide +kernel | (dsimp only [Ct.blk, locB]; decide +kernel)) rfl) (.lst _))) (by rw [ge]; rfl)) (fun _ => (dw_or1 (DT.conv (dt_c (dc_notin (dv_ixl (dv_n 5 rfl (by first | decide +kernel | (dsimp only [Ct.blk, locB]; decide +kernel)) rfl) (dv_ixl (d := .int (iK k)) (dn_dv (dn_lst (da_cons dv_int (da_cons (dv_neg dv_int) da_nil)) (by simp))) (dv_int1 B (by first | decide +kernel | (dsimp only [Ct.blk, locB]; decide +kernel)) (dv_c (dc_eq (dv_n 2 rfl (by first | decide +kernel | (dsimp only [Ct.blk, locB]; decide +kernel)) rfl) dv_str (kd_sh k) (by decide +kernel))) (.bl _)) ?ix2) (top_at hg)) (dv_n 9 rfl (by first | decide +kernel | (dsimp only [Ct.blk, locB]; decide +kernel)) rfl) (.lst _) (nc_int _).sh (sh_ints _))) (congrArg (!·) (any_map PyData.int eqv_int en (topK k g)))))))) rfl) (fun hb => ⟨_, ?o, (dss_end (ds_ret dv_bl))⟩) (fun hb => ?go))
                  case ix2 => cases k <;> rfl
                  case o =>
                    have hne : topK k g ∉ en := by simpa using hb
                    have e : popS k en g z = none := if_pos (.inr hne)
                    rw [e]
                    rfl
                  case go =>
                    have hin2 : topK k g ∈ en := by simpa using hb
                    have e : popS k en g z = some (popK k g) := if_neg (by simp [hg, hin2])
                    rw [e]
                    refine (dss_cons (ds_if (k := decide (k = .pile)) (out := .next [some (webD mm ties), some (rowD r), some (.str k.t), some (soD so), some (.tuple l), some (.list ((popK k g).map .int)), some (natD i), some (tupD af), none, some (.list (en.map .int)), none, some (.list (bg.map .int)), none] []) ?test ?thn ?els) dss_nil)
                    case test => exact DT.conv (dt_c (dc_eq (dv_n 2 rfl (by first | decide +kernel | (dsimp only [Ct.blk, locB]; decide +kernel)) rfl) dv_str (kd_sh k) (by decide +kernel))) (by cases k <;> decide +kernel)
                    case thn =>
                      intro hk
                      obtain rfl := of_decide_eq_true hk
                      exact DSs.weak (dss_cons (ds_set 5 rfl (by first | decide +kernel | (dsimp only [Ct.blk, locB]; decide +kernel)) (DV.conv (d' := .list ((popK .pile g).map .int)) (dn_dv (dn_sl (dv_n 5 rfl (by first | decide +kernel | (dsimp only [Ct.blk, locB]; decide +kernel)) rfl) do_none (do_some (dv_neg dv_int)))) (by rw [cut_map]; rfl))) dss_nil) (.cons (.cons (.cons (.cons (.cons (.cons (.cons (.cons (.drop (.cons (.drop (.cons (.drop .nil)))))))))))))
                    case els =>
                      intro hk
                      cases k with
                      | pile => cases hk
                      | queue => exact DSs.weak (dss_cons (ds_set 5 rfl (by first | decide +kernel | (dsimp only [Ct.blk, locB]; decide +kernel)) (DV.conv (d' := .list ((popK .queue g).map .int)) (dn_dv (dn_sl (dv_n 5 rfl (by first | decide +kernel | (dsimp only [Ct.blk, locB]; decide +kernel)) rfl) (do_some dv_int) do_none)) (by rw [cut_map]; rfl))) dss_nil) (.cons (.cons (.cons (.cons (.cons (.cons (.cons (.cons (.drop (.cons (.drop (.cons (.drop .nil)))))))))))))
              case rest =>
                rw [hb]
                have hlen : (h'.map PyData.int).length = h'.length := List.length_map _
                generalize endsF (eI ties r) so (i : Int) = en
                generalize endsF (bI ties r) so (i : Int) = bg
                refine (dss_if (k := !(decide (cutD af none (some (h'.length : Int)) = h') && decide (sortI (cutD af (some (h'.length : Int)) none) = bg))) (DT.conv (dt_w (dw_or (k := !decide (cutD af none (some (h'.length : Int)) = h')) (j := !decide (sortI (cutD af (some (h'.length : Int)) none) = bg)) (DT.conv (dt_c (dc_ne (DV.conv (d' := .list ((cutD af none (some (h'.length : Int))).map .int)) (dn_dv (dn_list B (by first | decide +kernel | (dsimp only [Ct.blk, locB]; decide +kernel)) (dv_slt (dv_n 7 rfl (by first | decide +kernel | (dsimp only [Ct.blk, locB]; decide +kernel)) rfl) do_none (do_some (DV.conv (d' := natD h'.length) (dv_lent B (by first | decide +kernel | (dsimp only [Ct.blk, locB]; decide +kernel)) (dv_n 5 rfl (by first | decide +kernel | (dsimp only [Ct.blk, locB]; decide +kernel)) rfl) (.lst _)) (by rw [hlen])))) (.tup _))) (by rw [cut_map])) (dv_n 5 rfl (by first | decide +kernel | (dsimp only [Ct.blk, locB]; decide +kernel)) rfl) (sh_ints _) (sh_ints _))) (congrArg (!·) (eqv_ints _ _))) (fun _ => (dw_or1 (DT.conv (dt_c (dc_ne (dn_dv (dn_sortedT (ns := cutD af (some (h'.length : Int)) none) (ms := sortI (cutD af (some (h'.length : Int)) none)) B (by first | decide +kernel | (dsimp only [Ct.blk, locB]; decide +kernel)) (DV.conv (d' := .tuple ((cutD af (some (h'.length : Int)) none).map .int)) (dv_slt (dv_n 7 rfl (by first | decide +kernel | (dsimp only [Ct.blk, locB]; decide +kernel)) rfl) (do_some (DV.conv (d' := natD h'.length) (dv_lent B (by first | decide +kernel | (dsimp only [Ct.blk, locB]; decide +kernel)) (dv_n 5 rfl (by first | decide +kernel | (dsimp only [Ct.blk, locB]; decide +kernel)) rfl) (.lst _)) (by rw [hlen]))) do_none) (by rw [cut_map])) (sortI_perm _) (sortI_pw _))) (dv_n 11 rfl (by first | decide +kernel | (dsimp only [Ct.blk, locB]; decide +kernel)) rfl) (sh_ints _) (sh_ints _))) (congrArg (!·) (eqv_ints _ _))))))) (by rw [Bool.not_and])) (fun hb => ⟨_, ?o2, (dss_end (ds_ret dv_bl))⟩) (fun hb => ?fin2))
                case o2 =>
                  have hne : ¬ (cutD af none (some (h'.length : Int)) = h' ∧ sortI (cutD af (some (h'.length : Int)) none) = bg) := fun z => by
                    rw [decide_eq_true z.1, decide_eq_true z.2] at hb
                    cases hb
                  have e : afterGo af bg (some h') = none := if_neg hne
                  rw [e]
                  rfl
                case fin2 =>
                  have hye : cutD af none (some (h'.length : Int)) = h' ∧ sortI (cutD af (some (h'.length : Int)) none) = bg := by
                    rw [Bool.not_eq_false', Bool.and_eq_true, decide_eq_true_eq, decide_eq_true_eq] at hb
                    exact hb
                  have e : afterGo af bg (some h') = some af := if_pos hye
                  rw [e]
                  exact DSs.weak (dss_cons (ds_set 5 rfl (by first | decide +kernel | (dsimp only [Ct.blk, locB]; decide +kernel)) (DV.conv (d' := .list (af.map .int)) (dn_dv (dn_list B (by first | decide +kernel | (dsimp only [Ct.blk, locB]; decide +kernel)) (dv_n 7 rfl (by first | decide +kernel | (dsimp only [Ct.blk, locB]; decide +kernel)) rfl) (.tup _))) rfl)) dss_nil) (.cons (.cons (.cons (.cons (.cons (.cons (.drop (.drop (.drop (.drop (.drop (.drop (.drop .nil)))))))))))))
          · obtain ⟨nt, ni⟩ := not_tup cy
            refine .inr ⟨by unfold stepL; dsimp only; rw [ni], ?_⟩
            exact (dss_if (k := true) (DT.conv (dt_not (dt_val (dv_isi B (by first | decide +kernel | (dsimp only [Ct.blk, locB]; decide +kernel)) (.tuple B) (by first | decide +kernel | (dsimp only [Ct.blk, locB]; decide +kernel)) (dv_n 7 rfl (by first | decide +kernel | (dsimp only [Ct.blk, locB]; decide +kernel)) rfl) hnd))) (by rw [nt]; rfl)) (fun hb => ⟨_, rfl, (dss_end (ds_ret dv_bl))⟩) (fun hb => by cases hb))
      · have hf : lisRunB ties r k so mm (.tuple l) = false := by
          show (decide (l.length = mm) && _) = false
          rw [decide_eq_false hl, Bool.false_and]
        rw [hf]
        refine (dss_if (k := true) (DT.conv (dt_w (dw_or (k := false) (j := true) (DT.conv (dt_not (dt_val (dv_isi B (by first | decide +kernel | (dsimp only [Ct.blk, locB]; decide +kernel)) (.tuple B) (by first | decide +kernel | (dsimp only [Ct.blk, locB]; decide +kernel)) (dv_n 4 rfl (by first | decide +kernel | (dsimp only [Ct.blk, locB]; decide +kernel)) rfl) rfl))) rfl) (fun _ => (dw_or1 (DT.conv (dt_c (dc_ne (dv_lent B (by first | decide +kernel | (dsimp only [Ct.blk, locB]; decide +kernel)) (dv_n 4 rfl (by first | decide +kernel | (dsimp only [Ct.blk, locB]; decide +kernel)) rfl) (.tup _)) (dv_lent B (by first | decide +kernel | (dsimp only [Ct.blk, locB]; decide +kernel)) (dv_n 1 rfl (by first | decide +kernel | (dsimp only [Ct.blk, locB]; decide +kernel)) rfl) (.tup _)) (nc_int _).sh (nc_int _).sh)) ?len))))) rfl) (fun hb => ⟨_, rfl, (dss_end (ds_ret dv_bl))⟩) (fun hb => by cases hb))
        unfold natD
        rw [hrl, eqv_int, decide_eq_false (by omega)]
        rfl
    · obtain ⟨nt, _⟩ := not_tup c
      have hf : lisRunB ties r k so mm x = false := by cases x <;> first | rfl | (exact absurd ⟨_, rfl⟩ c)
      rw [hf]
      exact (dss_if (k := true) (DT.conv (dt_w (dw_or (k := true) (j := true) (DT.conv (dt_not (dt_val (dv_isi B (by first | decide +kernel | (dsimp only [Ct.blk, locB]; decide +kernel)) (.tuple B) (by first | decide +kernel | (dsimp only [Ct.blk, locB]; decide +kernel)) (dv_n 4 rfl (by first | decide +kernel | (dsimp only [Ct.blk, locB]; decide +kernel)) rfl) hx.1))) (by rw [nt]; rfl)) (fun h => by cases h))) rfl) (fun hb => ⟨_, rfl, (dss_end (ds_ret dv_bl))⟩) (fun hb => by cases hb))
theorem ten_eq (hs : List (List Int)) (a : Nat) : [PyData.tuple ((hs.take a).map tupD ++ [.tuple ((hs.getD a []).map PyData.int).reverse] ++ (hs.drop (a + 1)).map tupD), .tuple ((hs.take a).map tupD ++ (hs.drop (a + 1)).map tupD), .tuple (hs.map tupD ++ [.tuple []]), .list (hs.map tupD), .none] ++ [PyData.tuple ((hs.take a).map tupD ++ [.tuple (cutD ((hs.getD a []).map PyData.int) (some 1) none)] ++ (hs.drop (a + 1)).map tupD), .tuple ((hs.take a).map tupD ++ [.tuple ((hs.getD a []).map PyData.int ++ [.int 0])] ++ (hs.drop (a + 1)).map tupD), .tuple (hs.map tupD).reverse] ++ [PyData.tuple ((hs.take a).map tupD ++ [.list ((hs.getD a []).map PyData.int)] ++ (hs.drop (a + 1)).map tupD), .tuple ((hs.take a).map tupD ++ [.tuple ((hs.getD a []).map PyData.int ++ [.none])] ++ (hs.drop (a + 1)).map tupD)] = spots10 hs a := by
  unfold spots10
  have e1 : cutD ((hs.getD a []).map PyData.int) (some 1) none = ((hs.getD a []).drop 1).map PyData.int := by
    rw [cut_map]
    exact congrArg _ (cut_dropn (hs.getD a []) 1)
  rw [e1]
  simp only [List.map_append, List.map_reverse, List.cons_append, List.nil_append, List.map_cons, List.map_nil]
  unfold tupD
  simp only [List.map_append, List.map_reverse, List.map_cons, List.map_nil]
theorem f_spoilt {m : Md} {f : Addr} {fd : FuncData} (B : Blt m) (F : Fun m.K "_law_spoilt" "_law_spoilt" (topS 24) f fd) (hb : Binds m.K fd ["_law_found", "_law_cell_here"] []) (hm : m.mg "_law_spoilt" = some (.ref f)) : Fn m "_law_spoilt" 1 rSpoilt :=
  fn_ok (N := ["_law_found", "_law_cell_here", "_law_at", "_law_part", "_law_some"]) F hb hm ⟨rfl, rfl, rfl, by decide +kernel, rfl, by decide +kernel, by decide +kernel⟩ (by decide +kernel) (fun ds d ⟨_, _, h, _⟩ => by rw [h]; rfl) fun ds d ⟨hs, z, h, h0, h60, hi, hd⟩ => by
    subst h hd
    have hlen : (hs.map tupD).length = hs.length := List.length_map _
    have hz0 : 0 ≤ z % (hs.length : Int) := Int.emod_nonneg _ (by omega)
    have hz1 : z % (hs.length : Int) < hs.length := Int.emod_lt_of_pos _ (by omega)
    unfold spoiltD
    have ea : z % (hs.length : Int) = (((z % (hs.length : Int)).toNat : Nat) : Int) := (Int.toNat_of_nonneg hz0).symm
    have hal : (z % (hs.length : Int)).toNat < hs.length := by omega
    generalize ha : (z % (hs.length : Int)).toNat = a at ea hal
    have hpl : (hs.getD a []).length ≤ 60 := getD_in (P := fun h : List Int => h.length ≤ 60) a (by simp) hi
    have hpm : ((hs.getD a []).map PyData.int).length = (hs.getD a []).length := List.length_map _
    have lt : ((hs.take a).map tupD).length ≤ 60 := by rw [List.length_map, List.length_take]; omega
    have ld : ((hs.drop (a + 1)).map tupD).length ≤ 60 := by rw [List.length_map, List.length_drop]; omega
    have h80 : 0 ≤ z / 8 % 10 := Int.emod_nonneg _ (by omega)
    have h81 : z / 8 % 10 < 10 := Int.emod_lt_of_pos _ (by omega)
    have e8 : z / 8 % 10 = (((z / 8 % 10).toNat : Nat) : Int) := (Int.toNat_of_nonneg h80).symm
    have h8l : (z / 8 % 10).toNat < 10 := by omega
    generalize (z / 8 % 10).toNat = q at e8 h8l
    refine (dss_cons (ds_set 2 rfl (by first | decide +kernel | (dsimp only [Ct.blk, locB]; decide +kernel)) (DV.conv (d' := natD a) (dv_mod (dv_n 1 rfl (by first | decide +kernel | (dsimp only [Ct.blk, locB]; decide +kernel)) rfl) (dv_lent B (by first | decide +kernel | (dsimp only [Ct.blk, locB]; decide +kernel)) (dv_n 0 rfl (by first | decide +kernel | (dsimp only [Ct.blk, locB]; decide +kernel)) rfl) (.tup _)) (by rw [hlen]; omega)) (by rw [hlen, ea])))
      (dss_cons (ds_set 3 rfl (by first | decide +kernel | (dsimp only [Ct.blk, locB]; decide +kernel)) (dv_ixt (dv_n 0 rfl (by first | decide +kernel | (dsimp only [Ct.blk, locB]; decide +kernel)) rfl) (dv_n 2 rfl (by first | decide +kernel | (dsimp only [Ct.blk, locB]; decide +kernel)) rfl) (d := tupD (hs.getD a [])) ?ix))
      (dss_cons (ds_set 4 rfl (by first | decide +kernel | (dsimp only [Ct.blk, locB]; decide +kernel)) (dn_dv (dn_lst (da_cons (dv_addt (dv_addt (DV.conv (d' := .tuple ((hs.take a).map tupD)) (dv_slt (dv_n 0 rfl (by first | decide +kernel | (dsimp only [Ct.blk, locB]; decide +kernel)) rfl) do_none (do_some (dv_n 2 rfl (by first | decide +kernel | (dsimp only [Ct.blk, locB]; decide +kernel)) rfl))) ?tk1) (dv_tup (da_cons (dv_revt (dv_n 3 rfl (by first | decide +kernel | (dsimp only [Ct.blk, locB]; decide +kernel)) rfl)) da_nil) (by simp)) ?s1) (DV.conv (d' := .tuple ((hs.drop (a + 1)).map tupD)) (dv_slt (dv_n 0 rfl (by first | decide +kernel | (dsimp only [Ct.blk, locB]; decide +kernel)) rfl) (do_some (dv_addn (dv_n 2 rfl (by first | decide +kernel | (dsimp only [Ct.blk, locB]; decide +kernel)) rfl) (dv_intn 1))) do_none) ?dr1) ?s2)
        (da_cons (dv_addt (DV.conv (d' := .tuple ((hs.take a).map tupD)) (dv_slt (dv_n 0 rfl (by first | decide +kernel | (dsimp only [Ct.blk, locB]; decide +kernel)) rfl) do_none (do_some (dv_n 2 rfl (by first | decide +kernel | (dsimp only [Ct.blk, locB]; decide +kernel)) rfl))) ?tk2) (DV.conv (d' := .tuple ((hs.drop (a + 1)).map tupD)) (dv_slt (dv_n 0 rfl (by first | decide +kernel | (dsimp only [Ct.blk, locB]; decide +kernel)) rfl) (do_some (dv_addn (dv_n 2 rfl (by first | decide +kernel | (dsimp only [Ct.blk, locB]; decide +kernel)) rfl) (dv_intn 1))) do_none) ?dr2) ?s3)
        (da_cons (dv_addt (dv_n 0 rfl (by first | decide +kernel | (dsimp only [Ct.blk, locB]; decide +kernel)) rfl) (dv_tup (da_cons (dv_tup da_nil (by simp)) da_nil) (by simp)) ?s4) (da_cons (dn_dv (dn_list B (by first | decide +kernel | (dsimp only [Ct.blk, locB]; decide +kernel)) (dv_n 0 rfl (by first | decide +kernel | (dsimp only [Ct.blk, locB]; decide +kernel)) rfl) (.tup _))) (da_cons dv_non da_nil))))) (by simp))))
      (dss_cons (ds_set 4 rfl (by first | decide +kernel | (dsimp only [Ct.blk, locB]; decide +kernel)) (dn_dv (dn_cat (dv_n 4 rfl (by first | decide +kernel | (dsimp only [Ct.blk, locB]; decide +kernel)) rfl) (dn_dv (dn_lst (da_cons (dv_addt (dv_addt (DV.conv (d' := .tuple ((hs.take a).map tupD)) (dv_slt (dv_n 0 rfl (by first | decide +kernel | (dsimp only [Ct.blk, locB]; decide +kernel)) rfl) do_none (do_some (dv_n 2 rfl (by first | decide +kernel | (dsimp only [Ct.blk, locB]; decide +kernel)) rfl))) ?tk3) (dv_tup (da_cons (dv_slt (dv_n 3 rfl (by first | decide +kernel | (dsimp only [Ct.blk, locB]; decide +kernel)) rfl) (do_some dv_int) do_none) da_nil) (by simp)) ?s5) (DV.conv (d' := .tuple ((hs.drop (a + 1)).map tupD)) (dv_slt (dv_n 0 rfl (by first | decide +kernel | (dsimp only [Ct.blk, locB]; decide +kernel)) rfl) (do_some (dv_addn (dv_n 2 rfl (by first | decide +kernel | (dsimp only [Ct.blk, locB]; decide +kernel)) rfl) (dv_intn 1))) do_none) ?dr3) ?s6)
        (da_cons (dv_addt (dv_addt (DV.conv (d' := .tuple ((hs.take a).map tupD)) (dv_slt (dv_n 0 rfl (by first | decide +kernel | (dsimp only [Ct.blk, locB]; decide +kernel)) rfl) do_none (do_some (dv_n 2 rfl (by first | decide +kernel | (dsimp only [Ct.blk, locB]; decide +kernel)) rfl))) ?tk4) (dv_tup (da_cons (dv_addt (dv_n 3 rfl (by first | decide +kernel | (dsimp only [Ct.blk, locB]; decide +kernel)) rfl) (dv_tup (da_cons dv_int da_nil) (by simp)) ?s7) da_nil) (by simp)) ?s8) (DV.conv (d' := .tuple ((hs.drop (a + 1)).map tupD)) (dv_slt (dv_n 0 rfl (by first | decide +kernel | (dsimp only [Ct.blk, locB]; decide +kernel)) rfl) (do_some (dv_addn (dv_n 2 rfl (by first | decide +kernel | (dsimp only [Ct.blk, locB]; decide +kernel)) rfl) (dv_intn 1))) do_none) ?dr4) ?s9)
        (da_cons (dv_revt (dv_n 0 rfl (by first | decide +kernel | (dsimp only [Ct.blk, locB]; decide +kernel)) rfl)) da_nil))) (by simp))) (by simp))))
      (dss_cons (ds_set 4 rfl (by first | decide +kernel | (dsimp only [Ct.blk, locB]; decide +kernel)) (dn_dv (dn_cat (dv_n 4 rfl (by first | decide +kernel | (dsimp only [Ct.blk, locB]; decide +kernel)) rfl) (dn_dv (dn_lst (da_cons (dv_addt (dv_addt (DV.conv (d' := .tuple ((hs.take a).map tupD)) (dv_slt (dv_n 0 rfl (by first | decide +kernel | (dsimp only [Ct.blk, locB]; decide +kernel)) rfl) do_none (do_some (dv_n 2 rfl (by first | decide +kernel | (dsimp only [Ct.blk, locB]; decide +kernel)) rfl))) ?tk5) (dv_tup (da_cons (dn_dv (dn_list B (by first | decide +kernel | (dsimp only [Ct.blk, locB]; decide +kernel)) (dv_n 3 rfl (by first | decide +kernel | (dsimp only [Ct.blk, locB]; decide +kernel)) rfl) (.tup _))) da_nil) (by simp)) ?s10) (DV.conv (d' := .tuple ((hs.drop (a + 1)).map tupD)) (dv_slt (dv_n 0 rfl (by first | decide +kernel | (dsimp only [Ct.blk, locB]; decide +kernel)) rfl) (do_some (dv_addn (dv_n 2 rfl (by first | decide +kernel | (dsimp only [Ct.blk, locB]; decide +kernel)) rfl) (dv_intn 1))) do_none) ?dr5) ?s11)
        (da_cons (dv_addt (dv_addt (DV.conv (d' := .tuple ((hs.take a).map tupD)) (dv_slt (dv_n 0 rfl (by first | decide +kernel | (dsimp only [Ct.blk, locB]; decide +kernel)) rfl) do_none (do_some (dv_n 2 rfl (by first | decide +kernel | (dsimp only [Ct.blk, locB]; decide +kernel)) rfl))) ?tk6) (dv_tup (da_cons (dv_addt (dv_n 3 rfl (by first | decide +kernel | (dsimp only [Ct.blk, locB]; decide +kernel)) rfl) (dv_tup (da_cons dv_non da_nil) (by simp)) ?s12) da_nil) (by simp)) ?s13) (DV.conv (d' := .tuple ((hs.drop (a + 1)).map tupD)) (dv_slt (dv_n 0 rfl (by first | decide +kernel | (dsimp only [Ct.blk, locB]; decide +kernel)) rfl) (do_some (dv_addn (dv_n 2 rfl (by first | decide +kernel | (dsimp only [Ct.blk, locB]; decide +kernel)) rfl) (dv_intn 1))) do_none) ?dr6) ?s14) da_nil)) (by simp))) (by simp))))
      (dss_end (ds_ret (dv_ixl (dv_n 4 rfl (by first | decide +kernel | (dsimp only [Ct.blk, locB]; decide +kernel)) rfl) (dv_mod (dv_fdiv (dv_n 1 rfl (by first | decide +kernel | (dsimp only [Ct.blk, locB]; decide +kernel)) rfl) dv_int ⟨by decide, by decide⟩) dv_int (by omega)) ?fin))))))))
    case ix => exact L2.atI_nat (by rw [List.getElem?_map, List.getElem?_eq_getElem hal, List.getD_eq_getElem?_getD, List.getElem?_eq_getElem hal]; rfl)
    case fin =>
      rw [e8]
      refine L2.atI_nat ?_
      rw [ten_eq]
      have hl : (spots10 hs a).length = 10 := rfl
      rw [List.getD_eq_getElem?_getD, List.getElem?_eq_getElem (by rw [hl]; exact h8l)]
      rfl
    all_goals
      first
        | (rw [cut_map, cut_takeK]; done)
        | (rw [cut_map, cut_dropn]; done)
        | (simp only [List.length_append, List.length_singleton, hpm, hlen]; omega)
        | omega
theorem fn_law_len (M : Nat) : (List.replicate (M : Int).toNat [PyData.tuple []]).flatten = List.replicate M (.tuple []) := by
  rw [Int.toNat_natCast]
  induction M with
  | zero => rfl
  | succ n ih => rw [List.replicate_succ, List.flatten_cons, ih, List.replicate_succ]; rfl
theorem soNat (l : List Nat) : PyData.tuple (l.map natD) = soD (l.map fun t : Nat => (t : Int)) := by
  unfold soD
  rw [List.map_map]
  rfl
theorem so_ok (n : Nat) (p : Nat → Bool) : SoOk n (((List.range n).filter p).map fun t : Nat => (t : Int)) := by
  refine ⟨?_, fun x hx => ?_⟩
  · refine List.pairwise_map.mpr ?_
    exact (List.Pairwise.filter _ List.pairwise_lt_range).imp fun h => by omega
  · obtain ⟨t, ht, rfl⟩ := List.mem_map.mp hx
    have := List.mem_range.mp (List.mem_filter.mp ht).1
    omega
theorem isE_filt {α : Type} {l : List α} {p : α → Bool} {f : α → PyData} : ((l.filter p).map f).isEmpty = l.all fun x => !p x := by
  refine Bool.eq_iff_iff.mpr ?_
  rw [List.isEmpty_iff, List.map_eq_nil_iff, List.filter_eq_nil_iff, List.all_eq_true]
  simp
theorem eqv_emptyL (l : List PyData) : PyData.eqv (.list l) (.list []) = l.isEmpty := by
  cases l <;> rfl
theorem good_eq {W : List (Int × Int)} {R : List Int} {kd : Kd} {so : List Int} (ok : SoOk W.length so) : (((clashesM W R kd).filter fun p => decide (((p.1 : Nat) : Int) ∈ so) && decide (((p.2 : Nat) : Int) ∈ so)).map npD).isEmpty = !anyHit W R kd so := by
  rw [isE_filt]
  refine Bool.eq_iff_iff.mpr ?_
  rw [Bool.not_eq_true', ← Bool.not_eq_true, anyHit_iff ok.hs, List.all_eq_true]
  constructor
  · rintro h ⟨x, hx, y, hy, hlt, hh⟩
    have gx := ok.rng x hx
    have gy := ok.rng y hy
    have hm : (x.toNat, y.toNat) ∈ clashesM W R kd := mem_clashesM.mpr ⟨by show x.toNat < y.toNat; omega, by show y.toNat < W.length; omega, hh⟩
    have := h _ hm
    dsimp only at this
    rw [Int.toNat_of_nonneg gx.1, Int.toNat_of_nonneg gy.1, decide_eq_true hx, decide_eq_true hy] at this
    cases this
  · intro h p hp
    obtain ⟨h1, h2, h3⟩ := mem_clashesM.mp hp
    cases c1 : decide (((p.1 : Nat) : Int) ∈ so) with
    | false => rfl
    | true =>
      cases c2 : decide (((p.2 : Nat) : Int) ∈ so) with
      | false => rfl
      | true =>
        exact absurd ⟨((p.1 : Nat) : Int), of_decide_eq_true c1, ((p.2 : Nat) : Int), of_decide_eq_true c2, by omega, by
          unfold hitAt tI
          rw [Int.toNat_natCast, Int.toNat_natCast]
          exact h3⟩ h
theorem in_so (so : List Int) (i : Nat) : ((so.map PyData.int).any fun z => PyData.eqv z (natD i)) = decide ((i : Int) ∈ so) := any_map PyData.int eqv_int so (i : Int)
theorem f_law {m : Md} {f : Addr} {fd : FuncData} {T : List (Addr × PySem.Str)} (B : Blt m) (F_mix : Fn m "_law_mix" 1 rMix) (F_web : Fn m "_law_web" 2 rWeb) (F_row : Fn m "_law_row" 2 rRow) (F_lclashes : Fn m "_law_clashes" 2 rLClashes) (F_lrun : FnY m T "_law_run" 6 rLRun) (F_isrun : Fn m "is_run" 3 rIsRun) (F_lisrun : Fn m "_law_is_run" 1 rLIsRun) (F_spoilt : Fn m "_law_spoilt" 1 rSpoilt)
    (F : Fun m.K "law" "law" (topS 25) f fd) : FnOk m.P m.w m.K m.mg m.base CX0 7 f fd ["_law_script"] (spY m.K T rLaw) :=
  fn_coreY (C := fun _ => True) (N := ["_law_script", "_law_cell_here", "_law_web_here", "_law_row_here", "_law_more", "_law_some", "_law_tie", "_law_kind", "_law_pairs", "_law_found", "_law_good", "_law_pair", "_law_things", "_law_one", "_law_thing", "_law_told", "_law_due"]) F ⟨rfl, rfl, rfl, by decide +kernel, rfl, by decide +kernel, by decide +kernel⟩ (by decide +kernel) (fun ds d ⟨_, _, h, _⟩ => by rw [h]; rfl) (fun _ _ _ _ _ _ => trivial) fun ds d ⟨n, ns, h, h63, hn, hz, hd⟩ => by
    subst h hd
    refine (dys_cons (dy_for1 1 (dg_one 1 rfl (by first | decide +kernel | (dsimp only [Ct.blk, locB]; decide +kernel))) (di_seq (dn_dv (dn_slscr (dv_n 0 rfl (by first | decide +kernel | (dsimp only [Ct.blk, locB]; decide +kernel)) rfl) do_none (do_some dv_int))) (.lst _)) (dfory_keep PyData.int (cutD ns none (some 3)) ?loop1)) (dys_of (dss_end (ds_ret dv_bl))))
    intro z hz0
    have hsm := hz z (mem_cut hz0)
    have wr := wr_of z (z / 3) (most := 6) 10 (by omega)
    have h12 := (tiesM_ok z (most := 6) 10 (by omega)).2
    have hmany := manyM_pos z (most := 6) (by omega)
    generalize hW : tiesM z 6 10 = W at wr h12
    generalize hM : manyM z 6 = M at wr hmany
    generalize hR : rowM (z / 3) M = R at wr
    have hlen : (W.map pairD).length = W.length := List.length_map _
    refine ⟨_, rfl, by simp [ofree], _, (dys_step (ds_set 2 rfl (by first | decide +kernel | (dsimp only [Ct.blk, locB]; decide +kernel)) (DV.conv (dv_call F_web (by dsimp only [Ct.blk]; omega) (by first | decide +kernel | (dsimp only [Ct.blk, locB]; decide +kernel)) (da_cons (dv_n 1 rfl (by first | decide +kernel | (dsimp only [Ct.blk, locB]; decide +kernel)) rfl) (da_cons dv_int (da_cons dv_int da_nil))) ⟨n, z, 6, 10, rfl, hsm, by omega, by omega, by omega, by omega, rfl⟩) (show wD z 6 10 = webD M W by unfold wD; rw [hM, hW])))
      (dys_step (ds_set 3 rfl (by first | decide +kernel | (dsimp only [Ct.blk, locB]; decide +kernel)) (DV.conv (dv_call F_row (by dsimp only [Ct.blk]; omega) (by first | decide +kernel | (dsimp only [Ct.blk, locB]; decide +kernel)) (da_cons (dv_fdiv (dv_n 1 rfl (by first | decide +kernel | (dsimp only [Ct.blk, locB]; decide +kernel)) rfl) dv_int ⟨by decide, by decide⟩) (da_cons (dv_ixt (dv_n 2 rfl (by first | decide +kernel | (dsimp only [Ct.blk, locB]; decide +kernel)) rfl) dv_int (d := natD M) rfl) da_nil)) ⟨n, z / 3, M, rfl, hsm.div3, by omega, by omega, rfl⟩) (show rowD (rowM (z / 3) M) = rowD R by rw [hR])))
      (dys_cons (dy_for1 4 (dg_one 4 rfl (by first | decide +kernel | (dsimp only [Ct.blk, locB]; decide +kernel))) (di_seq (dn_dv (dn_slscr (dv_n 0 rfl (by first | decide +kernel | (dsimp only [Ct.blk, locB]; decide +kernel)) rfl) (do_some dv_int) (do_some dv_int))) (.lst _)) (dfory_keep PyData.int (cutD ns (some 3) (some 6)) ?loop2)) dys_nil))), (.cons (.drop (.drop (.drop (.cons (.cons (.cons (.cons (.cons (.cons (.cons (.cons (.cons (.cons (.cons (.cons (.cons .nil)))))))))))))))))⟩
    intro more hmore
    have hsm2 := hz more (mem_cut hmore)
    have ok := so_ok W.length fun t : Nat => decide (mixM (more + (t : Int)) 9929 2 = 0)
    refine ⟨_, rfl, by simp [ofree], _, (dys_step (ds_set 5 rfl (by first | decide +kernel | (dsimp only [Ct.blk, locB]; decide +kernel)) (DV.conv (dv_tuple B (by first | decide +kernel | (dsimp only [Ct.blk, locB]; decide +kernel)) (dn_dv (dn_lc1 6 [("_law_tie", 6)] (by first | decide +kernel | (dsimp only [Ct.blk, locB]; decide +kernel)) (di_rng B (by first | decide +kernel | (dsimp only [Ct.blk, locB]; decide +kernel)) (DV.conv (d' := natD W.length) (dv_lent B (by first | decide +kernel | (dsimp only [Ct.blk, locB]; decide +kernel)) (dv_ixt (dv_n 2 rfl (by first | decide +kernel | (dsimp only [Ct.blk, locB]; decide +kernel)) rfl) dv_int rfl) (.tup _)) (by rw [hlen])) (by omega)) (dg_one 6 rfl (by first | decide +kernel | (dsimp only [Ct.blk, locB]; decide +kernel))) (turns_filtT natD natD (fun t : Nat => decide (mixM (more + (t : Int)) 9929 2 = 0)) (List.range W.length) (fun t ht => ⟨_, rfl, ?q, fun hk => (dv_n 6 rfl (by first | decide +kernel | (dsimp only [Ct.blk, locB]; decide +kernel)) rfl)⟩)) (by simp; omega))) (.lst _)) (soNat _)))
      (dys_cons (dy_for1 7 (dg_one 7 rfl (by first | decide +kernel | (dsimp only [Ct.blk, locB]; decide +kernel))) (DI1.conv (di_seq (dv_tup (da_cons dv_str (da_cons dv_str da_nil)) (by simp)) (.tup _)) (show _ = [Kd.pile, Kd.queue].map fun k => .str k.t from rfl)) (dfory_keep (fun k : Kd => .str k.t) _ ?loop3)) dys_nil)), (.cons (.cons (.cons (.cons (.drop (.drop (.cons (.cons (.cons (.cons (.cons (.cons (.cons (.cons (.cons (.cons (.cons .nil)))))))))))))))))⟩
    case q =>
      have ht2 := List.mem_range.mp ht
      exact DT.conv (dt_c (dc_eq (dv_call F_mix (by dsimp only [Ct.blk]; omega) (by first | decide +kernel | (dsimp only [Ct.blk, locB]; decide +kernel)) (da_cons (dv_addi (dv_n 4 rfl (by first | decide +kernel | (dsimp only [Ct.blk, locB]; decide +kernel)) rfl) (dv_n 6 rfl (by first | decide +kernel | (dsimp only [Ct.blk, locB]; decide +kernel)) rfl)) (da_cons dv_int (da_cons dv_int da_nil))) ⟨_, more + (t : Int), 9929, 2, rfl, hsm2.add (by omega), by omega, by omega, by omega, rfl⟩) dv_int (nc_int _).sh (nc_int _).sh)) (eqv_int (mixM (more + (t : Int)) 9929 2) 0)
    generalize ((List.range W.length).filter fun t : Nat => decide (mixM (more + (t : Int)) 9929 2 = 0)).map (fun t : Nat => (t : Int)) = so at ok
    intro kd hkd
    have hgood := good_eq (R := R) (kd := kd) ok
    have hpl : (clashesM W R kd).length ≤ 100 := by
      have h := fold_len (f := inClash W R kd) (c := W.length) (fun b x => inClash_len W R kd b x) (List.range W.length) []
      rw [List.length_range] at h
      have h2 : W.length * W.length ≤ 10 * 10 := Nat.mul_le_mul h12 h12
      unfold clashesM
      simp only [List.length_nil] at h
      omega
    have hRl : (runL W R kd so M).length = M := runL_len
    have hRi : ∀ h ∈ runL W R kd so M, h.length ≤ 60 := fun h hh => by have := runL_in wr ok hh; omega
    have three : ∀ x ∈ [PyData.none, .tuple [], .tuple (List.replicate M (.tuple []))], okTh x := fun x hx => by
      simp only [List.mem_cons, List.not_mem_nil, or_false] at hx
      rcases hx with h | h | h
      · rw [h]; exact okTh_other rfl (by intro l e; cases e)
      · rw [h]; exact okTh_lst (by simp) (by intro y hy; cases hy)
      · rw [h]
        refine okTh_lst (by rw [List.length_replicate]; omega) fun y hy => ?_
        rw [(List.mem_replicate.mp hy).2]
        exact okIn_tup (h := []) (by simp)
    have hcf : ∀ p ∈ clashesM W R kd, True := fun _ _ => trivial
    cases hh : anyHit W R kd so with
    | true =>
      rw [hh] at hgood
      refine ⟨_, rfl, by simp [ofree], [some (scrD ns), some (.int z), some (webD M W), some (rowD R), some (.int more), some (soD so), none, some (.str kd.t), some (.list ((clashesM W R kd).map npD)), some .none, some (.bool false), none, some (.list [PyData.none, .tuple [], .tuple (List.replicate M (.tuple []))]), none, none, none, none], ?_, (.cons (.cons (.cons (.cons (.cons (.cons (.cons (.drop (.drop (.drop (.drop (.cons (.drop (.cons (.cons (.cons (.cons .nil)))))))))))))))))⟩
      refine (dys_step (ds_set 8 rfl (by first | decide +kernel | (dsimp only [Ct.blk, locB]; decide +kernel)) (dv_call F_lclashes (by dsimp only [Ct.blk]; omega) (by first | decide +kernel | (dsimp only [Ct.blk, locB]; decide +kernel)) (da_cons (dv_n 2 rfl (by first | decide +kernel | (dsimp only [Ct.blk, locB]; decide +kernel)) rfl) (da_cons (dv_n 3 rfl (by first | decide +kernel | (dsimp only [Ct.blk, locB]; decide +kernel)) rfl) (da_cons (dv_n 7 rfl (by first | decide +kernel | (dsimp only [Ct.blk, locB]; decide +kernel)) rfl) da_nil))) ⟨M, W, R, kd, rfl, fun t ht => wr.mem ht, by omega, rfl⟩))
        (dys_cons (dy_set 9 rfl (by first | decide +kernel | (dsimp only [Ct.blk, locB]; decide +kernel)) (DVYc (d' := .none) (dvy_call F_lrun (by dsimp only [Ct.blk]; omega) (by first | decide +kernel | (dsimp only [Ct.blk, locB]; decide +kernel)) (da_cons (dv_n 2 rfl (by first | decide +kernel | (dsimp only [Ct.blk, locB]; decide +kernel)) rfl) (da_cons (dv_n 3 rfl (by first | decide +kernel | (dsimp only [Ct.blk, locB]; decide +kernel)) rfl) (da_cons (dv_n 7 rfl (by first | decide +kernel | (dsimp only [Ct.blk, locB]; decide +kernel)) rfl) (da_cons (dv_n 5 rfl (by first | decide +kernel | (dsimp only [Ct.blk, locB]; decide +kernel)) rfl) da_nil)))) ⟨M, W, R, so, kd, rfl, wr, ok, by omega, by omega, rfl⟩) (if_pos hh)))
        (dys_of ?tailt)))
      refine (DSs.pre (δ2 := [some (scrD ns), some (.int z), some (webD M W), some (rowD R), some (.int more), some (soD so), none, some (.str kd.t), some (.list ((clashesM W R kd).map npD)), some .none, none, none, none, none, none, none, none]) (dss_cons (ds_set 10 rfl (by first | decide +kernel | (dsimp only [Ct.blk, locB]; decide +kernel)) (DV.conv (d' := .bool false) (dv_c (dc_eq (dn_dv (dn_lc1 11 [("_law_pair", 11)] (by first | decide +kernel | (dsimp only [Ct.blk, locB]; decide +kernel)) (di_seq (dv_n 8 rfl (by first | decide +kernel | (dsimp only [Ct.blk, locB]; decide +kernel)) rfl) (.lst _)) (dg_one 11 rfl (by first | decide +kernel | (dsimp only [Ct.blk, locB]; decide +kernel))) (turns_filtT npD npD (fun p => decide (((p.1 : Nat) : Int) ∈ so) && decide (((p.2 : Nat) : Int) ∈ so)) (clashesM W R kd) (fun p hp => ⟨_, rfl, ?gc, fun hk => (dv_n 11 rfl (by first | decide +kernel | (dsimp only [Ct.blk, locB]; decide +kernel)) rfl)⟩)) ?gs)) (dn_dv (dn_lst da_nil (by simp))) ?gsh (by rfl))) ?ge))
          (dss_if (k := false) (DT.conv (dt_c (dc_ne (dv_c (dc_notn (dv_n 9 rfl (by first | decide +kernel | (dsimp only [Ct.blk, locB]; decide +kernel)) rfl) dv_non)) (dv_n 10 rfl (by first | decide +kernel | (dsimp only [Ct.blk, locB]; decide +kernel)) rfl) (by rfl) (by rfl))) (by rfl)) (fun hb => by cases hb) (fun hb =>
          (dss_cons (ds_set 12 rfl (by first | decide +kernel | (dsimp only [Ct.blk, locB]; decide +kernel)) (DV.conv (d' := .list [PyData.none, .tuple [], .tuple (List.replicate M (.tuple []))]) (dn_dv (dn_lst (da_cons dv_non (da_cons (dv_tup da_nil (by simp)) (da_cons (dv_rept0 (dv_tup (da_cons (dv_tup da_nil (by simp)) da_nil) (by simp)) (dv_ixt (dv_n 2 rfl (by first | decide +kernel | (dsimp only [Ct.blk, locB]; decide +kernel)) rfl) dv_int (d := natD M) rfl) (by simp) (by omega) (by omega) (by simp)) da_nil))) (by simp))) (by rw [fn_law_len])))
          (dss_cons (ds_if (k := false) (out := .next [some (scrD ns), some (.int z), some (webD M W), some (rowD R), some (.int more), some (soD so), none, some (.str kd.t), some (.list ((clashesM W R kd).map npD)), some .none, some (.bool false), none, some (.list [PyData.none, .tuple [], .tuple (List.replicate M (.tuple []))]), none, none, none, none] []) (dt_val (dv_n 10 rfl (by first | decide +kernel | (dsimp only [Ct.blk, locB]; decide +kernel)) rfl)) (fun hb => by cases hb) (fun hb => dss_nil))
          (dss_cons (ds_for1 14 (dg_one 14 rfl (by first | decide +kernel | (dsimp only [Ct.blk, locB]; decide +kernel))) (DI1.conv (i2 := [PyData.none, .tuple [], .tuple (List.replicate M (.tuple []))].map id) (di_seq (dv_n 12 rfl (by first | decide +kernel | (dsimp only [Ct.blk, locB]; decide +kernel)) rfl) (.lst _)) rfl) (dfor_keep id [PyData.none, .tuple [], .tuple (List.replicate M (.tuple []))] ?loop4)) dss_nil)))))) (.cons (.cons (.cons (.cons (.cons (.cons (.cons (.cons (.cons (.cons (.cons (.cons (.cons (.cons (.cons (.cons (.cons .nil))))))))))))))))))
      case loop4 =>
        intro x hx
        have hx2 := three x hx
        refine ⟨_, rfl, by simp [ofree], _, (dss_cons (ds_set 15 rfl (by first | decide +kernel | (dsimp only [Ct.blk, locB]; decide +kernel)) (dv_call F_isrun (by dsimp only [Ct.blk]; omega) (by first | decide +kernel | (dsimp only [Ct.blk, locB]; decide +kernel)) (da_cons (dv_n 2 rfl (by first | decide +kernel | (dsimp only [Ct.blk, locB]; decide +kernel)) rfl) (da_cons (dv_n 3 rfl (by first | decide +kernel | (dsimp only [Ct.blk, locB]; decide +kernel)) rfl) (da_cons (dv_n 7 rfl (by first | decide +kernel | (dsimp only [Ct.blk, locB]; decide +kernel)) rfl) (da_cons (dv_n 5 rfl (by first | decide +kernel | (dsimp only [Ct.blk, locB]; decide +kernel)) rfl) (da_cons (dv_n 14 rfl (by first | decide +kernel | (dsimp only [Ct.blk, locB]; decide +kernel)) rfl) da_nil))))) ⟨M, W, R, so, kd, x, rfl, wr, ok, by omega, by omega, hx2, rfl⟩)) (dss_cons (ds_set 16 rfl (by first | decide +kernel | (dsimp only [Ct.blk, locB]; decide +kernel)) (dv_call F_lisrun (by dsimp only [Ct.blk]; omega) (by first | decide +kernel | (dsimp only [Ct.blk, locB]; decide +kernel)) (da_cons (dv_n 2 rfl (by first | decide +kernel | (dsimp only [Ct.blk, locB]; decide +kernel)) rfl) (da_cons (dv_n 3 rfl (by first | decide +kernel | (dsimp only [Ct.blk, locB]; decide +kernel)) rfl) (da_cons (dv_n 7 rfl (by first | decide +kernel | (dsimp only [Ct.blk, locB]; decide +kernel)) rfl) (da_cons (dv_n 5 rfl (by first | decide +kernel | (dsimp only [Ct.blk, locB]; decide +kernel)) rfl) (da_cons (dv_n 14 rfl (by first | decide +kernel | (dsimp only [Ct.blk, locB]; decide +kernel)) rfl) da_nil))))) ⟨M, W, R, so, kd, x, rfl, wr, ok, by omega, by omega, hx2, rfl⟩)) (dss_if (k := false) (DT.conv (dt_w (dw_or (k := false) (j := false) (DT.conv (dt_not (dt_val (dv_isi B (by first | decide +kernel | (dsimp only [Ct.blk, locB]; decide +kernel)) (.bool B) (by first | decide +kernel | (dsimp only [Ct.blk, locB]; decide +kernel)) (dv_n 15 rfl (by first | decide +kernel | (dsimp only [Ct.blk, locB]; decide +kernel)) rfl) rfl))) rfl) (fun _ => (dw_or1 (DT.conv (dt_c (dc_ne (dv_n 15 rfl (by first | decide +kernel | (dsimp only [Ct.blk, locB]; decide +kernel)) rfl) (dv_n 16 rfl (by first | decide +kernel | (dsimp only [Ct.blk, locB]; decide +kernel)) rfl) (nc_bool _).sh (nc_bool _).sh)) ?same))))) rfl) (fun hb => by cases hb) (fun hb => dss_nil)))), (.cons (.cons (.cons (.cons (.cons (.cons (.cons (.cons (.cons (.cons (.cons (.cons (.cons (.cons (.drop (.drop (.drop .nil)))))))))))))))))⟩
        rw [told_same wr ok x, (nc_bool _).eq_self]
        rfl
      case gs => rw [List.length_map]; omega
      case gsh => exact (nc_lst (nc_nps _)).sh
      case ge => rw [eqv_emptyL, hgood]; rfl
      case gc => exact DT.conv (dt_w (dw_and (dt_c (dc_in (dv_ixt (dv_n 11 rfl (by first | decide +kernel | (dsimp only [Ct.blk, locB]; decide +kernel)) rfl) dv_int (d := natD p.1) rfl) (dv_n 5 rfl (by first | decide +kernel | (dsimp only [Ct.blk, locB]; decide +kernel)) rfl) (.tup _) (nc_int _).sh (sh_intsT so))) (fun _ => (dw_and1 (dt_c (dc_in (dv_ixt (dv_n 11 rfl (by first | decide +kernel | (dsimp only [Ct.blk, locB]; decide +kernel)) rfl) dv_int (d := natD p.2) rfl) (dv_n 5 rfl (by first | decide +kernel | (dsimp only [Ct.blk, locB]; decide +kernel)) rfl) (.tup _) (nc_int _).sh (sh_intsT so))))))) (by rw [in_so, in_so])
    | false =>
      rw [hh] at hgood
      have hrun := run_told wr ok hh
      have hlrun : lisRunB W R kd so M (.tuple ((runL W R kd so M).map tupD)) = true := (told_same wr ok _).symm.trans hrun
      have hokr : okTh (.tuple ((runL W R kd so M).map tupD)) := okTh_tups (by omega) fun h hh2 => by have := hRi h hh2; omega
      generalize hge : runL W R kd so M = hs at hRl hRi hrun hlrun hokr
      have hc4 : (cutD ns (some 6) (some 10)).length ≤ 63 := by unfold cutD; rw [List.length_take, List.length_drop]; omega
      have hall : ∀ x ∈ [PyData.none, .tuple [], .tuple (List.replicate M (.tuple []))] ++ (cutD ns (some 6) (some 10)).map (fun z => spoiltD hs z), okTh x := fun x hx => by
        rcases List.mem_append.mp hx with q | q
        · exact three x q
        · obtain ⟨z, _, rfl⟩ := List.mem_map.mp q
          exact spoilt_ok (by omega) hRi z
      generalize hth : [PyData.none, .tuple [], .tuple (List.replicate M (.tuple []))] ++ (cutD ns (some 6) (some 10)).map (fun z => spoiltD hs z) = things at hall
      refine ⟨_, rfl, by simp [ofree], [some (scrD ns), some (.int z), some (webD M W), some (rowD R), some (.int more), some (soD so), none, some (.str kd.t), some (.list ((clashesM W R kd).map npD)), some (.tuple (hs.map tupD)), some (.bool true), none, some (.list things), none, none, none, none], ?_, (.cons (.cons (.cons (.cons (.cons (.cons (.cons (.drop (.drop (.drop (.drop (.cons (.drop (.cons (.cons (.cons (.cons .nil)))))))))))))))))⟩
      refine (dys_step (ds_set 8 rfl (by first | decide +kernel | (dsimp only [Ct.blk, locB]; decide +kernel)) (dv_call F_lclashes (by dsimp only [Ct.blk]; omega) (by first | decide +kernel | (dsimp only [Ct.blk, locB]; decide +kernel)) (da_cons (dv_n 2 rfl (by first | decide +kernel | (dsimp only [Ct.blk, locB]; decide +kernel)) rfl) (da_cons (dv_n 3 rfl (by first | decide +kernel | (dsimp only [Ct.blk, locB]; decide +kernel)) rfl) (da_cons (dv_n 7 rfl (by first | decide +kernel | (dsimp only [Ct.blk, locB]; decide +kernel)) rfl) da_nil))) ⟨M, W, R, kd, rfl, fun t ht => wr.mem ht, by omega, rfl⟩))
        (dys_cons (dy_set 9 rfl (by first | decide +kernel | (dsimp only [Ct.blk, locB]; decide +kernel)) (DVYc (d' := .tuple (hs.map tupD)) (dvy_call F_lrun (by dsimp only [Ct.blk]; omega) (by first | decide +kernel | (dsimp only [Ct.blk, locB]; decide +kernel)) (da_cons (dv_n 2 rfl (by first | decide +kernel | (dsimp only [Ct.blk, locB]; decide +kernel)) rfl) (da_cons (dv_n 3 rfl (by first | decide +kernel | (dsimp only [Ct.blk, locB]; decide +kernel)) rfl) (da_cons (dv_n 7 rfl (by first | decide +kernel | (dsimp only [Ct.blk, locB]; decide +kernel)) rfl) (da_cons (dv_n 5 rfl (by first | decide +kernel | (dsimp only [Ct.blk, locB]; decide +kernel)) rfl) da_nil)))) ⟨M, W, R, so, kd, rfl, wr, ok, by omega, by omega, rfl⟩) ?found))
        (dys_of ?tailf)))
      case found => rw [if_neg (by rw [hh]; decide), hge]
      refine (DSs.pre (δ2 := [some (scrD ns), some (.int z), some (webD M W), some (rowD R), some (.int more), some (soD so), none, some (.str kd.t), some (.list ((clashesM W R kd).map npD)), some (.tuple (hs.map tupD)), none, none, none, none, none, none, none]) (dss_cons (ds_set 10 rfl (by first | decide +kernel | (dsimp only [Ct.blk, locB]; decide +kernel)) (DV.conv (d' := .bool true) (dv_c (dc_eq (dn_dv (dn_lc1 11 [("_law_pair", 11)] (by first | decide +kernel | (dsimp only [Ct.blk, locB]; decide +kernel)) (di_seq (dv_n 8 rfl (by first | decide +kernel | (dsimp only [Ct.blk, locB]; decide +kernel)) rfl) (.lst _)) (dg_one 11 rfl (by first | decide +kernel | (dsimp only [Ct.blk, locB]; decide +kernel))) (turns_filtT npD npD (fun p => decide (((p.1 : Nat) : Int) ∈ so) && decide (((p.2 : Nat) : Int) ∈ so)) (clashesM W R kd) (fun p hp => ⟨_, rfl, ?gcf, fun hk => (dv_n 11 rfl (by first | decide +kernel | (dsimp only [Ct.blk, locB]; decide +kernel)) rfl)⟩)) ?gsf)) (dn_dv (dn_lst da_nil (by simp))) ?gshf (by rfl))) ?gef))
          (dss_if (k := false) (DT.conv (dt_c (dc_ne (dv_c (dc_notn (dv_n 9 rfl (by first | decide +kernel | (dsimp only [Ct.blk, locB]; decide +kernel)) rfl) dv_non)) (dv_n 10 rfl (by first | decide +kernel | (dsimp only [Ct.blk, locB]; decide +kernel)) rfl) (by rfl) (by rfl))) (by rfl)) (fun hb => by cases hb) (fun hb =>
          (dss_cons (ds_set 12 rfl (by first | decide +kernel | (dsimp only [Ct.blk, locB]; decide +kernel)) (DV.conv (d' := .list [PyData.none, .tuple [], .tuple (List.replicate M (.tuple []))]) (dn_dv (dn_lst (da_cons dv_non (da_cons (dv_tup da_nil (by simp)) (da_cons (dv_rept0 (dv_tup (da_cons (dv_tup da_nil (by simp)) da_nil) (by simp)) (dv_ixt (dv_n 2 rfl (by first | decide +kernel | (dsimp only [Ct.blk, locB]; decide +kernel)) rfl) dv_int (d := natD M) rfl) (by simp) (by omega) (by omega) (by simp)) da_nil))) (by simp))) (by rw [fn_law_len])))
          (dss_cons (ds_if (k := true) (out := .next [some (scrD ns), some (.int z), some (webD M W), some (rowD R), some (.int more), some (soD so), none, some (.str kd.t), some (.list ((clashesM W R kd).map npD)), some (.tuple (hs.map tupD)), some (.bool true), none, some (.list things), none, none, none, none] []) (dt_val (dv_n 10 rfl (by first | decide +kernel | (dsimp only [Ct.blk, locB]; decide +kernel)) rfl)) (fun hb => (dss_if (k := false) (DT.conv (dt_not (dt_val (dv_call F_lisrun (by dsimp only [Ct.blk]; omega) (by first | decide +kernel | (dsimp only [Ct.blk, locB]; decide +kernel)) (da_cons (dv_n 2 rfl (by first | decide +kernel | (dsimp only [Ct.blk, locB]; decide +kernel)) rfl) (da_cons (dv_n 3 rfl (by first | decide +kernel | (dsimp only [Ct.blk, locB]; decide +kernel)) rfl) (da_cons (dv_n 7 rfl (by first | decide +kernel | (dsimp only [Ct.blk, locB]; decide +kernel)) rfl) (da_cons (dv_n 5 rfl (by first | decide +kernel | (dsimp only [Ct.blk, locB]; decide +kernel)) rfl) (da_cons (dv_n 9 rfl (by first | decide +kernel | (dsimp only [Ct.blk, locB]; decide +kernel)) rfl) da_nil))))) ⟨M, W, R, so, kd, _, rfl, wr, ok, by omega, by omega, hokr, rfl⟩))) (by rw [hlrun]; rfl)) (fun hb => by cases hb) (fun hb =>
              (dss_if (k := false) (DT.conv (dt_c (dc_notb (dv_call F_isrun (by dsimp only [Ct.blk]; omega) (by first | decide +kernel | (dsimp only [Ct.blk, locB]; decide +kernel)) (da_cons (dv_n 2 rfl (by first | decide +kernel | (dsimp only [Ct.blk, locB]; decide +kernel)) rfl) (da_cons (dv_n 3 rfl (by first | decide +kernel | (dsimp only [Ct.blk, locB]; decide +kernel)) rfl) (da_cons (dv_n 7 rfl (by first | decide +kernel | (dsimp only [Ct.blk, locB]; decide +kernel)) rfl) (da_cons (dv_n 5 rfl (by first | decide +kernel | (dsimp only [Ct.blk, locB]; decide +kernel)) rfl) (da_cons (dv_n 9 rfl (by first | decide +kernel | (dsimp only [Ct.blk, locB]; decide +kernel)) rfl) da_nil))))) ⟨M, W, R, so, kd, _, rfl, wr, ok, by omega, by omega, hokr, rfl⟩) dv_bl)) (by rw [hrun]; rfl)) (fun hb => by cases hb) (fun hb =>
              (dss_cons (ds_set 12 rfl (by first | decide +kernel | (dsimp only [Ct.blk, locB]; decide +kernel)) (DV.conv (d' := .list things) (dn_dv (dn_cat (dv_n 12 rfl (by first | decide +kernel | (dsimp only [Ct.blk, locB]; decide +kernel)) rfl) (dn_dv (dn_lc1 13 [("_law_one", 13)] (by first | decide +kernel | (dsimp only [Ct.blk, locB]; decide +kernel)) (di_seq (dn_dv (dn_slscr (dv_n 0 rfl (by first | decide +kernel | (dsimp only [Ct.blk, locB]; decide +kernel)) rfl) (do_some dv_int) (do_some dv_int))) (.lst _)) (dg_one 13 rfl (by first | decide +kernel | (dsimp only [Ct.blk, locB]; decide +kernel))) (turns_mapT PyData.int (fun z => spoiltD hs z) (cutD ns (some 6) (some 10)) (fun z hz => ⟨_, rfl, ?sp⟩)) ?sz4)) ?sz5)) (by rw [← hth]))) dss_nil)))))) (fun hb => by cases hb))
          (dss_cons (ds_for1 14 (dg_one 14 rfl (by first | decide +kernel | (dsimp only [Ct.blk, locB]; decide +kernel))) (DI1.conv (i2 := things.map id) (di_seq (dv_n 12 rfl (by first | decide +kernel | (dsimp only [Ct.blk, locB]; decide +kernel)) rfl) (.lst _)) (by rw [List.map_id])) (dfor_keep id things ?loop4f)) dss_nil)))))) (.cons (.cons (.cons (.cons (.cons (.cons (.cons (.cons (.cons (.cons (.cons (.cons (.cons (.cons (.cons (.cons (.cons .nil))))))))))))))))))
      case sp => exact (dv_call F_spoilt (by dsimp only [Ct.blk]; omega) (by first | decide +kernel | (dsimp only [Ct.blk, locB]; decide +kernel)) (da_cons (dv_n 9 rfl (by first | decide +kernel | (dsimp only [Ct.blk, locB]; decide +kernel)) rfl) (da_cons (dv_n 13 rfl (by first | decide +kernel | (dsimp only [Ct.blk, locB]; decide +kernel)) rfl) da_nil)) ⟨hs, z, rfl, by omega, by omega, hRi, rfl⟩)
      case sz4 => rw [List.length_map]; omega
      case sz5 => rw [List.length_map]; simp; omega
      case loop4f =>
        intro x hx
        have hx2 := hall x hx
        refine ⟨_, rfl, by simp [ofree], _, (dss_cons (ds_set 15 rfl (by first | decide +kernel | (dsimp only [Ct.blk, locB]; decide +kernel)) (dv_call F_isrun (by dsimp only [Ct.blk]; omega) (by first | decide +kernel | (dsimp only [Ct.blk, locB]; decide +kernel)) (da_cons (dv_n 2 rfl (by first | decide +kernel | (dsimp only [Ct.blk, locB]; decide +kernel)) rfl) (da_cons (dv_n 3 rfl (by first | decide +kernel | (dsimp only [Ct.blk, locB]; decide +kernel)) rfl) (da_cons (dv_n 7 rfl (by first | decide +kernel | (dsimp only [Ct.blk, locB]; decide +kernel)) rfl) (da_cons (dv_n 5 rfl (by first | decide +kernel | (dsimp only [Ct.blk, locB]; decide +kernel)) rfl) (da_cons (dv_n 14 rfl (by first | decide +kernel | (dsimp only [Ct.blk, locB]; decide +kernel)) rfl) da_nil))))) ⟨M, W, R, so, kd, x, rfl, wr, ok, by omega, by omega, hx2, rfl⟩)) (dss_cons (ds_set 16 rfl (by first | decide +kernel | (dsimp only [Ct.blk, locB]; decide +kernel)) (dv_call F_lisrun (by dsimp only [Ct.blk]; omega) (by first | decide +kernel | (dsimp only [Ct.blk, locB]; decide +kernel)) (da_cons (dv_n 2 rfl (by first | decide +kernel | (dsimp only [Ct.blk, locB]; decide +kernel)) rfl) (da_cons (dv_n 3 rfl (by first | decide +kernel | (dsimp only [Ct.blk, locB]; decide +kernel)) rfl) (da_cons (dv_n 7 rfl (by first | decide +kernel | (dsimp only [Ct.blk, locB]; decide +kernel)) rfl) (da_cons (dv_n 5 rfl (by first | decide +kernel | (dsimp only [Ct.blk, locB]; decide +kernel)) rfl) (da_cons (dv_n 14 rfl (by first | decide +kernel | (dsimp only [Ct.blk, locB]; decide +kernel)) rfl) da_nil))))) ⟨M, W, R, so, kd, x, rfl, wr, ok, by omega, by omega, hx2, rfl⟩)) (dss_if (k := false) (DT.conv (dt_w (dw_or (k := false) (j := false) (DT.conv (dt_not (dt_val (dv_isi B (by first | decide +kernel | (dsimp only [Ct.blk, locB]; decide +kernel)) (.bool B) (by first | decide +kernel | (dsimp only [Ct.blk, locB]; decide +kernel)) (dv_n 15 rfl (by first | decide +kernel | (dsimp only [Ct.blk, locB]; decide +kernel)) rfl) rfl))) rfl) (fun _ => (dw_or1 (DT.conv (dt_c (dc_ne (dv_n 15 rfl (by first | decide +kernel | (dsimp only [Ct.blk, locB]; decide +kernel)) rfl) (dv_n 16 rfl (by first | decide +kernel | (dsimp only [Ct.blk, locB]; decide +kernel)) rfl) (nc_bool _).sh (nc_bool _).sh)) ?samef))))) rfl) (fun hb => by cases hb) (fun hb => dss_nil)))), (.cons (.cons (.cons (.cons (.cons (.cons (.cons (.cons (.cons (.cons (.cons (.cons (.cons (.cons (.drop (.drop (.drop .nil)))))))))))))))))⟩
        rw [told_same wr ok x, (nc_bool _).eq_self]
        rfl
      case gsf => rw [List.length_map]; omega
      case gshf => exact (nc_lst (nc_nps _)).sh
      case gef => rw [eqv_emptyL, hgood]; rfl
      case gcf => exact DT.conv (dt_w (dw_and (dt_c (dc_in (dv_ixt (dv_n 11 rfl (by first | decide +kernel | (dsimp only [Ct.blk, locB]; decide +kernel)) rfl) dv_int (d := natD p.1) rfl) (dv_n 5 rfl (by first | decide +kernel | (dsimp only [Ct.blk, locB]; decide +kernel)) rfl) (.tup _) (nc_int _).sh (sh_intsT so))) (fun _ => (dw_and1 (dt_c (dc_in (dv_ixt (dv_n 11 rfl (by first | decide +kernel | (dsimp only [Ct.blk, locB]; decide +kernel)) rfl) dv_int (d := natD p.2) rfl) (dv_n 5 rfl (by first | decide +kernel | (dsimp only [Ct.blk, locB]; decide +kernel)) rfl) (.tup _) (nc_int _).sh (sh_intsT so))))))) (by rw [in_so, in_so])
theorem kit_self {K : PySem.W.Frag} {A : Addr} : PySem.W.kitOne K (.ref A) (.ref A) = some true := by
  unfold PySem.W.kitOne
  rw [if_pos (by simp)]
theorem kit_other {K : PySem.W.Frag} {A R : Addr} (j1 : PySem.W.hasDictIn K R = true) (j2 : PySem.W.typeIn K (.ref R) = some (.type "type")) (j3 : PySem.W.subIn K (.ref A) (.ref R) = some false) (j4 : PySem.W.subIn K (.ref A) (.ref A) = some true) : PySem.W.kitOne K (.ref A) (.ref R) = some false := by
  have ne : A ≠ R := fun e => by
    rw [← e, j4] at j3
    cases j3
  unfold PySem.W.kitOne
  rw [if_neg (by simp [ne])]
  obtain ⟨cd, hc, _⟩ := PySem.W.any_some j1
  show (if ((PySem.W.clsIn K R).isSome && PySem.W.typeIn K (.ref R) == some (.type "type")) = true then PySem.W.subIn K (.ref A) (.ref R) else none) = some false
  rw [if_pos (by rw [hc, j2] <;> rfl)]
  exact j3
theorem kit_val {K : PySem.W.Frag} {A : Addr} (j5 : PySem.W.subIn K (.ref A) (.type "ValueError") = some true) : PySem.W.kitOne K (.ref A) (.type "ValueError") = some true := by
  unfold PySem.W.kitOne
  rw [if_neg (by simp)]
  show (if PySem.W.kitMeta "ValueError" = true then PySem.W.subIn K (.ref A) (.type "ValueError") else none) = some true
  rw [if_pos (by decide +kernel)]
  exact j5
theorem hsp_all {K : PySem.W.Frag} {cT pT : Addr} (H : Hp) (a : Addr) (ns : List Int) (h63 : ns.length ≤ 63) (hb : ∀ z ∈ ns, Builtin.Int.intBits z ≤ 1048576) (hT : ∀ p ∈ [(cT, pT)], H p.2 = some (.tbl #[])) (hs : SqL K H a (ns.map V.int)) : spY K [(pT, qLam)] rLaw [.ref a] H (fun v _ => v = .bl true) fun _ _ _ => False :=
  ⟨[], [scrD ns], .bool true, ⟨1048577, ns, rfl, h63, by omega, fun z hz => sm_ok (hb z hz), rfl⟩, (fun b hb => by cases hb), (fun b hb => by cases hb), (fun p hp => by rw [List.mem_singleton.mp hp]; exact LamX.TabS.nil (hT (cT, pT) List.mem_cons_self)), .cons (Rp.mono (Same.ofEq (funext fun b => (hide_out (by simp)).symm)) (.scr hs h63)) .nil, fun v H' _ _ r => by cases r; rfl⟩
theorem all_mk {l : PySem.W.OpenLaw} {w : World} {K : PySem.W.Frag} {h : Heap} {mg : PySem.Str → Option Value} {fa f0 f1 f2 f3 f4 f5 f6 f7 f8 f9 f10 f11 f12 f13 f14 f15 f16 f17 f18 : Addr} (X : K.In h) (G : h.Ns mainGlobals mg) (hfa : mg "law" = some (.ref fa))
    {od0 an0 od1 an1 od2 an2 od3 an3 od4 an4 od5 an5 od6 an6 od7 an7 od8 an8 od9 an9 od10 an10 od11 an11 od12 an12 od13 an13 od14 an14 od15 an15 od16 an16 od17 an17 od18 an18 : Option Addr} {sl0 sl1 sl2 sl3 sl4 sl5 sl6 sl7 sl8 sl9 sl10 sl11 sl12 sl13 sl14 sl15 sl16 sl17 sl18 : Array (Option Value)} {oc0 kV0 dc0 pm0 cd0 ct0 oc1 kV1 dc1 pm1 cd1 ct1 oc2 kV2 dc2 pm2 cd2 ct2 oc3 kV3 dc3 pm3 cd3 ct3 oc4 kV4 dc4 pm4 cd4 ct4 oc5 kV5 dc5 pm5 cd5 ct5 oc6 kV6 dc6 pm6 cd6 ct6 oc7 kV7 dc7 pm7 cd7 ct7 oc8 kV8 dc8 pm8 cd8 ct8 oc9 kV9 dc9 pm9 cd9 ct9 oc10 kV10 dc10 pm10 cd10 ct10 oc11 kV11 dc11 pm11 cd11 ct11 oc12 kV12 dc12 pm12 cd12 ct12 oc13 kV13 dc13 pm13 cd13 ct13 oc14 kV14 dc14 pm14 cd14 ct14 oc15 kV15 dc15 pm15 cd15 ct15 oc16 kV16 dc16 pm16 cd16 ct16 oc17 kV17 dc17 pm17 cd17 ct17 oc18 kV18 dc18 pm18 cd18 ct18 : Value}
    (a0 : PySem.W.nsIn K mainGlobals "spots" = some (some (.ref f0))) (l0 : K.lookup f0 = some ⟨oc0, od0, .func (PySem.W.fnOf "spots" "spots" (defArgs (topS 5)) (defBody (topS 5)) (defScope (topS 5)) .none kV0 dc0 pm0 an0 cd0 ct0), sl0⟩) (c0 : PySem.W.codeIn K cd0 "spots" = true) (k0 : PySem.W.keepIn K (.ref f0) = true)
    (a1 : PySem.W.nsIn K mainGlobals "how" = some (some (.ref f1))) (l1 : K.lookup f1 = some ⟨oc1, od1, .func (PySem.W.fnOf "how" "how" (defArgs (topS 6)) (defBody (topS 6)) (defScope (topS 6)) .none kV1 dc1 pm1 an1 cd1 ct1), sl1⟩) (c1 : PySem.W.codeIn K cd1 "how" = true) (k1 : PySem.W.keepIn K (.ref f1) = true)
    (a2 : PySem.W.nsIn K mainGlobals "do_clash" = some (some (.ref f2))) (l2 : K.lookup f2 = some ⟨oc2, od2, .func (PySem.W.fnOf "do_clash" "do_clash" (defArgs (topS 7)) (defBody (topS 7)) (defScope (topS 7)) .none kV2 dc2 pm2 an2 cd2 ct2), sl2⟩) (c2 : PySem.W.codeIn K cd2 "do_clash" = true) (k2 : PySem.W.keepIn K (.ref f2) = true)
    (a3 : PySem.W.nsIn K mainGlobals "ending" = some (some (.ref f3))) (l3 : K.lookup f3 = some ⟨oc3, od3, .func (PySem.W.fnOf "ending" "ending" (defArgs (topS 9)) (defBody (topS 9)) (defScope (topS 9)) .none kV3 dc3 pm3 an3 cd3 ct3), sl3⟩) (c3 : PySem.W.codeIn K cd3 "ending" = true) (k3 : PySem.W.keepIn K (.ref f3) = true)
    (a4 : PySem.W.nsIn K mainGlobals "beginning" = some (some (.ref f4))) (l4 : K.lookup f4 = some ⟨oc4, od4, .func (PySem.W.fnOf "beginning" "beginning" (defArgs (topS 10)) (defBody (topS 10)) (defScope (topS 10)) .none kV4 dc4 pm4 an4 cd4 ct4), sl4⟩) (c4 : PySem.W.codeIn K cd4 "beginning" = true) (k4 : PySem.W.keepIn K (.ref f4) = true)
    (a5 : PySem.W.nsIn K mainGlobals "are_same" = some (some (.ref f5))) (l5 : K.lookup f5 = some ⟨oc5, od5, .func (PySem.W.fnOf "are_same" "are_same" (defArgs (topS 12)) (defBody (topS 12)) (defScope (topS 12)) .none kV5 dc5 pm5 an5 cd5 ct5), sl5⟩) (c5 : PySem.W.codeIn K cd5 "are_same" = true) (k5 : PySem.W.keepIn K (.ref f5) = true)
    (a6 : PySem.W.nsIn K mainGlobals "is_step" = some (some (.ref f6))) (l6 : K.lookup f6 = some ⟨oc6, od6, .func (PySem.W.fnOf "is_step" "is_step" (defArgs (topS 13)) (defBody (topS 13)) (defScope (topS 13)) .none kV6 dc6 pm6 an6 cd6 ct6), sl6⟩) (c6 : PySem.W.codeIn K cd6 "is_step" = true) (k6 : PySem.W.keepIn K (.ref f6) = true)
    (a7 : PySem.W.nsIn K mainGlobals "is_run" = some (some (.ref f7))) (l7 : K.lookup f7 = some ⟨oc7, od7, .func (PySem.W.fnOf "is_run" "is_run" (defArgs (topS 14)) (defBody (topS 14)) (defScope (topS 14)) .none kV7 dc7 pm7 an7 cd7 ct7), sl7⟩) (c7 : PySem.W.codeIn K cd7 "is_run" = true) (k7 : PySem.W.keepIn K (.ref f7) = true)
    (a8 : PySem.W.nsIn K mainGlobals "run" = some (some (.ref f8))) (l8 : K.lookup f8 = some ⟨oc8, od8, .func (PySem.W.fnOf "run" "run" (defArgs (topS 11)) (defBody (topS 11)) (defScope (topS 11)) .none kV8 dc8 pm8 an8 cd8 ct8), sl8⟩) (c8 : PySem.W.codeIn K cd8 "run" = true) (k8 : PySem.W.keepIn K (.ref f8) = true)
    (a9 : PySem.W.nsIn K mainGlobals "run" = some (some (.ref f9))) (l9 : K.lookup f9 = some ⟨oc9, od9, .func (PySem.W.fnOf "run" "run" (defArgs (topS 11)) (defBody (topS 11)) (defScope (topS 11)) .none kV9 dc9 pm9 an9 cd9 ct9), sl9⟩) (c9 : PySem.W.codeIn K cd9 "run" = true) (k9 : PySem.W.keepIn K (.ref f9) = true)
    (a10 : PySem.W.nsIn K mainGlobals "_law_mix" = some (some (.ref f10))) (l10 : K.lookup f10 = some ⟨oc10, od10, .func (PySem.W.fnOf "_law_mix" "_law_mix" (defArgs (topS 17)) (defBody (topS 17)) (defScope (topS 17)) .none kV10 dc10 pm10 an10 cd10 ct10), sl10⟩) (c10 : PySem.W.codeIn K cd10 "_law_mix" = true) (k10 : PySem.W.keepIn K (.ref f10) = true)
    (a11 : PySem.W.nsIn K mainGlobals "_law_web" = some (some (.ref f11))) (l11 : K.lookup f11 = some ⟨oc11, od11, .func (PySem.W.fnOf "_law_web" "_law_web" (defArgs (topS 18)) (defBody (topS 18)) (defScope (topS 18)) .none kV11 dc11 pm11 an11 cd11 ct11), sl11⟩) (c11 : PySem.W.codeIn K cd11 "_law_web" = true) (k11 : PySem.W.keepIn K (.ref f11) = true)
    (a12 : PySem.W.nsIn K mainGlobals "_law_row" = some (some (.ref f12))) (l12 : K.lookup f12 = some ⟨oc12, od12, .func (PySem.W.fnOf "_law_row" "_law_row" (defArgs (topS 19)) (defBody (topS 19)) (defScope (topS 19)) .none kV12 dc12 pm12 an12 cd12 ct12), sl12⟩) (c12 : PySem.W.codeIn K cd12 "_law_row" = true) (k12 : PySem.W.keepIn K (.ref f12) = true)
    (a13 : PySem.W.nsIn K mainGlobals "_law_how" = some (some (.ref f13))) (l13 : K.lookup f13 = some ⟨oc13, od13, .func (PySem.W.fnOf "_law_how" "_law_how" (defArgs (topS 20)) (defBody (topS 20)) (defScope (topS 20)) .none kV13 dc13 pm13 an13 cd13 ct13), sl13⟩) (c13 : PySem.W.codeIn K cd13 "_law_how" = true) (k13 : PySem.W.keepIn K (.ref f13) = true)
    (a14 : PySem.W.nsIn K mainGlobals "_law_clashes" = some (some (.ref f14))) (l14 : K.lookup f14 = some ⟨oc14, od14, .func (PySem.W.fnOf "_law_clashes" "_law_clashes" (defArgs (topS 21)) (defBody (topS 21)) (defScope (topS 21)) .none kV14 dc14 pm14 an14 cd14 ct14), sl14⟩) (c14 : PySem.W.codeIn K cd14 "_law_clashes" = true) (k14 : PySem.W.keepIn K (.ref f14) = true)
    (a15 : PySem.W.nsIn K mainGlobals "_law_run" = some (some (.ref f15))) (l15 : K.lookup f15 = some ⟨oc15, od15, .func (PySem.W.fnOf "_law_run" "_law_run" (defArgs (topS 22)) (defBody (topS 22)) (defScope (topS 22)) .none kV15 dc15 pm15 an15 cd15 ct15), sl15⟩) (c15 : PySem.W.codeIn K cd15 "_law_run" = true) (k15 : PySem.W.keepIn K (.ref f15) = true)
    (a16 : PySem.W.nsIn K mainGlobals "_law_is_run" = some (some (.ref f16))) (l16 : K.lookup f16 = some ⟨oc16, od16, .func (PySem.W.fnOf "_law_is_run" "_law_is_run" (defArgs (topS 23)) (defBody (topS 23)) (defScope (topS 23)) .none kV16 dc16 pm16 an16 cd16 ct16), sl16⟩) (c16 : PySem.W.codeIn K cd16 "_law_is_run" = true) (k16 : PySem.W.keepIn K (.ref f16) = true)
    (a17 : PySem.W.nsIn K mainGlobals "_law_spoilt" = some (some (.ref f17))) (l17 : K.lookup f17 = some ⟨oc17, od17, .func (PySem.W.fnOf "_law_spoilt" "_law_spoilt" (defArgs (topS 24)) (defBody (topS 24)) (defScope (topS 24)) .none kV17 dc17 pm17 an17 cd17 ct17), sl17⟩) (c17 : PySem.W.codeIn K cd17 "_law_spoilt" = true) (k17 : PySem.W.keepIn K (.ref f17) = true)
    (a18 : PySem.W.nsIn K mainGlobals "law" = some (some (.ref f18))) (l18 : K.lookup f18 = some ⟨oc18, od18, .func (PySem.W.fnOf "law" "law" (defArgs (topS 25)) (defBody (topS 25)) (defScope (topS 25)) .none kV18 dc18 pm18 an18 cd18 ct18), sl18⟩) (c18 : PySem.W.codeIn K cd18 "law" = true) (k18 : PySem.W.keepIn K (.ref f18) = true)
    {cA cP cR : Addr} (xA : PySem.W.nsIn K mainGlobals "NoRun" = some (some (.ref cA))) (xP : PySem.W.nsIn K mainGlobals "PageError" = some (some (.ref cP))) (xR : PySem.W.nsIn K mainGlobals "NoText" = some (some (.ref cR)))
    (e1 : PySem.W.excIn K cA [.type "ValueError", .type "Exception", .type "BaseException", .type "object"] "ValueError.__new__" = true) (e2 : PySem.W.keepIn K (.ref cA) = true) (e3 : PySem.W.subIn K (.ref cA) (.type "BaseException") = some true) (e4 : PySem.W.typeIn K (.ref cA) = some (.type "type"))
    (m1 : PySem.W.subIn K (.ref cP) (.type "BaseException") = some true) (m2 : PySem.W.hasDictIn K cP = true) (m3 : PySem.W.typeIn K (.ref cP) = some (.type "type")) (m4 : PySem.W.subIn K (.ref cA) (.ref cP) = some true)
    (j1 : PySem.W.hasDictIn K cR = true) (j2 : PySem.W.typeIn K (.ref cR) = some (.type "type")) (j3 : PySem.W.subIn K (.ref cA) (.ref cR) = some false) (j4 : PySem.W.subIn K (.ref cA) (.ref cA) = some true) (j5 : PySem.W.subIn K (.ref cA) (.type "ValueError") = some true)
    (q1 : PySem.W.findIn K (.ref cA) "__getattribute__" = some (some (.builtin "BaseException.__getattribute__"))) (q2 : PySem.W.findIn K (.ref cA) "__getattr__" = some none) (q3 : PySem.W.subIn K (.ref cA) (.type "BaseException") = some true) (q4 : PySem.W.hasDictIn K cA = true)
    (q5 : PySem.W.findIn K (.ref cA) "__class__" = some (some (.builtin "object.__class__"))) (q6 : PySem.W.specialIn K (.builtin "object.__class__") "__get__" = some (some (.builtin "getset_descriptor.__get__"))) (q7 : PySem.W.takesIn K (.builtin "object.__class__") = some true) (q8 : PySem.W.mroIn K cA (.type "object") = some true)
    (zV : PySem.W.nsIn K mainGlobals "ValueError" = some none)
    {cT pT : Addr} (t1 : cd8 = .ref cT) (t2 : PySem.W.codeHdIn K cT pT = true) (t3 : h.get? pT = some { cls := .none, data := .fields #[] }) (t4 : K.lookup pT = none)
    (z0 : PySem.W.nsIn K mainGlobals "len" = some none) (z1 : PySem.W.nsIn K mainGlobals "range" = some none) (z2 : PySem.W.nsIn K mainGlobals "isinstance" = some none) (z3 : PySem.W.nsIn K mainGlobals "tuple" = some none) (z4 : PySem.W.nsIn K mainGlobals "int" = some none) (z5 : PySem.W.nsIn K mainGlobals "bool" = some none) (z6 : PySem.W.nsIn K mainGlobals "str" = some none) (z7 : PySem.W.nsIn K mainGlobals "list" = some none) (z8 : PySem.W.nsIn K mainGlobals "set" = some none) (z9 : PySem.W.nsIn K mainGlobals "dict" = some none) (z10 : PySem.W.nsIn K mainGlobals "sorted" = some none) (z11 : PySem.W.nsIn K mainGlobals "min" = some none) (z12 : PySem.W.nsIn K mainGlobals "max" = some none) (z13 : PySem.W.nsIn K mainGlobals "all" = some none) (z14 : PySem.W.nsIn K mainGlobals "any" = some none) (z15 : PySem.W.nsIn K mainGlobals "enumerate" = some none) (z16 : PySem.W.nsIn K mainGlobals "zip" = some none) (z17 : PySem.W.nsIn K mainGlobals "reversed" = some none) :
    LamX.LawAtS l w K CX0 7 63 "_law_script" mg fa h := by
  have e := hfa.symm.trans (PySem.W.mg_of X G a18)
  cases e
  refine ⟨PySem.W.fnOf "law" "law" (defArgs (topS 25)) (defBody (topS 25)) (defScope (topS 25)) .none kV18 dc18 pm18 an18 cd18 ct18, [(cT, pT)], spY K [(pT, qLam)] rLaw, ?_, ?_, ?_, fun s v => .of_eq rfl, hsp_all, fun base _ _ hTB => ?_⟩
  · intro p hp
    rw [List.mem_singleton.mp hp]
    exact t3
  · intro p hp
    rw [List.mem_singleton.mp hp]
    exact t4
  · intro p hp
    rw [List.mem_singleton.mp hp]
    exact PySem.W.codeHd_of_K X t2
  have hTB0 : LamX.TabB base mg cT pT := hTB (cT, pT) List.mem_cons_self
  have B : Blt ⟨l.prog, w, K, mg, base⟩ := ⟨PySem.W.mg_none_of X G z0, PySem.W.mg_none_of X G z1, PySem.W.mg_none_of X G z2, PySem.W.mg_none_of X G z3, PySem.W.mg_none_of X G z4, PySem.W.mg_none_of X G z5, PySem.W.mg_none_of X G z6, PySem.W.mg_none_of X G z7, PySem.W.mg_none_of X G z8, PySem.W.mg_none_of X G z9, PySem.W.mg_none_of X G z10, PySem.W.mg_none_of X G z11, PySem.W.mg_none_of X G z12, PySem.W.mg_none_of X G z13, PySem.W.mg_none_of X G z14, PySem.W.mg_none_of X G z15, PySem.W.mg_none_of X G z16, PySem.W.mg_none_of X G z17⟩
  have XE0 : ExcM ⟨l.prog, w, K, mg, base⟩ "NoRun" cA := ⟨e1, PySem.W.mg_of X G xA, e2, e3, e4⟩
  have XH0 : ExcH ⟨l.prog, w, K, mg, base⟩ "PageError" "NoRun" "NoText" cA := ⟨⟨cP, cR, PySem.W.mg_of X G xP, PySem.W.mg_of X G xA, PySem.W.mg_of X G xR, PySem.W.exm_ref m1 m2 m3 m4, kit_self, kit_other j1 j2 j3 j4⟩, ⟨q1, q2, q3, q4, q5, q6, q7, q8⟩, kit_val j5, PySem.W.mg_none_of X G zV⟩
  have F0 := fun_mk (st := topS 5) l0 c0 k0
  have b0 := F0.binds (ps := ["web", "row", "tie"]) fun _ _ _ _ _ _ us hl => match us, hl with | [_, _, _], _ => rfl
  have P_spots := f_spots (m := ⟨l.prog, w, K, mg, base⟩) B  F0 b0 (PySem.W.mg_of X G a0)
  have F1 := fun_mk (st := topS 6) l1 c1 k1
  have b1 := F1.binds (ps := ["web", "row", "one", "other"]) fun _ _ _ _ _ _ us hl => match us, hl with | [_, _, _, _], _ => rfl
  have P_how := f_how (m := ⟨l.prog, w, K, mg, base⟩) B P_spots F1 b1 (PySem.W.mg_of X G a1)
  have F2 := fun_mk (st := topS 7) l2 c2 k2
  have b2 := F2.binds (ps := ["web", "row", "kind", "one", "other"]) fun _ _ _ _ _ _ us hl => match us, hl with | [_, _, _, _, _], _ => rfl
  have P_do_clash := f_do (m := ⟨l.prog, w, K, mg, base⟩) B P_how F2 b2 (PySem.W.mg_of X G a2)
  have F3 := fun_mk (st := topS 9) l3 c3 k3
  have b3 := F3.binds (ps := ["web", "row", "some", "at"]) fun _ _ _ _ _ _ us hl => match us, hl with | [_, _, _, _], _ => rfl
  have P_ending := f_ending (m := ⟨l.prog, w, K, mg, base⟩) B P_spots F3 b3 (PySem.W.mg_of X G a3)
  have F4 := fun_mk (st := topS 10) l4 c4 k4
  have b4 := F4.binds (ps := ["web", "row", "some", "at"]) fun _ _ _ _ _ _ us hl => match us, hl with | [_, _, _, _], _ => rfl
  have P_beginning := f_beginning (m := ⟨l.prog, w, K, mg, base⟩) B P_spots F4 b4 (PySem.W.mg_of X G a4)
  have F5 := fun_mk (st := topS 12) l5 c5 k5
  have b5 := F5.binds (ps := ["one", "other"]) fun _ _ _ _ _ _ us hl => match us, hl with | [_, _], _ => rfl
  have P_are_same := f_same (m := ⟨l.prog, w, K, mg, base⟩) B  F5 b5 (PySem.W.mg_of X G a5)
  have F6 := fun_mk (st := topS 13) l6 c6 k6
  have b6 := F6.binds (ps := ["kind", "before", "after", "ends", "begins"]) fun _ _ _ _ _ _ us hl => match us, hl with | [_, _, _, _, _], _ => rfl
  have P_is_step := f_step (m := ⟨l.prog, w, K, mg, base⟩) B P_are_same F6 b6 (PySem.W.mg_of X G a6)
  have F7 := fun_mk (st := topS 14) l7 c7 k7
  have b7 := F7.binds (ps := ["web", "row", "kind", "some", "thing"]) fun _ _ _ _ _ _ us hl => match us, hl with | [_, _, _, _, _], _ => rfl
  have P_is_run := f_isrun (m := ⟨l.prog, w, K, mg, base⟩) B P_ending P_beginning P_is_step F7 b7 (PySem.W.mg_of X G a7)
  have F8 := fun_mk (st := topS 11) l8 c8 k8
  have b8 := F8.binds (ps := ["web", "row", "kind", "some"]) fun _ _ _ _ _ _ us hl => match us, hl with | [_, _, _, _], _ => rfl
  have P_run := f_run (m := ⟨l.prog, w, K, mg, base⟩) B P_spots P_do_clash P_beginning rfl hTB0 t1 F8 b8 (PySem.W.mg_of X G a8)
  have F9 := fun_mk (st := topS 11) l9 c9 k9
  have b9 := F9.binds (ps := ["web", "row", "kind", "some"]) fun _ _ _ _ _ _ us hl => match us, hl with | [_, _, _, _], _ => rfl
  have P_runX := f_runx (m := ⟨l.prog, w, K, mg, base⟩) B XE0 P_do_clash F9 b9 (PySem.W.mg_of X G a9)
  have F10 := fun_mk (st := topS 17) l10 c10 k10
  have b10 := F10.binds (ps := ["_law_cell_here", "_law_prime", "_law_many"]) fun _ _ _ _ _ _ us hl => match us, hl with | [_, _, _], _ => rfl
  have P_lmix := f_mix (m := ⟨l.prog, w, K, mg, base⟩) B  F10 b10 (PySem.W.mg_of X G a10)
  have F11 := fun_mk (st := topS 18) l11 c11 k11
  have b11 := F11.binds (ps := ["_law_cell_here", "_law_most", "_law_ties"]) fun _ _ _ _ _ _ us hl => match us, hl with | [_, _, _], _ => rfl
  have P_lweb := f_web (m := ⟨l.prog, w, K, mg, base⟩) B P_lmix F11 b11 (PySem.W.mg_of X G a11)
  have F12 := fun_mk (st := topS 19) l12 c12 k12
  have b12 := F12.binds (ps := ["_law_cell_here", "_law_many"]) fun _ _ _ _ _ _ us hl => match us, hl with | [_, _], _ => rfl
  have P_lrow := f_row (m := ⟨l.prog, w, K, mg, base⟩) B P_lmix F12 b12 (PySem.W.mg_of X G a12)
  have F13 := fun_mk (st := topS 20) l13 c13 k13
  have b13 := F13.binds (ps := ["_law_web_here", "_law_row_here", "_law_one", "_law_other"]) fun _ _ _ _ _ _ us hl => match us, hl with | [_, _, _, _], _ => rfl
  have P_lhow := f_lhow (m := ⟨l.prog, w, K, mg, base⟩) B  F13 b13 (PySem.W.mg_of X G a13)
  have F14 := fun_mk (st := topS 21) l14 c14 k14
  have b14 := F14.binds (ps := ["_law_web_here", "_law_row_here", "_law_kind"]) fun _ _ _ _ _ _ us hl => match us, hl with | [_, _, _], _ => rfl
  have P_lclashes := f_lclashes (m := ⟨l.prog, w, K, mg, base⟩) B P_lhow F14 b14 (PySem.W.mg_of X G a14)
  have F15 := fun_mk (st := topS 22) l15 c15 k15
  have b15 := F15.binds (ps := ["_law_web_here", "_law_row_here", "_law_kind", "_law_some"]) fun _ _ _ _ _ _ us hl => match us, hl with | [_, _, _, _], _ => rfl
  have P_lrun := f_lrun (m := ⟨l.prog, w, K, mg, base⟩) B XH0 P_run P_runX F15 b15 (PySem.W.mg_of X G a15)
  have F16 := fun_mk (st := topS 23) l16 c16 k16
  have b16 := F16.binds (ps := ["_law_web_here", "_law_row_here", "_law_kind", "_law_some", "_law_thing"]) fun _ _ _ _ _ _ us hl => match us, hl with | [_, _, _, _, _], _ => rfl
  have P_lis_run := f_lisrun (m := ⟨l.prog, w, K, mg, base⟩) B  F16 b16 (PySem.W.mg_of X G a16)
  have F17 := fun_mk (st := topS 24) l17 c17 k17
  have b17 := F17.binds (ps := ["_law_found", "_law_cell_here"]) fun _ _ _ _ _ _ us hl => match us, hl with | [_, _], _ => rfl
  have P_lspoilt := f_spoilt (m := ⟨l.prog, w, K, mg, base⟩) B  F17 b17 (PySem.W.mg_of X G a17)
  have F18 := fun_mk (st := topS 25) l18 c18 k18
  exact f_law (m := ⟨l.prog, w, K, mg, base⟩) B P_lmix P_lweb P_lrow P_lclashes P_lrun P_is_run P_lis_run P_lspoilt F18
end DL
open PySem PySem.W PyProof.Rows
set_option maxRecDepth 100000 in
set_option maxHeartbeats 0 in
theorem PySem.Challenge.cw_pageties_k08_whole_runs_holds : PySem.Challenge.rw_pageties_k08_whole_runs.Holds := by
  w_on; o_law; k_head; (case hw => w_witness2)
  k_fill
  refine LamX.walk_ofTs (l := PySem.Challenge.rw_pageties_k08_whole_runs) (n := 63) (k := 7) (x := "_law_script") (CX := fun _ => L2.CX0) rfl (by decide) rfl ⟨rfl, by decide, by decide⟩ (fun w h Y => PySem.W.km_in_of Y) ?F (fun _ _ _ _ _ z => z)
  case F =>
    intro w mg fa h Y KX G hmg
    refine' DL.all_mk KX G hmg ?a0 ?l0 ?c0 ?k0 ?a1 ?l1 ?c1 ?k1 ?a2 ?l2 ?c2 ?k2 ?a3 ?l3 ?c3 ?k3 ?a4 ?l4 ?c4 ?k4 ?a5 ?l5 ?c5 ?k5 ?a6 ?l6 ?c6 ?k6 ?a7 ?l7 ?c7 ?k7 ?a8 ?l8 ?c8 ?k8 ?a9 ?l9 ?c9 ?k9 ?a10 ?l10 ?c10 ?k10 ?a11 ?l11 ?c11 ?k11 ?a12 ?l12 ?c12 ?k12 ?a13 ?l13 ?c13 ?k13 ?a14 ?l14 ?c14 ?k14 ?a15 ?l15 ?c15 ?k15 ?a16 ?l16 ?c16 ?k16 ?a17 ?l17 ?c17 ?k17 ?a18 ?l18 ?c18 ?k18 ?xA ?xP ?xR ?e1 ?e2 ?e3 ?e4 ?m1 ?m2 ?m3 ?m4 ?j1 ?j2 ?j3 ?j4 ?j5 ?q1 ?q2 ?q3 ?q4 ?q5 ?q6 ?q7 ?q8 ?zV ?t1 ?t2 ?t3 ?t4 ?z0 ?z1 ?z2 ?z3 ?z4 ?z5 ?z6 ?z7 ?z8 ?z9 ?z10 ?z11 ?z12 ?z13 ?z14 ?z15 ?z16 ?z17
    (case a0 => k_is)
    (case l0 => k_is)
    (case c0 => k_is)
    (case k0 => k_is)
    (case a1 => k_is)
    (case l1 => k_is)
    (case c1 => k_is)
    (case k1 => k_is)
    (case a2 => k_is)
    (case l2 => k_is)
    (case c2 => k_is)
    (case k2 => k_is)
    (case a3 => k_is)
    (case l3 => k_is)
    (case c3 => k_is)
    (case k3 => k_is)
    (case a4 => k_is)
    (case l4 => k_is)
    (case c4 => k_is)
    (case k4 => k_is)
    (case a5 => k_is)
    (case l5 => k_is)
    (case c5 => k_is)
    (case k5 => k_is)
    (case a6 => k_is)
    (case l6 => k_is)
    (case c6 => k_is)
    (case k6 => k_is)
    (case a7 => k_is)
    (case l7 => k_is)
    (case c7 => k_is)
    (case k7 => k_is)
    (case a8 => k_is)
    (case l8 => k_is)
    (case c8 => k_is)
    (case k8 => k_is)
    (case a9 => k_is)
    (case l9 => k_is)
    (case c9 => k_is)
    (case k9 => k_is)
    (case a10 => k_is)
    (case l10 => k_is)
    (case c10 => k_is)
    (case k10 => k_is)
    (case a11 => k_is)
    (case l11 => k_is)
    (case c11 => k_is)
    (case k11 => k_is)
    (case a12 => k_is)
    (case l12 => k_is)
    (case c12 => k_is)
    (case k12 => k_is)
    (case a13 => k_is)
    (case l13 => k_is)
    (case c13 => k_is)
    (case k13 => k_is)
    (case a14 => k_is)
    (case l14 => k_is)
    (case c14 => k_is)
    (case k14 => k_is)
    (case a15 => k_is)
    (case l15 => k_is)
    (case c15 => k_is)
    (case k15 => k_is)
    (case a16 => k_is)
    (case l16 => k_is)
    (case c16 => k_is)
    (case k16 => k_is)
    (case a17 => k_is)
    (case l17 => k_is)
    (case c17 => k_is)
    (case k17 => k_is)
    (case a18 => k_is)
    (case l18 => k_is)
    (case c18 => k_is)
    (case k18 => k_is)
    (case xA => k_is)
    (case xP => k_is)
    (case xR => k_is)
    (case e1 => k_exc)
    (case e2 => k_is)
    (case e3 => k_is)
    (case e4 => k_is)
    (case m1 => k_is)
    (case m2 => k_is)
    (case m3 => k_is)
    (case m4 => k_is)
    (case j1 => k_is)
    (case j2 => k_is)
    (case j3 => k_is)
    (case j4 => first | rfl | k_is)
    (case j5 => k_is)
    (case q1 => k_is)
    (case q2 => k_is)
    (case q3 => k_is)
    (case q4 => k_is)
    (case q5 => k_is)
    (case q6 => k_is)
    (case q7 => k_is)
    (case q8 => k_is)
    (case zV => k_is)
    (case t1 => rfl)
    (case t3 => exact PySem.W.km_tabs_of Y _ List.mem_cons_self)
    (case t4 => first | kernel_rfl | k_is | rfl)
    (case z0 => k_is)
    (case z1 => k_is)
    (case z2 => k_is)
    (case z3 => k_is)
    (case z4 => k_is)
    (case z5 => k_is)
    (case z6 => k_is)
    (case z7 => k_is)
    (case z8 => k_is)
    (case z9 => k_is)
    (case z10 => k_is)
    (case z11 => k_is)
    (case z12 => k_is)
    (case z13 => k_is)
    (case z14 => k_is)
    (case z15 => k_is)
    (case z16 => k_is)
    (case z17 => k_is)
    (case t2 => first | kernel_rfl | decide +kernel | rfl)

