import PyProof.Rows.All
import Wide.All
import OpenK.AllK
import Wide.FinOn
import HandS.ForMost
import HandS.Deep
import HandS.TupAny
import HandS.TupMul
import HandS.TupSets
import HandS.TupLe
import HandS.Wide
import HandS.IsInst
import HandS.Conv
import HandS.Style
import HandS.SortInts
import HandS.Rev
import HandS.Exc
import HandS.Strs
import HandS.SetFor
import KE.GoesNew
import PyProof.FactsAll.tuple_2
import HandS.Iter
import HandS.Dict
import HandS.MapObj
import HandS.ForList
import HandS.EndBits
import PySem.Challenge.RW_pageties_k09_whole_rows_and_webs_changed
set_option Elab.async false
set_option linter.all false
set_option maxRecDepth 100000
namespace DL
open PySem PySem.Spec L2
set_option autoImplicit false

/-! heaps, a part of them hidden -/
def hide (S : List Addr) (H : Hp) : Hp := fun a => if a ∈ S then none else H a
theorem hide_in {S : List Addr} {H : Hp} {a : Addr} (h : a ∈ S) : hide S H a = none := if_pos h
theorem hide_out {S : List Addr} {H : Hp} {a : Addr} (h : a ∉ S) : hide S H a = H a := if_neg h
theorem hide_sub (S : List Addr) (H : Hp) : Same (hide S H) H := fun b o e => by
  by_cases h : b ∈ S
  · rw [hide_in h] at e; cases e
  · rw [hide_out h] at e; exact e
theorem hide_mono {S : List Addr} {H H' : Hp} (s : Same H H') : Same (hide S H) (hide S H') := fun b o e => by
  by_cases h : b ∈ S
  · rw [hide_in h] at e; cases e
  · rw [hide_out h] at e ⊢; exact s b o e
theorem hide_some {S : List Addr} {H : Hp} {a : Addr} {o : HO} (e : hide S H a = some o) : a ∉ S ∧ H a = some o := by
  by_cases h : a ∈ S
  · rw [hide_in h] at e; cases e
  · rw [hide_out h] at e; exact ⟨h, e⟩
theorem hide_app (S T : List Addr) (H : Hp) : hide (S ++ T) H = hide T (hide S H) := by
  funext a
  unfold hide
  by_cases h1 : a ∈ S <;> by_cases h2 : a ∈ T <;> simp [h1, h2]
/-- a new object, hidden: nothing is seen of it -/
theorem hide_upd {S : List Addr} {H : Hp} {p : Addr} {o : HO} (h : p ∈ S) : hide S (upd H p o) = hide S H := by
  funext a
  by_cases e : a ∈ S
  · rw [hide_in e, hide_in e]
  · rw [hide_out e, hide_out e, upd_ne (fun z => e (by rw [z]; exact h))]
theorem hide_cons_new {S : List Addr} {H : Hp} {p : Addr} (h : H p = none) : hide (p :: S) H = hide S H := by
  funext a
  by_cases e : a = p
  · subst e
    rw [hide_in List.mem_cons_self]
    by_cases e2 : a ∈ S
    · rw [hide_in e2]
    · rw [hide_out e2, h]
  · by_cases e2 : a ∈ S
    · rw [hide_in e2, hide_in (List.mem_cons_of_mem _ e2)]
    · rw [hide_out e2, hide_out (by simp [e, e2])]
theorem hide_cons_upd {S : List Addr} {H : Hp} {p : Addr} {o : HO} (h : H p = none) : hide (p :: S) (upd H p o) = hide S H := by
  rw [hide_upd List.mem_cons_self, hide_cons_new h]
def SOk (S : List Addr) (H : Hp) : Prop := ∀ a ∈ S, H a ≠ none
theorem SOk.mono {S : List Addr} {H H' : Hp} (h : SOk S H) (s : Same H H') : SOk S H' := fun a ha e => h a ha (s.free e)
theorem SOk.new {S : List Addr} {H : Hp} {p : Addr} (h : SOk S H) (n : H p = none) : p ∉ S := fun z => h p z n
theorem same_upd {H : Hp} {p : Addr} (h : H p = none) (o : HO) : Same H (upd H p o) := fun b u q => by rw [upd_ne (ne_of_none q h)]; exact q
theorem hide_upd_at {S : List Addr} {H : Hp} {p : Addr} {o : HO} (h : SOk S H) (n : H p = none) : hide S (upd H p o) p = some o := by
  rw [hide_out (h.new n), upd_same]
theorem Same.ofEq {H H' : Hp} (e : H = H') : Same H H' := e ▸ Same.refl H

/-! a value that stands for data -/
mutual
inductive Rp (K : PySem.W.Frag) (H : Hp) : V → PyData → Prop
  | non : Rp K H .non .none
  | bl (b : Bool) : Rp K H (.bl b) (.bool b)
  | int (i : Int) : Rp K H (.int i) (.int i)
  | str (x : Str) : Rp K H (.str x) (.str x)
  | lst {a : Addr} {xs : List V} {ds : List PyData} : H a = some (.lst xs) → xs.length ≤ sizeLine → RpAll K H xs ds → Rp K H (.ref a) (.list ds)
  | tup {a : Addr} {xs : List V} {ds : List PyData} {o : Obj} : H a = some (.frz o (.tup xs)) → o.dict = none → xs.length ≤ sizeLine → RpAll K H xs ds → Rp K H (.ref a) (.tuple ds)
  | dct {a : Addr} {kvs : List (Int × Int)} : Rd H a (.dK (kvs.map fun p => (Sum.inl p.1, V.int p.2))) → kvs.length ≤ sizeLine → Rp K H (.ref a) (.dict (kvs.map fun p => (.int p.1, .int p.2)))
  | dctF {a : Addr} {o : Obj} {kvs : List (Int × Int)} : H a = some (.frz o (.dK (kvs.map fun p => (Sum.inl p.1, V.int p.2)))) → kvs.length ≤ sizeLine → Rp K H (.ref a) (.dict ((.bool true, .none) :: kvs.map fun p => (.int p.1, .int p.2)))
  | scr {a : Addr} {ns : List Int} : SqL K H a (ns.map V.int) → ns.length ≤ 63 → Rp K H (.ref a) (.dict [(.none, .list (ns.map .int))])
inductive RpAll (K : PySem.W.Frag) (H : Hp) : List V → List PyData → Prop
  | nil : RpAll K H [] []
  | cons {v : V} {vs : List V} {d : PyData} {ds : List PyData} : Rp K H v d → RpAll K H vs ds → RpAll K H (v :: vs) (d :: ds)
end
theorem Rd.same {H H' : Hp} {a : Addr} {u : HO} (r : Rd H a u) (s : Same H H') : Rd H' a u := r.elim (fun e => .inl (s _ _ e)) fun ⟨o, e⟩ => .inr ⟨o, s _ _ e⟩
mutual
theorem Rp.mono {K : PySem.W.Frag} {H H' : Hp} (s : Same H H') : ∀ {v : V} {d : PyData}, Rp K H v d → Rp K H' v d
  | _, _, .non => .non
  | _, _, .bl b => .bl b
  | _, _, .int i => .int i
  | _, _, .str x => .str x
  | _, _, .lst e z r => .lst (s _ _ e) z (RpAll.mono s r)
  | _, _, .tup e k z r => .tup (s _ _ e) k z (RpAll.mono s r)
  | _, _, .dct r z => .dct (Rd.same r s) z
  | _, _, .dctF e z => .dctF (s _ _ e) z
  | _, _, .scr r z => .scr (s.seq r) z
theorem RpAll.mono {K : PySem.W.Frag} {H H' : Hp} (s : Same H H') : ∀ {vs : List V} {ds : List PyData}, RpAll K H vs ds → RpAll K H' vs ds
  | _, _, .nil => .nil
  | _, _, .cons h t => .cons (Rp.mono s h) (RpAll.mono s t)
end
section
variable {K : PySem.W.Frag} {H H' : Hp}
theorem RpAll.len : ∀ {vs : List V} {ds : List PyData}, RpAll K H vs ds → vs.length = ds.length
  | _, _, .nil => rfl
  | _, _, .cons _ t => congrArg (· + 1) t.len
theorem RpAll.get : ∀ {vs : List V} {ds : List PyData} {i : Nat} {d : PyData}, RpAll K H vs ds → ds[i]? = some d → ∃ v, vs[i]? = some v ∧ Rp K H v d
  | _, _, _, _, .nil, e => by simp at e
  | _, _, 0, _, .cons h _, e => ⟨_, rfl, Option.some.inj e ▸ h⟩
  | _, _, i + 1, _, .cons _ t, e => by
    obtain ⟨v, h1, h2⟩ := t.get (i := i) (by simpa using e)
    exact ⟨v, by simpa using h1, h2⟩
theorem RpAll.getV : ∀ {vs : List V} {ds : List PyData} {i : Nat} {v : V}, RpAll K H vs ds → vs[i]? = some v → ∃ d, ds[i]? = some d ∧ Rp K H v d
  | _, _, _, _, .nil, e => by simp at e
  | _, _, 0, _, .cons h _, e => ⟨_, rfl, Option.some.inj e ▸ h⟩
  | _, _, i + 1, _, .cons _ t, e => by
    obtain ⟨v, h1, h2⟩ := t.getV (i := i) (by simpa using e)
    exact ⟨v, by simpa using h1, h2⟩
theorem RpAll.app : ∀ {vs ws : List V} {ds es : List PyData}, RpAll K H vs ds → RpAll K H ws es → RpAll K H (vs ++ ws) (ds ++ es)
  | _, _, _, _, .nil, t => t
  | _, _, _, _, .cons h r, t => .cons h (r.app t)
theorem RpAll.drop : ∀ {vs : List V} {ds : List PyData} (n : Nat), RpAll K H vs ds → RpAll K H (vs.drop n) (ds.drop n)
  | _, _, 0, r => r
  | _, _, _ + 1, .nil => .nil
  | _, _, n + 1, .cons _ t => t.drop n
theorem RpAll.take : ∀ {vs : List V} {ds : List PyData} (n : Nat), RpAll K H vs ds → RpAll K H (vs.take n) (ds.take n)
  | _, _, 0, _ => .nil
  | _, _, _ + 1, .nil => .nil
  | _, _, n + 1, .cons h t => .cons h (t.take n)
theorem RpAll.one {v : V} {d : PyData} (h : Rp K H v d) : RpAll K H [v] [d] := .cons h .nil
theorem RpAll.erase : ∀ {vs : List V} {ds : List PyData} (n : Nat), RpAll K H vs ds → RpAll K H (vs.eraseIdx n) (ds.eraseIdx n)
  | _, _, _, .nil => .nil
  | _, _, 0, .cons _ t => t
  | _, _, n + 1, .cons h t => .cons h (t.erase n)
theorem RpAll.rev : ∀ {vs : List V} {ds : List PyData}, RpAll K H vs ds → RpAll K H vs.reverse ds.reverse
  | _, _, .nil => .nil
  | _, _, .cons h t => by rw [List.reverse_cons, List.reverse_cons]; exact t.rev.app (.one h)
theorem RpAll.flat : ∀ (n : Nat) {vs : List V} {ds : List PyData}, RpAll K H vs ds → RpAll K H (List.replicate n vs).flatten (List.replicate n ds).flatten
  | 0, _, _, _ => .nil
  | n + 1, _, _, r => by rw [List.replicate_succ, List.replicate_succ, List.flatten_cons, List.flatten_cons]; exact r.app (RpAll.flat n r)
/-- whole numbers -/
theorem RpAll.ints : ∀ {vs : List V} {ns : List Int}, RpAll K H vs (ns.map .int) → vs = ns.map V.int
  | _, [], .nil => rfl
  | _, n :: ns, .cons h t => by cases h; rw [RpAll.ints t]; rfl
theorem RpAll.ofInts : ∀ (ns : List Int), RpAll K H (ns.map V.int) (ns.map .int)
  | [] => .nil
  | n :: ns => .cons (.int n) (RpAll.ofInts ns)
theorem RpAll.strs : ∀ {vs : List V} {ns : List Str}, RpAll K H vs (ns.map .str) → vs = ns.map V.str
  | _, [], .nil => rfl
  | _, n :: ns, .cons h t => by cases h; rw [RpAll.strs t]; rfl
theorem RpAll.ofStrs : ∀ (ns : List Str), RpAll K H (ns.map V.str) (ns.map .str)
  | [] => .nil
  | n :: ns => .cons (.str n) (RpAll.ofStrs ns)
theorem RpAll.bls : ∀ {vs : List V} {ns : List Bool}, RpAll K H vs (ns.map .bool) → vs = ns.map V.bl
  | _, [], .nil => rfl
  | _, n :: ns, .cons h t => by cases h; rw [RpAll.bls t]; rfl
end
/-! data without lists, dicts: what no change of a list can reach -/
mutual
def imm : PyData → Bool
  | .none => true
  | .bool _ => true
  | .int _ => true
  | .str _ => true
  | .tuple xs => immAll xs
  | .list _ => false
  | .dict _ => false
def immAll : List PyData → Bool
  | [] => true
  | x :: xs => imm x && immAll xs
end
mutual
/-- such data is seen with the lists at T hidden, too -/
theorem Rp.imm_hide {K : PySem.W.Frag} {S T : List Addr} {H : Hp} (hT : ∀ a ∈ T, ∀ (o : Obj) (xs : List V), H a ≠ some (.frz o (.tup xs))) : ∀ {d : PyData} {v : V}, imm d = true → Rp K (hide S H) v d → Rp K (hide (T ++ S) H) v d
  | .none, _, _, .non => .non
  | .bool _, _, _, .bl b => .bl b
  | .int _, _, _, .int i => .int i
  | .str _, _, _, .str x => .str x
  | .tuple ds, _, h, .tup (a := a) (xs := xs) e k z r => by
    obtain ⟨h1, h2⟩ := hide_some e
    have hn : a ∉ T := fun q => hT a q _ _ h2
    refine .tup (a := a) (xs := xs) ?_ k z (RpAll.imm_hide hT (by simpa [imm] using h) r)
    rw [hide_out (by simp [hn, h1])]
    exact h2
  | .list _, _, h, _ => by simp [imm] at h
  | .dict _, _, h, _ => by simp [imm] at h
theorem RpAll.imm_hide {K : PySem.W.Frag} {S T : List Addr} {H : Hp} (hT : ∀ a ∈ T, ∀ (o : Obj) (xs : List V), H a ≠ some (.frz o (.tup xs))) : ∀ {ds : List PyData} {vs : List V}, immAll ds = true → RpAll K (hide S H) vs ds → RpAll K (hide (T ++ S) H) vs ds
  | [], _, _, .nil => .nil
  | d :: ds, _, h, .cons r t => by
    have h' : imm d = true ∧ immAll ds = true := by simpa [immAll] using h
    exact .cons (Rp.imm_hide hT h'.1 r) (RpAll.imm_hide hT h'.2 t)
end
end DL

set_option Elab.async false
set_option linter.all false
set_option maxRecDepth 100000
namespace DL
open PySem PySem.Spec L2
set_option autoImplicit false

/-! ### what is fixed -/
structure Md where
  P : Program
  w : World
  K : PySem.W.Frag
  mg : PySem.Str → Option Value
  base : Heap
/-- a def's (or a block's) fixed surroundings: its names by slot, its scope, the calls that are allowed within -/
structure Ct where
  m : Md
  N : List PySem.Str
  sc : Scope
  rm : Nat
  /-- which cells are the block's own -/
  fnB : PySem.Str → Bool
structure Ct.Is (G : Ct) (X : Cx) : Prop where
  prog : X.prog = G.m.P
  w : X.w = G.m.w
  K : X.K = G.m.K
  mg : X.mg = G.m.mg
  base : X.base = G.m.base
  N : X.N = G.N
  nd : X.N.Nodup
  sc : X.env.scope = G.sc
  calm : X.calm = true
  rm : Room G.rm X.A
  xe : X.xe = fun _ _ => False
  fn : ∀ x, X.fn x = G.fnB x
  nodbg : ∀ x ∈ G.N, (x == ("__debug__" : PySem.Str)) = false ∧ (x == ("__classdict__" : PySem.Str)) = false

abbrev DEnv := List (Option PyData)
structure Rel (K : PySem.W.Frag) (S : List Addr) (δ : DEnv) (σ : L2.St) (H : Hp) : Prop where
  len : σ.length = δ.length
  val : ∀ (i : Nat) (d : PyData), δ[i]? = some (some d) → ∃ v, σ[i]? = some (some v) ∧ Rp K (hide S H) v d
theorem Rel.mono {K : PySem.W.Frag} {S : List Addr} {δ : DEnv} {σ : L2.St} {H H' : Hp} (r : Rel K S δ σ H) (s : Same H H') : Rel K S δ σ H' :=
  ⟨r.len, fun i d e => let ⟨v, h1, h2⟩ := r.val i d e; ⟨v, h1, h2.mono (hide_mono s)⟩⟩
theorem Rel.set {K : PySem.W.Frag} {S : List Addr} {δ : DEnv} {σ : L2.St} {H : Hp} {i : Nat} {v : V} {d : PyData} (r : Rel K S δ σ H) (h : Rp K (hide S H) v d) : Rel K S (δ.set i (some d)) (σ.set i (some v)) H := by
  refine ⟨by simp [r.len], fun j e hj => ?_⟩
  by_cases q : i = j
  · subst q
    by_cases hl : i < δ.length
    · rw [List.getElem?_set_self hl] at hj
      cases hj
      exact ⟨v, List.getElem?_set_self (by rw [r.len]; exact hl), h⟩
    · rw [List.getElem?_eq_none (by simpa using hl)] at hj; cases hj
  · rw [List.getElem?_set_ne q] at hj ⊢
    exact r.val j e hj
theorem Rel.forget {K : PySem.W.Frag} {S : List Addr} {δ : DEnv} {σ : L2.St} {H : Hp} (r : Rel K S δ σ H) (i : Nat) (v : Option V) : Rel K S (δ.set i none) (σ.set i v) H := by
  refine ⟨by simp [r.len], fun j e hj => ?_⟩
  by_cases q : i = j
  · subst q
    by_cases hl : i < δ.length
    · rw [List.getElem?_set_self hl] at hj; cases hj
    · rw [List.getElem?_eq_none (by simpa using hl)] at hj; cases hj
  · rw [List.getElem?_set_ne q] at hj ⊢
    exact r.val j e hj

/-! ### the judgements -/
/-- a reading by a relation of what the names hold and what comes of it -/
def tDR (K : PySem.W.Frag) (R : DEnv → PyData → Prop) : TE := fun σ H Q => ∃ S δ d, R δ d ∧ SOk S H ∧ Rel K S δ σ H ∧ ∀ v H', Same H H' → Rp K (hide S H') v d → Q v H'
def tDT (K : PySem.W.Frag) (R : DEnv → Bool → Prop) : TT := fun σ H Q => ∃ S δ b, R δ b ∧ SOk S H ∧ Rel K S δ σ H ∧ ∀ H', Same H H' → Q b H'
def tDA (K : PySem.W.Frag) (R : DEnv → List PyData → Prop) : TA := fun σ H Q => ∃ S δ ds, R δ ds ∧ SOk S H ∧ Rel K S δ σ H ∧ ∀ vs H', Same H H' → RpAll K (hide S H') vs ds → Q vs H'
/-- e gives d where the names hold what δ says -/
def DV (G : Ct) (δ : DEnv) (e : Expr) (d : PyData) : Prop := ∀ X, G.Is X → PE X e (tDR G.m.K fun δ' d' => δ' = δ ∧ d' = d)
def DT (G : Ct) (δ : DEnv) (e : Expr) (b : Bool) : Prop := ∀ X, G.Is X → PT X e (tDT G.m.K fun δ' b' => δ' = δ ∧ b' = b)
/-- a test whatever its whole is -/
def DW (G : Ct) (δ : DEnv) (e : Expr) (b : Bool) : Prop := ∀ X, G.Is X → PW X e (tDT G.m.K fun δ' b' => δ' = δ ∧ b' = b)
def DA (G : Ct) (δ : DEnv) (es : List Expr) (ds : List PyData) : Prop := ∀ X, G.Is X → PA X es (tDA G.m.K fun δ' d' => δ' = δ ∧ d' = ds)
section
variable {X : Cx} {e : Expr} {es : List Expr} {K : PySem.W.Frag}
theorem PE.imp {t t' : TE} (h : PE X e t) (w : ∀ σ H Q, t' σ H Q → t σ H Q) : PE X e t' := ⟨fun pins s σ H Q I q => h.run pins s σ H Q I (w _ _ _ q)⟩
theorem PT.imp {t t' : TT} (h : PT X e t) (w : ∀ σ H Q, t' σ H Q → t σ H Q) : PT X e t' := ⟨fun pins s σ H Q I q => h.run pins s σ H Q I (w _ _ _ q)⟩
theorem PW.imp {t t' : TT} (h : PW X e t) (w : ∀ σ H Q, t' σ H Q → t σ H Q) : PW X e t' := ⟨fun wh pins s σ H Q I q => h.run wh pins s σ H Q I (w _ _ _ q)⟩
theorem PA.imp {t t' : TA} (h : PA X es t) (w : ∀ σ H Q, t' σ H Q → t σ H Q) : PA X es t' := ⟨fun pos pins s σ H Q I q => h.run pos pins s σ H Q I (w _ _ _ q)⟩
theorem PE.rel {R : DEnv → PyData → Prop} (h : ∀ δ d, R δ d → PE X e (tDR K fun δ' d' => δ' = δ ∧ d' = d)) : PE X e (tDR K R) :=
  ⟨fun pins s σ H Q I ⟨S, δ, d, r, q⟩ => (h δ d r).run pins s σ H Q I ⟨S, δ, d, ⟨rfl, rfl⟩, q⟩⟩
theorem PT.rel {R : DEnv → Bool → Prop} (h : ∀ δ d, R δ d → PT X e (tDT K fun δ' d' => δ' = δ ∧ d' = d)) : PT X e (tDT K R) :=
  ⟨fun pins s σ H Q I ⟨S, δ, d, r, q⟩ => (h δ d r).run pins s σ H Q I ⟨S, δ, d, ⟨rfl, rfl⟩, q⟩⟩
end
section
variable {G : Ct} {δ : DEnv} {a b e c : Expr} {es rest : List Expr} {x y d : PyData} {ds : List PyData} {pos : Pos}
theorem DV.conv (h : DV G δ e d) {d' : PyData} (q : d = d') : DV G δ e d' := q ▸ h
theorem DT.conv {b b' : Bool} (h : DT G δ e b) (q : b = b') : DT G δ e b' := q ▸ h
theorem dv_cst {v : V} (hp : ∀ X, G.Is X → PE X e (tC v)) (hr : ∀ H, Rp G.m.K H v d) : DV G δ e d := fun X h => PE.imp (hp X h) fun σ H Q ⟨S, δ', d', ⟨e1, e2⟩, ok, r, q⟩ => by
  subst e1 e2
  exact q v H (Same.refl H) (hr _)
theorem dv_int {i : Int} {j} : DV G δ (.Constant (.int i) j pos) (.int i) := dv_cst (fun _ _ => pe_int) fun _ => .int i
theorem dv_bl {i : Bool} {j} : DV G δ (.Constant (.bool i) j pos) (.bool i) := dv_cst (fun _ _ => pe_bl) fun _ => .bl i
theorem dv_str {i : PySem.Str} {j} : DV G δ (.Constant (.str i) j pos) (.str i) := dv_cst (fun _ _ => pe_str) fun _ => .str i
theorem dv_non {j} : DV G δ (.Constant .none j pos) .none := dv_cst (fun _ _ => pe_non) fun _ => .non
/-- names that one may read -/
def visB (sc : Scope) (x : PySem.Str) : Bool := match sc.names.lookup x with
  | some .local => true
  | some .cell => true
  | some .free => true
  | _ => false
theorem vis_of {sc : Scope} {x : PySem.Str} (h : visB sc x = true) : Vis sc x := by
  unfold visB at h
  unfold Vis
  split at h <;> simp_all
/-- names that one may store -/
def locB (G : Ct) (x : PySem.Str) : Bool := match G.sc.names.lookup x with
  | some .local => true
  | some .cell => G.fnB x
  | _ => false
theorem loc_of {x : PySem.Str} (h : locB G x = true) : L2.Loc G.sc x := by
  unfold locB at h
  unfold L2.Loc
  split at h <;> simp_all
theorem loc_fn {X : Cx} (hX : G.Is X) {x : PySem.Str} (h : locB G x = true) : X.fn x = true ∨ X.env.scope.names.lookup x = some .local := by
  rw [hX.fn, hX.sc]
  unfold locB at h
  split at h <;> simp_all
theorem dv_n (i : Nat) {x : PySem.Str} (hN : G.N[i]? = some x) (hv : visB G.sc x = true) (hd : δ[i]? = some (some d)) : DV G δ (.Name x pos) d := fun X h => by
  have hN' : X.N[i]? = some x := by rw [h.N]; exact hN
  have hx := h.nodbg x (List.mem_of_getElem? hN)
  refine PE.imp (pe_var hN' (by rw [h.sc]; exact vis_of hv) hx.1 hx.2) fun σ H Q ⟨S, δ', d', ⟨e1, e2⟩, ok, r, q⟩ => ?_
  subst e1 e2
  obtain ⟨v, h1, h2⟩ := r.val i _ hd
  exact ⟨v, h1, q v H (Same.refl H) h2⟩
/-- two parts -/
theorem dv_bin {f : Value → Value → Sem Value} {r : R2} (hp : ∀ X, G.Is X → ∀ {ta tb : TE}, PE X a ta → PE X b tb → PE X e (tOp r ta tb)) (ha : DV G δ a x) (hb : DV G δ b y)
    (hr : ∀ S H v w Q, SOk S H → Rp G.m.K (hide S H) v x → Rp G.m.K (hide S H) w y → (∀ u H', Same H H' → Rp G.m.K (hide S H') u d → Q u H') → r v w H Q) : DV G δ e d := fun X h =>
  PE.imp (hp X h (ha X h) (hb X h)) fun σ H Q ⟨S, δ', d', ⟨e1, e2⟩, ok, R, q⟩ => by
    subst e1 e2
    exact ⟨S, _, _, ⟨rfl, rfl⟩, ok, R, fun v H1 s1 r1 => ⟨S, _, _, ⟨rfl, rfl⟩, ok.mono s1, R.mono s1, fun w H2 s2 r2 =>
      hr S H2 v w Q ((ok.mono s1).mono s2) (r1.mono (hide_mono s2)) r2 fun u H3 s3 r3 => q u H3 ((s1.trans s2).trans s3) r3⟩⟩
theorem dv_op {op : Operator} {r : R2} (ho : ∀ X, G.Is X → OpR X (binaryOp op) r) (ha : DV G δ a x) (hb : DV G δ b y)
    (hr : ∀ S H v w Q, SOk S H → Rp G.m.K (hide S H) v x → Rp G.m.K (hide S H) w y → (∀ u H', Same H H' → Rp G.m.K (hide S H') u d → Q u H') → r v w H Q) : DV G δ (.BinOp a op b pos) d :=
  dv_bin (f := binaryOp op) (fun X h _ _ p q => pe_op (ho X h) p q) ha hb hr
/-- one part -/
theorem dv_un {r : V → Hp → VK → Prop} (hp : ∀ X, G.Is X → ∀ {ta : TE}, PE X a ta → PE X e (tUn r ta)) (ha : DV G δ a x)
    (hr : ∀ S H v Q, SOk S H → Rp G.m.K (hide S H) v x → (∀ u H', Same H H' → Rp G.m.K (hide S H') u d → Q u H') → r v H Q) : DV G δ e d := fun X h =>
  PE.imp (hp X h (ha X h)) fun σ H Q ⟨S, δ', d', ⟨e1, e2⟩, ok, R, q⟩ => by
    subst e1 e2
    exact ⟨S, _, _, ⟨rfl, rfl⟩, ok, R, fun v H1 s1 r1 => hr S H1 v Q (ok.mono s1) r1 fun u H3 s3 r3 => q u H3 (s1.trans s3) r3⟩
theorem dv_neg {i : Int} (ha : DV G δ a (.int i)) : DV G δ (.UnaryOp .USub a pos) (.int (-i)) :=
  dv_un (r := rU fun i => .int (-i)) (fun X h _ p => pe_un un_neg p) ha fun S H v Q ok r q => by
    cases r
    exact ⟨i, rfl, q _ H (Same.refl H) (.int _)⟩

/-! ### arguments, displays -/
theorem da_nil : DA G δ [] [] := fun X h => PA.imp pa_nil fun σ H Q ⟨S, δ', d', ⟨e1, e2⟩, ok, R, q⟩ => by
  subst e1 e2
  exact q [] H (Same.refl H) .nil
theorem da_cons (ha : DV G δ a x) (hr : DA G δ es ds) (hs : ∀ env : Env, starEach (a :: es) env = (false, eval a env) :: starEach es env := by intro _; rfl) : DA G δ (a :: es) (x :: ds) := fun X h =>
  PA.imp (pa_cons (ha X h) (hr X h) (hs _)) fun σ H Q ⟨S, δ', d', ⟨e1, e2⟩, ok, R, q⟩ => by
    subst e1 e2
    exact ⟨S, _, _, ⟨rfl, rfl⟩, ok, R, fun v H1 s1 r1 => ⟨S, _, _, ⟨rfl, rfl⟩, ok.mono s1, R.mono s1, fun w H2 s2 r2 => q (v :: w) H2 (s1.trans s2) (.cons (r1.mono (hide_mono s2)) r2)⟩⟩
/-! tuples: what stands at the address is known, its own dict is none -/
theorem inv_tnew {X : Cx} {pins : List (Addr × Obj)} {σ : L2.St} {H : Hp} {s : Shared} {ys : List V} {its : List Value} {t' : Nat} (I : Inv X pins σ H s) (hv : Vals ys its) (hz : ys.length ≤ sizeLine) :
    Inv X pins σ (upd H s.heap.objs.size (.frz { cls := .type "tuple", data := .seq its.toArray } (.tup ys))) { s with heap := s.heap.push { cls := .type "tuple", data := .seq its.toArray }, toks := t' } :=
  I.laid (fun _ _ q => Heap.get?_push_of_some _ q) (Nat.le_refl _) ⟨Heap.get?_push_size _ rfl, hz, its, hv, PyProof.Rows.IsTup.new _ _⟩
/-- a new tuple of these -/
abbrev NewT (H : Hp) (xs : List V) (Q : VK) : Prop := ∀ (p : Addr) (o : Obj), H p = none → o.dict = none → Q (.ref p) (upd H p (.frz o (.tup xs)))
theorem newT {X : Cx} {pins : List (Addr × Obj)} {σ : L2.St} {H : Hp} {s : Shared} {ys : List V} {its : List Value} {t' : Nat} {Q : VK} (I : Inv X pins σ H s) (hv : Vals ys its) (hz : ys.length ≤ sizeLine) (q : NewT H ys Q) :
    EP X pins σ Q (.ref s.heap.objs.size) { s with heap := s.heap.push { cls := .type "tuple", data := .seq its.toArray }, toks := t' } :=
  ⟨.ref s.heap.objs.size, _, inv_tnew I hv hz, rfl, q _ { cls := .type "tuple", data := .seq its.toArray } (I.hok.fresh (Nat.le_refl _)) rfl⟩
theorem SqT.frz {K : PySem.W.Frag} {H : Hp} {a : Addr} {o : Obj} {xs : List V} (e : H a = some (.frz o (.tup xs))) : SqT K H a xs := .inl (.inr ⟨o, e⟩)
theorem Rp.newT {K : PySem.W.Frag} {S : List Addr} {H H0 : Hp} {xs : List V} {ds : List PyData} {Q : VK} (ok : SOk S H) (hz : xs.length ≤ sizeLine) (r : RpAll K (hide S H) xs ds) (s0 : Same H0 H) (q : ∀ v H', Same H0 H' → Rp K (hide S H') v (.tuple ds) → Q v H') : NewT H xs Q :=
  fun p _ hp ho => q _ _ (s0.trans (same_upd hp _)) (.tup (hide_upd_at ok hp) ho hz (r.mono (hide_mono (same_upd hp _))))
def tTupF (t : TA) : TE := fun σ H Q => t σ H fun xs H1 => xs.length ≤ sizeLine ∧ NewT H1 xs Q
theorem pe_tupF {X : Cx} {t : TA} {k} (h : PA X es t) : PE X (.Tuple es k pos) (tTupF t) := by
  refine ⟨fun pins s σ H Q I hq => ?_⟩
  refine wpAny_Tuple_spliced (thn (h.run pos pins s σ H _ I hq) fun us s1 ⟨xs, H1, I1, r, z, q⟩ => ⟨by rw [← r.length]; exact z, ?_⟩)
  exact newT (t' := s1.toks) I1 r z q
theorem dv_tup {k} (h : DA G δ es ds) (hz : ds.length ≤ 1000) : DV G δ (.Tuple es k pos) (.tuple ds) := fun X hX =>
  PE.imp (pe_tupF (h X hX)) fun σ H Q ⟨S, δ', d', ⟨e1, e2⟩, ok, R, q⟩ => by
    subst e1 e2
    refine ⟨S, _, _, ⟨rfl, rfl⟩, ok, R, fun vs H1 s1 r1 => ?_⟩
    have hz' : vs.length ≤ sizeLine := by rw [r1.len]; exact Nat.le_of_lt (small1000 hz)
    exact ⟨hz', Rp.newT (ok.mono s1) hz' r1 s1 q⟩
/-- a list that is new: made last, its items stood ahead -/
def tDN (K : PySem.W.Frag) (R : DEnv → List PyData → Prop) : TE := fun σ H Q => ∃ S δ ds, R δ ds ∧ SOk S H ∧ Rel K S δ σ H ∧
  ∀ xs p H', Same H H' → H' p = none → xs.length ≤ sizeLine → RpAll K (hide S H') xs ds → Q (.ref p) (upd H' p (.lst xs))
def DN (G : Ct) (δ : DEnv) (e : Expr) (ds : List PyData) : Prop := ∀ X, G.Is X → PE X e (tDN G.m.K fun δ' d' => δ' = δ ∧ d' = ds)
theorem dn_dv (h : DN G δ e ds) : DV G δ e (.list ds) := fun X hX =>
  PE.imp (h X hX) fun σ H Q ⟨S, δ', d', ⟨e1, e2⟩, ok, R, q⟩ => by
    subst e1 e2
    exact ⟨S, _, _, ⟨rfl, rfl⟩, ok, R, fun xs p H1 s1 hp hz r1 => q _ _ (s1.trans (same_upd hp _)) (.lst (hide_upd_at (ok.mono s1) hp) hz (r1.mono (hide_mono (same_upd hp _))))⟩
theorem DN.conv (h : DN G δ e ds) {ds' : List PyData} (q : ds = ds') : DN G δ e ds' := q ▸ h
theorem dn_lst (h : DA G δ es ds) (hz : ds.length ≤ 1000) : DN G δ (.List es pos) ds := fun X hX =>
  PE.imp (pe_lst (h X hX)) fun σ H Q ⟨S, δ', d', ⟨e1, e2⟩, ok, R, q⟩ => by
    subst e1 e2
    exact ⟨S, _, _, ⟨rfl, rfl⟩, ok, R, fun vs H1 s1 r1 => ⟨by rw [r1.len]; exact Nat.le_of_lt (small1000 hz), fun p hp => q vs p H1 s1 hp (by rw [r1.len]; exact Nat.le_of_lt (small1000 hz)) r1⟩⟩

/-! ### tests, and, or, not -/
theorem dt_val {k : Bool} (ha : DV G δ e (.bool k)) (he : ∀ (env : Env) whole, isTrue e env whole = (do let v ← whole; standAt e.pos; holding [v] (truthy v)) := by intro _ _; rfl) : DT G δ e k := fun X h =>
  PT.imp (pt_val (ha X h) (he _)) fun σ H Q ⟨S, δ', d', ⟨e1, e2⟩, ok, R, q⟩ => by
    subst e1 e2
    exact ⟨S, _, _, ⟨rfl, rfl⟩, ok, R, fun v H1 s1 r1 => by cases r1; exact ⟨_, rfl, q H1 s1⟩⟩
theorem dt_w {k : Bool} (h : DW G δ e k) : DT G δ e k := fun X hX => (h X hX).pt
theorem dw_and1 {k : Bool} (h : DT G δ a k) : DW G δ (.BoolOp .And [a] pos) k := fun X hX => pw_and1 (h X hX)
theorem dw_or1 {k : Bool} (h : DT G δ a k) : DW G δ (.BoolOp .Or [a] pos) k := fun X hX => pw_or1 (h X hX)
theorem dw_and {k j : Bool} (ha : DT G δ a k) (hb : k = true → DW G δ (.BoolOp .And (b :: rest) pos) j) : DW G δ (.BoolOp .And (a :: b :: rest) pos) (k && j) := fun X h => by
  cases k with
  | true =>
    refine PW.imp (pw_and (ha X h) (hb rfl X h)) fun σ H Q ⟨S, δ', d', ⟨e1, e2⟩, ok, R, q⟩ => ?_
    subst e1 e2
    refine ⟨S, _, _, ⟨rfl, rfl⟩, ok, R, fun H1 s1 => ?_⟩
    refine iteT ?_
    exact ⟨S, _, _, ⟨rfl, rfl⟩, ok.mono s1, R.mono s1, fun H2 s2 => q H2 (s1.trans s2)⟩
  | false =>
    refine ⟨fun wh pins s σ H Q I ⟨S, δ', d', ⟨e1, e2⟩, ok, R, q⟩ => ?_⟩
    subst e1 e2
    refine PyProof.Rows.isTrue_and (thn ((ha X h).run pins s σ H (fun c H1 => c = false ∧ Q false H1) I ⟨S, _, _, ⟨rfl, rfl⟩, ok, R, fun H1 s1 => ⟨rfl, q H1 s1⟩⟩) fun c s1 ⟨H1, I1, ec, q1⟩ => ?_)
    subst ec
    exact ⟨H1, I1, q1⟩
theorem dw_or {k j : Bool} (ha : DT G δ a k) (hb : k = false → DW G δ (.BoolOp .Or (b :: rest) pos) j) : DW G δ (.BoolOp .Or (a :: b :: rest) pos) (k || j) := fun X h => by
  cases k with
  | false =>
    refine PW.imp (pw_or (ha X h) (hb rfl X h)) fun σ H Q ⟨S, δ', d', ⟨e1, e2⟩, ok, R, q⟩ => ?_
    subst e1 e2
    refine ⟨S, _, _, ⟨rfl, rfl⟩, ok, R, fun H1 s1 => ?_⟩
    refine iteF ?_
    exact ⟨S, _, _, ⟨rfl, rfl⟩, ok.mono s1, R.mono s1, fun H2 s2 => q H2 (s1.trans s2)⟩
  | true =>
    refine ⟨fun wh pins s σ H Q I ⟨S, δ', d', ⟨e1, e2⟩, ok, R, q⟩ => ?_⟩
    subst e1 e2
    refine PyProof.Rows.isTrue_or (thn ((ha X h).run pins s σ H (fun c H1 => c = true ∧ Q true H1) I ⟨S, _, _, ⟨rfl, rfl⟩, ok, R, fun H1 s1 => ⟨rfl, q H1 s1⟩⟩) fun c s1 ⟨H1, I1, ec, q1⟩ => ?_)
    subst ec
    exact ⟨H1, I1, q1⟩
theorem dt_not {k : Bool} (ha : DT G δ a k) : DT G δ (.UnaryOp .Not a pos) (!k) := fun X h =>
  PT.imp (pt_not (ha X h)) fun σ H Q ⟨S, δ', d', ⟨e1, e2⟩, ok, R, q⟩ => by
    subst e1 e2
    exact ⟨S, _, _, ⟨rfl, rfl⟩, ok, R, fun H1 s1 => q H1 s1⟩
/-- .. as values -/
theorem dv_bop1 {op : BoolOp} (ha : DV G δ a x) : DV G δ (.BoolOp op [a] pos) x := fun X h => pe_one (ha X h)
theorem dv_and {k j : Bool} (ha : DV G δ a (.bool k)) (hb : k = true → DV G δ (.BoolOp .And (b :: rest) pos) (.bool j)) : DV G δ (.BoolOp .And (a :: b :: rest) pos) (.bool (k && j)) := fun X h => by
  cases k with
  | true =>
    refine PE.imp (pe_and (ha X h) (hb rfl X h)) fun σ H Q ⟨S, δ', d', ⟨e1, e2⟩, ok, R, q⟩ => ?_
    subst e1 e2
    refine ⟨S, _, _, ⟨rfl, rfl⟩, ok, R, fun v H1 s1 r1 => ?_⟩
    cases r1
    refine ⟨true, rfl, ?_⟩
    refine iteT ?_
    exact ⟨S, _, _, ⟨rfl, rfl⟩, ok.mono s1, R.mono s1, fun v H2 s2 r2 => q v H2 (s1.trans s2) r2⟩
  | false =>
    refine ⟨fun pins s σ H Q I ⟨S, δ', d', ⟨e1, e2⟩, ok, R, q⟩ => ?_⟩
    subst e1 e2
    refine PyProof.Rows.BoolOp_and (thn ((ha X h).run pins s σ H (fun v H1 => v = .bl false ∧ Q (.bl false) H1) I ⟨S, _, _, ⟨rfl, rfl⟩, ok, R, fun v H1 s1 r1 => by cases r1; exact ⟨rfl, q _ H1 s1 (.bl _)⟩⟩) fun u s1 ⟨v, H1, I1, ru, ev, q1⟩ => ?_)
    subst ev
    cases ru
    exact wpAny_truthy_bool ⟨.bl false, H1, I1, rfl, q1⟩
theorem dv_or {k j : Bool} (ha : DV G δ a (.bool k)) (hb : k = false → DV G δ (.BoolOp .Or (b :: rest) pos) (.bool j)) : DV G δ (.BoolOp .Or (a :: b :: rest) pos) (.bool (k || j)) := fun X h => by
  cases k with
  | false =>
    refine PE.imp (pe_or (ha X h) (hb rfl X h)) fun σ H Q ⟨S, δ', d', ⟨e1, e2⟩, ok, R, q⟩ => ?_
    subst e1 e2
    refine ⟨S, _, _, ⟨rfl, rfl⟩, ok, R, fun v H1 s1 r1 => ?_⟩
    cases r1
    refine ⟨false, rfl, ?_⟩
    refine iteF ?_
    exact ⟨S, _, _, ⟨rfl, rfl⟩, ok.mono s1, R.mono s1, fun v H2 s2 r2 => q v H2 (s1.trans s2) r2⟩
  | true =>
    refine ⟨fun pins s σ H Q I ⟨S, δ', d', ⟨e1, e2⟩, ok, R, q⟩ => ?_⟩
    subst e1 e2
    refine PyProof.Rows.BoolOp_or (thn ((ha X h).run pins s σ H (fun v H1 => v = .bl true ∧ Q (.bl true) H1) I ⟨S, _, _, ⟨rfl, rfl⟩, ok, R, fun v H1 s1 r1 => by cases r1; exact ⟨rfl, q _ H1 s1 (.bl _)⟩⟩) fun u s1 ⟨v, H1, I1, ru, ev, q1⟩ => ?_)
    subst ev
    cases ru
    exact wpAny_truthy_bool ⟨.bl true, H1, I1, rfl, q1⟩
theorem dv_not {k : Bool} (ha : DV G δ a (.bool k)) : DV G δ (.UnaryOp .Not a pos) (.bool (!k)) := fun X h =>
  PE.imp (pe_not (ha X h)) fun σ H Q ⟨S, δ', d', ⟨e1, e2⟩, ok, R, q⟩ => by
    subst e1 e2
    exact ⟨S, _, _, ⟨rfl, rfl⟩, ok, R, fun v H1 s1 r1 => by cases r1; exact ⟨_, rfl, q _ H1 s1 (.bl _)⟩⟩
end
end DL

set_option Elab.async false
set_option linter.all false
set_option maxRecDepth 100000
namespace DL
open PySem PySem.Spec L2
set_option autoImplicit false

/-! ### data for the library's own equality -/
mutual
theorem Rp.toDp {K : PySem.W.Frag} {S : List Addr} {H : Hp} : ∀ {d : PyData} {v : V}, d.canLay0 = true → Rp K (hide S H) v d → Dp K H v d
  | .none, _, _, .non => .non
  | .bool _, _, _, .bl b => .bl b
  | .int _, _, _, .int i => .int i
  | .str _, _, _, .str x => .str x
  | .tuple ds, _, h, .tup e _ z r => .tup (SqT.frz (hide_some e).2) (RpAll.toDp (by simpa [PyData.canLay0] using h) r)
  | .list ds, _, h, .lst e z r => .lst (SqL.of (hide_some e).2) (RpAll.toDp (by simpa [PyData.canLay0] using h) r)
  | .dict _, _, h, _ => by simp [PyData.canLay0] at h
theorem RpAll.toDp {K : PySem.W.Frag} {S : List Addr} {H : Hp} : ∀ {ds : List PyData} {vs : List V}, PyData.canLayAll0 ds = true → RpAll K (hide S H) vs ds → DpAll K H vs ds
  | [], _, _, .nil => .nil
  | d :: ds, _, h, .cons r t => by
    have h' : d.canLay0 = true ∧ PyData.canLayAll0 ds = true := by simpa [PyData.canLayAll0] using h
    exact .cons (Rp.toDp h'.1 r) (RpAll.toDp h'.2 t)
end
theorem lay_of {d : PyData} (h : SeqAt.shaped d = true) : d.canLay0 = true := SeqAt.canLay_of_shaped h
/-! tuple + tuple, tuple * int -/
def rCatF (K : PySem.W.Frag) : R2 := fun x y H Q => ∃ a b xs ys, x = .ref a ∧ y = .ref b ∧ SqT K H a xs ∧ SqT K H b ys ∧ xs.length + ys.length ≤ sizeLine ∧
  (xs = [] → Q (.ref b) H) ∧ (ys = [] → Q (.ref a) H) ∧ NewT H (xs ++ ys) Q
theorem op_catF {X : Cx} : OpR X (binaryOp .Add) (rCatF X.K) := by
  intro pins s σ H x y v u Q I rx ry h
  obtain ⟨a, b, xs, ys, ex, ey, ha, hb, hz, q0, q1, q2⟩ := h
  subst ex ey
  obtain rfl : v = .ref a := rx
  obtain rfl : u = .ref b := ry
  obtain ⟨i1, r1, p1, z1⟩ := I.tuple ha
  obtain ⟨i2, r2, p2, z2⟩ := I.tuple hb
  by_cases hx : i1 = []
  · subst hx
    exact cat_tup0 p1 p2 ⟨.ref b, H, I, rfl, q0 (by cases r1; rfl)⟩
  · refine HT.cat_tup p1 p2 hx (fun e => ⟨.ref a, H, I, rfl, q1 (r2.nil_iff.mp e)⟩) (fun _ => ?_) (by rw [← r1.length, ← r2.length]; exact hz)
    exact newT (t' := s.toks) I (r1.append r2) (by rw [List.length_append]; exact hz) q2
section
variable {G : Ct} {δ : DEnv} {a b c e : Expr} {es rest : List Expr} {x y z d : PyData} {ds : List PyData} {pos : Pos}
/-! ### + - * % // -/
inductive DAdd : PyData → PyData → PyData → Prop
  | int (i j : Int) : DAdd (.int i) (.int j) (.int (i + j))
  | str (i j : PySem.Str) (h : i.length + j.length ≤ sizeLine) : DAdd (.str i) (.str j) (.str (i ++ j))
  | tup (xs ys : List PyData) (h : xs.length + ys.length ≤ 1000) : DAdd (.tuple xs) (.tuple ys) (.tuple (xs ++ ys))
theorem dv_add (ha : DV G δ a x) (hb : DV G δ b y) (h : DAdd x y d) : DV G δ (.BinOp a .Add b pos) d := by
  cases h with
  | int i j =>
    refine dv_op (r := rI0 fun i j => .int (i + j)) (fun _ _ => op_add) ha hb fun S H v w Q ok r1 r2 q => ?_
    cases r1
    cases r2
    exact ⟨i, j, rfl, rfl, q _ H (Same.refl H) (.int _)⟩
  | str i j h =>
    refine dv_op (r := fun x y H Q => ∃ i j, x = .str i ∧ y = .str j ∧ i.length + j.length ≤ sizeLine ∧ Q (.str (i ++ j)) H) (fun _ _ => op_add_str) ha hb fun S H v w Q ok r1 r2 q => ?_
    cases r1
    cases r2
    exact ⟨i, j, rfl, rfl, h, q _ H (Same.refl H) (.str _)⟩
  | tup xs ys h =>
    refine dv_op (r := rCatF G.m.K) (fun X hX => hX.K ▸ op_catF) ha hb fun S H v w Q ok r1 r2 q => ?_
    cases r1 with
    | tup e1 k1 z1 a1 =>
      cases r2 with
      | tup e2 k2 z2 a2 =>
        rename_i p vs _ p' ws _
        have hz : vs.length + ws.length ≤ sizeLine := by rw [a1.len, a2.len]; exact Nat.le_of_lt (small1000 h)
        refine ⟨p, p', vs, ws, rfl, rfl, SqT.frz (hide_some e1).2, SqT.frz (hide_some e2).2, hz, fun hx => ?_, fun hy => ?_, Rp.newT ok (by rw [List.length_append]; exact hz) (a1.app a2) (Same.refl H) q⟩
        · subst hx
          cases a1
          exact q _ H (Same.refl H) (.tup e2 k2 z2 a2)
        · subst hy
          cases a2
          rw [List.append_nil] at q
          exact q _ H (Same.refl H) (.tup e1 k1 z1 a1)
/-- list + list: a new one -/
theorem dn_cat {xs ys : List PyData} (ha : DV G δ a (.list xs)) (hb : DV G δ b (.list ys)) (h : xs.length + ys.length ≤ 1000) : DN G δ (.BinOp a .Add b pos) (xs ++ ys) := fun X hX =>
  PE.imp (pe_op op_cat (ha X hX) (hb X hX)) fun σ H Q ⟨S, δ', d', ⟨e1, e2⟩, ok, R, q⟩ => by
    subst e1 e2
    refine ⟨S, _, _, ⟨rfl, rfl⟩, ok, R, fun v H1 s1 r1 => ⟨S, _, _, ⟨rfl, rfl⟩, ok.mono s1, R.mono s1, fun w H2 s2 r2 => ?_⟩⟩
    cases r1 with
    | lst e1 z1 a1 =>
      cases r2 with
      | lst e2 z2 a2 =>
        rename_i p vs p' ws
        have hz : vs.length + ws.length ≤ sizeLine := by rw [a1.len, a2.len]; exact Nat.le_of_lt (small1000 h)
        exact ⟨p, p', vs, ws, rfl, rfl, s2 _ _ (hide_some e1).2, (hide_some e2).2, hz, fun t ht => q _ t H2 (s1.trans s2) ht (by rw [List.length_append]; exact hz) ((a1.mono (hide_mono s2)).app a2)⟩
theorem dv_sub {i j : Int} (ha : DV G δ a (.int i)) (hb : DV G δ b (.int j)) : DV G δ (.BinOp a .Sub b pos) (.int (i - j)) :=
  dv_op (r := rI0 fun i j => .int (i - j)) (fun _ _ => op_sub) ha hb fun S H v w Q ok r1 r2 q => by
    cases r1
    cases r2
    exact ⟨i, j, rfl, rfl, q _ H (Same.refl H) (.int _)⟩
theorem dv_mul {i j : Int} (ha : DV G δ a (.int i)) (hb : DV G δ b (.int j)) (h : CMulW i j) : DV G δ (.BinOp a .Mult b pos) (.int (i * j)) :=
  dv_op (r := rI CMulW fun i j => .int (i * j)) (fun _ _ => op_mulW) ha hb fun S H v w Q ok r1 r2 q => by
    cases r1
    cases r2
    exact ⟨i, j, rfl, rfl, h, q _ H (Same.refl H) (.int _)⟩
theorem dv_mod {i j : Int} (ha : DV G δ a (.int i)) (hb : DV G δ b (.int j)) (h : 0 < j) : DV G δ (.BinOp a .Mod b pos) (.int (i % j)) :=
  dv_op (r := rI (fun _ j => 0 < j) fun i j => .int (i % j)) (fun _ _ => op_mod) ha hb fun S H v w Q ok r1 r2 q => by
    cases r1
    cases r2
    exact ⟨i, j, rfl, rfl, h, q _ H (Same.refl H) (.int _)⟩
theorem dv_fdiv {i j : Int} (ha : DV G δ a (.int i)) (hb : DV G δ b (.int j)) (h : CDivW i j) : DV G δ (.BinOp a .FloorDiv b pos) (.int (i / j)) :=
  dv_op (r := rI CDivW fun i j => .int (i / j)) (fun _ _ => op_fdivW) ha hb fun S H v w Q ok r1 r2 q => by
    cases r1
    cases r2
    exact ⟨i, j, rfl, rfl, h, q _ H (Same.refl H) (.int _)⟩
/-! ### comparisons: of two parts, an answer -/
structure DC (G : Ct) (δ : DEnv) (op : CmpOp) (a b : Expr) (k : Bool) : Prop where
  ex : ∃ x y, DV G δ a x ∧ DV G δ b y ∧ ∀ X, G.Is X → ∃ r : R2, OpR X (compareOp op) r ∧ ∀ S H v w (Q : VK), SOk S H → Rp G.m.K (hide S H) v x → Rp G.m.K (hide S H) w y → Q (.bl k) H → r v w H Q
theorem DC.conv {op : CmpOp} {k k' : Bool} (h : DC G δ op a b k) (q : k = k') : DC G δ op a b k' := q ▸ h
theorem dv_c {op : CmpOp} {k : Bool} (h : DC G δ op a b k) (hm : behindInMarks op b = false := by first | exact nomark _ | rfl) : DV G δ (.Compare a [op] [b] pos) (.bool k) := fun X hX => by
  obtain ⟨x, y, ha, hb, hr⟩ := h.ex
  obtain ⟨r, ho, hq⟩ := hr X hX
  refine PE.imp (pe_cmpR ho (ha X hX) (hb X hX) hm) fun σ H Q ⟨S, δ', d', ⟨e1, e2⟩, ok, R, q⟩ => ?_
  subst e1 e2
  exact ⟨S, _, _, ⟨rfl, rfl⟩, ok, R, fun v H1 s1 r1 => ⟨S, _, _, ⟨rfl, rfl⟩, ok.mono s1, R.mono s1, fun w H2 s2 r2 =>
    hq S H2 v w Q ((ok.mono s1).mono s2) (r1.mono (hide_mono s2)) r2 (q _ H2 (s1.trans s2) (.bl _))⟩⟩
theorem dt_c {op : CmpOp} {k : Bool} (h : DC G δ op a b k) (hm : behindInMarks op b = false := by first | exact nomark _ | rfl) : DT G δ (.Compare a [op] [b] pos) k := fun X hX => by
  obtain ⟨x, y, ha, hb, hr⟩ := h.ex
  obtain ⟨r, ho, hq⟩ := hr X hX
  refine PT.imp (pt_cmpR ho (ha X hX) (hb X hX) hm) fun σ H Q ⟨S, δ', d', ⟨e1, e2⟩, ok, R, q⟩ => ?_
  subst e1 e2
  exact ⟨S, _, _, ⟨rfl, rfl⟩, ok, R, fun v H1 s1 r1 => ⟨S, _, _, ⟨rfl, rfl⟩, ok.mono s1, R.mono s1, fun w H2 s2 r2 =>
    hq S H2 v w _ ((ok.mono s1).mono s2) (r1.mono (hide_mono s2)) r2 ⟨_, rfl, q H2 (s1.trans s2)⟩⟩⟩
theorem dc_lt {i j : Int} (ha : DV G δ a (.int i)) (hb : DV G δ b (.int j)) : DC G δ .Lt a b (decide (i < j)) :=
  ⟨_, _, ha, hb, fun X _ => ⟨_, op_lt, fun S H v w Q ok r1 r2 q => by cases r1; cases r2; exact ⟨i, j, rfl, rfl, q⟩⟩⟩
theorem dc_le {i j : Int} (ha : DV G δ a (.int i)) (hb : DV G δ b (.int j)) : DC G δ .LtE a b (decide (i ≤ j)) :=
  ⟨_, _, ha, hb, fun X _ => ⟨_, op_le, fun S H v w Q ok r1 r2 q => by cases r1; cases r2; exact ⟨i, j, rfl, rfl, q⟩⟩⟩
theorem dc_gt {i j : Int} (ha : DV G δ a (.int i)) (hb : DV G δ b (.int j)) : DC G δ .Gt a b (decide (j < i)) :=
  ⟨_, _, ha, hb, fun X _ => ⟨_, op_gt, fun S H v w Q ok r1 r2 q => by cases r1; cases r2; exact ⟨i, j, rfl, rfl, q⟩⟩⟩
theorem dc_ge {i j : Int} (ha : DV G δ a (.int i)) (hb : DV G δ b (.int j)) : DC G δ .GtE a b (decide (j ≤ i)) :=
  ⟨_, _, ha, hb, fun X _ => ⟨_, op_ge, fun S H v w Q ok r1 r2 q => by cases r1; cases r2; exact ⟨i, j, rfl, rfl, q⟩⟩⟩
/-- tuples of whole numbers -/
theorem dc_ltt {ns ms : List Int} (ha : DV G δ a (.tuple (ns.map .int))) (hb : DV G δ b (.tuple (ms.map .int))) : DC G δ .Lt a b (HT.lexLt ns ms) :=
  ⟨_, _, ha, hb, fun X hX => ⟨rLtT G.m.K, hX.K ▸ op_ltT hX.rm.units0, fun S H v w Q ok r1 r2 q => by
    cases r1 with
    | tup e1 _ z1 a1 =>
      cases r2 with
      | tup e2 _ z2 a2 =>
        have e3 := a1.ints
        have e4 := a2.ints
        subst e3 e4
        exact ⟨_, _, ns, ms, rfl, rfl, SqT.frz (hide_some e1).2, SqT.frz (hide_some e2).2, q⟩⟩⟩
theorem dc_eq (ha : DV G δ a x) (hb : DV G δ b y) (hx : SeqAt.shaped x = true) (hy : SeqAt.shaped y = true) : DC G δ .Eq a b (PyData.eqv x y) :=
  ⟨_, _, ha, hb, fun X hX => ⟨rEqD G.m.K, hX.K ▸ op_eqD hX.rm.units, fun S H v w Q ok r1 r2 q => ⟨x, y, r1.toDp (lay_of hx), r2.toDp (lay_of hy), hx, hy, q⟩⟩⟩
theorem dc_ne (ha : DV G δ a x) (hb : DV G δ b y) (hx : SeqAt.shaped x = true) (hy : SeqAt.shaped y = true) : DC G δ .NotEq a b (!PyData.eqv x y) :=
  ⟨_, _, ha, hb, fun X hX => ⟨rNeD G.m.K, hX.K ▸ op_neD hX.rm.units, fun S H v w Q ok r1 r2 q => ⟨x, y, r1.toDp (lay_of hx), r2.toDp (lay_of hy), hx, hy, q⟩⟩⟩
/-- None or not -/
theorem Rp.non_iff {K : PySem.W.Frag} {H : Hp} {v : V} (r : Rp K H v d) : decide (v = .non) = (match d with | .none => true | _ => false) := by
  cases r <;> rfl
def isNoneD : PyData → Bool
  | .none => true
  | _ => false
theorem dc_isn (ha : DV G δ a x) (hb : DV G δ b .none) : DC G δ .Is a b (isNoneD x) :=
  ⟨_, _, ha, hb, fun X _ => ⟨_, op_isN, fun S H v w Q ok r1 r2 q => by
    cases r2
    refine ⟨rfl, ?_⟩
    have e := r1.non_iff
    have e2 : decide (v = .non) = isNoneD x := by rw [e]; cases x <;> rfl
    rw [e2]
    exact q⟩⟩
theorem dc_notn (ha : DV G δ a x) (hb : DV G δ b .none) : DC G δ .IsNot a b (!isNoneD x) :=
  ⟨_, _, ha, hb, fun X _ => ⟨_, op_notN, fun S H v w Q ok r1 r2 q => by
    cases r2
    refine ⟨rfl, ?_⟩
    have e := r1.non_iff
    have e2 : decide (v = .non) = isNoneD x := by rw [e]; cases x <;> rfl
    rw [e2]
    exact q⟩⟩
theorem dc_isb {i j : Bool} (ha : DV G δ a (.bool i)) (hb : DV G δ b (.bool j)) : DC G δ .Is a b (decide (i = j)) :=
  ⟨_, _, ha, hb, fun X _ => ⟨_, op_isBl, fun S H v w Q ok r1 r2 q => by cases r1; cases r2; exact ⟨i, j, rfl, rfl, q⟩⟩⟩
theorem dc_notb {i j : Bool} (ha : DV G δ a (.bool i)) (hb : DV G δ b (.bool j)) : DC G δ .IsNot a b (!decide (i = j)) :=
  ⟨_, _, ha, hb, fun X _ => ⟨_, op_notBl, fun S H v w Q ok r1 r2 q => by cases r1; cases r2; exact ⟨i, j, rfl, rfl, q⟩⟩⟩
/-- in, not in of a tuple -/
theorem room65 {X : Cx} (h : G.Is X) : X.A.units + 65 < cLine := by have := h.rm.un; omega
def rInTD (K : PySem.W.Frag) : R2 := fun x y H Q => ∃ d ds, Dp K H x d ∧ Dp K H y (.tuple ds) ∧ SeqAt.shaped d = true ∧ SeqAt.shaped (.tuple ds) = true ∧ Q (.bl (ds.any fun z => PyData.eqv z d)) H
def rNotInTD (K : PySem.W.Frag) : R2 := fun x y H Q => ∃ d ds, Dp K H x d ∧ Dp K H y (.tuple ds) ∧ SeqAt.shaped d = true ∧ SeqAt.shaped (.tuple ds) = true ∧ Q (.bl (!ds.any fun z => PyData.eqv z d)) H
theorem room_in_shaped' {A : Around} {d : PyData} {n : Nat} (sd : SeqAt.shaped d = true) (hu : A.units + 65 < cLine) : A.units + 1 + min n d.depth < cLine := by
  have h1 := SeqAt.depth_of_shaped sd
  have h2 : min n d.depth ≤ d.depth := Nat.min_le_right _ _
  omega
theorem op_inTD {X : Cx} (hu : X.A.units + 65 < cLine) : OpR X (compareOp .In) (rInTD X.K) := by
  intro pins s σ H x y v u Q I rx ry h
  obtain ⟨d, ds, hd, he, sd, se, q⟩ := h
  obtain ⟨as, r1⟩ := Dp.reads I d x v hd rx
  obtain ⟨bs, r2⟩ := Dp.reads I (.tuple ds) y u he ry
  exact SeqAt.in_tuple_reads r2 r1 (SeqAt.canLay_of_shaped se) (SeqAt.canLay_of_shaped sd) (room_in_shaped' sd hu) ⟨.bl _, H, I, rfl, q⟩
theorem op_notInTD {X : Cx} (hu : X.A.units + 65 < cLine) : OpR X (compareOp .NotIn) (rNotInTD X.K) := by
  intro pins s σ H x y v u Q I rx ry h
  obtain ⟨d, ds, hd, he, sd, se, q⟩ := h
  obtain ⟨as, r1⟩ := Dp.reads I d x v hd rx
  obtain ⟨bs, r2⟩ := Dp.reads I (.tuple ds) y u he ry
  exact SeqAt.notIn_tuple_reads r2 r1 (SeqAt.canLay_of_shaped se) (SeqAt.canLay_of_shaped sd) (room_in_shaped' sd hu) ⟨.bl _, H, I, rfl, q⟩
/-- what a thing in which one looks holds -/
inductive Seq : PyData → List PyData → Prop
  | lst (ds : List PyData) : Seq (.list ds) ds
  | tup (ds : List PyData) : Seq (.tuple ds) ds
theorem dc_in (ha : DV G δ a x) (hb : DV G δ b y) (h : Seq y ds) (hx : SeqAt.shaped x = true) (hy : SeqAt.shaped y = true) : DC G δ .In a b (ds.any fun z => PyData.eqv z x) := by
  cases h with
  | lst => exact ⟨_, _, ha, hb, fun X hX => ⟨rInD G.m.K, hX.K ▸ op_inD (room65 hX), fun S H v w Q ok r1 r2 q => ⟨x, ds, r1.toDp (lay_of hx), r2.toDp (lay_of hy), hx, hy, q⟩⟩⟩
  | tup => exact ⟨_, _, ha, hb, fun X hX => ⟨rInTD G.m.K, hX.K ▸ op_inTD (room65 hX), fun S H v w Q ok r1 r2 q => ⟨x, ds, r1.toDp (lay_of hx), r2.toDp (lay_of hy), hx, hy, q⟩⟩⟩
theorem dc_notin (ha : DV G δ a x) (hb : DV G δ b y) (h : Seq y ds) (hx : SeqAt.shaped x = true) (hy : SeqAt.shaped y = true) : DC G δ .NotIn a b (!ds.any fun z => PyData.eqv z x) := by
  cases h with
  | lst => exact ⟨_, _, ha, hb, fun X hX => ⟨rNotInD G.m.K, hX.K ▸ op_notInD (room65 hX), fun S H v w Q ok r1 r2 q => ⟨x, ds, r1.toDp (lay_of hx), r2.toDp (lay_of hy), hx, hy, q⟩⟩⟩
  | tup => exact ⟨_, _, ha, hb, fun X hX => ⟨rNotInTD G.m.K, hX.K ▸ op_notInTD (room65 hX), fun S H v w Q ok r1 r2 q => ⟨x, ds, r1.toDp (lay_of hx), r2.toDp (lay_of hy), hx, hy, q⟩⟩⟩
/-! chains of < and <= of whole numbers -/
inductive LO : CmpOp → (Int → Int → Bool) → Prop
  | lt : LO .Lt fun i j => decide (i < j)
  | le : LO .LtE fun i j => decide (i ≤ j)
theorem LO.op {op : CmpOp} {p : Int → Int → Bool} (h : LO op p) {X : Cx} : OpR X (compareOp op) (rI0 fun i j => .bl (p i j)) := by
  cases h
  · exact op_lt
  · exact op_le
theorem tChain_ok {i j k : Int} {p p' : Int → Int → Bool} {X : Cx} (hX : G.Is X) (ha : DV G δ a (.int i)) (hb : DV G δ b (.int j)) (hc : DV G δ c (.int k)) (σ : L2.St) (H : Hp) (Q : VK) (S : List Addr) (ok : SOk S H) (R : Rel G.m.K S δ σ H) (q : ∀ H', Same H H' → Q (.bl (p i j && p' j k)) H') :
    tChain (rI0 fun i j => .bl (p i j)) (rI0 fun i j => .bl (p' i j)) (tDR G.m.K fun δ' d' => δ' = δ ∧ d' = .int i) (tDR G.m.K fun δ' d' => δ' = δ ∧ d' = .int j) (tDR G.m.K fun δ' d' => δ' = δ ∧ d' = .int k) σ H Q := by
  refine ⟨S, _, _, ⟨rfl, rfl⟩, ok, R, fun v H1 s1 r1 => ⟨S, _, _, ⟨rfl, rfl⟩, ok.mono s1, R.mono s1, fun w H2 s2 r2 => ?_⟩⟩
  cases r1
  cases r2
  refine ⟨i, j, rfl, rfl, _, rfl, ?_⟩
  cases e : p i j with
  | false =>
    rw [e, Bool.false_and] at q
    refine iteF (q H2 (s1.trans s2))
  | true =>
    rw [e, Bool.true_and] at q
    refine iteT ⟨S, _, _, ⟨rfl, rfl⟩, (ok.mono s1).mono s2, (R.mono s1).mono s2, fun w' H3 s3 r3 => ?_⟩
    cases r3
    exact ⟨j, k, rfl, rfl, q H3 ((s1.trans s2).trans s3)⟩
theorem dv_ch {op op' : CmpOp} {p p' : Int → Int → Bool} {i j k : Int} (h : LO op p) (h' : LO op' p') (ha : DV G δ a (.int i)) (hb : DV G δ b (.int j)) (hc : DV G δ c (.int k))
    (hm : lastMarks [op, op'] [b, c] = false := by with_unfolding_all rfl) : DV G δ (.Compare a [op, op'] [b, c] pos) (.bool (p i j && p' j k)) := fun X hX =>
  PE.imp (pe_chain h.op h'.op (ha X hX) (hb X hX) (hc X hX) hm) fun σ H Q ⟨S, δ', d', ⟨e1, e2⟩, ok, R, q⟩ => by
    subst e1 e2
    exact tChain_ok hX ha hb hc σ H Q S ok R fun H' s => q _ H' s (.bl _)
theorem dt_ch {op op' : CmpOp} {p p' : Int → Int → Bool} {i j k : Int} (h : LO op p) (h' : LO op' p') (ha : DV G δ a (.int i)) (hb : DV G δ b (.int j)) (hc : DV G δ c (.int k))
    (hm : lastMarks [op, op'] [b, c] = false := by with_unfolding_all rfl) : DT G δ (.Compare a [op, op'] [b, c] pos) (p i j && p' j k) := fun X hX =>
  PT.imp (pt_chain h.op h'.op (ha X hX) (hb X hX) (hc X hX) hm) fun σ H Q ⟨S, δ', d', ⟨e1, e2⟩, ok, R, q⟩ => by
    subst e1 e2
    exact tChain_ok hX ha hb hc σ H _ S ok R fun H' s => ⟨_, rfl, q H' s⟩
/-- three in a row, as a test -/
theorem dt_ch3 {d' : Expr} {op op' op'' : CmpOp} {p p' p'' : Int → Int → Bool} {i j k l : Int} (h : LO op p) (h' : LO op' p') (h'' : LO op'' p'') (ha : DV G δ a (.int i)) (hb : DV G δ b (.int j)) (hc : DV G δ c (.int k)) (hd : DV G δ d' (.int l))
    (hm : lastMarks [op, op', op''] [b, c, d'] = false := by with_unfolding_all rfl) : DT G δ (.Compare a [op, op', op''] [b, c, d'] pos) (p i j && (p' j k && p'' k l)) := fun X hX => by
  refine ⟨fun pins s σ H Q I ⟨S, δ', d', ⟨e1, e2⟩, ok, R, q⟩ => ?_⟩
  subst e1 e2
  have run : ∀ {e : Expr} {m : Int}, DV G δ' e (.int m) → ∀ (H1 : Hp) (s1 : Shared) , Same H H1 → Inv X pins σ H1 s1 → ∀ {Q : Value → Shared → Prop}, (∀ t s2 H2, Same H H2 → Inv X pins σ H2 s2 → Q (.int m t) s2) → wpAny (model X.prog X.w) X.A (eval e X.env) Q X.xe s1 := by
    intro e m he H1 s1 sm I1 Q hq
    refine thn ((he X hX).run pins s1 σ H1 (fun v H' => Same H1 H' ∧ v = .int m) I1 ⟨S, _, _, ⟨rfl, rfl⟩, ok.mono sm, R.mono sm, fun v H' s2 r => ?_⟩) fun u s2 ⟨v, H2, I2, r2, sm2, ev⟩ => ?_
    · cases r
      exact ⟨s2, rfl⟩
    · subst ev
      obtain ⟨t, rfl⟩ := r2
      exact hq t s2 H2 (sm.trans sm2) I2
  have cmp : ∀ {op : CmpOp} {p : Int → Int → Bool}, LO op p → ∀ (m n : Int) (t u : Tok) (H1 : Hp) (s1 : Shared), Inv X pins σ H1 s1 → ∀ {Q : Value → Shared → Prop}, (∀ s2, Inv X pins σ H1 s2 → Q (.bool (p m n)) s2) → wpAny (model X.prog X.w) X.A (compareOp op (.int m t) (.int n u)) Q X.xe s1 := by
    intro op p hp m n t u H1 s1 I1 Q hq
    refine thn (hp.op pins s1 σ H1 (.int m) (.int n) _ _ (fun v H' => H' = H1 ∧ v = .bl (p m n)) I1 ⟨t, rfl⟩ ⟨u, rfl⟩ ⟨m, n, rfl, rfl, rfl, rfl⟩) fun x s2 ⟨v, H2, I2, r2, e1, e2⟩ => ?_
    subst e1 e2
    cases r2
    exact hq s2 I2
  refine PyProof.Rows.isTrue_chain (run ha H s (Same.refl H) I fun t s1 H1 sm1 I1 => PyProof.Rows.test_link (run hb H1 s1 sm1 I1 fun t2 s2 H2 sm2 I2 => cmp h i j t t2 H2 s2 I2 fun s3 I3 => wpAny_truthy_bool ?_)) hm
  cases e : p i j with
  | false =>
    rw [e, Bool.false_and] at q
    exact PyProof.Rows.ite_ff ⟨H2, I3, q H2 sm2⟩
  | true =>
    rw [e, Bool.true_and] at q
    refine PyProof.Rows.ite_tt (PyProof.Rows.test_link (run hc H2 s3 sm2 I3 fun t4 s4 H4 sm4 I4 => cmp h' j k t2 t4 H4 s4 I4 fun s5 I5 => wpAny_truthy_bool ?_))
    cases e' : p' j k with
    | false =>
      rw [e', Bool.false_and] at q
      exact PyProof.Rows.ite_ff ⟨H4, I5, q H4 sm4⟩
    | true =>
      rw [e', Bool.true_and] at q
      refine PyProof.Rows.ite_tt (PyProof.Rows.test_last (run hd H4 s5 sm4 I5 fun t6 s6 H6 sm6 I6 => cmp h'' k l t4 t6 H6 s6 I6 fun s7 I7 => wpAny_truthy_bool ⟨H6, I7, q H6 sm6⟩))
end
end DL

set_option Elab.async false
set_option linter.all false
set_option maxRecDepth 100000
namespace DL
open PySem PySem.Spec L2
set_option autoImplicit false

theorem map_int_inj : ∀ {xs ys : List Int}, xs.map PyData.int = ys.map PyData.int → xs = ys
  | [], [], _ => rfl
  | [], _ :: _, h => by simp at h
  | _ :: _, [], h => by simp at h
  | x :: xs, y :: ys, h => by
    rw [List.map_cons, List.map_cons] at h
    injection h with h1 h2
    injection h1 with h1
    rw [h1, map_int_inj h2]
/-- the script, as data -/
abbrev scrD (ns : List Int) : PyData := .dict [(.none, .list (ns.map .int))]
theorem Rp.scr_inv {K : PySem.W.Frag} {H : Hp} {v : V} {ns : List Int} (h : Rp K H v (scrD ns)) : ∃ a, v = .ref a ∧ SqL K H a (ns.map V.int) ∧ ns.length ≤ 63 := by
  generalize e : scrD ns = d at h
  cases h with
  | dct r z =>
    rename_i a kvs
    exfalso
    cases kvs with
    | nil => simp at e
    | cons q qs => simp at e
  | dctF r z => simp at e
  | scr r z =>
    rename_i a ms
    have e' : ns = ms := by
      simp only [PyData.dict.injEq, List.cons.injEq, Prod.mk.injEq, PyData.list.injEq, true_and, and_true] at e
      exact map_int_inj e
    subst e'
    exact ⟨a, rfl, r, z⟩
  | _ => cases e
def globB (sc : Scope) (x : PySem.Str) : Bool := match sc.names.lookup x with
  | some .globalImplicit => true
  | _ => false
theorem gl_of {G : Ct} {X : Cx} (h : G.Is X) {x : PySem.Str} (g : globB G.sc x = true) : Gl X x := by
  unfold globB at g
  show X.env.scope.names.lookup x = _
  rw [h.sc]
  split at g <;> simp_all
/-- the built-in names that the program leaves alone -/
structure Blt (m : Md) : Prop where
  len : m.mg "len" = none
  range : m.mg "range" = none
  isinstance : m.mg "isinstance" = none
  tuple : m.mg "tuple" = none
  int : m.mg "int" = none
  bool : m.mg "bool" = none
  str : m.mg "str" = none
  list : m.mg "list" = none
  set : m.mg "set" = none
  dict : m.mg "dict" = none
  sorted : m.mg "sorted" = none
  min : m.mg "min" = none
  max : m.mg "max" = none
  all : m.mg "all" = none
  any : m.mg "any" = none
  enumerate : m.mg "enumerate" = none
  zip : m.mg "zip" = none
  reversed : m.mg "reversed" = none
section
variable {G : Ct} {δ : DEnv} {a b c e : Expr} {es rest : List Expr} {x y z d : PyData} {ds : List PyData} {pos p : Pos}
/-! ### a built-in function, a built-in class, called -/
theorem dv_cb {n : PySem.Str} {id : String} {r : List V → Hp → VK → Prop} (hc : ∀ X, G.Is X → CallR X (.builtin id) r) (hg : globB G.sc n = true) (hm : G.m.mg n = none) (hv : bootBuiltins n = some (.builtin id)) (ha : DA G δ (e :: es) ds)
    (hr : ∀ S H vs Q, SOk S H → RpAll G.m.K (hide S H) vs ds → (∀ u H', Same H H' → Rp G.m.K (hide S H') u d → Q u H') → r vs H Q) (hn : n ≠ "__name__") (hdb : (n == ("__debug__" : PySem.Str)) = false)
    (he : ∀ env : Env, starEach (e :: es) env = (false, eval e env) :: starEach es env := by intro _; rfl) (hpl : ∀ env : Env, (backTo pos (starEach es env)).any (·.1) = false := by intro _; rfl) : DV G δ (.Call (.Name n p) (e :: es) [] pos) d := fun X hX =>
  PE.imp (pe_callB (hc X hX) (gl_of hX hg) (by rw [hX.mg]; exact hm) hv (ha X hX) hn hdb (he _) (hpl _)) fun σ H Q ⟨S, δ', d', ⟨e1, e2⟩, ok, R, q⟩ => by
    subst e1 e2
    exact ⟨S, _, _, ⟨rfl, rfl⟩, ok, R, fun vs H1 s1 r1 => hr S H1 vs Q (ok.mono s1) r1 fun u H' s2 r2 => q u H' (s1.trans s2) r2⟩
theorem dv_ct {n : PySem.Str} {T : String} {r : List V → Hp → VK → Prop} (hc : ∀ X, G.Is X → CallR X (.type T) r) (hg : globB G.sc n = true) (hm : G.m.mg n = none) (hv : bootBuiltins n = some (.type T)) (ha : DA G δ (e :: es) ds)
    (hr : ∀ S H vs Q, SOk S H → RpAll G.m.K (hide S H) vs ds → (∀ u H', Same H H' → Rp G.m.K (hide S H') u d → Q u H') → r vs H Q) (hn : n ≠ "__name__") (hdb : (n == ("__debug__" : PySem.Str)) = false)
    (he : ∀ env : Env, starEach (e :: es) env = (false, eval e env) :: starEach es env := by intro _; rfl) (hpl : ∀ env : Env, (backTo pos (starEach es env)).any (·.1) = false := by intro _; rfl) : DV G δ (.Call (.Name n p) (e :: es) [] pos) d := fun X hX =>
  PE.imp (pe_callTy (hc X hX) (gl_of hX hg) (by rw [hX.mg]; exact hm) hv (ha X hX) hn hdb (he _) (hpl _)) fun σ H Q ⟨S, δ', d', ⟨e1, e2⟩, ok, R, q⟩ => by
    subst e1 e2
    exact ⟨S, _, _, ⟨rfl, rfl⟩, ok, R, fun vs H1 s1 r1 => hr S H1 vs Q (ok.mono s1) r1 fun u H' s2 r2 => q u H' (s1.trans s2) r2⟩
/-- .. that makes a list -/
theorem dn_cb {n : PySem.Str} {id : String} {r : List V → Hp → VK → Prop} {es' : List PyData} (hc : ∀ X, G.Is X → CallR X (.builtin id) r) (hg : globB G.sc n = true) (hm : G.m.mg n = none) (hv : bootBuiltins n = some (.builtin id)) (ha : DA G δ (e :: es) ds)
    (hr : ∀ S H vs Q, SOk S H → RpAll G.m.K (hide S H) vs ds → (∀ xs p, H p = none → xs.length ≤ sizeLine → RpAll G.m.K (hide S H) xs es' → Q (.ref p) (upd H p (.lst xs))) → r vs H Q) (hn : n ≠ "__name__") (hdb : (n == ("__debug__" : PySem.Str)) = false)
    (he : ∀ env : Env, starEach (e :: es) env = (false, eval e env) :: starEach es env := by intro _; rfl) (hpl : ∀ env : Env, (backTo pos (starEach es env)).any (·.1) = false := by intro _; rfl) : DN G δ (.Call (.Name n p) (e :: es) [] pos) es' := fun X hX =>
  PE.imp (pe_callB (hc X hX) (gl_of hX hg) (by rw [hX.mg]; exact hm) hv (ha X hX) hn hdb (he _) (hpl _)) fun σ H Q ⟨S, δ', d', ⟨e1, e2⟩, ok, R, q⟩ => by
    subst e1 e2
    exact ⟨S, _, _, ⟨rfl, rfl⟩, ok, R, fun vs H1 s1 r1 => hr S H1 vs Q (ok.mono s1) r1 fun xs p hp hz r2 => q xs p H1 s1 hp hz r2⟩
theorem dn_ct {n : PySem.Str} {T : String} {r : List V → Hp → VK → Prop} {es' : List PyData} (hc : ∀ X, G.Is X → CallR X (.type T) r) (hg : globB G.sc n = true) (hm : G.m.mg n = none) (hv : bootBuiltins n = some (.type T)) (ha : DA G δ (e :: es) ds)
    (hr : ∀ S H vs Q, SOk S H → RpAll G.m.K (hide S H) vs ds → (∀ xs p, H p = none → xs.length ≤ sizeLine → RpAll G.m.K (hide S H) xs es' → Q (.ref p) (upd H p (.lst xs))) → r vs H Q) (hn : n ≠ "__name__") (hdb : (n == ("__debug__" : PySem.Str)) = false)
    (he : ∀ env : Env, starEach (e :: es) env = (false, eval e env) :: starEach es env := by intro _; rfl) (hpl : ∀ env : Env, (backTo pos (starEach es env)).any (·.1) = false := by intro _; rfl) : DN G δ (.Call (.Name n p) (e :: es) [] pos) es' := fun X hX =>
  PE.imp (pe_callTy (hc X hX) (gl_of hX hg) (by rw [hX.mg]; exact hm) hv (ha X hX) hn hdb (he _) (hpl _)) fun σ H Q ⟨S, δ', d', ⟨e1, e2⟩, ok, R, q⟩ => by
    subst e1 e2
    exact ⟨S, _, _, ⟨rfl, rfl⟩, ok, R, fun vs H1 s1 r1 => hr S H1 vs Q (ok.mono s1) r1 fun xs p hp hz r2 => q xs p H1 s1 hp hz r2⟩
/-! len -/
inductive DLen : PyData → Nat → Prop
  | seq {y : PyData} {ds : List PyData} : Seq y ds → DLen y ds.length
  | str (x : PySem.Str) (h : x.length ≤ sizeLine) : DLen (.str x) x.length
  | scr (ns : List Int) : DLen (scrD ns) ns.length
theorem dv_len {n : Nat} (B : Blt G.m) (hg : globB G.sc "len" = true) (ha : DV G δ a x) (h : DLen x n) (hs : ∀ env : Env, starEach [a] env = (false, eval a env) :: starEach [] env := by intro _; rfl) : DV G δ (.Call (.Name "len" p) [a] [] pos) (.int n) := by
  refine dv_cb (r := fun xs H Q => ∃ x n, xs = [x] ∧ LenV G.m.K x H n ∧ Q (.int n) H) (fun X hX => hX.K ▸ call_len) hg B.len boot_len (da_cons ha da_nil hs) (fun S H vs Q ok r q => ?_) (by decide) (by decide) hs
  cases r with
  | cons r1 r2 =>
    cases r2
    refine ⟨_, n, rfl, ?_, q _ H (Same.refl H) (.int _)⟩
    cases h with
    | seq h =>
      cases h with
      | lst =>
        cases r1 with
        | lst e1 z1 a1 => exact .inl ⟨_, SqL.of (hide_some e1).2, a1.len.symm⟩
      | tup =>
        cases r1 with
        | tup e1 _ z1 a1 => exact .inr ⟨_, SqT.frz (hide_some e1).2, a1.len.symm⟩
    | str x h =>
      cases r1
      exact ⟨h, rfl⟩
    | scr ns =>
      obtain ⟨a, rfl, s1, _⟩ := r1.scr_inv
      exact .inl ⟨_, (hide_sub S H).seq s1, by rw [List.length_map]⟩
end
end DL

set_option Elab.async false
set_option linter.all false
set_option maxRecDepth 100000
namespace DL
open PySem PySem.Spec L2
set_option autoImplicit false

def tyName : PyData → String
  | .none => "NoneType"
  | .bool _ => "bool"
  | .int _ => "int"
  | .str _ => "str"
  | .list _ => "list"
  | .tuple _ => "tuple"
  | .dict _ => "dict"
/-- isinstance by the data -/
def isD : PyData → String → Bool
  | .bool _, T => T == "bool" || T == "int"
  | x, T => tyName x == T
def isDict : PyData → Bool
  | .dict _ => true
  | _ => false
inductive IsTy (m : Md) : PySem.Str → String → Prop
  | int (B : Blt m) : IsTy m "int" "int"
  | bool (B : Blt m) : IsTy m "bool" "bool"
  | tuple (B : Blt m) : IsTy m "tuple" "tuple"
theorem kit_all : (["NoneType", "bool", "int", "str", "list", "tuple"].all fun a => ["int", "bool", "tuple"].all fun b => kitB a b == some (a == b || (a == "bool" && b == "int"))) = true := by decide +kernel
theorem kit_at {a b : String} (ha : a ∈ ["NoneType", "bool", "int", "str", "list", "tuple"]) (hb : b ∈ ["int", "bool", "tuple"]) : kitB a b = some (a == b || (a == "bool" && b == "int")) := by
  have h := List.all_eq_true.mp (List.all_eq_true.mp kit_all a ha) b hb
  exact eq_of_beq h
theorem Rp.tyx {K : PySem.W.Frag} {S : List Addr} {H : Hp} {v : V} {d : PyData} (r : Rp K (hide S H) v d) (h : isDict d = false) : TyX K H v (.type (tyName d)) := by
  cases r with
  | non => exact .base .non
  | bl b => exact .base (.bl b)
  | int i => exact .base (.int i)
  | str x => exact .base (.str x)
  | lst e z t => exact .base (.lst (hide_some e).2)
  | tup e k z t => exact .fTuple (hide_some e).2
  | dct r z => cases h
  | dctF r z => cases h
  | scr r z => cases h
section
variable {G : Ct} {δ : DEnv} {a b c e : Expr} {es rest : List Expr} {x y z d : PyData} {ds : List PyData} {pos p p2 : Pos}
theorem dv_isi {n : PySem.Str} {T : String} (B : Blt G.m) (hg : globB G.sc "isinstance" = true) (ht : IsTy G.m n T) (hgT : globB G.sc n = true) (ha : DV G δ a x) (hd : isDict x = false)
    (he : ∀ env : Env, starEach [a, .Name n p2] env = (false, eval a env) :: starEach [.Name n p2] env := by intro _; rfl) (hpl : ∀ env : Env, (backTo pos (starEach [.Name n p2] env)).any (·.1) = false := by intro _; rfl)
    (hs : ∀ env : Env, starEach [.Name n p2] env = (false, eval (.Name n p2) env) :: starEach [] env := by intro _; rfl) : DV G δ (.Call (.Name "isinstance" p) [a, .Name n p2] [] pos) (.bool (isD x T)) := fun X hX => by
  have hk : PySem.W.kitOne G.m.K (.type (tyName x)) (.type T) = some (isD x T) := by
    have hT : T ∈ ["int", "bool", "tuple"] := by cases ht <;> simp
    have hx : tyName x ∈ ["NoneType", "bool", "int", "str", "list", "tuple"] := by cases x <;> first | (simp [tyName]; done) | cases hd
    refine kit_ty ?_
    rw [kit_at hx hT]
    congr 1
    cases x <;> cases ht <;> first | rfl | cases hd
  have hb : PE X (.Name n p2) (tC (.ty T)) := by
    cases ht with
    | int B => exact pe_bltn (gl_of hX hgT) (by rw [hX.mg]; exact B.int) PyProof.Rows.boot_int rfl
    | bool B => exact pe_bltn (gl_of hX hgT) (by rw [hX.mg]; exact B.bool) PyProof.Rows.boot_bool rfl
    | tuple B => exact pe_bltn (gl_of hX hgT) (by rw [hX.mg]; exact B.tuple) PyProof.Rows.boot_tuple rfl
  refine PE.imp (pe_callB (call_isi (X := X)) (gl_of hX hg) (by rw [hX.mg]; exact B.isinstance) PyProof.Rows.boot_isinstance (pa_cons (ha X hX) (pa_cons hb pa_nil (hs _)) (he _)) (by decide) (by decide) (he _) (hpl _)) fun σ H Q ⟨S, δ', d', ⟨e1, e2⟩, ok, R, q⟩ => ?_
  subst e1 e2
  rw [hX.K]
  refine ⟨S, _, _, ⟨rfl, rfl⟩, ok, R, fun v H1 s1 r1 => ?_⟩
  exact ⟨v, .ty T, _, .type T, isD x T, rfl, .ty T, r1.tyx hd, hk, q _ H1 s1 (.bl _)⟩
/-! int(..), bool(..), str(..) -/
inductive DInt : PyData → Int → Prop
  | int (i : Int) : DInt (.int i) i
  | bl (k : Bool) : DInt (.bool k) (if k then 1 else 0)
theorem dv_int1 {i : Int} (B : Blt G.m) (hg : globB G.sc "int" = true) (ha : DV G δ a x) (h : DInt x i) (hs : ∀ env : Env, starEach [a] env = (false, eval a env) :: starEach [] env := by intro _; rfl) : DV G δ (.Call (.Name "int" p) [a] [] pos) (.int i) := by
  refine dv_ct (fun X hX => call_int1) hg B.int PyProof.Rows.boot_int (da_cons ha da_nil hs) (fun S H vs Q ok r q => ?_) (by decide) (by decide) hs
  cases r with
  | cons r1 r2 =>
    cases r2
    cases h with
    | int i =>
      cases r1
      exact .inl ⟨i, rfl, q _ H (Same.refl H) (.int _)⟩
    | bl k =>
      cases r1
      exact .inr ⟨k, rfl, q _ H (Same.refl H) (.int _)⟩
theorem dv_bool1 {i : Int} (B : Blt G.m) (hg : globB G.sc "bool" = true) (ha : DV G δ a (.int i)) (hs : ∀ env : Env, starEach [a] env = (false, eval a env) :: starEach [] env := by intro _; rfl) : DV G δ (.Call (.Name "bool" p) [a] [] pos) (.bool (i != 0)) := by
  refine dv_ct (fun X hX => call_bool1) hg B.bool PyProof.Rows.boot_bool (da_cons ha da_nil hs) (fun S H vs Q ok r q => ?_) (by decide) (by decide) hs
  cases r with
  | cons r1 r2 =>
    cases r2
    cases r1
    exact .inl ⟨i, rfl, q _ H (Same.refl H) (.bl _)⟩
theorem dv_str1 {i : Int} (B : Blt G.m) (hg : globB G.sc "str" = true) (ha : DV G δ a (.int i)) (hi : i.natAbs.log2 < 1920) (hs : ∀ env : Env, starEach [a] env = (false, eval a env) :: starEach [] env := by intro _; rfl) : DV G δ (.Call (.Name "str" p) [a] [] pos) (.str (toString i)) := by
  refine dv_ct (fun X hX => call_str_int) hg B.str PyProof.Rows.boot_str (da_cons ha da_nil hs) (fun S H vs Q ok r q => ?_) (by decide) (by decide) hs
  cases r with
  | cons r1 r2 =>
    cases r2
    cases r1
    exact ⟨i, rfl, hi, q _ H (Same.refl H) (.str _)⟩
/-! tuple(..), list(..) -/
def rTupF (K : PySem.W.Frag) : List V → Hp → VK → Prop := fun vs H Q => ∃ p xs, vs = [.ref p] ∧ ((SqL K H p xs ∧ NewT H xs Q) ∨ (SqT K H p xs ∧ Q (.ref p) H))
theorem cr_tupF {X : Cx} : CallR X (.type "tuple") (rTupF X.K) := by
  intro pins s σ H vs us Q I r h
  obtain ⟨p, xs, e, h⟩ := h
  subst e
  obtain rfl := Vals.ref1 r
  rcases h with ⟨hs, q⟩ | ⟨hs, q⟩
  · obtain ⟨its, rv, pl, hz⟩ := I.list hs
    refine call_tuple_list pl.isList (fun h' hk => ?_) (by rw [List.size_toArray, ← rv.length]; exact hz)
    have I1 : Inv X pins σ H { s with heap := h' } := I.kept (t' := s.toks) hk
    exact newT (t' := s.toks) I1 rv hz q
  · obtain ⟨its, rv, pl, hz⟩ := I.tuple hs
    exact PyProof.Rows.call_tuple_tup pl ⟨.ref p, H, I, rfl, q⟩
theorem dv_tuple (B : Blt G.m) (hg : globB G.sc "tuple" = true) (ha : DV G δ a y) (h : Seq y ds) (hs : ∀ env : Env, starEach [a] env = (false, eval a env) :: starEach [] env := by intro _; rfl) : DV G δ (.Call (.Name "tuple" p) [a] [] pos) (.tuple ds) := by
  refine dv_ct (r := rTupF G.m.K) (fun X hX => hX.K ▸ cr_tupF) hg B.tuple PyProof.Rows.boot_tuple (da_cons ha da_nil hs) (fun S H vs Q ok r q => ?_) (by decide) (by decide) hs
  cases r with
  | cons r1 r2 =>
    cases r2
    cases h with
    | lst =>
      cases r1 with
      | lst e1 z1 a1 => exact ⟨_, _, rfl, .inl ⟨SqL.of (hide_some e1).2, Rp.newT ok z1 a1 (Same.refl H) q⟩⟩
    | tup =>
      cases r1 with
      | tup e1 k1 z1 a1 => exact ⟨_, _, rfl, .inr ⟨SqT.frz (hide_some e1).2, q _ H (Same.refl H) (.tup e1 k1 z1 a1)⟩⟩
theorem dn_list (B : Blt G.m) (hg : globB G.sc "list" = true) (ha : DV G δ a y) (h : Seq y ds) (hs : ∀ env : Env, starEach [a] env = (false, eval a env) :: starEach [] env := by intro _; rfl) : DN G δ (.Call (.Name "list" p) [a] [] pos) ds := by
  refine dn_ct (r := fun xs H Q => ∃ p ys, xs = [.ref p] ∧ (SqL G.m.K H p ys ∨ SqT G.m.K H p ys) ∧ ∀ l, H l = none → Q (.ref l) (upd H l (.lst ys))) (fun X hX => hX.K ▸ call_list_of) hg B.list PyProof.Rows.boot_list (da_cons ha da_nil hs) (fun S H vs Q ok r q => ?_) (by decide) (by decide) hs
  cases r with
  | cons r1 r2 =>
    cases r2
    cases h with
    | lst =>
      cases r1 with
      | lst e1 z1 a1 => exact ⟨_, _, rfl, .inl (SqL.of (hide_some e1).2), fun l hl => q _ _ hl z1 a1⟩
    | tup =>
      cases r1 with
      | tup e1 k1 z1 a1 => exact ⟨_, _, rfl, .inr (SqT.frz (hide_some e1).2), fun l hl => q _ _ hl z1 a1⟩
theorem rgV_ints (n : Int) : rgV 0 n = ((List.range n.toNat).map fun i => ((i : Nat) : Int)).map V.int := by
  unfold rgV
  rw [List.map_map]
  simp
/-- 0, 1, .. below n -/
def upto (n : Int) : List Int := (List.range n.toNat).map fun i => ((i : Nat) : Int)
theorem dn_listrange {n : Int} (B : Blt G.m) (hg : globB G.sc "list" = true) (hg2 : globB G.sc "range" = true) (ha : DV G δ a (.int n)) (h0 : 0 ≤ n) (h1 : n ≤ 16777216)
    (na : ∀ env : Env, starEach [a] env = (false, eval a env) :: starEach [] env := by intro _; rfl) {p3 pos3 : Pos} (nb : ∀ env : Env, starEach [.Call (.Name "range" p3) [a] [] pos3] env = (false, eval (.Call (.Name "range" p3) [a] [] pos3) env) :: starEach [] env := by intro _; rfl) :
    DN G δ (.Call (.Name "list" p) [.Call (.Name "range" p3) [a] [] pos3] [] pos) ((upto n).map .int) := fun X hX =>
  PE.imp (pe_listRg hX.calm (gl_of hX hg) (by rw [hX.mg]; exact B.list) (prg_1 (gl_of hX hg2) (by rw [hX.mg]; exact B.range) (ha X hX) (na _)) (nb _)) fun σ H Q ⟨S, δ', d', ⟨e1, e2⟩, ok, R, q⟩ => by
    subst e1 e2
    refine ⟨S, _, _, ⟨rfl, rfl⟩, ok, R, fun v H1 s1 r1 => ?_⟩
    cases r1
    refine ⟨n, rfl, RgOk.of_le (by omega) h1 (by omega) h0, fun t ht => ?_⟩
    rw [rgV_ints]
    refine q _ t H1 s1 ht ?_ (RpAll.ofInts _)
    rw [List.length_map, List.length_map, List.length_range, sizeLine_eq]
    omega
/-! min, max, all, any -/
theorem dv_min2 {i j : Int} (B : Blt G.m) (hg : globB G.sc "min" = true) (ha : DV G δ a (.int i)) (hb : DV G δ b (.int j)) (hs : ∀ env : Env, starEach [a, b] env = (false, eval a env) :: starEach [b] env := by intro _; rfl) (hs2 : ∀ env : Env, starEach [b] env = (false, eval b env) :: starEach [] env := by intro _; rfl)
    (hpl : ∀ env : Env, (backTo pos (starEach [b] env)).any (·.1) = false := by intro _; rfl) : DV G δ (.Call (.Name "min" p) [a, b] [] pos) (.int (min i j)) := by
  refine dv_cb (fun X hX => call_min2 hX.calm) hg B.min PyProof.Rows.boot_min (da_cons ha (da_cons hb da_nil hs2) hs) (fun S H vs Q ok r q => ?_) (by decide) (by decide) hs hpl
  cases r with
  | cons r1 r2 =>
    cases r2 with
    | cons r2 r3 =>
      cases r3
      cases r1
      cases r2
      refine ⟨i, j, rfl, ?_⟩
      have e : (if j < i then j else i) = min i j := by split <;> omega
      rw [e]
      exact q _ H (Same.refl H) (.int _)
theorem dv_max2 {i j : Int} (B : Blt G.m) (hg : globB G.sc "max" = true) (ha : DV G δ a (.int i)) (hb : DV G δ b (.int j)) (hs : ∀ env : Env, starEach [a, b] env = (false, eval a env) :: starEach [b] env := by intro _; rfl) (hs2 : ∀ env : Env, starEach [b] env = (false, eval b env) :: starEach [] env := by intro _; rfl)
    (hpl : ∀ env : Env, (backTo pos (starEach [b] env)).any (·.1) = false := by intro _; rfl) : DV G δ (.Call (.Name "max" p) [a, b] [] pos) (.int (max i j)) := by
  refine dv_cb (fun X hX => call_max2 hX.calm) hg B.max PyProof.Rows.boot_max (da_cons ha (da_cons hb da_nil hs2) hs) (fun S H vs Q ok r q => ?_) (by decide) (by decide) hs hpl
  cases r with
  | cons r1 r2 =>
    cases r2 with
    | cons r2 r3 =>
      cases r3
      cases r1
      cases r2
      refine ⟨i, j, rfl, ?_⟩
      have e : (if j > i then j else i) = max i j := by split <;> omega
      rw [e]
      exact q _ H (Same.refl H) (.int _)
theorem dv_minl {ns : List Int} {m : Int} (B : Blt G.m) (hg : globB G.sc "min" = true) (ha : DV G δ a (.list (ns.map .int))) (hm : m ∈ ns) (hle : ∀ y ∈ ns, m ≤ y) (hs : ∀ env : Env, starEach [a] env = (false, eval a env) :: starEach [] env := by intro _; rfl) : DV G δ (.Call (.Name "min" p) [a] [] pos) (.int m) := by
  refine dv_cb (r := rMin G.m.K) (fun X hX => hX.K ▸ cr_min hX.calm) hg B.min PyProof.Rows.boot_min (da_cons ha da_nil hs) (fun S H vs Q ok r q => ?_) (by decide) (by decide) hs
  cases r with
  | cons r1 r2 =>
    cases r2
    cases r1 with
    | lst e1 z1 a1 =>
      obtain rfl := a1.ints
      refine ⟨_, ns, rfl, SqL.of (hide_some e1).2, List.length_pos_of_mem hm, fun m' h1 h2 => ?_⟩
      have e : m' = m := by have := h2 m hm; have := hle m' h1; omega
      rw [e]
      exact q _ H (Same.refl H) (.int _)
theorem dv_maxl {ns : List Int} {m : Int} (B : Blt G.m) (hg : globB G.sc "max" = true) (ha : DV G δ a (.list (ns.map .int))) (hm : m ∈ ns) (hle : ∀ y ∈ ns, y ≤ m) (hs : ∀ env : Env, starEach [a] env = (false, eval a env) :: starEach [] env := by intro _; rfl) : DV G δ (.Call (.Name "max" p) [a] [] pos) (.int m) := by
  refine dv_cb (r := rMax G.m.K) (fun X hX => hX.K ▸ cr_max hX.calm) hg B.max PyProof.Rows.boot_max (da_cons ha da_nil hs) (fun S H vs Q ok r q => ?_) (by decide) (by decide) hs
  cases r with
  | cons r1 r2 =>
    cases r2
    cases r1 with
    | lst e1 z1 a1 =>
      obtain rfl := a1.ints
      refine ⟨_, ns, rfl, SqL.of (hide_some e1).2, List.length_pos_of_mem hm, fun m' h1 h2 => ?_⟩
      have e : m' = m := by have := h2 m hm; have := hle m' h1; omega
      rw [e]
      exact q _ H (Same.refl H) (.int _)
theorem dv_all {bs : List Bool} (B : Blt G.m) (hg : globB G.sc "all" = true) (ha : DV G δ a (.list (bs.map .bool))) (hs : ∀ env : Env, starEach [a] env = (false, eval a env) :: starEach [] env := by intro _; rfl) : DV G δ (.Call (.Name "all" p) [a] [] pos) (.bool (bs.all id)) := by
  refine dv_cb (r := rAll G.m.K) (fun X hX => hX.K ▸ cr_all hX.calm) hg B.all PyProof.Rows.boot_all (da_cons ha da_nil hs) (fun S H vs Q ok r q => ?_) (by decide) (by decide) hs
  cases r with
  | cons r1 r2 =>
    cases r2
    cases r1 with
    | lst e1 z1 a1 =>
      obtain rfl := a1.bls
      exact ⟨_, bs, rfl, SqL.of (hide_some e1).2, q _ H (Same.refl H) (.bl _)⟩
theorem dv_any {bs : List Bool} (B : Blt G.m) (hg : globB G.sc "any" = true) (ha : DV G δ a (.list (bs.map .bool))) (hs : ∀ env : Env, starEach [a] env = (false, eval a env) :: starEach [] env := by intro _; rfl) : DV G δ (.Call (.Name "any" p) [a] [] pos) (.bool (bs.any id)) := by
  refine dv_cb (r := rAny G.m.K) (fun X hX => hX.K ▸ cr_any hX.calm) hg B.any PyProof.Rows.boot_any (da_cons ha da_nil hs) (fun S H vs Q ok r q => ?_) (by decide) (by decide) hs
  cases r with
  | cons r1 r2 =>
    cases r2
    cases r1 with
    | lst e1 z1 a1 =>
      obtain rfl := a1.bls
      exact ⟨_, bs, rfl, SqL.of (hide_some e1).2, q _ H (Same.refl H) (.bl _)⟩
/-! sorted of whole numbers -/
theorem dn_sorted {ns ms : List Int} (B : Blt G.m) (hg : globB G.sc "sorted" = true) (ha : DV G δ a (.list (ns.map .int))) (hp : ms.Perm ns) (hs' : ms.Pairwise (· ≤ ·)) (hs : ∀ env : Env, starEach [a] env = (false, eval a env) :: starEach [] env := by intro _; rfl) : DN G δ (.Call (.Name "sorted" p) [a] [] pos) (ms.map .int) := by
  refine dn_cb (r := rSortedI G.m.K) (fun X hX => hX.K ▸ cr_sortedI) hg B.sorted PyProof.Rows.boot_sorted (da_cons ha da_nil hs) (fun S H vs Q ok r q => ?_) (by decide) (by decide) hs
  cases r with
  | cons r1 r2 =>
    cases r2
    cases r1 with
    | lst e1 z1 a1 =>
      obtain rfl := a1.ints
      refine ⟨_, ns, rfl, SqL.of (hide_some e1).2, fun ns' t h1 h2 h3 => ?_⟩
      have e : ns' = ms := (h1.trans hp.symm).eq_of_pairwise (le := (· ≤ ·)) (fun a b _ _ h1 h2 => Int.le_antisymm h1 h2) h2 hs'
      subst e
      refine q _ _ h3 ?_ (RpAll.ofInts _)
      rw [List.length_map, h1.length_eq, ← List.length_map (f := V.int)]
      exact z1
end
end DL

set_option Elab.async false
set_option linter.all false
set_option maxRecDepth 100000
namespace DL
open PySem PySem.Spec L2
set_option autoImplicit false

theorem RpAll.atI {K : PySem.W.Frag} {H : Hp} {vs : List V} {ds : List PyData} {i : Int} {d : PyData} (r : RpAll K H vs ds) (h : L2.atI ds i = some d) : ∃ v, L2.atI vs i = some v ∧ Rp K H v d := by
  unfold L2.atI at h ⊢
  rw [r.len]
  cases e : ixN ds.length i with
  | none => rw [e] at h; cases h
  | some j =>
    rw [e] at h
    exact r.get h
section
variable {G : Ct} {δ : DEnv} {a b c e : Expr} {es rest : List Expr} {x y z d : PyData} {ds : List PyData} {pos p p2 : Pos}
/-! ### a[i] -/
inductive DIx : PyData → Int → PyData → Prop
  | lst {ds : List PyData} {i : Int} {d : PyData} (h : L2.atI ds i = some d) : DIx (.list ds) i d
  | tup {ds : List PyData} {i : Int} {d : PyData} (h : L2.atI ds i = some d) : DIx (.tuple ds) i d
  | str {z : PySem.Str} {i : Int} {c : Nat} (hz : z.length ≤ sizeLine) (h : L2.atI z.cps.toList i = some c) : DIx (.str z) i (.str ⟨#[c]⟩)
  | scr {ns : List Int} {i : Int} {k : Int} (h : L2.atI ns i = some k) : DIx (scrD ns) i (.int k)
theorem dv_ix {i : Int} (ha : DV G δ a x) (hb : DV G δ b (.int i)) (h : DIx x i d) (hs : PlainIx b := by intro _ _; rfl) : DV G δ (.Subscript a b pos) d := by
  refine dv_bin (f := getItem) (r := rIx G.m.K) (fun X hX _ _ p q => hX.K ▸ pe_ix ix_seq p q hs) ha hb fun S H v w Q ok r1 r2 q => ?_
  cases r2
  cases h with
  | lst h =>
    cases r1 with
    | lst e1 z1 a1 =>
      obtain ⟨u, h1, h2⟩ := a1.atI h
      exact .inl ⟨_, _, i, u, rfl, rfl, SqL.of (hide_some e1).2, h1, q _ H (Same.refl H) h2⟩
  | tup h =>
    cases r1 with
    | tup e1 k1 z1 a1 =>
      obtain ⟨u, h1, h2⟩ := a1.atI h
      exact .inr (.inl ⟨_, _, i, u, rfl, rfl, SqT.frz (hide_some e1).2, h1, q _ H (Same.refl H) h2⟩)
  | str hz h =>
    cases r1
    exact .inr (.inr ⟨_, i, _, rfl, rfl, hz, h, q _ H (Same.refl H) (.str _)⟩)
  | scr h =>
    obtain ⟨p, rfl, s1, _⟩ := r1.scr_inv
    rename_i ns k _
    have h' : L2.atI (ns.map V.int) i = some (.int k) := by
      unfold L2.atI at h ⊢
      rw [List.length_map]
      cases e : ixN ns.length i with
      | none => rw [e] at h; cases h
      | some j =>
        rw [e] at h
        show (ns.map V.int)[j]? = _
        rw [List.getElem?_map, show ns[j]? = some k from h]
        rfl
    exact .inl ⟨p, _, i, _, rfl, rfl, (hide_sub S H).seq s1, h', q _ H (Same.refl H) (.int _)⟩
/-! ### slices -/
def tDO (K : PySem.W.Frag) (R : DEnv → Option Int → Prop) : TO := fun σ H Q => ∃ S δ o, R δ o ∧ SOk S H ∧ Rel K S δ σ H ∧ ∀ H', Same H H' → Q o H'
def DO (G : Ct) (δ : DEnv) (e : Option Expr) (o : Option Int) : Prop := ∀ X, G.Is X → PO X e (tDO G.m.K fun δ' o' => δ' = δ ∧ o' = o)
theorem do_none : DO G δ none none := fun X hX => ⟨fun pins s σ H Q I ⟨S, δ', o, ⟨e1, e2⟩, ok, R, q⟩ => by
  subst e1 e2
  exact po_none.run pins s σ H Q I (q H (Same.refl H))⟩
theorem do_some {i : Int} (h : DV G δ e (.int i)) : DO G δ (some e) (some i) := fun X hX => ⟨fun pins s σ H Q I ⟨S, δ', o, ⟨e1, e2⟩, ok, R, q⟩ => by
  subst e1 e2
  exact (po_some (h X hX)).run pins s σ H Q I ⟨S, _, _, ⟨rfl, rfl⟩, ok, R, fun v H' s' r => by cases r; exact ⟨i, rfl, q H' s'⟩⟩⟩
def cutD {α : Type} (xs : List α) (lo hi : Option Int) : List α := (xs.drop (HT.sIx xs.length 0 lo)).take (HT.sIx xs.length xs.length hi - HT.sIx xs.length 0 lo)
theorem RpAll.cut {K : PySem.W.Frag} {H : Hp} {vs : List V} {ds : List PyData} (r : RpAll K H vs ds) (lo hi : Option Int) : RpAll K H (cutV vs lo hi) (cutD ds lo hi) := by
  unfold cutV cutD
  rw [r.len]
  exact (r.drop _).take _
variable {lo hi : Option Expr} {l u : Option Int}
theorem slice_run {X : Cx} {r : V → Option Int → Option Int → Hp → VK → Prop} {Q : VK} {σ : L2.St} {H : Hp} {S : List Addr} (hX : G.Is X) (ha : DV G δ a x) (hl : DO G δ lo l) (hu : DO G δ hi u) (ok : SOk S H) (R : Rel G.m.K S δ σ H)
    (h : ∀ v H', Same H H' → Rp G.m.K (hide S H') v x → r v l u H' Q) : tSl r (tDR G.m.K fun δ' d' => δ' = δ ∧ d' = x) (tDO G.m.K fun δ' o' => δ' = δ ∧ o' = l) (tDO G.m.K fun δ' o' => δ' = δ ∧ o' = u) σ H Q :=
  ⟨S, _, _, ⟨rfl, rfl⟩, ok, R, fun v H1 s1 r1 => ⟨S, _, _, ⟨rfl, rfl⟩, ok.mono s1, R.mono s1, fun H2 s2 => ⟨S, _, _, ⟨rfl, rfl⟩, (ok.mono s1).mono s2, (R.mono s1).mono s2, fun H3 s3 =>
    h v H3 ((s1.trans s2).trans s3) (r1.mono (hide_mono (s2.trans s3)))⟩⟩⟩
theorem dn_sl (ha : DV G δ a (.list ds)) (hl : DO G δ lo l) (hu : DO G δ hi u) : DN G δ (.Subscript a (.Slice lo hi none p2) pos) (cutD ds l u) := fun X hX =>
  PE.imp (pe_slice sl_list (ha X hX) (hl X hX) (hu X hX)) fun σ H Q ⟨S, δ', d', ⟨e1, e2⟩, ok, R, q⟩ => by
    subst e1 e2
    refine slice_run hX ha hl hu ok R fun v H1 s1 r1 => ?_
    cases r1 with
    | lst e1 z1 a1 => exact ⟨_, _, rfl, SqL.of (hide_some e1).2, fun t ht => q _ t H1 s1 ht (Nat.le_trans (cutV_length _ _ _) z1) (a1.cut l u)⟩
/-- the script's first numbers, as a list of their own -/
theorem dn_slscr {ns : List Int} (ha : DV G δ a (scrD ns)) (hl : DO G δ lo l) (hu : DO G δ hi u) : DN G δ (.Subscript a (.Slice lo hi none p2) pos) ((cutD ns l u).map .int) := fun X hX =>
  PE.imp (pe_slice sl_list (ha X hX) (hl X hX) (hu X hX)) fun σ H Q ⟨S, δ', d', ⟨e1, e2⟩, ok, R, q⟩ => by
    subst e1 e2
    refine slice_run hX ha hl hu ok R fun v H1 s1 r1 => ?_
    obtain ⟨p, rfl, sq, hz⟩ := r1.scr_inv
    refine ⟨p, _, rfl, hX.K ▸ (hide_sub S H1).seq sq, fun t ht => ?_⟩
    have e : cutV (ns.map V.int) l u = (cutD ns l u).map V.int := by
      unfold cutV cutD
      rw [List.length_map, List.map_take, List.map_drop]
    rw [e]
    refine q _ t H1 s1 ht ?_ (RpAll.ofInts _)
    have h1 := cutV_length (ns.map V.int) l u
    rw [e, List.length_map] at h1
    rw [List.length_map]
    rw [List.length_map] at h1
    rw [sizeLine_eq]
    omega
def rSlF (K : PySem.W.Frag) : V → Option Int → Option Int → Hp → VK → Prop := fun x lo hi H Q => ∃ a xs, x = .ref a ∧ SqT K H a xs ∧
  (cutV xs lo hi = xs → Q (.ref a) H) ∧ NewT H (cutV xs lo hi) Q
theorem sl_tupF {X : Cx} : SlR X (rSlF X.K) := by
  intro pins s σ H x v vl vu lo hi sl Q I rx hs pl pu h
  obtain ⟨a, xs, e, hx, q1, q2⟩ := h
  subst e
  obtain rfl : v = .ref a := rx
  obtain ⟨its, r, ht, hz⟩ := I.tuple hx
  have hn : its.toArray.size = xs.length := by rw [List.size_toArray]; exact r.length.symm
  refine ⟨"tuple", _, PyProof.Rows.slot_tuple_getitem.lookup, ht.typeIs, ?_⟩
  by_cases hw : HT.sIx xs.length 0 lo = 0 ∧ HT.sIx xs.length xs.length hi = xs.length
  · refine getItem_tuple_whole ht hs pl pu (by rw [hn]; exact hw) ⟨.ref a, H, I, rfl, q1 ?_⟩
    unfold cutV
    rw [hw.1, hw.2, List.drop_zero, Nat.sub_zero, List.take_length]
  · refine HT.getItem_tuple_cut ht hs pl pu (by rw [hn]; exact hw) ?_ (by rw [hn]; exact hz)
    rw [hn]
    exact newT (t' := s.toks) I ((r.drop _).take _) (Nat.le_trans (cutV_length xs lo hi) hz) q2
theorem dv_slt (ha : DV G δ a (.tuple ds)) (hl : DO G δ lo l) (hu : DO G δ hi u) : DV G δ (.Subscript a (.Slice lo hi none p2) pos) (.tuple (cutD ds l u)) := fun X hX =>
  PE.imp (pe_slice sl_tupF (ha X hX) (hl X hX) (hu X hX)) fun σ H Q ⟨S, δ', d', ⟨e1, e2⟩, ok, R, q⟩ => by
    subst e1 e2
    rw [hX.K]
    refine slice_run hX ha hl hu ok R fun v H1 s1 r1 => ?_
    cases r1 with
    | tup e1 k1 z1 a1 =>
      refine ⟨_, _, rfl, SqT.frz (hide_some e1).2, fun hw => ?_, Rp.newT (ok.mono s1) (Nat.le_trans (cutV_length _ _ _) z1) (a1.cut l u) s1 q⟩
      refine q _ H1 s1 (.tup e1 k1 z1 ?_)
      have := a1.cut l u
      rw [hw] at this
      exact this
theorem dv_sls {t : PySem.Str} (ha : DV G δ a (.str t)) (hl : DO G δ lo l) (hu : DO G δ hi u) (hz : t.length ≤ sizeLine) : DV G δ (.Subscript a (.Slice lo hi none p2) pos) (.str (cutS t l u)) := fun X hX =>
  PE.imp (pe_slice sl_str (ha X hX) (hl X hX) (hu X hX)) fun σ H Q ⟨S, δ', d', ⟨e1, e2⟩, ok, R, q⟩ => by
    subst e1 e2
    refine slice_run hX ha hl hu ok R fun v H1 s1 r1 => ?_
    cases r1
    exact ⟨t, rfl, hz, q _ H1 s1 (.str _)⟩

/-! ### len(set(..)) of whole numbers -/
def dedup (ns : List Int) : List Int := ns.foldl PyProof.Rows.step_dedup []
theorem firstMet_dedup (ns : List Int) : PyProof.Rows.firstMet (fun i => ns.getD i 0) ns.length = dedup ns := by
  unfold PyProof.Rows.firstMet dedup
  congr 1
  apply List.ext_getElem
  · simp
  · intro i h1 h2
    simp [List.getD_eq_getElem?_getD, List.getElem?_eq_getElem h2]
theorem mem_dedup_aux (ns : List Int) : ∀ (acc : List Int) (k : Int), k ∈ ns.foldl PyProof.Rows.step_dedup acc ↔ k ∈ acc ∨ k ∈ ns := by
  induction ns with
  | nil => intro acc k; simp
  | cons n ns ih =>
    intro acc k
    rw [List.foldl_cons, ih]
    unfold PyProof.Rows.step_dedup
    by_cases h : acc.any (· == n) = true
    · rw [if_pos h]
      obtain ⟨m, hm, e⟩ := List.any_eq_true.mp h
      have e' : m = n := eq_of_beq e
      subst e'
      constructor
      · rintro (q | q)
        · exact .inl q
        · exact .inr (List.mem_cons_of_mem _ q)
      · rintro (q | q)
        · exact .inl q
        · rcases List.mem_cons.mp q with q | q
          · exact .inl (q ▸ hm)
          · exact .inr q
    · rw [if_neg h]
      simp only [List.mem_append, List.mem_cons, List.not_mem_nil, or_false]
      constructor
      · rintro ((q | q) | q)
        · exact .inl q
        · exact .inr (.inl q)
        · exact .inr (.inr q)
      · rintro (q | q | q)
        · exact .inl (.inl q)
        · exact .inl (.inr q)
        · exact .inr q
theorem mem_dedup {ns : List Int} {k : Int} : k ∈ dedup ns ↔ k ∈ ns := by
  unfold dedup
  rw [mem_dedup_aux]
  simp
theorem nodup_dedup_aux (ns : List Int) : ∀ (acc : List Int), acc.Nodup → (ns.foldl PyProof.Rows.step_dedup acc).Nodup := by
  induction ns with
  | nil => intro acc h; exact h
  | cons n ns ih =>
    intro acc h
    rw [List.foldl_cons]
    refine ih _ ?_
    unfold PyProof.Rows.step_dedup
    by_cases q : acc.any (· == n) = true
    · rw [if_pos q]; exact h
    · rw [if_neg q]
      refine List.nodup_append.mpr ⟨h, by simp, fun a ha b hb e => ?_⟩
      rw [List.mem_singleton] at hb
      subst hb
      exact q (List.any_eq_true.mpr ⟨a, ha, by rw [e]; exact beq_self_eq_true _⟩)
theorem nodup_dedup (ns : List Int) : (dedup ns).Nodup := nodup_dedup_aux ns [] List.nodup_nil
theorem dedup_le (ns : List Int) : (dedup ns).length ≤ ns.length := by
  rw [← firstMet_dedup]
  exact PyProof.Rows.firstMet_length_le _ _
/-- one number for lists of the same members, each once -/
theorem nodup_len {xs ys : List Int} (hx : xs.Nodup) (hy : ys.Nodup) (h : ∀ k, k ∈ xs ↔ k ∈ ys) : xs.length = ys.length := (List.perm_ext_iff_of_nodup hx hy |>.mpr h).length_eq
def tLenSetF (K : PySem.W.Frag) (ta : TE) : TE := fun σ H Q => ta σ H fun x H1 => ∃ (l : Addr) (ns : List Int), x = V.ref l ∧ (SqL K H1 l (ns.map V.int) ∨ SqT K H1 l (ns.map V.int)) ∧ ns.length ≤ 1000 ∧ Q (.int (dedup ns).length) H1
theorem pe_lenSetF {X : Cx} {ta : TE} {q : Pos} (hc : X.calm = true) (hg : Gl X "len") (hm : X.mg "len" = none) (hg2 : Gl X "set") (hm2 : X.mg "set" = none) (ha : PE X a ta)
    (na : starEach [a] X.env = (false, eval a X.env) :: starEach [] X.env) (nb : starEach [.Call (.Name "set" p2) [a] [] q] X.env = (false, eval (.Call (.Name "set" p2) [a] [] q) X.env) :: starEach [] X.env) : PE X (.Call (.Name "len" p) [.Call (.Name "set" p2) [a] [] q] [] pos) (tLenSetF X.K ta) := by
  refine ⟨fun pins s σ H Q I h => ?_⟩
  refine PyProof.Rows.Call_ (ld_blt I hg hm PySem.boot_len ?_)
  refine PyProof.Rows.callWith_builtin1 (PyProof.Rows.args_cons ?_ nb) nb rfl
  refine PyProof.Rows.Call_ (ld_blt I hg2 hm2 PyProof.Rows.boot_set ?_)
  refine PyProof.Rows.callWith_type1 (PyProof.Rows.args_cons (thn (ha.run pins s σ H _ I h) fun v s1 ⟨x, H1, I1, r1, q1⟩ => PyProof.Rows.args_nil ?_) na) na rfl
  obtain ⟨l, ns, e, hq, hz, q1⟩ := q1
  subst e
  obtain rfl : v = .ref l := r1
  rcases hq with hq | hq
  · obtain ⟨its, r, pl, _⟩ := I1.list hq
    have hl : its.toArray.size = ns.length := by rw [List.size_toArray, ← r.length, List.length_map]
    refine call_set_list (I1.ok.hd hc) pl.isList (ns := ns) (by simpa using r.ints) (by unfold scanBound; omega) fun h' tk hS hk => ?_
    rw [hl, firstMet_dedup] at hS
    refine PyProof.Rows.args_nil ?_
    obtain ⟨o, es, ep, t, ho, hex, hd, _, _, _, hf, hn⟩ := hS
    have I2 : Inv X pins σ H1 { s1 with heap := h', toks := tk } := I1.kept fun b o e => hk b o (Heap.lt_size e) e
    have h1 := dedup_le ns
    refine call_len_set ho hex hd hf (by rw [hn] <;> omega) ⟨.int (dedup ns).length, H1, I2.tok _, ⟨_, by rw [hn]⟩, q1⟩
  · obtain ⟨its, r, pt, _⟩ := I1.tuple hq
    refine call_set_tupI ns (I1.ok.hd hc) (show s1.heap.IsTuple l its.toArray from pt) (by simpa using r.ints) (by unfold scanBound; omega) fun h' tk c R1 hcn k => ?_
    obtain ⟨o, es, ep, t, ho, hex, hd, g, nd, hm3, hb, hf, hn, hr, hl2⟩ := R1
    refine PyProof.Rows.args_nil ?_
    have I2 : Inv X pins σ H1 { s1 with heap := h', toks := tk } := I1.kept k
    have hlen : es.size = (dedup ns).length := by
      rw [← Array.length_toList, ← List.length_map (f := keyOf)]
      refine nodup_len nd (nodup_dedup ns) fun j => ?_
      rw [← hm3 j, mem_dedup]
      simp
    refine call_len_set ho hex hd hf (by omega) ⟨.int (dedup ns).length, H1, I2.tok _, ⟨_, by rw [hlen]⟩, q1⟩
theorem dv_lenset {ns : List Int} {q : Pos} (B : Blt G.m) (hg : globB G.sc "len" = true) (hg2 : globB G.sc "set" = true) (ha : DV G δ a y) (h : Seq y (ns.map .int)) (hz : ns.length ≤ 1000)
    (na : ∀ env : Env, starEach [a] env = (false, eval a env) :: starEach [] env := by intro _; rfl) (nb : ∀ env : Env, starEach [.Call (.Name "set" p2) [a] [] q] env = (false, eval (.Call (.Name "set" p2) [a] [] q) env) :: starEach [] env := by intro _; rfl) :
    DV G δ (.Call (.Name "len" p) [.Call (.Name "set" p2) [a] [] q] [] pos) (.int (dedup ns).length) := fun X hX =>
  PE.imp (pe_lenSetF hX.calm (gl_of hX hg) (by rw [hX.mg]; exact B.len) (gl_of hX hg2) (by rw [hX.mg]; exact B.set) (ha X hX) (na _) (nb _)) fun σ H Q ⟨S, δ', d', ⟨e1, e2⟩, ok, R, q⟩ => by
    subst e1 e2
    rw [hX.K]
    refine ⟨S, _, _, ⟨rfl, rfl⟩, ok, R, fun v H1 s1 r1 => ?_⟩
    generalize hy : ns.map PyData.int = ys at h
    cases h with
    | lst =>
      subst hy
      cases r1 with
      | lst e1 z1 a1 =>
        obtain rfl := a1.ints
        exact ⟨_, ns, rfl, .inl (SqL.of (hide_some e1).2), hz, q _ H1 s1 (.int _)⟩
    | tup =>
      subst hy
      cases r1 with
      | tup e1 k1 z1 a1 =>
        obtain rfl := a1.ints
        exact ⟨_, ns, rfl, .inr (SqT.frz (hide_some e1).2), hz, q _ H1 s1 (.int _)⟩

/-! ### own defs -/
/-- a def's promise: R tells what comes of which arguments -/
def spD (K : PySem.W.Frag) (R : List PyData → PyData → Prop) : Sp := fun vs H Q _ => ∃ S ds d, R ds d ∧ SOk S H ∧ RpAll K (hide S H) vs ds ∧ ∀ v H', Same H H' → Rp K (hide S H') v d → Q v H'
structure Fn (m : Md) (n : PySem.Str) (k : Nat) (R : List PyData → PyData → Prop) : Prop where
  ex : ∃ f fd ps, m.mg n = some (.ref f) ∧ PySem.W.keepIn m.K (.ref f) = true ∧ Binds m.K fd ps [] ∧ FnOk m.P m.w m.K m.mg m.base CX0 k f fd ps (spD m.K R)
theorem Fn.imp {m : Md} {n : PySem.Str} {k : Nat} {R R' : List PyData → PyData → Prop} (h : Fn m n k R) (w : ∀ ds d, R' ds d → R ds d) : Fn m n k R' := by
  obtain ⟨f, fd, ps, h1, h2, h3, h4⟩ := h.ex
  exact ⟨f, fd, ps, h1, h2, h3, h4.imp fun vs H Q E ⟨S, ds, d, r, q⟩ => ⟨S, ds, d, w _ _ r, q⟩⟩
theorem Fn.mono {m : Md} {n : PySem.Str} {j k : Nat} {R : List PyData → PyData → Prop} (h : Fn m n j R) (w : j ≤ k) : Fn m n k R := by
  obtain ⟨f, fd, ps, h1, h2, h3, h4⟩ := h.ex
  exact ⟨f, fd, ps, h1, h2, h3, h4.mono w⟩
theorem dv_call {n : PySem.Str} {k : Nat} {R : List PyData → PyData → Prop} (F : Fn G.m n k R) (hk : k ≤ G.rm) (hg : globB G.sc n = true) (ha : DA G δ (e :: es) ds) (hR : R ds d)
    (hd : (n == ("__debug__" : PySem.Str)) = false := by decide)
    (he : ∀ env : Env, starEach (e :: es) env = (false, eval e env) :: starEach es env := by intro _; rfl) (hpl : ∀ env : Env, (backTo pos (starEach es env)).any (·.1) = false := by intro _; rfl) :
    DV G δ (.Call (.Name n p) (e :: es) [] pos) d := fun X hX => by
  obtain ⟨f, fd, ps, h1, h2, h3, h4⟩ := F.ex
  have F' : FnOk X.prog X.w X.K X.mg X.base CX0 k f fd ps (spD G.m.K R) := by rw [hX.prog, hX.w, hX.K, hX.mg, hX.base]; exact h4
  refine PE.imp (pe_call F' (hX.rm.mono hk) (gl_of hX hg) (by rw [hX.mg]; exact h1) (by rw [hX.K]; exact h2) (by rw [hX.K]; exact h3) .nil pass0 (ha X hX) hd (he _) (hpl _)) fun σ H Q ⟨S, δ', d', ⟨e1, e2⟩, ok, R', q⟩ => ?_
  subst e1 e2
  refine ⟨S, _, _, ⟨rfl, rfl⟩, ok, R', fun vs H1 s1 r1 => ?_⟩
  exact ⟨S, ds, _, hR, ok.mono s1, by rw [List.append_nil]; exact r1, fun v H' s2 r2 => q v H' (s1.trans s2) r2⟩
end
end DL

set_option Elab.async false
set_option linter.all false
set_option maxRecDepth 100000
namespace DL
open PySem PySem.Spec L2
set_option autoImplicit false

/-! ### names that hold a list or a dict of the def's own, which it changes -/
inductive OC where
  | lst (ds : List PyData)
  | dct (kvs : List (Int × Int))
def OC.data : OC → PyData
  | .lst ds => .list ds
  | .dct kvs => .dict (kvs.map fun p => (.int p.1, .int p.2))
/-- at a of H stands what it says, its parts to be seen in F -/
def OCat (K : PySem.W.Frag) (F H : Hp) (a : Addr) : OC → Prop
  | .lst ds => ∃ xs, H a = some (.lst xs) ∧ xs.length ≤ sizeLine ∧ RpAll K F xs ds
  | .dct kvs => H a = some (.dK (kvs.map fun p => (Sum.inl p.1, V.int p.2))) ∧ kvs.length ≤ sizeLine
abbrev Own := List (Nat × OC)
def ov (δ : DEnv) (ω : Own) : DEnv := ω.foldl (fun δ p => δ.set p.1 (some p.2.data)) δ
structure SRel (K : PySem.W.Frag) (S : List Addr) (H0 : Hp) (δ : DEnv) (ω : Own) (σ : L2.St) (H : Hp) : Prop where
  ex : ∃ as : List Addr, as.length = ω.length ∧ as.Nodup ∧ SOk (as ++ S) H ∧ Same H0 (hide as H) ∧ Rel K (as ++ S) δ σ H ∧
    ∀ (k i : Nat) (c : OC) (a : Addr), ω[k]? = some (i, c) → as[k]? = some a → σ[i]? = some (some (.ref a)) ∧ OCat K (hide (as ++ S) H) H a c
theorem OCat.mono {K : PySem.W.Frag} {F F' H H' : Hp} {a : Addr} {c : OC} (h : OCat K F H a c) (s : Same F F') (t : ∀ o, H a = some o → H' a = some o) : OCat K F' H' a c := by
  cases c with
  | lst ds =>
    obtain ⟨xs, h1, h2, h3⟩ := h
    exact ⟨xs, t _ h1, h2, h3.mono s⟩
  | dct kvs =>
    obtain ⟨h1, h2⟩ := h
    exact ⟨t _ h1, h2⟩
theorem OCat.rp {K : PySem.W.Frag} {F H : Hp} {a : Addr} {c : OC} (h : OCat K F H a c) {G : Hp} (s : Same F G) (e : ∀ o, H a = some o → G a = some o) : Rp K G (.ref a) c.data := by
  cases c with
  | lst ds =>
    obtain ⟨xs, h1, h2, h3⟩ := h
    exact .lst (e _ h1) h2 (h3.mono s)
  | dct kvs =>
    obtain ⟨h1, h2⟩ := h
    exact .dct (.inl (e _ h1)) h2
theorem OCat.notup {K : PySem.W.Frag} {F H : Hp} {a : Addr} {c : OC} (h : OCat K F H a c) (o : Obj) (xs : List V) : H a ≠ some (.frz o (.tup xs)) := by
  intro e
  cases c with
  | lst ds =>
    obtain ⟨xs, h1, h2, h3⟩ := h
    rw [e] at h1; cases h1
  | dct kvs =>
    obtain ⟨h1, h2⟩ := h
    rw [e] at h1; cases h1
section
variable {K : PySem.W.Frag} {S : List Addr} {H0 H H' : Hp} {δ : DEnv} {ω : Own} {σ : L2.St}
theorem SRel.mono (r : SRel K S H0 δ ω σ H) (s : Same H H') : SRel K S H0 δ ω σ H' := by
  obtain ⟨as, h1, h2, h3, h4, h5, h6⟩ := r.ex
  exact ⟨as, h1, h2, h3.mono s, h4.trans (hide_mono s), h5.mono s, fun k i c a e1 e2 => let ⟨q1, q2⟩ := h6 k i c a e1 e2; ⟨q1, q2.mono (hide_mono s) (s _)⟩⟩
theorem hide_le {S T : List Addr} (h : ∀ a, a ∈ T → a ∈ S) (H : Hp) : Same (hide S H) (hide T H) := fun b o e => by
  obtain ⟨h1, h2⟩ := hide_some e
  rw [hide_out fun z => h1 (h b z)]
  exact h2
theorem hide_more (as S : List Addr) (H : Hp) : Same (hide (as ++ S) H) (hide S H) := by
  rw [hide_app]
  exact hide_mono (hide_sub as H)
theorem Rel.more {as : List Addr} (r : Rel K (as ++ S) δ σ H) : Rel K S δ σ H := ⟨r.len, fun i d e => let ⟨v, h1, h2⟩ := r.val i d e; ⟨v, h1, h2.mono (hide_more as S H)⟩⟩
theorem Rel.look {i : Nat} {v : V} {d : PyData} (r : Rel K S δ σ H) (e : σ[i]? = some (some v)) (h : Rp K (hide S H) v d) : Rel K S (δ.set i (some d)) σ H := by
  refine ⟨by rw [List.length_set]; exact r.len, fun j d' hj => ?_⟩
  by_cases q : i = j
  · subst q
    have hl : i < δ.length := by rw [← r.len]; exact (List.getElem?_eq_some_iff.mp e).1
    rw [List.getElem?_set_self hl] at hj
    cases hj
    exact ⟨v, e, h⟩
  · rw [List.getElem?_set_ne q] at hj
    exact r.val j d' hj
theorem Rel.over : ∀ (ω : Own) {δ : DEnv}, Rel K S δ σ H → (∀ p ∈ ω, ∃ v, σ[p.1]? = some (some v) ∧ Rp K (hide S H) v p.2.data) → Rel K S (ov δ ω) σ H
  | [], _, r, _ => r
  | p :: ω, δ, r, h => by
    obtain ⟨v, h1, h2⟩ := h p List.mem_cons_self
    exact Rel.over ω (r.look h1 h2) fun q hq => h q (List.mem_cons_of_mem _ hq)
theorem SRel.ofS (r : SRel K S H0 δ ω σ H) : ∀ a ∈ S, a ∈ S := fun _ h => h
/-- the whole of it, to be read -/
theorem SRel.over (hS : SOk S H0) (r : SRel K S H0 δ ω σ H) : SOk S H ∧ Same H0 H ∧ Rel K S (ov δ ω) σ H := by
  obtain ⟨as, h1, h2, h3, h4, h5, h6⟩ := r.ex
  refine ⟨fun a ha => h3 a (List.mem_append_right _ ha), h4.trans (hide_sub as H), Rel.over ω h5.more fun p hp => ?_⟩
  obtain ⟨k, hk, e⟩ := List.mem_iff_getElem.mp hp
  have hka : k < as.length := by rw [h1]; exact hk
  obtain ⟨q1, q2⟩ := h6 k p.1 p.2 as[k] (by rw [List.getElem?_eq_getElem hk, e]) (List.getElem?_eq_getElem hka)
  refine ⟨_, q1, q2.rp (hide_more as S H) fun o ho => ?_⟩
  have hn : as[k] ∉ S := fun z => by
    cases q : H0 as[k] with
    | none => exact hS _ z q
    | some u =>
      have := h4 _ _ q
      rw [hide_in (List.getElem_mem hka)] at this
      cases this
  rw [hide_out hn]
  exact ho
end
/-! ### statements -/
inductive Out where
  | next (δ : DEnv) (ω : Own)
  | ret (d : PyData)
def OutOk (K : PySem.W.Frag) (S : List Addr) (H0 : Hp) (D : Ends) : Out → Prop
  | .next δ ω => ∀ σ' H', SRel K S H0 δ ω σ' H' → D.nx σ' H'
  | .ret d => ∀ v H', Same H0 H' → Rp K (hide S H') v d → D.rt v H'
def tDS (K : PySem.W.Frag) (R : DEnv → Own → Out → Prop) : TS := fun D σ H => ∃ S H0 δ ω out, R δ ω out ∧ SOk S H0 ∧ SRel K S H0 δ ω σ H ∧ OutOk K S H0 D out
def DS (G : Ct) (δ : DEnv) (ω : Own) (st : Stmt) (out : Out) : Prop := ∀ X, G.Is X → PS X st (tDS G.m.K fun δ' ω' o' => δ' = δ ∧ ω' = ω ∧ o' = out)
def DSs (G : Ct) (δ : DEnv) (ω : Own) (sts : List Stmt) (out : Out) : Prop := ∀ X, G.Is X → PSs X sts (tDS G.m.K fun δ' ω' o' => δ' = δ ∧ ω' = ω ∧ o' = out)
theorem PS.imp {X : Cx} {st : Stmt} {t t' : TS} (h : PS X st t) (w : ∀ D σ H, t' D σ H → t D σ H) : PS X st t' := ⟨fun pins s σ H D I q => h.run pins s σ H D I (w _ _ _ q)⟩
theorem PSs.imp {X : Cx} {st : List Stmt} {t t' : TS} (h : PSs X st t) (w : ∀ D σ H, t' D σ H → t D σ H) : PSs X st t' := ⟨fun pins s σ H D I q => h.run pins s σ H D I (w _ _ _ q)⟩
theorem PSs.rel {X : Cx} {sts : List Stmt} {K : PySem.W.Frag} {R : DEnv → Own → Out → Prop} (h : ∀ δ ω o, R δ ω o → PSs X sts (tDS K fun δ' ω' o' => δ' = δ ∧ ω' = ω ∧ o' = o)) : PSs X sts (tDS K R) :=
  ⟨fun pins s σ H D I ⟨S, H0, δ, ω, o, r, q⟩ => (h δ ω o r).run pins s σ H D I ⟨S, H0, δ, ω, o, ⟨rfl, rfl, rfl⟩, q⟩⟩
section
variable {G : Ct} {δ δ1 : DEnv} {ω ω1 : Own} {st : Stmt} {rest body thn els : List Stmt} {out : Out} {a b c e : Expr} {es : List Expr} {x y z d : PyData} {ds : List PyData} {pos p p2 : Pos}
theorem DSs.conv (h : DSs G δ ω rest out) {o : Out} (q : out = o) : DSs G δ ω rest o := q ▸ h
theorem DS.conv (h : DS G δ ω st out) {o : Out} (q : out = o) : DS G δ ω st o := q ▸ h
theorem DSs.from (h : DSs G δ ω rest out) (q1 : δ1 = δ) (q2 : ω1 = ω) : DSs G δ1 ω1 rest out := q1 ▸ q2 ▸ h
theorem dss_nil : DSs G δ ω [] (.next δ ω) := fun X hX => PSs.imp pss_nil fun D σ H ⟨S, H0, δ', ω', o', ⟨e1, e2, e3⟩, hS, r, q⟩ => by
  subst e1 e2 e3
  exact q σ H r
theorem dss_cons (h : DS G δ ω st (.next δ1 ω1)) (h2 : DSs G δ1 ω1 rest out) : DSs G δ ω (st :: rest) out := fun X hX => PSs.imp (pss_cons (h X hX) (h2 X hX)) fun D σ H ⟨S, H0, δ', ω', o', ⟨e1, e2, e3⟩, hS, r, q⟩ => by
  subst e1 e2 e3
  refine ⟨S, H0, _, _, _, ⟨rfl, rfl, rfl⟩, hS, r, fun σ' H' r' => ⟨S, H0, _, _, _, ⟨rfl, rfl, rfl⟩, hS, r', q⟩⟩
theorem dss_end (h : DS G δ ω st (.ret d)) : DSs G δ ω (st :: rest) (.ret d) := fun X hX => PSs.imp (pss_cons (h X hX) pss_never) fun D σ H ⟨S, H0, δ', ω', o', ⟨e1, e2, e3⟩, hS, r, q⟩ => by
  subst e1 e2 e3
  exact ⟨S, H0, _, _, _, ⟨rfl, rfl, rfl⟩, hS, r, q⟩
theorem ds_ret (h : DV G (ov δ ω) e d) : DS G δ ω (.Return (some e) pos) (.ret d) := fun X hX => PS.imp (ps_ret (h X hX)) fun D σ H ⟨S, H0, δ', ω', o', ⟨e1, e2, e3⟩, hS, r, q⟩ => by
  subst e1 e2 e3
  obtain ⟨h1, h2, h3⟩ := r.over hS
  exact ⟨S, _, _, ⟨rfl, rfl⟩, h1, h3, fun v H' s rv => q v H' (h2.trans s) rv⟩
/-- what expressions need, and what a store leaves -/
structure Bs (K : PySem.W.Frag) (S : List Addr) (H0 : Hp) (δ : DEnv) (ω : Own) (σ : L2.St) (H : Hp) (as : List Addr) : Prop where
  ok : SOk (as ++ S) H
  rel : Rel K (as ++ S) δ σ H
  okS : SOk S H
  relS : Rel K S (ov δ ω) σ H
  h0 : Same H0 H
  imm : ∀ (H' : Hp) (v : V) (d : PyData), Same H H' → imm d = true → Rp K (hide S H') v d → Rp K (hide (as ++ S) H') v d
  store : ∀ (H' : Hp) (i : Nat) (v : V) (d : PyData), Same H H' → Rp K (hide (as ++ S) H') v d → (∀ p ∈ ω, p.1 ≠ i) → SRel K S H0 (δ.set i (some d)) ω (σ.set i (some v)) H'
  own : ∀ (H' : Hp) (i : Nat) (p : Addr) (c : OC) (o : HO), Same H H' → H' p = none → OCat K (hide (as ++ S) H') (upd H' p o) p c → (∀ p ∈ ω, p.1 ≠ i) → i < δ.length → SRel K S H0 (δ.set i none) ((i, c) :: ω) (σ.set i (some (.ref p))) (upd H' p o)
  at_ : ∀ (k i : Nat) (c : OC), ω[k]? = some (i, c) → ∃ a, a ∈ as ∧ σ[i]? = some (some (.ref a)) ∧ OCat K (hide (as ++ S) H) H a c ∧
    ∀ (H' : Hp) (o : HO) (c' : OC), Same H H' → OCat K (hide (as ++ S) H') (upd H' a o) a c' → SRel K S H0 δ (ω.set k (i, c')) σ (upd H' a o)
theorem SRel.bs {K : PySem.W.Frag} {S : List Addr} {H0 H : Hp} {δ : DEnv} {ω : Own} {σ : L2.St} (hS : SOk S H0) (r : SRel K S H0 δ ω σ H) : ∃ as : List Addr, Bs K S H0 δ ω σ H as := by
  obtain ⟨h1', h2', h3'⟩ := r.over hS
  obtain ⟨as, h1, h2, h3, h4, h5, h6⟩ := r.ex
  have notS : ∀ a ∈ as, a ∉ S := fun a ha z => by
    cases q : H0 a with
    | none => exact hS _ z q
    | some u =>
      have := h4 _ _ q
      rw [hide_in ha] at this
      cases this
  have kOf : ∀ a ∈ as, ∃ k i c, ω[k]? = some (i, c) ∧ as[k]? = some a := fun a ha => by
    obtain ⟨k, hk, e⟩ := List.mem_iff_getElem.mp ha
    have hk' : k < ω.length := by rw [← h1]; exact hk
    exact ⟨k, ω[k].1, ω[k].2, List.getElem?_eq_getElem hk', by rw [List.getElem?_eq_getElem hk, e]⟩
  have fresh : ∀ {H' : Hp} {p : Addr}, Same H H' → H' p = none → p ∉ as ++ S := fun s n => (h3.mono s).new n
  refine ⟨as, h3, h5, h1', h3', h2', fun H' v d s im rv => ?_, fun H' i v d s rv hi => ⟨as, h1, h2, h3.mono s, h4.trans (hide_mono s), (h5.mono s).set rv, fun k j c a e1 e2 => ?_⟩, fun H' i p c o s n oc hi hl => ?_, fun k i c hk => ?_⟩
  · refine Rp.imm_hide (fun a ha o xs => ?_) im rv
    obtain ⟨k, i, c, e1, e2⟩ := kOf a ha
    exact (OCat.mono (h6 k i c a e1 e2).2 (hide_mono s) (s _)).notup o xs
  · obtain ⟨q1, q2⟩ := h6 k j c a e1 e2
    refine ⟨?_, q2.mono (hide_mono s) (s _)⟩
    rw [List.getElem?_set_ne (fun z => hi _ (List.mem_of_getElem? e1) z.symm)]
    exact q1
  · have hp := fresh s n
    have e0 : hide (p :: as ++ S) (upd H' p o) = hide (as ++ S) H' := hide_cons_upd n
    have sm : Same H' (upd H' p o) := same_upd n o
    refine ⟨p :: as, by simp [h1], List.nodup_cons.mpr ⟨fun z => hp (List.mem_append_left _ z), h2⟩, fun a ha => ?_, ?_, ?_, fun k j c' a e1 e2 => ?_⟩
    · rcases List.mem_cons.mp ha with e | ha
      · rw [e, upd_same]; simp
      · exact ((h3.mono s).mono sm) a ha
    · rw [hide_cons_upd n]
      exact h4.trans (hide_mono s)
    · have q := ((h5.mono s).forget i (some (.ref p)))
      exact ⟨q.len, fun j d e => let ⟨v, z1, z2⟩ := q.val j d e; ⟨v, z1, by rw [e0]; exact z2⟩⟩
    · rw [e0]
      cases k with
      | zero =>
        simp only [List.getElem?_cons_zero, Option.some.injEq, Prod.mk.injEq] at e1 e2
        obtain ⟨e1, e3⟩ := e1
        subst e1 e2 e3
        exact ⟨List.getElem?_set_self (by rw [h5.len]; exact hl), oc⟩
      | succ k =>
        simp only [List.getElem?_cons_succ] at e1 e2
        obtain ⟨q1, q2⟩ := h6 k j c' a e1 e2
        refine ⟨?_, q2.mono (hide_mono s) (fun o e => sm _ _ (s _ _ e))⟩
        rw [List.getElem?_set_ne (fun z => hi _ (List.mem_of_getElem? e1) z.symm)]
        exact q1
  · have hka : k < as.length := by rw [h1]; exact (List.getElem?_eq_some_iff.mp hk).1
    have hka' : as[k]? = some as[k] := List.getElem?_eq_getElem hka
    obtain ⟨q1, q2⟩ := h6 k i c as[k] hk hka'
    have hm : as[k] ∈ as := List.getElem_mem hka
    refine ⟨as[k], hm, q1, q2, fun H' o c' s oc => ?_⟩
    have e0 : hide (as ++ S) (upd H' as[k] o) = hide (as ++ S) H' := hide_upd (List.mem_append_left _ hm)
    refine ⟨as, by rw [List.length_set]; exact h1, h2, fun a ha => ?_, ?_, ?_, fun j i' c2 a e1 e2 => ?_⟩
    · by_cases e : a = as[k]
      · rw [e, upd_same]; simp
      · rw [upd_ne e]; exact (h3.mono s) a ha
    · rw [hide_upd hm]
      exact h4.trans (hide_mono s)
    · exact ⟨h5.len, fun j d e => let ⟨v, z1, z2⟩ := (h5.mono s).val j d e; ⟨v, z1, by rw [e0]; exact z2⟩⟩
    · rw [e0]
      by_cases e : k = j
      · subst e
        rw [List.getElem?_set_self (by rw [← h1]; exact hka)] at e1
        rw [hka'] at e2
        cases e1
        cases e2
        exact ⟨q1, oc⟩
      · rw [List.getElem?_set_ne e] at e1
        obtain ⟨z1, z2⟩ := h6 j i' c2 a e1 e2
        have hne : a ≠ as[k] := fun z => e (by
          have hj : j < as.length := (List.getElem?_eq_some_iff.mp e2).1
          have ej : as[j] = a := (List.getElem?_eq_some_iff.mp e2).2
          exact ((List.getElem_inj h2).mp (ej.trans z)).symm)
        exact ⟨z1, z2.mono (hide_mono s) fun o' eo => by rw [upd_ne hne]; exact s _ _ eo⟩
theorem SRel.forget {K : PySem.W.Frag} {S : List Addr} {H0 H : Hp} {δ : DEnv} {ω : Own} {σ : L2.St} (k : Nat) (r : SRel K S H0 δ ω σ H) : SRel K S H0 δ (ω.eraseIdx k) σ H := by
  obtain ⟨as, h1, h2, h3, h4, h5, h6⟩ := r.ex
  have sub : ∀ a, a ∈ as.eraseIdx k → a ∈ as := fun a ha => List.mem_of_mem_eraseIdx ha
  have sub2 : ∀ a, a ∈ as.eraseIdx k ++ S → a ∈ as ++ S := fun a ha => (List.mem_append.mp ha).elim (fun z => List.mem_append_left _ (sub a z)) fun z => List.mem_append_right _ z
  have m := hide_le sub2 H
  refine ⟨as.eraseIdx k, ?_, h2.sublist (List.eraseIdx_sublist _ _), fun a ha => h3 a (sub2 a ha), h4.trans (hide_le sub H), ⟨h5.len, fun i d e => let ⟨v, z1, z2⟩ := h5.val i d e; ⟨v, z1, z2.mono m⟩⟩, fun j i c a e1 e2 => ?_⟩
  · rw [List.length_eraseIdx, List.length_eraseIdx, h1]
  · rw [List.getElem?_eraseIdx] at e1 e2
    by_cases q : j < k
    · rw [if_pos q] at e1 e2
      obtain ⟨z1, z2⟩ := h6 j i c a e1 e2
      exact ⟨z1, z2.mono m fun _ e => e⟩
    · rw [if_neg q] at e1 e2
      obtain ⟨z1, z2⟩ := h6 (j + 1) i c a e1 e2
      exact ⟨z1, z2.mono m fun _ e => e⟩
theorem dss_forget (k : Nat) (h : DSs G δ (ω.eraseIdx k) rest out) : DSs G δ ω rest out := fun X hX => PSs.imp (h X hX) fun D σ H ⟨S, H0, δ', ω', o', ⟨e1, e2, e3⟩, hS, r, q⟩ => by
  subst e1 e2 e3
  exact ⟨S, H0, _, _, _, ⟨rfl, rfl, rfl⟩, hS, r.forget k, q⟩
/-- a list that is changed no more -/
theorem dss_freeze {i : Nat} {cc : OC} (k : Nat) (hk : ω[k]? = some (i, cc)) (hi : ∀ j q, ω[j]? = some q → j ≠ k → q.1 ≠ i) (h : DSs G (δ.set i (some cc.data)) (ω.eraseIdx k) rest out) : DSs G δ ω rest out := fun X hX => PSs.imp (h X hX) fun D σ H ⟨S, H0, δ', ω', o', ⟨e1, e2, e3⟩, hS, r, q⟩ => by
  subst e1 e2 e3
  refine ⟨S, H0, _, _, _, ⟨rfl, rfl, rfl⟩, hS, ?_, q⟩
  obtain ⟨as, h1, h2, h3, h4, h5, h6⟩ := r.ex
  have hka : k < as.length := by rw [h1]; exact (List.getElem?_eq_some_iff.mp hk).1
  obtain ⟨q1, q2⟩ := h6 k i cc as[k] hk (List.getElem?_eq_getElem hka)
  have hn : as[k] ∉ as.eraseIdx k ++ S := fun z => by
    rcases List.mem_append.mp z with z | z
    · obtain ⟨j, hj, e⟩ := List.mem_iff_getElem.mp z
      have e2 : (as.eraseIdx k)[j]? = some as[k] := by rw [List.getElem?_eq_getElem hj, e]
      rw [List.getElem?_eraseIdx] at e2
      by_cases q : j < k
      · rw [if_pos q] at e2
        obtain ⟨h7, h8⟩ := List.getElem?_eq_some_iff.mp e2
        have := (List.getElem_inj h2).mp h8
        omega
      · rw [if_neg q] at e2
        obtain ⟨h7, h8⟩ := List.getElem?_eq_some_iff.mp e2
        have := (List.getElem_inj h2).mp h8
        omega
    · cases q : H0 as[k] with
      | none => exact hS _ z q
      | some u =>
        have := h4 _ _ q
        rw [hide_in (List.getElem_mem hka)] at this
        cases this
  have sub : ∀ a, a ∈ as.eraseIdx k → a ∈ as := fun a ha => List.mem_of_mem_eraseIdx ha
  have sub2 : ∀ a, a ∈ as.eraseIdx k ++ S → a ∈ as ++ S := fun a ha => (List.mem_append.mp ha).elim (fun z => List.mem_append_left _ (sub a z)) fun z => List.mem_append_right _ z
  obtain ⟨bs, b1, b2, b3, b4, b5, b6⟩ := (r.forget k).ex
  have m := hide_le sub2 H
  have r0 : SRel G.m.K S H0 δ' (ω'.eraseIdx k) σ H := r.forget k
  refine ⟨as.eraseIdx k, ?_, h2.sublist (List.eraseIdx_sublist _ _), fun a ha => h3 a (sub2 a ha), h4.trans (hide_le sub H), ?_, fun j i c a e1 e2 => ?_⟩
  · rw [List.length_eraseIdx, List.length_eraseIdx, h1]
  · have rr : Rel G.m.K (as.eraseIdx k ++ S) δ' σ H := ⟨h5.len, fun i d e => let ⟨v, z1, z2⟩ := h5.val i d e; ⟨v, z1, z2.mono m⟩⟩
    refine rr.look q1 (q2.rp m fun o ho => ?_)
    rw [hide_out hn]
    exact ho
  · rw [List.getElem?_eraseIdx] at e1 e2
    by_cases q : j < k
    · rw [if_pos q] at e1 e2
      obtain ⟨z1, z2⟩ := h6 j i c a e1 e2
      exact ⟨z1, z2.mono m fun _ e => e⟩
    · rw [if_neg q] at e1 e2
      obtain ⟨z1, z2⟩ := h6 (j + 1) i c a e1 e2
      exact ⟨z1, z2.mono m fun _ e => e⟩
end
end DL

set_option Elab.async false
set_option linter.all false
set_option maxRecDepth 100000
namespace DL
open PySem PySem.Spec L2
set_option autoImplicit false

/-! ### targets -/
inductive TSpec where
  | one (i : Nat)
  | two (i j : Nat)
def TSpec.ix : TSpec → List Nat
  | .one i => [i]
  | .two i j => [i, j]
def bindT : TSpec → PyData → DEnv → Option DEnv
  | .one i, d, δ => some (δ.set i (some d))
  | .two i j, .tuple [d, e], δ => some ((δ.set i (some d)).set j (some e))
  | _, _, _ => none
/-- a value that stands for data; of a tuple nothing more than its items need be known -/
def Rw (K : PySem.W.Frag) (H : Hp) (v : V) (d : PyData) : Prop := Rp K H v d ∨ ∃ a xs ds, v = .ref a ∧ d = .tuple ds ∧ H a = some (.tup xs) ∧ RpAll K H xs ds
def TSpec.rep (K : PySem.W.Frag) (H : Hp) (v : V) (d : PyData) : TSpec → Prop
  | .one _ => Rp K H v d
  | .two _ _ => Rw K H v d
theorem TSpec.rep_of {K : PySem.W.Frag} {H : Hp} {v : V} {d : PyData} (h : Rp K H v d) : ∀ ts : TSpec, ts.rep K H v d
  | .one _ => h
  | .two _ _ => .inl h
def tDG (K : PySem.W.Frag) (ts : TSpec) : TG := fun v σ H Q => ∃ S δ d δ2, bindT ts d δ = some δ2 ∧ SOk S H ∧ Rel K S δ σ H ∧ ts.rep K (hide S H) v d ∧ ∀ σ', Rel K S δ2 σ' H → (∀ i, i ∉ ts.ix → σ'[i]? = σ[i]?) → σ'.length = σ.length → Q σ' H
def DG (G : Ct) (tg : Expr) (ts : TSpec) : Prop := ∀ X, G.Is X → PG X tg (tDG G.m.K ts)
theorem PG.imp {X : Cx} {tg : Expr} {t t' : TG} (h : PG X tg t) (w : ∀ v σ H Q, t' v σ H Q → t v σ H Q) : PG X tg t' := ⟨fun pins s σ H v u Q I r q => h.run pins s σ H v u Q I r (w _ _ _ _ q)⟩
section
variable {G : Ct} {δ δ1 : DEnv} {ω ω1 : Own} {st : Stmt} {rest body thn els : List Stmt} {out : Out} {a b c e tg iter : Expr} {es : List Expr} {x y z d : PyData} {ds items : List PyData} {pos p p2 p3 : Pos} {ts : TSpec}
theorem pg_n {X : Cx} (hX : G.Is X) {i : Nat} {n : PySem.Str} (hN : G.N[i]? = some n) (hl : locB G n = true) : PG X (.Name n p) (gName i) :=
  pg_name hX.nd (by rw [hX.N]; exact hN) (by rw [hX.sc]; exact loc_of hl) (loc_fn hX hl)
theorem dg_one (i : Nat) {n : PySem.Str} (hN : G.N[i]? = some n) (hl : locB G n = true) : DG G (.Name n p) (.one i) := fun X hX =>
  PG.imp (pg_n hX hN hl) fun v σ H Q ⟨S, δ, d, δ2, e, ok, R, rv, q⟩ => by
    simp only [bindT, Option.some.injEq] at e
    subst e
    refine q _ (R.set rv) (fun j hj => ?_) (by rw [List.length_set])
    rw [List.getElem?_set_ne (fun z => hj (by simp [TSpec.ix, z]))]
theorem dg_two (i j : Nat) {n n' : PySem.Str} {k : Nat} (hN : G.N[i]? = some n) (hl : locB G n = true) (hN' : G.N[j]? = some n') (hl' : locB G n' = true)
    (h1 : ∀ env : Env, (assignEach [.Name n p, .Name n' p2] env).map (·.2) = assign (.Name n p) env :: (assignEach [.Name n' p2] env).map (·.2) := by intro _; rfl)
    (h2 : ∀ env : Env, (assignEach [.Name n' p2] env).map (·.2) = assign (.Name n' p2) env :: (assignEach [] env).map (·.2) := by intro _; rfl)
    (hn : ∀ env : Env, (assignEach [.Name n p, .Name n' p2] env).length = 2 := by intro _; rfl) (hst : ∀ env : Env, (assignEach [.Name n p, .Name n' p2] env).findIdx? (·.1) = none := by intro _; rfl) : DG G (.Tuple [.Name n p, .Name n' p2] k p3) (.two i j) := fun X hX =>
  PG.imp (pg_tup hX.calm (pgs_cons (pg_n hX hN hl) (pgs_cons (pg_n hX hN' hl') pgs_nil (h2 _)) (h1 _)) (hn _) (hst _)) fun v σ H Q ⟨S, δ, d, δ2, e, ok, R, rv, q⟩ => by
    have fin : ∀ (a : Addr) (xs : List V) (ds : List PyData), v = .ref a → d = .tuple ds → SqT X.K H a xs → RpAll G.m.K (hide S H) xs ds → gTup X.K 2 (gCons (gName i) (gCons (gName j) gNil)) v σ H Q := by
      intro a xs ds ev ed hT ra
      subst ev ed
      cases ra with
      | nil => cases e
      | cons r1 t =>
        cases t with
        | nil => cases e
        | cons r2 t =>
          cases t with
          | cons r3 t => cases e
          | nil =>
            cases e
            refine ⟨a, _, rfl, hT, rfl, _, _, rfl, _, _, rfl, rfl, q _ ((R.set r1).set r2) (fun m hm => ?_) (by rw [List.length_set, List.length_set])⟩
            have hm' : m ≠ i ∧ m ≠ j := by simpa [TSpec.ix] using hm
            rw [List.getElem?_set_ne (fun z => hm'.2 z.symm), List.getElem?_set_ne (fun z => hm'.1 z.symm)]
    rcases rv with rv | ⟨a, xs, ds, ev, ed, ht, ra⟩
    · cases d with
      | tuple ds =>
        cases rv with
        | tup e1 k1 z1 a1 => exact fin _ _ _ rfl rfl (SqT.frz (hide_some e1).2) a1
      | _ => cases e
    · exact fin a xs ds ev ed (SqT.of (hide_some ht).2) ra

/-! ### x = e; a, b = e -/
theorem ds_set (i : Nat) {n : PySem.Str} (hN : G.N[i]? = some n) (hl : locB G n = true) (h : DV G δ e d) (hi : ∀ q ∈ ω, q.1 ≠ i := by simp) (hs : ∀ env : Env, swapsWith e (some (.Name n p)) pos.line env = pure false := by intro _; rfl) :
    DS G δ ω (.Assign [.Name n p] e pos) (.next (δ.set i (some d)) ω) := fun X hX =>
  PS.imp (ps_set hX.nd (by rw [hX.N]; exact hN) (by rw [hX.sc]; exact loc_of hl) (h X hX) (hs _) (loc_fn hX hl)) fun D σ H ⟨S, H0, δ', ω', o', ⟨e1, e2, e3⟩, hS, r, q⟩ => by
    subst e1 e2 e3
    obtain ⟨as, B⟩ := r.bs hS
    exact ⟨_, _, _, ⟨rfl, rfl⟩, B.ok, B.rel, fun v H' s rv => q _ _ (B.store H' i v d s rv hi)⟩
/-- .. read off the own names, what comes of it is no list -/
theorem ds_seti (i : Nat) {n : PySem.Str} (hN : G.N[i]? = some n) (hl : locB G n = true) (h : DV G (ov δ ω) e d) (hd : imm d = true) (hi : ∀ q ∈ ω, q.1 ≠ i := by simp) (hs : ∀ env : Env, swapsWith e (some (.Name n p)) pos.line env = pure false := by intro _; rfl) :
    DS G δ ω (.Assign [.Name n p] e pos) (.next (δ.set i (some d)) ω) := fun X hX =>
  PS.imp (ps_set hX.nd (by rw [hX.N]; exact hN) (by rw [hX.sc]; exact loc_of hl) (h X hX) (hs _) (loc_fn hX hl)) fun D σ H ⟨S, H0, δ', ω', o', ⟨e1, e2, e3⟩, hS, r, q⟩ => by
    subst e1 e2 e3
    obtain ⟨as, B⟩ := r.bs hS
    exact ⟨_, _, _, ⟨rfl, rfl⟩, B.okS, B.relS, fun v H' s rv => q _ _ (B.store H' i v d s (B.imm H' v d s hd rv) hi)⟩
/-- a new list of one's own -/
theorem ds_own (i : Nat) {n : PySem.Str} (hN : G.N[i]? = some n) (hl : locB G n = true) (h : DN G δ e ds) (hi : ∀ q ∈ ω, q.1 ≠ i := by simp) (hlen : i < δ.length := by simp) (hs : ∀ env : Env, swapsWith e (some (.Name n p)) pos.line env = pure false := by intro _; rfl) :
    DS G δ ω (.Assign [.Name n p] e pos) (.next (δ.set i none) ((i, .lst ds) :: ω)) := fun X hX =>
  PS.imp (ps_set hX.nd (by rw [hX.N]; exact hN) (by rw [hX.sc]; exact loc_of hl) (h X hX) (hs _) (loc_fn hX hl)) fun D σ H ⟨S, H0, δ', ω', o', ⟨e1, e2, e3⟩, hS, r, q⟩ => by
    subst e1 e2 e3
    obtain ⟨as, B⟩ := r.bs hS
    refine ⟨_, _, _, ⟨rfl, rfl⟩, B.ok, B.rel, fun xs t H' s ht hz ra => q _ _ (B.own H' i t (.lst ds) (.lst xs) s ht ⟨xs, upd_same, hz, ra⟩ hi hlen)⟩
theorem ds_two (i j : Nat) {δ2 : DEnv} (hg : DG G tg (.two i j)) (h : DV G δ e d) (hb : bindT (.two i j) d δ = some δ2) (hi : ∀ q ∈ ω, q.1 ≠ i ∧ q.1 ≠ j := by simp)
    (hs : ∀ env : Env, swapsWithSole [tg] e pos.line env = pure false := by intro _; rfl) (hw : ∀ env : Env, swappedStores [tg] e env = pure none := by intro _; rfl) (h1 : ∀ env : Env, (assignEach [tg] env).map (·.2) = [assign tg env] := by intro _; rfl) :
    DS G δ ω (.Assign [tg] e pos) (.next δ2 ω) := fun X hX =>
  PS.imp (ps_asg (h X hX) (hg X hX) (hs _) (hw _) (h1 _)) fun D σ H ⟨S, H0, δ', ω', o', ⟨e1, e2, e3⟩, hS, r, q⟩ => by
    subst e1 e2 e3
    obtain ⟨as, g1, g2, g3, g4, g5, g6⟩ := r.ex
    refine ⟨_, _, _, ⟨rfl, rfl⟩, g3, g5, fun v H' s rv => ⟨_, _, d, δ2, hb, g3.mono s, g5.mono s, .inl rv, fun σ' R' keep hl => q _ _ ⟨as, g1, g2, g3.mono s, g4.trans (hide_mono s), R', fun k m c a f1 f2 => ?_⟩⟩⟩
    obtain ⟨q1, q2⟩ := g6 k m c a f1 f2
    have := hi _ (List.mem_of_getElem? f1)
    exact ⟨by rw [keep m (by simp [TSpec.ix]; exact this)]; exact q1, q2.mono (hide_mono s) (s _)⟩

/-! ### x.append(e), x.extend(e), x[k] = e -/
theorem pe_n {X : Cx} (hX : G.Is X) {i : Nat} {n : PySem.Str} (hN : G.N[i]? = some n) (hl : locB G n = true) : PE X (.Name n p) (tVar i) := by
  have hx := hX.nodbg n (List.mem_of_getElem? hN)
  have hv : Vis X.env.scope n := by
    rw [hX.sc]
    rcases loc_of hl with q | q
    · exact .inl q
    · exact .inr (.inl q)
  exact pe_var (by rw [hX.N]; exact hN) hv hx.1 hx.2
theorem ds_append (i k : Nat) {n : PySem.Str} {ap cp : Pos} (hN : G.N[i]? = some n) (hl : locB G n = true) (hk : ω[k]? = some (i, .lst ds)) (h : DV G δ e d) (hz : ds.length < 16777216)
    (hs : ∀ env : Env, swapsWith (.Call (.Attribute (.Name n p) "append" ap) [e] [] cp) none pos.line env = pure false := by intro _; rfl)
    (hbase : ∀ env : Env, attributeBase (.Name n p) "append" env (eval (.Name n p) env) = eval (.Name n p) env := by intro _; rfl)
    (hfew : ∀ env : Env, ((backTo cp (starEach [e] env)).all (fun x => !x.1) && (backToKw cp (keywordEach [] env)).all (fun x => x.1.isSome) && decide ([e].length + ([] : List Keyword).length + (if ([] : List Keyword).isEmpty then 0 else 1) < 30)) = true := by intro _; rfl)
    (hline : (ap.endLine == cp.line) = true := by rfl) (hs2 : ∀ env : Env, starEach [e] env = (false, eval e env) :: starEach [] env := by intro _; rfl) :
    DS G δ ω (.Expr (.Call (.Attribute (.Name n p) "append" ap) [e] [] cp) pos) (.next δ (ω.set k (i, .lst (ds ++ [d])))) := fun X hX =>
  PS.imp (ps_expr (pe_bm PySem.F.plainAttrs_list PySem.F.slot_list_append PySem.F.type_list_append mt_append (pe_n hX hN hl) (pa_cons (h X hX) pa_nil (hs2 _)) (hbase _) (hfew _) hline (hs2 _) rfl) (hs _)) fun D σ H ⟨S, H0, δ', ω', o', ⟨e1, e2, e3⟩, hS, r, q⟩ => by
    subst e1 e2 e3
    obtain ⟨as, B⟩ := r.bs hS
    obtain ⟨a, ha, q1, ⟨xs, q2, q3, q4⟩, fin⟩ := B.at_ k i _ hk
    refine ⟨.ref a, q1, .inl ⟨rfl, xs, SqL.of q2⟩, _, _, _, ⟨rfl, rfl⟩, B.ok, B.rel, fun v H' s rv => ⟨a, xs, v, rfl, rfl, s _ _ q2, ?_, q _ _ (fin H' _ _ s ⟨xs ++ [v], upd_same, ?_, (q4.mono (hide_mono s)).app (.one rv)⟩)⟩⟩
    · rw [q4.len, sizeLine_eq]; exact hz
    · rw [List.length_append, List.length_singleton, q4.len, sizeLine_eq]; omega
theorem ds_appendi (i k : Nat) {n : PySem.Str} {ap cp : Pos} (hN : G.N[i]? = some n) (hl : locB G n = true) (hk : ω[k]? = some (i, .lst ds)) (h : DV G (ov δ ω) e d) (hd : imm d = true) (hz : ds.length < 16777216)
    (hs : ∀ env : Env, swapsWith (.Call (.Attribute (.Name n p) "append" ap) [e] [] cp) none pos.line env = pure false := by intro _; rfl)
    (hbase : ∀ env : Env, attributeBase (.Name n p) "append" env (eval (.Name n p) env) = eval (.Name n p) env := by intro _; rfl)
    (hfew : ∀ env : Env, ((backTo cp (starEach [e] env)).all (fun x => !x.1) && (backToKw cp (keywordEach [] env)).all (fun x => x.1.isSome) && decide ([e].length + ([] : List Keyword).length + (if ([] : List Keyword).isEmpty then 0 else 1) < 30)) = true := by intro _; rfl)
    (hline : (ap.endLine == cp.line) = true := by rfl) (hs2 : ∀ env : Env, starEach [e] env = (false, eval e env) :: starEach [] env := by intro _; rfl) :
    DS G δ ω (.Expr (.Call (.Attribute (.Name n p) "append" ap) [e] [] cp) pos) (.next δ (ω.set k (i, .lst (ds ++ [d])))) := fun X hX =>
  PS.imp (ps_expr (pe_bm PySem.F.plainAttrs_list PySem.F.slot_list_append PySem.F.type_list_append mt_append (pe_n hX hN hl) (pa_cons (h X hX) pa_nil (hs2 _)) (hbase _) (hfew _) hline (hs2 _) rfl) (hs _)) fun D σ H ⟨S, H0, δ', ω', o', ⟨e1, e2, e3⟩, hS, r, q⟩ => by
    subst e1 e2 e3
    obtain ⟨as, B⟩ := r.bs hS
    obtain ⟨a, ha, q1, ⟨xs, q2, q3, q4⟩, fin⟩ := B.at_ k i _ hk
    refine ⟨.ref a, q1, .inl ⟨rfl, xs, SqL.of q2⟩, _, _, _, ⟨rfl, rfl⟩, B.okS, B.relS, fun v H' s rv => ⟨a, xs, v, rfl, rfl, s _ _ q2, ?_, q _ _ (fin H' _ _ s ⟨xs ++ [v], upd_same, ?_, (q4.mono (hide_mono s)).app (.one (B.imm H' v d s hd rv))⟩)⟩⟩
    · rw [q4.len, sizeLine_eq]; exact hz
    · rw [List.length_append, List.length_singleton, q4.len, sizeLine_eq]; omega
theorem ds_extend (i k : Nat) {n : PySem.Str} {ap cp : Pos} {es2 : List PyData} (hN : G.N[i]? = some n) (hl : locB G n = true) (hk : ω[k]? = some (i, .lst ds)) (h : DV G δ e (.list es2)) (hz : ds.length + es2.length ≤ 16777216)
    (hs : ∀ env : Env, swapsWith (.Call (.Attribute (.Name n p) "extend" ap) [e] [] cp) none pos.line env = pure false := by intro _; rfl)
    (hbase : ∀ env : Env, attributeBase (.Name n p) "extend" env (eval (.Name n p) env) = eval (.Name n p) env := by intro _; rfl)
    (hfew : ∀ env : Env, ((backTo cp (starEach [e] env)).all (fun x => !x.1) && (backToKw cp (keywordEach [] env)).all (fun x => x.1.isSome) && decide ([e].length + ([] : List Keyword).length + (if ([] : List Keyword).isEmpty then 0 else 1) < 30)) = true := by intro _; rfl)
    (hline : (ap.endLine == cp.line) = true := by rfl) (hs2 : ∀ env : Env, starEach [e] env = (false, eval e env) :: starEach [] env := by intro _; rfl) :
    DS G δ ω (.Expr (.Call (.Attribute (.Name n p) "extend" ap) [e] [] cp) pos) (.next δ (ω.set k (i, .lst (ds ++ es2)))) := fun X hX =>
  PS.imp (ps_expr (pe_bm PySem.F.plainAttrs_list PySem.F.slot_list_extend PySem.F.type_list_extend mt_extend (pe_n hX hN hl) (pa_cons (h X hX) pa_nil (hs2 _)) (hbase _) (hfew _) hline (hs2 _) rfl) (hs _)) fun D σ H ⟨S, H0, δ', ω', o', ⟨e1, e2, e3⟩, hS, r, q⟩ => by
    subst e1 e2 e3
    obtain ⟨as, B⟩ := r.bs hS
    obtain ⟨a, ha, q1, ⟨xs, q2, q3, q4⟩, fin⟩ := B.at_ k i _ hk
    refine ⟨.ref a, q1, .inl ⟨rfl, xs, SqL.of q2⟩, _, _, _, ⟨rfl, rfl⟩, B.ok, B.rel, fun v H' s rv => ?_⟩
    cases rv with
    | lst g1 g2 g3 =>
      rename_i a2 ys
      have hz' : xs.length + ys.length ≤ sizeLine := by rw [q4.len, g3.len, sizeLine_eq]; exact hz
      exact ⟨a, a2, xs, ys, rfl, rfl, s _ _ q2, (hide_some g1).2, hz', q _ _ (fin H' _ _ s ⟨xs ++ ys, upd_same, by rw [List.length_append]; exact hz', (q4.mono (hide_mono s)).app g3⟩)⟩

/-! ### if -/
theorem ds_if {k : Bool} (hc : DT G (ov δ ω) c k) (ht : k = true → DSs G δ ω thn out) (he : k = false → DSs G δ ω els out) : DS G δ ω (.If c thn els pos) out := fun X hX => by
  cases k with
  | true =>
    refine PS.imp (ps_if (hc X hX) (ht rfl X hX) (pss_never (sts := els))) fun D σ H ⟨S, H0, δ', ω', o', ⟨e1, e2, e3⟩, hS, r, q⟩ => ?_
    subst e1 e2 e3
    obtain ⟨as, B⟩ := r.bs hS
    exact ⟨_, _, _, ⟨rfl, rfl⟩, B.okS, B.relS, fun H' s => iteT ⟨S, H0, _, _, _, ⟨rfl, rfl, rfl⟩, hS, r.mono s, q⟩⟩
  | false =>
    refine PS.imp (ps_if (hc X hX) (pss_never (sts := thn)) (he rfl X hX)) fun D σ H ⟨S, H0, δ', ω', o', ⟨e1, e2, e3⟩, hS, r, q⟩ => ?_
    subst e1 e2 e3
    obtain ⟨as, B⟩ := r.bs hS
    exact ⟨_, _, _, ⟨rfl, rfl⟩, B.okS, B.relS, fun H' s => iteF ⟨S, H0, _, _, _, ⟨rfl, rfl, rfl⟩, hS, r.mono s, q⟩⟩
/-- if c: .. return ..; what stands behind it -/
theorem dss_if {k : Bool} (hc : DT G (ov δ ω) c k) (ht : k = true → ∃ d, out = .ret d ∧ DSs G δ ω thn (.ret d)) (he : k = false → DSs G δ ω rest out) : DSs G δ ω (.If c thn [] pos :: rest) out := by
  cases k with
  | true =>
    obtain ⟨d, e, h⟩ := ht rfl
    subst e
    exact dss_end (ds_if hc (fun _ => h) fun z => nomatch z)
  | false => exact dss_cons (ds_if hc (fun z => nomatch z) fun _ => dss_nil) (he rfl)
end
end DL

set_option Elab.async false
set_option linter.all false
set_option maxRecDepth 100000
namespace DL
open PySem PySem.Spec L2
set_option autoImplicit false

/-! ### enumerate(tuple), zip(list, tuple) -/
def IteT (K : PySem.W.Frag) (a : Addr) : It :=
  ⟨fun i H => ∃ (xs : List V) (x : V), SqT K H a xs ∧ xs[i]? = some x, fun i H v H' => ∃ T x, v = .ref T ∧ H T = none ∧ H' = upd H T (.tup [.int (i : Nat), x]) ∧ ∀ xs, SqT K H a xs → xs[i]? = some x, fun i H => ∃ xs : List V, SqT K H a xs ∧ xs.length = i⟩
theorem turn_enumT {P : Program} {w : World} {K : PySem.W.Frag} {elts : List Expr} {kk : Nat} {tpos : Pos} (a e it : Addr) (hei : e ≠ it) (hae : a ≠ e) (hai : a ≠ it) :
    Turn P w K (.Tuple elts kk tpos) (IteT K a) [e, it] e (fun i h => (∃ old, IsEnum h e it ((0 : Int) + (i : Int)) old) ∧ h.IsTupleIter it a i) where
  mem := by simp
  obj := fun i h st b hb => by
    obtain ⟨⟨old, he⟩, hit⟩ := st
    obtain ⟨o, ho, hc, hd⟩ := hit
    rcases List.mem_cons.mp hb with z | z
    · rw [z]; exact ⟨_, he, fun v q => nomatch q⟩
    · rw [List.mem_singleton] at z
      exact ⟨o, by rw [z]; exact ho, fun v q => by rw [hd] at q; cases q⟩
  keep := fun i h h' st k => ⟨let ⟨old, he⟩ := st.1; ⟨old, k e (by simp) _ he⟩, st.2.at fun o q => k it (by simp) o q⟩
  item := by
    intro X hP hw hK hc i pins s σ H E I hf st hg
    subst hP hw hK
    obtain ⟨he, hit⟩ := st
    obtain ⟨xs, x, hq, hx⟩ := hg
    obtain ⟨its, rv, p, hz⟩ := I.tuple hq
    obtain ⟨u, hu, ru⟩ := rv.get hx
    have hh : X.A.in1.handled = none := I.ok.hd hc
    have hi : i < its.toArray.size := by rw [List.size_toArray]; exact (List.getElem?_eq_some_iff.mp hu).1
    have hlt : ∀ b ∈ [e, it], b < s.heap.objs.size := fun b hb => by
      rcases List.mem_cons.mp hb with z | z
      · rw [z]; obtain ⟨_, q⟩ := he; exact Heap.lt_size q
      · rw [List.mem_singleton] at z; rw [z]; obtain ⟨_, q, _⟩ := hit; exact Heap.lt_size q
    refine (GoesN.enumFrom (elts := elts) (x1 := kk) (pos := tpos) 0 (Draws.tuple (prog := X.prog) (w := X.w) hh it a hai its.toArray) e hei (by simp [hei, hae.symm]) (by simp)).goes i s _ E hi ⟨he, hit, p⟩ fun v h' tk hY st' hk htk => ?_
    obtain ⟨T, t, y, ev, hT, hy, hIs⟩ := hY
    subst ev
    have ey : y = u := by
      rw [List.getElem?_toArray] at hy
      exact Option.some.inj (hy.symm.trans hu)
    subst ey
    have new : ObjOk X.prog X.w (upd H T (.tup [.int (i : Nat), x])) h' T (.tup [.int (i : Nat), x]) :=
      ⟨by show 2 ≤ sizeLine; decide, [.int (0 + (i : Int)) t, y], .cons ⟨t, by rw [Int.zero_add]⟩ (.cons ru .nil), hIs⟩
    have I1 : Inv X pins σ (upd H T (.tup [.int (i : Nat), x])) { s with heap := h', toks := tk } := I.turnedNew (ch := [e, it]) hk hf hT new
    refine ⟨.ref T, _, I1, rfl, ⟨T, x, rfl, I.hok.fresh hT, rfl, fun ys hy => by rw [I.tuple_inj hy hq]; exact hx⟩, ⟨st'.1, st'.2.1⟩, fun b hb => ?_⟩
    rw [upd_ne (Nat.ne_of_lt (Nat.lt_of_lt_of_le (hlt b hb) hT))]
    exact (hf b hb).1
  done := by
    intro X hP hw hK hc i pins s σ H E I hf st hg
    subst hP hw hK
    obtain ⟨he, hit⟩ := st
    obtain ⟨xs, hq, hx⟩ := hg
    obtain ⟨its, rv, p, hz⟩ := I.tuple hq
    have hh : X.A.in1.handled = none := I.ok.hd hc
    have en : i = its.toArray.size := by rw [List.size_toArray, ← rv.length]; exact hx.symm
    subst en
    refine (GoesN.enumFrom (elts := elts) (x1 := kk) (pos := tpos) 0 (Draws.tuple (prog := X.prog) (w := X.w) hh it a hai its.toArray) e hei (by simp [hei, hae.symm]) (by simp)).stops s _ E ⟨he, hit, p⟩ fun h' tk hk htk => ?_
    exact I.turnedL (ch := [e, it]) hk hf
  self := fun A i s Q E st h => let ⟨⟨_, he⟩, _⟩ := st; wpAny_pyIter_enum he h
set_option maxHeartbeats 1000000 in
theorem meets_enum1 {v : Value} {o : Obj} {H : Heap → Prop} (B : Begins v o H) :
    Meets (Builtin.«enumerate.__new__» ⟨[.type "enumerate", v], []⟩) (fun _ R s => H s.heap ∧
      R (.ok (.ret (.ref (s.heap.push o).objs.size))) { s with heap := (s.heap.push o).push { cls := .type "enumerate", data := .fields #[.none, .bool false, .ref s.heap.objs.size, rawInt 0, .none, .none] } }) :=
  .of_wp fun prog w A R s hh => by
    obtain ⟨hp, g, d, tk, os⟩ := s
    obtain ⟨h1, h⟩ := hh
    have hs1 := sub_enumerate
    have go : ∀ {A' : Around} {E : Value → Shared → Prop} {Q : Value → Shared → Prop}, Q (.ref hp.objs.size) ⟨hp.push o, g, d, tk, os⟩ → wpAny (model prog w) A' (pyIter v) Q E ⟨hp, g, d, tk, os⟩ :=
      fun q => B.iter prog w _ _ ⟨hp, g, d, tk, os⟩ _ h1 q
    wp_walk using go
    refine wpAny_stack_any fun st => wpAny_pure ?_
    split
    · rename_i c _ _ _ _ _
      cases (c == Value.type "enumerate")
      · wp_walk using go
        exact ⟨_, rfl, h⟩
      · wp_walk using go
        exact ⟨_, rfl, h⟩
    · wp_walk using go
      exact ⟨_, rfl, h⟩
theorem enum_begins1 {prog : Program} {w : World} {A : Around} {E : Value → Shared → Prop} {s : Shared} {v : Value} {o : Obj} {H : Heap → Prop} {Q : Value → Shared → Prop} (B : Begins v o H) (h1 : H s.heap)
    (h : ∀ h', IsEnum h' (s.heap.objs.size + 1) s.heap.objs.size 0 .none → h'.get? s.heap.objs.size = some o → h'.objs.size = s.heap.objs.size + 2 →
      (∀ b o, s.heap.get? b = some o → h'.get? b = some o) → Q (.ref (s.heap.objs.size + 1)) { s with heap := h' }) :
    wpAny (model prog w) A (call (.type "enumerate") [v]) Q E s := by
  refine callType_new F.called_enumerate (by decide) (F.typeCall_enumerate_1 _) (F.newCall_enumerate_1 _) (fun obj => F.args_object_init_2 obj _) F.entry_enumerate_new (meets_enum1 B) ⟨h1, ?_⟩
  have hz : (s.heap.push o).objs.size = s.heap.objs.size + 1 := Heap.size_push ..
  show _ ∧ _
  rw [hz]
  have he : IsEnum ((s.heap.push o).push { cls := .type "enumerate", data := .fields #[.none, .bool false, .ref s.heap.objs.size, rawInt 0, .none, .none] }) (s.heap.objs.size + 1) s.heap.objs.size 0 .none := by
    have e := Heap.get?_push_size (s.heap.push o) (o := { cls := .type "enumerate", data := .fields #[.none, .bool false, .ref s.heap.objs.size, rawInt 0, .none, .none] }) rfl
    rw [hz] at e
    exact e
  exact ⟨⟨_, he, rfl⟩, h _ he (Heap.get?_push_of_some _ (Heap.get?_push_size _ B.free)) (by rw [Heap.size_push, hz]) fun b o x => Heap.get?_push_of_some _ (Heap.get?_push_of_some _ x)⟩
def iEnumT (K : PySem.W.Frag) (ta : TA) : TI := fun σ H R => ta σ H fun vs H1 => ∃ a xs, vs = [.ref a] ∧ SqT K H1 a xs ∧ R (IteT K a) H1
theorem pi_enumT {X : Cx} {e : Expr} {ta : TA} {p pos tpos : Pos} {elts : List Expr} {kk : Nat} (hg : Gl X "enumerate") (hm : X.mg "enumerate" = none) (ha : PA X [e] ta) (hs : starEach [e] X.env = [(false, eval e X.env)]) :
    PI X (.Tuple elts kk tpos) (.Call (.Name "enumerate" p) [e] [] pos) (iEnumT X.K ta) := by
  refine ⟨fun pins s σ H R I h => ?_⟩
  refine PyProof.Rows.Call_ (ld_blt I hg hm PyProof.Rows.boot_enumerate (PyProof.Rows.callWith_type1 (thn (ha.run pos pins s σ H _ I h) fun us s1 ⟨vs, H1, I1, r1, q1⟩ => ?_) hs rfl))
  obtain ⟨a, xs, ex, hq, q⟩ := q1
  subst ex
  obtain rfl := Vals.ref1 r1
  obtain ⟨its, rv, p', hz⟩ := I1.tuple hq
  have la : a < s1.heap.objs.size := p'.lt
  refine enum_begins1 (begins_tuple a its.toArray) p' fun h' he hit hsz hk => wpAny_pyIter_enum he ?_
  have I2 : Inv X pins σ H1 { s1 with heap := h' } := I1.kept (t' := s1.toks) hk
  refine ⟨s1.heap.objs.size + 1, [s1.heap.objs.size + 1, s1.heap.objs.size], _, _, H1, rfl, I2, turn_enumT a (s1.heap.objs.size + 1) s1.heap.objs.size (Nat.succ_ne_self _) (Nat.ne_of_lt (Nat.lt_succ_of_lt la)) (Nat.ne_of_lt la), ⟨⟨.none, he⟩, ⟨_, hit, rfl, rfl⟩⟩, fun b hb => ?_, q⟩
  have hle : s1.heap.objs.size ≤ b := by
    rcases List.mem_cons.mp hb with z | z
    · rw [z]; exact Nat.le_add_right _ _
    · rw [List.mem_singleton] at z; rw [z]; exact Nat.le_refl _
  exact I1.fpOk hle (I1.hok.fresh hle)
end DL

set_option Elab.async false
set_option linter.all false
set_option maxRecDepth 100000
namespace DL
open PySem PySem.Spec L2
set_option autoImplicit false

/-! ### what is walked -/
def ItOk (K : PySem.W.Frag) (F : Hp) (J : It) (items : List PyData) : Prop := ∀ (S2 : List Addr) (H2 : Hp), Same F (hide S2 H2) → SOk S2 H2 →
  (∀ (i : Nat) (d : PyData), items[i]? = some d → J.go i H2 ∧ ∀ x H3, J.yld i H2 x H3 → Same H2 H3 ∧ Rw K (hide S2 H3) x d) ∧ J.stop items.length H2
def tDI (K : PySem.W.Frag) (R : DEnv → List PyData → Prop) : TI := fun σ H Q => ∃ S δ items, R δ items ∧ SOk S H ∧ Rel K S δ σ H ∧ ∀ J H', Same H H' → ItOk K (hide S H') J items → Q J H'
def DI (G : Ct) (δ : DEnv) (tg iter : Expr) (items : List PyData) : Prop := ∀ X, G.Is X → PI X tg iter (tDI G.m.K fun δ' d' => δ' = δ ∧ d' = items)
/-- where the items may be bound to one name -/
def ItOk1 (K : PySem.W.Frag) (F : Hp) (J : It) (items : List PyData) : Prop := ∀ (S2 : List Addr) (H2 : Hp), Same F (hide S2 H2) → SOk S2 H2 →
  (∀ (i : Nat) (d : PyData), items[i]? = some d → J.go i H2 ∧ ∀ x H3, J.yld i H2 x H3 → Same H2 H3 ∧ Rp K (hide S2 H3) x d) ∧ J.stop items.length H2
def tDI1 (K : PySem.W.Frag) (R : DEnv → List PyData → Prop) : TI := fun σ H Q => ∃ S δ items, R δ items ∧ SOk S H ∧ Rel K S δ σ H ∧ ∀ J H', Same H H' → ItOk1 K (hide S H') J items → Q J H'
def DI1 (G : Ct) (δ : DEnv) (tg iter : Expr) (items : List PyData) : Prop := ∀ X, G.Is X → PI X tg iter (tDI1 G.m.K fun δ' d' => δ' = δ ∧ d' = items)
theorem ItOk1.weak {K : PySem.W.Frag} {F : Hp} {J : It} {items : List PyData} (h : ItOk1 K F J items) : ItOk K F J items := fun S2 H2 s ok =>
  let ⟨h1, h2⟩ := h S2 H2 s ok
  ⟨fun i d e => let ⟨g, y⟩ := h1 i d e; ⟨g, fun x H3 q => let ⟨a, b⟩ := y x H3 q; ⟨a, .inl b⟩⟩, h2⟩
theorem PI.imp {X : Cx} {tg iter : Expr} {t t' : TI} (h : PI X tg iter t) (w : ∀ σ H Q, t' σ H Q → t σ H Q) : PI X tg iter t' := ⟨fun pins s σ H R I q => h.run pins s σ H R I (w _ _ _ q)⟩
section
variable {G : Ct} {δ δ1 : DEnv} {ω ω1 : Own} {st : Stmt} {rest body thn els : List Stmt} {out : Out} {a b c e tg iter : Expr} {es : List Expr} {x y z d : PyData} {ds items : List PyData} {pos p p2 p3 : Pos} {ts : TSpec}
theorem DI1.weak (h : DI1 G δ tg iter items) : DI G δ tg iter items := fun X hX => PI.imp (h X hX) fun σ H Q ⟨S, δ', d', r, ok, R, q⟩ => ⟨S, δ', d', r, ok, R, fun J H' s i => q J H' s i.weak⟩
theorem DI1.conv (h : DI1 G δ tg iter items) {i2 : List PyData} (q : items = i2) : DI1 G δ tg iter i2 := q ▸ h
theorem DI.conv (h : DI G δ tg iter items) {i2 : List PyData} (q : items = i2) : DI G δ tg iter i2 := q ▸ h
theorem seq_itok {K : PySem.W.Frag} {S : List Addr} {H : Hp} {v : V} (r : Rp K (hide S H) v y) (h : Seq y ds) : (∃ a, v = .ref a ∧ (∃ xs, SqL K H a xs) ∧ ItOk1 K (hide S H) (Itl K a) ds ∧ ∃ z, y = .list z) ∨ (∃ a, v = .ref a ∧ (∃ xs, SqT K H a xs) ∧ ItOk1 K (hide S H) (Itt K a) ds ∧ ∃ z, y = .tuple z) := by
  cases h with
  | lst =>
    left
    cases r with
    | lst e1 z1 a1 =>
      rename_i a xs
      refine ⟨a, rfl, ⟨xs, SqL.of (hide_some e1).2⟩, fun S2 H2 s ok => ⟨fun i d e => ?_, xs, SqL.of (hide_some (s _ _ e1)).2, by rw [a1.len]; exact Nat.le_refl _⟩, _, rfl⟩
      obtain ⟨v, hv, rv⟩ := a1.get e
      refine ⟨⟨xs, v, SqL.of (hide_some (s _ _ e1)).2, hv⟩, fun x H3 y => ?_⟩
      obtain ⟨e3, hx⟩ := y
      subst e3
      have := hx xs (SqL.of (hide_some (s _ _ e1)).2)
      rw [hv] at this
      cases this
      exact ⟨Same.refl _, rv.mono s⟩
  | tup =>
    right
    cases r with
    | tup e1 k1 z1 a1 =>
      rename_i a xs o
      refine ⟨a, rfl, ⟨xs, SqT.frz (hide_some e1).2⟩, fun S2 H2 s ok => ⟨fun i d e => ?_, xs, SqT.frz (hide_some (s _ _ e1)).2, by rw [a1.len]; exact Nat.le_refl _⟩, _, rfl⟩
      obtain ⟨v, hv, rv⟩ := a1.get e
      refine ⟨⟨xs, v, SqT.frz (hide_some (s _ _ e1)).2, hv⟩, fun x H3 y => ?_⟩
      obtain ⟨e3, hx⟩ := y
      subst e3
      have := hx xs (SqT.frz (hide_some (s _ _ e1)).2)
      rw [hv] at this
      cases this
      exact ⟨Same.refl _, rv.mono s⟩
theorem di_seq (ha : DV G δ iter y) (h : Seq y ds) : DI1 G δ tg iter ds := fun X hX => by
  cases h with
  | lst =>
    refine PI.imp (pi_list (ha X hX)) fun σ H Q ⟨S, δ', d', ⟨e1, e2⟩, ok, R, q⟩ => ?_
    subst e1 e2
    refine ⟨S, _, _, ⟨rfl, rfl⟩, ok, R, fun v H1 s1 r1 => ?_⟩
    rcases seq_itok r1 (Seq.lst d') with ⟨a, h1, h2, h3, _⟩ | ⟨_, _, _, _, z, hz⟩
    · rw [hX.K]
      exact ⟨a, h1, h2, q _ H1 s1 h3⟩
    · cases hz
  | tup =>
    refine PI.imp (pi_tup (ha X hX)) fun σ H Q ⟨S, δ', d', ⟨e1, e2⟩, ok, R, q⟩ => ?_
    subst e1 e2
    refine ⟨S, _, _, ⟨rfl, rfl⟩, ok, R, fun v H1 s1 r1 => ?_⟩
    rcases seq_itok r1 (Seq.tup d') with ⟨_, _, _, _, z, hz⟩ | ⟨a, h1, h2, h3, _⟩
    · cases hz
    · rw [hX.K]
      exact ⟨a, h1, h2, q _ H1 s1 h3⟩
theorem itr_ok {K : PySem.W.Frag} {F : Hp} {lo : Int} {n : Nat} : ItOk1 K F (Itr lo n) (((List.range n).map fun i => lo + ((i : Nat) : Int)).map .int) := fun S2 H2 s ok => by
  refine ⟨fun i d e => ?_, by show n ≤ _; simp⟩
  rw [List.map_map, List.getElem?_map] at e
  have hi : i < n := by
    cases q : (List.range n)[i]? with
    | none => rw [q] at e; cases e
    | some j => have := (List.getElem?_eq_some_iff.mp q).1; simpa using this
  rw [List.getElem?_range hi] at e
  cases e
  refine ⟨hi, fun x H3 y => ?_⟩
  obtain ⟨e1, e2⟩ := y
  subst e1 e2
  exact ⟨Same.refl _, .int _⟩
theorem di_range {n : Int} (B : Blt G.m) (hg : globB G.sc "range" = true) (ha : DV G δ a (.int n)) (h0 : -(2 ^ 62) ≤ n) (h1 : n < 2 ^ 62) (hs : ∀ env : Env, starEach [a] env = (false, eval a env) :: starEach [] env := by intro _; rfl)
    (hs2 : ∀ env : Env, starEach [a] env = [(false, eval a env)] := by intro _; rfl) : DI1 G δ tg (.Call (.Name "range" p) [a] [] pos) ((upto n).map .int) := fun X hX =>
  PI.imp (pi_range1 (gl_of hX hg) (by rw [hX.mg]; exact B.range) (pa_cons (ha X hX) pa_nil (hs _)) (hs2 _)) fun σ H Q ⟨S, δ', d', ⟨e1, e2⟩, ok, R, q⟩ => by
    subst e1 e2
    refine ⟨S, _, _, ⟨rfl, rfl⟩, ok, R, fun v H1 s1 r1 => ?_⟩
    cases r1
    refine ⟨n, rfl, h0, h1, q _ H1 s1 ?_⟩
    have e : upto n = (List.range n.toNat).map fun i => (0 : Int) + ((i : Nat) : Int) := by
      unfold upto
      congr 1
      funext i
      rw [Int.zero_add]
    rw [e]
    exact itr_ok
theorem di_range2 {m n : Int} (B : Blt G.m) (hg : globB G.sc "range" = true) (ha : DV G δ a (.int m)) (hb : DV G δ b (.int n)) (h0 : -(2 ^ 62) ≤ m ∧ m < 2 ^ 62 ∧ -(2 ^ 62) ≤ n ∧ n < 2 ^ 62)
    (hs : ∀ env : Env, starEach [a, b] env = (false, eval a env) :: starEach [b] env := by intro _; rfl) (hs3 : ∀ env : Env, starEach [b] env = (false, eval b env) :: starEach [] env := by intro _; rfl)
    (hs2 : ∀ env : Env, starEach [a, b] env = [(false, eval a env), (false, eval b env)] := by intro _; rfl) (hs4 : ∀ env : Env, starEach [b] env = [(false, eval b env)] := by intro _; rfl) :
    DI1 G δ tg (.Call (.Name "range" p) [a, b] [] pos) (((List.range (n - m).toNat).map fun i => m + ((i : Nat) : Int)).map .int) := fun X hX =>
  PI.imp (pi_range2 (gl_of hX hg) (by rw [hX.mg]; exact B.range) (pa_cons (ha X hX) (pa_cons (hb X hX) pa_nil (hs3 _)) (hs _)) (hs2 _) (hs4 _)) fun σ H Q ⟨S, δ', d', ⟨e1, e2⟩, ok, R, q⟩ => by
    subst e1 e2
    refine ⟨S, _, _, ⟨rfl, rfl⟩, ok, R, fun v H1 s1 r1 => ⟨S, _, _, ⟨rfl, rfl⟩, ok.mono s1, R.mono s1, fun w H2 s2 r2 => ?_⟩⟩
    cases r1
    cases r2
    exact ⟨m, n, rfl, h0, q _ H2 (s1.trans s2) itr_ok⟩
/-- the items with their numbers -/
def numbered (ds : List PyData) : List PyData := ds.zipIdx.map fun q => .tuple [.int (q.2 : Nat), q.1]
theorem numbered_get {i : Nat} {d : PyData} (h : (numbered ds)[i]? = some d) : ∃ d', ds[i]? = some d' ∧ d = .tuple [.int (i : Nat), d'] := by
  unfold numbered at h
  rw [List.getElem?_map, List.getElem?_zipIdx] at h
  cases e : ds[i]? with
  | none => rw [e] at h; cases h
  | some d' =>
    rw [e] at h
    simp only [Option.map_some, Option.some.injEq, Nat.zero_add] at h
    exact ⟨d', rfl, h.symm⟩
theorem numbered_len : (numbered ds).length = ds.length := by unfold numbered; simp
theorem pair_rw {K : PySem.W.Frag} {S2 : List Addr} {H2 : Hp} {T : Addr} {v : V} {i : Nat} (ok : SOk S2 H2) (hT : H2 T = none) (rv : Rp K (hide S2 H2) v d) : Rw K (hide S2 (upd H2 T (.tup [.int (i : Nat), v]))) (.ref T) (.tuple [.int (i : Nat), d]) :=
  .inr ⟨T, _, _, rfl, rfl, hide_upd_at ok hT, .cons (.int _) (.cons (rv.mono (hide_mono (same_upd hT _))) .nil)⟩
theorem di_enum {elts : List Expr} {kk : Nat} {tpos : Pos} (B : Blt G.m) (hg : globB G.sc "enumerate" = true) (ha : DV G δ a y) (h : Seq y ds) (hs : ∀ env : Env, starEach [a] env = (false, eval a env) :: starEach [] env := by intro _; rfl)
    (hs2 : ∀ env : Env, starEach [a] env = [(false, eval a env)] := by intro _; rfl) : DI G δ (.Tuple elts kk tpos) (.Call (.Name "enumerate" p) [a] [] pos) (numbered ds) := fun X hX => by
  cases h with
  | lst =>
    refine PI.imp (pi_enum (gl_of hX hg) (by rw [hX.mg]; exact B.enumerate) (pa_cons (ha X hX) pa_nil (hs _)) (hs2 _)) fun σ H Q ⟨S, δ', d', ⟨e1, e2⟩, ok, R, q⟩ => ?_
    subst e1 e2
    refine ⟨S, _, _, ⟨rfl, rfl⟩, ok, R, fun v H1 s1 r1 => ?_⟩
    cases r1 with
    | lst g1 g2 g3 =>
      rename_i a xs
      rw [hX.K]
      refine ⟨a, xs, rfl, SqL.of (hide_some g1).2, q _ H1 s1 fun S2 H2 s ok => ⟨fun i d e => ?_, xs, SqL.of (hide_some (s _ _ g1)).2, by rw [numbered_len, g3.len]; exact Nat.le_refl _⟩⟩
      obtain ⟨d', h1, h2⟩ := numbered_get e
      subst h2
      obtain ⟨v, hv, rv⟩ := g3.get h1
      refine ⟨⟨xs, v, SqL.of (hide_some (s _ _ g1)).2, hv⟩, fun x H3 y => ?_⟩
      obtain ⟨T, u, e1, hT, e3, hu⟩ := y
      subst e1 e3
      have := hu xs (SqL.of (hide_some (s _ _ g1)).2)
      rw [hv] at this
      cases this
      exact ⟨same_upd hT _, pair_rw ok hT (rv.mono s)⟩
  | tup =>
    refine PI.imp (pi_enumT (gl_of hX hg) (by rw [hX.mg]; exact B.enumerate) (pa_cons (ha X hX) pa_nil (hs _)) (hs2 _)) fun σ H Q ⟨S, δ', d', ⟨e1, e2⟩, ok, R, q⟩ => ?_
    subst e1 e2
    refine ⟨S, _, _, ⟨rfl, rfl⟩, ok, R, fun v H1 s1 r1 => ?_⟩
    cases r1 with
    | tup g1 k1 g2 g3 =>
      rename_i a xs o
      rw [hX.K]
      refine ⟨a, xs, rfl, SqT.frz (hide_some g1).2, q _ H1 s1 fun S2 H2 s ok => ⟨fun i d e => ?_, xs, SqT.frz (hide_some (s _ _ g1)).2, by rw [numbered_len, g3.len]⟩⟩
      obtain ⟨d', h1, h2⟩ := numbered_get e
      subst h2
      obtain ⟨v, hv, rv⟩ := g3.get h1
      refine ⟨⟨xs, v, SqT.frz (hide_some (s _ _ g1)).2, hv⟩, fun x H3 y => ?_⟩
      obtain ⟨T, u, e1, hT, e3, hu⟩ := y
      subst e1 e3
      have := hu xs (SqT.frz (hide_some (s _ _ g1)).2)
      rw [hv] at this
      cases this
      exact ⟨same_upd hT _, pair_rw ok hT (rv.mono s)⟩

/-! ### for -/
def ofree (ts : TSpec) (ω : Own) : Prop := ∀ q ∈ ω, q.1 ∉ ts.ix
def DFor (G : Ct) (ts : TSpec) (body : List Stmt) : List PyData → DEnv → Own → Out → Prop
  | [], δ, ω, out => out = .next δ ω
  | d :: ds, δ, ω, out => ∃ δb, bindT ts d δ = some δb ∧ ofree ts ω ∧ ((∃ δ1 ω1, DSs G δb ω body (.next δ1 ω1) ∧ DFor G ts body ds δ1 ω1 out) ∨ ∃ r, out = .ret r ∧ DSs G δb ω body (.ret r))
theorem SRel.rebase {K : PySem.W.Frag} {S : List Addr} {H0 H : Hp} {σ : L2.St} (r : SRel K S H0 δ ω σ H) : ∃ F, Same H0 F ∧ SRel K S F δ ω σ H ∧ (∃ as : List Addr, F = hide as H) := by
  obtain ⟨as, h1, h2, h3, h4, h5, h6⟩ := r.ex
  exact ⟨hide as H, h4, ⟨as, h1, h2, h3, Same.refl _, h5, h6⟩, as, rfl⟩
theorem SRel.unbase {K : PySem.W.Frag} {S : List Addr} {H0 F H : Hp} {σ : L2.St} (r : SRel K S F δ ω σ H) (s : Same H0 F) : SRel K S H0 δ ω σ H := by
  obtain ⟨as, h1, h2, h3, h4, h5, h6⟩ := r.ex
  exact ⟨as, h1, h2, h3, s.trans h4, h5, h6⟩
theorem OutOk.unbase {K : PySem.W.Frag} {S : List Addr} {H0 F : Hp} {D : Ends} (s : Same H0 F) : ∀ {out : Out}, OutOk K S H0 D out → OutOk K S F D out
  | .next _ _, q => fun σ' H' r => q σ' H' (r.unbase s)
  | .ret _, q => fun v H' s' rv => q v H' (s.trans s') rv
theorem ds_for_core {wi : TI} (hg : DG G tg ts) (hpi : ∀ X, G.Is X → PI X tg iter wi) (hbody : DFor G ts body items δ ω out)
    (hwi : ∀ (S : List Addr) (σ : L2.St) (H : Hp) (Q : It → Hp → Prop), SOk S H → Rel G.m.K S δ σ H →
      (∀ J H', Same H H' → (∀ (S2 : List Addr) (H2 : Hp), Same (hide S H') (hide S2 H2) → SOk S2 H2 →
        (∀ (i : Nat) (d : PyData), items[i]? = some d → J.go i H2 ∧ ∀ x H3, J.yld i H2 x H3 → Same H2 H3 ∧ ts.rep G.m.K (hide S2 H3) x d) ∧ J.stop items.length H2) → Q J H') → wi σ H Q)
    (hs : ∀ (env : Env) (x : Value), foldedSetIterable iter env x = pure x) : DS G δ ω (.For tg iter body [] pos) out := fun X hX => by
  have hb : PSs X body (tDS G.m.K fun δ' ω' o' => DSs G δ' ω' body o') := PSs.rel fun δ' ω' o' h => h X hX
  refine PS.imp (ps_for (hX.xe ▸ PassesOwn.never) hX.calm (hpi X hX) (hg X hX) hb (hs _)) fun D σ H ⟨S, H0, δ', ω', o', ⟨e1, e2, e3⟩, hS, r, q⟩ => ?_
  subst e1 e2 e3
  obtain ⟨as, h1, h2, h3, h4, h5, h6⟩ := r.ex
  refine hwi _ σ H _ h3 h5 fun J H1 s1 itok => ?_
  have hF : Same H0 (hide as H1) := h4.trans (hide_mono s1)
  have hSF : SOk S (hide as H1) := hS.mono hF
  have r1 : SRel G.m.K S (hide as H1) δ' ω' σ H1 := ⟨as, h1, h2, h3.mono s1, Same.refl _, h5.mono s1, fun k i c a e1 e2 => let ⟨q1, q2⟩ := h6 k i c a e1 e2; ⟨q1, q2.mono (hide_mono s1) (s1 _)⟩⟩
  generalize hFe : hide as H1 = F at hF hSF r1
  refine ⟨fun i m σ' H' => m = items.length - i ∧ i ≤ items.length ∧ ∃ δi ωi, DFor G ts body (items.drop i) δi ωi o' ∧ SRel G.m.K S F δi ωi σ' H', ⟨_, rfl, Nat.zero_le _, δ', ω', hbody, r1⟩, ?_⟩
  rintro i m σ' H' ⟨em, hi, δi, ωi, hrun, r'⟩
  obtain ⟨as', b1, b2, b3, b4, b5, b6⟩ := r'.ex
  have hsm : Same (hide (as ++ S) H1) (hide (as' ++ S) H') := by
    rw [hide_app, hide_app, hFe]
    exact hide_mono b4
  obtain ⟨hgo, hstop⟩ := itok _ _ hsm b3
  by_cases hlt : i < items.length
  · rw [List.drop_eq_getElem_cons hlt] at hrun
    obtain ⟨δb, hbd, hfree, halt⟩ := hrun
    obtain ⟨go, yld⟩ := hgo i items[i] (List.getElem?_eq_getElem hlt)
    have body : ∀ (N : L2.St → Hp → Prop) (o2 : Out), DSs G δb ωi body o2 → OutOk G.m.K S F { D with nx := N, ct := N, bk := D.nx } o2 → ∀ x H3, J.yld i H' x H3 → tDG G.m.K ts x σ' H3 fun σ2 H2 => tDS G.m.K (fun δ' ω' o' => DSs G δ' ω' body o') { D with nx := N, ct := N, bk := D.nx } σ2 H2 := by
      intro N o2 hd ho x H3 y
      obtain ⟨s3, rx⟩ := yld x H3 y
      refine ⟨_, δi, items[i], δb, hbd, b3.mono s3, b5.mono s3, rx, fun σ2 R2 keep hl => ⟨S, F, δb, ωi, o2, hd, hSF, ⟨as', b1, b2, b3.mono s3, b4.trans (hide_mono s3), R2, fun k j c a e1 e2 => ?_⟩, ho⟩⟩
      obtain ⟨z1, z2⟩ := b6 k j c a e1 e2
      exact ⟨by rw [keep j (hfree _ (List.mem_of_getElem? e1))]; exact z1, z2.mono (hide_mono s3) (s3 _)⟩
    rcases halt with ⟨δ1, ω1, hd, hrest⟩ | ⟨rr, eo, hd⟩
    · refine .inr ⟨go, fun σ2 H2 => ∃ δ1 ω1, DFor G ts _ (items.drop (i + 1)) δ1 ω1 o' ∧ SRel G.m.K S F δ1 ω1 σ2 H2, fun σ2 H2 ⟨d1, w1, g1, g2⟩ => ⟨items.length - (i + 1), by omega, rfl, hlt, d1, w1, g1, g2⟩, ?_⟩
      exact body _ _ hd fun σ2 H2 r2 => ⟨δ1, ω1, hrest, r2⟩
    · subst eo
      refine .inr ⟨go, fun _ _ => False, fun _ _ z => z.elim, ?_⟩
      exact body _ _ hd fun v H2 s2 rv => q v H2 (hF.trans s2) rv
  · have ei : i = items.length := by omega
    subst ei
    rw [List.drop_length] at hrun
    have eo : o' = .next δi ωi := hrun
    subst eo
    exact .inl ⟨hstop, q σ' H' (r'.unbase hF)⟩
/-- for x in .., x one name -/
theorem ds_for1 (i : Nat) (hg : DG G tg (.one i)) (hi : DI1 G δ tg iter items) (hbody : DFor G (.one i) body items δ ω out) (hs : ∀ (env : Env) (x : Value), foldedSetIterable iter env x = pure x := by intro _ _; rfl) : DS G δ ω (.For tg iter body [] pos) out :=
  ds_for_core hg hi hbody (fun S σ H Q ok R h => ⟨S, δ, items, ⟨rfl, rfl⟩, ok, R, fun J H' s it => h J H' s it⟩) hs
/-- for x, y in .. -/
theorem ds_for2 (i j : Nat) (hg : DG G tg (.two i j)) (hi : DI G δ tg iter items) (hbody : DFor G (.two i j) body items δ ω out) (hs : ∀ (env : Env) (x : Value), foldedSetIterable iter env x = pure x := by intro _ _; rfl) : DS G δ ω (.For tg iter body [] pos) out :=
  ds_for_core hg hi hbody (fun S σ H Q ok R h => ⟨S, δ, items, ⟨rfl, rfl⟩, ok, R, fun J H' s it => h J H' s it⟩) hs
/-! ### while -/
def DWh (G : Ct) (c : Expr) (body : List Stmt) : Nat → DEnv → Own → Out → Prop
  | 0, δ, ω, out => DT G (ov δ ω) c false ∧ out = .next δ ω
  | n + 1, δ, ω, out => DT G (ov δ ω) c true ∧ ∃ δ1 ω1, DSs G δ ω body (.next δ1 ω1) ∧ DWh G c body n δ1 ω1 out
theorem ds_while (n : Nat) (h : DWh G c body n δ ω out) : DS G δ ω (.While c body [] pos) out := fun X hX => by
  have hb : PSs X body (tDS G.m.K fun δ' ω' o' => DSs G δ' ω' body o') := PSs.rel fun δ' ω' o' h => h X hX
  have hc : PT X c (tDT G.m.K fun δ' b' => DT G δ' c b') := PT.rel fun δ' b' h => h X hX
  refine PS.imp (ps_while (hX.xe ▸ PassesOwn.never) hc hb) fun D σ H ⟨S, H0, δ', ω', o', ⟨e1, e2, e3⟩, hS, r, q⟩ => ?_
  subst e1 e2 e3
  refine ⟨fun m σ' H' => ∃ δi ωi, DWh G c body m δi ωi o' ∧ SRel G.m.K S H0 δi ωi σ' H', ⟨n, δ', ω', h, r⟩, ?_⟩
  rintro m σ' H' ⟨δi, ωi, hrun, r'⟩
  obtain ⟨g1, g2, g3⟩ := r'.over hS
  cases m with
  | zero =>
    obtain ⟨ht, eo⟩ := hrun
    subst eo
    exact ⟨S, _, false, ht, g1, g3, fun H2 s2 => iteF (q σ' H2 (r'.mono s2))⟩
  | succ m =>
    obtain ⟨ht, δ1, ω1, hd, hrest⟩ := hrun
    refine ⟨S, _, true, ht, g1, g3, fun H2 s2 => iteT ⟨fun σ2 H3 => ∃ δi ωi, DWh G c body m δi ωi o' ∧ SRel G.m.K S H0 δi ωi σ2 H3, fun σ2 H3 z => ⟨m, Nat.lt_succ_self m, z⟩, ?_⟩⟩
    exact ⟨S, H0, δi, ωi, _, hd, hS, r'.mono s2, fun σ3 H3 r3 => ⟨δ1, ω1, hrest, r3⟩⟩

/-! ### comprehensions -/
/-- a block's surroundings -/
def Ct.blk (G : Ct) (scope : Scope) : Ct := { G with sc := relS scope G.sc, fnB := fun x => scope.names.lookup x == some .cell }
theorem Ct.Is.blk {X : Cx} (h : G.Is X) {scope : Scope} (s : Shared) (H : Hp) (C : Addr) (cl : List (PySem.Str × Addr)) (fp : List Addr) : (G.blk scope).Is (X.blk s H scope (compEnvC scope cl C X.env) fp) where
  prog := h.prog
  w := h.w
  K := h.K
  mg := h.mg
  base := h.base
  N := h.N
  nd := h.nd
  sc := by
    show relS scope X.env.scope = relS scope G.sc
    rw [h.sc]
  calm := h.calm
  rm := h.rm
  xe := rfl
  fn := fun x => rfl
  nodbg := h.nodbg
/-- the slots at vs forgotten -/
def dwipe (δ : DEnv) : List Nat → DEnv
  | [] => δ
  | v :: vs => (dwipe δ vs).set v none
theorem wipe_at (σ : L2.St) (i : Nat) : ∀ vs : List Nat, i ∉ vs → (wipe σ vs)[i]? = σ[i]?
  | [], _ => rfl
  | v :: vs, h => by
    simp only [List.mem_cons, not_or] at h
    unfold wipe
    rw [List.getElem?_set_ne (fun z => h.1 z.symm)]
    exact wipe_at σ i vs h.2
theorem wipe_in (σ : L2.St) (i : Nat) : ∀ vs : List Nat, i ∈ vs → (wipe σ vs)[i]? = if i < σ.length then some none else none
  | [], h => by simp at h
  | v :: vs, h => by
    unfold wipe
    by_cases e : v = i
    · subst e
      by_cases hl : v < σ.length
      · rw [if_pos hl, List.getElem?_set_self (by rw [wipe_length]; exact hl)]
      · rw [if_neg hl, List.getElem?_eq_none (by rw [List.length_set, wipe_length]; omega)]
    · rw [List.getElem?_set_ne e]
      exact wipe_in σ i vs (by simpa [Ne.symm e] using h)
theorem wipe_same {σ σ' : L2.St} {vs : List Nat} (hl : σ'.length = σ.length) (h : ∀ i, i ∉ vs → σ'[i]? = σ[i]?) : wipe σ' vs = wipe σ vs := by
  apply List.ext_getElem?
  intro i
  by_cases hi : i ∈ vs
  · rw [wipe_in _ _ _ hi, wipe_in _ _ _ hi, hl]
  · rw [wipe_at _ _ _ hi, wipe_at _ _ _ hi, h i hi]
theorem wipe_wipe (σ : L2.St) (vs : List Nat) : wipe (wipe σ vs) vs = wipe σ vs := wipe_same (wipe_length σ vs) fun i hi => wipe_at σ i vs hi
theorem Rel.wiped {K : PySem.W.Frag} {S : List Addr} {σ : L2.St} {H : Hp} (r : Rel K S δ σ H) : ∀ vs : List Nat, Rel K S (dwipe δ vs) (wipe σ vs) H
  | [] => r
  | v :: vs => (r.wiped vs).forget v none
/-- what one turn of a comprehension does with an item: the tests' answer, then the element -/
structure Turn1 (G : Ct) (scope : Scope) (ts : TSpec) (ifs : List Expr) (elt : Expr) (δ : DEnv) (d : PyData) (o : Option PyData) : Prop where
  ex : ∃ δb b, bindT ts d δ = some δb ∧ (∀ X, (G.blk scope).Is X → PTs X ifs (tDT G.m.K fun δ' b' => δ' = δb ∧ b' = b)) ∧ ((b = false ∧ o = none) ∨ (b = true ∧ ∃ r, o = some r ∧ DV (G.blk scope) δb elt r))
inductive Turns (G : Ct) (scope : Scope) (ts : TSpec) (ifs : List Expr) (elt : Expr) (δ : DEnv) : List PyData → List PyData → Prop
  | nil : Turns G scope ts ifs elt δ [] []
  | cons {d : PyData} {ds : List PyData} {o : Option PyData} {rs : List PyData} (h : Turn1 G scope ts ifs elt δ d o) (t : Turns G scope ts ifs elt δ ds rs) : Turns G scope ts ifs elt δ (d :: ds) (o.toList ++ rs)
end
end DL

set_option Elab.async false
set_option linter.all false
set_option maxRecDepth 100000
namespace DL
open PySem PySem.Spec L2
set_option autoImplicit false
section
variable {G : Ct} {δ δ1 : DEnv} {ω ω1 : Own} {out : Out} {a b c e tg iter elt : Expr} {es ifs : List Expr} {x y z d : PyData} {ds items res : List PyData} {pos p p2 p3 spos py : Pos} {ts : TSpec} {scope : Scope} {own : List (PySem.Str × Nat)}
def tOf (G : Ct) (scope : Scope) (ifs : List Expr) : TT := tDT G.m.K fun δ' b' => ∀ X, (G.blk scope).Is X → PTs X ifs (tDT G.m.K fun δ'' b'' => δ'' = δ' ∧ b'' = b')
def eOf (G : Ct) (scope : Scope) (elt : Expr) : TE := tDR G.m.K fun δ' d' => DV (G.blk scope) δ' elt d'
theorem pts_of {X : Cx} (hX : (G.blk scope).Is X) : PTs X ifs (tOf G scope ifs) :=
  ⟨fun pins s σ H Q I ⟨S, δ', b', h, q⟩ => (h X hX).run pins s σ H Q I ⟨S, δ', b', ⟨rfl, rfl⟩, q⟩⟩
theorem pe_of {X : Cx} (hX : (G.blk scope).Is X) : PE X elt (eOf G scope elt) :=
  ⟨fun pins s σ H Q I ⟨S, δ', b', h, q⟩ => (h X hX).run pins s σ H Q I ⟨S, δ', b', ⟨rfl, rfl⟩, q⟩⟩
theorem turns_len : ∀ {ds rs : List PyData}, Turns G scope ts ifs elt δ ds rs → rs.length ≤ ds.length
  | _, _, .nil => Nat.le_refl _
  | _, _, .cons (o := o) h t => by
    have := turns_len t
    rw [List.length_append, List.length_cons]
    cases o <;> simp <;> omega
theorem lc_run {wi : TI} {σ : L2.St} {H : Hp} {S : List Addr} {Q : VK} (vs : List Nat) (hsub : ∀ i ∈ ts.ix, i ∈ vs) (hz : items.length ≤ 16777216) (ht : Turns G scope ts ifs elt (dwipe δ vs) items res)
    (ok : SOk S H) (R : Rel G.m.K S δ σ H) (q : ∀ xs p H', Same H H' → H' p = none → xs.length ≤ sizeLine → RpAll G.m.K (hide S H') xs res → Q (.ref p) (upd H' p (.lst xs)))
    (hwi : ∀ (Q : It → Hp → Prop), (∀ J H', Same H H' → (∀ (S2 : List Addr) (H2 : Hp), Same (hide S H') (hide S2 H2) → SOk S2 H2 →
        (∀ (i : Nat) (d : PyData), items[i]? = some d → J.go i H2 ∧ ∀ x H3, J.yld i H2 x H3 → Same H2 H3 ∧ ts.rep G.m.K (hide S2 H3) x d) ∧ J.stop items.length H2) → Q J H') → wi σ H Q) :
    tLc wi (tDG G.m.K ts) (tOf G scope ifs) (eOf G scope elt) vs σ H Q := by
  refine hwi _ fun J H1 s1 itok D hD => ?_
  have hd0 : ∀ {H' : Hp}, hide (D :: S) H' = hide S (hide [D] H') := fun {H'} => hide_app [D] S H'
  refine ⟨fun i m H' => m = items.length - i ∧ i ≤ items.length ∧ Same H1 (hide [D] H') ∧ ∃ acc r1 r2, H' D = some (.lst acc) ∧ acc.length ≤ i ∧ res = r1 ++ r2 ∧ RpAll G.m.K (hide (D :: S) H') acc r1 ∧ Turns G scope ts ifs elt (dwipe δ vs) (items.drop i) r2,
    ⟨_, rfl, Nat.zero_le _, ?_, [], [], res, upd_same, Nat.le_refl _, rfl, .nil, ht⟩, ?_⟩
  · rw [hide_cons_upd hD]
    intro b o e
    rw [hide_out (by simp)]
    exact e
  rintro i m H' ⟨em, hi, hsm, acc, r1, r2, hacc, hal, hres, hra, hrun⟩
  have okD : SOk (D :: S) H' := fun a ha => by
    rcases List.mem_cons.mp ha with z | z
    · rw [z, hacc]; simp
    · exact (SOk.mono (SOk.mono (ok.mono s1) hsm) (hide_sub _ _)) a z
  have sF : Same (hide S H1) (hide (D :: S) H') := by rw [hd0]; exact hide_mono hsm
  have RD : Rel G.m.K (D :: S) (dwipe δ vs) (wipe σ vs) H' := by
    have := (R.mono s1).wiped vs
    exact ⟨this.len, fun i d e => let ⟨v, z1, z2⟩ := this.val i d e; ⟨v, z1, z2.mono sF⟩⟩
  obtain ⟨hgo, hstop⟩ := itok (D :: S) H' sF okD
  by_cases hlt : i < items.length
  · rw [List.drop_eq_getElem_cons hlt] at hrun
    obtain ⟨go, yld⟩ := hgo i items[i] (List.getElem?_eq_getElem hlt)
    cases hrun with
    | @cons _ _ o rs h t =>
      obtain ⟨δb, b, hb, hpt, halt⟩ := h.ex
      refine .inr ⟨go, _, fun H2 z => ⟨items.length - (i + 1), by omega, rfl, hlt, z⟩, fun x H2 yy => ?_⟩
      obtain ⟨s2, rx⟩ := yld x H2 yy
      refine ⟨D :: S, dwipe δ vs, items[i], δb, hb, okD.mono s2, RD.mono s2, rx, fun σ2 R2 keep hl => ⟨?_, D :: S, δb, b, hpt, okD.mono s2, R2, fun H3 s3 => ?_⟩⟩
      · exact (wipe_same hl fun j hj => keep j fun z => hj (hsub j z)).trans (wipe_wipe σ vs)
      · rcases halt with ⟨eb, eo⟩ | ⟨eb, r, eo, hv⟩
        · subst eb eo
          refine iteF ⟨fun b' o' e' => ?_, acc, r1, rs, s3 _ _ (s2 _ _ hacc), by omega, hres, hra.mono (hide_mono (s2.trans s3)), t⟩
          exact hide_mono (s2.trans s3) _ _ (hsm _ _ e')
        · subst eb eo
          refine iteT ⟨D :: S, δb, r, hv, (okD.mono s2).mono s3, R2.mono s3, fun y H4 s4 ry => ⟨acc, s4 _ _ (s3 _ _ (s2 _ _ hacc)), by rw [sizeLine_eq]; omega, fun b' o' e' => ?_, acc ++ [y], r1 ++ [r], rs, upd_same, by rw [List.length_append, List.length_singleton]; omega, ?_, ?_, t⟩⟩
          · rw [hide_upd (by simp)]
            exact hide_mono ((s2.trans s3).trans s4) _ _ (hsm _ _ e')
          · rw [hres]; simp
          · rw [hide_upd (by simp)]
            exact (hra.mono (hide_mono ((s2.trans s3).trans s4))).app (.one ry)
  · have ei : i = items.length := by omega
    subst ei
    rw [List.drop_length] at hrun
    cases hrun
    rw [List.append_nil] at hres
    subst hres
    refine .inl ⟨hstop, ?_⟩
    have hz2 : acc.length ≤ sizeLine := by rw [sizeLine_eq]; omega
    have := q acc D (hide [D] H') (s1.trans hsm) (hide_in (by simp)) hz2 (by rw [← hd0]; exact hra)
    have e : upd (hide [D] H') D (.lst acc) = H' := by
      funext b
      by_cases eb : b = D
      · rw [eb, upd_same, hacc]
      · rw [upd_ne eb, hide_out (by simp [eb])]
    rw [e] at this
    exact this
/-- [elt for x in .. if ..], one name -/
theorem dn_lc1 (i : Nat) (own : List (PySem.Str × Nat)) (hok : blkC G.N G.sc scope own = true) (hi : DI1 G δ tg iter items) (hg : DG (G.blk scope) tg (.one i)) (ht : Turns G scope (.one i) ifs elt (dwipe δ (own.map (·.2))) items res)
    (hz : items.length ≤ 16777216) (hsub : ∀ j ∈ (TSpec.one i).ix, j ∈ own.map (·.2) := by simp [TSpec.ix]) (hs : ∀ (env : Env) (x : Value), foldedSetIterable iter env x = pure x := by intro _ _; rfl) : DN G δ (.ListComp elt [⟨tg, iter, ifs, 0⟩] scope pos) res := fun X hX =>
  PE.imp (pe_lc hX.calm hX.nd (hi X hX) (by rw [hX.N, hX.sc]; exact blkOk_by hok) (fun s H C cl fp => hg _ (hX.blk s H C cl fp)) (fun s H C cl fp => pts_of (ifs := ifs) (hX.blk s H C cl fp)) (fun s H C cl fp => pe_of (elt := elt) (hX.blk s H C cl fp)) (hs _)) fun σ H Q ⟨S, δ', d', ⟨e1, e2⟩, ok, R, q⟩ => by
    subst e1 e2
    exact lc_run _ hsub hz ht ok R q fun Q2 h => ⟨S, _, items, ⟨rfl, rfl⟩, ok, R, fun J H' s it => h J H' s it⟩
theorem dn_lc2 (i j : Nat) (own : List (PySem.Str × Nat)) (hok : blkC G.N G.sc scope own = true) (hi : DI G δ tg iter items) (hg : DG (G.blk scope) tg (.two i j)) (ht : Turns G scope (.two i j) ifs elt (dwipe δ (own.map (·.2))) items res)
    (hz : items.length ≤ 16777216) (hsub : ∀ k ∈ (TSpec.two i j).ix, k ∈ own.map (·.2) := by simp [TSpec.ix]) (hs : ∀ (env : Env) (x : Value), foldedSetIterable iter env x = pure x := by intro _ _; rfl) : DN G δ (.ListComp elt [⟨tg, iter, ifs, 0⟩] scope pos) res := fun X hX =>
  PE.imp (pe_lc hX.calm hX.nd (hi X hX) (by rw [hX.N, hX.sc]; exact blkOk_by hok) (fun s H C cl fp => hg _ (hX.blk s H C cl fp)) (fun s H C cl fp => pts_of (ifs := ifs) (hX.blk s H C cl fp)) (fun s H C cl fp => pe_of (elt := elt) (hX.blk s H C cl fp)) (hs _)) fun σ H Q ⟨S, δ', d', ⟨e1, e2⟩, ok, R, q⟩ => by
    subst e1 e2
    exact lc_run _ hsub hz ht ok R q fun Q2 h => ⟨S, _, items, ⟨rfl, rfl⟩, ok, R, fun J H' s it => h J H' s it⟩
/-- y = [elt for x in ..] -/
theorem ds_lc1 (k : Nat) {n : PySem.Str} (i : Nat) (own : List (PySem.Str × Nat)) (hN : G.N[k]? = some n) (hl : G.sc.names.lookup n = some .local) (hkind : G.sc.kind = .function) (hline : (py.line == pos.line) = true) (hany : (scope.names.any fun (m, k) => m == n && (k == .local || k == .cell)) = false)
    (hok : blkC G.N G.sc scope own = true) (hi : DI1 G δ tg iter items) (hg : DG (G.blk scope) tg (.one i)) (ht : Turns G scope (.one i) ifs elt (dwipe δ (own.map (·.2))) items res) (hz : items.length ≤ 16777216) (hfree : ∀ q ∈ ω, q.1 ≠ k := by simp)
    (hsub : ∀ j ∈ (TSpec.one i).ix, j ∈ own.map (·.2) := by simp [TSpec.ix]) (hs : ∀ (env : Env) (x : Value), foldedSetIterable iter env x = pure x := by intro _ _; rfl) : DS G δ ω (.Assign [.Name n py] (.ListComp elt [⟨tg, iter, ifs, 0⟩] scope pos) spos) (.next (δ.set k (some (.list res))) ω) := fun X hX =>
  PS.imp (ps_setLc (i := k) hX.calm hX.nd (by rw [hX.N]; exact hN) (by rw [hX.sc]; exact hl) (sw_true (by rw [hX.sc]; exact hkind) (by rw [hX.sc]; exact hl) hline hany) (hi X hX) (by rw [hX.N, hX.sc]; exact blkOk_by hok) (fun s H C cl fp => hg _ (hX.blk s H C cl fp)) (fun s H C cl fp => pts_of (ifs := ifs) (hX.blk s H C cl fp)) (fun s H C cl fp => pe_of (elt := elt) (hX.blk s H C cl fp)) (hs _)) fun D σ H ⟨S, H0, δ', ω', o', ⟨e1, e2, e3⟩, hS, r, q⟩ => by
    subst e1 e2 e3
    obtain ⟨as, B⟩ := r.bs hS
    refine lc_run _ hsub hz ht B.ok B.rel (fun xs t H' s ht hz ra => ?_) fun Q2 h => ⟨as ++ S, _, items, ⟨rfl, rfl⟩, B.ok, B.rel, fun J H' s it => h J H' s it⟩
    have sm := same_upd ht (.lst xs)
    exact q _ _ (B.store _ k _ _ (s.trans sm) (.lst (hide_upd_at (B.ok.mono s) ht) hz (ra.mono (hide_mono sm))) hfree)
/-! a turn's tests -/
theorem t1_no (hb : ∃ δb, bindT ts d δ = some δb ∧ DV (G.blk scope) δb elt x) : Turn1 G scope ts [] elt δ d (some x) := by
  obtain ⟨δb, h1, h2⟩ := hb
  refine ⟨δb, true, h1, fun X hX => ⟨fun pins s σ H Q I ⟨S, δ', b', ⟨e1, e2⟩, ok, R, q⟩ => ?_⟩, .inr ⟨rfl, x, rfl, h2⟩⟩
  subst e1 e2
  exact pts_nil.run pins s σ H Q I (q H (Same.refl H))
theorem t1_if {k : Bool} {δb : DEnv} (hb : bindT ts d δ = some δb) (hc : DT (G.blk scope) δb c k) (he : k = true → DV (G.blk scope) δb elt x) : Turn1 G scope ts [c] elt δ d (if k then some x else none) := by
  refine ⟨δb, k, hb, fun X hX => pts_one (hc X hX), ?_⟩
  cases k with
  | true => exact .inr ⟨rfl, x, rfl, he rfl⟩
  | false => exact .inl ⟨rfl, rfl⟩
/-- without tests -/
theorem turns_map (f : PyData → PyData) : ∀ (items : List PyData), (∀ d ∈ items, ∃ δb, bindT ts d δ = some δb ∧ DV (G.blk scope) δb elt (f d)) → Turns G scope ts [] elt δ items (items.map f)
  | [], _ => .nil
  | d :: ds, h => by
    have := Turns.cons (t1_no (h d List.mem_cons_self)) (turns_map f ds fun d' hd => h d' (List.mem_cons_of_mem _ hd))
    exact this
theorem turns_filter (f : PyData → PyData) (k : PyData → Bool) : ∀ (items : List PyData), (∀ d ∈ items, ∃ δb, bindT ts d δ = some δb ∧ DT (G.blk scope) δb c (k d) ∧ (k d = true → DV (G.blk scope) δb elt (f d))) → Turns G scope ts [c] elt δ items ((items.filter k).map f)
  | [], _ => .nil
  | d :: ds, h => by
    obtain ⟨δb, h1, h2, h3⟩ := h d List.mem_cons_self
    have := Turns.cons (t1_if h1 h2 h3) (turns_filter f k ds fun d' hd => h d' (List.mem_cons_of_mem _ hd))
    rw [List.filter_cons]
    cases e : k d with
    | true =>
      rw [e] at this
      exact this
    | false =>
      rw [e] at this
      exact this

/-! ### a def -/
theorem fn_core {m : Md} {n : PySem.Str} {st : Stmt} {f : Addr} {fd : FuncData} {N ps : List PySem.Str} {k : Nat} {R : List PyData → PyData → Prop} (F : Fun m.K n n st f fd) (S : FnScope N ps (defScope st))
    (hd : ∀ x ∈ N, (x == ("__debug__" : PySem.Str)) = false ∧ (x == ("__classdict__" : PySem.Str)) = false) (len : ∀ ds d, R ds d → ds.length = ps.length)
    (body : ∀ ds d, R ds d → DSs ⟨m, N, defScope st, k, fun _ => true⟩ (ds.map some ++ List.replicate (N.length - ds.length) none) [] (defBody st) (.ret d)) : FnOk m.P m.w m.K m.mg m.base CX0 (k + 1) f fd ps (spD m.K R) := by
  refine F.ok S (fun vs H Q E ⟨_, ds, d, r, _, ra, _⟩ => by rw [ra.len]; exact len ds d r) fun cdv A outer s H vs Q E hr ⟨T, ds, d, r, ok, ra, q⟩ => ?_
  refine ⟨_, body ds d r _ ⟨rfl, rfl, rfl, rfl, rfl, rfl, S.nd, rfl, rfl, hr, rfl, fun x => rfl, hd⟩, ?_⟩
  refine ⟨T, H, _, _, _, ⟨rfl, rfl, rfl⟩, ok, ⟨[], rfl, List.nodup_nil, ok, ?_, ⟨?_, fun i d' e => ?_⟩, fun k i c a e => by simp at e⟩, fun v H' s rv => q v H' s rv⟩
  · intro b o e
    rw [hide_out (by simp)]
    exact e
  · unfold L2.start
    simp [ra.len]
  · rw [List.nil_append]
    have hi : i < ds.length := by
      by_cases hi : i < ds.length
      · exact hi
      · rw [List.getElem?_append_right (by simpa using hi), List.getElem?_replicate] at e
        split at e <;> cases e
    rw [List.getElem?_append_left (by simpa using hi), List.getElem?_map] at e
    cases e2 : ds[i]? with
    | none => rw [e2] at e; cases e
    | some d2 =>
      rw [e2] at e
      cases e
      obtain ⟨v, hv, rv⟩ := ra.get e2
      refine ⟨v, ?_, rv⟩
      have hiv : i < vs.length := by rw [ra.len]; exact hi
      unfold L2.start
      rw [List.getElem?_append_left (by simpa using hiv), List.getElem?_map, hv]
      rfl
theorem fn_ok {m : Md} {n : PySem.Str} {st : Stmt} {f : Addr} {fd : FuncData} {N ps : List PySem.Str} {k : Nat} {R : List PyData → PyData → Prop} (F : Fun m.K n n st f fd) (hb : Binds m.K fd ps []) (hm : m.mg n = some (.ref f)) (S : FnScope N ps (defScope st))
    (hd : ∀ x ∈ N, (x == ("__debug__" : PySem.Str)) = false ∧ (x == ("__classdict__" : PySem.Str)) = false) (len : ∀ ds d, R ds d → ds.length = ps.length)
    (body : ∀ ds d, R ds d → DSs ⟨m, N, defScope st, k, fun _ => true⟩ (ds.map some ++ List.replicate (N.length - ds.length) none) [] (defBody st) (.ret d)) : Fn m n (k + 1) R :=
  ⟨f, fd, ps, hm, F.kp, hb, fn_core F S hd len body⟩
end
end DL

set_option Elab.async false
set_option linter.all false
set_option maxRecDepth 100000
namespace DL
open PySem PySem.Spec L2
set_option autoImplicit false

/-! ### t.index(k), whole numbers -/
def tTix (to te : TE) : TE := fun σ H Q => to σ H fun x H1 => ∃ (a : Addr) (ob : Obj) (ns : List Int), x = .ref a ∧ H1 a = some (.frz ob (.tup (ns.map V.int))) ∧ ob.dict = none ∧ te σ H1 fun y H2 =>
  ∃ (k : Int) (j : Nat), [y] = [V.int k] ∧ H2 a = some (.frz ob (.tup (ns.map V.int))) ∧ ns[j]? = some k ∧ (∀ m, m < j → ns[m]? ≠ some k) ∧ Q (.int (j : Nat)) H2
theorem flat_ints (ns : List Int) : (ns.map V.int).all flatV = true := by
  rw [List.all_map]
  exact List.all_eq_true.mpr fun _ _ => rfl
theorem call_tix {X : Cx} {pins : List (Addr × Obj)} {σ : L2.St} {H : Hp} {s : Shared} {Q : VK} {a : Addr} {ns : List Int} {k : Int} {t : Tok} {j : Nat} (I : Inv X pins σ H s) (hq : SqT X.K H a (ns.map V.int)) (hy : ns[j]? = some k) (hno : ∀ m, m < j → ns[m]? ≠ some k) (q : Q (.int (j : Nat)) H) :
    wpAny (model X.prog X.w) X.A (call (.builtin "tuple.index") [.ref a, .int k t]) (EP X pins σ Q) X.xe s := by
  obtain ⟨its, r, pl, hz⟩ := I.tuple hq
  obtain ⟨⟨cls, dd, dt, sl⟩, ho, hc, n, hd⟩ := pl
  simp only at hc hd
  subst hc hd
  have hl : its.toArray.size = ns.length := by rw [List.size_toArray, ← r.length, List.length_map]
  have hj : j < its.toArray.size := by rw [hl]; exact (List.getElem?_eq_some_iff.mp hy).1
  have look : ∀ (m : Nat) (hm : m < its.toArray.size), ∃ y t', ns[m]? = some y ∧ its.toArray[m] = Value.int y t' := fun m hm => by
    have hm' : m < ns.length := by rw [← hl]; exact hm
    obtain ⟨w, hw, t', hw'⟩ := r.get (i := m) (x := .int ns[m]) (by simp [hm'])
    refine ⟨ns[m], t', List.getElem?_eq_getElem hm', ?_⟩
    rw [← hw', ← (List.getElem?_eq_some_iff.mp hw).2]
    simp
  have eu : ∀ (y : Int) (t' : Tok), eqU (.int k) (.int y t') = decide (y = k) := fun y t' => by
    by_cases e : y = k
    · rw [decide_eq_true e, e]
      show (k == k) = true
      exact beq_self_eq_true k
    · rw [decide_eq_false e]
      show (y == k) = false
      exact beq_eq_false_iff_ne.mpr e
  refine call_meets PySem.F.slot_tuple_index ⟨_, ho, rfl⟩ PySem.F.entry_tuple_index (PySem.F.args_tuple_index_2 _ _) (TI.tuple_indexAt a its.toArray n dd sl (.int k t) (eqU (.int k)) j hj ?_ fun m hm hmj => ?_)
    ⟨ho, fun w hw => mem_eqAt (x := .int k) ⟨t, rfl⟩ rfl r (flat_ints ns) w (by simpa using hw), ⟨.int (j : Nat), H, I.tok _, ⟨_, rfl⟩, q⟩⟩
  · obtain ⟨y, t', h1, h2⟩ := look j hj
    rw [hy] at h1
    cases h1
    rw [h2, eu]
    exact decide_eq_true rfl
  · obtain ⟨y, t', h1, h2⟩ := look m hm
    rw [h2, eu]
    exact decide_eq_false fun e => hno m hmj (by rw [h1, e])
theorem pe_tix {X : Cx} {o e : Expr} {to te : TE} {apos cpos : Pos} (ho : PE X o to) (he : PE X e te)
    (hbase : attributeBase o "index" X.env (eval o X.env) = eval o X.env)
    (hfew : ((backTo cpos (starEach [e] X.env)).all (fun x => !x.1) && (backToKw cpos (keywordEach [] X.env)).all (fun x => x.1.isSome) && decide ([e].length + ([] : List Keyword).length + (if ([] : List Keyword).isEmpty then 0 else 1) < 30)) = true)
    (hline : (apos.endLine == cpos.line) = true) (hs : starEach [e] X.env = (false, eval e X.env) :: starEach [] X.env) : PE X (.Call (.Attribute o "index" apos) [e] [] cpos) (tTix to te) := by
  refine ⟨fun pins s σ H Q I h => ?_⟩
  refine wpAny_Call_method_late hbase hfew hline rfl (thn (ho.run pins s σ H _ I h) fun v s1 ⟨x, H1, I1, r1, a, ob, ns, ex, hob, hnd, q1⟩ => ?_)
  subst ex
  obtain rfl : v = .ref a := r1
  obtain ⟨hget, _⟩ := (I1.hok a _ hob : ObjOk X.prog X.w H1 s1.heap a (.frz ob (.tup (ns.map V.int))))
  obtain ⟨_, _, pt, _⟩ := I1.tuple (SqT.frz (K := X.K) hob)
  refine ⟨"tuple", "tuple.index", PySem.F.plainAttrs_tuple, PySem.F.slot_tuple_index, PySem.F.type_tuple_index, pt.typeIs, fun b eb => ?_, ?_⟩
  · cases eb
    exact ⟨ob, hget, hnd⟩
  · have hA := (pa_cons he pa_nil hs).run cpos pins s1 σ H1 (fun vs H2 => ∃ (k : Int) (j : Nat), vs = [V.int k] ∧ H2 a = some (.frz ob (.tup (ns.map V.int))) ∧ ns[j]? = some k ∧ (∀ m, m < j → ns[m]? ≠ some k) ∧ Q (.int (j : Nat)) H2) I1 q1
    rw [hs] at hA ⊢
    refine Calls.callWith_builtin (by show (false || (backTo cpos (starEach [] X.env)).any (·.1)) = false; rfl) (Calls.evalArgs_plain ?_)
    refine thn hA fun us s2 ⟨vs, H2, I2, r2, k, j, ev, hob2, hj, hno, q2⟩ => ?_
    subst ev
    obtain ⟨u, rfl, t, rfl⟩ := vals1 r2
    exact call_tix I2 (SqT.frz hob2) hj hno q2
section
variable {G : Ct} {δ : DEnv} {a b c e : Expr} {es rest : List Expr} {x y z d : PyData} {ds : List PyData} {pos p p2 ap cp : Pos}
theorem dv_tix {ns : List Int} {k : Int} {j : Nat} (ha : DV G δ a (.tuple (ns.map .int))) (hb : DV G δ b (.int k)) (hj : ns[j]? = some k) (hno : ∀ m, m < j → ns[m]? ≠ some k)
    (hbase : ∀ env : Env, attributeBase a "index" env (eval a env) = eval a env := by intro _; rfl)
    (hfew : ∀ env : Env, ((backTo cp (starEach [b] env)).all (fun x => !x.1) && (backToKw cp (keywordEach [] env)).all (fun x => x.1.isSome) && decide ([b].length + ([] : List Keyword).length + (if ([] : List Keyword).isEmpty then 0 else 1) < 30)) = true := by intro _; rfl)
    (hline : (ap.endLine == cp.line) = true := by rfl) (hs : ∀ env : Env, starEach [b] env = (false, eval b env) :: starEach [] env := by intro _; rfl) : DV G δ (.Call (.Attribute a "index" ap) [b] [] cp) (.int (j : Nat)) := fun X hX =>
  PE.imp (pe_tix (ha X hX) (hb X hX) (hbase _) (hfew _) hline (hs _)) fun σ H Q ⟨S, δ', d', ⟨e1, e2⟩, ok, R, q⟩ => by
    subst e1 e2
    refine ⟨S, _, _, ⟨rfl, rfl⟩, ok, R, fun v H1 s1 r1 => ?_⟩
    cases r1 with
    | tup f1 f2 f3 f4 =>
      obtain rfl := f4.ints
      refine ⟨_, _, ns, rfl, (hide_some f1).2, f2, S, _, _, ⟨rfl, rfl⟩, ok.mono s1, R.mono s1, fun w H2 s2 r2 => ?_⟩
      cases r2
      exact ⟨k, j, rfl, s2 _ _ (hide_some f1).2, hj, hno, q _ H2 (s1.trans s2) (.int _)⟩
/-! ### sorted of pairs of whole numbers, of texts -/
/-- a pair, as data -/
abbrev pairD (q : Int × Int) : PyData := .tuple [.int q.1, .int q.2]
def lexLe (q r : Int × Int) : Prop := q.1 < r.1 ∨ (q.1 = r.1 ∧ q.2 ≤ r.2)
theorem lexLe_antisymm {q r : Int × Int} (h1 : lexLe q r) (h2 : lexLe r q) : q = r := by
  unfold lexLe at h1 h2
  exact Prod.ext (by omega) (by omega)
theorem Rp.pair {K : PySem.W.Frag} {H : Hp} {v : V} {q : Int × Int} (h : Rp K H v (pairD q)) : ∃ t o, v = .ref t ∧ H t = some (.frz o (.tup [.int q.1, .int q.2])) := by
  cases h with
  | tup e k z r =>
    cases r with
    | cons r1 r2 =>
      cases r2 with
      | cons r2 r3 =>
        cases r3
        cases r1
        cases r2
        exact ⟨_, _, rfl, e⟩
theorem pairs_of {K : PySem.W.Frag} {H : Hp} : ∀ {xs : List V} {ps : List (Int × Int)}, RpAll K H xs (ps.map pairD) → ∃ l : List (V × (Int × Int)), xs = l.map (·.1) ∧ ps = l.map (·.2) ∧ ∀ q ∈ l, Rp K H q.1 (pairD q.2)
  | _, [], .nil => ⟨[], rfl, rfl, fun _ h => absurd h (by simp)⟩
  | x :: xs, p :: ps, .cons h t => by
    obtain ⟨l, e1, e2, h2⟩ := pairs_of t
    exact ⟨(x, p) :: l, by rw [e1]; rfl, by rw [e2]; rfl, fun q hq => (List.mem_cons.mp hq).elim (fun z => by rw [z]; exact h) (h2 q)⟩
theorem perm_map_inv {α β : Type} {f : α → β} : ∀ {ys : List β} {xs : List β}, ys.Perm xs → ∀ l : List α, xs = l.map f → ∃ l' : List α, l'.Perm l ∧ ys = l'.map f := by
  intro ys xs h
  induction h with
  | nil => intro l e; exact ⟨l, List.Perm.refl _, e⟩
  | cons x h ih =>
    intro l e
    cases l with
    | nil => cases e
    | cons b l =>
      rw [List.map_cons] at e
      injection e with e1 e2
      obtain ⟨l', h1, h2⟩ := ih l e2
      exact ⟨b :: l', h1.cons b, by rw [List.map_cons, h2, e1]⟩
  | swap x y l0 =>
    intro l e
    match l, e with
    | [], e => cases e
    | [_], e => simp at e
    | b :: c :: l, e =>
      simp only [List.map_cons, List.cons.injEq] at e
      exact ⟨c :: b :: l, List.Perm.swap b c l, by simp [e.1, e.2.1, e.2.2]⟩
  | trans h1 h2 ih1 ih2 =>
    intro l e
    obtain ⟨l2, p2, e2⟩ := ih2 l e
    obtain ⟨l1, p1, e1⟩ := ih1 l2 e2
    exact ⟨l1, p1.trans p2, e1⟩
theorem code2 (B x y : Int) : TS.code B [x, y] = x * B + y := by
  show x * B ^ 1 + (y * B ^ 0 + 0) = _
  rw [Int.pow_succ, Int.pow_zero, Int.one_mul, Int.mul_one, Int.add_zero]
theorem lex_of_code {B : Int} {q r : Int × Int} (h : TS.code B [q.1, q.2] ≤ TS.code B [r.1, r.2]) (hq : 0 ≤ q.1 ∧ q.1 < B ∧ 0 ≤ q.2 ∧ q.2 < B) (hr : 0 ≤ r.1 ∧ r.1 < B ∧ 0 ≤ r.2 ∧ r.2 < B) : lexLe q r := by
  rw [code2, code2] at h
  unfold lexLe
  rcases Int.lt_trichotomy q.1 r.1 with c | c | c
  · exact .inl c
  · rw [c] at h
    exact .inr ⟨c, by omega⟩
  · exfalso
    have h1 : (r.1 + 1) * B ≤ q.1 * B := Int.mul_le_mul_of_nonneg_right (by omega) (by omega)
    rw [Int.add_mul, Int.one_mul] at h1
    omega
theorem dn_sortedP {ps qs : List (Int × Int)} (bd : Int) (B : Blt G.m) (hg : globB G.sc "sorted" = true) (ha : DV G δ a (.list (ps.map pairD))) (hb : ∀ q ∈ ps, 0 ≤ q.1 ∧ q.1 < bd ∧ 0 ≤ q.2 ∧ q.2 < bd) (h64 : ps.length < 64) (hp : qs.Perm ps) (hs' : qs.Pairwise lexLe)
    (hs : ∀ env : Env, starEach [a] env = (false, eval a env) :: starEach [] env := by intro _; rfl) : DN G δ (.Call (.Name "sorted" p) [a] [] pos) (qs.map pairD) := by
  refine dn_cb (r := rSortU G.m.K 2 bd) (fun X hX => hX.K ▸ cr_sortT (by decide)) hg B.sorted PyProof.Rows.boot_sorted (da_cons ha da_nil hs) (fun S H vs Q ok r q => ?_) (by decide) (by decide) hs
  cases r with
  | cons r1 r2 =>
    cases r2
    cases r1 with
    | lst e1 z1 a1 =>
      obtain ⟨l, ex, ep, hl⟩ := pairs_of a1
      have tupI : ∀ {v : V} {z : Int × Int}, Rp G.m.K (hide S H) v (pairD z) → TupI G.m.K H v [z.1, z.2] := fun h => by
        obtain ⟨t, o, e2, e3⟩ := h.pair
        exact ⟨t, e2, SqT.frz (hide_some e3).2⟩
      refine ⟨_, _, rfl, SqL.of (hide_some e1).2, ?_, fun x hx => ?_, fun ys t h1 h2 h3 => ?_⟩
      · rw [ex, List.length_map]
        rw [ep, List.length_map] at h64
        exact h64
      · rw [ex] at hx
        obtain ⟨z, hz, e2⟩ := List.mem_map.mp hx
        subst e2
        refine ⟨[z.2.1, z.2.2], tupI (hl z hz), rfl, fun m hm => ?_⟩
        have := hb z.2 (by rw [ep]; exact List.mem_map_of_mem hz)
        rcases List.mem_cons.mp hm with e | hm
        · rw [e]; exact ⟨this.1, this.2.1⟩
        · rw [List.mem_singleton] at hm
          rw [hm]; exact ⟨this.2.2.1, this.2.2.2⟩
      · obtain ⟨l', pl, el⟩ := perm_map_inv h1 l ex
        have hl' : ∀ z ∈ l', Rp G.m.K (hide S H) z.1 (pairD z.2) := fun z hz => hl z (pl.mem_iff.mp hz)
        have hb' : ∀ z ∈ l', 0 ≤ z.2.1 ∧ z.2.1 < bd ∧ 0 ≤ z.2.2 ∧ z.2.2 < bd := fun z hz => hb z.2 (by rw [ep]; exact List.mem_map_of_mem (pl.mem_iff.mp hz))
        have srt : (l'.map (·.2)).Pairwise lexLe := by
          rw [List.pairwise_map]
          rw [el, List.pairwise_map] at h2
          refine List.Pairwise.imp_of_mem (fun {u v} hu hv huv => ?_) h2
          exact lex_of_code (huv _ _ (tupI (hl' u hu)) (tupI (hl' v hv))) (hb' u hu) (hb' v hv)
        have eq : l'.map (·.2) = qs := by
          refine List.Perm.eq_of_pairwise (le := lexLe) (fun _ _ _ _ h1 h2 => lexLe_antisymm h1 h2) srt hs' ?_
          exact ((pl.map (·.2)).trans (by rw [ep])).trans hp.symm
        have ra : ∀ m : List (V × (Int × Int)), (∀ z ∈ m, Rp G.m.K (hide S H) z.1 (pairD z.2)) → RpAll G.m.K (hide S H) (m.map (·.1)) ((m.map (·.2)).map pairD) := by
          intro m
          induction m with
          | nil => intro _; exact .nil
          | cons z m ih => intro h; exact .cons (h z List.mem_cons_self) (ih fun w hw => h w (List.mem_cons_of_mem _ hw))
        have := ra l' hl'
        rw [eq, ← el] at this
        exact q ys t h3 (by rw [this.len, List.length_map, hp.length_eq, sizeLine_eq]; omega) this
/-- texts -/
theorem dn_sortedS {ps qs : List PySem.Str} (B : Blt G.m) (hg : globB G.sc "sorted" = true) (ha : DV G δ a (.list (ps.map .str))) (h64 : ps.length < 64) (hu : ∀ ys : List PySem.Str, ys.Perm ps → PyProof.Rows.sortedS ys = true → ys = qs)
    (hs : ∀ env : Env, starEach [a] env = (false, eval a env) :: starEach [] env := by intro _; rfl) : DN G δ (.Call (.Name "sorted" p) [a] [] pos) (qs.map .str) := by
  refine dn_cb (r := rSortedS G.m.K) (fun X hX => hX.K ▸ cr_sortedS) hg B.sorted PyProof.Rows.boot_sorted (da_cons ha da_nil hs) (fun S H vs Q ok r q => ?_) (by decide) (by decide) hs
  cases r with
  | cons r1 r2 =>
    cases r2
    cases r1 with
    | lst e1 z1 a1 =>
      obtain rfl := a1.strs
      refine ⟨_, ps, rfl, SqL.of (hide_some e1).2, h64, fun ys t h1 h2 h3 => ?_⟩
      have e := hu ys h1 h2
      subst e
      refine q _ _ h3 ?_ (RpAll.ofStrs _)
      rw [List.length_map, h1.length_eq, sizeLine_eq]
      omega
end
end DL

set_option Elab.async false
set_option linter.all false
set_option maxRecDepth 100000
namespace DL
open PySem PySem.Spec L2
set_option autoImplicit false
abbrev natD (i : Nat) : PyData := .int (i : Int)
theorem upto_nat (n : Nat) : (upto (n : Int)).map PyData.int = (List.range n).map natD := by
  unfold upto
  rw [List.map_map, Int.toNat_natCast]
  rfl
section
variable {G : Ct} {δ δ1 : DEnv} {ω ω1 : Own} {out : Out} {a b c e tg iter elt : Expr} {es ifs body rest : List Expr} {x y z d : PyData} {ds items res : List PyData} {pos p p2 p3 spos py : Pos} {ts : TSpec} {scope : Scope} {own : List (PySem.Str × Nat)}
/-- range(n) -/
theorem di_rng {n : Nat} (B : Blt G.m) (hg : globB G.sc "range" = true) (ha : DV G δ a (natD n)) (h1 : n < 1000000) (hs : ∀ env : Env, starEach [a] env = (false, eval a env) :: starEach [] env := by intro _; rfl)
    (hs2 : ∀ env : Env, starEach [a] env = [(false, eval a env)] := by intro _; rfl) : DI1 G δ tg (.Call (.Name "range" p) [a] [] pos) ((List.range n).map natD) :=
  (di_range B hg ha (by omega) (by omega) hs hs2).conv (upto_nat n)
/-- range(m, n) -/
theorem di_rng2 {m n : Nat} (B : Blt G.m) (hg : globB G.sc "range" = true) (ha : DV G δ a (natD m)) (hb : DV G δ b (natD n)) (h0 : m < 1000000) (h1 : n < 1000000)
    (hs : ∀ env : Env, starEach [a, b] env = (false, eval a env) :: starEach [b] env := by intro _; rfl) (hs3 : ∀ env : Env, starEach [b] env = (false, eval b env) :: starEach [] env := by intro _; rfl)
    (hs2 : ∀ env : Env, starEach [a, b] env = [(false, eval a env), (false, eval b env)] := by intro _; rfl) (hs4 : ∀ env : Env, starEach [b] env = [(false, eval b env)] := by intro _; rfl) :
    DI1 G δ tg (.Call (.Name "range" p) [a, b] [] pos) (((List.range (n - m)).map (m + ·)).map natD) :=
  (di_range2 B hg ha hb (by omega) hs hs3 hs2 hs4).conv (by
    have e : ((n : Int) - (m : Int)).toNat = n - m := by omega
    rw [e, List.map_map, List.map_map]
    congr 1)
theorem turns_mapT {α : Type} (enc : α → PyData) (f : α → PyData) : ∀ (xs : List α), (∀ x ∈ xs, ∃ δb, bindT ts (enc x) δ = some δb ∧ DV (G.blk scope) δb elt (f x)) → Turns G scope ts [] elt δ (xs.map enc) (xs.map f)
  | [], _ => .nil
  | x :: xs, h => Turns.cons (t1_no (h x List.mem_cons_self)) (turns_mapT enc f xs fun y hy => h y (List.mem_cons_of_mem _ hy))
theorem turns_filtT {α : Type} (enc : α → PyData) (f : α → PyData) (k : α → Bool) : ∀ (xs : List α), (∀ x ∈ xs, ∃ δb, bindT ts (enc x) δ = some δb ∧ DT (G.blk scope) δb c (k x) ∧ (k x = true → DV (G.blk scope) δb elt (f x))) → Turns G scope ts [c] elt δ (xs.map enc) ((xs.filter k).map f)
  | [], _ => .nil
  | x :: xs, h => by
    obtain ⟨δb, h1, h2, h3⟩ := h x List.mem_cons_self
    have := Turns.cons (t1_if h1 h2 h3) (turns_filtT enc f k xs fun y hy => h y (List.mem_cons_of_mem _ hy))
    rw [List.filter_cons]
    cases e : k x with
    | true => rw [e] at this; exact this
    | false => rw [e] at this; exact this
/-- + of whole numbers, texts, tuples -/
theorem dv_addi {i j : Int} (ha : DV G δ a (.int i)) (hb : DV G δ b (.int j)) : DV G δ (.BinOp a .Add b pos) (.int (i + j)) := dv_add ha hb (.int i j)
theorem dv_adds {i j : PySem.Str} (ha : DV G δ a (.str i)) (hb : DV G δ b (.str j)) (h : i.length + j.length ≤ sizeLine) : DV G δ (.BinOp a .Add b pos) (.str (i ++ j)) := dv_add ha hb (.str i j h)
theorem dv_addt {xs ys : List PyData} (ha : DV G δ a (.tuple xs)) (hb : DV G δ b (.tuple ys)) (h : xs.length + ys.length ≤ 1000) : DV G δ (.BinOp a .Add b pos) (.tuple (xs ++ ys)) := dv_add ha hb (.tup xs ys h)
theorem dv_ixt {i : Int} (ha : DV G δ a (.tuple ds)) (hb : DV G δ b (.int i)) (h : L2.atI ds i = some d) (hs : PlainIx b := by intro _ _; rfl) : DV G δ (.Subscript a b pos) d := dv_ix ha hb (.tup h) hs
theorem dv_ixl {i : Int} (ha : DV G δ a (.list ds)) (hb : DV G δ b (.int i)) (h : L2.atI ds i = some d) (hs : PlainIx b := by intro _ _; rfl) : DV G δ (.Subscript a b pos) d := dv_ix ha hb (.lst h) hs
theorem dv_ixs {i : Int} {k : Int} {ns : List Int} (ha : DV G δ a (scrD ns)) (hb : DV G δ b (.int i)) (h : L2.atI ns i = some k) (hs : PlainIx b := by intro _ _; rfl) : DV G δ (.Subscript a b pos) (.int k) := dv_ix ha hb (.scr h) hs
theorem dv_lent (B : Blt G.m) (hg : globB G.sc "len" = true) (ha : DV G δ a y) (h : Seq y ds) (hs : ∀ env : Env, starEach [a] env = (false, eval a env) :: starEach [] env := by intro _; rfl) : DV G δ (.Call (.Name "len" p) [a] [] pos) (natD ds.length) := dv_len B hg ha (.seq h) hs
end
end DL

set_option Elab.async false
set_option linter.all false
set_option maxRecDepth 100000
namespace DL
open PySem PySem.Spec L2
set_option autoImplicit false

/-! ### a list of whole numbers emptied by places: [left.pop(e) for k in range(m)], made a tuple, handed back -/
def popM (j : Nat → Nat) : Nat → Nat → List Int → List Int
  | _, 0, _ => []
  | i, f + 1, l => l.getD (j i) 0 :: popM j (i + 1) f (l.eraseIdx (j i))
def PopOk (j : Nat → Nat) : Nat → Nat → List Int → Prop
  | _, 0, _ => True
  | i, f + 1, l => j i < l.length ∧ PopOk j (i + 1) f (l.eraseIdx (j i))
theorem popM_len (j : Nat → Nat) : ∀ (f i : Nat) (l : List Int), (popM j i f l).length = f
  | 0, _, _ => rfl
  | f + 1, i, l => by unfold popM; rw [List.length_cons, popM_len j f]
theorem seqIndex_nat {k n : Nat} (h : k < n) : seqIndex? (k : Int) n = some k := by
  have := (ixN_seq (n := n) (i := (k : Int)) (j := k) (by unfold ixN; rw [if_pos (by omega), if_pos (by omega)]; simp)).1
  exact this
theorem map_erase {α β : Type} (f : α → β) : ∀ (l : List α) (k : Nat), (l.map f).eraseIdx k = (l.eraseIdx k).map f
  | [], _ => rfl
  | _ :: _, 0 => rfl
  | x :: l, k + 1 => by
    show (f x :: (l.map f).eraseIdx k) = f x :: (l.eraseIdx k).map f
    rw [map_erase f l k]
section
variable {G : Ct} {δ δ1 : DEnv} {ω ω1 : Own} {out : Out} {a b c e tg iter elt : Expr} {es ifs body rest : List Expr} {x y z d : PyData} {ds items res : List PyData} {pos p p2 p3 spos py ap cp lp rp : Pos} {ts : TSpec} {scope : Scope} {own : List (PySem.Str × Nat)}
theorem ds_poprow (B : Blt G.m) (il ix m : Nat) (own : List (PySem.Str × Nat)) (j : Nat → Nat) (ns : List Int) {nl : PySem.Str} (hg : globB G.sc "tuple" = true) (hN : G.N[il]? = some nl) (hv : visB (G.blk scope).sc nl = true) (hil : il ∉ own.map (·.2)) (hilx : il ≠ ix)
    (hok : blkC G.N G.sc scope own = true) (hi : DI1 G δ tg iter ((List.range m).map natD)) (hdg : DG (G.blk scope) tg (.one ix)) (hsub : ix ∈ own.map (·.2))
    (he : ∀ i, i < m → DV (G.blk scope) ((dwipe δ (own.map (·.2))).set ix (some (natD i))) e (natD (j i))) (hj : ∀ i, j i < 1000000) (hp : PopOk j 0 m ns) (hm : m ≤ 1000)
    (hs0 : ∀ (env : Env) (x : Value), foldedSetIterable iter env x = pure x := by intro _ _; rfl)
    (hbase : ∀ env : Env, attributeBase (.Name nl p) "pop" env (eval (.Name nl p) env) = eval (.Name nl p) env := by intro _; rfl)
    (hfew : ∀ env : Env, ((backTo cp (starEach [e] env)).all (fun x => !x.1) && (backToKw cp (keywordEach [] env)).all (fun x => x.1.isSome) && decide ([e].length + ([] : List Keyword).length + (if ([] : List Keyword).isEmpty then 0 else 1) < 30)) = true := by intro _; rfl)
    (hline : (ap.endLine == cp.line) = true := by rfl) (hs2 : ∀ env : Env, starEach [e] env = (false, eval e env) :: starEach [] env := by intro _; rfl)
    (hs3 : ∀ env : Env, starEach [.ListComp (.Call (.Attribute (.Name nl p) "pop" ap) [e] [] cp) [⟨tg, iter, [], 0⟩] scope lp] env = (false, eval (.ListComp (.Call (.Attribute (.Name nl p) "pop" ap) [e] [] cp) [⟨tg, iter, [], 0⟩] scope lp) env) :: starEach [] env := by intro _; rfl) :
    DS G δ [(il, .lst (ns.map .int))] (.Return (some (.Call (.Name "tuple" p2) [.ListComp (.Call (.Attribute (.Name nl p) "pop" ap) [e] [] cp) [⟨tg, iter, [], 0⟩] scope lp] [] pos)) rp) (.ret (.tuple ((popM j 0 m ns).map .int))) := fun X hX => by
  have pev : ∀ (s : Shared) (H : Hp) (C : Addr) (cl : List (PySem.Str × Addr)) (fp : List Addr), PE (X.blk s H scope (compEnvC scope cl C X.env) fp) (.Name nl p) (tVar il) := fun s H C cl fp => by
    have hX' := hX.blk (scope := scope) s H C cl fp
    have hx := hX'.nodbg nl (List.mem_of_getElem? hN)
    exact pe_var (by rw [hX'.N]; exact hN) (by rw [hX'.sc]; exact vis_of hv) hx.1 hx.2
  have pel : ∀ (s : Shared) (H : Hp) (C : Addr) (cl : List (PySem.Str × Addr)) (fp : List Addr), PE (X.blk s H scope (compEnvC scope cl C X.env) fp) (.Call (.Attribute (.Name nl p) "pop" ap) [e] [] cp) (tBM G.m.K "list" rPopAt (tVar il) (tCons (eOf G scope e) tNil)) := fun s H C cl fp => by
    have hX' := hX.blk (scope := scope) s H C cl fp
    have := pe_bm PySem.F.plainAttrs_list PySem.F.slot_list_pop PySem.F.type_list_pop mt_popAt (pev s H C cl fp) (pa_cons (pe_of (elt := e) hX') pa_nil (hs2 _)) (hbase _) (hfew _) hline (hs2 _) rfl
    rw [hX'.K] at this
    exact this
  refine PS.imp (ps_ret (pe_callTy (hX.K ▸ cr_tupF (X := X)) (gl_of hX hg) (by rw [hX.mg]; exact B.tuple) PyProof.Rows.boot_tuple (pa_cons (pe_lc hX.calm hX.nd (hi X hX) (by rw [hX.N, hX.sc]; exact blkOk_by hok) (fun s H C cl fp => hdg _ (hX.blk s H C cl fp)) (fun s H C cl fp => pts_nil) pel (hs0 _)) pa_nil (hs3 _)) (by decide) (by decide) (hs3 _) rfl)) fun D σ H ⟨S, H0, δ', ω', o', ⟨e1, e2, e3⟩, hS, r, q⟩ => ?_
  subst e1 e2 e3
  obtain ⟨as, h1, h2, h3, h4, h5, h6⟩ := r.ex
  obtain ⟨a, rfl⟩ : ∃ a, as = [a] := by
    match as, h1 with
    | [a], _ => exact ⟨a, rfl⟩
  obtain ⟨ha, xs, hax, hxz, hra⟩ := h6 0 il _ a rfl rfl
  obtain rfl := hra.ints
  refine ⟨[a] ++ S, _, _, ⟨rfl, rfl⟩, h3, h5, fun J H1 s1 itok Dl hD => ?_⟩
  have haD : Dl ≠ a := fun z => by
    have := s1 _ _ hax
    rw [← z, hD] at this
    cases this
  -- behind i turns: what is left of the list at a, what is made at Dl
  refine ⟨fun i mm H' => mm = m - i ∧ i ≤ m ∧ Same (hide [a] H1) (hide [Dl, a] H') ∧ ∃ l acc, H' a = some (.lst (l.map V.int)) ∧ H' Dl = some (.lst (acc.map V.int)) ∧ PopOk j i (m - i) l ∧ acc ++ popM j i (m - i) l = popM j 0 m ns ∧ acc.length = i,
    ⟨_, rfl, Nat.zero_le _, ?_, ns, [], ?_, upd_same, hp, rfl, rfl⟩, ?_⟩
  · rw [hide_cons_upd hD]
    exact Same.refl _
  · rw [upd_ne (Ne.symm haD)]
    exact s1 _ _ hax
  rintro i mm H' ⟨em, him, hsm, l, acc, hl, hacc, hpo, hres, hal⟩
  have okD : SOk (Dl :: [a] ++ S) H' := fun b hb => by
    rcases List.mem_cons.mp hb with z | z
    · rw [z, hacc]; simp
    · rcases List.mem_cons.mp z with z | z
      · rw [z, hl]; simp
      · intro hn
        have hbne : b ≠ a := fun w => by rw [w, hl] at hn; cases hn
        have hb1 : H1 b ≠ none := (h3.mono s1) b (List.mem_append_right _ z)
        cases q1 : H1 b with
        | none => exact hb1 q1
        | some u =>
          have := hsm b u (by rw [hide_out (by simpa using hbne)]; exact q1)
          have := hide_sub _ _ _ _ this
          rw [hn] at this
          cases this
  have sF : Same (hide ([a] ++ S) H1) (hide (Dl :: [a] ++ S) H') := by
    have e1 : hide ([a] ++ S) H1 = hide S (hide [a] H1) := hide_app _ _ _
    have e2 : hide (Dl :: [a] ++ S) H' = hide S (hide [Dl, a] H') := hide_app [Dl, a] S H'
    rw [e1, e2]
    exact hide_mono hsm
  have RD : Rel G.m.K (Dl :: [a] ++ S) (dwipe δ' (own.map (·.2))) (wipe σ (own.map (·.2))) H' := by
    have := (h5.mono s1).wiped (own.map (·.2))
    exact ⟨this.len, fun i d e => let ⟨v, z1, z2⟩ := this.val i d e; ⟨v, z1, z2.mono sF⟩⟩
  obtain ⟨hgo, hstop⟩ := itok _ H' sF okD
  have hlen : ((List.range m).map natD).length = m := by simp
  by_cases hlt : i < m
  · have e1 : m - i = (m - (i + 1)) + 1 := by omega
    rw [e1] at hpo hres
    obtain ⟨hji, hpo'⟩ := hpo
    obtain ⟨go, yld⟩ := hgo i (natD i) (by rw [List.getElem?_map, List.getElem?_range hlt]; rfl)
    refine .inr ⟨go, _, fun H2 z => ⟨m - (i + 1), by omega, rfl, hlt, z⟩, fun x H2 yy => ?_⟩
    obtain ⟨s2, rx⟩ := yld x H2 yy
    refine ⟨Dl :: [a] ++ S, _, natD i, _, rfl, okD.mono s2, RD.mono s2, rx, fun σ2 R2 keep hl2 => ⟨?_, ?_⟩⟩
    · exact (wipe_same hl2 fun k hk => keep k fun z => hk (by simp [TSpec.ix] at z; rw [z]; exact hsub)).trans (wipe_wipe σ _)
    · unfold tYes
      dsimp only
      rw [if_pos rfl]
      refine ⟨.ref a, ?_, .inl ⟨rfl, _, SqL.of (s2 _ _ hl)⟩, Dl :: [a] ++ S, _, _, he i hlt, okD.mono s2, R2, fun v H3 s3 rv => ?_⟩
      · rw [keep il (by simp [TSpec.ix]; exact hilx), wipe_at _ _ _ hil]
        exact ha
      · cases rv
        refine ⟨a, _, (j i : Int), j i, .int (l.getD (j i) 0), rfl, rfl, s3 _ _ (s2 _ _ hl), by have := hj i; omega, by have := hj i; omega, seqIndex_nat (by rw [List.length_map]; exact hji), ?_, ?_⟩
        · rw [List.getElem?_map, List.getD_eq_getElem?_getD, List.getElem?_eq_getElem hji]
          rfl
        · refine ⟨acc.map V.int, ?_, ?_, ?_, l.eraseIdx (j i), acc ++ [l.getD (j i) 0], ?_, ?_, hpo', ?_, by rw [List.length_append, hal]; rfl⟩
          · rw [upd_ne haD]
            exact s3 _ _ (s2 _ _ hacc)
          · rw [List.length_map, hal, sizeLine_eq]
            omega
          · rw [hide_upd (by simp), hide_upd (by simp)]
            exact fun b o e => hide_mono (s2.trans s3) _ _ (hsm _ _ e)
          · rw [upd_ne (Ne.symm haD), upd_same, map_erase]
          · rw [upd_same, List.map_append]
            rfl
          · rw [← hres, List.append_assoc]
            rfl
  · have ei : i = m := by omega
    subst ei
    rw [Nat.sub_self] at hres
    refine .inl ⟨by rw [hlen] at hstop; exact hstop, ⟨Dl, _, rfl, .inl ⟨SqL.of hacc, ?_⟩⟩⟩
    have hres' : acc = popM j 0 i ns := by rw [← hres]; show acc = acc ++ []; simp
    have sH0 : Same H0 H' := by
      have e1 : Same H0 (hide [a] H1) := h4.trans (hide_mono s1)
      exact (e1.trans hsm).trans (hide_sub _ _)
    refine Rp.newT (K := G.m.K) (S := S) (H := H') (ds := (popM j 0 i ns).map .int) (fun b hb => okD b (List.mem_append_right _ hb)) ?_ ?_ sH0 fun v H'' s'' rv => q v H'' s'' rv
    · rw [List.length_map, hal, sizeLine_eq]
      omega
    · rw [← hres']
      exact RpAll.ofInts _
end
/-! ### products of any size that comes here -/
def CMulB (i j : Int) : Prop := i.natAbs.log2 + j.natAbs.log2 < 100000000
theorem CMulB.ok {i j : Int} (h : CMulB i j) : IntMulOk i j := by
  have bits : ∀ x : Int, Builtin.Int.intBits x ≤ x.natAbs.log2 + 1 := fun x => by
    unfold Builtin.Int.intBits
    split <;> omega
  have b1 := bits i
  have b2 := bits j
  have h3 : i.natAbs.log2 + j.natAbs.log2 < 100000000 := h
  intro z
  have z2 := (Bool.and_eq_true _ _ ▸ z).2
  unfold Builtin.Int.intTooBig at z2
  have z3 := of_decide_eq_true z2
  have e : bitsLine = 134217728 := by decide
  rw [e] at z3
  omega
theorem dv_mulB {G : Ct} {δ : DEnv} {a b : Expr} {pos : Pos} {i j : Int} (ha : DV G δ a (.int i)) (hb : DV G δ b (.int j)) (h : CMulB i j) : DV G δ (.BinOp a .Mult b pos) (.int (i * j)) :=
  dv_op (r := rI CMulB fun i j => .int (i * j)) (fun _ _ => opI fun _ _ _ _ _ _ _ hc q => PyProof.Rows.mul_int q hc.ok) ha hb fun S H v w Q ok r1 r2 q => by
    cases r1
    cases r2
    exact ⟨i, j, rfl, rfl, h, q _ H (Same.refl H) (.int _)⟩
end DL

set_option Elab.async false
set_option linter.all false
set_option maxRecDepth 100000
namespace DL
open PySem PySem.Spec L2
set_option autoImplicit false
/-! ### {'..': '..', '..': '..'}[name] -/
section
variable {G : Ct} {δ : DEnv} {k1 k2 v1 v2 i : Expr} {dp pos : Pos}
theorem dv_dict2 {a1 a2 b1 b2 x r : PySem.Str} (hk1 : DV G δ k1 (.str a1)) (hv1 : DV G δ v1 (.str b1)) (hk2 : DV G δ k2 (.str a2)) (hv2 : DV G δ v2 (.str b2)) (hi : DV G δ i (.str x))
    (h : valV (mergeK [] [((.inr a1 : Key), V.str b1), (.inr a2, .str b2)]) (.inr x : Key) = some (.str r)) (hs : NoSl i := by intro _ _; rfl) :
    DV G δ (.Subscript (.Dict [some k1, some k2] [v1, v2] dp) i pos) (.str r) := fun X hX => by
  refine PE.imp (pe_dget (by have := room65 hX; omega) (pe_disp (pps_cons (hk1 X hX) (hv1 X hX) (pps_cons (hk2 X hX) (hv2 X hX) pps_nil)) rfl rfl (by simp) (by simp)) (hi X hX) hs) fun σ H Q ⟨S, δ', d', ⟨e1, e2⟩, ok, R, q⟩ => ?_
  subst e1 e2
  intro p hp
  have s0 := same_upd hp (.dK [])
  refine ⟨S, _, _, ⟨rfl, rfl⟩, ok.mono s0, R.mono s0, fun u1 H1 s1 r1 => ?_⟩
  cases r1
  refine ⟨S, _, _, ⟨rfl, rfl⟩, ok.mono (s0.trans s1), R.mono (s0.trans s1), fun u2 H2 s2 r2 => ?_⟩
  cases r2
  have t2 := (s0.trans s1).trans s2
  refine ⟨S, _, _, ⟨rfl, rfl⟩, ok.mono t2, R.mono t2, fun u3 H3 s3 r3 => ?_⟩
  cases r3
  have t3 := t2.trans s3
  refine ⟨S, _, _, ⟨rfl, rfl⟩, ok.mono t3, R.mono t3, fun u4 H4 s4 r4 => ?_⟩
  cases r4
  have t4 := t3.trans s4
  have sp : Same (upd H p (.dK [])) H4 := ((s1.trans s2).trans s3).trans s4
  refine ⟨sp _ _ upd_same, [(.inr a1, .str b1), (.inr a2, .str b2)], rfl, by simp, ?_⟩
  have sf : Same H (upd H4 p (.dK (mergeK [] [((.inr a1 : Key), V.str b1), (.inr a2, .str b2)]))) := fun b o e => by
    by_cases hb : b = p
    · subst hb; rw [hp] at e; cases e
    · rw [upd_ne hb]; exact t4 _ _ e
  refine ⟨S, _, _, ⟨rfl, rfl⟩, ok.mono sf, R.mono sf, fun u5 H5 s5 r5 => ?_⟩
  cases r5
  refine ⟨p, .str r, rfl, ?_, q _ _ (sf.trans s5) (.str _)⟩
  rw [← h]
  exact DGet.k (k := .inr x) (s5 _ _ upd_same)
end
end DL

set_option Elab.async false
set_option linter.all false
set_option maxRecDepth 100000
namespace DL
open PySem PySem.Spec L2
set_option autoImplicit false
/-! ### a list's truth -/
theorem len_empty {α β : Type} {xs : List α} {ys : List β} (h : xs.length = ys.length) : xs.isEmpty = ys.isEmpty := by
  cases xs <;> cases ys <;> first | rfl | (simp at h)
section
variable {G : Ct} {δ δ1 δ2 : DEnv} {ω ω1 : Own} {out : Out} {e : Expr} {sts body : List Stmt} {ds : List PyData} {ts : TSpec} {y : PyData}
theorem dt_seq (ha : DV G δ e y) (h : Seq y ds) (he : ∀ (env : Env) whole, isTrue e env whole = (do let v ← whole; standAt e.pos; holding [v] (truthy v)) := by intro _ _; rfl) : DT G δ e (!ds.isEmpty) := fun X hX =>
  PT.imp (pt_truth (ha X hX) (he _)) fun σ H Q ⟨S, δ', d', ⟨e1, e2⟩, ok, R, q⟩ => by
    subst e1 e2
    refine ⟨S, _, _, ⟨rfl, rfl⟩, ok, R, fun v H1 s1 r1 => ?_⟩
    cases h with
    | lst =>
      cases r1 with
      | lst e1 z1 a1 =>
        exact ⟨!ds.isEmpty, .inl ⟨_, SqL.of (hide_some e1).2, by rw [len_empty a1.len]⟩, q H1 s1⟩
    | tup =>
      cases r1 with
      | tup e1 k1 z1 a1 =>
        exact ⟨!ds.isEmpty, .inr (.inl ⟨_, SqT.frz (hide_some e1).2, by rw [len_empty a1.len]⟩), q H1 s1⟩
/-! ### knowing less -/
structure Le (δ2 δ1 : DEnv) : Prop where
  len : δ2.length = δ1.length
  at' : ∀ (i : Nat) (d : PyData), δ2[i]? = some (some d) → δ1[i]? = some (some d)
theorem Le.refl (δ : DEnv) : Le δ δ := ⟨rfl, fun _ _ h => h⟩
theorem Le.trans {a b c : DEnv} (h1 : Le a b) (h2 : Le b c) : Le a c := ⟨h1.len.trans h2.len, fun i d e => h2.at' i d (h1.at' i d e)⟩
theorem Le.nil : Le [] [] := Le.refl _
theorem Le.cons {o : Option PyData} {a b : DEnv} (h : Le a b) : Le (o :: a) (o :: b) := ⟨by simp [h.len], fun i d e => by cases i with | zero => exact e | succ i => exact h.at' i d e⟩
theorem Le.drop {o : Option PyData} {a b : DEnv} (h : Le a b) : Le (none :: a) (o :: b) := ⟨by simp [h.len], fun i d e => by cases i with | zero => cases e | succ i => exact h.at' i d e⟩
theorem Rel.le {K : PySem.W.Frag} {S : List Addr} {σ : L2.St} {H : Hp} (r : Rel K S δ1 σ H) (w : Le δ2 δ1) : Rel K S δ2 σ H := ⟨r.len.trans w.len.symm, fun i d e => r.val i d (w.at' i d e)⟩
theorem SRel.le {K : PySem.W.Frag} {S : List Addr} {H0 H : Hp} {σ : L2.St} (r : SRel K S H0 δ1 ω σ H) (w : Le δ2 δ1) : SRel K S H0 δ2 ω σ H := by
  obtain ⟨as, h1, h2, h3, h4, h5, h6⟩ := r.ex
  exact ⟨as, h1, h2, h3, h4, h5.le w, h6⟩
theorem DSs.pre (h : DSs G δ2 ω sts out) (w : Le δ2 δ1) : DSs G δ1 ω sts out := fun X hX => PSs.imp (h X hX) fun D σ H ⟨S, H0, δ', ω', o', ⟨e1, e2, e3⟩, hS, r, q⟩ => by
  subst e1 e2 e3
  exact ⟨S, H0, _, _, _, ⟨rfl, rfl, rfl⟩, hS, r.le w, q⟩
theorem DSs.weak (h : DSs G δ ω sts (.next δ1 ω1)) (w : Le δ2 δ1) : DSs G δ ω sts (.next δ2 ω1) := fun X hX => PSs.imp (h X hX) fun D σ H ⟨S, H0, δ', ω', o', ⟨e1, e2, e3⟩, hS, r, q⟩ => by
  subst e1 e2 e3
  exact ⟨S, H0, _, _, _, ⟨rfl, rfl, rfl⟩, hS, r, fun σ' H' r' => q σ' H' (r'.le w)⟩
theorem DFor.conv {items : List PyData} (h : DFor G ts body items δ ω out) {o : Out} (q : out = o) : DFor G ts body items δ ω o := q ▸ h
theorem dv_addn {a b : Expr} {i j : Nat} {pos : Pos} (ha : DV G δ a (natD i)) (hb : DV G δ b (natD j)) : DV G δ (.BinOp a .Add b pos) (natD (i + j)) := (dv_addi (i := (i : Int)) (j := (j : Int)) ha hb).conv (by unfold natD; rw [Int.natCast_add])
theorem dv_intn {i : Int} (n : Nat) {j} {pos : Pos} (h : i = n := by rfl) : DV G δ (.Constant (.int i) j pos) (natD n) := h ▸ dv_int
theorem ds_ifk {c : Expr} {thn els : List Stmt} {pos : Pos} {k : Bool} (hc : DT G (ov δ ω) c k) (ht : k = true → DSs G δ ω thn (.next δ ω1)) (he : k = false → DSs G δ ω els (.next δ ω1)) : DS G δ ω (.If c thn els pos) (.next δ ω1) := ds_if hc ht he
/-! ### loops that keep what is known -/
theorem dfor_keep {α : Type} (enc : α → PyData) : ∀ (xs : List α), (∀ x ∈ xs, ∃ δb, bindT ts (enc x) δ = some δb ∧ ofree ts ω ∧ ∃ δ1, DSs G δb ω body (.next δ1 ω) ∧ Le δ δ1) → DFor G ts body (xs.map enc) δ ω (.next δ ω)
  | [], _ => rfl
  | x :: xs, h => by
    obtain ⟨δb, h1, h2, δ1, h3, w⟩ := h x List.mem_cons_self
    exact ⟨δb, h1, h2, .inl ⟨_, _, h3.weak w, dfor_keep enc xs fun y hy => h y (List.mem_cons_of_mem _ hy)⟩⟩
theorem dfor_fold {α β : Type} (enc : α → PyData) (st : β → Own) (f : β → α → β) (I : Nat → β → Prop) : ∀ (xs : List α) (b : β), I xs.length b → (∀ x ∈ xs, ∀ n b, I (n + 1) b → I n (f b x) ∧ ∃ δb, bindT ts (enc x) δ = some δb ∧ ofree ts (st b) ∧ ∃ δ1, DSs G δb (st b) body (.next δ1 (st (f b x))) ∧ Le δ δ1) →
    DFor G ts body (xs.map enc) δ (st b) (.next δ (st (xs.foldl f b)))
  | [], _, _, _ => rfl
  | x :: xs, b, hb, h => by
    obtain ⟨hi, δb, h1, h2, δ1, h3, w⟩ := h x List.mem_cons_self _ b hb
    exact ⟨δb, h1, h2, .inl ⟨_, _, h3.weak w, dfor_fold enc st f I xs _ hi fun y hy => h y (List.mem_cons_of_mem _ hy)⟩⟩
theorem fold_len {α β : Type} {f : List β → α → List β} {c : Nat} (h : ∀ b x, (f b x).length ≤ b.length + c) : ∀ (xs : List α) (b : List β), (xs.foldl f b).length ≤ b.length + c * xs.length
  | [], b => by simp
  | x :: xs, b => by
    have h1 := fold_len h xs (f b x)
    have h2 := h b x
    rw [List.foldl_cons, List.length_cons, Nat.mul_succ]
    omega
/-- a loop that hands back r at the first x where it finds it -/
theorem dfor_find {α : Type} (enc : α → PyData) (g : α → Option PyData) : ∀ (xs : List α), (∀ x ∈ xs, ∃ δb, bindT ts (enc x) δ = some δb ∧ ofree ts ω ∧ ((g x = none ∧ ∃ δ1, DSs G δb ω body (.next δ1 ω) ∧ Le δ δ1) ∨ ∃ r, g x = some r ∧ DSs G δb ω body (.ret r))) →
    DFor G ts body (xs.map enc) δ ω (match xs.findSome? g with | some r => .ret r | none => .next δ ω)
  | [], _ => rfl
  | x :: xs, h => by
    obtain ⟨δb, h1, h2, h3⟩ := h x List.mem_cons_self
    rw [List.findSome?_cons]
    rcases h3 with ⟨e, δ1, h3, w⟩ | ⟨r, e, h3⟩
    · rw [e]
      exact ⟨δb, h1, h2, .inl ⟨_, _, h3.weak w, dfor_find enc g xs fun y hy => h y (List.mem_cons_of_mem _ hy)⟩⟩
    · rw [e]
      exact ⟨δb, h1, h2, .inr ⟨r, rfl, h3⟩⟩
end
/-! ### depth -/
structure Nc (n : Nat) (d : PyData) : Prop where
  lay : d.canLay0 = true
  dep : d.depth ≤ n
theorem Nc.sh {n : Nat} {d : PyData} (h : Nc n d) (hn : n ≤ 64 := by omega) : SeqAt.shaped d = true := by
  unfold SeqAt.shaped
  rw [h.lay, Bool.true_and]
  exact decide_eq_true (Nat.le_trans h.dep hn)
theorem nc_int (i : Int) : Nc 0 (.int i) := ⟨rfl, Nat.le_refl _⟩
theorem nc_bool (i : Bool) : Nc 0 (.bool i) := ⟨rfl, Nat.le_refl _⟩
theorem nc_str (i : PySem.Str) (h : (PyData.str i).canLay0 = true := by decide) : Nc 0 (.str i) := ⟨h, Nat.le_refl _⟩
theorem nc_non : Nc 0 .none := ⟨rfl, Nat.le_refl _⟩
theorem nc_all {n : Nat} : ∀ {xs : List PyData}, (∀ x ∈ xs, Nc n x) → PyData.canLayAll0 xs = true ∧ PyData.depthAll xs ≤ n
  | [], _ => ⟨rfl, by simp [PyData.depthAll]⟩
  | x :: xs, h => by
    obtain ⟨h1, h2⟩ := h x List.mem_cons_self
    obtain ⟨h3, h4⟩ := nc_all (xs := xs) fun y hy => h y (List.mem_cons_of_mem _ hy)
    exact ⟨by simp [PyData.canLayAll0, h1, h3], by simp only [PyData.depthAll]; omega⟩
theorem nc_tup {n : Nat} {xs : List PyData} (h : ∀ x ∈ xs, Nc n x) : Nc (n + 1) (.tuple xs) := ⟨(nc_all h).1, by have := (nc_all h).2; simp only [PyData.depth]; omega⟩
theorem nc_lst {n : Nat} {xs : List PyData} (h : ∀ x ∈ xs, Nc n x) : Nc (n + 1) (.list xs) := ⟨(nc_all h).1, by have := (nc_all h).2; simp only [PyData.depth]; omega⟩
theorem Nc.up {n m : Nat} {d : PyData} (h : Nc n d) (w : n ≤ m) : Nc m d := ⟨h.lay, Nat.le_trans h.dep w⟩
theorem nc_ints (ns : List Int) : ∀ x ∈ ns.map PyData.int, Nc 0 x := fun x hx => by
  obtain ⟨i, _, rfl⟩ := List.mem_map.mp hx
  exact nc_int i
theorem nc_strs (ns : List PySem.Str) (h : ∀ x ∈ ns, (PyData.str x).canLay0 = true) : ∀ x ∈ ns.map PyData.str, Nc 0 x := fun x hx => by
  obtain ⟨i, hi, rfl⟩ := List.mem_map.mp hx
  exact nc_str i (h i hi)
theorem nc_pair (q : Int × Int) : Nc 1 (pairD q) := nc_tup fun x hx => by
  simp at hx
  rcases hx with rfl | rfl <;> exact nc_int _
theorem nc_pairs (ns : List (Int × Int)) : ∀ x ∈ ns.map pairD, Nc 1 x := fun x hx => by
  obtain ⟨i, _, rfl⟩ := List.mem_map.mp hx
  exact nc_pair i
theorem Nc.eq_self {n : Nat} {d : PyData} (h : Nc n d) : PyData.eqv d d = true := SeqAt.eqv_refl d h.lay
/-! ### equality of data -/
theorem eqv_int (i j : Int) : PyData.eqv (.int i) (.int j) = decide (i = j) := by
  simp only [PyData.eqv]
  exact Bool.eq_iff_iff.mpr (by simp)
theorem eqv_str (i j : PySem.Str) : PyData.eqv (.str i) (.str j) = decide (i = j) := by
  simp only [PyData.eqv]
  exact Bool.eq_iff_iff.mpr (by simp)
theorem eqvAll_map {α : Type} [DecidableEq α] (f : α → PyData) (h : ∀ x y, PyData.eqv (f x) (f y) = decide (x = y)) : ∀ xs ys : List α, PyData.eqvAll (xs.map f) (ys.map f) = decide (xs = ys)
  | [], [] => rfl
  | x :: xs, [] => rfl
  | [], y :: ys => rfl
  | x :: xs, y :: ys => by
    rw [List.map_cons, List.map_cons, PyData.eqvAll, h, eqvAll_map f h xs ys]
    exact Bool.eq_iff_iff.mpr (by simp)
theorem eqv_pair (p q : Int × Int) : PyData.eqv (pairD p) (pairD q) = decide (p = q) := by
  obtain ⟨a, b⟩ := p
  obtain ⟨c, d⟩ := q
  show PyData.eqv (.tuple [.int a, .int b]) (.tuple [.int c, .int d]) = _
  simp only [PyData.eqv, PyData.eqvAll]
  exact Bool.eq_iff_iff.mpr (by simp)
theorem eqv_tups {α : Type} [DecidableEq α] (f : α → PyData) (h : ∀ x y, PyData.eqv (f x) (f y) = decide (x = y)) (xs ys : List α) : PyData.eqv (.tuple (xs.map f)) (.tuple (ys.map f)) = decide (xs = ys) := by
  show PyData.eqvAll _ _ = _
  exact eqvAll_map f h xs ys
theorem any_map {α : Type} [DecidableEq α] (f : α → PyData) (h : ∀ x y, PyData.eqv (f x) (f y) = decide (x = y)) (xs : List α) (x : α) : ((xs.map f).any fun z => PyData.eqv z (f x)) = decide (x ∈ xs) := by
  rw [List.any_map]
  refine Bool.eq_iff_iff.mpr ?_
  rw [List.any_eq_true]
  constructor
  · rintro ⟨z, hz, e⟩
    rw [Function.comp_apply, h] at e
    exact decide_eq_true (of_decide_eq_true e ▸ hz)
  · intro e
    exact ⟨x, of_decide_eq_true e, by rw [Function.comp_apply, h]; exact decide_eq_true rfl⟩
end DL

set_option Elab.async false
set_option linter.all false
set_option maxRecDepth 100000
namespace DL
open PySem PySem.Spec L2
set_option autoImplicit false
/-! ### places in a row -/
def ix : List Int → Int → Nat
  | [], _ => 0
  | y :: r, x => if y = x then 0 else ix r x + 1
theorem ix_get : ∀ {r : List Int} {x : Int}, x ∈ r → r[ix r x]? = some x
  | y :: r, x, h => by
    unfold ix
    by_cases e : y = x
    · rw [if_pos e, e]; rfl
    · rw [if_neg e]
      have : x ∈ r := by
        rcases List.mem_cons.mp h with z | z
        · exact absurd z.symm e
        · exact z
      exact ix_get this
theorem ix_no : ∀ {r : List Int} {x : Int} {m : Nat}, m < ix r x → r[m]? ≠ some x
  | [], x, m, h => by simp
  | y :: r, x, m, h => by
    unfold ix at h
    by_cases e : y = x
    · rw [if_pos e] at h; omega
    · rw [if_neg e] at h
      cases m with
      | zero => simp; exact e
      | succ m => exact ix_no (r := r) (by omega)
theorem ix_inj {r : List Int} {x y : Int} (hx : x ∈ r) (hy : y ∈ r) (h : ix r x = ix r y) : x = y := by
  have h1 := ix_get hx
  have h2 := ix_get hy
  rw [h, h2] at h1
  exact (Option.some.inj h1).symm
/-- the two places of a tie, the lesser first -/
def spotsM (r : List Int) (t : Int × Int) : Int × Int := (if (ix r t.1 : Int) ≤ ix r t.2 then (ix r t.1, ix r t.2) else (ix r t.2, ix r t.1))
inductive Lie | meet | cross | within | apart
deriving DecidableEq
def Lie.t : Lie → PySem.Str
  | .meet => "meet"
  | .cross => "cross"
  | .within => "within"
  | .apart => "apart"
def howM (s t : Int × Int) : Lie :=
  if (s.1 = t.1 ∨ s.1 = t.2) ∨ (s.2 = t.1 ∨ s.2 = t.2) then .meet
  else if (s.1 < t.1 ∧ t.1 < s.2 ∧ s.2 < t.2) ∨ (t.1 < s.1 ∧ s.1 < t.2 ∧ t.2 < s.2) then .cross
  else if (s.1 < t.1 ∧ t.1 < t.2 ∧ t.2 < s.2) ∨ (t.1 < s.1 ∧ s.1 < s.2 ∧ s.2 < t.2) then .within
  else .apart
def webD (m : Nat) (ties : List (Int × Int)) : PyData := .tuple [natD m, .tuple (ties.map pairD)]
def rowD (r : List Int) : PyData := .tuple (r.map .int)
def Lr (r : List Int) (t u : Int × Int) : Lie := howM (spotsM r t) (spotsM r u)
/-- the kind: pile or queue -/
inductive Kd | pile | queue
deriving DecidableEq
def Kd.t : Kd → PySem.Str
  | .pile => "pile"
  | .queue => "queue"
def Kd.bad : Kd → Lie
  | .pile => .cross
  | .queue => .within
def clashB (r : List Int) (k : Kd) (t u : Int × Int) : Bool := decide (Lr r t u = k.bad)
theorem if_cg {α : Type} {b c : Prop} [Decidable b] [Decidable c] {x y u v : α} (h : b ↔ c) (h2 : x = u) (h3 : y = v) : ite b x y = ite c u v := by
  subst h2 h3
  by_cases q : b
  · rw [if_pos q, if_pos (h.mp q)]
  · rw [if_neg q, if_neg fun z => q (h.mpr z)]
theorem howM_comm (s t : Int × Int) : howM s t = howM t s := by
  unfold howM
  exact if_cg (by omega) rfl (if_cg (by omega) rfl (if_cg (by omega) rfl rfl))
theorem spots_le (r : List Int) (t : Int × Int) : (spotsM r t).1 ≤ (spotsM r t).2 := by
  unfold spotsM
  split <;> simp <;> omega
theorem spots_lt {r : List Int} {t : Int × Int} (h1 : t.1 ∈ r) (h2 : t.2 ∈ r) (h : t.1 ≠ t.2) : (spotsM r t).1 < (spotsM r t).2 := by
  have : ix r t.1 ≠ ix r t.2 := fun e => h (ix_inj h1 h2 e)
  unfold spotsM
  split <;> simp <;> omega
/-! ### the defs' promises -/
def rSpots (ds : List PyData) (d : PyData) : Prop := ∃ (m : Nat) (ties : List (Int × Int)) (r : List Int) (i : Nat) (t : Int × Int), ds = [webD m ties, rowD r, natD i] ∧ ties[i]? = some t ∧ t.1 ∈ r ∧ t.2 ∈ r ∧ d = pairD (spotsM r t)
def rHow (ds : List PyData) (d : PyData) : Prop := ∃ (m : Nat) (ties : List (Int × Int)) (r : List Int) (i j : Nat) (t u : Int × Int), ds = [webD m ties, rowD r, natD i, natD j] ∧ ties[i]? = some t ∧ ties[j]? = some u ∧ (t.1 ∈ r ∧ t.2 ∈ r) ∧ (u.1 ∈ r ∧ u.2 ∈ r) ∧ d = .str (Lr r t u).t
def rDo (ds : List PyData) (d : PyData) : Prop := ∃ (m : Nat) (ties : List (Int × Int)) (r : List Int) (k : Kd) (i j : Nat) (t u : Int × Int), ds = [webD m ties, rowD r, .str k.t, natD i, natD j] ∧ ties[i]? = some t ∧ ties[j]? = some u ∧ (t.1 ∈ r ∧ t.2 ∈ r) ∧ (u.1 ∈ r ∧ u.2 ∈ r) ∧ d = .bool (clashB r k t u)
def npD (p : Nat × Nat) : PyData := .tuple [natD p.1, natD p.2]
def clashAt (ties : List (Int × Int)) (r : List Int) (k : Kd) (i j : Nat) : Bool := clashB r k (ties.getD i (0, 0)) (ties.getD j (0, 0))
def inClash1 (ties : List (Int × Int)) (r : List Int) (k : Kd) (i : Nat) (acc : List (Nat × Nat)) (j : Nat) : List (Nat × Nat) := if clashAt ties r k i j then acc ++ [(i, j)] else acc
def inClash (ties : List (Int × Int)) (r : List Int) (k : Kd) (acc : List (Nat × Nat)) (i : Nat) : List (Nat × Nat) := ((List.range (ties.length - (i + 1))).map (i + 1 + ·)).foldl (inClash1 ties r k i) acc
def clashesM (ties : List (Int × Int)) (r : List Int) (k : Kd) : List (Nat × Nat) := (List.range ties.length).foldl (inClash ties r k) []
theorem inClash1_len (ties : List (Int × Int)) (r : List Int) (k : Kd) (i : Nat) (b : List (Nat × Nat)) (j : Nat) : (inClash1 ties r k i b j).length ≤ b.length + 1 := by
  unfold inClash1
  split <;> simp
theorem inClash_len (ties : List (Int × Int)) (r : List Int) (k : Kd) (b : List (Nat × Nat)) (i : Nat) : (inClash ties r k b i).length ≤ b.length + ties.length := by
  have := fold_len (inClash1_len ties r k i) ((List.range (ties.length - (i + 1))).map (i + 1 + ·)) b
  rw [List.length_map, List.length_range, Nat.one_mul] at this
  unfold inClash
  omega
def rClashes (ds : List PyData) (d : PyData) : Prop := ∃ (m : Nat) (ties : List (Int × Int)) (r : List Int) (k : Kd), ds = [webD m ties, rowD r, .str k.t] ∧ (∀ t ∈ ties, t.1 ∈ r ∧ t.2 ∈ r) ∧ ties.length ≤ 60 ∧ d = .tuple ((clashesM ties r k).map npD)
theorem lie_inj {a b : Lie} (h : a.t = b.t) : a = b := by
  cases a <;> cases b <;> first | rfl | (exact absurd h (by decide))
theorem lie_eqv (a b : Lie) : PyData.eqv (.str a.t) (.str b.t) = decide (a = b) := by
  rw [eqv_str]
  exact Bool.eq_iff_iff.mpr ⟨fun h => decide_eq_true (lie_inj (of_decide_eq_true h)), fun h => decide_eq_true (congrArg Lie.t (of_decide_eq_true h))⟩
theorem lie_sh (a : Lie) : SeqAt.shaped (.str a.t) = true := by cases a <;> decide +kernel
end DL

set_option Elab.async false
set_option linter.all false
set_option maxRecDepth 100000
namespace DL
open PySem PySem.Spec L2
set_option autoImplicit false
/-! ### numbers that are not too big -/
def Sm (n : Nat) (z : Int) : Prop := z.natAbs < 2 ^ n
theorem Sm.add {n : Nat} {z s : Int} (h : Sm n z) (hs : s.natAbs ≤ 1000) : Sm (n + 10) (z + s) := by
  unfold Sm at h ⊢
  rw [Nat.pow_add]
  have h1 : (2 : Nat) ^ 10 = 1024 := by decide
  rw [h1]
  generalize (2 : Nat) ^ n = x at h ⊢
  omega
theorem Sm.div3 {n : Nat} {z : Int} (h : Sm n z) : Sm n (z / 3) := by
  unfold Sm at h ⊢
  generalize (2 : Nat) ^ n = x at h ⊢
  omega
theorem Sm.mono {n m : Nat} {z : Int} (h : Sm n z) (w : n ≤ m) : Sm m z := Nat.lt_of_lt_of_le h (Nat.pow_le_pow_right (by omega) w)
theorem Sm.mulB {n : Nat} {z : Int} (h : Sm n z) (hn : n ≤ 5000000) : CMulB z 48271 := by
  unfold CMulB
  have h2 : (48271 : Int).natAbs.log2 = 15 := by decide
  rw [h2]
  by_cases e : z.natAbs = 0
  · rw [e, show Nat.log2 0 = 0 by decide]; omega
  · have := (Nat.log2_lt e).mpr h
    omega
theorem CMulB.small {i j : Int} (hi : i.natAbs < 1000000) (hj : j.natAbs < 1000000) : CMulB i j := by
  have h : ∀ n : Nat, n < 1000000 → n.log2 < 20 := fun n hn => by
    by_cases e : n = 0
    · subst e; decide
    · exact (Nat.log2_lt e).mpr (by omega)
  unfold CMulB
  have := h _ hi
  have := h _ hj
  omega
/-! ### cells made webs and rows -/
def mixM (z p m : Int) : Int := z * 48271 % p % m
theorem mixM_nn (z : Int) {p m : Int} (h : 0 < m) : 0 ≤ mixM z p m := Int.emod_nonneg _ (by omega)
theorem mixM_lt (z : Int) {p m : Int} (h : 0 < m) : mixM z p m < m := Int.emod_lt_of_pos _ h
def rMix (ds : List PyData) (d : PyData) : Prop := ∃ (n : Nat) (z p m : Int), ds = [.int z, .int p, .int m] ∧ Sm n z ∧ n ≤ 5000000 ∧ 0 < p ∧ 0 < m ∧ d = .int (mixM z p m)
def manyM (z : Int) (most : Nat) : Nat :=
  let many := 1 + (mixM z 9973 most).toNat
  if many < 4 ∧ 0 < z % 4 then most else many
def tieStep (z : Int) (many : Nat) (acc : List (Int × Int)) (k : Nat) : List (Int × Int) :=
  let one := mixM (z + 11 * (k : Int)) 9949 many
  let other := mixM (z + 13 * (k : Int) + 1) 9941 many
  if one ≠ other ∧ (min one other, max one other) ∉ acc then acc ++ [(min one other, max one other)] else acc
def foundM (z : Int) (many ties : Nat) : List (Int × Int) := (List.range (mixM z 9967 (ties + 1)).toNat).foldl (tieStep z many) []
def lexB (q r : Int × Int) : Bool := decide (q.1 < r.1 ∨ (q.1 = r.1 ∧ q.2 ≤ r.2))
def sortP (ps : List (Int × Int)) : List (Int × Int) := ps.mergeSort lexB
theorem sortP_perm (ps : List (Int × Int)) : (sortP ps).Perm ps := List.mergeSort_perm _ _
theorem sortP_sorted (ps : List (Int × Int)) : (sortP ps).Pairwise lexLe := by
  have := List.pairwise_mergeSort (le := lexB) (fun a b c h1 h2 => by
    simp only [lexB, decide_eq_true_eq] at h1 h2 ⊢
    omega) (fun a b => by
    simp only [lexB, Bool.or_eq_true, decide_eq_true_eq]
    omega) ps
  exact this.imp fun h => of_decide_eq_true h
def tiesM (z : Int) (most ties : Nat) : List (Int × Int) := sortP (foundM z (manyM z most) ties)
def wD (z : Int) (most ties : Nat) : PyData := webD (manyM z most) (tiesM z most ties)
theorem manyM_pos (z : Int) {most : Nat} (h : 0 < most) : 1 ≤ manyM z most ∧ manyM z most ≤ most := by
  unfold manyM
  have h1 := mixM_nn z (p := 9973) (m := most) (by omega)
  have h2 := mixM_lt z (p := 9973) (m := most) (by omega)
  dsimp only
  split <;> omega
structure TieOk (many : Nat) (t : Int × Int) : Prop where
  nn : 0 ≤ t.1
  lt : t.1 < t.2
  le : t.2 < many
theorem fold_inv {α β : Type} {f : β → α → β} (P : β → Prop) (h : ∀ b x, P b → P (f b x)) : ∀ (xs : List α) (b : β), P b → P (xs.foldl f b)
  | [], _, hb => hb
  | x :: xs, b, hb => fold_inv P h xs _ (h b x hb)
theorem tieStep_ok {z : Int} {many : Nat} (hm : 0 < many) (acc : List (Int × Int)) (k : Nat) (h : (∀ t ∈ acc, TieOk many t) ∧ acc.Nodup) : (∀ t ∈ tieStep z many acc k, TieOk many t) ∧ (tieStep z many acc k).Nodup := by
  unfold tieStep
  dsimp only
  have a1 := mixM_nn (z + 11 * (k : Int)) (p := 9949) (m := many) (by omega)
  have a2 := mixM_lt (z + 11 * (k : Int)) (p := 9949) (m := many) (by omega)
  have b1 := mixM_nn (z + 13 * (k : Int) + 1) (p := 9941) (m := many) (by omega)
  have b2 := mixM_lt (z + 13 * (k : Int) + 1) (p := 9941) (m := many) (by omega)
  generalize mixM (z + 11 * (k : Int)) 9949 many = o at *
  generalize mixM (z + 13 * (k : Int) + 1) 9941 many = p at *
  split
  · rename_i hc
    constructor
    · intro t ht
      rcases List.mem_append.mp ht with g | g
      · exact h.1 t g
      · rw [List.mem_singleton] at g
        subst g
        exact ⟨by dsimp only; omega, by dsimp only; omega, by dsimp only; omega⟩
    · exact List.nodup_append.mpr ⟨h.2, by simp, fun a ha b hb e => by rw [List.mem_singleton] at hb; subst hb; subst e; exact hc.2 ha⟩
  · exact h
theorem foundM_ok {z : Int} {many ties : Nat} (hm : 0 < many) : (∀ t ∈ foundM z many ties, TieOk many t) ∧ (foundM z many ties).Nodup := by
  unfold foundM
  exact fold_inv (fun acc => (∀ t ∈ acc, TieOk many t) ∧ acc.Nodup) (fun b x h => tieStep_ok hm b x h) _ [] ⟨by simp, List.nodup_nil⟩
theorem tieStep_len (z : Int) (many : Nat) (acc : List (Int × Int)) (k : Nat) : (tieStep z many acc k).length ≤ acc.length + 1 := by
  unfold tieStep
  dsimp only
  split <;> simp
theorem foundM_len (z : Int) (many ties : Nat) : (foundM z many ties).length ≤ ties := by
  have h := fold_len (tieStep_len z many) (List.range (mixM z 9967 (ties + 1)).toNat) []
  have h2 := mixM_lt z (p := 9967) (m := ties + 1) (by omega)
  have h3 := mixM_nn z (p := 9967) (m := ties + 1) (by omega)
  rw [List.length_range] at h
  simp only [List.length_nil] at h
  unfold foundM
  omega
/-- a web's ties are in order -/
structure WebOk (many : Nat) (ties : List (Int × Int)) : Prop where
  ok : ∀ t ∈ ties, TieOk many t
  nd : ties.Nodup
  srt : ties.Pairwise lexLe
theorem tiesM_ok (z : Int) {most : Nat} (ties : Nat) (h : 0 < most) : WebOk (manyM z most) (tiesM z most ties) ∧ (tiesM z most ties).length ≤ ties := by
  have hm := (manyM_pos z h).1
  obtain ⟨h1, h2⟩ := foundM_ok (z := z) (ties := ties) hm
  have hp := sortP_perm (foundM z (manyM z most) ties)
  refine ⟨⟨fun t ht => h1 t (hp.mem_iff.mp ht), hp.nodup_iff.mpr h2, sortP_sorted _⟩, ?_⟩
  have := foundM_len z (manyM z most) ties
  have e : (tiesM z most ties).length = _ := hp.length_eq
  omega
def rWeb (ds : List PyData) (d : PyData) : Prop := ∃ (n : Nat) (z : Int) (most ties : Nat), ds = [.int z, natD most, natD ties] ∧ Sm n z ∧ n ≤ 4000000 ∧ 0 < most ∧ most ≤ 60 ∧ ties ≤ 60 ∧ d = wD z most ties
/-! ### rows -/
def popJ (z : Int) (many : Nat) (k : Nat) : Nat := if k < many then (mixM (z + 5 * (k : Int)) 9931 ((many : Int) - k)).toNat else 0
def rowM (z : Int) (many : Nat) : List Int := popM (popJ z many) 0 many (upto many)
theorem get_erase_perm {α : Type} : ∀ (l : List α) (k : Nat) (h : k < l.length), (l[k] :: l.eraseIdx k).Perm l
  | x :: l, 0, _ => List.Perm.refl _
  | x :: l, k + 1, h => by
    have := get_erase_perm l k (by simpa using h)
    exact (List.Perm.swap _ _ _).trans (this.cons x)
theorem popM_perm (j : Nat → Nat) : ∀ (f i : Nat) (l : List Int), l.length = f → PopOk j i f l → (popM j i f l).Perm l
  | 0, i, l, hl, _ => by
    have : l = [] := List.eq_nil_of_length_eq_zero hl
    subst this
    exact List.Perm.refl _
  | f + 1, i, l, hl, h => by
    have h1 := popM_perm j f (i + 1) (l.eraseIdx (j i)) (by rw [List.length_eraseIdx_of_lt h.1]; omega) h.2
    unfold popM
    refine (h1.cons _).trans ?_
    rw [List.getD_eq_getElem?_getD, List.getElem?_eq_getElem h.1]
    exact get_erase_perm _ _ h.1
theorem popOk_all (z : Int) (many : Nat) : ∀ (f i : Nat) (l : List Int), l.length = f → i + f = many → PopOk (popJ z many) i f l
  | 0, _, _, _, _ => True.intro
  | f + 1, i, l, hl, hf => by
    have hj : popJ z many i < l.length := by
      unfold popJ
      rw [if_pos (by omega)]
      have h1 := mixM_nn (z + 5 * (i : Int)) (p := 9931) (m := (many : Int) - i) (by omega)
      have h2 := mixM_lt (z + 5 * (i : Int)) (p := 9931) (m := (many : Int) - i) (by omega)
      omega
    exact ⟨hj, popOk_all z many f (i + 1) _ (by rw [List.length_eraseIdx_of_lt hj]; omega) (by omega)⟩
theorem upto_len (n : Nat) : (upto (n : Int)).length = n := by unfold upto; simp
theorem rowM_perm (z : Int) (many : Nat) : (rowM z many).Perm (upto many) := popM_perm _ _ _ _ (upto_len many) (popOk_all z many _ _ _ (upto_len many) (by omega))
theorem mem_upto {n : Nat} {x : Int} : x ∈ upto (n : Int) ↔ 0 ≤ x ∧ x < n := by
  unfold upto
  simp
  constructor
  · rintro ⟨a, h, rfl⟩; omega
  · rintro ⟨h1, h2⟩; exact ⟨x.toNat, by omega, by omega⟩
theorem rowM_mem (z : Int) (many : Nat) {x : Int} : x ∈ rowM z many ↔ 0 ≤ x ∧ x < many := (rowM_perm z many).mem_iff.trans mem_upto
def rRow (ds : List PyData) (d : PyData) : Prop := ∃ (n : Nat) (z : Int) (many : Nat), ds = [.int z, natD many] ∧ Sm n z ∧ n ≤ 4000000 ∧ many ≤ 60 ∧ d = rowD (rowM z many)
/-! ### the law's own telling -/
def lawHow (a b c d : Int) : Lie :=
  if a ∈ [c, d] ∨ b ∈ [c, d] then .meet
  else if (([c, d].filter fun x => decide (min a b < x) && decide (x < max a b)).length = 1) then .cross
  else if (([c, d].filter fun x => decide (min a b < x) && decide (x < max a b)).length = 2) ∨ (min c d < min a b ∧ min a b < max c d) then .within
  else .apart
theorem between_len (a b c d : Int) : ([c, d].filter fun x => decide (min a b < x) && decide (x < max a b)).length = (if min a b < c ∧ c < max a b then 1 else 0) + (if min a b < d ∧ d < max a b then 1 else 0) := by
  rw [List.filter_cons, List.filter_cons, List.filter_nil]
  by_cases h1 : min a b < c ∧ c < max a b <;> by_cases h2 : min a b < d ∧ d < max a b
  · rw [if_pos h1, if_pos h2, if_pos (by simp [h1]), if_pos (by simp [h2])]; rfl
  · rw [if_pos h1, if_neg h2, if_pos (by simp [h1]), if_neg (by simpa using h2)]; rfl
  · rw [if_neg h1, if_pos h2, if_neg (by simpa using h1), if_pos (by simp [h2])]; rfl
  · rw [if_neg h1, if_neg h2, if_neg (by simpa using h1), if_neg (by simpa using h2)]; rfl
def ordP (a b : Int) : Int × Int := if a ≤ b then (a, b) else (b, a)
theorem lawHow_eq {a b c d : Int} (h1 : a ≠ b) (h2 : c ≠ d) : lawHow a b c d = howM (ordP a b) (ordP c d) := by
  have e1 : (ordP a b).1 = min a b ∧ (ordP a b).2 = max a b := by unfold ordP; split <;> simp <;> omega
  have e2 : (ordP c d).1 = min c d ∧ (ordP c d).2 = max c d := by unfold ordP; split <;> simp <;> omega
  have bl := between_len a b c d
  by_cases m : a = c ∨ a = d ∨ b = c ∨ b = d
  · have l : lawHow a b c d = .meet := if_pos (by simp; omega)
    have r : howM (ordP a b) (ordP c d) = .meet := if_pos (by rw [e1.1, e1.2, e2.1, e2.2]; omega)
    rw [l, r]
  · have l0 : ¬ (a ∈ [c, d] ∨ b ∈ [c, d]) := by simp; omega
    have r0 : ¬ (((ordP a b).1 = (ordP c d).1 ∨ (ordP a b).1 = (ordP c d).2) ∨ ((ordP a b).2 = (ordP c d).1 ∨ (ordP a b).2 = (ordP c d).2)) := by rw [e1.1, e1.2, e2.1, e2.2]; omega
    by_cases q1 : min a b < c ∧ c < max a b <;> by_cases q2 : min a b < d ∧ d < max a b
    · rw [if_pos q1, if_pos q2] at bl
      have l : lawHow a b c d = .within := (if_neg l0).trans ((if_neg (by omega)).trans (if_pos (by omega)))
      have r : howM (ordP a b) (ordP c d) = .within := (if_neg r0).trans ((if_neg (by rw [e1.1, e1.2, e2.1, e2.2]; omega)).trans (if_pos (by rw [e1.1, e1.2, e2.1, e2.2]; omega)))
      rw [l, r]
    · rw [if_pos q1, if_neg q2] at bl
      have l : lawHow a b c d = .cross := (if_neg l0).trans (if_pos (by omega))
      have r : howM (ordP a b) (ordP c d) = .cross := (if_neg r0).trans (if_pos (by rw [e1.1, e1.2, e2.1, e2.2]; omega))
      rw [l, r]
    · rw [if_neg q1, if_pos q2] at bl
      have l : lawHow a b c d = .cross := (if_neg l0).trans (if_pos (by omega))
      have r : howM (ordP a b) (ordP c d) = .cross := (if_neg r0).trans (if_pos (by rw [e1.1, e1.2, e2.1, e2.2]; omega))
      rw [l, r]
    · rw [if_neg q1, if_neg q2] at bl
      have l1 : lawHow a b c d = if min c d < min a b ∧ min a b < max c d then .within else .apart := (if_neg l0).trans ((if_neg (by omega)).trans (if_cg (by omega) rfl rfl))
      have r1 : howM (ordP a b) (ordP c d) = if min c d < min a b ∧ min a b < max c d then .within else .apart := (if_neg r0).trans ((if_neg (by rw [e1.1, e1.2, e2.1, e2.2]; omega)).trans (if_cg (by rw [e1.1, e1.2, e2.1, e2.2]; omega) rfl rfl))
      rw [l1, r1]
theorem spots_ord (r : List Int) (t : Int × Int) : spotsM r t = ordP (ix r t.1) (ix r t.2) := rfl
def rLHow (ds : List PyData) (d : PyData) : Prop := ∃ (m : Nat) (ties : List (Int × Int)) (r : List Int) (i j : Nat) (t u : Int × Int), ds = [webD m ties, rowD r, natD i, natD j] ∧ ties[i]? = some t ∧ ties[j]? = some u ∧ (t.1 ∈ r ∧ t.2 ∈ r ∧ t.1 ≠ t.2) ∧ (u.1 ∈ r ∧ u.2 ∈ r ∧ u.1 ≠ u.2) ∧ d = .str (Lr r t u).t
theorem mem2 {r : List Int} {p q x : Int} (hx : x ∈ [p, q]) (hp : p ∈ r) (hq : q ∈ r) : x ∈ r := by
  simp at hx
  rcases hx with rfl | rfl
  · exact hp
  · exact hq
theorem minmax2 (a b : Int) : (min a b ∈ [a, b] ∧ ∀ y ∈ [a, b], min a b ≤ y) ∧ (max a b ∈ [a, b] ∧ ∀ y ∈ [a, b], y ≤ max a b) := by
  simp
  omega
end DL

set_option Elab.async false
set_option linter.all false
set_option maxRecDepth 100000
namespace DL
open PySem PySem.Spec L2
set_option autoImplicit false
theorem sw_cell {elt : Expr} {gs : List Comprehension} {scope : Scope} {pos py : Pos} {y : PySem.Str} {l : Nat} {env : Env} (hy : env.scope.names.lookup y = some .cell) : swapsWith (.ListComp elt gs scope pos) (some (.Name y py)) l env = pure false := by
  have ky : env.kindOf y = some .cell := hy
  unfold swapsWith
  simp only [ky]
  have : ((some NameKind.cell : Option NameKind) == some .local) = false := by decide
  simp [this]
section
variable {G : Ct} {δ : DEnv} {ω : Own} {d : PyData} {pos p cpos : Pos} {elt : Expr} {gs : List Comprehension} {scope : Scope}
/-- x = [..] where x is read in an inner block -/
theorem ds_setc (i : Nat) {n : PySem.Str} (hN : G.N[i]? = some n) (hl : locB G n = true) (hc : G.sc.names.lookup n = some .cell) (h : DV G δ (.ListComp elt gs scope cpos) d) (hi : ∀ q ∈ ω, q.1 ≠ i := by simp) :
    DS G δ ω (.Assign [.Name n p] (.ListComp elt gs scope cpos) pos) (.next (δ.set i (some d)) ω) := fun X hX =>
  PS.imp (ps_set hX.nd (by rw [hX.N]; exact hN) (by rw [hX.sc]; exact loc_of hl) (h X hX) (sw_cell (by rw [hX.sc]; exact hc)) (loc_fn hX hl)) fun D σ H ⟨S, H0, δ', ω', o', ⟨e1, e2, e3⟩, hS, r, q⟩ => by
    subst e1 e2 e3
    obtain ⟨as, B⟩ := r.bs hS
    exact ⟨_, _, _, ⟨rfl, rfl⟩, B.ok, B.rel, fun v H' s rv => q _ _ (B.store H' i v d s rv hi)⟩
end
/-! ### what the tests of the law's telling say -/
theorem meet_of {a b c d : Int} (h : (!((([a, b].filter fun x => decide (x ∈ [c, d])).map PyData.int).isEmpty)) = true) : a ∈ [c, d] ∨ b ∈ [c, d] := by
  by_cases h1 : a ∈ [c, d]
  · exact .inl h1
  · by_cases h2 : b ∈ [c, d]
    · exact .inr h2
    · rw [List.filter_cons, List.filter_cons, decide_eq_false h1, decide_eq_false h2] at h
      cases h
theorem meet_not {a b c d : Int} (h : (!((([a, b].filter fun x => decide (x ∈ [c, d])).map PyData.int).isEmpty)) = false) : ¬(a ∈ [c, d] ∨ b ∈ [c, d]) := by
  intro w
  have : ([a, b].filter fun x => decide (x ∈ [c, d])) ≠ [] := by
    rcases w with w | w
    · exact List.ne_nil_of_mem (a := a) (List.mem_filter.mpr ⟨by simp, decide_eq_true w⟩)
    · exact List.ne_nil_of_mem (a := b) (List.mem_filter.mpr ⟨by simp, decide_eq_true w⟩)
  cases e : ([a, b].filter fun x => decide (x ∈ [c, d])) with
  | nil => exact this e
  | cons x l => rw [e] at h; cases h
theorem len_of {α : Type} {l : List α} {f : α → PyData} {n : Nat} (h : PyData.eqv (natD (l.map f).length) (.int (n : Int)) = true) : l.length = n := by
  unfold natD at h
  rw [eqv_int, List.length_map] at h
  have := of_decide_eq_true h
  omega
theorem len_not {α : Type} {l : List α} {f : α → PyData} {n : Nat} (h : PyData.eqv (natD (l.map f).length) (.int (n : Int)) = false) : ¬ l.length = n := by
  unfold natD at h
  rw [eqv_int, List.length_map] at h
  have := of_decide_eq_false h
  omega
end DL

set_option Elab.async false
set_option linter.all false
set_option maxRecDepth 100000
set_option maxHeartbeats 1000000
namespace DL
open PySem PySem.Spec L2
set_option autoImplicit false
/-! ### sorted(xs), xs pairs of whole numbers, any length -/
def kH (H : Hp) : V → Int × Int
  | .ref t => match H t with
    | some (.frz _ (.tup [.int i, .int j])) => (i, j)
    | _ => (0, 0)
  | _ => (0, 0)
theorem kH_at {H : Hp} {t : Addr} {o : Obj} {i j : Int} (h : H t = some (.frz o (.tup [.int i, .int j]))) : kH H (.ref t) = (i, j) := by
  unfold kH
  dsimp only
  rw [h]
def rSortedPF (K : PySem.W.Frag) : List V → Hp → VK → Prop := fun vs H Q => ∃ (a : Addr) (xs : List V) (k : V → Int × Int), vs = [V.ref a] ∧ SqL K H a xs ∧ (∀ x ∈ xs, ∃ t o, x = V.ref t ∧ H t = some (.frz o (.tup [.int (k x).1, .int (k x).2]))) ∧
  ∀ ys p, SrtO.Srtd (ltP k) ys → SrtO.Stb (ltP k) ys xs → H p = none → Q (.ref p) (upd H p (.lst ys))
theorem cr_sortedPF {X : Cx} : CallR X (.builtin "sorted") (rSortedPF X.K) := by
  intro pins s σ H vs us Q I r h
  obtain ⟨a, xs, k, rfl, hs, hx, q⟩ := h
  obtain ⟨its, rv, hl, hz⟩ := I.list hs
  obtain ⟨u, rfl, ru⟩ := vals1 r
  obtain rfl : u = Value.ref a := ru
  obtain ⟨e1, e2⟩ := refs_back rv fun x m => by
    obtain ⟨t, _, e, _⟩ := hx x m
    exact ⟨t, e⟩
  refine SrtO.sorted_pairsO (k := fun u => k (backV u)) hl.isList (by rw [← rv.length]; exact hz) (fun v hv => ?_) fun h' d out h1 h2 kp hd hn => ?_
  · obtain ⟨t, rfl⟩ := e2 v hv
    have hm : V.ref t ∈ xs := by rw [e1]; exact List.mem_map.mpr ⟨_, hv, rfl⟩
    obtain ⟨t', oo, e, ht⟩ := hx _ hm
    cases e
    obtain ⟨_, _, its2, r2, o, ho, hc, n, hd⟩ := I.hok _ _ ht
    obtain ⟨u1, u2, rfl, ri, rj⟩ := vals2 r2
    obtain ⟨t1, rfl⟩ := ri
    obtain ⟨t2, rfl⟩ := rj
    exact ⟨t, o, t1, t2, n, rfl, ho, hc, hd⟩
  · have h3 : ∀ u ∈ out, ∃ a, u = Value.ref a := fun u hu => e2 u (h2.perm.mem_iff.mp hu)
    obtain ⟨n, hn⟩ := hn
    have hb : SrtO.Stb (ltP k) (out.map backV) xs := by
      rw [e1]
      exact SrtO.Stb.map (ltP_swo k) backV h2
    refine ⟨.ref d, upd H d (.lst (out.map backV)), I.laid (t' := s.toks) kp hd ⟨?_, out, n, vals_back h3, hn⟩, rfl, q _ d (SrtO.srtd_map h1) hb (I.hok.fresh hd)⟩
    rw [hb.len]
    exact hz
section
variable {G : Ct} {δ : DEnv} {a : Expr} {pos p : Pos}
theorem dn_sortedQ {ps qs : List (Int × Int)} (B : Blt G.m) (hg : globB G.sc "sorted" = true) (ha : DV G δ a (.list (ps.map pairD))) (hp : qs.Perm ps) (hs' : qs.Pairwise lexLe)
    (hs : ∀ env : Env, starEach [a] env = (false, eval a env) :: starEach [] env := by intro _; rfl) : DN G δ (.Call (.Name "sorted" p) [a] [] pos) (qs.map pairD) := by
  refine dn_cb (r := rSortedPF G.m.K) (fun X hX => hX.K ▸ cr_sortedPF) hg B.sorted PyProof.Rows.boot_sorted (da_cons ha da_nil hs) (fun S H vs Q ok r q => ?_) (by decide) (by decide) hs
  cases r with
  | cons r1 r2 =>
    cases r2
    cases r1 with
    | lst e1 z1 a1 =>
      obtain ⟨l, ex, ep, hl⟩ := pairs_of a1
      have hk : ∀ z ∈ l, ∃ t o, z.1 = V.ref t ∧ H t = some (.frz o (.tup [.int z.2.1, .int z.2.2])) ∧ kH H z.1 = z.2 := fun z hz => by
        obtain ⟨t, o, e2, e3⟩ := (hl z hz).pair
        refine ⟨t, o, e2, (hide_some e3).2, ?_⟩
        rw [e2]
        exact kH_at (hide_some e3).2
      refine ⟨_, _, kH H, rfl, SqL.of (hide_some e1).2, fun x hx => ?_, fun ys t h1 h2 h3 => ?_⟩
      · rw [ex] at hx
        obtain ⟨z, hz, e2⟩ := List.mem_map.mp hx
        subst e2
        obtain ⟨t, o, f1, f2, f3⟩ := hk z hz
        exact ⟨t, o, f1, by rw [f3]; exact f2⟩
      · obtain ⟨l', pl, el⟩ := perm_map_inv h2.perm l ex
        have hl' : ∀ z ∈ l', Rp G.m.K (hide S H) z.1 (pairD z.2) := fun z hz => hl z (pl.mem_iff.mp hz)
        have srt : (l'.map (·.2)).Pairwise lexLe := by
          rw [List.pairwise_map]
          rw [el] at h1
          have h1' : (l'.map (·.1)).Pairwise (fun x y => ltP (kH H) y x = false) := h1
          rw [List.pairwise_map] at h1'
          refine List.Pairwise.imp_of_mem (fun {u v} hu hv huv => ?_) h1'
          obtain ⟨_, _, _, _, k1⟩ := hk u (pl.mem_iff.mp hu)
          obtain ⟨_, _, _, _, k2⟩ := hk v (pl.mem_iff.mp hv)
          have huv' : SrtO.lexB (kH H v.1) (kH H u.1) = false := huv
          rw [k1, k2, SrtO.lexB_no] at huv'
          unfold lexLe
          omega
        have eq : l'.map (·.2) = qs := by
          refine List.Perm.eq_of_pairwise (le := lexLe) (fun _ _ _ _ h1 h2 => lexLe_antisymm h1 h2) srt hs' ?_
          exact ((pl.map (·.2)).trans (by rw [ep])).trans hp.symm
        have ra : ∀ m : List (V × (Int × Int)), (∀ z ∈ m, Rp G.m.K (hide S H) z.1 (pairD z.2)) → RpAll G.m.K (hide S H) (m.map (·.1)) ((m.map (·.2)).map pairD) := by
          intro m
          induction m with
          | nil => intro _; exact .nil
          | cons z m ih => intro h; exact .cons (h z List.mem_cons_self) (ih fun w hw => h w (List.mem_cons_of_mem _ hw))
        have := ra l' hl'
        rw [eq, ← el] at this
        have zz : ys.length ≤ sizeLine := by rw [h2.perm.length_eq]; exact z1
        exact q ys t h3 zz this
end
end DL

set_option Elab.async false
set_option linter.all false
set_option maxRecDepth 100000
namespace DL
open PySem PySem.Spec L2
set_option autoImplicit false
theorem DSs.convo {G : Ct} {δ δ1 : DEnv} {ω ω1 ω2 : Own} {sts : List Stmt} (h : DSs G δ ω sts (.next δ1 ω1)) (q : ω1 = ω2) : DSs G δ ω sts (.next δ1 ω2) := q ▸ h
/-! ### the ties that clash, in order -/
theorem foldl_app {α β : Type} (h : α → List β) : ∀ (xs : List α) (acc : List β), xs.foldl (fun acc x => acc ++ h x) acc = acc ++ xs.flatMap h
  | [], acc => by simp
  | x :: xs, acc => by rw [List.foldl_cons, foldl_app h xs, List.flatMap_cons, List.append_assoc]
theorem foldl_filt {α β : Type} (p : α → Bool) (g : α → β) : ∀ (xs : List α) (acc : List β), xs.foldl (fun acc x => if p x then acc ++ [g x] else acc) acc = acc ++ (xs.filter p).map g
  | [], acc => by simp
  | x :: xs, acc => by
    rw [List.foldl_cons, foldl_filt p g xs, List.filter_cons]
    split
    · rw [List.map_cons, List.append_assoc]; rfl
    · rfl
section
variable {ties : List (Int × Int)} {r : List Int} {k : Kd}
def rowC (ties : List (Int × Int)) (r : List Int) (k : Kd) (i : Nat) : List (Nat × Nat) := (((List.range (ties.length - (i + 1))).map (i + 1 + ·)).filter (clashAt ties r k i)).map fun j => (i, j)
def colC (ties : List (Int × Int)) (r : List Int) (k : Kd) (j : Nat) : List (Nat × Nat) := ((List.range j).filter fun i => clashAt ties r k i j).map fun i => (i, j)
def lclash (ties : List (Int × Int)) (r : List Int) (k : Kd) : List (Nat × Nat) := (List.range ties.length).flatMap (colC ties r k)
theorem clashesM_eq : clashesM ties r k = (List.range ties.length).flatMap (rowC ties r k) := by
  unfold clashesM
  have : inClash ties r k = fun acc i => acc ++ rowC ties r k i := by
    funext acc i
    exact foldl_filt (clashAt ties r k i) (fun j => (i, j)) _ acc
  rw [this, foldl_app, List.nil_append]
theorem mem_rowC {i : Nat} {p : Nat × Nat} : p ∈ rowC ties r k i ↔ p.1 = i ∧ i < p.2 ∧ p.2 < ties.length ∧ clashAt ties r k p.1 p.2 = true := by
  unfold rowC
  rw [List.mem_map]
  constructor
  · rintro ⟨j, hj, rfl⟩
    obtain ⟨h1, h2⟩ := List.mem_filter.mp hj
    obtain ⟨x, hx, rfl⟩ := List.mem_map.mp h1
    rw [List.mem_range] at hx
    exact ⟨rfl, by show i < i + 1 + x; omega, by show i + 1 + x < _; omega, h2⟩
  · rintro ⟨rfl, h1, h2, h3⟩
    refine ⟨p.2, List.mem_filter.mpr ⟨List.mem_map.mpr ⟨p.2 - (p.1 + 1), by rw [List.mem_range]; omega, by omega⟩, h3⟩, rfl⟩
theorem mem_clashesM {p : Nat × Nat} : p ∈ clashesM ties r k ↔ p.1 < p.2 ∧ p.2 < ties.length ∧ clashAt ties r k p.1 p.2 = true := by
  rw [clashesM_eq, List.mem_flatMap]
  constructor
  · rintro ⟨i, _, h⟩
    obtain ⟨rfl, h1, h2, h3⟩ := mem_rowC.mp h
    exact ⟨h1, h2, h3⟩
  · rintro ⟨h1, h2, h3⟩
    exact ⟨p.1, by rw [List.mem_range]; omega, mem_rowC.mpr ⟨rfl, h1, h2, h3⟩⟩
theorem mem_colC {j : Nat} {p : Nat × Nat} : p ∈ colC ties r k j ↔ p.2 = j ∧ p.1 < j ∧ clashAt ties r k p.1 p.2 = true := by
  unfold colC
  rw [List.mem_map]
  constructor
  · rintro ⟨i, hi, rfl⟩
    obtain ⟨h1, h2⟩ := List.mem_filter.mp hi
    exact ⟨rfl, List.mem_range.mp h1, h2⟩
  · rintro ⟨rfl, h1, h2⟩
    exact ⟨p.1, List.mem_filter.mpr ⟨List.mem_range.mpr h1, h2⟩, rfl⟩
theorem mem_lclash {p : Nat × Nat} : p ∈ lclash ties r k ↔ p.1 < p.2 ∧ p.2 < ties.length ∧ clashAt ties r k p.1 p.2 = true := by
  unfold lclash
  rw [List.mem_flatMap]
  constructor
  · rintro ⟨i, hi, h⟩
    obtain ⟨rfl, h1, h2⟩ := mem_colC.mp h
    exact ⟨h1, List.mem_range.mp hi, h2⟩
  · rintro ⟨h1, h2, h3⟩
    exact ⟨p.2, List.mem_range.mpr h2, mem_colC.mpr ⟨rfl, h1, h3⟩⟩
theorem clashesM_srt : (clashesM ties r k).Pairwise fun p q => p.1 < q.1 ∨ (p.1 = q.1 ∧ p.2 < q.2) := by
  rw [clashesM_eq, List.pairwise_flatMap]
  refine ⟨fun i _ => ?_, ?_⟩
  · unfold rowC
    rw [List.pairwise_map]
    refine List.Pairwise.filter _ ?_
    rw [List.pairwise_map]
    exact List.pairwise_lt_range.imp fun h => .inr ⟨rfl, by dsimp only; omega⟩
  · refine List.pairwise_lt_range.imp fun {a b} h x hx y hy => .inl ?_
    rw [(mem_rowC.mp hx).1, (mem_rowC.mp hy).1]
    exact h
theorem lclash_srt : (lclash ties r k).Pairwise fun p q => p.2 < q.2 ∨ (p.2 = q.2 ∧ p.1 < q.1) := by
  unfold lclash
  rw [List.pairwise_flatMap]
  refine ⟨fun i _ => ?_, ?_⟩
  · unfold colC
    rw [List.pairwise_map]
    exact List.Pairwise.filter _ (List.pairwise_lt_range.imp fun h => .inr ⟨rfl, h⟩)
  · refine List.pairwise_lt_range.imp fun {a b} h x hx y hy => .inl ?_
    rw [(mem_colC.mp hx).1, (mem_colC.mp hy).1]
    exact h
theorem clash_perm : (clashesM ties r k).Perm (lclash ties r k) := by
  refine (List.perm_ext_iff_of_nodup ?_ ?_).mpr fun p => mem_clashesM.trans mem_lclash.symm
  · exact clashesM_srt.imp fun h e => by subst e; omega
  · exact lclash_srt.imp fun h e => by subst e; omega
def npC (p : Nat × Nat) : Int × Int := ((p.1 : Nat), (p.2 : Nat))
theorem npD_eq (ps : List (Nat × Nat)) : ps.map npD = (ps.map npC).map pairD := by rw [List.map_map]; rfl
theorem clash_perm' : ((clashesM ties r k).map npC).Perm ((lclash ties r k).map npC) := clash_perm.map _
theorem clash_srt' : ((clashesM ties r k).map npC).Pairwise lexLe := by
  rw [List.pairwise_map]
  exact clashesM_srt.imp fun h => by unfold lexLe npC; dsimp only; omega
theorem colC_len (j : Nat) : (colC ties r k j).length ≤ j := by
  unfold colC
  rw [List.length_map]
  have := List.length_filter_le (fun i => clashAt ties r k i j) (List.range j)
  rw [List.length_range] at this
  exact this
end
def rLClashes (ds : List PyData) (d : PyData) : Prop := ∃ (m : Nat) (ties : List (Int × Int)) (r : List Int) (k : Kd), ds = [webD m ties, rowD r, .str k.t] ∧ (∀ t ∈ ties, t.1 ∈ r ∧ t.2 ∈ r ∧ t.1 ≠ t.2) ∧ ties.length ≤ 60 ∧ d = .list ((clashesM ties r k).map npD)
def rLaw (ds : List PyData) (d : PyData) : Prop := ∃ (n : Nat) (ns : List Int), ds = [scrD ns] ∧ ns.length ≤ 63 ∧ n ≤ 2000000 ∧ (∀ z ∈ ns, Sm n z) ∧ d = .bool true
theorem mem_cut {α : Type} {xs : List α} {lo hi : Option Int} {x : α} (h : x ∈ cutD xs lo hi) : x ∈ xs := List.mem_of_mem_drop (List.mem_of_mem_take h)
theorem nc_np (p : Nat × Nat) : Nc 1 (npD p) := nc_pair (npC p)
theorem nc_nps (ps : List (Nat × Nat)) : ∀ x ∈ ps.map npD, Nc 1 x := fun x hx => by
  obtain ⟨i, _, rfl⟩ := List.mem_map.mp hx
  exact nc_np i
/-- a web and a row of it -/
structure WR (many : Nat) (ties : List (Int × Int)) (row : List Int) : Prop where
  ok : WebOk many ties
  row : row.Perm (upto many)
theorem WR.mem {many : Nat} {ties : List (Int × Int)} {row : List Int} (h : WR many ties row) {t : Int × Int} (ht : t ∈ ties) : t.1 ∈ row ∧ t.2 ∈ row ∧ t.1 ≠ t.2 := by
  have o := h.ok.ok t ht
  have := o.nn
  have := o.lt
  have := o.le
  exact ⟨h.row.mem_iff.mpr (mem_upto.mpr ⟨by omega, by omega⟩), h.row.mem_iff.mpr (mem_upto.mpr ⟨by omega, by omega⟩), by omega⟩
theorem tie_at {ties : List (Int × Int)} {i : Nat} (h : i < ties.length) : ties[i]? = some (ties.getD i (0, 0)) := by rw [List.getD_eq_getElem?_getD, List.getElem?_eq_getElem h]; rfl
theorem WR.at' {many : Nat} {ties : List (Int × Int)} {row : List Int} (h : WR many ties row) {i : Nat} (hi : i < ties.length) : (ties.getD i (0, 0)).1 ∈ row ∧ (ties.getD i (0, 0)).2 ∈ row ∧ (ties.getD i (0, 0)).1 ≠ (ties.getD i (0, 0)).2 := h.mem (List.mem_of_getElem? (tie_at hi))
theorem wr_of (z y : Int) {most : Nat} (ties : Nat) (h : 0 < most) : WR (manyM z most) (tiesM z most ties) (rowM y (manyM z most)) := ⟨(tiesM_ok z ties h).1, rowM_perm y _⟩
theorem sm_ok {z : Int} {k : Nat} (h : Builtin.Int.intBits z ≤ k) : Sm (k + 1) z := by
  unfold Sm
  unfold Builtin.Int.intBits at h
  by_cases e : z.natAbs = 0
  · rw [e]; exact Nat.two_pow_pos _
  · refine (Nat.log2_lt e).mp ?_
    have e2 : z ≠ 0 := by omega
    simp [e2] at h
    omega
theorem kd_sh (k : Kd) : SeqAt.shaped (.str k.t) = true := by cases k <;> decide +kernel
end DL

set_option Elab.async false
set_option linter.all false
set_option maxRecDepth 100000
namespace DL
open PySem PySem.Spec L2
set_option autoImplicit false
/-! ### xs * k, xs a tuple -/
def rRepTF (K : PySem.W.Frag) : R2 := fun x y H Q => ∃ l k xs, x = .ref l ∧ y = .int k ∧ SqT K H l xs ∧ xs ≠ [] ∧ 2 ≤ k ∧ k ≤ 1000 ∧ xs.length ≤ 1000 ∧ NewT H (List.replicate k.toNat xs).flatten Q
theorem rep_len {α : Type} {xs : List α} {k : Int} (h1 : k ≤ 1000) (h2 : xs.length ≤ 1000) : (List.replicate k.toNat xs).flatten.length ≤ 1000000 := by
  rw [PyProof.Rows.lm_len_rep_flat]
  exact Nat.mul_le_mul (show k.toNat ≤ 1000 by omega) h2
theorem op_repTF {X : Cx} : OpR X (binaryOp .Mult) (rRepTF X.K) := fun pins s σ H x y v u Q I rx ry ⟨l, k, xs, ex, ey, hT, hne, h1, h2, hz, q⟩ => by
  subst ex ey
  cases rx
  obtain ⟨t, rfl⟩ := ry
  obtain ⟨its, r, ⟨⟨cls, dd, data, sl⟩, ho, hc, n, hd⟩, hs⟩ := I.tuple hT
  dsimp only at hc hd
  subst hc hd
  have len : its.length = xs.length := r.length.symm
  have pos : 0 < xs.length := List.length_pos_iff.mpr hne
  have emp : its.toArray.isEmpty = false := by
    cases its with
    | nil => rw [← len] at pos; exact absurd pos (by simp)
    | cons _ _ => rfl
  have sz : ((its.toArray.size : Nat) : Int) * k ≤ 1000000 := by
    have e : its.toArray.size = xs.length := by rw [List.size_toArray, len]
    have := Int.mul_le_mul (show ((its.toArray.size : Nat) : Int) ≤ 1000 by omega) h2 (by omega) (by omega)
    omega
  have fl : (List.replicate k.toNat its).flatten.length ≤ sizeLine := by
    have := rep_len (xs := its) (k := k) h2 (by omega)
    rw [sizeLine_eq]; omega
  have fx : (List.replicate k.toNat xs).flatten.length ≤ sizeLine := by
    have := rep_len (xs := xs) (k := k) h2 hz
    rw [sizeLine_eq]; omega
  have many : Builtin.Tuple.tupleTooMany (((its.toArray.size : Nat) : Int) * k) = false := decide_eq_false (by rw [sizeLine_eq]; omega)
  have mulW := tuple_mulW l its.toArray n dd sl k t (by rw [decide_eq_false (by omega), decide_eq_false (by omega)]; rfl) (by rw [emp, Bool.false_or]; exact beq_eq_false_iff_ne.mpr (by omega)) (by rw [emp, Bool.or_false]; exact decide_eq_false (by omega)) (by omega) many (by rw [size_rep, List.size_toArray]; exact fl)
  refine wpAny_binaryOp_repeat_ref (T := "tuple") (U := "int") (by decide) ⟨_, ho, rfl⟩ (fun s' => typeIs_int s' k t) noFill_tuple_mul F.fills_int_mul F.slot_int_rmul repeat_tuple F.slot_int_index.lookup ?_
  refine call_meets F.slot_int_rmul (typeIs_int s k t) F.entry_int_rmul (F.args_int_rmul_2 _ _) (int_rmul_tuple k t l its.toArray n dd sl) ⟨ho, rfl, ⟨_, ho, rfl⟩, ?_⟩
  refine call_meets F.slot_tuple_mul ⟨_, ho, rfl⟩ F.entry_tuple_mul (F.args_tuple_mul_2 _ _) mulW ⟨ho, ?_⟩
  rw [size_rep]
  exact newT (t' := s.toks) I (r.rep k.toNat) fx q
theorem RpAll.rep {K : PySem.W.Frag} {H : Hp} {vs : List V} {ds : List PyData} (r : RpAll K H vs ds) : ∀ n : Nat, RpAll K H (List.replicate n vs).flatten (List.replicate n ds).flatten
  | 0 => .nil
  | n + 1 => by
    rw [List.replicate_succ, List.replicate_succ, List.flatten_cons, List.flatten_cons]
    exact r.app (RpAll.rep r n)
section
variable {G : Ct} {δ : DEnv} {a b : Expr} {pos : Pos} {ds : List PyData}
theorem dv_rept {k : Int} (ha : DV G δ a (.tuple ds)) (hb : DV G δ b (.int k)) (hne : ds ≠ []) (h1 : 2 ≤ k) (h2 : k ≤ 1000) (hz : ds.length ≤ 1000) : DV G δ (.BinOp a .Mult b pos) (.tuple (List.replicate k.toNat ds).flatten) := by
  refine dv_op (r := rRepTF G.m.K) (fun X hX => hX.K ▸ op_repTF) ha hb fun S H v w Q ok r1 r2 q => ?_
  cases r2
  cases r1 with
  | tup e1 k1 z1 a1 =>
    have hl := a1.len
    refine ⟨_, k, _, rfl, rfl, SqT.frz (hide_some e1).2, fun e => hne ?_, h1, h2, by omega, ?_⟩
    · rw [e] at hl
      exact List.eq_nil_of_length_eq_zero hl.symm
    · refine Rp.newT ok ?_ (a1.rep _) (Same.refl H) q
      have := rep_len (xs := ‹List V›) (k := k) h2 (by omega)
      rw [sizeLine_eq]; omega
end
/-! ### the defs that tell a web, a row -/
def isNumD : PyData → Int → Int → Bool
  | .int i, lo, hi => decide (lo ≤ i) && decide (i ≤ hi)
  | _, _, _ => false
def isTieD : PyData → Int → Bool
  | .tuple [.int i, y], m => isNumD (.int i) 0 (m - 1) && isNumD y (i + 1) (m - 1)
  | _, _ => false
def toPair : PyData → Int × Int
  | .tuple [.int i, .int j] => (i, j)
  | _ => (0, 0)
def toInt : PyData → Int
  | .int i => i
  | _ => 0
def risB {α : Type} (lt : α → α → Bool) (d : α) (xs : List α) : Bool := ((List.range (xs.length - 1)).map (1 + ·)).all fun k => lt (xs.getD (k - 1) d) (xs.getD k d)
def ltI (i j : Int) : Bool := decide (i < j)
def ltP2 (p q : Int × Int) : Bool := HT.lexLt [p.1, p.2] [q.1, q.2]
def isWebD : PyData → Bool
  | .tuple [.int m, .tuple ts] => isNumD (.int m) 1 6 && decide (ts.length ≤ 12) && ts.all (isTieD · m) && risB ltP2 (0, 0) (ts.map toPair)
  | _ => false
def isRowD (m : Nat) : PyData → Bool
  | .tuple l => decide (l.length = m) && l.all (isNumD · 0 ((m : Int) - 1)) && decide ((dedup (l.map toInt)).length = m)
  | _ => false
def lay (d : PyData) : Prop := d.canLay0 = true
theorem lay.nd {d : PyData} (h : lay d) : isDict d = false := by cases d <;> first | rfl | (cases h)
def rNum (ds : List PyData) (d : PyData) : Prop := ∃ x lo hi, ds = [x, .int lo, .int hi] ∧ lay x ∧ d = .bool (isNumD x lo hi)
def rRising (ds : List PyData) (d : PyData) : Prop := (∃ ns : List Int, ds = [.tuple (ns.map .int)] ∧ ns.length ≤ 1000 ∧ d = .bool (risB ltI 0 ns)) ∨ (∃ ps : List (Int × Int), ds = [.tuple (ps.map pairD)] ∧ ps.length ≤ 1000 ∧ d = .bool (risB ltP2 (0, 0) ps))
def rTie (ds : List PyData) (d : PyData) : Prop := ∃ x m, ds = [x, .int m] ∧ lay x ∧ d = .bool (isTieD x m)
def rIsWeb (ds : List PyData) (d : PyData) : Prop := ∃ x, ds = [x] ∧ lay x ∧ d = .bool (isWebD x)
def rIsRow (ds : List PyData) (d : PyData) : Prop := ∃ (m : Nat) (ties : List (Int × Int)) (x : PyData), ds = [webD m ties, x] ∧ lay x ∧ m ≤ 60 ∧ d = .bool (isRowD m x)
theorem lay_all {l : List PyData} (h : PyData.canLayAll0 l = true) : ∀ x ∈ l, lay x := by
  induction l with
  | nil => intro x hx; cases hx
  | cons y l ih =>
    intro x hx
    have h' : y.canLay0 = true ∧ PyData.canLayAll0 l = true := by simpa [PyData.canLayAll0] using h
    rcases List.mem_cons.mp hx with e | e
    · rw [e]; exact h'.1
    · exact ih h'.2 x e
theorem lay.tup {l : List PyData} (h : lay (.tuple l)) : ∀ x ∈ l, lay x := lay_all h
theorem tie_len {m : Int} : ∀ {l : List PyData}, l.length ≠ 2 → isTieD (.tuple l) m = false
  | [], _ => rfl
  | [x], _ => by cases x <;> rfl
  | [x, y], h => absurd rfl h
  | x :: y :: z :: r, _ => by cases x <;> rfl
theorem web_len : ∀ {l : List PyData}, l.length ≠ 2 → isWebD (.tuple l) = false
  | [], _ => rfl
  | [x], _ => by cases x <;> rfl
  | [x, y], h => absurd rfl h
  | x :: y :: z :: r, _ => by cases x <;> first | rfl | (cases y <;> rfl)
theorem tie_pair {x : PyData} {m : Int} (h : isTieD x m = true) : x = pairD (toPair x) := by
  unfold isTieD at h
  split at h
  · rename_i i y
    cases y with
    | int j => rfl
    | _ => simp [isNumD] at h
  · cases h
theorem num_int {x : PyData} {lo hi : Int} (h : isNumD x lo hi = true) : x = .int (toInt x) := by
  cases x with
  | int i => rfl
  | _ => cases h
theorem map_self {f : PyData → PyData} : ∀ {l : List PyData}, (∀ x ∈ l, x = f x) → l = l.map f
  | [], _ => rfl
  | x :: l, h => by
    rw [List.map_cons, ← h x List.mem_cons_self, ← map_self fun y hy => h y (List.mem_cons_of_mem _ hy)]
end DL

set_option Elab.async false
set_option linter.all false
set_option maxRecDepth 100000
namespace DL
open PySem PySem.Spec L2
set_option autoImplicit false
/-! ### webs and rows are told so -/
theorem lexLt2 {a b c d : Int} : HT.lexLt [a, b] [c, d] = true ↔ a < c ∨ (a = c ∧ b < d) := by
  show (if a = c then (if b = d then false else decide (b < d)) else decide (a < c)) = true ↔ _
  split
  · split
    · simp; omega
    · simp; omega
  · simp; omega
theorem ris_of {ps : List (Int × Int)} (h1 : ps.Pairwise lexLe) (h2 : ps.Nodup) : risB ltP2 (0, 0) ps = true := by
  unfold risB
  refine List.all_eq_true.mpr fun k hk => ?_
  obtain ⟨j, hj, rfl⟩ := List.mem_map.mp hk
  rw [List.mem_range] at hj
  have a1 : 1 + j - 1 < ps.length := by omega
  have a2 : 1 + j < ps.length := by omega
  rw [List.getD_eq_getElem?_getD, List.getD_eq_getElem?_getD, List.getElem?_eq_getElem a1, List.getElem?_eq_getElem a2]
  have g1 := List.pairwise_iff_getElem.mp h1 _ _ a1 a2 (by omega)
  have g2 := List.pairwise_iff_getElem.mp h2 _ _ a1 a2 (by omega)
  dsimp only [Option.getD]
  unfold ltP2
  generalize ps[1 + j - 1] = p at *
  generalize ps[1 + j] = q at *
  rw [lexLt2]
  unfold lexLe at g1
  rcases g1 with g | ⟨g, g3⟩
  · exact .inl g
  · refine .inr ⟨g, ?_⟩
    have : p.2 ≠ q.2 := fun e => g2 (Prod.ext g e)
    omega
theorem web_true {m : Nat} {ties : List (Int × Int)} (W : WebOk m ties) (h1 : 1 ≤ m) (h6 : m ≤ 6) (h12 : ties.length ≤ 12) : isWebD (webD m ties) = true := by
  show (isNumD (.int m) 1 6 && decide ((ties.map pairD).length ≤ 12) && (ties.map pairD).all (isTieD · m) && risB ltP2 (0, 0) ((ties.map pairD).map toPair)) = true
  have e : (ties.map pairD).map toPair = ties := by
    rw [List.map_map]
    exact (List.map_congr_left (g := id) fun x _ => rfl).trans (List.map_id _)
  rw [e, ris_of W.srt W.nd, List.length_map, decide_eq_true h12, Bool.and_true]
  have a : (ties.map pairD).all (isTieD · m) = true := by
    refine List.all_eq_true.mpr fun x hx => ?_
    obtain ⟨t, ht, rfl⟩ := List.mem_map.mp hx
    have o := W.ok t ht
    have := o.nn; have := o.lt; have := o.le
    show ((decide ((0 : Int) ≤ t.1) && decide (t.1 ≤ (m : Int) - 1)) && (decide (t.1 + 1 ≤ t.2) && decide (t.2 ≤ (m : Int) - 1))) = true
    simp; omega
  rw [a]
  show ((decide ((1 : Int) ≤ m) && decide ((m : Int) ≤ 6)) && true && true) = true
  simp; omega
theorem upto_nodup (n : Nat) : (upto (n : Int)).Nodup := by
  unfold upto
  rw [Int.toNat_natCast]
  unfold List.Nodup
  rw [List.pairwise_map]
  exact List.pairwise_lt_range.imp fun h e => by omega
theorem row_true {m : Nat} {row : List Int} (h : row.Perm (upto m)) : isRowD m (rowD row) = true := by
  show (decide ((row.map PyData.int).length = m) && (row.map PyData.int).all (isNumD · 0 ((m : Int) - 1)) && decide ((dedup ((row.map PyData.int).map toInt)).length = m)) = true
  have hl : row.length = m := h.length_eq.trans (upto_len m)
  have e : (row.map PyData.int).map toInt = row := by
    rw [List.map_map]
    exact (List.map_congr_left (g := id) fun x _ => rfl).trans (List.map_id _)
  have nd : row.Nodup := h.nodup_iff.mpr (upto_nodup m)
  have d : (dedup row).length = row.length := nodup_len (nodup_dedup row) nd fun k => mem_dedup
  have a : (row.map PyData.int).all (isNumD · 0 ((m : Int) - 1)) = true := by
    refine List.all_eq_true.mpr fun x hx => ?_
    obtain ⟨t, ht, rfl⟩ := List.mem_map.mp hx
    have := mem_upto.mp (h.mem_iff.mp ht)
    show (decide ((0 : Int) ≤ t) && decide (t ≤ (m : Int) - 1)) = true
    simp; omega
  rw [e, a, d, List.length_map, hl]
  simp
/-! ### spoilt ones are not -/
theorem row_len {m : Nat} {l : List PyData} (h : l.length ≠ m) : isRowD m (.tuple l) = false := by
  show (decide (l.length = m) && _ && _) = false
  rw [decide_eq_false h]; rfl
theorem row_at {m : Nat} {l : List PyData} {x : PyData} (hx : x ∈ l) (h : isNumD x 0 ((m : Int) - 1) = false) : isRowD m (.tuple l) = false := by
  show (_ && l.all _ && _) = false
  have : l.all (isNumD · 0 ((m : Int) - 1)) = false := by
    refine Bool.eq_false_iff.mpr fun w => ?_
    have := List.all_eq_true.mp w x hx
    rw [h] at this; cases this
  rw [this, Bool.and_false]; rfl
theorem nodup_sub : ∀ {xs ys : List Int}, xs.Nodup → (∀ x ∈ xs, x ∈ ys) → xs.length ≤ ys.length
  | [], _, _, _ => by simp
  | x :: xs, ys, h, s => by
    obtain ⟨h1, h2⟩ := List.nodup_cons.mp h
    have hx := s x List.mem_cons_self
    have := nodup_sub (ys := ys.erase x) h2 fun y hy => (List.mem_erase_of_ne fun e => by subst e; exact h1 hy).mpr (s y (List.mem_cons_of_mem _ hy))
    rw [List.length_erase_of_mem hx] at this
    have := List.length_pos_of_mem hx
    rw [List.length_cons]
    omega
theorem row_dup {m : Nat} {ns : List Int} {ys : List Int} (hs : ∀ x ∈ ns, x ∈ ys) (hy : ys.length < m) : isRowD m (.tuple (ns.map .int)) = false := by
  show (_ && _ && decide ((dedup ((ns.map PyData.int).map toInt)).length = m)) = false
  have e : (ns.map PyData.int).map toInt = ns := by
    rw [List.map_map]
    exact (List.map_congr_left (g := id) fun x _ => rfl).trans (List.map_id _)
  have := nodup_sub (nodup_dedup ns) fun x hx => hs x (mem_dedup.mp hx)
  have q : decide ((dedup ns).length = m) = false := decide_eq_false (by omega)
  rw [e, q, Bool.and_false]
theorem cut_m1 {α : Type} (xs : List α) : cutD xs none (some (-1)) = xs.take (xs.length - 1) := by
  unfold cutD HT.sIx
  simp
  rw [show (-1 + (xs.length : Int)).toNat = xs.length - 1 by omega]
  omega
theorem cut_drop {α : Type} (xs : List α) : cutD xs (some 1) none = xs.drop 1 := by
  show (xs.drop (HT.sIx xs.length 0 (some ((1 : Nat) : Int)))).take (HT.sIx xs.length xs.length none - HT.sIx xs.length 0 (some ((1 : Nat) : Int))) = _
  rw [HT.sIx_none, HT.sIx_nat]
  cases xs with
  | nil => rfl
  | cons x xs => rw [Nat.min_eq_left (by simp)]; exact List.take_of_length_le (by simp)
theorem cut_take {α : Type} (xs : List α) : cutD xs none (some 1) = xs.take 1 := by
  show (xs.drop (HT.sIx xs.length 0 none)).take (HT.sIx xs.length xs.length (some ((1 : Nat) : Int)) - HT.sIx xs.length 0 none) = _
  rw [HT.sIx_none, HT.sIx_nat]
  cases xs with
  | nil => rfl
  | cons x xs => simp
/-- the webs spoilt -/
def bads0 (m : PyData) (T : List PyData) : List PyData := [.tuple [.int 0, .tuple []], .tuple [.int 7, .tuple T], .tuple [.bool true, .tuple []], .tuple [m, .list T], .list [m, .tuple T], .tuple [m], .tuple [m, .tuple T, .int 0], .none]
def bads1 : List PyData := [.int 7, .str "web"]
def badT (m : PyData) : List PyData := [.tuple [.int 0, m], .tuple [.int (-1), .int 0], .tuple [.int 0, .int 0], .tuple [.int 1, .int 0], .tuple [.int 0], .tuple [.int 0, .int 1, .int 2], .list [.int 0, .int 1], .tuple [.bool false, .int 1], .tuple [.int 0, .bool true], .int 0, .str "0-1"]
def bads2 : List PyData := [.tuple [.int 3, .tuple [.tuple [.int 1, .int 2], .tuple [.int 0, .int 1]]], .tuple [.int 2, .tuple [.tuple [.int 0, .int 1], .tuple [.int 0, .int 1]]]]
def stepBad (m : PyData) (T : List PyData) (acc : List PyData) (b : PyData) : List PyData := acc ++ [.tuple [m, .tuple ([b] ++ T)]]
def pairs5 (k : Nat) : List PyData := ((List.range (6 - (k + 1))).map (k + 1 + ·)).map fun n => npD (k, n)
def fifteen : List PyData := (List.range 5).foldl (fun acc k => acc ++ pairs5 k) []
def badsM (m : PyData) (T : List PyData) : List PyData := ((badT m).foldl (stepBad m T) (bads0 m T ++ bads1) ++ bads2) ++ [.tuple [.int 6, .tuple (fifteen.take 13)]]
theorem badsM_eq (m : PyData) (T : List PyData) : badsM m T = ((bads0 m T ++ bads1) ++ (badT m).map (fun b => .tuple [m, .tuple ([b] ++ T)]) ++ bads2) ++ [.tuple [.int 6, .tuple (fifteen.take 13)]] := by
  unfold badsM
  have : stepBad m T = fun acc x => acc ++ [PyData.tuple [m, .tuple ([x] ++ T)]] := rfl
  rw [this, foldl_app]
  rw [← List.flatMap_singleton' ((badT m).map _), List.flatMap_map]
theorem bads_len (m : PyData) (T : List PyData) : (badsM m T).length = 24 := by
  rw [badsM_eq]
  simp [bads0, bads1, badT, bads2]
theorem web_bad_tie {m : Int} {b : PyData} {T : List PyData} (h : isTieD b m = false) : isWebD (.tuple [.int m, .tuple ([b] ++ T)]) = false := by
  show (_ && _ && (isTieD b m && _) && _) = false
  rw [h, Bool.false_and, Bool.and_false]; rfl
theorem bads_no (m : Nat) (ties : List (Int × Int)) : ∀ x ∈ badsM (natD m) (ties.map pairD), isWebD x = false ∧ lay x := by
  have hT : PyData.canLayAll0 (ties.map pairD) = true := (nc_all (nc_pairs ties)).1
  intro x hx
  rw [badsM_eq] at hx
  simp only [List.mem_append] at hx
  rcases hx with ((((hx | hx) | hx) | hx) | hx)
  · simp only [bads0, List.mem_cons, List.not_mem_nil, or_false] at hx
    rcases hx with rfl | rfl | rfl | rfl | rfl | rfl | rfl | rfl <;> refine ⟨rfl, ?_⟩ <;> simp [lay, PyData.canLay0, PyData.canLayAll0, hT, natD]
  · simp only [bads1, List.mem_cons, List.not_mem_nil, or_false] at hx
    rcases hx with rfl | rfl
    · exact ⟨rfl, rfl⟩
    · exact ⟨rfl, by unfold lay; decide +kernel⟩
  · obtain ⟨b, hb, rfl⟩ := List.mem_map.mp hx
    have q : isTieD b (m : Int) = false ∧ b.canLay0 = true := by
      simp only [badT, List.mem_cons, List.not_mem_nil, or_false] at hb
      rcases hb with rfl | rfl | rfl | rfl | rfl | rfl | rfl | rfl | rfl | rfl | rfl
      · refine ⟨?_, rfl⟩
        show ((decide ((0 : Int) ≤ 0) && decide ((0 : Int) ≤ (m : Int) - 1)) && (decide ((0 : Int) + 1 ≤ (m : Int)) && decide ((m : Int) ≤ (m : Int) - 1))) = false
        simp; omega
      · exact ⟨by simp [isTieD, isNumD], rfl⟩
      · exact ⟨by simp [isTieD, isNumD], rfl⟩
      · exact ⟨by simp [isTieD, isNumD], rfl⟩
      · exact ⟨rfl, rfl⟩
      · exact ⟨rfl, rfl⟩
      · exact ⟨rfl, rfl⟩
      · exact ⟨rfl, rfl⟩
      · exact ⟨Bool.and_false _, rfl⟩
      · exact ⟨rfl, rfl⟩
      · exact ⟨rfl, by decide +kernel⟩
    exact ⟨web_bad_tie q.1, by simp [lay, PyData.canLay0, PyData.canLayAll0, hT, natD, q.2]⟩
  · simp only [bads2, List.mem_cons, List.not_mem_nil, or_false] at hx
    rcases hx with rfl | rfl <;> exact ⟨by decide +kernel, by unfold lay; decide +kernel⟩
  · rw [List.mem_singleton] at hx
    subst hx
    exact ⟨by decide +kernel, by unfold lay; decide +kernel⟩
/-- the rows spoilt -/
def badR1 (R : List Int) (M : Nat) : List PyData := [.tuple ((R.map .int).take (R.length - 1)), .tuple (R.map .int ++ [.int 0]), .list (R.map .int), .tuple ((R.map .int).take (R.length - 1) ++ [natD M]), .tuple ((R.map .int).take (R.length - 1) ++ [.none]), .none, .int 0]
def badR2 (R : List Int) : List PyData := [.tuple ([.int (-1)] ++ (R.map .int).drop 1)]
def badR3 (R : List Int) (M : Nat) : List PyData := [.tuple ((R.map .int).take (R.length - 1) ++ (R.map .int).take 1), .tuple (R.map fun x => .bool (x != 0)), .tuple (List.replicate (M : Int).toNat [PyData.str "0"]).flatten]
theorem lay_tup {l : List PyData} (h : ∀ x ∈ l, lay x) : lay (.tuple l) := by
  show PyData.canLayAll0 l = true
  induction l with
  | nil => rfl
  | cons x l ih => simp only [PyData.canLayAll0, Bool.and_eq_true]; exact ⟨h x List.mem_cons_self, ih fun y hy => h y (List.mem_cons_of_mem _ hy)⟩
theorem lay_ints {R : List Int} : ∀ x ∈ R.map PyData.int, lay x := fun x hx => (nc_ints R x hx).lay
theorem lay_take {l : List PyData} {k : Nat} (h : ∀ x ∈ l, lay x) : ∀ x ∈ l.take k, lay x := fun x hx => h x (List.mem_of_mem_take hx)
theorem lay_drop {l : List PyData} {k : Nat} (h : ∀ x ∈ l, lay x) : ∀ x ∈ l.drop k, lay x := fun x hx => h x (List.mem_of_mem_drop hx)
theorem lay_app {l m : List PyData} (h : ∀ x ∈ l, lay x) (h2 : ∀ x ∈ m, lay x) : ∀ x ∈ l ++ m, lay x := fun x hx => (List.mem_append.mp hx).elim (h x) (h2 x)
theorem lay_one {x : PyData} (h : lay x) : ∀ y ∈ [x], lay y := fun y hy => by rw [List.mem_singleton] at hy; rw [hy]; exact h
theorem rows1_no {R : List Int} {M : Nat} (hl : R.length = M) (h1 : 1 ≤ M) : ∀ x ∈ badR1 R M ++ badR2 R, isRowD M x = false ∧ lay x := by
  intro x hx
  simp only [badR1, badR2, List.mem_append, List.mem_cons, List.not_mem_nil, or_false] at hx
  rcases hx with (rfl | rfl | rfl | rfl | rfl | rfl | rfl) | rfl
  · exact ⟨row_len (by simp; omega), lay_tup (lay_take lay_ints)⟩
  · exact ⟨row_len (by simp; omega), lay_tup (lay_app lay_ints (lay_one rfl))⟩
  · exact ⟨rfl, (nc_lst (nc_ints R)).lay⟩
  · refine ⟨row_at (x := natD M) (by simp) ?_, lay_tup (lay_app (lay_take lay_ints) (lay_one rfl))⟩
    show (decide ((0 : Int) ≤ (M : Int)) && decide ((M : Int) ≤ (M : Int) - 1)) = false
    rw [decide_eq_false (show ¬ (M : Int) ≤ (M : Int) - 1 by omega), Bool.and_false]
  · exact ⟨row_at (x := .none) (by simp) rfl, lay_tup (lay_app (lay_take lay_ints) (lay_one rfl))⟩
  · exact ⟨rfl, rfl⟩
  · exact ⟨rfl, rfl⟩
  · exact ⟨row_at (x := .int (-1)) (by simp) rfl, lay_tup (lay_app (lay_one rfl) (lay_drop lay_ints))⟩
theorem rows3_no {R : List Int} {M : Nat} (hl : R.length = M) (h1 : 1 < M) : ∀ x ∈ badR3 R M, isRowD M x = false ∧ lay x := by
  intro x hx
  simp only [badR3, List.mem_cons, List.not_mem_nil, or_false] at hx
  rcases hx with rfl | rfl | rfl
  · refine ⟨?_, lay_tup (lay_app (lay_take lay_ints) (lay_take lay_ints))⟩
    rw [← List.map_take, ← List.map_take, ← List.map_append]
    refine row_dup (ys := R.take (R.length - 1)) (fun y hy => ?_) (by simp; omega)
    rcases List.mem_append.mp hy with h | h
    · exact h
    · cases R with
      | nil => simp at h
      | cons a R =>
        cases R with
        | nil => simp at hl; omega
        | cons b R => simp at h ⊢; exact .inl h
  · cases R with
    | nil => simp at hl; omega
    | cons a R => 
      refine ⟨row_at (x := .bool (a != 0)) (by simp) rfl, lay_tup fun x hx => ?_⟩
      obtain ⟨y, _, rfl⟩ := List.mem_map.mp hx
      rfl
  · have hm : ∀ x ∈ (List.replicate (M : Int).toNat [PyData.str "0"]).flatten, x = .str "0" := by
      intro x hx
      obtain ⟨l, hl, hx⟩ := List.mem_flatten.mp hx
      rw [(List.mem_replicate.mp hl).2, List.mem_singleton] at hx
      exact hx
    have h0 : PyData.str "0" ∈ (List.replicate (M : Int).toNat [PyData.str "0"]).flatten := List.mem_flatten.mpr ⟨_, List.mem_replicate.mpr ⟨by omega, rfl⟩, by simp⟩
    refine ⟨row_at h0 rfl, lay_tup fun x hx => ?_⟩
    rw [hm x hx]
    unfold lay; decide +kernel
def rBad (ds : List PyData) (d : PyData) : Prop := ∃ (m : Nat) (ties : List (Int × Int)) (z : Int), ds = [webD m ties, .int z] ∧ ties.length ≤ 100 ∧ d = (badsM (natD m) (ties.map pairD)).getD (z % 24).toNat .none
end DL

set_option Elab.async false
set_option linter.all false
set_option maxRecDepth 100000
set_option maxHeartbeats 1000000
namespace DL
open PySem PySem.Spec L2
set_option autoImplicit false
/-! ### sorted(set(xs)), xs a tuple of whole numbers -/
def tSortSetF (K : PySem.W.Frag) (ta : TE) : TE := fun σ H Q => ta σ H fun x H1 => ∃ (l : Addr) (ns : List Int), x = V.ref l ∧ SqT K H1 l (ns.map V.int) ∧ ns.length < 64 ∧
  ∀ (ms : List Int) (p : Addr), ms.Pairwise (· < ·) → (∀ k : Int, k ∈ ms ↔ k ∈ ns) → H1 p = none → ms.length ≤ sizeLine → Q (.ref p) (upd H1 p (.lst (ms.map V.int)))
section
variable {G : Ct} {δ δ2 : DEnv} {ω : Own} {a e : Expr} {body : List Stmt} {pos p p2 q : Pos} {y : PyData} {ts : TSpec} {ds : List PyData}
theorem pe_sortSetF {X : Cx} {ta : TE} (hc : X.calm = true) (hg : Gl X "sorted") (hm : X.mg "sorted" = none) (hg2 : Gl X "set") (hm2 : X.mg "set" = none) (ha : PE X a ta)
    (na : starEach [a] X.env = (false, eval a X.env) :: starEach [] X.env) (nb : starEach [.Call (.Name "set" p2) [a] [] q] X.env = (false, eval (.Call (.Name "set" p2) [a] [] q) X.env) :: starEach [] X.env) : PE X (.Call (.Name "sorted" p) [.Call (.Name "set" p2) [a] [] q] [] pos) (tSortSetF X.K ta) := by
  refine ⟨fun pins s σ H Q I h => ?_⟩
  refine PyProof.Rows.Call_ (ld_blt I hg hm PyProof.Rows.boot_sorted ?_)
  refine PyProof.Rows.callWith_builtin1 (PyProof.Rows.args_cons ?_ nb) nb rfl
  refine PyProof.Rows.Call_ (ld_blt I hg2 hm2 PyProof.Rows.boot_set ?_)
  refine PyProof.Rows.callWith_type1 (PyProof.Rows.args_cons (thn (ha.run pins s σ H _ I h) fun v s1 ⟨x, H1, I1, r1, q1⟩ => PyProof.Rows.args_nil ?_) na) na rfl
  obtain ⟨l, ns, e, hq, hz, q1⟩ := q1
  subst e
  obtain rfl : v = .ref l := r1
  obtain ⟨its, r, pt, _⟩ := I1.tuple hq
  refine call_set_tupI ns (I1.ok.hd hc) (show s1.heap.IsTuple l its.toArray from pt) (by simpa using r.ints) (by unfold scanBound; omega) fun h' tk c R1 hcn k => ?_
  refine PyProof.Rows.args_nil ?_
  have I2 : Inv X pins σ H1 { s1 with heap := h', toks := tk } := I1.kept k
  refine sorted_set R1 (I1.ok.hd hc) (by omega) fun s' p out c ms kk g o hp hg hi hs hm hl => ?_
  have hlen : (ms.map V.int).length ≤ sizeLine := by rw [List.length_map, hl, sizeLine_eq]; omega
  have hn : H1 p = none := I2.hok.fresh hp
  have J : Inv X pins σ (upd H1 p (.lst (ms.map V.int))) { ({ s1 with heap := h', toks := tk } : Shared) with heap := s'.heap, gens := s'.gens, drawn := s'.drawn, toks := s'.toks } :=
    Inv.call (s := { s1 with heap := h', toks := tk }) I2 (ch := []) (Un.laid kk hp hn) (I2.hok.laid kk hp ⟨hlen, out.toList, c, vals_of_ints hi, hg⟩) (by rw [g]; exact I2.bare) (fun _ z => nomatch z)
  have e2 : s' = { s1 with heap := s'.heap, gens := s'.gens, drawn := s'.drawn, toks := s'.toks } := by
    cases s'
    cases s1
    cases o
    rfl
  rw [e2]
  exact ⟨.ref p, _, J, rfl, q1 ms p hs (fun j => (hm j).trans (by simp)) hn (by rw [List.length_map] at hlen; exact hlen)⟩
theorem dn_sortset {ns ms : List Int} (B : Blt G.m) (hg : globB G.sc "sorted" = true) (hg2 : globB G.sc "set" = true) (ha : DV G δ a (.tuple (ns.map .int))) (hz : ns.length < 64) (hu : ∀ l : List Int, l.Pairwise (· < ·) → (∀ k, k ∈ l ↔ k ∈ ns) → l = ms)
    (na : ∀ env : Env, starEach [a] env = (false, eval a env) :: starEach [] env := by intro _; rfl) (nb : ∀ env : Env, starEach [.Call (.Name "set" p2) [a] [] q] env = (false, eval (.Call (.Name "set" p2) [a] [] q) env) :: starEach [] env := by intro _; rfl) :
    DN G δ (.Call (.Name "sorted" p) [.Call (.Name "set" p2) [a] [] q] [] pos) (ms.map .int) := fun X hX => by
  refine PE.imp (pe_sortSetF hX.calm (gl_of hX hg) (by rw [hX.mg]; exact B.sorted) (gl_of hX hg2) (by rw [hX.mg]; exact B.set) (ha X hX) (na _) (nb _)) fun σ H Q ⟨S, δ', d', ⟨e1, e2⟩, ok, R, q⟩ => ?_
  subst e1 e2
  refine ⟨S, _, _, ⟨rfl, rfl⟩, ok, R, fun v H1 s1 r1 => ?_⟩
  cases r1 with
  | tup e1 k1 z1 a1 =>
    obtain rfl := a1.ints
    refine ⟨_, ns, rfl, by rw [hX.K]; exact SqT.frz (hide_some e1).2, hz, fun l p h1 h2 h3 h4 => ?_⟩
    have := hu l h1 h2
    subst this
    exact q _ p H1 s1 h3 (by rw [List.length_map]; exact h4) (RpAll.ofInts _)
theorem inc_unique : ∀ {l m : List Int}, l.Pairwise (· < ·) → m.Pairwise (· < ·) → (∀ k, k ∈ l ↔ k ∈ m) → l = m := fun {l m} h1 h2 h => by
  have p : l.Perm m := (List.perm_ext_iff_of_nodup (h1.imp fun h e => by omega) (h2.imp fun h e => by omega)).mpr h
  exact List.Perm.eq_of_pairwise (le := (· < ·)) (fun a b _ _ h1 h2 => by omega) h1 h2 p
/-! ### loops whose names change -/
theorem dfor_foldD {α β : Type} (enc : α → PyData) (sd : β → DEnv) (st : β → Own) (f : β → α → β) (I : Nat → β → Prop) : ∀ (xs : List α) (b : β), I xs.length b → (∀ x ∈ xs, ∀ n b, I (n + 1) b → I n (f b x) ∧ ∃ δb, bindT ts (enc x) (sd b) = some δb ∧ ofree ts (st b) ∧ ∃ δ1, DSs G δb (st b) body (.next δ1 (st (f b x))) ∧ Le (sd (f b x)) δ1) →
    DFor G ts body (xs.map enc) (sd b) (st b) (.next (sd (xs.foldl f b)) (st (xs.foldl f b)))
  | [], _, _, _ => rfl
  | x :: xs, b, hb, h => by
    obtain ⟨hi, δb, h1, h2, δ1, h3, w⟩ := h x List.mem_cons_self _ b hb
    exact ⟨δb, h1, h2, .inl ⟨_, _, h3.weak w, dfor_foldD enc sd st f I xs _ hi fun y hy => h y (List.mem_cons_of_mem _ hy)⟩⟩
theorem cut_dropn {α : Type} (xs : List α) (k : Nat) : cutD xs (some (k : Int)) none = xs.drop k := by
  unfold cutD
  rw [HT.sIx_none, HT.sIx_nat]
  by_cases h : k ≤ xs.length
  · rw [Nat.min_eq_left h]; exact List.take_of_length_le (by simp)
  · rw [List.drop_eq_nil_of_le (by omega), List.drop_eq_nil_of_le (by omega)]; simp
theorem numbered_nat {α : Type} (enc : α → PyData) (d : α) (l : List α) : numbered (l.map enc) = (List.range l.length).map fun k => .tuple [natD k, enc (l.getD k d)] := by
  refine List.ext_getElem? fun i => ?_
  cases h : (numbered (l.map enc))[i]? with
  | none =>
    have h1 := List.getElem?_eq_none_iff.mp h
    rw [numbered_len, List.length_map] at h1
    rw [List.getElem?_eq_none (by simpa using h1)]
  | some x =>
    obtain ⟨d', h1, rfl⟩ := numbered_get h
    rw [List.getElem?_map] at h1
    cases h2 : l[i]? with
    | none => rw [h2] at h1; cases h1
    | some y =>
      rw [h2] at h1
      cases h1
      have hi : i < l.length := by
        by_cases hi : i < l.length
        · exact hi
        · rw [List.getElem?_eq_none (by omega)] at h2; cases h2
      rw [List.getElem?_map, List.getElem?_range hi, Option.map_some, List.getD_eq_getElem?_getD, h2]
      rfl
end
/-! ### walks over a list's ends -/
def loopS {α β : Type} (g : β → α → List α → β) : List α → β → β
  | [], b => b
  | t :: rest, b => loopS g rest (g b t rest)
theorem loopS_fold {α β : Type} (g : β → α → List α → β) (d : α) : ∀ (l : List α) (b : β), (List.range l.length).foldl (fun b k => g b (l.getD k d) (l.drop (k + 1))) b = loopS g l b
  | [], b => rfl
  | t :: rest, b => by
    rw [List.length_cons, List.range_succ_eq_map, List.foldl_cons, List.foldl_map]
    exact loopS_fold g d rest (g b t rest)
end DL

set_option Elab.async false
set_option linter.all false
set_option maxRecDepth 100000
namespace DL
open PySem PySem.Spec L2
set_option autoImplicit false
/-! ### greatest sets each two of which clash -/
def gStep (P : Nat → Nat → Bool) (f : List Nat → List Nat → List Nat) (c : List Nat) (best : List Nat) (t : Nat) (rest : List Nat) : List Nat :=
  if best.length < c.length + rest.length + 1 then (if best.length < (f (c ++ [t]) (rest.filter (P t))).length then f (c ++ [t]) (rest.filter (P t)) else best) else best
def grownM (P : Nat → Nat → Bool) : Nat → List Nat → List Nat → List Nat
  | 0, c, _ => c
  | n + 1, c, left => loopS (gStep P (grownM P n) c) left c
def mcl (P : Nat → Nat → Bool) (f : List Nat → Nat) : List Nat → Nat
  | [] => 0
  | t :: rest => max (1 + f (rest.filter (P t))) (mcl P f rest)
def mc (P : Nat → Nat → Bool) : Nat → List Nat → Nat
  | 0, _ => 0
  | n + 1, l => mcl P (mc P n) l
def mStep (P : Nat → Nat → Bool) (f : List Nat → List Nat → Nat) (c : List Nat) (b : Nat) (t : Nat) (rest : List Nat) : Nat := if c.all (P · t) then max b (f (c ++ [t]) rest) else b
def mostM (P : Nat → Nat → Bool) : Nat → List Nat → List Nat → Nat
  | 0, c, _ => c.length
  | n + 1, c, left => loopS (mStep P (mostM P n) c) left c.length
section
variable {P : Nat → Nat → Bool}
theorem mcl_cons (f : List Nat → Nat) (t : Nat) (rest : List Nat) : mcl P f (t :: rest) = max (1 + f (rest.filter (P t))) (mcl P f rest) := rfl
theorem mcl_le {f : List Nat → Nat} (h : ∀ l, f l ≤ l.length) : ∀ l, mcl P f l ≤ l.length
  | [] => Nat.le_refl _
  | t :: rest => by
    have h1 := h (rest.filter (P t))
    have h2 := List.length_filter_le (P t) rest
    have h3 := mcl_le h rest
    rw [mcl_cons, List.length_cons]
    omega
theorem mc_le : ∀ (n : Nat) (l : List Nat), mc P n l ≤ l.length
  | 0, _ => Nat.zero_le _
  | n + 1, l => mcl_le (mc_le n) l
theorem grown_len : ∀ (n : Nat) (c left : List Nat), (grownM P n c left).length = c.length + mc P n left
  | 0, c, _ => rfl
  | n + 1, c, left => by
    have key : ∀ (l best : List Nat), c.length ≤ best.length → (loopS (gStep P (grownM P n) c) l best).length = max best.length (c.length + mcl P (mc P n) l) := by
      intro l
      induction l with
      | nil => intro best h; show best.length = max best.length (c.length + 0); omega
      | cons t rest ih =>
        intro best h
        have ih2 := grown_len n (c ++ [t]) (rest.filter (P t))
        rw [List.length_append, List.length_singleton] at ih2
        have m1 := mc_le (P := P) n (rest.filter (P t))
        have m2 := List.length_filter_le (P t) rest
        have hs : (gStep P (grownM P n) c best t rest).length = max best.length (c.length + 1 + mc P n (rest.filter (P t))) := by
          unfold gStep
          split
          · split <;> omega
          · omega
        show (loopS (gStep P (grownM P n) c) rest (gStep P (grownM P n) c best t rest)).length = _
        rw [ih _ (by rw [hs]; omega), hs]
        rw [mcl_cons]
        omega
    have := key left c (Nat.le_refl _)
    show (loopS (gStep P (grownM P n) c) left c).length = c.length + mcl P (mc P n) left
    omega
theorem most_eq : ∀ (n : Nat) (c left : List Nat), mostM P n c left = c.length + mc P n (left.filter fun x => c.all (P · x))
  | 0, _, _ => rfl
  | n + 1, c, left => by
    have key : ∀ (l : List Nat) (b : Nat), c.length ≤ b → loopS (mStep P (mostM P n) c) l b = max b (c.length + mcl P (mc P n) (l.filter fun x => c.all (P · x))) := by
      intro l
      induction l with
      | nil => intro b h; show b = max b (c.length + 0); omega
      | cons t rest ih =>
        intro b h
        show loopS (mStep P (mostM P n) c) rest (mStep P (mostM P n) c b t rest) = _
        rw [List.filter_cons]
        by_cases q : c.all (P · t) = true
        · have ih2 := most_eq n (c ++ [t]) rest
          have ef : (rest.filter fun x => (c ++ [t]).all (P · x)) = (rest.filter fun x => c.all (P · x)).filter (P t) := by
            rw [List.filter_filter]
            congr 1
            funext x
            rw [List.all_append, Bool.and_comm]
            simp
          rw [ef, List.length_append, List.length_singleton] at ih2
          have hs : mStep P (mostM P n) c b t rest = max b (mostM P n (c ++ [t]) rest) := if_pos q
          rw [if_pos q, hs, ih _ (by omega), ih2]
          rw [mcl_cons]
          omega
        · have hs : mStep P (mostM P n) c b t rest = b := if_neg q
          rw [if_neg q, hs, ih _ h]
    have := key left c.length (Nat.le_refl _)
    show loopS (mStep P (mostM P n) c) left c.length = c.length + mcl P (mc P n) _
    omega
theorem grown_ok : ∀ (n : Nat) (c left : List Nat), ∃ s, grownM P n c left = c ++ s ∧ s.Sublist left ∧ s.Pairwise fun i j => P i j = true
  | 0, c, left => ⟨[], (List.append_nil c).symm, List.nil_sublist _, List.Pairwise.nil⟩
  | n + 1, c, left => by
    have key : ∀ (l best : List Nat), l.Sublist left → (∃ s, best = c ++ s ∧ s.Sublist left ∧ s.Pairwise fun i j => P i j = true) → ∃ s, loopS (gStep P (grownM P n) c) l best = c ++ s ∧ s.Sublist left ∧ s.Pairwise fun i j => P i j = true := by
      intro l
      induction l with
      | nil => intro best _ h; exact h
      | cons t rest ih =>
        intro best hl h
        refine ih _ ((List.sublist_cons_self t rest).trans hl) ?_
        unfold gStep
        split
        · split
          · obtain ⟨s, e, h1, h2⟩ := grown_ok n (c ++ [t]) (rest.filter (P t))
            refine ⟨t :: s, by rw [e, List.append_assoc]; rfl, ((h1.trans List.filter_sublist).cons_cons t).trans hl, List.pairwise_cons.mpr ⟨fun x hx => (List.mem_filter.mp (h1.subset hx)).2, h2⟩⟩
          · exact h
        · exact h
    exact key left c (List.Sublist.refl _) ⟨[], (List.append_nil c).symm, List.nil_sublist _, List.Pairwise.nil⟩
end
theorem nodup_sub4 {xs ys : List Int} (h : xs.Nodup) (s : ∀ x ∈ xs, x ∈ ys) : xs.length ≤ ys.length := by
  induction xs generalizing ys with
  | nil => simp
  | cons x xs ih =>
    obtain ⟨h1, h2⟩ := List.nodup_cons.mp h
    have hx := s x List.mem_cons_self
    have := ih (ys := ys.erase x) h2 fun y hy => (List.mem_erase_of_ne fun e => by subst e; exact h1 hy).mpr (s y (List.mem_cons_of_mem _ hy))
    rw [List.length_erase_of_mem hx] at this
    have := List.length_pos_of_mem hx
    rw [List.length_cons]
    omega
/-! ### the defs' promises -/
def inP (ps : List (Nat × Nat)) (i j : Nat) : Bool := ps.any fun p => decide (p = (i, j))
theorem inP_iff {ps : List (Nat × Nat)} {i j : Nat} : inP ps i j = true ↔ (i, j) ∈ ps := by
  unfold inP
  rw [List.any_eq_true]
  exact ⟨fun ⟨p, hp, e⟩ => of_decide_eq_true e ▸ hp, fun h => ⟨_, h, decide_eq_true rfl⟩⟩
theorem eqv_np (p q : Nat × Nat) : PyData.eqv (npD p) (npD q) = decide (p = q) := by
  have := eqv_pair (npC p) (npC q)
  rw [show npD p = pairD (npC p) from rfl, show npD q = pairD (npC q) from rfl, this]
  refine Bool.eq_iff_iff.mpr ⟨fun h => ?_, fun h => ?_⟩
  · have h := of_decide_eq_true h
    unfold npC at h
    obtain ⟨a, b⟩ := p
    obtain ⟨c, d⟩ := q
    simp at h
    exact decide_eq_true (by rw [show a = c by omega, show b = d by omega])
  · rw [of_decide_eq_true h]; exact decide_eq_true rfl
theorem any_np (ps : List (Nat × Nat)) (i j : Nat) : ((ps.map npD).any fun z => PyData.eqv z (npD (i, j))) = inP ps i j := by
  rw [List.any_map]
  unfold inP
  congr 1
  funext p
  exact eqv_np p (i, j)
def rGrown (n : Nat) (ds : List PyData) (d : PyData) : Prop := ∃ (ps : List (Nat × Nat)) (c left : List Nat), ds = [.tuple (ps.map npD), .tuple (c.map natD), .list (left.map natD)] ∧ left.length < n ∧ c.length + left.length ≤ 60 ∧ d = .tuple ((grownM (inP ps) n c left).map natD)
def rLMost (n : Nat) (ds : List PyData) (d : PyData) : Prop := ∃ (ps : List (Nat × Nat)) (c left : List Nat), ds = [.list (ps.map npD), .list (c.map natD), .list (left.map natD)] ∧ left.length < n ∧ c.length + left.length ≤ 60 ∧ d = natD (mostM (inP ps) n c left)
def rGreatest (ds : List PyData) (d : PyData) : Prop := ∃ (m : Nat) (ties : List (Int × Int)) (r : List Int) (k : Kd), ds = [webD m ties, rowD r, .str k.t] ∧ (∀ t ∈ ties, t.1 ∈ r ∧ t.2 ∈ r) ∧ ties.length < 16 ∧ d = .tuple ((grownM (inP (clashesM ties r k)) 16 [] (List.range ties.length)).map natD)
/-- each with all behind it -/
def cliqB (P : Nat → Nat → Bool) (xs : List Nat) : Bool := (List.range xs.length).all fun k => (xs.drop (k + 1)).all fun o => P (xs.getD k 0) o
def rLClash (ds : List PyData) (d : PyData) : Prop := ∃ (ps : List (Nat × Nat)) (xs : List Nat), ds = [.list (ps.map npD), .tuple (xs.map natD)] ∧ xs.length ≤ 60 ∧ d = .bool (cliqB (inP ps) xs)
def isTiesD (n : Nat) : PyData → Bool
  | .tuple l => l.all (isNumD · 0 ((n : Int) - 1)) && risB ltI 0 (l.map toInt)
  | _ => false
def rTies (ds : List PyData) (d : PyData) : Prop := ∃ (m : Nat) (ties : List (Int × Int)) (x : PyData), ds = [webD m ties, x] ∧ lay x ∧ (∀ l, x = .tuple l → l.length ≤ 1000) ∧ d = .bool (isTiesD ties.length x)
def toNats : PyData → List Nat
  | .tuple l => l.map fun x => (toInt x).toNat
  | _ => []
def rAreCl (ds : List PyData) (d : PyData) : Prop := ∃ (m : Nat) (ties : List (Int × Int)) (r : List Int) (k : Kd) (x : PyData), ds = [webD m ties, rowD r, .str k.t, x] ∧ (∀ t ∈ ties, t.1 ∈ r ∧ t.2 ∈ r) ∧ ties.length ≤ 60 ∧ lay x ∧ (∀ l, x = .tuple l → l.length ≤ 60) ∧ d = .bool (isTiesD ties.length x && cliqB (inP (clashesM ties r k)) (toNats x))
theorem find_all {α : Type} (p : α → Bool) (r : PyData) (δ : DEnv) (ω : Own) (xs : List α) : (match xs.findSome? (fun k => if p k = true then none else some r) with | some r => Out.ret r | none => .next δ ω) = if xs.all p = true then .next δ ω else .ret r := by
  induction xs with
  | nil => rfl
  | cons x xs ih =>
    rw [List.findSome?_cons, List.all_cons]
    cases h : p x with
    | true => simp only [if_true, Bool.true_and]; exact ih
    | false => simp
theorem dss_alt {G : Ct} {δ δ1 : DEnv} {ω ω1 : Own} {st : Stmt} {rest : List Stmt} {b : Bool} {d d0 : PyData} (h : DS G δ ω st (if b = true then .next δ1 ω1 else .ret d0)) (h2 : b = true → DSs G δ1 ω1 rest (.ret d)) (hd : b = false → d = d0) : DSs G δ ω (st :: rest) (.ret d) := by
  cases b with
  | true => exact dss_cons h (h2 rfl)
  | false => rw [hd rfl]; exact dss_end h
theorem isE_filter {α : Type} (p : α → Bool) (f : α → PyData) (l : List α) : ((l.filter fun x => !p x).map f).isEmpty = l.all p := by
  induction l with
  | nil => rfl
  | cons x l ih =>
    rw [List.filter_cons, List.all_cons]
    cases p x with
    | true => simpa using ih
    | false => rfl
theorem ties_nats {n : Nat} {x : PyData} (h : isTiesD n x = true) : ∃ xs : List Nat, x = .tuple (xs.map natD) ∧ toNats x = xs := by
  unfold isTiesD at h
  split at h
  · rename_i l
    have ha := List.all_eq_true.mp (Bool.and_eq_true_iff.mp h).1
    refine ⟨l.map fun x => (toInt x).toNat, ?_, rfl⟩
    congr 1
    rw [List.map_map]
    refine map_self fun x hx => ?_
    have hx2 := ha x hx
    cases x with
    | int i =>
      have : 0 ≤ i := by
        have := (Bool.and_eq_true_iff.mp hx2).1
        exact of_decide_eq_true this
      show PyData.int i = .int ((i.toNat : Nat) : Int)
      rw [Int.toNat_of_nonneg this]
    | _ => cases hx2
  · cases h
/-- rising, below n -/
structure Inc (n : Nat) (xs : List Nat) : Prop where
  rise : xs.Pairwise (· < ·)
  lt : ∀ x ∈ xs, x < n
theorem Inc.len {n : Nat} {xs : List Nat} (h : Inc n xs) : xs.length ≤ n := by
  have : (xs.map fun x : Nat => (x : Int)).length ≤ (upto (n : Int)).length := by
    refine nodup_sub4 ?_ ?_
    · unfold List.Nodup
      rw [List.pairwise_map]
      exact h.rise.imp fun h e => by omega
    · intro x hx
      obtain ⟨y, hy, rfl⟩ := List.mem_map.mp hx
      exact mem_upto.mpr ⟨by omega, by have := h.lt y hy; omega⟩
  rw [List.length_map, upto_len] at this
  exact this
theorem Inc.filter {n : Nat} (p : Nat → Bool) : Inc n ((List.range n).filter p) := ⟨List.Pairwise.filter _ List.pairwise_lt_range, fun x hx => List.mem_range.mp (List.mem_filter.mp hx).1⟩
theorem Inc.sub {n : Nat} {xs : List Nat} (h : xs.Sublist (List.range n)) : Inc n xs := ⟨List.Pairwise.sublist h List.pairwise_lt_range, fun x hx => List.mem_range.mp (h.subset hx)⟩
theorem Inc.ties {n : Nat} {xs : List Nat} (h : Inc n xs) : isTiesD n (.tuple (xs.map natD)) = true ∧ toNats (.tuple (xs.map natD)) = xs := by
  constructor
  · show (_ && risB ltI 0 _) = true
    have e : (xs.map natD).map toInt = xs.map fun x : Nat => (x : Int) := by rw [List.map_map]; rfl
    have a : (xs.map natD).all (isNumD · 0 ((n : Int) - 1)) = true := by
      refine List.all_eq_true.mpr fun x hx => ?_
      obtain ⟨t, ht, rfl⟩ := List.mem_map.mp hx
      have := h.lt t ht
      show (decide ((0 : Int) ≤ (t : Int)) && decide ((t : Int) ≤ (n : Int) - 1)) = true
      simp; omega
    rw [a, e, Bool.true_and]
    unfold risB
    refine List.all_eq_true.mpr fun k hk => ?_
    obtain ⟨j, hj, rfl⟩ := List.mem_map.mp hk
    rw [List.mem_range, List.length_map] at hj
    have a1 : 1 + j - 1 < xs.length := by omega
    have a2 : 1 + j < xs.length := by omega
    have g := List.pairwise_iff_getElem.mp h.rise _ _ a1 a2 (by omega)
    rw [List.getD_eq_getElem?_getD, List.getD_eq_getElem?_getD, List.getElem?_map, List.getElem?_map, List.getElem?_eq_getElem a1, List.getElem?_eq_getElem a2]
    exact decide_eq_true (by show ((xs[1 + j - 1] : Nat) : Int) < ((xs[1 + j] : Nat) : Int); omega)
  · show (xs.map natD).map (fun x => (toInt x).toNat) = xs
    rw [List.map_map]
    exact (List.map_congr_left (g := id) fun x _ => by show (((x : Nat) : Int)).toNat = x; omega).trans (List.map_id _)
theorem Inc.ints {n : Nat} {xs : List Nat} (h : Inc n xs) : (xs.map fun x : Nat => (x : Int)).Pairwise (· < ·) := by
  rw [List.pairwise_map]
  exact h.rise.imp fun h => by omega
theorem natD_ints (xs : List Nat) : xs.map natD = (xs.map fun x : Nat => (x : Int)).map .int := by rw [List.map_map]; rfl
/-- things that are no ties -/
theorem ties_at {n : Nat} {l : List PyData} {x : PyData} (hx : x ∈ l) (h : isNumD x 0 ((n : Int) - 1) = false) : isTiesD n (.tuple l) = false := by
  show (l.all _ && _) = false
  have : l.all (isNumD · 0 ((n : Int) - 1)) = false := by
    refine Bool.eq_false_iff.mpr fun w => ?_
    have := List.all_eq_true.mp w x hx
    rw [h] at this; cases this
  rw [this]; rfl
def badTs (n : Nat) (found : List Nat) : List PyData := [.tuple (found.map natD ++ [natD n]), .tuple [.int (-1)], .tuple [.int 0, .int 0], .list (found.map natD), .none, .tuple [.str "0"], .tuple [.none], .tuple [.bool true, .int 2]]
theorem badTs_no {n : Nat} {found : List Nat} (hf : found.length ≤ 50) : ∀ x ∈ badTs n found, isTiesD n x = false ∧ lay x ∧ ∀ l, x = .tuple l → l.length ≤ 60 := by
  intro x hx
  simp only [badTs, List.mem_cons, List.not_mem_nil, or_false] at hx
  have nl : ∀ y ∈ found.map natD, lay y := fun y hy => by
    obtain ⟨i, _, rfl⟩ := List.mem_map.mp hy
    rfl
  rcases hx with rfl | rfl | rfl | rfl | rfl | rfl | rfl | rfl
  · refine ⟨ties_at (x := natD n) (by simp) ?_, ?_, fun l e => by cases e; simp; omega⟩
    · show (decide ((0 : Int) ≤ (n : Int)) && decide ((n : Int) ≤ (n : Int) - 1)) = false
      rw [decide_eq_false (show ¬ (n : Int) ≤ (n : Int) - 1 by omega), Bool.and_false]
    · exact (nc_tup (n := 0) fun y hy => by
        rcases List.mem_append.mp hy with h | h
        · obtain ⟨i, _, rfl⟩ := List.mem_map.mp h; exact nc_int _
        · rw [List.mem_singleton] at h; rw [h]; exact nc_int _).lay
  · exact ⟨ties_at (x := .int (-1)) (by simp) rfl, rfl, fun l e => by cases e; simp⟩
  · refine ⟨?_, rfl, fun l e => by cases e; simp⟩
    show (_ && false) = false
    rw [Bool.and_false]
  · exact ⟨rfl, (nc_lst (n := 0) fun y hy => by obtain ⟨i, _, rfl⟩ := List.mem_map.mp hy; exact nc_int _).lay, fun l e => by cases e⟩
  · exact ⟨rfl, rfl, fun l e => by cases e⟩
  · exact ⟨ties_at (x := .str "0") (by simp) rfl, by unfold lay; decide +kernel, fun l e => by cases e; simp⟩
  · exact ⟨ties_at (x := .none) (by simp) rfl, rfl, fun l e => by cases e; simp⟩
  · exact ⟨ties_at (x := .bool true) (by simp) rfl, rfl, fun l e => by cases e; simp⟩
theorem cut_take2 {α : Type} (xs : List α) : cutD xs none (some 2) = xs.take 2 := by
  show (xs.drop (HT.sIx xs.length 0 none)).take (HT.sIx xs.length xs.length (some ((2 : Nat) : Int)) - HT.sIx xs.length 0 none) = _
  rw [HT.sIx_none, HT.sIx_nat, List.drop_zero, Nat.sub_zero, List.take_eq_take_iff]
  omega
theorem cliq_of {P : Nat → Nat → Bool} {xs : List Nat} (h : xs.Pairwise fun i j => P i j = true) : cliqB P xs = true := by
  refine List.all_eq_true.mpr fun k hk => List.all_eq_true.mpr fun o ho => ?_
  rw [List.mem_range] at hk
  obtain ⟨i, hi, e⟩ := List.mem_iff_getElem.mp ho
  rw [List.getElem_drop] at e
  rw [List.length_drop] at hi
  rw [List.getD_eq_getElem?_getD, List.getElem?_eq_getElem hk, ← e]
  exact List.pairwise_iff_getElem.mp h _ _ hk (by omega) (by omega)
end DL

set_option Elab.async false
set_option linter.all false
set_option maxRecDepth 100000
namespace DL
open PySem PySem.Spec L2
set_option autoImplicit false
/-! ### pages: the search -/
def dc (pages : List Nat) : Nat := (dedup (pages.map fun x : Nat => (x : Int))).length
def okP (P : Nat → Nat → Bool) (pages : List Nat) (p : Nat) : Bool := !(List.range pages.length).any fun o => decide (pages.getD o 0 = p) && P o pages.length
def laidM (P : Nat → Nat → Bool) (many size : Nat) : Nat → List Nat → Option (List Nat)
  | 0, _ => none
  | n + 1, pages => if pages.length = size then some pages else (List.range (min many (dc pages + 1))).findSome? fun p => if okP P pages p = true then laidM P many size n (pages ++ [p]) else none
def canM (P : Nat → Nat → Bool) (many size : Nat) : Nat → List Nat → Bool
  | 0, _ => false
  | n + 1, pages => if pages.length = size then true else (List.range (min many (dc pages + 1))).any fun p => okP P pages p && canM P many size n (pages ++ [p])
section
variable {P : Nat → Nat → Bool} {many size : Nat}
theorem can_laid : ∀ (n : Nat) (pages : List Nat), canM P many size n pages = (laidM P many size n pages).isSome
  | 0, _ => rfl
  | n + 1, pages => by
    unfold canM laidM
    split
    · rfl
    · refine Bool.eq_iff_iff.mpr ?_
      rw [List.any_eq_true, List.isSome_findSome?, List.any_eq_true]
      constructor
      · rintro ⟨p, hp, h⟩
        obtain ⟨h1, h2⟩ := Bool.and_eq_true_iff.mp h
        exact ⟨p, hp, by rw [if_pos h1, ← can_laid n]; exact h2⟩
      · rintro ⟨p, hp, h⟩
        by_cases q : okP P pages p = true
        · rw [if_pos q, ← can_laid n] at h
          exact ⟨p, hp, by rw [q, h]; rfl⟩
        · rw [if_neg q] at h; cases h
/-! first met -/
def fstStep (acc : List Nat) (x : Nat) : List Nat := if x ∉ acc then acc ++ [x] else acc
def firsts (l : List Nat) : List Nat := l.foldl fstStep []
theorem firsts_snoc (l : List Nat) (x : Nat) : firsts (l ++ [x]) = fstStep (firsts l) x := by unfold firsts; rw [List.foldl_append]; rfl
structure Can (u : Nat) (pages : List Nat) : Prop where
  mem : ∀ x, x ∈ pages ↔ x < u
  fst : firsts pages = List.range u
theorem Can.nil : Can 0 [] := ⟨fun x => by simp, rfl⟩
theorem Can.dc {u : Nat} {pages : List Nat} (h : Can u pages) : dc pages = u := by
  unfold DL.dc
  have : (dedup (pages.map fun x : Nat => (x : Int))).length = (upto (u : Int)).length := by
    refine nodup_len (nodup_dedup _) ?_ fun k => ?_
    · unfold upto
      rw [Int.toNat_natCast]
      unfold List.Nodup
      rw [List.pairwise_map]
      exact List.pairwise_lt_range.imp fun h e => by omega
    · rw [mem_dedup, mem_upto]
      constructor
      · intro hk
        obtain ⟨x, hx, rfl⟩ := List.mem_map.mp hk
        have := (h.mem x).mp hx
        omega
      · rintro ⟨h1, h2⟩
        exact List.mem_map.mpr ⟨k.toNat, (h.mem _).mpr (by omega), by show ((k.toNat : Nat) : Int) = k; omega⟩
  rw [this, upto_len]
theorem Can.snoc {u : Nat} {pages : List Nat} (h : Can u pages) {p : Nat} (hp : p ≤ u) : Can (if p < u then u else u + 1) (pages ++ [p]) := by
  by_cases q : p < u
  · rw [if_pos q]
    refine ⟨fun x => ?_, ?_⟩
    · rw [List.mem_append, List.mem_singleton, h.mem]
      constructor
      · rintro (z | z) <;> omega
      · intro z; exact .inl z
    · rw [firsts_snoc, h.fst]
      exact if_neg (by rw [List.mem_range]; omega)
  · rw [if_neg q]
    have e : p = u := by omega
    refine ⟨fun x => ?_, ?_⟩
    · rw [List.mem_append, List.mem_singleton, h.mem]
      omega
    · rw [firsts_snoc, h.fst, List.range_succ, e]
      exact if_pos (by rw [List.mem_range]; omega)
def Proper (P : Nat → Nat → Bool) (l : List Nat) : Prop := ∀ i j, i < j → j < l.length → P i j = true → l.getD i 0 ≠ l.getD j 0
theorem getD_app {l m : List Nat} {i : Nat} (h : i < l.length) : (l ++ m).getD i 0 = l.getD i 0 := by
  rw [List.getD_eq_getElem?_getD, List.getD_eq_getElem?_getD, List.getElem?_append_left h]
theorem getD_last (l : List Nat) (p : Nat) : (l ++ [p]).getD l.length 0 = p := by
  rw [List.getD_eq_getElem?_getD, List.getElem?_append_right (Nat.le_refl _), Nat.sub_self]
  rfl
theorem Proper.snoc {l : List Nat} {p : Nat} (h : Proper P l) (ok : okP P l p = true) : Proper P (l ++ [p]) := by
  intro i j hij hj hP
  rw [List.length_append, List.length_singleton] at hj
  by_cases e : j = l.length
  · subst e
    rw [getD_app hij, getD_last]
    intro z
    unfold okP at ok
    have : ((List.range l.length).any fun o => decide (l.getD o 0 = p) && P o l.length) = true := List.any_eq_true.mpr ⟨i, List.mem_range.mpr hij, by rw [hP, decide_eq_true z]; rfl⟩
    rw [this] at ok
    cases ok
  · rw [getD_app (by omega), getD_app (by omega)]
    exact h i j hij (by omega) hP
theorem laid_sound : ∀ (n : Nat) (pages l : List Nat) (u : Nat), Can u pages → u ≤ many → Proper P pages → laidM P many size n pages = some l → l.length = size ∧ Proper P l ∧ ∃ v, Can v l ∧ v ≤ many
  | 0, _, _, _, _, _, _, h => by cases h
  | n + 1, pages, l, u, hc, hu, hp, h => by
    unfold laidM at h
    split at h
    · rename_i hs
      cases h
      exact ⟨hs, hp, u, hc, hu⟩
    · obtain ⟨p, hpm, hf⟩ := List.exists_of_findSome?_eq_some h
      rw [List.mem_range, hc.dc] at hpm
      by_cases q : okP P pages p = true
      · rw [if_pos q] at hf
        exact laid_sound n (pages ++ [p]) l _ (hc.snoc (by omega)) (by split <;> omega) (hp.snoc q) hf
      · rw [if_neg q] at hf; cases hf
theorem nodup_subG {α : Type} [DecidableEq α] : ∀ {xs ys : List α}, xs.Nodup → (∀ x ∈ xs, x ∈ ys) → xs.length ≤ ys.length
  | [], _, _, _ => by simp
  | x :: xs, ys, h, s => by
    obtain ⟨h1, h2⟩ := List.nodup_cons.mp h
    have hx := s x List.mem_cons_self
    have := nodup_subG (ys := ys.erase x) h2 fun y hy => (List.mem_erase_of_ne fun e => by subst e; exact h1 hy).mpr (s y (List.mem_cons_of_mem _ hy))
    rw [List.length_erase_of_mem hx] at this
    have := List.length_pos_of_mem hx
    rw [List.length_cons]
    omega
theorem idx_ex {u : Nat} {pages : List Nat} (hc : Can u pages) : ∃ idx : Nat → Nat, ∀ q, q < u → idx q < pages.length ∧ pages.getD (idx q) 0 = q := by
  have : ∀ q, q < u → ∃ i, i < pages.length ∧ pages.getD i 0 = q := fun q hq => by
    obtain ⟨i, hi, e⟩ := List.mem_iff_getElem.mp ((hc.mem q).mpr hq)
    exact ⟨i, hi, by rw [List.getD_eq_getElem?_getD, List.getElem?_eq_getElem hi]; exact e⟩
  exact ⟨fun q => if h : q < u then Classical.choose (this q h) else 0, fun q h => by dsimp only; rw [dif_pos h]; exact Classical.choose_spec (this q h)⟩
theorem used_nodup (g : Nat → Nat) (pages : List Nat) (u : Nat) (idx : Nat → Nat) (hidx : ∀ q, q < u → idx q < pages.length ∧ pages.getD (idx q) 0 = q) (hgp : ∀ i j, i < pages.length → j < pages.length → (pages.getD i 0 = pages.getD j 0 ↔ g i = g j)) : ((List.range u).map fun q => g (idx q)).Nodup := by
  unfold List.Nodup
  rw [List.pairwise_map]
  refine List.Pairwise.imp_of_mem (fun {a b} ha hb h e => ?_) (List.pairwise_lt_range (n := u))
  obtain ⟨a1, a2⟩ := hidx a (List.mem_range.mp ha)
  obtain ⟨b1, b2⟩ := hidx b (List.mem_range.mp hb)
  have := (hgp _ _ a1 b1).mpr e
  omega
theorem used_le (g : Nat → Nat) (hg : ∀ i, i < size → g i < many) (pages : List Nat) (u : Nat) (hc : Can u pages) (hgp : ∀ i j, i < pages.length → j < pages.length → (pages.getD i 0 = pages.getD j 0 ↔ g i = g j)) (hl : pages.length ≤ size) : u ≤ many := by
  obtain ⟨idx, hidx⟩ := idx_ex hc
  have := nodup_subG (ys := List.range many) (used_nodup g pages u idx hidx hgp) fun x hx => by
    obtain ⟨q, hq, rfl⟩ := List.mem_map.mp hx
    exact List.mem_range.mpr (hg _ (by have := (hidx q (List.mem_range.mp hq)).1; omega))
  rw [List.length_map, List.length_range, List.length_range] at this
  exact this
theorem used_lt (g : Nat → Nat) (hg : ∀ i, i < size → g i < many) (pages : List Nat) (u : Nat) (hc : Can u pages) (hgp : ∀ i j, i < pages.length → j < pages.length → (pages.getD i 0 = pages.getD j 0 ↔ g i = g j)) (hl : pages.length < size) (hnew : ∀ i, i < pages.length → g i ≠ g pages.length) : u < many := by
  obtain ⟨idx, hidx⟩ := idx_ex hc
  have := nodup_subG (xs := g pages.length :: (List.range u).map fun q => g (idx q)) (ys := List.range many) (List.nodup_cons.mpr ⟨fun hx => by
    obtain ⟨q, hq, e⟩ := List.mem_map.mp hx
    exact hnew _ (hidx q (List.mem_range.mp hq)).1 e, used_nodup g pages u idx hidx hgp⟩) fun x hx => by
    rcases List.mem_cons.mp hx with e | hx
    · rw [e]; exact List.mem_range.mpr (hg _ hl)
    · obtain ⟨q, hq, rfl⟩ := List.mem_map.mp hx
      exact List.mem_range.mpr (hg _ (by have := (hidx q (List.mem_range.mp hq)).1; omega))
  rw [List.length_cons, List.length_map, List.length_range, List.length_range] at this
  omega
theorem laid_complete (g : Nat → Nat) (hg : ∀ i, i < size → g i < many) (hP : ∀ i j, i < j → j < size → P i j = true → g i ≠ g j) : ∀ (n : Nat) (pages : List Nat) (u : Nat), Can u pages → pages.length ≤ size → size - pages.length < n →
    (∀ i j, i < pages.length → j < pages.length → (pages.getD i 0 = pages.getD j 0 ↔ g i = g j)) → (laidM P many size n pages).isSome = true
  | 0, _, _, _, _, h, _ => by omega
  | n + 1, pages, u, hc, hl, hn, hgp => by
    unfold laidM
    by_cases hs : pages.length = size
    · rw [if_pos hs]; rfl
    · rw [if_neg hs, List.isSome_findSome?, List.any_eq_true]
      have key : ∀ p, p < min many (dc pages + 1) → okP P pages p = true → (∀ i, i < pages.length → (pages.getD i 0 = p ↔ g i = g pages.length)) → ∃ x, x ∈ List.range (min many (dc pages + 1)) ∧ (if okP P pages x = true then laidM P many size n (pages ++ [x]) else none).isSome = true := by
        intro p hp ok hpi
        refine ⟨p, List.mem_range.mpr hp, ?_⟩
        rw [if_pos ok]
        rw [hc.dc] at hp
        refine laid_complete g hg hP n (pages ++ [p]) _ (hc.snoc (by omega)) (by rw [List.length_append, List.length_singleton]; omega) (by rw [List.length_append, List.length_singleton]; omega) fun i j hi hj => ?_
        rw [List.length_append, List.length_singleton] at hi hj
        by_cases ei : i = pages.length <;> by_cases ej : j = pages.length
        · rw [ei, ej]; simp
        · rw [ei, getD_last, getD_app (by omega)]
          exact ⟨fun h => ((hpi j (by omega)).mp h.symm).symm, fun h => ((hpi j (by omega)).mpr h.symm).symm⟩
        · rw [ej, getD_last, getD_app (by omega)]
          exact hpi i (by omega)
        · rw [getD_app (by omega), getD_app (by omega)]
          exact hgp i j (by omega) (by omega)
      have okk : ∀ p, (∀ i, i < pages.length → pages.getD i 0 = p → g i = g pages.length) → okP P pages p = true := by
        intro p h
        unfold okP
        have : ((List.range pages.length).any fun o => decide (pages.getD o 0 = p) && P o pages.length) = false := by
          refine Bool.eq_false_iff.mpr fun w => ?_
          obtain ⟨o, ho, h2⟩ := List.any_eq_true.mp w
          obtain ⟨h3, h4⟩ := Bool.and_eq_true_iff.mp h2
          have ho' := List.mem_range.mp ho
          exact hP o pages.length ho' (by omega) h4 (h o ho' (of_decide_eq_true h3))
        rw [this]; rfl
      -- u used pages have u values of g
      by_cases old : ∃ i, i < pages.length ∧ g i = g pages.length
      · obtain ⟨i, hi, e⟩ := old
        have hm : pages.getD i 0 < u := (hc.mem _).mp (by rw [List.getD_eq_getElem?_getD, List.getElem?_eq_getElem hi]; exact List.getElem_mem hi)
        have hu := used_le g hg pages u hc hgp (by omega)
        refine key (pages.getD i 0) (by rw [hc.dc]; omega) (okk _ fun j hj h => ?_) fun j hj => ?_
        · rw [← e]; exact (hgp j i hj hi).mp h
        · rw [← e]; exact hgp j i hj hi
      · have hu := used_lt g hg pages u hc hgp (by omega) fun i hi h => old ⟨i, hi, h⟩
        refine key u (by rw [hc.dc]; omega) (okk _ fun j hj h => ?_) fun j hj => ?_
        · have := (hc.mem u).mp (by rw [← h, List.getD_eq_getElem?_getD, List.getElem?_eq_getElem hj]; exact List.getElem_mem hj)
          omega
        · constructor
          · intro h
            have := (hc.mem u).mp (by rw [← h, List.getD_eq_getElem?_getD, List.getElem?_eq_getElem hj]; exact List.getElem_mem hj)
            omega
          · intro h; exact absurd ⟨j, hj, h⟩ old
end
end DL

set_option Elab.async false
set_option linter.all false
set_option maxRecDepth 100000
namespace DL
open PySem PySem.Spec L2
set_option autoImplicit false
/-! ### fewest pages -/
section
variable {P : Nat → Nat → Bool} {size : Nat}
abbrev LA (P : Nat → Nat → Bool) (size m : Nat) : Option (List Nat) := laidM P m size 16 []
theorem la_of {m : Nat} (hs : size < 16) (g : Nat → Nat) (hg : ∀ i, i < size → g i < m) (hP : ∀ i j, i < j → j < size → P i j = true → g i ≠ g j) : (LA P size m).isSome = true :=
  laid_complete g hg hP 16 [] 0 Can.nil (Nat.zero_le _) (by show size - 0 < 16; omega) fun i j hi => by simp at hi
theorem least_of {f : Nat → Option (List Nat)} : ∀ k, (f k).isSome = true → ∃ M l, M ≤ k ∧ (∀ m, m < M → f m = none) ∧ f M = some l := by
  intro k
  induction k using Nat.strongRecOn with
  | ind k ih =>
    intro h
    by_cases q : ∃ m, m < k ∧ (f m).isSome = true
    · obtain ⟨m, hm, h2⟩ := q
      obtain ⟨M, l, h3, h4, h5⟩ := ih m hm h2
      exact ⟨M, l, by omega, h4, h5⟩
    · obtain ⟨l, e⟩ := Option.isSome_iff_exists.mp h
      refine ⟨k, l, Nat.le_refl _, fun m hm => ?_, e⟩
      cases h3 : f m with
      | none => rfl
      | some x => exact absurd ⟨m, hm, by rw [h3]; rfl⟩ q
structure Few (P : Nat → Nat → Bool) (size M : Nat) (l : List Nat) : Prop where
  no : ∀ m, m < M → LA P size m = none
  yes : LA P size M = some l
theorem few_ex (P : Nat → Nat → Bool) (hs : size < 16) : ∃ M l, M ≤ size ∧ Few P size M l := by
  obtain ⟨M, l, h1, h2, h3⟩ := least_of (f := LA P size) size (la_of hs (fun i => i) (fun i h => h) fun i j h _ _ => by omega)
  exact ⟨M, l, h1, h2, h3⟩
theorem Few.le {M m : Nat} {l : List Nat} (h : Few P size M l) (hs : size < 16) (g : Nat → Nat) (hg : ∀ i, i < size → g i < m) (hP : ∀ i j, i < j → j < size → P i j = true → g i ≠ g j) : M ≤ m := by
  refine Nat.le_of_not_lt fun c => ?_
  have := la_of hs g hg hP
  rw [h.no m c] at this
  cases this
theorem Few.facts {M : Nat} {l : List Nat} (h : Few P size M l) (hs : size < 16) : l.length = size ∧ Proper P l ∧ Can M l := by
  obtain ⟨h1, h2, v, h3, h4⟩ := laid_sound 16 [] l 0 Can.nil (Nat.zero_le _) (fun i j _ hj => by simp at hj) h.yes
  have : M ≤ v := h.le hs (fun i => l.getD i 0) (fun i hi => (h3.mem _).mp (by rw [List.getD_eq_getElem?_getD, List.getElem?_eq_getElem (by omega)]; exact List.getElem_mem _)) fun i j hij hj hp => h2 i j hij (by omega) hp
  have e : v = M := by omega
  exact ⟨h1, h2, e ▸ h3⟩
theorem Few.not {M : Nat} {l : List Nat} (h : Few P size M l) (hM : 0 < M) : canM P (M - 1) size 16 [] = false := by
  have e : laidM P (M - 1) size 16 [] = none := h.no (M - 1) (by omega)
  rw [can_laid, e]
  rfl
/-! ### sets that clash -/
theorem mc_ge : ∀ (n : Nat) (l s : List Nat), s.Sublist l → (s.Pairwise fun i j => P i j = true) → l.length ≤ n → s.length ≤ mc P n l
  | 0, l, s, h, _, hl => by
    have := h.length_le
    have : l = [] := List.eq_nil_of_length_eq_zero (by omega)
    subst this
    rw [List.sublist_nil.mp h]
    exact Nat.zero_le _
  | n + 1, l, s, h, hp, hl => by
    show s.length ≤ mcl P (mc P n) l
    induction l generalizing s with
    | nil => rw [List.sublist_nil.mp h]; exact Nat.zero_le _
    | cons t rest ih =>
      rw [mcl_cons]
      cases h with
      | cons _ h' =>
        have := ih s h' hp (by rw [List.length_cons] at hl; omega)
        omega
      | @cons_cons s' _ _ h' =>
        obtain ⟨p1, p2⟩ := List.pairwise_cons.mp hp
        have q : s'.Sublist (rest.filter (P t)) := by
          have := h'.filter (P t)
          rw [List.filter_eq_self.mpr fun x hx => p1 x hx] at this
          exact this
        have := mc_ge n _ _ q p2 (by have := List.length_filter_le (P t) rest; rw [List.length_cons] at hl; omega)
        rw [List.length_cons]
        omega
theorem mc_at (n : Nat) (l : List Nat) : ∃ s : List Nat, s.Sublist l ∧ (s.Pairwise fun i j => P i j = true) ∧ s.length = mc P n l := by
  obtain ⟨s, h1, h2, h3⟩ := grown_ok (P := P) n [] l
  have := grown_len (P := P) n [] l
  rw [h1] at this
  simp at this
  exact ⟨s, h2, h3, this⟩
theorem clq_mem {s : List Nat} (h1 : s.Pairwise (· < ·)) (h2 : s.Pairwise fun i j => P i j = true) : ∀ x ∈ s, ∀ y ∈ s, x < y → P x y = true := by
  intro x hx y hy hxy
  obtain ⟨i, hi, rfl⟩ := List.mem_iff_getElem.mp hx
  obtain ⟨j, hj, rfl⟩ := List.mem_iff_getElem.mp hy
  have hij : i < j := by
    refine Nat.lt_of_not_le fun c => ?_
    rcases Nat.lt_or_eq_of_le c with c | c
    · have := List.pairwise_iff_getElem.mp h1 j i hj hi c; omega
    · subst c; omega
  exact List.pairwise_iff_getElem.mp h2 i j hi hj hij
theorem Few.clq {M : Nat} {l : List Nat} (h : Few P size M l) (hs : size < 16) : mc P 16 (List.range size) ≤ M := by
  obtain ⟨h1, h2, h3⟩ := h.facts hs
  obtain ⟨s, g1, g2, g3⟩ := mc_at (P := P) 16 (List.range size)
  have inc := Inc.sub g1
  rw [← g3]
  have := nodup_subG (xs := s.map fun i => l.getD i 0) (ys := List.range M) (by
    unfold List.Nodup
    rw [List.pairwise_map]
    refine List.Pairwise.imp_of_mem (fun {a b} ha hb hab => ?_) inc.rise
    exact h2 a b hab (by rw [h1]; exact inc.lt b hb) (clq_mem inc.rise g2 a ha b hb hab)) fun x hx => by
      obtain ⟨i, hi, rfl⟩ := List.mem_map.mp hx
      have := inc.lt i hi
      exact List.mem_range.mpr ((h3.mem _).mp (by rw [List.getD_eq_getElem?_getD, List.getElem?_eq_getElem (by omega)]; exact List.getElem_mem _))
  rw [List.length_map, List.length_range] at this
  exact this
/-! ### an order's pages: as many as its longest chain -/
theorem add_one {R : Nat → Nat → Bool} (hP : ∀ i j, i < j → j < size → (P i j = true ↔ R i j = true ∨ R j i = true)) {A : Nat → Bool} {j : Nat} (hj : j < size) (hA : A j = true) {B : Nat → Bool} (hB : ∀ x, x < size → B x = true → R j x = true ∧ A x = true) (irr : R j j = false) (hs : size ≤ 16) :
    mc P 16 ((List.range size).filter B) + 1 ≤ mc P 16 ((List.range size).filter A) := by
  obtain ⟨s, g1, g2, g3⟩ := mc_at (P := P) 16 ((List.range size).filter B)
  have sub := g1.trans List.filter_sublist
  have inc := Inc.sub sub
  have sB : ∀ x ∈ s, B x = true := fun x hx => (List.mem_filter.mp (g1.subset hx)).2
  rw [← g3]
  let q : Nat → Bool := fun x => decide (x ∈ s) || decide (x = j)
  have hq : ∀ x, q x = true ↔ x ∈ s ∨ x = j := fun x => by simp [q]
  have e : (List.range size).filter q = ((List.range size).filter A).filter q := by
    rw [List.filter_filter]
    refine List.filter_congr fun x hx => ?_
    cases hqx : q x with
    | false => rfl
    | true =>
      rcases (hq x).mp hqx with h | h
      · rw [(hB x (List.mem_range.mp hx) (sB x h)).2]; rfl
      · rw [h, hA]; rfl
  have hsub : ((List.range size).filter q).Sublist ((List.range size).filter A) := by rw [e]; exact List.filter_sublist
  have hpw : ((List.range size).filter q).Pairwise fun i j => P i j = true := by
    refine List.Pairwise.imp_of_mem (fun {a b} ha hb hab => ?_) (List.Pairwise.filter q (List.pairwise_lt_range (n := size)))
    have hb' := List.mem_range.mp (List.mem_filter.mp hb).1
    have ha' := List.mem_range.mp (List.mem_filter.mp ha).1
    rcases (hq a).mp (List.mem_filter.mp ha).2 with x | x <;> rcases (hq b).mp (List.mem_filter.mp hb).2 with y | y
    · exact clq_mem inc.rise g2 a x b y hab
    · subst y; exact (hP a b hab hb').mpr (.inr (hB a ha' (sB a x)).1)
    · subst x; exact (hP a b hab hb').mpr (.inl (hB b hb' (sB b y)).1)
    · omega
  have hlen : s.length + 1 ≤ ((List.range size).filter q).length := by
    refine nodup_subG (xs := j :: s) (List.nodup_cons.mpr ⟨fun h => ?_, inc.rise.imp fun h e => by omega⟩) fun x hx => ?_
    · have := (hB j hj (sB j h)).1
      rw [irr] at this; cases this
    · refine List.mem_filter.mpr ?_
      rcases List.mem_cons.mp hx with h | h
      · rw [h]; exact ⟨List.mem_range.mpr hj, (hq j).mpr (.inr rfl)⟩
      · exact ⟨List.mem_range.mpr (inc.lt x h), (hq x).mpr (.inl h)⟩
  have := mc_ge (P := P) 16 _ _ hsub hpw (by have := List.length_filter_le A (List.range size); rw [List.length_range] at this; omega)
  omega
theorem Few.order {M : Nat} {l : List Nat} (h : Few P size M l) (hs : size < 16) (R : Nat → Nat → Bool) (hP : ∀ i j, i < j → j < size → (P i j = true ↔ R i j = true ∨ R j i = true)) (irr : ∀ i, R i i = false) (tr : ∀ i j k, R i j = true → R j k = true → R i k = true) : M = mc P 16 (List.range size) := by
  refine Nat.le_antisymm ?_ (h.clq hs)
  have al : (List.range size).filter (fun _ => true) = List.range size := List.filter_eq_self.mpr fun _ _ => rfl
  refine h.le hs (fun i => mc P 16 ((List.range size).filter (R i))) (fun i hi => ?_) fun i j hij hj hp => ?_
  · have := add_one (A := fun _ => true) hP hi rfl (B := R i) (fun x _ h => ⟨h, rfl⟩) (irr i) (by omega)
    rw [al] at this
    exact this
  · rcases (hP i j hij hj).mp hp with r | r
    · have := add_one (A := R i) hP hj r (B := R j) (fun x _ h => ⟨h, tr i j x r h⟩) (irr j) (by omega)
      omega
    · have := add_one (A := R j) hP (by omega) r (B := R i) (fun x _ h => ⟨h, tr j i x r h⟩) (irr i) (by omega)
      omega
end
/-! ### queues: ties within one another -/
def nestB (ties : List (Int × Int)) (r : List Int) (i j : Nat) : Bool := decide ((spotsM r (ties.getD j (0, 0))).1 < (spotsM r (ties.getD i (0, 0))).1 ∧ (spotsM r (ties.getD i (0, 0))).2 < (spotsM r (ties.getD j (0, 0))).2)
theorem within_iff {s t : Int × Int} (h1 : s.1 < s.2) (h2 : t.1 < t.2) : howM s t = .within ↔ (s.1 < t.1 ∧ t.2 < s.2) ∨ (t.1 < s.1 ∧ s.2 < t.2) := by
  unfold howM
  split
  · constructor
    · intro h; cases h
    · intro h; omega
  · split
    · constructor
      · intro h; cases h
      · intro h; omega
    · split
      · constructor
        · intro _; omega
        · intro _; rfl
      · constructor
        · intro h; cases h
        · intro h; omega
theorem queue_fits {many : Nat} {ties : List (Int × Int)} {row : List Int} (w : WR many ties row) : ∀ i j, i < j → j < ties.length → (inP (clashesM ties row .queue) i j = true ↔ nestB ties row i j = true ∨ nestB ties row j i = true) := by
  intro i j hij hj
  have mi := w.at' (show i < ties.length by omega)
  have mj := w.at' hj
  rw [inP_iff, mem_clashesM]
  show (i < j ∧ j < ties.length ∧ clashAt ties row .queue i j = true) ↔ _
  unfold clashAt clashB nestB
  rw [decide_eq_true_iff, decide_eq_true_iff, decide_eq_true_iff]
  have := within_iff (spots_lt mi.1 mi.2.1 mi.2.2) (spots_lt mj.1 mj.2.1 mj.2.2)
  unfold Lr
  show (_ ∧ _ ∧ howM _ _ = Lie.within) ↔ _
  rw [this]
  omega
theorem queue_few {many : Nat} {ties : List (Int × Int)} {row : List Int} (w : WR many ties row) (hs : ties.length < 16) {M : Nat} {l : List Nat} (h : Few (inP (clashesM ties row .queue)) ties.length M l) : M = mc (inP (clashesM ties row .queue)) 16 (List.range ties.length) :=
  h.order hs (nestB ties row) (queue_fits w) (fun i => decide_eq_false (by omega)) fun i j k h1 h2 => by
    have := of_decide_eq_true h1
    have := of_decide_eq_true h2
    exact decide_eq_true (by omega)
end DL

set_option Elab.async false
set_option linter.all false
set_option maxRecDepth 100000
set_option maxHeartbeats 4000000
namespace DL
open PySem PySem.Spec L2 PyProof.Rows
set_option autoImplicit false
theorem tuple_mul_none (l : Addr) (items : Array Value) (n : Nat) (dd : Option Addr) (sl : Array (Option Value)) (x : Int) (u : Tok) (c0 : (decide (x < -(2 ^ 63)) || decide (x ≥ 2 ^ 63)) = false) (c1 : (items.isEmpty || x == 1) = false) (c2 : (decide (x ≤ 0) || items.isEmpty) = true) :
    Meets (Builtin.«tuple.__mul__» ⟨[.ref l, .int x u], []⟩) (fun _ R s => s.heap.get? l = some { cls := .type "tuple", dict := dd, data := .seq items n, slots := sl } ∧
      R (.ok (.ret (Value.ref s.heap.objs.size))) { s with heap := s.heap.push { cls := Value.type "tuple", data := Data.seq #[] }, toks := s.toks }) :=
  .of_wp fun prog w A R s h => by
    obtain ⟨hp, g, d, tk, os⟩ := s
    obtain ⟨hl, h⟩ := h
    have f1 := AutoSeq1.idx_int
    wp_walk using wpAny_loadPart' hl
    refine wpAny_ite_false (decide_eq_false (by rw [c0]; exact Bool.false_ne_true)) ?_
    wp_walk using wpAny_loadPart' hl
    exact ⟨_, rfl, h⟩
theorem tuple_mul_one (l : Addr) (items : Array Value) (n : Nat) (dd : Option Addr) (sl : Array (Option Value)) (u : Tok) :
    Meets (Builtin.«tuple.__mul__» ⟨[.ref l, .int 1 u], []⟩) (fun _ R s => s.heap.get? l = some { cls := .type "tuple", dict := dd, data := .seq items n, slots := sl } ∧
      R (.ok (.ret (Value.ref l))) s) :=
  .of_wp fun prog w A R s h => by
    obtain ⟨hp, g, d, tk, os⟩ := s
    obtain ⟨hl, h⟩ := h
    have f1 := AutoSeq1.idx_int
    wp_walk using wpAny_loadPart' hl
    exact ⟨_, rfl, h⟩
def rRepFew (K : PySem.W.Frag) : R2 := fun x y H Q => ∃ l k xs, x = .ref l ∧ y = .int k ∧ SqT K H l xs ∧ xs ≠ [] ∧ ((k = 0 ∧ NewT H [] Q) ∨ (k = 1 ∧ Q (.ref l) H))
theorem op_repFew {X : Cx} : OpR X (binaryOp .Mult) (rRepFew X.K) := fun pins s σ H x y v u Q I rx ry ⟨l, k, xs, ex, ey, hT, hne, q⟩ => by
  subst ex ey
  cases rx
  obtain ⟨t, rfl⟩ := ry
  obtain ⟨its, r, ⟨⟨cls, dd, data, sl⟩, ho, hc, n, hd⟩, hs⟩ := I.tuple hT
  dsimp only at hc hd
  subst hc hd
  have len : its.length = xs.length := r.length.symm
  have pos : 0 < xs.length := List.length_pos_iff.mpr hne
  have emp : its.toArray.isEmpty = false := by
    cases its with
    | nil => rw [← len] at pos; exact absurd pos (by simp)
    | cons _ _ => rfl
  refine wpAny_binaryOp_repeat_ref (T := "tuple") (U := "int") (by decide) ⟨_, ho, rfl⟩ (fun s' => typeIs_int s' k t) noFill_tuple_mul F.fills_int_mul F.slot_int_rmul repeat_tuple F.slot_int_index.lookup ?_
  refine call_meets F.slot_int_rmul (typeIs_int s k t) F.entry_int_rmul (F.args_int_rmul_2 _ _) (int_rmul_tuple k t l its.toArray n dd sl) ⟨ho, rfl, ⟨_, ho, rfl⟩, ?_⟩
  rcases q with ⟨rfl, q⟩ | ⟨rfl, q⟩
  · refine call_meets F.slot_tuple_mul ⟨_, ho, rfl⟩ F.entry_tuple_mul (F.args_tuple_mul_2 _ _) (tuple_mul_none l its.toArray n dd sl 0 t (by decide) (by rw [emp]; rfl) rfl) ⟨ho, ?_⟩
    exact newT (its := []) (t' := s.toks) I .nil (Nat.zero_le _) q
  · refine call_meets F.slot_tuple_mul ⟨_, ho, rfl⟩ F.entry_tuple_mul (F.args_tuple_mul_2 _ _) (tuple_mul_one l its.toArray n dd sl t) ⟨ho, ?_⟩
    exact ⟨.ref l, H, I, rfl, q⟩
section
variable {G : Ct} {δ : DEnv} {a b : Expr} {pos : Pos} {ds : List PyData}
/-- xs * k, k = 0, 1, 2 .. -/
theorem dv_rept0 {k : Int} (ha : DV G δ a (.tuple ds)) (hb : DV G δ b (.int k)) (hne : ds ≠ []) (h1 : 0 ≤ k) (h2 : k ≤ 1000) (hz : ds.length ≤ 1000) : DV G δ (.BinOp a .Mult b pos) (.tuple (List.replicate k.toNat ds).flatten) := by
  by_cases c : 2 ≤ k
  · exact dv_rept ha hb hne c h2 hz
  · refine dv_op (r := rRepFew G.m.K) (fun X hX => hX.K ▸ op_repFew) ha hb fun S H v w Q ok r1 r2 q => ?_
    cases r2
    cases r1 with
    | tup e1 k1 z1 a1 =>
      have hl := a1.len
      refine ⟨_, k, _, rfl, rfl, SqT.frz (hide_some e1).2, fun e => hne ?_, ?_⟩
      · rw [e] at hl
        exact List.eq_nil_of_length_eq_zero hl.symm
      · by_cases c0 : k = 0
        · subst c0
          exact .inl ⟨rfl, Rp.newT ok (Nat.zero_le _) .nil (Same.refl H) q⟩
        · have c1 : k = 1 := by omega
          subst c1
          refine .inr ⟨rfl, q _ H (Same.refl H) ?_⟩
          have e : (List.replicate (1 : Int).toNat ds).flatten = ds := by simp
          rw [e]
          exact .tup e1 k1 z1 a1
end
end DL

set_option Elab.async false
set_option linter.all false
set_option maxRecDepth 100000
namespace DL
open PySem PySem.Spec L2
set_option autoImplicit false
theorem dss_opt {G : Ct} {δ δ1 : DEnv} {ω ω1 : Own} {st : Stmt} {rest : List Stmt} {o : Option PyData} {d : PyData} (h : DS G δ ω st (match o with | some r => .ret r | none => .next δ1 ω1)) (h2 : o = none → DSs G δ1 ω1 rest (.ret d)) (hd : ∀ r, o = some r → d = r) : DSs G δ ω (st :: rest) (.ret d) := by
  cases o with
  | none => exact dss_cons h (h2 rfl)
  | some r => rw [hd r rfl]; exact dss_end h
theorem findSome_map {α β γ : Type} (f : α → Option β) (g : β → γ) : ∀ xs : List α, xs.findSome? (fun x => (f x).map g) = (xs.findSome? f).map g
  | [] => rfl
  | x :: xs => by
    rw [List.findSome?_cons, List.findSome?_cons]
    cases f x with
    | none => exact findSome_map f g xs
    | some y => rfl
def tupN (l : List Nat) : PyData := .tuple (l.map natD)
def optD : Option (List Nat) → PyData
  | none => .none
  | some l => tupN l
def isNatD : PyData → Bool
  | .int i => decide (0 ≤ i)
  | _ => false
def apartB (ps : List (Nat × Nat)) (ns : List Int) : Bool := ps.all fun p => !decide (ns.getD p.1 0 = ns.getD p.2 0)
def isRightD (n : Nat) (ps : List (Nat × Nat)) : PyData → Bool
  | .tuple l => decide (l.length = n) && l.all isNatD && apartB ps (l.map toInt)
  | _ => false
def rRight (ds : List PyData) (d : PyData) : Prop := ∃ (m : Nat) (ties : List (Int × Int)) (r : List Int) (k : Kd) (x : PyData), ds = [webD m ties, rowD r, .str k.t, x] ∧ (∀ t ∈ ties, t.1 ∈ r ∧ t.2 ∈ r) ∧ ties.length ≤ 60 ∧ lay x ∧ d = .bool (isRightD ties.length (clashesM ties r k) x)
def rCount (ds : List PyData) (d : PyData) : Prop := ∃ ns : List Nat, ds = [tupN ns] ∧ ns.length ≤ 1000 ∧ d = natD (dc ns)
def rLaid (n : Nat) (ds : List PyData) (d : PyData) : Prop := ∃ (ps : List (Nat × Nat)) (many size : Nat) (pages : List Nat), ds = [.tuple (ps.map npD), natD many, natD size, tupN pages] ∧ many ≤ 60 ∧ size ≤ 60 ∧ pages.length ≤ size ∧ size - pages.length < n ∧ d = optD (laidM (inP ps) many size n pages)
def rFew (ds : List PyData) (d : PyData) : Prop := ∃ (m : Nat) (ties : List (Int × Int)) (r : List Int) (k : Kd) (M : Nat) (l : List Nat), ds = [webD m ties, rowD r, .str k.t] ∧ (∀ t ∈ ties, t.1 ∈ r ∧ t.2 ∈ r) ∧ ties.length < 16 ∧ M ≤ ties.length ∧ Few (inP (clashesM ties r k)) ties.length M l ∧ d = tupN l
def rWhole (ds : List PyData) (d : PyData) : Prop := ∃ i : Int, ds = [.int i] ∧ d = .bool true
def rCan (n : Nat) (ds : List PyData) (d : PyData) : Prop := ∃ (ps : List (Nat × Nat)) (many size : Nat) (pages : List Nat), ds = [.list (ps.map npD), natD many, natD size, .list (pages.map natD)] ∧ many ≤ 60 ∧ size ≤ 60 ∧ pages.length ≤ size ∧ size - pages.length < n ∧ d = .bool (canM (inP ps) many size n pages)
def rLRight (ds : List PyData) (d : PyData) : Prop := ∃ (ps : List (Nat × Nat)) (ns : List Nat), ds = [.list (ps.map npD), tupN ns] ∧ ps.length ≤ 4000 ∧ (∀ p ∈ ps, p.1 < ns.length ∧ p.2 < ns.length) ∧ d = .bool (apartB ps (ns.map fun x : Nat => (x : Int)))
theorem clashes_len (ties : List (Int × Int)) (r : List Int) (k : Kd) : (clashesM ties r k).length ≤ ties.length * ties.length := by
  have := fold_len (inClash_len ties r k) (List.range ties.length) []
  rw [List.length_range, List.length_nil, Nat.zero_add] at this
  exact this
theorem eqvN (i j : Nat) : PyData.bool (PyData.eqv (natD i) (natD j)) = .bool (decide (i = j)) := by
  unfold natD
  rw [eqv_int]
  congr 1
  exact Bool.eq_iff_iff.mpr (by simp; omega)
theorem eqv_empty (l : List PyData) : PyData.eqv (.list l) (.list []) = l.isEmpty := by
  cases l <;> rfl
theorem find_any {α : Type} (p : α → Bool) (r : PyData) (δ : DEnv) (ω : Own) (xs : List α) : (match xs.findSome? (fun k => if p k = true then some r else none) with | some r => Out.ret r | none => .next δ ω) = if (!xs.any p) = true then .next δ ω else .ret r := by
  induction xs with
  | nil => rfl
  | cons x xs ih =>
    rw [List.findSome?_cons, List.any_cons]
    cases h : p x with
    | true => simp
    | false => simp only [Bool.false_or]; exact ih
theorem dwh_seq {G : Ct} {c : Expr} {body : List Stmt} (sd : Nat → DEnv) (M : Nat) (h : ∀ k, k < M → DT G (sd k) c true ∧ DSs G (sd k) [] body (.next (sd (k + 1)) [])) (hM : DT G (sd M) c false) : ∀ n k, k + n = M → DWh G c body n (sd k) [] (.next (sd M) [])
  | 0, k, e => by
    have e : k = M := by omega
    subst e
    exact ⟨hM, rfl⟩
  | n + 1, k, e => ⟨(h k (by omega)).1, _, _, (h k (by omega)).2, dwh_seq sd M h hM n (k + 1) (by omega)⟩
theorem isE_any {α : Type} (p : α → Bool) (f : α → PyData) (l : List α) : ((l.filter p).map f).isEmpty = !l.any p := by
  induction l with
  | nil => rfl
  | cons x l ih =>
    rw [List.filter_cons, List.any_cons]
    cases p x with
    | true => rfl
    | false => simpa using ih
theorem DFor.convo {G : Ct} {ts : TSpec} {body : List Stmt} {items : List PyData} {δ δ1 : DEnv} {ω ω1 ω2 : Own} (h : DFor G ts body items δ ω (.next δ1 ω1)) (q : ω1 = ω2) : DFor G ts body items δ ω (.next δ1 ω2) := q ▸ h
theorem nat_int {x : PyData} (h : isNatD x = true) : x = .int (toInt x) := by
  cases x with
  | int i => rfl
  | _ => cases h
theorem tupN_ints (l : List Nat) : tupN l = .tuple ((l.map fun x : Nat => (x : Int)).map .int) := by unfold tupN; rw [natD_ints]
theorem lay_tupN (l : List Nat) : lay (tupN l) := (nc_tup (n := 0) fun y hy => by obtain ⟨i, _, rfl⟩ := List.mem_map.mp hy; exact nc_int _).lay
theorem right_nats {n : Nat} {ps : List (Nat × Nat)} (ns : List Nat) : isRightD n ps (tupN ns) = (decide (ns.length = n) && apartB ps (ns.map fun x : Nat => (x : Int))) := by
  show (decide ((ns.map natD).length = n) && (ns.map natD).all isNatD && apartB ps ((ns.map natD).map toInt)) = _
  have a : (ns.map natD).all isNatD = true := by
    refine List.all_eq_true.mpr fun x hx => ?_
    obtain ⟨i, _, rfl⟩ := List.mem_map.mp hx
    exact decide_eq_true (show (0 : Int) ≤ (i : Int) by omega)
  have e : (ns.map natD).map toInt = ns.map fun x : Nat => (x : Int) := by rw [List.map_map]; rfl
  rw [a, e, List.length_map, Bool.and_true]
theorem getD_cast (ns : List Nat) (i : Nat) : (ns.map fun x : Nat => (x : Int)).getD i 0 = ((ns.getD i 0 : Nat) : Int) := by
  rw [List.getD_eq_getElem?_getD, List.getD_eq_getElem?_getD, List.getElem?_map]
  cases ns[i]? <;> rfl
theorem apart_of {ties : List (Int × Int)} {r : List Int} {k : Kd} {l : List Nat} (hl : l.length = ties.length) (h : Proper (inP (clashesM ties r k)) l) : apartB (clashesM ties r k) (l.map fun x : Nat => (x : Int)) = true := by
  refine List.all_eq_true.mpr fun p hp => ?_
  have m := mem_clashesM.mp hp
  have := h p.1 p.2 m.1 (by omega) (inP_iff.mpr hp)
  rw [getD_cast, getD_cast, decide_eq_false (by omega)]
  rfl
theorem right_at {n : Nat} {ps : List (Nat × Nat)} {l : List PyData} {x : PyData} (hx : x ∈ l) (h : isNatD x = false) : isRightD n ps (.tuple l) = false := by
  show (_ && l.all isNatD && _) = false
  have : l.all isNatD = false := by
    refine Bool.eq_false_iff.mpr fun w => ?_
    have := List.all_eq_true.mp w x hx
    rw [h] at this; cases this
  rw [this, Bool.and_false]; rfl
theorem right_len {n : Nat} {ps : List (Nat × Nat)} {l : List PyData} (h : l.length ≠ n) : isRightD n ps (.tuple l) = false := by
  show (decide (l.length = n) && _ && _) = false
  rw [decide_eq_false h]; rfl
def badPs (n : Nat) (l : List Nat) : List PyData := [.tuple (l.map natD ++ [.int 0]), .list (l.map natD), .none, .tuple (List.replicate ((n : Int) + 1).toNat [PyData.str "0"]).flatten, .tuple ((List.replicate (n : Int).toNat [PyData.int (-1)]).flatten ++ (List.replicate (if PyData.eqv (natD n) (.int 0) = true then (1 : Int) else 0).toNat [PyData.int 0]).flatten)]
theorem rep_all {x y : PyData} {k : Nat} (h : y ∈ (List.replicate k [x]).flatten) : y = x := by
  obtain ⟨l, hl, hx⟩ := List.mem_flatten.mp h
  rw [(List.mem_replicate.mp hl).2, List.mem_singleton] at hx
  exact hx
theorem rep_flat_len {x : PyData} {k : Nat} : (List.replicate k [x]).flatten.length = k := by
  induction k with
  | zero => rfl
  | succ k ih => rw [List.replicate_succ, List.flatten_cons, List.length_append, ih]; simp; omega
theorem lay_tup' {l : List PyData} (h : ∀ x ∈ l, lay x) : lay (.tuple l) := by
  show PyData.canLayAll0 l = true
  induction l with
  | nil => rfl
  | cons x l ih => simp only [PyData.canLayAll0, Bool.and_eq_true]; exact ⟨h x List.mem_cons_self, ih fun y hy => h y (List.mem_cons_of_mem _ hy)⟩
theorem badPs_no {n : Nat} {l : List Nat} {ps : List (Nat × Nat)} (hl : l.length = n) : ∀ x ∈ badPs n l, isRightD n ps x = false ∧ lay x := by
  intro x hx
  simp only [badPs, List.mem_cons, List.not_mem_nil, or_false] at hx
  have nl : ∀ y ∈ l.map natD, lay y := fun y hy => by
    obtain ⟨i, _, rfl⟩ := List.mem_map.mp hy
    rfl
  rcases hx with rfl | rfl | rfl | rfl | rfl
  · exact ⟨right_len (by simp; omega), lay_tup' fun y hy => (List.mem_append.mp hy).elim (nl y) fun h => by rw [List.mem_singleton] at h; rw [h]; rfl⟩
  · exact ⟨rfl, (nc_lst (n := 0) fun y hy => by obtain ⟨i, _, rfl⟩ := List.mem_map.mp hy; exact nc_int _).lay⟩
  · exact ⟨rfl, rfl⟩
  · exact ⟨right_len (by rw [rep_flat_len]; omega), lay_tup' fun y hy => by rw [rep_all hy]; unfold lay; decide +kernel⟩
  · have ly : lay (.tuple ((List.replicate (n : Int).toNat [PyData.int (-1)]).flatten ++ (List.replicate (if PyData.eqv (natD n) (.int 0) = true then (1 : Int) else 0).toNat [PyData.int 0]).flatten)) := lay_tup' fun y hy => (List.mem_append.mp hy).elim (fun h => by rw [rep_all h]; rfl) fun h => by rw [rep_all h]; rfl
    refine ⟨?_, ly⟩
    by_cases c : n = 0
    · subst c; exact right_len (by decide)
    · refine right_at (x := .int (-1)) (List.mem_append_left _ (List.mem_flatten.mpr ⟨_, List.mem_replicate.mpr ⟨by omega, rfl⟩, by simp⟩)) rfl
theorem eqvNN (i j : Nat) : PyData.eqv (natD i) (natD j) = decide (i = j) := PyData.bool.inj (eqvN i j)
end DL

set_option Elab.async false
set_option linter.all false
set_option maxRecDepth 100000
namespace DL
open PySem PySem.Spec L2
set_option autoImplicit false
/-! ### all rows -/
def rowsM : Nat → List Int → List (List Int)
  | 0, _ => []
  | n + 1, places => if places = [] then [[]] else places.flatMap fun p => (rowsM n (places.filter fun o => !decide (o = p))).map (p :: ·)
theorem filt_ne_lt {places : List Int} {p : Int} (h : p ∈ places) : (places.filter fun o => !decide (o = p)).length < places.length := by
  refine List.length_filter_lt_length_iff_exists.mpr ⟨p, h, by simp⟩
theorem filt_ne_perm {places : List Int} {p : Int} (hn : places.Nodup) (h : p ∈ places) : (p :: places.filter fun o => !decide (o = p)).Perm places := by
  refine (List.perm_ext_iff_of_nodup (List.nodup_cons.mpr ⟨by simp, List.Pairwise.filter _ hn⟩) hn).mpr fun x => ?_
  rw [List.mem_cons, List.mem_filter]
  constructor
  · rintro (rfl | ⟨h1, _⟩)
    · exact h
    · exact h1
  · intro hx
    by_cases e : x = p
    · exact .inl e
    · exact .inr ⟨hx, by simp [e]⟩
theorem rows_mem : ∀ (n : Nat) (places r : List Int), places.Nodup → places.length < n → (r ∈ rowsM n places ↔ r.Perm places)
  | 0, _, _, _, h => by omega
  | n + 1, places, r, hn, hl => by
    unfold rowsM
    split
    · rename_i e
      subst e
      rw [List.mem_singleton]
      exact ⟨fun h => by rw [h], fun h => List.perm_nil.mp h⟩
    · rename_i e
      rw [List.mem_flatMap]
      constructor
      · rintro ⟨p, hp, h⟩
        obtain ⟨r', hr', rfl⟩ := List.mem_map.mp h
        have := filt_ne_lt hp
        have ih := (rows_mem n _ r' (List.Pairwise.filter _ hn) (by omega)).mp hr'
        exact (ih.cons p).trans (filt_ne_perm hn hp)
      · intro h
        cases r with
        | nil => exact absurd (List.perm_nil.mp h.symm) e
        | cons p r' =>
          have hp : p ∈ places := h.mem_iff.mp List.mem_cons_self
          have := filt_ne_lt hp
          refine ⟨p, hp, List.mem_map.mpr ⟨r', (rows_mem n _ r' (List.Pairwise.filter _ hn) (by omega)).mpr ?_, rfl⟩⟩
          exact (h.trans (filt_ne_perm hn hp).symm).cons_inv
theorem flat_len {α β : Type} {f : α → List β} {c : Nat} : ∀ {l : List α}, (∀ p ∈ l, (f p).length ≤ c) → (l.flatMap f).length ≤ l.length * c
  | [], _ => by simp
  | p :: l, h => by
    have h1 := h p List.mem_cons_self
    have h2 := flat_len (l := l) fun q hq => h q (List.mem_cons_of_mem _ hq)
    rw [List.flatMap_cons, List.length_append, List.length_cons, Nat.succ_mul]
    omega
theorem rows_len : ∀ (n : Nat) (places : List Int), places.length ≤ 8 → (rowsM n places).length ≤ 8 ^ places.length
  | 0, _, _ => Nat.zero_le _
  | n + 1, places, h => by
    unfold rowsM
    split
    · rename_i e; subst e; simp
    · rename_i e
      have hp : 0 < places.length := List.length_pos_iff.mpr e
      have := flat_len (l := places) (f := fun p => (rowsM n (places.filter fun o => !decide (o = p))).map (p :: ·)) (c := 8 ^ (places.length - 1)) fun p hp => by
        rw [List.length_map]
        have l1 := filt_ne_lt hp
        have := rows_len n (places.filter fun o => !decide (o = p)) (by omega)
        exact Nat.le_trans this (Nat.pow_le_pow_right (by omega) (by omega))
      have e2 : (8 : Nat) ^ places.length = 8 * 8 ^ (places.length - 1) := by
        rw [← Nat.pow_succ']
        congr 1
        omega
      rw [e2]
      exact Nat.le_trans this (Nat.mul_le_mul_right _ h)
theorem rows_each : ∀ (n : Nat) (places r : List Int), r ∈ rowsM n places → r.length ≤ places.length
  | 0, _, _, h => by cases h
  | n + 1, places, r, h => by
    unfold rowsM at h
    split at h
    · rw [List.mem_singleton] at h; subst h; simp
    · obtain ⟨p, hp, h⟩ := List.mem_flatMap.mp h
      obtain ⟨r', hr', rfl⟩ := List.mem_map.mp h
      have := rows_each n _ r' hr'
      have := filt_ne_lt hp
      rw [List.length_cons]
      omega
/-- left out by place, left out by value -/
theorem cut_out : ∀ {l : List Int} {k : Nat}, l.Nodup → k < l.length → l.take k ++ l.drop (k + 1) = l.filter fun o => !decide (o = l.getD k 0)
  | x :: l, 0, hn, _ => by
    obtain ⟨h1, h2⟩ := List.nodup_cons.mp hn
    show l = (x :: l).filter fun o => !decide (o = x)
    rw [List.filter_cons, if_neg (by simp)]
    exact (List.filter_eq_self.mpr fun y hy => by have : y ≠ x := fun e => h1 (e ▸ hy); simp [this]).symm
  | x :: l, k + 1, hn, hk => by
    obtain ⟨h1, h2⟩ := List.nodup_cons.mp hn
    have hk' : k < l.length := by simpa using hk
    have hm : l.getD k 0 ∈ l := by rw [List.getD_eq_getElem?_getD, List.getElem?_eq_getElem hk']; exact List.getElem_mem hk'
    show x :: (l.take k ++ l.drop (k + 1)) = (x :: l).filter fun o => !decide (o = l.getD k 0)
    rw [List.filter_cons, if_pos (by have : x ≠ l.getD k 0 := fun e => h1 (e ▸ hm); simpa using this), cut_out h2 hk']
/-! ### a row turned round -/
theorem ix_lt {r : List Int} {x : Int} (h : x ∈ r) : ix r x < r.length := by
  have := ix_get h
  exact Nat.lt_of_not_le fun c => by rw [List.getElem?_eq_none c] at this; cases this
theorem ix_rev {r : List Int} {x : Int} (hn : r.Nodup) (h : x ∈ r) : ix r.reverse x + ix r x + 1 = r.length := by
  have h1 := ix_get h
  have h2 := ix_get (List.mem_reverse.mpr h)
  have l1 := ix_lt h
  have l2 := ix_lt (List.mem_reverse.mpr h)
  rw [List.length_reverse] at l2
  rw [List.getElem?_reverse l2] at h2
  have := (List.getElem?_inj (i := r.length - 1 - ix r.reverse x) (j := ix r x) (by omega) hn).mp (h2.trans h1.symm)
  omega
theorem ordP_mirror (n a b : Int) : ordP (n - a) (n - b) = (n - (ordP a b).2, n - (ordP a b).1) := by
  unfold ordP
  by_cases h : a < b
  · rw [if_neg (by omega), if_pos (by omega)]
  · by_cases h2 : a = b
    · subst h2; rw [if_pos (by omega), if_pos (by omega)]
    · rw [if_pos (by omega), if_neg (by omega)]
theorem howM_mirror (n a b c d : Int) : howM (ordP (n - a) (n - b)) (ordP (n - c) (n - d)) = howM (ordP a b) (ordP c d) := by
  rw [ordP_mirror, ordP_mirror]
  generalize ordP a b = s
  generalize ordP c d = t
  unfold howM
  dsimp only
  exact if_cg (by omega) rfl (if_cg (by omega) rfl (if_cg (by omega) rfl rfl))
theorem lr_rev {r : List Int} {t u : Int × Int} (hn : r.Nodup) (h1 : t.1 ∈ r ∧ t.2 ∈ r) (h2 : u.1 ∈ r ∧ u.2 ∈ r) : Lr r.reverse t u = Lr r t u := by
  have a1 := ix_rev hn h1.1
  have a2 := ix_rev hn h1.2
  have a3 := ix_rev hn h2.1
  have a4 := ix_rev hn h2.2
  unfold Lr
  rw [spots_ord, spots_ord, spots_ord, spots_ord, show ((ix r.reverse t.1 : Nat) : Int) = ((r.length : Int) - 1) - (ix r t.1 : Int) by omega, show ((ix r.reverse t.2 : Nat) : Int) = ((r.length : Int) - 1) - (ix r t.2 : Int) by omega, show ((ix r.reverse u.1 : Nat) : Int) = ((r.length : Int) - 1) - (ix r u.1 : Int) by omega, show ((ix r.reverse u.2 : Nat) : Int) = ((r.length : Int) - 1) - (ix r u.2 : Int) by omega]
  exact howM_mirror _ _ _ _ _
theorem clashes_ext {ties : List (Int × Int)} {r s : List Int} {k : Kd} (h : ∀ i j, i < j → j < ties.length → clashAt ties r k i j = clashAt ties s k i j) : clashesM ties r k = clashesM ties s k := by
  have nd : ∀ r', (clashesM ties r' k).Nodup := fun r' => clashesM_srt.imp fun h e => by subst e; omega
  have p : (clashesM ties r k).Perm (clashesM ties s k) := (List.perm_ext_iff_of_nodup (nd r) (nd s)).mpr fun q => by
    rw [mem_clashesM, mem_clashesM]
    exact ⟨fun ⟨a, b, c⟩ => ⟨a, b, by rw [← h _ _ a b]; exact c⟩, fun ⟨a, b, c⟩ => ⟨a, b, by rw [h _ _ a b]; exact c⟩⟩
  exact List.Perm.eq_of_pairwise (le := fun p q => p.1 < q.1 ∨ (p.1 = q.1 ∧ p.2 < q.2)) (fun a b _ _ h1 h2 => by omega) clashesM_srt clashesM_srt p
theorem WR.rev {many : Nat} {ties : List (Int × Int)} {row : List Int} (w : WR many ties row) (k : Kd) : clashesM ties row.reverse k = clashesM ties row k := by
  have hn : row.Nodup := w.row.nodup_iff.mpr (upto_nodup many)
  refine clashes_ext fun i j hij hj => ?_
  have mi := w.at' (show i < ties.length by omega)
  have mj := w.at' hj
  unfold clashAt clashB
  rw [lr_rev hn ⟨mi.1, mi.2.1⟩ ⟨mj.1, mj.2.1⟩]
/-! ### pages of a row -/
noncomputable def pcP (P : Nat → Nat → Bool) (n : Nat) : Nat := if h : n < 16 then Classical.choose (few_ex P h) else 0
noncomputable def pcM (ties : List (Int × Int)) (k : Kd) (r : List Int) : Nat := pcP (inP (clashesM ties r k)) ties.length
theorem pc_few {ties : List (Int × Int)} (k : Kd) (r : List Int) (h : ties.length < 16) : ∃ l, pcM ties k r ≤ ties.length ∧ Few (inP (clashesM ties r k)) ties.length (pcM ties k r) l := by
  unfold pcM pcP
  rw [dif_pos h]
  exact Classical.choose_spec (few_ex (inP (clashesM ties r k)) h)
theorem pc_rev {many : Nat} {ties : List (Int × Int)} {row : List Int} (w : WR many ties row) (k : Kd) : pcM ties k row.reverse = pcM ties k row := by
  unfold pcM
  rw [w.rev k]
theorem pc_pos {ties : List (Int × Int)} (k : Kd) (r : List Int) (h : ties.length < 16) (h0 : 0 < ties.length) : 0 < pcM ties k r := by
  obtain ⟨l, _, fw⟩ := pc_few k r h
  obtain ⟨h1, _, h3⟩ := fw.facts h
  have := (h3.mem (l.getD 0 0)).mp (by rw [List.getD_eq_getElem?_getD, List.getElem?_eq_getElem (by omega)]; exact List.getElem_mem _)
  omega
theorem pc_lt2 {ties : List (Int × Int)} (k : Kd) (b r : List Int) (h : ties.length < 16) (h2 : pcM ties k b < 2) : pcM ties k b ≤ pcM ties k r := by
  by_cases h0 : ties.length = 0
  · obtain ⟨l, h1, _⟩ := pc_few k b h
    omega
  · have := pc_pos k r h (by omega)
    omega
/-! ### the best row -/
def ends (r : List Int) : Bool := decide (r.getD 0 0 ≤ r.getD (r.length - 1) 0)
def bestUp (pc : List Int → Nat) (best : Option (Nat × List Int)) (r : List Int) : Option (Nat × List Int) := match best with | none => some (pc r, r) | some (n, b) => if pc r < n then some (pc r, r) else some (n, b)
def bestRun (pc : List Int → Nat) : Option (Nat × List Int) → List (List Int) → Option (Nat × List Int) ⊕ List Int
  | best, [] => .inl best
  | best, r :: rs => if ends r = true then
      (if pc r < 2 then .inr r else bestRun pc (bestUp pc best r) rs)
      else bestRun pc best rs
theorem best_spec {pc : List Int → Nat} {S : List Int → Prop} (lt2 : ∀ b r, S b → S r → pc b < 2 → pc b ≤ pc r) : ∀ (rs : List (List Int)) (best : Option (Nat × List Int)), (∀ r ∈ rs, S r) → (∀ n b, best = some (n, b) → pc b = n ∧ S b) →
    (∀ b, bestRun pc best rs = .inr b → S b ∧ ∀ r, S r → pc b ≤ pc r) ∧ (∀ o, bestRun pc best rs = .inl o → (∀ n b, o = some (n, b) → pc b = n ∧ S b ∧ (∀ r ∈ rs, ends r = true → n ≤ pc r) ∧ ∀ n0 b0, best = some (n0, b0) → n ≤ n0) ∧ (o = none → best = none ∧ ∀ r ∈ rs, ends r = false))
  | [], best, _, hb => ⟨fun b h => (by cases h), fun o h => by cases h; exact ⟨fun n b e => ⟨(hb n b e).1, (hb n b e).2, fun r hr => (by cases hr), fun n0 b0 e2 => by rw [e] at e2; cases e2; omega⟩, fun e => ⟨e, fun r hr => (by cases hr)⟩⟩⟩
  | r :: rs, best, hs, hb => by
    unfold bestRun
    have hr := hs r List.mem_cons_self
    by_cases c : ends r = true
    · rw [if_pos c]
      by_cases c2 : pc r < 2
      · rw [if_pos c2]
        exact ⟨fun b h => (by cases h; exact ⟨hr, fun r' hr' => lt2 r r' hr hr' c2⟩), fun o h => (by cases h)⟩
      · rw [if_neg c2]
        have ih := best_spec lt2 rs (bestUp pc best r) (fun x hx => hs x (List.mem_cons_of_mem _ hx)) (by
          intro n b e
          cases best with
          | none => cases e; exact ⟨rfl, hr⟩
          | some q =>
            obtain ⟨n0, b0⟩ := q
            unfold bestUp at e
            dsimp only at e
            split at e
            · cases e; exact ⟨rfl, hr⟩
            · cases e; exact hb _ _ rfl)
        refine ⟨ih.1, fun o ho => ?_⟩
        obtain ⟨i1, i2⟩ := ih.2 o ho
        refine ⟨fun n b e => ?_, fun e => ?_⟩
        · obtain ⟨j1, j2, j3, j4⟩ := i1 n b e
          have key : n ≤ pc r ∧ ∀ n0 b0, best = some (n0, b0) → n ≤ n0 := by
            cases best with
            | none => exact ⟨j4 _ _ rfl, fun n0 b0 e => by cases e⟩
            | some q =>
              obtain ⟨n0, b0⟩ := q
              unfold bestUp at j4
              dsimp only at j4
              by_cases c3 : pc r < n0
              · have := j4 _ _ (if_pos c3)
                exact ⟨this, fun n1 b1 e => by cases e; omega⟩
              · have := j4 _ _ (if_neg c3)
                exact ⟨by omega, fun n1 b1 e => by cases e; exact this⟩
          refine ⟨j1, j2, fun r' hr' he => ?_, key.2⟩
          rcases List.mem_cons.mp hr' with q | q
          · rw [q]; exact key.1
          · exact j3 r' q he
        · have := (i2 e).1
          cases best with
          | none => cases this
          | some q =>
            obtain ⟨n0, b0⟩ := q
            unfold bestUp at this
            dsimp only at this
            split at this <;> cases this
    · rw [if_neg c]
      have ih := best_spec lt2 rs best (fun x hx => hs x (List.mem_cons_of_mem _ hx)) hb
      refine ⟨ih.1, fun o ho => ?_⟩
      obtain ⟨i1, i2⟩ := ih.2 o ho
      refine ⟨fun n b e => ?_, fun e => ⟨(i2 e).1, fun r' hr' => ?_⟩⟩
      · obtain ⟨j1, j2, j3, j4⟩ := i1 n b e
        refine ⟨j1, j2, fun r' hr' he => ?_, j4⟩
        rcases List.mem_cons.mp hr' with q | q
        · rw [q] at he; exact absurd he c
        · exact j3 r' q he
      · rcases List.mem_cons.mp hr' with q | q
        · rw [q]; exact Bool.eq_false_iff.mpr c
        · exact (i2 e).2 r' q
end DL

set_option Elab.async false
set_option linter.all false
set_option maxRecDepth 100000
namespace DL
open PySem PySem.Spec L2
set_option autoImplicit false
theorem atI_last {α : Type} {l : List α} {x : α} (h : l[l.length - 1]? = some x) (h0 : 0 < l.length) : L2.atI l (-1) = some x := by
  unfold L2.atI
  have e : L2.ixN l.length (-1) = some (l.length - 1) := by
    unfold L2.ixN
    first
      | (rw [if_neg (by omega), if_pos (by omega)]; congr 1; omega)
      | (rw [if_neg (by omega), if_pos (by omega)]; congr 1)
  rw [e]
  exact h
def bestOf (m : Nat) (ties : List (Int × Int)) (k : Kd) : Option (List Int) → Prop := fun o => match bestRun (pcM ties k) none (rowsM 8 (upto m)) with
  | .inl (some (_, b)) => o = some b
  | .inl none => False
  | .inr b => o = some b
theorem ends_rev {r : List Int} (h : 0 < r.length) (he : ends r = false) : ends r.reverse = true := by
  unfold ends at he ⊢
  have he := of_decide_eq_false he
  refine decide_eq_true ?_
  have a : r.reverse.getD 0 0 = r.getD (r.length - 1) 0 := by
    rw [List.getD_eq_getElem?_getD, List.getD_eq_getElem?_getD, List.getElem?_reverse h]
    rfl
  have b : r.reverse.getD (r.reverse.length - 1) 0 = r.getD 0 0 := by
    rw [List.getD_eq_getElem?_getD, List.getD_eq_getElem?_getD, List.length_reverse, List.getElem?_reverse (by omega)]
    congr 2
    omega
  rw [a, b]
  omega
structure WebG (m : Nat) (ties : List (Int × Int)) : Prop where
  ok : WebOk m ties
  pos : 1 ≤ m
  six : m ≤ 6
  few : ties.length < 16
theorem WebG.wr {m : Nat} {ties : List (Int × Int)} (w : WebG m ties) {r : List Int} (h : r.Perm (upto m)) : WR m ties r := ⟨w.ok, h⟩
theorem rows8 {m : Nat} (h : m ≤ 6) (r : List Int) : r ∈ rowsM 8 (upto m) ↔ r.Perm (upto m) := rows_mem 8 _ r (upto_nodup m) (by rw [upto_len]; omega)
theorem best_ex {m : Nat} {ties : List (Int × Int)} (w : WebG m ties) (k : Kd) : ∃ b, bestOf m ties k (some b) ∧ b.Perm (upto m) ∧ ∀ r : List Int, r.Perm (upto m) → pcM ties k b ≤ pcM ties k r := by
  have sp := best_spec (pc := pcM ties k) (S := fun r => r.Perm (upto m)) (fun b r _ _ h => pc_lt2 k b r w.few h) (rowsM 8 (upto m)) none (fun r hr => (rows8 w.six r).mp hr) (fun n b e => by cases e)
  unfold bestOf
  cases e : bestRun (pcM ties k) none (rowsM 8 (upto m)) with
  | inr b =>
    obtain ⟨h1, h2⟩ := sp.1 b e
    exact ⟨b, rfl, h1, h2⟩
  | inl o =>
    obtain ⟨h1, h2⟩ := sp.2 o e
    cases o with
    | none =>
      have := (h2 rfl).2 (upto m) ((rows8 w.six _).mpr (List.Perm.refl _))
      have wp := w.pos
      have e1 : (upto (m : Int)).getD 0 0 = 0 := by
        unfold upto
        rw [List.getD_eq_getElem?_getD, List.getElem?_map, Int.toNat_natCast, List.getElem?_range (by omega)]
        rfl
      have e2 : (upto (m : Int)).getD ((upto (m : Int)).length - 1) 0 = ((m - 1 : Nat) : Int) := by
        rw [upto_len]
        unfold upto
        rw [List.getD_eq_getElem?_getD, List.getElem?_map, Int.toNat_natCast, List.getElem?_range (by omega)]
        rfl
      unfold ends at this
      rw [e1, e2] at this
      have := of_decide_eq_false this
      omega
    | some q =>
      obtain ⟨n, b⟩ := q
      obtain ⟨j1, j2, j3, _⟩ := h1 n b rfl
      refine ⟨b, rfl, j2, fun r hr => ?_⟩
      rw [j1]
      have wp := w.pos
      have hl : r.length = m := hr.length_eq.trans (upto_len m)
      cases he : ends r with
      | true => exact j3 r ((rows8 w.six r).mpr hr) he
      | false =>
        rw [← pc_rev (w.wr hr) k]
        exact j3 _ ((rows8 w.six _).mpr ((List.reverse_perm r).trans hr)) (ends_rev (by omega) he)
theorem dfor_run {G : Ct} {ts : TSpec} {body : List Stmt} (pc : List Int → Nat) (sd : Option (Nat × List Int) → DEnv) (Sx : List Int → Prop) (step : ∀ r best, Sx r → ∃ δb, bindT ts (rowD r) (sd best) = some δb ∧ ofree ts [] ∧
    ((ends r = true ∧ pc r < 2 ∧ DSs G δb [] body (.ret (rowD r))) ∨ (¬(ends r = true ∧ pc r < 2) ∧ ∃ δ1, DSs G δb [] body (.next δ1 []) ∧ Le (sd (if ends r = true then bestUp pc best r else best)) δ1))) :
    ∀ (rs : List (List Int)) (best : Option (Nat × List Int)), (∀ r ∈ rs, Sx r) → DFor G ts body (rs.map rowD) (sd best) [] (match bestRun pc best rs with | .inl o => .next (sd o) [] | .inr b => .ret (rowD b))
  | [], _, _ => rfl
  | r :: rs, best, h => by
    obtain ⟨δb, h1, h2, h3⟩ := step r best (h r List.mem_cons_self)
    unfold bestRun
    rcases h3 with ⟨c1, c2, h3⟩ | ⟨c, δ1, h3, w⟩
    · rw [if_pos c1, if_pos c2]
      exact ⟨δb, h1, h2, .inr ⟨_, rfl, h3⟩⟩
    · by_cases c1 : ends r = true
      · rw [if_pos c1, if_neg fun z => c ⟨c1, z⟩]
        rw [if_pos c1] at w
        exact ⟨δb, h1, h2, .inl ⟨_, _, h3.weak w, dfor_run pc sd Sx step rs _ fun x hx => h x (List.mem_cons_of_mem _ hx)⟩⟩
      · rw [if_neg c1]
        rw [if_neg c1] at w
        exact ⟨δb, h1, h2, .inl ⟨_, _, h3.weak w, dfor_run pc sd Sx step rs _ fun x hx => h x (List.mem_cons_of_mem _ hx)⟩⟩
theorem loopS_app {α β : Type} (h : α → List β) : ∀ (l : List α) (acc : List β), loopS (fun acc t _ => acc ++ h t) l acc = acc ++ l.flatMap h
  | [], acc => by simp [loopS]
  | t :: l, acc => by
    show loopS (fun acc t _ => acc ++ h t) l (acc ++ h t) = _
    rw [loopS_app h l, List.flatMap_cons, List.append_assoc]
theorem cut_taken {α : Type} (xs : List α) (k : Nat) : cutD xs none (some (k : Int)) = xs.take k := by
  unfold cutD
  rw [HT.sIx_none, HT.sIx_nat, List.drop_zero, Nat.sub_zero, List.take_eq_take_iff]
  omega
/-- the parts of the for that stands at place i -/
def forOf (i : Nat) (sts : List Stmt) : Expr × Expr × List Stmt × Pos := match sts[i]? with
  | some (.For tg iter body _ pos) => (tg, iter, body, pos)
  | _ => (.Constant .none 0 ⟨0, 0, 0, 0⟩, .Constant .none 0 ⟨0, 0, 0, 0⟩, [], ⟨0, 0, 0, 0⟩)
theorem dss_run {G : Ct} {δ : DEnv} {st : Stmt} {rest : List Stmt} {m : Nat} {ties : List (Int × Int)} {k : Kd} {b : List Int} (sd : Option (Nat × List Int) → DEnv) (hb : bestOf m ties k (some b)) (h : DS G δ [] st (match bestRun (pcM ties k) none (rowsM 8 (upto m)) with | .inl o => .next (sd o) [] | .inr b => .ret (rowD b)))
    (h2 : ∀ n b, DSs G (sd (some (n, b))) [] rest (.ret (rowD b))) : DSs G δ [] (st :: rest) (.ret (rowD b)) := by
  unfold bestOf at hb
  cases e : bestRun (pcM ties k) none (rowsM 8 (upto m)) with
  | inr b' =>
    rw [e] at hb h
    cases hb
    exact dss_end h
  | inl o =>
    rw [e] at hb h
    cases o with
    | none => exact hb.elim
    | some q =>
      obtain ⟨n, b'⟩ := q
      cases hb
      exact dss_cons h (h2 n _)
def upB (best : Option (Nat × List Int)) (n : Nat) : Bool := match best with
  | none => true
  | some (n0, _) => decide (n < n0)
theorem up_t {pc : List Int → Nat} {best : Option (Nat × List Int)} {r : List Int} (h : upB best (pc r) = true) : bestUp pc best r = some (pc r, r) := by
  cases best with
  | none => rfl
  | some q => exact if_pos (of_decide_eq_true h)
theorem up_f {pc : List Int → Nat} {best : Option (Nat × List Int)} {r : List Int} (h : upB best (pc r) = false) : bestUp pc best r = best := by
  cases best with
  | none => cases h
  | some q => exact if_neg (of_decide_eq_false h)
def bD : Option (Nat × List Int) → PyData
  | none => .none
  | some (n, b) => .tuple [natD n, rowD b]
/-! ### the defs' promises -/
def rAll (n : Nat) (ds : List PyData) (d : PyData) : Prop := ∃ places : List Int, ds = [.list (places.map .int)] ∧ places.length < n ∧ places.length ≤ 7 ∧ places.Nodup ∧ d = .list ((rowsM n places).map rowD)
def rBest (ds : List PyData) (d : PyData) : Prop := ∃ (m : Nat) (ties : List (Int × Int)) (k : Kd) (b : List Int), ds = [webD m ties, .str k.t] ∧ WebG m ties ∧ bestOf m ties k (some b) ∧ d = rowD b
def rLeast (ds : List PyData) (d : PyData) : Prop := ∃ (m : Nat) (ties : List (Int × Int)) (k : Kd) (b : List Int), ds = [webD m ties, .str k.t] ∧ WebG m ties ∧ b.Perm (upto m) ∧ bestOf m ties k (some b) ∧ d = natD (pcM ties k b)
def rCell (ds : List PyData) (d : PyData) : Prop := ∃ (ns : List Int) (k : Nat), ds = [scrD ns, natD k] ∧ d = .int (ns.getD k 0)
end DL

set_option Elab.async false
set_option linter.all false
set_option maxRecDepth 100000
set_option maxHeartbeats 4000000
namespace DL
open PySem PySem.Spec L2
set_option autoImplicit false
/-! ### pages by colours of the ties themselves -/
theorem clash_irr (r : List Int) (k : Kd) (t : Int × Int) : clashB r k t t = false := by
  have : Lr r t t = .meet := by unfold Lr howM; rw [if_pos (.inl (.inl rfl))]
  unfold clashB
  rw [this]
  cases k <;> rfl
theorem clash_comm (r : List Int) (k : Kd) (t u : Int × Int) : clashB r k t u = clashB r k u t := by
  unfold clashB Lr
  rw [howM_comm]
theorem getD_mem {ties : List (Int × Int)} {i : Nat} (h : i < ties.length) : ties.getD i (0, 0) ∈ ties := List.mem_of_getElem? (tie_at h)
theorem pc_le {ties : List (Int × Int)} {k : Kd} {r : List Int} {m : Nat} (hs : ties.length < 16) (c : Int × Int → Nat) (hc : ∀ t ∈ ties, c t < m) (hP : ∀ t ∈ ties, ∀ u ∈ ties, clashB r k t u = true → c t ≠ c u) : pcM ties k r ≤ m := by
  obtain ⟨l, _, fw⟩ := pc_few k r hs
  refine fw.le hs (fun i => c (ties.getD i (0, 0))) (fun i hi => hc _ (getD_mem hi)) fun i j hij hj hp => ?_
  have := (mem_clashesM.mp (inP_iff.mp hp)).2.2
  exact hP _ (getD_mem (by omega)) _ (getD_mem hj) this
theorem idx_at {ties : List (Int × Int)} {t : Int × Int} (h : t ∈ ties) : ties.idxOf t < ties.length ∧ ties.getD (ties.idxOf t) (0, 0) = t := by
  have h1 := List.idxOf_lt_length_of_mem h
  refine ⟨h1, ?_⟩
  rw [List.getD_eq_getElem?_getD, List.getElem?_eq_getElem h1]
  exact List.getElem_idxOf h1
theorem pc_col {ties : List (Int × Int)} (k : Kd) (r : List Int) (hs : ties.length < 16) : ∃ c : Int × Int → Nat, (∀ t ∈ ties, c t < pcM ties k r) ∧ ∀ t ∈ ties, ∀ u ∈ ties, clashB r k t u = true → c t ≠ c u := by
  obtain ⟨l, _, fw⟩ := pc_few k r hs
  obtain ⟨h1, h2, h3⟩ := fw.facts hs
  refine ⟨fun t => l.getD (ties.idxOf t) 0, fun t ht => ?_, fun t ht u hu hc => ?_⟩
  · have := (idx_at ht).1
    exact (h3.mem _).mp (by show l.getD (ties.idxOf t) 0 ∈ l; rw [List.getD_eq_getElem?_getD, List.getElem?_eq_getElem (by omega)]; exact List.getElem_mem _)
  · obtain ⟨a1, a2⟩ := idx_at ht
    obtain ⟨b1, b2⟩ := idx_at hu
    have ne : ties.idxOf t ≠ ties.idxOf u := fun e => by
      have : t = u := by rw [← a2, ← b2, e]
      rw [this, clash_irr] at hc
      cases hc
    rcases Nat.lt_or_gt_of_ne ne with q | q
    · exact h2 _ _ q (by omega) (inP_iff.mpr (mem_clashesM.mpr ⟨q, b1, by show clashB _ _ _ _ = true; rw [a2, b2]; exact hc⟩))
    · exact fun e => h2 _ _ q (by omega) (inP_iff.mpr (mem_clashesM.mpr ⟨q, a1, by show clashB _ _ _ _ = true; rw [a2, b2, clash_comm]; exact hc⟩)) e.symm
theorem pc_mono {ties ties' : List (Int × Int)} {k : Kd} {r r' : List Int} (h : ties.length < 16) (h' : ties'.length < 16) (φ : Int × Int → Int × Int) (hφ : ∀ t ∈ ties', φ t ∈ ties) (hc : ∀ t ∈ ties', ∀ u ∈ ties', clashB r' k t u = true → clashB r k (φ t) (φ u) = true) : pcM ties' k r' ≤ pcM ties k r := by
  obtain ⟨c, c1, c2⟩ := pc_col k r h
  exact pc_le h' (fun t => c (φ t)) (fun t ht => c1 _ (hφ t ht)) fun t ht u hu hcl => c2 _ (hφ t ht) _ (hφ u hu) (hc t ht u hu hcl)
theorem pc_sub {ties ties' : List (Int × Int)} {k : Kd} {r : List Int} (h : ties.length < 16) (h' : ties'.length < 16) (hs : ∀ t ∈ ties', t ∈ ties) : pcM ties' k r ≤ pcM ties k r := pc_mono h h' id hs fun _ _ _ _ h => h
theorem pc_more {ties ties' : List (Int × Int)} {k : Kd} {r : List Int} (h : ties.length < 16) (h' : ties'.length < 16) (x : Int × Int) (hs : ∀ t ∈ ties, t = x ∨ t ∈ ties') : pcM ties k r ≤ pcM ties' k r + 1 := by
  obtain ⟨c, c1, c2⟩ := pc_col k r h'
  refine pc_le h (fun t => if t = x then pcM ties' k r else c t) (fun t ht => ?_) fun t ht u hu hcl => ?_
  · show (if t = x then pcM ties' k r else c t) < _
    by_cases e : t = x
    · rw [if_pos e]; omega
    · rw [if_neg e]
      have := c1 t ((hs t ht).resolve_left e)
      omega
  · show (if t = x then pcM ties' k r else c t) ≠ (if u = x then pcM ties' k r else c u)
    by_cases e : t = x
    · by_cases e2 : u = x
      · rw [e, e2, clash_irr] at hcl; cases hcl
      · rw [if_pos e, if_neg e2]
        have := c1 u ((hs u hu).resolve_left e2)
        omega
    · by_cases e2 : u = x
      · rw [if_neg e, if_pos e2]
        have := c1 t ((hs t ht).resolve_left e)
        omega
      · rw [if_neg e, if_neg e2]
        exact c2 t ((hs t ht).resolve_left e) u ((hs u hu).resolve_left e2) hcl
/-! ### a row moved round -/
def movM (row : List Int) (s : Nat) : List Int := row.drop s ++ row.take s
theorem mov_perm (row : List Int) (s : Nat) : (movM row s).Perm row := by
  unfold movM
  exact (List.perm_append_comm).trans (by rw [List.take_append_drop])
theorem ix_eq {r : List Int} {x : Int} {j : Nat} (hn : r.Nodup) (h : r[j]? = some x) : ix r x = j := by
  have hm : x ∈ r := List.mem_of_getElem? h
  have h1 := ix_get hm
  exact (List.getElem?_inj (ix_lt hm) hn).mp (h1.trans h.symm)
theorem ix_mov {row : List Int} {s : Nat} {x : Int} (hn : row.Nodup) (hs : s ≤ row.length) (hx : x ∈ row) : ix (movM row s) x = if ix row x < s then ix row x + (row.length - s) else ix row x - s := by
  have hg := ix_get hx
  have hl := ix_lt hx
  refine ix_eq ((mov_perm row s).nodup_iff.mpr hn) ?_
  unfold movM
  by_cases c : ix row x < s
  · rw [if_pos c, List.getElem?_append_right (by rw [List.length_drop]; omega), List.length_drop, List.getElem?_take, if_pos (by omega)]
    rw [show ix row x + (row.length - s) - (row.length - s) = ix row x by omega]
    exact hg
  · rw [if_neg c, List.getElem?_append_left (by rw [List.length_drop]; omega), List.getElem?_drop, show s + (ix row x - s) = ix row x by omega]
    exact hg
theorem mov_at {row : List Int} {s k : Nat} (hs : s < row.length) (hk : k < row.length) : (movM row s)[k]? = row[(k + s) % row.length]? := by
  unfold movM
  by_cases c : k < row.length - s
  · rw [List.getElem?_append_left (by rw [List.length_drop]; omega), List.getElem?_drop, Nat.mod_eq_of_lt (by omega), Nat.add_comm]
  · rw [List.getElem?_append_right (by rw [List.length_drop]; omega), List.length_drop, List.getElem?_take, if_pos (by omega), Nat.mod_eq_sub_mod (by omega), Nat.mod_eq_of_lt (by omega)]
    congr 1
    omega
theorem cross_iff {s t : Int × Int} (h1 : s.1 < s.2) (h2 : t.1 < t.2) : howM s t = .cross ↔ (s.1 < t.1 ∧ t.1 < s.2 ∧ s.2 < t.2) ∨ (t.1 < s.1 ∧ s.1 < t.2 ∧ t.2 < s.2) := by
  unfold howM
  split
  · constructor
    · intro h; cases h
    · intro h; omega
  · split
    · constructor
      · intro _; omega
      · intro _; rfl
    · split
      · constructor
        · intro h; cases h
        · intro h; omega
      · constructor
        · intro h; cases h
        · intro h; omega
theorem cross_mov {a b c d n s : Int} (p : Int → Int) (hp : ∀ x, p x = if x < s then x + (n - s) else x - s) (ha : 0 ≤ a ∧ a < n) (hb : 0 ≤ b ∧ b < n) (hc : 0 ≤ c ∧ c < n) (hd : 0 ≤ d ∧ d < n) (hs : 0 ≤ s ∧ s ≤ n) (ab : a ≠ b) (cd : c ≠ d) :
    howM (ordP (p a) (p b)) (ordP (p c) (p d)) = .cross ↔ howM (ordP a b) (ordP c d) = .cross := by
  have key : ∀ x y : Int, x ≠ y → (ordP x y).1 < (ordP x y).2 := fun x y h => by unfold ordP; split <;> simp <;> omega
  have inj : ∀ x y : Int, (0 ≤ x ∧ x < n) → (0 ≤ y ∧ y < n) → x ≠ y → p x ≠ p y := fun x y hx hy h e => by
    rw [hp, hp] at e
    split at e <;> split at e <;> omega
  rw [cross_iff (key _ _ (inj a b ha hb ab)) (key _ _ (inj c d hc hd cd)), cross_iff (key _ _ ab) (key _ _ cd)]
  have ea := hp a
  have eb := hp b
  have ec := hp c
  have ed := hp d
  generalize p a = a' at *
  generalize p b = b' at *
  generalize p c = c' at *
  generalize p d = d' at *
  clear inj key hp
  by_cases qa : a < s <;> by_cases qb : b < s <;> by_cases qc : c < s <;> by_cases qd : d < s <;>
    (first | rw [if_pos qa] at ea | rw [if_neg qa] at ea) <;> (first | rw [if_pos qb] at eb | rw [if_neg qb] at eb) <;>
    (first | rw [if_pos qc] at ec | rw [if_neg qc] at ec) <;> (first | rw [if_pos qd] at ed | rw [if_neg qd] at ed) <;>
    unfold ordP <;> split <;> split <;> split <;> split <;> dsimp only <;> omega
theorem clash_mov {row : List Int} {s : Nat} {t u : Int × Int} (hn : row.Nodup) (hs : s ≤ row.length) (h1 : t.1 ∈ row ∧ t.2 ∈ row ∧ t.1 ≠ t.2) (h2 : u.1 ∈ row ∧ u.2 ∈ row ∧ u.1 ≠ u.2) : clashB (movM row s) .pile t u = clashB row .pile t u := by
  have ne : ∀ {x y : Int}, x ∈ row → y ∈ row → x ≠ y → ((ix row x : Nat) : Int) ≠ ix row y := fun hx hy h e => h (ix_inj hx hy (by omega))
  have l : ∀ {x : Int}, x ∈ row → 0 ≤ ((ix row x : Nat) : Int) ∧ ((ix row x : Nat) : Int) < (row.length : Int) := fun hx => by have := ix_lt hx; omega
  have e : ∀ {x : Int}, x ∈ row → ((ix (movM row s) x : Nat) : Int) = (fun x : Int => if x < (s : Int) then x + ((row.length : Int) - s) else x - s) (ix row x : Int) := fun hx => by
    rw [ix_mov hn hs hx]
    dsimp only
    have := ix_lt hx
    split <;> split <;> omega
  unfold clashB Lr
  rw [spots_ord, spots_ord, spots_ord, spots_ord, e h1.1, e h1.2.1, e h2.1, e h2.2.1]
  exact decide_eq_decide.mpr (cross_mov (n := row.length) (s := s) _ (fun x => rfl) (l h1.1) (l h1.2.1) (l h2.1) (l h2.2.1) (by omega) (ne h1.1 h1.2.1 h1.2.2) (ne h2.1 h2.2.1 h2.2.2))
theorem pc_mov {m : Nat} {ties : List (Int × Int)} {row : List Int} {s : Nat} (w : WR m ties row) (h : ties.length < 16) (hs : s ≤ row.length) : pcM ties .pile (movM row s) = pcM ties .pile row := by
  have hn : row.Nodup := w.row.nodup_iff.mpr (upto_nodup m)
  refine Nat.le_antisymm (pc_mono h h id (fun _ h => h) fun t ht u hu hc => ?_) (pc_mono h h id (fun _ h => h) fun t ht u hu hc => ?_)
  · rw [clash_mov hn hs (w.mem ht) (w.mem hu)] at hc; exact hc
  · rw [id, id, clash_mov hn hs (w.mem ht) (w.mem hu)]; exact hc
end DL

set_option Elab.async false
set_option linter.all false
set_option maxRecDepth 100000
set_option maxHeartbeats 4000000
namespace DL
open PySem PySem.Spec L2
set_option autoImplicit false
/-! ### other names -/
def nmOf (names : List Int) (x : Int) : Int := names.getD x.toNat 0
def ren (names : List Int) (t : Int × Int) : Int × Int := ordP (nmOf names t.1) (nmOf names t.2)
def renM (names : List Int) (ties : List (Int × Int)) : List (Int × Int) := sortP (ties.map (ren names))
def backT (names : List Int) (t : Int × Int) : Int × Int := ordP (ix names t.1) (ix names t.2)
theorem ordP_comm (a b : Int) : ordP a b = ordP b a := by
  unfold ordP
  split <;> split
  · rw [show a = b by omega]
  · rfl
  · rfl
  · omega
section
variable {m : Nat} {names row : List Int} {ties : List (Int × Int)}
theorem nm_at (hp : names.Perm (upto m)) {x : Int} (h0 : 0 ≤ x) (h1 : x < m) : names[x.toNat]? = some (nmOf names x) := by
  have hl : names.length = m := hp.length_eq.trans (upto_len m)
  unfold nmOf
  rw [List.getD_eq_getElem?_getD, List.getElem?_eq_getElem (by omega)]
  rfl
theorem nm_ix (hp : names.Perm (upto m)) {x : Int} (h0 : 0 ≤ x) (h1 : x < m) : ((ix names (nmOf names x) : Nat) : Int) = x := by
  rw [ix_eq (hp.nodup_iff.mpr (upto_nodup m)) (nm_at hp h0 h1)]
  omega
theorem nm_rng (hp : names.Perm (upto m)) {x : Int} (h0 : 0 ≤ x) (h1 : x < m) : 0 ≤ nmOf names x ∧ nmOf names x < m :=
  mem_upto.mp (hp.mem_iff.mp (List.mem_of_getElem? (nm_at hp h0 h1)))
theorem nm_ne (hp : names.Perm (upto m)) {x y : Int} (h0 : 0 ≤ x) (h1 : x < m) (h2 : 0 ≤ y) (h3 : y < m) (h : x ≠ y) : nmOf names x ≠ nmOf names y := fun e => h (by rw [← nm_ix hp h0 h1, ← nm_ix hp h2 h3, e])
theorem ren_ok (hp : names.Perm (upto m)) {t : Int × Int} (h : TieOk m t) : TieOk m (ren names t) := by
  have a := h.nn
  have b := h.lt
  have c := h.le
  have h1 := nm_rng hp a (by omega)
  have h2 := nm_rng hp (show 0 ≤ t.2 by omega) c
  have ne := nm_ne hp a (by omega) (show 0 ≤ t.2 by omega) c (by omega)
  unfold ren ordP
  split
  · exact ⟨by dsimp only; omega, by dsimp only; omega, by dsimp only; omega⟩
  · exact ⟨by dsimp only; omega, by dsimp only; omega, by dsimp only; omega⟩
theorem back_ren (hp : names.Perm (upto m)) {t : Int × Int} (h : TieOk m t) : backT names (ren names t) = t := by
  have a := h.nn
  have b := h.lt
  have c := h.le
  have h1 := nm_ix hp a (by omega)
  have h2 := nm_ix hp (show 0 ≤ t.2 by omega) c
  have e : backT names (ren names t) = ordP t.1 t.2 := by
    unfold ren
    by_cases q : nmOf names t.1 ≤ nmOf names t.2
    · have : ordP (nmOf names t.1) (nmOf names t.2) = (nmOf names t.1, nmOf names t.2) := if_pos q
      rw [this]; unfold backT; dsimp only; rw [h1, h2]
    · have : ordP (nmOf names t.1) (nmOf names t.2) = (nmOf names t.2, nmOf names t.1) := if_neg q
      rw [this]; unfold backT; dsimp only; rw [h1, h2, ordP_comm]
  rw [e]
  unfold ordP
  rw [if_pos (by omega)]
theorem upto_nm (hp : names.Perm (upto m)) : (upto (m : Int)).map (nmOf names) = names := by
  have hl : names.length = m := hp.length_eq.trans (upto_len m)
  refine List.ext_getElem? fun i => ?_
  rw [List.getElem?_map]
  unfold upto
  rw [List.getElem?_map, Int.toNat_natCast]
  by_cases c : i < m
  · rw [List.getElem?_range c]
    exact (nm_at hp (x := (i : Int)) (by omega) (by omega)).symm
  · rw [List.getElem?_eq_none (by rw [List.length_range]; omega), List.getElem?_eq_none (by omega)]
    rfl
theorem rowR_perm (hp : names.Perm (upto m)) (hr : row.Perm (upto m)) : (row.map (nmOf names)).Perm (upto m) := by
  have := hr.map (nmOf names)
  rw [upto_nm hp] at this
  exact this.trans hp
theorem ix_ren (hp : names.Perm (upto m)) (hr : row.Perm (upto m)) {x : Int} (hx : x ∈ row) : ix (row.map (nmOf names)) (nmOf names x) = ix row x :=
  ix_eq ((rowR_perm hp hr).nodup_iff.mpr (upto_nodup m)) (by rw [List.getElem?_map, ix_get hx]; rfl)
theorem ordP_or (a b : Int) : ordP a b = (a, b) ∨ ordP a b = (b, a) := by
  unfold ordP
  split
  · exact .inl rfl
  · exact .inr rfl
theorem spots_ren (hp : names.Perm (upto m)) (hr : row.Perm (upto m)) {t : Int × Int} (h1 : t.1 ∈ row) (h2 : t.2 ∈ row) : spotsM (row.map (nmOf names)) (ren names t) = spotsM row t := by
  rw [spots_ord, spots_ord]
  unfold ren
  rcases ordP_or (nmOf names t.1) (nmOf names t.2) with e | e
  · rw [e, ix_ren hp hr h1, ix_ren hp hr h2]
  · rw [e, ix_ren hp hr h1, ix_ren hp hr h2, ordP_comm]
theorem clash_ren (hp : names.Perm (upto m)) (w : WR m ties row) {k : Kd} {t u : Int × Int} (ht : t ∈ ties) (hu : u ∈ ties) : clashB (row.map (nmOf names)) k (ren names t) (ren names u) = clashB row k t u := by
  have a := w.mem ht
  have b := w.mem hu
  unfold clashB Lr
  rw [spots_ren hp w.row a.1 a.2.1, spots_ren hp w.row b.1 b.2.1]
theorem mem_renM {t : Int × Int} : t ∈ renM names ties ↔ ∃ u ∈ ties, ren names u = t := by
  unfold renM
  rw [(sortP_perm _).mem_iff, List.mem_map]
theorem renM_len : (renM names ties).length = ties.length := by
  unfold renM
  rw [(sortP_perm _).length_eq, List.length_map]
theorem nodup_mapT {f g : Int × Int → Int × Int} : ∀ {l : List (Int × Int)}, l.Nodup → (∀ t ∈ l, g (f t) = t) → (l.map f).Nodup := fun {l} h hg => by
  unfold List.Nodup at h ⊢
  rw [List.pairwise_map]
  exact List.Pairwise.imp_of_mem (fun {a b} ha hb hab e => hab (by rw [← hg a ha, ← hg b hb, e])) h
theorem wr_ren (hp : names.Perm (upto m)) (w : WR m ties row) : WR m (renM names ties) (row.map (nmOf names)) := by
  refine ⟨⟨fun t ht => ?_, ?_, sortP_sorted _⟩, rowR_perm hp w.row⟩
  · obtain ⟨u, hu, rfl⟩ := mem_renM.mp ht
    exact ren_ok hp (w.ok.ok u hu)
  · exact (sortP_perm _).nodup_iff.mpr (nodup_mapT (g := backT names) w.ok.nd fun t ht => back_ren hp (w.ok.ok t ht))
theorem pc_ren (hp : names.Perm (upto m)) (w : WR m ties row) (h : ties.length < 16) (k : Kd) : pcM (renM names ties) k (row.map (nmOf names)) = pcM ties k row := by
  have h' : (renM names ties).length < 16 := by rw [renM_len]; exact h
  refine Nat.le_antisymm (pc_mono h h' (backT names) (fun t ht => ?_) fun t ht u hu hc => ?_) (pc_mono h' h (ren names) (fun t ht => mem_renM.mpr ⟨t, ht, rfl⟩) fun t ht u hu hc => ?_)
  · obtain ⟨v, hv, rfl⟩ := mem_renM.mp ht
    rw [back_ren hp (w.ok.ok v hv)]; exact hv
  · obtain ⟨v, hv, rfl⟩ := mem_renM.mp ht
    obtain ⟨z, hz, rfl⟩ := mem_renM.mp hu
    rw [back_ren hp (w.ok.ok v hv), back_ren hp (w.ok.ok z hz), ← clash_ren hp w hv hz]; exact hc
  · rw [clash_ren hp w ht hu]; exact hc
end
/-! ### webs at hand -/
def lexLtB (q r : Int × Int) : Bool := decide (q.1 < r.1) || (decide (q.1 = r.1) && decide (q.2 < r.2))
def risP : List (Int × Int) → Bool
  | [] => true
  | q :: l => l.all (lexLtB q) && risP l
def webB (m : Int) (ties : List (Int × Int)) : Bool := (ties.all fun t => decide (0 ≤ t.1) && (decide (t.1 < t.2) && decide (t.2 < m))) && risP ties
theorem ris_pw : ∀ {l : List (Int × Int)}, risP l = true → l.Pairwise fun q r => lexLtB q r = true
  | [], _ => .nil
  | q :: l, h => by
    obtain ⟨h1, h2⟩ := Bool.and_eq_true_iff.mp h
    exact .cons (fun r hr => List.all_eq_true.mp h1 r hr) (ris_pw h2)
theorem lexLt_iff {q r : Int × Int} : lexLtB q r = true ↔ q.1 < r.1 ∨ (q.1 = r.1 ∧ q.2 < r.2) := by simp [lexLtB]
theorem ris_srt {l : List (Int × Int)} (h : risP l = true) : l.Pairwise lexLe := (ris_pw h).imp fun h => by
  have := lexLt_iff.mp h
  unfold lexLe
  omega
theorem ris_nd {l : List (Int × Int)} (h : risP l = true) : l.Nodup := (ris_pw h).imp fun h e => by
  have := lexLt_iff.mp h
  rw [e] at this
  omega
theorem web_of {m : Nat} {ties : List (Int × Int)} (h : webB m ties = true) : WebOk m ties := by
  obtain ⟨h1, h2⟩ := Bool.and_eq_true_iff.mp h
  refine ⟨fun t ht => ?_, ris_nd h2, ris_srt h2⟩
  have := List.all_eq_true.mp h1 t ht
  simp at this
  exact ⟨this.1, this.2.1, this.2.2⟩
def fullM (n : Nat) : List (Int × Int) := (List.range n).flatMap fun i => (List.range (n - (i + 1))).map fun j => npC (i, i + 1 + j)
def everyM (n : Nat) : List (Int × Int) := (List.range n).flatMap fun k => (List.range k).map fun i => npC (i, k)
def halvesM (a b : Nat) : List (Int × Int) := (List.range a).flatMap fun k => (List.range b).map fun n => npC (k, a + n)
def roundL (n : Nat) : List (Int × Int) := (List.range (n - 1)).map (fun k => npC (k, k + 1)) ++ [npC (0, n - 1)]
def round3 : List (Int × Int) := [(0, 1), (0, 2), (1, 2)]
def round4 : List (Int × Int) := [(0, 1), (0, 3), (1, 2), (2, 3)]
def LeastB (m : Nat) (ties : List (Int × Int)) (k : Kd) (b : List Int) : Prop := b.Perm (upto m) ∧ ∀ r : List Int, r.Perm (upto m) → pcM ties k b ≤ pcM ties k r
theorem least_le {m V : Nat} {ties : List (Int × Int)} {k : Kd} {b : List Int} (h : LeastB m ties k b) (hs : ties.length < 16) (r0 : List Int) (hr : r0.Perm (upto m)) (g : List Nat) (hg : ((List.range ties.length).all fun i => decide (g.getD i 0 < V)) = true) (hc : ((clashesM ties r0 k).all fun p => !decide (g.getD p.1 0 = g.getD p.2 0)) = true) : pcM ties k b ≤ V := by
  refine Nat.le_trans (h.2 r0 hr) ?_
  obtain ⟨l, _, fw⟩ := pc_few k r0 hs
  refine fw.le hs (fun i => g.getD i 0) (fun i hi => of_decide_eq_true (List.all_eq_true.mp hg i (List.mem_range.mpr hi))) fun i j hij hj hp => ?_
  have := List.all_eq_true.mp hc (i, j) (inP_iff.mp hp)
  simpa using this
theorem least_ge2 {m : Nat} {ties : List (Int × Int)} {k : Kd} {b : List Int} (hb : b.Perm (upto m)) (h6 : m ≤ 6) (hs : ties.length < 16) (lo : ((rowsM 8 (upto m)).all fun r => !(clashesM ties r k).isEmpty) = true) : 2 ≤ pcM ties k b := by
  have hc := List.all_eq_true.mp lo b ((rows8 h6 b).mpr hb)
  obtain ⟨l, _, fw⟩ := pc_few k b hs
  obtain ⟨h1, h2, h3⟩ := fw.facts hs
  cases e : clashesM ties b k with
  | nil => rw [e] at hc; cases hc
  | cons p ps =>
    have hp : p ∈ clashesM ties b k := by rw [e]; exact List.mem_cons_self
    obtain ⟨p1, p2, p3⟩ := mem_clashesM.mp hp
    have ne := h2 p.1 p.2 p1 (by omega) (inP_iff.mpr hp)
    have g : ∀ i, i < ties.length → l.getD i 0 < pcM ties k b := fun i hi => (h3.mem _).mp (by rw [List.getD_eq_getElem?_getD, List.getElem?_eq_getElem (by omega)]; exact List.getElem_mem _)
    have := g p.1 (by omega)
    have := g p.2 p2
    omega
theorem least_is1 {m : Nat} {ties : List (Int × Int)} {k : Kd} {b : List Int} (h : LeastB m ties k b) (hs : ties.length < 16) (h0 : 0 < ties.length) (r0 : List Int) (hr : r0.Perm (upto m)) (hc : (clashesM ties r0 k).isEmpty = true) : pcM ties k b = 1 := by
  have h1 := pc_pos k b hs h0
  have h2 : pcM ties k b ≤ 1 := least_le h hs r0 hr [] (List.all_eq_true.mpr fun i _ => by simp) (by rw [List.isEmpty_iff.mp hc]; rfl)
  omega
end DL

set_option Elab.async false
set_option linter.all false
set_option maxRecDepth 100000
set_option maxHeartbeats 1000000
namespace DL
open PySem PySem.Spec L2
set_option autoImplicit false
/-! ### dicts from whole numbers to whole numbers -/
def kvV (kvs : List (Int × Int)) : List (Key × V) := kvs.map fun p => (Sum.inl p.1, V.int p.2)
def dictD (kvs : List (Int × Int)) : PyData := .dict (kvs.map fun p => (.int p.1, .int p.2))
/-- locked -/
def dictF (kvs : List (Int × Int)) : PyData := .dict ((.bool true, .none) :: kvs.map fun p => (.int p.1, .int p.2))
theorem kvs_inj : ∀ {a b : List (Int × Int)}, a.map (fun p => (PyData.int p.1, PyData.int p.2)) = b.map (fun p => (PyData.int p.1, PyData.int p.2)) → a = b
  | [], [], _ => rfl
  | [], _ :: _, h => by cases h
  | _ :: _, [], h => by cases h
  | (x, y) :: a, (z, w) :: b, h => by
    simp only [List.map_cons, List.cons.injEq, Prod.mk.injEq, PyData.int.injEq] at h
    rw [h.1.1, h.1.2, kvs_inj h.2]
theorem Rp.dict_inv {K : PySem.W.Frag} {H : Hp} {v : V} {kvs : List (Int × Int)} (h : Rp K H v (dictD kvs)) : ∃ a, v = .ref a ∧ Rd H a (.dK (kvV kvs)) ∧ kvs.length ≤ sizeLine := by
  unfold dictD at h
  generalize e : PyData.dict (kvs.map fun p => (PyData.int p.1, PyData.int p.2)) = d at h
  cases h with
  | dct r z =>
    have := kvs_inj (PyData.dict.inj e)
    subst this
    exact ⟨_, rfl, r, z⟩
  | dctF r z => cases kvs <;> simp at e
  | scr r z => cases kvs <;> simp at e
  | _ => cases e
theorem Rp.dictF_inv {K : PySem.W.Frag} {H : Hp} {v : V} {kvs : List (Int × Int)} (h : Rp K H v (dictF kvs)) : ∃ a o, v = .ref a ∧ H a = some (.frz o (.dK (kvV kvs))) ∧ kvs.length ≤ sizeLine := by
  unfold dictF at h
  generalize e : PyData.dict ((.bool true, .none) :: kvs.map fun p => (PyData.int p.1, PyData.int p.2)) = d at h
  cases h with
  | dctF r z =>
    have := kvs_inj (List.cons.inj (PyData.dict.inj e)).2
    subst this
    exact ⟨_, _, rfl, r, z⟩
  | dct r z => rename_i kvs2; cases kvs2 <;> simp at e
  | scr r z => simp at e
  | _ => cases e
/-- one of the two -/
inductive DK : PyData → List (Int × Int) → Prop
  | free (kvs : List (Int × Int)) : DK (dictD kvs) kvs
  | lock (kvs : List (Int × Int)) : DK (dictF kvs) kvs
theorem DK.inv {K : PySem.W.Frag} {H : Hp} {v : V} {d : PyData} {kvs : List (Int × Int)} (h : DK d kvs) (r : Rp K H v d) : ∃ a, v = .ref a ∧ Rd H a (.dK (kvV kvs)) ∧ kvs.length ≤ sizeLine := by
  cases h with
  | free => exact r.dict_inv
  | lock =>
    obtain ⟨a, o, e, h1, h2⟩ := r.dictF_inv
    exact ⟨a, e, .inr ⟨o, h1⟩, h2⟩
/-- the value at k -/
def dVal (kvs : List (Int × Int)) (k : Int) : Option Int := (kvs.find? fun p => decide (p.1 = k)).map (·.2)
theorem val_kv (kvs : List (Int × Int)) (k : Int) : valV (kvV kvs) (.inl k : Key) = (dVal kvs k).map V.int := by
  unfold dVal kvV
  induction kvs with
  | nil => rfl
  | cons p kvs ih =>
    rw [List.map_cons]
    by_cases e : p.1 = k
    · rw [valV_pos (by rw [e]), List.find?_cons, decide_eq_true e]; rfl
    · rw [valV_neg (fun z => e (Sum.inl.inj z)), List.find?_cons, decide_eq_false e]; exact ih
theorem rdh {S : List Addr} {H : Hp} {a : Addr} {u : HO} (r : Rd (hide S H) a u) : Rd H a u := r.elim (fun e => .inl (hide_some e).2) fun ⟨o, e⟩ => .inr ⟨o, (hide_some e).2⟩
section
variable {G : Ct} {δ : DEnv} {a b c e : Expr} {pos p : Pos} {x y z d : PyData} {kvs : List (Int × Int)}
theorem dget_of {H : Hp} {a : Addr} (k : Int) (r : Rd H a (.dK (kvV kvs))) : DGet H a (.int k) ((dVal kvs k).map V.int) := .inl ⟨kvV kvs, .inl k, r, rfl, (val_kv kvs k).symm⟩
/-- d[k] -/
theorem dv_dget {k v : Int} (ha : DV G δ a x) (hx : DK x kvs) (hb : DV G δ b (.int k)) (h : dVal kvs k = some v) (hs : NoSl b := by intro _ _; rfl) : DV G δ (.Subscript a b pos) (.int v) := fun X hX =>
  PE.imp (pe_dget (by have := room65 hX; omega) (ha X hX) (hb X hX) hs) fun σ H Q ⟨S, δ', d', ⟨e1, e2⟩, ok, R, q⟩ => by
    subst e1 e2
    refine ⟨S, _, _, ⟨rfl, rfl⟩, ok, R, fun u1 H1 s1 r1 => ⟨S, _, _, ⟨rfl, rfl⟩, ok.mono s1, R.mono s1, fun u2 H2 s2 r2 => ?_⟩⟩
    obtain ⟨t, rfl, rd, _⟩ := hx.inv (r1.mono (hide_mono s2))
    cases r2
    refine ⟨t, .int v, rfl, ?_, q _ _ (s1.trans s2) (.int _)⟩
    have := dget_of k (rdh rd)
    rw [h] at this
    exact this
/-- k in d, k not in d -/
def rDIn : R2 := fun x y H Q => ∃ a o, y = .ref a ∧ DGet H a x o ∧ Q (.bl o.isSome) H
def rDNotIn : R2 := fun x y H Q => ∃ a o, y = .ref a ∧ DGet H a x o ∧ Q (.bl (!o.isSome)) H
theorem op_din {X : Cx} (hu : X.A.units + 1 < cLine) : OpR X (compareOp .In) rDIn := fun pins s σ H x y v u Q I rx ry ⟨a, o, e, g, q⟩ => by
  subst e
  cases ry
  exact d_in hu I g rx fun s' I' => ⟨.bl o.isSome, H, I', rfl, q⟩
theorem op_dnotin {X : Cx} (hu : X.A.units + 1 < cLine) : OpR X (compareOp .NotIn) rDNotIn := fun pins s σ H x y v u Q I rx ry ⟨a, o, e, g, q⟩ => by
  subst e
  cases ry
  exact d_notIn hu I g rx fun s' I' => ⟨.bl (!o.isSome), H, I', rfl, q⟩
theorem dc_ind {k : Int} (ha : DV G δ a (.int k)) (hb : DV G δ b x) (hx : DK x kvs) : DC G δ .In a b (dVal kvs k).isSome :=
  ⟨_, _, ha, hb, fun X hX => ⟨rDIn, op_din (by have := room65 hX; omega), fun S H v w Q ok r1 r2 q => by
    cases r1
    obtain ⟨t, rfl, rd, _⟩ := hx.inv r2
    refine ⟨t, _, rfl, dget_of k (rdh rd), ?_⟩
    rw [Option.isSome_map]
    exact q⟩⟩
theorem dc_notind {k : Int} (ha : DV G δ a (.int k)) (hb : DV G δ b x) (hx : DK x kvs) : DC G δ .NotIn a b (!(dVal kvs k).isSome) :=
  ⟨_, _, ha, hb, fun X hX => ⟨rDNotIn, op_dnotin (by have := room65 hX; omega), fun S H v w Q ok r1 r2 q => by
    cases r1
    obtain ⟨t, rfl, rd, _⟩ := hx.inv r2
    refine ⟨t, _, rfl, dget_of k (rdh rd), ?_⟩
    rw [Option.isSome_map]
    exact q⟩⟩
/-- len(d) -/
theorem cr_dlen {X : Cx} : CallR X (.builtin "len") (fun vs H Q => ∃ a kvs, vs = [V.ref a] ∧ Rd H a (.dK kvs) ∧ Q (.int kvs.length) H) := fun pins s σ H vs us Q I r ⟨a, kvs, e, rd, q⟩ => by
  subst e
  rw [Vals.ref1 r]
  exact d_len I rd fun t s' I' => ⟨.int kvs.length, H, I', ⟨_, rfl⟩, q⟩
theorem dv_dlen (B : Blt G.m) (hg : globB G.sc "len" = true) (ha : DV G δ a x) (hx : DK x kvs) (hs : ∀ env : Env, starEach [a] env = (false, eval a env) :: starEach [] env := by intro _; rfl) : DV G δ (.Call (.Name "len" p) [a] [] pos) (natD kvs.length) := by
  refine dv_cb (fun X hX => cr_dlen) hg B.len PySem.boot_len (da_cons ha da_nil hs) (fun S H vs Q ok r q => ?_) (by decide) (by decide) hs
  cases r with
  | cons r1 r2 =>
    cases r2
    obtain ⟨t, rfl, rd, _⟩ := hx.inv r1
    refine ⟨t, _, rfl, (rdh rd), ?_⟩
    unfold kvV
    rw [List.length_map]
    exact q _ H (Same.refl H) (.int _)
/-- d.get(k, x) -/
theorem dv_dget2 {k v : Int} {apos cpos : Pos} (ha : DV G δ a x) (hx : DK x kvs) (hb : DV G δ b (.int k)) (hc : DV G δ c (.int v)) (h : ∀ X : Cx, M2 X a "get" apos b c cpos := by intro X; exact ⟨rfl, rfl, rfl, rfl⟩) : DV G δ (.Call (.Attribute a "get" apos) [b, c] [] cpos) (.int ((dVal kvs k).getD v)) := fun X hX =>
  PE.imp (pe_dget2 (by have := room65 hX; omega) (ha X hX) (hb X hX) (hc X hX) (h X)) fun σ H Q ⟨S, δ', d', ⟨e1, e2⟩, ok, R, q⟩ => by
    subst e1 e2
    refine ⟨S, _, _, ⟨rfl, rfl⟩, ok, R, fun u1 H1 s1 r1 => ?_⟩
    obtain ⟨t, rfl, rd, _⟩ := hx.inv r1
    refine ⟨t, rfl, .inl ⟨_, (rdh rd)⟩, S, _, _, ⟨rfl, rfl⟩, ok.mono s1, R.mono s1, fun u2 H2 s2 r2 => ⟨S, _, _, ⟨rfl, rfl⟩, (ok.mono s1).mono s2, (R.mono s1).mono s2, fun u3 H3 s3 r3 => ?_⟩⟩
    cases r2
    cases r3
    refine ⟨_, dget_of k (rdh (Rd.same rd (hide_mono (s2.trans s3)))), ?_⟩
    have e : ((dVal kvs k).map V.int).getD (.int v) = .int ((dVal kvs k).getD v) := by cases dVal kvs k <;> rfl
    rw [e]
    exact q _ _ ((s1.trans s2).trans s3) (.int _)
/-! a dict that is new -/
def tDND (K : PySem.W.Frag) (R : DEnv → List (Int × Int) → Prop) : TE := fun σ H Q => ∃ S δ kvs, R δ kvs ∧ SOk S H ∧ Rel K S δ σ H ∧ ∀ p H', Same H H' → H' p = none → kvs.length ≤ sizeLine → Q (.ref p) (upd H' p (.dK (kvV kvs)))
def DND (G : Ct) (δ : DEnv) (e : Expr) (kvs : List (Int × Int)) : Prop := ∀ X, G.Is X → PE X e (tDND G.m.K fun δ' k' => δ' = δ ∧ k' = kvs)
theorem dnd_dv (h : DND G δ e kvs) : DV G δ e (dictD kvs) := fun X hX =>
  PE.imp (h X hX) fun σ H Q ⟨S, δ', d', ⟨e1, e2⟩, ok, R, q⟩ => by
    subst e1 e2
    exact ⟨S, _, _, ⟨rfl, rfl⟩, ok, R, fun p H1 s1 hp hz => q _ _ (s1.trans (same_upd hp _)) (.dct (.inl (hide_upd_at (ok.mono s1) hp)) hz)⟩
theorem dnd_nil : DND G δ (.Dict [] [] pos) [] := fun X hX =>
  PE.imp pe_dnewK fun σ H Q ⟨S, δ', d', ⟨e1, e2⟩, ok, R, q⟩ => by
    subst e1 e2
    exact fun p hp => q p H (Same.refl H) hp (Nat.zero_le _)
theorem cr_dcopy {X : Cx} : CallR X (.type "dict") (fun vs H Q => ∃ a kvs, vs = [V.ref a] ∧ Rd H a (.dK kvs) ∧ ∀ p, H p = none → Q (.ref p) (upd H p (.dK kvs))) := fun pins s σ H vs us Q I r ⟨a, kvs, e, rd, q⟩ => by
  subst e
  rw [Vals.ref1 r]
  exact d_copyOf I rd fun p s' hp I' => ⟨.ref p, _, I', rfl, q p hp⟩
theorem dnd_copy (B : Blt G.m) (hg : globB G.sc "dict" = true) (ha : DV G δ a x) (hx : DK x kvs) (hs : ∀ env : Env, starEach [a] env = (false, eval a env) :: starEach [] env := by intro _; rfl) : DND G δ (.Call (.Name "dict" p) [a] [] pos) kvs := fun X hX => by
  refine PE.imp (pe_callTy (cr_dcopy (X := X)) (gl_of hX hg) (by rw [hX.mg]; exact B.dict) PyProof.Rows.boot_dict (pa_cons (ha X hX) pa_nil (hs _)) (by decide) (by decide) (hs _) rfl) fun σ H Q ⟨S, δ', d', ⟨e1, e2⟩, ok, R, q⟩ => ?_
  subst e1 e2
  refine ⟨S, _, _, ⟨rfl, rfl⟩, ok, R, fun v H1 s1 r1 => ?_⟩
  obtain ⟨t, rfl, rd, hz⟩ := hx.inv r1
  exact ⟨t, _, rfl, (rdh rd), fun p hp => q p H1 s1 hp hz⟩
/-! ### a dict of one's own -/
variable {ω : Own} {i : Nat}
theorem ds_ownd (i : Nat) {n : PySem.Str} (hN : G.N[i]? = some n) (hl : locB G n = true) (h : DND G δ e kvs) (hi : ∀ q ∈ ω, q.1 ≠ i := by simp) (hlen : i < δ.length := by simp) (hs : ∀ env : Env, swapsWith e (some (.Name n p)) pos.line env = pure false := by intro _; rfl) :
    DS G δ ω (.Assign [.Name n p] e pos) (.next (δ.set i none) ((i, .dct kvs) :: ω)) := fun X hX =>
  PS.imp (ps_set hX.nd (by rw [hX.N]; exact hN) (by rw [hX.sc]; exact loc_of hl) (h X hX) (hs _) (loc_fn hX hl)) fun D σ H ⟨S, H0, δ', ω', o', ⟨e1, e2, e3⟩, hS, r, q⟩ => by
    subst e1 e2 e3
    obtain ⟨as, B⟩ := r.bs hS
    refine ⟨_, _, _, ⟨rfl, rfl⟩, B.ok, B.rel, fun t H' s ht hz => q _ _ (B.own H' i t (.dct kvs) (.dK (kvV kvs)) s ht ⟨upd_same, hz⟩ hi hlen)⟩
def putD (kvs : List (Int × Int)) (k v : Int) : List (Int × Int) := if (dVal kvs k).isSome = true then kvs.map fun p => if p.1 = k then (p.1, v) else p else kvs ++ [(k, v)]
theorem put_kv (kvs : List (Int × Int)) (k v : Int) : putK (kvV kvs) (.inl k : Key) (V.int v) = kvV (putD kvs k v) := by
  have hv := val_kv kvs k
  unfold putD putK
  rw [valV_any, hv, Option.isSome_map]
  by_cases c : (dVal kvs k).isSome = true
  · rw [if_pos c, if_pos c]
    unfold kvV
    rw [List.map_map, List.map_map]
    refine List.map_congr_left fun p _ => ?_
    show (if (Sum.inl p.1 : Key) = .inl k then ((Sum.inl p.1 : Key), V.int v) else ((Sum.inl p.1 : Key), V.int p.2)) = _
    by_cases e : p.1 = k
    · rw [if_pos (by rw [e])]
      show _ = ((Sum.inl (if p.1 = k then (p.1, v) else p).1 : Key), V.int (if p.1 = k then (p.1, v) else p).2)
      rw [if_pos e]
    · rw [if_neg fun z => e (Sum.inl.inj z)]
      show _ = ((Sum.inl (if p.1 = k then (p.1, v) else p).1 : Key), V.int (if p.1 = k then (p.1, v) else p).2)
      rw [if_neg e]
  · rw [if_neg c, if_neg c]
    unfold kvV
    rw [List.map_append]
    rfl
/-- d[k] = v -/
theorem ds_dput (i j : Nat) {n : PySem.Str} {k v : Int} {p1 p2 : Pos} (hN : G.N[i]? = some n) (hl : locB G n = true) (hj : ω[j]? = some (i, .dct kvs)) (hk : DV G δ b (.int k)) (hv : DV G δ e (.int v)) (hz : kvs.length < 1000)
    (hs : ∀ env : Env, swapsWith e (some (.Subscript (.Name n p1) b p2)) pos.line env = pure false := by intro _; rfl) : DS G δ ω (.Assign [.Subscript (.Name n p1) b p2] e pos) (.next δ (ω.set j (i, .dct (putD kvs k v)))) := fun X hX =>
  PS.imp (ps_dput (by have := room65 hX; omega) (pe_n hX hN hl) (hk X hX) (hv X hX) (hs _)) fun D σ H ⟨S, H0, δ', ω', o', ⟨e1, e2, e3⟩, hS, r, q⟩ => by
    subst e1 e2 e3
    obtain ⟨as, B⟩ := r.bs hS
    obtain ⟨a, ha, q1, ⟨q2, q3⟩, fin⟩ := B.at_ j i _ hj
    refine ⟨_, _, _, ⟨rfl, rfl⟩, B.ok, B.rel, fun u1 H1 s1 r1 => ⟨.ref a, q1, _, _, _, ⟨rfl, rfl⟩, B.ok.mono s1, B.rel.mono s1, fun u2 H2 s2 r2 => ?_⟩⟩
    cases r1
    cases r2
    have h2 : H2 a = some (.dK (kvV kvs)) := s2 _ _ (s1 _ _ q2)
    refine ⟨a, _, rfl, DPut.k (k := .inl k) h2 (by unfold kvV; rw [List.length_map, sizeLine_eq]; omega), ?_⟩
    rw [put_kv]
    refine q _ _ (fin H2 _ _ (s1.trans s2) ⟨upd_same, ?_⟩)
    have : (putD kvs k v).length ≤ kvs.length + 1 := by unfold putD; split <;> simp
    rw [sizeLine_eq]
    omega
/-! ### over a dict's keys -/
theorem di_keys {tg : Expr} (ha : DV G δ a (dictF kvs)) : DI1 G δ tg a (kvs.map fun p => .int p.1) := fun X hX =>
  PI.imp (pi_keys (ha X hX)) fun σ H Q ⟨S, δ', d', ⟨e1, e2⟩, ok, R, q⟩ => by
    subst e1 e2
    refine ⟨S, _, _, ⟨rfl, rfl⟩, ok, R, fun v H1 s1 r1 => ?_⟩
    obtain ⟨t, o, rfl, h1, hz⟩ := r1.dictF_inv
    refine ⟨t, o, rfl, .inl ⟨kvV kvs, (hide_some h1).2, q _ H1 s1 fun S2 H2 s ok2 => ?_⟩⟩
    have h2 := (hide_some (s _ _ h1)).2
    refine ⟨fun i d e => ⟨⟨h2, ?_⟩, fun x H3 y => ?_⟩, h2, by unfold kvV; simp⟩
    · have : i < (kvs.map fun p => PyData.int p.1).length := by
        by_cases c : i < (kvs.map fun p => PyData.int p.1).length
        · exact c
        · rw [List.getElem?_eq_none (by omega)] at e; cases e
      unfold kvV
      simpa using this
    · obtain ⟨e3, k, w, hk, ex⟩ := y
      subst e3 ex
      unfold kvV at hk
      rw [List.getElem?_map] at hk e
      cases h3 : kvs[i]? with
      | none => rw [h3] at e; cases e
      | some q =>
        rw [h3] at hk e
        cases hk
        cases e
        exact ⟨Same.refl _, .int _⟩
end
/-! ### a dict locked while an expression is gone through -/
theorem Rd.lockd {F : Hp} {a b : Addr} {u w : HO} {o : Obj} (h : F a = some w) (nf : ∀ o' x, w ≠ .frz o' x) (r : Rd F b u) : Rd (upd F a (.frz o w)) b u := by
  rcases r with r | ⟨o', r⟩
  · by_cases e : b = a
    · subst e
      rw [h] at r
      cases r
      exact .inr ⟨o, upd_same⟩
    · exact .inl (by rw [upd_ne e]; exact r)
  · refine .inr ⟨o', ?_⟩
    rw [upd_ne fun e => by subst e; rw [h] at r; cases r; exact nf _ _ rfl]
    exact r
mutual
theorem Rp.lockd {K : PySem.W.Frag} {F : Hp} {a : Addr} {kv : List (Key × V)} {o : Obj} (h : F a = some (.dK kv)) : ∀ {v : V} {d : PyData}, Rp K F v d → Rp K (upd F a (.frz o (.dK kv))) v d
  | _, _, .non => .non
  | _, _, .bl b => .bl b
  | _, _, .int i => .int i
  | _, _, .str x => .str x
  | _, _, .lst e z r => .lst (by rw [upd_ne fun q => by subst q; rw [h] at e; cases e]; exact e) z (RpAll.lockd h r)
  | _, _, .tup e k z r => .tup (by rw [upd_ne fun q => by subst q; rw [h] at e; cases e]; exact e) k z (RpAll.lockd h r)
  | _, _, .dct r z => .dct (Rd.lockd h (fun _ _ q => by cases q) r) z
  | _, _, .dctF e z => .dctF (by rw [upd_ne fun q => by subst q; rw [h] at e; cases e]; exact e) z
  | _, _, .scr r z => .scr (r.elim (fun r => .inl (Rd.lockd h (fun _ _ q => by cases q) r)) .inr) z
theorem RpAll.lockd {K : PySem.W.Frag} {F : Hp} {a : Addr} {kv : List (Key × V)} {o : Obj} (h : F a = some (.dK kv)) : ∀ {vs : List V} {ds : List PyData}, RpAll K F vs ds → RpAll K (upd F a (.frz o (.dK kv))) vs ds
  | _, _, .nil => .nil
  | _, _, .cons x t => .cons (Rp.lockd h x) (RpAll.lockd h t)
end
theorem dv_lock {G : Ct} {δ : DEnv} {e : Expr} {n : Int} {kvs : List (Int × Int)} (i : Nat) (hi : δ[i]? = some (some (dictD kvs))) (h : DV G (δ.set i (some (dictF kvs))) e (.int n)) : DV G δ e (.int n) := fun X hX => by
  refine ⟨fun pins s σ H Q I ⟨S, δ', d', ⟨e1, e2⟩, ok, R, q⟩ => ?_⟩
  subst e1 e2
  have hil : i < δ'.length := by
    by_cases c : i < δ'.length
    · exact c
    · rw [List.getElem?_eq_none (by omega)] at hi; cases hi
  obtain ⟨v, hv, rv⟩ := R.val i _ hi
  obtain ⟨a, rfl, rd, hz⟩ := rv.dict_inv
  have relF : ∀ H2 : Hp, Rel G.m.K S δ' σ H2 → Rp G.m.K (hide S H2) (.ref a) (dictF kvs) → Rel G.m.K S (δ'.set i (some (dictF kvs))) σ H2 := fun H2 r2 rp => r2.look hv rp
  rcases rd with rd | ⟨o, rd⟩
  · obtain ⟨naS, ha⟩ := hide_some rd
    refine (pe_lock (h X hX)).run pins s σ H Q I ⟨a, .dK (kvV kvs), ha, True.intro, fun od => ?_⟩
    have hh : hide S (upd H a (.frz od (.dK (kvV kvs)))) = upd (hide S H) a (.frz od (.dK (kvV kvs))) := by
      funext b
      by_cases c : b = a
      · subst c; rw [upd_same, hide_out naS, upd_same]
      · rw [upd_ne c]
        by_cases cs : b ∈ S
        · rw [hide_in cs, hide_in cs]
        · rw [hide_out cs, hide_out cs, upd_ne c]
    have okL : SOk S (upd H a (.frz od (.dK (kvV kvs)))) := fun b hb => by
      rw [upd_ne fun e => by subst e; exact naS hb]
      exact ok b hb
    have RL : Rel G.m.K S δ' σ (upd H a (.frz od (.dK (kvV kvs)))) := ⟨R.len, fun j d e => by
      obtain ⟨w, h1, h2⟩ := R.val j d e
      refine ⟨w, h1, ?_⟩
      rw [hh]
      exact Rp.lockd rd h2⟩
    refine ⟨S, _, _, ⟨rfl, rfl⟩, okL, relF _ RL (by rw [hh]; exact .dctF upd_same hz), fun u H' s' ru => ?_⟩
    have hu : H' a = some (.frz od (.dK (kvV kvs))) := s' _ _ upd_same
    refine ⟨hu, q u _ ?_ ?_⟩
    · intro b o e
      by_cases c : b = a
      · subst c; rw [upd_same, ← ha, e]
      · rw [upd_ne c]
        exact s' _ _ (by rw [upd_ne c]; exact e)
    · cases ru
      exact .int _
  · refine (h X hX).run pins s σ H Q I ⟨S, _, _, ⟨rfl, rfl⟩, ok, relF _ R (.dctF rd hz), q⟩
end DL

set_option Elab.async false
set_option linter.all false
set_option maxRecDepth 100000
set_option maxHeartbeats 1000000
namespace DL
open PySem PySem.Spec L2 PyProof.Rows
set_option autoImplicit false
/-! ### xs[::-1], xs a tuple -/
section
variable {prog : Program} {w : World} {A : Around} {E : Value → Shared → Prop} {s : Shared}
theorem sliceApplied_back {sl : Addr} {vl vu vs : Value} {n : Nat} {Q : Int × Int × Nat → Shared → Prop} (hs : s.heap.IsSliceOf sl vl vu vs) (pl : IsPart vl none) (pu : IsPart vu none) (ps : IsPart vs (some (-1)))
    (h : Q ((n : Int) - 1, -1, n) s) : wpAny (model prog w) A (Builtin.Slice.sliceApplied (.ref sl) (pure (n : Int))) Q E s := by
  obtain ⟨os, hos, hcs, hds⟩ := id hs
  unfold Builtin.Slice.sliceApplied Builtin.Slice.sliceFields
  refine wpAny_bind (wpAny_bind (wpAny_field hos hds (x := vl) rfl (wpAny_bind (wpAny_field hos hds (x := vu) rfl (wpAny_bind (wpAny_field hos hds (x := vs) rfl (wpAny_pure ?_)))))))
  refine wpAny_bind (HT.slicePart_ ps ?_)
  show wpAny _ _ (if ((-1 : Int) == 0) = true then _ else _) _ _ s
  rw [if_neg (by decide)]
  refine wpAny_bind (HT.slicePart_ pl (wpAny_bind (HT.slicePart_ pu (wpAny_bind (wpAny_pure ?_)))))
  show wpAny _ _ (match Builtin.Slice.sliceAdjust none none (-1) (n : Int) with | (lo, hi) => pure (lo, (-1 : Int), Builtin.Slice.slicePlaces lo hi (-1))) _ _ s
  have e1 : Builtin.Slice.sliceAdjust none none (-1) (n : Int) = ((n : Int) - 1, -1) := by
    unfold Builtin.Slice.sliceAdjust
    simp
  rw [e1]
  have e2 : Builtin.Slice.slicePlaces ((n : Int) - 1) (-1) (-1) = n := by
    unfold Builtin.Slice.slicePlaces
    simp
    omega
  show wpAny _ _ (pure ((n : Int) - 1, (-1 : Int), Builtin.Slice.slicePlaces ((n : Int) - 1) (-1) (-1))) _ _ s
  rw [e2]
  exact wpAny_pure h
theorem fmap_cg {α β : Type} {f g : α → Option β} : ∀ {l : List α}, (∀ x ∈ l, f x = g x) → l.filterMap f = l.filterMap g
  | [], _ => rfl
  | x :: l, h => by
    rw [List.filterMap_cons, List.filterMap_cons, h x List.mem_cons_self, fmap_cg fun y hy => h y (List.mem_cons_of_mem _ hy)]
theorem pick_back (xs : Array Value) : ((List.range xs.size).filterMap fun (m : Nat) => xs[(((xs.size : Nat) : Int) - 1 + (m : Int) * (-1)).toNat]?).toArray = xs.toList.reverse.toArray := by
  congr 1
  have e : (List.range xs.size).filterMap (fun (m : Nat) => xs[(((xs.size : Nat) : Int) - 1 + (m : Int) * (-1)).toNat]?) = (List.range xs.size).filterMap ((fun k : Nat => xs[k]?) ∘ fun m => xs.size - 1 - m) := by
    refine fmap_cg fun m hm => ?_
    have := List.mem_range.mp hm
    show _ = xs[xs.size - 1 - m]?
    rw [show (((xs.size : Nat) : Int) - 1 + (m : Int) * (-1)).toNat = xs.size - 1 - m by omega]
  rw [e, ← List.filterMap_map, PySem.W.krv_range, List.filterMap_reverse, PySem.W.krv_all]
theorem getItem_tuple_back {t sl : Addr} {items : Array Value} {vl vu vs : Value} {Q : Value → Shared → Prop} (ht : IsTup s.heap t items) (hs : s.heap.IsSliceOf sl vl vu vs) (pl : IsPart vl none) (pu : IsPart vu none) (ps : IsPart vs (some (-1)))
    (h : Q (.ref s.heap.objs.size) { s with heap := s.heap.push { cls := .type "tuple", data := .seq items.toList.reverse.toArray } }) (hsz : items.size ≤ sizeLine) : wpAny (model prog w) A (getItem (.ref t) (.ref sl)) Q E s := by
  have fit : sizeOk (.seq items.toList.reverse.toArray) := by
    show items.toList.reverse.toArray.size ≤ sizeLine
    rw [List.size_toArray, List.length_reverse, Array.length_toList]
    exact hsz
  obtain ⟨os, hos, hcs, hds⟩ := id hs
  have tyS : s.TypeIs (.ref sl) "slice" := ⟨os, hos, hcs⟩
  unfold getItem
  try with_reducible refine wpAny_holding ?_
  first | refine wpAny_bind (wpAny_pure ?_) | skip
  refine wpAny_bind (wpAny_sequenceKey ht.typeIs (by decide) ?_)
  refine wpAny_bind (wpAny_callSpecial?_slot (name := Str.ofString "__getitem__") ht.typeIs PyProof.Rows.slot_tuple_getitem
    (wpAny_call_entry PyProof.Rows.slot_tuple_getitem ht.typeIs entry_tuple_getitem ?_ (args_tuple_getitem _ _)))
  show wpAny _ _ (Builtin.Tuple.tupleItemsOf (.ref t) >>= _) _ _ s
  refine wpAny_bind (tupleItemsOf_ ht ?_)
  refine wpAny_bind (wpAny_typeOf tyS ?_)
  rw [if_pos (by decide)]
  refine wpAny_bind (sliceApplied_back hs pl pu ps ?_)
  show wpAny _ _ (if ((((items.size : Nat) : Int) - 1) == 0 && (-1 : Int) == 1 && items.size == items.size) = true then _ else _) _ _ s
  rw [if_neg (by simp), pick_back]
  first
    | exact wpAny_bind (m := Builtin.Tuple.tupleExact _) (wpAny_newObj_type (wpAny_pure ⟨_, rfl, wpAny_pure h⟩) fit)
    | exact wpAny_bind (m := Builtin.Tuple.tupleExact _) (wpAny_newObj_type (wpAny_bind (wpAny_pure (wpAny_pure ⟨_, rfl, wpAny_pure h⟩))) fit)
    | exact wpAny_bind (wpAny_bind (m := Builtin.Tuple.tupleExact _) (wpAny_newObj_type (wpAny_pure (wpAny_pure ⟨_, rfl, wpAny_pure h⟩)) fit))
    | exact wpAny_bind (wpAny_bind (m := Builtin.Tuple.tupleExact _) (wpAny_newObj_type (wpAny_pure ⟨_, rfl, wpAny_pure h⟩) fit))
end
def tRevTF (K : PySem.W.Frag) (te : TE) : TE := fun σ H Q => te σ H fun x H1 => ∃ a xs, x = .ref a ∧ SqT K H1 a xs ∧ NewT H1 xs.reverse Q
theorem pe_revTF {X : Cx} {e : Expr} {te : TE} {k : Nat} {p1 p2 p3 pos : Pos} (he : PE X e te) : PE X (.Subscript e (.Slice none none (some (.UnaryOp .USub (.Constant (.int 1) k p1) p2)) p3) pos) (tRevTF X.K te) := by
  refine ⟨fun pins s σ H Q I h => ?_⟩
  refine Subscript_ (thn (he.run pins s σ H _ I h) fun v s1 ⟨x, H1, I1, r1, a, xs, ex, hx, q⟩ => ?_)
  subst ex
  cases r1
  have hst : PO X (some (.UnaryOp .USub (.Constant (.int 1) k p1) p2)) (tPart (tUn (rU fun i => .int (-i)) (tC (.int 1)))) := po_some (pe_un un_neg pe_int)
  refine wpAny_Slice (thn (po_none.run pins s1 σ H1 (fun o H2 => o = none ∧ H2 = H1) I1 ⟨rfl, rfl⟩) fun vl s2 ⟨l, H2, I2, pl, el, e2⟩ => ?_)
  subst el e2
  refine thn (po_none.run pins s2 σ H2 (fun o H3 => o = none ∧ H3 = H2) I2 ⟨rfl, rfl⟩) fun vu s3 ⟨u, H3, I3, pu, eu, e3⟩ => ?_
  subst eu e3
  refine thn (hst.run pins s3 σ H3 (fun o H4 => o = some (-1) ∧ H4 = H3) I3 ⟨1, rfl, -1, rfl, rfl, rfl⟩) fun vs s4 ⟨o, H4, I4, ps, eo, e4⟩ => ?_
  subst eo e4
  have I5 : Inv X pins σ H4 { s4 with heap := s4.heap.push { cls := .type "slice", data := .fields #[vl, vu, vs] } } := I4.kept (t' := s4.toks) fun b ob q => Heap.get?_push_of_some _ q
  obtain ⟨its, r, ht, hz⟩ := I5.tuple hx
  show wpAny (model X.prog X.w) X.A (subscriptTail e (.Slice none none (some (.UnaryOp .USub (.Constant (.int 1) k p1) p2)) p3) (.ref a) (.ref s4.heap.objs.size)) (EP X pins σ Q) X.xe { s4 with heap := s4.heap.push { cls := .type "slice", data := .fields #[vl, vu, vs] } }
  refine tail_any (ops := [.ref a, .ref s4.heap.objs.size]) ht.typeIs (PyProof.Rows.slot_tuple_getitem.lookup) ?_ (by with_unfolding_all rfl)
  refine getItem_tuple_back ht (Heap.IsSliceOf.new _ vl vu vs) pl pu ps ?_ (by rw [List.size_toArray, ← r.length]; exact hz)
  exact newT (s := { s4 with heap := s4.heap.push { cls := .type "slice", data := .fields #[vl, vu, vs] } }) (t' := s4.toks) I5 r.reverse (by rw [List.length_reverse]; exact hz) q
theorem dv_revt {G : Ct} {δ : DEnv} {a : Expr} {ds : List PyData} {k : Nat} {p1 p2 p3 pos : Pos} (ha : DV G δ a (.tuple ds)) : DV G δ (.Subscript a (.Slice none none (some (.UnaryOp .USub (.Constant (.int 1) k p1) p2)) p3) pos) (.tuple ds.reverse) := fun X hX =>
  PE.imp (pe_revTF (ha X hX)) fun σ H Q ⟨S, δ', d', ⟨e1, e2⟩, ok, R, q⟩ => by
    subst e1 e2
    refine ⟨S, _, _, ⟨rfl, rfl⟩, ok, R, fun v H1 s1 r1 => ?_⟩
    cases r1 with
    | tup e1 k1 z1 a1 =>
      rw [hX.K]
      exact ⟨_, _, rfl, SqT.frz (hide_some e1).2, Rp.newT (ok.mono s1) (by rw [List.length_reverse]; exact z1) a1.rev s1 q⟩
end DL

set_option Elab.async false
set_option linter.all false
set_option maxRecDepth 100000
set_option maxHeartbeats 4000000
namespace DL
open PySem PySem.Spec L2 PyProof.Rows RT
set_option autoImplicit false
/-! ### tuple(reversed(xs)), xs a tuple that is not empty -/
theorem nolen_rt : typeLookup (.type "reversed") "__len__" = pure none := by rw [typeLookup_type, builtinLookup_eq_fast]; kernel_rfl
theorem slot_rt_hint : Slot "reversed" "__length_hint__" "reversed.__length_hint__" :=
  .of (owner := "reversed") (n := "__length_hint__") (by rw [typeLookup_type, builtinLookup_eq_fast]; kernel_rfl) (by decide +kernel) (by decide +kernel) (by decide +kernel)
    (by first | exact .inl (by decide +kernel) | exact .inr (by decide +kernel)) (by rw [isSubtype_type]; kernel_rfl)
theorem args_rt_hint (a : Value) : argsOk "reversed.__length_hint__" ⟨[a], []⟩ := by
  unfold argsOk; rw [signature?_of (id := "reversed.__length_hint__") (n := ['_', '_', 't', 'n', 'i', 'h', '_', 'h', 't', 'g', 'n', 'e', 'l', '_', '_']) (o := ['d', 'e', 's', 'r', 'e', 'v', 'e', 'r']) (by kernel_rfl) owner_rt]; kernel_rfl
theorem entry_rt_hint : entryFor table "reversed.__length_hint__" = some Builtin.«reversed.__length_hint__» := entryFor_of_tree (by kernel_rfl)
section
variable {prog : Program} {w : World} {A : Around} {E : Value → Shared → Prop} {s : Shared}
theorem walksTupRev (hh : A.handled = none) (I t : Addr) (hne : t ≠ I) (items : Array Value) (hsz : items.size ≤ sizeLine) :
    Walks prog w A I [I, t] [I] items.size (fun i v => items[items.size - 1 - i]? = some v) (fun i h => i ≤ items.size ∧ IsRt h I t ((items.size : Int) - 1 - (i : Int)) ∧ IsTup h t items) where
  sub := fun b hb => by simp at hb; simp [hb]
  frame := fun _ _ _ x hk => ⟨x.1, x.2.1.at fun o e => hk I (by simp) o e, let ⟨o, ho, r⟩ := x.2.2; ⟨o, hk t (by simp) o ho, r⟩⟩
  item := fun i s Q E hi x hQ => by
    have e : (items.size : Int) - 1 - (i : Int) = ((items.size - 1 - i : Nat) : Int) := by omega
    have hit := x.2.1
    rw [e] at hit
    have hx : items[items.size - 1 - i]? = some (items[items.size - 1 - i]'(by omega)) := Array.getElem?_eq_getElem (by omega)
    refine next_rt_item hit x.2.2 hx hsz fun h' hit' hs' => ?_
    have e2 : ((items.size - 1 - i : Nat) : Int) - 1 = (items.size : Int) - 1 - ((i + 1 : Nat) : Int) := by omega
    rw [e2] at hit'
    exact hQ _ h' (s.toks + 1) hx ⟨hi, hit', let ⟨o, ho, r⟩ := x.2.2; ⟨o, (hs'.2 t hne).trans ho, r⟩⟩ fun b o hb eo => (hs'.2 b (fun h => hb (by simp [h]))).trans eo
  done := fun s Q E x hQ => by
    have e : (items.size : Int) - 1 - (items.size : Int) = -1 := by omega
    have hit := x.2.1
    rw [e] at hit
    exact next_rt_end hh hit fun h' he' => hQ h' s.toks fun b o hb eo => he' b o (fun h => hb (by simp [h])) eo
  self := fun _ _ _ _ x hQ => iter_rt x.2.1 hQ
theorem hint_rt {it t : Addr} {items : Array Value} {Q : Value → Shared → Prop} (hit : IsRt s.heap it t ((items.size : Int) - 1)) (ht : IsTup s.heap t items) (hfit : (items.size : Int) < 2 ^ 63)
    (h : ∀ u tk, s.toks ≤ tk → Q (.int items.size u) { s with toks := tk }) : wpAny (model prog w) A (call (.builtin "reversed.__length_hint__") [.ref it]) Q E s := by
  obtain ⟨o, ho, hc, hd⟩ := id hit
  refine wpAny_call_entry slot_rt_hint hit.typeIs entry_rt_hint ?_ (args_rt_hint _)
  unfold Builtin.«reversed.__length_hint__»
  refine wpAny_bind (wpAny_of_eq (a := (Value.ref it)) rfl ?_)
  try dsimp only
  refine wpAny_bind (wpAny_field ho hd (x := .ref t) rfl ?_)
  try rw [if_neg (by decide)]
  try dsimp only
  refine wpAny_bind (PyProof.Rows.len_tuple ht hfit ?_)
  refine wpAny_bind (wpAny_of_eq (a := some ((items.size : Nat) : Int)) rfl ?_)
  try dsimp only
  refine wpAny_bind (wpAny_field (s := { s with toks := s.toks + 1 + 1 }) ho hd (x := rawInt ((items.size : Int) - 1)) rfl ?_)
  show wpAny _ _ (if (items.size : Int) < (items.size : Int) - 1 + 1 then _ else _) _ _ _
  rw [if_neg (by omega)]
  show wpAny _ _ (retInt ((items.size : Int) - 1 + 1)) _ _ _
  rw [show (items.size : Int) - 1 + 1 = items.size by omega]
  unfold retInt
  refine wpAny_bind (wpAny_mkInt ?_)
  exact wpAny_pure ⟨_, rfl, h _ _ (by show s.toks ≤ _; first | omega | (dsimp only; omega))⟩
theorem collect_rt {it t : Addr} {items : Array Value} {Q : List Value → Shared → Prop} (hh : A.handled = none) (hit : IsRt s.heap it t ((items.size : Int) - 1)) (hl : IsTup s.heap t items) (hne : t ≠ it) (hn : items.size ≤ sizeLine) (h0 : 0 < items.size)
    (hQ : ∀ (h' : Heap) (tk : Nat) (acc : Array Value), (∀ b o, b ≠ it → s.heap.get? b = some o → h'.get? b = some o) → ItemsOf (fun i v => items[items.size - 1 - i]? = some v) acc items.size → Q acc.toList { s with heap := h', toks := tk }) :
    wpAny (model prog w) A (collect (.ref it)) Q E s := by
  have W := (walksTupRev (prog := prog) (w := w) (A := A.in1) hh it t hne items hn).toS
  obtain ⟨oi, hoi, _⟩ := id hit
  obtain ⟨ol, hol, _⟩ := id hl
  have hSi : s.heap.objs.size ≠ it := Nat.ne_of_gt (Heap.lt_size hoi)
  have hSl : s.heap.objs.size ≠ t := Nat.ne_of_gt (Heap.lt_size hol)
  have hSf : s.heap.objs.size ∉ [it, t] := by simp only [List.mem_cons, List.not_mem_nil, or_false, not_or]; exact ⟨hSi, hSl⟩
  unfold collect
  refine wpAny_bind (wpAny_runValue (codeAny_builtin F.entry_proto_collect ?_))
  rw [Around.under_plainId F.plain_proto_collect _]
  show wpAny _ A.in1 (newList [] >>= fun l' => again (.builtin "list.__iadd__" ⟨[l', .ref it], []⟩)) _ _ s
  refine wpAny_bind (wpAny_newObj_type ?_)
  refine wpAny_pure ⟨plainId_quiet F.plain_list_iadd _, codeAny_builtin F.entry_list_iadd ?_⟩
  rw [Around.under_plainId F.plain_list_iadd _]
  have hS₁ : (s.heap.push { cls := .type "list", data := .seq ([] : List Value).toArray }).get? s.heap.objs.size = some { cls := .type "list", data := .seq ([] : List Value).toArray } := Heap.get?_push_size _ rfl
  have hit1 : IsRt (s.heap.push { cls := .type "list", data := .seq ([] : List Value).toArray }) it t ((items.size : Int) - 1) := hit.at fun o e => Heap.get?_push_of_some _ e
  have hl1 : IsTup (s.heap.push { cls := .type "list", data := .seq ([] : List Value).toArray }) t items := hl.push _
  have hT : ({ s with heap := s.heap.push { cls := .type "list", data := .seq ([] : List Value).toArray } } : Shared).TypeIs (.ref it) "reversed" := IsRt.typeIs (s := { s with heap := s.heap.push { cls := .type "list", data := .seq ([] : List Value).toArray } }) hit1
  have h1 : Builtin.List.listSameRef (.ref s.heap.objs.size) (.ref it) = false := by simp [Builtin.List.listSameRef, hSi]
  show wpAny _ A.in1 (Builtin.List.listExtendWith (.ref s.heap.objs.size) (.ref it) (.ref s.heap.objs.size)) _ _ _
  unfold Builtin.List.listExtendWith
  refine wpAny_bind (wpAny_typeOf hT ?_)
  rw [if_neg (by rw [h1]; decide)]
  refine wpAny_bind (iter_rt (s := { s with heap := s.heap.push { cls := .type "list", data := .seq ([] : List Value).toArray } }) hit1 ?_)
  refine wpAny_bind (wpAny_holding ?_)
  unfold Builtin.List.listLengthHint
  refine wpAny_bind (wpAny_specialOf hT nolen_rt ?_)
  show wpAny _ A.in1 (specialOf (Value.ref it) (Str.ofString "__length_hint__") >>= _) _ _ _
  refine wpAny_bind (wpAny_specialOf hT slot_rt_hint.lookup ?_)
  generalize hid : ("reversed.__length_hint__" : String) = id0
  wp_delta
  rw [show splitId id0 = some ("reversed", "__length_hint__") from by subst hid; decide +kernel]
  subst hid
  refine wpAny_bind (wpAny_isInstance (b := true) hT (by rw [isSubtype_type]; kernel_rfl) ?_)
  rw [if_neg (by decide)]
  try dsimp only
  rw [if_neg (by decide +kernel)]
  try dsimp only
  refine wpAny_bind (wpAny_rule ?_)
  refine wpAny_bind (wpAny_of_eq (a := (Value.builtin "reversed.__length_hint__", [Value.ref it])) (by first | rfl | kernel_rfl) ?_)
  try dsimp only
  refine wpAny_bind (wpAny_attempt (hint_rt (s := { s with heap := s.heap.push { cls := .type "list", data := .seq ([] : List Value).toArray } }) hit1 hl1 (by rw [sizeLine_eq] at hn; omega) fun u tk htk => ?_))
  try dsimp only
  have fits : Builtin.List.listFitsIndex ((items.size : Nat) : Int) = true := by unfold Builtin.List.listFitsIndex; simp; rw [sizeLine_eq] at hn; omega
  have long : Builtin.List.listTooLong ((items.size : Nat) : Int).toNat = false := by unfold Builtin.List.listTooLong; simp; omega
  refine wpAny_bind ?_
  generalize hz : ((items.size : Nat) : Int) = z at fits long
  refine wpAny_of_eq (a := some z) rfl ?_
  try dsimp only
  rw [if_neg (by rw [fits]; decide)]; rw [if_neg (by omega)]; rw [if_neg (by rw [long]; decide)]
  refine wpAny_pure ?_
  have hz0 : (z != 0) = true := by simp; omega
  rw [hz0]
  show wpAny _ A.in1 (rule "list.extend.makes-room" >>= fun _ => Builtin.List.listTouch (.ref s.heap.objs.size) >>= fun _ =>
    again (.builtin "list.extend.loop" ⟨[.ref s.heap.objs.size, .ref it, .ref s.heap.objs.size], []⟩)) _ _ _
  refine wpAny_bind (wpAny_rule ?_)
  refine wpAny_bind ?_
  show wpAny _ A.in1 (updateSeq s.heap.objs.size (·.push .none) >>= fun _ => updateSeq s.heap.objs.size (·.pop)) _ _ _
  refine wpAny_bind (wpAny_updateSeq hS₁ rfl ?_)
  have hS₂ := Heap.get?_update_self (Obj.mapSeq (·.push Value.none)) hS₁ rfl
  refine wpAny_updateSeq hS₂ rfl ?_
  have hS₃ := Heap.get?_update_self (Obj.mapSeq (·.pop)) hS₂ rfl
  have oth : ∀ b o, b ≠ s.heap.objs.size → (s.heap.push { cls := .type "list", data := .seq ([] : List Value).toArray }).get? b = some o →
      (((s.heap.push { cls := .type "list", data := .seq ([] : List Value).toArray }).update s.heap.objs.size (Obj.mapSeq (·.push Value.none))).update s.heap.objs.size (Obj.mapSeq (·.pop))).get? b = some o :=
    fun b o hb e => (Heap.get?_update_other _ _ (Ne.symm hb)).trans ((Heap.get?_update_other _ _ (Ne.symm hb)).trans e)
  have e0 : ((items.size : Nat) : Int) - 1 - ((0 : Nat) : Int) = (items.size : Int) - 1 := by omega
  have hit3 := hit1.at fun o e => oth it o (Ne.symm hSi) e
  have hl3 : IsTup (((s.heap.push { cls := .type "list", data := .seq ([] : List Value).toArray }).update s.heap.objs.size (Obj.mapSeq (·.push Value.none))).update s.heap.objs.size (Obj.mapSeq (·.pop))) t items := by
    obtain ⟨o, ho, r⟩ := hl1
    exact ⟨o, oth t o (Ne.symm hSl) ho, r⟩
  refine wpAny_pure ⟨plainId_quiet F.plain_extend_loop _, codeAny_extend_loopS W hn _ hSf _ items.size 0 _ _ _ rfl (Nat.zero_le _) ⟨Nat.zero_le _, by rw [e0]; exact hit3, hl3⟩ hS₃ (ItemsOf.nil _) fun s' acc' c' hm hS' hacc => ?_⟩
  show wpAny _ A (load s.heap.objs.size >>= _) _ _ s'
  refine wpAny_bind (wpAny_load hS' ?_)
  refine wpAny_pure ?_
  rw [Moved.eq_with hm]
  refine hQ s'.heap s'.toks acc' (fun b o hb e => hm.heap b o (fun hmem => ?_) (oth b o (Nat.ne_of_lt (Heap.lt_size e)) (Heap.get?_push_of_some _ e))) hacc
  rcases List.mem_cons.mp hmem with e' | hmem
  · exact absurd (Heap.lt_size e) (by rw [e']; exact Nat.lt_irrefl _)
  · exact hb (List.mem_singleton.mp hmem)
end
end DL

set_option Elab.async false
set_option linter.all false
set_option maxRecDepth 100000
set_option maxHeartbeats 4000000
namespace DL
open PySem PySem.Spec L2 PyProof.Rows
set_option autoImplicit false
/-! ### set(xs), xs a tuple of tuples of whole numbers -/
/-- a set that nothing has been put in -/
abbrev voidS (w : World) : Obj := { cls := .type "set", dict := none, data := .set #[] 0 (.fresh 0 0 (!w.params.followText "set-order")) }
section
variable {P : Program} {w : World} {A : Around} {E : Value → Shared → Prop} {s : Shared}
theorem set_tuptup {l : Addr} {items : Array Value} (ks : List (Addr × List Int)) {Q : Value → Shared → Prop} (hh : A.handled = none) (hl : s.heap.IsTuple l items) (hit : items.toList = ks.map fun p => Value.ref p.1)
    (hk : ∀ p ∈ ks, IsT P w s.heap p.2 p.1) (hfew : ks.length < 64) (hu : A.units + 3 < cLine)
    (fin : ∀ (h' : Heap) (tk : Nat) L es ep t, SetTR P w h' s.heap.objs.size L es ep t → Got ks ks.length L → (∀ b o, s.heap.get? b = some o → h'.get? b = some o) → Q (.ref s.heap.objs.size) { s with heap := h', toks := tk }) :
    wpAny (model P w) A (call (.type "set") [.ref l]) Q E s := by
  have cnt : items.size = ks.length := by rw [← Array.length_toList, hit, List.length_map]
  obtain ⟨_, _, hmro⟩ := F.called_set.mro
  have hmade := F.called_set.made
  have hsub := F.called_set.sub
  refine wpAny_call (codeAny_of_tree (wpAny_pure ⟨Code.quiet_builtin _ (by decide +kernel), codeAny_builtin F.entry_type_call ?_⟩))
  rw [Around.under_plain (weight_type_call_type "set" [.ref l] []) rfl]
  have f1 := F.called_set.notType
  have f2 := F.called_set.canCreate
  have f3 := F.typeCall_set_1 (.ref l)
  repeat (any_goals (first | assumption | wp_step))
  refine codeAny_mono (code_set_led1 (.ref l) (E := E) (Q₁ := fun v t => v = .ref s.heap.objs.size ∧ t = { s with heap := s.heap.push (voidS w) }) ⟨rfl, rfl⟩) fun r s₁ hr => ?_
  rcases r with _ | fl
  · exact hr
  cases fl with
  | ret obj =>
    obtain ⟨rfl, rfl⟩ := hr
    have atS : (s.heap.push (voidS w)).get? s.heap.objs.size = some (voidS w) := Heap.get?_push_size _ rfl
    have tyS : Shared.TypeIs { s with heap := s.heap.push (voidS w) } (.ref s.heap.objs.size) "set" := ⟨_, atS, rfl⟩
    have g1 := F.called_set.init.lookup
    have g2 := F.called_set.init.bind (.ref s.heap.objs.size)
    repeat (any_goals (first | assumption | wp_step))
    refine codeAny_mono (codeAny_call_builtin (R := wants (fun r t => r = .none ∧ ∃ h' tk L es ep q, t = { s with heap := h', toks := tk } ∧ SetTR P w h' s.heap.objs.size L es ep q ∧ Got ks ks.length L ∧ (∀ b o, s.heap.get? b = some o → h'.get? b = some o)) E)
      F.called_set.init.plain F.entry_set_init (check_set_init_1 tyS ?_)) fun r₂ s₂ hr₂ => ?_
    · obtain ⟨⟨oc, od, oda, osl⟩, hol, hcl, nl, hdl⟩ := hl
      dsimp only at hcl hdl
      subst hcl hdl
      have hol2 : (s.heap.push (voidS w)).get? l = some { cls := .type "tuple", dict := od, data := .seq items nl, slots := osl } := Heap.get?_push_of_some _ hol
      have k1 := F.sub_tuple_set
      have k2 := F.sub_tuple_frozenset
      have k3 : (Value.type "tuple" == Value.type "dict") = false := by decide
      have isl : (s.heap.push (voidS w)).IsTuple l items := ⟨_, hol2, rfl, nl, rfl⟩
      unfold Builtin.«set.__init__» noKeywords Builtin.Frozenset.updateFrom
      generalize hPI : pyIter = PI
      wp_walk
      subst hPI
      refine wpAny_pyIter_tuple isl (wpAny_bind (wpAny_runValue ?_))
      have lS : l < s.heap.objs.size := Heap.lt_size hol
      have hh3 : A.in1.in1.in1.handled = none := by simp [hh]
      have sz : (s.heap.push (voidS w)).objs.size = s.heap.objs.size + 1 := Heap.size_push ..
      have vals : ∀ (i : Nat) (v : Value), items[i]? = some v → ∃ p, ks[i]? = some p ∧ v = .ref p.1 := fun i v hv => by
        have q : (ks.map fun p => Value.ref p.1)[i]? = some v := by rw [← hit, Array.getElem?_toList]; exact hv
        obtain ⟨p, hp, e⟩ := Option.map_eq_some_iff.mp (List.getElem?_map ▸ q)
        exact ⟨p, hp, e.symm⟩
      have free : ∀ b, s.heap.objs.size ≤ b → s.heap.get? b = none := fun b hb => by
        cases q : s.heap.get? b with
        | none => rfl
        | some o => exact absurd (Nat.lt_of_lt_of_le (Heap.lt_size q) hb) (Nat.lt_irrefl _)
      refine set_update_tups ((Walks.tuple hh3 _ l (Nat.ne_of_lt (by rw [sz]; exact Nat.lt_succ_of_lt lS)) items).toS) s.heap.objs.size (by rw [sz]; simp only [List.mem_cons, List.not_mem_nil, or_false, not_or]; exact ⟨Nat.ne_of_lt (Nat.lt_succ_self _), Nat.ne_of_gt lS⟩) ks cnt hfew vals s.heap hk (free _ (Nat.le_refl _)) (fun b hb => free b (by rw [List.mem_singleton.mp hb, sz]; exact Nat.le_succ _)) hu (items.size - 0) 0 _ (by omega) (Nat.zero_le _)
        ⟨⟨_, Heap.get?_push_size _ rfl, rfl, rfl⟩, (isl.push _)⟩ (fun b o e => Heap.get?_push_of_some _ (Heap.get?_push_of_some _ e)) ?_ ?_
      · exact ⟨[], #[], 0, _, setTR_fresh (Heap.get?_push_of_some _ atS), Got.zero ks⟩
      · intro t L es ep q hm hS gg hkp
        obtain ⟨h', g2, d', tk', os'⟩ := t
        have eg : g2 = s.gens := hm.gens
        have ed : d' = s.drawn := hm.drawn
        have eo : os' = s.os := hm.os
        subst eg ed eo
        refine wpAny_pure ?_
        rw [cnt] at gg
        exact wpAny_pure ⟨rfl, h', tk', L, es, ep, q, rfl, hS, gg, hkp⟩
    · rcases r₂ with _ | fl₂
      · exact hr₂
      cases fl₂ with
      | ret r =>
        obtain ⟨rfl, h', tk, L, es, ep, t, rfl, hS, gg, hkk⟩ := hr₂
        repeat (any_goals (first | assumption | wp_step))
        exact fin _ _ _ _ _ _ hS gg hkk
      | _ => exact hr₂.elim
  | _ => exact hr.elim
end
end DL

set_option Elab.async false
set_option linter.all false
set_option maxRecDepth 100000
set_option maxHeartbeats 4000000
namespace DL
open PySem PySem.Spec L2
set_option autoImplicit false
/-! ### sorted(set(xs)), xs a tuple of pairs -/
def tSortSetP (K : PySem.W.Frag) (ta : TE) : TE := fun σ H Q => ta σ H fun x H1 => ∃ (l : Addr) (ks : List (Addr × List Int)), x = V.ref l ∧ SqT K H1 l (ks.map fun p => V.ref p.1) ∧ (∀ p ∈ ks, SqT K H1 p.1 (p.2.map V.int)) ∧ ks.length < 64 ∧ (∀ p ∈ ks, p.2.length = 2 ∧ TS.Bd 64 p.2) ∧
  ∀ (L : List (Addr × List Int)) (p : Addr), (∀ q ∈ L, q ∈ ks) → (∀ q ∈ ks, q.2 ∈ L.map (·.2)) → (L.map (·.2)).Nodup → L.length < 64 → L.Pairwise (fun q r => TS.code 64 q.2 ≤ TS.code 64 r.2) → H1 p = none → Q (.ref p) (upd H1 p (.lst (L.map fun q => V.ref q.1)))
section
variable {G : Ct} {δ : DEnv} {a : Expr} {pos p p2 q : Pos}
theorem pe_sortSetP {X : Cx} {ta : TE} (hc : X.calm = true) (hu : X.A.units + 65 < cLine) (hg : Gl X "sorted") (hm : X.mg "sorted" = none) (hg2 : Gl X "set") (hm2 : X.mg "set" = none) (ha : PE X a ta)
    (na : starEach [a] X.env = (false, eval a X.env) :: starEach [] X.env) (nb : starEach [.Call (.Name "set" p2) [a] [] q] X.env = (false, eval (.Call (.Name "set" p2) [a] [] q) X.env) :: starEach [] X.env) : PE X (.Call (.Name "sorted" p) [.Call (.Name "set" p2) [a] [] q] [] pos) (tSortSetP X.K ta) := by
  refine ⟨fun pins s σ H Q I h => ?_⟩
  refine PyProof.Rows.Call_ (ld_blt I hg hm PyProof.Rows.boot_sorted ?_)
  refine PyProof.Rows.callWith_builtin1 (PyProof.Rows.args_cons ?_ nb) nb rfl
  refine PyProof.Rows.Call_ (ld_blt I hg2 hm2 PyProof.Rows.boot_set ?_)
  refine PyProof.Rows.callWith_type1 (PyProof.Rows.args_cons (thn (ha.run pins s σ H _ I h) fun v s1 ⟨x, H1, I1, r1, q1⟩ => PyProof.Rows.args_nil ?_) na) na rfl
  obtain ⟨l, ks, e, hq, hk, hz, hB, q1⟩ := q1
  subst e
  obtain rfl : v = .ref l := r1
  obtain ⟨its, r, pt, _⟩ := I1.tuple hq
  refine set_tuptup (P := X.prog) (w := X.w) ks (I1.ok.hd hc) (show s1.heap.IsTuple l its.toArray from pt) (by simpa using refs_of_vals r) (fun p hp => I1.isT (hk p hp)) hz (by omega) fun h' tk L es ep t R gg k => ?_
  refine PyProof.Rows.args_nil ?_
  have I2 : Inv X pins σ H1 { s1 with heap := h', toks := tk } := I1.kept k
  have sub : ∀ p ∈ L, p ∈ ks := fun p hp => List.mem_of_mem_take (gg.sub p hp)
  refine sorted_setT R (I1.ok.hd hc) (d := 2) (B := 64) (by omega) (fun p hp => hB p (sub p hp)) fun s' p out c L' kk g o hp hgt hout pm pw => ?_
  have hfew : L'.length < 64 := by rw [pm.length_eq]; exact R.few
  have hlen : (L'.map fun q => V.ref q.1).length ≤ sizeLine := by rw [List.length_map, sizeLine_eq]; omega
  have hn : H1 p = none := I2.hok.fresh hp
  have hv : Vals (L'.map fun q => V.ref q.1) out.toList := by rw [hout]; exact vals_of_refs L'
  have J : Inv X pins σ (upd H1 p (.lst (L'.map fun q => V.ref q.1))) { ({ s1 with heap := h', toks := tk } : Shared) with heap := s'.heap, gens := s'.gens, drawn := s'.drawn, toks := s'.toks } :=
    Inv.call (s := { s1 with heap := h', toks := tk }) I2 (ch := []) (Un.laid kk hp hn) (I2.hok.laid kk hp ⟨hlen, out.toList, c, hv, hgt⟩) (by rw [g]; exact I2.bare) (fun _ z => nomatch z)
  have e2 : s' = { s1 with heap := s'.heap, gens := s'.gens, drawn := s'.drawn, toks := s'.toks } := by
    cases s'
    cases s1
    cases o
    rfl
  rw [e2]
  refine ⟨.ref p, _, J, rfl, q1 L' p (fun q hq => sub q (pm.mem_iff.mp hq)) (fun q hq => ?_) ((pm.map (·.2)).nodup_iff.mpr R.nd) hfew pw hn⟩
  exact (pm.map (·.2)).mem_iff.mpr (gg.all q (by rw [List.take_length]; exact hq))
def adr : V → Addr
  | .ref t => t
  | _ => 0
def pOf (k : List Int) : Int × Int := (k.getD 0 0, k.getD 1 0)
theorem dn_sortsetP {ps qs : List (Int × Int)} (B : Blt G.m) (hg : globB G.sc "sorted" = true) (hg2 : globB G.sc "set" = true) (ha : DV G δ a (.tuple (ps.map pairD))) (hz : ps.length < 64) (hb : ∀ q ∈ ps, 0 ≤ q.1 ∧ q.1 < 64 ∧ 0 ≤ q.2 ∧ q.2 < 64)
    (hq1 : qs.Pairwise lexLe) (hq2 : qs.Nodup) (hq3 : ∀ q, q ∈ qs ↔ q ∈ ps)
    (na : ∀ env : Env, starEach [a] env = (false, eval a env) :: starEach [] env := by intro _; rfl) (nb : ∀ env : Env, starEach [.Call (.Name "set" p2) [a] [] q] env = (false, eval (.Call (.Name "set" p2) [a] [] q) env) :: starEach [] env := by intro _; rfl) :
    DN G δ (.Call (.Name "sorted" p) [.Call (.Name "set" p2) [a] [] q] [] pos) (qs.map pairD) := fun X hX => by
  refine PE.imp (pe_sortSetP hX.calm (room65 hX) (gl_of hX hg) (by rw [hX.mg]; exact B.sorted) (gl_of hX hg2) (by rw [hX.mg]; exact B.set) (ha X hX) (na _) (nb _)) fun σ H Q ⟨S, δ', d', ⟨e1, e2⟩, ok, R, q⟩ => ?_
  subst e1 e2
  refine ⟨S, _, _, ⟨rfl, rfl⟩, ok, R, fun v H1 s1 r1 => ?_⟩
  cases r1 with
  | tup e1 k1 z1 a1 =>
    obtain ⟨l, ex, ep, hl⟩ := pairs_of a1
    have hk : ∀ z ∈ l, ∃ t o, z.1 = V.ref t ∧ H1 t = some (.frz o (.tup [.int z.2.1, .int z.2.2])) := fun z hzz => by
      obtain ⟨t, o, f1, f2⟩ := (hl z hzz).pair
      exact ⟨t, o, f1, (hide_some f2).2⟩
    have hin : ∀ w ∈ l.map (fun z => (adr z.1, [z.2.1, z.2.2])), ∃ z ∈ l, w = (adr z.1, [z.2.1, z.2.2]) ∧ V.ref w.1 = z.1 := fun w hw => by
      obtain ⟨z, hzz, rfl⟩ := List.mem_map.mp hw
      obtain ⟨t, o, f1, f2⟩ := hk z hzz
      exact ⟨z, hzz, rfl, by rw [f1]; rfl⟩
    refine ⟨_, l.map (fun z => (adr z.1, [z.2.1, z.2.2])), rfl, ?_, ?_, ?_, ?_, fun L p h1 h2 h3 h4 h5 h6 => ?_⟩
    · rw [hX.K, List.map_map]
      have : (l.map ((fun p : Addr × List Int => V.ref p.1) ∘ fun z => (adr z.1, [z.2.1, z.2.2]))) = l.map (·.1) := List.map_congr_left fun z hzz => by
        obtain ⟨t, o, f1, f2⟩ := hk z hzz
        show V.ref (adr z.1) = z.1
        rw [f1]; rfl
      rw [this, ← ex]
      exact SqT.frz (hide_some e1).2
    · intro w hw
      obtain ⟨z, hzz, rfl, _⟩ := hin w hw
      obtain ⟨t, o, f1, f2⟩ := hk z hzz
      rw [hX.K]
      show SqT G.m.K H1 (adr z.1) [V.int z.2.1, V.int z.2.2]
      rw [f1]
      exact SqT.frz f2
    · rw [List.length_map]
      rw [ep, List.length_map] at hz
      exact hz
    · intro w hw
      obtain ⟨z, hzz, rfl, _⟩ := hin w hw
      have := hb z.2 (by rw [ep]; exact List.mem_map_of_mem hzz)
      refine ⟨rfl, fun m hm => ?_⟩
      simp at hm
      rcases hm with rfl | rfl
      · exact ⟨this.1, this.2.1⟩
      · exact ⟨this.2.2.1, this.2.2.2⟩
    · have hf : ∀ w ∈ L, ∃ z ∈ l, V.ref w.1 = z.1 ∧ w.2 = [z.2.1, z.2.2] ∧ pOf w.2 = z.2 := fun w hw => by
        obtain ⟨z, hzz, e, e'⟩ := hin w (h1 w hw)
        exact ⟨z, hzz, e', by rw [e], by rw [e]; rfl⟩
      have srt : (L.map fun w => pOf w.2).Pairwise lexLe := by
        rw [List.pairwise_map]
        refine List.Pairwise.imp_of_mem (fun {u v} hu hv huv => ?_) h5
        obtain ⟨z, hzz, _, b1, b2⟩ := hf u hu
        obtain ⟨y, hyy, _, c1, c2⟩ := hf v hv
        rw [b2, c2]
        rw [b1, c1] at huv
        exact lex_of_code huv (hb z.2 (by rw [ep]; exact List.mem_map_of_mem hzz)) (hb y.2 (by rw [ep]; exact List.mem_map_of_mem hyy))
      have nd : (L.map fun w => pOf w.2).Nodup := by
        unfold List.Nodup at h3 ⊢
        rw [List.pairwise_map] at h3 ⊢
        refine List.Pairwise.imp_of_mem (fun {u v} hu hv huv e => huv ?_) h3
        obtain ⟨z, hzz, _, b1, b2⟩ := hf u hu
        obtain ⟨y, hyy, _, c1, c2⟩ := hf v hv
        rw [b1, c1, ← b2, ← c2, e]
      have mem : ∀ x, x ∈ (L.map fun w => pOf w.2) ↔ x ∈ ps := fun x => by
        constructor
        · intro hx
          obtain ⟨w, hw, rfl⟩ := List.mem_map.mp hx
          obtain ⟨z, hzz, _, _, b2⟩ := hf w hw
          rw [b2, ep]
          exact List.mem_map_of_mem hzz
        · intro hx
          rw [ep] at hx
          obtain ⟨z, hzz, rfl⟩ := List.mem_map.mp hx
          obtain ⟨w, hw, e⟩ := List.mem_map.mp (h2 (adr z.1, [z.2.1, z.2.2]) (List.mem_map.mpr ⟨z, hzz, rfl⟩))
          refine List.mem_map.mpr ⟨w, hw, ?_⟩
          have e' : w.2 = [z.2.1, z.2.2] := e
          rw [e']; rfl
      have eq : (L.map fun w => pOf w.2) = qs := List.Perm.eq_of_pairwise (le := lexLe) (fun _ _ _ _ h1 h2 => lexLe_antisymm h1 h2) srt hq1 ((List.perm_ext_iff_of_nodup nd hq2).mpr fun x => (mem x).trans (hq3 x).symm)
      have ra : ∀ m : List (Addr × List Int), (∀ w ∈ m, ∃ z ∈ l, V.ref w.1 = z.1 ∧ w.2 = [z.2.1, z.2.2] ∧ pOf w.2 = z.2) → RpAll G.m.K (hide S H1) (m.map fun w => V.ref w.1) ((m.map fun w => pOf w.2).map pairD) := by
        intro m
        induction m with
        | nil => intro _; exact .nil
        | cons w m ih =>
          intro h
          obtain ⟨z, hzz, b0, _, b2⟩ := h w List.mem_cons_self
          refine .cons ?_ (ih fun u hu => h u (List.mem_cons_of_mem _ hu))
          show Rp _ _ (V.ref w.1) (pairD (pOf w.2))
          rw [b0, b2]
          exact hl z hzz
      have := ra L hf
      rw [eq] at this
      exact q _ p H1 s1 h6 (by rw [List.length_map, sizeLine_eq]; omega) this
end
end DL

set_option Elab.async false
set_option linter.all false
set_option maxRecDepth 100000
set_option maxHeartbeats 4000000
namespace DL
open PySem PySem.Spec L2 PyProof.Rows RT
set_option autoImplicit false
section
variable {prog : Program} {w : World} {A : Around} {E : Value → Shared → Prop} {s : Shared}
theorem code_tuple_new_rt {it t : Addr} {items : Array Value} {Q₁ : Value → Shared → Prop} (hh : A.handled = none) (hit : IsRt s.heap it t ((items.size : Int) - 1)) (hl : IsTup s.heap t items) (hne : t ≠ it) (hn : items.size ≤ sizeLine) (h0 : 0 < items.size)
    (h : ∀ (h' : Heap) (tk : Nat) (acc : Array Value), (∀ b o, b ≠ it → s.heap.get? b = some o → h'.get? b = some o) → ItemsOf (fun i v => items[items.size - 1 - i]? = some v) acc items.size →
      Q₁ (.ref h'.objs.size) { s with heap := h'.push { cls := .type "tuple", data := .seq acc }, toks := tk }) :
    codeAny (model prog w) A (.call (.builtin "tuple.__new__") ⟨[.type "tuple", .ref it], []⟩) (wants Q₁ E) s := by
  refine codeAny_of_tree ?_
  show wpAny _ A.in1 (do checkBuiltinCall "tuple.__new__" ⟨[.type "tuple", .ref it], []⟩; again (.builtin "tuple.__new__" ⟨[.type "tuple", .ref it], []⟩)) _ _ s
  refine wpAny_bind (wpAny_of_eq (F.newCall_tuple_1 _) (wpAny_pure ⟨plainId_quiet F.plain_tuple_new _, codeAny_builtin F.entry_tuple_new ?_⟩))
  rw [Around.under_plainId F.plain_tuple_new _]
  have hsub := sub_tuple_self
  have hinit := init_tuple_lookup
  have hmh := madeHere_tuple
  have hTI : s.TypeIs (.ref it) "reversed" := hit.typeIs
  have hh1 : A.in1.handled = none := hh
  wp_walk using wpAny_typeOf hTI, collect_rt (A := A.in1) hh1 hit hl hne hn h0
  intro h' tk acc hk hacc
  show wpAny _ _ (Builtin.Tuple.tupleExact acc.toList.toArray >>= fun v => ret v) _ _ _
  unfold Builtin.Tuple.tupleExact
  refine wpAny_bind (wpAny_newObj_type ?_ (by show acc.toList.toArray.size ≤ sizeLine; simp only [Array.toArray_toList]; rw [hacc.1]; exact hn))
  refine wpAny_pure ?_
  have e : acc.toList.toArray = acc := by simp
  rw [e]
  exact h h' tk acc hk hacc
theorem call_tuple_rt {it t : Addr} {items : Array Value} {Q : Value → Shared → Prop} (hh : A.handled = none) (hit : IsRt s.heap it t ((items.size : Int) - 1)) (hl : IsTup s.heap t items) (hne : t ≠ it) (hn : items.size ≤ sizeLine) (h0 : 0 < items.size)
    (hQ : ∀ (h' : Heap) (tk : Nat) (acc : Array Value), (∀ b o, b ≠ it → s.heap.get? b = some o → h'.get? b = some o) → ItemsOf (fun i v => items[items.size - 1 - i]? = some v) acc items.size →
      Q (.ref h'.objs.size) { s with heap := h'.push { cls := .type "tuple", data := .seq acc }, toks := tk }) :
    wpAny (model prog w) A (call (.type "tuple") [.ref it]) Q E s := by
  refine callType_codes (Q₁ := fun obj s₁ => s₁.TypeIs obj "tuple" ∧ Q obj s₁) F.called_tuple (F.typeCall_tuple_1 _) F.entry_object_init
    (code_tuple_new_rt (A := A.in1) hh hit hl hne hn h0 fun h' tk acc hk hacc => ⟨⟨_, Heap.get?_push_size _ rfl, rfl⟩, hQ h' tk acc hk hacc⟩) fun obj s₁ h₁ => ?_
  exact ⟨h₁.1, F.args_object_init_2 obj _, object_init_meets F.called_tuple.init.lookup F.called_tuple.made (by decide) prog w A.in1 _ s₁ ⟨h₁.1, rfl, h₁.2⟩⟩
end
def tTupRevT (K : PySem.W.Frag) (te : TE) : TE := fun σ H Q => te σ H fun x H1 => ∃ (a : Addr) (xs : List V), x = .ref a ∧ SqT K H1 a xs ∧ 0 < xs.length ∧ NewT H1 xs.reverse Q
theorem pe_tupRevT {X : Cx} {e : Expr} {te : TE} {p p2 pos pos2 : Pos} (hc : X.calm = true) (hg : Gl X "tuple") (hm : X.mg "tuple" = none) (hg2 : Gl X "reversed") (hm2 : X.mg "reversed" = none) (he : PE X e te)
    (hs : starEach [e] X.env = (false, eval e X.env) :: starEach [] X.env := by rfl)
    (hs2 : starEach [.Call (.Name "reversed" p2) [e] [] pos2] X.env = (false, eval (.Call (.Name "reversed" p2) [e] [] pos2) X.env) :: starEach [] X.env := by rfl) :
    PE X (.Call (.Name "tuple" p) [.Call (.Name "reversed" p2) [e] [] pos2] [] pos) (tTupRevT X.K te) := by
  refine ⟨fun pins s σ H Q I h => ?_⟩
  refine Call_ (ld_blt I hg hm boot_tuple (PyProof.Rows.callWith_type1 (args_cons (Call_ (ld_blt I hg2 hm2 PyProof.Rows.boot_reversed (PyProof.Rows.callWith_type1 (args_cons (thn (he.run pins s σ H _ I h) fun u s1 ⟨v, H1, I1, r1, q1⟩ => args_nil ?_) hs) hs rfl))) hs2) hs2 rfl))
  obtain ⟨a, xs, ev, hq, hpos, q⟩ := q1
  subst ev
  obtain rfl : u = Value.ref a := r1
  obtain ⟨its, rv, p', hz⟩ := I1.tuple hq
  have hn63 := line63
  have hl := rv.length
  refine call_reversed_tup p' (fun A E Q k => len_tuple p' (by simp only [List.size_toArray] <;> omega) k) (args_nil ?_)
  have k0 : ∀ b o, s1.heap.get? b = some o → (s1.heap.push (rtObj a ((its.toArray.size : Int) - 1))).get? b = some o := fun b o e => Heap.get?_push_of_some _ e
  have I2 : Inv X pins σ H1 { s1 with heap := s1.heap.push (rtObj a ((its.toArray.size : Int) - 1)), toks := s1.toks + 1 + 1 } := I1.kept (t' := s1.toks + 1 + 1) k0
  obtain ⟨f0, f1, f2, f3, f4, f5⟩ := I1.fpOk (H' := H1) (b := s1.heap.objs.size) (Nat.le_refl _) (I1.hok.fresh (Nat.le_refl _))
  obtain ⟨ol, hol, _⟩ := id p'
  have hne : a ≠ s1.heap.objs.size := Nat.ne_of_lt (Heap.lt_size hol)
  have hn : its.toArray.size ≤ sizeLine := by rw [List.size_toArray, ← rv.length]; exact hz
  refine call_tuple_rt (s := { s1 with heap := s1.heap.push (rtObj a ((its.toArray.size : Int) - 1)), toks := s1.toks + 1 + 1 }) (I1.ok.hd hc) ⟨_, Heap.get?_push_size _ rfl, rfl, rfl⟩ (p'.push _) hne hn (by rw [List.size_toArray, ← rv.length]; exact hpos) fun h' tk acc hk hi => ?_
  have I3 : Inv X pins σ H1 { s1 with heap := h', toks := tk } := I2.turned (t' := tk) (fun b o hb e => hk b o hb e) f0 f1 f3 f4 f5
  have vr := vals_rev rv hi
  have := newT (s := { s1 with heap := h', toks := tk }) (t' := tk) I3 vr (by rw [List.length_reverse]; exact hz) q
  rw [Array.toArray_toList] at this
  exact this
section
variable {G : Ct} {δ : DEnv} {a : Expr} {p p2 pos pos2 : Pos}
theorem dv_tuprevt {ds : List PyData} (B : Blt G.m) (hg : globB G.sc "tuple" = true) (hg2 : globB G.sc "reversed" = true) (ha : DV G δ a (.tuple ds)) (h0 : 0 < ds.length)
    (na : ∀ env : Env, starEach [a] env = (false, eval a env) :: starEach [] env := by intro _; rfl) (nb : ∀ env : Env, starEach [.Call (.Name "reversed" p2) [a] [] pos2] env = (false, eval (.Call (.Name "reversed" p2) [a] [] pos2) env) :: starEach [] env := by intro _; rfl) :
    DV G δ (.Call (.Name "tuple" p) [.Call (.Name "reversed" p2) [a] [] pos2] [] pos) (.tuple ds.reverse) := fun X hX =>
  PE.imp (pe_tupRevT hX.calm (gl_of hX hg) (by rw [hX.mg]; exact B.tuple) (gl_of hX hg2) (by rw [hX.mg]; exact B.reversed) (ha X hX) (na _) (nb _)) fun σ H Q ⟨S, δ', d', ⟨e1, e2⟩, ok, R, q⟩ => by
    subst e1 e2
    refine ⟨S, _, _, ⟨rfl, rfl⟩, ok, R, fun v H1 s1 r1 => ?_⟩
    cases r1 with
    | tup e1 k1 z1 a1 =>
      rw [hX.K]
      exact ⟨_, _, rfl, SqT.frz (hide_some e1).2, by rw [a1.len]; exact h0, Rp.newT (ok.mono s1) (by rw [List.length_reverse]; exact z1) a1.rev s1 q⟩
end

/-! ### sorted of a tuple of whole numbers -/
section
variable {prog : Program} {w : World} {A : Around} {E : Value → Shared → Prop} {s : Shared}
open SrtO in
theorem sorted_ordT {l : Addr} {vs : List Value} {ltv : Value → Value → Bool} {Q : Value → Shared → Prop} (O : SrtO.Swo ltv) (hl : IsTup s.heap l vs.toArray) (hz : vs.length ≤ sizeLine)
    (hS : 2 ≤ vs.length → ∀ (h₁ : Heap) (a : Addr), h₁.get? a = some (seqObj "list" vs.toArray 0) → SrtO.SortableO prog w A.in1.in1 { s with heap := h₁ } a vs ltv)
    (h : ∀ (h' : Heap) (out : List Value), (∀ b o, s.heap.get? b = some o → h'.get? b = some o) → SrtO.Srtd ltv out → SrtO.Stb ltv out vs → Q (.ref h'.objs.size) { s with heap := sortedHeap (h'.push (seqObj "list" vs.toArray 0)) h'.objs.size vs out.toArray }) :
    wpAny (model prog w) A (call (.builtin "sorted") [.ref l]) Q E s := by
  refine Calls.call_function_entry kind_sorted plain_sorted entry_sorted (args_sorted1 _) ?_
  unfold Builtin.«sorted»
  refine wpAny_bind (m := checkCount "sorted" 1 1 _) (wpAny_pure ?_)
  obtain ⟨o, ho, hc, n, hd⟩ := id hl
  refine wpAny_bind (wpAny_collect_seq l (.inr rfl) ho hc hd (fun h' k => ?_) (by simpa using hz))
  refine wpAny_bind (wpAny_newList ?_ hz)
  have hoL : (h'.push (seqObj "list" vs.toArray 0)).get? h'.objs.size = some (seqObj "list" vs.toArray 0) := Heap.get?_push_size _ rfl
  show wpAny _ _ _ _ _ { s with heap := h'.push (seqObj "list" vs.toArray 0) }
  refine wpAny_bind (wpAny_holding (wpAny_call_entry slot_list_sort ⟨_, hoL, rfl⟩ entry_list_sort (SrtO.list_sort_ord O hoL hz (fun h2 => hS h2 _ _ hoL) fun out hs hb => ⟨_, rfl, ?_⟩) (args_list_sort _)))
  exact wpAny_pure ⟨_, rfl, h h' out k hs hb⟩
end
def rSortedIT (K : PySem.W.Frag) : List V → Hp → VK → Prop := fun vs H Q => ∃ (a : Addr) (ns : List Int), vs = [V.ref a] ∧ SqT K H a (ns.map V.int) ∧
  ∀ (ns' : List Int) (p : Addr), ns'.Perm ns → ns'.Pairwise (· ≤ ·) → H p = none → Q (.ref p) (upd H p (.lst (ns'.map V.int)))
theorem cr_sortedIT {X : Cx} : CallR X (.builtin "sorted") (rSortedIT X.K) := by
  intro pins s σ H vs us Q I r h
  obtain ⟨a, ns, rfl, hs, q⟩ := h
  obtain ⟨its, rv, hl, hz⟩ := I.tuple hs
  rw [Vals.ref1 r]
  have hi := rv.ints
  refine sorted_ordT SrtO.swo_int hl (by rw [← rv.length]; exact hz) (fun h2 h₁ a' _ => SrtO.ints_sortable hi h2) fun h' out k h1 h2 => ?_
  obtain ⟨k1, k2, k3⟩ := SrtO.ints_out hi h1 h2
  obtain ⟨ep, he'⟩ := PyProof.Rows.sortedHeap_at (vs := its) (out := out.toArray) (show (h'.push (seqObj "list" its.toArray 0)).get? h'.objs.size = some (seqObj "list" its.toArray 0) from Heap.get?_push_size _ rfl)
  have hlen : ((out.map SrtO.iv).map V.int).length ≤ sizeLine := by
    rw [List.length_map, k2.length_eq]
    rw [List.length_map] at hz
    exact hz
  have I2 : Inv X pins σ H { s with heap := h' } := I.kept (t' := s.toks) k
  refine ⟨.ref _, upd H h'.objs.size (.lst ((out.map SrtO.iv).map V.int)), I2.laid (t' := s.toks) (fun b o hb => ?_) (Nat.le_refl _) ⟨hlen, out, ep, vals_of_ints k1, he'⟩, rfl, q _ _ k2 k3 (I2.hok.fresh (Nat.le_refl _))⟩
  have hlt : b < h'.objs.size := Heap.lt_size hb
  rw [sortedHeap_old (Nat.ne_of_lt hlt) (by rw [size_push']; exact Nat.lt_succ_of_lt hlt), Heap.get?_push_ne _ _ _ (Nat.ne_of_lt hlt)]
  exact hb
section
variable {G : Ct} {δ : DEnv} {a : Expr} {p pos : Pos}
theorem dn_sortedT {ns ms : List Int} (B : Blt G.m) (hg : globB G.sc "sorted" = true) (ha : DV G δ a (.tuple (ns.map .int))) (hp : ms.Perm ns) (hs' : ms.Pairwise (· ≤ ·)) (hs : ∀ env : Env, starEach [a] env = (false, eval a env) :: starEach [] env := by intro _; rfl) : DN G δ (.Call (.Name "sorted" p) [a] [] pos) (ms.map .int) := by
  refine dn_cb (r := rSortedIT G.m.K) (fun X hX => hX.K ▸ cr_sortedIT) hg B.sorted PyProof.Rows.boot_sorted (da_cons ha da_nil hs) (fun S H vs Q ok r q => ?_) (by decide) (by decide) hs
  cases r with
  | cons r1 r2 =>
    cases r2
    cases r1 with
    | tup e1 k1 z1 a1 =>
      obtain rfl := a1.ints
      refine ⟨_, ns, rfl, SqT.frz (hide_some e1).2, fun ns' t h1 h2 h3 => ?_⟩
      have e : ns' = ms := (h1.trans hp.symm).eq_of_pairwise (le := (· ≤ ·)) (fun a b _ _ h1 h2 => Int.le_antisymm h1 h2) h2 hs'
      subst e
      refine q _ _ h3 ?_ (RpAll.ofInts _)
      rw [List.length_map, h1.length_eq, ← List.length_map (f := V.int)]
      exact z1
end
end DL

set_option Elab.async false
set_option linter.all false
set_option maxRecDepth 100000
set_option maxHeartbeats 4000000
namespace DL
open PySem PySem.Spec L2
set_option autoImplicit false
theorem Sm.div {n : Nat} {z : Int} (k : Int) (hk : 0 < k) (h : Sm n z) : Sm n (z / k) := by
  unfold Sm at h ⊢
  generalize (2 : Nat) ^ n = x at h ⊢
  have a := Int.mul_ediv_add_emod z k
  have b := Int.emod_nonneg z (show k ≠ 0 by omega)
  have c := Int.emod_lt_of_pos z hk
  have : (z / k).natAbs ≤ z.natAbs := by
    by_cases hz : 0 ≤ z
    · have h1 : 0 ≤ z / k := Int.ediv_nonneg hz (by omega)
      have h2 : z / k ≤ z := Int.ediv_le_self k hz
      omega
    · have h1 : z / k < 0 := Int.ediv_neg_of_neg_of_pos (by omega) hk
      have h2 : z ≤ z / k := by
        have e : k * (z / k) ≤ z / k := by
          have := Int.mul_le_mul_of_nonpos_right (a := k) (b := 1) (c := z / k) (by omega) (by omega)
          have h3 : (1 : Int) * (z / k) = z / k := Int.one_mul _
          have : 0 ≤ (k - 1) * (-(z / k)) := Int.mul_nonneg (by omega) (by omega)
          rw [Int.sub_mul, Int.mul_neg, Int.one_mul] at this
          omega
        by_cases q : z % k = 0
        · have : z = k * (z / k) := by omega
          omega
        · have h5 : k * (z / k) < z := by omega
          have h6 : k * (z / k + 1) > z := by rw [Int.mul_add, Int.mul_one]; omega
          by_cases r : z / k + 1 ≤ 0
          · have : 0 ≤ (k - 1) * (-(z / k + 1)) := Int.mul_nonneg (by omega) (by omega)
            rw [Int.sub_mul, Int.mul_neg, Int.one_mul] at this
            omega
          · omega
      omega
  omega
theorem fold_app {α β : Type} (g : α → List β) : ∀ (l : List α) (b : List β), l.foldl (fun acc i => acc ++ g i) b = b ++ l.flatMap g
  | [], b => by simp
  | x :: l, b => by rw [List.foldl_cons, fold_app g l, List.flatMap_cons, List.append_assoc]
theorem upto_le (n : Nat) : (upto (n : Int)).Pairwise (· ≤ ·) := by
  unfold upto
  rw [List.pairwise_map, Int.toNat_natCast]
  exact List.Pairwise.imp (fun {a b} h => by omega) (List.pairwise_lt_range)
theorem nm_atI {m : Nat} {names : List Int} (hp : names.Perm (upto m)) {x : Int} (h0 : 0 ≤ x) (h1 : x < m) : L2.atI (names.map PyData.int) x = some (.int (nmOf names x)) := by
  have := L2.atI_nat (j := x.toNat) (v := PyData.int (nmOf names x)) (xs := names.map PyData.int) (by rw [List.getElem?_map, nm_at hp h0 h1]; rfl)
  rwa [Int.toNat_of_nonneg h0] at this
def ordL (a b : Int) : List Int := [(ordP a b).1, (ordP a b).2]
theorem ordL_perm (a b : Int) : (ordL a b).Perm [a, b] := by
  unfold ordL ordP
  split
  · exact List.Perm.refl _
  · exact List.Perm.swap _ _ _
theorem ordL_le (a b : Int) : (ordL a b).Pairwise (· ≤ ·) := by
  unfold ordL ordP
  split <;> simp <;> omega
def rMoved (ds : List PyData) (d : PyData) : Prop := ∃ (row : List Int) (b : Int), ds = [rowD row, .int b] ∧ 0 < row.length ∧ row.length ≤ 400 ∧ d = rowD (movM row (b % row.length).toNat)
def rTurned (ds : List PyData) (d : PyData) : Prop := ∃ row : List Int, ds = [rowD row] ∧ d = rowD row.reverse
def rRen (ds : List PyData) (d : PyData) : Prop := ∃ (m : Nat) (ties : List (Int × Int)) (names : List Int), ds = [webD m ties, rowD names] ∧ WebOk m ties ∧ names.Perm (upto m) ∧ ties.length ≤ 60 ∧ d = webD m (renM names ties)
def rWith (ds : List PyData) (d : PyData) : Prop := ∃ (m : Nat) (ties qs : List (Int × Int)) (a b : Int), ds = [webD m ties, .int a, .int b] ∧ ties.length < 60 ∧ (∀ q ∈ ties ++ [ordP a b], 0 ≤ q.1 ∧ q.1 < 64 ∧ 0 ≤ q.2 ∧ q.2 < 64) ∧ qs.Pairwise lexLe ∧ qs.Nodup ∧ (∀ q, q ∈ qs ↔ q ∈ ties ++ [ordP a b]) ∧ d = webD m qs
def rWithout (ds : List PyData) (d : PyData) : Prop := ∃ (m : Nat) (ties : List (Int × Int)) (k : Nat), ds = [webD m ties, natD k] ∧ ties.length ≤ 400 ∧ d = webD m (ties.take k ++ ties.drop (k + 1))
def rFull (ds : List PyData) (d : PyData) : Prop := ∃ n : Nat, ds = [natD n] ∧ n ≤ 60 ∧ d = webD n (fullM n)
def rRound (ds : List PyData) (d : PyData) : Prop := ∃ (n : Nat) (qs : List (Int × Int)), ds = [natD n] ∧ 2 ≤ n ∧ n ≤ 60 ∧ qs.Perm (roundL n) ∧ qs.Pairwise lexLe ∧ d = webD n qs
def rHalves (ds : List PyData) (d : PyData) : Prop := ∃ a b : Nat, ds = [natD a, natD b] ∧ a ≤ 60 ∧ b ≤ 60 ∧ d = webD (a + b) (halvesM a b)
noncomputable def manyD (ties : List (Int × Int)) (r : List Int) : PyData := .list [natD (pcM ties .pile r), natD (pcM ties .queue r)]
def rMany (ds : List PyData) (d : PyData) : Prop := ∃ (m : Nat) (ties : List (Int × Int)) (r : List Int), ds = [webD m ties, rowD r] ∧ (∀ t ∈ ties, t.1 ∈ r ∧ t.2 ∈ r) ∧ ties.length < 16 ∧ d = manyD ties r
def rRightC (ds : List PyData) (d : PyData) : Prop := ∃ (n m : Nat) (ties : List (Int × Int)) (row : List Int) (z : Int), ds = [webD m ties, rowD row, .int z] ∧ WebG m ties ∧ ties.length ≤ 14 ∧ row.Perm (upto m) ∧ Sm n z ∧ n ≤ 4000000 ∧ d = .bool true
def kdI : Kd → Int
  | .pile => 0
  | .queue => 1
theorem many_at (ties : List (Int × Int)) (r : List Int) (k : Kd) : L2.atI [natD (pcM ties .pile r), natD (pcM ties .queue r)] (kdI k) = some (natD (pcM ties k r)) := by cases k <;> rfl
theorem nc_many (ties : List (Int × Int)) (r : List Int) : Nc 1 (manyD ties r) := nc_lst fun x hx => by
  simp only [List.mem_cons, List.not_mem_nil, or_false] at hx
  rcases hx with rfl | rfl <;> exact nc_int _
theorem nc_web (m : Nat) (ties : List (Int × Int)) : Nc 3 (webD m ties) := nc_tup (n := 2) fun x hx => by
  simp only [List.mem_cons, List.not_mem_nil, or_false] at hx
  rcases hx with rfl | rfl
  · exact (nc_int _).up (by omega)
  · exact nc_tup (nc_pairs ties)
theorem nc_row (r : List Int) : Nc 1 (rowD r) := nc_tup (nc_ints r)
theorem less_mem {ties : List (Int × Int)} {k : Nat} {t : Int × Int} (ht : ties[k]? = some t) (q : Int × Int) : q ∈ ties ↔ q ∈ (ties.take k ++ ties.drop (k + 1)) ++ [t] := by
  have hk : k < ties.length := by
    by_cases h : k < ties.length
    · exact h
    · rw [List.getElem?_eq_none (by omega)] at ht; cases ht
  have e : ties = ties.take k ++ t :: ties.drop (k + 1) := by
    rw [List.getElem?_eq_getElem hk] at ht
    cases ht
    rw [← List.drop_eq_getElem_cons hk, List.take_append_drop]
  constructor
  · intro h
    rw [e] at h
    simp only [List.mem_append, List.mem_cons] at h ⊢
    rcases h with h | h | h
    · exact .inl (.inl h)
    · exact .inr (.inl h)
    · exact .inl (.inr h)
  · intro h
    rw [e]
    simp only [List.mem_append, List.mem_cons, List.not_mem_nil, or_false] at h ⊢
    rcases h with (h | h) | h
    · exact .inl h
    · exact .inr (.inr h)
    · exact .inr (.inl h)
theorem less_len (ties : List (Int × Int)) (k : Nat) : (ties.take k ++ ties.drop (k + 1)).length ≤ ties.length := by simp; omega
end DL

set_option Elab.async false
set_option linter.all false
set_option maxRecDepth 100000
set_option maxHeartbeats 4000000
namespace DL
open PySem PySem.Spec L2
set_option autoImplicit false
/-! ### least pages of webs at hand -/
theorem sm_get {n : Nat} {ns : List Int} (h : ∀ z ∈ ns, Sm n z) (k : Nat) : Sm n (ns.getD k 0) := by
  by_cases c : k < ns.length
  · rw [List.getD_eq_getElem?_getD, List.getElem?_eq_getElem c]; exact h _ (List.getElem_mem c)
  · rw [List.getD_eq_getElem?_getD, List.getElem?_eq_none (by omega)]; exact Nat.two_pow_pos n
theorem permB {m : Nat} {l : List Int} (h : List.isPerm l (upto m) = true) : l.Perm (upto m) := List.isPerm_iff.mp h
theorem permP {l q : List (Int × Int)} (h : List.isPerm l q = true) : l.Perm q := List.isPerm_iff.mp h
def fullV (n : Nat) : Kd → Nat
  | .pile => if n = 4 then 2 else 1
  | .queue => n / 2
def roundQ (n : Nat) : List (Int × Int) := if n = 3 then round3 else round4
def halvesV (a b : Nat) : Kd → Nat
  | .pile => if a = 2 ∧ b = 3 then 2 else 1
  | .queue => 1
theorem full_g {n : Nat} (h2 : 2 ≤ n) (h4 : n ≤ 4) : WebG n (fullM n) := by
  obtain rfl | rfl | rfl : n = 2 ∨ n = 3 ∨ n = 4 := by omega
  all_goals exact ⟨web_of (by decide +kernel), by omega, by omega, by decide +kernel⟩
theorem full_perm {n : Nat} (h2 : 2 ≤ n) (h4 : n ≤ 4) : (fullM n).Perm (everyM n) := by
  obtain rfl | rfl | rfl : n = 2 ∨ n = 3 ∨ n = 4 := by omega
  all_goals exact permP (by decide +kernel)
theorem full_val {n : Nat} (h2 : 2 ≤ n) (h4 : n ≤ 4) {k : Kd} {b : List Int} (h : LeastB n (fullM n) k b) : pcM (fullM n) k b = fullV n k := by
  obtain rfl | rfl | rfl : n = 2 ∨ n = 3 ∨ n = 4 := by omega
  · have := least_is1 h (by decide +kernel) (by decide +kernel) [0, 1] (permB (by decide +kernel)) (by cases k <;> decide +kernel)
    rw [this]
    cases k <;> rfl
  · have := least_is1 h (by decide +kernel) (by decide +kernel) [0, 1, 2] (permB (by decide +kernel)) (by cases k <;> decide +kernel)
    rw [this]
    cases k <;> rfl
  · cases k
    · have h1 := least_ge2 (ties := fullM 4) (k := .pile) h.1 (by omega) (by decide +kernel) (by decide +kernel)
      have h2 := least_le (V := 2) h (by decide +kernel) [0, 1, 2, 3] (permB (by decide +kernel)) [0, 1, 0, 0, 0, 0] (by decide +kernel) (by decide +kernel)
      exact Nat.le_antisymm h2 h1
    · have h1 := least_ge2 (ties := fullM 4) (k := .queue) h.1 (by omega) (by decide +kernel) (by decide +kernel)
      have h2 := least_le (V := 2) h (by decide +kernel) [0, 1, 2, 3] (permB (by decide +kernel)) [0, 0, 1, 0, 0, 0] (by decide +kernel) (by decide +kernel)
      exact Nat.le_antisymm h2 h1
theorem round_g {n : Nat} (h2 : 2 < n) (h4 : n ≤ 4) : WebG n (roundQ n) := by
  obtain rfl | rfl : n = 3 ∨ n = 4 := by omega
  all_goals exact ⟨web_of (by decide +kernel), by omega, by omega, by decide +kernel⟩
theorem round_perm {n : Nat} (h2 : 2 < n) (h4 : n ≤ 4) : (roundQ n).Perm (roundL n) := by
  obtain rfl | rfl : n = 3 ∨ n = 4 := by omega
  all_goals exact permP (by decide +kernel)
theorem round_val {n : Nat} (h2 : 2 < n) (h4 : n ≤ 4) {k : Kd} {b : List Int} (h : LeastB n (roundQ n) k b) : pcM (roundQ n) k b = 1 := by
  obtain rfl | rfl : n = 3 ∨ n = 4 := by omega
  · exact least_is1 h (by decide +kernel) (by decide +kernel) [0, 1, 2] (permB (by decide +kernel)) (by cases k <;> decide +kernel)
  · cases k
    · exact least_is1 h (by decide +kernel) (by decide +kernel) [0, 1, 2, 3] (permB (by decide +kernel)) (by decide +kernel)
    · exact least_is1 h (by decide +kernel) (by decide +kernel) [0, 1, 3, 2] (permB (by decide +kernel)) (by decide +kernel)
theorem halves_g {a b : Nat} (ha : 1 ≤ a) (ha2 : a ≤ 2) (hb : 1 ≤ b) (hb3 : b ≤ 3) : WebG (a + b) (halvesM a b) := by
  obtain rfl | rfl : a = 1 ∨ a = 2 := by omega
  all_goals
    obtain rfl | rfl | rfl : b = 1 ∨ b = 2 ∨ b = 3 := by omega
    all_goals exact ⟨web_of (by decide +kernel), by omega, by omega, by decide +kernel⟩
theorem halves_val {a b : Nat} (ha : 1 ≤ a) (ha2 : a ≤ 2) (hb : 1 ≤ b) (hb3 : b ≤ 3) {k : Kd} {r : List Int} (h : LeastB (a + b) (halvesM a b) k r) : pcM (halvesM a b) k r = halvesV a b k := by
  obtain rfl | rfl : a = 1 ∨ a = 2 := by omega
  · obtain rfl | rfl | rfl : b = 1 ∨ b = 2 ∨ b = 3 := by omega
    · have := least_is1 h (by decide +kernel) (by decide +kernel) [0, 1] (permB (by decide +kernel)) (by cases k <;> decide +kernel)
      rw [this]; cases k <;> rfl
    · have := least_is1 h (by decide +kernel) (by decide +kernel) [0, 1, 2] (permB (by decide +kernel)) (by cases k <;> decide +kernel)
      rw [this]; cases k <;> rfl
    · have := least_is1 h (by decide +kernel) (by decide +kernel) [0, 1, 2, 3] (permB (by decide +kernel)) (by cases k <;> decide +kernel)
      rw [this]; cases k <;> rfl
  · obtain rfl | rfl | rfl : b = 1 ∨ b = 2 ∨ b = 3 := by omega
    · have := least_is1 h (by decide +kernel) (by decide +kernel) [0, 2, 1] (permB (by decide +kernel)) (by cases k <;> decide +kernel)
      rw [this]; cases k <;> rfl
    · cases k
      · exact least_is1 h (by decide +kernel) (by decide +kernel) [0, 2, 1, 3] (permB (by decide +kernel)) (by decide +kernel)
      · exact least_is1 h (by decide +kernel) (by decide +kernel) [0, 2, 3, 1] (permB (by decide +kernel)) (by decide +kernel)
    · cases k
      · have h1 := least_ge2 (ties := halvesM 2 3) (k := .pile) h.1 (by omega) (by decide +kernel) (by decide +kernel)
        have h2 := least_le (V := 2) h (by decide +kernel) [0, 2, 1, 3, 4] (permB (by decide +kernel)) [0, 0, 0, 0, 0, 1] (by decide +kernel) (by decide +kernel)
        exact Nat.le_antisymm h2 h1
      · exact least_is1 h (by decide +kernel) (by decide +kernel) [0, 2, 3, 4, 1] (permB (by decide +kernel)) (by decide +kernel)
theorem full_at {n : Nat} (h2 : 2 ≤ n) (h4 : n ≤ 4) : L2.atI [PyData.int 1, .int 1, .int 2] ((n : Int) - 2) = some (natD (fullV n .pile)) := by
  obtain rfl | rfl | rfl : n = 2 ∨ n = 3 ∨ n = 4 := by omega
  all_goals rfl
theorem least_run {m : Nat} {ties : List (Int × Int)} (w : WebG m ties) (k : Kd) : ∃ b, bestOf m ties k (some b) ∧ LeastB m ties k b := by
  obtain ⟨b, h1, h2, h3⟩ := best_ex w k
  exact ⟨b, h1, h2, h3⟩
/-- least_pages of a web -/
theorem least_at {m V : Nat} {ties : List (Int × Int)} (w : WebG m ties) (k : Kd) (h : ∀ b, LeastB m ties k b → pcM ties k b = V) : rLeast [webD m ties, .str k.t] (natD V) := by
  obtain ⟨b, h1, h2⟩ := least_run w k
  exact ⟨m, ties, k, b, rfl, w, h2.1, h1, by rw [h b h2]⟩
section
variable {G : Ct} {δ : DEnv} {ω : Own} {scope : Scope} {tg iter elt : Expr} {ifs : List Expr} {items res : List PyData} {py pos spos : Pos}
/-- y = [elt for a, b in ..] -/
theorem ds_lct (k : Nat) {n : PySem.Str} (i j : Nat) (own : List (PySem.Str × Nat)) (hN : G.N[k]? = some n) (hl : G.sc.names.lookup n = some .local) (hkind : G.sc.kind = .function) (hline : (py.line == pos.line) = true) (hany : (scope.names.any fun (m, k) => m == n && (k == .local || k == .cell)) = false)
    (hok : blkC G.N G.sc scope own = true) (hi : DI G δ tg iter items) (hg : DG (G.blk scope) tg (.two i j)) (ht : Turns G scope (.two i j) ifs elt (dwipe δ (own.map (·.2))) items res) (hz : items.length ≤ 16777216) (hfree : ∀ q ∈ ω, q.1 ≠ k := by simp)
    (hsub : ∀ k ∈ (TSpec.two i j).ix, k ∈ own.map (·.2) := by simp [TSpec.ix]) (hs : ∀ (env : Env) (x : Value), foldedSetIterable iter env x = pure x := by intro _ _; rfl) : DS G δ ω (.Assign [.Name n py] (.ListComp elt [⟨tg, iter, ifs, 0⟩] scope pos) spos) (.next (δ.set k (some (.list res))) ω) := fun X hX =>
  PS.imp (ps_setLc (i := k) hX.calm hX.nd (by rw [hX.N]; exact hN) (by rw [hX.sc]; exact hl) (sw_true (by rw [hX.sc]; exact hkind) (by rw [hX.sc]; exact hl) hline hany) (hi X hX) (by rw [hX.N, hX.sc]; exact blkOk_by hok) (fun s H C cl fp => hg _ (hX.blk s H C cl fp)) (fun s H C cl fp => pts_of (ifs := ifs) (hX.blk s H C cl fp)) (fun s H C cl fp => pe_of (elt := elt) (hX.blk s H C cl fp)) (hs _)) fun D σ H ⟨S, H0, δ', ω', o', ⟨e1, e2, e3⟩, hS, r, q⟩ => by
    subst e1 e2 e3
    obtain ⟨as, B⟩ := r.bs hS
    refine lc_run _ hsub hz ht B.ok B.rel (fun xs t H' s ht hz ra => ?_) fun Q2 h => ⟨as ++ S, _, items, ⟨rfl, rfl⟩, B.ok, B.rel, fun J H' s it => h J H' s it⟩
    have sm := same_upd ht (.lst xs)
    exact q _ _ (B.store _ k _ _ (s.trans sm) (.lst (hide_upd_at (B.ok.mono s) ht) hz (ra.mono (hide_mono sm))) hfree)
theorem turns_conv {ts : TSpec} {r : List PyData} (h : Turns G scope ts ifs elt δ items res) (q : res = r) : Turns G scope ts ifs elt δ items r := q ▸ h
end
end DL

set_option Elab.async false
set_option linter.all false
set_option maxRecDepth 100000
set_option maxHeartbeats 4000000
namespace DL
open PySem PySem.Spec L2
set_option autoImplicit false
def topS (i : Nat) : Stmt := PySem.Challenge.pw_pageties_k09_whole_rows_and_webs_changed.main.body.getD i (.Pass ⟨0, 0, 0, 0⟩)
/-! ### spots, how, do_clash -/
theorem f_spots {m : Md} {f : Addr} {fd : FuncData} (B : Blt m) (F : Fun m.K "spots" "spots" (topS 10) f fd) (hb : Binds m.K fd ["web", "row", "tie"] []) (hm : m.mg "spots" = some (.ref f)) : Fn m "spots" 1 rSpots :=
  fn_ok (N := ["web", "row", "tie", "one", "other"]) F hb hm ⟨rfl, rfl, rfl, by decide +kernel, rfl, by decide +kernel, by decide +kernel⟩ (by decide +kernel) (fun ds d ⟨_, _, _, _, _, h, _⟩ => by rw [h]; rfl) fun ds d ⟨mm, ties, r, i, t, h, ht, h1, h2, hd⟩ => by
    subst h hd
    refine (dss_cons (ds_two 3 4 (dg_two 3 4 rfl (by first | decide +kernel | (dsimp only [Ct.blk, locB]; decide +kernel)) rfl (by first | decide +kernel | (dsimp only [Ct.blk, locB]; decide +kernel))) (dv_ixt (dv_ixt (dv_n 0 rfl (by first | decide +kernel | (dsimp only [Ct.blk, locB]; decide +kernel)) rfl) dv_int rfl) (dv_n 2 rfl (by first | decide +kernel | (dsimp only [Ct.blk, locB]; decide +kernel)) rfl) (d := pairD t) ?ix1) rfl) (dss_end (ds_ret (DV.conv (dv_tuple B (by first | decide +kernel | (dsimp only [Ct.blk, locB]; decide +kernel)) (dn_dv (dn_sorted (ns := [(ix r t.1 : Int), (ix r t.2 : Int)]) (ms := [(spotsM r t).1, (spotsM r t).2]) B (by first | decide +kernel | (dsimp only [Ct.blk, locB]; decide +kernel)) (dn_dv (dn_lst (da_cons (dv_tix (dv_n 1 rfl (by first | decide +kernel | (dsimp only [Ct.blk, locB]; decide +kernel)) rfl) (dv_n 3 rfl (by first | decide +kernel | (dsimp only [Ct.blk, locB]; decide +kernel)) rfl) (ix_get h1) (fun _ => ix_no)) (da_cons (dv_tix (dv_n 1 rfl (by first | decide +kernel | (dsimp only [Ct.blk, locB]; decide +kernel)) rfl) (dv_n 4 rfl (by first | decide +kernel | (dsimp only [Ct.blk, locB]; decide +kernel)) rfl) (ix_get h2) (fun _ => ix_no)) da_nil)) (by simp))) ?p ?s)) (.lst _)) rfl))))
    case ix1 => exact L2.atI_nat (by rw [List.getElem?_map, ht]; rfl)
    case p =>
      unfold spotsM
      split
      · exact List.Perm.refl _
      · exact List.Perm.swap _ _ _
    case s =>
      unfold spotsM
      split <;> simp <;> omega
theorem f_how {m : Md} {f : Addr} {fd : FuncData} (B : Blt m) (F_spots : Fn m "spots" 1 rSpots) (F : Fun m.K "how" "how" (topS 11) f fd) (hb : Binds m.K fd ["web", "row", "one", "other"] []) (hm : m.mg "how" = some (.ref f)) : Fn m "how" 2 rHow :=
  fn_ok (N := ["web", "row", "one", "other", "a", "b", "c", "d"]) F hb hm ⟨rfl, rfl, rfl, by decide +kernel, rfl, by decide +kernel, by decide +kernel⟩ (by decide +kernel) (fun ds d ⟨_, _, _, _, _, _, _, h, _⟩ => by rw [h]; rfl) fun ds d ⟨mm, ties, r, i, j, t, u, h, ht, hu, h1, h2, hd⟩ => by
    subst h hd
    have e1 : rSpots [webD mm ties, rowD r, natD i] (pairD (spotsM r t)) := ⟨mm, ties, r, i, t, rfl, ht, h1.1, h1.2, rfl⟩
    have e2 : rSpots [webD mm ties, rowD r, natD j] (pairD (spotsM r u)) := ⟨mm, ties, r, j, u, rfl, hu, h2.1, h2.2, rfl⟩
    unfold Lr
    generalize spotsM r t = s at e1 ⊢
    generalize spotsM r u = v at e2 ⊢
    have sh1 : ∀ x : Int, SeqAt.shaped (.int x) = true := fun x => (nc_int x).sh
    have sh2 : SeqAt.shaped (.tuple [.int v.1, .int v.2]) = true := (nc_pair v).sh
    refine (dss_cons (ds_two 4 5 (dg_two 4 5 rfl (by first | decide +kernel | (dsimp only [Ct.blk, locB]; decide +kernel)) rfl (by first | decide +kernel | (dsimp only [Ct.blk, locB]; decide +kernel))) (dv_call F_spots (by dsimp only [Ct.blk]; omega) (by first | decide +kernel | (dsimp only [Ct.blk, locB]; decide +kernel)) (da_cons (dv_n 0 rfl (by first | decide +kernel | (dsimp only [Ct.blk, locB]; decide +kernel)) rfl) (da_cons (dv_n 1 rfl (by first | decide +kernel | (dsimp only [Ct.blk, locB]; decide +kernel)) rfl) (da_cons (dv_n 2 rfl (by first | decide +kernel | (dsimp only [Ct.blk, locB]; decide +kernel)) rfl) da_nil))) e1) rfl) (dss_cons (ds_two 6 7 (dg_two 6 7 rfl (by first | decide +kernel | (dsimp only [Ct.blk, locB]; decide +kernel)) rfl (by first | decide +kernel | (dsimp only [Ct.blk, locB]; decide +kernel))) (dv_call F_spots (by dsimp only [Ct.blk]; omega) (by first | decide +kernel | (dsimp only [Ct.blk, locB]; decide +kernel)) (da_cons (dv_n 0 rfl (by first | decide +kernel | (dsimp only [Ct.blk, locB]; decide +kernel)) rfl) (da_cons (dv_n 1 rfl (by first | decide +kernel | (dsimp only [Ct.blk, locB]; decide +kernel)) rfl) (da_cons (dv_n 3 rfl (by first | decide +kernel | (dsimp only [Ct.blk, locB]; decide +kernel)) rfl) da_nil))) e2) rfl) (dss_if (dt_w (dw_or (dt_c (dc_in (dv_n 4 rfl (by first | decide +kernel | (dsimp only [Ct.blk, locB]; decide +kernel)) rfl) (dv_tup (da_cons (dv_n 6 rfl (by first | decide +kernel | (dsimp only [Ct.blk, locB]; decide +kernel)) rfl) (da_cons (dv_n 7 rfl (by first | decide +kernel | (dsimp only [Ct.blk, locB]; decide +kernel)) rfl) da_nil)) (by simp)) (.tup _) (sh1 _) sh2)) (fun _ => (dw_or1 (dt_c (dc_in (dv_n 5 rfl (by first | decide +kernel | (dsimp only [Ct.blk, locB]; decide +kernel)) rfl) (dv_tup (da_cons (dv_n 6 rfl (by first | decide +kernel | (dsimp only [Ct.blk, locB]; decide +kernel)) rfl) (da_cons (dv_n 7 rfl (by first | decide +kernel | (dsimp only [Ct.blk, locB]; decide +kernel)) rfl) da_nil)) (by simp)) (.tup _) (sh1 _) sh2)))))) (fun hb => ⟨_, ?a, (dss_end (ds_ret dv_str))⟩) (fun hb => (dss_if (dt_w (dw_or (dt_ch3 .lt .lt .lt (dv_n 4 rfl (by first | decide +kernel | (dsimp only [Ct.blk, locB]; decide +kernel)) rfl) (dv_n 6 rfl (by first | decide +kernel | (dsimp only [Ct.blk, locB]; decide +kernel)) rfl) (dv_n 5 rfl (by first | decide +kernel | (dsimp only [Ct.blk, locB]; decide +kernel)) rfl) (dv_n 7 rfl (by first | decide +kernel | (dsimp only [Ct.blk, locB]; decide +kernel)) rfl)) (fun _ => (dw_or1 (dt_ch3 .lt .lt .lt (dv_n 6 rfl (by first | decide +kernel | (dsimp only [Ct.blk, locB]; decide +kernel)) rfl) (dv_n 4 rfl (by first | decide +kernel | (dsimp only [Ct.blk, locB]; decide +kernel)) rfl) (dv_n 7 rfl (by first | decide +kernel | (dsimp only [Ct.blk, locB]; decide +kernel)) rfl) (dv_n 5 rfl (by first | decide +kernel | (dsimp only [Ct.blk, locB]; decide +kernel)) rfl)))))) (fun hb2 => ⟨_, ?b, (dss_end (ds_ret dv_str))⟩) (fun hb2 => (dss_if (dt_w (dw_or (dt_ch3 .lt .lt .lt (dv_n 4 rfl (by first | decide +kernel | (dsimp only [Ct.blk, locB]; decide +kernel)) rfl) (dv_n 6 rfl (by first | decide +kernel | (dsimp only [Ct.blk, locB]; decide +kernel)) rfl) (dv_n 7 rfl (by first | decide +kernel | (dsimp only [Ct.blk, locB]; decide +kernel)) rfl) (dv_n 5 rfl (by first | decide +kernel | (dsimp only [Ct.blk, locB]; decide +kernel)) rfl)) (fun _ => (dw_or1 (dt_ch3 .lt .lt .lt (dv_n 6 rfl (by first | decide +kernel | (dsimp only [Ct.blk, locB]; decide +kernel)) rfl) (dv_n 4 rfl (by first | decide +kernel | (dsimp only [Ct.blk, locB]; decide +kernel)) rfl) (dv_n 5 rfl (by first | decide +kernel | (dsimp only [Ct.blk, locB]; decide +kernel)) rfl) (dv_n 7 rfl (by first | decide +kernel | (dsimp only [Ct.blk, locB]; decide +kernel)) rfl)))))) (fun hb3 => ⟨_, ?c, (dss_end (ds_ret dv_str))⟩) (fun hb3 => (dss_end (ds_ret (DV.conv dv_str ?d)))))))))))
    case a =>
      have : howM s v = .meet := if_pos (by simp [eqv_int] at hb; omega)
      rw [this]; rfl
    all_goals
      have g1 : ¬((s.1 = v.1 ∨ s.1 = v.2) ∨ (s.2 = v.1 ∨ s.2 = v.2)) := by simp [eqv_int] at hb; omega
    case b =>
      have : howM s v = .cross := (if_neg g1).trans (if_pos (by simpa using hb2))
      rw [this]; rfl
    all_goals
      have g2 : ¬((s.1 < v.1 ∧ v.1 < s.2 ∧ s.2 < v.2) ∨ (v.1 < s.1 ∧ s.1 < v.2 ∧ v.2 < s.2)) := by simpa using hb2
    case c =>
      have : howM s v = .within := (if_neg g1).trans ((if_neg g2).trans (if_pos (by simpa using hb3)))
      rw [this]; rfl
    case d =>
      have : howM s v = .apart := (if_neg g1).trans ((if_neg g2).trans (if_neg (by simpa using hb3)))
      rw [this]; rfl
theorem f_do {m : Md} {f : Addr} {fd : FuncData} (B : Blt m) (F_how : Fn m "how" 2 rHow) (F : Fun m.K "do_clash" "do_clash" (topS 12) f fd) (hb : Binds m.K fd ["web", "row", "kind", "one", "other"] []) (hm : m.mg "do_clash" = some (.ref f)) : Fn m "do_clash" 3 rDo :=
  fn_ok (N := ["web", "row", "kind", "one", "other"]) F hb hm ⟨rfl, rfl, rfl, by decide +kernel, rfl, by decide +kernel, by decide +kernel⟩ (by decide +kernel) (fun ds d ⟨_, _, _, _, _, _, _, _, h, _⟩ => by rw [h]; rfl) fun ds d ⟨mm, ties, r, k, i, j, t, u, h, ht, hu, h1, h2, hd⟩ => by
    subst h hd
    refine (dss_end (ds_ret (DV.conv (dv_c (dc_eq (dv_call F_how (by dsimp only [Ct.blk]; omega) (by first | decide +kernel | (dsimp only [Ct.blk, locB]; decide +kernel)) (da_cons (dv_n 0 rfl (by first | decide +kernel | (dsimp only [Ct.blk, locB]; decide +kernel)) rfl) (da_cons (dv_n 1 rfl (by first | decide +kernel | (dsimp only [Ct.blk, locB]; decide +kernel)) rfl) (da_cons (dv_n 3 rfl (by first | decide +kernel | (dsimp only [Ct.blk, locB]; decide +kernel)) rfl) (da_cons (dv_n 4 rfl (by first | decide +kernel | (dsimp only [Ct.blk, locB]; decide +kernel)) rfl) da_nil)))) ⟨mm, ties, r, i, j, t, u, rfl, ht, hu, h1, h2, rfl⟩) (dv_dict2 (r := k.bad.t) dv_str dv_str dv_str dv_str (dv_n 2 rfl (by first | decide +kernel | (dsimp only [Ct.blk, locB]; decide +kernel)) rfl) (by cases k <;> rfl)) (lie_sh _) (lie_sh _))) ?ret4)))
    rw [lie_eqv]
    rfl
theorem f_clashes {m : Md} {f : Addr} {fd : FuncData} (B : Blt m) (F_do : Fn m "do_clash" 3 rDo) (F : Fun m.K "clashes" "clashes" (topS 13) f fd) (hb : Binds m.K fd ["web", "row", "kind"] []) (hm : m.mg "clashes" = some (.ref f)) : Fn m "clashes" 4 rClashes :=
  fn_ok (N := ["web", "row", "kind", "found", "one", "other"]) F hb hm ⟨rfl, rfl, rfl, by decide +kernel, rfl, by decide +kernel, by decide +kernel⟩ (by decide +kernel) (fun ds d ⟨_, _, _, _, h, _⟩ => by rw [h]; rfl) fun ds d ⟨mm, ties, r, k, h, hr, h60, hd⟩ => by
    subst h hd
    have ht : ∀ {i : Nat}, i < ties.length → ties[i]? = some (ties.getD i (0, 0)) := fun {i} h => by rw [List.getD_eq_getElem?_getD, List.getElem?_eq_getElem h]; rfl
    have hm : ∀ {i : Nat}, i < ties.length → (ties.getD i (0, 0)).1 ∈ r ∧ (ties.getD i (0, 0)).2 ∈ r := fun {i} h => hr _ (List.mem_of_getElem? (ht h))
    have hlen : (ties.map pairD).length = ties.length := List.length_map _
    refine (dss_cons (ds_own 3 rfl (by first | decide +kernel | (dsimp only [Ct.blk, locB]; decide +kernel)) (dn_lst da_nil (by simp))) (dss_cons (ds_for1 4 (dg_one 4 rfl (by first | decide +kernel | (dsimp only [Ct.blk, locB]; decide +kernel))) (di_rng B (by first | decide +kernel | (dsimp only [Ct.blk, locB]; decide +kernel)) (dv_lent B (by first | decide +kernel | (dsimp only [Ct.blk, locB]; decide +kernel)) (dv_ixt (dv_n 0 rfl (by first | decide +kernel | (dsimp only [Ct.blk, locB]; decide +kernel)) rfl) dv_int rfl) (.tup _)) (by rw [hlen]; omega)) (DFor.conv (dfor_fold natD (fun acc => [(3, .lst (acc.map npD))]) (inClash ties r k) (fun n b => b.length + n * 60 ≤ 3600) _ [] ?i0 ?step) rfl)) (dss_end (ds_ret (DV.conv (dv_tuple B (by first | decide +kernel | (dsimp only [Ct.blk, locB]; decide +kernel)) (dv_n 3 rfl (by first | decide +kernel | (dsimp only [Ct.blk, locB]; decide +kernel)) rfl) (.lst _)) ?ret)))))
    case i0 => simp; omega
    case ret => rw [hlen]; rfl
    case step =>
      intro i hi n b hb
      rw [hlen, List.mem_range] at hi
      refine ⟨?_, _, rfl, by simp [ofree, TSpec.ix], _, dss_cons (ds_for1 5 (dg_one 5 rfl (by first | decide +kernel | (dsimp only [Ct.blk, locB]; decide +kernel))) (di_rng2 (m := i + 1) B (by first | decide +kernel | (dsimp only [Ct.blk, locB]; decide +kernel)) (dv_addn (dv_n 4 rfl (by first | decide +kernel | (dsimp only [Ct.blk, locB]; decide +kernel)) rfl) (dv_intn 1)) (dv_lent B (by first | decide +kernel | (dsimp only [Ct.blk, locB]; decide +kernel)) (dv_ixt (dv_n 0 rfl (by first | decide +kernel | (dsimp only [Ct.blk, locB]; decide +kernel)) rfl) dv_int rfl) (.tup _)) (by omega) (by rw [hlen]; omega)) (DFor.conv (dfor_fold natD (fun acc => [(3, .lst (acc.map npD))]) (inClash1 ties r k i) (fun n b => b.length + n ≤ 3660) _ b ?j0 ?step2) (by rw [hlen]; rfl))) dss_nil, ?le⟩
      case le => exact (.cons (.cons (.cons (.cons (.drop (.drop .nil))))))
      case j0 => simp; omega
      case step2 =>
        intro j hj n c hc
        obtain ⟨j', hj', rfl⟩ := List.mem_map.mp hj
        rw [List.mem_range] at hj'
        have hj2 : i + 1 + j' < ties.length := by omega
        refine ⟨?_, _, rfl, by simp [ofree, TSpec.ix], _, dss_cons (ds_ifk (dt_val (dv_call F_do (by dsimp only [Ct.blk]; omega) (by first | decide +kernel | (dsimp only [Ct.blk, locB]; decide +kernel)) (da_cons (dv_n 0 rfl (by first | decide +kernel | (dsimp only [Ct.blk, locB]; decide +kernel)) rfl) (da_cons (dv_n 1 rfl (by first | decide +kernel | (dsimp only [Ct.blk, locB]; decide +kernel)) rfl) (da_cons (dv_n 2 rfl (by first | decide +kernel | (dsimp only [Ct.blk, locB]; decide +kernel)) rfl) (da_cons (dv_n 4 rfl (by first | decide +kernel | (dsimp only [Ct.blk, locB]; decide +kernel)) rfl) (da_cons (dv_n 5 rfl (by first | decide +kernel | (dsimp only [Ct.blk, locB]; decide +kernel)) rfl) da_nil))))) ⟨mm, ties, r, k, i, i + 1 + j', _, _, rfl, ht hi, ht hj2, hm hi, hm hj2, rfl⟩)) (fun hb => DSs.conv (dss_cons (ds_append 3 0 rfl (by first | decide +kernel | (dsimp only [Ct.blk, locB]; decide +kernel)) rfl (dv_tup (da_cons (dv_n 4 rfl (by first | decide +kernel | (dsimp only [Ct.blk, locB]; decide +kernel)) rfl) (da_cons (dv_n 5 rfl (by first | decide +kernel | (dsimp only [Ct.blk, locB]; decide +kernel)) rfl) da_nil)) (by simp)) ?sz1) dss_nil) ?join2) (fun hb => DSs.conv dss_nil ?join3)) dss_nil, (.cons (.cons (.cons (.cons (.cons (.drop .nil))))))⟩
        · have := inClash1_len ties r k i c (i + 1 + j')
          omega
        case sz1 => rw [List.length_map]; omega
        case join2 =>
          have e : inClash1 ties r k i c (i + 1 + j') = c ++ [(i, i + 1 + j')] := if_pos hb
          rw [e, List.map_append]
          rfl
        case join3 =>
          have e : inClash1 ties r k i c (i + 1 + j') = c := if_neg (by rw [show clashAt ties r k i (i + 1 + j') = false from hb]; simp)
          rw [e]
      · have := inClash_len ties r k b i
        omega
theorem f_mix {m : Md} {f : Addr} {fd : FuncData} (B : Blt m) (F : Fun m.K "_law_mix" "_law_mix" (topS 24) f fd) (hb : Binds m.K fd ["_law_cell_here", "_law_prime", "_law_many_here"] []) (hm : m.mg "_law_mix" = some (.ref f)) : Fn m "_law_mix" 1 rMix :=
  fn_ok (N := ["_law_cell_here", "_law_prime", "_law_many_here"]) F hb hm ⟨rfl, rfl, rfl, by decide +kernel, rfl, by decide +kernel, by decide +kernel⟩ (by decide +kernel) (fun ds d ⟨_, _, _, _, h, _⟩ => by rw [h]; rfl) fun ds d ⟨n, z, p, mm, h, hz, hn, hp, hm', hd⟩ => by
    subst h hd
    exact (dss_end (ds_ret (dv_mod (dv_mod (dv_mulB (dv_n 0 rfl (by first | decide +kernel | (dsimp only [Ct.blk, locB]; decide +kernel)) rfl) dv_int (hz.mulB hn)) (dv_n 1 rfl (by first | decide +kernel | (dsimp only [Ct.blk, locB]; decide +kernel)) rfl) hp) (dv_n 2 rfl (by first | decide +kernel | (dsimp only [Ct.blk, locB]; decide +kernel)) rfl) hm')))
theorem f_web {m : Md} {f : Addr} {fd : FuncData} (B : Blt m) (F_mix : Fn m "_law_mix" 1 rMix) (F : Fun m.K "_law_web" "_law_web" (topS 25) f fd) (hb : Binds m.K fd ["_law_cell_here", "_law_most", "_law_ties"] []) (hm : m.mg "_law_web" = some (.ref f)) : Fn m "_law_web" 2 rWeb :=
  fn_ok (N := ["_law_cell_here", "_law_most", "_law_ties", "_law_many_here", "_law_found", "_law_k", "_law_one", "_law_other", "_law_tie"]) F hb hm ⟨rfl, rfl, rfl, by decide +kernel, rfl, by decide +kernel, by decide +kernel⟩ (by decide +kernel) (fun ds d ⟨_, _, _, _, h, _⟩ => by rw [h]; rfl) fun ds d ⟨n, z, most, ties, h, hz, hn, hmost, hm60, ht60, hd⟩ => by
    subst h hd
    have hM := manyM_pos z hmost
    have e1 : (1 : Int) + mixM z 9973 most = ((1 + (mixM z 9973 most).toNat : Nat) : Int) := by
      have := mixM_nn z (p := 9973) (m := most) (by omega)
      omega
    have e2 : mixM z 9967 ((ties : Int) + 1) = (((mixM z 9967 ((ties : Int) + 1)).toNat : Nat) : Int) := by
      have := mixM_nn z (p := 9967) (m := (ties : Int) + 1) (by omega)
      omega
    have e3 := mixM_lt z (p := 9967) (m := (ties : Int) + 1) (by omega)
    have hmm : (manyM z most : Int) = if decide ((1 : Int) + mixM z 9973 most < 4) && decide (0 < z % 4) then (most : Int) else 1 + mixM z 9973 most := by
      have e0 := mixM_nn z (p := 9973) (m := most) (by omega)
      unfold manyM
      dsimp only
      generalize mixM z 9973 (most : Int) = M at e0 ⊢
      have q : (1 + M.toNat < 4 ∧ 0 < z % 4) ↔ (decide ((1 : Int) + M < 4) && decide (0 < z % 4)) = true := by
        rw [Bool.and_eq_true, decide_eq_true_eq, decide_eq_true_eq]
        omega
      by_cases c : 1 + M.toNat < 4 ∧ 0 < z % 4
      · rw [if_pos c, if_pos (q.mp c)]
      · rw [if_neg c, if_neg fun w => c (q.mpr w)]
        omega
    have hfl := foundM_len z (manyM z most) ties
    have hfo := (foundM_ok (z := z) (many := manyM z most) (ties := ties) hM.1).1
    refine (dss_cons (ds_set 3 rfl (by first | decide +kernel | (dsimp only [Ct.blk, locB]; decide +kernel)) (dv_addi dv_int (dv_call F_mix (by dsimp only [Ct.blk]; omega) (by first | decide +kernel | (dsimp only [Ct.blk, locB]; decide +kernel)) (da_cons (dv_n 0 rfl (by first | decide +kernel | (dsimp only [Ct.blk, locB]; decide +kernel)) rfl) (da_cons dv_int (da_cons (dv_n 1 rfl (by first | decide +kernel | (dsimp only [Ct.blk, locB]; decide +kernel)) rfl) da_nil))) ⟨n, z, 9973, most, rfl, hz, by omega, by omega, by omega, rfl⟩)))
      (dss_cons (ds_if (out := .next [some (.int z), some (natD most), some (natD ties), some (natD (manyM z most)), none, none, none, none, none] []) (dt_w (dw_and (dt_c (dc_lt (dv_n 3 rfl (by first | decide +kernel | (dsimp only [Ct.blk, locB]; decide +kernel)) rfl) dv_int)) (fun _ => (dw_and1 (dt_c (dc_gt (dv_mod (dv_n 0 rfl (by first | decide +kernel | (dsimp only [Ct.blk, locB]; decide +kernel)) rfl) dv_int (by decide)) dv_int)))))) (fun hb => DSs.conv (dss_cons (ds_set 3 rfl (by first | decide +kernel | (dsimp only [Ct.blk, locB]; decide +kernel)) (dv_n 1 rfl (by first | decide +kernel | (dsimp only [Ct.blk, locB]; decide +kernel)) rfl)) dss_nil) ?join2) (fun hb => DSs.conv dss_nil ?join3))
      (dss_cons (ds_own 4 rfl (by first | decide +kernel | (dsimp only [Ct.blk, locB]; decide +kernel)) (dn_lst da_nil (by simp)))
      (dss_cons (ds_for1 5 (dg_one 5 rfl (by first | decide +kernel | (dsimp only [Ct.blk, locB]; decide +kernel))) (DI1.conv (di_rng (n := (mixM z 9967 ((ties : Int) + 1)).toNat) B (by first | decide +kernel | (dsimp only [Ct.blk, locB]; decide +kernel)) (DV.conv (dv_call F_mix (by dsimp only [Ct.blk]; omega) (by first | decide +kernel | (dsimp only [Ct.blk, locB]; decide +kernel)) (da_cons (dv_n 0 rfl (by first | decide +kernel | (dsimp only [Ct.blk, locB]; decide +kernel)) rfl) (da_cons dv_int (da_cons (dv_addi (dv_n 2 rfl (by first | decide +kernel | (dsimp only [Ct.blk, locB]; decide +kernel)) rfl) dv_int) da_nil))) ⟨n, z, 9967, (ties : Int) + 1, rfl, hz, by omega, by omega, by omega, rfl⟩) (congrArg PyData.int e2)) (by omega)) rfl) (DFor.conv (dfor_fold natD (fun acc => [(4, .lst (acc.map pairD))]) (tieStep z (manyM z most)) (fun n b => b.length + n ≤ 60) _ [] ?i0 ?step) rfl))
      (dss_end (ds_ret (DV.conv (dv_tup (da_cons (dv_n 3 rfl (by first | decide +kernel | (dsimp only [Ct.blk, locB]; decide +kernel)) rfl) (da_cons (dv_tuple B (by first | decide +kernel | (dsimp only [Ct.blk, locB]; decide +kernel)) (dn_dv (dn_sortedP (ps := foundM z (manyM z most) ties) (qs := tiesM z most ties) (manyM z most : Int) B (by first | decide +kernel | (dsimp only [Ct.blk, locB]; decide +kernel)) (dv_n 4 rfl (by first | decide +kernel | (dsimp only [Ct.blk, locB]; decide +kernel)) rfl) ?bd (by omega) (sortP_perm _) (sortP_sorted _))) (.lst _)) da_nil)) (by simp)) rfl)))))))
    case join2 =>
      have : (most : Int) = manyM z most := by rw [hmm, if_pos hb]
      rw [show natD (manyM z most) = natD most from congrArg PyData.int this.symm]
      rfl
    case join3 =>
      have : (1 : Int) + mixM z 9973 most = manyM z most := by rw [hmm, if_neg (by rw [hb]; simp)]
      rw [show natD (manyM z most) = .int (1 + mixM z 9973 most) from congrArg PyData.int this.symm]
      rfl
    case i0 => simp; omega
    case bd => exact fun q hq => ⟨(hfo q hq).nn, by have := (hfo q hq).lt; have := (hfo q hq).le; omega, by have := (hfo q hq).nn; have := (hfo q hq).lt; omega, (hfo q hq).le⟩
    case step =>
      intro k hk n' b hb
      rw [List.mem_range] at hk
      have sh : SeqAt.shaped (.list (b.map pairD)) = true := (nc_lst (nc_pairs b)).sh
      have w1 : Sm (n + 10) (z + 11 * (k : Int)) := hz.add (by omega)
      have w2 : Sm (n + 10 + 10) (z + 13 * (k : Int) + 1) := (hz.add (s := 13 * (k : Int)) (by omega)).add (by omega)
      refine ⟨by have := tieStep_len z (manyM z most) b k; omega, _, rfl, by simp [ofree, TSpec.ix], _, (dss_cons (ds_set 6 rfl (by first | decide +kernel | (dsimp only [Ct.blk, locB]; decide +kernel)) (dv_call F_mix (by dsimp only [Ct.blk]; omega) (by first | decide +kernel | (dsimp only [Ct.blk, locB]; decide +kernel)) (da_cons (dv_addi (dv_n 0 rfl (by first | decide +kernel | (dsimp only [Ct.blk, locB]; decide +kernel)) rfl) (dv_mulB dv_int (dv_n 5 rfl (by first | decide +kernel | (dsimp only [Ct.blk, locB]; decide +kernel)) rfl) ?mul0)) (da_cons dv_int (da_cons (dv_n 3 rfl (by first | decide +kernel | (dsimp only [Ct.blk, locB]; decide +kernel)) rfl) da_nil))) ⟨_, _, 9949, (manyM z most : Int), rfl, w1, by omega, by omega, by omega, rfl⟩))
        (dss_cons (ds_set 7 rfl (by first | decide +kernel | (dsimp only [Ct.blk, locB]; decide +kernel)) (dv_call F_mix (by dsimp only [Ct.blk]; omega) (by first | decide +kernel | (dsimp only [Ct.blk, locB]; decide +kernel)) (da_cons (dv_addi (dv_addi (dv_n 0 rfl (by first | decide +kernel | (dsimp only [Ct.blk, locB]; decide +kernel)) rfl) (dv_mulB dv_int (dv_n 5 rfl (by first | decide +kernel | (dsimp only [Ct.blk, locB]; decide +kernel)) rfl) ?mul2)) dv_int) (da_cons dv_int (da_cons (dv_n 3 rfl (by first | decide +kernel | (dsimp only [Ct.blk, locB]; decide +kernel)) rfl) da_nil))) ⟨_, _, 9941, (manyM z most : Int), rfl, w2, by omega, by omega, by omega, rfl⟩))
        (dss_cons (ds_set 8 rfl (by first | decide +kernel | (dsimp only [Ct.blk, locB]; decide +kernel)) (dv_tup (da_cons (dv_min2 B (by first | decide +kernel | (dsimp only [Ct.blk, locB]; decide +kernel)) (dv_n 6 rfl (by first | decide +kernel | (dsimp only [Ct.blk, locB]; decide +kernel)) rfl) (dv_n 7 rfl (by first | decide +kernel | (dsimp only [Ct.blk, locB]; decide +kernel)) rfl)) (da_cons (dv_max2 B (by first | decide +kernel | (dsimp only [Ct.blk, locB]; decide +kernel)) (dv_n 6 rfl (by first | decide +kernel | (dsimp only [Ct.blk, locB]; decide +kernel)) rfl) (dv_n 7 rfl (by first | decide +kernel | (dsimp only [Ct.blk, locB]; decide +kernel)) rfl)) da_nil)) (by simp)))
        (dss_cons (ds_ifk (dt_w (dw_and (dt_c (dc_ne (dv_n 6 rfl (by first | decide +kernel | (dsimp only [Ct.blk, locB]; decide +kernel)) rfl) (dv_n 7 rfl (by first | decide +kernel | (dsimp only [Ct.blk, locB]; decide +kernel)) rfl) (by rfl) (by rfl))) (fun _ => (dw_and1 (dt_c (dc_notin (dv_n 8 rfl (by first | decide +kernel | (dsimp only [Ct.blk, locB]; decide +kernel)) rfl) (dv_n 4 rfl (by first | decide +kernel | (dsimp only [Ct.blk, locB]; decide +kernel)) rfl) (.lst _) (by rfl) sh)))))) (fun hb => DSs.conv (dss_cons (ds_append 4 0 rfl (by first | decide +kernel | (dsimp only [Ct.blk, locB]; decide +kernel)) rfl (dv_n 8 rfl (by first | decide +kernel | (dsimp only [Ct.blk, locB]; decide +kernel)) rfl) ?sz6) dss_nil) ?join7) (fun hb => DSs.conv dss_nil ?join8)) dss_nil)))), ?le⟩
      case mul0 => exact CMulB.small (by decide) (by omega)
      case mul2 => exact CMulB.small (by decide) (by omega)
      case sz6 => rw [List.length_map]; omega
      case le => exact (.cons (.cons (.cons (.cons (.cons (.drop (.drop (.drop (.drop .nil)))))))))
      all_goals
        have q : (mixM (z + 11 * (k : Int)) 9949 (manyM z most) ≠ mixM (z + 13 * (k : Int) + 1) 9941 (manyM z most) ∧ (min (mixM (z + 11 * (k : Int)) 9949 (manyM z most)) (mixM (z + 13 * (k : Int) + 1) 9941 (manyM z most)), max (mixM (z + 11 * (k : Int)) 9949 (manyM z most)) (mixM (z + 13 * (k : Int) + 1) 9941 (manyM z most))) ∉ b) ↔
            ((!PyData.eqv (.int (mixM (z + 11 * (k : Int)) 9949 (manyM z most))) (.int (mixM (z + 13 * (k : Int) + 1) 9941 (manyM z most)))) && !((b.map pairD).any fun y => PyData.eqv y (pairD (min (mixM (z + 11 * (k : Int)) 9949 (manyM z most)) (mixM (z + 13 * (k : Int) + 1) 9941 (manyM z most)), max (mixM (z + 11 * (k : Int)) 9949 (manyM z most)) (mixM (z + 13 * (k : Int) + 1) 9941 (manyM z most)))))) = true := by
          rw [any_map pairD eqv_pair, eqv_int, Bool.and_eq_true, Bool.not_eq_true', Bool.not_eq_true', decide_eq_false_iff_not, decide_eq_false_iff_not]
      case join7 =>
        have e : tieStep z (manyM z most) b k = _ := if_pos (q.mpr hb)
        rw [e, List.map_append]
        rfl
      case join8 =>
        have e : tieStep z (manyM z most) b k = _ := if_neg fun w => by rw [q.mp w] at hb; cases hb
        rw [e]
theorem f_row {m : Md} {f : Addr} {fd : FuncData} (B : Blt m) (F_mix : Fn m "_law_mix" 1 rMix) (F : Fun m.K "_law_row" "_law_row" (topS 26) f fd) (hb : Binds m.K fd ["_law_cell_here", "_law_many_here"] []) (hm : m.mg "_law_row" = some (.ref f)) : Fn m "_law_row" 2 rRow :=
  fn_ok (N := ["_law_cell_here", "_law_many_here", "_law_left", "_law_k"]) F hb hm ⟨rfl, rfl, rfl, by decide +kernel, rfl, by decide +kernel, by decide +kernel⟩ (by decide +kernel) (fun ds d ⟨_, _, _, h, _⟩ => by rw [h]; rfl) fun ds d ⟨n, z, many, h, hz, hn, h60, hd⟩ => by
    subst h hd
    refine (dss_cons (ds_own 2 rfl (by first | decide +kernel | (dsimp only [Ct.blk, locB]; decide +kernel)) (dn_listrange B (by first | decide +kernel | (dsimp only [Ct.blk, locB]; decide +kernel)) (by first | decide +kernel | (dsimp only [Ct.blk, locB]; decide +kernel)) (dv_n 1 rfl (by first | decide +kernel | (dsimp only [Ct.blk, locB]; decide +kernel)) rfl) (by omega) (by omega))) (dss_end (ds_poprow B 2 3 many [("_law_k", 3)] (popJ z many) (upto many) (by first | decide +kernel | (dsimp only [Ct.blk, locB]; decide +kernel)) rfl (by first | decide +kernel | (dsimp only [Ct.blk, locB]; decide +kernel)) (by decide) (by decide) (by first | decide +kernel | (dsimp only [Ct.blk, locB]; decide +kernel)) (di_rng B (by first | decide +kernel | (dsimp only [Ct.blk, locB]; decide +kernel)) (dv_n 1 rfl (by first | decide +kernel | (dsimp only [Ct.blk, locB]; decide +kernel)) rfl) (by omega)) (dg_one 3 rfl (by first | decide +kernel | (dsimp only [Ct.blk, locB]; decide +kernel))) (by decide) ?he ?hj (popOk_all z many _ _ _ (upto_len many) (by omega)) (by omega))))
    case hj =>
      intro k
      unfold popJ
      split
      · have := mixM_lt (z + 5 * (k : Int)) (p := 9931) (m := (many : Int) - k) (by omega)
        omega
      · omega
    case he =>
      intro k hk
      have w1 : Sm (n + 10) (z + 5 * (k : Int)) := hz.add (by omega)
      have nn := mixM_nn (z + 5 * (k : Int)) (p := 9931) (m := (many : Int) - k) (by omega)
      refine DV.conv (dv_call F_mix (by dsimp only [Ct.blk]; omega) (by first | decide +kernel | (dsimp only [Ct.blk, locB]; decide +kernel)) (da_cons (dv_addi (dv_n 0 rfl (by first | decide +kernel | (dsimp only [Ct.blk, locB]; decide +kernel)) rfl) (dv_mulB dv_int (dv_n 3 rfl (by first | decide +kernel | (dsimp only [Ct.blk, locB]; decide +kernel)) rfl) (CMulB.small (by decide) (by omega)))) (da_cons dv_int (da_cons (dv_sub (dv_n 1 rfl (by first | decide +kernel | (dsimp only [Ct.blk, locB]; decide +kernel)) rfl) (dv_n 3 rfl (by first | decide +kernel | (dsimp only [Ct.blk, locB]; decide +kernel)) rfl)) da_nil))) ⟨_, _, 9931, (many : Int) - k, rfl, w1, by omega, by omega, by omega, rfl⟩) ?_
      unfold popJ natD
      rw [if_pos hk, Int.toNat_of_nonneg nn]
theorem f_count {m : Md} {f : Addr} {fd : FuncData} (B : Blt m) (F : Fun m.K "page_count" "page_count" (topS 15) f fd) (hb : Binds m.K fd ["pages"] []) (hm : m.mg "page_count" = some (.ref f)) : Fn m "page_count" 1 rCount :=
  fn_ok (N := ["pages"]) F hb hm ⟨rfl, rfl, rfl, by decide +kernel, rfl, by decide +kernel, by decide +kernel⟩ (by decide +kernel) (fun ds d ⟨_, h, _⟩ => by rw [h]; rfl) fun ds d ⟨ns, h, hz, hd⟩ => by
    subst h hd
    exact (dss_end (ds_ret (dv_lenset (ns := ns.map fun x : Nat => (x : Int)) B (by first | decide +kernel | (dsimp only [Ct.blk, locB]; decide +kernel)) (by first | decide +kernel | (dsimp only [Ct.blk, locB]; decide +kernel)) (dv_n 0 rfl (by first | decide +kernel | (dsimp only [Ct.blk, locB]; decide +kernel)) rfl) (by rw [tupN_ints]; exact .tup _) (by rw [List.length_map]; omega))))
theorem fn_noneL {m : Md} {n : PySem.Str} {st : Stmt} {f : Addr} {fd : FuncData} {N ps : List PySem.Str} {k : Nat} {R : List PyData → PyData → Prop} (F : Fun m.K n n st f fd) (hb : Binds m.K fd ps []) (hm : m.mg n = some (.ref f)) (S : FnScope N ps (defScope st))
    (hd : ∀ x ∈ N, (x == ("__debug__" : PySem.Str)) = false ∧ (x == ("__classdict__" : PySem.Str)) = false) (no : ∀ ds d, ¬ R ds d) : Fn m n (k + 1) R :=
  fn_ok F hb hm S hd (fun ds d r => absurd r (no ds d)) fun ds d r => absurd r (no ds d)
theorem f_laid {m : Md} {f : Addr} {fd : FuncData} (B : Blt m) (F : Fun m.K "laid" "laid" (topS 16) f fd) (hb : Binds m.K fd ["pairs", "many", "size", "pages"] []) (hm : m.mg "laid" = some (.ref f)) : ∀ n : Nat, Fn m "laid" (n + 1) (rLaid n)
  | 0 => fn_noneL (N := ["pairs", "many", "size", "pages", "tie", "page", "other", "found"]) F hb hm ⟨rfl, rfl, rfl, by decide +kernel, rfl, by decide +kernel, by decide +kernel⟩ (by decide +kernel) (fun ds d ⟨_, _, _, _, _, _, _, _, h, _⟩ => by omega)
  | n + 1 => by
    have F_laid := f_laid B F hb hm n
    refine fn_ok (N := ["pairs", "many", "size", "pages", "tie", "page", "other", "found"]) F hb hm ⟨rfl, rfl, rfl, by decide +kernel, rfl, by decide +kernel, by decide +kernel⟩ (by decide +kernel) (fun ds d ⟨_, _, _, _, h, _⟩ => by rw [h]; rfl) fun ds d ⟨ps, many, size, pages, h, hm60, hs60, hle, hfu, hd⟩ => ?_
    subst h hd
    have hpl : (pages.map natD).length = pages.length := List.length_map _
    by_cases hs : pages.length = size
    · have e : laidM (inP ps) many size (n + 1) pages = some pages := if_pos hs
      rw [e]
      exact (dss_if (k := true) (DT.conv (dt_c (dc_eq (dv_lent B (by first | decide +kernel | (dsimp only [Ct.blk, locB]; decide +kernel)) (dv_n 3 rfl (by first | decide +kernel | (dsimp only [Ct.blk, locB]; decide +kernel)) rfl) (.tup _)) (dv_n 2 rfl (by first | decide +kernel | (dsimp only [Ct.blk, locB]; decide +kernel)) rfl) (nc_int _).sh (nc_int _).sh)) (by rw [hpl, hs]; exact (nc_int _).eq_self)) (fun hb => ⟨_, rfl, (dss_end (ds_ret (dv_n 3 rfl (by first | decide +kernel | (dsimp only [Ct.blk, locB]; decide +kernel)) rfl)))⟩) (fun hb => by cases hb))
    · have e : laidM (inP ps) many size (n + 1) pages = (List.range (min many (dc pages + 1))).findSome? fun p => if okP (inP ps) pages p = true then laidM (inP ps) many size n (pages ++ [p]) else none := if_neg hs
      have e0 : PyData.eqv (natD (pages.map natD).length) (natD size) = false := by
        unfold natD
        rw [eqv_int]
        exact decide_eq_false (by rw [hpl]; omega)
      have fm := findSome_map (fun p => if okP (inP ps) pages p = true then laidM (inP ps) many size n (pages ++ [p]) else none) tupN (List.range (min many (dc pages + 1)))
      rw [← e] at fm
      have sh : SeqAt.shaped (.tuple (ps.map npD)) = true := (nc_tup (nc_nps ps)).sh
      refine (dss_if (k := false) (DT.conv (dt_c (dc_eq (dv_lent B (by first | decide +kernel | (dsimp only [Ct.blk, locB]; decide +kernel)) (dv_n 3 rfl (by first | decide +kernel | (dsimp only [Ct.blk, locB]; decide +kernel)) rfl) (.tup _)) (dv_n 2 rfl (by first | decide +kernel | (dsimp only [Ct.blk, locB]; decide +kernel)) rfl) (nc_int _).sh (nc_int _).sh)) e0) (fun hb => by cases hb) (fun hb =>
        (dss_cons (ds_set 4 rfl (by first | decide +kernel | (dsimp only [Ct.blk, locB]; decide +kernel)) (DV.conv (d' := natD pages.length) (dv_lent B (by first | decide +kernel | (dsimp only [Ct.blk, locB]; decide +kernel)) (dv_n 3 rfl (by first | decide +kernel | (dsimp only [Ct.blk, locB]; decide +kernel)) rfl) (.tup _)) (by rw [hpl]))) (dss_opt (o := (laidM (inP ps) many size (n + 1) pages).map tupN) (δ1 := [some (.tuple (ps.map npD)), some (natD many), some (natD size), some (tupN pages), some (natD pages.length), none, none, none]) (ω1 := []) (ds_for1 5 (dg_one 5 rfl (by first | decide +kernel | (dsimp only [Ct.blk, locB]; decide +kernel))) (DI1.conv (di_rng (n := min many (dc pages + 1)) B (by first | decide +kernel | (dsimp only [Ct.blk, locB]; decide +kernel)) (DV.conv (dv_min2 B (by first | decide +kernel | (dsimp only [Ct.blk, locB]; decide +kernel)) (dv_n 1 rfl (by first | decide +kernel | (dsimp only [Ct.blk, locB]; decide +kernel)) rfl) (dv_addi (dv_lenset (ns := pages.map fun x : Nat => (x : Int)) B (by first | decide +kernel | (dsimp only [Ct.blk, locB]; decide +kernel)) (by first | decide +kernel | (dsimp only [Ct.blk, locB]; decide +kernel)) (dv_n 3 rfl (by first | decide +kernel | (dsimp only [Ct.blk, locB]; decide +kernel)) rfl) (by rw [tupN_ints]; exact .tup _) (by rw [List.length_map]; omega)) dv_int)) ?mn) (by omega)) rfl) (DFor.conv (dfor_find natD (fun p => (if okP (inP ps) pages p = true then laidM (inP ps) many size n (pages ++ [p]) else none).map tupN) (List.range (min many (dc pages + 1))) ?loop) (by rw [fm]; rfl))) (fun hn => by
          have hn' : laidM (inP ps) many size (n + 1) pages = none := by simpa using hn
          rw [hn']; exact dss_end (ds_ret dv_non)) (fun r hr => by
          cases hq : laidM (inP ps) many size (n + 1) pages with
          | none => rw [hq] at hr; cases hr
          | some l => rw [hq] at hr; cases hr; rfl)))))
      case mn =>
        show PyData.int (min (many : Int) (((dc pages : Nat) : Int) + 1)) = natD (min many (dc pages + 1))
        unfold natD
        congr 1
        omega
      case loop =>
        intro p hp
        have hp' := List.mem_range.mp hp
        refine ⟨_, rfl, by simp [ofree], ?_⟩
        have g : ∀ {j : Nat}, j < pages.length → L2.atI (pages.map natD) (j : Int) = some (natD (pages.getD j 0)) := fun {j} h => L2.atI_nat (by rw [List.getElem?_map, List.getD_eq_getElem?_getD, List.getElem?_eq_getElem h]; rfl)
        cases q : okP (inP ps) pages p with
        | false =>
          refine .inl ⟨rfl, _, (dss_cons (ds_if (k := false) (out := .next [some (.tuple (ps.map npD)), some (natD many), some (natD size), some (tupN pages), some (natD pages.length), some (natD p), none, none] []) ?tst1 (fun hb => by cases hb) (fun hb => dss_nil)) dss_nil), (.cons (.cons (.cons (.cons (.cons (.drop (.cons (.cons .nil))))))))⟩
          case tst1 => exact DT.conv (dt_not (dt_val (DV.conv (dv_any B (by first | decide +kernel | (dsimp only [Ct.blk, locB]; decide +kernel)) (dn_dv (DN.conv (dn_lc1 6 [("other", 6)] (by first | decide +kernel | (dsimp only [Ct.blk, locB]; decide +kernel)) (di_rng B (by first | decide +kernel | (dsimp only [Ct.blk, locB]; decide +kernel)) (dv_n 4 rfl (by first | decide +kernel | (dsimp only [Ct.blk, locB]; decide +kernel)) rfl) (by omega)) (dg_one 6 rfl (by first | decide +kernel | (dsimp only [Ct.blk, locB]; decide +kernel))) (turns_mapT natD (fun o => .bool (decide (pages.getD o 0 = p) && inP ps o pages.length)) (List.range pages.length) (fun o ho => ⟨_, rfl, dv_and (DV.conv (dv_c (dc_eq (dv_ixt (dv_n 3 rfl (by first | decide +kernel | (dsimp only [Ct.blk, locB]; decide +kernel)) rfl) (dv_n 6 rfl (by first | decide +kernel | (dsimp only [Ct.blk, locB]; decide +kernel)) rfl) (g (List.mem_range.mp ho))) (dv_n 5 rfl (by first | decide +kernel | (dsimp only [Ct.blk, locB]; decide +kernel)) rfl) (nc_int _).sh (nc_int _).sh)) (eqvN _ _)) (fun _ => dv_bop1 (DV.conv (dv_c (dc_in (dv_tup (da_cons (dv_n 6 rfl (by first | decide +kernel | (dsimp only [Ct.blk, locB]; decide +kernel)) rfl) (da_cons (dv_n 4 rfl (by first | decide +kernel | (dsimp only [Ct.blk, locB]; decide +kernel)) rfl) da_nil)) (by simp)) (dv_n 0 rfl (by first | decide +kernel | (dsimp only [Ct.blk, locB]; decide +kernel)) rfl) (.tup _) (nc_np (o, pages.length)).sh sh)) (congrArg PyData.bool (any_np ps o pages.length))))⟩)) (by simp; omega)) (show _ = ((List.range pages.length).map fun o => decide (pages.getD o 0 = p) && inP ps o pages.length).map PyData.bool by rw [List.map_map]; rfl)))) (by rw [List.any_map]; rfl)))) q
        | true =>
          cases hl : laidM (inP ps) many size n (pages ++ [p]) with
          | none =>
            refine .inl ⟨by rw [if_pos rfl]; rfl, _, (dss_cons (ds_if (k := true) (out := .next [some (.tuple (ps.map npD)), some (natD many), some (natD size), some (tupN pages), some (natD pages.length), some (natD p), none, none] []) ?tst2 (fun hb => DSs.weak (dss_cons (ds_set 7 rfl (by first | decide +kernel | (dsimp only [Ct.blk, locB]; decide +kernel)) (d := .none) (DV.conv (d := optD (laidM (inP ps) many size n (pages ++ [p]))) ?call2 (by rw [hl]; rfl))) (dss_if (k := false) (DT.conv (dt_c (dc_notn (x := .none) (dv_n 7 rfl (by first | decide +kernel | (dsimp only [Ct.blk, locB]; decide +kernel)) rfl) dv_non)) rfl) (fun hb => by cases hb) (fun hb => dss_nil))) (.cons (.cons (.cons (.cons (.cons (.cons (.cons (.drop .nil))))))))) (fun hb => by cases hb)) dss_nil), (.cons (.cons (.cons (.cons (.cons (.drop (.cons (.cons .nil))))))))⟩
            case tst2 => exact DT.conv (dt_not (dt_val (DV.conv (dv_any B (by first | decide +kernel | (dsimp only [Ct.blk, locB]; decide +kernel)) (dn_dv (DN.conv (dn_lc1 6 [("other", 6)] (by first | decide +kernel | (dsimp only [Ct.blk, locB]; decide +kernel)) (di_rng B (by first | decide +kernel | (dsimp only [Ct.blk, locB]; decide +kernel)) (dv_n 4 rfl (by first | decide +kernel | (dsimp only [Ct.blk, locB]; decide +kernel)) rfl) (by omega)) (dg_one 6 rfl (by first | decide +kernel | (dsimp only [Ct.blk, locB]; decide +kernel))) (turns_mapT natD (fun o => .bool (decide (pages.getD o 0 = p) && inP ps o pages.length)) (List.range pages.length) (fun o ho => ⟨_, rfl, dv_and (DV.conv (dv_c (dc_eq (dv_ixt (dv_n 3 rfl (by first | decide +kernel | (dsimp only [Ct.blk, locB]; decide +kernel)) rfl) (dv_n 6 rfl (by first | decide +kernel | (dsimp only [Ct.blk, locB]; decide +kernel)) rfl) (g (List.mem_range.mp ho))) (dv_n 5 rfl (by first | decide +kernel | (dsimp only [Ct.blk, locB]; decide +kernel)) rfl) (nc_int _).sh (nc_int _).sh)) (eqvN _ _)) (fun _ => dv_bop1 (DV.conv (dv_c (dc_in (dv_tup (da_cons (dv_n 6 rfl (by first | decide +kernel | (dsimp only [Ct.blk, locB]; decide +kernel)) rfl) (da_cons (dv_n 4 rfl (by first | decide +kernel | (dsimp only [Ct.blk, locB]; decide +kernel)) rfl) da_nil)) (by simp)) (dv_n 0 rfl (by first | decide +kernel | (dsimp only [Ct.blk, locB]; decide +kernel)) rfl) (.tup _) (nc_np (o, pages.length)).sh sh)) (congrArg PyData.bool (any_np ps o pages.length))))⟩)) (by simp; omega)) (show _ = ((List.range pages.length).map fun o => decide (pages.getD o 0 = p) && inP ps o pages.length).map PyData.bool by rw [List.map_map]; rfl)))) (by rw [List.any_map]; rfl)))) q
            case call2 => exact (dv_call F_laid (by dsimp only [Ct.blk]; omega) (by first | decide +kernel | (dsimp only [Ct.blk, locB]; decide +kernel)) (da_cons (dv_n 0 rfl (by first | decide +kernel | (dsimp only [Ct.blk, locB]; decide +kernel)) rfl) (da_cons (dv_n 1 rfl (by first | decide +kernel | (dsimp only [Ct.blk, locB]; decide +kernel)) rfl) (da_cons (dv_n 2 rfl (by first | decide +kernel | (dsimp only [Ct.blk, locB]; decide +kernel)) rfl) (da_cons (DV.conv (d' := tupN (pages ++ [p])) (dv_addt (dv_n 3 rfl (by first | decide +kernel | (dsimp only [Ct.blk, locB]; decide +kernel)) rfl) (dv_tup (da_cons (dv_n 5 rfl (by first | decide +kernel | (dsimp only [Ct.blk, locB]; decide +kernel)) rfl) da_nil) (by simp)) (by rw [hpl]; simp; omega)) (by unfold tupN; rw [List.map_append]; rfl)) da_nil)))) ⟨ps, many, size, pages ++ [p], rfl, hm60, hs60, by rw [List.length_append, List.length_singleton]; omega, by rw [List.length_append, List.length_singleton]; omega, rfl⟩)
          | some l =>
            refine .inr ⟨tupN l, by rw [if_pos rfl]; rfl, (dss_end (ds_if (k := true) ?tst3 (fun hb => (dss_cons (ds_set 7 rfl (by first | decide +kernel | (dsimp only [Ct.blk, locB]; decide +kernel)) (d := tupN l) (DV.conv (d := optD (laidM (inP ps) many size n (pages ++ [p]))) ?call3 (by rw [hl]; rfl))) (dss_if (k := true) (DT.conv (dt_c (dc_notn (x := tupN l) (dv_n 7 rfl (by first | decide +kernel | (dsimp only [Ct.blk, locB]; decide +kernel)) rfl) dv_non)) rfl) (fun hb => ⟨_, rfl, (dss_end (ds_ret (dv_n 7 rfl (by first | decide +kernel | (dsimp only [Ct.blk, locB]; decide +kernel)) rfl)))⟩) (fun hb => by cases hb)))) (fun hb => by cases hb)))⟩
            case tst3 => exact DT.conv (dt_not (dt_val (DV.conv (dv_any B (by first | decide +kernel | (dsimp only [Ct.blk, locB]; decide +kernel)) (dn_dv (DN.conv (dn_lc1 6 [("other", 6)] (by first | decide +kernel | (dsimp only [Ct.blk, locB]; decide +kernel)) (di_rng B (by first | decide +kernel | (dsimp only [Ct.blk, locB]; decide +kernel)) (dv_n 4 rfl (by first | decide +kernel | (dsimp only [Ct.blk, locB]; decide +kernel)) rfl) (by omega)) (dg_one 6 rfl (by first | decide +kernel | (dsimp only [Ct.blk, locB]; decide +kernel))) (turns_mapT natD (fun o => .bool (decide (pages.getD o 0 = p) && inP ps o pages.length)) (List.range pages.length) (fun o ho => ⟨_, rfl, dv_and (DV.conv (dv_c (dc_eq (dv_ixt (dv_n 3 rfl (by first | decide +kernel | (dsimp only [Ct.blk, locB]; decide +kernel)) rfl) (dv_n 6 rfl (by first | decide +kernel | (dsimp only [Ct.blk, locB]; decide +kernel)) rfl) (g (List.mem_range.mp ho))) (dv_n 5 rfl (by first | decide +kernel | (dsimp only [Ct.blk, locB]; decide +kernel)) rfl) (nc_int _).sh (nc_int _).sh)) (eqvN _ _)) (fun _ => dv_bop1 (DV.conv (dv_c (dc_in (dv_tup (da_cons (dv_n 6 rfl (by first | decide +kernel | (dsimp only [Ct.blk, locB]; decide +kernel)) rfl) (da_cons (dv_n 4 rfl (by first | decide +kernel | (dsimp only [Ct.blk, locB]; decide +kernel)) rfl) da_nil)) (by simp)) (dv_n 0 rfl (by first | decide +kernel | (dsimp only [Ct.blk, locB]; decide +kernel)) rfl) (.tup _) (nc_np (o, pages.length)).sh sh)) (congrArg PyData.bool (any_np ps o pages.length))))⟩)) (by simp; omega)) (show _ = ((List.range pages.length).map fun o => decide (pages.getD o 0 = p) && inP ps o pages.length).map PyData.bool by rw [List.map_map]; rfl)))) (by rw [List.any_map]; rfl)))) q
            case call3 => exact (dv_call F_laid (by dsimp only [Ct.blk]; omega) (by first | decide +kernel | (dsimp only [Ct.blk, locB]; decide +kernel)) (da_cons (dv_n 0 rfl (by first | decide +kernel | (dsimp only [Ct.blk, locB]; decide +kernel)) rfl) (da_cons (dv_n 1 rfl (by first | decide +kernel | (dsimp only [Ct.blk, locB]; decide +kernel)) rfl) (da_cons (dv_n 2 rfl (by first | decide +kernel | (dsimp only [Ct.blk, locB]; decide +kernel)) rfl) (da_cons (DV.conv (d' := tupN (pages ++ [p])) (dv_addt (dv_n 3 rfl (by first | decide +kernel | (dsimp only [Ct.blk, locB]; decide +kernel)) rfl) (dv_tup (da_cons (dv_n 5 rfl (by first | decide +kernel | (dsimp only [Ct.blk, locB]; decide +kernel)) rfl) da_nil) (by simp)) (by rw [hpl]; simp; omega)) (by unfold tupN; rw [List.map_append]; rfl)) da_nil)))) ⟨ps, many, size, pages ++ [p], rfl, hm60, hs60, by rw [List.length_append, List.length_singleton]; omega, by rw [List.length_append, List.length_singleton]; omega, rfl⟩)
theorem f_laid16 {m : Md} {f : Addr} {fd : FuncData} (B : Blt m) (F : Fun m.K "laid" "laid" (topS 16) f fd) (hb : Binds m.K fd ["pairs", "many", "size", "pages"] []) (hm : m.mg "laid" = some (.ref f)) : Fn m "laid" 17 (rLaid 16) := f_laid B F hb hm 16
theorem f_few {m : Md} {f : Addr} {fd : FuncData} (B : Blt m) (F_clashes : Fn m "clashes" 4 rClashes) (F_laid : Fn m "laid" 17 (rLaid 16)) (F : Fun m.K "fewest_pages" "fewest_pages" (topS 17) f fd) (hb : Binds m.K fd ["web", "row", "kind"] []) (hm : m.mg "fewest_pages" = some (.ref f)) : Fn m "fewest_pages" 18 rFew :=
  fn_ok (N := ["web", "row", "kind", "pairs", "many", "found"]) F hb hm ⟨rfl, rfl, rfl, by decide +kernel, rfl, by decide +kernel, by decide +kernel⟩ (by decide +kernel) (fun ds d ⟨_, _, _, _, _, _, h, _⟩ => by rw [h]; rfl) fun ds d ⟨mm, ties, r, k, M, l, h, hr, h16, hM, fw, hd⟩ => by
    subst h hd
    have hlen : (ties.map pairD).length = ties.length := List.length_map _
    generalize hP : clashesM ties r k = ps at fw
    have la0 : ∀ m, m ≤ M → laidM (inP ps) m ties.length 16 [] = if m < M then none else some l := fun m hm => by
      by_cases c : m < M
      · rw [if_pos c]; exact fw.no m c
      · have e : m = M := by omega
        rw [if_neg c, e]; exact fw.yes
    refine (dss_cons (ds_set 3 rfl (by first | decide +kernel | (dsimp only [Ct.blk, locB]; decide +kernel)) (DV.conv (dv_call F_clashes (by dsimp only [Ct.blk]; omega) (by first | decide +kernel | (dsimp only [Ct.blk, locB]; decide +kernel)) (da_cons (dv_n 0 rfl (by first | decide +kernel | (dsimp only [Ct.blk, locB]; decide +kernel)) rfl) (da_cons (dv_n 1 rfl (by first | decide +kernel | (dsimp only [Ct.blk, locB]; decide +kernel)) rfl) (da_cons (dv_n 2 rfl (by first | decide +kernel | (dsimp only [Ct.blk, locB]; decide +kernel)) rfl) da_nil))) ⟨mm, ties, r, k, rfl, hr, by omega, rfl⟩) (show _ = PyData.tuple (ps.map npD) by rw [hP])))
      (dss_cons (ds_set 4 rfl (by first | decide +kernel | (dsimp only [Ct.blk, locB]; decide +kernel)) (d := natD 0) dv_int)
      (dss_cons (ds_set 5 rfl (by first | decide +kernel | (dsimp only [Ct.blk, locB]; decide +kernel)) (d := optD (laidM (inP ps) 0 ties.length 16 [])) (dv_call F_laid (by dsimp only [Ct.blk]; omega) (by first | decide +kernel | (dsimp only [Ct.blk, locB]; decide +kernel)) (da_cons (dv_n 3 rfl (by first | decide +kernel | (dsimp only [Ct.blk, locB]; decide +kernel)) rfl) (da_cons (dv_n 4 rfl (by first | decide +kernel | (dsimp only [Ct.blk, locB]; decide +kernel)) rfl) (da_cons (DV.conv (d' := natD ties.length) (dv_lent B (by first | decide +kernel | (dsimp only [Ct.blk, locB]; decide +kernel)) (dv_ixt (dv_n 0 rfl (by first | decide +kernel | (dsimp only [Ct.blk, locB]; decide +kernel)) rfl) dv_int rfl) (.tup _)) (by rw [hlen])) (da_cons (dv_tup da_nil (by simp)) da_nil)))) ⟨ps, 0, ties.length, [], rfl, by omega, by omega, by simp, by simp; omega, rfl⟩))
      (dss_cons (ds_while M (out := .next [some (webD mm ties), some (rowD r), some (.str k.t), some (.tuple (ps.map npD)), some (natD M), some (tupN l)] []) ?wh)
      (dss_end (ds_ret (dv_n 5 rfl (by first | decide +kernel | (dsimp only [Ct.blk, locB]; decide +kernel)) rfl)))))))
    have e : tupN l = optD (laidM (inP ps) M ties.length 16 []) := by
      have : laidM (inP ps) M ties.length 16 [] = some l := fw.yes
      rw [this]; rfl
    rw [e]
    refine dwh_seq (fun k0 => [some (webD mm ties), some (rowD r), some (.str k.t), some (.tuple (ps.map npD)), some (natD k0), some (optD (laidM (inP ps) k0 ties.length 16 []))]) M (fun k0 hk => ?_) ?_ M 0 (by omega)
    · have e0 : laidM (inP ps) k0 ties.length 16 [] = none := fw.no k0 hk
      refine ⟨by rw [e0]; exact DT.conv (dt_c (dc_isn (x := .none) (dv_n 5 rfl (by first | decide +kernel | (dsimp only [Ct.blk, locB]; decide +kernel)) rfl) dv_non)) rfl, (dss_cons (ds_set 4 rfl (by first | decide +kernel | (dsimp only [Ct.blk, locB]; decide +kernel)) (dv_addn (dv_n 4 rfl (by first | decide +kernel | (dsimp only [Ct.blk, locB]; decide +kernel)) rfl) (dv_intn 1))) (dss_cons (ds_set 5 rfl (by first | decide +kernel | (dsimp only [Ct.blk, locB]; decide +kernel)) (d := optD (laidM (inP ps) (k0 + 1) ties.length 16 [])) ?cl) dss_nil))⟩
      exact (dv_call F_laid (by dsimp only [Ct.blk]; omega) (by first | decide +kernel | (dsimp only [Ct.blk, locB]; decide +kernel)) (da_cons (dv_n 3 rfl (by first | decide +kernel | (dsimp only [Ct.blk, locB]; decide +kernel)) rfl) (da_cons (dv_n 4 rfl (by first | decide +kernel | (dsimp only [Ct.blk, locB]; decide +kernel)) rfl) (da_cons (DV.conv (d' := natD ties.length) (dv_lent B (by first | decide +kernel | (dsimp only [Ct.blk, locB]; decide +kernel)) (dv_ixt (dv_n 0 rfl (by first | decide +kernel | (dsimp only [Ct.blk, locB]; decide +kernel)) rfl) dv_int rfl) (.tup _)) (by rw [hlen])) (da_cons (dv_tup da_nil (by simp)) da_nil)))) ⟨ps, k0 + 1, ties.length, [], rfl, by omega, by omega, by simp, by simp; omega, rfl⟩)
    · rw [← e]
      exact DT.conv (dt_c (dc_isn (x := tupN l) (dv_n 5 rfl (by first | decide +kernel | (dsimp only [Ct.blk, locB]; decide +kernel)) rfl) dv_non)) rfl
theorem f_all {m : Md} {f : Addr} {fd : FuncData} (B : Blt m) (F : Fun m.K "all_rows" "all_rows" (topS 19) f fd) (hb : Binds m.K fd ["places"] []) (hm : m.mg "all_rows" = some (.ref f)) : ∀ n : Nat, Fn m "all_rows" (n + 1) (rAll n)
  | 0 => fn_noneL (N := ["places", "found", "place", "rest", "other", "row"]) F hb hm ⟨rfl, rfl, rfl, by decide +kernel, rfl, by decide +kernel, by decide +kernel⟩ (by decide +kernel) (fun ds d ⟨_, _, h, _⟩ => by omega)
  | n + 1 => by
    have F_all := f_all B F hb hm n
    refine fn_ok (N := ["places", "found", "place", "rest", "other", "row"]) F hb hm ⟨rfl, rfl, rfl, by decide +kernel, rfl, by decide +kernel, by decide +kernel⟩ (by decide +kernel) (fun ds d ⟨_, h, _⟩ => by rw [h]; rfl) fun ds d ⟨places, h, hln, h7, hnd, hd⟩ => ?_
    subst h hd
    by_cases he : places = []
    · subst he
      exact (dss_if (k := true) (DT.conv (dt_not (dt_seq (dv_n 0 rfl (by first | decide +kernel | (dsimp only [Ct.blk, locB]; decide +kernel)) rfl) (.lst _))) rfl) (fun hb => ⟨_, rfl, (dss_end (ds_ret (DV.conv (dn_dv (dn_lst (da_cons (dv_tup da_nil (by simp)) da_nil) (by simp))) rfl)))⟩) (fun hb => by cases hb))
    · have em : (places.map PyData.int).isEmpty = false := by
        cases places with
        | nil => exact absurd rfl he
        | cons x l => rfl
      have hp0 : 0 < places.length := List.length_pos_iff.mpr he
      have er : rowsM (n + 1) places = places.flatMap fun p => (rowsM n (places.filter fun o => !decide (o = p))).map (p :: ·) := if_neg he
      have bd : ∀ p ∈ places, (rowsM n (places.filter fun o => !decide (o = p))).length ≤ 8 ^ 6 := fun p hp => by
        have l1 := filt_ne_lt hp
        exact Nat.le_trans (rows_len n _ (by omega)) (Nat.pow_le_pow_right (by omega) (by omega))
      have p6 : (8 : Nat) ^ 6 = 262144 := by decide
      rw [p6] at bd
      refine (dss_if (k := false) (DT.conv (dt_not (dt_seq (dv_n 0 rfl (by first | decide +kernel | (dsimp only [Ct.blk, locB]; decide +kernel)) rfl) (.lst _))) (by rw [em]; rfl)) (fun hb => by cases hb) (fun hb => (dss_cons (ds_own 1 rfl (by first | decide +kernel | (dsimp only [Ct.blk, locB]; decide +kernel)) (dn_lst da_nil (by simp))) (dss_cons (ds_for1 2 (dg_one 2 rfl (by first | decide +kernel | (dsimp only [Ct.blk, locB]; decide +kernel))) (di_seq (dv_n 0 rfl (by first | decide +kernel | (dsimp only [Ct.blk, locB]; decide +kernel)) rfl) (.lst _)) (DFor.convo (ω2 := [(1, .lst ((rowsM (n + 1) places).map rowD))]) (dfor_fold PyData.int (fun acc => [(1, .lst (acc.map rowD))]) (fun acc p => acc ++ (rowsM n (places.filter fun o => !decide (o = p))).map (p :: ·)) (fun j b => b.length + j * 262144 ≤ 2097152) places [] ?i0 ?step) (by rw [foldl_app, List.nil_append, er]))) (dss_end (ds_ret (DV.conv (dv_n 1 rfl (by first | decide +kernel | (dsimp only [Ct.blk, locB]; decide +kernel)) rfl) rfl)))))))
      case i0 => simp; omega
      case step =>
        intro p hp j acc ha
        have b1 := bd p hp
        have l1 := filt_ne_lt hp
        have le := rows_each n (places.filter fun o => !decide (o = p))
        refine ⟨by rw [List.length_append, List.length_map]; omega, _, rfl, by simp [ofree, TSpec.ix], _, DSs.convo (dss_cons (ds_lc1 3 4 [("other", 4)] rfl (by first | decide +kernel | (dsimp only [Ct.blk, locB]; decide +kernel)) (by rfl) (by rfl) (by first | decide +kernel | (dsimp only [Ct.blk, locB]; decide +kernel)) (by first | decide +kernel | (dsimp only [Ct.blk, locB]; decide +kernel)) (di_seq (dv_n 0 rfl (by first | decide +kernel | (dsimp only [Ct.blk, locB]; decide +kernel)) rfl) (.lst _)) (dg_one 4 rfl (by first | decide +kernel | (dsimp only [Ct.blk, locB]; decide +kernel))) (turns_filtT PyData.int PyData.int (fun o => !decide (o = p)) places (fun x hx => ⟨_, rfl, DT.conv (dt_c (dc_ne (dv_n 4 rfl (by first | decide +kernel | (dsimp only [Ct.blk, locB]; decide +kernel)) rfl) (dv_n 2 rfl (by first | decide +kernel | (dsimp only [Ct.blk, locB]; decide +kernel)) rfl) (nc_int _).sh (nc_int _).sh)) (congrArg (!·) (eqv_int x p)), fun hk => (dv_n 4 rfl (by first | decide +kernel | (dsimp only [Ct.blk, locB]; decide +kernel)) rfl)⟩)) (by rw [List.length_map]; omega)) (dss_cons (ds_extend 1 0 rfl (by first | decide +kernel | (dsimp only [Ct.blk, locB]; decide +kernel)) rfl (dn_dv (dn_lc1 5 [("row", 5)] (by first | decide +kernel | (dsimp only [Ct.blk, locB]; decide +kernel)) (di_seq ?call (.lst _)) (dg_one 5 rfl (by first | decide +kernel | (dsimp only [Ct.blk, locB]; decide +kernel))) (turns_mapT rowD (fun r => rowD (p :: r)) (rowsM n (places.filter fun o => !decide (o = p))) (fun r hr => ⟨_, rfl, dv_addt (dv_tup (da_cons (dv_n 2 rfl (by first | decide +kernel | (dsimp only [Ct.blk, locB]; decide +kernel)) rfl) da_nil) (by simp)) (dv_n 5 rfl (by first | decide +kernel | (dsimp only [Ct.blk, locB]; decide +kernel)) rfl) ?sz4⟩)) ?sz5)) ?sz6) dss_nil)) ?cv, (.cons (.cons (.drop (.drop (.cons (.cons .nil))))))⟩
        case call => exact (dv_call F_all (by dsimp only [Ct.blk]; omega) (by first | decide +kernel | (dsimp only [Ct.blk, locB]; decide +kernel)) (da_cons (dv_n 3 rfl (by first | decide +kernel | (dsimp only [Ct.blk, locB]; decide +kernel)) rfl) da_nil) ⟨places.filter fun o => !decide (o = p), rfl, by omega, by omega, List.Pairwise.filter _ hnd, rfl⟩)
        case sz4 => have := le r hr; rw [List.length_map]; simp; omega
        case sz5 => rw [List.length_map]; omega
        case sz6 => rw [List.length_map, List.length_map]; omega
        case cv => rw [List.map_append, List.map_map]; rfl
theorem f_all8 {m : Md} {f : Addr} {fd : FuncData} (B : Blt m) (F : Fun m.K "all_rows" "all_rows" (topS 19) f fd) (hb : Binds m.K fd ["places"] []) (hm : m.mg "all_rows" = some (.ref f)) : Fn m "all_rows" 9 (rAll 8) := f_all B F hb hm 8
theorem f_cell {m : Md} {f : Addr} {fd : FuncData} (B : Blt m) (F : Fun m.K "_law_cell" "_law_cell" (topS 23) f fd) (hb : Binds m.K fd ["_law_script", "_law_k"] []) (hm : m.mg "_law_cell" = some (.ref f)) : Fn m "_law_cell" 1 rCell :=
  fn_ok (N := ["_law_script", "_law_k"]) F hb hm ⟨rfl, rfl, rfl, by decide +kernel, rfl, by decide +kernel, by decide +kernel⟩ (by decide +kernel) (fun ds d ⟨_, _, h, _⟩ => by rw [h]; rfl) fun ds d ⟨ns, k, h, hd⟩ => by
    subst h hd
    by_cases c : k < ns.length
    · exact (dss_if (k := true) (DT.conv (dt_c (dc_lt (dv_n 1 rfl (by first | decide +kernel | (dsimp only [Ct.blk, locB]; decide +kernel)) rfl) (dv_len B (by first | decide +kernel | (dsimp only [Ct.blk, locB]; decide +kernel)) (dv_n 0 rfl (by first | decide +kernel | (dsimp only [Ct.blk, locB]; decide +kernel)) rfl) (.scr _)))) (decide_eq_true (by omega))) (fun hb => ⟨_, rfl, (dss_end (ds_ret (dv_ixs (dv_n 0 rfl (by first | decide +kernel | (dsimp only [Ct.blk, locB]; decide +kernel)) rfl) (dv_n 1 rfl (by first | decide +kernel | (dsimp only [Ct.blk, locB]; decide +kernel)) rfl) (L2.atI_nat (by rw [List.getD_eq_getElem?_getD, List.getElem?_eq_getElem c]; rfl)))))⟩) (fun hb => by cases hb))
    · rw [List.getD_eq_getElem?_getD, List.getElem?_eq_none (by omega)]
      exact (dss_if (k := false) (DT.conv (dt_c (dc_lt (dv_n 1 rfl (by first | decide +kernel | (dsimp only [Ct.blk, locB]; decide +kernel)) rfl) (dv_len B (by first | decide +kernel | (dsimp only [Ct.blk, locB]; decide +kernel)) (dv_n 0 rfl (by first | decide +kernel | (dsimp only [Ct.blk, locB]; decide +kernel)) rfl) (.scr _)))) (decide_eq_false (by omega))) (fun hb => by cases hb) (fun hb => (dss_end (ds_ret dv_int))))
theorem f_best {m : Md} {f : Addr} {fd : FuncData} (B : Blt m) (F_all : Fn m "all_rows" 9 (rAll 8)) (F_few : Fn m "fewest_pages" 18 rFew) (F_count : Fn m "page_count" 1 rCount) (F : Fun m.K "best_row" "best_row" (topS 20) f fd) (hb : Binds m.K fd ["web", "kind"] []) (hm : m.mg "best_row" = some (.ref f)) : Fn m "best_row" 19 rBest :=
  fn_ok (N := ["web", "kind", "best", "row", "many"]) F hb hm ⟨rfl, rfl, rfl, by decide +kernel, rfl, by decide +kernel, by decide +kernel⟩ (by decide +kernel) (fun ds d ⟨_, _, _, _, h, _⟩ => by rw [h]; rfl) fun ds d ⟨mm, ties, k, b, h, w, hb0, hd⟩ => by
    subst h hd
    have w6 := w.six
    have wp := w.pos
    have w16 := w.few
    refine (dss_cons (ds_set 2 rfl (by first | decide +kernel | (dsimp only [Ct.blk, locB]; decide +kernel)) (d := bD none) dv_non) (dss_run (fun o => [some (webD mm ties), some (.str k.t), some (bD o), none, none]) hb0 (ds_for1 3 (dg_one 3 rfl (by first | decide +kernel | (dsimp only [Ct.blk, locB]; decide +kernel))) (di_seq (dv_call F_all (by dsimp only [Ct.blk]; omega) (by first | decide +kernel | (dsimp only [Ct.blk, locB]; decide +kernel)) (da_cons (dn_dv (dn_listrange B (by first | decide +kernel | (dsimp only [Ct.blk, locB]; decide +kernel)) (by first | decide +kernel | (dsimp only [Ct.blk, locB]; decide +kernel)) (dv_ixt (dv_n 0 rfl (by first | decide +kernel | (dsimp only [Ct.blk, locB]; decide +kernel)) rfl) dv_int (d := natD mm) rfl) (by omega) (by omega))) da_nil) ⟨upto mm, rfl, by rw [upto_len]; omega, by rw [upto_len]; omega, upto_nodup mm, rfl⟩) (.lst _)) (dfor_run (pcM ties k) (fun o => [some (webD mm ties), some (.str k.t), some (bD o), none, none]) (fun r => r.Perm (upto mm)) ?step (rowsM 8 (upto mm)) none fun r hr => (rows8 w6 r).mp hr)) (fun n b => dss_end (ds_ret (dv_ixt (dv_n 2 rfl (by first | decide +kernel | (dsimp only [Ct.blk, locB]; decide +kernel)) rfl) dv_int (d := rowD b) rfl)))))
    intro r best hr
    have wr := w.wr hr
    have hl : r.length = mm := hr.length_eq.trans (upto_len mm)
    have hmem : ∀ t ∈ ties, t.1 ∈ r ∧ t.2 ∈ r := fun t ht => ⟨(wr.mem ht).1, (wr.mem ht).2.1⟩
    obtain ⟨l, hpc, fw⟩ := pc_few k r w16
    obtain ⟨f1, _, f3⟩ := fw.facts w16
    have a0 : L2.atI (r.map PyData.int) ((0 : Nat) : Int) = some (.int (r.getD 0 0)) := L2.atI_nat (by rw [List.getElem?_map, List.getD_eq_getElem?_getD, List.getElem?_eq_getElem (show 0 < r.length by omega)]; rfl)
    have a1 : L2.atI (r.map PyData.int) (-1) = some (.int (r.getD (r.length - 1) 0)) := DL.atI_last (by rw [List.length_map, List.getElem?_map, List.getD_eq_getElem?_getD, List.getElem?_eq_getElem (show r.length - 1 < r.length by omega)]; rfl) (by rw [List.length_map]; omega)
    have ec : ends r = decide (r.getD 0 0 ≤ r.getD (r.length - 1) 0) := rfl
    refine ⟨_, rfl, by simp [ofree], ?_⟩
    cases he : ends r with
    | false =>
      refine .inr ⟨by simp, _, (dss_cons (ds_if (k := false) (out := .next [some (webD mm ties), some (.str k.t), some (bD best), some (rowD r), none] []) (DT.conv (dt_c (dc_le (dv_ixt (dv_n 3 rfl (by first | decide +kernel | (dsimp only [Ct.blk, locB]; decide +kernel)) rfl) dv_int a0) (dv_ixt (dv_n 3 rfl (by first | decide +kernel | (dsimp only [Ct.blk, locB]; decide +kernel)) rfl) (dv_neg dv_int) a1))) (by rw [← ec]; exact he)) (fun hb => by cases hb) (fun hb => dss_nil)) dss_nil), (.cons (.cons (.cons (.drop (.cons .nil)))))⟩
    | true =>
      have tst2 : ∀ (G : Ct), True := fun _ => True.intro
      by_cases c : pcM ties k r < 2
      · refine .inl ⟨rfl, c, (dss_end (ds_if (k := true) (DT.conv (dt_c (dc_le (dv_ixt (dv_n 3 rfl (by first | decide +kernel | (dsimp only [Ct.blk, locB]; decide +kernel)) rfl) dv_int a0) (dv_ixt (dv_n 3 rfl (by first | decide +kernel | (dsimp only [Ct.blk, locB]; decide +kernel)) rfl) (dv_neg dv_int) a1))) (by rw [← ec]; exact he)) (fun hb => (dss_cons (ds_set 4 rfl (by first | decide +kernel | (dsimp only [Ct.blk, locB]; decide +kernel)) (d := natD (pcM ties k r)) ?cnt1) (dss_cons (ds_if (out := .next [some (webD mm ties), some (.str k.t), some (bD (bestUp (pcM ties k) best r)), some (rowD r), some (natD (pcM ties k r))] []) (k := upB best (pcM ties k r)) ?up1 (fun hb => DSs.conv (dss_cons (ds_set 2 rfl (by first | decide +kernel | (dsimp only [Ct.blk, locB]; decide +kernel)) (dv_tup (da_cons (dv_n 4 rfl (by first | decide +kernel | (dsimp only [Ct.blk, locB]; decide +kernel)) rfl) (da_cons (dv_n 3 rfl (by first | decide +kernel | (dsimp only [Ct.blk, locB]; decide +kernel)) rfl) da_nil)) (by simp))) dss_nil) ?j1) (fun hb => DSs.conv dss_nil ?j2)) (dss_if (k := true) (DT.conv (dt_c (dc_lt (dv_n 4 rfl (by first | decide +kernel | (dsimp only [Ct.blk, locB]; decide +kernel)) rfl) dv_int)) (decide_eq_true (by omega))) (fun hb => ⟨_, rfl, (dss_end (ds_ret (dv_n 3 rfl (by first | decide +kernel | (dsimp only [Ct.blk, locB]; decide +kernel)) rfl)))⟩) (fun hb => by cases hb))))) (fun hb => by cases hb)))⟩
        case cnt1 => exact DV.conv (dv_call F_count (by dsimp only [Ct.blk]; omega) (by first | decide +kernel | (dsimp only [Ct.blk, locB]; decide +kernel)) (da_cons (dv_call F_few (by dsimp only [Ct.blk]; omega) (by first | decide +kernel | (dsimp only [Ct.blk, locB]; decide +kernel)) (da_cons (dv_n 0 rfl (by first | decide +kernel | (dsimp only [Ct.blk, locB]; decide +kernel)) rfl) (da_cons (dv_n 3 rfl (by first | decide +kernel | (dsimp only [Ct.blk, locB]; decide +kernel)) rfl) (da_cons (dv_n 1 rfl (by first | decide +kernel | (dsimp only [Ct.blk, locB]; decide +kernel)) rfl) da_nil))) ⟨mm, ties, r, k, pcM ties k r, l, rfl, hmem, w16, hpc, fw, rfl⟩) da_nil) ⟨l, rfl, by omega, rfl⟩) (by rw [f3.dc])
        case up1 =>
          cases best with
          | none => exact (DT.conv (dt_w (dw_or (k := true) (j := true) (DT.conv (dt_c (dc_isn (x := .none) (dv_n 2 rfl (by first | decide +kernel | (dsimp only [Ct.blk, locB]; decide +kernel)) rfl) dv_non)) rfl) (fun h => by cases h))) rfl)
          | some q =>
            obtain ⟨n0, b0⟩ := q
            exact (DT.conv (dt_w (dw_or (k := false) (DT.conv (dt_c (dc_isn (x := .tuple [natD n0, rowD b0]) (dv_n 2 rfl (by first | decide +kernel | (dsimp only [Ct.blk, locB]; decide +kernel)) rfl) dv_non)) rfl) (fun _ => dw_or1 (k := decide (pcM ties k r < n0)) (DT.conv (dt_c (dc_lt (dv_n 4 rfl (by first | decide +kernel | (dsimp only [Ct.blk, locB]; decide +kernel)) rfl) (dv_ixt (dv_n 2 rfl (by first | decide +kernel | (dsimp only [Ct.blk, locB]; decide +kernel)) rfl) dv_int (d := natD n0) rfl))) (Bool.eq_iff_iff.mpr (by simp)))))) (Bool.false_or _))
        case j1 => rw [up_t hb]; rfl
        case j2 => rw [up_f hb]; try rfl
      · refine .inr ⟨fun z => c z.2, _, (dss_cons (ds_if (k := true) (out := .next [some (webD mm ties), some (.str k.t), some (bD (bestUp (pcM ties k) best r)), some (rowD r), some (natD (pcM ties k r))] []) (DT.conv (dt_c (dc_le (dv_ixt (dv_n 3 rfl (by first | decide +kernel | (dsimp only [Ct.blk, locB]; decide +kernel)) rfl) dv_int a0) (dv_ixt (dv_n 3 rfl (by first | decide +kernel | (dsimp only [Ct.blk, locB]; decide +kernel)) rfl) (dv_neg dv_int) a1))) (by rw [← ec]; exact he)) (fun hb => (dss_cons (ds_set 4 rfl (by first | decide +kernel | (dsimp only [Ct.blk, locB]; decide +kernel)) (d := natD (pcM ties k r)) ?cnt2) (dss_cons (ds_if (out := .next [some (webD mm ties), some (.str k.t), some (bD (bestUp (pcM ties k) best r)), some (rowD r), some (natD (pcM ties k r))] []) (k := upB best (pcM ties k r)) ?up2 (fun hb => DSs.conv (dss_cons (ds_set 2 rfl (by first | decide +kernel | (dsimp only [Ct.blk, locB]; decide +kernel)) (dv_tup (da_cons (dv_n 4 rfl (by first | decide +kernel | (dsimp only [Ct.blk, locB]; decide +kernel)) rfl) (da_cons (dv_n 3 rfl (by first | decide +kernel | (dsimp only [Ct.blk, locB]; decide +kernel)) rfl) da_nil)) (by simp))) dss_nil) ?j3) (fun hb => DSs.conv dss_nil ?j4)) (dss_if (k := false) (DT.conv (dt_c (dc_lt (dv_n 4 rfl (by first | decide +kernel | (dsimp only [Ct.blk, locB]; decide +kernel)) rfl) dv_int)) (decide_eq_false (by omega))) (fun hb => by cases hb) (fun hb => dss_nil))))) (fun hb => by cases hb)) dss_nil), ?le2⟩
        case cnt2 => exact DV.conv (dv_call F_count (by dsimp only [Ct.blk]; omega) (by first | decide +kernel | (dsimp only [Ct.blk, locB]; decide +kernel)) (da_cons (dv_call F_few (by dsimp only [Ct.blk]; omega) (by first | decide +kernel | (dsimp only [Ct.blk, locB]; decide +kernel)) (da_cons (dv_n 0 rfl (by first | decide +kernel | (dsimp only [Ct.blk, locB]; decide +kernel)) rfl) (da_cons (dv_n 3 rfl (by first | decide +kernel | (dsimp only [Ct.blk, locB]; decide +kernel)) rfl) (da_cons (dv_n 1 rfl (by first | decide +kernel | (dsimp only [Ct.blk, locB]; decide +kernel)) rfl) da_nil))) ⟨mm, ties, r, k, pcM ties k r, l, rfl, hmem, w16, hpc, fw, rfl⟩) da_nil) ⟨l, rfl, by omega, rfl⟩) (by rw [f3.dc])
        case up2 =>
          cases best with
          | none => exact (DT.conv (dt_w (dw_or (k := true) (j := true) (DT.conv (dt_c (dc_isn (x := .none) (dv_n 2 rfl (by first | decide +kernel | (dsimp only [Ct.blk, locB]; decide +kernel)) rfl) dv_non)) rfl) (fun h => by cases h))) rfl)
          | some q =>
            obtain ⟨n0, b0⟩ := q
            exact (DT.conv (dt_w (dw_or (k := false) (DT.conv (dt_c (dc_isn (x := .tuple [natD n0, rowD b0]) (dv_n 2 rfl (by first | decide +kernel | (dsimp only [Ct.blk, locB]; decide +kernel)) rfl) dv_non)) rfl) (fun _ => dw_or1 (k := decide (pcM ties k r < n0)) (DT.conv (dt_c (dc_lt (dv_n 4 rfl (by first | decide +kernel | (dsimp only [Ct.blk, locB]; decide +kernel)) rfl) (dv_ixt (dv_n 2 rfl (by first | decide +kernel | (dsimp only [Ct.blk, locB]; decide +kernel)) rfl) dv_int (d := natD n0) rfl))) (Bool.eq_iff_iff.mpr (by simp)))))) (Bool.false_or _))
        case j3 => rw [up_t hb]; rfl
        case j4 => rw [up_f hb]; try rfl
        case le2 => rw [if_pos rfl]; exact (.cons (.cons (.cons (.drop (.drop .nil)))))
theorem f_least {m : Md} {f : Addr} {fd : FuncData} (B : Blt m) (F_best : Fn m "best_row" 19 rBest) (F_few : Fn m "fewest_pages" 18 rFew) (F_count : Fn m "page_count" 1 rCount) (F : Fun m.K "least_pages" "least_pages" (topS 21) f fd) (hb : Binds m.K fd ["web", "kind"] []) (hm : m.mg "least_pages" = some (.ref f)) : Fn m "least_pages" 20 rLeast :=
  fn_ok (N := ["web", "kind"]) F hb hm ⟨rfl, rfl, rfl, by decide +kernel, rfl, by decide +kernel, by decide +kernel⟩ (by decide +kernel) (fun ds d ⟨_, _, _, _, h, _⟩ => by rw [h]; rfl) fun ds d ⟨mm, ties, k, b, h, w, hpm, hb0, hd⟩ => by
    subst h hd
    have w16 := w.few
    have wr := w.wr hpm
    have hmem : ∀ t ∈ ties, t.1 ∈ b ∧ t.2 ∈ b := fun t ht => ⟨(wr.mem ht).1, (wr.mem ht).2.1⟩
    obtain ⟨l, hpc, fw⟩ := pc_few k b w16
    obtain ⟨f1, _, f3⟩ := fw.facts w16
    exact (dss_end (ds_ret (DV.conv (dv_call F_count (by dsimp only [Ct.blk]; omega) (by first | decide +kernel | (dsimp only [Ct.blk, locB]; decide +kernel)) (da_cons (dv_call F_few (by dsimp only [Ct.blk]; omega) (by first | decide +kernel | (dsimp only [Ct.blk, locB]; decide +kernel)) (da_cons (dv_n 0 rfl (by first | decide +kernel | (dsimp only [Ct.blk, locB]; decide +kernel)) rfl) (da_cons (dv_call F_best (by dsimp only [Ct.blk]; omega) (by first | decide +kernel | (dsimp only [Ct.blk, locB]; decide +kernel)) (da_cons (dv_n 0 rfl (by first | decide +kernel | (dsimp only [Ct.blk, locB]; decide +kernel)) rfl) (da_cons (dv_n 1 rfl (by first | decide +kernel | (dsimp only [Ct.blk, locB]; decide +kernel)) rfl) da_nil)) ⟨mm, ties, k, b, rfl, w, hb0, rfl⟩) (da_cons (dv_n 1 rfl (by first | decide +kernel | (dsimp only [Ct.blk, locB]; decide +kernel)) rfl) da_nil))) ⟨mm, ties, b, k, pcM ties k b, l, rfl, hmem, w16, hpc, fw, rfl⟩) da_nil) ⟨l, rfl, by omega, rfl⟩) (by rw [f3.dc]))))
theorem f_moved {m : Md} {f : Addr} {fd : FuncData} (B : Blt m) (F : Fun m.K "moved" "moved" (topS 1) f fd) (hb : Binds m.K fd ["row", "by"] []) (hm : m.mg "moved" = some (.ref f)) : Fn m "moved" 1 rMoved :=
  fn_ok (N := ["row", "by", "at"]) F hb hm ⟨rfl, rfl, rfl, by decide +kernel, rfl, by decide +kernel, by decide +kernel⟩ (by decide +kernel) (fun ds d ⟨_, _, h, _⟩ => by rw [h]; rfl) fun ds d ⟨row, b, h, h0, h1, hd⟩ => by
    subst h hd
    have e1 : b % ((row.map PyData.int).length : Int) = (((b % row.length).toNat : Nat) : Int) := by
      have := Int.emod_nonneg b (show (row.length : Int) ≠ 0 by omega)
      rw [List.length_map]; omega
    refine (dss_cons (ds_set 2 rfl (by first | decide +kernel | (dsimp only [Ct.blk, locB]; decide +kernel)) (DV.conv (d' := natD (b % row.length).toNat) (dv_mod (dv_n 1 rfl (by first | decide +kernel | (dsimp only [Ct.blk, locB]; decide +kernel)) rfl) (dv_lent B (by first | decide +kernel | (dsimp only [Ct.blk, locB]; decide +kernel)) (dv_n 0 rfl (by first | decide +kernel | (dsimp only [Ct.blk, locB]; decide +kernel)) rfl) (.tup _)) (by rw [List.length_map]; omega)) (congrArg PyData.int e1))) (dss_end (ds_ret (DV.conv (dv_addt (dv_slt (dv_n 0 rfl (by first | decide +kernel | (dsimp only [Ct.blk, locB]; decide +kernel)) rfl) (do_some (dv_n 2 rfl (by first | decide +kernel | (dsimp only [Ct.blk, locB]; decide +kernel)) rfl)) do_none) (dv_slt (dv_n 0 rfl (by first | decide +kernel | (dsimp only [Ct.blk, locB]; decide +kernel)) rfl) do_none (do_some (dv_n 2 rfl (by first | decide +kernel | (dsimp only [Ct.blk, locB]; decide +kernel)) rfl))) ?sz2) ?ret3))))
    case sz2 => rw [cut_dropn, cut_taken, List.length_drop, List.length_take, List.length_map]; omega
    case ret3 => rw [cut_dropn, cut_taken, ← List.map_drop, ← List.map_take, ← List.map_append]; rfl
theorem f_turned {m : Md} {f : Addr} {fd : FuncData} (B : Blt m) (F : Fun m.K "turned" "turned" (topS 2) f fd) (hb : Binds m.K fd ["row"] []) (hm : m.mg "turned" = some (.ref f)) : Fn m "turned" 1 rTurned :=
  fn_ok (N := ["row"]) F hb hm ⟨rfl, rfl, rfl, by decide +kernel, rfl, by decide +kernel, by decide +kernel⟩ (by decide +kernel) (fun ds d ⟨_, h, _⟩ => by rw [h]; rfl) fun ds d ⟨row, h, hd⟩ => by
    subst h hd
    exact (dss_end (ds_ret (DV.conv (dv_revt (dv_n 0 rfl (by first | decide +kernel | (dsimp only [Ct.blk, locB]; decide +kernel)) rfl)) (by rw [← List.map_reverse]; rfl))))
theorem f_renamed {m : Md} {f : Addr} {fd : FuncData} (B : Blt m) (F : Fun m.K "renamed" "renamed" (topS 3) f fd) (hb : Binds m.K fd ["web", "names"] []) (hm : m.mg "renamed" = some (.ref f)) : Fn m "renamed" 1 rRen :=
  fn_ok (N := ["web", "names", "one", "other"]) F hb hm ⟨rfl, rfl, rfl, by decide +kernel, rfl, by decide +kernel, by decide +kernel⟩ (by decide +kernel) (fun ds d ⟨_, _, _, h, _⟩ => by rw [h]; rfl) fun ds d ⟨mm, ties, names, h, w, hp, hz, hd⟩ => by
    subst h hd
    have tm : (ties.map pairD).map id = ties.map pairD := List.map_id _
    refine (dss_end (ds_ret (dv_tup (da_cons (dv_ixt (dv_n 0 rfl (by first | decide +kernel | (dsimp only [Ct.blk, locB]; decide +kernel)) rfl) dv_int (d := natD mm) rfl) (da_cons (dv_tuple B (by first | decide +kernel | (dsimp only [Ct.blk, locB]; decide +kernel)) (dn_dv (dn_sortedQ (ps := ties.map (ren names)) (qs := renM names ties) B (by first | decide +kernel | (dsimp only [Ct.blk, locB]; decide +kernel)) (dn_dv (DN.conv (dn_lc2 2 3 [("one", 2), ("other", 3)] (by first | decide +kernel | (dsimp only [Ct.blk, locB]; decide +kernel)) (DI1.weak (di_seq (dv_ixt (dv_n 0 rfl (by first | decide +kernel | (dsimp only [Ct.blk, locB]; decide +kernel)) rfl) dv_int (d := .tuple (ties.map pairD)) rfl) (.tup _))) (dg_two 2 3 rfl (by first | decide +kernel | (dsimp only [Ct.blk, locB]; decide +kernel)) rfl (by first | decide +kernel | (dsimp only [Ct.blk, locB]; decide +kernel))) (turns_mapT pairD (fun t => pairD (ren names t)) ties (fun t ht => ⟨_, rfl, ?elt⟩)) ?sz6) (by rw [List.map_map]; rfl))) (sortP_perm _) (sortP_sorted _))) (.lst _)) da_nil)) (by simp))))
    case sz6 => rw [List.length_map]; omega
    case elt =>
      have tk := w.ok t ht
      have a := tk.nn
      have b := tk.lt
      have c := tk.le
      exact (dv_tuple B (by first | decide +kernel | (dsimp only [Ct.blk, locB]; decide +kernel)) (dn_dv (dn_sorted (ns := [nmOf names t.1, nmOf names t.2]) (ms := ordL (nmOf names t.1) (nmOf names t.2)) B (by first | decide +kernel | (dsimp only [Ct.blk, locB]; decide +kernel)) (dn_dv (dn_lst (da_cons (dv_ixt (dv_n 1 rfl (by first | decide +kernel | (dsimp only [Ct.blk, locB]; decide +kernel)) rfl) (dv_n 2 rfl (by first | decide +kernel | (dsimp only [Ct.blk, locB]; decide +kernel)) rfl) (nm_atI hp a (by omega))) (da_cons (dv_ixt (dv_n 1 rfl (by first | decide +kernel | (dsimp only [Ct.blk, locB]; decide +kernel)) rfl) (dv_n 3 rfl (by first | decide +kernel | (dsimp only [Ct.blk, locB]; decide +kernel)) rfl) (nm_atI hp (by omega) c)) da_nil)) (by simp))) (ordL_perm _ _) (ordL_le _ _))) (.lst _))
theorem f_with {m : Md} {f : Addr} {fd : FuncData} (B : Blt m) (F : Fun m.K "with_tie" "with_tie" (topS 4) f fd) (hb : Binds m.K fd ["web", "one", "other"] []) (hm : m.mg "with_tie" = some (.ref f)) : Fn m "with_tie" 1 rWith :=
  fn_ok (N := ["web", "one", "other"]) F hb hm ⟨rfl, rfl, rfl, by decide +kernel, rfl, by decide +kernel, by decide +kernel⟩ (by decide +kernel) (fun ds d ⟨_, _, _, _, _, h, _⟩ => by rw [h]; rfl) fun ds d ⟨mm, ties, qs, a, b, h, hz, hbd, h1, h2, h3, hd⟩ => by
    subst h hd
    refine (dss_end (ds_ret (dv_tup (da_cons (dv_ixt (dv_n 0 rfl (by first | decide +kernel | (dsimp only [Ct.blk, locB]; decide +kernel)) rfl) dv_int (d := natD mm) rfl) (da_cons (dv_tuple B (by first | decide +kernel | (dsimp only [Ct.blk, locB]; decide +kernel)) (dn_dv (dn_sortsetP (ps := ties ++ [ordP a b]) (qs := qs) B (by first | decide +kernel | (dsimp only [Ct.blk, locB]; decide +kernel)) (by first | decide +kernel | (dsimp only [Ct.blk, locB]; decide +kernel)) (DV.conv (dv_addt (dv_ixt (dv_n 0 rfl (by first | decide +kernel | (dsimp only [Ct.blk, locB]; decide +kernel)) rfl) dv_int (d := .tuple (ties.map pairD)) rfl) (dv_tup (da_cons (dv_tuple B (by first | decide +kernel | (dsimp only [Ct.blk, locB]; decide +kernel)) (dn_dv (dn_sorted (ns := [a, b]) (ms := ordL a b) B (by first | decide +kernel | (dsimp only [Ct.blk, locB]; decide +kernel)) (dn_dv (dn_lst (da_cons (dv_n 1 rfl (by first | decide +kernel | (dsimp only [Ct.blk, locB]; decide +kernel)) rfl) (da_cons (dv_n 2 rfl (by first | decide +kernel | (dsimp only [Ct.blk, locB]; decide +kernel)) rfl) da_nil)) (by simp))) (ordL_perm _ _) (ordL_le _ _))) (.lst _)) da_nil) (by simp)) ?sz) ?cat) ?len hbd h1 h2 h3)) (.lst _)) da_nil)) (by simp))))
    case sz => simp; omega
    case cat => rw [List.map_append]; rfl
    case len => simp; omega
theorem f_without {m : Md} {f : Addr} {fd : FuncData} (B : Blt m) (F : Fun m.K "without_tie" "without_tie" (topS 5) f fd) (hb : Binds m.K fd ["web", "tie"] []) (hm : m.mg "without_tie" = some (.ref f)) : Fn m "without_tie" 1 rWithout :=
  fn_ok (N := ["web", "tie"]) F hb hm ⟨rfl, rfl, rfl, by decide +kernel, rfl, by decide +kernel, by decide +kernel⟩ (by decide +kernel) (fun ds d ⟨_, _, _, h, _⟩ => by rw [h]; rfl) fun ds d ⟨mm, ties, k, h, hz, hd⟩ => by
    subst h hd
    refine (dss_end (ds_ret (DV.conv (dv_tup (da_cons (dv_ixt (dv_n 0 rfl (by first | decide +kernel | (dsimp only [Ct.blk, locB]; decide +kernel)) rfl) dv_int (d := natD mm) rfl) (da_cons (dv_addt (dv_slt (dv_ixt (dv_n 0 rfl (by first | decide +kernel | (dsimp only [Ct.blk, locB]; decide +kernel)) rfl) dv_int (d := .tuple (ties.map pairD)) rfl) do_none (do_some (dv_n 1 rfl (by first | decide +kernel | (dsimp only [Ct.blk, locB]; decide +kernel)) rfl))) (dv_slt (dv_ixt (dv_n 0 rfl (by first | decide +kernel | (dsimp only [Ct.blk, locB]; decide +kernel)) rfl) dv_int (d := .tuple (ties.map pairD)) rfl) (do_some (dv_addn (dv_n 1 rfl (by first | decide +kernel | (dsimp only [Ct.blk, locB]; decide +kernel)) rfl) (dv_intn 1))) do_none) ?sz) da_nil)) (by simp)) ?ret)))
    case sz => rw [cut_dropn, cut_taken, List.length_drop, List.length_take, List.length_map]; omega
    case ret => rw [cut_dropn, cut_taken, ← List.map_drop, ← List.map_take, ← List.map_append]; rfl
theorem f_full {m : Md} {f : Addr} {fd : FuncData} (B : Blt m) (F : Fun m.K "full" "full" (topS 6) f fd) (hb : Binds m.K fd ["many"] []) (hm : m.mg "full" = some (.ref f)) : Fn m "full" 1 rFull :=
  fn_ok (N := ["many", "found", "one", "other"]) F hb hm ⟨rfl, rfl, rfl, by decide +kernel, rfl, by decide +kernel, by decide +kernel⟩ (by decide +kernel) (fun ds d ⟨_, h, _⟩ => by rw [h]; rfl) fun ds d ⟨n, h, hn, hd⟩ => by
    subst h hd
    refine (dss_cons (ds_own 1 rfl (by first | decide +kernel | (dsimp only [Ct.blk, locB]; decide +kernel)) (dn_lst da_nil (by simp))) (dss_cons (ds_for1 2 (dg_one 2 rfl (by first | decide +kernel | (dsimp only [Ct.blk, locB]; decide +kernel))) (di_rng B (by first | decide +kernel | (dsimp only [Ct.blk, locB]; decide +kernel)) (dv_n 0 rfl (by first | decide +kernel | (dsimp only [Ct.blk, locB]; decide +kernel)) rfl) (by omega)) (DFor.conv (dfor_fold natD (fun acc => [(1, .lst (acc.map pairD))]) (fun acc i => acc ++ (List.range (n - (i + 1))).map fun j => npC (i, i + 1 + j)) (fun k b => b.length + k * 60 ≤ 10000) (List.range n) ([] : List (Int × Int)) ?i0 ?step) rfl)) (dss_end (ds_ret (DV.conv (dv_tup (da_cons (dv_n 0 rfl (by first | decide +kernel | (dsimp only [Ct.blk, locB]; decide +kernel)) rfl) (da_cons (dv_tuple B (by first | decide +kernel | (dsimp only [Ct.blk, locB]; decide +kernel)) (dv_n 1 rfl (by first | decide +kernel | (dsimp only [Ct.blk, locB]; decide +kernel)) rfl) (.lst _)) da_nil)) (by simp)) ?ret)))))
    case i0 => simp; omega
    case ret => rw [fold_app]; rfl
    case step =>
      intro i hi k b hb
      rw [List.mem_range] at hi
      refine ⟨by simp; omega, _, rfl, by simp [ofree, TSpec.ix], _, (DSs.convo (dss_cons (ds_extend (es2 := ((List.range (n - (i + 1))).map fun j => npC (i, i + 1 + j)).map pairD) 1 0 rfl (by first | decide +kernel | (dsimp only [Ct.blk, locB]; decide +kernel)) rfl (dn_dv (DN.conv (dn_lc1 3 [("other", 3)] (by first | decide +kernel | (dsimp only [Ct.blk, locB]; decide +kernel)) (di_rng2 (m := i + 1) (n := n) B (by first | decide +kernel | (dsimp only [Ct.blk, locB]; decide +kernel)) (dv_addn (dv_n 2 rfl (by first | decide +kernel | (dsimp only [Ct.blk, locB]; decide +kernel)) rfl) (dv_intn 1)) (dv_n 0 rfl (by first | decide +kernel | (dsimp only [Ct.blk, locB]; decide +kernel)) rfl) (by omega) (by omega)) (dg_one 3 rfl (by first | decide +kernel | (dsimp only [Ct.blk, locB]; decide +kernel))) (turns_mapT natD (fun j => pairD (npC (i, j))) _ (fun j hj => ⟨_, rfl, (dv_tup (da_cons (dv_n 2 rfl (by first | decide +kernel | (dsimp only [Ct.blk, locB]; decide +kernel)) rfl) (da_cons (dv_n 3 rfl (by first | decide +kernel | (dsimp only [Ct.blk, locB]; decide +kernel)) rfl) da_nil)) (by simp))⟩)) ?sz2) ?cv)) ?sz3) dss_nil) ?ex), (.cons (.cons (.drop (.cons .nil))))⟩
      case sz2 => simp; omega
      case cv => simp only [List.map_map]; rfl
      case sz3 => simp; omega
      case ex => rw [List.map_append]; rfl
theorem f_round {m : Md} {f : Addr} {fd : FuncData} (B : Blt m) (F : Fun m.K "round_web" "round_web" (topS 7) f fd) (hb : Binds m.K fd ["many"] []) (hm : m.mg "round_web" = some (.ref f)) : Fn m "round_web" 1 rRound :=
  fn_ok (N := ["many", "k"]) F hb hm ⟨rfl, rfl, rfl, by decide +kernel, rfl, by decide +kernel, by decide +kernel⟩ (by decide +kernel) (fun ds d ⟨_, _, h, _⟩ => by rw [h]; rfl) fun ds d ⟨n, qs, h, h2, hn, hp, hs, hd⟩ => by
    subst h hd
    have e1 : ((n : Int) - 1) = ((n - 1 : Nat) : Int) := by omega
    refine (dss_end (ds_ret (dv_tup (da_cons (dv_n 0 rfl (by first | decide +kernel | (dsimp only [Ct.blk, locB]; decide +kernel)) rfl) (da_cons (dv_tuple B (by first | decide +kernel | (dsimp only [Ct.blk, locB]; decide +kernel)) (dn_dv (dn_sortedQ (ps := roundL n) (qs := qs) B (by first | decide +kernel | (dsimp only [Ct.blk, locB]; decide +kernel)) (dn_dv (DN.conv (dn_cat (dn_dv (dn_lc1 1 [("k", 1)] (by first | decide +kernel | (dsimp only [Ct.blk, locB]; decide +kernel)) (di_rng (n := n - 1) B (by first | decide +kernel | (dsimp only [Ct.blk, locB]; decide +kernel)) (DV.conv (d' := natD (n - 1)) (dv_sub (dv_n 0 rfl (by first | decide +kernel | (dsimp only [Ct.blk, locB]; decide +kernel)) rfl) dv_int) (congrArg PyData.int e1)) (by omega)) (dg_one 1 rfl (by first | decide +kernel | (dsimp only [Ct.blk, locB]; decide +kernel))) (turns_mapT natD (fun k => pairD (npC (k, k + 1))) _ (fun x hx => ⟨_, rfl, (dv_tup (da_cons (dv_n 1 rfl (by first | decide +kernel | (dsimp only [Ct.blk, locB]; decide +kernel)) rfl) (da_cons (dv_addn (dv_n 1 rfl (by first | decide +kernel | (dsimp only [Ct.blk, locB]; decide +kernel)) rfl) (dv_intn 1)) da_nil)) (by simp))⟩)) ?sz1)) (dn_dv (dn_lst (da_cons (dv_tup (da_cons dv_int (da_cons (DV.conv (d' := natD (n - 1)) (dv_sub (dv_n 0 rfl (by first | decide +kernel | (dsimp only [Ct.blk, locB]; decide +kernel)) rfl) dv_int) (congrArg PyData.int e1)) da_nil)) (by simp)) da_nil) (by simp))) ?sz2) ?cat)) hp hs)) (.lst _)) da_nil)) (by simp))))
    case sz1 => simp; omega
    case sz2 => simp; omega
    case cat => unfold roundL; rw [List.map_append, List.map_map]; rfl
theorem f_halves {m : Md} {f : Addr} {fd : FuncData} (B : Blt m) (F : Fun m.K "halves" "halves" (topS 8) f fd) (hb : Binds m.K fd ["one", "other"] []) (hm : m.mg "halves" = some (.ref f)) : Fn m "halves" 1 rHalves :=
  fn_ok (N := ["one", "other", "found", "k", "n"]) F hb hm ⟨rfl, rfl, rfl, by decide +kernel, rfl, by decide +kernel, by decide +kernel⟩ (by decide +kernel) (fun ds d ⟨_, _, h, _⟩ => by rw [h]; rfl) fun ds d ⟨a, b, h, ha, hbb, hd⟩ => by
    subst h hd
    refine (dss_cons (ds_own 2 rfl (by first | decide +kernel | (dsimp only [Ct.blk, locB]; decide +kernel)) (dn_lst da_nil (by simp))) (dss_cons (ds_for1 3 (dg_one 3 rfl (by first | decide +kernel | (dsimp only [Ct.blk, locB]; decide +kernel))) (di_rng B (by first | decide +kernel | (dsimp only [Ct.blk, locB]; decide +kernel)) (dv_n 0 rfl (by first | decide +kernel | (dsimp only [Ct.blk, locB]; decide +kernel)) rfl) (by omega)) (DFor.conv (dfor_fold natD (fun acc => [(2, .lst (acc.map pairD))]) (fun acc k => acc ++ (List.range b).map fun n => npC (k, a + n)) (fun k l => l.length + k * 60 ≤ 10000) (List.range a) ([] : List (Int × Int)) ?i0 ?step) rfl)) (dss_end (ds_ret (DV.conv (dv_tup (da_cons (dv_addn (dv_n 0 rfl (by first | decide +kernel | (dsimp only [Ct.blk, locB]; decide +kernel)) rfl) (dv_n 1 rfl (by first | decide +kernel | (dsimp only [Ct.blk, locB]; decide +kernel)) rfl)) (da_cons (dv_tuple B (by first | decide +kernel | (dsimp only [Ct.blk, locB]; decide +kernel)) (dv_n 2 rfl (by first | decide +kernel | (dsimp only [Ct.blk, locB]; decide +kernel)) rfl) (.lst _)) da_nil)) (by simp)) ?ret)))))
    case i0 => simp; omega
    case ret => rw [fold_app]; rfl
    case step =>
      intro i hi k l hb
      rw [List.mem_range] at hi
      refine ⟨by simp; omega, _, rfl, by simp [ofree, TSpec.ix], _, (DSs.convo (dss_cons (ds_extend (es2 := ((List.range b).map fun n => npC (i, a + n)).map pairD) 2 0 rfl (by first | decide +kernel | (dsimp only [Ct.blk, locB]; decide +kernel)) rfl (dn_dv (DN.conv (dn_lc1 4 [("n", 4)] (by first | decide +kernel | (dsimp only [Ct.blk, locB]; decide +kernel)) (di_rng B (by first | decide +kernel | (dsimp only [Ct.blk, locB]; decide +kernel)) (dv_n 1 rfl (by first | decide +kernel | (dsimp only [Ct.blk, locB]; decide +kernel)) rfl) (by omega)) (dg_one 4 rfl (by first | decide +kernel | (dsimp only [Ct.blk, locB]; decide +kernel))) (turns_mapT natD (fun n => pairD (npC (i, a + n))) _ (fun j hj => ⟨_, rfl, (dv_tup (da_cons (dv_n 3 rfl (by first | decide +kernel | (dsimp only [Ct.blk, locB]; decide +kernel)) rfl) (da_cons (dv_addn (dv_n 0 rfl (by first | decide +kernel | (dsimp only [Ct.blk, locB]; decide +kernel)) rfl) (dv_n 4 rfl (by first | decide +kernel | (dsimp only [Ct.blk, locB]; decide +kernel)) rfl)) da_nil)) (by simp))⟩)) ?sz2) ?cv)) ?sz3) dss_nil) ?ex), (.cons (.cons (.cons (.drop (.cons .nil)))))⟩
      case sz2 => simp; omega
      case cv => rw [List.map_map]; rfl
      case sz3 => simp; omega
      case ex => rw [List.map_append]; rfl
theorem f_many {m : Md} {f : Addr} {fd : FuncData} (B : Blt m) (F_few : Fn m "fewest_pages" 18 rFew) (F_count : Fn m "page_count" 1 rCount) (F : Fun m.K "_law_many" "_law_many" (topS 27) f fd) (hb : Binds m.K fd ["_law_web_here", "_law_row_here"] []) (hm : m.mg "_law_many" = some (.ref f)) : Fn m "_law_many" 19 rMany :=
  fn_ok (N := ["_law_web_here", "_law_row_here", "_law_kind"]) F hb hm ⟨rfl, rfl, rfl, by decide +kernel, rfl, by decide +kernel, by decide +kernel⟩ (by decide +kernel) (fun ds d ⟨_, _, _, h, _⟩ => by rw [h]; rfl) fun ds d ⟨mm, ties, r, h, hmem, w16, hd⟩ => by
    subst h hd
    refine (dss_end (ds_ret (DV.conv (dn_dv (dn_lc1 2 [("_law_kind", 2)] (by first | decide +kernel | (dsimp only [Ct.blk, locB]; decide +kernel)) (DI1.conv (di_seq (dv_tup (da_cons dv_str (da_cons dv_str da_nil)) (by simp)) (.tup _)) (show _ = [Kd.pile, Kd.queue].map fun k => .str k.t from rfl)) (dg_one 2 rfl (by first | decide +kernel | (dsimp only [Ct.blk, locB]; decide +kernel))) (turns_mapT (fun k : Kd => .str k.t) (fun k => natD (pcM ties k r)) _ (fun k hx => ⟨_, rfl, ?e⟩)) (by simp))) rfl)))
    case e =>
      obtain ⟨l, hpc, fw⟩ := pc_few k r w16
      obtain ⟨f1, _, f3⟩ := fw.facts w16
      exact DV.conv (dv_call F_count (by dsimp only [Ct.blk]; omega) (by first | decide +kernel | (dsimp only [Ct.blk, locB]; decide +kernel)) (da_cons (dv_call F_few (by dsimp only [Ct.blk]; omega) (by first | decide +kernel | (dsimp only [Ct.blk, locB]; decide +kernel)) (da_cons (dv_n 0 rfl (by first | decide +kernel | (dsimp only [Ct.blk, locB]; decide +kernel)) rfl) (da_cons (dv_n 1 rfl (by first | decide +kernel | (dsimp only [Ct.blk, locB]; decide +kernel)) rfl) (da_cons (dv_n 2 rfl (by first | decide +kernel | (dsimp only [Ct.blk, locB]; decide +kernel)) rfl) da_nil))) ⟨mm, ties, r, k, pcM ties k r, l, rfl, hmem, w16, hpc, fw, rfl⟩) da_nil) ⟨l, rfl, by omega, rfl⟩) (by rw [f3.dc])
theorem f_right {m : Md} {f : Addr} {fd : FuncData} (B : Blt m) (F_mix : Fn m "_law_mix" 1 rMix) (F_row : Fn m "_law_row" 2 rRow) (F_moved : Fn m "moved" 1 rMoved) (F_turned : Fn m "turned" 1 rTurned) (F_renamed : Fn m "renamed" 1 rRen) (F_with : Fn m "with_tie" 1 rWith) (F_without : Fn m "without_tie" 1 rWithout) (F_many : Fn m "_law_many" 19 rMany) (F : Fun m.K "_law_right" "_law_right" (topS 28) f fd) (hb : Binds m.K fd ["_law_web_here", "_law_row_here", "_law_cell_here"] []) (hm : m.mg "_law_right" = some (.ref f)) : Fn m "_law_right" 20 rRightC :=
  fn_ok (N := ["_law_web_here", "_law_row_here", "_law_cell_here", "_law_by", "_law_other", "_law_k", "_law_mine", "_law_names", "_law_named", "_law_ties", "_law_one", "_law_two", "_law_place", "_law_less", "_law_way"]) F hb hm ⟨rfl, rfl, rfl, by decide +kernel, rfl, by decide +kernel, by decide +kernel⟩ (by decide +kernel) (fun ds d ⟨_, _, _, _, _, h, _⟩ => by rw [h]; rfl) fun ds d ⟨n, M, W, R, z, h, w, w14, hR, hsm, hn, hd⟩ => by
    subst h hd
    have hRl : R.length = M := hR.length_eq.trans (upto_len M)
    have w1 := w.pos
    have w6 := w.six
    have w16 := w.few
    have wr := w.wr hR
    have inR : ∀ r : List Int, r.Perm (upto M) → ∀ t ∈ W, t.1 ∈ r ∧ t.2 ∈ r := fun r hr t ht => ⟨((w.wr hr).mem ht).1, ((w.wr hr).mem ht).2.1⟩
    obtain ⟨by0, hby⟩ : ∃ b, mixM z 9907 31 - 15 = b := ⟨_, rfl⟩
    obtain ⟨s, hs⟩ : ∃ s : Nat, (by0 % (R.length : Int)).toNat = s := ⟨_, rfl⟩
    have s0 := Int.emod_nonneg by0 (show (R.length : Int) ≠ 0 by omega)
    have s1 := Int.emod_lt_of_pos by0 (show (0 : Int) < R.length by omega)
    have sM : s < R.length := by omega
    have hO : (movM R s).Perm (upto M) := (mov_perm R s).trans hR
    have hRv : R.reverse.Perm (upto M) := (List.reverse_perm R).trans hR
    have pcO := pc_mov wr w16 (show s ≤ R.length by omega)
    have pcV : manyD W R.reverse = manyD W R := by unfold manyD; rw [pc_rev wr, pc_rev wr]
    generalize hN : rowM (z / 5) M = names
    have hNp : names.Perm (upto M) := hN ▸ rowM_perm (z / 5) M
    have hNl : names.length = M := hNp.length_eq.trans (upto_len M)
    have hRn : (R.map (nmOf names)).Perm (upto M) := rowR_perm hNp hR
    have wrn := wr_ren hNp wr
    have pcN : manyD (renM names W) (R.map (nmOf names)) = manyD W R := by unfold manyD; rw [pc_ren hNp wr w16, pc_ren hNp wr w16]
    have g1 : ∀ {k : Nat}, k < M → L2.atI ((movM R s).map PyData.int) (k : Int) = some (.int (R.getD ((k + s) % M) 0)) := fun {k} hk => L2.atI_nat (by
      rw [List.getElem?_map, mov_at sM (by omega), hRl, List.getD_eq_getElem?_getD, List.getElem?_eq_getElem (show (k + s) % M < R.length by rw [hRl]; exact Nat.mod_lt _ (by omega))]; rfl)
    have e0 : ∀ k : Nat, ((k : Int) + by0) % (M : Int) = (((k + s) % M : Nat) : Int) := fun k => by
      have : (s : Int) = by0 % (M : Int) := by rw [← hs, hRl]; rw [hRl] at s0; omega
      rw [Int.natCast_emod, Int.natCast_add, this, Int.add_emod_emod]
    have g2 : ∀ {k : Nat}, k < M → L2.atI (R.map PyData.int) (((k : Int) + by0) % (M : Int)) = some (.int (R.getD ((k + s) % M) 0)) := fun {k} hk => by
      rw [e0]
      exact L2.atI_nat (by rw [List.getElem?_map, List.getD_eq_getElem?_getD, List.getElem?_eq_getElem (show (k + s) % M < R.length by rw [hRl]; exact Nat.mod_lt _ (by omega))]; rfl)
    have rl : ∀ r : List Int, r.Perm (upto M) → r.length = M := fun r hr => hr.length_eq.trans (upto_len M)
    refine (dss_cons (ds_set 3 rfl (by first | decide +kernel | (dsimp only [Ct.blk, locB]; decide +kernel)) (d := .int by0) ?byy) (dss_cons (ds_set 4 rfl (by first | decide +kernel | (dsimp only [Ct.blk, locB]; decide +kernel)) (d := rowD (movM R s)) (DV.conv (dv_call F_moved (by dsimp only [Ct.blk]; omega) (by first | decide +kernel | (dsimp only [Ct.blk, locB]; decide +kernel)) (da_cons (dv_n 1 rfl (by first | decide +kernel | (dsimp only [Ct.blk, locB]; decide +kernel)) rfl) (da_cons (dv_n 3 rfl (by first | decide +kernel | (dsimp only [Ct.blk, locB]; decide +kernel)) rfl) da_nil)) ⟨R, by0, rfl, by omega, by omega, rfl⟩) (by rw [hs])))
      (dss_if (k := false) (DT.conv (dt_c (dc_ne (dn_dv (dn_sortedT (ns := movM R s) (ms := upto (M : Int)) B (by first | decide +kernel | (dsimp only [Ct.blk, locB]; decide +kernel)) (dv_n 4 rfl (by first | decide +kernel | (dsimp only [Ct.blk, locB]; decide +kernel)) rfl) hO.symm (upto_le M))) (dn_dv (dn_listrange B (by first | decide +kernel | (dsimp only [Ct.blk, locB]; decide +kernel)) (by first | decide +kernel | (dsimp only [Ct.blk, locB]; decide +kernel)) (dv_ixt (dv_n 0 rfl (by first | decide +kernel | (dsimp only [Ct.blk, locB]; decide +kernel)) rfl) dv_int (d := natD M) rfl) (by omega) (by omega))) (nc_lst (nc_ints _)).sh (nc_lst (nc_ints _)).sh)) (congrArg (!·) (nc_lst (nc_ints _)).eq_self)) (fun hb => by cases hb) (fun hb =>
      (dss_if (k := false) (DT.conv (dt_c (dc_ne (dv_call F_turned (by dsimp only [Ct.blk]; omega) (by first | decide +kernel | (dsimp only [Ct.blk, locB]; decide +kernel)) (da_cons (dv_n 1 rfl (by first | decide +kernel | (dsimp only [Ct.blk, locB]; decide +kernel)) rfl) da_nil) ⟨R, rfl, rfl⟩) (DV.conv (d' := rowD R.reverse) (dv_tuprevt B (by first | decide +kernel | (dsimp only [Ct.blk, locB]; decide +kernel)) (by first | decide +kernel | (dsimp only [Ct.blk, locB]; decide +kernel)) (dv_n 1 rfl (by first | decide +kernel | (dsimp only [Ct.blk, locB]; decide +kernel)) rfl) (by rw [List.length_map]; omega)) (by rw [← List.map_reverse]; rfl)) (nc_row _).sh (nc_row _).sh)) (congrArg (!·) (nc_row _).eq_self)) (fun hb => by cases hb) (fun hb =>
      (dss_if (k := false) (DT.conv (dt_seq (dn_dv (DN.conv (dn_lc1 5 [("_law_k", 5)] (by first | decide +kernel | (dsimp only [Ct.blk, locB]; decide +kernel)) (di_rng (n := M) B (by first | decide +kernel | (dsimp only [Ct.blk, locB]; decide +kernel)) (dv_ixt (dv_n 0 rfl (by first | decide +kernel | (dsimp only [Ct.blk, locB]; decide +kernel)) rfl) dv_int (d := natD M) rfl) (by omega)) (dg_one 5 rfl (by first | decide +kernel | (dsimp only [Ct.blk, locB]; decide +kernel))) (turns_filtT natD natD (fun _ => false) (List.range M) (fun x hx => ⟨_, rfl, DT.conv (dt_c (dc_ne (dv_ixt (dv_n 4 rfl (by first | decide +kernel | (dsimp only [Ct.blk, locB]; decide +kernel)) rfl) (dv_n 5 rfl (by first | decide +kernel | (dsimp only [Ct.blk, locB]; decide +kernel)) rfl) (g1 (List.mem_range.mp hx))) (dv_ixt (dv_n 1 rfl (by first | decide +kernel | (dsimp only [Ct.blk, locB]; decide +kernel)) rfl) (dv_mod (dv_addi (dv_n 5 rfl (by first | decide +kernel | (dsimp only [Ct.blk, locB]; decide +kernel)) rfl) (dv_n 3 rfl (by first | decide +kernel | (dsimp only [Ct.blk, locB]; decide +kernel)) rfl)) (dv_ixt (dv_n 0 rfl (by first | decide +kernel | (dsimp only [Ct.blk, locB]; decide +kernel)) rfl) dv_int (d := natD M) rfl) (by omega)) (g2 (List.mem_range.mp hx))) (nc_int _).sh (nc_int _).sh)) (congrArg (!·) (nc_int _).eq_self), fun hk => by cases hk⟩)) ?sz23) (ds' := []) (by simp))) (.lst _)) rfl) (fun hb => by cases hb) (fun hb =>
      (dss_cons (ds_set 6 rfl (by first | decide +kernel | (dsimp only [Ct.blk, locB]; decide +kernel)) (d := manyD W R) (dv_call F_many (by dsimp only [Ct.blk]; omega) (by first | decide +kernel | (dsimp only [Ct.blk, locB]; decide +kernel)) (da_cons (dv_n 0 rfl (by first | decide +kernel | (dsimp only [Ct.blk, locB]; decide +kernel)) rfl) (da_cons (dv_n 1 rfl (by first | decide +kernel | (dsimp only [Ct.blk, locB]; decide +kernel)) rfl) da_nil)) ⟨M, W, R, rfl, inR R hR, w16, rfl⟩))
      (dss_if (k := false) (DT.conv (dt_w (dw_or (k := false) (DT.conv (dt_c (dc_ne (dv_ixl (dv_call F_many (by dsimp only [Ct.blk]; omega) (by first | decide +kernel | (dsimp only [Ct.blk, locB]; decide +kernel)) (da_cons (dv_n 0 rfl (by first | decide +kernel | (dsimp only [Ct.blk, locB]; decide +kernel)) rfl) (da_cons (dv_n 4 rfl (by first | decide +kernel | (dsimp only [Ct.blk, locB]; decide +kernel)) rfl) da_nil)) ⟨M, W, movM R s, rfl, inR _ hO, w16, rfl⟩) dv_int (d := natD (pcM W .pile (movM R s))) rfl) (dv_ixl (dv_n 6 rfl (by first | decide +kernel | (dsimp only [Ct.blk, locB]; decide +kernel)) rfl) dv_int (d := natD (pcM W .pile R)) rfl) (nc_int _).sh (nc_int _).sh)) (by rw [pcO]; exact congrArg (!·) (nc_int _).eq_self)) (fun _ => (dw_or1 (k := false) (DT.conv (dt_c (dc_ne (dv_call F_many (by dsimp only [Ct.blk]; omega) (by first | decide +kernel | (dsimp only [Ct.blk, locB]; decide +kernel)) (da_cons (dv_n 0 rfl (by first | decide +kernel | (dsimp only [Ct.blk, locB]; decide +kernel)) rfl) (da_cons (dv_call F_turned (by dsimp only [Ct.blk]; omega) (by first | decide +kernel | (dsimp only [Ct.blk, locB]; decide +kernel)) (da_cons (dv_n 1 rfl (by first | decide +kernel | (dsimp only [Ct.blk, locB]; decide +kernel)) rfl) da_nil) ⟨R, rfl, rfl⟩) da_nil)) ⟨M, W, R.reverse, rfl, inR _ hRv, w16, rfl⟩) (dv_n 6 rfl (by first | decide +kernel | (dsimp only [Ct.blk, locB]; decide +kernel)) rfl) (nc_many _ _).sh (nc_many _ _).sh)) (by rw [pcV]; exact congrArg (!·) (nc_many _ _).eq_self)))))) rfl) (fun hb => by cases hb) (fun hb =>
      (dss_cons (ds_set 7 rfl (by first | decide +kernel | (dsimp only [Ct.blk, locB]; decide +kernel)) (d := rowD names) (DV.conv (dv_call F_row (by dsimp only [Ct.blk]; omega) (by first | decide +kernel | (dsimp only [Ct.blk, locB]; decide +kernel)) (da_cons (dv_fdiv (dv_n 2 rfl (by first | decide +kernel | (dsimp only [Ct.blk, locB]; decide +kernel)) rfl) dv_int ⟨by decide, by decide⟩) (da_cons (dv_ixt (dv_n 0 rfl (by first | decide +kernel | (dsimp only [Ct.blk, locB]; decide +kernel)) rfl) dv_int (d := natD M) rfl) da_nil)) ⟨n, z / 5, M, rfl, hsm.div 5 (by decide), by omega, by omega, rfl⟩) (by rw [hN])))
      (dss_cons (ds_set 8 rfl (by first | decide +kernel | (dsimp only [Ct.blk, locB]; decide +kernel)) (d := webD M (renM names W)) (dv_call F_renamed (by dsimp only [Ct.blk]; omega) (by first | decide +kernel | (dsimp only [Ct.blk, locB]; decide +kernel)) (da_cons (dv_n 0 rfl (by first | decide +kernel | (dsimp only [Ct.blk, locB]; decide +kernel)) rfl) (da_cons (dv_n 7 rfl (by first | decide +kernel | (dsimp only [Ct.blk, locB]; decide +kernel)) rfl) da_nil)) ⟨M, W, names, rfl, w.ok, hNp, by omega, rfl⟩))
      (dss_cons (ds_lct (res := (W.map (ren names)).map pairD) 9 10 11 [("_law_one", 10), ("_law_two", 11)] rfl rfl rfl rfl rfl (by first | decide +kernel | (dsimp only [Ct.blk, locB]; decide +kernel)) (DI1.weak (di_seq (dv_ixt (dv_n 0 rfl (by first | decide +kernel | (dsimp only [Ct.blk, locB]; decide +kernel)) rfl) dv_int (d := .tuple (W.map pairD)) rfl) (.tup _))) (dg_two 10 11 rfl (by first | decide +kernel | (dsimp only [Ct.blk, locB]; decide +kernel)) rfl (by first | decide +kernel | (dsimp only [Ct.blk, locB]; decide +kernel))) (turns_conv (turns_mapT pairD (fun t => pairD (ren names t)) W (fun t ht => ⟨_, rfl, ?elt⟩)) (show _ = (W.map (ren names)).map pairD by rw [List.map_map]; rfl)) ?sz46)
      (dss_if (k := false) (DT.conv (dt_c (dc_ne (dv_n 8 rfl (by first | decide +kernel | (dsimp only [Ct.blk, locB]; decide +kernel)) rfl) (DV.conv (d' := webD M (renM names W)) (dv_tup (da_cons (dv_ixt (dv_n 0 rfl (by first | decide +kernel | (dsimp only [Ct.blk, locB]; decide +kernel)) rfl) dv_int (d := natD M) rfl) (da_cons (dv_tuple B (by first | decide +kernel | (dsimp only [Ct.blk, locB]; decide +kernel)) (dn_dv (dn_sortedQ (ps := W.map (ren names)) (qs := renM names W) B (by first | decide +kernel | (dsimp only [Ct.blk, locB]; decide +kernel)) (dv_n 9 rfl (by first | decide +kernel | (dsimp only [Ct.blk, locB]; decide +kernel)) rfl) (sortP_perm _) (sortP_sorted _))) (.lst _)) da_nil)) (by simp)) rfl) (nc_web _ _).sh (nc_web _ _).sh)) (congrArg (!·) (nc_web _ _).eq_self)) (fun hb => by cases hb) (fun hb =>
      (dss_if (k := false) (DT.conv (dt_c (dc_ne (dv_call F_many (by dsimp only [Ct.blk]; omega) (by first | decide +kernel | (dsimp only [Ct.blk, locB]; decide +kernel)) (da_cons (dv_n 8 rfl (by first | decide +kernel | (dsimp only [Ct.blk, locB]; decide +kernel)) rfl) (da_cons (DV.conv (d' := rowD (R.map (nmOf names))) (dv_tuple B (by first | decide +kernel | (dsimp only [Ct.blk, locB]; decide +kernel)) (dn_dv (dn_lc1 12 [("_law_place", 12)] (by first | decide +kernel | (dsimp only [Ct.blk, locB]; decide +kernel)) (di_seq (dv_n 1 rfl (by first | decide +kernel | (dsimp only [Ct.blk, locB]; decide +kernel)) rfl) (.tup _)) (dg_one 12 rfl (by first | decide +kernel | (dsimp only [Ct.blk, locB]; decide +kernel))) (turns_mapT PyData.int (fun x => .int (nmOf names x)) R (fun x hx => ⟨_, rfl, (dv_ixt (dv_n 7 rfl (by first | decide +kernel | (dsimp only [Ct.blk, locB]; decide +kernel)) rfl) (dv_n 12 rfl (by first | decide +kernel | (dsimp only [Ct.blk, locB]; decide +kernel)) rfl) (nm_atI hNp (mem_upto.mp (hR.mem_iff.mp hx)).1 (mem_upto.mp (hR.mem_iff.mp hx)).2))⟩)) ?sz56)) (.lst _)) ?rown) da_nil)) ⟨M, renM names W, R.map (nmOf names), rfl, (fun t ht => ⟨(wrn.mem ht).1, (wrn.mem ht).2.1⟩), by rw [renM_len]; exact w16, rfl⟩) (dv_n 6 rfl (by first | decide +kernel | (dsimp only [Ct.blk, locB]; decide +kernel)) rfl) (nc_many _ _).sh (nc_many _ _).sh)) (by rw [pcN]; exact congrArg (!·) (nc_many _ _).eq_self)) (fun hb => by cases hb) (fun hb =>
      (dss_cons (ds_for1 5 (dg_one 5 rfl (by first | decide +kernel | (dsimp only [Ct.blk, locB]; decide +kernel))) (di_rng (n := W.length) B (by first | decide +kernel | (dsimp only [Ct.blk, locB]; decide +kernel)) (DV.conv (dv_lent B (by first | decide +kernel | (dsimp only [Ct.blk, locB]; decide +kernel)) (dv_ixt (dv_n 0 rfl (by first | decide +kernel | (dsimp only [Ct.blk, locB]; decide +kernel)) rfl) dv_int (d := .tuple (W.map pairD)) rfl) (.tup _)) (by rw [List.length_map])) (by omega)) (dfor_keep natD (List.range W.length) ?loop)) (dss_end (ds_ret dv_bl)))))))))))))))))))))
    case byy => exact DV.conv (dv_sub (dv_call F_mix (by dsimp only [Ct.blk]; omega) (by first | decide +kernel | (dsimp only [Ct.blk, locB]; decide +kernel)) (da_cons (dv_n 2 rfl (by first | decide +kernel | (dsimp only [Ct.blk, locB]; decide +kernel)) rfl) (da_cons dv_int (da_cons dv_int da_nil))) ⟨n, z, 9907, 31, rfl, hsm, by omega, by omega, by omega, rfl⟩) dv_int) (congrArg PyData.int hby)
    case sz23 => simp; omega
    case sz46 => rw [List.length_map]; omega
    case sz56 => rw [List.length_map]; omega
    case rown => unfold rowD; rw [List.map_map]; rfl
    case elt =>
      have tk := w.ok.ok t ht
      have a := tk.nn
      have b := tk.lt
      have c := tk.le
      exact (dv_tuple B (by first | decide +kernel | (dsimp only [Ct.blk, locB]; decide +kernel)) (dn_dv (dn_sorted (ns := [nmOf names t.1, nmOf names t.2]) (ms := ordL (nmOf names t.1) (nmOf names t.2)) B (by first | decide +kernel | (dsimp only [Ct.blk, locB]; decide +kernel)) (dn_dv (dn_lst (da_cons (dv_ixt (dv_n 7 rfl (by first | decide +kernel | (dsimp only [Ct.blk, locB]; decide +kernel)) rfl) (dv_n 10 rfl (by first | decide +kernel | (dsimp only [Ct.blk, locB]; decide +kernel)) rfl) (nm_atI hNp a (by omega))) (da_cons (dv_ixt (dv_n 7 rfl (by first | decide +kernel | (dsimp only [Ct.blk, locB]; decide +kernel)) rfl) (dv_n 11 rfl (by first | decide +kernel | (dsimp only [Ct.blk, locB]; decide +kernel)) rfl) (nm_atI hNp (by omega) c)) da_nil)) (by simp))) (ordL_perm _ _) (ordL_le _ _))) (.lst _))
    case loop =>
      intro k hk
      rw [List.mem_range] at hk
      obtain ⟨t, ht⟩ : ∃ t, W[k]? = some t := ⟨_, List.getElem?_eq_getElem hk⟩
      have htW : t ∈ W := List.mem_of_getElem? ht
      have tk := w.ok.ok t htW
      have a := tk.nn
      have b := tk.lt
      have c := tk.le
      have m0 := less_mem ht
      have l0 := less_len W k
      obtain ⟨L, hL⟩ : ∃ L, W.take k ++ W.drop (k + 1) = L := ⟨_, rfl⟩
      rw [hL] at m0 l0
      have o1 : ordP t.2 t.1 = t := by unfold ordP; rw [if_neg (by omega)]
      have o2 : ordP t.1 t.2 = t := by unfold ordP; rw [if_pos (by omega)]
      have bdW : ∀ q ∈ W, 0 ≤ q.1 ∧ q.1 < 64 ∧ 0 ≤ q.2 ∧ q.2 < 64 := fun q hq => by
        have := (w.ok.ok q hq).nn
        have := (w.ok.ok q hq).lt
        have := (w.ok.ok q hq).le
        omega
      have at1 : L2.atI (W.map pairD) (k : Int) = some (pairD t) := L2.atI_nat (by rw [List.getElem?_map, ht]; rfl)
      have lesub : ∀ q ∈ L, q ∈ W := fun q hq => (m0 q).mpr (List.mem_append_left _ hq)
      have p1 := fun k => pc_sub (k := k) (r := R) w16 (show L.length < 16 by omega) lesub
      have p2 := fun k => pc_more (k := k) (r := R) w16 (show L.length < 16 by omega) t (fun q hq => by
        rcases List.mem_append.mp ((m0 q).mp hq) with h | h
        · exact .inr h
        · exact .inl (List.mem_singleton.mp h))
      refine ⟨_, rfl, by simp [ofree], _, (dss_cons (ds_set 13 rfl (by first | decide +kernel | (dsimp only [Ct.blk, locB]; decide +kernel)) (d := webD M L) (DV.conv (dv_call F_without (by dsimp only [Ct.blk]; omega) (by first | decide +kernel | (dsimp only [Ct.blk, locB]; decide +kernel)) (da_cons (dv_n 0 rfl (by first | decide +kernel | (dsimp only [Ct.blk, locB]; decide +kernel)) rfl) (da_cons (dv_n 5 rfl (by first | decide +kernel | (dsimp only [Ct.blk, locB]; decide +kernel)) rfl) da_nil)) ⟨M, W, k, rfl, by omega, rfl⟩) (by rw [hL]))) (dss_cons (ds_two 10 11 (dg_two 10 11 rfl (by first | decide +kernel | (dsimp only [Ct.blk, locB]; decide +kernel)) rfl (by first | decide +kernel | (dsimp only [Ct.blk, locB]; decide +kernel))) (dv_ixt (dv_ixt (dv_n 0 rfl (by first | decide +kernel | (dsimp only [Ct.blk, locB]; decide +kernel)) rfl) dv_int (d := .tuple (W.map pairD)) rfl) (dv_n 5 rfl (by first | decide +kernel | (dsimp only [Ct.blk, locB]; decide +kernel)) rfl) at1) rfl)
        (dss_if (k := false) (DT.conv (dt_w (dw_or (k := false) (DT.conv (dt_c (dc_ne (dv_n 13 rfl (by first | decide +kernel | (dsimp only [Ct.blk, locB]; decide +kernel)) rfl) (DV.conv (d' := webD M L) (dv_tup (da_cons (dv_ixt (dv_n 0 rfl (by first | decide +kernel | (dsimp only [Ct.blk, locB]; decide +kernel)) rfl) dv_int (d := natD M) rfl) (da_cons (dv_addt (dv_slt (dv_ixt (dv_n 0 rfl (by first | decide +kernel | (dsimp only [Ct.blk, locB]; decide +kernel)) rfl) dv_int (d := .tuple (W.map pairD)) rfl) do_none (do_some (dv_n 5 rfl (by first | decide +kernel | (dsimp only [Ct.blk, locB]; decide +kernel)) rfl))) (dv_slt (dv_ixt (dv_n 0 rfl (by first | decide +kernel | (dsimp only [Ct.blk, locB]; decide +kernel)) rfl) dv_int (d := .tuple (W.map pairD)) rfl) (do_some (dv_addn (dv_n 5 rfl (by first | decide +kernel | (dsimp only [Ct.blk, locB]; decide +kernel)) rfl) (dv_intn 1))) do_none) ?sz8) da_nil)) (by simp)) ?cut) (nc_web _ _).sh (nc_web _ _).sh)) (congrArg (!·) (nc_web _ _).eq_self)) (fun _ => (dw_or1 (k := false) (DT.conv (dt_c (dc_ne (dv_call F_with (by dsimp only [Ct.blk]; omega) (by first | decide +kernel | (dsimp only [Ct.blk, locB]; decide +kernel)) (da_cons (dv_n 13 rfl (by first | decide +kernel | (dsimp only [Ct.blk, locB]; decide +kernel)) rfl) (da_cons (dv_n 11 rfl (by first | decide +kernel | (dsimp only [Ct.blk, locB]; decide +kernel)) rfl) (da_cons (dv_n 10 rfl (by first | decide +kernel | (dsimp only [Ct.blk, locB]; decide +kernel)) rfl) da_nil))) ⟨M, L, W, t.2, t.1, rfl, by omega, ?bd1, w.ok.srt, w.ok.nd, ?mm1, rfl⟩) (dv_n 0 rfl (by first | decide +kernel | (dsimp only [Ct.blk, locB]; decide +kernel)) rfl) (nc_web _ _).sh (nc_web _ _).sh)) (congrArg (!·) (nc_web _ _).eq_self)))))) rfl) (fun hb => by cases hb) (fun hb =>
        (dss_if (k := false) (DT.conv (dt_c (dc_ne (dv_call F_with (by dsimp only [Ct.blk]; omega) (by first | decide +kernel | (dsimp only [Ct.blk, locB]; decide +kernel)) (da_cons (dv_n 0 rfl (by first | decide +kernel | (dsimp only [Ct.blk, locB]; decide +kernel)) rfl) (da_cons (dv_n 10 rfl (by first | decide +kernel | (dsimp only [Ct.blk, locB]; decide +kernel)) rfl) (da_cons (dv_n 11 rfl (by first | decide +kernel | (dsimp only [Ct.blk, locB]; decide +kernel)) rfl) da_nil))) ⟨M, W, W, t.1, t.2, rfl, by omega, ?bd2, w.ok.srt, w.ok.nd, ?mm2, rfl⟩) (dv_n 0 rfl (by first | decide +kernel | (dsimp only [Ct.blk, locB]; decide +kernel)) rfl) (nc_web _ _).sh (nc_web _ _).sh)) (congrArg (!·) (nc_web _ _).eq_self)) (fun hb => by cases hb) (fun hb =>
        (dss_if (k := false) (DT.conv (dt_seq (dn_dv (DN.conv (dn_lc1 14 [("_law_way", 14)] (by first | decide +kernel | (dsimp only [Ct.blk, locB]; decide +kernel)) (DI1.conv (di_seq (dv_tup (da_cons dv_int (da_cons dv_int da_nil)) (by simp)) (.tup _)) (show _ = [Kd.pile, Kd.queue].map fun k => .int (kdI k) from rfl)) (dg_one 14 rfl (by first | decide +kernel | (dsimp only [Ct.blk, locB]; decide +kernel))) (turns_filtT (fun k : Kd => .int (kdI k)) (fun k : Kd => .int (kdI k)) (fun _ => false) _ (fun x hx => ⟨_, rfl, ?flt, fun hk => by cases hk⟩)) (by simp)) (ds' := []) (by simp))) (.lst _)) rfl) (fun hb => by cases hb) (fun hb => dss_nil)))))))), (.cons (.cons (.cons (.cons (.cons (.drop (.cons (.cons (.cons (.cons (.drop (.drop (.cons (.drop (.cons .nil)))))))))))))))⟩
      case sz8 => rw [cut_dropn, cut_taken, List.length_drop, List.length_take, List.length_map]; omega
      case cut => rw [cut_dropn, cut_taken, ← List.map_drop, ← List.map_take, ← List.map_append, hL]; rfl
      case bd1 => rw [o1]; exact fun q hq => bdW q ((m0 q).mpr hq)
      case mm1 => rw [o1]; exact m0
      case bd2 =>
        rw [o2]
        intro q hq
        rcases List.mem_append.mp hq with h | h
        · exact bdW q h
        · rw [List.mem_singleton.mp h]; exact bdW t htW
      case mm2 =>
        rw [o2]
        intro q
        constructor
        · exact fun h => List.mem_append_left _ h
        · intro hq
          rcases List.mem_append.mp hq with h | h
          · exact h
          · rw [List.mem_singleton.mp h]; exact htW
      case flt =>
        refine DT.conv (dt_not (dt_ch .le .le (dv_sub (dv_ixl (dv_n 6 rfl (by first | decide +kernel | (dsimp only [Ct.blk, locB]; decide +kernel)) rfl) (dv_n 14 rfl (by first | decide +kernel | (dsimp only [Ct.blk, locB]; decide +kernel)) rfl) (many_at W R x)) dv_int) (dv_ixl (dv_call F_many (by dsimp only [Ct.blk]; omega) (by first | decide +kernel | (dsimp only [Ct.blk, locB]; decide +kernel)) (da_cons (dv_n 13 rfl (by first | decide +kernel | (dsimp only [Ct.blk, locB]; decide +kernel)) rfl) (da_cons (dv_n 1 rfl (by first | decide +kernel | (dsimp only [Ct.blk, locB]; decide +kernel)) rfl) da_nil)) ⟨M, L, R, rfl, (fun q hq => inR R hR q (lesub q hq)), by omega, rfl⟩) (dv_n 14 rfl (by first | decide +kernel | (dsimp only [Ct.blk, locB]; decide +kernel)) rfl) (many_at L R x)) (dv_ixl (dv_n 6 rfl (by first | decide +kernel | (dsimp only [Ct.blk, locB]; decide +kernel)) rfl) (dv_n 14 rfl (by first | decide +kernel | (dsimp only [Ct.blk, locB]; decide +kernel)) rfl) (many_at W R x)))) ?bnd
        case bnd =>
          have h1 := p1 x
          have h2 := p2 x
          rw [Bool.not_eq_false', Bool.and_eq_true, decide_eq_true_eq, decide_eq_true_eq]
          omega
theorem f_law {m : Md} {f : Addr} {fd : FuncData} (B : Blt m) (F_cell : Fn m "_law_cell" 1 rCell) (F_mix : Fn m "_law_mix" 1 rMix) (F_web : Fn m "_law_web" 2 rWeb) (F_row : Fn m "_law_row" 2 rRow) (F_right : Fn m "_law_right" 20 rRightC) (F_full : Fn m "full" 1 rFull) (F_round : Fn m "round_web" 1 rRound) (F_halves : Fn m "halves" 1 rHalves) (F_least : Fn m "least_pages" 20 rLeast)
    (F : Fun m.K "law" "law" (topS 29) f fd) : FnOk m.P m.w m.K m.mg m.base CX0 21 f fd ["_law_script"] (spD m.K rLaw) :=
  fn_core (N := ["_law_script", "_law_cell_here", "_law_web_here", "_law_many_here", "_law_every", "_law_k", "_law_n", "_law_ties", "_law_one", "_law_two", "_law_piles"]) F ⟨rfl, rfl, rfl, by decide +kernel, rfl, by decide +kernel, by decide +kernel⟩ (by decide +kernel) (fun ds d ⟨_, _, h, _⟩ => by rw [h]; rfl) fun ds d ⟨n, ns, h, h63, hn, hz, hd⟩ => by
    subst h hd
    obtain ⟨q, hq, q2, q4⟩ : ∃ q : Nat, (2 : Int) + mixM (ns.getD 2 0) 9901 3 = q ∧ 2 ≤ q ∧ q ≤ 4 := by
      have a := mixM_nn (ns.getD 2 0) (p := 9901) (m := 3) (by omega)
      have b := mixM_lt (ns.getD 2 0) (p := 9901) (m := 3) (by omega)
      exact ⟨((2 : Int) + mixM (ns.getD 2 0) 9901 3).toNat, by omega, by omega, by omega⟩
    obtain ⟨a, ha, a1, a2⟩ : ∃ a : Nat, (1 : Int) + mixM (ns.getD 3 0) 9887 2 = a ∧ 1 ≤ a ∧ a ≤ 2 := by
      have a := mixM_nn (ns.getD 3 0) (p := 9887) (m := 2) (by omega)
      have b := mixM_lt (ns.getD 3 0) (p := 9887) (m := 2) (by omega)
      exact ⟨((1 : Int) + mixM (ns.getD 3 0) 9887 2).toNat, by omega, by omega, by omega⟩
    obtain ⟨b, hbe, b1, b3⟩ : ∃ b : Nat, (1 : Int) + mixM (ns.getD 3 0) 9883 3 = b ∧ 1 ≤ b ∧ b ≤ 3 := by
      have a := mixM_nn (ns.getD 3 0) (p := 9883) (m := 3) (by omega)
      have b := mixM_lt (ns.getD 3 0) (p := 9883) (m := 3) (by omega)
      exact ⟨((1 : Int) + mixM (ns.getD 3 0) 9883 3).toNat, by omega, by omega, by omega⟩
    have wf := full_g q2 q4
    have wh := halves_g a1 a2 b1 b3
    have lf := fun k => least_at wf k fun b h => full_val q2 q4 h
    have lh := fun k => least_at wh k fun b h => halves_val a1 a2 b1 b3 h
    refine (dss_cons (ds_for1 1 (dg_one 1 rfl (by first | decide +kernel | (dsimp only [Ct.blk, locB]; decide +kernel))) (di_seq (dn_dv (dn_slscr (dv_n 0 rfl (by first | decide +kernel | (dsimp only [Ct.blk, locB]; decide +kernel)) rfl) do_none (do_some dv_int))) (.lst _)) (dfor_keep PyData.int (cutD ns none (some 2)) ?loop1))
      (dss_cons (ds_set 3 rfl (by first | decide +kernel | (dsimp only [Ct.blk, locB]; decide +kernel)) (d := natD q) (DV.conv (dv_addi dv_int (dv_call F_mix (by dsimp only [Ct.blk]; omega) (by first | decide +kernel | (dsimp only [Ct.blk, locB]; decide +kernel)) (da_cons (dv_call F_cell (by dsimp only [Ct.blk]; omega) (by first | decide +kernel | (dsimp only [Ct.blk, locB]; decide +kernel)) (da_cons (dv_n 0 rfl (by first | decide +kernel | (dsimp only [Ct.blk, locB]; decide +kernel)) rfl) (da_cons (dv_intn 2) da_nil)) ⟨ns, 2, rfl, rfl⟩) (da_cons dv_int (da_cons dv_int da_nil))) ⟨n, _, 9901, 3, rfl, sm_get hz 2, by omega, by omega, by omega, rfl⟩)) (congrArg PyData.int hq)))
      (dss_cons (ds_own 4 rfl (by first | decide +kernel | (dsimp only [Ct.blk, locB]; decide +kernel)) (dn_lst da_nil (by simp)))
      (dss_cons (ds_for1 5 (dg_one 5 rfl (by first | decide +kernel | (dsimp only [Ct.blk, locB]; decide +kernel))) (di_rng B (by first | decide +kernel | (dsimp only [Ct.blk, locB]; decide +kernel)) (dv_n 3 rfl (by first | decide +kernel | (dsimp only [Ct.blk, locB]; decide +kernel)) rfl) (by omega)) (DFor.convo (dfor_fold natD (fun acc => [(4, .lst (acc.map pairD))]) (fun acc k => acc ++ (List.range k).map fun i => npC (i, k)) (fun k l => l.length + k * 60 ≤ 10000) (List.range q) ([] : List (Int × Int)) ?i0 ?step5) (show _ = [(4, OC.lst ((everyM q).map pairD))] by rw [fold_app]; rfl)))
      (dss_if (k := false) (DT.conv (dt_c (dc_ne (dv_call F_full (by dsimp only [Ct.blk]; omega) (by first | decide +kernel | (dsimp only [Ct.blk, locB]; decide +kernel)) (da_cons (dv_n 3 rfl (by first | decide +kernel | (dsimp only [Ct.blk, locB]; decide +kernel)) rfl) da_nil) ⟨q, rfl, by omega, rfl⟩) (DV.conv (d' := webD q (fullM q)) (dv_tup (da_cons (dv_n 3 rfl (by first | decide +kernel | (dsimp only [Ct.blk, locB]; decide +kernel)) rfl) (da_cons (dv_tuple B (by first | decide +kernel | (dsimp only [Ct.blk, locB]; decide +kernel)) (dn_dv (dn_sortedQ (ps := everyM q) (qs := fullM q) B (by first | decide +kernel | (dsimp only [Ct.blk, locB]; decide +kernel)) (dv_n 4 rfl (by first | decide +kernel | (dsimp only [Ct.blk, locB]; decide +kernel)) rfl) (full_perm q2 q4) wf.ok.srt)) (.lst _)) da_nil)) (by simp)) rfl) (nc_web _ _).sh (nc_web _ _).sh)) (congrArg (!·) (nc_web _ _).eq_self)) (fun hb => by cases hb) (fun hb =>
      (dss_if (k := false) (DT.conv (dt_w (dw_or (k := false) (DT.conv (dt_c (dc_ne (dv_call F_least (by dsimp only [Ct.blk]; omega) (by first | decide +kernel | (dsimp only [Ct.blk, locB]; decide +kernel)) (da_cons (dv_call F_full (by dsimp only [Ct.blk]; omega) (by first | decide +kernel | (dsimp only [Ct.blk, locB]; decide +kernel)) (da_cons (dv_n 3 rfl (by first | decide +kernel | (dsimp only [Ct.blk, locB]; decide +kernel)) rfl) da_nil) ⟨q, rfl, by omega, rfl⟩) (da_cons dv_str da_nil)) (lf .pile)) (dv_ixl (dn_dv (dn_lst (da_cons dv_int (da_cons dv_int (da_cons dv_int da_nil))) (by simp))) (dv_sub (dv_n 3 rfl (by first | decide +kernel | (dsimp only [Ct.blk, locB]; decide +kernel)) rfl) dv_int) (full_at q2 q4)) (nc_int _).sh (nc_int _).sh)) (congrArg (!·) (nc_int _).eq_self)) (fun _ => (dw_or1 (k := false) (DT.conv (dt_c (dc_ne (dv_call F_least (by dsimp only [Ct.blk]; omega) (by first | decide +kernel | (dsimp only [Ct.blk, locB]; decide +kernel)) (da_cons (dv_call F_full (by dsimp only [Ct.blk]; omega) (by first | decide +kernel | (dsimp only [Ct.blk, locB]; decide +kernel)) (da_cons (dv_n 3 rfl (by first | decide +kernel | (dsimp only [Ct.blk, locB]; decide +kernel)) rfl) da_nil) ⟨q, rfl, by omega, rfl⟩) (da_cons dv_str da_nil)) (lf .queue)) (DV.conv (d' := natD (q / 2)) (dv_fdiv (dv_n 3 rfl (by first | decide +kernel | (dsimp only [Ct.blk, locB]; decide +kernel)) rfl) dv_int ⟨by decide, by decide⟩) (congrArg PyData.int (by omega))) (nc_int _).sh (nc_int _).sh)) (congrArg (!·) (nc_int _).eq_self)))))) rfl) (fun hb => by cases hb) (fun hb =>
      (dss_cons (ds_if (k := decide ((2 : Int) < q)) (dt_c (dc_gt (dv_n 3 rfl (by first | decide +kernel | (dsimp only [Ct.blk, locB]; decide +kernel)) rfl) dv_int)) ?thn (fun hb => dss_nil))
      (dss_cons (ds_set 8 rfl (by first | decide +kernel | (dsimp only [Ct.blk, locB]; decide +kernel)) (d := natD a) (DV.conv (dv_addi dv_int (dv_call F_mix (by dsimp only [Ct.blk]; omega) (by first | decide +kernel | (dsimp only [Ct.blk, locB]; decide +kernel)) (da_cons (dv_call F_cell (by dsimp only [Ct.blk]; omega) (by first | decide +kernel | (dsimp only [Ct.blk, locB]; decide +kernel)) (da_cons (dv_n 0 rfl (by first | decide +kernel | (dsimp only [Ct.blk, locB]; decide +kernel)) rfl) (da_cons (dv_intn 3) da_nil)) ⟨ns, 3, rfl, rfl⟩) (da_cons dv_int (da_cons dv_int da_nil))) ⟨n, _, 9887, 2, rfl, sm_get hz 3, by omega, by omega, by omega, rfl⟩)) (congrArg PyData.int ha)))
      (dss_cons (ds_set 9 rfl (by first | decide +kernel | (dsimp only [Ct.blk, locB]; decide +kernel)) (d := natD b) (DV.conv (dv_addi dv_int (dv_call F_mix (by dsimp only [Ct.blk]; omega) (by first | decide +kernel | (dsimp only [Ct.blk, locB]; decide +kernel)) (da_cons (dv_call F_cell (by dsimp only [Ct.blk]; omega) (by first | decide +kernel | (dsimp only [Ct.blk, locB]; decide +kernel)) (da_cons (dv_n 0 rfl (by first | decide +kernel | (dsimp only [Ct.blk, locB]; decide +kernel)) rfl) (da_cons (dv_intn 3) da_nil)) ⟨ns, 3, rfl, rfl⟩) (da_cons dv_int (da_cons dv_int da_nil))) ⟨n, _, 9883, 3, rfl, sm_get hz 3, by omega, by omega, by omega, rfl⟩)) (congrArg PyData.int hbe)))
      (dss_cons (ds_own 7 rfl (by first | decide +kernel | (dsimp only [Ct.blk, locB]; decide +kernel)) (dn_lst da_nil (by simp)))
      (dss_cons (ds_for1 5 (dg_one 5 rfl (by first | decide +kernel | (dsimp only [Ct.blk, locB]; decide +kernel))) (di_rng B (by first | decide +kernel | (dsimp only [Ct.blk, locB]; decide +kernel)) (dv_n 8 rfl (by first | decide +kernel | (dsimp only [Ct.blk, locB]; decide +kernel)) rfl) (by omega)) (DFor.convo (dfor_fold natD (fun acc => [(7, .lst (acc.map pairD)), (4, .lst ((everyM q).map pairD))]) (fun acc k => acc ++ (List.range b).map fun i => npC (k, a + i)) (fun k l => l.length + k * 60 ≤ 10000) (List.range a) ([] : List (Int × Int)) ?i0h ?step7) (show _ = [(7, OC.lst ((halvesM a b).map pairD)), (4, .lst ((everyM q).map pairD))] by rw [fold_app]; rfl)))
      (dss_if (k := false) (DT.conv (dt_c (dc_ne (dv_call F_halves (by dsimp only [Ct.blk]; omega) (by first | decide +kernel | (dsimp only [Ct.blk, locB]; decide +kernel)) (da_cons (dv_n 8 rfl (by first | decide +kernel | (dsimp only [Ct.blk, locB]; decide +kernel)) rfl) (da_cons (dv_n 9 rfl (by first | decide +kernel | (dsimp only [Ct.blk, locB]; decide +kernel)) rfl) da_nil)) ⟨a, b, rfl, by omega, by omega, rfl⟩) (DV.conv (d' := webD (a + b) (halvesM a b)) (dv_tup (da_cons (dv_addn (dv_n 8 rfl (by first | decide +kernel | (dsimp only [Ct.blk, locB]; decide +kernel)) rfl) (dv_n 9 rfl (by first | decide +kernel | (dsimp only [Ct.blk, locB]; decide +kernel)) rfl)) (da_cons (dv_tuple B (by first | decide +kernel | (dsimp only [Ct.blk, locB]; decide +kernel)) (dv_n 7 rfl (by first | decide +kernel | (dsimp only [Ct.blk, locB]; decide +kernel)) rfl) (.lst _)) da_nil)) (by simp)) rfl) (nc_web _ _).sh (nc_web _ _).sh)) (congrArg (!·) (nc_web _ _).eq_self)) (fun hb => by cases hb) (fun hb =>
      (dss_cons (ds_set 10 rfl (by first | decide +kernel | (dsimp only [Ct.blk, locB]; decide +kernel)) (d := natD (halvesV a b .pile)) ?piles) (dss_end (ds_ret (DV.conv (dv_and (k := true) (j := true) (DV.conv (dv_c (dc_eq (dv_call F_least (by dsimp only [Ct.blk]; omega) (by first | decide +kernel | (dsimp only [Ct.blk, locB]; decide +kernel)) (da_cons (dv_call F_halves (by dsimp only [Ct.blk]; omega) (by first | decide +kernel | (dsimp only [Ct.blk, locB]; decide +kernel)) (da_cons (dv_n 8 rfl (by first | decide +kernel | (dsimp only [Ct.blk, locB]; decide +kernel)) rfl) (da_cons (dv_n 9 rfl (by first | decide +kernel | (dsimp only [Ct.blk, locB]; decide +kernel)) rfl) da_nil)) ⟨a, b, rfl, by omega, by omega, rfl⟩) (da_cons dv_str da_nil)) (lh .pile)) (dv_n 10 rfl (by first | decide +kernel | (dsimp only [Ct.blk, locB]; decide +kernel)) rfl) (nc_int _).sh (nc_int _).sh)) (congrArg PyData.bool (nc_int _).eq_self)) (fun _ => (dv_bop1 (DV.conv (dv_c (dc_eq (dv_call F_least (by dsimp only [Ct.blk]; omega) (by first | decide +kernel | (dsimp only [Ct.blk, locB]; decide +kernel)) (da_cons (dv_call F_halves (by dsimp only [Ct.blk]; omega) (by first | decide +kernel | (dsimp only [Ct.blk, locB]; decide +kernel)) (da_cons (dv_n 8 rfl (by first | decide +kernel | (dsimp only [Ct.blk, locB]; decide +kernel)) rfl) (da_cons (dv_n 9 rfl (by first | decide +kernel | (dsimp only [Ct.blk, locB]; decide +kernel)) rfl) da_nil)) ⟨a, b, rfl, by omega, by omega, rfl⟩) (da_cons dv_str da_nil)) (lh .queue)) (dv_intn 1) (nc_int _).sh (nc_int _).sh)) (congrArg PyData.bool (nc_int _).eq_self))))) rfl)))))))))))))))))))
    case i0 => simp; omega
    case i0h => simp; omega
    case step5 =>
      intro i hi k l hl
      rw [List.mem_range] at hi
      refine ⟨by simp; omega, _, rfl, by simp [ofree, TSpec.ix], _, (DSs.convo (dss_cons (ds_extend (es2 := ((List.range i).map fun j => npC (j, i)).map pairD) 4 0 rfl (by first | decide +kernel | (dsimp only [Ct.blk, locB]; decide +kernel)) rfl (dn_dv (DN.conv (dn_lc1 6 [("_law_n", 6)] (by first | decide +kernel | (dsimp only [Ct.blk, locB]; decide +kernel)) (di_rng B (by first | decide +kernel | (dsimp only [Ct.blk, locB]; decide +kernel)) (dv_n 5 rfl (by first | decide +kernel | (dsimp only [Ct.blk, locB]; decide +kernel)) rfl) (by omega)) (dg_one 6 rfl (by first | decide +kernel | (dsimp only [Ct.blk, locB]; decide +kernel))) (turns_mapT natD (fun j => pairD (npC (j, i))) _ (fun j hj => ⟨_, rfl, (dv_tup (da_cons (dv_n 6 rfl (by first | decide +kernel | (dsimp only [Ct.blk, locB]; decide +kernel)) rfl) (da_cons (dv_n 5 rfl (by first | decide +kernel | (dsimp only [Ct.blk, locB]; decide +kernel)) rfl) da_nil)) (by simp))⟩)) ?sz2) ?cv)) ?sz3) dss_nil) ?ex), (.cons (.cons (.cons (.cons (.cons (.drop (.cons (.cons (.cons (.cons (.cons .nil)))))))))))⟩
      case sz2 => simp; omega
      case cv => rw [List.map_map]; rfl
      case sz3 => simp; omega
      case ex => rw [List.map_append]; rfl
    case step7 =>
      intro i hi k l hl
      rw [List.mem_range] at hi
      refine ⟨by simp; omega, _, rfl, by simp [ofree, TSpec.ix], _, (DSs.convo (dss_cons (ds_extend (es2 := ((List.range b).map fun j => npC (i, a + j)).map pairD) 7 0 rfl (by first | decide +kernel | (dsimp only [Ct.blk, locB]; decide +kernel)) rfl (dn_dv (DN.conv (dn_lc1 6 [("_law_n", 6)] (by first | decide +kernel | (dsimp only [Ct.blk, locB]; decide +kernel)) (di_rng B (by first | decide +kernel | (dsimp only [Ct.blk, locB]; decide +kernel)) (dv_n 9 rfl (by first | decide +kernel | (dsimp only [Ct.blk, locB]; decide +kernel)) rfl) (by omega)) (dg_one 6 rfl (by first | decide +kernel | (dsimp only [Ct.blk, locB]; decide +kernel))) (turns_mapT natD (fun j => pairD (npC (i, a + j))) _ (fun j hj => ⟨_, rfl, (dv_tup (da_cons (dv_n 5 rfl (by first | decide +kernel | (dsimp only [Ct.blk, locB]; decide +kernel)) rfl) (da_cons (dv_addn (dv_n 8 rfl (by first | decide +kernel | (dsimp only [Ct.blk, locB]; decide +kernel)) rfl) (dv_n 6 rfl (by first | decide +kernel | (dsimp only [Ct.blk, locB]; decide +kernel)) rfl)) da_nil)) (by simp))⟩)) ?sz2) ?cv)) ?sz3) dss_nil) ?ex), (.cons (.cons (.cons (.cons (.cons (.drop (.cons (.cons (.cons (.cons (.cons .nil)))))))))))⟩
      case sz2 => simp; omega
      case cv => rw [List.map_map]; rfl
      case sz3 => simp; omega
      case ex => rw [List.map_append]; rfl
    case piles =>
      refine DV.conv (dv_addi dv_int (dv_int1 B (by first | decide +kernel | (dsimp only [Ct.blk, locB]; decide +kernel)) (dv_and (dv_c (dc_eq (dv_n 8 rfl (by first | decide +kernel | (dsimp only [Ct.blk, locB]; decide +kernel)) rfl) dv_int (nc_int _).sh (nc_int _).sh)) (fun _ => (dv_bop1 (dv_c (dc_eq (dv_n 9 rfl (by first | decide +kernel | (dsimp only [Ct.blk, locB]; decide +kernel)) rfl) dv_int (nc_int _).sh (nc_int _).sh))))) (.bl _))) ?_
      clear lh lf wh wf
      obtain rfl | rfl : a = 1 ∨ a = 2 := by omega
      all_goals
        obtain rfl | rfl | rfl : b = 1 ∨ b = 2 ∨ b = 3 := by omega
        all_goals rfl
    case thn =>
      intro hb
      have h3 : 2 < q := by have := of_decide_eq_true hb; omega
      have wq := round_g h3 q4
      have lr := fun k => least_at wq k fun b h => round_val h3 q4 h
      have e1 : ((q : Int) - 1) = ((q - 1 : Nat) : Int) := by omega
      refine (DSs.weak (dss_cons (ds_set 2 rfl (by first | decide +kernel | (dsimp only [Ct.blk, locB]; decide +kernel)) (d := webD q (roundQ q)) (dv_call F_round (by dsimp only [Ct.blk]; omega) (by first | decide +kernel | (dsimp only [Ct.blk, locB]; decide +kernel)) (da_cons (dv_n 3 rfl (by first | decide +kernel | (dsimp only [Ct.blk, locB]; decide +kernel)) rfl) da_nil) ⟨q, roundQ q, rfl, by omega, by omega, round_perm h3 q4, wq.ok.srt, rfl⟩))
        (dss_cons (ds_set 7 rfl (by first | decide +kernel | (dsimp only [Ct.blk, locB]; decide +kernel)) (d := .list ((roundL q).map pairD)) (dn_dv (DN.conv (dn_cat (dn_dv (dn_lc1 5 [("_law_k", 5)] (by first | decide +kernel | (dsimp only [Ct.blk, locB]; decide +kernel)) (di_rng (n := q - 1) B (by first | decide +kernel | (dsimp only [Ct.blk, locB]; decide +kernel)) (DV.conv (d' := natD (q - 1)) (dv_sub (dv_n 3 rfl (by first | decide +kernel | (dsimp only [Ct.blk, locB]; decide +kernel)) rfl) dv_int) (congrArg PyData.int e1)) (by omega)) (dg_one 5 rfl (by first | decide +kernel | (dsimp only [Ct.blk, locB]; decide +kernel))) (turns_mapT natD (fun k => pairD (npC (k, k + 1))) _ (fun x hx => ⟨_, rfl, (dv_tup (da_cons (dv_n 5 rfl (by first | decide +kernel | (dsimp only [Ct.blk, locB]; decide +kernel)) rfl) (da_cons (dv_addn (dv_n 5 rfl (by first | decide +kernel | (dsimp only [Ct.blk, locB]; decide +kernel)) rfl) (dv_intn 1)) da_nil)) (by simp))⟩)) ?sz1)) (dn_dv (dn_lst (da_cons (dv_tup (da_cons dv_int (da_cons (DV.conv (d' := natD (q - 1)) (dv_sub (dv_n 3 rfl (by first | decide +kernel | (dsimp only [Ct.blk, locB]; decide +kernel)) rfl) dv_int) (congrArg PyData.int e1)) da_nil)) (by simp)) da_nil) (by simp))) ?sz2) ?cat)))
        (dss_if (k := false) (DT.conv (dt_c (dc_ne (dv_n 2 rfl (by first | decide +kernel | (dsimp only [Ct.blk, locB]; decide +kernel)) rfl) (DV.conv (d' := webD q (roundQ q)) (dv_tup (da_cons (dv_n 3 rfl (by first | decide +kernel | (dsimp only [Ct.blk, locB]; decide +kernel)) rfl) (da_cons (dv_tuple B (by first | decide +kernel | (dsimp only [Ct.blk, locB]; decide +kernel)) (dn_dv (dn_sortedQ (ps := roundL q) (qs := roundQ q) B (by first | decide +kernel | (dsimp only [Ct.blk, locB]; decide +kernel)) (dv_n 7 rfl (by first | decide +kernel | (dsimp only [Ct.blk, locB]; decide +kernel)) rfl) (round_perm h3 q4) wq.ok.srt)) (.lst _)) da_nil)) (by simp)) rfl) (nc_web _ _).sh (nc_web _ _).sh)) (congrArg (!·) (nc_web _ _).eq_self)) (fun hb => by cases hb) (fun hb =>
        (dss_if (k := false) (DT.conv (dt_w (dw_or (k := false) (DT.conv (dt_c (dc_ne (dv_call F_least (by dsimp only [Ct.blk]; omega) (by first | decide +kernel | (dsimp only [Ct.blk, locB]; decide +kernel)) (da_cons (dv_n 2 rfl (by first | decide +kernel | (dsimp only [Ct.blk, locB]; decide +kernel)) rfl) (da_cons dv_str da_nil)) (lr .pile)) (dv_intn 1) (nc_int _).sh (nc_int _).sh)) (congrArg (!·) (nc_int _).eq_self)) (fun _ => (dw_or1 (k := false) (DT.conv (dt_c (dc_ne (dv_call F_least (by dsimp only [Ct.blk]; omega) (by first | decide +kernel | (dsimp only [Ct.blk, locB]; decide +kernel)) (da_cons (dv_n 2 rfl (by first | decide +kernel | (dsimp only [Ct.blk, locB]; decide +kernel)) rfl) (da_cons dv_str da_nil)) (lr .queue)) (dv_intn 1) (nc_int _).sh (nc_int _).sh)) (congrArg (!·) (nc_int _).eq_self)))))) rfl) (fun hb => by cases hb) (fun hb => dss_nil)))))) (.cons (.cons (.drop (.cons (.cons (.cons (.cons (.drop (.cons (.cons (.cons .nil))))))))))))
      case sz1 => simp; omega
      case sz2 => simp; omega
      case cat => unfold roundL; rw [List.map_append, List.map_map]; rfl
    case loop1 =>
      intro z hz0
      have hsm := hz z (mem_cut hz0)
      have hM0 := manyM_pos z (most := 6) (by omega)
      have tok := tiesM_ok z (most := 6) 9 (by omega)
      have hrow := rowM_perm (z / 3) (manyM z 6)
      generalize hW : tiesM z 6 9 = W at tok
      generalize hM : manyM z 6 = M at hM0 hrow tok
      generalize hR : rowM (z / 3) M = R at hrow
      have w : WebG M W := ⟨tok.1, hM0.1, by omega, by omega⟩
      refine ⟨_, rfl, by simp [ofree], _, (dss_cons (ds_set 2 rfl (by first | decide +kernel | (dsimp only [Ct.blk, locB]; decide +kernel)) (DV.conv (dv_call F_web (by dsimp only [Ct.blk]; omega) (by first | decide +kernel | (dsimp only [Ct.blk, locB]; decide +kernel)) (da_cons (dv_n 1 rfl (by first | decide +kernel | (dsimp only [Ct.blk, locB]; decide +kernel)) rfl) (da_cons dv_int (da_cons dv_int da_nil))) ⟨n, z, 6, 9, rfl, hsm, by omega, by omega, by omega, by omega, rfl⟩) (show wD z 6 9 = webD M W by unfold wD; rw [hM, hW])))
        (dss_if (k := false) (DT.conv (dt_not (dt_val (dv_call F_right (by dsimp only [Ct.blk]; omega) (by first | decide +kernel | (dsimp only [Ct.blk, locB]; decide +kernel)) (da_cons (dv_n 2 rfl (by first | decide +kernel | (dsimp only [Ct.blk, locB]; decide +kernel)) rfl) (da_cons (DV.conv (d' := rowD R) (dv_call F_row (by dsimp only [Ct.blk]; omega) (by first | decide +kernel | (dsimp only [Ct.blk, locB]; decide +kernel)) (da_cons (dv_fdiv (dv_n 1 rfl (by first | decide +kernel | (dsimp only [Ct.blk, locB]; decide +kernel)) rfl) dv_int ⟨by decide, by decide⟩) (da_cons (dv_ixt (dv_n 2 rfl (by first | decide +kernel | (dsimp only [Ct.blk, locB]; decide +kernel)) rfl) dv_int (d := natD M) rfl) da_nil)) ⟨n, z / 3, M, rfl, hsm.div3, by omega, by omega, rfl⟩) (by rw [hR])) (da_cons (dv_fdiv (dv_n 1 rfl (by first | decide +kernel | (dsimp only [Ct.blk, locB]; decide +kernel)) rfl) dv_int ⟨by decide, by decide⟩) da_nil))) ⟨n, M, W, R, z / 7, rfl, w, by omega, hrow, hsm.div 7 (by decide), by omega, rfl⟩))) rfl) (fun hb => by cases hb) (fun hb => dss_nil))), (.cons (.drop (.drop (.cons (.cons (.cons (.cons (.cons (.cons (.cons (.cons .nil)))))))))))⟩
theorem all_mk {l : PySem.W.OpenLaw} {w : World} {K : PySem.W.Frag} {h : Heap} {mg : PySem.Str → Option Value} {fa f0 f1 f2 f3 f4 f5 f6 f7 f8 f9 f10 f11 f12 f13 f14 f15 f16 f17 f18 f19 f20 f21 f22 f23 f24 : Addr} (X : K.In h) (G : h.Ns mainGlobals mg) (hfa : mg "law" = some (.ref fa))
    {od0 an0 od1 an1 od2 an2 od3 an3 od4 an4 od5 an5 od6 an6 od7 an7 od8 an8 od9 an9 od10 an10 od11 an11 od12 an12 od13 an13 od14 an14 od15 an15 od16 an16 od17 an17 od18 an18 od19 an19 od20 an20 od21 an21 od22 an22 od23 an23 od24 an24 : Option Addr} {sl0 sl1 sl2 sl3 sl4 sl5 sl6 sl7 sl8 sl9 sl10 sl11 sl12 sl13 sl14 sl15 sl16 sl17 sl18 sl19 sl20 sl21 sl22 sl23 sl24 : Array (Option Value)} {oc0 kV0 dc0 pm0 cd0 ct0 oc1 kV1 dc1 pm1 cd1 ct1 oc2 kV2 dc2 pm2 cd2 ct2 oc3 kV3 dc3 pm3 cd3 ct3 oc4 kV4 dc4 pm4 cd4 ct4 oc5 kV5 dc5 pm5 cd5 ct5 oc6 kV6 dc6 pm6 cd6 ct6 oc7 kV7 dc7 pm7 cd7 ct7 oc8 kV8 dc8 pm8 cd8 ct8 oc9 kV9 dc9 pm9 cd9 ct9 oc10 kV10 dc10 pm10 cd10 ct10 oc11 kV11 dc11 pm11 cd11 ct11 oc12 kV12 dc12 pm12 cd12 ct12 oc13 kV13 dc13 pm13 cd13 ct13 oc14 kV14 dc14 pm14 cd14 ct14 oc15 kV15 dc15 pm15 cd15 ct15 oc16 kV16 dc16 pm16 cd16 ct16 oc17 kV17 dc17 pm17 cd17 ct17 oc18 kV18 dc18 pm18 cd18 ct18 oc19 kV19 dc19 pm19 cd19 ct19 oc20 kV20 dc20 pm20 cd20 ct20 oc21 kV21 dc21 pm21 cd21 ct21 oc22 kV22 dc22 pm22 cd22 ct22 oc23 kV23 dc23 pm23 cd23 ct23 oc24 kV24 dc24 pm24 cd24 ct24 : Value}
    (a0 : PySem.W.nsIn K mainGlobals "moved" = some (some (.ref f0))) (l0 : K.lookup f0 = some ⟨oc0, od0, .func (PySem.W.fnOf "moved" "moved" (defArgs (topS 1)) (defBody (topS 1)) (defScope (topS 1)) .none kV0 dc0 pm0 an0 cd0 ct0), sl0⟩) (c0 : PySem.W.codeIn K cd0 "moved" = true) (k0 : PySem.W.keepIn K (.ref f0) = true)
    (a1 : PySem.W.nsIn K mainGlobals "turned" = some (some (.ref f1))) (l1 : K.lookup f1 = some ⟨oc1, od1, .func (PySem.W.fnOf "turned" "turned" (defArgs (topS 2)) (defBody (topS 2)) (defScope (topS 2)) .none kV1 dc1 pm1 an1 cd1 ct1), sl1⟩) (c1 : PySem.W.codeIn K cd1 "turned" = true) (k1 : PySem.W.keepIn K (.ref f1) = true)
    (a2 : PySem.W.nsIn K mainGlobals "renamed" = some (some (.ref f2))) (l2 : K.lookup f2 = some ⟨oc2, od2, .func (PySem.W.fnOf "renamed" "renamed" (defArgs (topS 3)) (defBody (topS 3)) (defScope (topS 3)) .none kV2 dc2 pm2 an2 cd2 ct2), sl2⟩) (c2 : PySem.W.codeIn K cd2 "renamed" = true) (k2 : PySem.W.keepIn K (.ref f2) = true)
    (a3 : PySem.W.nsIn K mainGlobals "with_tie" = some (some (.ref f3))) (l3 : K.lookup f3 = some ⟨oc3, od3, .func (PySem.W.fnOf "with_tie" "with_tie" (defArgs (topS 4)) (defBody (topS 4)) (defScope (topS 4)) .none kV3 dc3 pm3 an3 cd3 ct3), sl3⟩) (c3 : PySem.W.codeIn K cd3 "with_tie" = true) (k3 : PySem.W.keepIn K (.ref f3) = true)
    (a4 : PySem.W.nsIn K mainGlobals "without_tie" = some (some (.ref f4))) (l4 : K.lookup f4 = some ⟨oc4, od4, .func (PySem.W.fnOf "without_tie" "without_tie" (defArgs (topS 5)) (defBody (topS 5)) (defScope (topS 5)) .none kV4 dc4 pm4 an4 cd4 ct4), sl4⟩) (c4 : PySem.W.codeIn K cd4 "without_tie" = true) (k4 : PySem.W.keepIn K (.ref f4) = true)
    (a5 : PySem.W.nsIn K mainGlobals "full" = some (some (.ref f5))) (l5 : K.lookup f5 = some ⟨oc5, od5, .func (PySem.W.fnOf "full" "full" (defArgs (topS 6)) (defBody (topS 6)) (defScope (topS 6)) .none kV5 dc5 pm5 an5 cd5 ct5), sl5⟩) (c5 : PySem.W.codeIn K cd5 "full" = true) (k5 : PySem.W.keepIn K (.ref f5) = true)
    (a6 : PySem.W.nsIn K mainGlobals "round_web" = some (some (.ref f6))) (l6 : K.lookup f6 = some ⟨oc6, od6, .func (PySem.W.fnOf "round_web" "round_web" (defArgs (topS 7)) (defBody (topS 7)) (defScope (topS 7)) .none kV6 dc6 pm6 an6 cd6 ct6), sl6⟩) (c6 : PySem.W.codeIn K cd6 "round_web" = true) (k6 : PySem.W.keepIn K (.ref f6) = true)
    (a7 : PySem.W.nsIn K mainGlobals "halves" = some (some (.ref f7))) (l7 : K.lookup f7 = some ⟨oc7, od7, .func (PySem.W.fnOf "halves" "halves" (defArgs (topS 8)) (defBody (topS 8)) (defScope (topS 8)) .none kV7 dc7 pm7 an7 cd7 ct7), sl7⟩) (c7 : PySem.W.codeIn K cd7 "halves" = true) (k7 : PySem.W.keepIn K (.ref f7) = true)
    (a8 : PySem.W.nsIn K mainGlobals "spots" = some (some (.ref f8))) (l8 : K.lookup f8 = some ⟨oc8, od8, .func (PySem.W.fnOf "spots" "spots" (defArgs (topS 10)) (defBody (topS 10)) (defScope (topS 10)) .none kV8 dc8 pm8 an8 cd8 ct8), sl8⟩) (c8 : PySem.W.codeIn K cd8 "spots" = true) (k8 : PySem.W.keepIn K (.ref f8) = true)
    (a9 : PySem.W.nsIn K mainGlobals "how" = some (some (.ref f9))) (l9 : K.lookup f9 = some ⟨oc9, od9, .func (PySem.W.fnOf "how" "how" (defArgs (topS 11)) (defBody (topS 11)) (defScope (topS 11)) .none kV9 dc9 pm9 an9 cd9 ct9), sl9⟩) (c9 : PySem.W.codeIn K cd9 "how" = true) (k9 : PySem.W.keepIn K (.ref f9) = true)
    (a10 : PySem.W.nsIn K mainGlobals "do_clash" = some (some (.ref f10))) (l10 : K.lookup f10 = some ⟨oc10, od10, .func (PySem.W.fnOf "do_clash" "do_clash" (defArgs (topS 12)) (defBody (topS 12)) (defScope (topS 12)) .none kV10 dc10 pm10 an10 cd10 ct10), sl10⟩) (c10 : PySem.W.codeIn K cd10 "do_clash" = true) (k10 : PySem.W.keepIn K (.ref f10) = true)
    (a11 : PySem.W.nsIn K mainGlobals "clashes" = some (some (.ref f11))) (l11 : K.lookup f11 = some ⟨oc11, od11, .func (PySem.W.fnOf "clashes" "clashes" (defArgs (topS 13)) (defBody (topS 13)) (defScope (topS 13)) .none kV11 dc11 pm11 an11 cd11 ct11), sl11⟩) (c11 : PySem.W.codeIn K cd11 "clashes" = true) (k11 : PySem.W.keepIn K (.ref f11) = true)
    (a12 : PySem.W.nsIn K mainGlobals "page_count" = some (some (.ref f12))) (l12 : K.lookup f12 = some ⟨oc12, od12, .func (PySem.W.fnOf "page_count" "page_count" (defArgs (topS 15)) (defBody (topS 15)) (defScope (topS 15)) .none kV12 dc12 pm12 an12 cd12 ct12), sl12⟩) (c12 : PySem.W.codeIn K cd12 "page_count" = true) (k12 : PySem.W.keepIn K (.ref f12) = true)
    (a13 : PySem.W.nsIn K mainGlobals "laid" = some (some (.ref f13))) (l13 : K.lookup f13 = some ⟨oc13, od13, .func (PySem.W.fnOf "laid" "laid" (defArgs (topS 16)) (defBody (topS 16)) (defScope (topS 16)) .none kV13 dc13 pm13 an13 cd13 ct13), sl13⟩) (c13 : PySem.W.codeIn K cd13 "laid" = true) (k13 : PySem.W.keepIn K (.ref f13) = true)
    (a14 : PySem.W.nsIn K mainGlobals "fewest_pages" = some (some (.ref f14))) (l14 : K.lookup f14 = some ⟨oc14, od14, .func (PySem.W.fnOf "fewest_pages" "fewest_pages" (defArgs (topS 17)) (defBody (topS 17)) (defScope (topS 17)) .none kV14 dc14 pm14 an14 cd14 ct14), sl14⟩) (c14 : PySem.W.codeIn K cd14 "fewest_pages" = true) (k14 : PySem.W.keepIn K (.ref f14) = true)
    (a15 : PySem.W.nsIn K mainGlobals "all_rows" = some (some (.ref f15))) (l15 : K.lookup f15 = some ⟨oc15, od15, .func (PySem.W.fnOf "all_rows" "all_rows" (defArgs (topS 19)) (defBody (topS 19)) (defScope (topS 19)) .none kV15 dc15 pm15 an15 cd15 ct15), sl15⟩) (c15 : PySem.W.codeIn K cd15 "all_rows" = true) (k15 : PySem.W.keepIn K (.ref f15) = true)
    (a16 : PySem.W.nsIn K mainGlobals "best_row" = some (some (.ref f16))) (l16 : K.lookup f16 = some ⟨oc16, od16, .func (PySem.W.fnOf "best_row" "best_row" (defArgs (topS 20)) (defBody (topS 20)) (defScope (topS 20)) .none kV16 dc16 pm16 an16 cd16 ct16), sl16⟩) (c16 : PySem.W.codeIn K cd16 "best_row" = true) (k16 : PySem.W.keepIn K (.ref f16) = true)
    (a17 : PySem.W.nsIn K mainGlobals "least_pages" = some (some (.ref f17))) (l17 : K.lookup f17 = some ⟨oc17, od17, .func (PySem.W.fnOf "least_pages" "least_pages" (defArgs (topS 21)) (defBody (topS 21)) (defScope (topS 21)) .none kV17 dc17 pm17 an17 cd17 ct17), sl17⟩) (c17 : PySem.W.codeIn K cd17 "least_pages" = true) (k17 : PySem.W.keepIn K (.ref f17) = true)
    (a18 : PySem.W.nsIn K mainGlobals "_law_cell" = some (some (.ref f18))) (l18 : K.lookup f18 = some ⟨oc18, od18, .func (PySem.W.fnOf "_law_cell" "_law_cell" (defArgs (topS 23)) (defBody (topS 23)) (defScope (topS 23)) .none kV18 dc18 pm18 an18 cd18 ct18), sl18⟩) (c18 : PySem.W.codeIn K cd18 "_law_cell" = true) (k18 : PySem.W.keepIn K (.ref f18) = true)
    (a19 : PySem.W.nsIn K mainGlobals "_law_mix" = some (some (.ref f19))) (l19 : K.lookup f19 = some ⟨oc19, od19, .func (PySem.W.fnOf "_law_mix" "_law_mix" (defArgs (topS 24)) (defBody (topS 24)) (defScope (topS 24)) .none kV19 dc19 pm19 an19 cd19 ct19), sl19⟩) (c19 : PySem.W.codeIn K cd19 "_law_mix" = true) (k19 : PySem.W.keepIn K (.ref f19) = true)
    (a20 : PySem.W.nsIn K mainGlobals "_law_web" = some (some (.ref f20))) (l20 : K.lookup f20 = some ⟨oc20, od20, .func (PySem.W.fnOf "_law_web" "_law_web" (defArgs (topS 25)) (defBody (topS 25)) (defScope (topS 25)) .none kV20 dc20 pm20 an20 cd20 ct20), sl20⟩) (c20 : PySem.W.codeIn K cd20 "_law_web" = true) (k20 : PySem.W.keepIn K (.ref f20) = true)
    (a21 : PySem.W.nsIn K mainGlobals "_law_row" = some (some (.ref f21))) (l21 : K.lookup f21 = some ⟨oc21, od21, .func (PySem.W.fnOf "_law_row" "_law_row" (defArgs (topS 26)) (defBody (topS 26)) (defScope (topS 26)) .none kV21 dc21 pm21 an21 cd21 ct21), sl21⟩) (c21 : PySem.W.codeIn K cd21 "_law_row" = true) (k21 : PySem.W.keepIn K (.ref f21) = true)
    (a22 : PySem.W.nsIn K mainGlobals "_law_many" = some (some (.ref f22))) (l22 : K.lookup f22 = some ⟨oc22, od22, .func (PySem.W.fnOf "_law_many" "_law_many" (defArgs (topS 27)) (defBody (topS 27)) (defScope (topS 27)) .none kV22 dc22 pm22 an22 cd22 ct22), sl22⟩) (c22 : PySem.W.codeIn K cd22 "_law_many" = true) (k22 : PySem.W.keepIn K (.ref f22) = true)
    (a23 : PySem.W.nsIn K mainGlobals "_law_right" = some (some (.ref f23))) (l23 : K.lookup f23 = some ⟨oc23, od23, .func (PySem.W.fnOf "_law_right" "_law_right" (defArgs (topS 28)) (defBody (topS 28)) (defScope (topS 28)) .none kV23 dc23 pm23 an23 cd23 ct23), sl23⟩) (c23 : PySem.W.codeIn K cd23 "_law_right" = true) (k23 : PySem.W.keepIn K (.ref f23) = true)
    (a24 : PySem.W.nsIn K mainGlobals "law" = some (some (.ref f24))) (l24 : K.lookup f24 = some ⟨oc24, od24, .func (PySem.W.fnOf "law" "law" (defArgs (topS 29)) (defBody (topS 29)) (defScope (topS 29)) .none kV24 dc24 pm24 an24 cd24 ct24), sl24⟩) (c24 : PySem.W.codeIn K cd24 "law" = true) (k24 : PySem.W.keepIn K (.ref f24) = true)
    (z0 : PySem.W.nsIn K mainGlobals "len" = some none) (z1 : PySem.W.nsIn K mainGlobals "range" = some none) (z2 : PySem.W.nsIn K mainGlobals "isinstance" = some none) (z3 : PySem.W.nsIn K mainGlobals "tuple" = some none) (z4 : PySem.W.nsIn K mainGlobals "int" = some none) (z5 : PySem.W.nsIn K mainGlobals "bool" = some none) (z6 : PySem.W.nsIn K mainGlobals "str" = some none) (z7 : PySem.W.nsIn K mainGlobals "list" = some none) (z8 : PySem.W.nsIn K mainGlobals "set" = some none) (z9 : PySem.W.nsIn K mainGlobals "dict" = some none) (z10 : PySem.W.nsIn K mainGlobals "sorted" = some none) (z11 : PySem.W.nsIn K mainGlobals "min" = some none) (z12 : PySem.W.nsIn K mainGlobals "max" = some none) (z13 : PySem.W.nsIn K mainGlobals "all" = some none) (z14 : PySem.W.nsIn K mainGlobals "any" = some none) (z15 : PySem.W.nsIn K mainGlobals "enumerate" = some none) (z16 : PySem.W.nsIn K mainGlobals "zip" = some none) (z17 : PySem.W.nsIn K mainGlobals "reversed" = some none) :
    ∃ fd : FuncData, (∀ (s : Shared) (v : Value), BindsTo s fd ⟨[v], []⟩ [("_law_script", v)]) ∧ ∀ base : Heap, K.In base → base.Ns mainGlobals mg → FnOk l.prog w K mg base CX0 21 fa fd ["_law_script"] (spD K rLaw) := by
  have e := hfa.symm.trans (PySem.W.mg_of X G a24)
  cases e
  refine ⟨PySem.W.fnOf "law" "law" (defArgs (topS 29)) (defBody (topS 29)) (defScope (topS 29)) .none kV24 dc24 pm24 an24 cd24 ct24, fun s v => .of_eq rfl, fun base _ _ => ?_⟩
  have B : Blt ⟨l.prog, w, K, mg, base⟩ := ⟨PySem.W.mg_none_of X G z0, PySem.W.mg_none_of X G z1, PySem.W.mg_none_of X G z2, PySem.W.mg_none_of X G z3, PySem.W.mg_none_of X G z4, PySem.W.mg_none_of X G z5, PySem.W.mg_none_of X G z6, PySem.W.mg_none_of X G z7, PySem.W.mg_none_of X G z8, PySem.W.mg_none_of X G z9, PySem.W.mg_none_of X G z10, PySem.W.mg_none_of X G z11, PySem.W.mg_none_of X G z12, PySem.W.mg_none_of X G z13, PySem.W.mg_none_of X G z14, PySem.W.mg_none_of X G z15, PySem.W.mg_none_of X G z16, PySem.W.mg_none_of X G z17⟩
  have F0 := fun_mk (st := topS 1) l0 c0 k0
  have b0 := F0.binds (ps := ["row", "by"]) fun _ _ _ _ _ _ us hl => match us, hl with | [_, _], _ => rfl
  have P_moved := f_moved (m := ⟨l.prog, w, K, mg, base⟩) B  F0 b0 (PySem.W.mg_of X G a0)
  have F1 := fun_mk (st := topS 2) l1 c1 k1
  have b1 := F1.binds (ps := ["row"]) fun _ _ _ _ _ _ us hl => match us, hl with | [_], _ => rfl
  have P_turned := f_turned (m := ⟨l.prog, w, K, mg, base⟩) B  F1 b1 (PySem.W.mg_of X G a1)
  have F2 := fun_mk (st := topS 3) l2 c2 k2
  have b2 := F2.binds (ps := ["web", "names"]) fun _ _ _ _ _ _ us hl => match us, hl with | [_, _], _ => rfl
  have P_renamed := f_renamed (m := ⟨l.prog, w, K, mg, base⟩) B  F2 b2 (PySem.W.mg_of X G a2)
  have F3 := fun_mk (st := topS 4) l3 c3 k3
  have b3 := F3.binds (ps := ["web", "one", "other"]) fun _ _ _ _ _ _ us hl => match us, hl with | [_, _, _], _ => rfl
  have P_with_tie := f_with (m := ⟨l.prog, w, K, mg, base⟩) B  F3 b3 (PySem.W.mg_of X G a3)
  have F4 := fun_mk (st := topS 5) l4 c4 k4
  have b4 := F4.binds (ps := ["web", "tie"]) fun _ _ _ _ _ _ us hl => match us, hl with | [_, _], _ => rfl
  have P_without_tie := f_without (m := ⟨l.prog, w, K, mg, base⟩) B  F4 b4 (PySem.W.mg_of X G a4)
  have F5 := fun_mk (st := topS 6) l5 c5 k5
  have b5 := F5.binds (ps := ["many"]) fun _ _ _ _ _ _ us hl => match us, hl with | [_], _ => rfl
  have P_full := f_full (m := ⟨l.prog, w, K, mg, base⟩) B  F5 b5 (PySem.W.mg_of X G a5)
  have F6 := fun_mk (st := topS 7) l6 c6 k6
  have b6 := F6.binds (ps := ["many"]) fun _ _ _ _ _ _ us hl => match us, hl with | [_], _ => rfl
  have P_round_web := f_round (m := ⟨l.prog, w, K, mg, base⟩) B  F6 b6 (PySem.W.mg_of X G a6)
  have F7 := fun_mk (st := topS 8) l7 c7 k7
  have b7 := F7.binds (ps := ["one", "other"]) fun _ _ _ _ _ _ us hl => match us, hl with | [_, _], _ => rfl
  have P_halves := f_halves (m := ⟨l.prog, w, K, mg, base⟩) B  F7 b7 (PySem.W.mg_of X G a7)
  have F8 := fun_mk (st := topS 10) l8 c8 k8
  have b8 := F8.binds (ps := ["web", "row", "tie"]) fun _ _ _ _ _ _ us hl => match us, hl with | [_, _, _], _ => rfl
  have P_spots := f_spots (m := ⟨l.prog, w, K, mg, base⟩) B  F8 b8 (PySem.W.mg_of X G a8)
  have F9 := fun_mk (st := topS 11) l9 c9 k9
  have b9 := F9.binds (ps := ["web", "row", "one", "other"]) fun _ _ _ _ _ _ us hl => match us, hl with | [_, _, _, _], _ => rfl
  have P_how := f_how (m := ⟨l.prog, w, K, mg, base⟩) B P_spots F9 b9 (PySem.W.mg_of X G a9)
  have F10 := fun_mk (st := topS 12) l10 c10 k10
  have b10 := F10.binds (ps := ["web", "row", "kind", "one", "other"]) fun _ _ _ _ _ _ us hl => match us, hl with | [_, _, _, _, _], _ => rfl
  have P_do_clash := f_do (m := ⟨l.prog, w, K, mg, base⟩) B P_how F10 b10 (PySem.W.mg_of X G a10)
  have F11 := fun_mk (st := topS 13) l11 c11 k11
  have b11 := F11.binds (ps := ["web", "row", "kind"]) fun _ _ _ _ _ _ us hl => match us, hl with | [_, _, _], _ => rfl
  have P_clashes := f_clashes (m := ⟨l.prog, w, K, mg, base⟩) B P_do_clash F11 b11 (PySem.W.mg_of X G a11)
  have F12 := fun_mk (st := topS 15) l12 c12 k12
  have b12 := F12.binds (ps := ["pages"]) fun _ _ _ _ _ _ us hl => match us, hl with | [_], _ => rfl
  have P_page_count := f_count (m := ⟨l.prog, w, K, mg, base⟩) B  F12 b12 (PySem.W.mg_of X G a12)
  have F13 := fun_mk (st := topS 16) l13 c13 k13
  have b13 := F13.binds (ps := ["pairs", "many", "size", "pages"]) fun _ _ _ _ _ _ us hl => match us, hl with | [_, _, _, _], _ => rfl
  have P_laid := f_laid16 (m := ⟨l.prog, w, K, mg, base⟩) B  F13 b13 (PySem.W.mg_of X G a13)
  have F14 := fun_mk (st := topS 17) l14 c14 k14
  have b14 := F14.binds (ps := ["web", "row", "kind"]) fun _ _ _ _ _ _ us hl => match us, hl with | [_, _, _], _ => rfl
  have P_fewest_pages := f_few (m := ⟨l.prog, w, K, mg, base⟩) B P_clashes P_laid F14 b14 (PySem.W.mg_of X G a14)
  have F15 := fun_mk (st := topS 19) l15 c15 k15
  have b15 := F15.binds (ps := ["places"]) fun _ _ _ _ _ _ us hl => match us, hl with | [_], _ => rfl
  have P_all_rows := f_all8 (m := ⟨l.prog, w, K, mg, base⟩) B  F15 b15 (PySem.W.mg_of X G a15)
  have F16 := fun_mk (st := topS 20) l16 c16 k16
  have b16 := F16.binds (ps := ["web", "kind"]) fun _ _ _ _ _ _ us hl => match us, hl with | [_, _], _ => rfl
  have P_best_row := f_best (m := ⟨l.prog, w, K, mg, base⟩) B P_all_rows P_fewest_pages P_page_count F16 b16 (PySem.W.mg_of X G a16)
  have F17 := fun_mk (st := topS 21) l17 c17 k17
  have b17 := F17.binds (ps := ["web", "kind"]) fun _ _ _ _ _ _ us hl => match us, hl with | [_, _], _ => rfl
  have P_least_pages := f_least (m := ⟨l.prog, w, K, mg, base⟩) B P_best_row P_fewest_pages P_page_count F17 b17 (PySem.W.mg_of X G a17)
  have F18 := fun_mk (st := topS 23) l18 c18 k18
  have b18 := F18.binds (ps := ["_law_script", "_law_k"]) fun _ _ _ _ _ _ us hl => match us, hl with | [_, _], _ => rfl
  have P_lcell := f_cell (m := ⟨l.prog, w, K, mg, base⟩) B  F18 b18 (PySem.W.mg_of X G a18)
  have F19 := fun_mk (st := topS 24) l19 c19 k19
  have b19 := F19.binds (ps := ["_law_cell_here", "_law_prime", "_law_many_here"]) fun _ _ _ _ _ _ us hl => match us, hl with | [_, _, _], _ => rfl
  have P_lmix := f_mix (m := ⟨l.prog, w, K, mg, base⟩) B  F19 b19 (PySem.W.mg_of X G a19)
  have F20 := fun_mk (st := topS 25) l20 c20 k20
  have b20 := F20.binds (ps := ["_law_cell_here", "_law_most", "_law_ties"]) fun _ _ _ _ _ _ us hl => match us, hl with | [_, _, _], _ => rfl
  have P_lweb := f_web (m := ⟨l.prog, w, K, mg, base⟩) B P_lmix F20 b20 (PySem.W.mg_of X G a20)
  have F21 := fun_mk (st := topS 26) l21 c21 k21
  have b21 := F21.binds (ps := ["_law_cell_here", "_law_many_here"]) fun _ _ _ _ _ _ us hl => match us, hl with | [_, _], _ => rfl
  have P_lrow := f_row (m := ⟨l.prog, w, K, mg, base⟩) B P_lmix F21 b21 (PySem.W.mg_of X G a21)
  have F22 := fun_mk (st := topS 27) l22 c22 k22
  have b22 := F22.binds (ps := ["_law_web_here", "_law_row_here"]) fun _ _ _ _ _ _ us hl => match us, hl with | [_, _], _ => rfl
  have P_lmany := f_many (m := ⟨l.prog, w, K, mg, base⟩) B P_fewest_pages P_page_count F22 b22 (PySem.W.mg_of X G a22)
  have F23 := fun_mk (st := topS 28) l23 c23 k23
  have b23 := F23.binds (ps := ["_law_web_here", "_law_row_here", "_law_cell_here"]) fun _ _ _ _ _ _ us hl => match us, hl with | [_, _, _], _ => rfl
  have P_lright := f_right (m := ⟨l.prog, w, K, mg, base⟩) B P_lmix P_lrow P_moved P_turned P_renamed P_with_tie P_without_tie P_lmany F23 b23 (PySem.W.mg_of X G a23)
  have F24 := fun_mk (st := topS 29) l24 c24 k24
  exact f_law (m := ⟨l.prog, w, K, mg, base⟩) B P_lcell P_lmix P_lweb P_lrow P_lright P_full P_round_web P_halves P_least_pages F24
theorem hsp_all {K : PySem.W.Frag} (H : Hp) (a : Addr) (ns : List Int) (h63 : ns.length ≤ 63) (hb : ∀ z ∈ ns, Builtin.Int.intBits z ≤ 1048576) (hs : SqL K H a (ns.map V.int)) : spD K rLaw [.ref a] H (fun v _ => v = .bl true) fun _ _ _ => False :=
  ⟨[], [scrD ns], .bool true, ⟨1048577, ns, rfl, h63, by omega, fun z hz => sm_ok (hb z hz), rfl⟩, (fun b hb => by cases hb), .cons (Rp.mono (Same.ofEq (funext fun b => (hide_out (by simp)).symm)) (.scr hs h63)) .nil, fun v H' _ r => by cases r; rfl⟩
end DL
open PySem PySem.W PyProof.Rows
set_option maxRecDepth 100000 in
set_option maxHeartbeats 0 in
theorem PySem.Challenge.cw_pageties_k09_whole_rows_and_webs_changed_holds : PySem.Challenge.rw_pageties_k09_whole_rows_and_webs_changed.Holds := by
  w_on; o_law; k_head; (case hw => w_witness2)
  k_fill
  refine L2.walk_ofB (l := PySem.Challenge.rw_pageties_k09_whole_rows_and_webs_changed) (n := 63) (k := 21) (x := "_law_script") (CX := fun _ => L2.CX0) (sp := fun w => DL.spD _ DL.rLaw) rfl (by decide) rfl ⟨rfl, by decide, by decide⟩ (fun w h Y => PySem.W.kIn_of Y) ?F (fun w H a ns h63 hb _ hs => DL.hsp_all H a ns h63 hb hs) (fun _ _ _ _ _ z => z)
  case F =>
    intro w mg fa h KX G hmg
    refine' DL.all_mk KX G hmg ?a0 ?l0 ?c0 ?k0 ?a1 ?l1 ?c1 ?k1 ?a2 ?l2 ?c2 ?k2 ?a3 ?l3 ?c3 ?k3 ?a4 ?l4 ?c4 ?k4 ?a5 ?l5 ?c5 ?k5 ?a6 ?l6 ?c6 ?k6 ?a7 ?l7 ?c7 ?k7 ?a8 ?l8 ?c8 ?k8 ?a9 ?l9 ?c9 ?k9 ?a10 ?l10 ?c10 ?k10 ?a11 ?l11 ?c11 ?k11 ?a12 ?l12 ?c12 ?k12 ?a13 ?l13 ?c13 ?k13 ?a14 ?l14 ?c14 ?k14 ?a15 ?l15 ?c15 ?k15 ?a16 ?l16 ?c16 ?k16 ?a17 ?l17 ?c17 ?k17 ?a18 ?l18 ?c18 ?k18 ?a19 ?l19 ?c19 ?k19 ?a20 ?l20 ?c20 ?k20 ?a21 ?l21 ?c21 ?k21 ?a22 ?l22 ?c22 ?k22 ?a23 ?l23 ?c23 ?k23 ?a24 ?l24 ?c24 ?k24 ?z0 ?z1 ?z2 ?z3 ?z4 ?z5 ?z6 ?z7 ?z8 ?z9 ?z10 ?z11 ?z12 ?z13 ?z14 ?z15 ?z16 ?z17
    (case a0 => k_is)
    (case l0 => k_is)
    (case c0 => k_is)
    (case k0 => k_is)
    (case a1 => k_is)
    (case l1 => k_is)
    (case c1 => k_is)
    (case k1 => k_is)
    (case a2 => k_is)
    (case l2 => k_is)
    (case c2 => k_is)
    (case k2 => k_is)
    (case a3 => k_is)
    (case l3 => k_is)
    (case c3 => k_is)
    (case k3 => k_is)
    (case a4 => k_is)
    (case l4 => k_is)
    (case c4 => k_is)
    (case k4 => k_is)
    (case a5 => k_is)
    (case l5 => k_is)
    (case c5 => k_is)
    (case k5 => k_is)
    (case a6 => k_is)
    (case l6 => k_is)
    (case c6 => k_is)
    (case k6 => k_is)
    (case a7 => k_is)
    (case l7 => k_is)
    (case c7 => k_is)
    (case k7 => k_is)
    (case a8 => k_is)
    (case l8 => k_is)
    (case c8 => k_is)
    (case k8 => k_is)
    (case a9 => k_is)
    (case l9 => k_is)
    (case c9 => k_is)
    (case k9 => k_is)
    (case a10 => k_is)
    (case l10 => k_is)
    (case c10 => k_is)
    (case k10 => k_is)
    (case a11 => k_is)
    (case l11 => k_is)
    (case c11 => k_is)
    (case k11 => k_is)
    (case a12 => k_is)
    (case l12 => k_is)
    (case c12 => k_is)
    (case k12 => k_is)
    (case a13 => k_is)
    (case l13 => k_is)
    (case c13 => k_is)
    (case k13 => k_is)
    (case a14 => k_is)
    (case l14 => k_is)
    (case c14 => k_is)
    (case k14 => k_is)
    (case a15 => k_is)
    (case l15 => k_is)
    (case c15 => k_is)
    (case k15 => k_is)
    (case a16 => k_is)
    (case l16 => k_is)
    (case c16 => k_is)
    (case k16 => k_is)
    (case a17 => k_is)
    (case l17 => k_is)
    (case c17 => k_is)
    (case k17 => k_is)
    (case a18 => k_is)
    (case l18 => k_is)
    (case c18 => k_is)
    (case k18 => k_is)
    (case a19 => k_is)
    (case l19 => k_is)
    (case c19 => k_is)
    (case k19 => k_is)
    (case a20 => k_is)
    (case l20 => k_is)
    (case c20 => k_is)
    (case k20 => k_is)
    (case a21 => k_is)
    (case l21 => k_is)
    (case c21 => k_is)
    (case k21 => k_is)
    (case a22 => k_is)
    (case l22 => k_is)
    (case c22 => k_is)
    (case k22 => k_is)
    (case a23 => k_is)
    (case l23 => k_is)
    (case c23 => k_is)
    (case k23 => k_is)
    (case a24 => k_is)
    (case l24 => k_is)
    (case c24 => k_is)
    (case k24 => k_is)
    (case z0 => k_is)
    (case z1 => k_is)
    (case z2 => k_is)
    (case z3 => k_is)
    (case z4 => k_is)
    (case z5 => k_is)
    (case z6 => k_is)
    (case z7 => k_is)
    (case z8 => k_is)
    (case z9 => k_is)
    (case z10 => k_is)
    (case z11 => k_is)
    (case z12 => k_is)
    (case z13 => k_is)
    (case z14 => k_is)
    (case z15 => k_is)
    (case z16 => k_is)
    (case z17 => k_is)

