import PyProof.Rows.All
import Wide.All
import OpenK.AllK
import Wide.FinOn
import HandS.ForMost
import HandS.Deep
import HandS.TupAny
import HandS.TupMul
import HandS.TupSets
import HandS.TupLe
import HandS.Wide
import HandS.IsInst
import HandS.Conv
import HandS.Style
import HandS.SortInts
import HandS.Rev
import HandS.Exc
import HandS.Strs
import HandS.SetFor
import KE.GoesNew
import HandS.ExcOwn
import HandS.WordsExc
import HandS.ExcIs
import KE.GoesRaise
import HandS.Text
import HandS.FStr
import HandS.ForList
import HandS.EndBits
import PySem.Challenge.RW_pageties_k02_whole_texts
set_option Elab.async false
set_option linter.all false
set_option maxRecDepth 100000
namespace DL
open PySem PySem.Spec L2
set_option autoImplicit false

/-! heaps, a part of them hidden -/
def hide (S : List Addr) (H : Hp) : Hp := fun a => if a ∈ S then none else H a
theorem hide_in {S : List Addr} {H : Hp} {a : Addr} (h : a ∈ S) : hide S H a = none := if_pos h
theorem hide_out {S : List Addr} {H : Hp} {a : Addr} (h : a ∉ S) : hide S H a = H a := if_neg h
theorem hide_sub (S : List Addr) (H : Hp) : Same (hide S H) H := fun b o e => by
  by_cases h : b ∈ S
  · rw [hide_in h] at e; cases e
  · rw [hide_out h] at e; exact e
theorem hide_mono {S : List Addr} {H H' : Hp} (s : Same H H') : Same (hide S H) (hide S H') := fun b o e => by
  by_cases h : b ∈ S
  · rw [hide_in h] at e; cases e
  · rw [hide_out h] at e ⊢; exact s b o e
theorem hide_some {S : List Addr} {H : Hp} {a : Addr} {o : HO} (e : hide S H a = some o) : a ∉ S ∧ H a = some o := by
  by_cases h : a ∈ S
  · rw [hide_in h] at e; cases e
  · rw [hide_out h] at e; exact ⟨h, e⟩
theorem hide_app (S T : List Addr) (H : Hp) : hide (S ++ T) H = hide T (hide S H) := by
  funext a
  unfold hide
  by_cases h1 : a ∈ S <;> by_cases h2 : a ∈ T <;> simp [h1, h2]
/-- a new object, hidden: nothing is seen of it -/
theorem hide_upd {S : List Addr} {H : Hp} {p : Addr} {o : HO} (h : p ∈ S) : hide S (upd H p o) = hide S H := by
  funext a
  by_cases e : a ∈ S
  · rw [hide_in e, hide_in e]
  · rw [hide_out e, hide_out e, upd_ne (fun z => e (by rw [z]; exact h))]
theorem hide_cons_new {S : List Addr} {H : Hp} {p : Addr} (h : H p = none) : hide (p :: S) H = hide S H := by
  funext a
  by_cases e : a = p
  · subst e
    rw [hide_in List.mem_cons_self]
    by_cases e2 : a ∈ S
    · rw [hide_in e2]
    · rw [hide_out e2, h]
  · by_cases e2 : a ∈ S
    · rw [hide_in e2, hide_in (List.mem_cons_of_mem _ e2)]
    · rw [hide_out e2, hide_out (by simp [e, e2])]
theorem hide_cons_upd {S : List Addr} {H : Hp} {p : Addr} {o : HO} (h : H p = none) : hide (p :: S) (upd H p o) = hide S H := by
  rw [hide_upd List.mem_cons_self, hide_cons_new h]
def SOk (S : List Addr) (H : Hp) : Prop := ∀ a ∈ S, H a ≠ none
theorem SOk.mono {S : List Addr} {H H' : Hp} (h : SOk S H) (s : Same H H') : SOk S H' := fun a ha e => h a ha (s.free e)
theorem SOk.new {S : List Addr} {H : Hp} {p : Addr} (h : SOk S H) (n : H p = none) : p ∉ S := fun z => h p z n
theorem same_upd {H : Hp} {p : Addr} (h : H p = none) (o : HO) : Same H (upd H p o) := fun b u q => by rw [upd_ne (ne_of_none q h)]; exact q
theorem hide_upd_at {S : List Addr} {H : Hp} {p : Addr} {o : HO} (h : SOk S H) (n : H p = none) : hide S (upd H p o) p = some o := by
  rw [hide_out (h.new n), upd_same]
theorem Same.ofEq {H H' : Hp} (e : H = H') : Same H H' := e ▸ Same.refl H

/-! a value that stands for data -/
mutual
inductive Rp (K : PySem.W.Frag) (H : Hp) : V → PyData → Prop
  | non : Rp K H .non .none
  | bl (b : Bool) : Rp K H (.bl b) (.bool b)
  | int (i : Int) : Rp K H (.int i) (.int i)
  | str (x : Str) : Rp K H (.str x) (.str x)
  | lst {a : Addr} {xs : List V} {ds : List PyData} : H a = some (.lst xs) → xs.length ≤ sizeLine → RpAll K H xs ds → Rp K H (.ref a) (.list ds)
  | tup {a : Addr} {xs : List V} {ds : List PyData} {o : Obj} : H a = some (.frz o (.tup xs)) → o.dict = none → xs.length ≤ sizeLine → RpAll K H xs ds → Rp K H (.ref a) (.tuple ds)
  | dct {a : Addr} {kvs : List (Int × Int)} : Rd H a (.dK (kvs.map fun p => (Sum.inl p.1, V.int p.2))) → kvs.length ≤ sizeLine → Rp K H (.ref a) (.dict (kvs.map fun p => (.int p.1, .int p.2)))
  | dctF {a : Addr} {o : Obj} {kvs : List (Int × Int)} : H a = some (.frz o (.dK (kvs.map fun p => (Sum.inl p.1, V.int p.2)))) → kvs.length ≤ sizeLine → Rp K H (.ref a) (.dict ((.bool true, .none) :: kvs.map fun p => (.int p.1, .int p.2)))
  | scr {a : Addr} {ns : List Int} : SqL K H a (ns.map V.int) → ns.length ≤ 63 → Rp K H (.ref a) (.dict [(.none, .list (ns.map .int))])
inductive RpAll (K : PySem.W.Frag) (H : Hp) : List V → List PyData → Prop
  | nil : RpAll K H [] []
  | cons {v : V} {vs : List V} {d : PyData} {ds : List PyData} : Rp K H v d → RpAll K H vs ds → RpAll K H (v :: vs) (d :: ds)
end
theorem Rd.same {H H' : Hp} {a : Addr} {u : HO} (r : Rd H a u) (s : Same H H') : Rd H' a u := r.elim (fun e => .inl (s _ _ e)) fun ⟨o, e⟩ => .inr ⟨o, s _ _ e⟩
mutual
theorem Rp.mono {K : PySem.W.Frag} {H H' : Hp} (s : Same H H') : ∀ {v : V} {d : PyData}, Rp K H v d → Rp K H' v d
  | _, _, .non => .non
  | _, _, .bl b => .bl b
  | _, _, .int i => .int i
  | _, _, .str x => .str x
  | _, _, .lst e z r => .lst (s _ _ e) z (RpAll.mono s r)
  | _, _, .tup e k z r => .tup (s _ _ e) k z (RpAll.mono s r)
  | _, _, .dct r z => .dct (Rd.same r s) z
  | _, _, .dctF e z => .dctF (s _ _ e) z
  | _, _, .scr r z => .scr (s.seq r) z
theorem RpAll.mono {K : PySem.W.Frag} {H H' : Hp} (s : Same H H') : ∀ {vs : List V} {ds : List PyData}, RpAll K H vs ds → RpAll K H' vs ds
  | _, _, .nil => .nil
  | _, _, .cons h t => .cons (Rp.mono s h) (RpAll.mono s t)
end
section
variable {K : PySem.W.Frag} {H H' : Hp}
theorem RpAll.len : ∀ {vs : List V} {ds : List PyData}, RpAll K H vs ds → vs.length = ds.length
  | _, _, .nil => rfl
  | _, _, .cons _ t => congrArg (· + 1) t.len
theorem RpAll.get : ∀ {vs : List V} {ds : List PyData} {i : Nat} {d : PyData}, RpAll K H vs ds → ds[i]? = some d → ∃ v, vs[i]? = some v ∧ Rp K H v d
  | _, _, _, _, .nil, e => by simp at e
  | _, _, 0, _, .cons h _, e => ⟨_, rfl, Option.some.inj e ▸ h⟩
  | _, _, i + 1, _, .cons _ t, e => by
    obtain ⟨v, h1, h2⟩ := t.get (i := i) (by simpa using e)
    exact ⟨v, by simpa using h1, h2⟩
theorem RpAll.getV : ∀ {vs : List V} {ds : List PyData} {i : Nat} {v : V}, RpAll K H vs ds → vs[i]? = some v → ∃ d, ds[i]? = some d ∧ Rp K H v d
  | _, _, _, _, .nil, e => by simp at e
  | _, _, 0, _, .cons h _, e => ⟨_, rfl, Option.some.inj e ▸ h⟩
  | _, _, i + 1, _, .cons _ t, e => by
    obtain ⟨v, h1, h2⟩ := t.getV (i := i) (by simpa using e)
    exact ⟨v, by simpa using h1, h2⟩
theorem RpAll.app : ∀ {vs ws : List V} {ds es : List PyData}, RpAll K H vs ds → RpAll K H ws es → RpAll K H (vs ++ ws) (ds ++ es)
  | _, _, _, _, .nil, t => t
  | _, _, _, _, .cons h r, t => .cons h (r.app t)
theorem RpAll.drop : ∀ {vs : List V} {ds : List PyData} (n : Nat), RpAll K H vs ds → RpAll K H (vs.drop n) (ds.drop n)
  | _, _, 0, r => r
  | _, _, _ + 1, .nil => .nil
  | _, _, n + 1, .cons _ t => t.drop n
theorem RpAll.take : ∀ {vs : List V} {ds : List PyData} (n : Nat), RpAll K H vs ds → RpAll K H (vs.take n) (ds.take n)
  | _, _, 0, _ => .nil
  | _, _, _ + 1, .nil => .nil
  | _, _, n + 1, .cons h t => .cons h (t.take n)
theorem RpAll.one {v : V} {d : PyData} (h : Rp K H v d) : RpAll K H [v] [d] := .cons h .nil
theorem RpAll.erase : ∀ {vs : List V} {ds : List PyData} (n : Nat), RpAll K H vs ds → RpAll K H (vs.eraseIdx n) (ds.eraseIdx n)
  | _, _, _, .nil => .nil
  | _, _, 0, .cons _ t => t
  | _, _, n + 1, .cons h t => .cons h (t.erase n)
theorem RpAll.rev : ∀ {vs : List V} {ds : List PyData}, RpAll K H vs ds → RpAll K H vs.reverse ds.reverse
  | _, _, .nil => .nil
  | _, _, .cons h t => by rw [List.reverse_cons, List.reverse_cons]; exact t.rev.app (.one h)
theorem RpAll.flat : ∀ (n : Nat) {vs : List V} {ds : List PyData}, RpAll K H vs ds → RpAll K H (List.replicate n vs).flatten (List.replicate n ds).flatten
  | 0, _, _, _ => .nil
  | n + 1, _, _, r => by rw [List.replicate_succ, List.replicate_succ, List.flatten_cons, List.flatten_cons]; exact r.app (RpAll.flat n r)
/-- whole numbers -/
theorem RpAll.ints : ∀ {vs : List V} {ns : List Int}, RpAll K H vs (ns.map .int) → vs = ns.map V.int
  | _, [], .nil => rfl
  | _, n :: ns, .cons h t => by cases h; rw [RpAll.ints t]; rfl
theorem RpAll.ofInts : ∀ (ns : List Int), RpAll K H (ns.map V.int) (ns.map .int)
  | [] => .nil
  | n :: ns => .cons (.int n) (RpAll.ofInts ns)
theorem RpAll.strs : ∀ {vs : List V} {ns : List Str}, RpAll K H vs (ns.map .str) → vs = ns.map V.str
  | _, [], .nil => rfl
  | _, n :: ns, .cons h t => by cases h; rw [RpAll.strs t]; rfl
theorem RpAll.ofStrs : ∀ (ns : List Str), RpAll K H (ns.map V.str) (ns.map .str)
  | [] => .nil
  | n :: ns => .cons (.str n) (RpAll.ofStrs ns)
theorem RpAll.bls : ∀ {vs : List V} {ns : List Bool}, RpAll K H vs (ns.map .bool) → vs = ns.map V.bl
  | _, [], .nil => rfl
  | _, n :: ns, .cons h t => by cases h; rw [RpAll.bls t]; rfl
end
/-! data without lists, dicts: what no change of a list can reach -/
mutual
def imm : PyData → Bool
  | .none => true
  | .bool _ => true
  | .int _ => true
  | .str _ => true
  | .tuple xs => immAll xs
  | .list _ => false
  | .dict _ => false
def immAll : List PyData → Bool
  | [] => true
  | x :: xs => imm x && immAll xs
end
mutual
/-- such data is seen with the lists at T hidden, too -/
theorem Rp.imm_hide {K : PySem.W.Frag} {S T : List Addr} {H : Hp} (hT : ∀ a ∈ T, ∀ (o : Obj) (xs : List V), H a ≠ some (.frz o (.tup xs))) : ∀ {d : PyData} {v : V}, imm d = true → Rp K (hide S H) v d → Rp K (hide (T ++ S) H) v d
  | .none, _, _, .non => .non
  | .bool _, _, _, .bl b => .bl b
  | .int _, _, _, .int i => .int i
  | .str _, _, _, .str x => .str x
  | .tuple ds, _, h, .tup (a := a) (xs := xs) e k z r => by
    obtain ⟨h1, h2⟩ := hide_some e
    have hn : a ∉ T := fun q => hT a q _ _ h2
    refine .tup (a := a) (xs := xs) ?_ k z (RpAll.imm_hide hT (by simpa [imm] using h) r)
    rw [hide_out (by simp [hn, h1])]
    exact h2
  | .list _, _, h, _ => by simp [imm] at h
  | .dict _, _, h, _ => by simp [imm] at h
theorem RpAll.imm_hide {K : PySem.W.Frag} {S T : List Addr} {H : Hp} (hT : ∀ a ∈ T, ∀ (o : Obj) (xs : List V), H a ≠ some (.frz o (.tup xs))) : ∀ {ds : List PyData} {vs : List V}, immAll ds = true → RpAll K (hide S H) vs ds → RpAll K (hide (T ++ S) H) vs ds
  | [], _, _, .nil => .nil
  | d :: ds, _, h, .cons r t => by
    have h' : imm d = true ∧ immAll ds = true := by simpa [immAll] using h
    exact .cons (Rp.imm_hide hT h'.1 r) (RpAll.imm_hide hT h'.2 t)
end
end DL

set_option Elab.async false
set_option linter.all false
set_option maxRecDepth 100000
namespace DL
open PySem PySem.Spec L2
set_option autoImplicit false

/-! ### what is fixed -/
structure Md where
  P : Program
  w : World
  K : PySem.W.Frag
  mg : PySem.Str → Option Value
  base : Heap
/-- a def's (or a block's) fixed surroundings: its names by slot, its scope, the calls that are allowed within -/
structure Ct where
  m : Md
  N : List PySem.Str
  sc : Scope
  rm : Nat
  /-- which cells are the block's own -/
  fnB : PySem.Str → Bool
structure Ct.Is (G : Ct) (X : Cx) : Prop where
  prog : X.prog = G.m.P
  w : X.w = G.m.w
  K : X.K = G.m.K
  mg : X.mg = G.m.mg
  base : X.base = G.m.base
  N : X.N = G.N
  nd : X.N.Nodup
  sc : X.env.scope = G.sc
  calm : X.calm = true
  rm : Room G.rm X.A
  xe : PassesOwn (model X.prog X.w) X.A X.env X.xe
  fn : ∀ x, X.fn x = G.fnB x
  nodbg : ∀ x ∈ G.N, (x == ("__debug__" : PySem.Str)) = false ∧ (x == ("__classdict__" : PySem.Str)) = false

abbrev DEnv := List (Option PyData)
structure Rel (K : PySem.W.Frag) (S : List Addr) (δ : DEnv) (σ : L2.St) (H : Hp) : Prop where
  len : σ.length = δ.length
  val : ∀ (i : Nat) (d : PyData), δ[i]? = some (some d) → ∃ v, σ[i]? = some (some v) ∧ Rp K (hide S H) v d
theorem Rel.mono {K : PySem.W.Frag} {S : List Addr} {δ : DEnv} {σ : L2.St} {H H' : Hp} (r : Rel K S δ σ H) (s : Same H H') : Rel K S δ σ H' :=
  ⟨r.len, fun i d e => let ⟨v, h1, h2⟩ := r.val i d e; ⟨v, h1, h2.mono (hide_mono s)⟩⟩
theorem Rel.set {K : PySem.W.Frag} {S : List Addr} {δ : DEnv} {σ : L2.St} {H : Hp} {i : Nat} {v : V} {d : PyData} (r : Rel K S δ σ H) (h : Rp K (hide S H) v d) : Rel K S (δ.set i (some d)) (σ.set i (some v)) H := by
  refine ⟨by simp [r.len], fun j e hj => ?_⟩
  by_cases q : i = j
  · subst q
    by_cases hl : i < δ.length
    · rw [List.getElem?_set_self hl] at hj
      cases hj
      exact ⟨v, List.getElem?_set_self (by rw [r.len]; exact hl), h⟩
    · rw [List.getElem?_eq_none (by simpa using hl)] at hj; cases hj
  · rw [List.getElem?_set_ne q] at hj ⊢
    exact r.val j e hj
theorem Rel.forget {K : PySem.W.Frag} {S : List Addr} {δ : DEnv} {σ : L2.St} {H : Hp} (r : Rel K S δ σ H) (i : Nat) (v : Option V) : Rel K S (δ.set i none) (σ.set i v) H := by
  refine ⟨by simp [r.len], fun j e hj => ?_⟩
  by_cases q : i = j
  · subst q
    by_cases hl : i < δ.length
    · rw [List.getElem?_set_self hl] at hj; cases hj
    · rw [List.getElem?_eq_none (by simpa using hl)] at hj; cases hj
  · rw [List.getElem?_set_ne q] at hj ⊢
    exact r.val j e hj

/-! ### the judgements -/
/-- a reading by a relation of what the names hold and what comes of it -/
def tDR (K : PySem.W.Frag) (R : DEnv → PyData → Prop) : TE := fun σ H Q => ∃ S δ d, R δ d ∧ SOk S H ∧ Rel K S δ σ H ∧ ∀ v H', Same H H' → Rp K (hide S H') v d → Q v H'
def tDT (K : PySem.W.Frag) (R : DEnv → Bool → Prop) : TT := fun σ H Q => ∃ S δ b, R δ b ∧ SOk S H ∧ Rel K S δ σ H ∧ ∀ H', Same H H' → Q b H'
def tDA (K : PySem.W.Frag) (R : DEnv → List PyData → Prop) : TA := fun σ H Q => ∃ S δ ds, R δ ds ∧ SOk S H ∧ Rel K S δ σ H ∧ ∀ vs H', Same H H' → RpAll K (hide S H') vs ds → Q vs H'
/-- e gives d where the names hold what δ says -/
def DV (G : Ct) (δ : DEnv) (e : Expr) (d : PyData) : Prop := ∀ X, G.Is X → PE X e (tDR G.m.K fun δ' d' => δ' = δ ∧ d' = d)
def DT (G : Ct) (δ : DEnv) (e : Expr) (b : Bool) : Prop := ∀ X, G.Is X → PT X e (tDT G.m.K fun δ' b' => δ' = δ ∧ b' = b)
/-- a test whatever its whole is -/
def DW (G : Ct) (δ : DEnv) (e : Expr) (b : Bool) : Prop := ∀ X, G.Is X → PW X e (tDT G.m.K fun δ' b' => δ' = δ ∧ b' = b)
def DA (G : Ct) (δ : DEnv) (es : List Expr) (ds : List PyData) : Prop := ∀ X, G.Is X → PA X es (tDA G.m.K fun δ' d' => δ' = δ ∧ d' = ds)
section
variable {X : Cx} {e : Expr} {es : List Expr} {K : PySem.W.Frag}
theorem PE.imp {t t' : TE} (h : PE X e t) (w : ∀ σ H Q, t' σ H Q → t σ H Q) : PE X e t' := ⟨fun pins s σ H Q I q => h.run pins s σ H Q I (w _ _ _ q)⟩
theorem PT.imp {t t' : TT} (h : PT X e t) (w : ∀ σ H Q, t' σ H Q → t σ H Q) : PT X e t' := ⟨fun pins s σ H Q I q => h.run pins s σ H Q I (w _ _ _ q)⟩
theorem PW.imp {t t' : TT} (h : PW X e t) (w : ∀ σ H Q, t' σ H Q → t σ H Q) : PW X e t' := ⟨fun wh pins s σ H Q I q => h.run wh pins s σ H Q I (w _ _ _ q)⟩
theorem PA.imp {t t' : TA} (h : PA X es t) (w : ∀ σ H Q, t' σ H Q → t σ H Q) : PA X es t' := ⟨fun pos pins s σ H Q I q => h.run pos pins s σ H Q I (w _ _ _ q)⟩
theorem PE.rel {R : DEnv → PyData → Prop} (h : ∀ δ d, R δ d → PE X e (tDR K fun δ' d' => δ' = δ ∧ d' = d)) : PE X e (tDR K R) :=
  ⟨fun pins s σ H Q I ⟨S, δ, d, r, q⟩ => (h δ d r).run pins s σ H Q I ⟨S, δ, d, ⟨rfl, rfl⟩, q⟩⟩
theorem PT.rel {R : DEnv → Bool → Prop} (h : ∀ δ d, R δ d → PT X e (tDT K fun δ' d' => δ' = δ ∧ d' = d)) : PT X e (tDT K R) :=
  ⟨fun pins s σ H Q I ⟨S, δ, d, r, q⟩ => (h δ d r).run pins s σ H Q I ⟨S, δ, d, ⟨rfl, rfl⟩, q⟩⟩
end
section
variable {G : Ct} {δ : DEnv} {a b e c : Expr} {es rest : List Expr} {x y d : PyData} {ds : List PyData} {pos : Pos}
theorem DV.conv (h : DV G δ e d) {d' : PyData} (q : d = d') : DV G δ e d' := q ▸ h
theorem DT.conv {b b' : Bool} (h : DT G δ e b) (q : b = b') : DT G δ e b' := q ▸ h
theorem dv_cst {v : V} (hp : ∀ X, G.Is X → PE X e (tC v)) (hr : ∀ H, Rp G.m.K H v d) : DV G δ e d := fun X h => PE.imp (hp X h) fun σ H Q ⟨S, δ', d', ⟨e1, e2⟩, ok, r, q⟩ => by
  subst e1 e2
  exact q v H (Same.refl H) (hr _)
theorem dv_int {i : Int} {j} : DV G δ (.Constant (.int i) j pos) (.int i) := dv_cst (fun _ _ => pe_int) fun _ => .int i
theorem dv_bl {i : Bool} {j} : DV G δ (.Constant (.bool i) j pos) (.bool i) := dv_cst (fun _ _ => pe_bl) fun _ => .bl i
theorem dv_str {i : PySem.Str} {j} : DV G δ (.Constant (.str i) j pos) (.str i) := dv_cst (fun _ _ => pe_str) fun _ => .str i
theorem dv_non {j} : DV G δ (.Constant .none j pos) .none := dv_cst (fun _ _ => pe_non) fun _ => .non
/-- names that one may read -/
def visB (sc : Scope) (x : PySem.Str) : Bool := match sc.names.lookup x with
  | some .local => true
  | some .cell => true
  | some .free => true
  | _ => false
theorem vis_of {sc : Scope} {x : PySem.Str} (h : visB sc x = true) : Vis sc x := by
  unfold visB at h
  unfold Vis
  split at h <;> simp_all
/-- names that one may store -/
def locB (G : Ct) (x : PySem.Str) : Bool := match G.sc.names.lookup x with
  | some .local => true
  | some .cell => G.fnB x
  | _ => false
theorem loc_of {x : PySem.Str} (h : locB G x = true) : L2.Loc G.sc x := by
  unfold locB at h
  unfold L2.Loc
  split at h <;> simp_all
theorem loc_fn {X : Cx} (hX : G.Is X) {x : PySem.Str} (h : locB G x = true) : X.fn x = true ∨ X.env.scope.names.lookup x = some .local := by
  rw [hX.fn, hX.sc]
  unfold locB at h
  split at h <;> simp_all
theorem dv_n (i : Nat) {x : PySem.Str} (hN : G.N[i]? = some x) (hv : visB G.sc x = true) (hd : δ[i]? = some (some d)) : DV G δ (.Name x pos) d := fun X h => by
  have hN' : X.N[i]? = some x := by rw [h.N]; exact hN
  have hx := h.nodbg x (List.mem_of_getElem? hN)
  refine PE.imp (pe_var hN' (by rw [h.sc]; exact vis_of hv) hx.1 hx.2) fun σ H Q ⟨S, δ', d', ⟨e1, e2⟩, ok, r, q⟩ => ?_
  subst e1 e2
  obtain ⟨v, h1, h2⟩ := r.val i _ hd
  exact ⟨v, h1, q v H (Same.refl H) h2⟩
/-- two parts -/
theorem dv_bin {f : Value → Value → Sem Value} {r : R2} (hp : ∀ X, G.Is X → ∀ {ta tb : TE}, PE X a ta → PE X b tb → PE X e (tOp r ta tb)) (ha : DV G δ a x) (hb : DV G δ b y)
    (hr : ∀ S H v w Q, SOk S H → Rp G.m.K (hide S H) v x → Rp G.m.K (hide S H) w y → (∀ u H', Same H H' → Rp G.m.K (hide S H') u d → Q u H') → r v w H Q) : DV G δ e d := fun X h =>
  PE.imp (hp X h (ha X h) (hb X h)) fun σ H Q ⟨S, δ', d', ⟨e1, e2⟩, ok, R, q⟩ => by
    subst e1 e2
    exact ⟨S, _, _, ⟨rfl, rfl⟩, ok, R, fun v H1 s1 r1 => ⟨S, _, _, ⟨rfl, rfl⟩, ok.mono s1, R.mono s1, fun w H2 s2 r2 =>
      hr S H2 v w Q ((ok.mono s1).mono s2) (r1.mono (hide_mono s2)) r2 fun u H3 s3 r3 => q u H3 ((s1.trans s2).trans s3) r3⟩⟩
theorem dv_op {op : Operator} {r : R2} (ho : ∀ X, G.Is X → OpR X (binaryOp op) r) (ha : DV G δ a x) (hb : DV G δ b y)
    (hr : ∀ S H v w Q, SOk S H → Rp G.m.K (hide S H) v x → Rp G.m.K (hide S H) w y → (∀ u H', Same H H' → Rp G.m.K (hide S H') u d → Q u H') → r v w H Q) : DV G δ (.BinOp a op b pos) d :=
  dv_bin (f := binaryOp op) (fun X h _ _ p q => pe_op (ho X h) p q) ha hb hr
/-- one part -/
theorem dv_un {r : V → Hp → VK → Prop} (hp : ∀ X, G.Is X → ∀ {ta : TE}, PE X a ta → PE X e (tUn r ta)) (ha : DV G δ a x)
    (hr : ∀ S H v Q, SOk S H → Rp G.m.K (hide S H) v x → (∀ u H', Same H H' → Rp G.m.K (hide S H') u d → Q u H') → r v H Q) : DV G δ e d := fun X h =>
  PE.imp (hp X h (ha X h)) fun σ H Q ⟨S, δ', d', ⟨e1, e2⟩, ok, R, q⟩ => by
    subst e1 e2
    exact ⟨S, _, _, ⟨rfl, rfl⟩, ok, R, fun v H1 s1 r1 => hr S H1 v Q (ok.mono s1) r1 fun u H3 s3 r3 => q u H3 (s1.trans s3) r3⟩
theorem dv_neg {i : Int} (ha : DV G δ a (.int i)) : DV G δ (.UnaryOp .USub a pos) (.int (-i)) :=
  dv_un (r := rU fun i => .int (-i)) (fun X h _ p => pe_un un_neg p) ha fun S H v Q ok r q => by
    cases r
    exact ⟨i, rfl, q _ H (Same.refl H) (.int _)⟩

/-! ### arguments, displays -/
theorem da_nil : DA G δ [] [] := fun X h => PA.imp pa_nil fun σ H Q ⟨S, δ', d', ⟨e1, e2⟩, ok, R, q⟩ => by
  subst e1 e2
  exact q [] H (Same.refl H) .nil
theorem da_cons (ha : DV G δ a x) (hr : DA G δ es ds) (hs : ∀ env : Env, starEach (a :: es) env = (false, eval a env) :: starEach es env := by intro _; rfl) : DA G δ (a :: es) (x :: ds) := fun X h =>
  PA.imp (pa_cons (ha X h) (hr X h) (hs _)) fun σ H Q ⟨S, δ', d', ⟨e1, e2⟩, ok, R, q⟩ => by
    subst e1 e2
    exact ⟨S, _, _, ⟨rfl, rfl⟩, ok, R, fun v H1 s1 r1 => ⟨S, _, _, ⟨rfl, rfl⟩, ok.mono s1, R.mono s1, fun w H2 s2 r2 => q (v :: w) H2 (s1.trans s2) (.cons (r1.mono (hide_mono s2)) r2)⟩⟩
/-! tuples: what stands at the address is known, its own dict is none -/
theorem inv_tnew {X : Cx} {pins : List (Addr × Obj)} {σ : L2.St} {H : Hp} {s : Shared} {ys : List V} {its : List Value} {t' : Nat} (I : Inv X pins σ H s) (hv : Vals ys its) (hz : ys.length ≤ sizeLine) :
    Inv X pins σ (upd H s.heap.objs.size (.frz { cls := .type "tuple", data := .seq its.toArray } (.tup ys))) { s with heap := s.heap.push { cls := .type "tuple", data := .seq its.toArray }, toks := t' } :=
  I.laid (fun _ _ q => Heap.get?_push_of_some _ q) (Nat.le_refl _) ⟨Heap.get?_push_size _ rfl, hz, its, hv, PyProof.Rows.IsTup.new _ _⟩
/-- a new tuple of these -/
abbrev NewT (H : Hp) (xs : List V) (Q : VK) : Prop := ∀ (p : Addr) (o : Obj), H p = none → o.dict = none → Q (.ref p) (upd H p (.frz o (.tup xs)))
theorem newT {X : Cx} {pins : List (Addr × Obj)} {σ : L2.St} {H : Hp} {s : Shared} {ys : List V} {its : List Value} {t' : Nat} {Q : VK} (I : Inv X pins σ H s) (hv : Vals ys its) (hz : ys.length ≤ sizeLine) (q : NewT H ys Q) :
    EP X pins σ Q (.ref s.heap.objs.size) { s with heap := s.heap.push { cls := .type "tuple", data := .seq its.toArray }, toks := t' } :=
  ⟨.ref s.heap.objs.size, _, inv_tnew I hv hz, rfl, q _ { cls := .type "tuple", data := .seq its.toArray } (I.hok.fresh (Nat.le_refl _)) rfl⟩
theorem SqT.frz {K : PySem.W.Frag} {H : Hp} {a : Addr} {o : Obj} {xs : List V} (e : H a = some (.frz o (.tup xs))) : SqT K H a xs := .inl (.inr ⟨o, e⟩)
theorem Rp.newT {K : PySem.W.Frag} {S : List Addr} {H H0 : Hp} {xs : List V} {ds : List PyData} {Q : VK} (ok : SOk S H) (hz : xs.length ≤ sizeLine) (r : RpAll K (hide S H) xs ds) (s0 : Same H0 H) (q : ∀ v H', Same H0 H' → Rp K (hide S H') v (.tuple ds) → Q v H') : NewT H xs Q :=
  fun p _ hp ho => q _ _ (s0.trans (same_upd hp _)) (.tup (hide_upd_at ok hp) ho hz (r.mono (hide_mono (same_upd hp _))))
def tTupF (t : TA) : TE := fun σ H Q => t σ H fun xs H1 => xs.length ≤ sizeLine ∧ NewT H1 xs Q
theorem pe_tupF {X : Cx} {t : TA} {k} (h : PA X es t) : PE X (.Tuple es k pos) (tTupF t) := by
  refine ⟨fun pins s σ H Q I hq => ?_⟩
  refine wpAny_Tuple_spliced (thn (h.run pos pins s σ H _ I hq) fun us s1 ⟨xs, H1, I1, r, z, q⟩ => ⟨by rw [← r.length]; exact z, ?_⟩)
  exact newT (t' := s1.toks) I1 r z q
theorem dv_tup {k} (h : DA G δ es ds) (hz : ds.length ≤ 1000) : DV G δ (.Tuple es k pos) (.tuple ds) := fun X hX =>
  PE.imp (pe_tupF (h X hX)) fun σ H Q ⟨S, δ', d', ⟨e1, e2⟩, ok, R, q⟩ => by
    subst e1 e2
    refine ⟨S, _, _, ⟨rfl, rfl⟩, ok, R, fun vs H1 s1 r1 => ?_⟩
    have hz' : vs.length ≤ sizeLine := by rw [r1.len]; exact Nat.le_of_lt (small1000 hz)
    exact ⟨hz', Rp.newT (ok.mono s1) hz' r1 s1 q⟩
/-- a list that is new: made last, its items stood ahead -/
def tDN (K : PySem.W.Frag) (R : DEnv → List PyData → Prop) : TE := fun σ H Q => ∃ S δ ds, R δ ds ∧ SOk S H ∧ Rel K S δ σ H ∧
  ∀ xs p H', Same H H' → H' p = none → xs.length ≤ sizeLine → RpAll K (hide S H') xs ds → Q (.ref p) (upd H' p (.lst xs))
def DN (G : Ct) (δ : DEnv) (e : Expr) (ds : List PyData) : Prop := ∀ X, G.Is X → PE X e (tDN G.m.K fun δ' d' => δ' = δ ∧ d' = ds)
theorem dn_dv (h : DN G δ e ds) : DV G δ e (.list ds) := fun X hX =>
  PE.imp (h X hX) fun σ H Q ⟨S, δ', d', ⟨e1, e2⟩, ok, R, q⟩ => by
    subst e1 e2
    exact ⟨S, _, _, ⟨rfl, rfl⟩, ok, R, fun xs p H1 s1 hp hz r1 => q _ _ (s1.trans (same_upd hp _)) (.lst (hide_upd_at (ok.mono s1) hp) hz (r1.mono (hide_mono (same_upd hp _))))⟩
theorem DN.conv (h : DN G δ e ds) {ds' : List PyData} (q : ds = ds') : DN G δ e ds' := q ▸ h
theorem dn_lst (h : DA G δ es ds) (hz : ds.length ≤ 1000) : DN G δ (.List es pos) ds := fun X hX =>
  PE.imp (pe_lst (h X hX)) fun σ H Q ⟨S, δ', d', ⟨e1, e2⟩, ok, R, q⟩ => by
    subst e1 e2
    exact ⟨S, _, _, ⟨rfl, rfl⟩, ok, R, fun vs H1 s1 r1 => ⟨by rw [r1.len]; exact Nat.le_of_lt (small1000 hz), fun p hp => q vs p H1 s1 hp (by rw [r1.len]; exact Nat.le_of_lt (small1000 hz)) r1⟩⟩

/-! ### tests, and, or, not -/
theorem dt_val {k : Bool} (ha : DV G δ e (.bool k)) (he : ∀ (env : Env) whole, isTrue e env whole = (do let v ← whole; standAt e.pos; holding [v] (truthy v)) := by intro _ _; rfl) : DT G δ e k := fun X h =>
  PT.imp (pt_val (ha X h) (he _)) fun σ H Q ⟨S, δ', d', ⟨e1, e2⟩, ok, R, q⟩ => by
    subst e1 e2
    exact ⟨S, _, _, ⟨rfl, rfl⟩, ok, R, fun v H1 s1 r1 => by cases r1; exact ⟨_, rfl, q H1 s1⟩⟩
theorem dt_w {k : Bool} (h : DW G δ e k) : DT G δ e k := fun X hX => (h X hX).pt
theorem dw_and1 {k : Bool} (h : DT G δ a k) : DW G δ (.BoolOp .And [a] pos) k := fun X hX => pw_and1 (h X hX)
theorem dw_or1 {k : Bool} (h : DT G δ a k) : DW G δ (.BoolOp .Or [a] pos) k := fun X hX => pw_or1 (h X hX)
theorem dw_and {k j : Bool} (ha : DT G δ a k) (hb : k = true → DW G δ (.BoolOp .And (b :: rest) pos) j) : DW G δ (.BoolOp .And (a :: b :: rest) pos) (k && j) := fun X h => by
  cases k with
  | true =>
    refine PW.imp (pw_and (ha X h) (hb rfl X h)) fun σ H Q ⟨S, δ', d', ⟨e1, e2⟩, ok, R, q⟩ => ?_
    subst e1 e2
    refine ⟨S, _, _, ⟨rfl, rfl⟩, ok, R, fun H1 s1 => ?_⟩
    refine iteT ?_
    exact ⟨S, _, _, ⟨rfl, rfl⟩, ok.mono s1, R.mono s1, fun H2 s2 => q H2 (s1.trans s2)⟩
  | false =>
    refine ⟨fun wh pins s σ H Q I ⟨S, δ', d', ⟨e1, e2⟩, ok, R, q⟩ => ?_⟩
    subst e1 e2
    refine PyProof.Rows.isTrue_and (thn ((ha X h).run pins s σ H (fun c H1 => c = false ∧ Q false H1) I ⟨S, _, _, ⟨rfl, rfl⟩, ok, R, fun H1 s1 => ⟨rfl, q H1 s1⟩⟩) fun c s1 ⟨H1, I1, ec, q1⟩ => ?_)
    subst ec
    exact ⟨H1, I1, q1⟩
theorem dw_or {k j : Bool} (ha : DT G δ a k) (hb : k = false → DW G δ (.BoolOp .Or (b :: rest) pos) j) : DW G δ (.BoolOp .Or (a :: b :: rest) pos) (k || j) := fun X h => by
  cases k with
  | false =>
    refine PW.imp (pw_or (ha X h) (hb rfl X h)) fun σ H Q ⟨S, δ', d', ⟨e1, e2⟩, ok, R, q⟩ => ?_
    subst e1 e2
    refine ⟨S, _, _, ⟨rfl, rfl⟩, ok, R, fun H1 s1 => ?_⟩
    refine iteF ?_
    exact ⟨S, _, _, ⟨rfl, rfl⟩, ok.mono s1, R.mono s1, fun H2 s2 => q H2 (s1.trans s2)⟩
  | true =>
    refine ⟨fun wh pins s σ H Q I ⟨S, δ', d', ⟨e1, e2⟩, ok, R, q⟩ => ?_⟩
    subst e1 e2
    refine PyProof.Rows.isTrue_or (thn ((ha X h).run pins s σ H (fun c H1 => c = true ∧ Q true H1) I ⟨S, _, _, ⟨rfl, rfl⟩, ok, R, fun H1 s1 => ⟨rfl, q H1 s1⟩⟩) fun c s1 ⟨H1, I1, ec, q1⟩ => ?_)
    subst ec
    exact ⟨H1, I1, q1⟩
theorem dt_not {k : Bool} (ha : DT G δ a k) : DT G δ (.UnaryOp .Not a pos) (!k) := fun X h =>
  PT.imp (pt_not (ha X h)) fun σ H Q ⟨S, δ', d', ⟨e1, e2⟩, ok, R, q⟩ => by
    subst e1 e2
    exact ⟨S, _, _, ⟨rfl, rfl⟩, ok, R, fun H1 s1 => q H1 s1⟩
/-- .. as values -/
theorem dv_bop1 {op : BoolOp} (ha : DV G δ a x) : DV G δ (.BoolOp op [a] pos) x := fun X h => pe_one (ha X h)
theorem dv_and {k j : Bool} (ha : DV G δ a (.bool k)) (hb : k = true → DV G δ (.BoolOp .And (b :: rest) pos) (.bool j)) : DV G δ (.BoolOp .And (a :: b :: rest) pos) (.bool (k && j)) := fun X h => by
  cases k with
  | true =>
    refine PE.imp (pe_and (ha X h) (hb rfl X h)) fun σ H Q ⟨S, δ', d', ⟨e1, e2⟩, ok, R, q⟩ => ?_
    subst e1 e2
    refine ⟨S, _, _, ⟨rfl, rfl⟩, ok, R, fun v H1 s1 r1 => ?_⟩
    cases r1
    refine ⟨true, rfl, ?_⟩
    refine iteT ?_
    exact ⟨S, _, _, ⟨rfl, rfl⟩, ok.mono s1, R.mono s1, fun v H2 s2 r2 => q v H2 (s1.trans s2) r2⟩
  | false =>
    refine ⟨fun pins s σ H Q I ⟨S, δ', d', ⟨e1, e2⟩, ok, R, q⟩ => ?_⟩
    subst e1 e2
    refine PyProof.Rows.BoolOp_and (thn ((ha X h).run pins s σ H (fun v H1 => v = .bl false ∧ Q (.bl false) H1) I ⟨S, _, _, ⟨rfl, rfl⟩, ok, R, fun v H1 s1 r1 => by cases r1; exact ⟨rfl, q _ H1 s1 (.bl _)⟩⟩) fun u s1 ⟨v, H1, I1, ru, ev, q1⟩ => ?_)
    subst ev
    cases ru
    exact wpAny_truthy_bool ⟨.bl false, H1, I1, rfl, q1⟩
theorem dv_or {k j : Bool} (ha : DV G δ a (.bool k)) (hb : k = false → DV G δ (.BoolOp .Or (b :: rest) pos) (.bool j)) : DV G δ (.BoolOp .Or (a :: b :: rest) pos) (.bool (k || j)) := fun X h => by
  cases k with
  | false =>
    refine PE.imp (pe_or (ha X h) (hb rfl X h)) fun σ H Q ⟨S, δ', d', ⟨e1, e2⟩, ok, R, q⟩ => ?_
    subst e1 e2
    refine ⟨S, _, _, ⟨rfl, rfl⟩, ok, R, fun v H1 s1 r1 => ?_⟩
    cases r1
    refine ⟨false, rfl, ?_⟩
    refine iteF ?_
    exact ⟨S, _, _, ⟨rfl, rfl⟩, ok.mono s1, R.mono s1, fun v H2 s2 r2 => q v H2 (s1.trans s2) r2⟩
  | true =>
    refine ⟨fun pins s σ H Q I ⟨S, δ', d', ⟨e1, e2⟩, ok, R, q⟩ => ?_⟩
    subst e1 e2
    refine PyProof.Rows.BoolOp_or (thn ((ha X h).run pins s σ H (fun v H1 => v = .bl true ∧ Q (.bl true) H1) I ⟨S, _, _, ⟨rfl, rfl⟩, ok, R, fun v H1 s1 r1 => by cases r1; exact ⟨rfl, q _ H1 s1 (.bl _)⟩⟩) fun u s1 ⟨v, H1, I1, ru, ev, q1⟩ => ?_)
    subst ev
    cases ru
    exact wpAny_truthy_bool ⟨.bl true, H1, I1, rfl, q1⟩
theorem dv_not {k : Bool} (ha : DV G δ a (.bool k)) : DV G δ (.UnaryOp .Not a pos) (.bool (!k)) := fun X h =>
  PE.imp (pe_not (ha X h)) fun σ H Q ⟨S, δ', d', ⟨e1, e2⟩, ok, R, q⟩ => by
    subst e1 e2
    exact ⟨S, _, _, ⟨rfl, rfl⟩, ok, R, fun v H1 s1 r1 => by cases r1; exact ⟨_, rfl, q _ H1 s1 (.bl _)⟩⟩
end
end DL

set_option Elab.async false
set_option linter.all false
set_option maxRecDepth 100000
namespace DL
open PySem PySem.Spec L2
set_option autoImplicit false

/-! ### data for the library's own equality -/
mutual
theorem Rp.toDp {K : PySem.W.Frag} {S : List Addr} {H : Hp} : ∀ {d : PyData} {v : V}, d.canLay0 = true → Rp K (hide S H) v d → Dp K H v d
  | .none, _, _, .non => .non
  | .bool _, _, _, .bl b => .bl b
  | .int _, _, _, .int i => .int i
  | .str _, _, _, .str x => .str x
  | .tuple ds, _, h, .tup e _ z r => .tup (SqT.frz (hide_some e).2) (RpAll.toDp (by simpa [PyData.canLay0] using h) r)
  | .list ds, _, h, .lst e z r => .lst (SqL.of (hide_some e).2) (RpAll.toDp (by simpa [PyData.canLay0] using h) r)
  | .dict _, _, h, _ => by simp [PyData.canLay0] at h
theorem RpAll.toDp {K : PySem.W.Frag} {S : List Addr} {H : Hp} : ∀ {ds : List PyData} {vs : List V}, PyData.canLayAll0 ds = true → RpAll K (hide S H) vs ds → DpAll K H vs ds
  | [], _, _, .nil => .nil
  | d :: ds, _, h, .cons r t => by
    have h' : d.canLay0 = true ∧ PyData.canLayAll0 ds = true := by simpa [PyData.canLayAll0] using h
    exact .cons (Rp.toDp h'.1 r) (RpAll.toDp h'.2 t)
end
theorem lay_of {d : PyData} (h : SeqAt.shaped d = true) : d.canLay0 = true := SeqAt.canLay_of_shaped h
/-! tuple + tuple, tuple * int -/
def rCatF (K : PySem.W.Frag) : R2 := fun x y H Q => ∃ a b xs ys, x = .ref a ∧ y = .ref b ∧ SqT K H a xs ∧ SqT K H b ys ∧ xs.length + ys.length ≤ sizeLine ∧
  (xs = [] → Q (.ref b) H) ∧ (ys = [] → Q (.ref a) H) ∧ NewT H (xs ++ ys) Q
theorem op_catF {X : Cx} : OpR X (binaryOp .Add) (rCatF X.K) := by
  intro pins s σ H x y v u Q I rx ry h
  obtain ⟨a, b, xs, ys, ex, ey, ha, hb, hz, q0, q1, q2⟩ := h
  subst ex ey
  obtain rfl : v = .ref a := rx
  obtain rfl : u = .ref b := ry
  obtain ⟨i1, r1, p1, z1⟩ := I.tuple ha
  obtain ⟨i2, r2, p2, z2⟩ := I.tuple hb
  by_cases hx : i1 = []
  · subst hx
    exact cat_tup0 p1 p2 ⟨.ref b, H, I, rfl, q0 (by cases r1; rfl)⟩
  · refine HT.cat_tup p1 p2 hx (fun e => ⟨.ref a, H, I, rfl, q1 (r2.nil_iff.mp e)⟩) (fun _ => ?_) (by rw [← r1.length, ← r2.length]; exact hz)
    exact newT (t' := s.toks) I (r1.append r2) (by rw [List.length_append]; exact hz) q2
section
variable {G : Ct} {δ : DEnv} {a b c e : Expr} {es rest : List Expr} {x y z d : PyData} {ds : List PyData} {pos : Pos}
/-! ### + - * % // -/
inductive DAdd : PyData → PyData → PyData → Prop
  | int (i j : Int) : DAdd (.int i) (.int j) (.int (i + j))
  | str (i j : PySem.Str) (h : i.length + j.length ≤ sizeLine) : DAdd (.str i) (.str j) (.str (i ++ j))
  | tup (xs ys : List PyData) (h : xs.length + ys.length ≤ 1000) : DAdd (.tuple xs) (.tuple ys) (.tuple (xs ++ ys))
theorem dv_add (ha : DV G δ a x) (hb : DV G δ b y) (h : DAdd x y d) : DV G δ (.BinOp a .Add b pos) d := by
  cases h with
  | int i j =>
    refine dv_op (r := rI0 fun i j => .int (i + j)) (fun _ _ => op_add) ha hb fun S H v w Q ok r1 r2 q => ?_
    cases r1
    cases r2
    exact ⟨i, j, rfl, rfl, q _ H (Same.refl H) (.int _)⟩
  | str i j h =>
    refine dv_op (r := fun x y H Q => ∃ i j, x = .str i ∧ y = .str j ∧ i.length + j.length ≤ sizeLine ∧ Q (.str (i ++ j)) H) (fun _ _ => op_add_str) ha hb fun S H v w Q ok r1 r2 q => ?_
    cases r1
    cases r2
    exact ⟨i, j, rfl, rfl, h, q _ H (Same.refl H) (.str _)⟩
  | tup xs ys h =>
    refine dv_op (r := rCatF G.m.K) (fun X hX => hX.K ▸ op_catF) ha hb fun S H v w Q ok r1 r2 q => ?_
    cases r1 with
    | tup e1 k1 z1 a1 =>
      cases r2 with
      | tup e2 k2 z2 a2 =>
        rename_i p vs _ p' ws _
        have hz : vs.length + ws.length ≤ sizeLine := by rw [a1.len, a2.len]; exact Nat.le_of_lt (small1000 h)
        refine ⟨p, p', vs, ws, rfl, rfl, SqT.frz (hide_some e1).2, SqT.frz (hide_some e2).2, hz, fun hx => ?_, fun hy => ?_, Rp.newT ok (by rw [List.length_append]; exact hz) (a1.app a2) (Same.refl H) q⟩
        · subst hx
          cases a1
          exact q _ H (Same.refl H) (.tup e2 k2 z2 a2)
        · subst hy
          cases a2
          rw [List.append_nil] at q
          exact q _ H (Same.refl H) (.tup e1 k1 z1 a1)
/-- list + list: a new one -/
theorem dn_cat {xs ys : List PyData} (ha : DV G δ a (.list xs)) (hb : DV G δ b (.list ys)) (h : xs.length + ys.length ≤ 1000) : DN G δ (.BinOp a .Add b pos) (xs ++ ys) := fun X hX =>
  PE.imp (pe_op op_cat (ha X hX) (hb X hX)) fun σ H Q ⟨S, δ', d', ⟨e1, e2⟩, ok, R, q⟩ => by
    subst e1 e2
    refine ⟨S, _, _, ⟨rfl, rfl⟩, ok, R, fun v H1 s1 r1 => ⟨S, _, _, ⟨rfl, rfl⟩, ok.mono s1, R.mono s1, fun w H2 s2 r2 => ?_⟩⟩
    cases r1 with
    | lst e1 z1 a1 =>
      cases r2 with
      | lst e2 z2 a2 =>
        rename_i p vs p' ws
        have hz : vs.length + ws.length ≤ sizeLine := by rw [a1.len, a2.len]; exact Nat.le_of_lt (small1000 h)
        exact ⟨p, p', vs, ws, rfl, rfl, s2 _ _ (hide_some e1).2, (hide_some e2).2, hz, fun t ht => q _ t H2 (s1.trans s2) ht (by rw [List.length_append]; exact hz) ((a1.mono (hide_mono s2)).app a2)⟩
theorem dv_sub {i j : Int} (ha : DV G δ a (.int i)) (hb : DV G δ b (.int j)) : DV G δ (.BinOp a .Sub b pos) (.int (i - j)) :=
  dv_op (r := rI0 fun i j => .int (i - j)) (fun _ _ => op_sub) ha hb fun S H v w Q ok r1 r2 q => by
    cases r1
    cases r2
    exact ⟨i, j, rfl, rfl, q _ H (Same.refl H) (.int _)⟩
theorem dv_mul {i j : Int} (ha : DV G δ a (.int i)) (hb : DV G δ b (.int j)) (h : CMulW i j) : DV G δ (.BinOp a .Mult b pos) (.int (i * j)) :=
  dv_op (r := rI CMulW fun i j => .int (i * j)) (fun _ _ => op_mulW) ha hb fun S H v w Q ok r1 r2 q => by
    cases r1
    cases r2
    exact ⟨i, j, rfl, rfl, h, q _ H (Same.refl H) (.int _)⟩
theorem dv_mod {i j : Int} (ha : DV G δ a (.int i)) (hb : DV G δ b (.int j)) (h : 0 < j) : DV G δ (.BinOp a .Mod b pos) (.int (i % j)) :=
  dv_op (r := rI (fun _ j => 0 < j) fun i j => .int (i % j)) (fun _ _ => op_mod) ha hb fun S H v w Q ok r1 r2 q => by
    cases r1
    cases r2
    exact ⟨i, j, rfl, rfl, h, q _ H (Same.refl H) (.int _)⟩
theorem dv_fdiv {i j : Int} (ha : DV G δ a (.int i)) (hb : DV G δ b (.int j)) (h : CDivW i j) : DV G δ (.BinOp a .FloorDiv b pos) (.int (i / j)) :=
  dv_op (r := rI CDivW fun i j => .int (i / j)) (fun _ _ => op_fdivW) ha hb fun S H v w Q ok r1 r2 q => by
    cases r1
    cases r2
    exact ⟨i, j, rfl, rfl, h, q _ H (Same.refl H) (.int _)⟩
/-! ### comparisons: of two parts, an answer -/
structure DC (G : Ct) (δ : DEnv) (op : CmpOp) (a b : Expr) (k : Bool) : Prop where
  ex : ∃ x y, DV G δ a x ∧ DV G δ b y ∧ ∀ X, G.Is X → ∃ r : R2, OpR X (compareOp op) r ∧ ∀ S H v w (Q : VK), SOk S H → Rp G.m.K (hide S H) v x → Rp G.m.K (hide S H) w y → Q (.bl k) H → r v w H Q
theorem DC.conv {op : CmpOp} {k k' : Bool} (h : DC G δ op a b k) (q : k = k') : DC G δ op a b k' := q ▸ h
theorem dv_c {op : CmpOp} {k : Bool} (h : DC G δ op a b k) (hm : behindInMarks op b = false := by first | exact nomark _ | rfl) : DV G δ (.Compare a [op] [b] pos) (.bool k) := fun X hX => by
  obtain ⟨x, y, ha, hb, hr⟩ := h.ex
  obtain ⟨r, ho, hq⟩ := hr X hX
  refine PE.imp (pe_cmpR ho (ha X hX) (hb X hX) hm) fun σ H Q ⟨S, δ', d', ⟨e1, e2⟩, ok, R, q⟩ => ?_
  subst e1 e2
  exact ⟨S, _, _, ⟨rfl, rfl⟩, ok, R, fun v H1 s1 r1 => ⟨S, _, _, ⟨rfl, rfl⟩, ok.mono s1, R.mono s1, fun w H2 s2 r2 =>
    hq S H2 v w Q ((ok.mono s1).mono s2) (r1.mono (hide_mono s2)) r2 (q _ H2 (s1.trans s2) (.bl _))⟩⟩
theorem dt_c {op : CmpOp} {k : Bool} (h : DC G δ op a b k) (hm : behindInMarks op b = false := by first | exact nomark _ | rfl) : DT G δ (.Compare a [op] [b] pos) k := fun X hX => by
  obtain ⟨x, y, ha, hb, hr⟩ := h.ex
  obtain ⟨r, ho, hq⟩ := hr X hX
  refine PT.imp (pt_cmpR ho (ha X hX) (hb X hX) hm) fun σ H Q ⟨S, δ', d', ⟨e1, e2⟩, ok, R, q⟩ => ?_
  subst e1 e2
  exact ⟨S, _, _, ⟨rfl, rfl⟩, ok, R, fun v H1 s1 r1 => ⟨S, _, _, ⟨rfl, rfl⟩, ok.mono s1, R.mono s1, fun w H2 s2 r2 =>
    hq S H2 v w _ ((ok.mono s1).mono s2) (r1.mono (hide_mono s2)) r2 ⟨_, rfl, q H2 (s1.trans s2)⟩⟩⟩
theorem dc_lt {i j : Int} (ha : DV G δ a (.int i)) (hb : DV G δ b (.int j)) : DC G δ .Lt a b (decide (i < j)) :=
  ⟨_, _, ha, hb, fun X _ => ⟨_, op_lt, fun S H v w Q ok r1 r2 q => by cases r1; cases r2; exact ⟨i, j, rfl, rfl, q⟩⟩⟩
theorem dc_le {i j : Int} (ha : DV G δ a (.int i)) (hb : DV G δ b (.int j)) : DC G δ .LtE a b (decide (i ≤ j)) :=
  ⟨_, _, ha, hb, fun X _ => ⟨_, op_le, fun S H v w Q ok r1 r2 q => by cases r1; cases r2; exact ⟨i, j, rfl, rfl, q⟩⟩⟩
theorem dc_gt {i j : Int} (ha : DV G δ a (.int i)) (hb : DV G δ b (.int j)) : DC G δ .Gt a b (decide (j < i)) :=
  ⟨_, _, ha, hb, fun X _ => ⟨_, op_gt, fun S H v w Q ok r1 r2 q => by cases r1; cases r2; exact ⟨i, j, rfl, rfl, q⟩⟩⟩
theorem dc_ge {i j : Int} (ha : DV G δ a (.int i)) (hb : DV G δ b (.int j)) : DC G δ .GtE a b (decide (j ≤ i)) :=
  ⟨_, _, ha, hb, fun X _ => ⟨_, op_ge, fun S H v w Q ok r1 r2 q => by cases r1; cases r2; exact ⟨i, j, rfl, rfl, q⟩⟩⟩
/-- tuples of whole numbers -/
theorem dc_ltt {ns ms : List Int} (ha : DV G δ a (.tuple (ns.map .int))) (hb : DV G δ b (.tuple (ms.map .int))) : DC G δ .Lt a b (HT.lexLt ns ms) :=
  ⟨_, _, ha, hb, fun X hX => ⟨rLtT G.m.K, hX.K ▸ op_ltT hX.rm.units0, fun S H v w Q ok r1 r2 q => by
    cases r1 with
    | tup e1 _ z1 a1 =>
      cases r2 with
      | tup e2 _ z2 a2 =>
        have e3 := a1.ints
        have e4 := a2.ints
        subst e3 e4
        exact ⟨_, _, ns, ms, rfl, rfl, SqT.frz (hide_some e1).2, SqT.frz (hide_some e2).2, q⟩⟩⟩
theorem dc_eq (ha : DV G δ a x) (hb : DV G δ b y) (hx : SeqAt.shaped x = true) (hy : SeqAt.shaped y = true) : DC G δ .Eq a b (PyData.eqv x y) :=
  ⟨_, _, ha, hb, fun X hX => ⟨rEqD G.m.K, hX.K ▸ op_eqD hX.rm.units, fun S H v w Q ok r1 r2 q => ⟨x, y, r1.toDp (lay_of hx), r2.toDp (lay_of hy), hx, hy, q⟩⟩⟩
theorem dc_ne (ha : DV G δ a x) (hb : DV G δ b y) (hx : SeqAt.shaped x = true) (hy : SeqAt.shaped y = true) : DC G δ .NotEq a b (!PyData.eqv x y) :=
  ⟨_, _, ha, hb, fun X hX => ⟨rNeD G.m.K, hX.K ▸ op_neD hX.rm.units, fun S H v w Q ok r1 r2 q => ⟨x, y, r1.toDp (lay_of hx), r2.toDp (lay_of hy), hx, hy, q⟩⟩⟩
/-- None or not -/
theorem Rp.non_iff {K : PySem.W.Frag} {H : Hp} {v : V} (r : Rp K H v d) : decide (v = .non) = (match d with | .none => true | _ => false) := by
  cases r <;> rfl
def isNoneD : PyData → Bool
  | .none => true
  | _ => false
theorem dc_isn (ha : DV G δ a x) (hb : DV G δ b .none) : DC G δ .Is a b (isNoneD x) :=
  ⟨_, _, ha, hb, fun X _ => ⟨_, op_isN, fun S H v w Q ok r1 r2 q => by
    cases r2
    refine ⟨rfl, ?_⟩
    have e := r1.non_iff
    have e2 : decide (v = .non) = isNoneD x := by rw [e]; cases x <;> rfl
    rw [e2]
    exact q⟩⟩
theorem dc_notn (ha : DV G δ a x) (hb : DV G δ b .none) : DC G δ .IsNot a b (!isNoneD x) :=
  ⟨_, _, ha, hb, fun X _ => ⟨_, op_notN, fun S H v w Q ok r1 r2 q => by
    cases r2
    refine ⟨rfl, ?_⟩
    have e := r1.non_iff
    have e2 : decide (v = .non) = isNoneD x := by rw [e]; cases x <;> rfl
    rw [e2]
    exact q⟩⟩
theorem dc_isb {i j : Bool} (ha : DV G δ a (.bool i)) (hb : DV G δ b (.bool j)) : DC G δ .Is a b (decide (i = j)) :=
  ⟨_, _, ha, hb, fun X _ => ⟨_, op_isBl, fun S H v w Q ok r1 r2 q => by cases r1; cases r2; exact ⟨i, j, rfl, rfl, q⟩⟩⟩
theorem dc_notb {i j : Bool} (ha : DV G δ a (.bool i)) (hb : DV G δ b (.bool j)) : DC G δ .IsNot a b (!decide (i = j)) :=
  ⟨_, _, ha, hb, fun X _ => ⟨_, op_notBl, fun S H v w Q ok r1 r2 q => by cases r1; cases r2; exact ⟨i, j, rfl, rfl, q⟩⟩⟩
/-- in, not in of a tuple -/
theorem room65 {X : Cx} (h : G.Is X) : X.A.units + 65 < cLine := by have := h.rm.un; omega
def rInTD (K : PySem.W.Frag) : R2 := fun x y H Q => ∃ d ds, Dp K H x d ∧ Dp K H y (.tuple ds) ∧ SeqAt.shaped d = true ∧ SeqAt.shaped (.tuple ds) = true ∧ Q (.bl (ds.any fun z => PyData.eqv z d)) H
def rNotInTD (K : PySem.W.Frag) : R2 := fun x y H Q => ∃ d ds, Dp K H x d ∧ Dp K H y (.tuple ds) ∧ SeqAt.shaped d = true ∧ SeqAt.shaped (.tuple ds) = true ∧ Q (.bl (!ds.any fun z => PyData.eqv z d)) H
theorem room_in_shaped' {A : Around} {d : PyData} {n : Nat} (sd : SeqAt.shaped d = true) (hu : A.units + 65 < cLine) : A.units + 1 + min n d.depth < cLine := by
  have h1 := SeqAt.depth_of_shaped sd
  have h2 : min n d.depth ≤ d.depth := Nat.min_le_right _ _
  omega
theorem op_inTD {X : Cx} (hu : X.A.units + 65 < cLine) : OpR X (compareOp .In) (rInTD X.K) := by
  intro pins s σ H x y v u Q I rx ry h
  obtain ⟨d, ds, hd, he, sd, se, q⟩ := h
  obtain ⟨as, r1⟩ := Dp.reads I d x v hd rx
  obtain ⟨bs, r2⟩ := Dp.reads I (.tuple ds) y u he ry
  exact SeqAt.in_tuple_reads r2 r1 (SeqAt.canLay_of_shaped se) (SeqAt.canLay_of_shaped sd) (room_in_shaped' sd hu) ⟨.bl _, H, I, rfl, q⟩
theorem op_notInTD {X : Cx} (hu : X.A.units + 65 < cLine) : OpR X (compareOp .NotIn) (rNotInTD X.K) := by
  intro pins s σ H x y v u Q I rx ry h
  obtain ⟨d, ds, hd, he, sd, se, q⟩ := h
  obtain ⟨as, r1⟩ := Dp.reads I d x v hd rx
  obtain ⟨bs, r2⟩ := Dp.reads I (.tuple ds) y u he ry
  exact SeqAt.notIn_tuple_reads r2 r1 (SeqAt.canLay_of_shaped se) (SeqAt.canLay_of_shaped sd) (room_in_shaped' sd hu) ⟨.bl _, H, I, rfl, q⟩
/-- what a thing in which one looks holds -/
inductive Seq : PyData → List PyData → Prop
  | lst (ds : List PyData) : Seq (.list ds) ds
  | tup (ds : List PyData) : Seq (.tuple ds) ds
theorem dc_in (ha : DV G δ a x) (hb : DV G δ b y) (h : Seq y ds) (hx : SeqAt.shaped x = true) (hy : SeqAt.shaped y = true) : DC G δ .In a b (ds.any fun z => PyData.eqv z x) := by
  cases h with
  | lst => exact ⟨_, _, ha, hb, fun X hX => ⟨rInD G.m.K, hX.K ▸ op_inD (room65 hX), fun S H v w Q ok r1 r2 q => ⟨x, ds, r1.toDp (lay_of hx), r2.toDp (lay_of hy), hx, hy, q⟩⟩⟩
  | tup => exact ⟨_, _, ha, hb, fun X hX => ⟨rInTD G.m.K, hX.K ▸ op_inTD (room65 hX), fun S H v w Q ok r1 r2 q => ⟨x, ds, r1.toDp (lay_of hx), r2.toDp (lay_of hy), hx, hy, q⟩⟩⟩
theorem dc_notin (ha : DV G δ a x) (hb : DV G δ b y) (h : Seq y ds) (hx : SeqAt.shaped x = true) (hy : SeqAt.shaped y = true) : DC G δ .NotIn a b (!ds.any fun z => PyData.eqv z x) := by
  cases h with
  | lst => exact ⟨_, _, ha, hb, fun X hX => ⟨rNotInD G.m.K, hX.K ▸ op_notInD (room65 hX), fun S H v w Q ok r1 r2 q => ⟨x, ds, r1.toDp (lay_of hx), r2.toDp (lay_of hy), hx, hy, q⟩⟩⟩
  | tup => exact ⟨_, _, ha, hb, fun X hX => ⟨rNotInTD G.m.K, hX.K ▸ op_notInTD (room65 hX), fun S H v w Q ok r1 r2 q => ⟨x, ds, r1.toDp (lay_of hx), r2.toDp (lay_of hy), hx, hy, q⟩⟩⟩
/-! chains of < and <= of whole numbers -/
inductive LO : CmpOp → (Int → Int → Bool) → Prop
  | lt : LO .Lt fun i j => decide (i < j)
  | le : LO .LtE fun i j => decide (i ≤ j)
theorem LO.op {op : CmpOp} {p : Int → Int → Bool} (h : LO op p) {X : Cx} : OpR X (compareOp op) (rI0 fun i j => .bl (p i j)) := by
  cases h
  · exact op_lt
  · exact op_le
theorem tChain_ok {i j k : Int} {p p' : Int → Int → Bool} {X : Cx} (hX : G.Is X) (ha : DV G δ a (.int i)) (hb : DV G δ b (.int j)) (hc : DV G δ c (.int k)) (σ : L2.St) (H : Hp) (Q : VK) (S : List Addr) (ok : SOk S H) (R : Rel G.m.K S δ σ H) (q : ∀ H', Same H H' → Q (.bl (p i j && p' j k)) H') :
    tChain (rI0 fun i j => .bl (p i j)) (rI0 fun i j => .bl (p' i j)) (tDR G.m.K fun δ' d' => δ' = δ ∧ d' = .int i) (tDR G.m.K fun δ' d' => δ' = δ ∧ d' = .int j) (tDR G.m.K fun δ' d' => δ' = δ ∧ d' = .int k) σ H Q := by
  refine ⟨S, _, _, ⟨rfl, rfl⟩, ok, R, fun v H1 s1 r1 => ⟨S, _, _, ⟨rfl, rfl⟩, ok.mono s1, R.mono s1, fun w H2 s2 r2 => ?_⟩⟩
  cases r1
  cases r2
  refine ⟨i, j, rfl, rfl, _, rfl, ?_⟩
  cases e : p i j with
  | false =>
    rw [e, Bool.false_and] at q
    refine iteF (q H2 (s1.trans s2))
  | true =>
    rw [e, Bool.true_and] at q
    refine iteT ⟨S, _, _, ⟨rfl, rfl⟩, (ok.mono s1).mono s2, (R.mono s1).mono s2, fun w' H3 s3 r3 => ?_⟩
    cases r3
    exact ⟨j, k, rfl, rfl, q H3 ((s1.trans s2).trans s3)⟩
theorem dv_ch {op op' : CmpOp} {p p' : Int → Int → Bool} {i j k : Int} (h : LO op p) (h' : LO op' p') (ha : DV G δ a (.int i)) (hb : DV G δ b (.int j)) (hc : DV G δ c (.int k))
    (hm : lastMarks [op, op'] [b, c] = false := by with_unfolding_all rfl) : DV G δ (.Compare a [op, op'] [b, c] pos) (.bool (p i j && p' j k)) := fun X hX =>
  PE.imp (pe_chain h.op h'.op (ha X hX) (hb X hX) (hc X hX) hm) fun σ H Q ⟨S, δ', d', ⟨e1, e2⟩, ok, R, q⟩ => by
    subst e1 e2
    exact tChain_ok hX ha hb hc σ H Q S ok R fun H' s => q _ H' s (.bl _)
theorem dt_ch {op op' : CmpOp} {p p' : Int → Int → Bool} {i j k : Int} (h : LO op p) (h' : LO op' p') (ha : DV G δ a (.int i)) (hb : DV G δ b (.int j)) (hc : DV G δ c (.int k))
    (hm : lastMarks [op, op'] [b, c] = false := by with_unfolding_all rfl) : DT G δ (.Compare a [op, op'] [b, c] pos) (p i j && p' j k) := fun X hX =>
  PT.imp (pt_chain h.op h'.op (ha X hX) (hb X hX) (hc X hX) hm) fun σ H Q ⟨S, δ', d', ⟨e1, e2⟩, ok, R, q⟩ => by
    subst e1 e2
    exact tChain_ok hX ha hb hc σ H _ S ok R fun H' s => ⟨_, rfl, q H' s⟩
/-- three in a row, as a test -/
theorem dt_ch3 {d' : Expr} {op op' op'' : CmpOp} {p p' p'' : Int → Int → Bool} {i j k l : Int} (h : LO op p) (h' : LO op' p') (h'' : LO op'' p'') (ha : DV G δ a (.int i)) (hb : DV G δ b (.int j)) (hc : DV G δ c (.int k)) (hd : DV G δ d' (.int l))
    (hm : lastMarks [op, op', op''] [b, c, d'] = false := by with_unfolding_all rfl) : DT G δ (.Compare a [op, op', op''] [b, c, d'] pos) (p i j && (p' j k && p'' k l)) := fun X hX => by
  refine ⟨fun pins s σ H Q I ⟨S, δ', d', ⟨e1, e2⟩, ok, R, q⟩ => ?_⟩
  subst e1 e2
  have run : ∀ {e : Expr} {m : Int}, DV G δ' e (.int m) → ∀ (H1 : Hp) (s1 : Shared) , Same H H1 → Inv X pins σ H1 s1 → ∀ {Q : Value → Shared → Prop}, (∀ t s2 H2, Same H H2 → Inv X pins σ H2 s2 → Q (.int m t) s2) → wpAny (model X.prog X.w) X.A (eval e X.env) Q X.xe s1 := by
    intro e m he H1 s1 sm I1 Q hq
    refine thn ((he X hX).run pins s1 σ H1 (fun v H' => Same H1 H' ∧ v = .int m) I1 ⟨S, _, _, ⟨rfl, rfl⟩, ok.mono sm, R.mono sm, fun v H' s2 r => ?_⟩) fun u s2 ⟨v, H2, I2, r2, sm2, ev⟩ => ?_
    · cases r
      exact ⟨s2, rfl⟩
    · subst ev
      obtain ⟨t, rfl⟩ := r2
      exact hq t s2 H2 (sm.trans sm2) I2
  have cmp : ∀ {op : CmpOp} {p : Int → Int → Bool}, LO op p → ∀ (m n : Int) (t u : Tok) (H1 : Hp) (s1 : Shared), Inv X pins σ H1 s1 → ∀ {Q : Value → Shared → Prop}, (∀ s2, Inv X pins σ H1 s2 → Q (.bool (p m n)) s2) → wpAny (model X.prog X.w) X.A (compareOp op (.int m t) (.int n u)) Q X.xe s1 := by
    intro op p hp m n t u H1 s1 I1 Q hq
    refine thn (hp.op pins s1 σ H1 (.int m) (.int n) _ _ (fun v H' => H' = H1 ∧ v = .bl (p m n)) I1 ⟨t, rfl⟩ ⟨u, rfl⟩ ⟨m, n, rfl, rfl, rfl, rfl⟩) fun x s2 ⟨v, H2, I2, r2, e1, e2⟩ => ?_
    subst e1 e2
    cases r2
    exact hq s2 I2
  refine PyProof.Rows.isTrue_chain (run ha H s (Same.refl H) I fun t s1 H1 sm1 I1 => PyProof.Rows.test_link (run hb H1 s1 sm1 I1 fun t2 s2 H2 sm2 I2 => cmp h i j t t2 H2 s2 I2 fun s3 I3 => wpAny_truthy_bool ?_)) hm
  cases e : p i j with
  | false =>
    rw [e, Bool.false_and] at q
    exact PyProof.Rows.ite_ff ⟨H2, I3, q H2 sm2⟩
  | true =>
    rw [e, Bool.true_and] at q
    refine PyProof.Rows.ite_tt (PyProof.Rows.test_link (run hc H2 s3 sm2 I3 fun t4 s4 H4 sm4 I4 => cmp h' j k t2 t4 H4 s4 I4 fun s5 I5 => wpAny_truthy_bool ?_))
    cases e' : p' j k with
    | false =>
      rw [e', Bool.false_and] at q
      exact PyProof.Rows.ite_ff ⟨H4, I5, q H4 sm4⟩
    | true =>
      rw [e', Bool.true_and] at q
      refine PyProof.Rows.ite_tt (PyProof.Rows.test_last (run hd H4 s5 sm4 I5 fun t6 s6 H6 sm6 I6 => cmp h'' k l t4 t6 H6 s6 I6 fun s7 I7 => wpAny_truthy_bool ⟨H6, I7, q H6 sm6⟩))
end
end DL

set_option Elab.async false
set_option linter.all false
set_option maxRecDepth 100000
namespace DL
open PySem PySem.Spec L2
set_option autoImplicit false

theorem map_int_inj : ∀ {xs ys : List Int}, xs.map PyData.int = ys.map PyData.int → xs = ys
  | [], [], _ => rfl
  | [], _ :: _, h => by simp at h
  | _ :: _, [], h => by simp at h
  | x :: xs, y :: ys, h => by
    rw [List.map_cons, List.map_cons] at h
    injection h with h1 h2
    injection h1 with h1
    rw [h1, map_int_inj h2]
/-- the script, as data -/
abbrev scrD (ns : List Int) : PyData := .dict [(.none, .list (ns.map .int))]
theorem Rp.scr_inv {K : PySem.W.Frag} {H : Hp} {v : V} {ns : List Int} (h : Rp K H v (scrD ns)) : ∃ a, v = .ref a ∧ SqL K H a (ns.map V.int) ∧ ns.length ≤ 63 := by
  generalize e : scrD ns = d at h
  cases h with
  | dct r z =>
    rename_i a kvs
    exfalso
    cases kvs with
    | nil => simp at e
    | cons q qs => simp at e
  | dctF r z => simp at e
  | scr r z =>
    rename_i a ms
    have e' : ns = ms := by
      simp only [PyData.dict.injEq, List.cons.injEq, Prod.mk.injEq, PyData.list.injEq, true_and, and_true] at e
      exact map_int_inj e
    subst e'
    exact ⟨a, rfl, r, z⟩
  | _ => cases e
def globB (sc : Scope) (x : PySem.Str) : Bool := match sc.names.lookup x with
  | some .globalImplicit => true
  | _ => false
theorem gl_of {G : Ct} {X : Cx} (h : G.Is X) {x : PySem.Str} (g : globB G.sc x = true) : Gl X x := by
  unfold globB at g
  show X.env.scope.names.lookup x = _
  rw [h.sc]
  split at g <;> simp_all
/-- the built-in names that the program leaves alone -/
structure Blt (m : Md) : Prop where
  len : m.mg "len" = none
  range : m.mg "range" = none
  isinstance : m.mg "isinstance" = none
  tuple : m.mg "tuple" = none
  int : m.mg "int" = none
  bool : m.mg "bool" = none
  str : m.mg "str" = none
  list : m.mg "list" = none
  set : m.mg "set" = none
  dict : m.mg "dict" = none
  sorted : m.mg "sorted" = none
  min : m.mg "min" = none
  max : m.mg "max" = none
  all : m.mg "all" = none
  any : m.mg "any" = none
  enumerate : m.mg "enumerate" = none
  zip : m.mg "zip" = none
  reversed : m.mg "reversed" = none
section
variable {G : Ct} {δ : DEnv} {a b c e : Expr} {es rest : List Expr} {x y z d : PyData} {ds : List PyData} {pos p : Pos}
/-! ### a built-in function, a built-in class, called -/
theorem dv_cb {n : PySem.Str} {id : String} {r : List V → Hp → VK → Prop} (hc : ∀ X, G.Is X → CallR X (.builtin id) r) (hg : globB G.sc n = true) (hm : G.m.mg n = none) (hv : bootBuiltins n = some (.builtin id)) (ha : DA G δ (e :: es) ds)
    (hr : ∀ S H vs Q, SOk S H → RpAll G.m.K (hide S H) vs ds → (∀ u H', Same H H' → Rp G.m.K (hide S H') u d → Q u H') → r vs H Q) (hn : n ≠ "__name__") (hdb : (n == ("__debug__" : PySem.Str)) = false)
    (he : ∀ env : Env, starEach (e :: es) env = (false, eval e env) :: starEach es env := by intro _; rfl) (hpl : ∀ env : Env, (backTo pos (starEach es env)).any (·.1) = false := by intro _; rfl) : DV G δ (.Call (.Name n p) (e :: es) [] pos) d := fun X hX =>
  PE.imp (pe_callB (hc X hX) (gl_of hX hg) (by rw [hX.mg]; exact hm) hv (ha X hX) hn hdb (he _) (hpl _)) fun σ H Q ⟨S, δ', d', ⟨e1, e2⟩, ok, R, q⟩ => by
    subst e1 e2
    exact ⟨S, _, _, ⟨rfl, rfl⟩, ok, R, fun vs H1 s1 r1 => hr S H1 vs Q (ok.mono s1) r1 fun u H' s2 r2 => q u H' (s1.trans s2) r2⟩
theorem dv_ct {n : PySem.Str} {T : String} {r : List V → Hp → VK → Prop} (hc : ∀ X, G.Is X → CallR X (.type T) r) (hg : globB G.sc n = true) (hm : G.m.mg n = none) (hv : bootBuiltins n = some (.type T)) (ha : DA G δ (e :: es) ds)
    (hr : ∀ S H vs Q, SOk S H → RpAll G.m.K (hide S H) vs ds → (∀ u H', Same H H' → Rp G.m.K (hide S H') u d → Q u H') → r vs H Q) (hn : n ≠ "__name__") (hdb : (n == ("__debug__" : PySem.Str)) = false)
    (he : ∀ env : Env, starEach (e :: es) env = (false, eval e env) :: starEach es env := by intro _; rfl) (hpl : ∀ env : Env, (backTo pos (starEach es env)).any (·.1) = false := by intro _; rfl) : DV G δ (.Call (.Name n p) (e :: es) [] pos) d := fun X hX =>
  PE.imp (pe_callTy (hc X hX) (gl_of hX hg) (by rw [hX.mg]; exact hm) hv (ha X hX) hn hdb (he _) (hpl _)) fun σ H Q ⟨S, δ', d', ⟨e1, e2⟩, ok, R, q⟩ => by
    subst e1 e2
    exact ⟨S, _, _, ⟨rfl, rfl⟩, ok, R, fun vs H1 s1 r1 => hr S H1 vs Q (ok.mono s1) r1 fun u H' s2 r2 => q u H' (s1.trans s2) r2⟩
/-- .. that makes a list -/
theorem dn_cb {n : PySem.Str} {id : String} {r : List V → Hp → VK → Prop} {es' : List PyData} (hc : ∀ X, G.Is X → CallR X (.builtin id) r) (hg : globB G.sc n = true) (hm : G.m.mg n = none) (hv : bootBuiltins n = some (.builtin id)) (ha : DA G δ (e :: es) ds)
    (hr : ∀ S H vs Q, SOk S H → RpAll G.m.K (hide S H) vs ds → (∀ xs p, H p = none → xs.length ≤ sizeLine → RpAll G.m.K (hide S H) xs es' → Q (.ref p) (upd H p (.lst xs))) → r vs H Q) (hn : n ≠ "__name__") (hdb : (n == ("__debug__" : PySem.Str)) = false)
    (he : ∀ env : Env, starEach (e :: es) env = (false, eval e env) :: starEach es env := by intro _; rfl) (hpl : ∀ env : Env, (backTo pos (starEach es env)).any (·.1) = false := by intro _; rfl) : DN G δ (.Call (.Name n p) (e :: es) [] pos) es' := fun X hX =>
  PE.imp (pe_callB (hc X hX) (gl_of hX hg) (by rw [hX.mg]; exact hm) hv (ha X hX) hn hdb (he _) (hpl _)) fun σ H Q ⟨S, δ', d', ⟨e1, e2⟩, ok, R, q⟩ => by
    subst e1 e2
    exact ⟨S, _, _, ⟨rfl, rfl⟩, ok, R, fun vs H1 s1 r1 => hr S H1 vs Q (ok.mono s1) r1 fun xs p hp hz r2 => q xs p H1 s1 hp hz r2⟩
theorem dn_ct {n : PySem.Str} {T : String} {r : List V → Hp → VK → Prop} {es' : List PyData} (hc : ∀ X, G.Is X → CallR X (.type T) r) (hg : globB G.sc n = true) (hm : G.m.mg n = none) (hv : bootBuiltins n = some (.type T)) (ha : DA G δ (e :: es) ds)
    (hr : ∀ S H vs Q, SOk S H → RpAll G.m.K (hide S H) vs ds → (∀ xs p, H p = none → xs.length ≤ sizeLine → RpAll G.m.K (hide S H) xs es' → Q (.ref p) (upd H p (.lst xs))) → r vs H Q) (hn : n ≠ "__name__") (hdb : (n == ("__debug__" : PySem.Str)) = false)
    (he : ∀ env : Env, starEach (e :: es) env = (false, eval e env) :: starEach es env := by intro _; rfl) (hpl : ∀ env : Env, (backTo pos (starEach es env)).any (·.1) = false := by intro _; rfl) : DN G δ (.Call (.Name n p) (e :: es) [] pos) es' := fun X hX =>
  PE.imp (pe_callTy (hc X hX) (gl_of hX hg) (by rw [hX.mg]; exact hm) hv (ha X hX) hn hdb (he _) (hpl _)) fun σ H Q ⟨S, δ', d', ⟨e1, e2⟩, ok, R, q⟩ => by
    subst e1 e2
    exact ⟨S, _, _, ⟨rfl, rfl⟩, ok, R, fun vs H1 s1 r1 => hr S H1 vs Q (ok.mono s1) r1 fun xs p hp hz r2 => q xs p H1 s1 hp hz r2⟩
/-! len -/
inductive DLen : PyData → Nat → Prop
  | seq {y : PyData} {ds : List PyData} : Seq y ds → DLen y ds.length
  | str (x : PySem.Str) (h : x.length ≤ sizeLine) : DLen (.str x) x.length
  | scr (ns : List Int) : DLen (scrD ns) ns.length
theorem dv_len {n : Nat} (B : Blt G.m) (hg : globB G.sc "len" = true) (ha : DV G δ a x) (h : DLen x n) (hs : ∀ env : Env, starEach [a] env = (false, eval a env) :: starEach [] env := by intro _; rfl) : DV G δ (.Call (.Name "len" p) [a] [] pos) (.int n) := by
  refine dv_cb (r := fun xs H Q => ∃ x n, xs = [x] ∧ LenV G.m.K x H n ∧ Q (.int n) H) (fun X hX => hX.K ▸ call_len) hg B.len boot_len (da_cons ha da_nil hs) (fun S H vs Q ok r q => ?_) (by decide) (by decide) hs
  cases r with
  | cons r1 r2 =>
    cases r2
    refine ⟨_, n, rfl, ?_, q _ H (Same.refl H) (.int _)⟩
    cases h with
    | seq h =>
      cases h with
      | lst =>
        cases r1 with
        | lst e1 z1 a1 => exact .inl ⟨_, SqL.of (hide_some e1).2, a1.len.symm⟩
      | tup =>
        cases r1 with
        | tup e1 _ z1 a1 => exact .inr ⟨_, SqT.frz (hide_some e1).2, a1.len.symm⟩
    | str x h =>
      cases r1
      exact ⟨h, rfl⟩
    | scr ns =>
      obtain ⟨a, rfl, s1, _⟩ := r1.scr_inv
      exact .inl ⟨_, (hide_sub S H).seq s1, by rw [List.length_map]⟩
end
end DL

set_option Elab.async false
set_option linter.all false
set_option maxRecDepth 100000
namespace DL
open PySem PySem.Spec L2
set_option autoImplicit false

def tyName : PyData → String
  | .none => "NoneType"
  | .bool _ => "bool"
  | .int _ => "int"
  | .str _ => "str"
  | .list _ => "list"
  | .tuple _ => "tuple"
  | .dict _ => "dict"
/-- isinstance by the data -/
def isD : PyData → String → Bool
  | .bool _, T => T == "bool" || T == "int"
  | x, T => tyName x == T
def isDict : PyData → Bool
  | .dict _ => true
  | _ => false
inductive IsTy (m : Md) : PySem.Str → String → Prop
  | int (B : Blt m) : IsTy m "int" "int"
  | bool (B : Blt m) : IsTy m "bool" "bool"
  | tuple (B : Blt m) : IsTy m "tuple" "tuple"
theorem kit_all : (["NoneType", "bool", "int", "str", "list", "tuple"].all fun a => ["int", "bool", "tuple"].all fun b => kitB a b == some (a == b || (a == "bool" && b == "int"))) = true := by decide +kernel
theorem kit_at {a b : String} (ha : a ∈ ["NoneType", "bool", "int", "str", "list", "tuple"]) (hb : b ∈ ["int", "bool", "tuple"]) : kitB a b = some (a == b || (a == "bool" && b == "int")) := by
  have h := List.all_eq_true.mp (List.all_eq_true.mp kit_all a ha) b hb
  exact eq_of_beq h
theorem Rp.tyx {K : PySem.W.Frag} {S : List Addr} {H : Hp} {v : V} {d : PyData} (r : Rp K (hide S H) v d) (h : isDict d = false) : TyX K H v (.type (tyName d)) := by
  cases r with
  | non => exact .base .non
  | bl b => exact .base (.bl b)
  | int i => exact .base (.int i)
  | str x => exact .base (.str x)
  | lst e z t => exact .base (.lst (hide_some e).2)
  | tup e k z t => exact .fTuple (hide_some e).2
  | dct r z => cases h
  | dctF r z => cases h
  | scr r z => cases h
section
variable {G : Ct} {δ : DEnv} {a b c e : Expr} {es rest : List Expr} {x y z d : PyData} {ds : List PyData} {pos p p2 : Pos}
theorem dv_isi {n : PySem.Str} {T : String} (B : Blt G.m) (hg : globB G.sc "isinstance" = true) (ht : IsTy G.m n T) (hgT : globB G.sc n = true) (ha : DV G δ a x) (hd : isDict x = false)
    (he : ∀ env : Env, starEach [a, .Name n p2] env = (false, eval a env) :: starEach [.Name n p2] env := by intro _; rfl) (hpl : ∀ env : Env, (backTo pos (starEach [.Name n p2] env)).any (·.1) = false := by intro _; rfl)
    (hs : ∀ env : Env, starEach [.Name n p2] env = (false, eval (.Name n p2) env) :: starEach [] env := by intro _; rfl) : DV G δ (.Call (.Name "isinstance" p) [a, .Name n p2] [] pos) (.bool (isD x T)) := fun X hX => by
  have hk : PySem.W.kitOne G.m.K (.type (tyName x)) (.type T) = some (isD x T) := by
    have hT : T ∈ ["int", "bool", "tuple"] := by cases ht <;> simp
    have hx : tyName x ∈ ["NoneType", "bool", "int", "str", "list", "tuple"] := by cases x <;> first | (simp [tyName]; done) | cases hd
    refine kit_ty ?_
    rw [kit_at hx hT]
    congr 1
    cases x <;> cases ht <;> first | rfl | cases hd
  have hb : PE X (.Name n p2) (tC (.ty T)) := by
    cases ht with
    | int B => exact pe_bltn (gl_of hX hgT) (by rw [hX.mg]; exact B.int) PyProof.Rows.boot_int rfl
    | bool B => exact pe_bltn (gl_of hX hgT) (by rw [hX.mg]; exact B.bool) PyProof.Rows.boot_bool rfl
    | tuple B => exact pe_bltn (gl_of hX hgT) (by rw [hX.mg]; exact B.tuple) PyProof.Rows.boot_tuple rfl
  refine PE.imp (pe_callB (call_isi (X := X)) (gl_of hX hg) (by rw [hX.mg]; exact B.isinstance) PyProof.Rows.boot_isinstance (pa_cons (ha X hX) (pa_cons hb pa_nil (hs _)) (he _)) (by decide) (by decide) (he _) (hpl _)) fun σ H Q ⟨S, δ', d', ⟨e1, e2⟩, ok, R, q⟩ => ?_
  subst e1 e2
  rw [hX.K]
  refine ⟨S, _, _, ⟨rfl, rfl⟩, ok, R, fun v H1 s1 r1 => ?_⟩
  exact ⟨v, .ty T, _, .type T, isD x T, rfl, .ty T, r1.tyx hd, hk, q _ H1 s1 (.bl _)⟩
/-! int(..), bool(..), str(..) -/
inductive DInt : PyData → Int → Prop
  | int (i : Int) : DInt (.int i) i
  | bl (k : Bool) : DInt (.bool k) (if k then 1 else 0)
theorem dv_int1 {i : Int} (B : Blt G.m) (hg : globB G.sc "int" = true) (ha : DV G δ a x) (h : DInt x i) (hs : ∀ env : Env, starEach [a] env = (false, eval a env) :: starEach [] env := by intro _; rfl) : DV G δ (.Call (.Name "int" p) [a] [] pos) (.int i) := by
  refine dv_ct (fun X hX => call_int1) hg B.int PyProof.Rows.boot_int (da_cons ha da_nil hs) (fun S H vs Q ok r q => ?_) (by decide) (by decide) hs
  cases r with
  | cons r1 r2 =>
    cases r2
    cases h with
    | int i =>
      cases r1
      exact .inl ⟨i, rfl, q _ H (Same.refl H) (.int _)⟩
    | bl k =>
      cases r1
      exact .inr ⟨k, rfl, q _ H (Same.refl H) (.int _)⟩
theorem dv_bool1 {i : Int} (B : Blt G.m) (hg : globB G.sc "bool" = true) (ha : DV G δ a (.int i)) (hs : ∀ env : Env, starEach [a] env = (false, eval a env) :: starEach [] env := by intro _; rfl) : DV G δ (.Call (.Name "bool" p) [a] [] pos) (.bool (i != 0)) := by
  refine dv_ct (fun X hX => call_bool1) hg B.bool PyProof.Rows.boot_bool (da_cons ha da_nil hs) (fun S H vs Q ok r q => ?_) (by decide) (by decide) hs
  cases r with
  | cons r1 r2 =>
    cases r2
    cases r1
    exact .inl ⟨i, rfl, q _ H (Same.refl H) (.bl _)⟩
theorem dv_str1 {i : Int} (B : Blt G.m) (hg : globB G.sc "str" = true) (ha : DV G δ a (.int i)) (hi : i.natAbs.log2 < 1920) (hs : ∀ env : Env, starEach [a] env = (false, eval a env) :: starEach [] env := by intro _; rfl) : DV G δ (.Call (.Name "str" p) [a] [] pos) (.str (toString i)) := by
  refine dv_ct (fun X hX => call_str_int) hg B.str PyProof.Rows.boot_str (da_cons ha da_nil hs) (fun S H vs Q ok r q => ?_) (by decide) (by decide) hs
  cases r with
  | cons r1 r2 =>
    cases r2
    cases r1
    exact ⟨i, rfl, hi, q _ H (Same.refl H) (.str _)⟩
/-! tuple(..), list(..) -/
def rTupF (K : PySem.W.Frag) : List V → Hp → VK → Prop := fun vs H Q => ∃ p xs, vs = [.ref p] ∧ ((SqL K H p xs ∧ NewT H xs Q) ∨ (SqT K H p xs ∧ Q (.ref p) H))
theorem cr_tupF {X : Cx} : CallR X (.type "tuple") (rTupF X.K) := by
  intro pins s σ H vs us Q I r h
  obtain ⟨p, xs, e, h⟩ := h
  subst e
  obtain rfl := Vals.ref1 r
  rcases h with ⟨hs, q⟩ | ⟨hs, q⟩
  · obtain ⟨its, rv, pl, hz⟩ := I.list hs
    refine call_tuple_list pl.isList (fun h' hk => ?_) (by rw [List.size_toArray, ← rv.length]; exact hz)
    have I1 : Inv X pins σ H { s with heap := h' } := I.kept (t' := s.toks) hk
    exact newT (t' := s.toks) I1 rv hz q
  · obtain ⟨its, rv, pl, hz⟩ := I.tuple hs
    exact PyProof.Rows.call_tuple_tup pl ⟨.ref p, H, I, rfl, q⟩
theorem dv_tuple (B : Blt G.m) (hg : globB G.sc "tuple" = true) (ha : DV G δ a y) (h : Seq y ds) (hs : ∀ env : Env, starEach [a] env = (false, eval a env) :: starEach [] env := by intro _; rfl) : DV G δ (.Call (.Name "tuple" p) [a] [] pos) (.tuple ds) := by
  refine dv_ct (r := rTupF G.m.K) (fun X hX => hX.K ▸ cr_tupF) hg B.tuple PyProof.Rows.boot_tuple (da_cons ha da_nil hs) (fun S H vs Q ok r q => ?_) (by decide) (by decide) hs
  cases r with
  | cons r1 r2 =>
    cases r2
    cases h with
    | lst =>
      cases r1 with
      | lst e1 z1 a1 => exact ⟨_, _, rfl, .inl ⟨SqL.of (hide_some e1).2, Rp.newT ok z1 a1 (Same.refl H) q⟩⟩
    | tup =>
      cases r1 with
      | tup e1 k1 z1 a1 => exact ⟨_, _, rfl, .inr ⟨SqT.frz (hide_some e1).2, q _ H (Same.refl H) (.tup e1 k1 z1 a1)⟩⟩
theorem dn_list (B : Blt G.m) (hg : globB G.sc "list" = true) (ha : DV G δ a y) (h : Seq y ds) (hs : ∀ env : Env, starEach [a] env = (false, eval a env) :: starEach [] env := by intro _; rfl) : DN G δ (.Call (.Name "list" p) [a] [] pos) ds := by
  refine dn_ct (r := fun xs H Q => ∃ p ys, xs = [.ref p] ∧ (SqL G.m.K H p ys ∨ SqT G.m.K H p ys) ∧ ∀ l, H l = none → Q (.ref l) (upd H l (.lst ys))) (fun X hX => hX.K ▸ call_list_of) hg B.list PyProof.Rows.boot_list (da_cons ha da_nil hs) (fun S H vs Q ok r q => ?_) (by decide) (by decide) hs
  cases r with
  | cons r1 r2 =>
    cases r2
    cases h with
    | lst =>
      cases r1 with
      | lst e1 z1 a1 => exact ⟨_, _, rfl, .inl (SqL.of (hide_some e1).2), fun l hl => q _ _ hl z1 a1⟩
    | tup =>
      cases r1 with
      | tup e1 k1 z1 a1 => exact ⟨_, _, rfl, .inr (SqT.frz (hide_some e1).2), fun l hl => q _ _ hl z1 a1⟩
theorem rgV_ints (n : Int) : rgV 0 n = ((List.range n.toNat).map fun i => ((i : Nat) : Int)).map V.int := by
  unfold rgV
  rw [List.map_map]
  simp
/-- 0, 1, .. below n -/
def upto (n : Int) : List Int := (List.range n.toNat).map fun i => ((i : Nat) : Int)
theorem dn_listrange {n : Int} (B : Blt G.m) (hg : globB G.sc "list" = true) (hg2 : globB G.sc "range" = true) (ha : DV G δ a (.int n)) (h0 : 0 ≤ n) (h1 : n ≤ 16777216)
    (na : ∀ env : Env, starEach [a] env = (false, eval a env) :: starEach [] env := by intro _; rfl) {p3 pos3 : Pos} (nb : ∀ env : Env, starEach [.Call (.Name "range" p3) [a] [] pos3] env = (false, eval (.Call (.Name "range" p3) [a] [] pos3) env) :: starEach [] env := by intro _; rfl) :
    DN G δ (.Call (.Name "list" p) [.Call (.Name "range" p3) [a] [] pos3] [] pos) ((upto n).map .int) := fun X hX =>
  PE.imp (pe_listRg hX.calm (gl_of hX hg) (by rw [hX.mg]; exact B.list) (prg_1 (gl_of hX hg2) (by rw [hX.mg]; exact B.range) (ha X hX) (na _)) (nb _)) fun σ H Q ⟨S, δ', d', ⟨e1, e2⟩, ok, R, q⟩ => by
    subst e1 e2
    refine ⟨S, _, _, ⟨rfl, rfl⟩, ok, R, fun v H1 s1 r1 => ?_⟩
    cases r1
    refine ⟨n, rfl, RgOk.of_le (by omega) h1 (by omega) h0, fun t ht => ?_⟩
    rw [rgV_ints]
    refine q _ t H1 s1 ht ?_ (RpAll.ofInts _)
    rw [List.length_map, List.length_map, List.length_range, sizeLine_eq]
    omega
/-! min, max, all, any -/
theorem dv_min2 {i j : Int} (B : Blt G.m) (hg : globB G.sc "min" = true) (ha : DV G δ a (.int i)) (hb : DV G δ b (.int j)) (hs : ∀ env : Env, starEach [a, b] env = (false, eval a env) :: starEach [b] env := by intro _; rfl) (hs2 : ∀ env : Env, starEach [b] env = (false, eval b env) :: starEach [] env := by intro _; rfl)
    (hpl : ∀ env : Env, (backTo pos (starEach [b] env)).any (·.1) = false := by intro _; rfl) : DV G δ (.Call (.Name "min" p) [a, b] [] pos) (.int (min i j)) := by
  refine dv_cb (fun X hX => call_min2 hX.calm) hg B.min PyProof.Rows.boot_min (da_cons ha (da_cons hb da_nil hs2) hs) (fun S H vs Q ok r q => ?_) (by decide) (by decide) hs hpl
  cases r with
  | cons r1 r2 =>
    cases r2 with
    | cons r2 r3 =>
      cases r3
      cases r1
      cases r2
      refine ⟨i, j, rfl, ?_⟩
      have e : (if j < i then j else i) = min i j := by split <;> omega
      rw [e]
      exact q _ H (Same.refl H) (.int _)
theorem dv_max2 {i j : Int} (B : Blt G.m) (hg : globB G.sc "max" = true) (ha : DV G δ a (.int i)) (hb : DV G δ b (.int j)) (hs : ∀ env : Env, starEach [a, b] env = (false, eval a env) :: starEach [b] env := by intro _; rfl) (hs2 : ∀ env : Env, starEach [b] env = (false, eval b env) :: starEach [] env := by intro _; rfl)
    (hpl : ∀ env : Env, (backTo pos (starEach [b] env)).any (·.1) = false := by intro _; rfl) : DV G δ (.Call (.Name "max" p) [a, b] [] pos) (.int (max i j)) := by
  refine dv_cb (fun X hX => call_max2 hX.calm) hg B.max PyProof.Rows.boot_max (da_cons ha (da_cons hb da_nil hs2) hs) (fun S H vs Q ok r q => ?_) (by decide) (by decide) hs hpl
  cases r with
  | cons r1 r2 =>
    cases r2 with
    | cons r2 r3 =>
      cases r3
      cases r1
      cases r2
      refine ⟨i, j, rfl, ?_⟩
      have e : (if j > i then j else i) = max i j := by split <;> omega
      rw [e]
      exact q _ H (Same.refl H) (.int _)
theorem dv_minl {ns : List Int} {m : Int} (B : Blt G.m) (hg : globB G.sc "min" = true) (ha : DV G δ a (.list (ns.map .int))) (hm : m ∈ ns) (hle : ∀ y ∈ ns, m ≤ y) (hs : ∀ env : Env, starEach [a] env = (false, eval a env) :: starEach [] env := by intro _; rfl) : DV G δ (.Call (.Name "min" p) [a] [] pos) (.int m) := by
  refine dv_cb (r := rMin G.m.K) (fun X hX => hX.K ▸ cr_min hX.calm) hg B.min PyProof.Rows.boot_min (da_cons ha da_nil hs) (fun S H vs Q ok r q => ?_) (by decide) (by decide) hs
  cases r with
  | cons r1 r2 =>
    cases r2
    cases r1 with
    | lst e1 z1 a1 =>
      obtain rfl := a1.ints
      refine ⟨_, ns, rfl, SqL.of (hide_some e1).2, List.length_pos_of_mem hm, fun m' h1 h2 => ?_⟩
      have e : m' = m := by have := h2 m hm; have := hle m' h1; omega
      rw [e]
      exact q _ H (Same.refl H) (.int _)
theorem dv_maxl {ns : List Int} {m : Int} (B : Blt G.m) (hg : globB G.sc "max" = true) (ha : DV G δ a (.list (ns.map .int))) (hm : m ∈ ns) (hle : ∀ y ∈ ns, y ≤ m) (hs : ∀ env : Env, starEach [a] env = (false, eval a env) :: starEach [] env := by intro _; rfl) : DV G δ (.Call (.Name "max" p) [a] [] pos) (.int m) := by
  refine dv_cb (r := rMax G.m.K) (fun X hX => hX.K ▸ cr_max hX.calm) hg B.max PyProof.Rows.boot_max (da_cons ha da_nil hs) (fun S H vs Q ok r q => ?_) (by decide) (by decide) hs
  cases r with
  | cons r1 r2 =>
    cases r2
    cases r1 with
    | lst e1 z1 a1 =>
      obtain rfl := a1.ints
      refine ⟨_, ns, rfl, SqL.of (hide_some e1).2, List.length_pos_of_mem hm, fun m' h1 h2 => ?_⟩
      have e : m' = m := by have := h2 m hm; have := hle m' h1; omega
      rw [e]
      exact q _ H (Same.refl H) (.int _)
theorem dv_all {bs : List Bool} (B : Blt G.m) (hg : globB G.sc "all" = true) (ha : DV G δ a (.list (bs.map .bool))) (hs : ∀ env : Env, starEach [a] env = (false, eval a env) :: starEach [] env := by intro _; rfl) : DV G δ (.Call (.Name "all" p) [a] [] pos) (.bool (bs.all id)) := by
  refine dv_cb (r := rAll G.m.K) (fun X hX => hX.K ▸ cr_all hX.calm) hg B.all PyProof.Rows.boot_all (da_cons ha da_nil hs) (fun S H vs Q ok r q => ?_) (by decide) (by decide) hs
  cases r with
  | cons r1 r2 =>
    cases r2
    cases r1 with
    | lst e1 z1 a1 =>
      obtain rfl := a1.bls
      exact ⟨_, bs, rfl, SqL.of (hide_some e1).2, q _ H (Same.refl H) (.bl _)⟩
theorem dv_any {bs : List Bool} (B : Blt G.m) (hg : globB G.sc "any" = true) (ha : DV G δ a (.list (bs.map .bool))) (hs : ∀ env : Env, starEach [a] env = (false, eval a env) :: starEach [] env := by intro _; rfl) : DV G δ (.Call (.Name "any" p) [a] [] pos) (.bool (bs.any id)) := by
  refine dv_cb (r := rAny G.m.K) (fun X hX => hX.K ▸ cr_any hX.calm) hg B.any PyProof.Rows.boot_any (da_cons ha da_nil hs) (fun S H vs Q ok r q => ?_) (by decide) (by decide) hs
  cases r with
  | cons r1 r2 =>
    cases r2
    cases r1 with
    | lst e1 z1 a1 =>
      obtain rfl := a1.bls
      exact ⟨_, bs, rfl, SqL.of (hide_some e1).2, q _ H (Same.refl H) (.bl _)⟩
/-! sorted of whole numbers -/
theorem dn_sorted {ns ms : List Int} (B : Blt G.m) (hg : globB G.sc "sorted" = true) (ha : DV G δ a (.list (ns.map .int))) (hp : ms.Perm ns) (hs' : ms.Pairwise (· ≤ ·)) (hs : ∀ env : Env, starEach [a] env = (false, eval a env) :: starEach [] env := by intro _; rfl) : DN G δ (.Call (.Name "sorted" p) [a] [] pos) (ms.map .int) := by
  refine dn_cb (r := rSortedI G.m.K) (fun X hX => hX.K ▸ cr_sortedI) hg B.sorted PyProof.Rows.boot_sorted (da_cons ha da_nil hs) (fun S H vs Q ok r q => ?_) (by decide) (by decide) hs
  cases r with
  | cons r1 r2 =>
    cases r2
    cases r1 with
    | lst e1 z1 a1 =>
      obtain rfl := a1.ints
      refine ⟨_, ns, rfl, SqL.of (hide_some e1).2, fun ns' t h1 h2 h3 => ?_⟩
      have e : ns' = ms := (h1.trans hp.symm).eq_of_pairwise (le := (· ≤ ·)) (fun a b _ _ h1 h2 => Int.le_antisymm h1 h2) h2 hs'
      subst e
      refine q _ _ h3 ?_ (RpAll.ofInts _)
      rw [List.length_map, h1.length_eq, ← List.length_map (f := V.int)]
      exact z1
end
end DL

set_option Elab.async false
set_option linter.all false
set_option maxRecDepth 100000
namespace DL
open PySem PySem.Spec L2
set_option autoImplicit false

theorem RpAll.atI {K : PySem.W.Frag} {H : Hp} {vs : List V} {ds : List PyData} {i : Int} {d : PyData} (r : RpAll K H vs ds) (h : L2.atI ds i = some d) : ∃ v, L2.atI vs i = some v ∧ Rp K H v d := by
  unfold L2.atI at h ⊢
  rw [r.len]
  cases e : ixN ds.length i with
  | none => rw [e] at h; cases h
  | some j =>
    rw [e] at h
    exact r.get h
section
variable {G : Ct} {δ : DEnv} {a b c e : Expr} {es rest : List Expr} {x y z d : PyData} {ds : List PyData} {pos p p2 : Pos}
/-! ### a[i] -/
inductive DIx : PyData → Int → PyData → Prop
  | lst {ds : List PyData} {i : Int} {d : PyData} (h : L2.atI ds i = some d) : DIx (.list ds) i d
  | tup {ds : List PyData} {i : Int} {d : PyData} (h : L2.atI ds i = some d) : DIx (.tuple ds) i d
  | str {z : PySem.Str} {i : Int} {c : Nat} (hz : z.length ≤ sizeLine) (h : L2.atI z.cps.toList i = some c) : DIx (.str z) i (.str ⟨#[c]⟩)
  | scr {ns : List Int} {i : Int} {k : Int} (h : L2.atI ns i = some k) : DIx (scrD ns) i (.int k)
theorem dv_ix {i : Int} (ha : DV G δ a x) (hb : DV G δ b (.int i)) (h : DIx x i d) (hs : PlainIx b := by intro _ _; rfl) : DV G δ (.Subscript a b pos) d := by
  refine dv_bin (f := getItem) (r := rIx G.m.K) (fun X hX _ _ p q => hX.K ▸ pe_ix ix_seq p q hs) ha hb fun S H v w Q ok r1 r2 q => ?_
  cases r2
  cases h with
  | lst h =>
    cases r1 with
    | lst e1 z1 a1 =>
      obtain ⟨u, h1, h2⟩ := a1.atI h
      exact .inl ⟨_, _, i, u, rfl, rfl, SqL.of (hide_some e1).2, h1, q _ H (Same.refl H) h2⟩
  | tup h =>
    cases r1 with
    | tup e1 k1 z1 a1 =>
      obtain ⟨u, h1, h2⟩ := a1.atI h
      exact .inr (.inl ⟨_, _, i, u, rfl, rfl, SqT.frz (hide_some e1).2, h1, q _ H (Same.refl H) h2⟩)
  | str hz h =>
    cases r1
    exact .inr (.inr ⟨_, i, _, rfl, rfl, hz, h, q _ H (Same.refl H) (.str _)⟩)
  | scr h =>
    obtain ⟨p, rfl, s1, _⟩ := r1.scr_inv
    rename_i ns k _
    have h' : L2.atI (ns.map V.int) i = some (.int k) := by
      unfold L2.atI at h ⊢
      rw [List.length_map]
      cases e : ixN ns.length i with
      | none => rw [e] at h; cases h
      | some j =>
        rw [e] at h
        show (ns.map V.int)[j]? = _
        rw [List.getElem?_map, show ns[j]? = some k from h]
        rfl
    exact .inl ⟨p, _, i, _, rfl, rfl, (hide_sub S H).seq s1, h', q _ H (Same.refl H) (.int _)⟩
/-! ### slices -/
def tDO (K : PySem.W.Frag) (R : DEnv → Option Int → Prop) : TO := fun σ H Q => ∃ S δ o, R δ o ∧ SOk S H ∧ Rel K S δ σ H ∧ ∀ H', Same H H' → Q o H'
def DO (G : Ct) (δ : DEnv) (e : Option Expr) (o : Option Int) : Prop := ∀ X, G.Is X → PO X e (tDO G.m.K fun δ' o' => δ' = δ ∧ o' = o)
theorem do_none : DO G δ none none := fun X hX => ⟨fun pins s σ H Q I ⟨S, δ', o, ⟨e1, e2⟩, ok, R, q⟩ => by
  subst e1 e2
  exact po_none.run pins s σ H Q I (q H (Same.refl H))⟩
theorem do_some {i : Int} (h : DV G δ e (.int i)) : DO G δ (some e) (some i) := fun X hX => ⟨fun pins s σ H Q I ⟨S, δ', o, ⟨e1, e2⟩, ok, R, q⟩ => by
  subst e1 e2
  exact (po_some (h X hX)).run pins s σ H Q I ⟨S, _, _, ⟨rfl, rfl⟩, ok, R, fun v H' s' r => by cases r; exact ⟨i, rfl, q H' s'⟩⟩⟩
def cutD {α : Type} (xs : List α) (lo hi : Option Int) : List α := (xs.drop (HT.sIx xs.length 0 lo)).take (HT.sIx xs.length xs.length hi - HT.sIx xs.length 0 lo)
theorem RpAll.cut {K : PySem.W.Frag} {H : Hp} {vs : List V} {ds : List PyData} (r : RpAll K H vs ds) (lo hi : Option Int) : RpAll K H (cutV vs lo hi) (cutD ds lo hi) := by
  unfold cutV cutD
  rw [r.len]
  exact (r.drop _).take _
variable {lo hi : Option Expr} {l u : Option Int}
theorem slice_run {X : Cx} {r : V → Option Int → Option Int → Hp → VK → Prop} {Q : VK} {σ : L2.St} {H : Hp} {S : List Addr} (hX : G.Is X) (ha : DV G δ a x) (hl : DO G δ lo l) (hu : DO G δ hi u) (ok : SOk S H) (R : Rel G.m.K S δ σ H)
    (h : ∀ v H', Same H H' → Rp G.m.K (hide S H') v x → r v l u H' Q) : tSl r (tDR G.m.K fun δ' d' => δ' = δ ∧ d' = x) (tDO G.m.K fun δ' o' => δ' = δ ∧ o' = l) (tDO G.m.K fun δ' o' => δ' = δ ∧ o' = u) σ H Q :=
  ⟨S, _, _, ⟨rfl, rfl⟩, ok, R, fun v H1 s1 r1 => ⟨S, _, _, ⟨rfl, rfl⟩, ok.mono s1, R.mono s1, fun H2 s2 => ⟨S, _, _, ⟨rfl, rfl⟩, (ok.mono s1).mono s2, (R.mono s1).mono s2, fun H3 s3 =>
    h v H3 ((s1.trans s2).trans s3) (r1.mono (hide_mono (s2.trans s3)))⟩⟩⟩
theorem dn_sl (ha : DV G δ a (.list ds)) (hl : DO G δ lo l) (hu : DO G δ hi u) : DN G δ (.Subscript a (.Slice lo hi none p2) pos) (cutD ds l u) := fun X hX =>
  PE.imp (pe_slice sl_list (ha X hX) (hl X hX) (hu X hX)) fun σ H Q ⟨S, δ', d', ⟨e1, e2⟩, ok, R, q⟩ => by
    subst e1 e2
    refine slice_run hX ha hl hu ok R fun v H1 s1 r1 => ?_
    cases r1 with
    | lst e1 z1 a1 => exact ⟨_, _, rfl, SqL.of (hide_some e1).2, fun t ht => q _ t H1 s1 ht (Nat.le_trans (cutV_length _ _ _) z1) (a1.cut l u)⟩
/-- the script's first numbers, as a list of their own -/
theorem dn_slscr {ns : List Int} (ha : DV G δ a (scrD ns)) (hl : DO G δ lo l) (hu : DO G δ hi u) : DN G δ (.Subscript a (.Slice lo hi none p2) pos) ((cutD ns l u).map .int) := fun X hX =>
  PE.imp (pe_slice sl_list (ha X hX) (hl X hX) (hu X hX)) fun σ H Q ⟨S, δ', d', ⟨e1, e2⟩, ok, R, q⟩ => by
    subst e1 e2
    refine slice_run hX ha hl hu ok R fun v H1 s1 r1 => ?_
    obtain ⟨p, rfl, sq, hz⟩ := r1.scr_inv
    refine ⟨p, _, rfl, hX.K ▸ (hide_sub S H1).seq sq, fun t ht => ?_⟩
    have e : cutV (ns.map V.int) l u = (cutD ns l u).map V.int := by
      unfold cutV cutD
      rw [List.length_map, List.map_take, List.map_drop]
    rw [e]
    refine q _ t H1 s1 ht ?_ (RpAll.ofInts _)
    have h1 := cutV_length (ns.map V.int) l u
    rw [e, List.length_map] at h1
    rw [List.length_map]
    rw [List.length_map] at h1
    rw [sizeLine_eq]
    omega
def rSlF (K : PySem.W.Frag) : V → Option Int → Option Int → Hp → VK → Prop := fun x lo hi H Q => ∃ a xs, x = .ref a ∧ SqT K H a xs ∧
  (cutV xs lo hi = xs → Q (.ref a) H) ∧ NewT H (cutV xs lo hi) Q
theorem sl_tupF {X : Cx} : SlR X (rSlF X.K) := by
  intro pins s σ H x v vl vu lo hi sl Q I rx hs pl pu h
  obtain ⟨a, xs, e, hx, q1, q2⟩ := h
  subst e
  obtain rfl : v = .ref a := rx
  obtain ⟨its, r, ht, hz⟩ := I.tuple hx
  have hn : its.toArray.size = xs.length := by rw [List.size_toArray]; exact r.length.symm
  refine ⟨"tuple", _, PyProof.Rows.slot_tuple_getitem.lookup, ht.typeIs, ?_⟩
  by_cases hw : HT.sIx xs.length 0 lo = 0 ∧ HT.sIx xs.length xs.length hi = xs.length
  · refine getItem_tuple_whole ht hs pl pu (by rw [hn]; exact hw) ⟨.ref a, H, I, rfl, q1 ?_⟩
    unfold cutV
    rw [hw.1, hw.2, List.drop_zero, Nat.sub_zero, List.take_length]
  · refine HT.getItem_tuple_cut ht hs pl pu (by rw [hn]; exact hw) ?_ (by rw [hn]; exact hz)
    rw [hn]
    exact newT (t' := s.toks) I ((r.drop _).take _) (Nat.le_trans (cutV_length xs lo hi) hz) q2
theorem dv_slt (ha : DV G δ a (.tuple ds)) (hl : DO G δ lo l) (hu : DO G δ hi u) : DV G δ (.Subscript a (.Slice lo hi none p2) pos) (.tuple (cutD ds l u)) := fun X hX =>
  PE.imp (pe_slice sl_tupF (ha X hX) (hl X hX) (hu X hX)) fun σ H Q ⟨S, δ', d', ⟨e1, e2⟩, ok, R, q⟩ => by
    subst e1 e2
    rw [hX.K]
    refine slice_run hX ha hl hu ok R fun v H1 s1 r1 => ?_
    cases r1 with
    | tup e1 k1 z1 a1 =>
      refine ⟨_, _, rfl, SqT.frz (hide_some e1).2, fun hw => ?_, Rp.newT (ok.mono s1) (Nat.le_trans (cutV_length _ _ _) z1) (a1.cut l u) s1 q⟩
      refine q _ H1 s1 (.tup e1 k1 z1 ?_)
      have := a1.cut l u
      rw [hw] at this
      exact this
theorem dv_sls {t : PySem.Str} (ha : DV G δ a (.str t)) (hl : DO G δ lo l) (hu : DO G δ hi u) (hz : t.length ≤ sizeLine) : DV G δ (.Subscript a (.Slice lo hi none p2) pos) (.str (cutS t l u)) := fun X hX =>
  PE.imp (pe_slice sl_str (ha X hX) (hl X hX) (hu X hX)) fun σ H Q ⟨S, δ', d', ⟨e1, e2⟩, ok, R, q⟩ => by
    subst e1 e2
    refine slice_run hX ha hl hu ok R fun v H1 s1 r1 => ?_
    cases r1
    exact ⟨t, rfl, hz, q _ H1 s1 (.str _)⟩

/-! ### len(set(..)) of whole numbers -/
def dedup (ns : List Int) : List Int := ns.foldl PyProof.Rows.step_dedup []
theorem firstMet_dedup (ns : List Int) : PyProof.Rows.firstMet (fun i => ns.getD i 0) ns.length = dedup ns := by
  unfold PyProof.Rows.firstMet dedup
  congr 1
  apply List.ext_getElem
  · simp
  · intro i h1 h2
    simp [List.getD_eq_getElem?_getD, List.getElem?_eq_getElem h2]
theorem mem_dedup_aux (ns : List Int) : ∀ (acc : List Int) (k : Int), k ∈ ns.foldl PyProof.Rows.step_dedup acc ↔ k ∈ acc ∨ k ∈ ns := by
  induction ns with
  | nil => intro acc k; simp
  | cons n ns ih =>
    intro acc k
    rw [List.foldl_cons, ih]
    unfold PyProof.Rows.step_dedup
    by_cases h : acc.any (· == n) = true
    · rw [if_pos h]
      obtain ⟨m, hm, e⟩ := List.any_eq_true.mp h
      have e' : m = n := eq_of_beq e
      subst e'
      constructor
      · rintro (q | q)
        · exact .inl q
        · exact .inr (List.mem_cons_of_mem _ q)
      · rintro (q | q)
        · exact .inl q
        · rcases List.mem_cons.mp q with q | q
          · exact .inl (q ▸ hm)
          · exact .inr q
    · rw [if_neg h]
      simp only [List.mem_append, List.mem_cons, List.not_mem_nil, or_false]
      constructor
      · rintro ((q | q) | q)
        · exact .inl q
        · exact .inr (.inl q)
        · exact .inr (.inr q)
      · rintro (q | q | q)
        · exact .inl (.inl q)
        · exact .inl (.inr q)
        · exact .inr q
theorem mem_dedup {ns : List Int} {k : Int} : k ∈ dedup ns ↔ k ∈ ns := by
  unfold dedup
  rw [mem_dedup_aux]
  simp
theorem nodup_dedup_aux (ns : List Int) : ∀ (acc : List Int), acc.Nodup → (ns.foldl PyProof.Rows.step_dedup acc).Nodup := by
  induction ns with
  | nil => intro acc h; exact h
  | cons n ns ih =>
    intro acc h
    rw [List.foldl_cons]
    refine ih _ ?_
    unfold PyProof.Rows.step_dedup
    by_cases q : acc.any (· == n) = true
    · rw [if_pos q]; exact h
    · rw [if_neg q]
      refine List.nodup_append.mpr ⟨h, by simp, fun a ha b hb e => ?_⟩
      rw [List.mem_singleton] at hb
      subst hb
      exact q (List.any_eq_true.mpr ⟨a, ha, by rw [e]; exact beq_self_eq_true _⟩)
theorem nodup_dedup (ns : List Int) : (dedup ns).Nodup := nodup_dedup_aux ns [] List.nodup_nil
theorem dedup_le (ns : List Int) : (dedup ns).length ≤ ns.length := by
  rw [← firstMet_dedup]
  exact PyProof.Rows.firstMet_length_le _ _
/-- one number for lists of the same members, each once -/
theorem nodup_len {xs ys : List Int} (hx : xs.Nodup) (hy : ys.Nodup) (h : ∀ k, k ∈ xs ↔ k ∈ ys) : xs.length = ys.length := (List.perm_ext_iff_of_nodup hx hy |>.mpr h).length_eq
def tLenSetF (K : PySem.W.Frag) (ta : TE) : TE := fun σ H Q => ta σ H fun x H1 => ∃ (l : Addr) (ns : List Int), x = V.ref l ∧ (SqL K H1 l (ns.map V.int) ∨ SqT K H1 l (ns.map V.int)) ∧ ns.length ≤ 1000 ∧ Q (.int (dedup ns).length) H1
theorem pe_lenSetF {X : Cx} {ta : TE} {q : Pos} (hc : X.calm = true) (hg : Gl X "len") (hm : X.mg "len" = none) (hg2 : Gl X "set") (hm2 : X.mg "set" = none) (ha : PE X a ta)
    (na : starEach [a] X.env = (false, eval a X.env) :: starEach [] X.env) (nb : starEach [.Call (.Name "set" p2) [a] [] q] X.env = (false, eval (.Call (.Name "set" p2) [a] [] q) X.env) :: starEach [] X.env) : PE X (.Call (.Name "len" p) [.Call (.Name "set" p2) [a] [] q] [] pos) (tLenSetF X.K ta) := by
  refine ⟨fun pins s σ H Q I h => ?_⟩
  refine PyProof.Rows.Call_ (ld_blt I hg hm PySem.boot_len ?_)
  refine PyProof.Rows.callWith_builtin1 (PyProof.Rows.args_cons ?_ nb) nb rfl
  refine PyProof.Rows.Call_ (ld_blt I hg2 hm2 PyProof.Rows.boot_set ?_)
  refine PyProof.Rows.callWith_type1 (PyProof.Rows.args_cons (thn (ha.run pins s σ H _ I h) fun v s1 ⟨x, H1, I1, r1, q1⟩ => PyProof.Rows.args_nil ?_) na) na rfl
  obtain ⟨l, ns, e, hq, hz, q1⟩ := q1
  subst e
  obtain rfl : v = .ref l := r1
  rcases hq with hq | hq
  · obtain ⟨its, r, pl, _⟩ := I1.list hq
    have hl : its.toArray.size = ns.length := by rw [List.size_toArray, ← r.length, List.length_map]
    refine call_set_list (I1.ok.hd hc) pl.isList (ns := ns) (by simpa using r.ints) (by unfold scanBound; omega) fun h' tk hS hk => ?_
    rw [hl, firstMet_dedup] at hS
    refine PyProof.Rows.args_nil ?_
    obtain ⟨o, es, ep, t, ho, hex, hd, _, _, _, hf, hn⟩ := hS
    have I2 : Inv X pins σ H1 { s1 with heap := h', toks := tk } := I1.kept fun b o e => hk b o (Heap.lt_size e) e
    have h1 := dedup_le ns
    refine call_len_set ho hex hd hf (by rw [hn] <;> omega) ⟨.int (dedup ns).length, H1, I2.tok _, ⟨_, by rw [hn]⟩, q1⟩
  · obtain ⟨its, r, pt, _⟩ := I1.tuple hq
    refine call_set_tupI ns (I1.ok.hd hc) (show s1.heap.IsTuple l its.toArray from pt) (by simpa using r.ints) (by unfold scanBound; omega) fun h' tk c R1 hcn k => ?_
    obtain ⟨o, es, ep, t, ho, hex, hd, g, nd, hm3, hb, hf, hn, hr, hl2⟩ := R1
    refine PyProof.Rows.args_nil ?_
    have I2 : Inv X pins σ H1 { s1 with heap := h', toks := tk } := I1.kept k
    have hlen : es.size = (dedup ns).length := by
      rw [← Array.length_toList, ← List.length_map (f := keyOf)]
      refine nodup_len nd (nodup_dedup ns) fun j => ?_
      rw [← hm3 j, mem_dedup]
      simp
    refine call_len_set ho hex hd hf (by omega) ⟨.int (dedup ns).length, H1, I2.tok _, ⟨_, by rw [hlen]⟩, q1⟩
theorem dv_lenset {ns : List Int} {q : Pos} (B : Blt G.m) (hg : globB G.sc "len" = true) (hg2 : globB G.sc "set" = true) (ha : DV G δ a y) (h : Seq y (ns.map .int)) (hz : ns.length ≤ 1000)
    (na : ∀ env : Env, starEach [a] env = (false, eval a env) :: starEach [] env := by intro _; rfl) (nb : ∀ env : Env, starEach [.Call (.Name "set" p2) [a] [] q] env = (false, eval (.Call (.Name "set" p2) [a] [] q) env) :: starEach [] env := by intro _; rfl) :
    DV G δ (.Call (.Name "len" p) [.Call (.Name "set" p2) [a] [] q] [] pos) (.int (dedup ns).length) := fun X hX =>
  PE.imp (pe_lenSetF hX.calm (gl_of hX hg) (by rw [hX.mg]; exact B.len) (gl_of hX hg2) (by rw [hX.mg]; exact B.set) (ha X hX) (na _) (nb _)) fun σ H Q ⟨S, δ', d', ⟨e1, e2⟩, ok, R, q⟩ => by
    subst e1 e2
    rw [hX.K]
    refine ⟨S, _, _, ⟨rfl, rfl⟩, ok, R, fun v H1 s1 r1 => ?_⟩
    generalize hy : ns.map PyData.int = ys at h
    cases h with
    | lst =>
      subst hy
      cases r1 with
      | lst e1 z1 a1 =>
        obtain rfl := a1.ints
        exact ⟨_, ns, rfl, .inl (SqL.of (hide_some e1).2), hz, q _ H1 s1 (.int _)⟩
    | tup =>
      subst hy
      cases r1 with
      | tup e1 k1 z1 a1 =>
        obtain rfl := a1.ints
        exact ⟨_, ns, rfl, .inr (SqT.frz (hide_some e1).2), hz, q _ H1 s1 (.int _)⟩

/-! ### own defs -/
/-- a def's promise: R tells what comes of which arguments -/
def spD (K : PySem.W.Frag) (R : List PyData → PyData → Prop) : Sp := fun vs H Q _ => ∃ S ds d, R ds d ∧ SOk S H ∧ RpAll K (hide S H) vs ds ∧ ∀ v H', Same H H' → Rp K (hide S H') v d → Q v H'
structure Fn (m : Md) (n : PySem.Str) (k : Nat) (R : List PyData → PyData → Prop) : Prop where
  ex : ∃ f fd ps, m.mg n = some (.ref f) ∧ PySem.W.keepIn m.K (.ref f) = true ∧ Binds m.K fd ps [] ∧ FnOk m.P m.w m.K m.mg m.base CX0 k f fd ps (spD m.K R)
theorem Fn.imp {m : Md} {n : PySem.Str} {k : Nat} {R R' : List PyData → PyData → Prop} (h : Fn m n k R) (w : ∀ ds d, R' ds d → R ds d) : Fn m n k R' := by
  obtain ⟨f, fd, ps, h1, h2, h3, h4⟩ := h.ex
  exact ⟨f, fd, ps, h1, h2, h3, h4.imp fun vs H Q E ⟨S, ds, d, r, q⟩ => ⟨S, ds, d, w _ _ r, q⟩⟩
theorem Fn.mono {m : Md} {n : PySem.Str} {j k : Nat} {R : List PyData → PyData → Prop} (h : Fn m n j R) (w : j ≤ k) : Fn m n k R := by
  obtain ⟨f, fd, ps, h1, h2, h3, h4⟩ := h.ex
  exact ⟨f, fd, ps, h1, h2, h3, h4.mono w⟩
theorem dv_call {n : PySem.Str} {k : Nat} {R : List PyData → PyData → Prop} (F : Fn G.m n k R) (hk : k ≤ G.rm) (hg : globB G.sc n = true) (ha : DA G δ (e :: es) ds) (hR : R ds d)
    (hd : (n == ("__debug__" : PySem.Str)) = false := by decide)
    (he : ∀ env : Env, starEach (e :: es) env = (false, eval e env) :: starEach es env := by intro _; rfl) (hpl : ∀ env : Env, (backTo pos (starEach es env)).any (·.1) = false := by intro _; rfl) :
    DV G δ (.Call (.Name n p) (e :: es) [] pos) d := fun X hX => by
  obtain ⟨f, fd, ps, h1, h2, h3, h4⟩ := F.ex
  have F' : FnOk X.prog X.w X.K X.mg X.base CX0 k f fd ps (spD G.m.K R) := by rw [hX.prog, hX.w, hX.K, hX.mg, hX.base]; exact h4
  refine PE.imp (pe_call F' (hX.rm.mono hk) (gl_of hX hg) (by rw [hX.mg]; exact h1) (by rw [hX.K]; exact h2) (by rw [hX.K]; exact h3) .nil pass0 (ha X hX) hd (he _) (hpl _)) fun σ H Q ⟨S, δ', d', ⟨e1, e2⟩, ok, R', q⟩ => ?_
  subst e1 e2
  refine ⟨S, _, _, ⟨rfl, rfl⟩, ok, R', fun vs H1 s1 r1 => ?_⟩
  exact ⟨S, ds, _, hR, ok.mono s1, by rw [List.append_nil]; exact r1, fun v H' s2 r2 => q v H' (s1.trans s2) r2⟩
end
end DL

set_option Elab.async false
set_option linter.all false
set_option maxRecDepth 100000
namespace DL
open PySem PySem.Spec L2
set_option autoImplicit false

/-! ### names that hold a list or a dict of the def's own, which it changes -/
inductive OC where
  | lst (ds : List PyData)
  | dct (kvs : List (Int × Int))
def OC.data : OC → PyData
  | .lst ds => .list ds
  | .dct kvs => .dict (kvs.map fun p => (.int p.1, .int p.2))
/-- at a of H stands what it says, its parts to be seen in F -/
def OCat (K : PySem.W.Frag) (F H : Hp) (a : Addr) : OC → Prop
  | .lst ds => ∃ xs, H a = some (.lst xs) ∧ xs.length ≤ sizeLine ∧ RpAll K F xs ds
  | .dct kvs => H a = some (.dK (kvs.map fun p => (Sum.inl p.1, V.int p.2))) ∧ kvs.length ≤ sizeLine
abbrev Own := List (Nat × OC)
def ov (δ : DEnv) (ω : Own) : DEnv := ω.foldl (fun δ p => δ.set p.1 (some p.2.data)) δ
structure SRel (K : PySem.W.Frag) (S : List Addr) (H0 : Hp) (δ : DEnv) (ω : Own) (σ : L2.St) (H : Hp) : Prop where
  ex : ∃ as : List Addr, as.length = ω.length ∧ as.Nodup ∧ SOk (as ++ S) H ∧ Same H0 (hide as H) ∧ Rel K (as ++ S) δ σ H ∧
    ∀ (k i : Nat) (c : OC) (a : Addr), ω[k]? = some (i, c) → as[k]? = some a → σ[i]? = some (some (.ref a)) ∧ OCat K (hide (as ++ S) H) H a c
theorem OCat.mono {K : PySem.W.Frag} {F F' H H' : Hp} {a : Addr} {c : OC} (h : OCat K F H a c) (s : Same F F') (t : ∀ o, H a = some o → H' a = some o) : OCat K F' H' a c := by
  cases c with
  | lst ds =>
    obtain ⟨xs, h1, h2, h3⟩ := h
    exact ⟨xs, t _ h1, h2, h3.mono s⟩
  | dct kvs =>
    obtain ⟨h1, h2⟩ := h
    exact ⟨t _ h1, h2⟩
theorem OCat.rp {K : PySem.W.Frag} {F H : Hp} {a : Addr} {c : OC} (h : OCat K F H a c) {G : Hp} (s : Same F G) (e : ∀ o, H a = some o → G a = some o) : Rp K G (.ref a) c.data := by
  cases c with
  | lst ds =>
    obtain ⟨xs, h1, h2, h3⟩ := h
    exact .lst (e _ h1) h2 (h3.mono s)
  | dct kvs =>
    obtain ⟨h1, h2⟩ := h
    exact .dct (.inl (e _ h1)) h2
theorem OCat.notup {K : PySem.W.Frag} {F H : Hp} {a : Addr} {c : OC} (h : OCat K F H a c) (o : Obj) (xs : List V) : H a ≠ some (.frz o (.tup xs)) := by
  intro e
  cases c with
  | lst ds =>
    obtain ⟨xs, h1, h2, h3⟩ := h
    rw [e] at h1; cases h1
  | dct kvs =>
    obtain ⟨h1, h2⟩ := h
    rw [e] at h1; cases h1
section
variable {K : PySem.W.Frag} {S : List Addr} {H0 H H' : Hp} {δ : DEnv} {ω : Own} {σ : L2.St}
theorem SRel.mono (r : SRel K S H0 δ ω σ H) (s : Same H H') : SRel K S H0 δ ω σ H' := by
  obtain ⟨as, h1, h2, h3, h4, h5, h6⟩ := r.ex
  exact ⟨as, h1, h2, h3.mono s, h4.trans (hide_mono s), h5.mono s, fun k i c a e1 e2 => let ⟨q1, q2⟩ := h6 k i c a e1 e2; ⟨q1, q2.mono (hide_mono s) (s _)⟩⟩
theorem hide_le {S T : List Addr} (h : ∀ a, a ∈ T → a ∈ S) (H : Hp) : Same (hide S H) (hide T H) := fun b o e => by
  obtain ⟨h1, h2⟩ := hide_some e
  rw [hide_out fun z => h1 (h b z)]
  exact h2
theorem hide_more (as S : List Addr) (H : Hp) : Same (hide (as ++ S) H) (hide S H) := by
  rw [hide_app]
  exact hide_mono (hide_sub as H)
theorem Rel.more {as : List Addr} (r : Rel K (as ++ S) δ σ H) : Rel K S δ σ H := ⟨r.len, fun i d e => let ⟨v, h1, h2⟩ := r.val i d e; ⟨v, h1, h2.mono (hide_more as S H)⟩⟩
theorem Rel.look {i : Nat} {v : V} {d : PyData} (r : Rel K S δ σ H) (e : σ[i]? = some (some v)) (h : Rp K (hide S H) v d) : Rel K S (δ.set i (some d)) σ H := by
  refine ⟨by rw [List.length_set]; exact r.len, fun j d' hj => ?_⟩
  by_cases q : i = j
  · subst q
    have hl : i < δ.length := by rw [← r.len]; exact (List.getElem?_eq_some_iff.mp e).1
    rw [List.getElem?_set_self hl] at hj
    cases hj
    exact ⟨v, e, h⟩
  · rw [List.getElem?_set_ne q] at hj
    exact r.val j d' hj
theorem Rel.over : ∀ (ω : Own) {δ : DEnv}, Rel K S δ σ H → (∀ p ∈ ω, ∃ v, σ[p.1]? = some (some v) ∧ Rp K (hide S H) v p.2.data) → Rel K S (ov δ ω) σ H
  | [], _, r, _ => r
  | p :: ω, δ, r, h => by
    obtain ⟨v, h1, h2⟩ := h p List.mem_cons_self
    exact Rel.over ω (r.look h1 h2) fun q hq => h q (List.mem_cons_of_mem _ hq)
theorem SRel.ofS (r : SRel K S H0 δ ω σ H) : ∀ a ∈ S, a ∈ S := fun _ h => h
/-- the whole of it, to be read -/
theorem SRel.over (hS : SOk S H0) (r : SRel K S H0 δ ω σ H) : SOk S H ∧ Same H0 H ∧ Rel K S (ov δ ω) σ H := by
  obtain ⟨as, h1, h2, h3, h4, h5, h6⟩ := r.ex
  refine ⟨fun a ha => h3 a (List.mem_append_right _ ha), h4.trans (hide_sub as H), Rel.over ω h5.more fun p hp => ?_⟩
  obtain ⟨k, hk, e⟩ := List.mem_iff_getElem.mp hp
  have hka : k < as.length := by rw [h1]; exact hk
  obtain ⟨q1, q2⟩ := h6 k p.1 p.2 as[k] (by rw [List.getElem?_eq_getElem hk, e]) (List.getElem?_eq_getElem hka)
  refine ⟨_, q1, q2.rp (hide_more as S H) fun o ho => ?_⟩
  have hn : as[k] ∉ S := fun z => by
    cases q : H0 as[k] with
    | none => exact hS _ z q
    | some u =>
      have := h4 _ _ q
      rw [hide_in (List.getElem_mem hka)] at this
      cases this
  rw [hide_out hn]
  exact ho
end
/-! ### statements -/
inductive Out where
  | next (δ : DEnv) (ω : Own)
  | ret (d : PyData)
def OutOk (K : PySem.W.Frag) (S : List Addr) (H0 : Hp) (D : Ends) : Out → Prop
  | .next δ ω => ∀ σ' H', SRel K S H0 δ ω σ' H' → D.nx σ' H'
  | .ret d => ∀ v H', Same H0 H' → Rp K (hide S H') v d → D.rt v H'
def tDS (K : PySem.W.Frag) (R : DEnv → Own → Out → Prop) : TS := fun D σ H => ∃ S H0 δ ω out, R δ ω out ∧ SOk S H0 ∧ SRel K S H0 δ ω σ H ∧ OutOk K S H0 D out
def DS (G : Ct) (δ : DEnv) (ω : Own) (st : Stmt) (out : Out) : Prop := ∀ X, G.Is X → PS X st (tDS G.m.K fun δ' ω' o' => δ' = δ ∧ ω' = ω ∧ o' = out)
def DSs (G : Ct) (δ : DEnv) (ω : Own) (sts : List Stmt) (out : Out) : Prop := ∀ X, G.Is X → PSs X sts (tDS G.m.K fun δ' ω' o' => δ' = δ ∧ ω' = ω ∧ o' = out)
theorem PS.imp {X : Cx} {st : Stmt} {t t' : TS} (h : PS X st t) (w : ∀ D σ H, t' D σ H → t D σ H) : PS X st t' := ⟨fun pins s σ H D I q => h.run pins s σ H D I (w _ _ _ q)⟩
theorem PSs.imp {X : Cx} {st : List Stmt} {t t' : TS} (h : PSs X st t) (w : ∀ D σ H, t' D σ H → t D σ H) : PSs X st t' := ⟨fun pins s σ H D I q => h.run pins s σ H D I (w _ _ _ q)⟩
theorem PSs.rel {X : Cx} {sts : List Stmt} {K : PySem.W.Frag} {R : DEnv → Own → Out → Prop} (h : ∀ δ ω o, R δ ω o → PSs X sts (tDS K fun δ' ω' o' => δ' = δ ∧ ω' = ω ∧ o' = o)) : PSs X sts (tDS K R) :=
  ⟨fun pins s σ H D I ⟨S, H0, δ, ω, o, r, q⟩ => (h δ ω o r).run pins s σ H D I ⟨S, H0, δ, ω, o, ⟨rfl, rfl, rfl⟩, q⟩⟩
section
variable {G : Ct} {δ δ1 : DEnv} {ω ω1 : Own} {st : Stmt} {rest body thn els : List Stmt} {out : Out} {a b c e : Expr} {es : List Expr} {x y z d : PyData} {ds : List PyData} {pos p p2 : Pos}
theorem DSs.conv (h : DSs G δ ω rest out) {o : Out} (q : out = o) : DSs G δ ω rest o := q ▸ h
theorem DS.conv (h : DS G δ ω st out) {o : Out} (q : out = o) : DS G δ ω st o := q ▸ h
theorem DSs.from (h : DSs G δ ω rest out) (q1 : δ1 = δ) (q2 : ω1 = ω) : DSs G δ1 ω1 rest out := q1 ▸ q2 ▸ h
theorem dss_nil : DSs G δ ω [] (.next δ ω) := fun X hX => PSs.imp pss_nil fun D σ H ⟨S, H0, δ', ω', o', ⟨e1, e2, e3⟩, hS, r, q⟩ => by
  subst e1 e2 e3
  exact q σ H r
theorem dss_cons (h : DS G δ ω st (.next δ1 ω1)) (h2 : DSs G δ1 ω1 rest out) : DSs G δ ω (st :: rest) out := fun X hX => PSs.imp (pss_cons (h X hX) (h2 X hX)) fun D σ H ⟨S, H0, δ', ω', o', ⟨e1, e2, e3⟩, hS, r, q⟩ => by
  subst e1 e2 e3
  refine ⟨S, H0, _, _, _, ⟨rfl, rfl, rfl⟩, hS, r, fun σ' H' r' => ⟨S, H0, _, _, _, ⟨rfl, rfl, rfl⟩, hS, r', q⟩⟩
theorem dss_end (h : DS G δ ω st (.ret d)) : DSs G δ ω (st :: rest) (.ret d) := fun X hX => PSs.imp (pss_cons (h X hX) pss_never) fun D σ H ⟨S, H0, δ', ω', o', ⟨e1, e2, e3⟩, hS, r, q⟩ => by
  subst e1 e2 e3
  exact ⟨S, H0, _, _, _, ⟨rfl, rfl, rfl⟩, hS, r, q⟩
theorem ds_ret (h : DV G (ov δ ω) e d) : DS G δ ω (.Return (some e) pos) (.ret d) := fun X hX => PS.imp (ps_ret (h X hX)) fun D σ H ⟨S, H0, δ', ω', o', ⟨e1, e2, e3⟩, hS, r, q⟩ => by
  subst e1 e2 e3
  obtain ⟨h1, h2, h3⟩ := r.over hS
  exact ⟨S, _, _, ⟨rfl, rfl⟩, h1, h3, fun v H' s rv => q v H' (h2.trans s) rv⟩
/-- what expressions need, and what a store leaves -/
structure Bs (K : PySem.W.Frag) (S : List Addr) (H0 : Hp) (δ : DEnv) (ω : Own) (σ : L2.St) (H : Hp) (as : List Addr) : Prop where
  ok : SOk (as ++ S) H
  rel : Rel K (as ++ S) δ σ H
  okS : SOk S H
  relS : Rel K S (ov δ ω) σ H
  h0 : Same H0 H
  imm : ∀ (H' : Hp) (v : V) (d : PyData), Same H H' → imm d = true → Rp K (hide S H') v d → Rp K (hide (as ++ S) H') v d
  store : ∀ (H' : Hp) (i : Nat) (v : V) (d : PyData), Same H H' → Rp K (hide (as ++ S) H') v d → (∀ p ∈ ω, p.1 ≠ i) → SRel K S H0 (δ.set i (some d)) ω (σ.set i (some v)) H'
  own : ∀ (H' : Hp) (i : Nat) (p : Addr) (c : OC) (o : HO), Same H H' → H' p = none → OCat K (hide (as ++ S) H') (upd H' p o) p c → (∀ p ∈ ω, p.1 ≠ i) → i < δ.length → SRel K S H0 (δ.set i none) ((i, c) :: ω) (σ.set i (some (.ref p))) (upd H' p o)
  at_ : ∀ (k i : Nat) (c : OC), ω[k]? = some (i, c) → ∃ a, a ∈ as ∧ σ[i]? = some (some (.ref a)) ∧ OCat K (hide (as ++ S) H) H a c ∧
    ∀ (H' : Hp) (o : HO) (c' : OC), Same H H' → OCat K (hide (as ++ S) H') (upd H' a o) a c' → SRel K S H0 δ (ω.set k (i, c')) σ (upd H' a o)
theorem SRel.bs {K : PySem.W.Frag} {S : List Addr} {H0 H : Hp} {δ : DEnv} {ω : Own} {σ : L2.St} (hS : SOk S H0) (r : SRel K S H0 δ ω σ H) : ∃ as : List Addr, Bs K S H0 δ ω σ H as := by
  obtain ⟨h1', h2', h3'⟩ := r.over hS
  obtain ⟨as, h1, h2, h3, h4, h5, h6⟩ := r.ex
  have notS : ∀ a ∈ as, a ∉ S := fun a ha z => by
    cases q : H0 a with
    | none => exact hS _ z q
    | some u =>
      have := h4 _ _ q
      rw [hide_in ha] at this
      cases this
  have kOf : ∀ a ∈ as, ∃ k i c, ω[k]? = some (i, c) ∧ as[k]? = some a := fun a ha => by
    obtain ⟨k, hk, e⟩ := List.mem_iff_getElem.mp ha
    have hk' : k < ω.length := by rw [← h1]; exact hk
    exact ⟨k, ω[k].1, ω[k].2, List.getElem?_eq_getElem hk', by rw [List.getElem?_eq_getElem hk, e]⟩
  have fresh : ∀ {H' : Hp} {p : Addr}, Same H H' → H' p = none → p ∉ as ++ S := fun s n => (h3.mono s).new n
  refine ⟨as, h3, h5, h1', h3', h2', fun H' v d s im rv => ?_, fun H' i v d s rv hi => ⟨as, h1, h2, h3.mono s, h4.trans (hide_mono s), (h5.mono s).set rv, fun k j c a e1 e2 => ?_⟩, fun H' i p c o s n oc hi hl => ?_, fun k i c hk => ?_⟩
  · refine Rp.imm_hide (fun a ha o xs => ?_) im rv
    obtain ⟨k, i, c, e1, e2⟩ := kOf a ha
    exact (OCat.mono (h6 k i c a e1 e2).2 (hide_mono s) (s _)).notup o xs
  · obtain ⟨q1, q2⟩ := h6 k j c a e1 e2
    refine ⟨?_, q2.mono (hide_mono s) (s _)⟩
    rw [List.getElem?_set_ne (fun z => hi _ (List.mem_of_getElem? e1) z.symm)]
    exact q1
  · have hp := fresh s n
    have e0 : hide (p :: as ++ S) (upd H' p o) = hide (as ++ S) H' := hide_cons_upd n
    have sm : Same H' (upd H' p o) := same_upd n o
    refine ⟨p :: as, by simp [h1], List.nodup_cons.mpr ⟨fun z => hp (List.mem_append_left _ z), h2⟩, fun a ha => ?_, ?_, ?_, fun k j c' a e1 e2 => ?_⟩
    · rcases List.mem_cons.mp ha with e | ha
      · rw [e, upd_same]; simp
      · exact ((h3.mono s).mono sm) a ha
    · rw [hide_cons_upd n]
      exact h4.trans (hide_mono s)
    · have q := ((h5.mono s).forget i (some (.ref p)))
      exact ⟨q.len, fun j d e => let ⟨v, z1, z2⟩ := q.val j d e; ⟨v, z1, by rw [e0]; exact z2⟩⟩
    · rw [e0]
      cases k with
      | zero =>
        simp only [List.getElem?_cons_zero, Option.some.injEq, Prod.mk.injEq] at e1 e2
        obtain ⟨e1, e3⟩ := e1
        subst e1 e2 e3
        exact ⟨List.getElem?_set_self (by rw [h5.len]; exact hl), oc⟩
      | succ k =>
        simp only [List.getElem?_cons_succ] at e1 e2
        obtain ⟨q1, q2⟩ := h6 k j c' a e1 e2
        refine ⟨?_, q2.mono (hide_mono s) (fun o e => sm _ _ (s _ _ e))⟩
        rw [List.getElem?_set_ne (fun z => hi _ (List.mem_of_getElem? e1) z.symm)]
        exact q1
  · have hka : k < as.length := by rw [h1]; exact (List.getElem?_eq_some_iff.mp hk).1
    have hka' : as[k]? = some as[k] := List.getElem?_eq_getElem hka
    obtain ⟨q1, q2⟩ := h6 k i c as[k] hk hka'
    have hm : as[k] ∈ as := List.getElem_mem hka
    refine ⟨as[k], hm, q1, q2, fun H' o c' s oc => ?_⟩
    have e0 : hide (as ++ S) (upd H' as[k] o) = hide (as ++ S) H' := hide_upd (List.mem_append_left _ hm)
    refine ⟨as, by rw [List.length_set]; exact h1, h2, fun a ha => ?_, ?_, ?_, fun j i' c2 a e1 e2 => ?_⟩
    · by_cases e : a = as[k]
      · rw [e, upd_same]; simp
      · rw [upd_ne e]; exact (h3.mono s) a ha
    · rw [hide_upd hm]
      exact h4.trans (hide_mono s)
    · exact ⟨h5.len, fun j d e => let ⟨v, z1, z2⟩ := (h5.mono s).val j d e; ⟨v, z1, by rw [e0]; exact z2⟩⟩
    · rw [e0]
      by_cases e : k = j
      · subst e
        rw [List.getElem?_set_self (by rw [← h1]; exact hka)] at e1
        rw [hka'] at e2
        cases e1
        cases e2
        exact ⟨q1, oc⟩
      · rw [List.getElem?_set_ne e] at e1
        obtain ⟨z1, z2⟩ := h6 j i' c2 a e1 e2
        have hne : a ≠ as[k] := fun z => e (by
          have hj : j < as.length := (List.getElem?_eq_some_iff.mp e2).1
          have ej : as[j] = a := (List.getElem?_eq_some_iff.mp e2).2
          exact ((List.getElem_inj h2).mp (ej.trans z)).symm)
        exact ⟨z1, z2.mono (hide_mono s) fun o' eo => by rw [upd_ne hne]; exact s _ _ eo⟩
theorem SRel.forget {K : PySem.W.Frag} {S : List Addr} {H0 H : Hp} {δ : DEnv} {ω : Own} {σ : L2.St} (k : Nat) (r : SRel K S H0 δ ω σ H) : SRel K S H0 δ (ω.eraseIdx k) σ H := by
  obtain ⟨as, h1, h2, h3, h4, h5, h6⟩ := r.ex
  have sub : ∀ a, a ∈ as.eraseIdx k → a ∈ as := fun a ha => List.mem_of_mem_eraseIdx ha
  have sub2 : ∀ a, a ∈ as.eraseIdx k ++ S → a ∈ as ++ S := fun a ha => (List.mem_append.mp ha).elim (fun z => List.mem_append_left _ (sub a z)) fun z => List.mem_append_right _ z
  have m := hide_le sub2 H
  refine ⟨as.eraseIdx k, ?_, h2.sublist (List.eraseIdx_sublist _ _), fun a ha => h3 a (sub2 a ha), h4.trans (hide_le sub H), ⟨h5.len, fun i d e => let ⟨v, z1, z2⟩ := h5.val i d e; ⟨v, z1, z2.mono m⟩⟩, fun j i c a e1 e2 => ?_⟩
  · rw [List.length_eraseIdx, List.length_eraseIdx, h1]
  · rw [List.getElem?_eraseIdx] at e1 e2
    by_cases q : j < k
    · rw [if_pos q] at e1 e2
      obtain ⟨z1, z2⟩ := h6 j i c a e1 e2
      exact ⟨z1, z2.mono m fun _ e => e⟩
    · rw [if_neg q] at e1 e2
      obtain ⟨z1, z2⟩ := h6 (j + 1) i c a e1 e2
      exact ⟨z1, z2.mono m fun _ e => e⟩
theorem dss_forget (k : Nat) (h : DSs G δ (ω.eraseIdx k) rest out) : DSs G δ ω rest out := fun X hX => PSs.imp (h X hX) fun D σ H ⟨S, H0, δ', ω', o', ⟨e1, e2, e3⟩, hS, r, q⟩ => by
  subst e1 e2 e3
  exact ⟨S, H0, _, _, _, ⟨rfl, rfl, rfl⟩, hS, r.forget k, q⟩
/-- a list that is changed no more -/
theorem dss_freeze {i : Nat} {cc : OC} (k : Nat) (hk : ω[k]? = some (i, cc)) (hi : ∀ j q, ω[j]? = some q → j ≠ k → q.1 ≠ i) (h : DSs G (δ.set i (some cc.data)) (ω.eraseIdx k) rest out) : DSs G δ ω rest out := fun X hX => PSs.imp (h X hX) fun D σ H ⟨S, H0, δ', ω', o', ⟨e1, e2, e3⟩, hS, r, q⟩ => by
  subst e1 e2 e3
  refine ⟨S, H0, _, _, _, ⟨rfl, rfl, rfl⟩, hS, ?_, q⟩
  obtain ⟨as, h1, h2, h3, h4, h5, h6⟩ := r.ex
  have hka : k < as.length := by rw [h1]; exact (List.getElem?_eq_some_iff.mp hk).1
  obtain ⟨q1, q2⟩ := h6 k i cc as[k] hk (List.getElem?_eq_getElem hka)
  have hn : as[k] ∉ as.eraseIdx k ++ S := fun z => by
    rcases List.mem_append.mp z with z | z
    · obtain ⟨j, hj, e⟩ := List.mem_iff_getElem.mp z
      have e2 : (as.eraseIdx k)[j]? = some as[k] := by rw [List.getElem?_eq_getElem hj, e]
      rw [List.getElem?_eraseIdx] at e2
      by_cases q : j < k
      · rw [if_pos q] at e2
        obtain ⟨h7, h8⟩ := List.getElem?_eq_some_iff.mp e2
        have := (List.getElem_inj h2).mp h8
        omega
      · rw [if_neg q] at e2
        obtain ⟨h7, h8⟩ := List.getElem?_eq_some_iff.mp e2
        have := (List.getElem_inj h2).mp h8
        omega
    · cases q : H0 as[k] with
      | none => exact hS _ z q
      | some u =>
        have := h4 _ _ q
        rw [hide_in (List.getElem_mem hka)] at this
        cases this
  have sub : ∀ a, a ∈ as.eraseIdx k → a ∈ as := fun a ha => List.mem_of_mem_eraseIdx ha
  have sub2 : ∀ a, a ∈ as.eraseIdx k ++ S → a ∈ as ++ S := fun a ha => (List.mem_append.mp ha).elim (fun z => List.mem_append_left _ (sub a z)) fun z => List.mem_append_right _ z
  obtain ⟨bs, b1, b2, b3, b4, b5, b6⟩ := (r.forget k).ex
  have m := hide_le sub2 H
  have r0 : SRel G.m.K S H0 δ' (ω'.eraseIdx k) σ H := r.forget k
  refine ⟨as.eraseIdx k, ?_, h2.sublist (List.eraseIdx_sublist _ _), fun a ha => h3 a (sub2 a ha), h4.trans (hide_le sub H), ?_, fun j i c a e1 e2 => ?_⟩
  · rw [List.length_eraseIdx, List.length_eraseIdx, h1]
  · have rr : Rel G.m.K (as.eraseIdx k ++ S) δ' σ H := ⟨h5.len, fun i d e => let ⟨v, z1, z2⟩ := h5.val i d e; ⟨v, z1, z2.mono m⟩⟩
    refine rr.look q1 (q2.rp m fun o ho => ?_)
    rw [hide_out hn]
    exact ho
  · rw [List.getElem?_eraseIdx] at e1 e2
    by_cases q : j < k
    · rw [if_pos q] at e1 e2
      obtain ⟨z1, z2⟩ := h6 j i c a e1 e2
      exact ⟨z1, z2.mono m fun _ e => e⟩
    · rw [if_neg q] at e1 e2
      obtain ⟨z1, z2⟩ := h6 (j + 1) i c a e1 e2
      exact ⟨z1, z2.mono m fun _ e => e⟩
end
end DL

set_option Elab.async false
set_option linter.all false
set_option maxRecDepth 100000
namespace DL
open PySem PySem.Spec L2
set_option autoImplicit false

/-! ### targets -/
inductive TSpec where
  | one (i : Nat)
  | two (i j : Nat)
def TSpec.ix : TSpec → List Nat
  | .one i => [i]
  | .two i j => [i, j]
def bindT : TSpec → PyData → DEnv → Option DEnv
  | .one i, d, δ => some (δ.set i (some d))
  | .two i j, .tuple [d, e], δ => some ((δ.set i (some d)).set j (some e))
  | _, _, _ => none
/-- a value that stands for data; of a tuple nothing more than its items need be known -/
def Rw (K : PySem.W.Frag) (H : Hp) (v : V) (d : PyData) : Prop := Rp K H v d ∨ ∃ a xs ds, v = .ref a ∧ d = .tuple ds ∧ H a = some (.tup xs) ∧ RpAll K H xs ds
def TSpec.rep (K : PySem.W.Frag) (H : Hp) (v : V) (d : PyData) : TSpec → Prop
  | .one _ => Rp K H v d
  | .two _ _ => Rw K H v d
theorem TSpec.rep_of {K : PySem.W.Frag} {H : Hp} {v : V} {d : PyData} (h : Rp K H v d) : ∀ ts : TSpec, ts.rep K H v d
  | .one _ => h
  | .two _ _ => .inl h
def tDG (K : PySem.W.Frag) (ts : TSpec) : TG := fun v σ H Q => ∃ S δ d δ2, bindT ts d δ = some δ2 ∧ SOk S H ∧ Rel K S δ σ H ∧ ts.rep K (hide S H) v d ∧ ∀ σ', Rel K S δ2 σ' H → (∀ i, i ∉ ts.ix → σ'[i]? = σ[i]?) → σ'.length = σ.length → Q σ' H
def DG (G : Ct) (tg : Expr) (ts : TSpec) : Prop := ∀ X, G.Is X → PG X tg (tDG G.m.K ts)
theorem PG.imp {X : Cx} {tg : Expr} {t t' : TG} (h : PG X tg t) (w : ∀ v σ H Q, t' v σ H Q → t v σ H Q) : PG X tg t' := ⟨fun pins s σ H v u Q I r q => h.run pins s σ H v u Q I r (w _ _ _ _ q)⟩
section
variable {G : Ct} {δ δ1 : DEnv} {ω ω1 : Own} {st : Stmt} {rest body thn els : List Stmt} {out : Out} {a b c e tg iter : Expr} {es : List Expr} {x y z d : PyData} {ds items : List PyData} {pos p p2 p3 : Pos} {ts : TSpec}
theorem pg_n {X : Cx} (hX : G.Is X) {i : Nat} {n : PySem.Str} (hN : G.N[i]? = some n) (hl : locB G n = true) : PG X (.Name n p) (gName i) :=
  pg_name hX.nd (by rw [hX.N]; exact hN) (by rw [hX.sc]; exact loc_of hl) (loc_fn hX hl)
theorem dg_one (i : Nat) {n : PySem.Str} (hN : G.N[i]? = some n) (hl : locB G n = true) : DG G (.Name n p) (.one i) := fun X hX =>
  PG.imp (pg_n hX hN hl) fun v σ H Q ⟨S, δ, d, δ2, e, ok, R, rv, q⟩ => by
    simp only [bindT, Option.some.injEq] at e
    subst e
    refine q _ (R.set rv) (fun j hj => ?_) (by rw [List.length_set])
    rw [List.getElem?_set_ne (fun z => hj (by simp [TSpec.ix, z]))]
theorem dg_two (i j : Nat) {n n' : PySem.Str} {k : Nat} (hN : G.N[i]? = some n) (hl : locB G n = true) (hN' : G.N[j]? = some n') (hl' : locB G n' = true)
    (h1 : ∀ env : Env, (assignEach [.Name n p, .Name n' p2] env).map (·.2) = assign (.Name n p) env :: (assignEach [.Name n' p2] env).map (·.2) := by intro _; rfl)
    (h2 : ∀ env : Env, (assignEach [.Name n' p2] env).map (·.2) = assign (.Name n' p2) env :: (assignEach [] env).map (·.2) := by intro _; rfl)
    (hn : ∀ env : Env, (assignEach [.Name n p, .Name n' p2] env).length = 2 := by intro _; rfl) (hst : ∀ env : Env, (assignEach [.Name n p, .Name n' p2] env).findIdx? (·.1) = none := by intro _; rfl) : DG G (.Tuple [.Name n p, .Name n' p2] k p3) (.two i j) := fun X hX =>
  PG.imp (pg_tup hX.calm (pgs_cons (pg_n hX hN hl) (pgs_cons (pg_n hX hN' hl') pgs_nil (h2 _)) (h1 _)) (hn _) (hst _)) fun v σ H Q ⟨S, δ, d, δ2, e, ok, R, rv, q⟩ => by
    have fin : ∀ (a : Addr) (xs : List V) (ds : List PyData), v = .ref a → d = .tuple ds → SqT X.K H a xs → RpAll G.m.K (hide S H) xs ds → gTup X.K 2 (gCons (gName i) (gCons (gName j) gNil)) v σ H Q := by
      intro a xs ds ev ed hT ra
      subst ev ed
      cases ra with
      | nil => cases e
      | cons r1 t =>
        cases t with
        | nil => cases e
        | cons r2 t =>
          cases t with
          | cons r3 t => cases e
          | nil =>
            cases e
            refine ⟨a, _, rfl, hT, rfl, _, _, rfl, _, _, rfl, rfl, q _ ((R.set r1).set r2) (fun m hm => ?_) (by rw [List.length_set, List.length_set])⟩
            have hm' : m ≠ i ∧ m ≠ j := by simpa [TSpec.ix] using hm
            rw [List.getElem?_set_ne (fun z => hm'.2 z.symm), List.getElem?_set_ne (fun z => hm'.1 z.symm)]
    rcases rv with rv | ⟨a, xs, ds, ev, ed, ht, ra⟩
    · cases d with
      | tuple ds =>
        cases rv with
        | tup e1 k1 z1 a1 => exact fin _ _ _ rfl rfl (SqT.frz (hide_some e1).2) a1
      | _ => cases e
    · exact fin a xs ds ev ed (SqT.of (hide_some ht).2) ra

/-! ### x = e; a, b = e -/
theorem ds_set (i : Nat) {n : PySem.Str} (hN : G.N[i]? = some n) (hl : locB G n = true) (h : DV G δ e d) (hi : ∀ q ∈ ω, q.1 ≠ i := by simp) (hs : ∀ env : Env, swapsWith e (some (.Name n p)) pos.line env = pure false := by intro _; rfl) :
    DS G δ ω (.Assign [.Name n p] e pos) (.next (δ.set i (some d)) ω) := fun X hX =>
  PS.imp (ps_set hX.nd (by rw [hX.N]; exact hN) (by rw [hX.sc]; exact loc_of hl) (h X hX) (hs _) (loc_fn hX hl)) fun D σ H ⟨S, H0, δ', ω', o', ⟨e1, e2, e3⟩, hS, r, q⟩ => by
    subst e1 e2 e3
    obtain ⟨as, B⟩ := r.bs hS
    exact ⟨_, _, _, ⟨rfl, rfl⟩, B.ok, B.rel, fun v H' s rv => q _ _ (B.store H' i v d s rv hi)⟩
/-- .. read off the own names, what comes of it is no list -/
theorem ds_seti (i : Nat) {n : PySem.Str} (hN : G.N[i]? = some n) (hl : locB G n = true) (h : DV G (ov δ ω) e d) (hd : imm d = true) (hi : ∀ q ∈ ω, q.1 ≠ i := by simp) (hs : ∀ env : Env, swapsWith e (some (.Name n p)) pos.line env = pure false := by intro _; rfl) :
    DS G δ ω (.Assign [.Name n p] e pos) (.next (δ.set i (some d)) ω) := fun X hX =>
  PS.imp (ps_set hX.nd (by rw [hX.N]; exact hN) (by rw [hX.sc]; exact loc_of hl) (h X hX) (hs _) (loc_fn hX hl)) fun D σ H ⟨S, H0, δ', ω', o', ⟨e1, e2, e3⟩, hS, r, q⟩ => by
    subst e1 e2 e3
    obtain ⟨as, B⟩ := r.bs hS
    exact ⟨_, _, _, ⟨rfl, rfl⟩, B.okS, B.relS, fun v H' s rv => q _ _ (B.store H' i v d s (B.imm H' v d s hd rv) hi)⟩
/-- a new list of one's own -/
theorem ds_own (i : Nat) {n : PySem.Str} (hN : G.N[i]? = some n) (hl : locB G n = true) (h : DN G δ e ds) (hi : ∀ q ∈ ω, q.1 ≠ i := by simp) (hlen : i < δ.length := by simp) (hs : ∀ env : Env, swapsWith e (some (.Name n p)) pos.line env = pure false := by intro _; rfl) :
    DS G δ ω (.Assign [.Name n p] e pos) (.next (δ.set i none) ((i, .lst ds) :: ω)) := fun X hX =>
  PS.imp (ps_set hX.nd (by rw [hX.N]; exact hN) (by rw [hX.sc]; exact loc_of hl) (h X hX) (hs _) (loc_fn hX hl)) fun D σ H ⟨S, H0, δ', ω', o', ⟨e1, e2, e3⟩, hS, r, q⟩ => by
    subst e1 e2 e3
    obtain ⟨as, B⟩ := r.bs hS
    refine ⟨_, _, _, ⟨rfl, rfl⟩, B.ok, B.rel, fun xs t H' s ht hz ra => q _ _ (B.own H' i t (.lst ds) (.lst xs) s ht ⟨xs, upd_same, hz, ra⟩ hi hlen)⟩
theorem ds_two (i j : Nat) {δ2 : DEnv} (hg : DG G tg (.two i j)) (h : DV G δ e d) (hb : bindT (.two i j) d δ = some δ2) (hi : ∀ q ∈ ω, q.1 ≠ i ∧ q.1 ≠ j := by simp)
    (hs : ∀ env : Env, swapsWithSole [tg] e pos.line env = pure false := by intro _; rfl) (hw : ∀ env : Env, swappedStores [tg] e env = pure none := by intro _; rfl) (h1 : ∀ env : Env, (assignEach [tg] env).map (·.2) = [assign tg env] := by intro _; rfl) :
    DS G δ ω (.Assign [tg] e pos) (.next δ2 ω) := fun X hX =>
  PS.imp (ps_asg (h X hX) (hg X hX) (hs _) (hw _) (h1 _)) fun D σ H ⟨S, H0, δ', ω', o', ⟨e1, e2, e3⟩, hS, r, q⟩ => by
    subst e1 e2 e3
    obtain ⟨as, g1, g2, g3, g4, g5, g6⟩ := r.ex
    refine ⟨_, _, _, ⟨rfl, rfl⟩, g3, g5, fun v H' s rv => ⟨_, _, d, δ2, hb, g3.mono s, g5.mono s, .inl rv, fun σ' R' keep hl => q _ _ ⟨as, g1, g2, g3.mono s, g4.trans (hide_mono s), R', fun k m c a f1 f2 => ?_⟩⟩⟩
    obtain ⟨q1, q2⟩ := g6 k m c a f1 f2
    have := hi _ (List.mem_of_getElem? f1)
    exact ⟨by rw [keep m (by simp [TSpec.ix]; exact this)]; exact q1, q2.mono (hide_mono s) (s _)⟩

/-! ### x.append(e), x.extend(e), x[k] = e -/
theorem pe_n {X : Cx} (hX : G.Is X) {i : Nat} {n : PySem.Str} (hN : G.N[i]? = some n) (hl : locB G n = true) : PE X (.Name n p) (tVar i) := by
  have hx := hX.nodbg n (List.mem_of_getElem? hN)
  have hv : Vis X.env.scope n := by
    rw [hX.sc]
    rcases loc_of hl with q | q
    · exact .inl q
    · exact .inr (.inl q)
  exact pe_var (by rw [hX.N]; exact hN) hv hx.1 hx.2
theorem ds_append (i k : Nat) {n : PySem.Str} {ap cp : Pos} (hN : G.N[i]? = some n) (hl : locB G n = true) (hk : ω[k]? = some (i, .lst ds)) (h : DV G δ e d) (hz : ds.length < 16777216)
    (hs : ∀ env : Env, swapsWith (.Call (.Attribute (.Name n p) "append" ap) [e] [] cp) none pos.line env = pure false := by intro _; rfl)
    (hbase : ∀ env : Env, attributeBase (.Name n p) "append" env (eval (.Name n p) env) = eval (.Name n p) env := by intro _; rfl)
    (hfew : ∀ env : Env, ((backTo cp (starEach [e] env)).all (fun x => !x.1) && (backToKw cp (keywordEach [] env)).all (fun x => x.1.isSome) && decide ([e].length + ([] : List Keyword).length + (if ([] : List Keyword).isEmpty then 0 else 1) < 30)) = true := by intro _; rfl)
    (hline : (ap.endLine == cp.line) = true := by rfl) (hs2 : ∀ env : Env, starEach [e] env = (false, eval e env) :: starEach [] env := by intro _; rfl) :
    DS G δ ω (.Expr (.Call (.Attribute (.Name n p) "append" ap) [e] [] cp) pos) (.next δ (ω.set k (i, .lst (ds ++ [d])))) := fun X hX =>
  PS.imp (ps_expr (pe_bm PySem.F.plainAttrs_list PySem.F.slot_list_append PySem.F.type_list_append mt_append (pe_n hX hN hl) (pa_cons (h X hX) pa_nil (hs2 _)) (hbase _) (hfew _) hline (hs2 _) rfl) (hs _)) fun D σ H ⟨S, H0, δ', ω', o', ⟨e1, e2, e3⟩, hS, r, q⟩ => by
    subst e1 e2 e3
    obtain ⟨as, B⟩ := r.bs hS
    obtain ⟨a, ha, q1, ⟨xs, q2, q3, q4⟩, fin⟩ := B.at_ k i _ hk
    refine ⟨.ref a, q1, .inl ⟨rfl, xs, SqL.of q2⟩, _, _, _, ⟨rfl, rfl⟩, B.ok, B.rel, fun v H' s rv => ⟨a, xs, v, rfl, rfl, s _ _ q2, ?_, q _ _ (fin H' _ _ s ⟨xs ++ [v], upd_same, ?_, (q4.mono (hide_mono s)).app (.one rv)⟩)⟩⟩
    · rw [q4.len, sizeLine_eq]; exact hz
    · rw [List.length_append, List.length_singleton, q4.len, sizeLine_eq]; omega
theorem ds_appendi (i k : Nat) {n : PySem.Str} {ap cp : Pos} (hN : G.N[i]? = some n) (hl : locB G n = true) (hk : ω[k]? = some (i, .lst ds)) (h : DV G (ov δ ω) e d) (hd : imm d = true) (hz : ds.length < 16777216)
    (hs : ∀ env : Env, swapsWith (.Call (.Attribute (.Name n p) "append" ap) [e] [] cp) none pos.line env = pure false := by intro _; rfl)
    (hbase : ∀ env : Env, attributeBase (.Name n p) "append" env (eval (.Name n p) env) = eval (.Name n p) env := by intro _; rfl)
    (hfew : ∀ env : Env, ((backTo cp (starEach [e] env)).all (fun x => !x.1) && (backToKw cp (keywordEach [] env)).all (fun x => x.1.isSome) && decide ([e].length + ([] : List Keyword).length + (if ([] : List Keyword).isEmpty then 0 else 1) < 30)) = true := by intro _; rfl)
    (hline : (ap.endLine == cp.line) = true := by rfl) (hs2 : ∀ env : Env, starEach [e] env = (false, eval e env) :: starEach [] env := by intro _; rfl) :
    DS G δ ω (.Expr (.Call (.Attribute (.Name n p) "append" ap) [e] [] cp) pos) (.next δ (ω.set k (i, .lst (ds ++ [d])))) := fun X hX =>
  PS.imp (ps_expr (pe_bm PySem.F.plainAttrs_list PySem.F.slot_list_append PySem.F.type_list_append mt_append (pe_n hX hN hl) (pa_cons (h X hX) pa_nil (hs2 _)) (hbase _) (hfew _) hline (hs2 _) rfl) (hs _)) fun D σ H ⟨S, H0, δ', ω', o', ⟨e1, e2, e3⟩, hS, r, q⟩ => by
    subst e1 e2 e3
    obtain ⟨as, B⟩ := r.bs hS
    obtain ⟨a, ha, q1, ⟨xs, q2, q3, q4⟩, fin⟩ := B.at_ k i _ hk
    refine ⟨.ref a, q1, .inl ⟨rfl, xs, SqL.of q2⟩, _, _, _, ⟨rfl, rfl⟩, B.okS, B.relS, fun v H' s rv => ⟨a, xs, v, rfl, rfl, s _ _ q2, ?_, q _ _ (fin H' _ _ s ⟨xs ++ [v], upd_same, ?_, (q4.mono (hide_mono s)).app (.one (B.imm H' v d s hd rv))⟩)⟩⟩
    · rw [q4.len, sizeLine_eq]; exact hz
    · rw [List.length_append, List.length_singleton, q4.len, sizeLine_eq]; omega
theorem ds_extend (i k : Nat) {n : PySem.Str} {ap cp : Pos} {es2 : List PyData} (hN : G.N[i]? = some n) (hl : locB G n = true) (hk : ω[k]? = some (i, .lst ds)) (h : DV G δ e (.list es2)) (hz : ds.length + es2.length ≤ 16777216)
    (hs : ∀ env : Env, swapsWith (.Call (.Attribute (.Name n p) "extend" ap) [e] [] cp) none pos.line env = pure false := by intro _; rfl)
    (hbase : ∀ env : Env, attributeBase (.Name n p) "extend" env (eval (.Name n p) env) = eval (.Name n p) env := by intro _; rfl)
    (hfew : ∀ env : Env, ((backTo cp (starEach [e] env)).all (fun x => !x.1) && (backToKw cp (keywordEach [] env)).all (fun x => x.1.isSome) && decide ([e].length + ([] : List Keyword).length + (if ([] : List Keyword).isEmpty then 0 else 1) < 30)) = true := by intro _; rfl)
    (hline : (ap.endLine == cp.line) = true := by rfl) (hs2 : ∀ env : Env, starEach [e] env = (false, eval e env) :: starEach [] env := by intro _; rfl) :
    DS G δ ω (.Expr (.Call (.Attribute (.Name n p) "extend" ap) [e] [] cp) pos) (.next δ (ω.set k (i, .lst (ds ++ es2)))) := fun X hX =>
  PS.imp (ps_expr (pe_bm PySem.F.plainAttrs_list PySem.F.slot_list_extend PySem.F.type_list_extend mt_extend (pe_n hX hN hl) (pa_cons (h X hX) pa_nil (hs2 _)) (hbase _) (hfew _) hline (hs2 _) rfl) (hs _)) fun D σ H ⟨S, H0, δ', ω', o', ⟨e1, e2, e3⟩, hS, r, q⟩ => by
    subst e1 e2 e3
    obtain ⟨as, B⟩ := r.bs hS
    obtain ⟨a, ha, q1, ⟨xs, q2, q3, q4⟩, fin⟩ := B.at_ k i _ hk
    refine ⟨.ref a, q1, .inl ⟨rfl, xs, SqL.of q2⟩, _, _, _, ⟨rfl, rfl⟩, B.ok, B.rel, fun v H' s rv => ?_⟩
    cases rv with
    | lst g1 g2 g3 =>
      rename_i a2 ys
      have hz' : xs.length + ys.length ≤ sizeLine := by rw [q4.len, g3.len, sizeLine_eq]; exact hz
      exact ⟨a, a2, xs, ys, rfl, rfl, s _ _ q2, (hide_some g1).2, hz', q _ _ (fin H' _ _ s ⟨xs ++ ys, upd_same, by rw [List.length_append]; exact hz', (q4.mono (hide_mono s)).app g3⟩)⟩

/-! ### if -/
theorem ds_if {k : Bool} (hc : DT G (ov δ ω) c k) (ht : k = true → DSs G δ ω thn out) (he : k = false → DSs G δ ω els out) : DS G δ ω (.If c thn els pos) out := fun X hX => by
  cases k with
  | true =>
    refine PS.imp (ps_if (hc X hX) (ht rfl X hX) (pss_never (sts := els))) fun D σ H ⟨S, H0, δ', ω', o', ⟨e1, e2, e3⟩, hS, r, q⟩ => ?_
    subst e1 e2 e3
    obtain ⟨as, B⟩ := r.bs hS
    exact ⟨_, _, _, ⟨rfl, rfl⟩, B.okS, B.relS, fun H' s => iteT ⟨S, H0, _, _, _, ⟨rfl, rfl, rfl⟩, hS, r.mono s, q⟩⟩
  | false =>
    refine PS.imp (ps_if (hc X hX) (pss_never (sts := thn)) (he rfl X hX)) fun D σ H ⟨S, H0, δ', ω', o', ⟨e1, e2, e3⟩, hS, r, q⟩ => ?_
    subst e1 e2 e3
    obtain ⟨as, B⟩ := r.bs hS
    exact ⟨_, _, _, ⟨rfl, rfl⟩, B.okS, B.relS, fun H' s => iteF ⟨S, H0, _, _, _, ⟨rfl, rfl, rfl⟩, hS, r.mono s, q⟩⟩
/-- if c: .. return ..; what stands behind it -/
theorem dss_if {k : Bool} (hc : DT G (ov δ ω) c k) (ht : k = true → ∃ d, out = .ret d ∧ DSs G δ ω thn (.ret d)) (he : k = false → DSs G δ ω rest out) : DSs G δ ω (.If c thn [] pos :: rest) out := by
  cases k with
  | true =>
    obtain ⟨d, e, h⟩ := ht rfl
    subst e
    exact dss_end (ds_if hc (fun _ => h) fun z => nomatch z)
  | false => exact dss_cons (ds_if hc (fun z => nomatch z) fun _ => dss_nil) (he rfl)
end
end DL

set_option Elab.async false
set_option linter.all false
set_option maxRecDepth 100000
namespace DL
open PySem PySem.Spec L2
set_option autoImplicit false

/-! ### enumerate(tuple), zip(list, tuple) -/
def IteT (K : PySem.W.Frag) (a : Addr) : It :=
  ⟨fun i H => ∃ (xs : List V) (x : V), SqT K H a xs ∧ xs[i]? = some x, fun i H v H' => ∃ T x, v = .ref T ∧ H T = none ∧ H' = upd H T (.tup [.int (i : Nat), x]) ∧ ∀ xs, SqT K H a xs → xs[i]? = some x, fun i H => ∃ xs : List V, SqT K H a xs ∧ xs.length = i⟩
theorem turn_enumT {P : Program} {w : World} {K : PySem.W.Frag} {elts : List Expr} {kk : Nat} {tpos : Pos} (a e it : Addr) (hei : e ≠ it) (hae : a ≠ e) (hai : a ≠ it) :
    Turn P w K (.Tuple elts kk tpos) (IteT K a) [e, it] e (fun i h => (∃ old, IsEnum h e it ((0 : Int) + (i : Int)) old) ∧ h.IsTupleIter it a i) where
  mem := by simp
  obj := fun i h st b hb => by
    obtain ⟨⟨old, he⟩, hit⟩ := st
    obtain ⟨o, ho, hc, hd⟩ := hit
    rcases List.mem_cons.mp hb with z | z
    · rw [z]; exact ⟨_, he, fun v q => nomatch q⟩
    · rw [List.mem_singleton] at z
      exact ⟨o, by rw [z]; exact ho, fun v q => by rw [hd] at q; cases q⟩
  keep := fun i h h' st k => ⟨let ⟨old, he⟩ := st.1; ⟨old, k e (by simp) _ he⟩, st.2.at fun o q => k it (by simp) o q⟩
  item := by
    intro X hP hw hK hc i pins s σ H E I hf st hg
    subst hP hw hK
    obtain ⟨he, hit⟩ := st
    obtain ⟨xs, x, hq, hx⟩ := hg
    obtain ⟨its, rv, p, hz⟩ := I.tuple hq
    obtain ⟨u, hu, ru⟩ := rv.get hx
    have hh : X.A.in1.handled = none := I.ok.hd hc
    have hi : i < its.toArray.size := by rw [List.size_toArray]; exact (List.getElem?_eq_some_iff.mp hu).1
    have hlt : ∀ b ∈ [e, it], b < s.heap.objs.size := fun b hb => by
      rcases List.mem_cons.mp hb with z | z
      · rw [z]; obtain ⟨_, q⟩ := he; exact Heap.lt_size q
      · rw [List.mem_singleton] at z; rw [z]; obtain ⟨_, q, _⟩ := hit; exact Heap.lt_size q
    refine (GoesN.enumFrom (elts := elts) (x1 := kk) (pos := tpos) 0 (Draws.tuple (prog := X.prog) (w := X.w) hh it a hai its.toArray) e hei (by simp [hei, hae.symm]) (by simp)).goes i s _ E hi ⟨he, hit, p⟩ fun v h' tk hY st' hk htk => ?_
    obtain ⟨T, t, y, ev, hT, hy, hIs⟩ := hY
    subst ev
    have ey : y = u := by
      rw [List.getElem?_toArray] at hy
      exact Option.some.inj (hy.symm.trans hu)
    subst ey
    have new : ObjOk X.prog X.w (upd H T (.tup [.int (i : Nat), x])) h' T (.tup [.int (i : Nat), x]) :=
      ⟨by show 2 ≤ sizeLine; decide, [.int (0 + (i : Int)) t, y], .cons ⟨t, by rw [Int.zero_add]⟩ (.cons ru .nil), hIs⟩
    have I1 : Inv X pins σ (upd H T (.tup [.int (i : Nat), x])) { s with heap := h', toks := tk } := I.turnedNew (ch := [e, it]) hk hf hT new
    refine ⟨.ref T, _, I1, rfl, ⟨T, x, rfl, I.hok.fresh hT, rfl, fun ys hy => by rw [I.tuple_inj hy hq]; exact hx⟩, ⟨st'.1, st'.2.1⟩, fun b hb => ?_⟩
    rw [upd_ne (Nat.ne_of_lt (Nat.lt_of_lt_of_le (hlt b hb) hT))]
    exact (hf b hb).1
  done := by
    intro X hP hw hK hc i pins s σ H E I hf st hg
    subst hP hw hK
    obtain ⟨he, hit⟩ := st
    obtain ⟨xs, hq, hx⟩ := hg
    obtain ⟨its, rv, p, hz⟩ := I.tuple hq
    have hh : X.A.in1.handled = none := I.ok.hd hc
    have en : i = its.toArray.size := by rw [List.size_toArray, ← rv.length]; exact hx.symm
    subst en
    refine (GoesN.enumFrom (elts := elts) (x1 := kk) (pos := tpos) 0 (Draws.tuple (prog := X.prog) (w := X.w) hh it a hai its.toArray) e hei (by simp [hei, hae.symm]) (by simp)).stops s _ E ⟨he, hit, p⟩ fun h' tk hk htk => ?_
    exact I.turnedL (ch := [e, it]) hk hf
  self := fun A i s Q E st h => let ⟨⟨_, he⟩, _⟩ := st; wpAny_pyIter_enum he h
set_option maxHeartbeats 1000000 in
theorem meets_enum1 {v : Value} {o : Obj} {H : Heap → Prop} (B : Begins v o H) :
    Meets (Builtin.«enumerate.__new__» ⟨[.type "enumerate", v], []⟩) (fun _ R s => H s.heap ∧
      R (.ok (.ret (.ref (s.heap.push o).objs.size))) { s with heap := (s.heap.push o).push { cls := .type "enumerate", data := .fields #[.none, .bool false, .ref s.heap.objs.size, rawInt 0, .none, .none] } }) :=
  .of_wp fun prog w A R s hh => by
    obtain ⟨hp, g, d, tk, os⟩ := s
    obtain ⟨h1, h⟩ := hh
    have hs1 := sub_enumerate
    have go : ∀ {A' : Around} {E : Value → Shared → Prop} {Q : Value → Shared → Prop}, Q (.ref hp.objs.size) ⟨hp.push o, g, d, tk, os⟩ → wpAny (model prog w) A' (pyIter v) Q E ⟨hp, g, d, tk, os⟩ :=
      fun q => B.iter prog w _ _ ⟨hp, g, d, tk, os⟩ _ h1 q
    wp_walk using go
    refine wpAny_stack_any fun st => wpAny_pure ?_
    split
    · rename_i c _ _ _ _ _
      cases (c == Value.type "enumerate")
      · wp_walk using go
        exact ⟨_, rfl, h⟩
      · wp_walk using go
        exact ⟨_, rfl, h⟩
    · wp_walk using go
      exact ⟨_, rfl, h⟩
theorem enum_begins1 {prog : Program} {w : World} {A : Around} {E : Value → Shared → Prop} {s : Shared} {v : Value} {o : Obj} {H : Heap → Prop} {Q : Value → Shared → Prop} (B : Begins v o H) (h1 : H s.heap)
    (h : ∀ h', IsEnum h' (s.heap.objs.size + 1) s.heap.objs.size 0 .none → h'.get? s.heap.objs.size = some o → h'.objs.size = s.heap.objs.size + 2 →
      (∀ b o, s.heap.get? b = some o → h'.get? b = some o) → Q (.ref (s.heap.objs.size + 1)) { s with heap := h' }) :
    wpAny (model prog w) A (call (.type "enumerate") [v]) Q E s := by
  refine callType_new F.called_enumerate (by decide) (F.typeCall_enumerate_1 _) (F.newCall_enumerate_1 _) (fun obj => F.args_object_init_2 obj _) F.entry_enumerate_new (meets_enum1 B) ⟨h1, ?_⟩
  have hz : (s.heap.push o).objs.size = s.heap.objs.size + 1 := Heap.size_push ..
  show _ ∧ _
  rw [hz]
  have he : IsEnum ((s.heap.push o).push { cls := .type "enumerate", data := .fields #[.none, .bool false, .ref s.heap.objs.size, rawInt 0, .none, .none] }) (s.heap.objs.size + 1) s.heap.objs.size 0 .none := by
    have e := Heap.get?_push_size (s.heap.push o) (o := { cls := .type "enumerate", data := .fields #[.none, .bool false, .ref s.heap.objs.size, rawInt 0, .none, .none] }) rfl
    rw [hz] at e
    exact e
  exact ⟨⟨_, he, rfl⟩, h _ he (Heap.get?_push_of_some _ (Heap.get?_push_size _ B.free)) (by rw [Heap.size_push, hz]) fun b o x => Heap.get?_push_of_some _ (Heap.get?_push_of_some _ x)⟩
def iEnumT (K : PySem.W.Frag) (ta : TA) : TI := fun σ H R => ta σ H fun vs H1 => ∃ a xs, vs = [.ref a] ∧ SqT K H1 a xs ∧ R (IteT K a) H1
theorem pi_enumT {X : Cx} {e : Expr} {ta : TA} {p pos tpos : Pos} {elts : List Expr} {kk : Nat} (hg : Gl X "enumerate") (hm : X.mg "enumerate" = none) (ha : PA X [e] ta) (hs : starEach [e] X.env = [(false, eval e X.env)]) :
    PI X (.Tuple elts kk tpos) (.Call (.Name "enumerate" p) [e] [] pos) (iEnumT X.K ta) := by
  refine ⟨fun pins s σ H R I h => ?_⟩
  refine PyProof.Rows.Call_ (ld_blt I hg hm PyProof.Rows.boot_enumerate (PyProof.Rows.callWith_type1 (thn (ha.run pos pins s σ H _ I h) fun us s1 ⟨vs, H1, I1, r1, q1⟩ => ?_) hs rfl))
  obtain ⟨a, xs, ex, hq, q⟩ := q1
  subst ex
  obtain rfl := Vals.ref1 r1
  obtain ⟨its, rv, p', hz⟩ := I1.tuple hq
  have la : a < s1.heap.objs.size := p'.lt
  refine enum_begins1 (begins_tuple a its.toArray) p' fun h' he hit hsz hk => wpAny_pyIter_enum he ?_
  have I2 : Inv X pins σ H1 { s1 with heap := h' } := I1.kept (t' := s1.toks) hk
  refine ⟨s1.heap.objs.size + 1, [s1.heap.objs.size + 1, s1.heap.objs.size], _, _, H1, rfl, I2, turn_enumT a (s1.heap.objs.size + 1) s1.heap.objs.size (Nat.succ_ne_self _) (Nat.ne_of_lt (Nat.lt_succ_of_lt la)) (Nat.ne_of_lt la), ⟨⟨.none, he⟩, ⟨_, hit, rfl, rfl⟩⟩, fun b hb => ?_, q⟩
  have hle : s1.heap.objs.size ≤ b := by
    rcases List.mem_cons.mp hb with z | z
    · rw [z]; exact Nat.le_add_right _ _
    · rw [List.mem_singleton] at z; rw [z]; exact Nat.le_refl _
  exact I1.fpOk hle (I1.hok.fresh hle)
end DL

set_option Elab.async false
set_option linter.all false
set_option maxRecDepth 100000
namespace DL
open PySem PySem.Spec L2
set_option autoImplicit false

/-! ### what is walked -/
def ItOk (K : PySem.W.Frag) (F : Hp) (J : It) (items : List PyData) : Prop := ∀ (S2 : List Addr) (H2 : Hp), Same F (hide S2 H2) → SOk S2 H2 →
  (∀ (i : Nat) (d : PyData), items[i]? = some d → J.go i H2 ∧ ∀ x H3, J.yld i H2 x H3 → Same H2 H3 ∧ Rw K (hide S2 H3) x d) ∧ J.stop items.length H2
def tDI (K : PySem.W.Frag) (R : DEnv → List PyData → Prop) : TI := fun σ H Q => ∃ S δ items, R δ items ∧ SOk S H ∧ Rel K S δ σ H ∧ ∀ J H', Same H H' → ItOk K (hide S H') J items → Q J H'
def DI (G : Ct) (δ : DEnv) (tg iter : Expr) (items : List PyData) : Prop := ∀ X, G.Is X → PI X tg iter (tDI G.m.K fun δ' d' => δ' = δ ∧ d' = items)
/-- where the items may be bound to one name -/
def ItOk1 (K : PySem.W.Frag) (F : Hp) (J : It) (items : List PyData) : Prop := ∀ (S2 : List Addr) (H2 : Hp), Same F (hide S2 H2) → SOk S2 H2 →
  (∀ (i : Nat) (d : PyData), items[i]? = some d → J.go i H2 ∧ ∀ x H3, J.yld i H2 x H3 → Same H2 H3 ∧ Rp K (hide S2 H3) x d) ∧ J.stop items.length H2
def tDI1 (K : PySem.W.Frag) (R : DEnv → List PyData → Prop) : TI := fun σ H Q => ∃ S δ items, R δ items ∧ SOk S H ∧ Rel K S δ σ H ∧ ∀ J H', Same H H' → ItOk1 K (hide S H') J items → Q J H'
def DI1 (G : Ct) (δ : DEnv) (tg iter : Expr) (items : List PyData) : Prop := ∀ X, G.Is X → PI X tg iter (tDI1 G.m.K fun δ' d' => δ' = δ ∧ d' = items)
theorem ItOk1.weak {K : PySem.W.Frag} {F : Hp} {J : It} {items : List PyData} (h : ItOk1 K F J items) : ItOk K F J items := fun S2 H2 s ok =>
  let ⟨h1, h2⟩ := h S2 H2 s ok
  ⟨fun i d e => let ⟨g, y⟩ := h1 i d e; ⟨g, fun x H3 q => let ⟨a, b⟩ := y x H3 q; ⟨a, .inl b⟩⟩, h2⟩
theorem PI.imp {X : Cx} {tg iter : Expr} {t t' : TI} (h : PI X tg iter t) (w : ∀ σ H Q, t' σ H Q → t σ H Q) : PI X tg iter t' := ⟨fun pins s σ H R I q => h.run pins s σ H R I (w _ _ _ q)⟩
section
variable {G : Ct} {δ δ1 : DEnv} {ω ω1 : Own} {st : Stmt} {rest body thn els : List Stmt} {out : Out} {a b c e tg iter : Expr} {es : List Expr} {x y z d : PyData} {ds items : List PyData} {pos p p2 p3 : Pos} {ts : TSpec}
theorem DI1.weak (h : DI1 G δ tg iter items) : DI G δ tg iter items := fun X hX => PI.imp (h X hX) fun σ H Q ⟨S, δ', d', r, ok, R, q⟩ => ⟨S, δ', d', r, ok, R, fun J H' s i => q J H' s i.weak⟩
theorem DI1.conv (h : DI1 G δ tg iter items) {i2 : List PyData} (q : items = i2) : DI1 G δ tg iter i2 := q ▸ h
theorem DI.conv (h : DI G δ tg iter items) {i2 : List PyData} (q : items = i2) : DI G δ tg iter i2 := q ▸ h
theorem seq_itok {K : PySem.W.Frag} {S : List Addr} {H : Hp} {v : V} (r : Rp K (hide S H) v y) (h : Seq y ds) : (∃ a, v = .ref a ∧ (∃ xs, SqL K H a xs) ∧ ItOk1 K (hide S H) (Itl K a) ds ∧ ∃ z, y = .list z) ∨ (∃ a, v = .ref a ∧ (∃ xs, SqT K H a xs) ∧ ItOk1 K (hide S H) (Itt K a) ds ∧ ∃ z, y = .tuple z) := by
  cases h with
  | lst =>
    left
    cases r with
    | lst e1 z1 a1 =>
      rename_i a xs
      refine ⟨a, rfl, ⟨xs, SqL.of (hide_some e1).2⟩, fun S2 H2 s ok => ⟨fun i d e => ?_, xs, SqL.of (hide_some (s _ _ e1)).2, by rw [a1.len]; exact Nat.le_refl _⟩, _, rfl⟩
      obtain ⟨v, hv, rv⟩ := a1.get e
      refine ⟨⟨xs, v, SqL.of (hide_some (s _ _ e1)).2, hv⟩, fun x H3 y => ?_⟩
      obtain ⟨e3, hx⟩ := y
      subst e3
      have := hx xs (SqL.of (hide_some (s _ _ e1)).2)
      rw [hv] at this
      cases this
      exact ⟨Same.refl _, rv.mono s⟩
  | tup =>
    right
    cases r with
    | tup e1 k1 z1 a1 =>
      rename_i a xs o
      refine ⟨a, rfl, ⟨xs, SqT.frz (hide_some e1).2⟩, fun S2 H2 s ok => ⟨fun i d e => ?_, xs, SqT.frz (hide_some (s _ _ e1)).2, by rw [a1.len]; exact Nat.le_refl _⟩, _, rfl⟩
      obtain ⟨v, hv, rv⟩ := a1.get e
      refine ⟨⟨xs, v, SqT.frz (hide_some (s _ _ e1)).2, hv⟩, fun x H3 y => ?_⟩
      obtain ⟨e3, hx⟩ := y
      subst e3
      have := hx xs (SqT.frz (hide_some (s _ _ e1)).2)
      rw [hv] at this
      cases this
      exact ⟨Same.refl _, rv.mono s⟩
theorem di_seq (ha : DV G δ iter y) (h : Seq y ds) : DI1 G δ tg iter ds := fun X hX => by
  cases h with
  | lst =>
    refine PI.imp (pi_list (ha X hX)) fun σ H Q ⟨S, δ', d', ⟨e1, e2⟩, ok, R, q⟩ => ?_
    subst e1 e2
    refine ⟨S, _, _, ⟨rfl, rfl⟩, ok, R, fun v H1 s1 r1 => ?_⟩
    rcases seq_itok r1 (Seq.lst d') with ⟨a, h1, h2, h3, _⟩ | ⟨_, _, _, _, z, hz⟩
    · rw [hX.K]
      exact ⟨a, h1, h2, q _ H1 s1 h3⟩
    · cases hz
  | tup =>
    refine PI.imp (pi_tup (ha X hX)) fun σ H Q ⟨S, δ', d', ⟨e1, e2⟩, ok, R, q⟩ => ?_
    subst e1 e2
    refine ⟨S, _, _, ⟨rfl, rfl⟩, ok, R, fun v H1 s1 r1 => ?_⟩
    rcases seq_itok r1 (Seq.tup d') with ⟨_, _, _, _, z, hz⟩ | ⟨a, h1, h2, h3, _⟩
    · cases hz
    · rw [hX.K]
      exact ⟨a, h1, h2, q _ H1 s1 h3⟩
theorem itr_ok {K : PySem.W.Frag} {F : Hp} {lo : Int} {n : Nat} : ItOk1 K F (Itr lo n) (((List.range n).map fun i => lo + ((i : Nat) : Int)).map .int) := fun S2 H2 s ok => by
  refine ⟨fun i d e => ?_, by show n ≤ _; simp⟩
  rw [List.map_map, List.getElem?_map] at e
  have hi : i < n := by
    cases q : (List.range n)[i]? with
    | none => rw [q] at e; cases e
    | some j => have := (List.getElem?_eq_some_iff.mp q).1; simpa using this
  rw [List.getElem?_range hi] at e
  cases e
  refine ⟨hi, fun x H3 y => ?_⟩
  obtain ⟨e1, e2⟩ := y
  subst e1 e2
  exact ⟨Same.refl _, .int _⟩
theorem di_range {n : Int} (B : Blt G.m) (hg : globB G.sc "range" = true) (ha : DV G δ a (.int n)) (h0 : -(2 ^ 62) ≤ n) (h1 : n < 2 ^ 62) (hs : ∀ env : Env, starEach [a] env = (false, eval a env) :: starEach [] env := by intro _; rfl)
    (hs2 : ∀ env : Env, starEach [a] env = [(false, eval a env)] := by intro _; rfl) : DI1 G δ tg (.Call (.Name "range" p) [a] [] pos) ((upto n).map .int) := fun X hX =>
  PI.imp (pi_range1 (gl_of hX hg) (by rw [hX.mg]; exact B.range) (pa_cons (ha X hX) pa_nil (hs _)) (hs2 _)) fun σ H Q ⟨S, δ', d', ⟨e1, e2⟩, ok, R, q⟩ => by
    subst e1 e2
    refine ⟨S, _, _, ⟨rfl, rfl⟩, ok, R, fun v H1 s1 r1 => ?_⟩
    cases r1
    refine ⟨n, rfl, h0, h1, q _ H1 s1 ?_⟩
    have e : upto n = (List.range n.toNat).map fun i => (0 : Int) + ((i : Nat) : Int) := by
      unfold upto
      congr 1
      funext i
      rw [Int.zero_add]
    rw [e]
    exact itr_ok
theorem di_range2 {m n : Int} (B : Blt G.m) (hg : globB G.sc "range" = true) (ha : DV G δ a (.int m)) (hb : DV G δ b (.int n)) (h0 : -(2 ^ 62) ≤ m ∧ m < 2 ^ 62 ∧ -(2 ^ 62) ≤ n ∧ n < 2 ^ 62)
    (hs : ∀ env : Env, starEach [a, b] env = (false, eval a env) :: starEach [b] env := by intro _; rfl) (hs3 : ∀ env : Env, starEach [b] env = (false, eval b env) :: starEach [] env := by intro _; rfl)
    (hs2 : ∀ env : Env, starEach [a, b] env = [(false, eval a env), (false, eval b env)] := by intro _; rfl) (hs4 : ∀ env : Env, starEach [b] env = [(false, eval b env)] := by intro _; rfl) :
    DI1 G δ tg (.Call (.Name "range" p) [a, b] [] pos) (((List.range (n - m).toNat).map fun i => m + ((i : Nat) : Int)).map .int) := fun X hX =>
  PI.imp (pi_range2 (gl_of hX hg) (by rw [hX.mg]; exact B.range) (pa_cons (ha X hX) (pa_cons (hb X hX) pa_nil (hs3 _)) (hs _)) (hs2 _) (hs4 _)) fun σ H Q ⟨S, δ', d', ⟨e1, e2⟩, ok, R, q⟩ => by
    subst e1 e2
    refine ⟨S, _, _, ⟨rfl, rfl⟩, ok, R, fun v H1 s1 r1 => ⟨S, _, _, ⟨rfl, rfl⟩, ok.mono s1, R.mono s1, fun w H2 s2 r2 => ?_⟩⟩
    cases r1
    cases r2
    exact ⟨m, n, rfl, h0, q _ H2 (s1.trans s2) itr_ok⟩
/-- the items with their numbers -/
def numbered (ds : List PyData) : List PyData := ds.zipIdx.map fun q => .tuple [.int (q.2 : Nat), q.1]
theorem numbered_get {i : Nat} {d : PyData} (h : (numbered ds)[i]? = some d) : ∃ d', ds[i]? = some d' ∧ d = .tuple [.int (i : Nat), d'] := by
  unfold numbered at h
  rw [List.getElem?_map, List.getElem?_zipIdx] at h
  cases e : ds[i]? with
  | none => rw [e] at h; cases h
  | some d' =>
    rw [e] at h
    simp only [Option.map_some, Option.some.injEq, Nat.zero_add] at h
    exact ⟨d', rfl, h.symm⟩
theorem numbered_len : (numbered ds).length = ds.length := by unfold numbered; simp
theorem pair_rw {K : PySem.W.Frag} {S2 : List Addr} {H2 : Hp} {T : Addr} {v : V} {i : Nat} (ok : SOk S2 H2) (hT : H2 T = none) (rv : Rp K (hide S2 H2) v d) : Rw K (hide S2 (upd H2 T (.tup [.int (i : Nat), v]))) (.ref T) (.tuple [.int (i : Nat), d]) :=
  .inr ⟨T, _, _, rfl, rfl, hide_upd_at ok hT, .cons (.int _) (.cons (rv.mono (hide_mono (same_upd hT _))) .nil)⟩
theorem di_enum {elts : List Expr} {kk : Nat} {tpos : Pos} (B : Blt G.m) (hg : globB G.sc "enumerate" = true) (ha : DV G δ a y) (h : Seq y ds) (hs : ∀ env : Env, starEach [a] env = (false, eval a env) :: starEach [] env := by intro _; rfl)
    (hs2 : ∀ env : Env, starEach [a] env = [(false, eval a env)] := by intro _; rfl) : DI G δ (.Tuple elts kk tpos) (.Call (.Name "enumerate" p) [a] [] pos) (numbered ds) := fun X hX => by
  cases h with
  | lst =>
    refine PI.imp (pi_enum (gl_of hX hg) (by rw [hX.mg]; exact B.enumerate) (pa_cons (ha X hX) pa_nil (hs _)) (hs2 _)) fun σ H Q ⟨S, δ', d', ⟨e1, e2⟩, ok, R, q⟩ => ?_
    subst e1 e2
    refine ⟨S, _, _, ⟨rfl, rfl⟩, ok, R, fun v H1 s1 r1 => ?_⟩
    cases r1 with
    | lst g1 g2 g3 =>
      rename_i a xs
      rw [hX.K]
      refine ⟨a, xs, rfl, SqL.of (hide_some g1).2, q _ H1 s1 fun S2 H2 s ok => ⟨fun i d e => ?_, xs, SqL.of (hide_some (s _ _ g1)).2, by rw [numbered_len, g3.len]; exact Nat.le_refl _⟩⟩
      obtain ⟨d', h1, h2⟩ := numbered_get e
      subst h2
      obtain ⟨v, hv, rv⟩ := g3.get h1
      refine ⟨⟨xs, v, SqL.of (hide_some (s _ _ g1)).2, hv⟩, fun x H3 y => ?_⟩
      obtain ⟨T, u, e1, hT, e3, hu⟩ := y
      subst e1 e3
      have := hu xs (SqL.of (hide_some (s _ _ g1)).2)
      rw [hv] at this
      cases this
      exact ⟨same_upd hT _, pair_rw ok hT (rv.mono s)⟩
  | tup =>
    refine PI.imp (pi_enumT (gl_of hX hg) (by rw [hX.mg]; exact B.enumerate) (pa_cons (ha X hX) pa_nil (hs _)) (hs2 _)) fun σ H Q ⟨S, δ', d', ⟨e1, e2⟩, ok, R, q⟩ => ?_
    subst e1 e2
    refine ⟨S, _, _, ⟨rfl, rfl⟩, ok, R, fun v H1 s1 r1 => ?_⟩
    cases r1 with
    | tup g1 k1 g2 g3 =>
      rename_i a xs o
      rw [hX.K]
      refine ⟨a, xs, rfl, SqT.frz (hide_some g1).2, q _ H1 s1 fun S2 H2 s ok => ⟨fun i d e => ?_, xs, SqT.frz (hide_some (s _ _ g1)).2, by rw [numbered_len, g3.len]⟩⟩
      obtain ⟨d', h1, h2⟩ := numbered_get e
      subst h2
      obtain ⟨v, hv, rv⟩ := g3.get h1
      refine ⟨⟨xs, v, SqT.frz (hide_some (s _ _ g1)).2, hv⟩, fun x H3 y => ?_⟩
      obtain ⟨T, u, e1, hT, e3, hu⟩ := y
      subst e1 e3
      have := hu xs (SqT.frz (hide_some (s _ _ g1)).2)
      rw [hv] at this
      cases this
      exact ⟨same_upd hT _, pair_rw ok hT (rv.mono s)⟩

/-! ### for -/
def ofree (ts : TSpec) (ω : Own) : Prop := ∀ q ∈ ω, q.1 ∉ ts.ix
def DFor (G : Ct) (ts : TSpec) (body : List Stmt) : List PyData → DEnv → Own → Out → Prop
  | [], δ, ω, out => out = .next δ ω
  | d :: ds, δ, ω, out => ∃ δb, bindT ts d δ = some δb ∧ ofree ts ω ∧ ((∃ δ1 ω1, DSs G δb ω body (.next δ1 ω1) ∧ DFor G ts body ds δ1 ω1 out) ∨ ∃ r, out = .ret r ∧ DSs G δb ω body (.ret r))
theorem SRel.rebase {K : PySem.W.Frag} {S : List Addr} {H0 H : Hp} {σ : L2.St} (r : SRel K S H0 δ ω σ H) : ∃ F, Same H0 F ∧ SRel K S F δ ω σ H ∧ (∃ as : List Addr, F = hide as H) := by
  obtain ⟨as, h1, h2, h3, h4, h5, h6⟩ := r.ex
  exact ⟨hide as H, h4, ⟨as, h1, h2, h3, Same.refl _, h5, h6⟩, as, rfl⟩
theorem SRel.unbase {K : PySem.W.Frag} {S : List Addr} {H0 F H : Hp} {σ : L2.St} (r : SRel K S F δ ω σ H) (s : Same H0 F) : SRel K S H0 δ ω σ H := by
  obtain ⟨as, h1, h2, h3, h4, h5, h6⟩ := r.ex
  exact ⟨as, h1, h2, h3, s.trans h4, h5, h6⟩
theorem OutOk.unbase {K : PySem.W.Frag} {S : List Addr} {H0 F : Hp} {D : Ends} (s : Same H0 F) : ∀ {out : Out}, OutOk K S H0 D out → OutOk K S F D out
  | .next _ _, q => fun σ' H' r => q σ' H' (r.unbase s)
  | .ret _, q => fun v H' s' rv => q v H' (s.trans s') rv
theorem ds_for_core {wi : TI} (hg : DG G tg ts) (hpi : ∀ X, G.Is X → PI X tg iter wi) (hbody : DFor G ts body items δ ω out)
    (hwi : ∀ (S : List Addr) (σ : L2.St) (H : Hp) (Q : It → Hp → Prop), SOk S H → Rel G.m.K S δ σ H →
      (∀ J H', Same H H' → (∀ (S2 : List Addr) (H2 : Hp), Same (hide S H') (hide S2 H2) → SOk S2 H2 →
        (∀ (i : Nat) (d : PyData), items[i]? = some d → J.go i H2 ∧ ∀ x H3, J.yld i H2 x H3 → Same H2 H3 ∧ ts.rep G.m.K (hide S2 H3) x d) ∧ J.stop items.length H2) → Q J H') → wi σ H Q)
    (hs : ∀ (env : Env) (x : Value), foldedSetIterable iter env x = pure x) : DS G δ ω (.For tg iter body [] pos) out := fun X hX => by
  have hb : PSs X body (tDS G.m.K fun δ' ω' o' => DSs G δ' ω' body o') := PSs.rel fun δ' ω' o' h => h X hX
  refine PS.imp (ps_for hX.xe hX.calm (hpi X hX) (hg X hX) hb (hs _)) fun D σ H ⟨S, H0, δ', ω', o', ⟨e1, e2, e3⟩, hS, r, q⟩ => ?_
  subst e1 e2 e3
  obtain ⟨as, h1, h2, h3, h4, h5, h6⟩ := r.ex
  refine hwi _ σ H _ h3 h5 fun J H1 s1 itok => ?_
  have hF : Same H0 (hide as H1) := h4.trans (hide_mono s1)
  have hSF : SOk S (hide as H1) := hS.mono hF
  have r1 : SRel G.m.K S (hide as H1) δ' ω' σ H1 := ⟨as, h1, h2, h3.mono s1, Same.refl _, h5.mono s1, fun k i c a e1 e2 => let ⟨q1, q2⟩ := h6 k i c a e1 e2; ⟨q1, q2.mono (hide_mono s1) (s1 _)⟩⟩
  generalize hFe : hide as H1 = F at hF hSF r1
  refine ⟨fun i m σ' H' => m = items.length - i ∧ i ≤ items.length ∧ ∃ δi ωi, DFor G ts body (items.drop i) δi ωi o' ∧ SRel G.m.K S F δi ωi σ' H', ⟨_, rfl, Nat.zero_le _, δ', ω', hbody, r1⟩, ?_⟩
  rintro i m σ' H' ⟨em, hi, δi, ωi, hrun, r'⟩
  obtain ⟨as', b1, b2, b3, b4, b5, b6⟩ := r'.ex
  have hsm : Same (hide (as ++ S) H1) (hide (as' ++ S) H') := by
    rw [hide_app, hide_app, hFe]
    exact hide_mono b4
  obtain ⟨hgo, hstop⟩ := itok _ _ hsm b3
  by_cases hlt : i < items.length
  · rw [List.drop_eq_getElem_cons hlt] at hrun
    obtain ⟨δb, hbd, hfree, halt⟩ := hrun
    obtain ⟨go, yld⟩ := hgo i items[i] (List.getElem?_eq_getElem hlt)
    have body : ∀ (N : L2.St → Hp → Prop) (o2 : Out), DSs G δb ωi body o2 → OutOk G.m.K S F { D with nx := N, ct := N, bk := D.nx } o2 → ∀ x H3, J.yld i H' x H3 → tDG G.m.K ts x σ' H3 fun σ2 H2 => tDS G.m.K (fun δ' ω' o' => DSs G δ' ω' body o') { D with nx := N, ct := N, bk := D.nx } σ2 H2 := by
      intro N o2 hd ho x H3 y
      obtain ⟨s3, rx⟩ := yld x H3 y
      refine ⟨_, δi, items[i], δb, hbd, b3.mono s3, b5.mono s3, rx, fun σ2 R2 keep hl => ⟨S, F, δb, ωi, o2, hd, hSF, ⟨as', b1, b2, b3.mono s3, b4.trans (hide_mono s3), R2, fun k j c a e1 e2 => ?_⟩, ho⟩⟩
      obtain ⟨z1, z2⟩ := b6 k j c a e1 e2
      exact ⟨by rw [keep j (hfree _ (List.mem_of_getElem? e1))]; exact z1, z2.mono (hide_mono s3) (s3 _)⟩
    rcases halt with ⟨δ1, ω1, hd, hrest⟩ | ⟨rr, eo, hd⟩
    · refine .inr ⟨go, fun σ2 H2 => ∃ δ1 ω1, DFor G ts _ (items.drop (i + 1)) δ1 ω1 o' ∧ SRel G.m.K S F δ1 ω1 σ2 H2, fun σ2 H2 ⟨d1, w1, g1, g2⟩ => ⟨items.length - (i + 1), by omega, rfl, hlt, d1, w1, g1, g2⟩, ?_⟩
      exact body _ _ hd fun σ2 H2 r2 => ⟨δ1, ω1, hrest, r2⟩
    · subst eo
      refine .inr ⟨go, fun _ _ => False, fun _ _ z => z.elim, ?_⟩
      exact body _ _ hd fun v H2 s2 rv => q v H2 (hF.trans s2) rv
  · have ei : i = items.length := by omega
    subst ei
    rw [List.drop_length] at hrun
    have eo : o' = .next δi ωi := hrun
    subst eo
    exact .inl ⟨hstop, q σ' H' (r'.unbase hF)⟩
/-- for x in .., x one name -/
theorem ds_for1 (i : Nat) (hg : DG G tg (.one i)) (hi : DI1 G δ tg iter items) (hbody : DFor G (.one i) body items δ ω out) (hs : ∀ (env : Env) (x : Value), foldedSetIterable iter env x = pure x := by intro _ _; rfl) : DS G δ ω (.For tg iter body [] pos) out :=
  ds_for_core hg hi hbody (fun S σ H Q ok R h => ⟨S, δ, items, ⟨rfl, rfl⟩, ok, R, fun J H' s it => h J H' s it⟩) hs
/-- for x, y in .. -/
theorem ds_for2 (i j : Nat) (hg : DG G tg (.two i j)) (hi : DI G δ tg iter items) (hbody : DFor G (.two i j) body items δ ω out) (hs : ∀ (env : Env) (x : Value), foldedSetIterable iter env x = pure x := by intro _ _; rfl) : DS G δ ω (.For tg iter body [] pos) out :=
  ds_for_core hg hi hbody (fun S σ H Q ok R h => ⟨S, δ, items, ⟨rfl, rfl⟩, ok, R, fun J H' s it => h J H' s it⟩) hs
/-! ### while -/
def DWh (G : Ct) (c : Expr) (body : List Stmt) : Nat → DEnv → Own → Out → Prop
  | 0, δ, ω, out => DT G (ov δ ω) c false ∧ out = .next δ ω
  | n + 1, δ, ω, out => DT G (ov δ ω) c true ∧ ∃ δ1 ω1, DSs G δ ω body (.next δ1 ω1) ∧ DWh G c body n δ1 ω1 out
theorem ds_while (n : Nat) (h : DWh G c body n δ ω out) : DS G δ ω (.While c body [] pos) out := fun X hX => by
  have hb : PSs X body (tDS G.m.K fun δ' ω' o' => DSs G δ' ω' body o') := PSs.rel fun δ' ω' o' h => h X hX
  have hc : PT X c (tDT G.m.K fun δ' b' => DT G δ' c b') := PT.rel fun δ' b' h => h X hX
  refine PS.imp (ps_while hX.xe hc hb) fun D σ H ⟨S, H0, δ', ω', o', ⟨e1, e2, e3⟩, hS, r, q⟩ => ?_
  subst e1 e2 e3
  refine ⟨fun m σ' H' => ∃ δi ωi, DWh G c body m δi ωi o' ∧ SRel G.m.K S H0 δi ωi σ' H', ⟨n, δ', ω', h, r⟩, ?_⟩
  rintro m σ' H' ⟨δi, ωi, hrun, r'⟩
  obtain ⟨g1, g2, g3⟩ := r'.over hS
  cases m with
  | zero =>
    obtain ⟨ht, eo⟩ := hrun
    subst eo
    exact ⟨S, _, false, ht, g1, g3, fun H2 s2 => iteF (q σ' H2 (r'.mono s2))⟩
  | succ m =>
    obtain ⟨ht, δ1, ω1, hd, hrest⟩ := hrun
    refine ⟨S, _, true, ht, g1, g3, fun H2 s2 => iteT ⟨fun σ2 H3 => ∃ δi ωi, DWh G c body m δi ωi o' ∧ SRel G.m.K S H0 δi ωi σ2 H3, fun σ2 H3 z => ⟨m, Nat.lt_succ_self m, z⟩, ?_⟩⟩
    exact ⟨S, H0, δi, ωi, _, hd, hS, r'.mono s2, fun σ3 H3 r3 => ⟨δ1, ω1, hrest, r3⟩⟩

/-! ### comprehensions -/
/-- a block's surroundings -/
def Ct.blk (G : Ct) (scope : Scope) : Ct := { G with sc := relS scope G.sc, fnB := fun x => scope.names.lookup x == some .cell }
theorem Ct.Is.blk {X : Cx} (h : G.Is X) {scope : Scope} (s : Shared) (H : Hp) (C : Addr) (cl : List (PySem.Str × Addr)) (fp : List Addr) : (G.blk scope).Is (X.blk s H scope (compEnvC scope cl C X.env) fp) where
  prog := h.prog
  w := h.w
  K := h.K
  mg := h.mg
  base := h.base
  N := h.N
  nd := h.nd
  sc := by
    show relS scope X.env.scope = relS scope G.sc
    rw [h.sc]
  calm := h.calm
  rm := h.rm
  xe := PassesOwn.never
  fn := fun x => rfl
  nodbg := h.nodbg
/-- the slots at vs forgotten -/
def dwipe (δ : DEnv) : List Nat → DEnv
  | [] => δ
  | v :: vs => (dwipe δ vs).set v none
theorem wipe_at (σ : L2.St) (i : Nat) : ∀ vs : List Nat, i ∉ vs → (wipe σ vs)[i]? = σ[i]?
  | [], _ => rfl
  | v :: vs, h => by
    simp only [List.mem_cons, not_or] at h
    unfold wipe
    rw [List.getElem?_set_ne (fun z => h.1 z.symm)]
    exact wipe_at σ i vs h.2
theorem wipe_in (σ : L2.St) (i : Nat) : ∀ vs : List Nat, i ∈ vs → (wipe σ vs)[i]? = if i < σ.length then some none else none
  | [], h => by simp at h
  | v :: vs, h => by
    unfold wipe
    by_cases e : v = i
    · subst e
      by_cases hl : v < σ.length
      · rw [if_pos hl, List.getElem?_set_self (by rw [wipe_length]; exact hl)]
      · rw [if_neg hl, List.getElem?_eq_none (by rw [List.length_set, wipe_length]; omega)]
    · rw [List.getElem?_set_ne e]
      exact wipe_in σ i vs (by simpa [Ne.symm e] using h)
theorem wipe_same {σ σ' : L2.St} {vs : List Nat} (hl : σ'.length = σ.length) (h : ∀ i, i ∉ vs → σ'[i]? = σ[i]?) : wipe σ' vs = wipe σ vs := by
  apply List.ext_getElem?
  intro i
  by_cases hi : i ∈ vs
  · rw [wipe_in _ _ _ hi, wipe_in _ _ _ hi, hl]
  · rw [wipe_at _ _ _ hi, wipe_at _ _ _ hi, h i hi]
theorem wipe_wipe (σ : L2.St) (vs : List Nat) : wipe (wipe σ vs) vs = wipe σ vs := wipe_same (wipe_length σ vs) fun i hi => wipe_at σ i vs hi
theorem Rel.wiped {K : PySem.W.Frag} {S : List Addr} {σ : L2.St} {H : Hp} (r : Rel K S δ σ H) : ∀ vs : List Nat, Rel K S (dwipe δ vs) (wipe σ vs) H
  | [] => r
  | v :: vs => (r.wiped vs).forget v none
/-- what one turn of a comprehension does with an item: the tests' answer, then the element -/
structure Turn1 (G : Ct) (scope : Scope) (ts : TSpec) (ifs : List Expr) (elt : Expr) (δ : DEnv) (d : PyData) (o : Option PyData) : Prop where
  ex : ∃ δb b, bindT ts d δ = some δb ∧ (∀ X, (G.blk scope).Is X → PTs X ifs (tDT G.m.K fun δ' b' => δ' = δb ∧ b' = b)) ∧ ((b = false ∧ o = none) ∨ (b = true ∧ ∃ r, o = some r ∧ DV (G.blk scope) δb elt r))
inductive Turns (G : Ct) (scope : Scope) (ts : TSpec) (ifs : List Expr) (elt : Expr) (δ : DEnv) : List PyData → List PyData → Prop
  | nil : Turns G scope ts ifs elt δ [] []
  | cons {d : PyData} {ds : List PyData} {o : Option PyData} {rs : List PyData} (h : Turn1 G scope ts ifs elt δ d o) (t : Turns G scope ts ifs elt δ ds rs) : Turns G scope ts ifs elt δ (d :: ds) (o.toList ++ rs)
end
end DL

set_option Elab.async false
set_option linter.all false
set_option maxRecDepth 100000
namespace DL
open PySem PySem.Spec L2
set_option autoImplicit false
section
variable {G : Ct} {δ δ1 : DEnv} {ω ω1 : Own} {out : Out} {a b c e tg iter elt : Expr} {es ifs : List Expr} {x y z d : PyData} {ds items res : List PyData} {pos p p2 p3 spos py : Pos} {ts : TSpec} {scope : Scope} {own : List (PySem.Str × Nat)}
def tOf (G : Ct) (scope : Scope) (ifs : List Expr) : TT := tDT G.m.K fun δ' b' => ∀ X, (G.blk scope).Is X → PTs X ifs (tDT G.m.K fun δ'' b'' => δ'' = δ' ∧ b'' = b')
def eOf (G : Ct) (scope : Scope) (elt : Expr) : TE := tDR G.m.K fun δ' d' => DV (G.blk scope) δ' elt d'
theorem pts_of {X : Cx} (hX : (G.blk scope).Is X) : PTs X ifs (tOf G scope ifs) :=
  ⟨fun pins s σ H Q I ⟨S, δ', b', h, q⟩ => (h X hX).run pins s σ H Q I ⟨S, δ', b', ⟨rfl, rfl⟩, q⟩⟩
theorem pe_of {X : Cx} (hX : (G.blk scope).Is X) : PE X elt (eOf G scope elt) :=
  ⟨fun pins s σ H Q I ⟨S, δ', b', h, q⟩ => (h X hX).run pins s σ H Q I ⟨S, δ', b', ⟨rfl, rfl⟩, q⟩⟩
theorem turns_len : ∀ {ds rs : List PyData}, Turns G scope ts ifs elt δ ds rs → rs.length ≤ ds.length
  | _, _, .nil => Nat.le_refl _
  | _, _, .cons (o := o) h t => by
    have := turns_len t
    rw [List.length_append, List.length_cons]
    cases o <;> simp <;> omega
theorem lc_run {wi : TI} {σ : L2.St} {H : Hp} {S : List Addr} {Q : VK} (vs : List Nat) (hsub : ∀ i ∈ ts.ix, i ∈ vs) (hz : items.length ≤ 16777216) (ht : Turns G scope ts ifs elt (dwipe δ vs) items res)
    (ok : SOk S H) (R : Rel G.m.K S δ σ H) (q : ∀ xs p H', Same H H' → H' p = none → xs.length ≤ sizeLine → RpAll G.m.K (hide S H') xs res → Q (.ref p) (upd H' p (.lst xs)))
    (hwi : ∀ (Q : It → Hp → Prop), (∀ J H', Same H H' → (∀ (S2 : List Addr) (H2 : Hp), Same (hide S H') (hide S2 H2) → SOk S2 H2 →
        (∀ (i : Nat) (d : PyData), items[i]? = some d → J.go i H2 ∧ ∀ x H3, J.yld i H2 x H3 → Same H2 H3 ∧ ts.rep G.m.K (hide S2 H3) x d) ∧ J.stop items.length H2) → Q J H') → wi σ H Q) :
    tLc wi (tDG G.m.K ts) (tOf G scope ifs) (eOf G scope elt) vs σ H Q := by
  refine hwi _ fun J H1 s1 itok D hD => ?_
  have hd0 : ∀ {H' : Hp}, hide (D :: S) H' = hide S (hide [D] H') := fun {H'} => hide_app [D] S H'
  refine ⟨fun i m H' => m = items.length - i ∧ i ≤ items.length ∧ Same H1 (hide [D] H') ∧ ∃ acc r1 r2, H' D = some (.lst acc) ∧ acc.length ≤ i ∧ res = r1 ++ r2 ∧ RpAll G.m.K (hide (D :: S) H') acc r1 ∧ Turns G scope ts ifs elt (dwipe δ vs) (items.drop i) r2,
    ⟨_, rfl, Nat.zero_le _, ?_, [], [], res, upd_same, Nat.le_refl _, rfl, .nil, ht⟩, ?_⟩
  · rw [hide_cons_upd hD]
    intro b o e
    rw [hide_out (by simp)]
    exact e
  rintro i m H' ⟨em, hi, hsm, acc, r1, r2, hacc, hal, hres, hra, hrun⟩
  have okD : SOk (D :: S) H' := fun a ha => by
    rcases List.mem_cons.mp ha with z | z
    · rw [z, hacc]; simp
    · exact (SOk.mono (SOk.mono (ok.mono s1) hsm) (hide_sub _ _)) a z
  have sF : Same (hide S H1) (hide (D :: S) H') := by rw [hd0]; exact hide_mono hsm
  have RD : Rel G.m.K (D :: S) (dwipe δ vs) (wipe σ vs) H' := by
    have := (R.mono s1).wiped vs
    exact ⟨this.len, fun i d e => let ⟨v, z1, z2⟩ := this.val i d e; ⟨v, z1, z2.mono sF⟩⟩
  obtain ⟨hgo, hstop⟩ := itok (D :: S) H' sF okD
  by_cases hlt : i < items.length
  · rw [List.drop_eq_getElem_cons hlt] at hrun
    obtain ⟨go, yld⟩ := hgo i items[i] (List.getElem?_eq_getElem hlt)
    cases hrun with
    | @cons _ _ o rs h t =>
      obtain ⟨δb, b, hb, hpt, halt⟩ := h.ex
      refine .inr ⟨go, _, fun H2 z => ⟨items.length - (i + 1), by omega, rfl, hlt, z⟩, fun x H2 yy => ?_⟩
      obtain ⟨s2, rx⟩ := yld x H2 yy
      refine ⟨D :: S, dwipe δ vs, items[i], δb, hb, okD.mono s2, RD.mono s2, rx, fun σ2 R2 keep hl => ⟨?_, D :: S, δb, b, hpt, okD.mono s2, R2, fun H3 s3 => ?_⟩⟩
      · exact (wipe_same hl fun j hj => keep j fun z => hj (hsub j z)).trans (wipe_wipe σ vs)
      · rcases halt with ⟨eb, eo⟩ | ⟨eb, r, eo, hv⟩
        · subst eb eo
          refine iteF ⟨fun b' o' e' => ?_, acc, r1, rs, s3 _ _ (s2 _ _ hacc), by omega, hres, hra.mono (hide_mono (s2.trans s3)), t⟩
          exact hide_mono (s2.trans s3) _ _ (hsm _ _ e')
        · subst eb eo
          refine iteT ⟨D :: S, δb, r, hv, (okD.mono s2).mono s3, R2.mono s3, fun y H4 s4 ry => ⟨acc, s4 _ _ (s3 _ _ (s2 _ _ hacc)), by rw [sizeLine_eq]; omega, fun b' o' e' => ?_, acc ++ [y], r1 ++ [r], rs, upd_same, by rw [List.length_append, List.length_singleton]; omega, ?_, ?_, t⟩⟩
          · rw [hide_upd (by simp)]
            exact hide_mono ((s2.trans s3).trans s4) _ _ (hsm _ _ e')
          · rw [hres]; simp
          · rw [hide_upd (by simp)]
            exact (hra.mono (hide_mono ((s2.trans s3).trans s4))).app (.one ry)
  · have ei : i = items.length := by omega
    subst ei
    rw [List.drop_length] at hrun
    cases hrun
    rw [List.append_nil] at hres
    subst hres
    refine .inl ⟨hstop, ?_⟩
    have hz2 : acc.length ≤ sizeLine := by rw [sizeLine_eq]; omega
    have := q acc D (hide [D] H') (s1.trans hsm) (hide_in (by simp)) hz2 (by rw [← hd0]; exact hra)
    have e : upd (hide [D] H') D (.lst acc) = H' := by
      funext b
      by_cases eb : b = D
      · rw [eb, upd_same, hacc]
      · rw [upd_ne eb, hide_out (by simp [eb])]
    rw [e] at this
    exact this
/-- [elt for x in .. if ..], one name -/
theorem dn_lc1 (i : Nat) (own : List (PySem.Str × Nat)) (hok : blkC G.N G.sc scope own = true) (hi : DI1 G δ tg iter items) (hg : DG (G.blk scope) tg (.one i)) (ht : Turns G scope (.one i) ifs elt (dwipe δ (own.map (·.2))) items res)
    (hz : items.length ≤ 16777216) (hsub : ∀ j ∈ (TSpec.one i).ix, j ∈ own.map (·.2) := by simp [TSpec.ix]) (hs : ∀ (env : Env) (x : Value), foldedSetIterable iter env x = pure x := by intro _ _; rfl) : DN G δ (.ListComp elt [⟨tg, iter, ifs, 0⟩] scope pos) res := fun X hX =>
  PE.imp (pe_lc hX.calm hX.nd (hi X hX) (by rw [hX.N, hX.sc]; exact blkOk_by hok) (fun s H C cl fp => hg _ (hX.blk s H C cl fp)) (fun s H C cl fp => pts_of (ifs := ifs) (hX.blk s H C cl fp)) (fun s H C cl fp => pe_of (elt := elt) (hX.blk s H C cl fp)) (hs _)) fun σ H Q ⟨S, δ', d', ⟨e1, e2⟩, ok, R, q⟩ => by
    subst e1 e2
    exact lc_run _ hsub hz ht ok R q fun Q2 h => ⟨S, _, items, ⟨rfl, rfl⟩, ok, R, fun J H' s it => h J H' s it⟩
theorem dn_lc2 (i j : Nat) (own : List (PySem.Str × Nat)) (hok : blkC G.N G.sc scope own = true) (hi : DI G δ tg iter items) (hg : DG (G.blk scope) tg (.two i j)) (ht : Turns G scope (.two i j) ifs elt (dwipe δ (own.map (·.2))) items res)
    (hz : items.length ≤ 16777216) (hsub : ∀ k ∈ (TSpec.two i j).ix, k ∈ own.map (·.2) := by simp [TSpec.ix]) (hs : ∀ (env : Env) (x : Value), foldedSetIterable iter env x = pure x := by intro _ _; rfl) : DN G δ (.ListComp elt [⟨tg, iter, ifs, 0⟩] scope pos) res := fun X hX =>
  PE.imp (pe_lc hX.calm hX.nd (hi X hX) (by rw [hX.N, hX.sc]; exact blkOk_by hok) (fun s H C cl fp => hg _ (hX.blk s H C cl fp)) (fun s H C cl fp => pts_of (ifs := ifs) (hX.blk s H C cl fp)) (fun s H C cl fp => pe_of (elt := elt) (hX.blk s H C cl fp)) (hs _)) fun σ H Q ⟨S, δ', d', ⟨e1, e2⟩, ok, R, q⟩ => by
    subst e1 e2
    exact lc_run _ hsub hz ht ok R q fun Q2 h => ⟨S, _, items, ⟨rfl, rfl⟩, ok, R, fun J H' s it => h J H' s it⟩
/-- y = [elt for x in ..] -/
theorem ds_lc1 (k : Nat) {n : PySem.Str} (i : Nat) (own : List (PySem.Str × Nat)) (hN : G.N[k]? = some n) (hl : G.sc.names.lookup n = some .local) (hkind : G.sc.kind = .function) (hline : (py.line == pos.line) = true) (hany : (scope.names.any fun (m, k) => m == n && (k == .local || k == .cell)) = false)
    (hok : blkC G.N G.sc scope own = true) (hi : DI1 G δ tg iter items) (hg : DG (G.blk scope) tg (.one i)) (ht : Turns G scope (.one i) ifs elt (dwipe δ (own.map (·.2))) items res) (hz : items.length ≤ 16777216) (hfree : ∀ q ∈ ω, q.1 ≠ k := by simp)
    (hsub : ∀ j ∈ (TSpec.one i).ix, j ∈ own.map (·.2) := by simp [TSpec.ix]) (hs : ∀ (env : Env) (x : Value), foldedSetIterable iter env x = pure x := by intro _ _; rfl) : DS G δ ω (.Assign [.Name n py] (.ListComp elt [⟨tg, iter, ifs, 0⟩] scope pos) spos) (.next (δ.set k (some (.list res))) ω) := fun X hX =>
  PS.imp (ps_setLc (i := k) hX.calm hX.nd (by rw [hX.N]; exact hN) (by rw [hX.sc]; exact hl) (sw_true (by rw [hX.sc]; exact hkind) (by rw [hX.sc]; exact hl) hline hany) (hi X hX) (by rw [hX.N, hX.sc]; exact blkOk_by hok) (fun s H C cl fp => hg _ (hX.blk s H C cl fp)) (fun s H C cl fp => pts_of (ifs := ifs) (hX.blk s H C cl fp)) (fun s H C cl fp => pe_of (elt := elt) (hX.blk s H C cl fp)) (hs _)) fun D σ H ⟨S, H0, δ', ω', o', ⟨e1, e2, e3⟩, hS, r, q⟩ => by
    subst e1 e2 e3
    obtain ⟨as, B⟩ := r.bs hS
    refine lc_run _ hsub hz ht B.ok B.rel (fun xs t H' s ht hz ra => ?_) fun Q2 h => ⟨as ++ S, _, items, ⟨rfl, rfl⟩, B.ok, B.rel, fun J H' s it => h J H' s it⟩
    have sm := same_upd ht (.lst xs)
    exact q _ _ (B.store _ k _ _ (s.trans sm) (.lst (hide_upd_at (B.ok.mono s) ht) hz (ra.mono (hide_mono sm))) hfree)
/-! a turn's tests -/
theorem t1_no (hb : ∃ δb, bindT ts d δ = some δb ∧ DV (G.blk scope) δb elt x) : Turn1 G scope ts [] elt δ d (some x) := by
  obtain ⟨δb, h1, h2⟩ := hb
  refine ⟨δb, true, h1, fun X hX => ⟨fun pins s σ H Q I ⟨S, δ', b', ⟨e1, e2⟩, ok, R, q⟩ => ?_⟩, .inr ⟨rfl, x, rfl, h2⟩⟩
  subst e1 e2
  exact pts_nil.run pins s σ H Q I (q H (Same.refl H))
theorem t1_if {k : Bool} {δb : DEnv} (hb : bindT ts d δ = some δb) (hc : DT (G.blk scope) δb c k) (he : k = true → DV (G.blk scope) δb elt x) : Turn1 G scope ts [c] elt δ d (if k then some x else none) := by
  refine ⟨δb, k, hb, fun X hX => pts_one (hc X hX), ?_⟩
  cases k with
  | true => exact .inr ⟨rfl, x, rfl, he rfl⟩
  | false => exact .inl ⟨rfl, rfl⟩
/-- without tests -/
theorem turns_map (f : PyData → PyData) : ∀ (items : List PyData), (∀ d ∈ items, ∃ δb, bindT ts d δ = some δb ∧ DV (G.blk scope) δb elt (f d)) → Turns G scope ts [] elt δ items (items.map f)
  | [], _ => .nil
  | d :: ds, h => by
    have := Turns.cons (t1_no (h d List.mem_cons_self)) (turns_map f ds fun d' hd => h d' (List.mem_cons_of_mem _ hd))
    exact this
theorem turns_filter (f : PyData → PyData) (k : PyData → Bool) : ∀ (items : List PyData), (∀ d ∈ items, ∃ δb, bindT ts d δ = some δb ∧ DT (G.blk scope) δb c (k d) ∧ (k d = true → DV (G.blk scope) δb elt (f d))) → Turns G scope ts [c] elt δ items ((items.filter k).map f)
  | [], _ => .nil
  | d :: ds, h => by
    obtain ⟨δb, h1, h2, h3⟩ := h d List.mem_cons_self
    have := Turns.cons (t1_if h1 h2 h3) (turns_filter f k ds fun d' hd => h d' (List.mem_cons_of_mem _ hd))
    rw [List.filter_cons]
    cases e : k d with
    | true =>
      rw [e] at this
      exact this
    | false =>
      rw [e] at this
      exact this

/-! ### a def -/
theorem fn_core {m : Md} {n : PySem.Str} {st : Stmt} {f : Addr} {fd : FuncData} {N ps : List PySem.Str} {k : Nat} {R : List PyData → PyData → Prop} (F : Fun m.K n n st f fd) (S : FnScope N ps (defScope st))
    (hd : ∀ x ∈ N, (x == ("__debug__" : PySem.Str)) = false ∧ (x == ("__classdict__" : PySem.Str)) = false) (len : ∀ ds d, R ds d → ds.length = ps.length)
    (body : ∀ ds d, R ds d → DSs ⟨m, N, defScope st, k, fun _ => true⟩ (ds.map some ++ List.replicate (N.length - ds.length) none) [] (defBody st) (.ret d)) : FnOk m.P m.w m.K m.mg m.base CX0 (k + 1) f fd ps (spD m.K R) := by
  refine F.ok S (fun vs H Q E ⟨_, ds, d, r, _, ra, _⟩ => by rw [ra.len]; exact len ds d r) fun cdv A outer s H vs Q E hr ⟨T, ds, d, r, ok, ra, q⟩ => ?_
  refine ⟨_, body ds d r _ ⟨rfl, rfl, rfl, rfl, rfl, rfl, S.nd, rfl, rfl, hr, PassesOwn.never, fun x => rfl, hd⟩, ?_⟩
  refine ⟨T, H, _, _, _, ⟨rfl, rfl, rfl⟩, ok, ⟨[], rfl, List.nodup_nil, ok, ?_, ⟨?_, fun i d' e => ?_⟩, fun k i c a e => by simp at e⟩, fun v H' s rv => q v H' s rv⟩
  · intro b o e
    rw [hide_out (by simp)]
    exact e
  · unfold L2.start
    simp [ra.len]
  · rw [List.nil_append]
    have hi : i < ds.length := by
      by_cases hi : i < ds.length
      · exact hi
      · rw [List.getElem?_append_right (by simpa using hi), List.getElem?_replicate] at e
        split at e <;> cases e
    rw [List.getElem?_append_left (by simpa using hi), List.getElem?_map] at e
    cases e2 : ds[i]? with
    | none => rw [e2] at e; cases e
    | some d2 =>
      rw [e2] at e
      cases e
      obtain ⟨v, hv, rv⟩ := ra.get e2
      refine ⟨v, ?_, rv⟩
      have hiv : i < vs.length := by rw [ra.len]; exact hi
      unfold L2.start
      rw [List.getElem?_append_left (by simpa using hiv), List.getElem?_map, hv]
      rfl
theorem fn_ok {m : Md} {n : PySem.Str} {st : Stmt} {f : Addr} {fd : FuncData} {N ps : List PySem.Str} {k : Nat} {R : List PyData → PyData → Prop} (F : Fun m.K n n st f fd) (hb : Binds m.K fd ps []) (hm : m.mg n = some (.ref f)) (S : FnScope N ps (defScope st))
    (hd : ∀ x ∈ N, (x == ("__debug__" : PySem.Str)) = false ∧ (x == ("__classdict__" : PySem.Str)) = false) (len : ∀ ds d, R ds d → ds.length = ps.length)
    (body : ∀ ds d, R ds d → DSs ⟨m, N, defScope st, k, fun _ => true⟩ (ds.map some ++ List.replicate (N.length - ds.length) none) [] (defBody st) (.ret d)) : Fn m n (k + 1) R :=
  ⟨f, fd, ps, hm, F.kp, hb, fn_core F S hd len body⟩
end
end DL

set_option Elab.async false
set_option linter.all false
set_option maxRecDepth 100000
namespace DL
open PySem PySem.Spec L2
set_option autoImplicit false

/-! ### t.index(k), whole numbers -/
def tTix (to te : TE) : TE := fun σ H Q => to σ H fun x H1 => ∃ (a : Addr) (ob : Obj) (ns : List Int), x = .ref a ∧ H1 a = some (.frz ob (.tup (ns.map V.int))) ∧ ob.dict = none ∧ te σ H1 fun y H2 =>
  ∃ (k : Int) (j : Nat), [y] = [V.int k] ∧ H2 a = some (.frz ob (.tup (ns.map V.int))) ∧ ns[j]? = some k ∧ (∀ m, m < j → ns[m]? ≠ some k) ∧ Q (.int (j : Nat)) H2
theorem flat_ints (ns : List Int) : (ns.map V.int).all flatV = true := by
  rw [List.all_map]
  exact List.all_eq_true.mpr fun _ _ => rfl
theorem call_tix {X : Cx} {pins : List (Addr × Obj)} {σ : L2.St} {H : Hp} {s : Shared} {Q : VK} {a : Addr} {ns : List Int} {k : Int} {t : Tok} {j : Nat} (I : Inv X pins σ H s) (hq : SqT X.K H a (ns.map V.int)) (hy : ns[j]? = some k) (hno : ∀ m, m < j → ns[m]? ≠ some k) (q : Q (.int (j : Nat)) H) :
    wpAny (model X.prog X.w) X.A (call (.builtin "tuple.index") [.ref a, .int k t]) (EP X pins σ Q) X.xe s := by
  obtain ⟨its, r, pl, hz⟩ := I.tuple hq
  obtain ⟨⟨cls, dd, dt, sl⟩, ho, hc, n, hd⟩ := pl
  simp only at hc hd
  subst hc hd
  have hl : its.toArray.size = ns.length := by rw [List.size_toArray, ← r.length, List.length_map]
  have hj : j < its.toArray.size := by rw [hl]; exact (List.getElem?_eq_some_iff.mp hy).1
  have look : ∀ (m : Nat) (hm : m < its.toArray.size), ∃ y t', ns[m]? = some y ∧ its.toArray[m] = Value.int y t' := fun m hm => by
    have hm' : m < ns.length := by rw [← hl]; exact hm
    obtain ⟨w, hw, t', hw'⟩ := r.get (i := m) (x := .int ns[m]) (by simp [hm'])
    refine ⟨ns[m], t', List.getElem?_eq_getElem hm', ?_⟩
    rw [← hw', ← (List.getElem?_eq_some_iff.mp hw).2]
    simp
  have eu : ∀ (y : Int) (t' : Tok), eqU (.int k) (.int y t') = decide (y = k) := fun y t' => by
    by_cases e : y = k
    · rw [decide_eq_true e, e]
      show (k == k) = true
      exact beq_self_eq_true k
    · rw [decide_eq_false e]
      show (y == k) = false
      exact beq_eq_false_iff_ne.mpr e
  refine call_meets PySem.F.slot_tuple_index ⟨_, ho, rfl⟩ PySem.F.entry_tuple_index (PySem.F.args_tuple_index_2 _ _) (TI.tuple_indexAt a its.toArray n dd sl (.int k t) (eqU (.int k)) j hj ?_ fun m hm hmj => ?_)
    ⟨ho, fun w hw => mem_eqAt (x := .int k) ⟨t, rfl⟩ rfl r (flat_ints ns) w (by simpa using hw), ⟨.int (j : Nat), H, I.tok _, ⟨_, rfl⟩, q⟩⟩
  · obtain ⟨y, t', h1, h2⟩ := look j hj
    rw [hy] at h1
    cases h1
    rw [h2, eu]
    exact decide_eq_true rfl
  · obtain ⟨y, t', h1, h2⟩ := look m hm
    rw [h2, eu]
    exact decide_eq_false fun e => hno m hmj (by rw [h1, e])
theorem pe_tix {X : Cx} {o e : Expr} {to te : TE} {apos cpos : Pos} (ho : PE X o to) (he : PE X e te)
    (hbase : attributeBase o "index" X.env (eval o X.env) = eval o X.env)
    (hfew : ((backTo cpos (starEach [e] X.env)).all (fun x => !x.1) && (backToKw cpos (keywordEach [] X.env)).all (fun x => x.1.isSome) && decide ([e].length + ([] : List Keyword).length + (if ([] : List Keyword).isEmpty then 0 else 1) < 30)) = true)
    (hline : (apos.endLine == cpos.line) = true) (hs : starEach [e] X.env = (false, eval e X.env) :: starEach [] X.env) : PE X (.Call (.Attribute o "index" apos) [e] [] cpos) (tTix to te) := by
  refine ⟨fun pins s σ H Q I h => ?_⟩
  refine wpAny_Call_method_late hbase hfew hline rfl (thn (ho.run pins s σ H _ I h) fun v s1 ⟨x, H1, I1, r1, a, ob, ns, ex, hob, hnd, q1⟩ => ?_)
  subst ex
  obtain rfl : v = .ref a := r1
  obtain ⟨hget, _⟩ := (I1.hok a _ hob : ObjOk X.prog X.w H1 s1.heap a (.frz ob (.tup (ns.map V.int))))
  obtain ⟨_, _, pt, _⟩ := I1.tuple (SqT.frz (K := X.K) hob)
  refine ⟨"tuple", "tuple.index", PySem.F.plainAttrs_tuple, PySem.F.slot_tuple_index, PySem.F.type_tuple_index, pt.typeIs, fun b eb => ?_, ?_⟩
  · cases eb
    exact ⟨ob, hget, hnd⟩
  · have hA := (pa_cons he pa_nil hs).run cpos pins s1 σ H1 (fun vs H2 => ∃ (k : Int) (j : Nat), vs = [V.int k] ∧ H2 a = some (.frz ob (.tup (ns.map V.int))) ∧ ns[j]? = some k ∧ (∀ m, m < j → ns[m]? ≠ some k) ∧ Q (.int (j : Nat)) H2) I1 q1
    rw [hs] at hA ⊢
    refine Calls.callWith_builtin (by show (false || (backTo cpos (starEach [] X.env)).any (·.1)) = false; rfl) (Calls.evalArgs_plain ?_)
    refine thn hA fun us s2 ⟨vs, H2, I2, r2, k, j, ev, hob2, hj, hno, q2⟩ => ?_
    subst ev
    obtain ⟨u, rfl, t, rfl⟩ := vals1 r2
    exact call_tix I2 (SqT.frz hob2) hj hno q2
section
variable {G : Ct} {δ : DEnv} {a b c e : Expr} {es rest : List Expr} {x y z d : PyData} {ds : List PyData} {pos p p2 ap cp : Pos}
theorem dv_tix {ns : List Int} {k : Int} {j : Nat} (ha : DV G δ a (.tuple (ns.map .int))) (hb : DV G δ b (.int k)) (hj : ns[j]? = some k) (hno : ∀ m, m < j → ns[m]? ≠ some k)
    (hbase : ∀ env : Env, attributeBase a "index" env (eval a env) = eval a env := by intro _; rfl)
    (hfew : ∀ env : Env, ((backTo cp (starEach [b] env)).all (fun x => !x.1) && (backToKw cp (keywordEach [] env)).all (fun x => x.1.isSome) && decide ([b].length + ([] : List Keyword).length + (if ([] : List Keyword).isEmpty then 0 else 1) < 30)) = true := by intro _; rfl)
    (hline : (ap.endLine == cp.line) = true := by rfl) (hs : ∀ env : Env, starEach [b] env = (false, eval b env) :: starEach [] env := by intro _; rfl) : DV G δ (.Call (.Attribute a "index" ap) [b] [] cp) (.int (j : Nat)) := fun X hX =>
  PE.imp (pe_tix (ha X hX) (hb X hX) (hbase _) (hfew _) hline (hs _)) fun σ H Q ⟨S, δ', d', ⟨e1, e2⟩, ok, R, q⟩ => by
    subst e1 e2
    refine ⟨S, _, _, ⟨rfl, rfl⟩, ok, R, fun v H1 s1 r1 => ?_⟩
    cases r1 with
    | tup f1 f2 f3 f4 =>
      obtain rfl := f4.ints
      refine ⟨_, _, ns, rfl, (hide_some f1).2, f2, S, _, _, ⟨rfl, rfl⟩, ok.mono s1, R.mono s1, fun w H2 s2 r2 => ?_⟩
      cases r2
      exact ⟨k, j, rfl, s2 _ _ (hide_some f1).2, hj, hno, q _ H2 (s1.trans s2) (.int _)⟩
/-! ### sorted of pairs of whole numbers, of texts -/
/-- a pair, as data -/
abbrev pairD (q : Int × Int) : PyData := .tuple [.int q.1, .int q.2]
def lexLe (q r : Int × Int) : Prop := q.1 < r.1 ∨ (q.1 = r.1 ∧ q.2 ≤ r.2)
theorem lexLe_antisymm {q r : Int × Int} (h1 : lexLe q r) (h2 : lexLe r q) : q = r := by
  unfold lexLe at h1 h2
  exact Prod.ext (by omega) (by omega)
theorem Rp.pair {K : PySem.W.Frag} {H : Hp} {v : V} {q : Int × Int} (h : Rp K H v (pairD q)) : ∃ t o, v = .ref t ∧ H t = some (.frz o (.tup [.int q.1, .int q.2])) := by
  cases h with
  | tup e k z r =>
    cases r with
    | cons r1 r2 =>
      cases r2 with
      | cons r2 r3 =>
        cases r3
        cases r1
        cases r2
        exact ⟨_, _, rfl, e⟩
theorem pairs_of {K : PySem.W.Frag} {H : Hp} : ∀ {xs : List V} {ps : List (Int × Int)}, RpAll K H xs (ps.map pairD) → ∃ l : List (V × (Int × Int)), xs = l.map (·.1) ∧ ps = l.map (·.2) ∧ ∀ q ∈ l, Rp K H q.1 (pairD q.2)
  | _, [], .nil => ⟨[], rfl, rfl, fun _ h => absurd h (by simp)⟩
  | x :: xs, p :: ps, .cons h t => by
    obtain ⟨l, e1, e2, h2⟩ := pairs_of t
    exact ⟨(x, p) :: l, by rw [e1]; rfl, by rw [e2]; rfl, fun q hq => (List.mem_cons.mp hq).elim (fun z => by rw [z]; exact h) (h2 q)⟩
theorem perm_map_inv {α β : Type} {f : α → β} : ∀ {ys : List β} {xs : List β}, ys.Perm xs → ∀ l : List α, xs = l.map f → ∃ l' : List α, l'.Perm l ∧ ys = l'.map f := by
  intro ys xs h
  induction h with
  | nil => intro l e; exact ⟨l, List.Perm.refl _, e⟩
  | cons x h ih =>
    intro l e
    cases l with
    | nil => cases e
    | cons b l =>
      rw [List.map_cons] at e
      injection e with e1 e2
      obtain ⟨l', h1, h2⟩ := ih l e2
      exact ⟨b :: l', h1.cons b, by rw [List.map_cons, h2, e1]⟩
  | swap x y l0 =>
    intro l e
    match l, e with
    | [], e => cases e
    | [_], e => simp at e
    | b :: c :: l, e =>
      simp only [List.map_cons, List.cons.injEq] at e
      exact ⟨c :: b :: l, List.Perm.swap b c l, by simp [e.1, e.2.1, e.2.2]⟩
  | trans h1 h2 ih1 ih2 =>
    intro l e
    obtain ⟨l2, p2, e2⟩ := ih2 l e
    obtain ⟨l1, p1, e1⟩ := ih1 l2 e2
    exact ⟨l1, p1.trans p2, e1⟩
theorem code2 (B x y : Int) : TS.code B [x, y] = x * B + y := by
  show x * B ^ 1 + (y * B ^ 0 + 0) = _
  rw [Int.pow_succ, Int.pow_zero, Int.one_mul, Int.mul_one, Int.add_zero]
theorem lex_of_code {B : Int} {q r : Int × Int} (h : TS.code B [q.1, q.2] ≤ TS.code B [r.1, r.2]) (hq : 0 ≤ q.1 ∧ q.1 < B ∧ 0 ≤ q.2 ∧ q.2 < B) (hr : 0 ≤ r.1 ∧ r.1 < B ∧ 0 ≤ r.2 ∧ r.2 < B) : lexLe q r := by
  rw [code2, code2] at h
  unfold lexLe
  rcases Int.lt_trichotomy q.1 r.1 with c | c | c
  · exact .inl c
  · rw [c] at h
    exact .inr ⟨c, by omega⟩
  · exfalso
    have h1 : (r.1 + 1) * B ≤ q.1 * B := Int.mul_le_mul_of_nonneg_right (by omega) (by omega)
    rw [Int.add_mul, Int.one_mul] at h1
    omega
theorem dn_sortedP {ps qs : List (Int × Int)} (bd : Int) (B : Blt G.m) (hg : globB G.sc "sorted" = true) (ha : DV G δ a (.list (ps.map pairD))) (hb : ∀ q ∈ ps, 0 ≤ q.1 ∧ q.1 < bd ∧ 0 ≤ q.2 ∧ q.2 < bd) (h64 : ps.length < 64) (hp : qs.Perm ps) (hs' : qs.Pairwise lexLe)
    (hs : ∀ env : Env, starEach [a] env = (false, eval a env) :: starEach [] env := by intro _; rfl) : DN G δ (.Call (.Name "sorted" p) [a] [] pos) (qs.map pairD) := by
  refine dn_cb (r := rSortU G.m.K 2 bd) (fun X hX => hX.K ▸ cr_sortT (by decide)) hg B.sorted PyProof.Rows.boot_sorted (da_cons ha da_nil hs) (fun S H vs Q ok r q => ?_) (by decide) (by decide) hs
  cases r with
  | cons r1 r2 =>
    cases r2
    cases r1 with
    | lst e1 z1 a1 =>
      obtain ⟨l, ex, ep, hl⟩ := pairs_of a1
      have tupI : ∀ {v : V} {z : Int × Int}, Rp G.m.K (hide S H) v (pairD z) → TupI G.m.K H v [z.1, z.2] := fun h => by
        obtain ⟨t, o, e2, e3⟩ := h.pair
        exact ⟨t, e2, SqT.frz (hide_some e3).2⟩
      refine ⟨_, _, rfl, SqL.of (hide_some e1).2, ?_, fun x hx => ?_, fun ys t h1 h2 h3 => ?_⟩
      · rw [ex, List.length_map]
        rw [ep, List.length_map] at h64
        exact h64
      · rw [ex] at hx
        obtain ⟨z, hz, e2⟩ := List.mem_map.mp hx
        subst e2
        refine ⟨[z.2.1, z.2.2], tupI (hl z hz), rfl, fun m hm => ?_⟩
        have := hb z.2 (by rw [ep]; exact List.mem_map_of_mem hz)
        rcases List.mem_cons.mp hm with e | hm
        · rw [e]; exact ⟨this.1, this.2.1⟩
        · rw [List.mem_singleton] at hm
          rw [hm]; exact ⟨this.2.2.1, this.2.2.2⟩
      · obtain ⟨l', pl, el⟩ := perm_map_inv h1 l ex
        have hl' : ∀ z ∈ l', Rp G.m.K (hide S H) z.1 (pairD z.2) := fun z hz => hl z (pl.mem_iff.mp hz)
        have hb' : ∀ z ∈ l', 0 ≤ z.2.1 ∧ z.2.1 < bd ∧ 0 ≤ z.2.2 ∧ z.2.2 < bd := fun z hz => hb z.2 (by rw [ep]; exact List.mem_map_of_mem (pl.mem_iff.mp hz))
        have srt : (l'.map (·.2)).Pairwise lexLe := by
          rw [List.pairwise_map]
          rw [el, List.pairwise_map] at h2
          refine List.Pairwise.imp_of_mem (fun {u v} hu hv huv => ?_) h2
          exact lex_of_code (huv _ _ (tupI (hl' u hu)) (tupI (hl' v hv))) (hb' u hu) (hb' v hv)
        have eq : l'.map (·.2) = qs := by
          refine List.Perm.eq_of_pairwise (le := lexLe) (fun _ _ _ _ h1 h2 => lexLe_antisymm h1 h2) srt hs' ?_
          exact ((pl.map (·.2)).trans (by rw [ep])).trans hp.symm
        have ra : ∀ m : List (V × (Int × Int)), (∀ z ∈ m, Rp G.m.K (hide S H) z.1 (pairD z.2)) → RpAll G.m.K (hide S H) (m.map (·.1)) ((m.map (·.2)).map pairD) := by
          intro m
          induction m with
          | nil => intro _; exact .nil
          | cons z m ih => intro h; exact .cons (h z List.mem_cons_self) (ih fun w hw => h w (List.mem_cons_of_mem _ hw))
        have := ra l' hl'
        rw [eq, ← el] at this
        exact q ys t h3 (by rw [this.len, List.length_map, hp.length_eq, sizeLine_eq]; omega) this
/-- texts -/
theorem dn_sortedS {ps qs : List PySem.Str} (B : Blt G.m) (hg : globB G.sc "sorted" = true) (ha : DV G δ a (.list (ps.map .str))) (h64 : ps.length < 64) (hu : ∀ ys : List PySem.Str, ys.Perm ps → PyProof.Rows.sortedS ys = true → ys = qs)
    (hs : ∀ env : Env, starEach [a] env = (false, eval a env) :: starEach [] env := by intro _; rfl) : DN G δ (.Call (.Name "sorted" p) [a] [] pos) (qs.map .str) := by
  refine dn_cb (r := rSortedS G.m.K) (fun X hX => hX.K ▸ cr_sortedS) hg B.sorted PyProof.Rows.boot_sorted (da_cons ha da_nil hs) (fun S H vs Q ok r q => ?_) (by decide) (by decide) hs
  cases r with
  | cons r1 r2 =>
    cases r2
    cases r1 with
    | lst e1 z1 a1 =>
      obtain rfl := a1.strs
      refine ⟨_, ps, rfl, SqL.of (hide_some e1).2, h64, fun ys t h1 h2 h3 => ?_⟩
      have e := hu ys h1 h2
      subst e
      refine q _ _ h3 ?_ (RpAll.ofStrs _)
      rw [List.length_map, h1.length_eq, sizeLine_eq]
      omega
end
end DL

set_option Elab.async false
set_option linter.all false
set_option maxRecDepth 100000
namespace DL
open PySem PySem.Spec L2
set_option autoImplicit false
abbrev natD (i : Nat) : PyData := .int (i : Int)
theorem upto_nat (n : Nat) : (upto (n : Int)).map PyData.int = (List.range n).map natD := by
  unfold upto
  rw [List.map_map, Int.toNat_natCast]
  rfl
section
variable {G : Ct} {δ δ1 : DEnv} {ω ω1 : Own} {out : Out} {a b c e tg iter elt : Expr} {es ifs body rest : List Expr} {x y z d : PyData} {ds items res : List PyData} {pos p p2 p3 spos py : Pos} {ts : TSpec} {scope : Scope} {own : List (PySem.Str × Nat)}
/-- range(n) -/
theorem di_rng {n : Nat} (B : Blt G.m) (hg : globB G.sc "range" = true) (ha : DV G δ a (natD n)) (h1 : n < 1000000) (hs : ∀ env : Env, starEach [a] env = (false, eval a env) :: starEach [] env := by intro _; rfl)
    (hs2 : ∀ env : Env, starEach [a] env = [(false, eval a env)] := by intro _; rfl) : DI1 G δ tg (.Call (.Name "range" p) [a] [] pos) ((List.range n).map natD) :=
  (di_range B hg ha (by omega) (by omega) hs hs2).conv (upto_nat n)
/-- range(m, n) -/
theorem di_rng2 {m n : Nat} (B : Blt G.m) (hg : globB G.sc "range" = true) (ha : DV G δ a (natD m)) (hb : DV G δ b (natD n)) (h0 : m < 1000000) (h1 : n < 1000000)
    (hs : ∀ env : Env, starEach [a, b] env = (false, eval a env) :: starEach [b] env := by intro _; rfl) (hs3 : ∀ env : Env, starEach [b] env = (false, eval b env) :: starEach [] env := by intro _; rfl)
    (hs2 : ∀ env : Env, starEach [a, b] env = [(false, eval a env), (false, eval b env)] := by intro _; rfl) (hs4 : ∀ env : Env, starEach [b] env = [(false, eval b env)] := by intro _; rfl) :
    DI1 G δ tg (.Call (.Name "range" p) [a, b] [] pos) (((List.range (n - m)).map (m + ·)).map natD) :=
  (di_range2 B hg ha hb (by omega) hs hs3 hs2 hs4).conv (by
    have e : ((n : Int) - (m : Int)).toNat = n - m := by omega
    rw [e, List.map_map, List.map_map]
    congr 1)
theorem turns_mapT {α : Type} (enc : α → PyData) (f : α → PyData) : ∀ (xs : List α), (∀ x ∈ xs, ∃ δb, bindT ts (enc x) δ = some δb ∧ DV (G.blk scope) δb elt (f x)) → Turns G scope ts [] elt δ (xs.map enc) (xs.map f)
  | [], _ => .nil
  | x :: xs, h => Turns.cons (t1_no (h x List.mem_cons_self)) (turns_mapT enc f xs fun y hy => h y (List.mem_cons_of_mem _ hy))
theorem turns_filtT {α : Type} (enc : α → PyData) (f : α → PyData) (k : α → Bool) : ∀ (xs : List α), (∀ x ∈ xs, ∃ δb, bindT ts (enc x) δ = some δb ∧ DT (G.blk scope) δb c (k x) ∧ (k x = true → DV (G.blk scope) δb elt (f x))) → Turns G scope ts [c] elt δ (xs.map enc) ((xs.filter k).map f)
  | [], _ => .nil
  | x :: xs, h => by
    obtain ⟨δb, h1, h2, h3⟩ := h x List.mem_cons_self
    have := Turns.cons (t1_if h1 h2 h3) (turns_filtT enc f k xs fun y hy => h y (List.mem_cons_of_mem _ hy))
    rw [List.filter_cons]
    cases e : k x with
    | true => rw [e] at this; exact this
    | false => rw [e] at this; exact this
/-- + of whole numbers, texts, tuples -/
theorem dv_addi {i j : Int} (ha : DV G δ a (.int i)) (hb : DV G δ b (.int j)) : DV G δ (.BinOp a .Add b pos) (.int (i + j)) := dv_add ha hb (.int i j)
theorem dv_adds {i j : PySem.Str} (ha : DV G δ a (.str i)) (hb : DV G δ b (.str j)) (h : i.length + j.length ≤ sizeLine) : DV G δ (.BinOp a .Add b pos) (.str (i ++ j)) := dv_add ha hb (.str i j h)
theorem dv_addt {xs ys : List PyData} (ha : DV G δ a (.tuple xs)) (hb : DV G δ b (.tuple ys)) (h : xs.length + ys.length ≤ 1000) : DV G δ (.BinOp a .Add b pos) (.tuple (xs ++ ys)) := dv_add ha hb (.tup xs ys h)
theorem dv_ixt {i : Int} (ha : DV G δ a (.tuple ds)) (hb : DV G δ b (.int i)) (h : L2.atI ds i = some d) (hs : PlainIx b := by intro _ _; rfl) : DV G δ (.Subscript a b pos) d := dv_ix ha hb (.tup h) hs
theorem dv_ixl {i : Int} (ha : DV G δ a (.list ds)) (hb : DV G δ b (.int i)) (h : L2.atI ds i = some d) (hs : PlainIx b := by intro _ _; rfl) : DV G δ (.Subscript a b pos) d := dv_ix ha hb (.lst h) hs
theorem dv_ixs {i : Int} {k : Int} {ns : List Int} (ha : DV G δ a (scrD ns)) (hb : DV G δ b (.int i)) (h : L2.atI ns i = some k) (hs : PlainIx b := by intro _ _; rfl) : DV G δ (.Subscript a b pos) (.int k) := dv_ix ha hb (.scr h) hs
theorem dv_lent (B : Blt G.m) (hg : globB G.sc "len" = true) (ha : DV G δ a y) (h : Seq y ds) (hs : ∀ env : Env, starEach [a] env = (false, eval a env) :: starEach [] env := by intro _; rfl) : DV G δ (.Call (.Name "len" p) [a] [] pos) (natD ds.length) := dv_len B hg ha (.seq h) hs
end
end DL

set_option Elab.async false
set_option linter.all false
set_option maxRecDepth 100000
namespace DL
open PySem PySem.Spec L2
set_option autoImplicit false

/-! ### a list of whole numbers emptied by places: [left.pop(e) for k in range(m)], made a tuple, handed back -/
def popM (j : Nat → Nat) : Nat → Nat → List Int → List Int
  | _, 0, _ => []
  | i, f + 1, l => l.getD (j i) 0 :: popM j (i + 1) f (l.eraseIdx (j i))
def PopOk (j : Nat → Nat) : Nat → Nat → List Int → Prop
  | _, 0, _ => True
  | i, f + 1, l => j i < l.length ∧ PopOk j (i + 1) f (l.eraseIdx (j i))
theorem popM_len (j : Nat → Nat) : ∀ (f i : Nat) (l : List Int), (popM j i f l).length = f
  | 0, _, _ => rfl
  | f + 1, i, l => by unfold popM; rw [List.length_cons, popM_len j f]
theorem seqIndex_nat {k n : Nat} (h : k < n) : seqIndex? (k : Int) n = some k := by
  have := (ixN_seq (n := n) (i := (k : Int)) (j := k) (by unfold ixN; rw [if_pos (by omega), if_pos (by omega)]; simp)).1
  exact this
theorem map_erase {α β : Type} (f : α → β) : ∀ (l : List α) (k : Nat), (l.map f).eraseIdx k = (l.eraseIdx k).map f
  | [], _ => rfl
  | _ :: _, 0 => rfl
  | x :: l, k + 1 => by
    show (f x :: (l.map f).eraseIdx k) = f x :: (l.eraseIdx k).map f
    rw [map_erase f l k]
section
variable {G : Ct} {δ δ1 : DEnv} {ω ω1 : Own} {out : Out} {a b c e tg iter elt : Expr} {es ifs body rest : List Expr} {x y z d : PyData} {ds items res : List PyData} {pos p p2 p3 spos py ap cp lp rp : Pos} {ts : TSpec} {scope : Scope} {own : List (PySem.Str × Nat)}
theorem ds_poprow (B : Blt G.m) (il ix m : Nat) (own : List (PySem.Str × Nat)) (j : Nat → Nat) (ns : List Int) {nl : PySem.Str} (hg : globB G.sc "tuple" = true) (hN : G.N[il]? = some nl) (hv : visB (G.blk scope).sc nl = true) (hil : il ∉ own.map (·.2)) (hilx : il ≠ ix)
    (hok : blkC G.N G.sc scope own = true) (hi : DI1 G δ tg iter ((List.range m).map natD)) (hdg : DG (G.blk scope) tg (.one ix)) (hsub : ix ∈ own.map (·.2))
    (he : ∀ i, i < m → DV (G.blk scope) ((dwipe δ (own.map (·.2))).set ix (some (natD i))) e (natD (j i))) (hj : ∀ i, j i < 1000000) (hp : PopOk j 0 m ns) (hm : m ≤ 1000)
    (hs0 : ∀ (env : Env) (x : Value), foldedSetIterable iter env x = pure x := by intro _ _; rfl)
    (hbase : ∀ env : Env, attributeBase (.Name nl p) "pop" env (eval (.Name nl p) env) = eval (.Name nl p) env := by intro _; rfl)
    (hfew : ∀ env : Env, ((backTo cp (starEach [e] env)).all (fun x => !x.1) && (backToKw cp (keywordEach [] env)).all (fun x => x.1.isSome) && decide ([e].length + ([] : List Keyword).length + (if ([] : List Keyword).isEmpty then 0 else 1) < 30)) = true := by intro _; rfl)
    (hline : (ap.endLine == cp.line) = true := by rfl) (hs2 : ∀ env : Env, starEach [e] env = (false, eval e env) :: starEach [] env := by intro _; rfl)
    (hs3 : ∀ env : Env, starEach [.ListComp (.Call (.Attribute (.Name nl p) "pop" ap) [e] [] cp) [⟨tg, iter, [], 0⟩] scope lp] env = (false, eval (.ListComp (.Call (.Attribute (.Name nl p) "pop" ap) [e] [] cp) [⟨tg, iter, [], 0⟩] scope lp) env) :: starEach [] env := by intro _; rfl) :
    DS G δ [(il, .lst (ns.map .int))] (.Return (some (.Call (.Name "tuple" p2) [.ListComp (.Call (.Attribute (.Name nl p) "pop" ap) [e] [] cp) [⟨tg, iter, [], 0⟩] scope lp] [] pos)) rp) (.ret (.tuple ((popM j 0 m ns).map .int))) := fun X hX => by
  have pev : ∀ (s : Shared) (H : Hp) (C : Addr) (cl : List (PySem.Str × Addr)) (fp : List Addr), PE (X.blk s H scope (compEnvC scope cl C X.env) fp) (.Name nl p) (tVar il) := fun s H C cl fp => by
    have hX' := hX.blk (scope := scope) s H C cl fp
    have hx := hX'.nodbg nl (List.mem_of_getElem? hN)
    exact pe_var (by rw [hX'.N]; exact hN) (by rw [hX'.sc]; exact vis_of hv) hx.1 hx.2
  have pel : ∀ (s : Shared) (H : Hp) (C : Addr) (cl : List (PySem.Str × Addr)) (fp : List Addr), PE (X.blk s H scope (compEnvC scope cl C X.env) fp) (.Call (.Attribute (.Name nl p) "pop" ap) [e] [] cp) (tBM G.m.K "list" rPopAt (tVar il) (tCons (eOf G scope e) tNil)) := fun s H C cl fp => by
    have hX' := hX.blk (scope := scope) s H C cl fp
    have := pe_bm PySem.F.plainAttrs_list PySem.F.slot_list_pop PySem.F.type_list_pop mt_popAt (pev s H C cl fp) (pa_cons (pe_of (elt := e) hX') pa_nil (hs2 _)) (hbase _) (hfew _) hline (hs2 _) rfl
    rw [hX'.K] at this
    exact this
  refine PS.imp (ps_ret (pe_callTy (hX.K ▸ cr_tupF (X := X)) (gl_of hX hg) (by rw [hX.mg]; exact B.tuple) PyProof.Rows.boot_tuple (pa_cons (pe_lc hX.calm hX.nd (hi X hX) (by rw [hX.N, hX.sc]; exact blkOk_by hok) (fun s H C cl fp => hdg _ (hX.blk s H C cl fp)) (fun s H C cl fp => pts_nil) pel (hs0 _)) pa_nil (hs3 _)) (by decide) (by decide) (hs3 _) rfl)) fun D σ H ⟨S, H0, δ', ω', o', ⟨e1, e2, e3⟩, hS, r, q⟩ => ?_
  subst e1 e2 e3
  obtain ⟨as, h1, h2, h3, h4, h5, h6⟩ := r.ex
  obtain ⟨a, rfl⟩ : ∃ a, as = [a] := by
    match as, h1 with
    | [a], _ => exact ⟨a, rfl⟩
  obtain ⟨ha, xs, hax, hxz, hra⟩ := h6 0 il _ a rfl rfl
  obtain rfl := hra.ints
  refine ⟨[a] ++ S, _, _, ⟨rfl, rfl⟩, h3, h5, fun J H1 s1 itok Dl hD => ?_⟩
  have haD : Dl ≠ a := fun z => by
    have := s1 _ _ hax
    rw [← z, hD] at this
    cases this
  -- behind i turns: what is left of the list at a, what is made at Dl
  refine ⟨fun i mm H' => mm = m - i ∧ i ≤ m ∧ Same (hide [a] H1) (hide [Dl, a] H') ∧ ∃ l acc, H' a = some (.lst (l.map V.int)) ∧ H' Dl = some (.lst (acc.map V.int)) ∧ PopOk j i (m - i) l ∧ acc ++ popM j i (m - i) l = popM j 0 m ns ∧ acc.length = i,
    ⟨_, rfl, Nat.zero_le _, ?_, ns, [], ?_, upd_same, hp, rfl, rfl⟩, ?_⟩
  · rw [hide_cons_upd hD]
    exact Same.refl _
  · rw [upd_ne (Ne.symm haD)]
    exact s1 _ _ hax
  rintro i mm H' ⟨em, him, hsm, l, acc, hl, hacc, hpo, hres, hal⟩
  have okD : SOk (Dl :: [a] ++ S) H' := fun b hb => by
    rcases List.mem_cons.mp hb with z | z
    · rw [z, hacc]; simp
    · rcases List.mem_cons.mp z with z | z
      · rw [z, hl]; simp
      · intro hn
        have hbne : b ≠ a := fun w => by rw [w, hl] at hn; cases hn
        have hb1 : H1 b ≠ none := (h3.mono s1) b (List.mem_append_right _ z)
        cases q1 : H1 b with
        | none => exact hb1 q1
        | some u =>
          have := hsm b u (by rw [hide_out (by simpa using hbne)]; exact q1)
          have := hide_sub _ _ _ _ this
          rw [hn] at this
          cases this
  have sF : Same (hide ([a] ++ S) H1) (hide (Dl :: [a] ++ S) H') := by
    have e1 : hide ([a] ++ S) H1 = hide S (hide [a] H1) := hide_app _ _ _
    have e2 : hide (Dl :: [a] ++ S) H' = hide S (hide [Dl, a] H') := hide_app [Dl, a] S H'
    rw [e1, e2]
    exact hide_mono hsm
  have RD : Rel G.m.K (Dl :: [a] ++ S) (dwipe δ' (own.map (·.2))) (wipe σ (own.map (·.2))) H' := by
    have := (h5.mono s1).wiped (own.map (·.2))
    exact ⟨this.len, fun i d e => let ⟨v, z1, z2⟩ := this.val i d e; ⟨v, z1, z2.mono sF⟩⟩
  obtain ⟨hgo, hstop⟩ := itok _ H' sF okD
  have hlen : ((List.range m).map natD).length = m := by simp
  by_cases hlt : i < m
  · have e1 : m - i = (m - (i + 1)) + 1 := by omega
    rw [e1] at hpo hres
    obtain ⟨hji, hpo'⟩ := hpo
    obtain ⟨go, yld⟩ := hgo i (natD i) (by rw [List.getElem?_map, List.getElem?_range hlt]; rfl)
    refine .inr ⟨go, _, fun H2 z => ⟨m - (i + 1), by omega, rfl, hlt, z⟩, fun x H2 yy => ?_⟩
    obtain ⟨s2, rx⟩ := yld x H2 yy
    refine ⟨Dl :: [a] ++ S, _, natD i, _, rfl, okD.mono s2, RD.mono s2, rx, fun σ2 R2 keep hl2 => ⟨?_, ?_⟩⟩
    · exact (wipe_same hl2 fun k hk => keep k fun z => hk (by simp [TSpec.ix] at z; rw [z]; exact hsub)).trans (wipe_wipe σ _)
    · unfold tYes
      dsimp only
      rw [if_pos rfl]
      refine ⟨.ref a, ?_, .inl ⟨rfl, _, SqL.of (s2 _ _ hl)⟩, Dl :: [a] ++ S, _, _, he i hlt, okD.mono s2, R2, fun v H3 s3 rv => ?_⟩
      · rw [keep il (by simp [TSpec.ix]; exact hilx), wipe_at _ _ _ hil]
        exact ha
      · cases rv
        refine ⟨a, _, (j i : Int), j i, .int (l.getD (j i) 0), rfl, rfl, s3 _ _ (s2 _ _ hl), by have := hj i; omega, by have := hj i; omega, seqIndex_nat (by rw [List.length_map]; exact hji), ?_, ?_⟩
        · rw [List.getElem?_map, List.getD_eq_getElem?_getD, List.getElem?_eq_getElem hji]
          rfl
        · refine ⟨acc.map V.int, ?_, ?_, ?_, l.eraseIdx (j i), acc ++ [l.getD (j i) 0], ?_, ?_, hpo', ?_, by rw [List.length_append, hal]; rfl⟩
          · rw [upd_ne haD]
            exact s3 _ _ (s2 _ _ hacc)
          · rw [List.length_map, hal, sizeLine_eq]
            omega
          · rw [hide_upd (by simp), hide_upd (by simp)]
            exact fun b o e => hide_mono (s2.trans s3) _ _ (hsm _ _ e)
          · rw [upd_ne (Ne.symm haD), upd_same, map_erase]
          · rw [upd_same, List.map_append]
            rfl
          · rw [← hres, List.append_assoc]
            rfl
  · have ei : i = m := by omega
    subst ei
    rw [Nat.sub_self] at hres
    refine .inl ⟨by rw [hlen] at hstop; exact hstop, ⟨Dl, _, rfl, .inl ⟨SqL.of hacc, ?_⟩⟩⟩
    have hres' : acc = popM j 0 i ns := by rw [← hres]; show acc = acc ++ []; simp
    have sH0 : Same H0 H' := by
      have e1 : Same H0 (hide [a] H1) := h4.trans (hide_mono s1)
      exact (e1.trans hsm).trans (hide_sub _ _)
    refine Rp.newT (K := G.m.K) (S := S) (H := H') (ds := (popM j 0 i ns).map .int) (fun b hb => okD b (List.mem_append_right _ hb)) ?_ ?_ sH0 fun v H'' s'' rv => q v H'' s'' rv
    · rw [List.length_map, hal, sizeLine_eq]
      omega
    · rw [← hres']
      exact RpAll.ofInts _
end
/-! ### products of any size that comes here -/
def CMulB (i j : Int) : Prop := i.natAbs.log2 + j.natAbs.log2 < 100000000
theorem CMulB.ok {i j : Int} (h : CMulB i j) : IntMulOk i j := by
  have bits : ∀ x : Int, Builtin.Int.intBits x ≤ x.natAbs.log2 + 1 := fun x => by
    unfold Builtin.Int.intBits
    split <;> omega
  have b1 := bits i
  have b2 := bits j
  have h3 : i.natAbs.log2 + j.natAbs.log2 < 100000000 := h
  intro z
  have z2 := (Bool.and_eq_true _ _ ▸ z).2
  unfold Builtin.Int.intTooBig at z2
  have z3 := of_decide_eq_true z2
  have e : bitsLine = 134217728 := by decide
  rw [e] at z3
  omega
theorem dv_mulB {G : Ct} {δ : DEnv} {a b : Expr} {pos : Pos} {i j : Int} (ha : DV G δ a (.int i)) (hb : DV G δ b (.int j)) (h : CMulB i j) : DV G δ (.BinOp a .Mult b pos) (.int (i * j)) :=
  dv_op (r := rI CMulB fun i j => .int (i * j)) (fun _ _ => opI fun _ _ _ _ _ _ _ hc q => PyProof.Rows.mul_int q hc.ok) ha hb fun S H v w Q ok r1 r2 q => by
    cases r1
    cases r2
    exact ⟨i, j, rfl, rfl, h, q _ H (Same.refl H) (.int _)⟩
end DL

set_option Elab.async false
set_option linter.all false
set_option maxRecDepth 100000
namespace DL
open PySem PySem.Spec L2
set_option autoImplicit false
/-! ### {'..': '..', '..': '..'}[name] -/
section
variable {G : Ct} {δ : DEnv} {k1 k2 v1 v2 i : Expr} {dp pos : Pos}
theorem dv_dict2 {a1 a2 b1 b2 x r : PySem.Str} (hk1 : DV G δ k1 (.str a1)) (hv1 : DV G δ v1 (.str b1)) (hk2 : DV G δ k2 (.str a2)) (hv2 : DV G δ v2 (.str b2)) (hi : DV G δ i (.str x))
    (h : valV (mergeK [] [((.inr a1 : Key), V.str b1), (.inr a2, .str b2)]) (.inr x : Key) = some (.str r)) (hs : NoSl i := by intro _ _; rfl) :
    DV G δ (.Subscript (.Dict [some k1, some k2] [v1, v2] dp) i pos) (.str r) := fun X hX => by
  refine PE.imp (pe_dget (by have := room65 hX; omega) (pe_disp (pps_cons (hk1 X hX) (hv1 X hX) (pps_cons (hk2 X hX) (hv2 X hX) pps_nil)) rfl rfl (by simp) (by simp)) (hi X hX) hs) fun σ H Q ⟨S, δ', d', ⟨e1, e2⟩, ok, R, q⟩ => ?_
  subst e1 e2
  intro p hp
  have s0 := same_upd hp (.dK [])
  refine ⟨S, _, _, ⟨rfl, rfl⟩, ok.mono s0, R.mono s0, fun u1 H1 s1 r1 => ?_⟩
  cases r1
  refine ⟨S, _, _, ⟨rfl, rfl⟩, ok.mono (s0.trans s1), R.mono (s0.trans s1), fun u2 H2 s2 r2 => ?_⟩
  cases r2
  have t2 := (s0.trans s1).trans s2
  refine ⟨S, _, _, ⟨rfl, rfl⟩, ok.mono t2, R.mono t2, fun u3 H3 s3 r3 => ?_⟩
  cases r3
  have t3 := t2.trans s3
  refine ⟨S, _, _, ⟨rfl, rfl⟩, ok.mono t3, R.mono t3, fun u4 H4 s4 r4 => ?_⟩
  cases r4
  have t4 := t3.trans s4
  have sp : Same (upd H p (.dK [])) H4 := ((s1.trans s2).trans s3).trans s4
  refine ⟨sp _ _ upd_same, [(.inr a1, .str b1), (.inr a2, .str b2)], rfl, by simp, ?_⟩
  have sf : Same H (upd H4 p (.dK (mergeK [] [((.inr a1 : Key), V.str b1), (.inr a2, .str b2)]))) := fun b o e => by
    by_cases hb : b = p
    · subst hb; rw [hp] at e; cases e
    · rw [upd_ne hb]; exact t4 _ _ e
  refine ⟨S, _, _, ⟨rfl, rfl⟩, ok.mono sf, R.mono sf, fun u5 H5 s5 r5 => ?_⟩
  cases r5
  refine ⟨p, .str r, rfl, ?_, q _ _ (sf.trans s5) (.str _)⟩
  rw [← h]
  exact DGet.k (k := .inr x) (s5 _ _ upd_same)
end
end DL

set_option Elab.async false
set_option linter.all false
set_option maxRecDepth 100000
namespace DL
open PySem PySem.Spec L2
set_option autoImplicit false
/-! ### a list's truth -/
theorem len_empty {α β : Type} {xs : List α} {ys : List β} (h : xs.length = ys.length) : xs.isEmpty = ys.isEmpty := by
  cases xs <;> cases ys <;> first | rfl | (simp at h)
section
variable {G : Ct} {δ δ1 δ2 : DEnv} {ω ω1 : Own} {out : Out} {e : Expr} {sts body : List Stmt} {ds : List PyData} {ts : TSpec} {y : PyData}
theorem dt_seq (ha : DV G δ e y) (h : Seq y ds) (he : ∀ (env : Env) whole, isTrue e env whole = (do let v ← whole; standAt e.pos; holding [v] (truthy v)) := by intro _ _; rfl) : DT G δ e (!ds.isEmpty) := fun X hX =>
  PT.imp (pt_truth (ha X hX) (he _)) fun σ H Q ⟨S, δ', d', ⟨e1, e2⟩, ok, R, q⟩ => by
    subst e1 e2
    refine ⟨S, _, _, ⟨rfl, rfl⟩, ok, R, fun v H1 s1 r1 => ?_⟩
    cases h with
    | lst =>
      cases r1 with
      | lst e1 z1 a1 =>
        exact ⟨!ds.isEmpty, .inl ⟨_, SqL.of (hide_some e1).2, by rw [len_empty a1.len]⟩, q H1 s1⟩
    | tup =>
      cases r1 with
      | tup e1 k1 z1 a1 =>
        exact ⟨!ds.isEmpty, .inr (.inl ⟨_, SqT.frz (hide_some e1).2, by rw [len_empty a1.len]⟩), q H1 s1⟩
/-! ### knowing less -/
structure Le (δ2 δ1 : DEnv) : Prop where
  len : δ2.length = δ1.length
  at' : ∀ (i : Nat) (d : PyData), δ2[i]? = some (some d) → δ1[i]? = some (some d)
theorem Le.refl (δ : DEnv) : Le δ δ := ⟨rfl, fun _ _ h => h⟩
theorem Le.trans {a b c : DEnv} (h1 : Le a b) (h2 : Le b c) : Le a c := ⟨h1.len.trans h2.len, fun i d e => h2.at' i d (h1.at' i d e)⟩
theorem Le.nil : Le [] [] := Le.refl _
theorem Le.cons {o : Option PyData} {a b : DEnv} (h : Le a b) : Le (o :: a) (o :: b) := ⟨by simp [h.len], fun i d e => by cases i with | zero => exact e | succ i => exact h.at' i d e⟩
theorem Le.drop {o : Option PyData} {a b : DEnv} (h : Le a b) : Le (none :: a) (o :: b) := ⟨by simp [h.len], fun i d e => by cases i with | zero => cases e | succ i => exact h.at' i d e⟩
theorem Rel.le {K : PySem.W.Frag} {S : List Addr} {σ : L2.St} {H : Hp} (r : Rel K S δ1 σ H) (w : Le δ2 δ1) : Rel K S δ2 σ H := ⟨r.len.trans w.len.symm, fun i d e => r.val i d (w.at' i d e)⟩
theorem SRel.le {K : PySem.W.Frag} {S : List Addr} {H0 H : Hp} {σ : L2.St} (r : SRel K S H0 δ1 ω σ H) (w : Le δ2 δ1) : SRel K S H0 δ2 ω σ H := by
  obtain ⟨as, h1, h2, h3, h4, h5, h6⟩ := r.ex
  exact ⟨as, h1, h2, h3, h4, h5.le w, h6⟩
theorem DSs.pre (h : DSs G δ2 ω sts out) (w : Le δ2 δ1) : DSs G δ1 ω sts out := fun X hX => PSs.imp (h X hX) fun D σ H ⟨S, H0, δ', ω', o', ⟨e1, e2, e3⟩, hS, r, q⟩ => by
  subst e1 e2 e3
  exact ⟨S, H0, _, _, _, ⟨rfl, rfl, rfl⟩, hS, r.le w, q⟩
theorem DSs.weak (h : DSs G δ ω sts (.next δ1 ω1)) (w : Le δ2 δ1) : DSs G δ ω sts (.next δ2 ω1) := fun X hX => PSs.imp (h X hX) fun D σ H ⟨S, H0, δ', ω', o', ⟨e1, e2, e3⟩, hS, r, q⟩ => by
  subst e1 e2 e3
  exact ⟨S, H0, _, _, _, ⟨rfl, rfl, rfl⟩, hS, r, fun σ' H' r' => q σ' H' (r'.le w)⟩
theorem DFor.conv {items : List PyData} (h : DFor G ts body items δ ω out) {o : Out} (q : out = o) : DFor G ts body items δ ω o := q ▸ h
theorem dv_addn {a b : Expr} {i j : Nat} {pos : Pos} (ha : DV G δ a (natD i)) (hb : DV G δ b (natD j)) : DV G δ (.BinOp a .Add b pos) (natD (i + j)) := (dv_addi (i := (i : Int)) (j := (j : Int)) ha hb).conv (by unfold natD; rw [Int.natCast_add])
theorem dv_intn {i : Int} (n : Nat) {j} {pos : Pos} (h : i = n := by rfl) : DV G δ (.Constant (.int i) j pos) (natD n) := h ▸ dv_int
theorem ds_ifk {c : Expr} {thn els : List Stmt} {pos : Pos} {k : Bool} (hc : DT G (ov δ ω) c k) (ht : k = true → DSs G δ ω thn (.next δ ω1)) (he : k = false → DSs G δ ω els (.next δ ω1)) : DS G δ ω (.If c thn els pos) (.next δ ω1) := ds_if hc ht he
/-! ### loops that keep what is known -/
theorem dfor_keep {α : Type} (enc : α → PyData) : ∀ (xs : List α), (∀ x ∈ xs, ∃ δb, bindT ts (enc x) δ = some δb ∧ ofree ts ω ∧ ∃ δ1, DSs G δb ω body (.next δ1 ω) ∧ Le δ δ1) → DFor G ts body (xs.map enc) δ ω (.next δ ω)
  | [], _ => rfl
  | x :: xs, h => by
    obtain ⟨δb, h1, h2, δ1, h3, w⟩ := h x List.mem_cons_self
    exact ⟨δb, h1, h2, .inl ⟨_, _, h3.weak w, dfor_keep enc xs fun y hy => h y (List.mem_cons_of_mem _ hy)⟩⟩
theorem dfor_fold {α β : Type} (enc : α → PyData) (st : β → Own) (f : β → α → β) (I : Nat → β → Prop) : ∀ (xs : List α) (b : β), I xs.length b → (∀ x ∈ xs, ∀ n b, I (n + 1) b → I n (f b x) ∧ ∃ δb, bindT ts (enc x) δ = some δb ∧ ofree ts (st b) ∧ ∃ δ1, DSs G δb (st b) body (.next δ1 (st (f b x))) ∧ Le δ δ1) →
    DFor G ts body (xs.map enc) δ (st b) (.next δ (st (xs.foldl f b)))
  | [], _, _, _ => rfl
  | x :: xs, b, hb, h => by
    obtain ⟨hi, δb, h1, h2, δ1, h3, w⟩ := h x List.mem_cons_self _ b hb
    exact ⟨δb, h1, h2, .inl ⟨_, _, h3.weak w, dfor_fold enc st f I xs _ hi fun y hy => h y (List.mem_cons_of_mem _ hy)⟩⟩
theorem fold_len {α β : Type} {f : List β → α → List β} {c : Nat} (h : ∀ b x, (f b x).length ≤ b.length + c) : ∀ (xs : List α) (b : List β), (xs.foldl f b).length ≤ b.length + c * xs.length
  | [], b => by simp
  | x :: xs, b => by
    have h1 := fold_len h xs (f b x)
    have h2 := h b x
    rw [List.foldl_cons, List.length_cons, Nat.mul_succ]
    omega
/-- a loop that hands back r at the first x where it finds it -/
theorem dfor_find {α : Type} (enc : α → PyData) (g : α → Option PyData) : ∀ (xs : List α), (∀ x ∈ xs, ∃ δb, bindT ts (enc x) δ = some δb ∧ ofree ts ω ∧ ((g x = none ∧ ∃ δ1, DSs G δb ω body (.next δ1 ω) ∧ Le δ δ1) ∨ ∃ r, g x = some r ∧ DSs G δb ω body (.ret r))) →
    DFor G ts body (xs.map enc) δ ω (match xs.findSome? g with | some r => .ret r | none => .next δ ω)
  | [], _ => rfl
  | x :: xs, h => by
    obtain ⟨δb, h1, h2, h3⟩ := h x List.mem_cons_self
    rw [List.findSome?_cons]
    rcases h3 with ⟨e, δ1, h3, w⟩ | ⟨r, e, h3⟩
    · rw [e]
      exact ⟨δb, h1, h2, .inl ⟨_, _, h3.weak w, dfor_find enc g xs fun y hy => h y (List.mem_cons_of_mem _ hy)⟩⟩
    · rw [e]
      exact ⟨δb, h1, h2, .inr ⟨r, rfl, h3⟩⟩
end
/-! ### depth -/
structure Nc (n : Nat) (d : PyData) : Prop where
  lay : d.canLay0 = true
  dep : d.depth ≤ n
theorem Nc.sh {n : Nat} {d : PyData} (h : Nc n d) (hn : n ≤ 64 := by omega) : SeqAt.shaped d = true := by
  unfold SeqAt.shaped
  rw [h.lay, Bool.true_and]
  exact decide_eq_true (Nat.le_trans h.dep hn)
theorem nc_int (i : Int) : Nc 0 (.int i) := ⟨rfl, Nat.le_refl _⟩
theorem nc_bool (i : Bool) : Nc 0 (.bool i) := ⟨rfl, Nat.le_refl _⟩
theorem nc_str (i : PySem.Str) (h : (PyData.str i).canLay0 = true := by decide) : Nc 0 (.str i) := ⟨h, Nat.le_refl _⟩
theorem nc_non : Nc 0 .none := ⟨rfl, Nat.le_refl _⟩
theorem nc_all {n : Nat} : ∀ {xs : List PyData}, (∀ x ∈ xs, Nc n x) → PyData.canLayAll0 xs = true ∧ PyData.depthAll xs ≤ n
  | [], _ => ⟨rfl, by simp [PyData.depthAll]⟩
  | x :: xs, h => by
    obtain ⟨h1, h2⟩ := h x List.mem_cons_self
    obtain ⟨h3, h4⟩ := nc_all (xs := xs) fun y hy => h y (List.mem_cons_of_mem _ hy)
    exact ⟨by simp [PyData.canLayAll0, h1, h3], by simp only [PyData.depthAll]; omega⟩
theorem nc_tup {n : Nat} {xs : List PyData} (h : ∀ x ∈ xs, Nc n x) : Nc (n + 1) (.tuple xs) := ⟨(nc_all h).1, by have := (nc_all h).2; simp only [PyData.depth]; omega⟩
theorem nc_lst {n : Nat} {xs : List PyData} (h : ∀ x ∈ xs, Nc n x) : Nc (n + 1) (.list xs) := ⟨(nc_all h).1, by have := (nc_all h).2; simp only [PyData.depth]; omega⟩
theorem Nc.up {n m : Nat} {d : PyData} (h : Nc n d) (w : n ≤ m) : Nc m d := ⟨h.lay, Nat.le_trans h.dep w⟩
theorem nc_ints (ns : List Int) : ∀ x ∈ ns.map PyData.int, Nc 0 x := fun x hx => by
  obtain ⟨i, _, rfl⟩ := List.mem_map.mp hx
  exact nc_int i
theorem nc_strs (ns : List PySem.Str) (h : ∀ x ∈ ns, (PyData.str x).canLay0 = true) : ∀ x ∈ ns.map PyData.str, Nc 0 x := fun x hx => by
  obtain ⟨i, hi, rfl⟩ := List.mem_map.mp hx
  exact nc_str i (h i hi)
theorem nc_pair (q : Int × Int) : Nc 1 (pairD q) := nc_tup fun x hx => by
  simp at hx
  rcases hx with rfl | rfl <;> exact nc_int _
theorem nc_pairs (ns : List (Int × Int)) : ∀ x ∈ ns.map pairD, Nc 1 x := fun x hx => by
  obtain ⟨i, _, rfl⟩ := List.mem_map.mp hx
  exact nc_pair i
theorem Nc.eq_self {n : Nat} {d : PyData} (h : Nc n d) : PyData.eqv d d = true := SeqAt.eqv_refl d h.lay
/-! ### equality of data -/
theorem eqv_int (i j : Int) : PyData.eqv (.int i) (.int j) = decide (i = j) := by
  simp only [PyData.eqv]
  exact Bool.eq_iff_iff.mpr (by simp)
theorem eqv_str (i j : PySem.Str) : PyData.eqv (.str i) (.str j) = decide (i = j) := by
  simp only [PyData.eqv]
  exact Bool.eq_iff_iff.mpr (by simp)
theorem eqvAll_map {α : Type} [DecidableEq α] (f : α → PyData) (h : ∀ x y, PyData.eqv (f x) (f y) = decide (x = y)) : ∀ xs ys : List α, PyData.eqvAll (xs.map f) (ys.map f) = decide (xs = ys)
  | [], [] => rfl
  | x :: xs, [] => rfl
  | [], y :: ys => rfl
  | x :: xs, y :: ys => by
    rw [List.map_cons, List.map_cons, PyData.eqvAll, h, eqvAll_map f h xs ys]
    exact Bool.eq_iff_iff.mpr (by simp)
theorem eqv_pair (p q : Int × Int) : PyData.eqv (pairD p) (pairD q) = decide (p = q) := by
  obtain ⟨a, b⟩ := p
  obtain ⟨c, d⟩ := q
  show PyData.eqv (.tuple [.int a, .int b]) (.tuple [.int c, .int d]) = _
  simp only [PyData.eqv, PyData.eqvAll]
  exact Bool.eq_iff_iff.mpr (by simp)
theorem eqv_tups {α : Type} [DecidableEq α] (f : α → PyData) (h : ∀ x y, PyData.eqv (f x) (f y) = decide (x = y)) (xs ys : List α) : PyData.eqv (.tuple (xs.map f)) (.tuple (ys.map f)) = decide (xs = ys) := by
  show PyData.eqvAll _ _ = _
  exact eqvAll_map f h xs ys
theorem any_map {α : Type} [DecidableEq α] (f : α → PyData) (h : ∀ x y, PyData.eqv (f x) (f y) = decide (x = y)) (xs : List α) (x : α) : ((xs.map f).any fun z => PyData.eqv z (f x)) = decide (x ∈ xs) := by
  rw [List.any_map]
  refine Bool.eq_iff_iff.mpr ?_
  rw [List.any_eq_true]
  constructor
  · rintro ⟨z, hz, e⟩
    rw [Function.comp_apply, h] at e
    exact decide_eq_true (of_decide_eq_true e ▸ hz)
  · intro e
    exact ⟨x, of_decide_eq_true e, by rw [Function.comp_apply, h]; exact decide_eq_true rfl⟩
end DL

set_option Elab.async false
set_option linter.all false
set_option maxRecDepth 100000
namespace DL
open PySem PySem.Spec L2
set_option autoImplicit false
/-! ### places in a row -/
def ix : List Int → Int → Nat
  | [], _ => 0
  | y :: r, x => if y = x then 0 else ix r x + 1
theorem ix_get : ∀ {r : List Int} {x : Int}, x ∈ r → r[ix r x]? = some x
  | y :: r, x, h => by
    unfold ix
    by_cases e : y = x
    · rw [if_pos e, e]; rfl
    · rw [if_neg e]
      have : x ∈ r := by
        rcases List.mem_cons.mp h with z | z
        · exact absurd z.symm e
        · exact z
      exact ix_get this
theorem ix_no : ∀ {r : List Int} {x : Int} {m : Nat}, m < ix r x → r[m]? ≠ some x
  | [], x, m, h => by simp
  | y :: r, x, m, h => by
    unfold ix at h
    by_cases e : y = x
    · rw [if_pos e] at h; omega
    · rw [if_neg e] at h
      cases m with
      | zero => simp; exact e
      | succ m => exact ix_no (r := r) (by omega)
theorem ix_inj {r : List Int} {x y : Int} (hx : x ∈ r) (hy : y ∈ r) (h : ix r x = ix r y) : x = y := by
  have h1 := ix_get hx
  have h2 := ix_get hy
  rw [h, h2] at h1
  exact (Option.some.inj h1).symm
/-- the two places of a tie, the lesser first -/
def spotsM (r : List Int) (t : Int × Int) : Int × Int := (if (ix r t.1 : Int) ≤ ix r t.2 then (ix r t.1, ix r t.2) else (ix r t.2, ix r t.1))
inductive Lie | meet | cross | within | apart
deriving DecidableEq
def Lie.t : Lie → PySem.Str
  | .meet => "meet"
  | .cross => "cross"
  | .within => "within"
  | .apart => "apart"
def howM (s t : Int × Int) : Lie :=
  if (s.1 = t.1 ∨ s.1 = t.2) ∨ (s.2 = t.1 ∨ s.2 = t.2) then .meet
  else if (s.1 < t.1 ∧ t.1 < s.2 ∧ s.2 < t.2) ∨ (t.1 < s.1 ∧ s.1 < t.2 ∧ t.2 < s.2) then .cross
  else if (s.1 < t.1 ∧ t.1 < t.2 ∧ t.2 < s.2) ∨ (t.1 < s.1 ∧ s.1 < s.2 ∧ s.2 < t.2) then .within
  else .apart
def webD (m : Nat) (ties : List (Int × Int)) : PyData := .tuple [natD m, .tuple (ties.map pairD)]
def rowD (r : List Int) : PyData := .tuple (r.map .int)
def Lr (r : List Int) (t u : Int × Int) : Lie := howM (spotsM r t) (spotsM r u)
/-- the kind: pile or queue -/
inductive Kd | pile | queue
deriving DecidableEq
def Kd.t : Kd → PySem.Str
  | .pile => "pile"
  | .queue => "queue"
def Kd.bad : Kd → Lie
  | .pile => .cross
  | .queue => .within
def clashB (r : List Int) (k : Kd) (t u : Int × Int) : Bool := decide (Lr r t u = k.bad)
theorem if_cg {α : Type} {b c : Prop} [Decidable b] [Decidable c] {x y u v : α} (h : b ↔ c) (h2 : x = u) (h3 : y = v) : ite b x y = ite c u v := by
  subst h2 h3
  by_cases q : b
  · rw [if_pos q, if_pos (h.mp q)]
  · rw [if_neg q, if_neg fun z => q (h.mpr z)]
theorem howM_comm (s t : Int × Int) : howM s t = howM t s := by
  unfold howM
  exact if_cg (by omega) rfl (if_cg (by omega) rfl (if_cg (by omega) rfl rfl))
theorem spots_le (r : List Int) (t : Int × Int) : (spotsM r t).1 ≤ (spotsM r t).2 := by
  unfold spotsM
  split <;> simp <;> omega
theorem spots_lt {r : List Int} {t : Int × Int} (h1 : t.1 ∈ r) (h2 : t.2 ∈ r) (h : t.1 ≠ t.2) : (spotsM r t).1 < (spotsM r t).2 := by
  have : ix r t.1 ≠ ix r t.2 := fun e => h (ix_inj h1 h2 e)
  unfold spotsM
  split <;> simp <;> omega
/-! ### the defs' promises -/
def rSpots (ds : List PyData) (d : PyData) : Prop := ∃ (m : Nat) (ties : List (Int × Int)) (r : List Int) (i : Nat) (t : Int × Int), ds = [webD m ties, rowD r, natD i] ∧ ties[i]? = some t ∧ t.1 ∈ r ∧ t.2 ∈ r ∧ d = pairD (spotsM r t)
def rHow (ds : List PyData) (d : PyData) : Prop := ∃ (m : Nat) (ties : List (Int × Int)) (r : List Int) (i j : Nat) (t u : Int × Int), ds = [webD m ties, rowD r, natD i, natD j] ∧ ties[i]? = some t ∧ ties[j]? = some u ∧ (t.1 ∈ r ∧ t.2 ∈ r) ∧ (u.1 ∈ r ∧ u.2 ∈ r) ∧ d = .str (Lr r t u).t
def rDo (ds : List PyData) (d : PyData) : Prop := ∃ (m : Nat) (ties : List (Int × Int)) (r : List Int) (k : Kd) (i j : Nat) (t u : Int × Int), ds = [webD m ties, rowD r, .str k.t, natD i, natD j] ∧ ties[i]? = some t ∧ ties[j]? = some u ∧ (t.1 ∈ r ∧ t.2 ∈ r) ∧ (u.1 ∈ r ∧ u.2 ∈ r) ∧ d = .bool (clashB r k t u)
def npD (p : Nat × Nat) : PyData := .tuple [natD p.1, natD p.2]
def clashAt (ties : List (Int × Int)) (r : List Int) (k : Kd) (i j : Nat) : Bool := clashB r k (ties.getD i (0, 0)) (ties.getD j (0, 0))
def inClash1 (ties : List (Int × Int)) (r : List Int) (k : Kd) (i : Nat) (acc : List (Nat × Nat)) (j : Nat) : List (Nat × Nat) := if clashAt ties r k i j then acc ++ [(i, j)] else acc
def inClash (ties : List (Int × Int)) (r : List Int) (k : Kd) (acc : List (Nat × Nat)) (i : Nat) : List (Nat × Nat) := ((List.range (ties.length - (i + 1))).map (i + 1 + ·)).foldl (inClash1 ties r k i) acc
def clashesM (ties : List (Int × Int)) (r : List Int) (k : Kd) : List (Nat × Nat) := (List.range ties.length).foldl (inClash ties r k) []
theorem inClash1_len (ties : List (Int × Int)) (r : List Int) (k : Kd) (i : Nat) (b : List (Nat × Nat)) (j : Nat) : (inClash1 ties r k i b j).length ≤ b.length + 1 := by
  unfold inClash1
  split <;> simp
theorem inClash_len (ties : List (Int × Int)) (r : List Int) (k : Kd) (b : List (Nat × Nat)) (i : Nat) : (inClash ties r k b i).length ≤ b.length + ties.length := by
  have := fold_len (inClash1_len ties r k i) ((List.range (ties.length - (i + 1))).map (i + 1 + ·)) b
  rw [List.length_map, List.length_range, Nat.one_mul] at this
  unfold inClash
  omega
def rClashes (ds : List PyData) (d : PyData) : Prop := ∃ (m : Nat) (ties : List (Int × Int)) (r : List Int) (k : Kd), ds = [webD m ties, rowD r, .str k.t] ∧ (∀ t ∈ ties, t.1 ∈ r ∧ t.2 ∈ r) ∧ ties.length ≤ 60 ∧ d = .tuple ((clashesM ties r k).map npD)
theorem lie_inj {a b : Lie} (h : a.t = b.t) : a = b := by
  cases a <;> cases b <;> first | rfl | (exact absurd h (by decide))
theorem lie_eqv (a b : Lie) : PyData.eqv (.str a.t) (.str b.t) = decide (a = b) := by
  rw [eqv_str]
  exact Bool.eq_iff_iff.mpr ⟨fun h => decide_eq_true (lie_inj (of_decide_eq_true h)), fun h => decide_eq_true (congrArg Lie.t (of_decide_eq_true h))⟩
theorem lie_sh (a : Lie) : SeqAt.shaped (.str a.t) = true := by cases a <;> decide +kernel
end DL

set_option Elab.async false
set_option linter.all false
set_option maxRecDepth 100000
namespace DL
open PySem PySem.Spec L2
set_option autoImplicit false
/-! ### numbers that are not too big -/
def Sm (n : Nat) (z : Int) : Prop := z.natAbs < 2 ^ n
theorem Sm.add {n : Nat} {z s : Int} (h : Sm n z) (hs : s.natAbs ≤ 1000) : Sm (n + 10) (z + s) := by
  unfold Sm at h ⊢
  rw [Nat.pow_add]
  have h1 : (2 : Nat) ^ 10 = 1024 := by decide
  rw [h1]
  generalize (2 : Nat) ^ n = x at h ⊢
  omega
theorem Sm.div3 {n : Nat} {z : Int} (h : Sm n z) : Sm n (z / 3) := by
  unfold Sm at h ⊢
  generalize (2 : Nat) ^ n = x at h ⊢
  omega
theorem Sm.mono {n m : Nat} {z : Int} (h : Sm n z) (w : n ≤ m) : Sm m z := Nat.lt_of_lt_of_le h (Nat.pow_le_pow_right (by omega) w)
theorem Sm.mulB {n : Nat} {z : Int} (h : Sm n z) (hn : n ≤ 5000000) : CMulB z 48271 := by
  unfold CMulB
  have h2 : (48271 : Int).natAbs.log2 = 15 := by decide
  rw [h2]
  by_cases e : z.natAbs = 0
  · rw [e, show Nat.log2 0 = 0 by decide]; omega
  · have := (Nat.log2_lt e).mpr h
    omega
theorem CMulB.small {i j : Int} (hi : i.natAbs < 1000000) (hj : j.natAbs < 1000000) : CMulB i j := by
  have h : ∀ n : Nat, n < 1000000 → n.log2 < 20 := fun n hn => by
    by_cases e : n = 0
    · subst e; decide
    · exact (Nat.log2_lt e).mpr (by omega)
  unfold CMulB
  have := h _ hi
  have := h _ hj
  omega
/-! ### cells made webs and rows -/
def mixM (z p m : Int) : Int := z * 48271 % p % m
theorem mixM_nn (z : Int) {p m : Int} (h : 0 < m) : 0 ≤ mixM z p m := Int.emod_nonneg _ (by omega)
theorem mixM_lt (z : Int) {p m : Int} (h : 0 < m) : mixM z p m < m := Int.emod_lt_of_pos _ h
def rMix (ds : List PyData) (d : PyData) : Prop := ∃ (n : Nat) (z p m : Int), ds = [.int z, .int p, .int m] ∧ Sm n z ∧ n ≤ 5000000 ∧ 0 < p ∧ 0 < m ∧ d = .int (mixM z p m)
def manyM (z : Int) (most : Nat) : Nat :=
  let many := 1 + (mixM z 9973 most).toNat
  if many < 4 ∧ 0 < z % 4 then most else many
def tieStep (z : Int) (many : Nat) (acc : List (Int × Int)) (k : Nat) : List (Int × Int) :=
  let one := mixM (z + 11 * (k : Int)) 9949 many
  let other := mixM (z + 13 * (k : Int) + 1) 9941 many
  if one ≠ other ∧ (min one other, max one other) ∉ acc then acc ++ [(min one other, max one other)] else acc
def foundM (z : Int) (many ties : Nat) : List (Int × Int) := (List.range (mixM z 9967 (ties + 1)).toNat).foldl (tieStep z many) []
def lexB (q r : Int × Int) : Bool := decide (q.1 < r.1 ∨ (q.1 = r.1 ∧ q.2 ≤ r.2))
def sortP (ps : List (Int × Int)) : List (Int × Int) := ps.mergeSort lexB
theorem sortP_perm (ps : List (Int × Int)) : (sortP ps).Perm ps := List.mergeSort_perm _ _
theorem sortP_sorted (ps : List (Int × Int)) : (sortP ps).Pairwise lexLe := by
  have := List.pairwise_mergeSort (le := lexB) (fun a b c h1 h2 => by
    simp only [lexB, decide_eq_true_eq] at h1 h2 ⊢
    omega) (fun a b => by
    simp only [lexB, Bool.or_eq_true, decide_eq_true_eq]
    omega) ps
  exact this.imp fun h => of_decide_eq_true h
def tiesM (z : Int) (most ties : Nat) : List (Int × Int) := sortP (foundM z (manyM z most) ties)
def wD (z : Int) (most ties : Nat) : PyData := webD (manyM z most) (tiesM z most ties)
theorem manyM_pos (z : Int) {most : Nat} (h : 0 < most) : 1 ≤ manyM z most ∧ manyM z most ≤ most := by
  unfold manyM
  have h1 := mixM_nn z (p := 9973) (m := most) (by omega)
  have h2 := mixM_lt z (p := 9973) (m := most) (by omega)
  dsimp only
  split <;> omega
structure TieOk (many : Nat) (t : Int × Int) : Prop where
  nn : 0 ≤ t.1
  lt : t.1 < t.2
  le : t.2 < many
theorem fold_inv {α β : Type} {f : β → α → β} (P : β → Prop) (h : ∀ b x, P b → P (f b x)) : ∀ (xs : List α) (b : β), P b → P (xs.foldl f b)
  | [], _, hb => hb
  | x :: xs, b, hb => fold_inv P h xs _ (h b x hb)
theorem tieStep_ok {z : Int} {many : Nat} (hm : 0 < many) (acc : List (Int × Int)) (k : Nat) (h : (∀ t ∈ acc, TieOk many t) ∧ acc.Nodup) : (∀ t ∈ tieStep z many acc k, TieOk many t) ∧ (tieStep z many acc k).Nodup := by
  unfold tieStep
  dsimp only
  have a1 := mixM_nn (z + 11 * (k : Int)) (p := 9949) (m := many) (by omega)
  have a2 := mixM_lt (z + 11 * (k : Int)) (p := 9949) (m := many) (by omega)
  have b1 := mixM_nn (z + 13 * (k : Int) + 1) (p := 9941) (m := many) (by omega)
  have b2 := mixM_lt (z + 13 * (k : Int) + 1) (p := 9941) (m := many) (by omega)
  generalize mixM (z + 11 * (k : Int)) 9949 many = o at *
  generalize mixM (z + 13 * (k : Int) + 1) 9941 many = p at *
  split
  · rename_i hc
    constructor
    · intro t ht
      rcases List.mem_append.mp ht with g | g
      · exact h.1 t g
      · rw [List.mem_singleton] at g
        subst g
        exact ⟨by dsimp only; omega, by dsimp only; omega, by dsimp only; omega⟩
    · exact List.nodup_append.mpr ⟨h.2, by simp, fun a ha b hb e => by rw [List.mem_singleton] at hb; subst hb; subst e; exact hc.2 ha⟩
  · exact h
theorem foundM_ok {z : Int} {many ties : Nat} (hm : 0 < many) : (∀ t ∈ foundM z many ties, TieOk many t) ∧ (foundM z many ties).Nodup := by
  unfold foundM
  exact fold_inv (fun acc => (∀ t ∈ acc, TieOk many t) ∧ acc.Nodup) (fun b x h => tieStep_ok hm b x h) _ [] ⟨by simp, List.nodup_nil⟩
theorem tieStep_len (z : Int) (many : Nat) (acc : List (Int × Int)) (k : Nat) : (tieStep z many acc k).length ≤ acc.length + 1 := by
  unfold tieStep
  dsimp only
  split <;> simp
theorem foundM_len (z : Int) (many ties : Nat) : (foundM z many ties).length ≤ ties := by
  have h := fold_len (tieStep_len z many) (List.range (mixM z 9967 (ties + 1)).toNat) []
  have h2 := mixM_lt z (p := 9967) (m := ties + 1) (by omega)
  have h3 := mixM_nn z (p := 9967) (m := ties + 1) (by omega)
  rw [List.length_range] at h
  simp only [List.length_nil] at h
  unfold foundM
  omega
/-- a web's ties are in order -/
structure WebOk (many : Nat) (ties : List (Int × Int)) : Prop where
  ok : ∀ t ∈ ties, TieOk many t
  nd : ties.Nodup
  srt : ties.Pairwise lexLe
theorem tiesM_ok (z : Int) {most : Nat} (ties : Nat) (h : 0 < most) : WebOk (manyM z most) (tiesM z most ties) ∧ (tiesM z most ties).length ≤ ties := by
  have hm := (manyM_pos z h).1
  obtain ⟨h1, h2⟩ := foundM_ok (z := z) (ties := ties) hm
  have hp := sortP_perm (foundM z (manyM z most) ties)
  refine ⟨⟨fun t ht => h1 t (hp.mem_iff.mp ht), hp.nodup_iff.mpr h2, sortP_sorted _⟩, ?_⟩
  have := foundM_len z (manyM z most) ties
  have e : (tiesM z most ties).length = _ := hp.length_eq
  omega
def rWeb (ds : List PyData) (d : PyData) : Prop := ∃ (n : Nat) (z : Int) (most ties : Nat), ds = [.int z, natD most, natD ties] ∧ Sm n z ∧ n ≤ 4000000 ∧ 0 < most ∧ most ≤ 60 ∧ ties ≤ 60 ∧ d = wD z most ties
/-! ### rows -/
def popJ (z : Int) (many : Nat) (k : Nat) : Nat := if k < many then (mixM (z + 5 * (k : Int)) 9931 ((many : Int) - k)).toNat else 0
def rowM (z : Int) (many : Nat) : List Int := popM (popJ z many) 0 many (upto many)
theorem get_erase_perm {α : Type} : ∀ (l : List α) (k : Nat) (h : k < l.length), (l[k] :: l.eraseIdx k).Perm l
  | x :: l, 0, _ => List.Perm.refl _
  | x :: l, k + 1, h => by
    have := get_erase_perm l k (by simpa using h)
    exact (List.Perm.swap _ _ _).trans (this.cons x)
theorem popM_perm (j : Nat → Nat) : ∀ (f i : Nat) (l : List Int), l.length = f → PopOk j i f l → (popM j i f l).Perm l
  | 0, i, l, hl, _ => by
    have : l = [] := List.eq_nil_of_length_eq_zero hl
    subst this
    exact List.Perm.refl _
  | f + 1, i, l, hl, h => by
    have h1 := popM_perm j f (i + 1) (l.eraseIdx (j i)) (by rw [List.length_eraseIdx_of_lt h.1]; omega) h.2
    unfold popM
    refine (h1.cons _).trans ?_
    rw [List.getD_eq_getElem?_getD, List.getElem?_eq_getElem h.1]
    exact get_erase_perm _ _ h.1
theorem popOk_all (z : Int) (many : Nat) : ∀ (f i : Nat) (l : List Int), l.length = f → i + f = many → PopOk (popJ z many) i f l
  | 0, _, _, _, _ => True.intro
  | f + 1, i, l, hl, hf => by
    have hj : popJ z many i < l.length := by
      unfold popJ
      rw [if_pos (by omega)]
      have h1 := mixM_nn (z + 5 * (i : Int)) (p := 9931) (m := (many : Int) - i) (by omega)
      have h2 := mixM_lt (z + 5 * (i : Int)) (p := 9931) (m := (many : Int) - i) (by omega)
      omega
    exact ⟨hj, popOk_all z many f (i + 1) _ (by rw [List.length_eraseIdx_of_lt hj]; omega) (by omega)⟩
theorem upto_len (n : Nat) : (upto (n : Int)).length = n := by unfold upto; simp
theorem rowM_perm (z : Int) (many : Nat) : (rowM z many).Perm (upto many) := popM_perm _ _ _ _ (upto_len many) (popOk_all z many _ _ _ (upto_len many) (by omega))
theorem mem_upto {n : Nat} {x : Int} : x ∈ upto (n : Int) ↔ 0 ≤ x ∧ x < n := by
  unfold upto
  simp
  constructor
  · rintro ⟨a, h, rfl⟩; omega
  · rintro ⟨h1, h2⟩; exact ⟨x.toNat, by omega, by omega⟩
theorem rowM_mem (z : Int) (many : Nat) {x : Int} : x ∈ rowM z many ↔ 0 ≤ x ∧ x < many := (rowM_perm z many).mem_iff.trans mem_upto
def rRow (ds : List PyData) (d : PyData) : Prop := ∃ (n : Nat) (z : Int) (many : Nat), ds = [.int z, natD many] ∧ Sm n z ∧ n ≤ 4000000 ∧ many ≤ 60 ∧ d = rowD (rowM z many)
/-! ### the law's own telling -/
def lawHow (a b c d : Int) : Lie :=
  if a ∈ [c, d] ∨ b ∈ [c, d] then .meet
  else if (([c, d].filter fun x => decide (min a b < x) && decide (x < max a b)).length = 1) then .cross
  else if (([c, d].filter fun x => decide (min a b < x) && decide (x < max a b)).length = 2) ∨ (min c d < min a b ∧ min a b < max c d) then .within
  else .apart
theorem between_len (a b c d : Int) : ([c, d].filter fun x => decide (min a b < x) && decide (x < max a b)).length = (if min a b < c ∧ c < max a b then 1 else 0) + (if min a b < d ∧ d < max a b then 1 else 0) := by
  rw [List.filter_cons, List.filter_cons, List.filter_nil]
  by_cases h1 : min a b < c ∧ c < max a b <;> by_cases h2 : min a b < d ∧ d < max a b
  · rw [if_pos h1, if_pos h2, if_pos (by simp [h1]), if_pos (by simp [h2])]; rfl
  · rw [if_pos h1, if_neg h2, if_pos (by simp [h1]), if_neg (by simpa using h2)]; rfl
  · rw [if_neg h1, if_pos h2, if_neg (by simpa using h1), if_pos (by simp [h2])]; rfl
  · rw [if_neg h1, if_neg h2, if_neg (by simpa using h1), if_neg (by simpa using h2)]; rfl
def ordP (a b : Int) : Int × Int := if a ≤ b then (a, b) else (b, a)
theorem lawHow_eq {a b c d : Int} (h1 : a ≠ b) (h2 : c ≠ d) : lawHow a b c d = howM (ordP a b) (ordP c d) := by
  have e1 : (ordP a b).1 = min a b ∧ (ordP a b).2 = max a b := by unfold ordP; split <;> simp <;> omega
  have e2 : (ordP c d).1 = min c d ∧ (ordP c d).2 = max c d := by unfold ordP; split <;> simp <;> omega
  have bl := between_len a b c d
  by_cases m : a = c ∨ a = d ∨ b = c ∨ b = d
  · have l : lawHow a b c d = .meet := if_pos (by simp; omega)
    have r : howM (ordP a b) (ordP c d) = .meet := if_pos (by rw [e1.1, e1.2, e2.1, e2.2]; omega)
    rw [l, r]
  · have l0 : ¬ (a ∈ [c, d] ∨ b ∈ [c, d]) := by simp; omega
    have r0 : ¬ (((ordP a b).1 = (ordP c d).1 ∨ (ordP a b).1 = (ordP c d).2) ∨ ((ordP a b).2 = (ordP c d).1 ∨ (ordP a b).2 = (ordP c d).2)) := by rw [e1.1, e1.2, e2.1, e2.2]; omega
    by_cases q1 : min a b < c ∧ c < max a b <;> by_cases q2 : min a b < d ∧ d < max a b
    · rw [if_pos q1, if_pos q2] at bl
      have l : lawHow a b c d = .within := (if_neg l0).trans ((if_neg (by omega)).trans (if_pos (by omega)))
      have r : howM (ordP a b) (ordP c d) = .within := (if_neg r0).trans ((if_neg (by rw [e1.1, e1.2, e2.1, e2.2]; omega)).trans (if_pos (by rw [e1.1, e1.2, e2.1, e2.2]; omega)))
      rw [l, r]
    · rw [if_pos q1, if_neg q2] at bl
      have l : lawHow a b c d = .cross := (if_neg l0).trans (if_pos (by omega))
      have r : howM (ordP a b) (ordP c d) = .cross := (if_neg r0).trans (if_pos (by rw [e1.1, e1.2, e2.1, e2.2]; omega))
      rw [l, r]
    · rw [if_neg q1, if_pos q2] at bl
      have l : lawHow a b c d = .cross := (if_neg l0).trans (if_pos (by omega))
      have r : howM (ordP a b) (ordP c d) = .cross := (if_neg r0).trans (if_pos (by rw [e1.1, e1.2, e2.1, e2.2]; omega))
      rw [l, r]
    · rw [if_neg q1, if_neg q2] at bl
      have l1 : lawHow a b c d = if min c d < min a b ∧ min a b < max c d then .within else .apart := (if_neg l0).trans ((if_neg (by omega)).trans (if_cg (by omega) rfl rfl))
      have r1 : howM (ordP a b) (ordP c d) = if min c d < min a b ∧ min a b < max c d then .within else .apart := (if_neg r0).trans ((if_neg (by rw [e1.1, e1.2, e2.1, e2.2]; omega)).trans (if_cg (by rw [e1.1, e1.2, e2.1, e2.2]; omega) rfl rfl))
      rw [l1, r1]
theorem spots_ord (r : List Int) (t : Int × Int) : spotsM r t = ordP (ix r t.1) (ix r t.2) := rfl
def rLHow (ds : List PyData) (d : PyData) : Prop := ∃ (m : Nat) (ties : List (Int × Int)) (r : List Int) (i j : Nat) (t u : Int × Int), ds = [webD m ties, rowD r, natD i, natD j] ∧ ties[i]? = some t ∧ ties[j]? = some u ∧ (t.1 ∈ r ∧ t.2 ∈ r ∧ t.1 ≠ t.2) ∧ (u.1 ∈ r ∧ u.2 ∈ r ∧ u.1 ≠ u.2) ∧ d = .str (Lr r t u).t
theorem mem2 {r : List Int} {p q x : Int} (hx : x ∈ [p, q]) (hp : p ∈ r) (hq : q ∈ r) : x ∈ r := by
  simp at hx
  rcases hx with rfl | rfl
  · exact hp
  · exact hq
theorem minmax2 (a b : Int) : (min a b ∈ [a, b] ∧ ∀ y ∈ [a, b], min a b ≤ y) ∧ (max a b ∈ [a, b] ∧ ∀ y ∈ [a, b], y ≤ max a b) := by
  simp
  omega
end DL

set_option Elab.async false
set_option linter.all false
set_option maxRecDepth 100000
namespace DL
open PySem PySem.Spec L2
set_option autoImplicit false
theorem sw_cell {elt : Expr} {gs : List Comprehension} {scope : Scope} {pos py : Pos} {y : PySem.Str} {l : Nat} {env : Env} (hy : env.scope.names.lookup y = some .cell) : swapsWith (.ListComp elt gs scope pos) (some (.Name y py)) l env = pure false := by
  have ky : env.kindOf y = some .cell := hy
  unfold swapsWith
  simp only [ky]
  have : ((some NameKind.cell : Option NameKind) == some .local) = false := by decide
  simp [this]
section
variable {G : Ct} {δ : DEnv} {ω : Own} {d : PyData} {pos p cpos : Pos} {elt : Expr} {gs : List Comprehension} {scope : Scope}
/-- x = [..] where x is read in an inner block -/
theorem ds_setc (i : Nat) {n : PySem.Str} (hN : G.N[i]? = some n) (hl : locB G n = true) (hc : G.sc.names.lookup n = some .cell) (h : DV G δ (.ListComp elt gs scope cpos) d) (hi : ∀ q ∈ ω, q.1 ≠ i := by simp) :
    DS G δ ω (.Assign [.Name n p] (.ListComp elt gs scope cpos) pos) (.next (δ.set i (some d)) ω) := fun X hX =>
  PS.imp (ps_set hX.nd (by rw [hX.N]; exact hN) (by rw [hX.sc]; exact loc_of hl) (h X hX) (sw_cell (by rw [hX.sc]; exact hc)) (loc_fn hX hl)) fun D σ H ⟨S, H0, δ', ω', o', ⟨e1, e2, e3⟩, hS, r, q⟩ => by
    subst e1 e2 e3
    obtain ⟨as, B⟩ := r.bs hS
    exact ⟨_, _, _, ⟨rfl, rfl⟩, B.ok, B.rel, fun v H' s rv => q _ _ (B.store H' i v d s rv hi)⟩
end
/-! ### what the tests of the law's telling say -/
theorem meet_of {a b c d : Int} (h : (!((([a, b].filter fun x => decide (x ∈ [c, d])).map PyData.int).isEmpty)) = true) : a ∈ [c, d] ∨ b ∈ [c, d] := by
  by_cases h1 : a ∈ [c, d]
  · exact .inl h1
  · by_cases h2 : b ∈ [c, d]
    · exact .inr h2
    · rw [List.filter_cons, List.filter_cons, decide_eq_false h1, decide_eq_false h2] at h
      cases h
theorem meet_not {a b c d : Int} (h : (!((([a, b].filter fun x => decide (x ∈ [c, d])).map PyData.int).isEmpty)) = false) : ¬(a ∈ [c, d] ∨ b ∈ [c, d]) := by
  intro w
  have : ([a, b].filter fun x => decide (x ∈ [c, d])) ≠ [] := by
    rcases w with w | w
    · exact List.ne_nil_of_mem (a := a) (List.mem_filter.mpr ⟨by simp, decide_eq_true w⟩)
    · exact List.ne_nil_of_mem (a := b) (List.mem_filter.mpr ⟨by simp, decide_eq_true w⟩)
  cases e : ([a, b].filter fun x => decide (x ∈ [c, d])) with
  | nil => exact this e
  | cons x l => rw [e] at h; cases h
theorem len_of {α : Type} {l : List α} {f : α → PyData} {n : Nat} (h : PyData.eqv (natD (l.map f).length) (.int (n : Int)) = true) : l.length = n := by
  unfold natD at h
  rw [eqv_int, List.length_map] at h
  have := of_decide_eq_true h
  omega
theorem len_not {α : Type} {l : List α} {f : α → PyData} {n : Nat} (h : PyData.eqv (natD (l.map f).length) (.int (n : Int)) = false) : ¬ l.length = n := by
  unfold natD at h
  rw [eqv_int, List.length_map] at h
  have := of_decide_eq_false h
  omega
end DL

set_option Elab.async false
set_option linter.all false
set_option maxRecDepth 100000
set_option maxHeartbeats 1000000
namespace DL
open PySem PySem.Spec L2
set_option autoImplicit false
/-! ### sorted(xs), xs pairs of whole numbers, any length -/
def kH (H : Hp) : V → Int × Int
  | .ref t => match H t with
    | some (.frz _ (.tup [.int i, .int j])) => (i, j)
    | _ => (0, 0)
  | _ => (0, 0)
theorem kH_at {H : Hp} {t : Addr} {o : Obj} {i j : Int} (h : H t = some (.frz o (.tup [.int i, .int j]))) : kH H (.ref t) = (i, j) := by
  unfold kH
  dsimp only
  rw [h]
def rSortedPF (K : PySem.W.Frag) : List V → Hp → VK → Prop := fun vs H Q => ∃ (a : Addr) (xs : List V) (k : V → Int × Int), vs = [V.ref a] ∧ SqL K H a xs ∧ (∀ x ∈ xs, ∃ t o, x = V.ref t ∧ H t = some (.frz o (.tup [.int (k x).1, .int (k x).2]))) ∧
  ∀ ys p, SrtO.Srtd (ltP k) ys → SrtO.Stb (ltP k) ys xs → H p = none → Q (.ref p) (upd H p (.lst ys))
theorem cr_sortedPF {X : Cx} : CallR X (.builtin "sorted") (rSortedPF X.K) := by
  intro pins s σ H vs us Q I r h
  obtain ⟨a, xs, k, rfl, hs, hx, q⟩ := h
  obtain ⟨its, rv, hl, hz⟩ := I.list hs
  obtain ⟨u, rfl, ru⟩ := vals1 r
  obtain rfl : u = Value.ref a := ru
  obtain ⟨e1, e2⟩ := refs_back rv fun x m => by
    obtain ⟨t, _, e, _⟩ := hx x m
    exact ⟨t, e⟩
  refine SrtO.sorted_pairsO (k := fun u => k (backV u)) hl.isList (by rw [← rv.length]; exact hz) (fun v hv => ?_) fun h' d out h1 h2 kp hd hn => ?_
  · obtain ⟨t, rfl⟩ := e2 v hv
    have hm : V.ref t ∈ xs := by rw [e1]; exact List.mem_map.mpr ⟨_, hv, rfl⟩
    obtain ⟨t', oo, e, ht⟩ := hx _ hm
    cases e
    obtain ⟨_, _, its2, r2, o, ho, hc, n, hd⟩ := I.hok _ _ ht
    obtain ⟨u1, u2, rfl, ri, rj⟩ := vals2 r2
    obtain ⟨t1, rfl⟩ := ri
    obtain ⟨t2, rfl⟩ := rj
    exact ⟨t, o, t1, t2, n, rfl, ho, hc, hd⟩
  · have h3 : ∀ u ∈ out, ∃ a, u = Value.ref a := fun u hu => e2 u (h2.perm.mem_iff.mp hu)
    obtain ⟨n, hn⟩ := hn
    have hb : SrtO.Stb (ltP k) (out.map backV) xs := by
      rw [e1]
      exact SrtO.Stb.map (ltP_swo k) backV h2
    refine ⟨.ref d, upd H d (.lst (out.map backV)), I.laid (t' := s.toks) kp hd ⟨?_, out, n, vals_back h3, hn⟩, rfl, q _ d (SrtO.srtd_map h1) hb (I.hok.fresh hd)⟩
    rw [hb.len]
    exact hz
section
variable {G : Ct} {δ : DEnv} {a : Expr} {pos p : Pos}
theorem dn_sortedQ {ps qs : List (Int × Int)} (B : Blt G.m) (hg : globB G.sc "sorted" = true) (ha : DV G δ a (.list (ps.map pairD))) (hp : qs.Perm ps) (hs' : qs.Pairwise lexLe)
    (hs : ∀ env : Env, starEach [a] env = (false, eval a env) :: starEach [] env := by intro _; rfl) : DN G δ (.Call (.Name "sorted" p) [a] [] pos) (qs.map pairD) := by
  refine dn_cb (r := rSortedPF G.m.K) (fun X hX => hX.K ▸ cr_sortedPF) hg B.sorted PyProof.Rows.boot_sorted (da_cons ha da_nil hs) (fun S H vs Q ok r q => ?_) (by decide) (by decide) hs
  cases r with
  | cons r1 r2 =>
    cases r2
    cases r1 with
    | lst e1 z1 a1 =>
      obtain ⟨l, ex, ep, hl⟩ := pairs_of a1
      have hk : ∀ z ∈ l, ∃ t o, z.1 = V.ref t ∧ H t = some (.frz o (.tup [.int z.2.1, .int z.2.2])) ∧ kH H z.1 = z.2 := fun z hz => by
        obtain ⟨t, o, e2, e3⟩ := (hl z hz).pair
        refine ⟨t, o, e2, (hide_some e3).2, ?_⟩
        rw [e2]
        exact kH_at (hide_some e3).2
      refine ⟨_, _, kH H, rfl, SqL.of (hide_some e1).2, fun x hx => ?_, fun ys t h1 h2 h3 => ?_⟩
      · rw [ex] at hx
        obtain ⟨z, hz, e2⟩ := List.mem_map.mp hx
        subst e2
        obtain ⟨t, o, f1, f2, f3⟩ := hk z hz
        exact ⟨t, o, f1, by rw [f3]; exact f2⟩
      · obtain ⟨l', pl, el⟩ := perm_map_inv h2.perm l ex
        have hl' : ∀ z ∈ l', Rp G.m.K (hide S H) z.1 (pairD z.2) := fun z hz => hl z (pl.mem_iff.mp hz)
        have srt : (l'.map (·.2)).Pairwise lexLe := by
          rw [List.pairwise_map]
          rw [el] at h1
          have h1' : (l'.map (·.1)).Pairwise (fun x y => ltP (kH H) y x = false) := h1
          rw [List.pairwise_map] at h1'
          refine List.Pairwise.imp_of_mem (fun {u v} hu hv huv => ?_) h1'
          obtain ⟨_, _, _, _, k1⟩ := hk u (pl.mem_iff.mp hu)
          obtain ⟨_, _, _, _, k2⟩ := hk v (pl.mem_iff.mp hv)
          have huv' : SrtO.lexB (kH H v.1) (kH H u.1) = false := huv
          rw [k1, k2, SrtO.lexB_no] at huv'
          unfold lexLe
          omega
        have eq : l'.map (·.2) = qs := by
          refine List.Perm.eq_of_pairwise (le := lexLe) (fun _ _ _ _ h1 h2 => lexLe_antisymm h1 h2) srt hs' ?_
          exact ((pl.map (·.2)).trans (by rw [ep])).trans hp.symm
        have ra : ∀ m : List (V × (Int × Int)), (∀ z ∈ m, Rp G.m.K (hide S H) z.1 (pairD z.2)) → RpAll G.m.K (hide S H) (m.map (·.1)) ((m.map (·.2)).map pairD) := by
          intro m
          induction m with
          | nil => intro _; exact .nil
          | cons z m ih => intro h; exact .cons (h z List.mem_cons_self) (ih fun w hw => h w (List.mem_cons_of_mem _ hw))
        have := ra l' hl'
        rw [eq, ← el] at this
        have zz : ys.length ≤ sizeLine := by rw [h2.perm.length_eq]; exact z1
        exact q ys t h3 zz this
end
end DL

set_option Elab.async false
set_option linter.all false
set_option maxRecDepth 100000
namespace DL
open PySem PySem.Spec L2
set_option autoImplicit false
theorem DSs.convo {G : Ct} {δ δ1 : DEnv} {ω ω1 ω2 : Own} {sts : List Stmt} (h : DSs G δ ω sts (.next δ1 ω1)) (q : ω1 = ω2) : DSs G δ ω sts (.next δ1 ω2) := q ▸ h
/-! ### the ties that clash, in order -/
theorem foldl_app {α β : Type} (h : α → List β) : ∀ (xs : List α) (acc : List β), xs.foldl (fun acc x => acc ++ h x) acc = acc ++ xs.flatMap h
  | [], acc => by simp
  | x :: xs, acc => by rw [List.foldl_cons, foldl_app h xs, List.flatMap_cons, List.append_assoc]
theorem foldl_filt {α β : Type} (p : α → Bool) (g : α → β) : ∀ (xs : List α) (acc : List β), xs.foldl (fun acc x => if p x then acc ++ [g x] else acc) acc = acc ++ (xs.filter p).map g
  | [], acc => by simp
  | x :: xs, acc => by
    rw [List.foldl_cons, foldl_filt p g xs, List.filter_cons]
    split
    · rw [List.map_cons, List.append_assoc]; rfl
    · rfl
section
variable {ties : List (Int × Int)} {r : List Int} {k : Kd}
def rowC (ties : List (Int × Int)) (r : List Int) (k : Kd) (i : Nat) : List (Nat × Nat) := (((List.range (ties.length - (i + 1))).map (i + 1 + ·)).filter (clashAt ties r k i)).map fun j => (i, j)
def colC (ties : List (Int × Int)) (r : List Int) (k : Kd) (j : Nat) : List (Nat × Nat) := ((List.range j).filter fun i => clashAt ties r k i j).map fun i => (i, j)
def lclash (ties : List (Int × Int)) (r : List Int) (k : Kd) : List (Nat × Nat) := (List.range ties.length).flatMap (colC ties r k)
theorem clashesM_eq : clashesM ties r k = (List.range ties.length).flatMap (rowC ties r k) := by
  unfold clashesM
  have : inClash ties r k = fun acc i => acc ++ rowC ties r k i := by
    funext acc i
    exact foldl_filt (clashAt ties r k i) (fun j => (i, j)) _ acc
  rw [this, foldl_app, List.nil_append]
theorem mem_rowC {i : Nat} {p : Nat × Nat} : p ∈ rowC ties r k i ↔ p.1 = i ∧ i < p.2 ∧ p.2 < ties.length ∧ clashAt ties r k p.1 p.2 = true := by
  unfold rowC
  rw [List.mem_map]
  constructor
  · rintro ⟨j, hj, rfl⟩
    obtain ⟨h1, h2⟩ := List.mem_filter.mp hj
    obtain ⟨x, hx, rfl⟩ := List.mem_map.mp h1
    rw [List.mem_range] at hx
    exact ⟨rfl, by show i < i + 1 + x; omega, by show i + 1 + x < _; omega, h2⟩
  · rintro ⟨rfl, h1, h2, h3⟩
    refine ⟨p.2, List.mem_filter.mpr ⟨List.mem_map.mpr ⟨p.2 - (p.1 + 1), by rw [List.mem_range]; omega, by omega⟩, h3⟩, rfl⟩
theorem mem_clashesM {p : Nat × Nat} : p ∈ clashesM ties r k ↔ p.1 < p.2 ∧ p.2 < ties.length ∧ clashAt ties r k p.1 p.2 = true := by
  rw [clashesM_eq, List.mem_flatMap]
  constructor
  · rintro ⟨i, _, h⟩
    obtain ⟨rfl, h1, h2, h3⟩ := mem_rowC.mp h
    exact ⟨h1, h2, h3⟩
  · rintro ⟨h1, h2, h3⟩
    exact ⟨p.1, by rw [List.mem_range]; omega, mem_rowC.mpr ⟨rfl, h1, h2, h3⟩⟩
theorem mem_colC {j : Nat} {p : Nat × Nat} : p ∈ colC ties r k j ↔ p.2 = j ∧ p.1 < j ∧ clashAt ties r k p.1 p.2 = true := by
  unfold colC
  rw [List.mem_map]
  constructor
  · rintro ⟨i, hi, rfl⟩
    obtain ⟨h1, h2⟩ := List.mem_filter.mp hi
    exact ⟨rfl, List.mem_range.mp h1, h2⟩
  · rintro ⟨rfl, h1, h2⟩
    exact ⟨p.1, List.mem_filter.mpr ⟨List.mem_range.mpr h1, h2⟩, rfl⟩
theorem mem_lclash {p : Nat × Nat} : p ∈ lclash ties r k ↔ p.1 < p.2 ∧ p.2 < ties.length ∧ clashAt ties r k p.1 p.2 = true := by
  unfold lclash
  rw [List.mem_flatMap]
  constructor
  · rintro ⟨i, hi, h⟩
    obtain ⟨rfl, h1, h2⟩ := mem_colC.mp h
    exact ⟨h1, List.mem_range.mp hi, h2⟩
  · rintro ⟨h1, h2, h3⟩
    exact ⟨p.2, List.mem_range.mpr h2, mem_colC.mpr ⟨rfl, h1, h3⟩⟩
theorem clashesM_srt : (clashesM ties r k).Pairwise fun p q => p.1 < q.1 ∨ (p.1 = q.1 ∧ p.2 < q.2) := by
  rw [clashesM_eq, List.pairwise_flatMap]
  refine ⟨fun i _ => ?_, ?_⟩
  · unfold rowC
    rw [List.pairwise_map]
    refine List.Pairwise.filter _ ?_
    rw [List.pairwise_map]
    exact List.pairwise_lt_range.imp fun h => .inr ⟨rfl, by dsimp only; omega⟩
  · refine List.pairwise_lt_range.imp fun {a b} h x hx y hy => .inl ?_
    rw [(mem_rowC.mp hx).1, (mem_rowC.mp hy).1]
    exact h
theorem lclash_srt : (lclash ties r k).Pairwise fun p q => p.2 < q.2 ∨ (p.2 = q.2 ∧ p.1 < q.1) := by
  unfold lclash
  rw [List.pairwise_flatMap]
  refine ⟨fun i _ => ?_, ?_⟩
  · unfold colC
    rw [List.pairwise_map]
    exact List.Pairwise.filter _ (List.pairwise_lt_range.imp fun h => .inr ⟨rfl, h⟩)
  · refine List.pairwise_lt_range.imp fun {a b} h x hx y hy => .inl ?_
    rw [(mem_colC.mp hx).1, (mem_colC.mp hy).1]
    exact h
theorem clash_perm : (clashesM ties r k).Perm (lclash ties r k) := by
  refine (List.perm_ext_iff_of_nodup ?_ ?_).mpr fun p => mem_clashesM.trans mem_lclash.symm
  · exact clashesM_srt.imp fun h e => by subst e; omega
  · exact lclash_srt.imp fun h e => by subst e; omega
def npC (p : Nat × Nat) : Int × Int := ((p.1 : Nat), (p.2 : Nat))
theorem npD_eq (ps : List (Nat × Nat)) : ps.map npD = (ps.map npC).map pairD := by rw [List.map_map]; rfl
theorem clash_perm' : ((clashesM ties r k).map npC).Perm ((lclash ties r k).map npC) := clash_perm.map _
theorem clash_srt' : ((clashesM ties r k).map npC).Pairwise lexLe := by
  rw [List.pairwise_map]
  exact clashesM_srt.imp fun h => by unfold lexLe npC; dsimp only; omega
theorem colC_len (j : Nat) : (colC ties r k j).length ≤ j := by
  unfold colC
  rw [List.length_map]
  have := List.length_filter_le (fun i => clashAt ties r k i j) (List.range j)
  rw [List.length_range] at this
  exact this
end
def rLClashes (ds : List PyData) (d : PyData) : Prop := ∃ (m : Nat) (ties : List (Int × Int)) (r : List Int) (k : Kd), ds = [webD m ties, rowD r, .str k.t] ∧ (∀ t ∈ ties, t.1 ∈ r ∧ t.2 ∈ r ∧ t.1 ≠ t.2) ∧ ties.length ≤ 60 ∧ d = .list ((clashesM ties r k).map npD)
def rLaw (ds : List PyData) (d : PyData) : Prop := ∃ (n : Nat) (ns : List Int), ds = [scrD ns] ∧ ns.length ≤ 63 ∧ n ≤ 2000000 ∧ (∀ z ∈ ns, Sm n z) ∧ d = .bool true
theorem mem_cut {α : Type} {xs : List α} {lo hi : Option Int} {x : α} (h : x ∈ cutD xs lo hi) : x ∈ xs := List.mem_of_mem_drop (List.mem_of_mem_take h)
theorem nc_np (p : Nat × Nat) : Nc 1 (npD p) := nc_pair (npC p)
theorem nc_nps (ps : List (Nat × Nat)) : ∀ x ∈ ps.map npD, Nc 1 x := fun x hx => by
  obtain ⟨i, _, rfl⟩ := List.mem_map.mp hx
  exact nc_np i
/-- a web and a row of it -/
structure WR (many : Nat) (ties : List (Int × Int)) (row : List Int) : Prop where
  ok : WebOk many ties
  row : row.Perm (upto many)
theorem WR.mem {many : Nat} {ties : List (Int × Int)} {row : List Int} (h : WR many ties row) {t : Int × Int} (ht : t ∈ ties) : t.1 ∈ row ∧ t.2 ∈ row ∧ t.1 ≠ t.2 := by
  have o := h.ok.ok t ht
  have := o.nn
  have := o.lt
  have := o.le
  exact ⟨h.row.mem_iff.mpr (mem_upto.mpr ⟨by omega, by omega⟩), h.row.mem_iff.mpr (mem_upto.mpr ⟨by omega, by omega⟩), by omega⟩
theorem tie_at {ties : List (Int × Int)} {i : Nat} (h : i < ties.length) : ties[i]? = some (ties.getD i (0, 0)) := by rw [List.getD_eq_getElem?_getD, List.getElem?_eq_getElem h]; rfl
theorem WR.at' {many : Nat} {ties : List (Int × Int)} {row : List Int} (h : WR many ties row) {i : Nat} (hi : i < ties.length) : (ties.getD i (0, 0)).1 ∈ row ∧ (ties.getD i (0, 0)).2 ∈ row ∧ (ties.getD i (0, 0)).1 ≠ (ties.getD i (0, 0)).2 := h.mem (List.mem_of_getElem? (tie_at hi))
theorem wr_of (z y : Int) {most : Nat} (ties : Nat) (h : 0 < most) : WR (manyM z most) (tiesM z most ties) (rowM y (manyM z most)) := ⟨(tiesM_ok z ties h).1, rowM_perm y _⟩
theorem sm_ok {z : Int} {k : Nat} (h : Builtin.Int.intBits z ≤ k) : Sm (k + 1) z := by
  unfold Sm
  unfold Builtin.Int.intBits at h
  by_cases e : z.natAbs = 0
  · rw [e]; exact Nat.two_pow_pos _
  · refine (Nat.log2_lt e).mp ?_
    have e2 : z ≠ 0 := by omega
    simp [e2] at h
    omega
theorem kd_sh (k : Kd) : SeqAt.shaped (.str k.t) = true := by cases k <;> decide +kernel
end DL

set_option Elab.async false
set_option linter.all false
set_option maxRecDepth 100000
namespace DL
open PySem PySem.Spec L2
set_option autoImplicit false
/-! ### xs * k, xs a tuple -/
def rRepTF (K : PySem.W.Frag) : R2 := fun x y H Q => ∃ l k xs, x = .ref l ∧ y = .int k ∧ SqT K H l xs ∧ xs ≠ [] ∧ 2 ≤ k ∧ k ≤ 1000 ∧ xs.length ≤ 1000 ∧ NewT H (List.replicate k.toNat xs).flatten Q
theorem rep_len {α : Type} {xs : List α} {k : Int} (h1 : k ≤ 1000) (h2 : xs.length ≤ 1000) : (List.replicate k.toNat xs).flatten.length ≤ 1000000 := by
  rw [PyProof.Rows.lm_len_rep_flat]
  exact Nat.mul_le_mul (show k.toNat ≤ 1000 by omega) h2
theorem op_repTF {X : Cx} : OpR X (binaryOp .Mult) (rRepTF X.K) := fun pins s σ H x y v u Q I rx ry ⟨l, k, xs, ex, ey, hT, hne, h1, h2, hz, q⟩ => by
  subst ex ey
  cases rx
  obtain ⟨t, rfl⟩ := ry
  obtain ⟨its, r, ⟨⟨cls, dd, data, sl⟩, ho, hc, n, hd⟩, hs⟩ := I.tuple hT
  dsimp only at hc hd
  subst hc hd
  have len : its.length = xs.length := r.length.symm
  have pos : 0 < xs.length := List.length_pos_iff.mpr hne
  have emp : its.toArray.isEmpty = false := by
    cases its with
    | nil => rw [← len] at pos; exact absurd pos (by simp)
    | cons _ _ => rfl
  have sz : ((its.toArray.size : Nat) : Int) * k ≤ 1000000 := by
    have e : its.toArray.size = xs.length := by rw [List.size_toArray, len]
    have := Int.mul_le_mul (show ((its.toArray.size : Nat) : Int) ≤ 1000 by omega) h2 (by omega) (by omega)
    omega
  have fl : (List.replicate k.toNat its).flatten.length ≤ sizeLine := by
    have := rep_len (xs := its) (k := k) h2 (by omega)
    rw [sizeLine_eq]; omega
  have fx : (List.replicate k.toNat xs).flatten.length ≤ sizeLine := by
    have := rep_len (xs := xs) (k := k) h2 hz
    rw [sizeLine_eq]; omega
  have many : Builtin.Tuple.tupleTooMany (((its.toArray.size : Nat) : Int) * k) = false := decide_eq_false (by rw [sizeLine_eq]; omega)
  have mulW := tuple_mulW l its.toArray n dd sl k t (by rw [decide_eq_false (by omega), decide_eq_false (by omega)]; rfl) (by rw [emp, Bool.false_or]; exact beq_eq_false_iff_ne.mpr (by omega)) (by rw [emp, Bool.or_false]; exact decide_eq_false (by omega)) (by omega) many (by rw [size_rep, List.size_toArray]; exact fl)
  refine wpAny_binaryOp_repeat_ref (T := "tuple") (U := "int") (by decide) ⟨_, ho, rfl⟩ (fun s' => typeIs_int s' k t) noFill_tuple_mul F.fills_int_mul F.slot_int_rmul repeat_tuple F.slot_int_index.lookup ?_
  refine call_meets F.slot_int_rmul (typeIs_int s k t) F.entry_int_rmul (F.args_int_rmul_2 _ _) (int_rmul_tuple k t l its.toArray n dd sl) ⟨ho, rfl, ⟨_, ho, rfl⟩, ?_⟩
  refine call_meets F.slot_tuple_mul ⟨_, ho, rfl⟩ F.entry_tuple_mul (F.args_tuple_mul_2 _ _) mulW ⟨ho, ?_⟩
  rw [size_rep]
  exact newT (t' := s.toks) I (r.rep k.toNat) fx q
theorem RpAll.rep {K : PySem.W.Frag} {H : Hp} {vs : List V} {ds : List PyData} (r : RpAll K H vs ds) : ∀ n : Nat, RpAll K H (List.replicate n vs).flatten (List.replicate n ds).flatten
  | 0 => .nil
  | n + 1 => by
    rw [List.replicate_succ, List.replicate_succ, List.flatten_cons, List.flatten_cons]
    exact r.app (RpAll.rep r n)
section
variable {G : Ct} {δ : DEnv} {a b : Expr} {pos : Pos} {ds : List PyData}
theorem dv_rept {k : Int} (ha : DV G δ a (.tuple ds)) (hb : DV G δ b (.int k)) (hne : ds ≠ []) (h1 : 2 ≤ k) (h2 : k ≤ 1000) (hz : ds.length ≤ 1000) : DV G δ (.BinOp a .Mult b pos) (.tuple (List.replicate k.toNat ds).flatten) := by
  refine dv_op (r := rRepTF G.m.K) (fun X hX => hX.K ▸ op_repTF) ha hb fun S H v w Q ok r1 r2 q => ?_
  cases r2
  cases r1 with
  | tup e1 k1 z1 a1 =>
    have hl := a1.len
    refine ⟨_, k, _, rfl, rfl, SqT.frz (hide_some e1).2, fun e => hne ?_, h1, h2, by omega, ?_⟩
    · rw [e] at hl
      exact List.eq_nil_of_length_eq_zero hl.symm
    · refine Rp.newT ok ?_ (a1.rep _) (Same.refl H) q
      have := rep_len (xs := ‹List V›) (k := k) h2 (by omega)
      rw [sizeLine_eq]; omega
end
/-! ### the defs that tell a web, a row -/
def isNumD : PyData → Int → Int → Bool
  | .int i, lo, hi => decide (lo ≤ i) && decide (i ≤ hi)
  | _, _, _ => false
def isTieD : PyData → Int → Bool
  | .tuple [.int i, y], m => isNumD (.int i) 0 (m - 1) && isNumD y (i + 1) (m - 1)
  | _, _ => false
def toPair : PyData → Int × Int
  | .tuple [.int i, .int j] => (i, j)
  | _ => (0, 0)
def toInt : PyData → Int
  | .int i => i
  | _ => 0
def risB {α : Type} (lt : α → α → Bool) (d : α) (xs : List α) : Bool := ((List.range (xs.length - 1)).map (1 + ·)).all fun k => lt (xs.getD (k - 1) d) (xs.getD k d)
def ltI (i j : Int) : Bool := decide (i < j)
def ltP2 (p q : Int × Int) : Bool := HT.lexLt [p.1, p.2] [q.1, q.2]
def isWebD : PyData → Bool
  | .tuple [.int m, .tuple ts] => isNumD (.int m) 1 6 && decide (ts.length ≤ 12) && ts.all (isTieD · m) && risB ltP2 (0, 0) (ts.map toPair)
  | _ => false
def isRowD (m : Nat) : PyData → Bool
  | .tuple l => decide (l.length = m) && l.all (isNumD · 0 ((m : Int) - 1)) && decide ((dedup (l.map toInt)).length = m)
  | _ => false
def lay (d : PyData) : Prop := d.canLay0 = true
theorem lay.nd {d : PyData} (h : lay d) : isDict d = false := by cases d <;> first | rfl | (cases h)
def rNum (ds : List PyData) (d : PyData) : Prop := ∃ x lo hi, ds = [x, .int lo, .int hi] ∧ lay x ∧ d = .bool (isNumD x lo hi)
def rRising (ds : List PyData) (d : PyData) : Prop := (∃ ns : List Int, ds = [.tuple (ns.map .int)] ∧ ns.length ≤ 1000 ∧ d = .bool (risB ltI 0 ns)) ∨ (∃ ps : List (Int × Int), ds = [.tuple (ps.map pairD)] ∧ ps.length ≤ 1000 ∧ d = .bool (risB ltP2 (0, 0) ps))
def rTie (ds : List PyData) (d : PyData) : Prop := ∃ x m, ds = [x, .int m] ∧ lay x ∧ d = .bool (isTieD x m)
def rIsWeb (ds : List PyData) (d : PyData) : Prop := ∃ x, ds = [x] ∧ lay x ∧ d = .bool (isWebD x)
def rIsRow (ds : List PyData) (d : PyData) : Prop := ∃ (m : Nat) (ties : List (Int × Int)) (x : PyData), ds = [webD m ties, x] ∧ lay x ∧ m ≤ 60 ∧ d = .bool (isRowD m x)
theorem lay_all {l : List PyData} (h : PyData.canLayAll0 l = true) : ∀ x ∈ l, lay x := by
  induction l with
  | nil => intro x hx; cases hx
  | cons y l ih =>
    intro x hx
    have h' : y.canLay0 = true ∧ PyData.canLayAll0 l = true := by simpa [PyData.canLayAll0] using h
    rcases List.mem_cons.mp hx with e | e
    · rw [e]; exact h'.1
    · exact ih h'.2 x e
theorem lay.tup {l : List PyData} (h : lay (.tuple l)) : ∀ x ∈ l, lay x := lay_all h
theorem tie_len {m : Int} : ∀ {l : List PyData}, l.length ≠ 2 → isTieD (.tuple l) m = false
  | [], _ => rfl
  | [x], _ => by cases x <;> rfl
  | [x, y], h => absurd rfl h
  | x :: y :: z :: r, _ => by cases x <;> rfl
theorem web_len : ∀ {l : List PyData}, l.length ≠ 2 → isWebD (.tuple l) = false
  | [], _ => rfl
  | [x], _ => by cases x <;> rfl
  | [x, y], h => absurd rfl h
  | x :: y :: z :: r, _ => by cases x <;> first | rfl | (cases y <;> rfl)
theorem tie_pair {x : PyData} {m : Int} (h : isTieD x m = true) : x = pairD (toPair x) := by
  unfold isTieD at h
  split at h
  · rename_i i y
    cases y with
    | int j => rfl
    | _ => simp [isNumD] at h
  · cases h
theorem num_int {x : PyData} {lo hi : Int} (h : isNumD x lo hi = true) : x = .int (toInt x) := by
  cases x with
  | int i => rfl
  | _ => cases h
theorem map_self {f : PyData → PyData} : ∀ {l : List PyData}, (∀ x ∈ l, x = f x) → l = l.map f
  | [], _ => rfl
  | x :: l, h => by
    rw [List.map_cons, ← h x List.mem_cons_self, ← map_self fun y hy => h y (List.mem_cons_of_mem _ hy)]
end DL

set_option Elab.async false
set_option linter.all false
set_option maxRecDepth 100000
namespace DL
open PySem PySem.Spec L2
set_option autoImplicit false
/-! ### webs and rows are told so -/
theorem lexLt2 {a b c d : Int} : HT.lexLt [a, b] [c, d] = true ↔ a < c ∨ (a = c ∧ b < d) := by
  show (if a = c then (if b = d then false else decide (b < d)) else decide (a < c)) = true ↔ _
  split
  · split
    · simp; omega
    · simp; omega
  · simp; omega
theorem ris_of {ps : List (Int × Int)} (h1 : ps.Pairwise lexLe) (h2 : ps.Nodup) : risB ltP2 (0, 0) ps = true := by
  unfold risB
  refine List.all_eq_true.mpr fun k hk => ?_
  obtain ⟨j, hj, rfl⟩ := List.mem_map.mp hk
  rw [List.mem_range] at hj
  have a1 : 1 + j - 1 < ps.length := by omega
  have a2 : 1 + j < ps.length := by omega
  rw [List.getD_eq_getElem?_getD, List.getD_eq_getElem?_getD, List.getElem?_eq_getElem a1, List.getElem?_eq_getElem a2]
  have g1 := List.pairwise_iff_getElem.mp h1 _ _ a1 a2 (by omega)
  have g2 := List.pairwise_iff_getElem.mp h2 _ _ a1 a2 (by omega)
  dsimp only [Option.getD]
  unfold ltP2
  generalize ps[1 + j - 1] = p at *
  generalize ps[1 + j] = q at *
  rw [lexLt2]
  unfold lexLe at g1
  rcases g1 with g | ⟨g, g3⟩
  · exact .inl g
  · refine .inr ⟨g, ?_⟩
    have : p.2 ≠ q.2 := fun e => g2 (Prod.ext g e)
    omega
theorem web_true {m : Nat} {ties : List (Int × Int)} (W : WebOk m ties) (h1 : 1 ≤ m) (h6 : m ≤ 6) (h12 : ties.length ≤ 12) : isWebD (webD m ties) = true := by
  show (isNumD (.int m) 1 6 && decide ((ties.map pairD).length ≤ 12) && (ties.map pairD).all (isTieD · m) && risB ltP2 (0, 0) ((ties.map pairD).map toPair)) = true
  have e : (ties.map pairD).map toPair = ties := by
    rw [List.map_map]
    exact (List.map_congr_left (g := id) fun x _ => rfl).trans (List.map_id _)
  rw [e, ris_of W.srt W.nd, List.length_map, decide_eq_true h12, Bool.and_true]
  have a : (ties.map pairD).all (isTieD · m) = true := by
    refine List.all_eq_true.mpr fun x hx => ?_
    obtain ⟨t, ht, rfl⟩ := List.mem_map.mp hx
    have o := W.ok t ht
    have := o.nn; have := o.lt; have := o.le
    show ((decide ((0 : Int) ≤ t.1) && decide (t.1 ≤ (m : Int) - 1)) && (decide (t.1 + 1 ≤ t.2) && decide (t.2 ≤ (m : Int) - 1))) = true
    simp; omega
  rw [a]
  show ((decide ((1 : Int) ≤ m) && decide ((m : Int) ≤ 6)) && true && true) = true
  simp; omega
theorem upto_nodup (n : Nat) : (upto (n : Int)).Nodup := by
  unfold upto
  rw [Int.toNat_natCast]
  unfold List.Nodup
  rw [List.pairwise_map]
  exact List.pairwise_lt_range.imp fun h e => by omega
theorem row_true {m : Nat} {row : List Int} (h : row.Perm (upto m)) : isRowD m (rowD row) = true := by
  show (decide ((row.map PyData.int).length = m) && (row.map PyData.int).all (isNumD · 0 ((m : Int) - 1)) && decide ((dedup ((row.map PyData.int).map toInt)).length = m)) = true
  have hl : row.length = m := h.length_eq.trans (upto_len m)
  have e : (row.map PyData.int).map toInt = row := by
    rw [List.map_map]
    exact (List.map_congr_left (g := id) fun x _ => rfl).trans (List.map_id _)
  have nd : row.Nodup := h.nodup_iff.mpr (upto_nodup m)
  have d : (dedup row).length = row.length := nodup_len (nodup_dedup row) nd fun k => mem_dedup
  have a : (row.map PyData.int).all (isNumD · 0 ((m : Int) - 1)) = true := by
    refine List.all_eq_true.mpr fun x hx => ?_
    obtain ⟨t, ht, rfl⟩ := List.mem_map.mp hx
    have := mem_upto.mp (h.mem_iff.mp ht)
    show (decide ((0 : Int) ≤ t) && decide (t ≤ (m : Int) - 1)) = true
    simp; omega
  rw [e, a, d, List.length_map, hl]
  simp
/-! ### spoilt ones are not -/
theorem row_len {m : Nat} {l : List PyData} (h : l.length ≠ m) : isRowD m (.tuple l) = false := by
  show (decide (l.length = m) && _ && _) = false
  rw [decide_eq_false h]; rfl
theorem row_at {m : Nat} {l : List PyData} {x : PyData} (hx : x ∈ l) (h : isNumD x 0 ((m : Int) - 1) = false) : isRowD m (.tuple l) = false := by
  show (_ && l.all _ && _) = false
  have : l.all (isNumD · 0 ((m : Int) - 1)) = false := by
    refine Bool.eq_false_iff.mpr fun w => ?_
    have := List.all_eq_true.mp w x hx
    rw [h] at this; cases this
  rw [this, Bool.and_false]; rfl
theorem nodup_sub : ∀ {xs ys : List Int}, xs.Nodup → (∀ x ∈ xs, x ∈ ys) → xs.length ≤ ys.length
  | [], _, _, _ => by simp
  | x :: xs, ys, h, s => by
    obtain ⟨h1, h2⟩ := List.nodup_cons.mp h
    have hx := s x List.mem_cons_self
    have := nodup_sub (ys := ys.erase x) h2 fun y hy => (List.mem_erase_of_ne fun e => by subst e; exact h1 hy).mpr (s y (List.mem_cons_of_mem _ hy))
    rw [List.length_erase_of_mem hx] at this
    have := List.length_pos_of_mem hx
    rw [List.length_cons]
    omega
theorem row_dup {m : Nat} {ns : List Int} {ys : List Int} (hs : ∀ x ∈ ns, x ∈ ys) (hy : ys.length < m) : isRowD m (.tuple (ns.map .int)) = false := by
  show (_ && _ && decide ((dedup ((ns.map PyData.int).map toInt)).length = m)) = false
  have e : (ns.map PyData.int).map toInt = ns := by
    rw [List.map_map]
    exact (List.map_congr_left (g := id) fun x _ => rfl).trans (List.map_id _)
  have := nodup_sub (nodup_dedup ns) fun x hx => hs x (mem_dedup.mp hx)
  have q : decide ((dedup ns).length = m) = false := decide_eq_false (by omega)
  rw [e, q, Bool.and_false]
theorem cut_m1 {α : Type} (xs : List α) : cutD xs none (some (-1)) = xs.take (xs.length - 1) := by
  unfold cutD HT.sIx
  simp
  rw [show (-1 + (xs.length : Int)).toNat = xs.length - 1 by omega]
  omega
theorem cut_drop {α : Type} (xs : List α) : cutD xs (some 1) none = xs.drop 1 := by
  show (xs.drop (HT.sIx xs.length 0 (some ((1 : Nat) : Int)))).take (HT.sIx xs.length xs.length none - HT.sIx xs.length 0 (some ((1 : Nat) : Int))) = _
  rw [HT.sIx_none, HT.sIx_nat]
  cases xs with
  | nil => rfl
  | cons x xs => rw [Nat.min_eq_left (by simp)]; exact List.take_of_length_le (by simp)
theorem cut_take {α : Type} (xs : List α) : cutD xs none (some 1) = xs.take 1 := by
  show (xs.drop (HT.sIx xs.length 0 none)).take (HT.sIx xs.length xs.length (some ((1 : Nat) : Int)) - HT.sIx xs.length 0 none) = _
  rw [HT.sIx_none, HT.sIx_nat]
  cases xs with
  | nil => rfl
  | cons x xs => simp
/-- the webs spoilt -/
def bads0 (m : PyData) (T : List PyData) : List PyData := [.tuple [.int 0, .tuple []], .tuple [.int 7, .tuple T], .tuple [.bool true, .tuple []], .tuple [m, .list T], .list [m, .tuple T], .tuple [m], .tuple [m, .tuple T, .int 0], .none]
def bads1 : List PyData := [.int 7, .str "web"]
def badT (m : PyData) : List PyData := [.tuple [.int 0, m], .tuple [.int (-1), .int 0], .tuple [.int 0, .int 0], .tuple [.int 1, .int 0], .tuple [.int 0], .tuple [.int 0, .int 1, .int 2], .list [.int 0, .int 1], .tuple [.bool false, .int 1], .tuple [.int 0, .bool true], .int 0, .str "0-1"]
def bads2 : List PyData := [.tuple [.int 3, .tuple [.tuple [.int 1, .int 2], .tuple [.int 0, .int 1]]], .tuple [.int 2, .tuple [.tuple [.int 0, .int 1], .tuple [.int 0, .int 1]]]]
def stepBad (m : PyData) (T : List PyData) (acc : List PyData) (b : PyData) : List PyData := acc ++ [.tuple [m, .tuple ([b] ++ T)]]
def pairs5 (k : Nat) : List PyData := ((List.range (6 - (k + 1))).map (k + 1 + ·)).map fun n => npD (k, n)
def fifteen : List PyData := (List.range 5).foldl (fun acc k => acc ++ pairs5 k) []
def badsM (m : PyData) (T : List PyData) : List PyData := ((badT m).foldl (stepBad m T) (bads0 m T ++ bads1) ++ bads2) ++ [.tuple [.int 6, .tuple (fifteen.take 13)]]
theorem badsM_eq (m : PyData) (T : List PyData) : badsM m T = ((bads0 m T ++ bads1) ++ (badT m).map (fun b => .tuple [m, .tuple ([b] ++ T)]) ++ bads2) ++ [.tuple [.int 6, .tuple (fifteen.take 13)]] := by
  unfold badsM
  have : stepBad m T = fun acc x => acc ++ [PyData.tuple [m, .tuple ([x] ++ T)]] := rfl
  rw [this, foldl_app]
  rw [← List.flatMap_singleton' ((badT m).map _), List.flatMap_map]
theorem bads_len (m : PyData) (T : List PyData) : (badsM m T).length = 24 := by
  rw [badsM_eq]
  simp [bads0, bads1, badT, bads2]
theorem web_bad_tie {m : Int} {b : PyData} {T : List PyData} (h : isTieD b m = false) : isWebD (.tuple [.int m, .tuple ([b] ++ T)]) = false := by
  show (_ && _ && (isTieD b m && _) && _) = false
  rw [h, Bool.false_and, Bool.and_false]; rfl
theorem bads_no (m : Nat) (ties : List (Int × Int)) : ∀ x ∈ badsM (natD m) (ties.map pairD), isWebD x = false ∧ lay x := by
  have hT : PyData.canLayAll0 (ties.map pairD) = true := (nc_all (nc_pairs ties)).1
  intro x hx
  rw [badsM_eq] at hx
  simp only [List.mem_append] at hx
  rcases hx with ((((hx | hx) | hx) | hx) | hx)
  · simp only [bads0, List.mem_cons, List.not_mem_nil, or_false] at hx
    rcases hx with rfl | rfl | rfl | rfl | rfl | rfl | rfl | rfl <;> refine ⟨rfl, ?_⟩ <;> simp [lay, PyData.canLay0, PyData.canLayAll0, hT, natD]
  · simp only [bads1, List.mem_cons, List.not_mem_nil, or_false] at hx
    rcases hx with rfl | rfl
    · exact ⟨rfl, rfl⟩
    · exact ⟨rfl, by unfold lay; decide +kernel⟩
  · obtain ⟨b, hb, rfl⟩ := List.mem_map.mp hx
    have q : isTieD b (m : Int) = false ∧ b.canLay0 = true := by
      simp only [badT, List.mem_cons, List.not_mem_nil, or_false] at hb
      rcases hb with rfl | rfl | rfl | rfl | rfl | rfl | rfl | rfl | rfl | rfl | rfl
      · refine ⟨?_, rfl⟩
        show ((decide ((0 : Int) ≤ 0) && decide ((0 : Int) ≤ (m : Int) - 1)) && (decide ((0 : Int) + 1 ≤ (m : Int)) && decide ((m : Int) ≤ (m : Int) - 1))) = false
        simp; omega
      · exact ⟨by simp [isTieD, isNumD], rfl⟩
      · exact ⟨by simp [isTieD, isNumD], rfl⟩
      · exact ⟨by simp [isTieD, isNumD], rfl⟩
      · exact ⟨rfl, rfl⟩
      · exact ⟨rfl, rfl⟩
      · exact ⟨rfl, rfl⟩
      · exact ⟨rfl, rfl⟩
      · exact ⟨Bool.and_false _, rfl⟩
      · exact ⟨rfl, rfl⟩
      · exact ⟨rfl, by decide +kernel⟩
    exact ⟨web_bad_tie q.1, by simp [lay, PyData.canLay0, PyData.canLayAll0, hT, natD, q.2]⟩
  · simp only [bads2, List.mem_cons, List.not_mem_nil, or_false] at hx
    rcases hx with rfl | rfl <;> exact ⟨by decide +kernel, by unfold lay; decide +kernel⟩
  · rw [List.mem_singleton] at hx
    subst hx
    exact ⟨by decide +kernel, by unfold lay; decide +kernel⟩
/-- the rows spoilt -/
def badR1 (R : List Int) (M : Nat) : List PyData := [.tuple ((R.map .int).take (R.length - 1)), .tuple (R.map .int ++ [.int 0]), .list (R.map .int), .tuple ((R.map .int).take (R.length - 1) ++ [natD M]), .tuple ((R.map .int).take (R.length - 1) ++ [.none]), .none, .int 0]
def badR2 (R : List Int) : List PyData := [.tuple ([.int (-1)] ++ (R.map .int).drop 1)]
def badR3 (R : List Int) (M : Nat) : List PyData := [.tuple ((R.map .int).take (R.length - 1) ++ (R.map .int).take 1), .tuple (R.map fun x => .bool (x != 0)), .tuple (List.replicate (M : Int).toNat [PyData.str "0"]).flatten]
theorem lay_tup {l : List PyData} (h : ∀ x ∈ l, lay x) : lay (.tuple l) := by
  show PyData.canLayAll0 l = true
  induction l with
  | nil => rfl
  | cons x l ih => simp only [PyData.canLayAll0, Bool.and_eq_true]; exact ⟨h x List.mem_cons_self, ih fun y hy => h y (List.mem_cons_of_mem _ hy)⟩
theorem lay_ints {R : List Int} : ∀ x ∈ R.map PyData.int, lay x := fun x hx => (nc_ints R x hx).lay
theorem lay_take {l : List PyData} {k : Nat} (h : ∀ x ∈ l, lay x) : ∀ x ∈ l.take k, lay x := fun x hx => h x (List.mem_of_mem_take hx)
theorem lay_drop {l : List PyData} {k : Nat} (h : ∀ x ∈ l, lay x) : ∀ x ∈ l.drop k, lay x := fun x hx => h x (List.mem_of_mem_drop hx)
theorem lay_app {l m : List PyData} (h : ∀ x ∈ l, lay x) (h2 : ∀ x ∈ m, lay x) : ∀ x ∈ l ++ m, lay x := fun x hx => (List.mem_append.mp hx).elim (h x) (h2 x)
theorem lay_one {x : PyData} (h : lay x) : ∀ y ∈ [x], lay y := fun y hy => by rw [List.mem_singleton] at hy; rw [hy]; exact h
theorem rows1_no {R : List Int} {M : Nat} (hl : R.length = M) (h1 : 1 ≤ M) : ∀ x ∈ badR1 R M ++ badR2 R, isRowD M x = false ∧ lay x := by
  intro x hx
  simp only [badR1, badR2, List.mem_append, List.mem_cons, List.not_mem_nil, or_false] at hx
  rcases hx with (rfl | rfl | rfl | rfl | rfl | rfl | rfl) | rfl
  · exact ⟨row_len (by simp; omega), lay_tup (lay_take lay_ints)⟩
  · exact ⟨row_len (by simp; omega), lay_tup (lay_app lay_ints (lay_one rfl))⟩
  · exact ⟨rfl, (nc_lst (nc_ints R)).lay⟩
  · refine ⟨row_at (x := natD M) (by simp) ?_, lay_tup (lay_app (lay_take lay_ints) (lay_one rfl))⟩
    show (decide ((0 : Int) ≤ (M : Int)) && decide ((M : Int) ≤ (M : Int) - 1)) = false
    rw [decide_eq_false (show ¬ (M : Int) ≤ (M : Int) - 1 by omega), Bool.and_false]
  · exact ⟨row_at (x := .none) (by simp) rfl, lay_tup (lay_app (lay_take lay_ints) (lay_one rfl))⟩
  · exact ⟨rfl, rfl⟩
  · exact ⟨rfl, rfl⟩
  · exact ⟨row_at (x := .int (-1)) (by simp) rfl, lay_tup (lay_app (lay_one rfl) (lay_drop lay_ints))⟩
theorem rows3_no {R : List Int} {M : Nat} (hl : R.length = M) (h1 : 1 < M) : ∀ x ∈ badR3 R M, isRowD M x = false ∧ lay x := by
  intro x hx
  simp only [badR3, List.mem_cons, List.not_mem_nil, or_false] at hx
  rcases hx with rfl | rfl | rfl
  · refine ⟨?_, lay_tup (lay_app (lay_take lay_ints) (lay_take lay_ints))⟩
    rw [← List.map_take, ← List.map_take, ← List.map_append]
    refine row_dup (ys := R.take (R.length - 1)) (fun y hy => ?_) (by simp; omega)
    rcases List.mem_append.mp hy with h | h
    · exact h
    · cases R with
      | nil => simp at h
      | cons a R =>
        cases R with
        | nil => simp at hl; omega
        | cons b R => simp at h ⊢; exact .inl h
  · cases R with
    | nil => simp at hl; omega
    | cons a R => 
      refine ⟨row_at (x := .bool (a != 0)) (by simp) rfl, lay_tup fun x hx => ?_⟩
      obtain ⟨y, _, rfl⟩ := List.mem_map.mp hx
      rfl
  · have hm : ∀ x ∈ (List.replicate (M : Int).toNat [PyData.str "0"]).flatten, x = .str "0" := by
      intro x hx
      obtain ⟨l, hl, hx⟩ := List.mem_flatten.mp hx
      rw [(List.mem_replicate.mp hl).2, List.mem_singleton] at hx
      exact hx
    have h0 : PyData.str "0" ∈ (List.replicate (M : Int).toNat [PyData.str "0"]).flatten := List.mem_flatten.mpr ⟨_, List.mem_replicate.mpr ⟨by omega, rfl⟩, by simp⟩
    refine ⟨row_at h0 rfl, lay_tup fun x hx => ?_⟩
    rw [hm x hx]
    unfold lay; decide +kernel
def rBad (ds : List PyData) (d : PyData) : Prop := ∃ (m : Nat) (ties : List (Int × Int)) (z : Int), ds = [webD m ties, .int z] ∧ ties.length ≤ 100 ∧ d = (badsM (natD m) (ties.map pairD)).getD (z % 24).toNat .none
end DL

set_option Elab.async false
set_option linter.all false
set_option maxRecDepth 100000
set_option maxHeartbeats 1000000
namespace DL
open PySem PySem.Spec L2
set_option autoImplicit false
/-! ### sorted(set(xs)), xs a tuple of whole numbers -/
def tSortSetF (K : PySem.W.Frag) (ta : TE) : TE := fun σ H Q => ta σ H fun x H1 => ∃ (l : Addr) (ns : List Int), x = V.ref l ∧ SqT K H1 l (ns.map V.int) ∧ ns.length < 64 ∧
  ∀ (ms : List Int) (p : Addr), ms.Pairwise (· < ·) → (∀ k : Int, k ∈ ms ↔ k ∈ ns) → H1 p = none → ms.length ≤ sizeLine → Q (.ref p) (upd H1 p (.lst (ms.map V.int)))
section
variable {G : Ct} {δ δ2 : DEnv} {ω : Own} {a e : Expr} {body : List Stmt} {pos p p2 q : Pos} {y : PyData} {ts : TSpec} {ds : List PyData}
theorem pe_sortSetF {X : Cx} {ta : TE} (hc : X.calm = true) (hg : Gl X "sorted") (hm : X.mg "sorted" = none) (hg2 : Gl X "set") (hm2 : X.mg "set" = none) (ha : PE X a ta)
    (na : starEach [a] X.env = (false, eval a X.env) :: starEach [] X.env) (nb : starEach [.Call (.Name "set" p2) [a] [] q] X.env = (false, eval (.Call (.Name "set" p2) [a] [] q) X.env) :: starEach [] X.env) : PE X (.Call (.Name "sorted" p) [.Call (.Name "set" p2) [a] [] q] [] pos) (tSortSetF X.K ta) := by
  refine ⟨fun pins s σ H Q I h => ?_⟩
  refine PyProof.Rows.Call_ (ld_blt I hg hm PyProof.Rows.boot_sorted ?_)
  refine PyProof.Rows.callWith_builtin1 (PyProof.Rows.args_cons ?_ nb) nb rfl
  refine PyProof.Rows.Call_ (ld_blt I hg2 hm2 PyProof.Rows.boot_set ?_)
  refine PyProof.Rows.callWith_type1 (PyProof.Rows.args_cons (thn (ha.run pins s σ H _ I h) fun v s1 ⟨x, H1, I1, r1, q1⟩ => PyProof.Rows.args_nil ?_) na) na rfl
  obtain ⟨l, ns, e, hq, hz, q1⟩ := q1
  subst e
  obtain rfl : v = .ref l := r1
  obtain ⟨its, r, pt, _⟩ := I1.tuple hq
  refine call_set_tupI ns (I1.ok.hd hc) (show s1.heap.IsTuple l its.toArray from pt) (by simpa using r.ints) (by unfold scanBound; omega) fun h' tk c R1 hcn k => ?_
  refine PyProof.Rows.args_nil ?_
  have I2 : Inv X pins σ H1 { s1 with heap := h', toks := tk } := I1.kept k
  refine sorted_set R1 (I1.ok.hd hc) (by omega) fun s' p out c ms kk g o hp hg hi hs hm hl => ?_
  have hlen : (ms.map V.int).length ≤ sizeLine := by rw [List.length_map, hl, sizeLine_eq]; omega
  have hn : H1 p = none := I2.hok.fresh hp
  have J : Inv X pins σ (upd H1 p (.lst (ms.map V.int))) { ({ s1 with heap := h', toks := tk } : Shared) with heap := s'.heap, gens := s'.gens, drawn := s'.drawn, toks := s'.toks } :=
    Inv.call (s := { s1 with heap := h', toks := tk }) I2 (ch := []) (Un.laid kk hp hn) (I2.hok.laid kk hp ⟨hlen, out.toList, c, vals_of_ints hi, hg⟩) (by rw [g]; exact I2.bare) (fun _ z => nomatch z)
  have e2 : s' = { s1 with heap := s'.heap, gens := s'.gens, drawn := s'.drawn, toks := s'.toks } := by
    cases s'
    cases s1
    cases o
    rfl
  rw [e2]
  exact ⟨.ref p, _, J, rfl, q1 ms p hs (fun j => (hm j).trans (by simp)) hn (by rw [List.length_map] at hlen; exact hlen)⟩
theorem dn_sortset {ns ms : List Int} (B : Blt G.m) (hg : globB G.sc "sorted" = true) (hg2 : globB G.sc "set" = true) (ha : DV G δ a (.tuple (ns.map .int))) (hz : ns.length < 64) (hu : ∀ l : List Int, l.Pairwise (· < ·) → (∀ k, k ∈ l ↔ k ∈ ns) → l = ms)
    (na : ∀ env : Env, starEach [a] env = (false, eval a env) :: starEach [] env := by intro _; rfl) (nb : ∀ env : Env, starEach [.Call (.Name "set" p2) [a] [] q] env = (false, eval (.Call (.Name "set" p2) [a] [] q) env) :: starEach [] env := by intro _; rfl) :
    DN G δ (.Call (.Name "sorted" p) [.Call (.Name "set" p2) [a] [] q] [] pos) (ms.map .int) := fun X hX => by
  refine PE.imp (pe_sortSetF hX.calm (gl_of hX hg) (by rw [hX.mg]; exact B.sorted) (gl_of hX hg2) (by rw [hX.mg]; exact B.set) (ha X hX) (na _) (nb _)) fun σ H Q ⟨S, δ', d', ⟨e1, e2⟩, ok, R, q⟩ => ?_
  subst e1 e2
  refine ⟨S, _, _, ⟨rfl, rfl⟩, ok, R, fun v H1 s1 r1 => ?_⟩
  cases r1 with
  | tup e1 k1 z1 a1 =>
    obtain rfl := a1.ints
    refine ⟨_, ns, rfl, by rw [hX.K]; exact SqT.frz (hide_some e1).2, hz, fun l p h1 h2 h3 h4 => ?_⟩
    have := hu l h1 h2
    subst this
    exact q _ p H1 s1 h3 (by rw [List.length_map]; exact h4) (RpAll.ofInts _)
theorem inc_unique : ∀ {l m : List Int}, l.Pairwise (· < ·) → m.Pairwise (· < ·) → (∀ k, k ∈ l ↔ k ∈ m) → l = m := fun {l m} h1 h2 h => by
  have p : l.Perm m := (List.perm_ext_iff_of_nodup (h1.imp fun h e => by omega) (h2.imp fun h e => by omega)).mpr h
  exact List.Perm.eq_of_pairwise (le := (· < ·)) (fun a b _ _ h1 h2 => by omega) h1 h2 p
/-! ### loops whose names change -/
theorem dfor_foldD {α β : Type} (enc : α → PyData) (sd : β → DEnv) (st : β → Own) (f : β → α → β) (I : Nat → β → Prop) : ∀ (xs : List α) (b : β), I xs.length b → (∀ x ∈ xs, ∀ n b, I (n + 1) b → I n (f b x) ∧ ∃ δb, bindT ts (enc x) (sd b) = some δb ∧ ofree ts (st b) ∧ ∃ δ1, DSs G δb (st b) body (.next δ1 (st (f b x))) ∧ Le (sd (f b x)) δ1) →
    DFor G ts body (xs.map enc) (sd b) (st b) (.next (sd (xs.foldl f b)) (st (xs.foldl f b)))
  | [], _, _, _ => rfl
  | x :: xs, b, hb, h => by
    obtain ⟨hi, δb, h1, h2, δ1, h3, w⟩ := h x List.mem_cons_self _ b hb
    exact ⟨δb, h1, h2, .inl ⟨_, _, h3.weak w, dfor_foldD enc sd st f I xs _ hi fun y hy => h y (List.mem_cons_of_mem _ hy)⟩⟩
theorem cut_dropn {α : Type} (xs : List α) (k : Nat) : cutD xs (some (k : Int)) none = xs.drop k := by
  unfold cutD
  rw [HT.sIx_none, HT.sIx_nat]
  by_cases h : k ≤ xs.length
  · rw [Nat.min_eq_left h]; exact List.take_of_length_le (by simp)
  · rw [List.drop_eq_nil_of_le (by omega), List.drop_eq_nil_of_le (by omega)]; simp
theorem numbered_nat {α : Type} (enc : α → PyData) (d : α) (l : List α) : numbered (l.map enc) = (List.range l.length).map fun k => .tuple [natD k, enc (l.getD k d)] := by
  refine List.ext_getElem? fun i => ?_
  cases h : (numbered (l.map enc))[i]? with
  | none =>
    have h1 := List.getElem?_eq_none_iff.mp h
    rw [numbered_len, List.length_map] at h1
    rw [List.getElem?_eq_none (by simpa using h1)]
  | some x =>
    obtain ⟨d', h1, rfl⟩ := numbered_get h
    rw [List.getElem?_map] at h1
    cases h2 : l[i]? with
    | none => rw [h2] at h1; cases h1
    | some y =>
      rw [h2] at h1
      cases h1
      have hi : i < l.length := by
        by_cases hi : i < l.length
        · exact hi
        · rw [List.getElem?_eq_none (by omega)] at h2; cases h2
      rw [List.getElem?_map, List.getElem?_range hi, Option.map_some, List.getD_eq_getElem?_getD, h2]
      rfl
end
/-! ### walks over a list's ends -/
def loopS {α β : Type} (g : β → α → List α → β) : List α → β → β
  | [], b => b
  | t :: rest, b => loopS g rest (g b t rest)
theorem loopS_fold {α β : Type} (g : β → α → List α → β) (d : α) : ∀ (l : List α) (b : β), (List.range l.length).foldl (fun b k => g b (l.getD k d) (l.drop (k + 1))) b = loopS g l b
  | [], b => rfl
  | t :: rest, b => by
    rw [List.length_cons, List.range_succ_eq_map, List.foldl_cons, List.foldl_map]
    exact loopS_fold g d rest (g b t rest)
end DL

set_option Elab.async false
set_option linter.all false
set_option maxRecDepth 100000
set_option maxHeartbeats 4000000
namespace DL
open PySem PySem.Spec L2 PySem.HandSPX PyProof.Rows
set_option autoImplicit false
/-! ### an exception in the air, the frame that holds it at L -/
def AirL (X : Cx) (L : Addr) (W : XK) (u : Value) (s' : Shared) : Prop :=
  ∃ (a : Addr) (B : Heap) (sI : Shared) (pins : List (Addr × Obj)) (σ : L2.St) (H : Hp) (cls : Value) (d : Option Addr),
    u = .ref a ∧ Inv X pins σ H sI ∧ (∀ b o, sI.heap.get? b = some o → b ∉ frs X.stack → B.get? b = some o) ∧ sI.heap.UpToSlots s'.heap ∧
      Sky B X.stack a (Zc cls d) L s'.heap ∧ H a = none ∧ s'.os = sI.os ∧ AllBare s'.gens ∧ W cls d H
structure Tk (X : Cx) (L : Addr) (W : XK) : Prop where
  stk : ∃ e0 l, X.stack = e0 :: l ∧ e0.frame = some L
  fr : X.env.frame = some L
  tk : ∀ u s', AirL X L W u s' → X.xe u s'
theorem Tk.of {X : Cx} {W : XK} (hs : X.stack = X.env :: X.outer) (hf : X.env.frame = some X.env.locals) (t : Takes X fun c d _ H => W c d H) : Tk X X.env.locals W :=
  ⟨⟨_, _, hs, hf⟩, hf, fun u s' ⟨a, B, sI, pins, σ, H, cls, d, r⟩ => t u s' ⟨a, B, sI, pins, σ, H, cls, d, r⟩⟩
theorem Tk.takes {X : Cx} {W : XK} (t : Tk X X.env.locals W) : Takes X fun c d _ H => W c d H := fun u s' ⟨a, B, sI, pins, σ, H, cls, d, r⟩ => t.tk u s' ⟨a, B, sI, pins, σ, H, cls, d, r⟩
theorem air_call {X : Cx} {L : Addr} {W E : XK} {pins : List (Addr × Obj)} {σ : L2.St} {H : Hp} {s s' : Shared} (I : Inv X pins σ H s) (hW : ∀ cls d H', E cls d H' → W cls d H') {u : Value} (c : L2.CX X.prog X.w X.stack H s E u s') : AirL X L W u s' := by
  obtain ⟨a, B, sI, pins', σ', H', cls, d, e, J, nb, up, sky, na, os, ag, w⟩ := XE.of_call (W := fun c d _ H => W c d H) I hW c
  obtain ⟨a2, B2, H2, cls2, d2, e2, fl, _⟩ := c
  subst e
  cases e2
  obtain ⟨_, _, _, oe, vs, T, oT, ts, he, hz, hd, h1, _, _, hT, hdT, h3⟩ := fl
  refine ⟨a, B, sI, pins', σ', H', cls, d, rfl, J, nb, up, ?_, na, os, ag, w⟩
  rcases sky with ⟨_, _, _, oe', vs', he', _, hd', h1'⟩ | k | k
  · rw [he] at he'
    cases he'
    rw [hd] at hd'
    cases hd'
    rw [h1] at h1'
    cases h1'
  · exact .inr (.inl k)
  · obtain ⟨_, _, _, oe', vs', T', oT', ts', he', _, hd', h1', _, _, hT', hdT', h3'⟩ := k
    rw [he] at he'
    cases he'
    rw [hd] at hd'
    cases hd'
    rw [h1] at h1'
    cases h1'
    rw [hT] at hT'
    cases hT'
    rw [hdT] at hdT'
    cases hdT'
    rw [h3] at h3'
    exact absurd h3' (by simp [rawInt])
/-- the block of a comprehension hands on what flies through it -/
theorem tk_blk {X : Cx} {L : Addr} {W : XK} (tkX : Tk X L W) {pins : List (Addr × Obj)} {σ : L2.St} {H3 : Hp} {s3 : Shared} (I3 : Inv X pins σ H3 s3) {fp : List Addr} (f3 : ∀ b ∈ fp, FpOk X pins H3 b ∧ b < s3.heap.objs.size)
    {scope : Scope} {cl : List (PySem.Str × Addr)} {use : Option (Value → Sem Unit)} {Qf : Value → Shared → Prop} {acc : Value} {ce : Env} (hce : compEnvC scope cl s3.heap.objs.size X.env = ce) :
    Tk ((X.blk s3 H3 scope ce fp).wish (notedBy (model X.prog X.w) X.A ce fun e s' => compEnds (model X.prog X.w) X.A X.xe use Qf acc ce (.error e) s')) L W := by
  have cf : ce.frame = some L := by rw [← hce]; exact tkX.fr
  have cL : ce.locals = s3.heap.objs.size := by rw [← hce]; rfl
  refine ⟨tkX.stk, cf, fun u s' ⟨a, B, sI, pins', σ', H', cls, d, e, J', nb, up, sky, na, os, ag, w⟩ => ?_⟩
  subst e
  have J : Inv (X.blk s3 H3 scope ce fp) pins' σ' H' sI := J'.unwish
  obtain ⟨e0, l, hstk, he0⟩ := tkX.stk
  have hfr : X.A.frames = some (e0 :: l) := by rw [I3.ok.frames, hstk]
  obtain ⟨m, hnC, _⟩ := J.loc
  have hnC : sI.heap.Ns ce.locals m := hnC
  have sky : Sky B X.stack a (Zc cls d) L s'.heap := sky
  rw [hstk] at sky
  show wpAny (model X.prog X.w) X.A (noteFrame (.ref a) ce) (fun _ s'' => compEnds (model X.prog X.w) X.A X.xe use Qf acc ce (.error (.ref a)) s'') (fun e s'' => compEnds (model X.prog X.w) X.A X.xe use Qf acc ce (.error e) s'') s'
  rw [noteFrame_env (.ref a) (cf.trans he0.symm)]
  have note : ∀ {Q : Unit → Shared → Prop} {E : Value → Shared → Prop}, (∀ h', HeldZ B (e0 :: l) a (Zc cls d) L h' → s'.heap.UpToSlots h' → Q () { s' with heap := h' }) → wpAny (model X.prog X.w) X.A (noteFrame (.ref a) e0) Q E s' := fun {Q E} hQ => by
    rcases sky with ⟨k1, k2, k3, oe, vs, he, hz, hd, h1⟩ | k | k
    · exact look_newZ Zc.steady hfr k3 he0 he k1 k2 hd h1 hz hQ
    · exact looks_onZ Zc.steady hfr he0 k hQ
    · exact againZ he0 k.2.2.2 (hQ s'.heap k (Heap.UpToSlots.refl _))
  refine note fun h1 held up1 => ?_
  have fails : CompFails (model X.prog X.w) X.A X.xe ce (.ref a) { s' with heap := h1 } := by
    have hn1 : h1.Ns ce.locals m := (up.trans up1).ns hnC
    refine ⟨m, hn1, fun h2 m2 hn2 hs2 => ?_⟩
    have hs2 : Heap.SameBut ce.locals h1 h2 := hs2
    have hn2 : h2.Ns ce.locals m2 := hn2
    obtain ⟨B2, b1, b2⟩ := restrict B fun b => decide (b ≠ ce.locals)
    have le2 : ∀ b o, B2.get? b = some o → b ≠ ce.locals ∧ B.get? b = some o := fun b o e => by
      by_cases q : b = ce.locals
      · rw [b2 b (by simp [q])] at e
        cases e
      · exact ⟨q, by rw [← b1 b (by simp [q])]; exact e⟩
    have no2 : ∀ b, B.get? b = none → B2.get? b = none := fun b e => by
      cases q : B2.get? b with
      | none => rfl
      | some o =>
        have := (le2 b o q).2
        rw [e] at this
        cases this
    obtain ⟨oC, es, ep, hoC, hdC, _⟩ := id hn1
    obtain ⟨oe, vs, T, oT, ts, he, hz, hd, h1', hnT, hTe, hT, hdT, h3⟩ := id held.2.2.2
    have ac : a ≠ ce.locals := fun q => by
      rw [q, hoC] at he
      cases he
      rw [hdC] at hd
      cases hd
    have tc : T ≠ ce.locals := fun q => by
      rw [q, hoC] at hT
      cases hT
      rw [hdC] at hdT
      cases hdT
    have held2 : HeldZ B2 (e0 :: l) a (Zc cls d) L h2 :=
      ⟨fun b o e => (hs2.2 b (le2 b o e).1).trans (held.1 b o (le2 b o e).2), no2 a held.2.1, Heap.FunFrames.sameBut hs2 hn2 (funFrames_none held.2.2.1 fun L' hL' => no2 L' (held.2.2.1.mem hL').1),
        oe, vs, T, oT, ts, (hs2.2 a ac).trans he, hz, hd, h1', no2 T hnT, hTe, (hs2.2 T tc).trans hT, hdT, h3⟩
    unfold PySem.passOn
    refine wpAny_bind (wpAny_field (s := { s' with heap := h2 }) ((hs2.2 a ac).trans he) hd h1' ?_)
    rw [if_neg (show ¬ ((Value.ref T == Value.none) = true) from by simp)]
    rw [cf]
    refine wpAny_bind (setFlight_onZ (s := { s' with heap := h2 }) held2 fun h3 held3 up3 => ?_)
    refine wpAny_throw ?_
    obtain ⟨G, g1, g2⟩ := restrict sI.heap fun b => decide (b ≠ ce.locals)
    have leG : ∀ b o, G.get? b = some o → b ≠ ce.locals ∧ sI.heap.get? b = some o := fun b o e => by
      by_cases q : b = ce.locals
      · rw [g2 b (by simp [q])] at e
        cases e
      · exact ⟨q, by rw [← g1 b (by simp [q])]; exact e⟩
    have geG : ∀ b, b ≠ ce.locals → G.get? b = sI.heap.get? b := fun b q => g1 b (by simp [q])
    have old : ∀ b o, s3.heap.get? b = some o → b ≠ ce.locals := fun b o e => by
      rw [cL]
      exact Nat.ne_of_lt (Heap.lt_size e)
    have un : Un (frs X.stack) fp H3 H' s3.heap sI.heap := J.base
    have nCl : H' ce.locals = none := J.free
    have IX : Inv X pins σ H' { sI with heap := G } := by
      refine I3.call' (ch := fp) (s' := { sI with heap := G }) J.os ⟨fun b o q n hb hx => (geG b (old b o q)).trans (un.keep b o q n hb hx), fun b o q n hb hx => ?_, un.free, fun b o q hx => ?_, un.tups, un.frzs, un.tbls⟩ (fun b o q => ?_) J.bare fun b hb => ⟨(f3 b hb).1.2.2.2.1, (f3 b hb).1.2.1, (f3 b hb).1.2.2.2.2.1, (f3 b hb).1.2.2.2.2.2⟩
      · obtain ⟨sl, z⟩ := un.slot b o q n hb hx
        exact ⟨sl, (geG b (old b o q)).trans z⟩
      · obtain ⟨o', z⟩ := un.there b o q hx
        exact ⟨o', (geG b (old b o q)).trans z⟩
      · refine (J.hok b o q).stay (fun c u hc r => (geG c fun z => ?_).trans r) (fun _ r => r) fun _ _ r => r
        rcases hc with hc | hc
        · rw [← hc, z, nCl] at q
          cases q
        · rw [z, nCl] at hc
          cases hc
    refine tkX.tk _ _ ⟨a, B2, { sI with heap := G }, pins, σ, H', cls, d, rfl, IX, fun b o e hb => ?_, fun b o e hnf => ?_, .inr (.inr (by rw [hstk]; exact held3)), na, os, ag, w⟩
    · obtain ⟨z1, z2⟩ := leG b o e
      rw [b1 b (by simp [z1])]
      exact nb b o z2 hb
    · obtain ⟨z1, z2⟩ := leG b o e
      obtain ⟨sl, q1⟩ := (up.trans up1) b o z2 hnf
      obtain ⟨sl2, q2⟩ := up3 b _ ((hs2.2 b z1).trans q1) hnf
      exact ⟨sl2, q2⟩
  cases use <;> exact fails
end DL

set_option Elab.async false
set_option linter.all false
set_option maxRecDepth 100000
set_option maxHeartbeats 4000000
namespace DL
open PySem PySem.Spec L2 PySem.HandSPX PyProof.Rows
set_option autoImplicit false
/-! ### a list comprehension whose element may raise -/
section
variable {X : Cx} {L : Addr} {W : XK} {pins : List (Addr × Obj)} {s : Shared} {σ : L2.St} {H : Hp} {Q : VK} {elt tg iter : Expr} {ifs : List Expr} {scope : Scope} {own : List (PySem.Str × Nat)} {pos : Pos} {wi : TI} {g : TG} {tt : TT} {te : TE}
/-- the element's reading in the block, whatever it lets out going to W -/
def EltX (X : Cx) (L : Addr) (W : XK) (scope : Scope) (elt : Expr) (te : TE) : Prop :=
  ∀ (s : Shared) (H : Hp) (C : Addr) (cl : List (PySem.Str × Addr)) (fp : List Addr) (xe : Value → Shared → Prop), PassesOwn (model X.prog X.w) X.A (compEnvC scope cl C X.env) xe → Tk ((X.blk s H scope (compEnvC scope cl C X.env) fp).wish xe) L W → PE ((X.blk s H scope (compEnvC scope cl C X.env) fp).wish xe) elt te
theorem lcx {pos' : Pos} {use : Option (Value → Sem Unit)} {Qf : Value → Shared → Prop} (tkX : Tk X L W)
    (hc : X.calm = true) (hN : X.N.Nodup) (I : Inv X pins σ H s) (hi : PI X tg iter wi) (ok : BlkOk X.N X.env.scope scope own)
    (hg : ∀ (s : Shared) (H : Hp) (C : Addr) (cl : List (PySem.Str × Addr)) (fp : List Addr), PG (X.blk s H scope (compEnvC scope cl C X.env) fp) tg g) (ht : ∀ (s : Shared) (H : Hp) (C : Addr) (cl : List (PySem.Str × Addr)) (fp : List Addr), PTs (X.blk s H scope (compEnvC scope cl C X.env) fp) ifs tt)
    (he : EltX X L W scope elt te) (hs : ∀ x, foldedSetIterable iter X.env x = pure x) (h : tLc wi g tt te (own.map (·.2)) σ H Q)
    (hRR : ∀ D (ce : Env) s' m H', Inv X pins σ H' s' → Q (.ref D) H' → s'.heap.Ns ce.locals m → FpOk X pins H' ce.locals → compEnds (model X.prog X.w) X.A X.xe use Qf (.ref D) ce (.ok .next) s') :
    wpAny (model X.prog X.w) X.A (comprehension (.ListComp elt [⟨tg, iter, ifs, 0⟩] scope pos) scope X.env pos' (newList []) false (eval iter X.env) use) Qf X.xe s := by
  have hfree : ∀ y ∈ scope.names, y.2 = .free → ∃ c, X.env.cells.lookup y.1 = some c := fun y hy e => by
    rcases ok.free y hy e with k | k
    · exact I.ok.has _ (.inl k)
    · exact I.ok.has _ (.inr k)
  refine comprehension_at (use := use) rfl hs (closure_ok hfree) ok.kind (fun y hy e => by rw [ok.uniq y hy, e])
    (thn (hi.run pins s σ H _ I h) fun xv s1 hx => thn hx fun itv s2 h2 => ?_)
  obtain ⟨it, fp, tn, J, H2, e, I2, T, st2, f2, q⟩ := h2
  subst e
  refine wpAny_newObj_type (newEnv_comp ?_) (by show 0 ≤ sizeLine; decide)
  generalize hD : s2.heap.objs.size = D
  obtain ⟨W0, ⟨m0, w0⟩, turn⟩ := q D (I2.hok.fresh (Nat.le_of_eq hD))
  generalize hs3 : ({ s2 with heap := s2.heap.push { cls := .type "list", data := .seq ([] : List Value).toArray } } : Shared) = s3
  have I3 : Inv X pins σ (upd H2 D (.lst [])) s3 := by
    rw [← hs3]
    refine I2.laid (t' := s2.toks) (fun b o e => Heap.get?_push_of_some _ e) (Nat.le_of_eq hD) ⟨Nat.zero_le _, [], 0, .nil, ?_⟩
    rw [← hD]
    exact Heap.get?_push_size _ rfl
  have h3 : s3.heap = s2.heap.push { cls := .type "list", data := .seq ([] : List Value).toArray } := by rw [← hs3]
  have sz : ∀ b ∈ fp, b < s2.heap.objs.size := fun b hb => by
    obtain ⟨o, e, _⟩ := T.obj _ _ st2 b hb
    exact Heap.lt_size e
  have f3 : ∀ b ∈ fp, FpOk X pins (upd H2 D (.lst [])) b ∧ b < s3.heap.objs.size := fun b hb => by
    have hlt := sz b hb
    refine ⟨⟨?_, (f2 b hb).2⟩, by rw [h3, Heap.size_push]; exact Nat.lt_succ_of_lt hlt⟩
    rw [upd_ne (by rw [← hD]; exact Nat.ne_of_lt hlt)]
    exact (f2 b hb).1
  have st3 : tn 0 s3.heap := T.keep _ _ _ st2 fun b _ o e => by rw [h3]; exact Heap.get?_push_of_some _ e
  have I4 := block_start I3 ok hN f3
  generalize hcl : cellsFrom (s3.heap.objs.size + 1) scope.names (cloFrom X.env.cells scope.names []) = cl at I4
  generalize hce : compEnvC scope cl s3.heap.objs.size X.env = ce at I4
  show codeAny _ _ (.compStart (.ListComp elt [⟨tg, iter, ifs, 0⟩] scope pos) 0 (.ref it) (.ref D) (compEnvC scope cl s3.heap.objs.size X.env)) (compEnds (model X.prog X.w) X.A X.xe use Qf (.ref D) (compEnvC scope cl s3.heap.objs.size X.env)) { s3 with heap := pushCells (s3.heap.push { cls := .type "dict", data := .dict #[] }) scope.names }
  rw [hce]
  have pg := hg s3 (upd H2 D (.lst [])) s3.heap.objs.size cl fp
  have pt := ht s3 (upd H2 D (.lst [])) s3.heap.objs.size cl fp
  have pe := he s3 (upd H2 D (.lst [])) s3.heap.objs.size cl fp (notedBy (model X.prog X.w) X.A ce fun e s' => compEnds (model X.prog X.w) X.A X.xe use Qf (.ref D) ce (.error e) s')
  rw [hce] at pg pt pe
  have pe := pe PassesOwn.looking (tk_blk tkX I3 f3 hce)
  have nfp : ∀ b ∈ fp, (upd H2 D (.lst [])) b = none := fun b hb => (f3 b hb).1.1
  have cL : ce.locals = s3.heap.objs.size := by rw [← hce]; rfl
  generalize hH3 : upd H2 D (.lst []) = H3 at I3 I4 pg pt pe w0 nfp f3
  generalize hs4 : ({ s3 with heap := pushCells (s3.heap.push { cls := .type "dict", data := .dict #[] }) scope.names } : Shared) = s4 at I4 ⊢
  have st4 : tn 0 s4.heap := T.keep _ _ _ st3 fun b _ o e => by rw [← hs4]; exact pushCells_keeps _ _ _ _ (Heap.get?_push_of_some _ e)
  have stat : ∀ {σ' : L2.St} {H' : Hp} {s' : Shared}, Inv (X.blk s3 H3 scope ce fp) [] σ' H' s' → (∀ b ∈ fp, H' b = none) → ∀ b ∈ fp, FpOk (X.blk s3 H3 scope ce fp) [] H' b := fun {σ' H' s'} I' hn b hb =>
    ⟨hn b hb, (I'.ok.exf b hb).1, I'.ok.exfs b hb, .inl hb, fun x c e => (I'.ok.exf b hb).2 x c e, fun p hp => absurd (show p ∈ ([] : List (Addr × Obj)) ++ [] from hp) (by simp)⟩
  have loop : codeAny (model X.prog X.w) X.A (.compLoop (.ListComp elt [⟨tg, iter, ifs, 0⟩] scope pos) 0 (.ref it) (.ref D) ce) (compEnds (model X.prog X.w) X.A X.xe use Qf (.ref D) ce) s4 := by
    refine compLoop_any (fun n s' => ∃ i H', Inv (X.blk s3 H3 scope ce fp) [] (wipe σ (own.map (·.2))) H' s' ∧ tn i s'.heap ∧ (∀ b ∈ fp, H' b = none) ∧ W0 i n H') ?_ m0 ⟨0, H3, I4, st4, nfp, w0⟩
    rintro n s5 ⟨i, H5, I5, st5, n5, w5⟩
    rcases turn i n H5 w5 with ⟨stop, qq⟩ | ⟨go, Nx, hNx, step⟩
    · refine thnF (T.done (X.blk s3 H3 scope ce fp) rfl rfl rfl hc i [] s5 _ H5 (fun _ _ => False) I5 (stat I5 n5) st5 stop) fun r s6 ⟨hr, I6⟩ => ?_
      subst hr
      have I7 : Inv X pins σ H5 s6 := I3.call' (ch := fp) I6.os I6.base I6.hok I6.bare fun b hb => ⟨(f3 b hb).1.2.2.2.1, (f3 b hb).1.2.1, (f3 b hb).1.2.2.2.2.1, (f3 b hb).1.2.2.2.2.2⟩
      have nC : H5 ce.locals = none := I6.free
      obtain ⟨m, hn, _⟩ := I6.loc
      exact hRR D ce s6 m H5 I7 qq hn (by rw [cL]; exact I3.fpOk (Nat.le_refl _) (by rw [← cL]; exact nC))
    · refine thnF (T.item (X.blk s3 H3 scope ce fp) rfl rfl rfl hc i [] s5 _ H5 (fun _ _ => False) I5 (stat I5 n5) st5 go) fun r s6 ⟨u, hr, h6⟩ => ?_
      subst hr
      refine thnF h6 fun _ s7 ⟨x, H7, I7, r7, y7, st7, n7⟩ => ?_
      have I7' := I7.pinned (stat I7 n7) (T.obj _ _ st7)
      refine thnF (pg.run _ s7 _ H7 x u _ I7' r7 (step x H7 y7)) fun _ s8 ⟨σ8, H8, I8, hw8, q8⟩ => ?_
      refine thnF (pt.run _ s8 σ8 H8 _ I8 q8) fun b s9 ⟨H9, I9, q9⟩ => ?_
      have fin : ∀ {s' : Shared} {H' : Hp}, Inv (X.blk s3 H3 scope ce fp) ([] ++ pinsAt fp s7.heap) σ8 H' s' → Nx H' → ∃ m, m < n ∧ ∃ i H', Inv (X.blk s3 H3 scope ce fp) [] (wipe σ (own.map (·.2))) H' s' ∧ tn i s'.heap ∧ (∀ b ∈ fp, H' b = none) ∧ W0 i m H' := fun {s' H'} I' nx => by
        obtain ⟨m', hm, w'⟩ := hNx H' nx
        have pin' : ∀ b ∈ fp, ∀ o, s7.heap.get? b = some o → s'.heap.get? b = some o ∧ H' b = none := fun b hb o e =>
          let z := I'.pin (b, o) (List.mem_append_right _ (List.mem_append_right _ (mem_pinsAt hb e)))
          ⟨z.1, z.2.1⟩
        refine ⟨m', hm, i + 1, H', (I'.unpinned (pins := [])).weak (by rw [← hw8, wipe_length]) (fun j v e => ?_), T.keep _ _ _ st7 fun b hb o e => (pin' b hb o e).1, fun b hb => ?_, w'⟩
        · rw [← hw8] at e
          exact (wipe_some e).1
        · obtain ⟨o, e, _⟩ := T.obj _ _ st7 b hb
          exact (pin' b hb o e).2
      cases b with
      | false =>
        simp only [Bool.false_eq_true, if_false] at q9 ⊢
        exact fin I9 q9
      | true =>
        simp only [if_true] at q9 ⊢
        refine wpAny_mono (pe.run _ s9 σ8 H9 _ (I9.wish _) q9) (fun z s10 ⟨yv, H10, I10, r10, acc, hD10, hz10, nx⟩ => ?_) fun _ _ z => z
        exact app_ok (X := X.blk s3 H3 scope ce fp) I10.unwish hD10 hz10 r10 fun s11 I11 => fin I11 nx
  exact codeAny_compStart_list loop (T.self X.A 0 _ _ _ st4 loop)
theorem pe_lcx (tkX : Tk X L W) (hc : X.calm = true) (hN : X.N.Nodup) (hi : PI X tg iter wi) (ok : BlkOk X.N X.env.scope scope own)
    (hg : ∀ (s : Shared) (H : Hp) (C : Addr) (cl : List (PySem.Str × Addr)) (fp : List Addr), PG (X.blk s H scope (compEnvC scope cl C X.env) fp) tg g) (ht : ∀ (s : Shared) (H : Hp) (C : Addr) (cl : List (PySem.Str × Addr)) (fp : List Addr), PTs (X.blk s H scope (compEnvC scope cl C X.env) fp) ifs tt)
    (he : EltX X L W scope elt te) (hs : ∀ x, foldedSetIterable iter X.env x = pure x) : PE X (.ListComp elt [⟨tg, iter, ifs, 0⟩] scope pos) (tLc wi g tt te (own.map (·.2))) := by
  refine ⟨fun pins s σ H Q I h => ?_⟩
  rw [eval_ListComp]
  refine lcx tkX hc hN I hi ok hg ht he hs h fun D ce s' m H' I' q hn f => ⟨m, hn, fun h'' sb => ?_⟩
  obtain ⟨f0, f1, f2, f3, f4, f5⟩ := f
  exact ⟨.ref D, H', I'.turned (t' := s'.toks) (fun b o hb e => (sb.2 b hb).trans e) f0 f1 f3 f4 f5, rfl, q⟩
theorem ps_lcx {i : Nat} {y : PySem.Str} {py spos : Pos} (tkX : Tk X L W) (hc : X.calm = true) (hN : X.N.Nodup) (hy : X.N[i]? = some y) (hyl : X.env.scope.names.lookup y = some .local)
    (hsw : swapsWith (.ListComp elt [⟨tg, iter, ifs, 0⟩] scope pos) (some (.Name y py)) spos.line X.env = pure true) (hi : PI X tg iter wi) (ok : BlkOk X.N X.env.scope scope own)
    (hg : ∀ (s : Shared) (H : Hp) (C : Addr) (cl : List (PySem.Str × Addr)) (fp : List Addr), PG (X.blk s H scope (compEnvC scope cl C X.env) fp) tg g) (ht : ∀ (s : Shared) (H : Hp) (C : Addr) (cl : List (PySem.Str × Addr)) (fp : List Addr), PTs (X.blk s H scope (compEnvC scope cl C X.env) fp) ifs tt)
    (he : EltX X L W scope elt te) (hs : ∀ x, foldedSetIterable iter X.env x = pure x) :
    PS X (.Assign [.Name y py] (.ListComp elt [⟨tg, iter, ifs, 0⟩] scope pos) spos) (tAsg (tLc wi g tt te (own.map (·.2))) (gName i)) := by
  refine ⟨fun pins s σ H D I h => ?_⟩
  rw [exec_Assign_Name_used _ _ _ _ hsw]
  refine wpAny_bind (wpAny_standAt (wpAny_bind ?_))
  show wpAny _ X.A (do let _ ← comprehension (.ListComp elt [⟨tg, iter, ifs, 0⟩] scope pos) scope X.env (firstIterPos [⟨tg, iter, ifs, 0⟩] pos) (newList []) false (eval iter X.env) (some (assign (.Name y py) X.env))) _ _ s
  have h : tLc wi g tt te (own.map (·.2)) σ H (fun x H1 => gName i x σ H1 D.nx) := h
  refine wpAny_bind (thn (lcx (Qf := fun _ s' => SP X pins D .next s') tkX hc hN I hi ok hg ht he hs h fun D2 ce s' m H' I' q hn f => ?_) fun _ s' hq => wpAny_pure (wpAny_pure hq))
  show wpAny _ _ (assign (.Name y py) X.env (.ref D2)) _ _ _
  refine wpAny_assign_Name (store_ok2 (v := V.ref D2) I' hN hy (.inl hyl) rfl (fun s2 I2 ⟨a, sb, ha⟩ => ?_) (.inr hyl))
  obtain ⟨f0, f1, f2, f3, f4, f5⟩ := f
  have haC : ce.locals ≠ a := by
    rcases ha with z | z
    · rw [z]; exact f1
    · exact fun e => f4 y a z e.symm
  exact ⟨m, hn.sameBut sb haC, fun h3 sb3 => ⟨_, H', I2.turned (t' := s2.toks) (fun b o hb e => (sb3.2 b hb).trans e) f0 f1 f3 f4 f5, q⟩⟩
end
end DL

set_option Elab.async false
set_option linter.all false
set_option maxRecDepth 100000
set_option maxHeartbeats 4000000
namespace DL
open PySem PySem.Spec L2 PyProof.Rows
set_option autoImplicit false
/-! ### what raises, on data: always the class C, nothing else -/
def tXR (K : PySem.W.Frag) (C : Value) (W : XK) (δ : DEnv) : TE := fun σ H _ => ∃ S, SOk S H ∧ Rel K S δ σ H ∧ ∀ H', Same H H' → W C none H'
def tXS (K : PySem.W.Frag) (C : Value) (W : XK) (δ : DEnv) (ω : Own) : TS := fun _ σ H => ∃ S H0, SOk S H0 ∧ SRel K S H0 δ ω σ H ∧ ∀ H', Same H0 H' → W C none H'
def DVX (G : Ct) (δ : DEnv) (e : Expr) (C : Value) : Prop := ∀ X, G.Is X → ∀ L W, Tk X L W → PE X e (tXR G.m.K C W δ)
def DSX (G : Ct) (δ : DEnv) (ω : Own) (st : Stmt) (C : Value) : Prop := ∀ X, G.Is X → ∀ W, Tk X X.env.locals W → PS X st (tXS G.m.K C W δ ω)
def DSXs (G : Ct) (δ : DEnv) (ω : Own) (sts : List Stmt) (C : Value) : Prop := ∀ X, G.Is X → ∀ W, Tk X X.env.locals W → PSs X sts (tXS G.m.K C W δ ω)
theorem Ct.Is.wish {G : Ct} {X : Cx} (h : G.Is X) {xe : Value → Shared → Prop} (p : PassesOwn (model X.prog X.w) X.A X.env xe) : G.Is (X.wish xe) :=
  ⟨h.prog, h.w, h.K, h.mg, h.base, h.N, h.nd, h.sc, h.calm, h.rm, p, h.fn, h.nodbg⟩
/-- an own exception class, made of a text -/
structure ExcM (m : Md) (x : PySem.Str) (C : Addr) : Prop where
  exc : PySem.W.excIn m.K C [.type "ValueError", .type "Exception", .type "BaseException", .type "object"] "ValueError.__new__" = true
  gC : m.mg x = some (.ref C)
  kC : PySem.W.keepIn m.K (.ref C) = true
  sub : PySem.W.subIn m.K (.ref C) (.type "BaseException") = some true
  ty : PySem.W.typeIn m.K (.ref C) = some (.type "type")
/-- a def that raises -/
def spX (K : PySem.W.Frag) (C : Value) (R : List PyData → Prop) : Sp := fun vs H _ E => ∃ S ds, R ds ∧ SOk S H ∧ RpAll K (hide S H) vs ds ∧ ∀ H', Same H H' → E C none H'
structure FnX (m : Md) (n : PySem.Str) (k : Nat) (C : Value) (R : List PyData → Prop) : Prop where
  ex : ∃ f fd ps, m.mg n = some (.ref f) ∧ PySem.W.keepIn m.K (.ref f) = true ∧ Binds m.K fd ps [] ∧ FnOk m.P m.w m.K m.mg m.base (L2.CX m.P m.w) k f fd ps (spX m.K C R)
section
variable {G : Ct} {δ δ1 : DEnv} {ω ω1 : Own} {st : Stmt} {rest thn els body : List Stmt} {C : Value} {a c e elt tg iter : Expr} {es : List Expr} {x d : PyData} {ds items res : List PyData} {pos p p2 pos' spos py : Pos} {scope : Scope}
theorem dsxs_first (h : DSX G δ ω st C) : DSXs G δ ω (st :: rest) C := fun X hX W tk => PSs.imp (pss_cons (h X hX W tk) pss_never) fun D σ H q => q
theorem dsxs_cons (h : DS G δ ω st (.next δ1 ω1)) (h2 : DSXs G δ1 ω1 rest C) : DSXs G δ ω (st :: rest) C := fun X hX W tk =>
  PSs.imp (pss_cons (h X hX) (h2 X hX W tk)) fun D σ H ⟨S, H0, hS, r, q⟩ => ⟨S, H0, _, _, _, ⟨rfl, rfl, rfl⟩, hS, r, fun σ' H' r' => ⟨S, H0, hS, r', q⟩⟩
theorem dsx_if (hc : DT G (ov δ ω) c true) (h : DSXs G δ ω thn C) : DSX G δ ω (.If c thn els pos) C := fun X hX W tk =>
  PS.imp (ps_if (hc X hX) (h X hX W tk) (pss_never (sts := els))) fun D σ H ⟨S, H0, hS, r, q⟩ => by
    obtain ⟨as, B⟩ := r.bs hS
    exact ⟨_, _, _, ⟨rfl, rfl⟩, B.okS, B.relS, fun H' s => iteT ⟨S, H0, hS, r.mono s, q⟩⟩
theorem dsx_raise {n m : PySem.Str} {A : Addr} {j : Nat} (F : ExcM G.m n A) (hg : globB G.sc n = true) (hd : (n == ("__debug__" : PySem.Str)) = false := by decide) : DSX G δ ω (.Raise (some (.Call (.Name n p) [.Constant (.str m) j p2] [] pos)) none pos') (.ref A) := fun X hX W tk =>
  PS.imp (ps_raise hX.calm tk.takes (pmk_own PySem.F.excBase_ValueError (by rw [hX.K]; exact F.exc) (by rw [hX.mg]; exact F.gC) (by rw [hX.K]; exact F.kC) (raises_own (by rw [hX.K]; exact F.sub) (by rw [hX.K]; exact F.ty)) (gl_of hX hg) hd)) fun D σ H ⟨S, H0, hS, r, q⟩ => q H (r.over hS).2.1
theorem dsx_set {n : PySem.Str} {i : Nat} (hN : G.N[i]? = some n) (hl : locB G n = true) (h : DVX G (ov δ ω) e C) (hs : ∀ env : Env, swapsWith e (some (.Name n p)) pos.line env = pure false := by intro _; rfl) : DSX G δ ω (.Assign [.Name n p] e pos) C := fun X hX W tk =>
  PS.imp (ps_set hX.nd (by rw [hX.N]; exact hN) (by rw [hX.sc]; exact loc_of hl) (h X hX _ W tk) (hs _) (loc_fn hX hl)) fun D σ H ⟨S, H0, hS, r, q⟩ => by
    obtain ⟨h1, h2, h3⟩ := r.over hS
    exact ⟨S, h1, h3, fun H' s => q H' (h2.trans s)⟩
theorem pa_never {X : Cx} {es : List Expr} : PA X es (fun _ _ _ => False) := ⟨fun _ _ _ _ _ _ _ h => h.elim⟩
/-- f(e, ..), T(e, ..) where e raises -/
theorem dvx_ct {n : PySem.Str} {T : String} (hg : globB G.sc n = true) (hm : G.m.mg n = none) (hv : bootBuiltins n = some (.type T)) (h : DVX G δ e C) (hn : n ≠ "__name__" := by decide) (hdb : (n == ("__debug__" : PySem.Str)) = false := by decide)
    (he : ∀ env : Env, starEach (e :: es) env = (false, eval e env) :: starEach es env := by intro _; rfl) (hpl : ∀ env : Env, (backTo pos (starEach es env)).any (·.1) = false := by intro _; rfl) : DVX G δ (.Call (.Name n p) (e :: es) [] pos) C := fun X hX L W tk =>
  PE.imp (pe_callTy (r := fun _ _ _ => False) (fun _ _ _ _ _ _ _ _ _ z => z.elim) (gl_of hX hg) (by rw [hX.mg]; exact hm) hv (pa_cons (h X hX L W tk) pa_never (he _)) hn hdb (he _) (hpl _)) fun σ H Q q => q
theorem dvx_tup {k} (h : DVX G δ e C) (he : ∀ env : Env, starEach (e :: es) env = (false, eval e env) :: starEach es env := by intro _; rfl) : DVX G δ (.Tuple (e :: es) k pos) C := fun X hX L W tk =>
  PE.imp (pe_tup (pa_cons (h X hX L W tk) pa_never (he _))) fun σ H Q q => q
theorem dvx_call {n : PySem.Str} {k : Nat} {R : List PyData → Prop} (F : FnX G.m n k C R) (hk : k ≤ G.rm) (hg : globB G.sc n = true) (ha : DA G δ (e :: es) ds) (hR : R ds) (hd : (n == ("__debug__" : PySem.Str)) = false := by decide)
    (he : ∀ env : Env, starEach (e :: es) env = (false, eval e env) :: starEach es env := by intro _; rfl) (hpl : ∀ env : Env, (backTo pos (starEach es env)).any (·.1) = false := by intro _; rfl) : DVX G δ (.Call (.Name n p) (e :: es) [] pos) C := fun X hX L W tk => by
  obtain ⟨f, fd, ps, h1, h2, h3, h4⟩ := F.ex
  have F' : FnOk X.prog X.w X.K X.mg X.base (L2.CX X.prog X.w) k f fd ps (spX G.m.K C R) := by rw [hX.prog, hX.w, hX.K, hX.mg, hX.base]; exact h4
  refine PE.imp (pe_call (E := W) F' (hX.rm.mono hk) (gl_of hX hg) (by rw [hX.mg]; exact h1) (by rw [hX.K]; exact h2) (by rw [hX.K]; exact h3) .nil (fun _ _ _ _ e s' I c => tk.tk e s' (air_call I (fun _ _ _ h => h) c)) (ha X hX) hd (he _) (hpl _)) fun σ H Q ⟨S, ok, R', q⟩ => ?_
  refine ⟨S, _, _, ⟨rfl, rfl⟩, ok, R', fun vs H1 s1 r1 => ?_⟩
  exact ⟨S, ds, hR, ok.mono s1, by rw [List.append_nil]; exact r1, fun H' s2 => q H' (s1.trans s2)⟩
/-! a comprehension: the first items give, then one raises -/
def eXf (G : Ct) (scope : Scope) (elt : Expr) (C : Value) (W : XK) : TE := fun σ H Q => eOf G scope elt σ H Q ∨ ∃ δb, DVX (G.blk scope) δb elt C ∧ tXR G.m.K C W δb σ H Q
theorem elt_x {X : Cx} (hX : G.Is X) {L : Addr} {W : XK} : EltX X L W scope elt (eXf G scope elt C W) := fun s H C cl fp xe pass tk => by
  have hB := (hX.blk (scope := scope) s H C cl fp).wish pass
  refine ⟨fun pins s σ H Q I h => ?_⟩
  rcases h with h | ⟨δb, hx, h⟩
  · exact (pe_of hB).run pins s σ H Q I h
  · exact (hx _ hB L W tk).run pins s σ H Q I h
theorem lc_runx {wi : TI} {σ : L2.St} {H : Hp} {S : List Addr} {Q : VK} {W : XK} {ts : TSpec} {k : Nat} {d : PyData} {δb : DEnv} (vs : List Nat) (hsub : ∀ i ∈ ts.ix, i ∈ vs) (hz : items.length ≤ 16777216) (ht : Turns G scope ts [] elt (dwipe δ vs) (items.take k) res) (hkk : items[k]? = some d)
    (hb : bindT ts d (dwipe δ vs) = some δb) (hx : DVX (G.blk scope) δb elt C) (ok : SOk S H) (R : Rel G.m.K S δ σ H) (hW : ∀ H', Same H H' → W C none H')
    (hwi : ∀ (Q : It → Hp → Prop), (∀ J H', Same H H' → (∀ (S2 : List Addr) (H2 : Hp), Same (hide S H') (hide S2 H2) → SOk S2 H2 →
        (∀ (i : Nat) (d : PyData), items[i]? = some d → J.go i H2 ∧ ∀ x H3, J.yld i H2 x H3 → Same H2 H3 ∧ ts.rep G.m.K (hide S2 H3) x d) ∧ J.stop items.length H2) → Q J H') → wi σ H Q) :
    tLc wi (tDG G.m.K ts) (tOf G scope []) (eXf G scope elt C W) vs σ H Q := by
  have hkl : k < items.length := (List.getElem?_eq_some_iff.mp hkk).1
  refine hwi _ fun J H1 s1 itok D hD => ?_
  have hd0 : ∀ {H' : Hp}, hide (D :: S) H' = hide S (hide [D] H') := fun {H'} => hide_app [D] S H'
  refine ⟨fun i m H' => m = items.length - i ∧ i ≤ k ∧ Same H1 (hide [D] H') ∧ ∃ acc r2, H' D = some (.lst acc) ∧ acc.length ≤ i ∧ Turns G scope ts [] elt (dwipe δ vs) ((items.take k).drop i) r2,
    ⟨_, rfl, Nat.zero_le _, ?_, [], res, upd_same, Nat.le_refl _, ht⟩, ?_⟩
  · rw [hide_cons_upd hD]
    intro b o e
    rw [hide_out (by simp)]
    exact e
  rintro i m H' ⟨em, hi, hsm, acc, r2, hacc, hal, hrun⟩
  have okD : SOk (D :: S) H' := fun a ha => by
    rcases List.mem_cons.mp ha with z | z
    · rw [z, hacc]; simp
    · exact (SOk.mono (SOk.mono (ok.mono s1) hsm) (hide_sub _ _)) a z
  have sF : Same (hide S H1) (hide (D :: S) H') := by rw [hd0]; exact hide_mono hsm
  have RD : Rel G.m.K (D :: S) (dwipe δ vs) (wipe σ vs) H' := by
    have := (R.mono s1).wiped vs
    exact ⟨this.len, fun i d e => let ⟨v, z1, z2⟩ := this.val i d e; ⟨v, z1, z2.mono sF⟩⟩
  obtain ⟨hgo, hstop⟩ := itok (D :: S) H' sF okD
  have hil : i < items.length := by omega
  obtain ⟨go, yld⟩ := hgo i items[i] (List.getElem?_eq_getElem hil)
  by_cases hlt : i < k
  · have e1 : (items.take k).drop i = items[i] :: (items.take k).drop (i + 1) := by
      rw [List.drop_eq_getElem_cons (by rw [List.length_take]; omega), List.getElem_take]
    rw [e1] at hrun
    cases hrun with
    | @cons _ _ o rs h t =>
      obtain ⟨δb, b, hb, hpt, halt⟩ := h.ex
      refine .inr ⟨go, _, fun H2 z => ⟨items.length - (i + 1), by omega, rfl, hlt, z⟩, fun x H2 yy => ?_⟩
      obtain ⟨s2, rx⟩ := yld x H2 yy
      refine ⟨D :: S, dwipe δ vs, items[i], δb, hb, okD.mono s2, RD.mono s2, rx, fun σ2 R2 keep hl => ⟨?_, D :: S, δb, b, hpt, okD.mono s2, R2, fun H3 s3 => ?_⟩⟩
      · exact (wipe_same hl fun j hj => keep j fun z => hj (hsub j z)).trans (wipe_wipe σ vs)
      · rcases halt with ⟨eb, eo⟩ | ⟨eb, r, eo, hv⟩
        · subst eb eo
          refine iteF ⟨fun b' o' e' => ?_, acc, rs, s3 _ _ (s2 _ _ hacc), by omega, t⟩
          exact hide_mono (s2.trans s3) _ _ (hsm _ _ e')
        · subst eb eo
          refine iteT (.inl ⟨D :: S, δb, r, hv, (okD.mono s2).mono s3, R2.mono s3, fun y H4 s4 ry => ⟨acc, s4 _ _ (s3 _ _ (s2 _ _ hacc)), by rw [sizeLine_eq]; omega, fun b' o' e' => ?_, acc ++ [y], rs, upd_same, by rw [List.length_append, List.length_singleton]; omega, t⟩⟩)
          rw [hide_upd (by simp)]
          exact hide_mono ((s2.trans s3).trans s4) _ _ (hsm _ _ e')
  · obtain rfl : i = k := by omega
    have ed : items[i] = d := by
      rw [List.getElem?_eq_getElem hil] at hkk
      exact Option.some.inj hkk
    rw [ed] at yld
    refine .inr ⟨go, fun _ => False, fun _ z => z.elim, fun x H2 yy => ?_⟩
    obtain ⟨s2, rx⟩ := yld x H2 yy
    refine ⟨D :: S, dwipe δ vs, d, δb, hb, okD.mono s2, RD.mono s2, rx, fun σ2 R2 keep hl => ⟨?_, D :: S, δb, true, fun X hX => ⟨fun pins s σ H Q I ⟨S, δ', b', ⟨e1, e2⟩, ok, R, q⟩ => ?_⟩, okD.mono s2, R2, fun H3 s3 => ?_⟩⟩
    · exact (wipe_same hl fun j hj => keep j fun z => hj (hsub j z)).trans (wipe_wipe σ vs)
    · subst e1 e2
      exact pts_nil.run pins s σ H Q I (q H (Same.refl H))
    · refine iteT (.inr ⟨δb, hx, D :: S, (okD.mono s2).mono s3, R2.mono s3, fun H4 s4 => hW H4 (s1.trans ?_)⟩)
      exact (hsm.trans (hide_mono ((s2.trans s3).trans s4))).trans (hide_sub [D] H4)
theorem dvx_lc (i : Nat) (own : List (PySem.Str × Nat)) {k : Nat} {δb : DEnv} (hok : blkC G.N G.sc scope own = true) (hi : DI1 G δ tg iter items) (hg : DG (G.blk scope) tg (.one i)) (ht : Turns G scope (.one i) [] elt (dwipe δ (own.map (·.2))) (items.take k) res) (hkk : items[k]? = some d)
    (hb : bindT (.one i) d (dwipe δ (own.map (·.2))) = some δb) (hx : DVX (G.blk scope) δb elt C) (hz : items.length ≤ 16777216) (hsub : ∀ j ∈ (TSpec.one i).ix, j ∈ own.map (·.2) := by simp [TSpec.ix]) (hs : ∀ (env : Env) (x : Value), foldedSetIterable iter env x = pure x := by intro _ _; rfl) :
    DVX G δ (.ListComp elt [⟨tg, iter, [], 0⟩] scope pos) C := fun X hX L W tk =>
  PE.imp (pe_lcx tk hX.calm hX.nd (hi X hX) (by rw [hX.N, hX.sc]; exact blkOk_by hok) (fun s H C cl fp => hg _ (hX.blk s H C cl fp)) (fun s H C cl fp => pts_of (ifs := []) (hX.blk s H C cl fp)) (elt_x (C := C) hX) (hs _)) fun σ H Q ⟨S, ok, R, q⟩ =>
    lc_runx _ hsub hz ht hkk hb hx ok R q fun Q2 h => ⟨S, _, items, ⟨rfl, rfl⟩, ok, R, fun J H' s it => h J H' s it⟩
theorem dsx_lc (j : Nat) {n : PySem.Str} (i : Nat) (own : List (PySem.Str × Nat)) {k : Nat} {δb : DEnv} (hN : G.N[j]? = some n) (hl : G.sc.names.lookup n = some .local) (hkind : G.sc.kind = .function) (hline : (py.line == pos.line) = true) (hany : (scope.names.any fun (m, k) => m == n && (k == .local || k == .cell)) = false)
    (hok : blkC G.N G.sc scope own = true) (hi : DI1 G (ov δ ω) tg iter items) (hg : DG (G.blk scope) tg (.one i)) (ht : Turns G scope (.one i) [] elt (dwipe (ov δ ω) (own.map (·.2))) (items.take k) res) (hkk : items[k]? = some d)
    (hb : bindT (.one i) d (dwipe (ov δ ω) (own.map (·.2))) = some δb) (hx : DVX (G.blk scope) δb elt C) (hz : items.length ≤ 16777216) (hsub : ∀ j ∈ (TSpec.one i).ix, j ∈ own.map (·.2) := by simp [TSpec.ix]) (hs : ∀ (env : Env) (x : Value), foldedSetIterable iter env x = pure x := by intro _ _; rfl) :
    DSX G δ ω (.Assign [.Name n py] (.ListComp elt [⟨tg, iter, [], 0⟩] scope pos) spos) C := fun X hX W tk =>
  PS.imp (ps_lcx (i := j) tk hX.calm hX.nd (by rw [hX.N]; exact hN) (by rw [hX.sc]; exact hl) (sw_true (by rw [hX.sc]; exact hkind) (by rw [hX.sc]; exact hl) hline hany) (hi X hX) (by rw [hX.N, hX.sc]; exact blkOk_by hok) (fun s H C cl fp => hg _ (hX.blk s H C cl fp)) (fun s H C cl fp => pts_of (ifs := []) (hX.blk s H C cl fp)) (elt_x (C := C) hX) (hs _)) fun D σ H ⟨S, H0, hS, r, q⟩ => by
    obtain ⟨h1, h2, h3⟩ := r.over hS
    exact lc_runx _ hsub hz ht hkk hb hx h1 h3 (fun H' s => q H' (h2.trans s)) fun Q2 h => ⟨S, _, items, ⟨rfl, rfl⟩, h1, h3, fun J H' s it => h J H' s it⟩
/-! a def that raises, its body -/
theorem fnx_ok {m : Md} {n : PySem.Str} {st : Stmt} {f : Addr} {fd : FuncData} {N ps : List PySem.Str} {k : Nat} {R : List PyData → Prop} (F : Fun m.K n n st f fd) (hb : Binds m.K fd ps []) (hm : m.mg n = some (.ref f)) (S : FnScope N ps (defScope st))
    (hd : ∀ x ∈ N, (x == ("__debug__" : PySem.Str)) = false ∧ (x == ("__classdict__" : PySem.Str)) = false) (len : ∀ ds, R ds → ds.length = ps.length)
    (body : ∀ ds, R ds → DSXs ⟨m, N, defScope st, k, fun _ => true⟩ (ds.map some ++ List.replicate (N.length - ds.length) none) [] (defBody st) C) : FnX m n (k + 1) C R := by
  refine ⟨f, fd, ps, hm, F.kp, hb, F.okX S (fun vs H Q E ⟨_, ds, r, _, ra, _⟩ => by rw [ra.len]; exact len ds r) fun cdv A outer s H vs Q E hr ⟨T, ds, r, ok, ra, q⟩ => ?_⟩
  refine ⟨_, body ds r _ ⟨rfl, rfl, rfl, rfl, rfl, rfl, S.nd, rfl, rfl, hr, passes_of rfl, fun x => rfl, hd⟩ E (Tk.of rfl rfl (takes_of rfl rfl rfl rfl)), ?_⟩
  refine ⟨T, H, ok, ⟨[], rfl, List.nodup_nil, ok, ?_, ⟨?_, fun i d' e => ?_⟩, fun k i c a e => by simp at e⟩, q⟩
  · intro b o e
    rw [hide_out (by simp)]
    exact e
  · unfold L2.start
    simp [ra.len]
  · rw [List.nil_append]
    have hi : i < ds.length := by
      by_cases hi : i < ds.length
      · exact hi
      · rw [List.getElem?_append_right (by simpa using hi), List.getElem?_replicate] at e
        split at e <;> cases e
    rw [List.getElem?_append_left (by simpa using hi), List.getElem?_map] at e
    cases e2 : ds[i]? with
    | none => rw [e2] at e; cases e
    | some d2 =>
      rw [e2] at e
      cases e
      obtain ⟨v, hv, rv⟩ := ra.get e2
      refine ⟨v, ?_, rv⟩
      have hiv : i < vs.length := by rw [ra.len]; exact hi
      unfold L2.start
      rw [List.getElem?_append_left (by simpa using hiv), List.getElem?_map, hv]
      rfl
end
end DL

set_option Elab.async false
set_option linter.all false
set_option maxRecDepth 100000
set_option maxHeartbeats 4000000
namespace DL
open PySem PySem.Spec L2 PyProof.Rows
set_option autoImplicit false
/-! ### at a def's own frame: try .. except P as e: if isinstance(e, A) and not isinstance(e, R) and isinstance(e, ValueError): y = None -/
def Top (X : Cx) : Prop := X.stack = X.env :: X.outer ∧ X.env.frame = some X.env.locals
def DTs (G : Ct) (δ : DEnv) (ω : Own) (sts : List Stmt) (out : Out) : Prop := ∀ X, G.Is X → Top X → PSs X sts (tDS G.m.K fun δ' ω' o' => δ' = δ ∧ ω' = ω ∧ o' = out)
def DT1 (G : Ct) (δ : DEnv) (ω : Own) (st : Stmt) (out : Out) : Prop := ∀ X, G.Is X → Top X → PS X st (tDS G.m.K fun δ' ω' o' => δ' = δ ∧ ω' = ω ∧ o' = out)
structure ExcH (m : Md) (x c1 c2 : PySem.Str) (A : Addr) : Prop where
  ex : ∃ P R : Addr, m.mg x = some (.ref P) ∧ m.mg c1 = some (.ref A) ∧ m.mg c2 = some (.ref R) ∧ PySem.W.exmOne m.K (.ref A) (.ref P) = some true ∧ PySem.W.kitOne m.K (.ref A) (.ref A) = some true ∧ PySem.W.kitOne m.K (.ref A) (.ref R) = some false
  cls : ExcC m.K A
  val : PySem.W.kitOne m.K (.ref A) (.type "ValueError") = some true
  noV : m.mg "ValueError" = none
section
variable {G : Ct} {δ δ1 : DEnv} {ω ω1 : Own} {st : Stmt} {rest body : List Stmt} {out : Out} {d : PyData}
theorem dts_of (h : DSs G δ ω rest out) : DTs G δ ω rest out := fun X hX _ => h X hX
theorem dts_cons (h : DS G δ ω st (.next δ1 ω1)) (h2 : DTs G δ1 ω1 rest out) : DTs G δ ω (st :: rest) out := fun X hX t => PSs.imp (pss_cons (h X hX) (h2 X hX t)) fun D σ H ⟨S, H0, δ', ω', o', ⟨e1, e2, e3⟩, hS, r, q⟩ => by
  subst e1 e2 e3
  exact ⟨S, H0, _, _, _, ⟨rfl, rfl, rfl⟩, hS, r, fun σ' H' r' => ⟨S, H0, _, _, _, ⟨rfl, rfl, rfl⟩, hS, r', q⟩⟩
theorem dts_cons1 (h : DT1 G δ ω st (.next δ1 ω1)) (h2 : DTs G δ1 ω1 rest out) : DTs G δ ω (st :: rest) out := fun X hX t => PSs.imp (pss_cons (h X hX t) (h2 X hX t)) fun D σ H ⟨S, H0, δ', ω', o', ⟨e1, e2, e3⟩, hS, r, q⟩ => by
  subst e1 e2 e3
  exact ⟨S, H0, _, _, _, ⟨rfl, rfl, rfl⟩, hS, r, fun σ' H' r' => ⟨S, H0, _, _, _, ⟨rfl, rfl, rfl⟩, hS, r', q⟩⟩
/-- nothing is raised -/
theorem ds_thru {h0 : ExceptHandler} {hs : List ExceptHandler} {pos : Pos} (hb : DSs G δ ω body out) : DS G δ ω (.Try body (h0 :: hs) [] [] pos) out := fun X hX => ps_try_thru0 (hb X.nox (hX.wish PassesOwn.never))
theorem dt_caught {i j : Nat} {x n y c1 c2 : PySem.Str} {A : Addr} {np p1 p2 p3 p4 p5 p6 p7 p8 p9 p10 p11 p12 p13 p14 p15 p16 p17 p18 p19 p20 : Pos} {k0 : Nat} (E : ExcH G.m x c1 c2 A) (hi : G.N[i]? = some n) (hj : G.N[j]? = some y) (hij : i ≠ j) (hln : G.sc.names.lookup n = some .local) (hly : G.sc.names.lookup y = some .local)
    (hx : globB G.sc x = true) (hg1 : globB G.sc c1 = true) (hg2 : globB G.sc c2 = true) (hgi : globB G.sc "isinstance" = true) (hgv : globB G.sc "ValueError" = true) (hmi : G.m.mg "isinstance" = none)
    (hb : DSXs G δ [] body (.ref A)) (hdx : (x == ("__debug__" : PySem.Str)) = false := by decide) (hd1 : (c1 == ("__debug__" : PySem.Str)) = false := by decide) (hd2 : (c2 == ("__debug__" : PySem.Str)) = false := by decide) :
    DT1 G δ [] (.Try body [.ExceptHandler (some (.Name x np)) (some n) [.If (.BoolOp .And [.Call (.Name "isinstance" p1) [.Name n p2, .Name c1 p3] [] p4, .UnaryOp .Not (.Call (.Name "isinstance" p5) [.Name n p6, .Name c2 p7] [] p8) p9, .Call (.Name "isinstance" p10) [.Name n p11, .Name "ValueError" p12] [] p13] p14)
      [.Assign [.Name y p15] (.Constant .none k0 p16) p17] [] p18] p19] [] [] p20) (.next ((List.replicate G.N.length none).set j (some .none)) []) := fun X hX ⟨hs, hf⟩ => by
  obtain ⟨P, R, g1, g2, g3, g4, g5, g6⟩ := E.ex
  have hN : X.N[i]? = some n := by rw [hX.N]; exact hi
  have hJ : X.N[j]? = some y := by rw [hX.N]; exact hj
  have hLn : X.env.scope.names.lookup n = some .local := by rw [hX.sc]; exact hln
  have hLy : X.env.scope.names.lookup y = some .local := by rw [hX.sc]; exact hly
  have ndn := (hX.nodbg n (List.mem_of_getElem? hi))
  have hc : Names X x (.ref P) := ⟨gl_of hX hx, hdx, .inl (by rw [hX.mg]; exact g1)⟩
  refine PS.imp (ps_try_as (i := i) (Wout := fun _ _ _ _ => False) (tb := fun W D σ H => ∃ S H0, SOk S H0 ∧ SRel G.m.K S H0 δ [] σ H ∧ ∀ H' σ', Same H0 H' → σ'.length = G.N.length → W (.ref A) none σ' H')
    (ts := fun a cls d D σ H => cls = .ref A ∧ d = none ∧ σ[i]? = some (some (.ref a)) ∧ D.nx (σ.set j (some .non)) H) hs hf hX.nd hN hLn hc takes0 (fun W pn xe tk pass => ?_) (fun a oe cls d pn hz hfv => ?_)) fun D σ H ⟨S, H0, δ', ω', o', ⟨e1, e2, e3⟩, hS, r, q⟩ => ?_
  · have hT : G.Is (X.tr pn xe) := ⟨hX.prog, hX.w, hX.K, hX.mg, hX.base, hX.N, hX.nd, hX.sc, hX.calm, hX.rm, pass, hX.fn, hX.nodbg⟩
    refine PSs.imp (hb (X.tr pn xe) hT (fun c d H' => ∀ σ', σ'.length = G.N.length → W c d σ' H') (Tk.of hs hf fun u s' ⟨a, B, sI, pins, σ, H, cls, d, e, I, nb, up, sky, na, os, ag, w⟩ => tk u s' ⟨a, B, sI, pins, σ, H, cls, d, e, I, nb, up, sky, na, os, ag, w σ (by have := I.len; rw [← hX.N]; exact this)⟩)) fun D σ H ⟨S, H0, hS, r, q⟩ => ?_
    exact ⟨S, H0, hS, r, fun H' s σ' hl => q H' σ' s hl⟩
  · refine ⟨fun pins s σ H D I h => ?_⟩
    obtain ⟨ec, ed, hσ, q⟩ := h
    subst ec ed
    have C : ExcC X.K A := by rw [hX.K]; exact E.cls
    have cr := call_isE (a := a) (pn := pn) C hz hfv
    have gi : Gl (X.suite a ((a, oe) :: pn)) "isinstance" := gl_of hX hgi
    have mi : (X.suite a ((a, oe) :: pn)).mg "isinstance" = none := by show X.mg "isinstance" = none; rw [hX.mg]; exact hmi
    have pv : ∀ p : Pos, PE (X.suite a ((a, oe) :: pn)) (.Name n p) (tVar i) := fun p => pe_var hN (.inl hLn) ndn.1 ndn.2
    have pc : ∀ {c : PySem.Str} {r : Addr} (p : Pos), globB G.sc c = true → G.m.mg c = some (.ref r) → (c == ("__debug__" : PySem.Str)) = false → PE (X.suite a ((a, oe) :: pn)) (.Name c p) (tC (.ref r)) := fun {c r} p hg hm hd =>
      pe_glob (X := X.suite a ((a, oe) :: pn)) (u := .ref r) (gl_of hX hg) (by show X.mg c = _; rw [hX.mg]; exact hm) rfl hd
    have pV : PE (X.suite a ((a, oe) :: pn)) (.Name "ValueError" p12) (tC (.ty "ValueError")) :=
      pe_bltn (X := X.suite a ((a, oe) :: pn)) (u := .type "ValueError") (gl_of hX hgv) (by show X.mg _ = _; rw [hX.mg]; exact E.noV) (by first | rfl | decide +kernel) rfl
    have call : ∀ {c : PySem.Str} {tc : TE} (pi pn2 pc2 pp : Pos), PE (X.suite a ((a, oe) :: pn)) (.Name c pc2) tc → PE (X.suite a ((a, oe) :: pn)) (.Call (.Name "isinstance" pi) [.Name n pn2, .Name c pc2] [] pp) (tCB (rIsE X.K A a) (tCons (tVar i) (tCons tc tNil))) := fun {c tc} pi pn2 pc2 pp h =>
      pe_callB (X := X.suite a ((a, oe) :: pn)) cr gi mi PyProof.Rows.boot_isinstance (pa_cons (pv pn2) (pa_cons h pa_nil))
    have test := (pw_and (pt_val (call p1 p2 p3 p4 (pc p3 hg1 g2 hd1))) (pw_and (pt_not (pt_val (call p5 p6 p7 p8 (pc p7 hg2 g3 hd2)))) (pw_and1 (pt_val (call p10 p11 p12 p13 pV))))).pt (X := X.suite a ((a, oe) :: pn)) (e := .BoolOp .And [.Call (.Name "isinstance" p1) [.Name n p2, .Name c1 p3] [] p4, .UnaryOp .Not (.Call (.Name "isinstance" p5) [.Name n p6, .Name c2 p7] [] p8) p9, .Call (.Name "isinstance" p10) [.Name n p11, .Name "ValueError" p12] [] p13] p14)
    have set := pss_one (ps_set (X := X.suite a ((a, oe) :: pn)) (pos := p17) (pos' := p15) hX.nd hJ (.inl hLy) (pe_non (j := k0) (pos := p16)) (by rfl) (.inr hLy))
    have whole := pss_one (ps_if (pos := p18) test set (pss_nil (X := X.suite a ((a, oe) :: pn))))
    refine whole.run pins s σ H D I ?_
    refine ⟨_, hσ, .ref A, .ref A, true, rfl, fun u ru => ru, by rw [hX.K]; exact g5, true, rfl, iteT ⟨_, hσ, .ref R, .ref R, false, rfl, fun u ru => ru, by rw [hX.K]; exact g6, false, rfl, iteT ⟨_, hσ, .ty "ValueError", .type "ValueError", true, rfl, fun u ru => ru, by rw [hX.K]; exact E.val, true, rfl, iteT q⟩⟩⟩
  · subst e1 e2 e3
    refine ⟨S, H0, hS, r, fun H' σ' s hl => ⟨true, by rw [hX.K]; exact g4, fun _ a ha => ⟨rfl, rfl, ?_, ?_⟩, fun z => by cases z⟩⟩
    · exact List.getElem?_set_self (by rw [hl]; exact (List.getElem?_eq_some_iff.mp hi).1)
    · refine q _ _ ⟨[], rfl, List.nodup_nil, hS.mono s, ?_, ⟨by simp [hl], fun m d e => ?_⟩, fun k i c a e => by simp at e⟩
      · intro b o e
        rw [hide_out (by simp)]
        exact s b o e
      · by_cases hm : m = j
        · subst hm
          rw [List.getElem?_set_self (by rw [List.length_replicate]; exact (List.getElem?_eq_some_iff.mp hj).1)] at e
          cases e
          refine ⟨.non, ?_, .non⟩
          rw [List.getElem?_set_ne hij, List.getElem?_set_self (by rw [List.length_set, hl]; exact (List.getElem?_eq_some_iff.mp hj).1)]
        · rw [List.getElem?_set_ne (Ne.symm hm), List.getElem?_replicate] at e
          split at e <;> cases e
theorem fn_okT {m : Md} {n : PySem.Str} {st : Stmt} {f : Addr} {fd : FuncData} {N ps : List PySem.Str} {k : Nat} {R : List PyData → PyData → Prop} (F : Fun m.K n n st f fd) (hb : Binds m.K fd ps []) (hm : m.mg n = some (.ref f)) (S : FnScope N ps (defScope st))
    (hd : ∀ x ∈ N, (x == ("__debug__" : PySem.Str)) = false ∧ (x == ("__classdict__" : PySem.Str)) = false) (len : ∀ ds d, R ds d → ds.length = ps.length)
    (body : ∀ ds d, R ds d → DTs ⟨m, N, defScope st, k, fun _ => true⟩ (ds.map some ++ List.replicate (N.length - ds.length) none) [] (defBody st) (.ret d)) : Fn m n (k + 1) R := by
  refine ⟨f, fd, ps, hm, F.kp, hb, F.ok S (fun vs H Q E ⟨_, ds, d, r, _, ra, _⟩ => by rw [ra.len]; exact len ds d r) fun cdv A outer s H vs Q E hr ⟨T, ds, d, r, ok, ra, q⟩ => ?_⟩
  refine ⟨_, body ds d r _ ⟨rfl, rfl, rfl, rfl, rfl, rfl, S.nd, rfl, rfl, hr, PassesOwn.never, fun x => rfl, hd⟩ ⟨rfl, rfl⟩, ?_⟩
  refine ⟨T, H, _, _, _, ⟨rfl, rfl, rfl⟩, ok, ⟨[], rfl, List.nodup_nil, ok, ?_, ⟨?_, fun i d' e => ?_⟩, fun k i c a e => by simp at e⟩, fun v H' s rv => q v H' s rv⟩
  · intro b o e
    rw [hide_out (by simp)]
    exact e
  · unfold L2.start
    simp [ra.len]
  · rw [List.nil_append]
    have hi : i < ds.length := by
      by_cases hi : i < ds.length
      · exact hi
      · rw [List.getElem?_append_right (by simpa using hi), List.getElem?_replicate] at e
        split at e <;> cases e
    rw [List.getElem?_append_left (by simpa using hi), List.getElem?_map] at e
    cases e2 : ds[i]? with
    | none => rw [e2] at e; cases e
    | some d2 =>
      rw [e2] at e
      cases e
      obtain ⟨v, hv, rv⟩ := ra.get e2
      refine ⟨v, ?_, rv⟩
      have hiv : i < vs.length := by rw [ra.len]; exact hi
      unfold L2.start
      rw [List.getElem?_append_left (by simpa using hiv), List.getElem?_map, hv]
      rfl
end
end DL

set_option Elab.async false
set_option linter.all false
set_option maxRecDepth 100000
set_option maxHeartbeats 4000000
namespace DL
open PySem PySem.Spec L2 PyProof.Rows
set_option autoImplicit false
/-! ### texts -/
section
variable {G : Ct} {δ : DEnv} {a b o e : Expr} {pos p apos : Pos}
theorem dc_eqs {i j : PySem.Str} (ha : DV G δ a (.str i)) (hb : DV G δ b (.str j)) : DC G δ .Eq a b (decide (i = j)) :=
  ⟨_, _, ha, hb, fun X hX => ⟨rEq, op_eq, fun S H v w Q ok r1 r2 q => by
    cases r1
    cases r2
    refine ⟨rfl, ?_⟩
    have e : decide (V.str i = V.str j) = decide (i = j) := by
      rw [Bool.eq_iff_iff]
      simp
    rw [e]
    exact q⟩⟩
theorem dc_nes {i j : PySem.Str} (ha : DV G δ a (.str i)) (hb : DV G δ b (.str j)) : DC G δ .NotEq a b (!decide (i = j)) :=
  ⟨_, _, ha, hb, fun X hX => ⟨rNe, op_ne, fun S H v w Q ok r1 r2 q => by
    cases r1
    cases r2
    refine ⟨rfl, ?_⟩
    have e : decide (V.str i = V.str j) = decide (i = j) := by
      rw [Bool.eq_iff_iff]
      simp
    rw [e]
    exact q⟩⟩
theorem dn_split {x y : PySem.Str} (ha : DV G δ o (.str x)) (hb : DV G δ e (.str y)) (hy : (y.length == 0) = false) (hz : x.length + 2 ≤ sizeLine) (hs : ∀ env : Env, starEach [e] env = [(false, eval e env)] := by intro _; rfl)
    (hbase : ∀ env : Env, attributeBase o "split" env (eval o env) = eval o env := by intro _; rfl) (hline : (apos.endLine == pos.line) = true := by rfl) : DN G δ (.Call (.Attribute o "split" apos) [e] [] pos) ((Txt.split x y).map .str) := fun X hX =>
  PE.imp (pe_split (ha X hX) (hb X hX) (hs _) (hbase _) hline) fun σ H Q ⟨S, δ', d', ⟨e1, e2⟩, ok, R, q⟩ => by
    subst e1 e2
    refine ⟨S, _, _, ⟨rfl, rfl⟩, ok, R, fun v H1 s1 r1 => ?_⟩
    cases r1
    refine ⟨⟨_, rfl⟩, S, _, _, ⟨rfl, rfl⟩, ok.mono s1, R.mono s1, fun w H2 s2 r2 => ?_⟩
    cases r2
    refine ⟨x, y, rfl, rfl, hy, hz, fun p hp => q _ p H2 (s1.trans s2) hp ?_ (RpAll.ofStrs _)⟩
    rw [List.length_map]
    exact Nat.le_trans (PyProof.Rows.split_le x y) hz
theorem dv_join {x : PySem.Str} {ys : List PySem.Str} (ha : DV G δ o (.str x)) (hb : DV G δ e (.list (ys.map .str))) (hz : (ys.map (·.length)).sum + ys.length * x.length ≤ 16777216) (hs : ∀ env : Env, starEach [e] env = [(false, eval e env)] := by intro _; rfl)
    (hbase : ∀ env : Env, attributeBase o "join" env (eval o env) = eval o env := by intro _; rfl) (hline : (apos.endLine == pos.line) = true := by rfl) : DV G δ (.Call (.Attribute o "join" apos) [e] [] pos) (.str (Txt.join x ys)) := fun X hX =>
  PE.imp (pe_join (ha X hX) (hb X hX) (hs _) (hbase _) hline) fun σ H Q ⟨S, δ', d', ⟨e1, e2⟩, ok, R, q⟩ => by
    subst e1 e2
    refine ⟨S, _, _, ⟨rfl, rfl⟩, ok, R, fun v H1 s1 r1 => ?_⟩
    cases r1
    refine ⟨⟨_, rfl⟩, S, _, _, ⟨rfl, rfl⟩, ok.mono s1, R.mono s1, fun w H2 s2 r2 => ?_⟩
    cases r2 with
    | lst g1 g2 g3 =>
      obtain rfl := g3.strs
      exact ⟨x, _, ys, rfl, rfl, .inl (by rw [hX.K]; exact SqL.of (hide_some g1).2), hz, q _ H2 (s1.trans s2) (.str _)⟩
/-- f"{a}..{b}" -/
theorem dv_fint3 {i j : Int} {t : PySem.Str} {k : Nat} {p1 p2 p3 : Pos} (ha : DV G δ a (.int i)) (hb : DV G δ b (.int j)) (hi : i.natAbs.log2 < 1920) (hj : j.natAbs.log2 < 1920)
    (h1 : ((Str.empty ++ (toString i : PySem.Str))).length ≤ sizeLine) (h2 : ((Str.empty ++ (toString i : PySem.Str)) ++ t).length ≤ sizeLine) (h3 : (((Str.empty ++ (toString i : PySem.Str)) ++ t) ++ (toString j : PySem.Str)).length ≤ sizeLine) :
    DV G δ (.JoinedStr [.FormattedValue a (-1) none p1, .Constant (.str t) k p2, .FormattedValue b (-1) none p3] pos) (.str (((Str.empty ++ (toString i : PySem.Str)) ++ t) ++ (toString j : PySem.Str))) := fun X hX =>
  PE.imp (pe_joined (.cons (pe_fmt (ha X hX)) (.cons pe_str (.cons (pe_fmt (hb X hX)) .nil)))) fun σ H Q ⟨S, δ', d', ⟨e1, e2⟩, ok, R, q⟩ => by
    subst e1 e2
    refine ⟨S, _, _, ⟨rfl, rfl⟩, ok, R, fun v H1 s1 r1 => ?_⟩
    cases r1
    refine .inr ⟨i, rfl, hi, _, rfl, h1, _, rfl, h2, S, _, _, ⟨rfl, rfl⟩, ok.mono s1, R.mono s1, fun w H2 s2 r2 => ?_⟩
    cases r2
    exact .inr ⟨j, rfl, hj, _, rfl, h3, q _ H2 (s1.trans s2) (.str _)⟩
end
/-! what a text's parts are made of -/
def okS (x : PySem.Str) : Prop := ∀ c ∈ x.cps.toList, c < 0x110000
theorem okS.ok {x : PySem.Str} (h : okS x) : (PyData.str x).canLay0 = true := by
  show x.cps.all (· < 0x110000) = true
  rw [← Array.all_toList]
  exact List.all_eq_true.mpr fun c hc => decide_eq_true (h c hc)
end DL

set_option Elab.async false
set_option linter.all false
set_option maxRecDepth 100000
set_option maxHeartbeats 4000000
namespace DL
open PySem PySem.Spec L2 TL
set_option autoImplicit false
/-! ### webs as texts: plain law -/
def sI (i : Int) : PySem.Str := (toString i : PySem.Str)
def figM (w : PySem.Str) : Option Nat := (List.range 10).find? fun n : Nat => decide (w = sI n)
theorem fig_digit : ∀ n : Nat, n < 10 → figM (sI n) = some n := by
  have h : ((List.range 10).all fun n : Nat => decide (figM (sI n) = some n)) = true := by decide +kernel
  exact fun n hn => of_decide_eq_true (List.all_eq_true.mp h n (List.mem_range.mpr hn))
theorem fig_lt {w : PySem.Str} {n : Nat} (h : figM w = some n) : n < 10 := List.mem_range.mp (List.mem_of_find?_eq_some h)
theorem dig_cps : ∀ n : Nat, n < 10 → (32 ∉ tl (sI n) ∧ 45 ∉ tl (sI n)) ∧ (tl (sI n)).length = 1 ∧ ∀ c ∈ tl (sI n), c < 256 := by
  have h : ((List.range 10).all fun n : Nat => decide (32 ∉ tl (sI n)) && (decide (45 ∉ tl (sI n)) && (decide ((tl (sI n)).length = 1) && (tl (sI n)).all (· < 256)))) = true := by decide +kernel
  intro n hn
  have := List.all_eq_true.mp h n (List.mem_range.mpr hn)
  simp only [Bool.and_eq_true, decide_eq_true_eq, List.all_eq_true] at this
  exact ⟨⟨this.1, this.2.1⟩, this.2.2.1, this.2.2.2⟩
/-- all of them, where none is none -/
def optL {α β : Type} (d : β) (f : α → Option β) (xs : List α) : Option (List β) := if xs.all (fun x => (f x).isSome) = true then some (xs.map fun x => (f x).getD d) else none
theorem optL_some {α β : Type} {d : β} {f : α → Option β} {xs : List α} {ys : List β} (h : optL d f xs = some ys) : (∀ x ∈ xs, f x = some ((f x).getD d)) ∧ ys = xs.map fun x => (f x).getD d := by
  unfold optL at h
  split at h
  · rename_i h1
    cases h
    refine ⟨fun x hx => ?_, rfl⟩
    obtain ⟨y, hy⟩ := Option.isSome_iff_exists.mp (List.all_eq_true.mp h1 x hx)
    rw [hy]; rfl
  · cases h
theorem optL_of {α β : Type} {d : β} {f : α → Option β} {xs : List α} (h : ∀ x ∈ xs, ∃ y, f x = some y) : optL d f xs = some (xs.map fun x => (f x).getD d) := by
  unfold optL
  rw [if_pos (List.all_eq_true.mpr fun x hx => by obtain ⟨y, hy⟩ := h x hx; rw [hy]; rfl)]
/-- the first that is none -/
theorem optL_none {α β : Type} {d : β} {f : α → Option β} : ∀ {xs : List α}, optL d f xs = none → ∃ k x, xs[k]? = some x ∧ f x = none ∧ ∀ y ∈ xs.take k, f y = some ((f y).getD d)
  | [], h => by cases h
  | x :: xs, h => by
    cases e : f x with
    | none => exact ⟨0, x, rfl, e, fun y hy => by simp at hy⟩
    | some y =>
      have h2 : optL d f xs = none := by
        unfold optL at h ⊢
        split at h
        · cases h
        · rename_i hh
          rw [if_neg]
          intro z
          refine hh ?_
          rw [List.all_cons, e, z]; rfl
      obtain ⟨k, x', h3, h4, h5⟩ := optL_none h2
      refine ⟨k + 1, x', h3, h4, fun z hz => ?_⟩
      rw [List.take_succ_cons] at hz
      rcases List.mem_cons.mp hz with rfl | hz
      · rw [e]; rfl
      · exact h5 z hz
def figsM (w : PySem.Str) : Option (List Nat) := optL 0 figM (Txt.split w "-")
def fD (n : Nat) (ties : List (List Nat)) : PyData := .tuple [natD n, .tuple (ties.map fun l => .tuple (l.map natD))]
def pairOf (l : List Nat) : Int × Int := ((l.getD 0 0 : Nat), (l.getD 1 0 : Nat))
def fmtM (t : Int × Int) : PySem.Str := ((Str.empty ++ sI t.1) ++ "-") ++ sI t.2
def wrM (m : Int) (ties : List (Int × Int)) : PySem.Str := Txt.join " " ([sI m, ":"] ++ ties.map fmtM)
def textStep (acc : PySem.Str) (t : Int × Int) : PySem.Str := ((((acc ++ " ") ++ sI t.1) ++ "-") ++ sI t.2)
def textM (m : Int) (ties : List (Int × Int)) : PySem.Str := ties.foldl textStep (sI m ++ " :")
def readM (t : PySem.Str) : Option (Nat × List (List Nat)) :=
  if (((Txt.split t " ").drop 1).take 1) = [(":" : PySem.Str)] then
    match optL [] figsM ((Txt.split t " ").drop 2), figM ((Txt.split t " ").getD 0 Str.empty) with
    | some ties, some n => if (isWebD (fD n ties) && decide (wrM n (ties.map pairOf) = t)) = true then some (n, ties) else none
    | _, _ => none
  else none
theorem joinL_cons (S p : List Nat) : ∀ (rest : List (List Nat)), joinL S (p :: rest) = p ++ rest.flatMap fun q => S ++ q
  | [] => by simp [joinL]
  | q :: r => by
    show p ++ (S ++ joinL S (q :: r)) = _
    rw [joinL_cons S q r, List.flatMap_cons, List.append_assoc]
theorem tl_sp : tl (" " : PySem.Str) = [32] := by decide +kernel
theorem tl_da : tl ("-" : PySem.Str) = [45] := by decide +kernel
theorem tl_co : tl (":" : PySem.Str) = [58] := by decide +kernel
theorem tl_sc : tl (" :" : PySem.Str) = [32, 58] := by decide +kernel
theorem tl_em : tl (Str.empty : PySem.Str) = [] := by decide +kernel
theorem tl_fmt (t : Int × Int) : tl (fmtM t) = tl (sI t.1) ++ ([45] ++ tl (sI t.2)) := by
  unfold fmtM
  rw [tl_append, tl_append, tl_append, tl_em, tl_da, List.nil_append, List.append_assoc]
theorem tl_text (m : Int) (ties : List (Int × Int)) : tl (textM m ties) = tl (sI m) ++ ([32, 58] ++ ties.flatMap fun t => [32] ++ tl (fmtM t)) := by
  have h : ∀ (l : List (Int × Int)) (acc : PySem.Str), tl (l.foldl textStep acc) = tl acc ++ l.flatMap fun t => [32] ++ tl (fmtM t) := by
    intro l
    induction l with
    | nil => intro acc; simp
    | cons t l ih =>
      intro acc
      rw [List.foldl_cons, ih, List.flatMap_cons, tl_fmt]
      unfold textStep
      rw [tl_append, tl_append, tl_append, tl_append, tl_sp, tl_da]
      simp [List.append_assoc]
  unfold textM
  rw [h, tl_append, tl_sc, List.append_assoc]
theorem tl_wr (m : Int) (ties : List (Int × Int)) : tl (wrM m ties) = tl (sI m) ++ ([32, 58] ++ ties.flatMap fun t => [32] ++ tl (fmtM t)) := by
  unfold wrM
  rw [join_eq, tl_join, tl_sp]
  show joinL [32] (tl (sI m) :: tl (":" : PySem.Str) :: (ties.map fmtM).map tl) = _
  rw [joinL_cons, List.flatMap_cons, tl_co, List.map_map, List.flatMap_map]
  rfl
theorem wr_text (m : Int) (ties : List (Int × Int)) : wrM m ties = textM m ties := ext_tl ((tl_wr m ties).trans (tl_text m ties).symm)
section
variable {m : Nat} {W : List (Int × Int)}
theorem tie_small (w : WebOk m W) (h6 : m ≤ 6) {t : Int × Int} (ht : t ∈ W) : ∃ a b : Nat, t = ((a : Int), (b : Int)) ∧ a < b ∧ b < m ∧ b < 10 := by
  have a := (w.ok t ht).nn
  have b := (w.ok t ht).lt
  have c := (w.ok t ht).le
  refine ⟨t.1.toNat, t.2.toNat, ?_, by omega, by omega, by omega⟩
  rw [Int.toNat_of_nonneg a, Int.toNat_of_nonneg (by omega)]
theorem no_sp (w : WebOk m W) (h6 : m ≤ 6) : ∀ p ∈ [sI m, ":"] ++ W.map fmtM, 32 ∉ tl p := by
  intro p hp
  rcases List.mem_append.mp hp with hp | hp
  · simp only [List.mem_cons, List.not_mem_nil, or_false] at hp
    rcases hp with rfl | rfl
    · exact (dig_cps m (by omega)).1.1
    · rw [tl_co]; decide
  · obtain ⟨t, ht, rfl⟩ := List.mem_map.mp hp
    obtain ⟨a, b, rfl, h1, h2, h3⟩ := tie_small w h6 ht
    rw [tl_fmt]
    have ha := (dig_cps a (by omega)).1.1
    have hb := (dig_cps b (by omega)).1.1
    simp only [List.mem_append, List.mem_cons, List.not_mem_nil, or_false, not_or]
    exact ⟨ha, by decide, hb⟩
theorem split_text (w : WebOk m W) (h6 : m ≤ 6) : Txt.split (textM m W) " " = [sI m, ":"] ++ W.map fmtM := by
  rw [← wr_text]
  exact split_join tl_sp (by decide +kernel) (by simp) (no_sp w h6)
theorem split_fmt {a b : Nat} (ha : a < 10) (hb : b < 10) : Txt.split (fmtM ((a : Int), (b : Int))) "-" = [sI a, sI b] := by
  have e : fmtM ((a : Int), (b : Int)) = Txt.join "-" [sI a, sI b] := ext_tl (by
    rw [tl_fmt, join_eq, tl_join, tl_da]
    rfl)
  rw [e]
  refine split_join tl_da (by decide +kernel) (by simp) fun p hp => ?_
  simp only [List.mem_cons, List.not_mem_nil, or_false] at hp
  rcases hp with rfl | rfl
  · exact (dig_cps a ha).1.2
  · exact (dig_cps b hb).1.2
theorem figs_fmt {a b : Nat} (ha : a < 10) (hb : b < 10) : figsM (fmtM ((a : Int), (b : Int))) = some [a, b] := by
  unfold figsM
  rw [split_fmt ha hb, optL_of fun x hx => ?_]
  · simp only [List.map_cons, List.map_nil, fig_digit a ha, fig_digit b hb, Option.getD_some]
  · simp only [List.mem_cons, List.not_mem_nil, or_false] at hx
    rcases hx with rfl | rfl
    · exact ⟨_, fig_digit a ha⟩
    · exact ⟨_, fig_digit b hb⟩
def natsOf (W : List (Int × Int)) : List (List Nat) := W.map fun t => [t.1.toNat, t.2.toNat]
theorem natsOf_pair (w : WebOk m W) (h6 : m ≤ 6) : (natsOf W).map pairOf = W := by
  unfold natsOf
  rw [List.map_map]
  refine (List.map_congr_left (g := id) fun t ht => ?_).trans (List.map_id W)
  obtain ⟨a, b, rfl, h1, h2, h3⟩ := tie_small w h6 ht
  rfl
theorem fD_nats (w : WebOk m W) (h6 : m ≤ 6) : fD m (natsOf W) = webD m W := by
  unfold fD webD natsOf
  rw [List.map_map]
  have : W.map ((fun l => PyData.tuple (l.map natD)) ∘ fun t => [t.1.toNat, t.2.toNat]) = W.map pairD := List.map_congr_left fun t ht => by
    obtain ⟨a, b, rfl, h1, h2, h3⟩ := tie_small w h6 ht
    rfl
  rw [this]
theorem figs_all (w : WebOk m W) (h6 : m ≤ 6) : optL [] figsM (W.map fmtM) = some (natsOf W) := by
  rw [optL_of fun x hx => ?_]
  · unfold natsOf
    rw [List.map_map]
    congr 1
    refine List.map_congr_left fun t ht => ?_
    obtain ⟨a, b, rfl, h1, h2, h3⟩ := tie_small w h6 ht
    show (figsM (fmtM ((a : Int), (b : Int)))).getD [] = _
    rw [figs_fmt (by omega) h3]
    rfl
  · obtain ⟨t, ht, rfl⟩ := List.mem_map.mp hx
    obtain ⟨a, b, rfl, h1, h2, h3⟩ := tie_small w h6 ht
    exact ⟨_, figs_fmt (by omega) h3⟩
/-- a web's writing is read as it -/
theorem read_text (w : WebOk m W) (h1 : 1 ≤ m) (h6 : m ≤ 6) (h12 : W.length ≤ 12) : readM (textM m W) = some (m, natsOf W) := by
  unfold readM
  rw [split_text w h6]
  have e1 : (([sI m, ":"] ++ W.map fmtM).drop 1).take 1 = [(":" : PySem.Str)] := rfl
  have e2 : ([sI m, ":"] ++ W.map fmtM).drop 2 = W.map fmtM := rfl
  have e3 : ([sI m, ":"] ++ W.map fmtM).getD 0 Str.empty = sI m := rfl
  rw [if_pos e1, e2, e3, figs_all w h6, fig_digit m (by omega)]
  dsimp only
  rw [if_pos]
  rw [fD_nats w h6, web_true w h1 h6 h12, natsOf_pair w h6, wr_text, decide_eq_true rfl]
  rfl
end
/-- what is read is a web, whose writing is the text -/
theorem read_some {t : PySem.Str} {n : Nat} {ties : List (List Nat)} (h : readM t = some (n, ties)) : isWebD (fD n ties) = true ∧ wrM n (ties.map pairOf) = t ∧ ((Txt.split t " ").drop 1).take 1 = [(":" : PySem.Str)] ∧ optL [] figsM ((Txt.split t " ").drop 2) = some ties ∧ figM ((Txt.split t " ").getD 0 Str.empty) = some n := by
  unfold readM at h
  split at h
  · rename_i h1
    split at h
    · rename_i ties' n' e1 e2
      split at h
      · rename_i h2
        cases h
        obtain ⟨h3, h4⟩ := Bool.and_eq_true_iff.mp h2
        exact ⟨h3, of_decide_eq_true h4, h1, e1, e2⟩
      · cases h
    · cases h
  · cases h
theorem webD_small {n : Nat} {ties : List (List Nat)} (h : isWebD (fD n ties) = true) : fD n ties = webD n (ties.map pairOf) ∧ 1 ≤ n ∧ n ≤ 6 ∧ ties.length ≤ 12 ∧ ∀ t ∈ ties.map pairOf, ∃ a b : Nat, t = ((a : Int), (b : Int)) ∧ a < 10 ∧ b < 10 := by
  have h' : (isNumD (.int (n : Int)) 1 6 && decide ((ties.map fun l => PyData.tuple (l.map natD)).length ≤ 12) && (ties.map fun l => PyData.tuple (l.map natD)).all (isTieD · n) && risB ltP2 (0, 0) ((ties.map fun l => PyData.tuple (l.map natD)).map toPair)) = true := h
  simp only [Bool.and_eq_true, decide_eq_true_eq, List.length_map] at h'
  obtain ⟨⟨⟨h1, h2⟩, h3⟩, _⟩ := h'
  have h1 : (decide ((1 : Int) ≤ n) && decide ((n : Int) ≤ 6)) = true := h1
  simp only [Bool.and_eq_true, decide_eq_true_eq] at h1
  have two : ∀ l ∈ ties, ∃ a b : Nat, l = [a, b] ∧ a < 10 ∧ b < 10 := fun l hl => by
    have := List.all_eq_true.mp h3 _ (List.mem_map.mpr ⟨l, hl, rfl⟩)
    match l, this with
    | [a, b], this =>
      have q : (isNumD (.int (a : Int)) 0 (n - 1) && isNumD (.int (b : Int)) (a + 1) (n - 1)) = true := this
      obtain ⟨q1, q2⟩ := Bool.and_eq_true_iff.mp q
      have q2 : (decide ((a : Int) + 1 ≤ b) && decide ((b : Int) ≤ n - 1)) = true := q2
      simp only [Bool.and_eq_true, decide_eq_true_eq] at q2
      exact ⟨a, b, rfl, by omega, by omega⟩
    | [], this => cases this
    | [a], this => cases this
    | a :: b :: c :: r, this => cases this
  refine ⟨?_, by omega, by omega, h2, fun t ht => ?_⟩
  · unfold fD webD
    rw [List.map_map]
    have : (ties.map fun l => PyData.tuple (l.map natD)) = ties.map (pairD ∘ pairOf) := List.map_congr_left fun l hl => by
      obtain ⟨a, b, rfl, _⟩ := two l hl
      rfl
    rw [this]
  · obtain ⟨l, hl, rfl⟩ := List.mem_map.mp ht
    obtain ⟨a, b, rfl, ha, hb⟩ := two l hl
    exact ⟨a, b, rfl, ha, hb⟩
end DL

set_option Elab.async false
set_option linter.all false
set_option maxRecDepth 100000
set_option maxHeartbeats 4000000
namespace DL
open PySem PySem.Spec L2 TL
set_option autoImplicit false
/-! ### sizes, signs -/
structure SmW (m : Nat) (W : List (Int × Int)) : Prop where
  m10 : m < 10
  len : W.length ≤ 12
  two : ∀ t ∈ W, ∃ a b : Nat, t = ((a : Int), (b : Int)) ∧ a < 10 ∧ b < 10
theorem log_small {n : Nat} (h : n < 1920) : ((n : Int)).natAbs.log2 < 1920 := Nat.lt_of_le_of_lt (Nat.log2_le_self _) (by omega)
theorem len_sI {n : Nat} (h : n < 10) : (sI n).length = 1 := (len_tl _).trans (dig_cps n h).2.1
theorem len_fmt {a b : Nat} (ha : a < 10) (hb : b < 10) : (fmtM ((a : Int), (b : Int))).length = 3 := by
  rw [len_tl, tl_fmt, List.length_append, List.length_append, (dig_cps a ha).2.1, (dig_cps b hb).2.1]
  rfl
theorem sum_le {α : Type} {f : α → Nat} {c : Nat} : ∀ {l : List α}, (∀ x ∈ l, f x ≤ c) → (l.map f).sum ≤ c * l.length
  | [], _ => by simp
  | x :: l, h => by
    have h1 := h x List.mem_cons_self
    have h2 := sum_le (f := f) (c := c) (l := l) fun y hy => h y (List.mem_cons_of_mem _ hy)
    rw [List.map_cons, List.sum_cons, List.length_cons, Nat.mul_add]
    omega
theorem SmW.sum {m : Nat} {W : List (Int × Int)} (s : SmW m W) : ((([sI m, (":" : PySem.Str)] ++ W.map fmtM)).map (·.length)).sum + ([sI m, (":" : PySem.Str)] ++ W.map fmtM).length * (" " : PySem.Str).length ≤ 16777216 := by
  have h1 := sum_le (f := fun x : PySem.Str => x.length) (c := 3) (l := [sI m, (":" : PySem.Str)] ++ W.map fmtM) fun x hx => by
    rcases List.mem_append.mp hx with hx | hx
    · simp only [List.mem_cons, List.not_mem_nil, or_false] at hx
      rcases hx with rfl | rfl
      · rw [len_sI s.m10]; decide
      · rw [len_tl, tl_co]; decide
    · obtain ⟨t, ht, rfl⟩ := List.mem_map.mp hx
      obtain ⟨a, b, rfl, ha, hb⟩ := s.two t ht
      rw [len_fmt ha hb]
      exact Nat.le_refl _
  have h2 : ([sI m, (":" : PySem.Str)] ++ W.map fmtM).length = 2 + W.length := by rw [List.length_append, List.length_map]; rfl
  have h3 := s.len
  have h4 : (" " : PySem.Str).length = 1 := by rw [len_tl, tl_sp]; rfl
  rw [h4]
  omega
theorem flat_len {W : List (Int × Int)} (h : ∀ t ∈ W, ∃ a b : Nat, t = ((a : Int), (b : Int)) ∧ a < 10 ∧ b < 10) : (W.flatMap fun t => [32] ++ tl (fmtM t)).length = 4 * W.length := by
  induction W with
  | nil => rfl
  | cons t W ih =>
    obtain ⟨a, b, rfl, ha, hb⟩ := h t List.mem_cons_self
    have := len_fmt ha hb
    rw [len_tl] at this
    rw [List.flatMap_cons, List.length_append, List.length_append, this, ih fun t ht => h t (List.mem_cons_of_mem _ ht), List.length_cons]
    simp
    omega
theorem SmW.tlen {m : Nat} {W : List (Int × Int)} (s : SmW m W) : (textM m W).length = 3 + 4 * W.length := by
  rw [len_tl, tl_text, List.length_append, List.length_append, (dig_cps m s.m10).2.1, flat_len s.two]
  simp
  omega
theorem SmW.ok {m : Nat} {W : List (Int × Int)} (s : SmW m W) : okS (textM m W) := by
  intro c hc
  have hc : c ∈ tl (textM m W) := hc
  rw [tl_text] at hc
  rcases List.mem_append.mp hc with hc | hc
  · have := (dig_cps m s.m10).2.2 c hc
    omega
  · rcases List.mem_append.mp hc with hc | hc
    · simp at hc; omega
    · obtain ⟨t, ht, hc⟩ := List.mem_flatMap.mp hc
      obtain ⟨a, b, rfl, ha, hb⟩ := s.two t ht
      rw [tl_fmt] at hc
      simp only [List.mem_append, List.mem_cons, List.not_mem_nil, or_false] at hc
      rcases hc with rfl | hc | rfl | hc
      · decide
      · have := (dig_cps a ha).2.2 c hc
        omega
      · decide
      · have := (dig_cps b hb).2.2 c hc
        omega
theorem smw_of {m : Nat} {W : List (Int × Int)} (w : WebOk m W) (h6 : m ≤ 6) (h12 : W.length ≤ 12) : SmW m W := ⟨by omega, h12, fun t ht => by
  obtain ⟨a, b, e, h1, h2, h3⟩ := tie_small w h6 ht
  exact ⟨a, b, e, by omega, h3⟩⟩
/-! the parts of a text -/
theorem spl_sub (S : List Nat) : ∀ (xs : List Nat) (k : Nat) (acc : List Nat), ∀ p ∈ spl S k acc xs, ∀ c ∈ p, c ∈ acc ∨ c ∈ xs
  | [], k, acc, p, hp, c, hc => by
    have : spl S k acc [] = [acc] := by cases k <;> rfl
    rw [this, List.mem_singleton] at hp
    subst hp
    exact .inl hc
  | x :: xs, 0, acc, p, hp, c, hc => by
    have e : spl S 0 acc (x :: xs) = if pre S (x :: xs) = true then acc :: spl S (S.length - 1) [] xs else spl S 0 (acc ++ [x]) xs := rfl
    rw [e] at hp
    split at hp
    · rcases List.mem_cons.mp hp with rfl | hp
      · exact .inl hc
      · rcases spl_sub S xs _ _ p hp c hc with h | h
        · cases h
        · exact .inr (List.mem_cons_of_mem _ h)
    · rcases spl_sub S xs _ _ p hp c hc with h | h
      · rcases List.mem_append.mp h with h | h
        · exact .inl h
        · rw [List.mem_singleton] at h
          exact .inr (h ▸ List.mem_cons_self)
      · exact .inr (List.mem_cons_of_mem _ h)
  | x :: xs, k + 1, acc, p, hp, c, hc => by
    have e : spl S (k + 1) acc (x :: xs) = spl S k acc xs := rfl
    rw [e] at hp
    rcases spl_sub S xs _ _ p hp c hc with h | h
    · exact .inl h
    · exact .inr (List.mem_cons_of_mem _ h)
theorem split_sub {x y : PySem.Str} (hy : tl y ≠ []) (hk : y.cps.all (· < 256) = true) {p : PySem.Str} (hp : p ∈ Txt.split x y) : ∀ c ∈ tl p, c ∈ tl x := fun c hc => by
  have e := split_spl x y hy (kind_ok hk)
  have : tl p ∈ (Txt.split x y).map tl := List.mem_map.mpr ⟨p, hp, rfl⟩
  rw [e] at this
  rcases spl_sub _ _ _ _ _ this c hc with h | h
  · cases h
  · exact h
theorem okS.split {x : PySem.Str} (h : okS x) : ∀ p ∈ Txt.split x " ", okS p := fun p hp c hc => h c (split_sub (y := " ") (by rw [tl_sp]; simp) (by decide +kernel) hp c hc)
/-! a text spoilt -/
def atM (t : PySem.Str) (z : Int) : Nat := (z / 4 % ((t.length : Int) + 1)).toNat
def signs : PySem.Str := "0157:- ,ax"
def signM (z : Int) : PySem.Str := ⟨#[(tl signs).getD (z / 512 % 10).toNat 0]⟩
def spoilM (t : PySem.Str) (z : Int) : PySem.Str :=
  if z % 4 = 0 then L2.cutS t none (some (atM t z : Int)) ++ L2.cutS t (some ((atM t z : Int) + 1)) none
  else if z % 4 = 1 then (L2.cutS t none (some (atM t z : Int)) ++ L2.cutS t (some (atM t z : Int)) (some ((atM t z : Int) + 1))) ++ L2.cutS t (some (atM t z : Int)) none
  else (L2.cutS t none (some (atM t z : Int)) ++ signM z) ++ L2.cutS t (some ((atM t z : Int) + z % 4 - 2)) none
theorem cutS_sub (t : PySem.Str) (lo hi : Option Int) : (∀ c ∈ tl (L2.cutS t lo hi), c ∈ tl t) ∧ (L2.cutS t lo hi).length ≤ t.length := by
  have e : tl (L2.cutS t lo hi) = ((tl t).drop (HT.sIx t.length 0 lo)).take (HT.sIx t.length t.length hi - HT.sIx t.length 0 lo) := by
    show (L2.cutS t lo hi).cps.toList = _
    unfold L2.cutS
    simp
  refine ⟨fun c hc => ?_, ?_⟩
  · rw [e] at hc
    exact List.mem_of_mem_drop (List.mem_of_mem_take hc)
  · rw [len_tl, e, len_tl t, List.length_take, List.length_drop]
    omega
theorem sign_len (z : Int) : (signM z).length = 1 := rfl
theorem sign_ok (z : Int) : okS (signM z) := by
  intro c hc
  have hc : c ∈ [(tl signs).getD (z / 512 % 10).toNat 0] := hc
  rw [List.mem_singleton] at hc
  have h : (List.range 10).all (fun i => decide ((tl signs).getD i 0 < 256)) = true := by decide +kernel
  have hi : (z / 512 % 10).toNat < 10 := by have := Int.emod_lt_of_pos (z / 512) (show (0 : Int) < 10 by decide); have := Int.emod_nonneg (z / 512) (show (10 : Int) ≠ 0 by decide); omega
  have := of_decide_eq_true (List.all_eq_true.mp h _ (List.mem_range.mpr hi))
  omega
theorem sign_at (z : Int) : L2.atI signs.cps.toList (z / 512 % 10) = some ((tl signs).getD (z / 512 % 10).toNat 0) := by
  have h0 := Int.emod_nonneg (z / 512) (show (10 : Int) ≠ 0 by decide)
  have h1 := Int.emod_lt_of_pos (z / 512) (show (0 : Int) < 10 by decide)
  have e : z / 512 % 10 = (((z / 512 % 10).toNat : Nat) : Int) := by omega
  have hl : (tl signs).length = 10 := by decide +kernel
  have := L2.atI_nat (j := (z / 512 % 10).toNat) (xs := signs.cps.toList) (v := (tl signs).getD (z / 512 % 10).toNat 0) (by
    rw [List.getD_eq_getElem?_getD]
    show (tl signs)[_]? = _
    rw [List.getElem?_eq_getElem (by omega)]; rfl)
  rw [← e] at this
  exact this
theorem app_len (x y : PySem.Str) : (x ++ y).length = x.length + y.length := by rw [len_tl, tl_append, List.length_append, ← len_tl, ← len_tl]
theorem okS.app {x y : PySem.Str} (hx : okS x) (hy : okS y) : okS (x ++ y) := fun c hc => by
  have hc : c ∈ tl (x ++ y) := hc
  rw [tl_append] at hc
  rcases List.mem_append.mp hc with h | h
  · exact hx c h
  · exact hy c h
theorem okS.cut {x : PySem.Str} (hx : okS x) (lo hi : Option Int) : okS (L2.cutS x lo hi) := fun c hc => hx c ((cutS_sub x lo hi).1 c hc)
theorem spoil_ok {t : PySem.Str} (z : Int) (h : okS t) : okS (spoilM t z) ∧ (spoilM t z).length ≤ 3 * t.length + 1 := by
  have c := fun lo hi => (cutS_sub t lo hi).2
  unfold spoilM
  split
  · exact ⟨(h.cut _ _).app (h.cut _ _), by rw [app_len]; have := c none (some (atM t z : Int)); have := c (some ((atM t z : Int) + 1)) none; omega⟩
  · split
    · exact ⟨((h.cut _ _).app (h.cut _ _)).app (h.cut _ _), by rw [app_len, app_len]; have := c none (some (atM t z : Int)); have := c (some (atM t z : Int)) (some ((atM t z : Int) + 1)); have := c (some (atM t z : Int)) none; omega⟩
    · exact ⟨((h.cut _ _).app (sign_ok z)).app (h.cut _ _), by rw [app_len, app_len, sign_len]; have := c none (some (atM t z : Int)); have := c (some ((atM t z : Int) + z % 4 - 2)) none; omega⟩
theorem at_nat (t : PySem.Str) (z : Int) : z / 4 % ((t.length : Int) + 1) = (atM t z : Int) := by
  unfold atM
  have := Int.emod_nonneg (z / 4) (show ((t.length : Int) + 1) ≠ 0 by omega)
  omega
/-! contracts -/
def rFig (ds : List PyData) (d : PyData) : Prop := ∃ (w : PySem.Str) (n : Nat), ds = [.str w] ∧ figM w = some n ∧ d = natD n
def rFigX (ds : List PyData) : Prop := ∃ w : PySem.Str, ds = [.str w] ∧ figM w = none
def rWritten (ds : List PyData) (d : PyData) : Prop := ∃ (m : Nat) (W : List (Int × Int)), ds = [webD m W] ∧ SmW m W ∧ d = .str (wrM m W)
def rText (ds : List PyData) (d : PyData) : Prop := ∃ (m : Nat) (W : List (Int × Int)), ds = [webD m W] ∧ SmW m W ∧ d = .str (textM m W)
def rRead (ds : List PyData) (d : PyData) : Prop := ∃ (t : PySem.Str) (n : Nat) (ties : List (List Nat)), ds = [.str t] ∧ okS t ∧ t.length ≤ 1000 ∧ readM t = some (n, ties) ∧ d = webD n (ties.map pairOf)
def rReadX (ds : List PyData) : Prop := ∃ t : PySem.Str, ds = [.str t] ∧ okS t ∧ t.length ≤ 1000 ∧ readM t = none
def foundD : Option (Nat × List (List Nat)) → PyData
  | none => .none
  | some x => webD x.1 (x.2.map pairOf)
def rLRead (ds : List PyData) (d : PyData) : Prop := ∃ t : PySem.Str, ds = [.str t] ∧ okS t ∧ t.length ≤ 1000 ∧ d = foundD (readM t)
def rSpoil (ds : List PyData) (d : PyData) : Prop := ∃ (t : PySem.Str) (z : Int), ds = [.str t, .int z] ∧ t.length ≤ 100 ∧ d = .str (spoilM t z)
theorem find_map {α β : Type} (p : α → Bool) (f : α → β) : ∀ l : List α, l.findSome? (fun x => if p x = true then some (f x) else none) = (l.find? p).map f
  | [] => rfl
  | x :: l => by
    rw [List.findSome?_cons, List.find?_cons]
    cases h : p x with
    | true => rfl
    | false => simp only [Bool.false_eq_true, if_false]; exact find_map p f l
theorem cut_two {α : Type} (xs : List α) : cutD xs (some 1) (some 2) = (xs.drop 1).take 1 := by
  have h1 : HT.sIx xs.length 0 (some ((1 : Nat) : Int)) = min 1 xs.length := HT.sIx_nat _ _ _
  have h2 : HT.sIx xs.length xs.length (some ((2 : Nat) : Int)) = min 2 xs.length := HT.sIx_nat _ _ _
  show (xs.drop (HT.sIx xs.length 0 (some ((1 : Nat) : Int)))).take (HT.sIx xs.length xs.length (some ((2 : Nat) : Int)) - HT.sIx xs.length 0 (some ((1 : Nat) : Int))) = _
  rw [h1, h2]
  match xs with
  | [] => rfl
  | [a] => rfl
  | a :: b :: l =>
    have e1 : min 1 (a :: b :: l).length = 1 := by simp
    have e2 : min 2 (a :: b :: l).length = 2 := by simp
    rw [e1, e2]
theorem cut_from2 {α : Type} (xs : List α) : cutD xs (some 2) none = xs.drop 2 := by
  have h1 : HT.sIx xs.length 0 (some ((2 : Nat) : Int)) = min 2 xs.length := HT.sIx_nat _ _ _
  show (xs.drop (HT.sIx xs.length 0 (some ((2 : Nat) : Int)))).take (HT.sIx xs.length xs.length none - HT.sIx xs.length 0 (some ((2 : Nat) : Int))) = _
  rw [h1, HT.sIx_none]
  match xs with
  | [] => rfl
  | [a] => rfl
  | a :: b :: l =>
    have e1 : min 2 (a :: b :: l).length = 2 := by simp
    rw [e1, List.take_of_length_le (by rw [List.length_drop]; exact Nat.le_refl _)]
theorem nc_strs' {ws : List PySem.Str} (h : ∀ w ∈ ws, okS w) : Nc 1 (.list (ws.map .str)) := nc_lst (nc_strs ws fun w hw => (h w hw).ok)
theorem eqv_strs : ∀ (a b : List PySem.Str), PyData.eqv (.list (a.map .str)) (.list (b.map .str)) = decide (a = b)
  | [], [] => rfl
  | [], _ :: _ => rfl
  | _ :: _, [] => rfl
  | x :: a, y :: b => by
    have h : PyData.eqv (.list ((x :: a).map .str)) (.list ((y :: b).map .str)) = (PyData.eqv (.str x) (.str y) && PyData.eqv (.list (a.map .str)) (.list (b.map .str))) := rfl
    rw [h, eqv_str, eqv_strs a b, Bool.eq_iff_iff]
    simp
end DL

set_option Elab.async false
set_option linter.all false
set_option maxRecDepth 100000
set_option maxHeartbeats 4000000
namespace DL
open PySem PySem.Spec L2
set_option autoImplicit false
def topS (i : Nat) : Stmt := PySem.Challenge.pw_pageties_k02_whole_texts.main.body.getD i (.Pass ⟨0, 0, 0, 0⟩)
theorem f_num {m : Md} {f : Addr} {fd : FuncData} (B : Blt m) (F : Fun m.K "is_number" "is_number" (topS 5) f fd) (hb : Binds m.K fd ["thing", "least", "most"] []) (hm : m.mg "is_number" = some (.ref f)) : Fn m "is_number" 1 rNum :=
  fn_ok (N := ["thing", "least", "most"]) F hb hm ⟨rfl, rfl, rfl, by decide +kernel, rfl, by decide +kernel, by decide +kernel⟩ (by decide +kernel) (fun ds d ⟨_, _, _, h, _⟩ => by rw [h]; rfl) fun ds d ⟨x, lo, hi, h, hl, hd⟩ => by
    subst h hd
    cases x with
    | int i => exact (dss_end (ds_ret (DV.conv (dv_and (dv_isi B (by first | decide +kernel | (dsimp only [Ct.blk, locB]; decide +kernel)) (.int B) (by first | decide +kernel | (dsimp only [Ct.blk, locB]; decide +kernel)) (dv_n 0 rfl (by first | decide +kernel | (dsimp only [Ct.blk, locB]; decide +kernel)) rfl) rfl) (fun _ => (dv_and (dv_not (dv_isi B (by first | decide +kernel | (dsimp only [Ct.blk, locB]; decide +kernel)) (.bool B) (by first | decide +kernel | (dsimp only [Ct.blk, locB]; decide +kernel)) (dv_n 0 rfl (by first | decide +kernel | (dsimp only [Ct.blk, locB]; decide +kernel)) rfl) rfl)) (fun _ => (dv_bop1 (dv_ch .le .le (dv_n 1 rfl (by first | decide +kernel | (dsimp only [Ct.blk, locB]; decide +kernel)) rfl) (dv_n 0 rfl (by first | decide +kernel | (dsimp only [Ct.blk, locB]; decide +kernel)) rfl) (dv_n 2 rfl (by first | decide +kernel | (dsimp only [Ct.blk, locB]; decide +kernel)) rfl))))))) rfl)))
    | bool k => exact (dss_end (ds_ret (DV.conv (dv_and (j := false) (dv_isi B (by first | decide +kernel | (dsimp only [Ct.blk, locB]; decide +kernel)) (.int B) (by first | decide +kernel | (dsimp only [Ct.blk, locB]; decide +kernel)) (dv_n 0 rfl (by first | decide +kernel | (dsimp only [Ct.blk, locB]; decide +kernel)) rfl) rfl) (fun _ => (dv_and (k := false) (j := false) (DV.conv (dv_not (dv_isi (x := .bool k) B (by first | decide +kernel | (dsimp only [Ct.blk, locB]; decide +kernel)) (.bool B) (by first | decide +kernel | (dsimp only [Ct.blk, locB]; decide +kernel)) (dv_n 0 rfl (by first | decide +kernel | (dsimp only [Ct.blk, locB]; decide +kernel)) rfl) rfl)) rfl) (fun h => by cases h)))) rfl)))
    | dict _ => cases hl
    | none => exact (dss_end (ds_ret (DV.conv (dv_and (j := false) (dv_isi B (by first | decide +kernel | (dsimp only [Ct.blk, locB]; decide +kernel)) (.int B) (by first | decide +kernel | (dsimp only [Ct.blk, locB]; decide +kernel)) (dv_n 0 rfl (by first | decide +kernel | (dsimp only [Ct.blk, locB]; decide +kernel)) rfl) rfl) (fun h => by cases h)) rfl)))
    | str _ => exact (dss_end (ds_ret (DV.conv (dv_and (j := false) (dv_isi B (by first | decide +kernel | (dsimp only [Ct.blk, locB]; decide +kernel)) (.int B) (by first | decide +kernel | (dsimp only [Ct.blk, locB]; decide +kernel)) (dv_n 0 rfl (by first | decide +kernel | (dsimp only [Ct.blk, locB]; decide +kernel)) rfl) rfl) (fun h => by cases h)) rfl)))
    | list _ => exact (dss_end (ds_ret (DV.conv (dv_and (j := false) (dv_isi B (by first | decide +kernel | (dsimp only [Ct.blk, locB]; decide +kernel)) (.int B) (by first | decide +kernel | (dsimp only [Ct.blk, locB]; decide +kernel)) (dv_n 0 rfl (by first | decide +kernel | (dsimp only [Ct.blk, locB]; decide +kernel)) rfl) rfl) (fun h => by cases h)) rfl)))
    | tuple _ => exact (dss_end (ds_ret (DV.conv (dv_and (j := false) (dv_isi B (by first | decide +kernel | (dsimp only [Ct.blk, locB]; decide +kernel)) (.int B) (by first | decide +kernel | (dsimp only [Ct.blk, locB]; decide +kernel)) (dv_n 0 rfl (by first | decide +kernel | (dsimp only [Ct.blk, locB]; decide +kernel)) rfl) rfl) (fun h => by cases h)) rfl)))
theorem f_rising {m : Md} {f : Addr} {fd : FuncData} (B : Blt m) (F : Fun m.K "is_rising" "is_rising" (topS 6) f fd) (hb : Binds m.K fd ["some"] []) (hm : m.mg "is_rising" = some (.ref f)) : Fn m "is_rising" 1 rRising :=
  fn_ok (N := ["some", "k"]) F hb hm ⟨rfl, rfl, rfl, by decide +kernel, rfl, by decide +kernel, by decide +kernel⟩ (by decide +kernel) (fun ds d h => by rcases h with ⟨_, h, _⟩ | ⟨_, h, _⟩ <;> (rw [h]; rfl)) fun ds d h => by
    rcases h with ⟨ns, h, hz, hd⟩ | ⟨ps, h, hz, hd⟩
    · subst h hd
      have hlen : (ns.map PyData.int).length = ns.length := List.length_map _
      refine (dss_end (ds_ret (DV.conv (dv_all B (by first | decide +kernel | (dsimp only [Ct.blk, locB]; decide +kernel)) (dn_dv (DN.conv (dn_lc1 1 [("k", 1)] (by first | decide +kernel | (dsimp only [Ct.blk, locB]; decide +kernel)) (di_rng2 (m := 1) B (by first | decide +kernel | (dsimp only [Ct.blk, locB]; decide +kernel)) dv_int (dv_lent B (by first | decide +kernel | (dsimp only [Ct.blk, locB]; decide +kernel)) (dv_n 0 rfl (by first | decide +kernel | (dsimp only [Ct.blk, locB]; decide +kernel)) rfl) (.tup _)) (by decide) (by rw [hlen]; omega)) (dg_one 1 rfl (by first | decide +kernel | (dsimp only [Ct.blk, locB]; decide +kernel))) (turns_mapT natD (fun k => .bool (ltI (ns.getD (k - 1) 0) (ns.getD k 0))) _ (fun x hx => ⟨_, rfl, ?e⟩)) ?sz) (show _ = ((((List.range (ns.length - 1)).map (1 + ·)).map fun k => ltI (ns.getD (k - 1) 0) (ns.getD k 0)).map PyData.bool) by rw [hlen]; simp only [List.map_map]; rfl)))) ?ret)))
      case e =>
        obtain ⟨k, hk, rfl⟩ := List.mem_map.mp hx
        rw [List.mem_range, hlen] at hk
        have g : ∀ {j : Nat}, j < ns.length → L2.atI (ns.map PyData.int) (j : Int) = some (.int (ns.getD j 0)) := fun {j} h => L2.atI_nat (by rw [List.getElem?_map, List.getD_eq_getElem?_getD, List.getElem?_eq_getElem h]; rfl)
        exact (dv_c (dc_lt (dv_ixt (dv_n 0 rfl (by first | decide +kernel | (dsimp only [Ct.blk, locB]; decide +kernel)) rfl) (DV.conv (dv_sub (dv_n 1 rfl (by first | decide +kernel | (dsimp only [Ct.blk, locB]; decide +kernel)) rfl) dv_int) (show PyData.int (((1 + k : Nat) : Int) - 1) = .int ((1 + k - 1 : Nat) : Int) by congr 1; omega)) (g (by omega))) (dv_ixt (dv_n 0 rfl (by first | decide +kernel | (dsimp only [Ct.blk, locB]; decide +kernel)) rfl) (dv_n 1 rfl (by first | decide +kernel | (dsimp only [Ct.blk, locB]; decide +kernel)) rfl) (g (by omega)))))
      case sz => simp; omega
      case ret => rw [List.all_map]; rfl
    · subst h hd
      have hlen : (ps.map pairD).length = ps.length := List.length_map _
      refine (dss_end (ds_ret (DV.conv (dv_all B (by first | decide +kernel | (dsimp only [Ct.blk, locB]; decide +kernel)) (dn_dv (DN.conv (dn_lc1 1 [("k", 1)] (by first | decide +kernel | (dsimp only [Ct.blk, locB]; decide +kernel)) (di_rng2 (m := 1) B (by first | decide +kernel | (dsimp only [Ct.blk, locB]; decide +kernel)) dv_int (dv_lent B (by first | decide +kernel | (dsimp only [Ct.blk, locB]; decide +kernel)) (dv_n 0 rfl (by first | decide +kernel | (dsimp only [Ct.blk, locB]; decide +kernel)) rfl) (.tup _)) (by decide) (by rw [hlen]; omega)) (dg_one 1 rfl (by first | decide +kernel | (dsimp only [Ct.blk, locB]; decide +kernel))) (turns_mapT natD (fun k => .bool (ltP2 (ps.getD (k - 1) (0, 0)) (ps.getD k (0, 0)))) _ (fun x hx => ⟨_, rfl, ?e⟩)) ?sz) (show _ = ((((List.range (ps.length - 1)).map (1 + ·)).map fun k => ltP2 (ps.getD (k - 1) (0, 0)) (ps.getD k (0, 0))).map PyData.bool) by rw [hlen]; simp only [List.map_map]; rfl)))) ?ret)))
      case e =>
        obtain ⟨k, hk, rfl⟩ := List.mem_map.mp hx
        rw [List.mem_range, hlen] at hk
        have g : ∀ {j : Nat}, j < ps.length → L2.atI (ps.map pairD) (j : Int) = some (pairD (ps.getD j (0, 0))) := fun {j} h => L2.atI_nat (by rw [List.getElem?_map, List.getD_eq_getElem?_getD, List.getElem?_eq_getElem h]; rfl)
        exact (dv_c (dc_ltt (ns := [_, _]) (ms := [_, _]) (dv_ixt (dv_n 0 rfl (by first | decide +kernel | (dsimp only [Ct.blk, locB]; decide +kernel)) rfl) (DV.conv (dv_sub (dv_n 1 rfl (by first | decide +kernel | (dsimp only [Ct.blk, locB]; decide +kernel)) rfl) dv_int) (show PyData.int (((1 + k : Nat) : Int) - 1) = .int ((1 + k - 1 : Nat) : Int) by congr 1; omega)) (g (by omega))) (dv_ixt (dv_n 0 rfl (by first | decide +kernel | (dsimp only [Ct.blk, locB]; decide +kernel)) rfl) (dv_n 1 rfl (by first | decide +kernel | (dsimp only [Ct.blk, locB]; decide +kernel)) rfl) (g (by omega)))))
      case sz => simp; omega
      case ret => rw [List.all_map]; rfl
theorem f_tie {m : Md} {f : Addr} {fd : FuncData} (B : Blt m) (F_num : Fn m "is_number" 1 rNum) (F : Fun m.K "is_tie" "is_tie" (topS 7) f fd) (hb : Binds m.K fd ["thing", "many"] []) (hm : m.mg "is_tie" = some (.ref f)) : Fn m "is_tie" 2 rTie :=
  fn_ok (N := ["thing", "many"]) F hb hm ⟨rfl, rfl, rfl, by decide +kernel, rfl, by decide +kernel, by decide +kernel⟩ (by decide +kernel) (fun ds d ⟨_, _, h, _⟩ => by rw [h]; rfl) fun ds d ⟨x, mm, h, hl, hd⟩ => by
    subst h hd
    by_cases c : ∃ l, x = .tuple l
    · obtain ⟨l, rfl⟩ := c
      refine (dss_if (dt_w (dw_or (dt_not (dt_val (dv_isi B (by first | decide +kernel | (dsimp only [Ct.blk, locB]; decide +kernel)) (.tuple B) (by first | decide +kernel | (dsimp only [Ct.blk, locB]; decide +kernel)) (dv_n 0 rfl (by first | decide +kernel | (dsimp only [Ct.blk, locB]; decide +kernel)) rfl) rfl))) (fun _ => (dw_or1 (dt_c (dc_ne (dv_lent B (by first | decide +kernel | (dsimp only [Ct.blk, locB]; decide +kernel)) (dv_n 0 rfl (by first | decide +kernel | (dsimp only [Ct.blk, locB]; decide +kernel)) rfl) (.tup _)) dv_int (nc_int _).sh (by rfl))))))) (fun hb => ⟨_, ?o, (dss_end (ds_ret dv_bl))⟩) (fun hb => ?r))
      case o =>
        have : l.length ≠ 2 := fun e => by rw [e] at hb; cases hb
        have : isTieD (.tuple l) mm = false := tie_len this
        rw [this]
      case r =>
        have h2 : l.length = 2 := by
          have := (Bool.or_eq_false_iff.mp hb).2
          unfold natD at this
          rw [eqv_int] at this
          simp at this
          omega
        match l, h2 with
        | [p, q], _ =>
          have lp : lay p := hl.tup p (by simp)
          have lq : lay q := hl.tup q (by simp)
          cases p with
          | int i => exact (dss_end (ds_ret (DV.conv (dv_and (dv_call F_num (by dsimp only [Ct.blk]; omega) (by first | decide +kernel | (dsimp only [Ct.blk, locB]; decide +kernel)) (da_cons (dv_ixt (dv_n 0 rfl (by first | decide +kernel | (dsimp only [Ct.blk, locB]; decide +kernel)) rfl) dv_int (d := .int i) rfl) (da_cons dv_int (da_cons (dv_sub (dv_n 1 rfl (by first | decide +kernel | (dsimp only [Ct.blk, locB]; decide +kernel)) rfl) dv_int) da_nil))) ⟨_, _, _, rfl, lp, rfl⟩) (fun _ => (dv_bop1 (dv_call F_num (by dsimp only [Ct.blk]; omega) (by first | decide +kernel | (dsimp only [Ct.blk, locB]; decide +kernel)) (da_cons (dv_ixt (dv_n 0 rfl (by first | decide +kernel | (dsimp only [Ct.blk, locB]; decide +kernel)) rfl) dv_int (d := q) rfl) (da_cons (dv_addi (dv_ixt (dv_n 0 rfl (by first | decide +kernel | (dsimp only [Ct.blk, locB]; decide +kernel)) rfl) dv_int (d := .int i) rfl) dv_int) (da_cons (dv_sub (dv_n 1 rfl (by first | decide +kernel | (dsimp only [Ct.blk, locB]; decide +kernel)) rfl) dv_int) da_nil))) ⟨_, _, _, rfl, lq, rfl⟩)))) rfl)))
          | dict _ => cases lp
          | none => exact (dss_end (ds_ret (DV.conv (dv_and (j := false) (dv_call F_num (by dsimp only [Ct.blk]; omega) (by first | decide +kernel | (dsimp only [Ct.blk, locB]; decide +kernel)) (da_cons (dv_ixt (dv_n 0 rfl (by first | decide +kernel | (dsimp only [Ct.blk, locB]; decide +kernel)) rfl) dv_int (d := .none) rfl) (da_cons dv_int (da_cons (dv_sub (dv_n 1 rfl (by first | decide +kernel | (dsimp only [Ct.blk, locB]; decide +kernel)) rfl) dv_int) da_nil))) ⟨_, _, _, rfl, lp, rfl⟩) (fun h => by cases h)) rfl)))
          | bool k => exact (dss_end (ds_ret (DV.conv (dv_and (j := false) (dv_call F_num (by dsimp only [Ct.blk]; omega) (by first | decide +kernel | (dsimp only [Ct.blk, locB]; decide +kernel)) (da_cons (dv_ixt (dv_n 0 rfl (by first | decide +kernel | (dsimp only [Ct.blk, locB]; decide +kernel)) rfl) dv_int (d := .bool k) rfl) (da_cons dv_int (da_cons (dv_sub (dv_n 1 rfl (by first | decide +kernel | (dsimp only [Ct.blk, locB]; decide +kernel)) rfl) dv_int) da_nil))) ⟨_, _, _, rfl, lp, rfl⟩) (fun h => by cases h)) rfl)))
          | str k => exact (dss_end (ds_ret (DV.conv (dv_and (j := false) (dv_call F_num (by dsimp only [Ct.blk]; omega) (by first | decide +kernel | (dsimp only [Ct.blk, locB]; decide +kernel)) (da_cons (dv_ixt (dv_n 0 rfl (by first | decide +kernel | (dsimp only [Ct.blk, locB]; decide +kernel)) rfl) dv_int (d := .str k) rfl) (da_cons dv_int (da_cons (dv_sub (dv_n 1 rfl (by first | decide +kernel | (dsimp only [Ct.blk, locB]; decide +kernel)) rfl) dv_int) da_nil))) ⟨_, _, _, rfl, lp, rfl⟩) (fun h => by cases h)) rfl)))
          | list k => exact (dss_end (ds_ret (DV.conv (dv_and (j := false) (dv_call F_num (by dsimp only [Ct.blk]; omega) (by first | decide +kernel | (dsimp only [Ct.blk, locB]; decide +kernel)) (da_cons (dv_ixt (dv_n 0 rfl (by first | decide +kernel | (dsimp only [Ct.blk, locB]; decide +kernel)) rfl) dv_int (d := .list k) rfl) (da_cons dv_int (da_cons (dv_sub (dv_n 1 rfl (by first | decide +kernel | (dsimp only [Ct.blk, locB]; decide +kernel)) rfl) dv_int) da_nil))) ⟨_, _, _, rfl, lp, rfl⟩) (fun h => by cases h)) rfl)))
          | tuple k => exact (dss_end (ds_ret (DV.conv (dv_and (j := false) (dv_call F_num (by dsimp only [Ct.blk]; omega) (by first | decide +kernel | (dsimp only [Ct.blk, locB]; decide +kernel)) (da_cons (dv_ixt (dv_n 0 rfl (by first | decide +kernel | (dsimp only [Ct.blk, locB]; decide +kernel)) rfl) dv_int (d := .tuple k) rfl) (da_cons dv_int (da_cons (dv_sub (dv_n 1 rfl (by first | decide +kernel | (dsimp only [Ct.blk, locB]; decide +kernel)) rfl) dv_int) da_nil))) ⟨_, _, _, rfl, lp, rfl⟩) (fun h => by cases h)) rfl)))
    · have nt : isD x "tuple" = false := by cases x <;> first | rfl | (exact absurd ⟨_, rfl⟩ c)
      have ft : isTieD x mm = false := by cases x <;> first | rfl | (exact absurd ⟨_, rfl⟩ c)
      rw [ft]
      exact (dss_if (k := true) (DT.conv (dt_w (dw_or (k := true) (j := true) (DT.conv (dt_not (dt_val (dv_isi B (by first | decide +kernel | (dsimp only [Ct.blk, locB]; decide +kernel)) (.tuple B) (by first | decide +kernel | (dsimp only [Ct.blk, locB]; decide +kernel)) (dv_n 0 rfl (by first | decide +kernel | (dsimp only [Ct.blk, locB]; decide +kernel)) rfl) hl.nd))) (by rw [nt]; rfl)) (fun h => by cases h))) rfl) (fun hb => ⟨_, rfl, (dss_end (ds_ret dv_bl))⟩) (fun hb => by cases hb))
theorem f_isweb {m : Md} {f : Addr} {fd : FuncData} (B : Blt m) (F_num : Fn m "is_number" 1 rNum) (F_rising : Fn m "is_rising" 1 rRising) (F_tie : Fn m "is_tie" 2 rTie) (F : Fun m.K "is_web" "is_web" (topS 8) f fd) (hb : Binds m.K fd ["thing"] []) (hm : m.mg "is_web" = some (.ref f)) : Fn m "is_web" 3 rIsWeb :=
  fn_ok (N := ["thing", "many", "ties", "tie"]) F hb hm ⟨rfl, rfl, rfl, by decide +kernel, rfl, by decide +kernel, by decide +kernel⟩ (by decide +kernel) (fun ds d ⟨_, h, _⟩ => by rw [h]; rfl) fun ds d ⟨x, h, hl, hd⟩ => by
    subst h hd
    by_cases c : ∃ l, x = .tuple l
    · obtain ⟨l, rfl⟩ := c
      by_cases h2 : l.length = 2
      · match l, h2 with
        | [p, q], _ =>
          have lp : lay p := hl.tup p (by simp)
          have lq : lay q := hl.tup q (by simp)
          refine (dss_if (k := !isNumD p 1 6) (DT.conv (dt_w (dw_or (k := false) (DT.conv (dt_not (dt_val (dv_isi B (by first | decide +kernel | (dsimp only [Ct.blk, locB]; decide +kernel)) (.tuple B) (by first | decide +kernel | (dsimp only [Ct.blk, locB]; decide +kernel)) (dv_n 0 rfl (by first | decide +kernel | (dsimp only [Ct.blk, locB]; decide +kernel)) rfl) rfl))) rfl) (fun _ => (dw_or (k := false) (DT.conv (dt_c (dc_ne (dv_lent B (by first | decide +kernel | (dsimp only [Ct.blk, locB]; decide +kernel)) (dv_n 0 rfl (by first | decide +kernel | (dsimp only [Ct.blk, locB]; decide +kernel)) rfl) (.tup _)) dv_int (nc_int _).sh (by rfl))) rfl) (fun _ => (dw_or1 (dt_not (dt_val (dv_call F_num (by dsimp only [Ct.blk]; omega) (by first | decide +kernel | (dsimp only [Ct.blk, locB]; decide +kernel)) (da_cons (dv_ixt (dv_n 0 rfl (by first | decide +kernel | (dsimp only [Ct.blk, locB]; decide +kernel)) rfl) dv_int (d := p) rfl) (da_cons dv_int (da_cons dv_int da_nil))) ⟨_, _, _, rfl, lp, rfl⟩))))))))) rfl) (fun hb => ⟨_, ?o, (dss_end (ds_ret dv_bl))⟩) (fun hb => ?r))
          case o =>
            have : isNumD p 1 6 = false := by simpa using hb
            have : isWebD (.tuple [p, q]) = false := by
              cases p with
              | int i => cases q <;> first | rfl | (show (isNumD (.int i) 1 6 && _ && _ && _) = false; rw [this]; rfl)
              | _ => cases q <;> rfl
            rw [this]
          case r =>
            have hn : isNumD p 1 6 = true := by simpa using hb
            obtain ⟨i, rfl⟩ : ∃ i, p = .int i := ⟨_, num_int hn⟩
            by_cases ct : ∃ ts, q = .tuple ts
            · obtain ⟨ts, rfl⟩ := ct
              refine (dss_cons (ds_two 1 2 (dg_two 1 2 rfl (by first | decide +kernel | (dsimp only [Ct.blk, locB]; decide +kernel)) rfl (by first | decide +kernel | (dsimp only [Ct.blk, locB]; decide +kernel))) (dv_n 0 rfl (by first | decide +kernel | (dsimp only [Ct.blk, locB]; decide +kernel)) rfl) rfl) (dss_if (k := !decide (ts.length ≤ 12)) (DT.conv (dt_w (dw_or (k := false) (DT.conv (dt_not (dt_val (dv_isi B (by first | decide +kernel | (dsimp only [Ct.blk, locB]; decide +kernel)) (.tuple B) (by first | decide +kernel | (dsimp only [Ct.blk, locB]; decide +kernel)) (dv_n 2 rfl (by first | decide +kernel | (dsimp only [Ct.blk, locB]; decide +kernel)) rfl) rfl))) rfl) (fun _ => (dw_or1 (dt_c (dc_gt (dv_lent B (by first | decide +kernel | (dsimp only [Ct.blk, locB]; decide +kernel)) (dv_n 2 rfl (by first | decide +kernel | (dsimp only [Ct.blk, locB]; decide +kernel)) rfl) (.tup _)) dv_int)))))) ?gt) (fun hb2 => ⟨_, ?o2, (dss_end (ds_ret dv_bl))⟩) (fun hb2 => ?r2)))
              case gt =>
                rw [Bool.false_or]
                exact Bool.eq_iff_iff.mpr (by simp; omega)
              case o2 =>
                have e : decide (ts.length ≤ 12) = false := by simpa using hb2
                have : isWebD (.tuple [.int i, .tuple ts]) = false := by
                  show (isNumD (.int i) 1 6 && decide (ts.length ≤ 12) && _ && _) = false
                  rw [e, Bool.and_false]; rfl
                rw [this]
              case r2 =>
                have e : decide (ts.length ≤ 12) = true := by simpa using hb2
                have e12 := of_decide_eq_true e
                have ew : isWebD (.tuple [.int i, .tuple ts]) = (ts.all (isTieD · i) && risB ltP2 (0, 0) (ts.map toPair)) := by
                  show (isNumD (.int i) 1 6 && decide (ts.length ≤ 12) && _ && _) = _
                  rw [e, hn]; rfl
                rw [ew]
                refine (dss_end (ds_ret (dv_and (k := ts.all (isTieD · i)) (DV.conv (dv_all B (by first | decide +kernel | (dsimp only [Ct.blk, locB]; decide +kernel)) (dn_dv (DN.conv (dn_lc1 3 [("tie", 3)] (by first | decide +kernel | (dsimp only [Ct.blk, locB]; decide +kernel)) (di_seq (dv_n 2 rfl (by first | decide +kernel | (dsimp only [Ct.blk, locB]; decide +kernel)) rfl) (.tup _)) (dg_one 3 rfl (by first | decide +kernel | (dsimp only [Ct.blk, locB]; decide +kernel))) (turns_map (fun x => .bool (isTieD x i)) ts (fun x hx => ⟨_, rfl, ?cc⟩)) (by omega)) (show _ = (ts.map (isTieD · i)).map PyData.bool by rw [List.map_map]; rfl)))) (by rw [List.all_map]; rfl)) (fun ha => (dv_bop1 (dv_call F_rising (by dsimp only [Ct.blk]; omega) (by first | decide +kernel | (dsimp only [Ct.blk, locB]; decide +kernel)) (da_cons (dv_n 2 rfl (by first | decide +kernel | (dsimp only [Ct.blk, locB]; decide +kernel)) rfl) da_nil) (.inr ⟨ts.map toPair, ?pr, by simp; omega, rfl⟩)))))))
                case cc => exact (dv_call F_tie (by dsimp only [Ct.blk]; omega) (by first | decide +kernel | (dsimp only [Ct.blk, locB]; decide +kernel)) (da_cons (dv_n 3 rfl (by first | decide +kernel | (dsimp only [Ct.blk, locB]; decide +kernel)) rfl) (da_cons (dv_n 1 rfl (by first | decide +kernel | (dsimp only [Ct.blk, locB]; decide +kernel)) rfl) da_nil)) ⟨x, i, rfl, lq.tup x hx, rfl⟩)
                case pr =>
                  rw [List.map_map]
                  exact congrArg (fun z => [PyData.tuple z]) (map_self fun x hx => tie_pair (List.all_eq_true.mp ha x hx))
            · have nt : isD q "tuple" = false := by cases q <;> first | rfl | (exact absurd ⟨_, rfl⟩ ct)
              have ft : isWebD (.tuple [.int i, q]) = false := by cases q <;> first | rfl | (exact absurd ⟨_, rfl⟩ ct)
              rw [ft]
              exact (dss_cons (ds_two 1 2 (dg_two 1 2 rfl (by first | decide +kernel | (dsimp only [Ct.blk, locB]; decide +kernel)) rfl (by first | decide +kernel | (dsimp only [Ct.blk, locB]; decide +kernel))) (dv_n 0 rfl (by first | decide +kernel | (dsimp only [Ct.blk, locB]; decide +kernel)) rfl) rfl) (dss_if (k := true) (DT.conv (dt_w (dw_or (k := true) (j := true) (DT.conv (dt_not (dt_val (dv_isi B (by first | decide +kernel | (dsimp only [Ct.blk, locB]; decide +kernel)) (.tuple B) (by first | decide +kernel | (dsimp only [Ct.blk, locB]; decide +kernel)) (dv_n 2 rfl (by first | decide +kernel | (dsimp only [Ct.blk, locB]; decide +kernel)) rfl) lq.nd))) (by rw [nt]; rfl)) (fun h => by cases h))) rfl) (fun hb => ⟨_, rfl, (dss_end (ds_ret dv_bl))⟩) (fun hb => by cases hb)))
      · rw [web_len h2]
        have e : PyData.eqv (natD l.length) (.int 2) = false := by
          unfold natD
          rw [eqv_int]
          exact decide_eq_false (by omega)
        exact (dss_if (k := true) (DT.conv (dt_w (dw_or (k := false) (DT.conv (dt_not (dt_val (dv_isi B (by first | decide +kernel | (dsimp only [Ct.blk, locB]; decide +kernel)) (.tuple B) (by first | decide +kernel | (dsimp only [Ct.blk, locB]; decide +kernel)) (dv_n 0 rfl (by first | decide +kernel | (dsimp only [Ct.blk, locB]; decide +kernel)) rfl) rfl))) rfl) (fun _ => (dw_or (k := true) (j := true) (DT.conv (dt_c (dc_ne (dv_lent B (by first | decide +kernel | (dsimp only [Ct.blk, locB]; decide +kernel)) (dv_n 0 rfl (by first | decide +kernel | (dsimp only [Ct.blk, locB]; decide +kernel)) rfl) (.tup _)) dv_int (nc_int _).sh (by rfl))) (by rw [e]; rfl)) (fun h => by cases h))))) rfl) (fun hb => ⟨_, rfl, (dss_end (ds_ret dv_bl))⟩) (fun hb => by cases hb))
    · have nt : isD x "tuple" = false := by cases x <;> first | rfl | (exact absurd ⟨_, rfl⟩ c)
      have ft : isWebD x = false := by cases x <;> first | rfl | (exact absurd ⟨_, rfl⟩ c)
      rw [ft]
      exact (dss_if (k := true) (DT.conv (dt_w (dw_or (k := true) (j := true) (DT.conv (dt_not (dt_val (dv_isi B (by first | decide +kernel | (dsimp only [Ct.blk, locB]; decide +kernel)) (.tuple B) (by first | decide +kernel | (dsimp only [Ct.blk, locB]; decide +kernel)) (dv_n 0 rfl (by first | decide +kernel | (dsimp only [Ct.blk, locB]; decide +kernel)) rfl) hl.nd))) (by rw [nt]; rfl)) (fun h => by cases h))) rfl) (fun hb => ⟨_, rfl, (dss_end (ds_ret dv_bl))⟩) (fun hb => by cases hb))
theorem f_mix {m : Md} {f : Addr} {fd : FuncData} (B : Blt m) (F : Fun m.K "_law_mix" "_law_mix" (topS 16) f fd) (hb : Binds m.K fd ["_law_cell_here", "_law_prime", "_law_many"] []) (hm : m.mg "_law_mix" = some (.ref f)) : Fn m "_law_mix" 1 rMix :=
  fn_ok (N := ["_law_cell_here", "_law_prime", "_law_many"]) F hb hm ⟨rfl, rfl, rfl, by decide +kernel, rfl, by decide +kernel, by decide +kernel⟩ (by decide +kernel) (fun ds d ⟨_, _, _, _, h, _⟩ => by rw [h]; rfl) fun ds d ⟨n, z, p, mm, h, hz, hn, hp, hm', hd⟩ => by
    subst h hd
    exact (dss_end (ds_ret (dv_mod (dv_mod (dv_mulB (dv_n 0 rfl (by first | decide +kernel | (dsimp only [Ct.blk, locB]; decide +kernel)) rfl) dv_int (hz.mulB hn)) (dv_n 1 rfl (by first | decide +kernel | (dsimp only [Ct.blk, locB]; decide +kernel)) rfl) hp) (dv_n 2 rfl (by first | decide +kernel | (dsimp only [Ct.blk, locB]; decide +kernel)) rfl) hm')))
theorem f_web {m : Md} {f : Addr} {fd : FuncData} (B : Blt m) (F_mix : Fn m "_law_mix" 1 rMix) (F : Fun m.K "_law_web" "_law_web" (topS 17) f fd) (hb : Binds m.K fd ["_law_cell_here", "_law_most", "_law_ties"] []) (hm : m.mg "_law_web" = some (.ref f)) : Fn m "_law_web" 2 rWeb :=
  fn_ok (N := ["_law_cell_here", "_law_most", "_law_ties", "_law_many", "_law_found", "_law_k", "_law_one", "_law_other", "_law_tie"]) F hb hm ⟨rfl, rfl, rfl, by decide +kernel, rfl, by decide +kernel, by decide +kernel⟩ (by decide +kernel) (fun ds d ⟨_, _, _, _, h, _⟩ => by rw [h]; rfl) fun ds d ⟨n, z, most, ties, h, hz, hn, hmost, hm60, ht60, hd⟩ => by
    subst h hd
    have hM := manyM_pos z hmost
    have e1 : (1 : Int) + mixM z 9973 most = ((1 + (mixM z 9973 most).toNat : Nat) : Int) := by
      have := mixM_nn z (p := 9973) (m := most) (by omega)
      omega
    have e2 : mixM z 9967 ((ties : Int) + 1) = (((mixM z 9967 ((ties : Int) + 1)).toNat : Nat) : Int) := by
      have := mixM_nn z (p := 9967) (m := (ties : Int) + 1) (by omega)
      omega
    have e3 := mixM_lt z (p := 9967) (m := (ties : Int) + 1) (by omega)
    have hmm : (manyM z most : Int) = if decide ((1 : Int) + mixM z 9973 most < 4) && decide (0 < z % 4) then (most : Int) else 1 + mixM z 9973 most := by
      have e0 := mixM_nn z (p := 9973) (m := most) (by omega)
      unfold manyM
      dsimp only
      generalize mixM z 9973 (most : Int) = M at e0 ⊢
      have q : (1 + M.toNat < 4 ∧ 0 < z % 4) ↔ (decide ((1 : Int) + M < 4) && decide (0 < z % 4)) = true := by
        rw [Bool.and_eq_true, decide_eq_true_eq, decide_eq_true_eq]
        omega
      by_cases c : 1 + M.toNat < 4 ∧ 0 < z % 4
      · rw [if_pos c, if_pos (q.mp c)]
      · rw [if_neg c, if_neg fun w => c (q.mpr w)]
        omega
    have hfl := foundM_len z (manyM z most) ties
    have hfo := (foundM_ok (z := z) (many := manyM z most) (ties := ties) hM.1).1
    refine (dss_cons (ds_set 3 rfl (by first | decide +kernel | (dsimp only [Ct.blk, locB]; decide +kernel)) (dv_addi dv_int (dv_call F_mix (by dsimp only [Ct.blk]; omega) (by first | decide +kernel | (dsimp only [Ct.blk, locB]; decide +kernel)) (da_cons (dv_n 0 rfl (by first | decide +kernel | (dsimp only [Ct.blk, locB]; decide +kernel)) rfl) (da_cons dv_int (da_cons (dv_n 1 rfl (by first | decide +kernel | (dsimp only [Ct.blk, locB]; decide +kernel)) rfl) da_nil))) ⟨n, z, 9973, most, rfl, hz, by omega, by omega, by omega, rfl⟩)))
      (dss_cons (ds_if (out := .next [some (.int z), some (natD most), some (natD ties), some (natD (manyM z most)), none, none, none, none, none] []) (dt_w (dw_and (dt_c (dc_lt (dv_n 3 rfl (by first | decide +kernel | (dsimp only [Ct.blk, locB]; decide +kernel)) rfl) dv_int)) (fun _ => (dw_and1 (dt_c (dc_gt (dv_mod (dv_n 0 rfl (by first | decide +kernel | (dsimp only [Ct.blk, locB]; decide +kernel)) rfl) dv_int (by decide)) dv_int)))))) (fun hb => DSs.conv (dss_cons (ds_set 3 rfl (by first | decide +kernel | (dsimp only [Ct.blk, locB]; decide +kernel)) (dv_n 1 rfl (by first | decide +kernel | (dsimp only [Ct.blk, locB]; decide +kernel)) rfl)) dss_nil) ?join2) (fun hb => DSs.conv dss_nil ?join3))
      (dss_cons (ds_own 4 rfl (by first | decide +kernel | (dsimp only [Ct.blk, locB]; decide +kernel)) (dn_lst da_nil (by simp)))
      (dss_cons (ds_for1 5 (dg_one 5 rfl (by first | decide +kernel | (dsimp only [Ct.blk, locB]; decide +kernel))) (DI1.conv (di_rng (n := (mixM z 9967 ((ties : Int) + 1)).toNat) B (by first | decide +kernel | (dsimp only [Ct.blk, locB]; decide +kernel)) (DV.conv (dv_call F_mix (by dsimp only [Ct.blk]; omega) (by first | decide +kernel | (dsimp only [Ct.blk, locB]; decide +kernel)) (da_cons (dv_n 0 rfl (by first | decide +kernel | (dsimp only [Ct.blk, locB]; decide +kernel)) rfl) (da_cons dv_int (da_cons (dv_addi (dv_n 2 rfl (by first | decide +kernel | (dsimp only [Ct.blk, locB]; decide +kernel)) rfl) dv_int) da_nil))) ⟨n, z, 9967, (ties : Int) + 1, rfl, hz, by omega, by omega, by omega, rfl⟩) (congrArg PyData.int e2)) (by omega)) rfl) (DFor.conv (dfor_fold natD (fun acc => [(4, .lst (acc.map pairD))]) (tieStep z (manyM z most)) (fun n b => b.length + n ≤ 60) _ [] ?i0 ?step) rfl))
      (dss_end (ds_ret (DV.conv (dv_tup (da_cons (dv_n 3 rfl (by first | decide +kernel | (dsimp only [Ct.blk, locB]; decide +kernel)) rfl) (da_cons (dv_tuple B (by first | decide +kernel | (dsimp only [Ct.blk, locB]; decide +kernel)) (dn_dv (dn_sortedP (ps := foundM z (manyM z most) ties) (qs := tiesM z most ties) (manyM z most : Int) B (by first | decide +kernel | (dsimp only [Ct.blk, locB]; decide +kernel)) (dv_n 4 rfl (by first | decide +kernel | (dsimp only [Ct.blk, locB]; decide +kernel)) rfl) ?bd (by omega) (sortP_perm _) (sortP_sorted _))) (.lst _)) da_nil)) (by simp)) rfl)))))))
    case join2 =>
      have : (most : Int) = manyM z most := by rw [hmm, if_pos hb]
      rw [show natD (manyM z most) = natD most from congrArg PyData.int this.symm]
      rfl
    case join3 =>
      have : (1 : Int) + mixM z 9973 most = manyM z most := by rw [hmm, if_neg (by rw [hb]; simp)]
      rw [show natD (manyM z most) = .int (1 + mixM z 9973 most) from congrArg PyData.int this.symm]
      rfl
    case i0 => simp; omega
    case bd => exact fun q hq => ⟨(hfo q hq).nn, by have := (hfo q hq).lt; have := (hfo q hq).le; omega, by have := (hfo q hq).nn; have := (hfo q hq).lt; omega, (hfo q hq).le⟩
    case step =>
      intro k hk n' b hb
      rw [List.mem_range] at hk
      have sh : SeqAt.shaped (.list (b.map pairD)) = true := (nc_lst (nc_pairs b)).sh
      have w1 : Sm (n + 10) (z + 11 * (k : Int)) := hz.add (by omega)
      have w2 : Sm (n + 10 + 10) (z + 13 * (k : Int) + 1) := (hz.add (s := 13 * (k : Int)) (by omega)).add (by omega)
      refine ⟨by have := tieStep_len z (manyM z most) b k; omega, _, rfl, by simp [ofree, TSpec.ix], _, (dss_cons (ds_set 6 rfl (by first | decide +kernel | (dsimp only [Ct.blk, locB]; decide +kernel)) (dv_call F_mix (by dsimp only [Ct.blk]; omega) (by first | decide +kernel | (dsimp only [Ct.blk, locB]; decide +kernel)) (da_cons (dv_addi (dv_n 0 rfl (by first | decide +kernel | (dsimp only [Ct.blk, locB]; decide +kernel)) rfl) (dv_mulB dv_int (dv_n 5 rfl (by first | decide +kernel | (dsimp only [Ct.blk, locB]; decide +kernel)) rfl) ?mul0)) (da_cons dv_int (da_cons (dv_n 3 rfl (by first | decide +kernel | (dsimp only [Ct.blk, locB]; decide +kernel)) rfl) da_nil))) ⟨_, _, 9949, (manyM z most : Int), rfl, w1, by omega, by omega, by omega, rfl⟩))
        (dss_cons (ds_set 7 rfl (by first | decide +kernel | (dsimp only [Ct.blk, locB]; decide +kernel)) (dv_call F_mix (by dsimp only [Ct.blk]; omega) (by first | decide +kernel | (dsimp only [Ct.blk, locB]; decide +kernel)) (da_cons (dv_addi (dv_addi (dv_n 0 rfl (by first | decide +kernel | (dsimp only [Ct.blk, locB]; decide +kernel)) rfl) (dv_mulB dv_int (dv_n 5 rfl (by first | decide +kernel | (dsimp only [Ct.blk, locB]; decide +kernel)) rfl) ?mul2)) dv_int) (da_cons dv_int (da_cons (dv_n 3 rfl (by first | decide +kernel | (dsimp only [Ct.blk, locB]; decide +kernel)) rfl) da_nil))) ⟨_, _, 9941, (manyM z most : Int), rfl, w2, by omega, by omega, by omega, rfl⟩))
        (dss_cons (ds_set 8 rfl (by first | decide +kernel | (dsimp only [Ct.blk, locB]; decide +kernel)) (dv_tup (da_cons (dv_min2 B (by first | decide +kernel | (dsimp only [Ct.blk, locB]; decide +kernel)) (dv_n 6 rfl (by first | decide +kernel | (dsimp only [Ct.blk, locB]; decide +kernel)) rfl) (dv_n 7 rfl (by first | decide +kernel | (dsimp only [Ct.blk, locB]; decide +kernel)) rfl)) (da_cons (dv_max2 B (by first | decide +kernel | (dsimp only [Ct.blk, locB]; decide +kernel)) (dv_n 6 rfl (by first | decide +kernel | (dsimp only [Ct.blk, locB]; decide +kernel)) rfl) (dv_n 7 rfl (by first | decide +kernel | (dsimp only [Ct.blk, locB]; decide +kernel)) rfl)) da_nil)) (by simp)))
        (dss_cons (ds_ifk (dt_w (dw_and (dt_c (dc_ne (dv_n 6 rfl (by first | decide +kernel | (dsimp only [Ct.blk, locB]; decide +kernel)) rfl) (dv_n 7 rfl (by first | decide +kernel | (dsimp only [Ct.blk, locB]; decide +kernel)) rfl) (by rfl) (by rfl))) (fun _ => (dw_and1 (dt_c (dc_notin (dv_n 8 rfl (by first | decide +kernel | (dsimp only [Ct.blk, locB]; decide +kernel)) rfl) (dv_n 4 rfl (by first | decide +kernel | (dsimp only [Ct.blk, locB]; decide +kernel)) rfl) (.lst _) (by rfl) sh)))))) (fun hb => DSs.conv (dss_cons (ds_append 4 0 rfl (by first | decide +kernel | (dsimp only [Ct.blk, locB]; decide +kernel)) rfl (dv_n 8 rfl (by first | decide +kernel | (dsimp only [Ct.blk, locB]; decide +kernel)) rfl) ?sz6) dss_nil) ?join7) (fun hb => DSs.conv dss_nil ?join8)) dss_nil)))), ?le⟩
      case mul0 => exact CMulB.small (by decide) (by omega)
      case mul2 => exact CMulB.small (by decide) (by omega)
      case sz6 => rw [List.length_map]; omega
      case le => exact (.cons (.cons (.cons (.cons (.cons (.drop (.drop (.drop (.drop .nil)))))))))
      all_goals
        have q : (mixM (z + 11 * (k : Int)) 9949 (manyM z most) ≠ mixM (z + 13 * (k : Int) + 1) 9941 (manyM z most) ∧ (min (mixM (z + 11 * (k : Int)) 9949 (manyM z most)) (mixM (z + 13 * (k : Int) + 1) 9941 (manyM z most)), max (mixM (z + 11 * (k : Int)) 9949 (manyM z most)) (mixM (z + 13 * (k : Int) + 1) 9941 (manyM z most))) ∉ b) ↔
            ((!PyData.eqv (.int (mixM (z + 11 * (k : Int)) 9949 (manyM z most))) (.int (mixM (z + 13 * (k : Int) + 1) 9941 (manyM z most)))) && !((b.map pairD).any fun y => PyData.eqv y (pairD (min (mixM (z + 11 * (k : Int)) 9949 (manyM z most)) (mixM (z + 13 * (k : Int) + 1) 9941 (manyM z most)), max (mixM (z + 11 * (k : Int)) 9949 (manyM z most)) (mixM (z + 13 * (k : Int) + 1) 9941 (manyM z most)))))) = true := by
          rw [any_map pairD eqv_pair, eqv_int, Bool.and_eq_true, Bool.not_eq_true', Bool.not_eq_true', decide_eq_false_iff_not, decide_eq_false_iff_not]
      case join7 =>
        have e : tieStep z (manyM z most) b k = _ := if_pos (q.mpr hb)
        rw [e, List.map_append]
        rfl
      case join8 =>
        have e : tieStep z (manyM z most) b k = _ := if_neg fun w => by rw [q.mp w] at hb; cases hb
        rw [e]
theorem f_fig {m : Md} {f : Addr} {fd : FuncData} (B : Blt m) (F : Fun m.K "figure" "figure" (topS 12) f fd) (hb : Binds m.K fd ["word"] []) (hm : m.mg "figure" = some (.ref f)) : Fn m "figure" 1 rFig :=
  fn_ok (N := ["word", "one"]) F hb hm ⟨rfl, rfl, rfl, by decide +kernel, rfl, by decide +kernel, by decide +kernel⟩ (by decide +kernel) (fun ds d ⟨_, _, h, _⟩ => by rw [h]; rfl) fun ds d ⟨w, n, h, hw, hd⟩ => by
    subst h hd
    refine (dss_end (ds_for1 1 (dg_one 1 rfl (by first | decide +kernel | (dsimp only [Ct.blk, locB]; decide +kernel))) (di_rng (n := 10) B (by first | decide +kernel | (dsimp only [Ct.blk, locB]; decide +kernel)) dv_int (by omega)) (DFor.conv (dfor_find natD (fun x : Nat => if decide (w = sI x) = true then some (natD x) else none) (List.range 10) ?step) ?out)))
    case out => rw [find_map]; show (match (figM w).map natD with | some r => Out.ret r | none => _) = _; rw [hw]; rfl
    case step =>
      intro x hx
      rw [List.mem_range] at hx
      refine ⟨_, rfl, by simp [ofree], ?_⟩
      by_cases c : w = sI x
      · exact .inr ⟨natD x, if_pos (decide_eq_true c), (dss_if (k := true) (DT.conv (dt_c (dc_eqs (dv_n 0 rfl (by first | decide +kernel | (dsimp only [Ct.blk, locB]; decide +kernel)) rfl) (dv_str1 B (by first | decide +kernel | (dsimp only [Ct.blk, locB]; decide +kernel)) (dv_n 1 rfl (by first | decide +kernel | (dsimp only [Ct.blk, locB]; decide +kernel)) rfl) (log_small (by omega))))) (decide_eq_true c)) (fun hb => ⟨_, rfl, (dss_end (ds_ret (dv_n 1 rfl (by first | decide +kernel | (dsimp only [Ct.blk, locB]; decide +kernel)) rfl)))⟩) (fun hb => by cases hb))⟩
      · exact .inl ⟨if_neg (by rw [decide_eq_false c]; exact Bool.false_ne_true), _, (dss_if (k := false) (DT.conv (dt_c (dc_eqs (dv_n 0 rfl (by first | decide +kernel | (dsimp only [Ct.blk, locB]; decide +kernel)) rfl) (dv_str1 B (by first | decide +kernel | (dsimp only [Ct.blk, locB]; decide +kernel)) (dv_n 1 rfl (by first | decide +kernel | (dsimp only [Ct.blk, locB]; decide +kernel)) rfl) (log_small (by omega))))) (decide_eq_false c)) (fun hb => by cases hb) (fun hb => dss_nil)), (.cons (.drop .nil))⟩
theorem f_figx {m : Md} {f : Addr} {fd : FuncData} (B : Blt m) {A : Addr} (E : ExcM m "NoText" A) (F : Fun m.K "figure" "figure" (topS 12) f fd) (hb : Binds m.K fd ["word"] []) (hm : m.mg "figure" = some (.ref f)) : FnX m "figure" 1 (.ref A) rFigX :=
  fnx_ok (N := ["word", "one"]) F hb hm ⟨rfl, rfl, rfl, by decide +kernel, rfl, by decide +kernel, by decide +kernel⟩ (by decide +kernel) (fun ds ⟨_, h, _⟩ => by rw [h]; rfl) fun ds ⟨w, h, hw⟩ => by
    subst h
    refine (dsxs_cons (ds_for1 1 (dg_one 1 rfl (by first | decide +kernel | (dsimp only [Ct.blk, locB]; decide +kernel))) (di_rng (n := 10) B (by first | decide +kernel | (dsimp only [Ct.blk, locB]; decide +kernel)) dv_int (by omega)) (dfor_keep natD (List.range 10) ?step)) (dsxs_first (dsx_raise E (by first | decide +kernel | (dsimp only [Ct.blk, locB]; decide +kernel)))))
    intro x hx
    have c : ¬ w = sI x := fun e => by
      have := List.find?_eq_none.mp hw x hx
      exact this (decide_eq_true e)
    rw [List.mem_range] at hx
    exact ⟨_, rfl, by simp [ofree], _, (dss_if (k := false) (DT.conv (dt_c (dc_eqs (dv_n 0 rfl (by first | decide +kernel | (dsimp only [Ct.blk, locB]; decide +kernel)) rfl) (dv_str1 B (by first | decide +kernel | (dsimp only [Ct.blk, locB]; decide +kernel)) (dv_n 1 rfl (by first | decide +kernel | (dsimp only [Ct.blk, locB]; decide +kernel)) rfl) (log_small (by omega))))) (decide_eq_false c)) (fun hb => by cases hb) (fun hb => dss_nil)), (.cons (.drop .nil))⟩
theorem f_written {m : Md} {f : Addr} {fd : FuncData} (B : Blt m) (F : Fun m.K "written" "written" (topS 10) f fd) (hb : Binds m.K fd ["web"] []) (hm : m.mg "written" = some (.ref f)) : Fn m "written" 1 rWritten :=
  fn_ok (N := ["web", "one", "other"]) F hb hm ⟨rfl, rfl, rfl, by decide +kernel, rfl, by decide +kernel, by decide +kernel⟩ (by decide +kernel) (fun ds d ⟨_, _, h, _⟩ => by rw [h]; rfl) fun ds d ⟨mm, W, h, w, hd⟩ => by
    subst h hd
    have m10 := w.m10
    have l12 := w.len
    refine (dss_end (ds_ret (dv_join dv_str (dn_dv (DN.conv (dn_cat (dn_dv (dn_lst (da_cons (dv_str1 B (by first | decide +kernel | (dsimp only [Ct.blk, locB]; decide +kernel)) (dv_ixt (dv_n 0 rfl (by first | decide +kernel | (dsimp only [Ct.blk, locB]; decide +kernel)) rfl) dv_int (d := natD mm) rfl) (log_small (by omega))) (da_cons dv_str da_nil)) (by simp))) (dn_dv (dn_lc2 1 2 [("one", 1), ("other", 2)] (by first | decide +kernel | (dsimp only [Ct.blk, locB]; decide +kernel)) (DI1.weak (di_seq (dv_ixt (dv_n 0 rfl (by first | decide +kernel | (dsimp only [Ct.blk, locB]; decide +kernel)) rfl) dv_int (d := .tuple (W.map pairD)) rfl) (.tup _))) (dg_two 1 2 rfl (by first | decide +kernel | (dsimp only [Ct.blk, locB]; decide +kernel)) rfl (by first | decide +kernel | (dsimp only [Ct.blk, locB]; decide +kernel))) (turns_mapT pairD (fun t => .str (fmtM t)) W (fun t ht => ⟨_, rfl, ?elt⟩)) ?sz)) ?sz2) ?cv)) w.sum)))
    case sz => rw [List.length_map]; omega
    case sz2 => simp; omega
    case cv => rw [List.map_append, List.map_map]; rfl
    case elt =>
      obtain ⟨a, b, rfl, ha, hb⟩ := w.two t ht
      have e1 := len_sI ha
      have e2 := len_sI hb
      have le : ∀ x : PySem.Str, x.length ≤ 10 → x.length ≤ sizeLine := fun x h => by rw [sizeLine_eq]; omega
      have e3 : (Str.empty : PySem.Str).length = 0 := by decide +kernel
      have e4 : ("-" : PySem.Str).length = 1 := by decide +kernel
      exact dv_fint3 (dv_n 1 rfl (by first | decide +kernel | (dsimp only [Ct.blk, locB]; decide +kernel)) rfl) (dv_n 2 rfl (by first | decide +kernel | (dsimp only [Ct.blk, locB]; decide +kernel)) rfl) (log_small (by omega)) (log_small (by omega)) (le _ (by rw [app_len, e3]; show 0 + (sI a).length ≤ 10; omega)) (le _ (by rw [app_len, app_len, e3, e4]; show 0 + (sI a).length + 1 ≤ 10; omega)) (le _ (by rw [app_len, app_len, app_len, e3, e4]; show 0 + (sI a).length + 1 + (sI b).length ≤ 10; omega))
theorem spl_len (S : List Nat) : ∀ (xs : List Nat) (k : Nat) (acc : List Nat), ∀ p ∈ TL.spl S k acc xs, p.length ≤ acc.length + xs.length
  | [], k, acc, p, hp => by
    have : TL.spl S k acc [] = [acc] := by cases k <;> rfl
    rw [this, List.mem_singleton] at hp
    subst hp
    omega
  | x :: xs, 0, acc, p, hp => by
    have e : TL.spl S 0 acc (x :: xs) = if TL.pre S (x :: xs) = true then acc :: TL.spl S (S.length - 1) [] xs else TL.spl S 0 (acc ++ [x]) xs := rfl
    rw [e] at hp
    rw [List.length_cons]
    split at hp
    · rcases List.mem_cons.mp hp with rfl | hp
      · omega
      · have := spl_len S xs _ _ p hp
        rw [List.length_nil] at this
        omega
    · have := spl_len S xs _ _ p hp
      rw [List.length_append, List.length_singleton] at this
      omega
  | x :: xs, k + 1, acc, p, hp => by
    have e : TL.spl S (k + 1) acc (x :: xs) = TL.spl S k acc xs := rfl
    rw [e] at hp
    have := spl_len S xs _ _ p hp
    rw [List.length_cons]
    omega
theorem word_len {t w : PySem.Str} (h : t.length ≤ 1000) (hw : w ∈ Txt.split t " ") : w.length + 2 ≤ sizeLine := by
  have e := TL.split_spl t " " (by rw [tl_sp]; simp) (TL.kind_ok (by decide +kernel))
  have m : TL.tl w ∈ (Txt.split t " ").map TL.tl := List.mem_map.mpr ⟨w, hw, rfl⟩
  rw [e] at m
  have := spl_len _ _ _ _ _ m
  rw [List.length_nil, ← TL.len_tl, ← TL.len_tl] at this
  rw [sizeLine_eq]
  omega
theorem words_len {t y : PySem.Str} (h : t.length + 2 ≤ sizeLine) : (Txt.split t y).length ≤ 16777216 := by
  have := PyProof.Rows.split_le t y
  rw [sizeLine_eq] at h
  omega
theorem f_read {m : Md} {f : Addr} {fd : FuncData} (B : Blt m) (F_fig : Fn m "figure" 1 rFig) (F_isweb : Fn m "is_web" 3 rIsWeb) (F_written : Fn m "written" 1 rWritten) (F : Fun m.K "read" "read" (topS 13) f fd) (hb : Binds m.K fd ["text"] []) (hm : m.mg "read" = some (.ref f)) : Fn m "read" 4 rRead :=
  fn_ok (N := ["text", "words", "ties", "part", "word", "found"]) F hb hm ⟨rfl, rfl, rfl, by decide +kernel, rfl, by decide +kernel, by decide +kernel⟩ (by decide +kernel) (fun ds d ⟨_, _, _, h, _⟩ => by rw [h]; rfl) fun ds d ⟨t, n, ties, h, ht, htl, hr, hd⟩ => by
    subst h hd
    obtain ⟨g1, g2, g3, g4, g5⟩ := read_some hr
    obtain ⟨s1, s2, s3, s4, s5⟩ := webD_small g1
    have sw : SmW n (ties.map pairOf) := ⟨by omega, by rw [List.length_map]; exact s4, s5⟩
    obtain ⟨k1, k2⟩ := optL_some g4
    have tz : t.length + 2 ≤ sizeLine := by rw [sizeLine_eq]; omega
    have hwl := words_len (y := " ") tz
    have hok := ht.split
    have hwd := fun w => word_len (w := w) htl
    generalize hws : Txt.split t " " = ws at g3 g4 g5 k1 k2 hwl hok hwd
    have h2 : 2 ≤ ws.length := by
      match ws, g3 with
      | _ :: _ :: _, _ => simp
      | [], g3 => cases g3
      | [_], g3 => cases g3
    have a0 : L2.atI (ws.map PyData.str) ((0 : Nat) : Int) = some (.str (ws.getD 0 Str.empty)) := L2.atI_nat (by rw [List.getElem?_map, List.getD_eq_getElem?_getD, List.getElem?_eq_getElem (show 0 < ws.length by omega)]; rfl)
    have c2 : cutD (ws.map PyData.str) (some 1) (some 2) = ((ws.drop 1).take 1).map .str := by rw [cut_two, List.map_take, List.map_drop]
    have c3 : cutD (ws.map PyData.str) (some 2) none = (ws.drop 2).map .str := by rw [cut_from2, List.map_drop]
    have lw : lay (webD n (ties.map pairOf)) := (nc_tup (n := 2) fun x hx => by
      simp only [List.mem_cons, List.not_mem_nil, or_false] at hx
      rcases hx with rfl | rfl
      · exact (nc_int _).up (by omega)
      · exact nc_tup (nc_pairs _)).lay
    refine (dss_cons (ds_set 1 rfl (by first | decide +kernel | (dsimp only [Ct.blk, locB]; decide +kernel)) (d := .list (ws.map .str)) (DV.conv (dn_dv (dn_split (dv_n 0 rfl (by first | decide +kernel | (dsimp only [Ct.blk, locB]; decide +kernel)) rfl) dv_str (by decide +kernel) tz)) (by rw [hws])))
      (dss_if (k := false) (DT.conv (dt_c (dc_ne (DV.conv (d' := .list (((ws.drop 1).take 1).map .str)) (dn_dv (dn_sl (dv_n 1 rfl (by first | decide +kernel | (dsimp only [Ct.blk, locB]; decide +kernel)) rfl) (do_some dv_int) (do_some dv_int))) (by rw [c2])) (DV.conv (d' := .list ([(":" : PySem.Str)].map .str)) (dn_dv (dn_lst (da_cons dv_str da_nil) (by simp))) rfl) (nc_strs' fun w hw => hok w (List.mem_of_mem_drop (List.mem_of_mem_take hw))).sh (by decide +kernel))) (by rw [eqv_strs, g3]; simp)) (fun hb => by cases hb) (fun hb =>
      (dss_cons (ds_lc1 (res := ties.map fun l => .tuple (l.map natD)) 2 4 [("word", 4)] rfl (by first | decide +kernel | (dsimp only [Ct.blk, locB]; decide +kernel)) (by rfl) (by rfl) (by first | decide +kernel | (dsimp only [Ct.blk, locB]; decide +kernel)) (by first | decide +kernel | (dsimp only [Ct.blk, locB]; decide +kernel)) (DI1.conv (di_seq (dn_dv (dn_sl (dv_n 1 rfl (by first | decide +kernel | (dsimp only [Ct.blk, locB]; decide +kernel)) rfl) (do_some dv_int) do_none)) (.lst _)) c3) (dg_one 4 rfl (by first | decide +kernel | (dsimp only [Ct.blk, locB]; decide +kernel))) ?turns ?sz11)
      (dss_cons (ds_set 5 rfl (by first | decide +kernel | (dsimp only [Ct.blk, locB]; decide +kernel)) (d := webD n (ties.map pairOf)) (DV.conv (dv_tup (da_cons (dv_call F_fig (by dsimp only [Ct.blk]; omega) (by first | decide +kernel | (dsimp only [Ct.blk, locB]; decide +kernel)) (da_cons (dv_ixl (dv_n 1 rfl (by first | decide +kernel | (dsimp only [Ct.blk, locB]; decide +kernel)) rfl) dv_int a0) da_nil) ⟨_, n, rfl, g5, rfl⟩) (da_cons (dv_tuple B (by first | decide +kernel | (dsimp only [Ct.blk, locB]; decide +kernel)) (dv_n 2 rfl (by first | decide +kernel | (dsimp only [Ct.blk, locB]; decide +kernel)) rfl) (.lst _)) da_nil)) (by simp)) s1))
      (dss_if (k := false) (DT.conv (dt_w (dw_or (k := false) (DT.conv (dt_not (dt_val (dv_call F_isweb (by dsimp only [Ct.blk]; omega) (by first | decide +kernel | (dsimp only [Ct.blk, locB]; decide +kernel)) (da_cons (dv_n 5 rfl (by first | decide +kernel | (dsimp only [Ct.blk, locB]; decide +kernel)) rfl) da_nil) ⟨_, rfl, lw, rfl⟩))) (by rw [← s1, g1]; rfl)) (fun _ => (dw_or1 (k := false) (DT.conv (dt_c (dc_nes (dv_call F_written (by dsimp only [Ct.blk]; omega) (by first | decide +kernel | (dsimp only [Ct.blk, locB]; decide +kernel)) (da_cons (dv_n 5 rfl (by first | decide +kernel | (dsimp only [Ct.blk, locB]; decide +kernel)) rfl) da_nil) ⟨n, _, rfl, sw, rfl⟩) (dv_n 0 rfl (by first | decide +kernel | (dsimp only [Ct.blk, locB]; decide +kernel)) rfl))) (by rw [g2, decide_eq_true rfl]; rfl)))))) rfl) (fun hb => by cases hb) (fun hb => (dss_end (ds_ret (dv_n 5 rfl (by first | decide +kernel | (dsimp only [Ct.blk, locB]; decide +kernel)) rfl))))))))))
    case sz11 => rw [List.length_map, List.length_drop]; omega
    case turns =>
      rw [k2, List.map_map]
      refine turns_mapT PyData.str _ _ fun w hw => ⟨_, rfl, ?_⟩
      have hg := k1 w hw
      have hww := hwd w (List.mem_of_mem_drop hw)
      obtain ⟨q1, q2⟩ := optL_some hg
      show DV _ _ _ (.tuple (((figsM w).getD []).map natD))
      rw [q2, List.map_map]
      exact (dv_tuple B (by first | decide +kernel | (dsimp only [Ct.blk, locB]; decide +kernel)) (dn_dv (dn_lc1 3 [("part", 3)] (by first | decide +kernel | (dsimp only [Ct.blk, locB]; decide +kernel)) (di_seq (dn_dv (dn_split (dv_n 4 rfl (by first | decide +kernel | (dsimp only [Ct.blk, locB]; decide +kernel)) rfl) dv_str (by decide +kernel) hww)) (.lst _)) (dg_one 3 rfl (by first | decide +kernel | (dsimp only [Ct.blk, locB]; decide +kernel))) (turns_mapT PyData.str (natD ∘ fun x => (figM x).getD 0) _ (fun p hp => ⟨_, rfl, (dv_call F_fig (by dsimp only [Ct.blk]; omega) (by first | decide +kernel | (dsimp only [Ct.blk, locB]; decide +kernel)) (da_cons (dv_n 3 rfl (by first | decide +kernel | (dsimp only [Ct.blk, locB]; decide +kernel)) rfl) da_nil) ⟨p, _, rfl, q1 p hp, rfl⟩)⟩)) (by rw [List.length_map]; exact words_len hww))) (.lst _))
theorem f_readx {m : Md} {f : Addr} {fd : FuncData} (B : Blt m) {A : Addr} (E : ExcM m "NoText" A) (F_fig : Fn m "figure" 1 rFig) (F_figx : FnX m "figure" 1 (.ref A) rFigX) (F_isweb : Fn m "is_web" 3 rIsWeb) (F_written : Fn m "written" 1 rWritten) (F : Fun m.K "read" "read" (topS 13) f fd) (hb : Binds m.K fd ["text"] []) (hm : m.mg "read" = some (.ref f)) : FnX m "read" 4 (.ref A) rReadX :=
  fnx_ok (N := ["text", "words", "ties", "part", "word", "found"]) F hb hm ⟨rfl, rfl, rfl, by decide +kernel, rfl, by decide +kernel, by decide +kernel⟩ (by decide +kernel) (fun ds ⟨_, h, _⟩ => by rw [h]; rfl) fun ds ⟨t, h, ht, htl, hr⟩ => by
    subst h
    have tz : t.length + 2 ≤ sizeLine := by rw [sizeLine_eq]; omega
    have hwl := words_len (y := " ") tz
    have hok := ht.split
    have hwd := fun w => word_len (w := w) htl
    unfold readM at hr
    generalize hws : Txt.split t " " = ws at hr hwl hok hwd
    have c2 : cutD (ws.map PyData.str) (some 1) (some 2) = ((ws.drop 1).take 1).map .str := by rw [cut_two, List.map_take, List.map_drop]
    have c3 : cutD (ws.map PyData.str) (some 2) none = (ws.drop 2).map .str := by rw [cut_from2, List.map_drop]
    refine (dsxs_cons (ds_set 1 rfl (by first | decide +kernel | (dsimp only [Ct.blk, locB]; decide +kernel)) (d := .list (ws.map .str)) (DV.conv (dn_dv (dn_split (dv_n 0 rfl (by first | decide +kernel | (dsimp only [Ct.blk, locB]; decide +kernel)) rfl) dv_str (by decide +kernel) tz)) (by rw [hws]))) ?_)
    by_cases g3 : (ws.drop 1).take 1 = [(":" : PySem.Str)]
    · rw [if_pos g3] at hr
      have h2 : 2 ≤ ws.length := by
        match ws, g3 with
        | _ :: _ :: _, _ => simp
        | [], g3 => cases g3
        | [_], g3 => cases g3
      have a0 : L2.atI (ws.map PyData.str) ((0 : Nat) : Int) = some (.str (ws.getD 0 Str.empty)) := L2.atI_nat (by rw [List.getElem?_map, List.getD_eq_getElem?_getD, List.getElem?_eq_getElem (show 0 < ws.length by omega)]; rfl)
      refine (dsxs_cons (ds_if (k := false) (DT.conv (dt_c (dc_ne (DV.conv (d' := .list (((ws.drop 1).take 1).map .str)) (dn_dv (dn_sl (dv_n 1 rfl (by first | decide +kernel | (dsimp only [Ct.blk, locB]; decide +kernel)) rfl) (do_some dv_int) (do_some dv_int))) (by rw [c2])) (DV.conv (d' := .list ([(":" : PySem.Str)].map .str)) (dn_dv (dn_lst (da_cons dv_str da_nil) (by simp))) rfl) (nc_strs' fun w hw => hok w (List.mem_of_mem_drop (List.mem_of_mem_take hw))).sh (by decide +kernel))) (by rw [eqv_strs, g3]; simp)) (fun hb => by cases hb) (fun hb => dss_nil)) ?_)
      cases e1 : optL [] figsM (ws.drop 2) with
      | none =>
        obtain ⟨k, w, hk, hf, hpre⟩ := optL_none e1
        have hwm : w ∈ ws := List.mem_of_mem_drop (List.mem_of_getElem? hk)
        have hww := hwd w hwm
        obtain ⟨k2, p, hk2, hf2, hpre2⟩ := optL_none hf
        refine (dsxs_first (dsx_lc (res := ((ws.drop 2).take k).map fun w => .tuple (((figsM w).getD []).map natD)) (k := k) (d := .str w) 2 4 [("word", 4)] rfl (by first | decide +kernel | (dsimp only [Ct.blk, locB]; decide +kernel)) (by rfl) (by rfl) (by first | decide +kernel | (dsimp only [Ct.blk, locB]; decide +kernel)) (by first | decide +kernel | (dsimp only [Ct.blk, locB]; decide +kernel)) (DI1.conv (di_seq (dn_dv (dn_sl (dv_n 1 rfl (by first | decide +kernel | (dsimp only [Ct.blk, locB]; decide +kernel)) rfl) (do_some dv_int) do_none)) (.lst _)) c3) (dg_one 4 rfl (by first | decide +kernel | (dsimp only [Ct.blk, locB]; decide +kernel))) ?turns ?hkk rfl (dvx_ct (by first | decide +kernel | (dsimp only [Ct.blk, locB]; decide +kernel)) B.tuple PyProof.Rows.boot_tuple (dvx_lc (res := ((Txt.split w "-").take k2).map fun p => natD ((figM p).getD 0)) (k := k2) (d := .str p) 3 [("part", 3)] (by first | decide +kernel | (dsimp only [Ct.blk, locB]; decide +kernel)) (di_seq (dn_dv (dn_split (dv_n 4 rfl (by first | decide +kernel | (dsimp only [Ct.blk, locB]; decide +kernel)) rfl) dv_str (by decide +kernel) hww)) (.lst _)) (dg_one 3 rfl (by first | decide +kernel | (dsimp only [Ct.blk, locB]; decide +kernel))) ?turns2 ?hkk2 rfl (dvx_call F_figx (by dsimp only [Ct.blk]; omega) (by first | decide +kernel | (dsimp only [Ct.blk, locB]; decide +kernel)) (da_cons (dv_n 3 rfl (by first | decide +kernel | (dsimp only [Ct.blk, locB]; decide +kernel)) rfl) da_nil) ⟨p, rfl, hf2⟩) ?sz2)) ?sz11))
        case hkk => rw [List.getElem?_map, hk]; rfl
        case hkk2 => rw [List.getElem?_map, hk2]; rfl
        case sz11 => rw [List.length_map, List.length_drop]; omega
        case sz2 => rw [List.length_map]; exact words_len hww
        case turns2 =>
          rw [← List.map_take]
          exact turns_mapT PyData.str (fun p => natD ((figM p).getD 0)) _ fun p hp => ⟨_, rfl, (dv_call F_fig (by dsimp only [Ct.blk]; omega) (by first | decide +kernel | (dsimp only [Ct.blk, locB]; decide +kernel)) (da_cons (dv_n 3 rfl (by first | decide +kernel | (dsimp only [Ct.blk, locB]; decide +kernel)) rfl) da_nil) ⟨p, _, rfl, hpre2 p hp, rfl⟩)⟩
        case turns =>
          rw [← List.map_take]
          refine turns_mapT PyData.str (fun w => .tuple (((figsM w).getD []).map natD)) _ fun v hv => ⟨_, rfl, ?_⟩
          have hvw := hwd v (List.mem_of_mem_drop (List.mem_of_mem_take hv))
          obtain ⟨q1, q2⟩ := optL_some (hpre v hv)
          rw [q2, List.map_map]
          exact (dv_tuple B (by first | decide +kernel | (dsimp only [Ct.blk, locB]; decide +kernel)) (dn_dv (dn_lc1 3 [("part", 3)] (by first | decide +kernel | (dsimp only [Ct.blk, locB]; decide +kernel)) (di_seq (dn_dv (dn_split (dv_n 4 rfl (by first | decide +kernel | (dsimp only [Ct.blk, locB]; decide +kernel)) rfl) dv_str (by decide +kernel) hvw)) (.lst _)) (dg_one 3 rfl (by first | decide +kernel | (dsimp only [Ct.blk, locB]; decide +kernel))) (turns_mapT PyData.str (natD ∘ fun x => (figM x).getD 0) _ (fun p hp => ⟨_, rfl, (dv_call F_fig (by dsimp only [Ct.blk]; omega) (by first | decide +kernel | (dsimp only [Ct.blk, locB]; decide +kernel)) (da_cons (dv_n 3 rfl (by first | decide +kernel | (dsimp only [Ct.blk, locB]; decide +kernel)) rfl) da_nil) ⟨p, _, rfl, q1 p hp, rfl⟩)⟩)) (by rw [List.length_map]; exact words_len hvw))) (.lst _))
      | some ties =>
        obtain ⟨k1, k2⟩ := optL_some e1
        refine (dsxs_cons (ds_lc1 (res := ties.map fun l => .tuple (l.map natD)) 2 4 [("word", 4)] rfl (by first | decide +kernel | (dsimp only [Ct.blk, locB]; decide +kernel)) (by rfl) (by rfl) (by first | decide +kernel | (dsimp only [Ct.blk, locB]; decide +kernel)) (by first | decide +kernel | (dsimp only [Ct.blk, locB]; decide +kernel)) (DI1.conv (di_seq (dn_dv (dn_sl (dv_n 1 rfl (by first | decide +kernel | (dsimp only [Ct.blk, locB]; decide +kernel)) rfl) (do_some dv_int) do_none)) (.lst _)) c3) (dg_one 4 rfl (by first | decide +kernel | (dsimp only [Ct.blk, locB]; decide +kernel))) ?turns ?sz11) ?_)
        case sz11 => rw [List.length_map, List.length_drop]; omega
        case turns =>
          rw [k2, List.map_map]
          refine turns_mapT PyData.str _ _ fun w hw => ⟨_, rfl, ?_⟩
          have hg := k1 w hw
          have hww := hwd w (List.mem_of_mem_drop hw)
          obtain ⟨q1, q2⟩ := optL_some hg
          show DV _ _ _ (.tuple (((figsM w).getD []).map natD))
          rw [q2, List.map_map]
          exact (dv_tuple B (by first | decide +kernel | (dsimp only [Ct.blk, locB]; decide +kernel)) (dn_dv (dn_lc1 3 [("part", 3)] (by first | decide +kernel | (dsimp only [Ct.blk, locB]; decide +kernel)) (di_seq (dn_dv (dn_split (dv_n 4 rfl (by first | decide +kernel | (dsimp only [Ct.blk, locB]; decide +kernel)) rfl) dv_str (by decide +kernel) hww)) (.lst _)) (dg_one 3 rfl (by first | decide +kernel | (dsimp only [Ct.blk, locB]; decide +kernel))) (turns_mapT PyData.str (natD ∘ fun x => (figM x).getD 0) _ (fun p hp => ⟨_, rfl, (dv_call F_fig (by dsimp only [Ct.blk]; omega) (by first | decide +kernel | (dsimp only [Ct.blk, locB]; decide +kernel)) (da_cons (dv_n 3 rfl (by first | decide +kernel | (dsimp only [Ct.blk, locB]; decide +kernel)) rfl) da_nil) ⟨p, _, rfl, q1 p hp, rfl⟩)⟩)) (by rw [List.length_map]; exact words_len hww))) (.lst _))
        rw [e1] at hr
        cases e2 : figM (ws.getD 0 Str.empty) with
        | none => exact (dsxs_first (dsx_set (i := 5) rfl (by first | decide +kernel | (dsimp only [Ct.blk, locB]; decide +kernel)) (dvx_tup (dvx_call F_figx (by dsimp only [Ct.blk]; omega) (by first | decide +kernel | (dsimp only [Ct.blk, locB]; decide +kernel)) (da_cons (dv_ixl (dv_n 1 rfl (by first | decide +kernel | (dsimp only [Ct.blk, locB]; decide +kernel)) rfl) dv_int a0) da_nil) ⟨_, rfl, e2⟩))))
        | some n =>
          rw [e2] at hr
          dsimp only at hr
          have lw : lay (fD n ties) := (nc_tup (n := 2) fun x hx => by
            simp only [List.mem_cons, List.not_mem_nil, or_false] at hx
            rcases hx with rfl | rfl
            · exact (nc_int _).up (by omega)
            · exact nc_tup fun y hy => by
                obtain ⟨l, _, rfl⟩ := List.mem_map.mp hy
                exact nc_tup fun z hz => by
                  obtain ⟨q, _, rfl⟩ := List.mem_map.mp hz
                  exact nc_int _).lay
          refine (dsxs_cons (ds_set 5 rfl (by first | decide +kernel | (dsimp only [Ct.blk, locB]; decide +kernel)) (d := fD n ties) (dv_tup (da_cons (dv_call F_fig (by dsimp only [Ct.blk]; omega) (by first | decide +kernel | (dsimp only [Ct.blk, locB]; decide +kernel)) (da_cons (dv_ixl (dv_n 1 rfl (by first | decide +kernel | (dsimp only [Ct.blk, locB]; decide +kernel)) rfl) dv_int a0) da_nil) ⟨_, n, rfl, e2, rfl⟩) (da_cons (dv_tuple B (by first | decide +kernel | (dsimp only [Ct.blk, locB]; decide +kernel)) (dv_n 2 rfl (by first | decide +kernel | (dsimp only [Ct.blk, locB]; decide +kernel)) rfl) (.lst _)) da_nil)) (by simp))) ?_)
          cases g1 : isWebD (fD n ties) with
          | false => exact (dsxs_first (dsx_if (DT.conv (dt_w (dw_or (k := true) (j := true) (DT.conv (dt_not (dt_val (dv_call F_isweb (by dsimp only [Ct.blk]; omega) (by first | decide +kernel | (dsimp only [Ct.blk, locB]; decide +kernel)) (da_cons (dv_n 5 rfl (by first | decide +kernel | (dsimp only [Ct.blk, locB]; decide +kernel)) rfl) da_nil) ⟨_, rfl, lw, rfl⟩))) (by rw [g1]; rfl)) (fun hb => by cases hb))) rfl) (dsxs_first (dsx_raise E (by first | decide +kernel | (dsimp only [Ct.blk, locB]; decide +kernel))))))
          | true =>
            obtain ⟨s1, s2, s3, s4, s5⟩ := webD_small g1
            have sw : SmW n (ties.map pairOf) := ⟨by omega, by rw [List.length_map]; exact s4, s5⟩
            have ne : ¬ wrM n (ties.map pairOf) = t := fun e => by
              rw [g1, e, decide_eq_true rfl] at hr
              cases hr
            exact (dsxs_first (dsx_if (DT.conv (dt_w (dw_or (k := false) (DT.conv (dt_not (dt_val (dv_call F_isweb (by dsimp only [Ct.blk]; omega) (by first | decide +kernel | (dsimp only [Ct.blk, locB]; decide +kernel)) (da_cons (dv_n 5 rfl (by first | decide +kernel | (dsimp only [Ct.blk, locB]; decide +kernel)) rfl) da_nil) ⟨_, rfl, lw, rfl⟩))) (by rw [g1]; rfl)) (fun _ => (dw_or1 (k := true) (DT.conv (dt_c (dc_nes (dv_call F_written (by dsimp only [Ct.blk]; omega) (by first | decide +kernel | (dsimp only [Ct.blk, locB]; decide +kernel)) (da_cons (dv_n 5 rfl (by first | decide +kernel | (dsimp only [Ct.blk, locB]; decide +kernel)) rfl) da_nil) ⟨n, _, by rw [s1], sw, rfl⟩) (dv_n 0 rfl (by first | decide +kernel | (dsimp only [Ct.blk, locB]; decide +kernel)) rfl))) (by rw [decide_eq_false ne]; rfl)))))) rfl) (dsxs_first (dsx_raise E (by first | decide +kernel | (dsimp only [Ct.blk, locB]; decide +kernel))))))
    · exact (dsxs_first (dsx_if (DT.conv (dt_c (dc_ne (DV.conv (d' := .list (((ws.drop 1).take 1).map .str)) (dn_dv (dn_sl (dv_n 1 rfl (by first | decide +kernel | (dsimp only [Ct.blk, locB]; decide +kernel)) rfl) (do_some dv_int) (do_some dv_int))) (by rw [c2])) (DV.conv (d' := .list ([(":" : PySem.Str)].map .str)) (dn_dv (dn_lst (da_cons dv_str da_nil) (by simp))) rfl) (nc_strs' fun w hw => hok w (List.mem_of_mem_drop (List.mem_of_mem_take hw))).sh (by decide +kernel))) (by rw [eqv_strs, decide_eq_false g3]; rfl)) (dsxs_first (dsx_raise E (by first | decide +kernel | (dsimp only [Ct.blk, locB]; decide +kernel))))))
theorem f_text {m : Md} {f : Addr} {fd : FuncData} (B : Blt m) (F : Fun m.K "_law_text" "_law_text" (topS 19) f fd) (hb : Binds m.K fd ["_law_web_here"] []) (hm : m.mg "_law_text" = some (.ref f)) : Fn m "_law_text" 1 rText :=
  fn_ok (N := ["_law_web_here", "_law_text_here", "_law_one", "_law_other"]) F hb hm ⟨rfl, rfl, rfl, by decide +kernel, rfl, by decide +kernel, by decide +kernel⟩ (by decide +kernel) (fun ds d ⟨_, _, h, _⟩ => by rw [h]; rfl) fun ds d ⟨mm, W, h, w, hd⟩ => by
    subst h hd
    have m10 := w.m10
    have l12 := w.len
    have le : ∀ x : PySem.Str, x.length ≤ 1000 → x.length ≤ sizeLine := fun x h => by rw [sizeLine_eq]; omega
    have l1 : (" :" : PySem.Str).length = 2 := by decide +kernel
    have l2 : (" " : PySem.Str).length = 1 := by decide +kernel
    have l3 : ("-" : PySem.Str).length = 1 := by decide +kernel
    have l0 := len_sI m10
    refine (dss_cons (ds_set 1 rfl (by first | decide +kernel | (dsimp only [Ct.blk, locB]; decide +kernel)) (d := .str (sI mm ++ " :")) (dv_adds (dv_str1 B (by first | decide +kernel | (dsimp only [Ct.blk, locB]; decide +kernel)) (dv_ixt (dv_n 0 rfl (by first | decide +kernel | (dsimp only [Ct.blk, locB]; decide +kernel)) rfl) dv_int (d := natD mm) rfl) (log_small (by omega))) dv_str (by rw [sizeLine_eq]; show (sI mm).length + _ ≤ _; omega)))
      (dss_cons (ds_for2 2 3 (dg_two 2 3 rfl (by first | decide +kernel | (dsimp only [Ct.blk, locB]; decide +kernel)) rfl (by first | decide +kernel | (dsimp only [Ct.blk, locB]; decide +kernel))) (DI1.weak (di_seq (dv_ixt (dv_n 0 rfl (by first | decide +kernel | (dsimp only [Ct.blk, locB]; decide +kernel)) rfl) dv_int (d := .tuple (W.map pairD)) rfl) (.tup _))) (DFor.conv (dfor_foldD pairD (fun s : PySem.Str => [some (webD mm W), some (.str s), none, none]) (fun _ => []) textStep (fun n s => s.length + 4 * n ≤ 60) W (sI mm ++ " :") ?i0 ?step) rfl))
      (dss_end (ds_ret (dv_n 1 rfl (by first | decide +kernel | (dsimp only [Ct.blk, locB]; decide +kernel)) rfl)))))
    case i0 => rw [app_len]; omega
    case step =>
      intro t ht n s hs
      obtain ⟨a, b, rfl, ha, hb⟩ := w.two t ht
      have e1 := len_sI ha
      have e2 := len_sI hb
      refine ⟨?_, _, rfl, by simp [ofree, TSpec.ix], _, (dss_cons (ds_set 1 rfl (by first | decide +kernel | (dsimp only [Ct.blk, locB]; decide +kernel)) (d := .str (textStep s ((a : Int), (b : Int)))) (dv_adds (dv_adds (dv_adds (dv_adds (dv_n 1 rfl (by first | decide +kernel | (dsimp only [Ct.blk, locB]; decide +kernel)) rfl) dv_str ?z1) (dv_str1 B (by first | decide +kernel | (dsimp only [Ct.blk, locB]; decide +kernel)) (dv_n 2 rfl (by first | decide +kernel | (dsimp only [Ct.blk, locB]; decide +kernel)) rfl) (log_small (by omega))) ?z2) dv_str ?z3) (dv_str1 B (by first | decide +kernel | (dsimp only [Ct.blk, locB]; decide +kernel)) (dv_n 3 rfl (by first | decide +kernel | (dsimp only [Ct.blk, locB]; decide +kernel)) rfl) (log_small (by omega))) ?z4)) dss_nil), (.cons (.cons (.drop (.drop .nil))))⟩
      · unfold textStep
        rw [app_len, app_len, app_len, app_len]
        show s.length + _ + (sI a).length + _ + (sI b).length + 4 * n ≤ 60
        omega
      · rw [sizeLine_eq]; omega
      · rw [app_len, sizeLine_eq]; show s.length + _ + (sI a).length ≤ _; omega
      · rw [app_len, app_len, sizeLine_eq]; show s.length + _ + (sI a).length + _ ≤ _; omega
      · rw [app_len, app_len, app_len, sizeLine_eq]; show s.length + _ + (sI a).length + _ + (sI b).length ≤ _; omega
theorem f_spoilt {m : Md} {f : Addr} {fd : FuncData} (B : Blt m) (F : Fun m.K "_law_spoilt" "_law_spoilt" (topS 20) f fd) (hb : Binds m.K fd ["_law_text_here", "_law_cell_here"] []) (hm : m.mg "_law_spoilt" = some (.ref f)) : Fn m "_law_spoilt" 1 rSpoil :=
  fn_ok (N := ["_law_text_here", "_law_cell_here", "_law_at", "_law_sign"]) F hb hm ⟨rfl, rfl, rfl, by decide +kernel, rfl, by decide +kernel, by decide +kernel⟩ (by decide +kernel) (fun ds d ⟨_, _, h, _⟩ => by rw [h]; rfl) fun ds d ⟨t, z, h, htl, hd⟩ => by
    subst h hd
    have tz : t.length ≤ sizeLine := by rw [sizeLine_eq]; omega
    have c := fun lo hi => (cutS_sub t lo hi).2
    have sl := sign_len z
    have rest : ∀ (k1 : Bool), True := fun _ => True.intro
    refine (dss_cons (ds_set 2 rfl (by first | decide +kernel | (dsimp only [Ct.blk, locB]; decide +kernel)) (d := natD (atM t z)) (DV.conv (dv_mod (dv_fdiv (dv_n 1 rfl (by first | decide +kernel | (dsimp only [Ct.blk, locB]; decide +kernel)) rfl) dv_int ⟨by decide, by decide⟩) (dv_addi (dv_len B (by first | decide +kernel | (dsimp only [Ct.blk, locB]; decide +kernel)) (dv_n 0 rfl (by first | decide +kernel | (dsimp only [Ct.blk, locB]; decide +kernel)) rfl) (.str t tz)) dv_int) (by omega)) (congrArg PyData.int (at_nat t z))))
      (dss_cons (ds_set 3 rfl (by first | decide +kernel | (dsimp only [Ct.blk, locB]; decide +kernel)) (d := .str (signM z)) (dv_ix dv_str (dv_mod (dv_fdiv (dv_n 1 rfl (by first | decide +kernel | (dsimp only [Ct.blk, locB]; decide +kernel)) rfl) dv_int ⟨by decide, by decide⟩) dv_int (by decide)) (.str (by rw [sizeLine_eq]; decide +kernel) (sign_at z)))) ?_))
    by_cases h0 : z % 4 = 0
    · rw [show spoilM t z = _ from if_pos h0]
      exact (dss_if (k := true) (DT.conv (dt_c (dc_eq (dv_mod (dv_n 1 rfl (by first | decide +kernel | (dsimp only [Ct.blk, locB]; decide +kernel)) rfl) dv_int (by decide)) dv_int (nc_int _).sh (by rfl))) (by rw [eqv_int]; exact decide_eq_true h0)) (fun hb => ⟨_, rfl, (dss_end (ds_ret (dv_adds (dv_sls (dv_n 0 rfl (by first | decide +kernel | (dsimp only [Ct.blk, locB]; decide +kernel)) rfl) do_none (do_some (dv_n 2 rfl (by first | decide +kernel | (dsimp only [Ct.blk, locB]; decide +kernel)) rfl)) tz) (dv_sls (dv_n 0 rfl (by first | decide +kernel | (dsimp only [Ct.blk, locB]; decide +kernel)) rfl) (do_some (dv_addi (dv_n 2 rfl (by first | decide +kernel | (dsimp only [Ct.blk, locB]; decide +kernel)) rfl) dv_int)) do_none tz) (by rw [sizeLine_eq]; have := c none (some (atM t z : Int)); have := c (some ((atM t z : Int) + 1)) none; omega))))⟩) (fun hb => by cases hb))
    · refine (dss_if (k := false) (DT.conv (dt_c (dc_eq (dv_mod (dv_n 1 rfl (by first | decide +kernel | (dsimp only [Ct.blk, locB]; decide +kernel)) rfl) dv_int (by decide)) dv_int (nc_int _).sh (by rfl))) (by rw [eqv_int]; exact decide_eq_false h0)) (fun hb => by cases hb) (fun hb => ?_))
      by_cases h1 : z % 4 = 1
      · rw [show spoilM t z = _ from (if_neg h0).trans (if_pos h1)]
        exact (dss_if (k := true) (DT.conv (dt_c (dc_eq (dv_mod (dv_n 1 rfl (by first | decide +kernel | (dsimp only [Ct.blk, locB]; decide +kernel)) rfl) dv_int (by decide)) dv_int (nc_int _).sh (by rfl))) (by rw [eqv_int]; exact decide_eq_true h1)) (fun hb => ⟨_, rfl, (dss_end (ds_ret (dv_adds (dv_adds (dv_sls (dv_n 0 rfl (by first | decide +kernel | (dsimp only [Ct.blk, locB]; decide +kernel)) rfl) do_none (do_some (dv_n 2 rfl (by first | decide +kernel | (dsimp only [Ct.blk, locB]; decide +kernel)) rfl)) tz) (dv_sls (dv_n 0 rfl (by first | decide +kernel | (dsimp only [Ct.blk, locB]; decide +kernel)) rfl) (do_some (dv_n 2 rfl (by first | decide +kernel | (dsimp only [Ct.blk, locB]; decide +kernel)) rfl)) (do_some (dv_addi (dv_n 2 rfl (by first | decide +kernel | (dsimp only [Ct.blk, locB]; decide +kernel)) rfl) dv_int)) tz) (by rw [sizeLine_eq]; have := c none (some (atM t z : Int)); have := c (some (atM t z : Int)) (some ((atM t z : Int) + 1)); omega)) (dv_sls (dv_n 0 rfl (by first | decide +kernel | (dsimp only [Ct.blk, locB]; decide +kernel)) rfl) (do_some (dv_n 2 rfl (by first | decide +kernel | (dsimp only [Ct.blk, locB]; decide +kernel)) rfl)) do_none tz) (by rw [sizeLine_eq, app_len]; have := c none (some (atM t z : Int)); have := c (some (atM t z : Int)) (some ((atM t z : Int) + 1)); have := c (some (atM t z : Int)) none; omega))))⟩) (fun hb => by cases hb))
      · rw [show spoilM t z = _ from (if_neg h0).trans (if_neg h1)]
        exact (dss_if (k := false) (DT.conv (dt_c (dc_eq (dv_mod (dv_n 1 rfl (by first | decide +kernel | (dsimp only [Ct.blk, locB]; decide +kernel)) rfl) dv_int (by decide)) dv_int (nc_int _).sh (by rfl))) (by rw [eqv_int]; exact decide_eq_false h1)) (fun hb => by cases hb) (fun hb => (dss_end (ds_ret (dv_adds (dv_adds (dv_sls (dv_n 0 rfl (by first | decide +kernel | (dsimp only [Ct.blk, locB]; decide +kernel)) rfl) do_none (do_some (dv_n 2 rfl (by first | decide +kernel | (dsimp only [Ct.blk, locB]; decide +kernel)) rfl)) tz) (dv_n 3 rfl (by first | decide +kernel | (dsimp only [Ct.blk, locB]; decide +kernel)) rfl) (by rw [sizeLine_eq]; have := c none (some (atM t z : Int)); omega)) (dv_sls (dv_n 0 rfl (by first | decide +kernel | (dsimp only [Ct.blk, locB]; decide +kernel)) rfl) (do_some (dv_sub (dv_addi (dv_n 2 rfl (by first | decide +kernel | (dsimp only [Ct.blk, locB]; decide +kernel)) rfl) (dv_mod (dv_n 1 rfl (by first | decide +kernel | (dsimp only [Ct.blk, locB]; decide +kernel)) rfl) dv_int (by decide))) dv_int)) do_none tz) (by rw [sizeLine_eq, app_len]; have := c none (some (atM t z : Int)); have := c (some ((atM t z : Int) + z % 4 - 2)) none; omega))))))
theorem f_lread {m : Md} {f : Addr} {fd : FuncData} (B : Blt m) {A : Addr} (E : ExcH m "PageError" "NoText" "NoRun" A) (F_read : Fn m "read" 4 rRead) (F_readx : FnX m "read" 4 (.ref A) rReadX) (F : Fun m.K "_law_read" "_law_read" (topS 21) f fd) (hb : Binds m.K fd ["_law_text_here"] []) (hm : m.mg "_law_read" = some (.ref f)) : Fn m "_law_read" 5 rLRead :=
  fn_okT (N := ["_law_text_here", "_law_found", "e"]) F hb hm ⟨rfl, rfl, rfl, by decide +kernel, rfl, by decide +kernel, by decide +kernel⟩ (by decide +kernel) (fun ds d ⟨_, h, _⟩ => by rw [h]; rfl) fun ds d ⟨t, h, ht, htl, hd⟩ => by
    subst h hd
    cases e : readM t with
    | some x =>
      obtain ⟨n, ties⟩ := x
      exact dts_of (dss_cons (ds_set 1 rfl (by first | decide +kernel | (dsimp only [Ct.blk, locB]; decide +kernel)) dv_str) (dss_cons (ds_thru (dss_cons (ds_set 1 rfl (by first | decide +kernel | (dsimp only [Ct.blk, locB]; decide +kernel)) (dv_call F_read (by dsimp only [Ct.blk]; omega) (by first | decide +kernel | (dsimp only [Ct.blk, locB]; decide +kernel)) (da_cons (dv_n 0 rfl (by first | decide +kernel | (dsimp only [Ct.blk, locB]; decide +kernel)) rfl) da_nil) ⟨t, n, ties, rfl, ht, htl, e, rfl⟩)) dss_nil)) (dss_end (ds_ret (dv_n 1 rfl (by first | decide +kernel | (dsimp only [Ct.blk, locB]; decide +kernel)) rfl)))))
    | none =>
      exact dts_cons (ds_set 1 rfl (by first | decide +kernel | (dsimp only [Ct.blk, locB]; decide +kernel)) dv_str) (dts_cons1 (dt_caught (i := 2) (j := 1) E rfl rfl (by decide) (by first | decide +kernel | (dsimp only [Ct.blk, locB]; decide +kernel)) (by first | decide +kernel | (dsimp only [Ct.blk, locB]; decide +kernel)) (by first | decide +kernel | (dsimp only [Ct.blk, locB]; decide +kernel)) (by first | decide +kernel | (dsimp only [Ct.blk, locB]; decide +kernel)) (by first | decide +kernel | (dsimp only [Ct.blk, locB]; decide +kernel)) (by first | decide +kernel | (dsimp only [Ct.blk, locB]; decide +kernel)) (by first | decide +kernel | (dsimp only [Ct.blk, locB]; decide +kernel)) B.isinstance (dsxs_first (dsx_set (i := 1) rfl (by first | decide +kernel | (dsimp only [Ct.blk, locB]; decide +kernel)) (dvx_call F_readx (by dsimp only [Ct.blk]; omega) (by first | decide +kernel | (dsimp only [Ct.blk, locB]; decide +kernel)) (da_cons (dv_n 0 rfl (by first | decide +kernel | (dsimp only [Ct.blk, locB]; decide +kernel)) rfl) da_nil) ⟨t, rfl, ht, htl, e⟩)))) (dts_of (dss_end (ds_ret (dv_n 1 rfl (by first | decide +kernel | (dsimp only [Ct.blk, locB]; decide +kernel)) rfl)))))
def bads12 : List PySem.Str := ["", ":", "1", "1:", "1 : ", "2 : 1-0", "2 : 0-1 ", " 2 : 0-1", "2 : 0-1 0-1", "2 : 0", "2 : 0-", "7 :"]
def bads3 : List PySem.Str := ["0 :", "2 : 0-2", "3 : 0-2 0-1"]
theorem bads_none : ∀ t ∈ bads12 ++ bads3, readM t = none ∧ okS t ∧ t.length ≤ 1000 := by
  have h : ((bads12 ++ bads3).all fun t => (readM t).isNone && (t.cps.toList.all (fun c => decide (c < 0x110000)) && decide (t.length ≤ 1000))) = true := by decide +kernel
  intro t ht
  have := List.all_eq_true.mp h t ht
  obtain ⟨h1, h2⟩ := Bool.and_eq_true_iff.mp this
  obtain ⟨h2, h3⟩ := Bool.and_eq_true_iff.mp h2
  exact ⟨Option.isNone_iff_eq_none.mp h1, fun c hc => of_decide_eq_true (List.all_eq_true.mp h2 c hc), of_decide_eq_true h3⟩
theorem read_1 : readM "1 :" = some (1, []) ∧ okS "1 :" := ⟨by decide +kernel, fun c hc => of_decide_eq_true (List.all_eq_true.mp (show (("1 :" : PySem.Str).cps.toList.all fun c => decide (c < 0x110000)) = true by decide +kernel) c hc)⟩
theorem read_2 : readM "2 :" = some (2, []) ∧ okS "2 :" := ⟨by decide +kernel, fun c hc => of_decide_eq_true (List.all_eq_true.mp (show (("2 :" : PySem.Str).cps.toList.all fun c => decide (c < 0x110000)) = true by decide +kernel) c hc)⟩
theorem nc_web2 (m : Nat) (ties : List (Int × Int)) : Nc 3 (webD m ties) := nc_tup (n := 2) fun x hx => by
  simp only [List.mem_cons, List.not_mem_nil, or_false] at hx
  rcases hx with rfl | rfl
  · exact (nc_int _).up (by omega)
  · exact nc_tup (nc_pairs ties)
theorem f_law {m : Md} {f : Addr} {fd : FuncData} (B : Blt m) (F_isweb : Fn m "is_web" 3 rIsWeb) (F_written : Fn m "written" 1 rWritten) (F_read : Fn m "read" 4 rRead) (F_web : Fn m "_law_web" 2 rWeb) (F_text : Fn m "_law_text" 1 rText) (F_spoilt : Fn m "_law_spoilt" 1 rSpoil) (F_lread : Fn m "_law_read" 5 rLRead)
    (F : Fun m.K "law" "law" (topS 22) f fd) : FnOk m.P m.w m.K m.mg m.base CX0 6 f fd ["_law_script"] (spD m.K rLaw) :=
  fn_core (N := ["_law_script", "_law_cell_here", "_law_web_here", "_law_text_here", "_law_bad", "_law_found", "_law_some"]) F ⟨rfl, rfl, rfl, by decide +kernel, rfl, by decide +kernel, by decide +kernel⟩ (by decide +kernel) (fun ds d ⟨_, _, h, _⟩ => by rw [h]; rfl) fun ds d ⟨n, ns, h, h63, hn, hz, hd⟩ => by
    subst h hd
    refine (dss_cons (ds_for1 1 (dg_one 1 rfl (by first | decide +kernel | (dsimp only [Ct.blk, locB]; decide +kernel))) (di_seq (dn_dv (dn_slscr (dv_n 0 rfl (by first | decide +kernel | (dsimp only [Ct.blk, locB]; decide +kernel)) rfl) do_none (do_some dv_int))) (.lst _)) (dfor_keep PyData.int (cutD ns none (some 8)) ?loop1))
      (dss_cons (ds_set 6 rfl (by first | decide +kernel | (dsimp only [Ct.blk, locB]; decide +kernel)) (d := .list (bads12.map .str)) (dn_dv (dn_lst (da_cons dv_str (da_cons dv_str (da_cons dv_str (da_cons dv_str (da_cons dv_str (da_cons dv_str (da_cons dv_str (da_cons dv_str (da_cons dv_str (da_cons dv_str (da_cons dv_str (da_cons dv_str da_nil)))))))))))) (by decide))))
      (dss_cons (ds_for1 4 (dg_one 4 rfl (by first | decide +kernel | (dsimp only [Ct.blk, locB]; decide +kernel))) (DI1.conv (di_seq (dn_dv (dn_cat (dv_n 6 rfl (by first | decide +kernel | (dsimp only [Ct.blk, locB]; decide +kernel)) rfl) (dn_dv (dn_lst (da_cons dv_str (da_cons dv_str (da_cons dv_str da_nil))) (by simp))) (by decide))) (.lst _)) (show _ = (bads12 ++ bads3).map PyData.str from rfl)) (dfor_keep PyData.str (bads12 ++ bads3) ?loop4))
      (dss_end (ds_ret (DV.conv (dv_and (k := true) (j := true) (DV.conv (dv_c (dc_eq (dv_call F_read (by dsimp only [Ct.blk]; omega) (by first | decide +kernel | (dsimp only [Ct.blk, locB]; decide +kernel)) (da_cons dv_str da_nil) ⟨_, 1, [], rfl, read_1.2, by decide +kernel, read_1.1, rfl⟩) (dv_tup (da_cons dv_int (da_cons (dv_tup da_nil (by simp)) da_nil)) (by simp)) (nc_web2 _ _).sh (by decide +kernel))) (congrArg PyData.bool (by decide +kernel))) (fun _ => (dv_bop1 (DV.conv (dv_c (dc_eq (dv_call F_read (by dsimp only [Ct.blk]; omega) (by first | decide +kernel | (dsimp only [Ct.blk, locB]; decide +kernel)) (da_cons dv_str da_nil) ⟨_, 2, [], rfl, read_2.2, by decide +kernel, read_2.1, rfl⟩) (dv_tup (da_cons dv_int (da_cons (dv_tup da_nil (by simp)) da_nil)) (by simp)) (nc_web2 _ _).sh (by decide +kernel))) (congrArg PyData.bool (by decide +kernel)))))) rfl))))))
    case loop4 =>
      intro t ht
      obtain ⟨h1, h2, h3⟩ := bads_none t ht
      exact ⟨_, rfl, by simp [ofree], _, (dss_if (k := false) (DT.conv (dt_c (dc_notn (x := .none) (DV.conv (dv_call F_lread (by dsimp only [Ct.blk]; omega) (by first | decide +kernel | (dsimp only [Ct.blk, locB]; decide +kernel)) (da_cons (dv_n 4 rfl (by first | decide +kernel | (dsimp only [Ct.blk, locB]; decide +kernel)) rfl) da_nil) ⟨t, rfl, h2, h3, rfl⟩) (by rw [h1]; rfl)) dv_non)) rfl) (fun hb => by cases hb) (fun hb => dss_nil)), (.cons (.cons (.cons (.cons (.drop (.cons (.cons .nil)))))))⟩
    case loop1 =>
      intro z hz0
      have hsm := hz z (mem_cut hz0)
      have tok := tiesM_ok z (most := 6) 12 (by omega)
      have hmany := manyM_pos z (most := 6) (by omega)
      generalize hW : tiesM z 6 12 = W at tok
      generalize hM : manyM z 6 = M at tok hmany
      have sw := smw_of tok.1 hmany.2 tok.2
      have l12 := tok.2
      have htl := sw.tlen
      have hto := sw.ok
      have hrd := read_text tok.1 hmany.1 hmany.2 tok.2
      have hnp := natsOf_pair tok.1 hmany.2
      obtain ⟨T, hT⟩ : ∃ T, textM (M : Int) W = T := ⟨_, rfl⟩
      rw [hT] at htl hto hrd
      obtain ⟨hbo, hbl⟩ := spoil_ok (t := T) (z / 3) hto
      obtain ⟨b, hbb⟩ : ∃ b, spoilM T (z / 3) = b := ⟨_, rfl⟩
      rw [hbb] at hbo hbl
      cases e : readM b with
      | none =>
        exact ⟨_, rfl, by simp [ofree], _, (dss_cons (ds_set 2 rfl (by first | decide +kernel | (dsimp only [Ct.blk, locB]; decide +kernel)) (DV.conv (dv_call F_web (by dsimp only [Ct.blk]; omega) (by first | decide +kernel | (dsimp only [Ct.blk, locB]; decide +kernel)) (da_cons (dv_n 1 rfl (by first | decide +kernel | (dsimp only [Ct.blk, locB]; decide +kernel)) rfl) (da_cons dv_int (da_cons dv_int da_nil))) ⟨n, z, 6, 12, rfl, hsm, by omega, by omega, by omega, by omega, rfl⟩) (show wD z 6 12 = webD M W by unfold wD; rw [hM, hW])))
          (dss_cons (ds_set 3 rfl (by first | decide +kernel | (dsimp only [Ct.blk, locB]; decide +kernel)) (d := .str T) (DV.conv (dv_call F_text (by dsimp only [Ct.blk]; omega) (by first | decide +kernel | (dsimp only [Ct.blk, locB]; decide +kernel)) (da_cons (dv_n 2 rfl (by first | decide +kernel | (dsimp only [Ct.blk, locB]; decide +kernel)) rfl) da_nil) ⟨M, W, rfl, sw, rfl⟩) (by rw [hT])))
          (dss_if (k := false) (DT.conv (dt_w (dw_or (k := false) (DT.conv (dt_c (dc_nes (dv_call F_written (by dsimp only [Ct.blk]; omega) (by first | decide +kernel | (dsimp only [Ct.blk, locB]; decide +kernel)) (da_cons (dv_n 2 rfl (by first | decide +kernel | (dsimp only [Ct.blk, locB]; decide +kernel)) rfl) da_nil) ⟨M, W, rfl, sw, rfl⟩) (dv_n 3 rfl (by first | decide +kernel | (dsimp only [Ct.blk, locB]; decide +kernel)) rfl))) (by rw [wr_text, hT, decide_eq_true rfl]; rfl)) (fun _ => (dw_or1 (k := false) (DT.conv (dt_c (dc_ne (dv_call F_read (by dsimp only [Ct.blk]; omega) (by first | decide +kernel | (dsimp only [Ct.blk, locB]; decide +kernel)) (da_cons (dv_n 3 rfl (by first | decide +kernel | (dsimp only [Ct.blk, locB]; decide +kernel)) rfl) da_nil) ⟨T, M, natsOf W, rfl, hto, by omega, hrd, rfl⟩) (dv_n 2 rfl (by first | decide +kernel | (dsimp only [Ct.blk, locB]; decide +kernel)) rfl) (nc_web2 _ _).sh (nc_web2 _ _).sh)) (by rw [hnp]; exact congrArg (!·) (nc_web2 _ _).eq_self)))))) rfl) (fun hb => by cases hb) (fun hb =>
          (dss_cons (ds_set 4 rfl (by first | decide +kernel | (dsimp only [Ct.blk, locB]; decide +kernel)) (d := .str b) (DV.conv (dv_call F_spoilt (by dsimp only [Ct.blk]; omega) (by first | decide +kernel | (dsimp only [Ct.blk, locB]; decide +kernel)) (da_cons (dv_n 3 rfl (by first | decide +kernel | (dsimp only [Ct.blk, locB]; decide +kernel)) rfl) (da_cons (dv_fdiv (dv_n 1 rfl (by first | decide +kernel | (dsimp only [Ct.blk, locB]; decide +kernel)) rfl) dv_int ⟨by decide, by decide⟩) da_nil)) ⟨T, z / 3, rfl, by omega, rfl⟩) (by rw [hbb])))
          (dss_cons (ds_set 5 rfl (by first | decide +kernel | (dsimp only [Ct.blk, locB]; decide +kernel)) (d := .none) (DV.conv (dv_call F_lread (by dsimp only [Ct.blk]; omega) (by first | decide +kernel | (dsimp only [Ct.blk, locB]; decide +kernel)) (da_cons (dv_n 4 rfl (by first | decide +kernel | (dsimp only [Ct.blk, locB]; decide +kernel)) rfl) da_nil) ⟨b, rfl, hbo, by omega, rfl⟩) (by rw [e]; rfl)))
          (dss_if (k := false) (DT.conv (dt_w (dw_and (k := false) (j := false) (DT.conv (dt_c (dc_notn (x := .none) (dv_n 5 rfl (by first | decide +kernel | (dsimp only [Ct.blk, locB]; decide +kernel)) rfl) dv_non)) rfl) (fun hb => by cases hb))) rfl) (fun hb => by cases hb) (fun hb => dss_nil)))))))), (.cons (.drop (.drop (.drop (.drop (.drop (.cons .nil)))))))⟩
      | some x =>
        obtain ⟨q, ties⟩ := x
        obtain ⟨g1, g2, _, _, _⟩ := read_some e
        obtain ⟨s1, s2, s3, s4, s5⟩ := webD_small g1
        have sq : SmW q (ties.map pairOf) := ⟨by omega, by rw [List.length_map]; exact s4, s5⟩
        rw [s1] at g1
        rw [wr_text] at g2
        exact ⟨_, rfl, by simp [ofree], _, (dss_cons (ds_set 2 rfl (by first | decide +kernel | (dsimp only [Ct.blk, locB]; decide +kernel)) (DV.conv (dv_call F_web (by dsimp only [Ct.blk]; omega) (by first | decide +kernel | (dsimp only [Ct.blk, locB]; decide +kernel)) (da_cons (dv_n 1 rfl (by first | decide +kernel | (dsimp only [Ct.blk, locB]; decide +kernel)) rfl) (da_cons dv_int (da_cons dv_int da_nil))) ⟨n, z, 6, 12, rfl, hsm, by omega, by omega, by omega, by omega, rfl⟩) (show wD z 6 12 = webD M W by unfold wD; rw [hM, hW])))
          (dss_cons (ds_set 3 rfl (by first | decide +kernel | (dsimp only [Ct.blk, locB]; decide +kernel)) (d := .str T) (DV.conv (dv_call F_text (by dsimp only [Ct.blk]; omega) (by first | decide +kernel | (dsimp only [Ct.blk, locB]; decide +kernel)) (da_cons (dv_n 2 rfl (by first | decide +kernel | (dsimp only [Ct.blk, locB]; decide +kernel)) rfl) da_nil) ⟨M, W, rfl, sw, rfl⟩) (by rw [hT])))
          (dss_if (k := false) (DT.conv (dt_w (dw_or (k := false) (DT.conv (dt_c (dc_nes (dv_call F_written (by dsimp only [Ct.blk]; omega) (by first | decide +kernel | (dsimp only [Ct.blk, locB]; decide +kernel)) (da_cons (dv_n 2 rfl (by first | decide +kernel | (dsimp only [Ct.blk, locB]; decide +kernel)) rfl) da_nil) ⟨M, W, rfl, sw, rfl⟩) (dv_n 3 rfl (by first | decide +kernel | (dsimp only [Ct.blk, locB]; decide +kernel)) rfl))) (by rw [wr_text, hT, decide_eq_true rfl]; rfl)) (fun _ => (dw_or1 (k := false) (DT.conv (dt_c (dc_ne (dv_call F_read (by dsimp only [Ct.blk]; omega) (by first | decide +kernel | (dsimp only [Ct.blk, locB]; decide +kernel)) (da_cons (dv_n 3 rfl (by first | decide +kernel | (dsimp only [Ct.blk, locB]; decide +kernel)) rfl) da_nil) ⟨T, M, natsOf W, rfl, hto, by omega, hrd, rfl⟩) (dv_n 2 rfl (by first | decide +kernel | (dsimp only [Ct.blk, locB]; decide +kernel)) rfl) (nc_web2 _ _).sh (nc_web2 _ _).sh)) (by rw [hnp]; exact congrArg (!·) (nc_web2 _ _).eq_self)))))) rfl) (fun hb => by cases hb) (fun hb =>
          (dss_cons (ds_set 4 rfl (by first | decide +kernel | (dsimp only [Ct.blk, locB]; decide +kernel)) (d := .str b) (DV.conv (dv_call F_spoilt (by dsimp only [Ct.blk]; omega) (by first | decide +kernel | (dsimp only [Ct.blk, locB]; decide +kernel)) (da_cons (dv_n 3 rfl (by first | decide +kernel | (dsimp only [Ct.blk, locB]; decide +kernel)) rfl) (da_cons (dv_fdiv (dv_n 1 rfl (by first | decide +kernel | (dsimp only [Ct.blk, locB]; decide +kernel)) rfl) dv_int ⟨by decide, by decide⟩) da_nil)) ⟨T, z / 3, rfl, by omega, rfl⟩) (by rw [hbb])))
          (dss_cons (ds_set 5 rfl (by first | decide +kernel | (dsimp only [Ct.blk, locB]; decide +kernel)) (d := webD q (ties.map pairOf)) (DV.conv (dv_call F_lread (by dsimp only [Ct.blk]; omega) (by first | decide +kernel | (dsimp only [Ct.blk, locB]; decide +kernel)) (da_cons (dv_n 4 rfl (by first | decide +kernel | (dsimp only [Ct.blk, locB]; decide +kernel)) rfl) da_nil) ⟨b, rfl, hbo, by omega, rfl⟩) (by rw [e]; rfl)))
          (dss_if (k := false) (DT.conv (dt_w (dw_and (k := true) (j := false) (DT.conv (dt_c (dc_notn (x := webD q (ties.map pairOf)) (dv_n 5 rfl (by first | decide +kernel | (dsimp only [Ct.blk, locB]; decide +kernel)) rfl) dv_non)) rfl) (fun _ => (dw_and1 (dt_w (dw_or (k := false) (j := false) (DT.conv (dt_not (dt_val (dv_call F_isweb (by dsimp only [Ct.blk]; omega) (by first | decide +kernel | (dsimp only [Ct.blk, locB]; decide +kernel)) (da_cons (dv_n 5 rfl (by first | decide +kernel | (dsimp only [Ct.blk, locB]; decide +kernel)) rfl) da_nil) ⟨_, rfl, (nc_web2 _ _).lay, rfl⟩))) (by rw [g1]; rfl)) (fun _ => (dw_or1 (k := false) (DT.conv (dt_c (dc_nes (dv_call F_text (by dsimp only [Ct.blk]; omega) (by first | decide +kernel | (dsimp only [Ct.blk, locB]; decide +kernel)) (da_cons (dv_n 5 rfl (by first | decide +kernel | (dsimp only [Ct.blk, locB]; decide +kernel)) rfl) da_nil) ⟨q, _, rfl, sq, rfl⟩) (dv_n 4 rfl (by first | decide +kernel | (dsimp only [Ct.blk, locB]; decide +kernel)) rfl))) (by rw [g2, decide_eq_true rfl]; rfl)))))))))) rfl) (fun hb => by cases hb) (fun hb => dss_nil)))))))), (.cons (.drop (.drop (.drop (.drop (.drop (.cons .nil)))))))⟩
theorem kit_self {K : PySem.W.Frag} {A : Addr} : PySem.W.kitOne K (.ref A) (.ref A) = some true := by
  unfold PySem.W.kitOne
  rw [if_pos (by simp)]
theorem kit_other {K : PySem.W.Frag} {A R : Addr} (j1 : PySem.W.hasDictIn K R = true) (j2 : PySem.W.typeIn K (.ref R) = some (.type "type")) (j3 : PySem.W.subIn K (.ref A) (.ref R) = some false) (j4 : PySem.W.subIn K (.ref A) (.ref A) = some true) : PySem.W.kitOne K (.ref A) (.ref R) = some false := by
  have ne : A ≠ R := fun e => by
    rw [← e, j4] at j3
    cases j3
  unfold PySem.W.kitOne
  rw [if_neg (by simp [ne])]
  obtain ⟨cd, hc, _⟩ := PySem.W.any_some j1
  show (if ((PySem.W.clsIn K R).isSome && PySem.W.typeIn K (.ref R) == some (.type "type")) = true then PySem.W.subIn K (.ref A) (.ref R) else none) = some false
  rw [if_pos (by rw [hc, j2] <;> rfl)]
  exact j3
theorem kit_val {K : PySem.W.Frag} {A : Addr} (j5 : PySem.W.subIn K (.ref A) (.type "ValueError") = some true) : PySem.W.kitOne K (.ref A) (.type "ValueError") = some true := by
  unfold PySem.W.kitOne
  rw [if_neg (by simp)]
  show (if PySem.W.kitMeta "ValueError" = true then PySem.W.subIn K (.ref A) (.type "ValueError") else none) = some true
  rw [if_pos (by decide +kernel)]
  exact j5
theorem all_mk {l : PySem.W.OpenLaw} {w : World} {K : PySem.W.Frag} {h : Heap} {mg : PySem.Str → Option Value} {fa f0 f1 f2 f3 f4 f5 f6 f7 f8 f9 f10 f11 f12 f13 f14 : Addr} (X : K.In h) (G : h.Ns mainGlobals mg) (hfa : mg "law" = some (.ref fa))
    {od0 an0 od1 an1 od2 an2 od3 an3 od4 an4 od5 an5 od6 an6 od7 an7 od8 an8 od9 an9 od10 an10 od11 an11 od12 an12 od13 an13 od14 an14 : Option Addr} {sl0 sl1 sl2 sl3 sl4 sl5 sl6 sl7 sl8 sl9 sl10 sl11 sl12 sl13 sl14 : Array (Option Value)} {oc0 kV0 dc0 pm0 cd0 ct0 oc1 kV1 dc1 pm1 cd1 ct1 oc2 kV2 dc2 pm2 cd2 ct2 oc3 kV3 dc3 pm3 cd3 ct3 oc4 kV4 dc4 pm4 cd4 ct4 oc5 kV5 dc5 pm5 cd5 ct5 oc6 kV6 dc6 pm6 cd6 ct6 oc7 kV7 dc7 pm7 cd7 ct7 oc8 kV8 dc8 pm8 cd8 ct8 oc9 kV9 dc9 pm9 cd9 ct9 oc10 kV10 dc10 pm10 cd10 ct10 oc11 kV11 dc11 pm11 cd11 ct11 oc12 kV12 dc12 pm12 cd12 ct12 oc13 kV13 dc13 pm13 cd13 ct13 oc14 kV14 dc14 pm14 cd14 ct14 : Value}
    (a0 : PySem.W.nsIn K mainGlobals "is_number" = some (some (.ref f0))) (l0 : K.lookup f0 = some ⟨oc0, od0, .func (PySem.W.fnOf "is_number" "is_number" (defArgs (topS 5)) (defBody (topS 5)) (defScope (topS 5)) .none kV0 dc0 pm0 an0 cd0 ct0), sl0⟩) (c0 : PySem.W.codeIn K cd0 "is_number" = true) (k0 : PySem.W.keepIn K (.ref f0) = true)
    (a1 : PySem.W.nsIn K mainGlobals "is_rising" = some (some (.ref f1))) (l1 : K.lookup f1 = some ⟨oc1, od1, .func (PySem.W.fnOf "is_rising" "is_rising" (defArgs (topS 6)) (defBody (topS 6)) (defScope (topS 6)) .none kV1 dc1 pm1 an1 cd1 ct1), sl1⟩) (c1 : PySem.W.codeIn K cd1 "is_rising" = true) (k1 : PySem.W.keepIn K (.ref f1) = true)
    (a2 : PySem.W.nsIn K mainGlobals "is_tie" = some (some (.ref f2))) (l2 : K.lookup f2 = some ⟨oc2, od2, .func (PySem.W.fnOf "is_tie" "is_tie" (defArgs (topS 7)) (defBody (topS 7)) (defScope (topS 7)) .none kV2 dc2 pm2 an2 cd2 ct2), sl2⟩) (c2 : PySem.W.codeIn K cd2 "is_tie" = true) (k2 : PySem.W.keepIn K (.ref f2) = true)
    (a3 : PySem.W.nsIn K mainGlobals "is_web" = some (some (.ref f3))) (l3 : K.lookup f3 = some ⟨oc3, od3, .func (PySem.W.fnOf "is_web" "is_web" (defArgs (topS 8)) (defBody (topS 8)) (defScope (topS 8)) .none kV3 dc3 pm3 an3 cd3 ct3), sl3⟩) (c3 : PySem.W.codeIn K cd3 "is_web" = true) (k3 : PySem.W.keepIn K (.ref f3) = true)
    (a4 : PySem.W.nsIn K mainGlobals "written" = some (some (.ref f4))) (l4 : K.lookup f4 = some ⟨oc4, od4, .func (PySem.W.fnOf "written" "written" (defArgs (topS 10)) (defBody (topS 10)) (defScope (topS 10)) .none kV4 dc4 pm4 an4 cd4 ct4), sl4⟩) (c4 : PySem.W.codeIn K cd4 "written" = true) (k4 : PySem.W.keepIn K (.ref f4) = true)
    (a5 : PySem.W.nsIn K mainGlobals "figure" = some (some (.ref f5))) (l5 : K.lookup f5 = some ⟨oc5, od5, .func (PySem.W.fnOf "figure" "figure" (defArgs (topS 12)) (defBody (topS 12)) (defScope (topS 12)) .none kV5 dc5 pm5 an5 cd5 ct5), sl5⟩) (c5 : PySem.W.codeIn K cd5 "figure" = true) (k5 : PySem.W.keepIn K (.ref f5) = true)
    (a6 : PySem.W.nsIn K mainGlobals "figure" = some (some (.ref f6))) (l6 : K.lookup f6 = some ⟨oc6, od6, .func (PySem.W.fnOf "figure" "figure" (defArgs (topS 12)) (defBody (topS 12)) (defScope (topS 12)) .none kV6 dc6 pm6 an6 cd6 ct6), sl6⟩) (c6 : PySem.W.codeIn K cd6 "figure" = true) (k6 : PySem.W.keepIn K (.ref f6) = true)
    (a7 : PySem.W.nsIn K mainGlobals "read" = some (some (.ref f7))) (l7 : K.lookup f7 = some ⟨oc7, od7, .func (PySem.W.fnOf "read" "read" (defArgs (topS 13)) (defBody (topS 13)) (defScope (topS 13)) .none kV7 dc7 pm7 an7 cd7 ct7), sl7⟩) (c7 : PySem.W.codeIn K cd7 "read" = true) (k7 : PySem.W.keepIn K (.ref f7) = true)
    (a8 : PySem.W.nsIn K mainGlobals "read" = some (some (.ref f8))) (l8 : K.lookup f8 = some ⟨oc8, od8, .func (PySem.W.fnOf "read" "read" (defArgs (topS 13)) (defBody (topS 13)) (defScope (topS 13)) .none kV8 dc8 pm8 an8 cd8 ct8), sl8⟩) (c8 : PySem.W.codeIn K cd8 "read" = true) (k8 : PySem.W.keepIn K (.ref f8) = true)
    (a9 : PySem.W.nsIn K mainGlobals "_law_mix" = some (some (.ref f9))) (l9 : K.lookup f9 = some ⟨oc9, od9, .func (PySem.W.fnOf "_law_mix" "_law_mix" (defArgs (topS 16)) (defBody (topS 16)) (defScope (topS 16)) .none kV9 dc9 pm9 an9 cd9 ct9), sl9⟩) (c9 : PySem.W.codeIn K cd9 "_law_mix" = true) (k9 : PySem.W.keepIn K (.ref f9) = true)
    (a10 : PySem.W.nsIn K mainGlobals "_law_web" = some (some (.ref f10))) (l10 : K.lookup f10 = some ⟨oc10, od10, .func (PySem.W.fnOf "_law_web" "_law_web" (defArgs (topS 17)) (defBody (topS 17)) (defScope (topS 17)) .none kV10 dc10 pm10 an10 cd10 ct10), sl10⟩) (c10 : PySem.W.codeIn K cd10 "_law_web" = true) (k10 : PySem.W.keepIn K (.ref f10) = true)
    (a11 : PySem.W.nsIn K mainGlobals "_law_text" = some (some (.ref f11))) (l11 : K.lookup f11 = some ⟨oc11, od11, .func (PySem.W.fnOf "_law_text" "_law_text" (defArgs (topS 19)) (defBody (topS 19)) (defScope (topS 19)) .none kV11 dc11 pm11 an11 cd11 ct11), sl11⟩) (c11 : PySem.W.codeIn K cd11 "_law_text" = true) (k11 : PySem.W.keepIn K (.ref f11) = true)
    (a12 : PySem.W.nsIn K mainGlobals "_law_spoilt" = some (some (.ref f12))) (l12 : K.lookup f12 = some ⟨oc12, od12, .func (PySem.W.fnOf "_law_spoilt" "_law_spoilt" (defArgs (topS 20)) (defBody (topS 20)) (defScope (topS 20)) .none kV12 dc12 pm12 an12 cd12 ct12), sl12⟩) (c12 : PySem.W.codeIn K cd12 "_law_spoilt" = true) (k12 : PySem.W.keepIn K (.ref f12) = true)
    (a13 : PySem.W.nsIn K mainGlobals "_law_read" = some (some (.ref f13))) (l13 : K.lookup f13 = some ⟨oc13, od13, .func (PySem.W.fnOf "_law_read" "_law_read" (defArgs (topS 21)) (defBody (topS 21)) (defScope (topS 21)) .none kV13 dc13 pm13 an13 cd13 ct13), sl13⟩) (c13 : PySem.W.codeIn K cd13 "_law_read" = true) (k13 : PySem.W.keepIn K (.ref f13) = true)
    (a14 : PySem.W.nsIn K mainGlobals "law" = some (some (.ref f14))) (l14 : K.lookup f14 = some ⟨oc14, od14, .func (PySem.W.fnOf "law" "law" (defArgs (topS 22)) (defBody (topS 22)) (defScope (topS 22)) .none kV14 dc14 pm14 an14 cd14 ct14), sl14⟩) (c14 : PySem.W.codeIn K cd14 "law" = true) (k14 : PySem.W.keepIn K (.ref f14) = true)
    {cA cP cR : Addr} (xA : PySem.W.nsIn K mainGlobals "NoText" = some (some (.ref cA))) (xP : PySem.W.nsIn K mainGlobals "PageError" = some (some (.ref cP))) (xR : PySem.W.nsIn K mainGlobals "NoRun" = some (some (.ref cR)))
    (e1 : PySem.W.excIn K cA [.type "ValueError", .type "Exception", .type "BaseException", .type "object"] "ValueError.__new__" = true) (e2 : PySem.W.keepIn K (.ref cA) = true) (e3 : PySem.W.subIn K (.ref cA) (.type "BaseException") = some true) (e4 : PySem.W.typeIn K (.ref cA) = some (.type "type"))
    (m1 : PySem.W.subIn K (.ref cP) (.type "BaseException") = some true) (m2 : PySem.W.hasDictIn K cP = true) (m3 : PySem.W.typeIn K (.ref cP) = some (.type "type")) (m4 : PySem.W.subIn K (.ref cA) (.ref cP) = some true)
    (j1 : PySem.W.hasDictIn K cR = true) (j2 : PySem.W.typeIn K (.ref cR) = some (.type "type")) (j3 : PySem.W.subIn K (.ref cA) (.ref cR) = some false) (j4 : PySem.W.subIn K (.ref cA) (.ref cA) = some true) (j5 : PySem.W.subIn K (.ref cA) (.type "ValueError") = some true)
    (q1 : PySem.W.findIn K (.ref cA) "__getattribute__" = some (some (.builtin "BaseException.__getattribute__"))) (q2 : PySem.W.findIn K (.ref cA) "__getattr__" = some none) (q3 : PySem.W.subIn K (.ref cA) (.type "BaseException") = some true) (q4 : PySem.W.hasDictIn K cA = true)
    (q5 : PySem.W.findIn K (.ref cA) "__class__" = some (some (.builtin "object.__class__"))) (q6 : PySem.W.specialIn K (.builtin "object.__class__") "__get__" = some (some (.builtin "getset_descriptor.__get__"))) (q7 : PySem.W.takesIn K (.builtin "object.__class__") = some true) (q8 : PySem.W.mroIn K cA (.type "object") = some true)
    (zV : PySem.W.nsIn K mainGlobals "ValueError" = some none)
    (z0 : PySem.W.nsIn K mainGlobals "len" = some none) (z1 : PySem.W.nsIn K mainGlobals "range" = some none) (z2 : PySem.W.nsIn K mainGlobals "isinstance" = some none) (z3 : PySem.W.nsIn K mainGlobals "tuple" = some none) (z4 : PySem.W.nsIn K mainGlobals "int" = some none) (z5 : PySem.W.nsIn K mainGlobals "bool" = some none) (z6 : PySem.W.nsIn K mainGlobals "str" = some none) (z7 : PySem.W.nsIn K mainGlobals "list" = some none) (z8 : PySem.W.nsIn K mainGlobals "set" = some none) (z9 : PySem.W.nsIn K mainGlobals "dict" = some none) (z10 : PySem.W.nsIn K mainGlobals "sorted" = some none) (z11 : PySem.W.nsIn K mainGlobals "min" = some none) (z12 : PySem.W.nsIn K mainGlobals "max" = some none) (z13 : PySem.W.nsIn K mainGlobals "all" = some none) (z14 : PySem.W.nsIn K mainGlobals "any" = some none) (z15 : PySem.W.nsIn K mainGlobals "enumerate" = some none) (z16 : PySem.W.nsIn K mainGlobals "zip" = some none) (z17 : PySem.W.nsIn K mainGlobals "reversed" = some none) :
    ∃ fd : FuncData, (∀ (s : Shared) (v : Value), BindsTo s fd ⟨[v], []⟩ [("_law_script", v)]) ∧ ∀ base : Heap, K.In base → base.Ns mainGlobals mg → FnOk l.prog w K mg base CX0 6 fa fd ["_law_script"] (spD K rLaw) := by
  have e := hfa.symm.trans (PySem.W.mg_of X G a14)
  cases e
  refine ⟨PySem.W.fnOf "law" "law" (defArgs (topS 22)) (defBody (topS 22)) (defScope (topS 22)) .none kV14 dc14 pm14 an14 cd14 ct14, fun s v => .of_eq rfl, fun base _ _ => ?_⟩
  have B : Blt ⟨l.prog, w, K, mg, base⟩ := ⟨PySem.W.mg_none_of X G z0, PySem.W.mg_none_of X G z1, PySem.W.mg_none_of X G z2, PySem.W.mg_none_of X G z3, PySem.W.mg_none_of X G z4, PySem.W.mg_none_of X G z5, PySem.W.mg_none_of X G z6, PySem.W.mg_none_of X G z7, PySem.W.mg_none_of X G z8, PySem.W.mg_none_of X G z9, PySem.W.mg_none_of X G z10, PySem.W.mg_none_of X G z11, PySem.W.mg_none_of X G z12, PySem.W.mg_none_of X G z13, PySem.W.mg_none_of X G z14, PySem.W.mg_none_of X G z15, PySem.W.mg_none_of X G z16, PySem.W.mg_none_of X G z17⟩
  have XE0 : ExcM ⟨l.prog, w, K, mg, base⟩ "NoText" cA := ⟨e1, PySem.W.mg_of X G xA, e2, e3, e4⟩
  have XH0 : ExcH ⟨l.prog, w, K, mg, base⟩ "PageError" "NoText" "NoRun" cA := ⟨⟨cP, cR, PySem.W.mg_of X G xP, PySem.W.mg_of X G xA, PySem.W.mg_of X G xR, PySem.W.exm_ref m1 m2 m3 m4, kit_self, kit_other j1 j2 j3 j4⟩, ⟨q1, q2, q3, q4, q5, q6, q7, q8⟩, kit_val j5, PySem.W.mg_none_of X G zV⟩
  have F0 := fun_mk (st := topS 5) l0 c0 k0
  have b0 := F0.binds (ps := ["thing", "least", "most"]) fun _ _ _ _ _ _ us hl => match us, hl with | [_, _, _], _ => rfl
  have P_is_number := f_num (m := ⟨l.prog, w, K, mg, base⟩) B  F0 b0 (PySem.W.mg_of X G a0)
  have F1 := fun_mk (st := topS 6) l1 c1 k1
  have b1 := F1.binds (ps := ["some"]) fun _ _ _ _ _ _ us hl => match us, hl with | [_], _ => rfl
  have P_is_rising := f_rising (m := ⟨l.prog, w, K, mg, base⟩) B  F1 b1 (PySem.W.mg_of X G a1)
  have F2 := fun_mk (st := topS 7) l2 c2 k2
  have b2 := F2.binds (ps := ["thing", "many"]) fun _ _ _ _ _ _ us hl => match us, hl with | [_, _], _ => rfl
  have P_is_tie := f_tie (m := ⟨l.prog, w, K, mg, base⟩) B P_is_number F2 b2 (PySem.W.mg_of X G a2)
  have F3 := fun_mk (st := topS 8) l3 c3 k3
  have b3 := F3.binds (ps := ["thing"]) fun _ _ _ _ _ _ us hl => match us, hl with | [_], _ => rfl
  have P_is_web := f_isweb (m := ⟨l.prog, w, K, mg, base⟩) B P_is_number P_is_rising P_is_tie F3 b3 (PySem.W.mg_of X G a3)
  have F4 := fun_mk (st := topS 10) l4 c4 k4
  have b4 := F4.binds (ps := ["web"]) fun _ _ _ _ _ _ us hl => match us, hl with | [_], _ => rfl
  have P_written := f_written (m := ⟨l.prog, w, K, mg, base⟩) B  F4 b4 (PySem.W.mg_of X G a4)
  have F5 := fun_mk (st := topS 12) l5 c5 k5
  have b5 := F5.binds (ps := ["word"]) fun _ _ _ _ _ _ us hl => match us, hl with | [_], _ => rfl
  have P_figure := f_fig (m := ⟨l.prog, w, K, mg, base⟩) B  F5 b5 (PySem.W.mg_of X G a5)
  have F6 := fun_mk (st := topS 12) l6 c6 k6
  have b6 := F6.binds (ps := ["word"]) fun _ _ _ _ _ _ us hl => match us, hl with | [_], _ => rfl
  have P_figureX := f_figx (m := ⟨l.prog, w, K, mg, base⟩) B XE0 F6 b6 (PySem.W.mg_of X G a6)
  have F7 := fun_mk (st := topS 13) l7 c7 k7
  have b7 := F7.binds (ps := ["text"]) fun _ _ _ _ _ _ us hl => match us, hl with | [_], _ => rfl
  have P_read := f_read (m := ⟨l.prog, w, K, mg, base⟩) B P_figure P_is_web P_written F7 b7 (PySem.W.mg_of X G a7)
  have F8 := fun_mk (st := topS 13) l8 c8 k8
  have b8 := F8.binds (ps := ["text"]) fun _ _ _ _ _ _ us hl => match us, hl with | [_], _ => rfl
  have P_readX := f_readx (m := ⟨l.prog, w, K, mg, base⟩) B XE0 P_figure P_figureX P_is_web P_written F8 b8 (PySem.W.mg_of X G a8)
  have F9 := fun_mk (st := topS 16) l9 c9 k9
  have b9 := F9.binds (ps := ["_law_cell_here", "_law_prime", "_law_many"]) fun _ _ _ _ _ _ us hl => match us, hl with | [_, _, _], _ => rfl
  have P_lmix := f_mix (m := ⟨l.prog, w, K, mg, base⟩) B  F9 b9 (PySem.W.mg_of X G a9)
  have F10 := fun_mk (st := topS 17) l10 c10 k10
  have b10 := F10.binds (ps := ["_law_cell_here", "_law_most", "_law_ties"]) fun _ _ _ _ _ _ us hl => match us, hl with | [_, _, _], _ => rfl
  have P_lweb := f_web (m := ⟨l.prog, w, K, mg, base⟩) B P_lmix F10 b10 (PySem.W.mg_of X G a10)
  have F11 := fun_mk (st := topS 19) l11 c11 k11
  have b11 := F11.binds (ps := ["_law_web_here"]) fun _ _ _ _ _ _ us hl => match us, hl with | [_], _ => rfl
  have P_ltext := f_text (m := ⟨l.prog, w, K, mg, base⟩) B  F11 b11 (PySem.W.mg_of X G a11)
  have F12 := fun_mk (st := topS 20) l12 c12 k12
  have b12 := F12.binds (ps := ["_law_text_here", "_law_cell_here"]) fun _ _ _ _ _ _ us hl => match us, hl with | [_, _], _ => rfl
  have P_lspoilt := f_spoilt (m := ⟨l.prog, w, K, mg, base⟩) B  F12 b12 (PySem.W.mg_of X G a12)
  have F13 := fun_mk (st := topS 21) l13 c13 k13
  have b13 := F13.binds (ps := ["_law_text_here"]) fun _ _ _ _ _ _ us hl => match us, hl with | [_], _ => rfl
  have P_lread := f_lread (m := ⟨l.prog, w, K, mg, base⟩) B XH0 P_read P_readX F13 b13 (PySem.W.mg_of X G a13)
  have F14 := fun_mk (st := topS 22) l14 c14 k14
  exact f_law (m := ⟨l.prog, w, K, mg, base⟩) B P_is_web P_written P_read P_lweb P_ltext P_lspoilt P_lread F14
theorem hsp_all {K : PySem.W.Frag} (H : Hp) (a : Addr) (ns : List Int) (h63 : ns.length ≤ 63) (hb : ∀ z ∈ ns, Builtin.Int.intBits z ≤ 1048576) (hs : SqL K H a (ns.map V.int)) : spD K rLaw [.ref a] H (fun v _ => v = .bl true) fun _ _ _ => False :=
  ⟨[], [scrD ns], .bool true, ⟨1048577, ns, rfl, h63, by omega, fun z hz => sm_ok (hb z hz), rfl⟩, (fun b hb => by cases hb), .cons (Rp.mono (Same.ofEq (funext fun b => (hide_out (by simp)).symm)) (.scr hs h63)) .nil, fun v H' _ r => by cases r; rfl⟩
end DL
open PySem PySem.W PyProof.Rows
set_option maxRecDepth 100000 in
set_option maxHeartbeats 0 in
theorem PySem.Challenge.cw_pageties_k02_whole_texts_holds : PySem.Challenge.rw_pageties_k02_whole_texts.Holds := by
  w_on; o_law; k_head; (case hw => w_witness2)
  k_fill
  refine L2.walk_ofB (l := PySem.Challenge.rw_pageties_k02_whole_texts) (n := 63) (k := 6) (x := "_law_script") (CX := fun _ => L2.CX0) (sp := fun w => DL.spD _ DL.rLaw) rfl (by decide) rfl ⟨rfl, by decide, by decide⟩ (fun w h Y => PySem.W.kIn_of Y) ?F (fun w H a ns h63 hb _ hs => DL.hsp_all H a ns h63 hb hs) (fun _ _ _ _ _ z => z)
  case F =>
    intro w mg fa h KX G hmg
    refine' DL.all_mk KX G hmg ?a0 ?l0 ?c0 ?k0 ?a1 ?l1 ?c1 ?k1 ?a2 ?l2 ?c2 ?k2 ?a3 ?l3 ?c3 ?k3 ?a4 ?l4 ?c4 ?k4 ?a5 ?l5 ?c5 ?k5 ?a6 ?l6 ?c6 ?k6 ?a7 ?l7 ?c7 ?k7 ?a8 ?l8 ?c8 ?k8 ?a9 ?l9 ?c9 ?k9 ?a10 ?l10 ?c10 ?k10 ?a11 ?l11 ?c11 ?k11 ?a12 ?l12 ?c12 ?k12 ?a13 ?l13 ?c13 ?k13 ?a14 ?l14 ?c14 ?k14 ?xA ?xP ?xR ?e1 ?e2 ?e3 ?e4 ?m1 ?m2 ?m3 ?m4 ?j1 ?j2 ?j3 ?j4 ?j5 ?q1 ?q2 ?q3 ?q4 ?q5 ?q6 ?q7 ?q8 ?zV ?z0 ?z1 ?z2 ?z3 ?z4 ?z5 ?z6 ?z7 ?z8 ?z9 ?z10 ?z11 ?z12 ?z13 ?z14 ?z15 ?z16 ?z17
    (case a0 => k_is)
    (case l0 => k_is)
    (case c0 => k_is)
    (case k0 => k_is)
    (case a1 => k_is)
    (case l1 => k_is)
    (case c1 => k_is)
    (case k1 => k_is)
    (case a2 => k_is)
    (case l2 => k_is)
    (case c2 => k_is)
    (case k2 => k_is)
    (case a3 => k_is)
    (case l3 => k_is)
    (case c3 => k_is)
    (case k3 => k_is)
    (case a4 => k_is)
    (case l4 => k_is)
    (case c4 => k_is)
    (case k4 => k_is)
    (case a5 => k_is)
    (case l5 => k_is)
    (case c5 => k_is)
    (case k5 => k_is)
    (case a6 => k_is)
    (case l6 => k_is)
    (case c6 => k_is)
    (case k6 => k_is)
    (case a7 => k_is)
    (case l7 => k_is)
    (case c7 => k_is)
    (case k7 => k_is)
    (case a8 => k_is)
    (case l8 => k_is)
    (case c8 => k_is)
    (case k8 => k_is)
    (case a9 => k_is)
    (case l9 => k_is)
    (case c9 => k_is)
    (case k9 => k_is)
    (case a10 => k_is)
    (case l10 => k_is)
    (case c10 => k_is)
    (case k10 => k_is)
    (case a11 => k_is)
    (case l11 => k_is)
    (case c11 => k_is)
    (case k11 => k_is)
    (case a12 => k_is)
    (case l12 => k_is)
    (case c12 => k_is)
    (case k12 => k_is)
    (case a13 => k_is)
    (case l13 => k_is)
    (case c13 => k_is)
    (case k13 => k_is)
    (case a14 => k_is)
    (case l14 => k_is)
    (case c14 => k_is)
    (case k14 => k_is)
    (case xA => k_is)
    (case xP => k_is)
    (case xR => k_is)
    (case e1 => k_exc)
    (case e2 => k_is)
    (case e3 => k_is)
    (case e4 => k_is)
    (case m1 => k_is)
    (case m2 => k_is)
    (case m3 => k_is)
    (case m4 => k_is)
    (case j1 => k_is)
    (case j2 => k_is)
    (case j3 => k_is)
    (case j4 => first | rfl | k_is)
    (case j5 => k_is)
    (case q1 => k_is)
    (case q2 => k_is)
    (case q3 => k_is)
    (case q4 => k_is)
    (case q5 => k_is)
    (case q6 => k_is)
    (case q7 => k_is)
    (case q8 => k_is)
    (case zV => k_is)
    (case z0 => k_is)
    (case z1 => k_is)
    (case z2 => k_is)
    (case z3 => k_is)
    (case z4 => k_is)
    (case z5 => k_is)
    (case z6 => k_is)
    (case z7 => k_is)
    (case z8 => k_is)
    (case z9 => k_is)
    (case z10 => k_is)
    (case z11 => k_is)
    (case z12 => k_is)
    (case z13 => k_is)
    (case z14 => k_is)
    (case z15 => k_is)
    (case z16 => k_is)
    (case z17 => k_is)

