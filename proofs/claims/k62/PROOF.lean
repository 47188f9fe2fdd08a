import PyProof.Rows.All
import Wide.All
import OpenK.AllK
import Wide.FinOn
import HandS.ForMost
import HandS.Evl
import HandS.IsInst
import HandS.Deep
import HandS.Defaults
import KE.KDictKeyed
import KE.KDictWalk
import HandS.TupAny
import HandS.WideBits
import HandS.Wide
import HandS.Text
import HandS.NoneIn
import HandS.Walk
import HandS.Codes
import PyProof.AutoSeq1
import KE.SortData
import KE.KDictSum
import KE.KDictCopyH
import HandS.More
import HandS.Conv
import KE.GoesMore
import KE.GoesEnum
import KE.KDictPairs
import KE.KDictDisplayH
import HandS.HeadHook1
import HandS.HeadHook2
import HandS.Head3
import HandS.EndBits
import PySem.Challenge.RW_kindlore_k62_whole_chains_and_roles
set_option Elab.async false
set_option linter.all false
set_option maxRecDepth 100000
set_option maxHeartbeats 4000000
/-! Data by value over the hand layer: values D (tuples and settled lists by value), cells S (what may change), readings over (slots, cells). -/
namespace KD
open PySem PySem.Spec PyProof.Rows L2 Evl

inductive D where
  | non | bl (b : Bool) | int (i : Int) | str (x : Str) | ty (n : String) | ref (a : Addr)
  | tup (xs : List D) | lst (xs : List D)

/-! ### what stands for what, in the settled part F of the heap -/
mutual
inductive Rp (K : PySem.W.Frag) (F : Hp) : V → D → Prop
  | non : Rp K F .non .non
  | bl (b : Bool) : Rp K F (.bl b) (.bl b)
  | int (i : Int) : Rp K F (.int i) (.int i)
  | str (x : Str) : Rp K F (.str x) (.str x)
  | ty (n : String) : Rp K F (.ty n) (.ty n)
  | ref (a : Addr) : Rp K F (.ref a) (.ref a)
  | tup {a : Addr} {vs : List V} {ds : List D} : SqT K F a vs → RpL K F vs ds → Rp K F (.ref a) (.tup ds)
  | lst {a : Addr} {vs : List V} {ds : List D} : SqL K F a vs → RpL K F vs ds → Rp K F (.ref a) (.lst ds)
inductive RpL (K : PySem.W.Frag) (F : Hp) : List V → List D → Prop
  | nil : RpL K F [] []
  | cons {v : V} {d : D} {vs : List V} {ds : List D} : Rp K F v d → RpL K F vs ds → RpL K F (v :: vs) (d :: ds)
end
section
variable {K : PySem.W.Frag} {F F' : Hp}
mutual
theorem Rp.mono (e : Ex F F') : ∀ {v : V} {d : D}, Rp K F v d → Rp K F' v d
  | _, _, .non => .non
  | _, _, .bl b => .bl b
  | _, _, .int i => .int i
  | _, _, .str x => .str x
  | _, _, .ty n => .ty n
  | _, _, .ref a => .ref a
  | _, _, .tup h r => .tup (ex_t e h) (RpL.mono e r)
  | _, _, .lst h r => .lst (ex_l e h) (RpL.mono e r)
theorem RpL.mono (e : Ex F F') : ∀ {vs : List V} {ds : List D}, RpL K F vs ds → RpL K F' vs ds
  | _, _, .nil => .nil
  | _, _, .cons h r => .cons (Rp.mono e h) (RpL.mono e r)
end
theorem RpL.length : ∀ {vs : List V} {ds : List D}, RpL K F vs ds → vs.length = ds.length
  | _, _, .nil => rfl
  | _, _, .cons _ r => by rw [List.length_cons, List.length_cons, RpL.length r]
theorem RpL.get : ∀ {vs : List V} {ds : List D} {i : Nat} {d : D}, RpL K F vs ds → ds[i]? = some d → ∃ v, vs[i]? = some v ∧ Rp K F v d
  | _, _, _, _, .nil, e => by simp at e
  | _, _, 0, d, .cons h _, e => by simp at e; subst e; exact ⟨_, rfl, h⟩
  | _, _, i + 1, d, .cons _ r, e => by
    obtain ⟨v, h1, h2⟩ := RpL.get (i := i) (d := d) r (by simpa using e)
    exact ⟨v, by simpa using h1, h2⟩
theorem RpL.get' : ∀ {vs : List V} {ds : List D} {i : Nat} {v : V}, RpL K F vs ds → vs[i]? = some v → ∃ d, ds[i]? = some d ∧ Rp K F v d
  | _, _, _, _, .nil, e => by simp at e
  | _, _, 0, d, .cons h _, e => by simp at e; subst e; exact ⟨_, rfl, h⟩
  | _, _, i + 1, d, .cons _ r, e => by
    obtain ⟨v, h1, h2⟩ := RpL.get' (i := i) (v := d) r (by simpa using e)
    exact ⟨v, by simpa using h1, h2⟩
theorem RpL.append : ∀ {vs ws : List V} {ds es : List D}, RpL K F vs ds → RpL K F ws es → RpL K F (vs ++ ws) (ds ++ es)
  | _, _, _, _, .nil, s => s
  | _, _, _, _, .cons h r, s => .cons h (RpL.append r s)
theorem RpL.take : ∀ {vs : List V} {ds : List D} (n : Nat), RpL K F vs ds → RpL K F (vs.take n) (ds.take n)
  | _, _, 0, _ => .nil
  | _, _, _ + 1, .nil => .nil
  | _, _, n + 1, .cons h r => .cons h (RpL.take n r)
theorem RpL.drop : ∀ {vs : List V} {ds : List D} (n : Nat), RpL K F vs ds → RpL K F (vs.drop n) (ds.drop n)
  | _, _, 0, r => r
  | _, _, _ + 1, .nil => .nil
  | _, _, n + 1, .cons _ r => RpL.drop n r
theorem RpL.set {v : V} {d : D} (h : Rp K F v d) : ∀ {vs : List V} {ds : List D} (i : Nat), RpL K F vs ds → RpL K F (vs.set i v) (ds.set i d)
  | _, _, _, .nil => .nil
  | _, _, 0, .cons _ r => .cons h r
  | _, _, i + 1, .cons q r => .cons q (RpL.set h i r)
theorem RpL.dropLast : ∀ {vs : List V} {ds : List D}, RpL K F vs ds → RpL K F vs.dropLast ds.dropLast := fun {vs ds} r => by
  rw [List.dropLast_eq_take, List.dropLast_eq_take, r.length]
  exact r.take _
theorem RpL.snoc {vs : List V} {ds : List D} {v : V} {d : D} (r : RpL K F vs ds) (h : Rp K F v d) : RpL K F (vs ++ [v]) (ds ++ [d]) := r.append (.cons h .nil)
end

/-! ### cells: what may change -/
inductive Cell where
  | lst (ds : List D)
  /-- a dict with text keys; one whose keys are tuples -/
  | dS (kvs : List (Str × D)) | dT (kvs : List (D × D))
  /-- the same while they are walked: read, not written -/
  | lS (od : Obj) (u : HO) (kvs : List (Str × D)) | lT (od : Obj) (u : HO) (kvs : List (D × D))
  | ins (C : Addr) (fs : List (Str × D))
abbrev DS := Addr → Option Cell
def put (S : DS) (a : Addr) (c : Cell) : DS := fun b => if b = a then some c else S b
def forget (S : DS) (a : Addr) : DS := fun b => if b = a then none else S b
theorem put_same {S : DS} {a : Addr} {c : Cell} : put S a c a = some c := by unfold put; rw [if_pos rfl]
theorem put_ne {S : DS} {a b : Addr} {c : Cell} (h : b ≠ a) : put S a c b = S b := by unfold put; rw [if_neg h]
theorem put_put {S : DS} {a : Addr} {c d : Cell} : put (put S a c) a d = put S a d := by
  funext b; unfold put; split <;> rfl
theorem forget_ne {S : DS} {a b : Addr} (h : b ≠ a) : forget S a b = S b := by unfold forget; rw [if_neg h]
theorem forget_same {S : DS} {a : Addr} : forget S a a = none := by unfold forget; rw [if_pos rfl]
theorem forget_put {S : DS} {a : Addr} {c : Cell} (h : S a = none) : forget (put S a c) a = S := by
  funext b; unfold forget put; split
  · next e => rw [e, h]
  · rfl


mutual
def D.nk : D → Option NestedKey
  | .non => some .none
  | .bl b => some (.num (if b = true then 1 else 0))
  | .int i => some (.num i)
  | .str x => some (.text x)
  | .ty _ => none
  | .ref _ => none
  | .tup xs => (D.nks xs).map .tup
  | .lst _ => none
def D.nks : List D → Option (List NestedKey)
  | [] => some []
  | d :: ds => match D.nk d, D.nks ds with
    | some k, some ks => some (k :: ks)
    | _, _ => none
end
/-- a tuple that may be a key -/
def D.key : D → Option NestedKey
  | .tup xs => match (D.tup xs).nk with
    | some k => if k.depth ≤ 8 then some k else none
    | none => none
  | _ => none

/-- an object that is a dict with these entries: (key, where its tuple stands, value) -/
def DTphi (P : Program) (w : World) (a : Addr) (xs : List (NestedKey × Addr × V)) : Heap → Prop := fun h =>
  xs.length ≤ sizeLine ∧ (a == sysModules) = false ∧ (xs.map (·.1)).Nodup ∧ ∃ (us : List (NestedKey × Addr × Value)) (o : Obj) (es : Array DictEntry) (ep : Nat),
    Paired (fun (p : NestedKey × Addr × V) (q : NestedKey × Addr × Value) => p.1 = q.1 ∧ p.2.1 = q.2.1 ∧ RelV p.2.2 q.2.2) xs us ∧
    h.get? a = some o ∧ o.ExactDict ∧ o.data = .dict es ep ∧ es.toList = us.map (entryOfKey (nestedKind P w))

section
variable (X : Cx)
def CellOk (F H : Hp) (a : Addr) : Cell → Prop
  | .lst ds => ∃ vs, H a = some (.lst vs) ∧ RpL X.K F vs ds
  | .dS kvs => ∃ gs : List (Key × V), H a = some (.dK gs) ∧ Paired (fun (p : Str × D) (q : Key × V) => q.1 = Sum.inr p.1 ∧ Rp X.K F q.2 p.2) kvs gs
  | .dT kvs => ∃ xs : List (NestedKey × Addr × V), H a = some (.ext (DTphi X.prog X.w a xs)) ∧
      Paired (fun (p : D × D) (q : NestedKey × Addr × V) => p.1.key = some q.1 ∧ Rp X.K F (.ref q.2.1) p.1 ∧ Rp X.K F q.2.2 p.2) kvs xs
  | .lS od u kvs => ∃ gs : List (Key × V), (H a = some (.frz od u) ∧ u = .dK gs) ∧ Paired (fun (p : Str × D) (q : Key × V) => q.1 = Sum.inr p.1 ∧ Rp X.K F q.2 p.2) kvs gs
  | .lT od u kvs => ∃ xs : List (NestedKey × Addr × V), (H a = some (.frz od u) ∧ u = .ext (DTphi X.prog X.w a xs)) ∧
      Paired (fun (p : D × D) (q : NestedKey × Addr × V) => p.1.key = some q.1 ∧ Rp X.K F (.ref q.2.1) p.1 ∧ Rp X.K F q.2.2 p.2) kvs xs
  | .ins C fs => ∃ dx gs, H a = some (.ins C dx gs) ∧ Paired (fun (p : Str × D) (q : Str × V) => p.1 = q.1 ∧ Rp X.K F q.2 p.2) fs gs
/-- the cells S and the settled part F tell the heap H -/
structure Rl (S : DS) (H F : Hp) : Prop where
  sub : ∀ a o, F a = some o → H a = some o
  cell : ∀ a c, S a = some c → F a = none ∧ CellOk X F H a c
/-- the slots -/
structure En (F : Hp) (σ : L2.St) (ρ : List (Option D)) : Prop where
  len : σ.length = ρ.length
  at_ : ∀ (i : Nat) (d : D), ρ[i]? = some (some d) → ∃ v, σ[i]? = some (some v) ∧ Rp X.K F v d
end
theorem Paired.imp {α β : Type} {R R' : α → β → Prop} (h : ∀ a b, R a b → R' a b) : ∀ {xs : List α} {ys : List β}, Paired R xs ys → Paired R' xs ys
  | _, _, .nil => .nil
  | _, _, .cons r t => .cons (h _ _ r) (Paired.imp h t)
section
variable {X : Cx} {S S' : DS} {H H' F F' : Hp} {σ : L2.St} {ρ : List (Option D)} {a p : Addr} {c : Cell}
theorem En.mono (e : Ex F F') (h : En X F σ ρ) : En X F' σ ρ := ⟨h.len, fun i d q => by
  obtain ⟨v, h1, h2⟩ := h.at_ i d q
  exact ⟨v, h1, h2.mono e⟩⟩
theorem En.set {i : Nat} {v : V} {d : D} (h : En X F σ ρ) (r : Rp X.K F v d) : En X F (σ.set i (some v)) (ρ.set i (some d)) := ⟨by rw [List.length_set, List.length_set, h.len], fun j e q => by
  by_cases hj : i = j
  · subst hj
    by_cases hl : i < ρ.length
    · rw [List.getElem?_set_self hl] at q
      cases q
      exact ⟨v, List.getElem?_set_self (by rw [h.len]; exact hl), r⟩
    · rw [List.getElem?_eq_none (by rw [List.length_set]; omega)] at q
      cases q
  · rw [List.getElem?_set_ne hj] at q
    obtain ⟨u, h1, h2⟩ := h.at_ j e q
    exact ⟨u, by rw [List.getElem?_set_ne hj]; exact h1, h2⟩⟩
theorem CellOk.mono (e : Ex F F') (hH : H' a = H a) : ∀ {c : Cell}, CellOk X F H a c → CellOk X F' H' a c
  | .lst ds, ⟨vs, h1, h2⟩ => ⟨vs, by rw [hH]; exact h1, h2.mono e⟩
  | .dS kvs, ⟨gs, h1, h2⟩ => ⟨gs, by rw [hH]; exact h1, Paired.imp (fun _ _ z => ⟨z.1, z.2.mono e⟩) h2⟩
  | .dT kvs, ⟨xs, h1, h2⟩ => ⟨xs, by rw [hH]; exact h1, Paired.imp (fun _ _ z => ⟨z.1, z.2.1.mono e, z.2.2.mono e⟩) h2⟩
  | .lS od u kvs, ⟨gs, ⟨h1, e1⟩, h2⟩ => ⟨gs, ⟨by rw [hH]; exact h1, e1⟩, Paired.imp (fun _ _ z => ⟨z.1, z.2.mono e⟩) h2⟩
  | .lT od u kvs, ⟨xs, ⟨h1, e1⟩, h2⟩ => ⟨xs, ⟨by rw [hH]; exact h1, e1⟩, Paired.imp (fun _ _ z => ⟨z.1, z.2.1.mono e, z.2.2.mono e⟩) h2⟩
  | .ins C fs, ⟨dx, gs, h1, h2⟩ => ⟨dx, gs, by rw [hH]; exact h1, Paired.imp (fun _ _ z => ⟨z.1, z.2.mono e⟩) h2⟩
theorem CellOk.there : ∀ {c : Cell}, CellOk X F H a c → ∃ o, H a = some o
  | .lst _, ⟨_, h, _⟩ => ⟨_, h⟩
  | .dS _, ⟨_, h, _⟩ => ⟨_, h⟩
  | .dT _, ⟨_, h, _⟩ => ⟨_, h⟩
  | .lS _ _ _, ⟨_, h, _⟩ => ⟨_, h.1⟩
  | .lT _ _ _, ⟨_, h, _⟩ => ⟨_, h.1⟩
  | .ins _ _, ⟨_, _, h, _⟩ => ⟨_, h⟩
theorem Rl.there (r : Rl X S H F) (h : S a = some c) : ∃ o, H a = some o := (r.cell a c h).2.there
theorem Rl.free (r : Rl X S H F) (h : H a = none) : S a = none ∧ F a = none := by
  refine ⟨?_, ?_⟩
  · cases q : S a with
    | none => rfl
    | some c =>
      obtain ⟨o, e⟩ := r.there q
      rw [h] at e
      cases e
  · cases q : F a with
    | none => rfl
    | some o =>
      rw [r.sub a o q] at h
      cases h
/-- a new settled object -/
theorem Rl.settled {o : HO} (r : Rl X S H F) (h : H p = none) : Rl X S (upd H p o) (upd F p o) ∧ Ex F (upd F p o) := by
  obtain ⟨hS, hF⟩ := r.free h
  have ex : Ex F (upd F p o) := Ex.new hF
  refine ⟨⟨fun b u e => ?_, fun b c e => ?_⟩, ex⟩
  · by_cases hb : b = p
    · subst hb
      rw [upd_same] at e ⊢
      exact e
    · rw [upd_ne hb] at e ⊢
      exact r.sub b u e
  · have hb : b ≠ p := fun z => by
      subst z
      rw [hS] at e
      cases e
    obtain ⟨h1, h2⟩ := r.cell b c e
    exact ⟨by rw [upd_ne hb]; exact h1, h2.mono ex (upd_ne hb)⟩
/-- a new cell -/
theorem Rl.fresh {o : HO} (r : Rl X S H F) (h : H p = none) (ok : CellOk X F (upd H p o) p c) : Rl X (put S p c) (upd H p o) F := by
  obtain ⟨hS, hF⟩ := r.free h
  refine ⟨fun b u e => ?_, fun b d e => ?_⟩
  · have hb : b ≠ p := fun z => by
      subst z
      rw [hF] at e
      cases e
    rw [upd_ne hb]
    exact r.sub b u e
  · by_cases hb : b = p
    · subst hb
      rw [put_same] at e
      cases e
      exact ⟨hF, ok⟩
    · rw [put_ne hb] at e
      obtain ⟨h1, h2⟩ := r.cell b d e
      exact ⟨h1, h2.mono (Ex.refl F) (upd_ne hb)⟩
/-- a cell is written -/
theorem Rl.write {o : HO} {c' : Cell} (r : Rl X S H F) (h : S a = some c) (ok : CellOk X F (upd H a o) a c') : Rl X (put S a c') (upd H a o) F := by
  obtain ⟨hF, _⟩ := r.cell a c h
  refine ⟨fun b u e => ?_, fun b d e => ?_⟩
  · have hb : b ≠ a := fun z => by
      subst z
      rw [hF] at e
      cases e
    rw [upd_ne hb]
    exact r.sub b u e
  · by_cases hb : b = a
    · subst hb
      rw [put_same] at e
      cases e
      exact ⟨hF, ok⟩
    · rw [put_ne hb] at e
      obtain ⟨h1, h2⟩ := r.cell b d e
      exact ⟨h1, h2.mono (Ex.refl F) (upd_ne hb)⟩
/-- cells may be forgotten -/
theorem Rl.less (r : Rl X S H F) (h : ∀ a c, S' a = some c → S a = some c) : Rl X S' H F := ⟨r.sub, fun a c e => r.cell a c (h a c e)⟩
/-- a list's cell settles -/
theorem Rl.settle {ds : List D} (r : Rl X S H F) (h : S a = some (.lst ds)) : ∃ F', Ex F F' ∧ Rl X (forget S a) H F' ∧ Rp X.K F' (.ref a) (.lst ds) := by
  obtain ⟨hF, vs, hH, hv⟩ := r.cell a _ h
  have ex : Ex F (upd F a (.lst vs)) := Ex.new hF
  refine ⟨upd F a (.lst vs), ex, ⟨fun b u e => ?_, fun b c e => ?_⟩, .lst (sq_of upd_same) (hv.mono ex)⟩
  · by_cases hb : b = a
    · subst hb
      rw [upd_same] at e
      cases e
      exact hH
    · rw [upd_ne hb] at e
      exact r.sub b u e
  · have hb : b ≠ a := fun z => by
      subst z
      rw [forget_same] at e
      cases e
    rw [forget_ne hb] at e
    obtain ⟨h1, h2⟩ := r.cell b c e
    exact ⟨by rw [upd_ne hb]; exact h1, h2.mono ex rfl⟩
end

/-! ### readings -/
abbrev Rho := List (Option D)
abbrev DQ := D → DS → Prop
abbrev DE := Rho → DS → DQ → Prop
abbrev DA := Rho → DS → (List D → DS → Prop) → Prop
abbrev DT := Rho → DS → (Bool → DS → Prop) → Prop
structure DEnds where
  nx : Rho → DS → Prop
  rt : DQ
  bk : Rho → DS → Prop := fun _ _ => False
  ct : Rho → DS → Prop := fun _ _ => False
abbrev DTS := DEnds → Rho → DS → Prop
section
variable (X : Cx)
/-- what follows, told of data, is what follows -/
def Kt (F : Hp) (Q' : DQ) (Q : VK) : Prop := ∀ v H' F' S' d, Ex F F' → Rl X S' H' F' → Rp X.K F' v d → Q' d S' → Q v H'
def KtA (F : Hp) (Q' : List D → DS → Prop) (Q : List V → Hp → Prop) : Prop := ∀ vs H' F' S' ds, Ex F F' → Rl X S' H' F' → RpL X.K F' vs ds → Q' ds S' → Q vs H'
def KtT (F : Hp) (Q' : Bool → DS → Prop) (Q : Bool → Hp → Prop) : Prop := ∀ b H' F' S', Ex F F' → Rl X S' H' F' → Q' b S' → Q b H'
def KtN (F : Hp) (N' : Rho → DS → Prop) (N : L2.St → Hp → Prop) : Prop := ∀ σ' H' F' ρ' S', Ex F F' → Rl X S' H' F' → En X F' σ' ρ' → N' ρ' S' → N σ' H'
structure KtE (F : Hp) (E : DEnds) (D : Ends) : Prop where
  nx : KtN X F E.nx D.nx
  rt : Kt X F E.rt D.rt
  bk : KtN X F E.bk D.bk
  ct : KtN X F E.ct D.ct
def tW (T : DE) : TE := fun σ H Q => ∃ F ρ S Q', Rl X S H F ∧ En X F σ ρ ∧ T ρ S Q' ∧ Kt X F Q' Q
def aW (T : DA) : TA := fun σ H Q => ∃ F ρ S Q', Rl X S H F ∧ En X F σ ρ ∧ T ρ S Q' ∧ KtA X F Q' Q
def bW (T : DT) : TT := fun σ H Q => ∃ F ρ S Q', Rl X S H F ∧ En X F σ ρ ∧ T ρ S Q' ∧ KtT X F Q' Q
def sW (T : DTS) : TS := fun D σ H => ∃ F ρ S E, Rl X S H F ∧ En X F σ ρ ∧ T E ρ S ∧ KtE X F E D
/-- an expression, an argument list, a test, a statement, a block told over data -/
def WE (e : Expr) (T : DE) : Prop := PE X e (tW X T)
def WA (es : List Expr) (T : DA) : Prop := PA X es (aW X T)
def WT (e : Expr) (T : DT) : Prop := PT X e (bW X T)
def WW (e : Expr) (T : DT) : Prop := PW X e (bW X T)
def WS (st : Stmt) (T : DTS) : Prop := PS X st (sW X T)
def WSs (st : List Stmt) (T : DTS) : Prop := PSs X st (sW X T)
end
section
variable {X : Cx} {F F' : Hp}
theorem Kt.mono {Q' : DQ} {Q : VK} (e : Ex F F') (h : Kt X F Q' Q) : Kt X F' Q' Q := fun v H' G S' d x => h v H' G S' d (e.trans x)
theorem KtA.mono {Q' : List D → DS → Prop} {Q : List V → Hp → Prop} (e : Ex F F') (h : KtA X F Q' Q) : KtA X F' Q' Q := fun v H' G S' d x => h v H' G S' d (e.trans x)
theorem KtT.mono {Q' : Bool → DS → Prop} {Q : Bool → Hp → Prop} (e : Ex F F') (h : KtT X F Q' Q) : KtT X F' Q' Q := fun v H' G S' x => h v H' G S' (e.trans x)
theorem KtN.mono {N' : Rho → DS → Prop} {N : L2.St → Hp → Prop} (e : Ex F F') (h : KtN X F N' N) : KtN X F' N' N := fun v H' G r S' x => h v H' G r S' (e.trans x)
theorem KtE.mono {E : DEnds} {D : Ends} (e : Ex F F') (h : KtE X F E D) : KtE X F' E D := ⟨h.nx.mono e, h.rt.mono e, h.bk.mono e, h.ct.mono e⟩
theorem PE.imp {e : Expr} {t t' : TE} (h : PE X e t) (i : ∀ σ H Q, t' σ H Q → t σ H Q) : PE X e t' := ⟨fun pins s σ H Q I q => h.run pins s σ H Q I (i σ H Q q)⟩
theorem PT.imp {e : Expr} {t t' : TT} (h : PT X e t) (i : ∀ σ H Q, t' σ H Q → t σ H Q) : PT X e t' := ⟨fun pins s σ H Q I q => h.run pins s σ H Q I (i σ H Q q)⟩
theorem PW.imp {e : Expr} {t t' : TT} (h : PW X e t) (i : ∀ σ H Q, t' σ H Q → t σ H Q) : PW X e t' := ⟨fun wh pins s σ H Q I q => h.run wh pins s σ H Q I (i σ H Q q)⟩
theorem PA.imp {es : List Expr} {t t' : TA} (h : PA X es t) (i : ∀ σ H Q, t' σ H Q → t σ H Q) : PA X es t' := ⟨fun pos pins s σ H Q I q => h.run pos pins s σ H Q I (i σ H Q q)⟩
theorem PS.imp {st : Stmt} {t t' : TS} (h : PS X st t) (i : ∀ D σ H, t' D σ H → t D σ H) : PS X st t' := ⟨fun pins s σ H D I q => h.run pins s σ H D I (i D σ H q)⟩
theorem PSs.imp {st : List Stmt} {t t' : TS} (h : PSs X st t) (i : ∀ D σ H, t' D σ H → t D σ H) : PSs X st t' := ⟨fun pins s σ H D I q => h.run pins s σ H D I (i D σ H q)⟩
/-- a settled value out -/
theorem Kt.out {Q' : DQ} {Q : VK} {S : DS} {H : Hp} {v : V} {d : D} (k : Kt X F Q' Q) (r : Rl X S H F) (h : Rp X.K F v d) (q : Q' d S) : Q v H := k v H F S d (Ex.refl F) r h q
end

/-! ### by functions: an expression that changes nothing -/
abbrev EF := Rho → DS → Option D
def fE (ε : EF) : DE := fun ρ S Q' => ∃ d, ε ρ S = some d ∧ Q' d S
abbrev FA := Rho → DS → Option (List D)
def fA (ε : FA) : DA := fun ρ S Q' => ∃ d, ε ρ S = some d ∧ Q' d S
abbrev FT := Rho → DS → Option Bool
def fT (ε : FT) : DT := fun ρ S Q' => ∃ d, ε ρ S = some d ∧ Q' d S
abbrev FE (X : Cx) (e : Expr) (ε : EF) : Prop := WE X e (fE ε)
abbrev FAs (X : Cx) (es : List Expr) (ε : FA) : Prop := WA X es (fA ε)
abbrev FTe (X : Cx) (e : Expr) (ε : FT) : Prop := WT X e (fT ε)
end KD
set_option Elab.async false
set_option linter.all false
set_option maxRecDepth 100000
set_option maxHeartbeats 4000000
/-! Rules over data: names, constants, displays, operators, tests. -/
namespace KD
open PySem PySem.Spec PyProof.Rows L2 Evl
section
variable {X : Cx} {F F' : Hp} {H H' : Hp} {S S' : DS} {σ : L2.St} {ρ : Rho} {pos p : Pos} {e a b c : Expr} {es : List Expr}
theorem we_imp {T T' : DE} (h : WE X e T) (i : ∀ ρ S Q, T' ρ S Q → T ρ S Q) : WE X e T' := PE.imp h fun σ H Q ⟨F, ρ, S, Q', rl, en, t, k⟩ => ⟨F, ρ, S, Q', rl, en, i _ _ _ t, k⟩
theorem wa_imp {T T' : DA} (h : WA X es T) (i : ∀ ρ S Q, T' ρ S Q → T ρ S Q) : WA X es T' := PA.imp h fun σ H Q ⟨F, ρ, S, Q', rl, en, t, k⟩ => ⟨F, ρ, S, Q', rl, en, i _ _ _ t, k⟩
theorem wt_imp {T T' : DT} (h : WT X e T) (i : ∀ ρ S Q, T' ρ S Q → T ρ S Q) : WT X e T' := PT.imp h fun σ H Q ⟨F, ρ, S, Q', rl, en, t, k⟩ => ⟨F, ρ, S, Q', rl, en, i _ _ _ t, k⟩
theorem ww_imp {T T' : DT} (h : WW X e T) (i : ∀ ρ S Q, T' ρ S Q → T ρ S Q) : WW X e T' := PW.imp h fun σ H Q ⟨F, ρ, S, Q', rl, en, t, k⟩ => ⟨F, ρ, S, Q', rl, en, i _ _ _ t, k⟩

/-! ### names, constants -/
def dVar (i : Nat) : EF := fun ρ _ => (ρ[i]?).join
theorem we_of {t : TE} {ε : EF} (h : PE X e t) (i : ∀ σ H F ρ S d Q, Rl X S H F → En X F σ ρ → ε ρ S = some d → (∀ v H' F', Ex F F' → Rl X S H' F' → Rp X.K F' v d → Q v H') → t σ H Q) : FE X e ε :=
  PE.imp h fun σ H Q ⟨F, ρ, S, Q', rl, en, ⟨d, ed, q⟩, k⟩ => i σ H F ρ S d Q rl en ed fun v H' F' x r z => k v H' F' S d x r z q
theorem fe_v (i : Nat) {x : Str} (hN : X.N[i]? = some x := by rfl) (hv : Vis X.env.scope x := by first | exact Or.inl rfl | exact Or.inr (Or.inl rfl) | exact Or.inr (Or.inr rfl)) (hd : (x == ("__debug__" : Str)) = false := by decide)
    (hcd : (x == ("__classdict__" : Str)) = false := by decide) : FE X (.Name x pos) (dVar i) :=
  we_of (pe_var hN hv hd hcd) fun σ H F ρ S d Q rl en ed k => by
    have ed2 : ρ[i]? = some (some d) := by
      unfold dVar at ed
      cases q : ρ[i]? with
      | none => rw [q] at ed; cases ed
      | some o => rw [q] at ed; cases o with
        | none => cases ed
        | some d' => cases ed; rfl
    obtain ⟨v, h1, h2⟩ := en.at_ i d ed2
    exact ⟨v, h1, k v H F (Ex.refl F) rl h2⟩
def dC (d : D) : EF := fun _ _ => some d
theorem fe_c {v : V} {d : D} (h : PE X e (tC v)) (r : ∀ F, Rp X.K F v d) : FE X e (dC d) := we_of h fun σ H F ρ S d' Q rl en ed k => by
  cases ed
  exact k v H F (Ex.refl F) rl (r F)
theorem fe_int {i : Int} {j : Nat} : FE X (.Constant (.int i) j pos) (dC (.int i)) := fe_c pe_int fun _ => .int i
theorem fe_bl {b : Bool} {j : Nat} : FE X (.Constant (.bool b) j pos) (dC (.bl b)) := fe_c pe_bl fun _ => .bl b
theorem fe_non {j : Nat} : FE X (.Constant .none j pos) (dC .non) := fe_c pe_non fun _ => .non
theorem fe_str {x : Str} {j : Nat} : FE X (.Constant (.str x) j pos) (dC (.str x)) := fe_c pe_str fun _ => .str x
/-- a module's constant -/
theorem fe_glob {x : Str} {v : V} {u : Value} {d : D} (hg : Gl X x) (hm : X.mg x = some u) (r : RelV v u) (rp : ∀ F, Rp X.K F v d) (hd : (x == ("__debug__" : Str)) = false := by decide) : FE X (.Name x pos) (dC d) := fe_c (pe_glob hg hm r hd) rp
/-- a built-in type's name as a value -/
theorem fe_ty {x : Str} {n : String} (hg : Gl X x) (hm : X.mg x = none) (hv : bootBuiltins x = some (.type n)) (hn : x ≠ "__name__" := by decide) (hd : (x == ("__debug__" : Str)) = false := by decide) : FE X (.Name x pos) (dC (.ty n)) :=
  fe_c (pe_bltn (v := .ty n) hg hm hv rfl hn hd) fun _ => .ty n

/-! ### argument lists -/
theorem wa_nil : WA X [] (fun _ S Q => Q [] S) := PA.imp pa_nil fun σ H Q ⟨F, ρ, S, Q', rl, en, t, k⟩ => k [] H F S [] (Ex.refl F) rl .nil t
theorem wa_cons {T : DE} {U : DA} (h : WE X e T) (hr : WA X es U) (hs : starEach (e :: es) X.env = (false, eval e X.env) :: starEach es X.env := by rfl) :
    WA X (e :: es) (fun ρ S Q => T ρ S fun d S1 => U ρ S1 fun ds S2 => Q (d :: ds) S2) := PA.imp (pa_cons h hr hs) fun σ H Q ⟨F, ρ, S, Q', rl, en, t, k⟩ =>
  ⟨F, ρ, S, _, rl, en, t, fun v H1 F1 S1 d x1 r1 p1 q1 => ⟨F1, ρ, S1, _, r1, en.mono x1, q1, fun vs H2 F2 S2 ds x2 r2 p2 q2 => k (v :: vs) H2 F2 S2 (d :: ds) (x1.trans x2) r2 (.cons (p1.mono x2) p2) q2⟩⟩
def aNil : FA := fun _ _ => some []
def aCons (ε : EF) (η : FA) : FA := fun ρ S => (ε ρ S).bind fun d => (η ρ S).bind fun ds => some (d :: ds)
theorem fa_nil : FAs X [] aNil := wa_imp wa_nil fun ρ S Q ⟨ds, h, q⟩ => by cases h; exact q
theorem fa_cons {ε : EF} {η : FA} (h : FE X e ε) (hr : FAs X es η) (hs : starEach (e :: es) X.env = (false, eval e X.env) :: starEach es X.env := by rfl) : FAs X (e :: es) (aCons ε η) :=
  wa_imp (wa_cons h hr hs) fun ρ S Q ⟨ds, h, q⟩ => by
    obtain ⟨d, h1, h2⟩ := Option.bind_eq_some_iff.mp h
    obtain ⟨r, h3, h4⟩ := Option.bind_eq_some_iff.mp h2
    cases h4
    exact ⟨d, h1, r, h3, q⟩

/-! ### displays -/
theorem we_tup {x1} {T : DA} (h : WA X es T) : WE X (.Tuple es x1 pos) (fun ρ S Q => T ρ S fun ds S1 => ds.length ≤ 1000 ∧ Q (.tup ds) S1) := PE.imp (pe_tup h) fun σ H Q ⟨F, ρ, S, Q', rl, en, t, k⟩ =>
  ⟨F, ρ, S, _, rl, en, t, fun vs H1 F1 S1 ds x1 r1 p1 ⟨hl, q1⟩ => ⟨by rw [p1.length]; exact Nat.le_trans hl (by decide), fun p hp => by
    obtain ⟨r2, x2⟩ := r1.settled (o := .tup vs) hp
    exact k (.ref p) _ _ S1 _ (x1.trans x2) r2 (.tup (st_of upd_same) (p1.mono x2)) q1⟩⟩
def dTup (η : FA) : EF := fun ρ S => (η ρ S).bind fun ds => if ds.length ≤ 1000 then some (.tup ds) else none
theorem fe_tup {x1} {η : FA} (h : FAs X es η) : FE X (.Tuple es x1 pos) (dTup η) := we_imp (we_tup h) fun ρ S Q ⟨d, h, q⟩ => by
  obtain ⟨ds, h1, h2⟩ := Option.bind_eq_some_iff.mp h
  by_cases hl : ds.length ≤ 1000
  · rw [if_pos hl] at h2
    cases h2
    exact ⟨ds, h1, hl, q⟩
  · rw [if_neg hl] at h2
    cases h2
/-- what makes a new list: told of its items -/
abbrev LQ := List D → DS → Prop
abbrev DL := Rho → DS → LQ → Prop
def asCell (L : DL) : DE := fun ρ S Q => L ρ S fun ds S1 => ∀ p, S1 p = none → Q (.ref p) (put S1 p (.lst ds))
def asLst (L : DL) : DE := fun ρ S Q => L ρ S fun ds S1 => Q (.lst ds) S1
def MonoL (L : DL) : Prop := ∀ ρ S (R R' : LQ), (∀ ds S1, R ds S1 → R' ds S1) → L ρ S R → L ρ S R'
def fL (η : FA) : DL := fun ρ S R => ∃ ds, η ρ S = some ds ∧ R ds S
theorem fL_mono {η : FA} : MonoL (fL η) := fun ρ S R R' i ⟨ds, h, r⟩ => ⟨ds, h, i _ _ r⟩
theorem we_settle {L : DL} (h : WE X e (asCell L)) (m : MonoL L) : WE X e (asLst L) := PE.imp h fun σ H Q ⟨F, ρ, S, Q', rl, en, t, k⟩ =>
  ⟨F, ρ, S, fun d S1 => ∃ p ds S0, d = .ref p ∧ S0 p = none ∧ S1 = put S0 p (.lst ds) ∧ Q' (.lst ds) S0, rl, en, m ρ S _ _ (fun ds S1 q p hp => ⟨p, ds, S1, rfl, hp, rfl, q⟩) t,
    fun v H1 F1 S1 d x1 r1 p1 ⟨p, ds, S0, e1, hp, e2, q⟩ => by
      subst e1 e2
      obtain ⟨F2, x2, r2, p2⟩ := r1.settle (a := p) put_same
      rw [forget_put hp] at r2
      cases p1
      exact k (.ref p) H1 F2 S0 _ (x1.trans x2) r2 p2 q⟩
theorem we_lst {T : DA} (h : WA X es T) : WE X (.List es pos) (asCell fun ρ S R => T ρ S fun ds S1 => ds.length ≤ 1000 ∧ R ds S1) := PE.imp (pe_lst h) fun σ H Q ⟨F, ρ, S, Q', rl, en, t, k⟩ =>
  ⟨F, ρ, S, _, rl, en, t, fun vs H1 F1 S1 ds x1 r1 p1 ⟨hl, q1⟩ => ⟨by rw [p1.length]; exact Nat.le_trans hl (by decide), fun p hp => by
    have r2 := r1.fresh (c := .lst ds) (o := .lst vs) hp ⟨vs, upd_same, p1⟩
    exact k (.ref p) _ F1 _ _ x1 r2 (.ref p) (q1 p (r1.free hp).1)⟩⟩
def lLst (η : FA) : FA := fun ρ S => (η ρ S).bind fun ds => if ds.length ≤ 1000 then some ds else none
theorem fl_lst {η : FA} (h : FAs X es η) : WE X (.List es pos) (asCell (fL (lLst η))) := we_imp (we_lst h) fun ρ S Q ⟨ds, h, q⟩ => by
  obtain ⟨dz, h1, h2⟩ := Option.bind_eq_some_iff.mp h
  by_cases hl : dz.length ≤ 1000
  · rw [if_pos hl] at h2
    have h3 := Option.some.inj h2
    subst h3
    exact ⟨dz, h1, hl, q⟩
  · rw [if_neg hl] at h2
    cases h2
def dLst (η : FA) : EF := fun ρ S => (η ρ S).map .lst
/-- a list that is not written any more -/
theorem fe_settle {η : FA} (h : WE X e (asCell (fL η))) : FE X e (dLst η) := we_imp (we_settle h fL_mono) fun ρ S Q ⟨d, h, q⟩ => by
  obtain ⟨ds, h1, h2⟩ := Option.map_eq_some_iff.mp h
  subst h2
  exact ⟨ds, h1, q⟩
theorem fe_lst {η : FA} (h : FAs X es η) : FE X (.List es pos) (dLst (lLst η)) := fe_settle (fl_lst h)

/-! ### operators -/
abbrev DOp := DS → D → D → Option D
/-- an operator's rule on values, told of data -/
def OpF (X : Cx) (r : R2) (g : DOp) : Prop := ∀ x y dx dy H F S d, Rl X S H F → Rp X.K F x dx → Rp X.K F y dy → g S dx dy = some d → ∀ Q : VK, (∀ v H' F', Ex F F' → Rl X S H' F' → Rp X.K F' v d → Q v H') → r x y H Q
def tBin (g : DOp) (T U : DE) : DE := fun ρ S Q => T ρ S fun x S1 => U ρ S1 fun y S2 => ∃ d, g S2 x y = some d ∧ Q d S2
theorem we_tOp {r : R2} {g : DOp} {T U : DE} (hg : OpF X r g) (h : PE X e (tOp r (tW X T) (tW X U))) : WE X e (tBin g T U) := PE.imp h fun σ H Q ⟨F, ρ, S, Q', rl, en, t, k⟩ =>
  ⟨F, ρ, S, _, rl, en, t, fun x H1 F1 S1 dx x1 r1 p1 q1 => ⟨F1, ρ, S1, _, r1, en.mono x1, q1, fun y H2 F2 S2 dy x2 r2 p2 ⟨d, ed, q2⟩ =>
    hg x y dx dy H2 F2 S2 d r2 (p1.mono x2) p2 ed Q fun v H3 F3 x3 r3 p3 => k v H3 F3 S2 d ((x1.trans x2).trans x3) r3 p3 q2⟩⟩
def dBin (g : DOp) (α β : EF) : EF := fun ρ S => (α ρ S).bind fun x => (β ρ S).bind fun y => g S x y
theorem fe_tBin {g : DOp} {α β : EF} (h : WE X e (tBin g (fE α) (fE β))) : FE X e (dBin g α β) := we_imp h fun ρ S Q ⟨d, h, q⟩ => by
  obtain ⟨x, h1, h2⟩ := Option.bind_eq_some_iff.mp h
  obtain ⟨y, h3, h4⟩ := Option.bind_eq_some_iff.mp h2
  exact ⟨x, h1, y, h3, d, h4, q⟩
theorem we_bin {op : Operator} {r : R2} {g : DOp} {T U : DE} (ho : OpR X (binaryOp op) r) (hg : OpF X r g) (ha : WE X a T) (hb : WE X b U) : WE X (.BinOp a op b pos) (tBin g T U) := we_tOp hg (pe_op ho ha hb)
theorem fe_bin {op : Operator} {r : R2} {g : DOp} {α β : EF} (ho : OpR X (binaryOp op) r) (hg : OpF X r g) (ha : FE X a α) (hb : FE X b β) : FE X (.BinOp a op b pos) (dBin g α β) := fe_tBin (we_bin ho hg ha hb)
theorem we_cmp {op : CmpOp} {r : R2} {g : DOp} {T U : DE} (ho : OpR X (compareOp op) r) (hg : OpF X r g) (ha : WE X a T) (hb : WE X b U) (hm : behindInMarks op b = false := by first | exact nomark _ | rfl) : WE X (.Compare a [op] [b] pos) (tBin g T U) := we_tOp hg (pe_cmpR ho ha hb hm)
theorem fe_cmp {op : CmpOp} {r : R2} {g : DOp} {α β : EF} (ho : OpR X (compareOp op) r) (hg : OpF X r g) (ha : FE X a α) (hb : FE X b β) (hm : behindInMarks op b = false := by first | exact nomark _ | rfl) : FE X (.Compare a [op] [b] pos) (dBin g α β) := fe_tBin (we_cmp ho hg ha hb hm)
/-- the same as a test -/
theorem wt_cmp {op : CmpOp} {r : R2} {g : DOp} {T U : DE} (ho : OpR X (compareOp op) r) (hg : OpF X r g) (ha : WE X a T) (hb : WE X b U) (hm : behindInMarks op b = false := by first | exact nomark _ | rfl) :
    WT X (.Compare a [op] [b] pos) (fun ρ S Q => tBin g T U ρ S fun d S1 => ∃ k, d = .bl k ∧ Q k S1) := PT.imp (pt_cmpR ho ha hb hm) fun σ H Q ⟨F, ρ, S, Q', rl, en, t, k⟩ =>
  ⟨F, ρ, S, _, rl, en, t, fun x H1 F1 S1 dx x1 r1 p1 q1 => ⟨F1, ρ, S1, _, r1, en.mono x1, q1, fun y H2 F2 S2 dy x2 r2 p2 ⟨d, ed, kk, e, q2⟩ =>
    hg x y dx dy H2 F2 S2 d r2 (p1.mono x2) p2 ed _ fun v H3 F3 x3 r3 p3 => by
      subst e
      cases p3
      exact ⟨kk, rfl, k kk H3 F3 S2 ((x1.trans x2).trans x3) r3 q2⟩⟩⟩
/-- a Bool of a value -/
def tb (ε : EF) : FT := fun ρ S => (ε ρ S).bind fun d => match d with
  | .bl k => some k
  | _ => none
theorem tb_some {ε : EF} {ρ : Rho} {S : DS} {k : Bool} (h : tb ε ρ S = some k) : ε ρ S = some (.bl k) := by
  obtain ⟨d, h1, h2⟩ := Option.bind_eq_some_iff.mp h
  cases d with
  | bl z => cases h2; exact h1
  | _ => cases h2
theorem ft_cmp {op : CmpOp} {r : R2} {g : DOp} {α β : EF} (ho : OpR X (compareOp op) r) (hg : OpF X r g) (ha : FE X a α) (hb : FE X b β) (hm : behindInMarks op b = false := by first | exact nomark _ | rfl) : FTe X (.Compare a [op] [b] pos) (tb (dBin g α β)) :=
  wt_imp (wt_cmp ho hg ha hb hm) fun ρ S Q ⟨k, h, q⟩ => by
    obtain ⟨x, h1, h2⟩ := Option.bind_eq_some_iff.mp (tb_some h)
    obtain ⟨y, h3, h4⟩ := Option.bind_eq_some_iff.mp h2
    exact ⟨x, h1, y, h3, _, h4, k, rfl, q⟩
/-- a value that is True or False, as a test -/
theorem wt_val {T : DE} (h : WE X e T) (he : ∀ whole, isTrue e X.env whole = (do let v ← whole; standAt e.pos; holding [v] (truthy v)) := by intro _; rfl) : WT X e (fun ρ S Q => T ρ S fun d S1 => ∃ k, d = .bl k ∧ Q k S1) :=
  PT.imp (pt_val h he) fun σ H Q ⟨F, ρ, S, Q', rl, en, t, k⟩ => ⟨F, ρ, S, _, rl, en, t, fun v H1 F1 S1 d x1 r1 p1 ⟨kk, e, q⟩ => by
    subst e
    cases p1
    exact ⟨kk, rfl, k kk H1 F1 S1 x1 r1 q⟩⟩
theorem ft_val {ε : EF} (h : FE X e ε) (he : ∀ whole, isTrue e X.env whole = (do let v ← whole; standAt e.pos; holding [v] (truthy v)) := by intro _; rfl) : FTe X e (tb ε) :=
  wt_imp (wt_val h he) fun ρ S Q ⟨k, h, q⟩ => ⟨_, tb_some h, k, rfl, q⟩
/-- the truth of data -/
def truD (S : DS) : D → Option Bool
  | .non => some false
  | .bl b => some b
  | .int i => some (i != 0)
  | .tup xs => some (!xs.isEmpty)
  | .lst xs => some (!xs.isEmpty)
  | .ref a => match S a with
    | some (.lst xs) => some (!xs.isEmpty)
    | some (.dS kvs) => some (!kvs.isEmpty)
    | _ => none
  | _ => none
theorem RpL.empty {K : PySem.W.Frag} {vs : List V} {ds : List D} (r : RpL K F vs ds) : vs.isEmpty = ds.isEmpty := by cases r <;> rfl
theorem truD_ok {v : V} {d : D} {k : Bool} (rl : Rl X S H F) (r : Rp X.K F v d) (h : truD S d = some k) : TruV X.K v H k := by
  cases r with
  | non => cases h; rfl
  | bl b => cases h; rfl
  | int i => cases h; rfl
  | tup hs hr => cases h; exact Or.inr (Or.inl ⟨_, ex_t rl.sub hs, by rw [hr.empty]⟩)
  | lst hs hr => cases h; exact Or.inl ⟨_, ex_l rl.sub hs, by rw [hr.empty]⟩
  | ref a =>
    simp only [truD] at h
    cases q : S a with
    | none => rw [q] at h; cases h
    | some c =>
      rw [q] at h
      obtain ⟨_, ok⟩ := rl.cell a c q
      cases c with
      | lst ds =>
        obtain ⟨vs, h1, h2⟩ := ok
        cases h
        exact Or.inl ⟨vs, sq_of h1, by rw [h2.empty]⟩
      | dS kvs =>
        obtain ⟨gs, h1, h2⟩ := ok
        cases h
        exact Or.inr (Or.inr ⟨gs, h1, by cases h2 <;> rfl⟩)
      | _ => cases h
  | _ => cases h
theorem wt_tru {T : DE} (h : WE X e T) (he : ∀ whole, isTrue e X.env whole = (do let v ← whole; standAt e.pos; holding [v] (truthy v)) := by intro _; rfl) : WT X e (fun ρ S Q => T ρ S fun d S1 => ∃ k, truD S1 d = some k ∧ Q k S1) :=
  PT.imp (pt_truth h he) fun σ H Q ⟨F, ρ, S, Q', rl, en, t, k⟩ => ⟨F, ρ, S, _, rl, en, t, fun v H1 F1 S1 d x1 r1 p1 ⟨kk, e, q⟩ => ⟨kk, truD_ok r1 p1 e, k kk H1 F1 S1 x1 r1 q⟩⟩
def tru (ε : EF) : FT := fun ρ S => (ε ρ S).bind (truD S)
theorem ft_tru {ε : EF} (h : FE X e ε) (he : ∀ whole, isTrue e X.env whole = (do let v ← whole; standAt e.pos; holding [v] (truthy v)) := by intro _; rfl) : FTe X e (tru ε) :=
  wt_imp (wt_tru h he) fun ρ S Q ⟨k, h, q⟩ => by
    obtain ⟨d, h1, h2⟩ := Option.bind_eq_some_iff.mp h
    exact ⟨d, h1, k, h2, q⟩

/-! ### and, or, not -/
theorem ww_and1 {T : DT} (h : WT X a T) : WW X (.BoolOp .And [a] pos) T := pw_and1 h
theorem ww_or1 {T : DT} (h : WT X a T) : WW X (.BoolOp .Or [a] pos) T := pw_or1 h
theorem ww_and {T U : DT} {rest : List Expr} (ha : WT X a T) (hb : WW X (.BoolOp .And (b :: rest) pos) U) : WW X (.BoolOp .And (a :: b :: rest) pos) (fun ρ S Q => T ρ S fun k S1 => if k = true then U ρ S1 Q else Q false S1) :=
  PW.imp (pw_and ha hb) fun σ H Q ⟨F, ρ, S, Q', rl, en, t, k⟩ => ⟨F, ρ, S, _, rl, en, t, fun kk H1 F1 S1 x1 r1 q1 => by
    cases kk with
    | true => exact iteT ⟨F1, ρ, S1, Q', r1, en.mono x1, by rwa [if_pos rfl] at q1, k.mono x1⟩
    | false => exact iteF (k false H1 F1 S1 x1 r1 (by rwa [if_neg Bool.false_ne_true] at q1))⟩
theorem ww_or {T U : DT} {rest : List Expr} (ha : WT X a T) (hb : WW X (.BoolOp .Or (b :: rest) pos) U) : WW X (.BoolOp .Or (a :: b :: rest) pos) (fun ρ S Q => T ρ S fun k S1 => if k = true then Q true S1 else U ρ S1 Q) :=
  PW.imp (pw_or ha hb) fun σ H Q ⟨F, ρ, S, Q', rl, en, t, k⟩ => ⟨F, ρ, S, _, rl, en, t, fun kk H1 F1 S1 x1 r1 q1 => by
    cases kk with
    | true => exact iteT (k true H1 F1 S1 x1 r1 (by rwa [if_pos rfl] at q1))
    | false => exact iteF ⟨F1, ρ, S1, Q', r1, en.mono x1, by rwa [if_neg Bool.false_ne_true] at q1, k.mono x1⟩⟩
def bAnd (α β : FT) : FT := fun ρ S => (α ρ S).bind fun k => if k = true then β ρ S else some false
def bOr (α β : FT) : FT := fun ρ S => (α ρ S).bind fun k => if k = true then some true else β ρ S
def bNot (α : FT) : FT := fun ρ S => (α ρ S).map (!·)
abbrev FWe (X : Cx) (e : Expr) (ε : FT) : Prop := WW X e (fT ε)
theorem fw_and {α β : FT} {rest : List Expr} (ha : FTe X a α) (hb : FWe X (.BoolOp .And (b :: rest) pos) β) : FWe X (.BoolOp .And (a :: b :: rest) pos) (bAnd α β) := ww_imp (ww_and ha hb) fun ρ S Q ⟨k, h, q⟩ => by
  obtain ⟨z, h1, h2⟩ := Option.bind_eq_some_iff.mp h
  refine ⟨z, h1, ?_⟩
  cases z with
  | true => exact iteT ⟨k, by rwa [if_pos rfl] at h2, q⟩
  | false => rw [if_neg Bool.false_ne_true] at h2; cases h2; exact iteF q
theorem fw_or {α β : FT} {rest : List Expr} (ha : FTe X a α) (hb : FWe X (.BoolOp .Or (b :: rest) pos) β) : FWe X (.BoolOp .Or (a :: b :: rest) pos) (bOr α β) := ww_imp (ww_or ha hb) fun ρ S Q ⟨k, h, q⟩ => by
  obtain ⟨z, h1, h2⟩ := Option.bind_eq_some_iff.mp h
  refine ⟨z, h1, ?_⟩
  cases z with
  | true => rw [if_pos rfl] at h2; cases h2; exact iteT q
  | false => exact iteF ⟨k, by rwa [if_neg Bool.false_ne_true] at h2, q⟩
theorem fw_and1 {α : FT} (h : FTe X a α) : FWe X (.BoolOp .And [a] pos) α := pw_and1 h
theorem fw_or1 {α : FT} (h : FTe X a α) : FWe X (.BoolOp .Or [a] pos) α := pw_or1 h
theorem ft_w {α : FT} (h : FWe X e α) : FTe X e α := PW.pt h
theorem wt_w {T : DT} (h : WW X e T) : WT X e T := PW.pt h
theorem wt_not {T : DT} (h : WT X a T) : WT X (.UnaryOp .Not a pos) (fun ρ S Q => T ρ S fun k S1 => Q (!k) S1) := PT.imp (pt_not h) fun σ H Q ⟨F, ρ, S, Q', rl, en, t, k⟩ =>
  ⟨F, ρ, S, _, rl, en, t, fun kk H1 F1 S1 x1 r1 q1 => k (!kk) H1 F1 S1 x1 r1 q1⟩
theorem ft_not {α : FT} (h : FTe X a α) : FTe X (.UnaryOp .Not a pos) (bNot α) := wt_imp (wt_not h) fun ρ S Q ⟨k, h, q⟩ => by
  obtain ⟨z, h1, h2⟩ := Option.map_eq_some_iff.mp h
  subst h2
  exact ⟨z, h1, q⟩
/-- as values -/
theorem we_and {T U : DE} {rest : List Expr} (ha : WE X a T) (hb : WE X (.BoolOp .And (b :: rest) pos) U) : WE X (.BoolOp .And (a :: b :: rest) pos) (fun ρ S Q => T ρ S fun d S1 => ∃ k, d = .bl k ∧ if k = true then U ρ S1 Q else Q (.bl false) S1) :=
  PE.imp (pe_and ha hb) fun σ H Q ⟨F, ρ, S, Q', rl, en, t, k⟩ => ⟨F, ρ, S, _, rl, en, t, fun v H1 F1 S1 d x1 r1 p1 ⟨kk, ed, q1⟩ => by
    subst ed
    cases p1
    refine ⟨kk, rfl, ?_⟩
    cases kk with
    | true => exact iteT ⟨F1, ρ, S1, Q', r1, en.mono x1, by rwa [if_pos rfl] at q1, k.mono x1⟩
    | false => exact iteF (k (.bl false) H1 F1 S1 _ x1 r1 (.bl false) (by rwa [if_neg Bool.false_ne_true] at q1))⟩
theorem we_or {T U : DE} {rest : List Expr} (ha : WE X a T) (hb : WE X (.BoolOp .Or (b :: rest) pos) U) : WE X (.BoolOp .Or (a :: b :: rest) pos) (fun ρ S Q => T ρ S fun d S1 => ∃ k, d = .bl k ∧ if k = true then Q (.bl true) S1 else U ρ S1 Q) :=
  PE.imp (pe_or ha hb) fun σ H Q ⟨F, ρ, S, Q', rl, en, t, k⟩ => ⟨F, ρ, S, _, rl, en, t, fun v H1 F1 S1 d x1 r1 p1 ⟨kk, ed, q1⟩ => by
    subst ed
    cases p1
    refine ⟨kk, rfl, ?_⟩
    cases kk with
    | true => exact iteT (k (.bl true) H1 F1 S1 _ x1 r1 (.bl true) (by rwa [if_pos rfl] at q1))
    | false => exact iteF ⟨F1, ρ, S1, Q', r1, en.mono x1, by rwa [if_neg Bool.false_ne_true] at q1, k.mono x1⟩⟩
theorem we_one {op} {T : DE} (h : WE X a T) : WE X (.BoolOp op [a] pos) T := pe_one h
def vAnd (α β : EF) : EF := fun ρ S => (α ρ S).bind fun d => match d with
  | .bl k => if k = true then β ρ S else some (.bl false)
  | _ => none
def vOr (α β : EF) : EF := fun ρ S => (α ρ S).bind fun d => match d with
  | .bl k => if k = true then some (.bl true) else β ρ S
  | _ => none
theorem fe_and {α β : EF} {rest : List Expr} (ha : FE X a α) (hb : FE X (.BoolOp .And (b :: rest) pos) β) : FE X (.BoolOp .And (a :: b :: rest) pos) (vAnd α β) := we_imp (we_and ha hb) fun ρ S Q ⟨d, h, q⟩ => by
  obtain ⟨z, h1, h2⟩ := Option.bind_eq_some_iff.mp h
  cases z with
  | bl k =>
    refine ⟨_, h1, k, rfl, ?_⟩
    cases k with
    | true => exact iteT ⟨d, h2, q⟩
    | false => cases h2; exact iteF q
  | _ => cases h2
theorem fe_or {α β : EF} {rest : List Expr} (ha : FE X a α) (hb : FE X (.BoolOp .Or (b :: rest) pos) β) : FE X (.BoolOp .Or (a :: b :: rest) pos) (vOr α β) := we_imp (we_or ha hb) fun ρ S Q ⟨d, h, q⟩ => by
  obtain ⟨z, h1, h2⟩ := Option.bind_eq_some_iff.mp h
  cases z with
  | bl k =>
    refine ⟨_, h1, k, rfl, ?_⟩
    cases k with
    | true => cases h2; exact iteT q
    | false => exact iteF ⟨d, h2, q⟩
  | _ => cases h2
theorem fe_one {op} {α : EF} (h : FE X a α) : FE X (.BoolOp op [a] pos) α := pe_one h
theorem we_not {T : DE} (h : WE X a T) : WE X (.UnaryOp .Not a pos) (fun ρ S Q => T ρ S fun d S1 => ∃ k, d = .bl k ∧ Q (.bl (!k)) S1) := PE.imp (pe_not h) fun σ H Q ⟨F, ρ, S, Q', rl, en, t, k⟩ =>
  ⟨F, ρ, S, _, rl, en, t, fun v H1 F1 S1 d x1 r1 p1 ⟨kk, ed, q1⟩ => by
    subst ed
    cases p1
    exact ⟨kk, rfl, k (.bl (!kk)) H1 F1 S1 _ x1 r1 (.bl _) q1⟩⟩
def vNot (α : EF) : EF := fun ρ S => (α ρ S).bind fun d => match d with
  | .bl k => some (.bl (!k))
  | _ => none
theorem fe_not {α : EF} (h : FE X a α) : FE X (.UnaryOp .Not a pos) (vNot α) := we_imp (we_not h) fun ρ S Q ⟨d, h, q⟩ => by
  obtain ⟨z, h1, h2⟩ := Option.bind_eq_some_iff.mp h
  cases z with
  | bl k => cases h2; exact ⟨_, h1, k, rfl, q⟩
  | _ => cases h2
theorem we_if {T : DT} {U V' : DE} {c : Expr} (hc : WT X c T) (ha : WE X a U) (hb : WE X b V') : WE X (.IfExp c a b pos) (fun ρ S Q => T ρ S fun k S1 => if k = true then U ρ S1 Q else V' ρ S1 Q) :=
  PE.imp (pe_ifExp hc ha hb) fun σ H Q ⟨F, ρ, S, Q', rl, en, t, k⟩ => ⟨F, ρ, S, _, rl, en, t, fun kk H1 F1 S1 x1 r1 q1 => by
    cases kk with
    | true => exact iteT ⟨F1, ρ, S1, Q', r1, en.mono x1, by rwa [if_pos rfl] at q1, k.mono x1⟩
    | false => exact iteF ⟨F1, ρ, S1, Q', r1, en.mono x1, by rwa [if_neg Bool.false_ne_true] at q1, k.mono x1⟩⟩
def dIf (γ : FT) (α β : EF) : EF := fun ρ S => (γ ρ S).bind fun k => if k = true then α ρ S else β ρ S
theorem fe_if {γ : FT} {α β : EF} {c : Expr} (hc : FTe X c γ) (ha : FE X a α) (hb : FE X b β) : FE X (.IfExp c a b pos) (dIf γ α β) := we_imp (we_if hc ha hb) fun ρ S Q ⟨d, h, q⟩ => by
  obtain ⟨z, h1, h2⟩ := Option.bind_eq_some_iff.mp h
  refine ⟨z, h1, ?_⟩
  cases z with
  | true => exact iteT ⟨d, by rwa [if_pos rfl] at h2, q⟩
  | false => exact iteF ⟨d, by rwa [if_neg Bool.false_ne_true] at h2, q⟩
end
end KD
set_option Elab.async false
set_option linter.all false
set_option maxRecDepth 100000
set_option maxHeartbeats 4000000
/-! Rules over data: arithmetic, ==, in, subscripts, slices, attributes, built-ins. -/
namespace KD
open PySem PySem.Spec PyProof.Rows L2 Evl
section
variable {X : Cx} {F F' : Hp} {H H' : Hp} {S S' : DS} {σ : L2.St} {ρ : Rho} {pos p : Pos} {e a b c : Expr} {es : List Expr}

/-! ### + - * // % -/
def gAdd : DOp := fun _ x y => match x, y with
  | .int i, .int j => some (.int (i + j))
  | _, _ => none
def gSub : DOp := fun _ x y => match x, y with
  | .int i, .int j => some (.int (i - j))
  | _, _ => none
/-- factors of any size, told by bits -/
def gMul : DOp := fun _ x y => match x, y with
  | .int i, .int j => if Builtin.Int.intBits i + Builtin.Int.intBits j ≤ 134217728 then some (.int (i * j)) else none
  | _, _ => none
def gDiv : DOp := fun _ x y => match x, y with
  | .int i, .int j => if 0 < j ∧ j < 1073741824 then some (.int (i / j)) else none
  | _, _ => none
def gMod : DOp := fun _ x y => match x, y with
  | .int i, .int j => if 0 < j then some (.int (i % j)) else none
  | _, _ => none
def gPow : DOp := fun _ x y => match x, y with
  | .int i, .int j => if 0 ≤ j ∧ j ≤ 1000000 ∧ i.natAbs < 2 ^ 64 then some (.int (i ^ j.toNat)) else none
  | _, _ => none
theorem of_rI0 {g : Int → Int → V} {G : DOp} (h : ∀ S x y d, G S x y = some d → ∃ i j, x = .int i ∧ y = .int j ∧ ∀ F, Rp X.K F (g i j) d) : OpF X (rI0 g) G := fun x y dx dy H F S d rl rx ry ed Q k => by
  obtain ⟨i, j, rfl, rfl, hr⟩ := h S dx dy d ed
  cases rx
  cases ry
  exact ⟨i, j, rfl, rfl, k _ H F (Ex.refl F) rl (hr F)⟩
theorem of_rI {C : Int → Int → Prop} {g : Int → Int → V} {G : DOp} (h : ∀ S x y d, G S x y = some d → ∃ i j, x = .int i ∧ y = .int j ∧ C i j ∧ ∀ F, Rp X.K F (g i j) d) : OpF X (rI C g) G := fun x y dx dy H F S d rl rx ry ed Q k => by
  obtain ⟨i, j, rfl, rfl, hc, hr⟩ := h S dx dy d ed
  cases rx
  cases ry
  exact ⟨i, j, rfl, rfl, hc, k _ H F (Ex.refl F) rl (hr F)⟩
theorem gAdd_inv {S : DS} {x y d : D} (h : gAdd S x y = some d) : ∃ i j, x = .int i ∧ y = .int j ∧ d = .int (i + j) := by
  cases x <;> cases y <;> simp only [gAdd] at h <;> first | (cases h; exact ⟨_, _, rfl, rfl, rfl⟩) | cases h
theorem gSub_inv {S : DS} {x y d : D} (h : gSub S x y = some d) : ∃ i j, x = .int i ∧ y = .int j ∧ d = .int (i - j) := by
  cases x <;> cases y <;> simp only [gSub] at h <;> first | (cases h; exact ⟨_, _, rfl, rfl, rfl⟩) | cases h
theorem if_some {α : Type} {c : Prop} [Decidable c] {x d : α} (h : (if c then some x else none) = some d) : c ∧ x = d := by
  by_cases hc : c
  · rw [if_pos hc] at h; exact ⟨hc, Option.some.inj h⟩
  · rw [if_neg hc] at h; cases h
theorem of_add : OpF X (rI0 fun i j => .int (i + j)) gAdd := of_rI0 fun S x y d h => by
  obtain ⟨i, j, h1, h2, rfl⟩ := gAdd_inv h
  exact ⟨i, j, h1, h2, fun F => .int _⟩
theorem of_sub : OpF X (rI0 fun i j => .int (i - j)) gSub := of_rI0 fun S x y d h => by
  obtain ⟨i, j, h1, h2, rfl⟩ := gSub_inv h
  exact ⟨i, j, h1, h2, fun F => .int _⟩
theorem of_mul : OpF X (rI CMulX fun i j => .int (i * j)) gMul := of_rI fun S x y d h => by
  cases x <;> cases y <;> simp only [gMul] at h <;> try cases h
  obtain ⟨hc, rfl⟩ := if_some h
  exact ⟨_, _, rfl, rfl, by unfold CMulX; omega, fun F => .int _⟩
theorem of_div : OpF X (rI CDiv fun i j => .int (i / j)) gDiv := of_rI fun S x y d h => by
  cases x <;> cases y <;> simp only [gDiv] at h <;> try cases h
  obtain ⟨hc, rfl⟩ := if_some h
  exact ⟨_, _, rfl, rfl, hc, fun F => .int _⟩
theorem of_mod : OpF X (rI (fun _ j => 0 < j) fun i j => .int (i % j)) gMod := of_rI fun S x y d h => by
  cases x <;> cases y <;> simp only [gMod] at h <;> try cases h
  obtain ⟨hc, rfl⟩ := if_some h
  exact ⟨_, _, rfl, rfl, hc, fun F => .int _⟩
theorem of_pow : OpF X (rI CPow fun i j => .int (i ^ j.toNat)) gPow := of_rI fun S x y d h => by
  cases x <;> cases y <;> simp only [gPow] at h <;> try cases h
  obtain ⟨hc, rfl⟩ := if_some h
  exact ⟨_, _, rfl, rfl, hc, fun F => .int _⟩
theorem fe_add {α β : EF} (ha : FE X a α) (hb : FE X b β) : FE X (.BinOp a .Add b pos) (dBin gAdd α β) := fe_bin op_add of_add ha hb
theorem fe_sub {α β : EF} (ha : FE X a α) (hb : FE X b β) : FE X (.BinOp a .Sub b pos) (dBin gSub α β) := fe_bin op_sub of_sub ha hb
theorem fe_mul {α β : EF} (ha : FE X a α) (hb : FE X b β) : FE X (.BinOp a .Mult b pos) (dBin gMul α β) := fe_bin op_mulX of_mul ha hb
theorem fe_div {α β : EF} (ha : FE X a α) (hb : FE X b β) : FE X (.BinOp a .FloorDiv b pos) (dBin gDiv α β) := fe_bin op_fdiv of_div ha hb
theorem fe_mod {α β : EF} (ha : FE X a α) (hb : FE X b β) : FE X (.BinOp a .Mod b pos) (dBin gMod α β) := fe_bin op_mod of_mod ha hb
theorem fe_pow {α β : EF} (ha : FE X a α) (hb : FE X b β) : FE X (.BinOp a .Pow b pos) (dBin gPow α β) := fe_bin op_pow of_pow ha hb
/-- texts -/
def gAddS : DOp := fun _ x y => match x, y with
  | .str i, .str j => if i.length + j.length ≤ 1000000 then some (.str (i ++ j)) else none
  | _, _ => none
theorem of_addS : OpF X (fun x y H Q => ∃ i j, x = .str i ∧ y = .str j ∧ i.length + j.length ≤ sizeLine ∧ Q (.str (i ++ j)) H) gAddS := fun x y dx dy H F S d rl rx ry ed Q k => by
  cases dx <;> cases dy <;> simp only [gAddS] at ed <;> try cases ed
  obtain ⟨hc, rfl⟩ := if_some ed
  cases rx
  cases ry
  exact ⟨_, _, rfl, rfl, Nat.le_trans hc (by rw [sizeLine_eq]; decide), k _ H F (Ex.refl F) rl (.str _)⟩
theorem fe_addS {α β : EF} (ha : FE X a α) (hb : FE X b β) : FE X (.BinOp a .Add b pos) (dBin gAddS α β) := fe_bin op_add_str of_addS ha hb
/-- tuples -/
def gAddT : DOp := fun _ x y => match x, y with
  | .tup xs, .tup ys => if xs.length + ys.length ≤ 1000000 then some (.tup (xs ++ ys)) else none
  | _, _ => none
theorem RpL.nil_iff {K : PySem.W.Frag} {vs : List V} {ds : List D} (r : RpL K F vs ds) : vs = [] ↔ ds = [] := by cases r <;> simp
theorem of_addT : OpF X (rCatA X.K) gAddT := fun x y dx dy H F S d rl rx ry ed Q k => by
  cases dx <;> cases dy <;> simp only [gAddT] at ed <;> try cases ed
  rename_i xs ys
  obtain ⟨hc, rfl⟩ := if_some ed
  cases rx with
  | tup h1 r1 =>
    cases ry with
    | tup h2 r2 =>
      refine ⟨_, _, _, _, rfl, rfl, ex_t rl.sub h1, ex_t rl.sub h2, by rw [r1.length, r2.length]; exact Nat.le_trans hc (by rw [sizeLine_eq]; decide), fun e => ?_, fun _ e => ?_, fun _ _ p hp => ?_⟩
      · have z := r1.nil_iff.mp e
        subst z
        exact k _ H F (Ex.refl F) rl (.tup h2 r2)
      · have z := r2.nil_iff.mp e
        subst z
        exact k _ H F (Ex.refl F) rl (.tup h1 (by rw [List.append_nil]; exact r1))
      · obtain ⟨rl2, x2⟩ := rl.settled (o := .tup _) hp
        exact k _ _ _ x2 rl2 (.tup (st_of upd_same) ((r1.append r2).mono x2))
theorem fe_addT {α β : EF} (ha : FE X a α) (hb : FE X b β) : FE X (.BinOp a .Add b pos) (dBin gAddT α β) := fe_bin op_catA of_addT ha hb
/-- lists: a new one -/
def rCatQ (K : PySem.W.Frag) : R2 := fun x y H Q => ∃ l b xs zs, x = .ref l ∧ y = .ref b ∧ SqL K H l xs ∧ SqL K H b zs ∧ xs.length + zs.length ≤ sizeLine ∧ ∀ p, H p = none → Q (.ref p) (upd H p (.lst (xs ++ zs)))
theorem op_catQ : OpR X (binaryOp .Add) (rCatQ X.K) := by
  intro pins s σ H x y v u Q I rx ry h
  obtain ⟨l, b, xs, zs, rfl, rfl, hH, hB, hz, q⟩ := h
  cases rx
  cases ry
  obtain ⟨its, r, pl, _⟩ := I.list hH
  obtain ⟨its2, r2, pl2, _⟩ := I.list hB
  obtain ⟨⟨cls, dd, data, sl⟩, ho, hc, n, hd⟩ := pl.isList
  obtain ⟨⟨cls2, dd2, data2, sl2⟩, ho2, hc2, n2, hd2⟩ := pl2.isList
  simp only at hc hd hc2 hd2
  subst hc hd hc2 hd2
  have e : its.toArray ++ its2.toArray = (its ++ its2).toArray := by simp
  have hl := r.length
  have hl2 := r2.length
  refine concat_meets ⟨_, ho, rfl⟩ ⟨_, ho2, rfl⟩ noFill_list_add seq_list_add PySem.F.slot_list_add PySem.F.entry_list_add (PySem.F.args_list_add_2 _ _) (list_addW l b its.toArray its2.toArray n n2 dd dd2 sl sl2 (by rw [List.size_toArray, List.size_toArray]; omega)) ⟨ho, ho2, ?_⟩
  rw [e]
  exact ⟨.ref _, _, I.lnew (t' := s.toks) (r.append r2) (by rw [List.length_append]; omega), rfl, q _ I.fresh⟩
/-- the items of a list: settled, or a cell's -/
def lstOf (S : DS) : D → Option (List D)
  | .lst xs => some xs
  | .ref a => match S a with
    | some (.lst xs) => some xs
    | _ => none
  | _ => none
theorem lstOf_ok {v : V} {d : D} {ds : List D} (rl : Rl X S H F) (r : Rp X.K F v d) (h : lstOf S d = some ds) : ∃ a vs, v = .ref a ∧ SqL X.K H a vs ∧ RpL X.K F vs ds := by
  cases r with
  | lst hs hr => cases h; exact ⟨_, _, rfl, ex_l rl.sub hs, hr⟩
  | ref a =>
    simp only [lstOf] at h
    cases q : S a with
    | none => rw [q] at h; cases h
    | some c =>
      rw [q] at h
      obtain ⟨_, ok⟩ := rl.cell a c q
      cases c with
      | lst xs =>
        cases h
        obtain ⟨vs, h1, h2⟩ := ok
        exact ⟨a, vs, rfl, sq_of h1, h2⟩
      | _ => cases h
  | _ => cases h
theorem we_addL {T U : DE} (ha : WE X a T) (hb : WE X b U) : WE X (.BinOp a .Add b pos) (asCell fun ρ S R => T ρ S fun x S1 => U ρ S1 fun y S2 => ∃ xs ys, lstOf S2 x = some xs ∧ lstOf S2 y = some ys ∧ xs.length + ys.length ≤ 1000000 ∧ R (xs ++ ys) S2) :=
  PE.imp (pe_op op_catQ ha hb) fun σ H Q ⟨F, ρ, S, Q', rl, en, t, k⟩ =>
  ⟨F, ρ, S, _, rl, en, t, fun x H1 F1 S1 dx x1 r1 p1 q1 => ⟨F1, ρ, S1, _, r1, en.mono x1, q1, fun y H2 F2 S2 dy x2 r2 p2 ⟨xs, ys, e1, e2, hl, q2⟩ => by
    obtain ⟨l, vs, rfl, h1, h2⟩ := lstOf_ok r2 (p1.mono x2) e1
    obtain ⟨m, ws, rfl, h3, h4⟩ := lstOf_ok r2 p2 e2
    refine ⟨l, m, vs, ws, rfl, rfl, h1, h3, by rw [h2.length, h4.length]; exact Nat.le_trans hl (by rw [sizeLine_eq]; decide), fun p hp => ?_⟩
    exact k (.ref p) _ F2 _ _ (x1.trans x2) (r2.fresh (c := .lst (xs ++ ys)) (o := .lst (vs ++ ws)) hp ⟨_, upd_same, h2.append h4⟩) (.ref p) (q2 p (r2.free hp).1)⟩⟩
def lAdd (α β : EF) : FA := fun ρ S => (α ρ S).bind fun x => (β ρ S).bind fun y => (lstOf S x).bind fun xs => (lstOf S y).bind fun ys => if xs.length + ys.length ≤ 1000000 then some (xs ++ ys) else none
theorem fl_add {α β : EF} (ha : FE X a α) (hb : FE X b β) : WE X (.BinOp a .Add b pos) (asCell (fL (lAdd α β))) := we_imp (we_addL ha hb) fun ρ S Q ⟨ds, h, q⟩ => by
  obtain ⟨x, h1, h⟩ := Option.bind_eq_some_iff.mp h
  obtain ⟨y, h2, h⟩ := Option.bind_eq_some_iff.mp h
  obtain ⟨xs, h3, h⟩ := Option.bind_eq_some_iff.mp h
  obtain ⟨ys, h4, h⟩ := Option.bind_eq_some_iff.mp h
  obtain ⟨hl, rfl⟩ := if_some h
  exact ⟨x, h1, y, h2, xs, ys, h3, h4, hl, q⟩
theorem fe_addL {α β : EF} (ha : FE X a α) (hb : FE X b β) : FE X (.BinOp a .Add b pos) (dLst (lAdd α β)) := fe_settle (fl_add ha hb)

/-! ### data as keys -/
mutual
theorem Rp.nested {pins : List (Addr × Obj)} {s : Shared} (I : Inv X pins σ H s) : ∀ (d : D) (k : NestedKey) (v : V) (u : Value), Rp X.K H v d → d.nk = some k → RelV v u → NestedIs s.heap k u
  | .non, _, _, _, h, e, r => by cases h; cases e; cases r; exact .none
  | .bl b, _, _, _, h, e, r => by cases h; cases e; cases r; exact .bool rfl
  | .int i, _, _, _, h, e, r => by cases h; cases e; obtain ⟨t, rfl⟩ := r; exact .int i t
  | .str x, _, _, _, h, e, r => by cases h; cases e; obtain ⟨t, rfl⟩ := r; exact .text x t
  | .ty _, _, _, _, _, e, _ => by cases e
  | .ref _, _, _, _, _, e, _ => by cases e
  | .lst _, _, _, _, _, e, _ => by cases e
  | .tup xs, _, _, _, h, e, r => by
    obtain ⟨ks, e1, rfl⟩ := Option.map_eq_some_iff.mp e
    cases h with
    | tup hs hr =>
      cases r
      obtain ⟨its, rv, ⟨o, ho, hc, n, hd⟩, _⟩ := I.tuple hs
      exact .tup ho hc hd (by simpa using RpL.nested I xs ks _ its hr e1 rv)
theorem RpL.nested {pins : List (Addr × Obj)} {s : Shared} (I : Inv X pins σ H s) : ∀ (ds : List D) (ks : List NestedKey) (vs : List V) (us : List Value), RpL X.K H vs ds → D.nks ds = some ks → Vals vs us → NestedAll s.heap ks us
  | [], _, _, _, h, e, r => by cases h; cases e; cases r; exact .nil
  | d :: ds, _, _, _, h, e, r => by
    cases h with
    | cons h1 h2 =>
      cases r with
      | cons r1 r2 =>
        simp only [D.nks] at e
        cases e1 : d.nk with
        | none => rw [e1] at e; cases e
        | some k =>
          cases e2 : D.nks ds with
          | none => rw [e1, e2] at e; cases e
          | some ks =>
            rw [e1, e2] at e
            cases e
            exact .cons (Rp.nested I d k _ _ h1 e1 r1) (RpL.nested I ds ks _ _ h2 e2 r2)
end
/-! ### == -/
def D.eq2 : D → D → Option Bool
  | .tup xs, .tup ys => match D.nks xs, D.nks ys with
    | some j, some k => if NestedKey.depthAll j ≤ 60 then some (NestedKey.beqAll j k) else none
    | _, _ => none
  | .str x, .str y => some (decide (x = y))
  | .int x, .int y => some (decide (x = y))
  | .bl x, .bl y => some (decide (x = y))
  | .non, .non => some true
  | .str _, .non => some false
  | .non, .str _ => some false
  | .str _, .int _ => some false
  | .int _, .str _ => some false
  | .bl _, .str _ => some false
  | .str _, .bl _ => some false
  | _, _ => none
def rEqQ (K : PySem.W.Frag) : R2 := fun x y H Q => ∃ dx dy b, Rp K H x dx ∧ Rp K H y dy ∧ dx.eq2 dy = some b ∧ Q (.bl b) H
def rNeQ (K : PySem.W.Frag) : R2 := fun x y H Q => ∃ dx dy b, Rp K H x dx ∧ Rp K H y dy ∧ dx.eq2 dy = some b ∧ Q (.bl (!b)) H
theorem eqQ_scal {K : PySem.W.Frag} {x y : V} {dx dy : D} {b : Bool} (hx : Rp K H x dx) (hy : Rp K H y dy) (e : dx.eq2 dy = some b) (hn : ∀ xs, dx ≠ .tup xs) : scal x y = true ∧ decide (x = y) = b := by
  cases hx with
  | tup => exact absurd rfl (hn _)
  | _ => cases hy <;> simp only [D.eq2] at e <;> first | (cases e; done) | (have e := Option.some.inj e; subst e; exact ⟨rfl, by simp⟩)
theorem tup_eqAt {pins : List (Addr × Obj)} {s : Shared} {x y : V} {u v : Value} {xs ys : List D} {j k : List NestedKey} (hu : X.A.units + 64 < cLine) (I : Inv X pins σ H s) (hx : Rp X.K H x (.tup xs)) (hy : Rp X.K H y (.tup ys)) (rx : RelV x u) (ry : RelV y v)
    (e1 : D.nks xs = some j) (e2 : D.nks ys = some k) (hd : NestedKey.depthAll j ≤ 60) : ∃ (a b : Addr) (vs ws : Array Value), u = .ref a ∧ v = .ref b ∧ s.heap.IsTuple a vs ∧ s.heap.IsTuple b ws ∧ vs.size = j.length ∧ ws.size = k.length ∧
      ∀ i (h1 : i < vs.size) (h2 : i < ws.size), SeqAt.EqAt X.A.in1 s vs[i] ws[i] (keyEqAt j k i) := by
  have nx := Rp.nested I (.tup xs) (.tup j) x u hx (by simp only [D.nk, e1] <;> rfl) rx
  have ny := Rp.nested I (.tup ys) (.tup k) y v hy (by simp only [D.nk, e2] <;> rfl) ry
  cases nx with
  | @tup a o vs n _ h1 h2 h3 h4 =>
    cases ny with
    | @tup b o' ws n' _ k1 k2 k3 k4 =>
      refine ⟨a, b, vs, ws, rfl, rfl, ⟨_, h1, h2, _, h3⟩, ⟨_, k1, k2, _, k3⟩, by simpa using NestedAll.length _ _ h4, by simpa using NestedAll.length _ _ k4, fun i i1 i2 => ?_⟩
      have hu2 : X.A.in1.units + min (NestedKey.depthAll j) (NestedKey.depthAll k) < cLine := by
        have : X.A.in1.units = X.A.units + 1 := rfl
        have := Nat.min_le_left (NestedKey.depthAll j) (NestedKey.depthAll k)
        omega
      have := eqAt_keys j k X.A.in1 s vs.toList ws.toList h4 k4 hu2 i (by simpa using i1) (by simpa using i2)
      simpa using this
theorem op_eqQ (hu : X.A.units + 64 < cLine) : OpR X (compareOp .Eq) (rEqQ X.K) := by
  intro pins s σ H x y v u Q I rx ry h
  obtain ⟨dx, dy, b, hx, hy, e, q⟩ := h
  by_cases ht : ∃ xs, dx = .tup xs
  · obtain ⟨xs, rfl⟩ := ht
    cases dy with
    | tup ys =>
      simp only [D.eq2] at e
      cases e1 : D.nks xs with
      | none => rw [e1] at e; cases e
      | some j =>
        cases e2 : D.nks ys with
        | none => rw [e1, e2] at e; cases e
        | some k =>
          rw [e1, e2] at e
          obtain ⟨hd, rfl⟩ := if_some e
          obtain ⟨a, b, vs, ws, rfl, rfl, t1, t2, n1, n2, he⟩ := tup_eqAt hu I hx hy rx ry e1 e2 hd
          refine SeqAt.RcAt.tuples t1 t2 (by omega) he X.prog X.w X.xe _ (fin_bl I q ?_)
          rw [n1, n2, beqAll_eq]
    | _ => cases e
  · obtain ⟨h1, h2⟩ := eqQ_scal hx hy e fun xs z => ht ⟨xs, z⟩
    exact op_eq pins s σ H x y v u Q I rx ry ⟨h1, by rw [h2]; exact q⟩
theorem op_neQ (hu : X.A.units + 64 < cLine) : OpR X (compareOp .NotEq) (rNeQ X.K) := by
  intro pins s σ H x y v u Q I rx ry h
  obtain ⟨dx, dy, b, hx, hy, e, q⟩ := h
  by_cases ht : ∃ xs, dx = .tup xs
  · obtain ⟨xs, rfl⟩ := ht
    cases dy with
    | tup ys =>
      simp only [D.eq2] at e
      cases e1 : D.nks xs with
      | none => rw [e1] at e; cases e
      | some j =>
        cases e2 : D.nks ys with
        | none => rw [e1, e2] at e; cases e
        | some k =>
          rw [e1, e2] at e
          obtain ⟨hd, rfl⟩ := if_some e
          obtain ⟨a, b, vs, ws, rfl, rfl, t1, t2, n1, n2, he⟩ := tup_eqAt hu I hx hy rx ry e1 e2 hd
          refine SeqAt.RcNeAt.tuples t1 t2 (by omega) he X.prog X.w X.xe _ (fin_bl I q ?_)
          rw [n1, n2, beqAll_eq]
    | _ => cases e
  · obtain ⟨h1, h2⟩ := eqQ_scal hx hy e fun xs z => ht ⟨xs, z⟩
    exact op_ne pins s σ H x y v u Q I rx ry ⟨h1, by rw [h2]; exact q⟩
def gEq : DOp := fun _ x y => (x.eq2 y).map .bl
def gNe : DOp := fun _ x y => (x.eq2 y).map fun b => .bl (!b)
theorem of_eq : OpF X (rEqQ X.K) gEq := fun x y dx dy H F S d rl rx ry ed Q k => by
  obtain ⟨b, h1, rfl⟩ := Option.map_eq_some_iff.mp ed
  exact ⟨dx, dy, b, rx.mono rl.sub, ry.mono rl.sub, h1, k _ H F (Ex.refl F) rl (.bl b)⟩
theorem of_ne : OpF X (rNeQ X.K) gNe := fun x y dx dy H F S d rl rx ry ed Q k => by
  obtain ⟨b, h1, rfl⟩ := Option.map_eq_some_iff.mp ed
  exact ⟨dx, dy, b, rx.mono rl.sub, ry.mono rl.sub, h1, k _ H F (Ex.refl F) rl (.bl _)⟩
theorem fe_eq {α β : EF} (hu : X.A.units + 64 < cLine) (ha : FE X a α) (hb : FE X b β) : FE X (.Compare a [.Eq] [b] pos) (dBin gEq α β) := fe_cmp (op_eqQ hu) of_eq ha hb
theorem fe_ne {α β : EF} (hu : X.A.units + 64 < cLine) (ha : FE X a α) (hb : FE X b β) : FE X (.Compare a [.NotEq] [b] pos) (dBin gNe α β) := fe_cmp (op_neQ hu) of_ne ha hb
theorem ft_eq {α β : EF} (hu : X.A.units + 64 < cLine) (ha : FE X a α) (hb : FE X b β) : FTe X (.Compare a [.Eq] [b] pos) (tb (dBin gEq α β)) := ft_cmp (op_eqQ hu) of_eq ha hb
theorem ft_ne {α β : EF} (hu : X.A.units + 64 < cLine) (ha : FE X a α) (hb : FE X b β) : FTe X (.Compare a [.NotEq] [b] pos) (tb (dBin gNe α β)) := ft_cmp (op_neQ hu) of_ne ha hb
theorem wt_eq {T U : DE} (hu : X.A.units + 64 < cLine) (ha : WE X a T) (hb : WE X b U) : WT X (.Compare a [.Eq] [b] pos) (fun ρ S Q => tBin gEq T U ρ S fun d S1 => ∃ k, d = .bl k ∧ Q k S1) := wt_cmp (op_eqQ hu) of_eq ha hb
theorem wt_ne {T U : DE} (hu : X.A.units + 64 < cLine) (ha : WE X a T) (hb : WE X b U) : WT X (.Compare a [.NotEq] [b] pos) (fun ρ S Q => tBin gNe T U ρ S fun d S1 => ∃ k, d = .bl k ∧ Q k S1) := wt_cmp (op_neQ hu) of_ne ha hb
end
end KD
set_option Elab.async false
set_option linter.all false
set_option maxRecDepth 100000
set_option maxHeartbeats 4000000
/-! Rules over data: in, order, subscripts, slices, attributes, built-in calls. -/
namespace KD
open PySem PySem.Spec PyProof.Rows L2 Evl
section
variable {X : Cx} {F F' : Hp} {H H' : Hp} {S S' : DS} {σ : L2.St} {ρ : Rho} {pos p : Pos} {e a b c : Expr} {es : List Expr}

/-! ### in, not in: over lists, tuples -/
/-- the items of a list or a tuple -/
def seqOf (S : DS) : D → Option (List D)
  | .tup xs => some xs
  | d => lstOf S d
theorem seqOf_ok {v : V} {d : D} {ds : List D} (rl : Rl X S H F) (r : Rp X.K F v d) (h : seqOf S d = some ds) : ∃ a vs, v = .ref a ∧ (SqL X.K H a vs ∨ SqT X.K H a vs) ∧ RpL X.K F vs ds := by
  cases r with
  | tup hs hr => cases h; exact ⟨_, _, rfl, .inr (ex_t rl.sub hs), hr⟩
  | lst hs hr => obtain ⟨a, vs, e1, e2, e3⟩ := lstOf_ok rl (.lst hs hr) h; exact ⟨a, vs, e1, .inl e2, e3⟩
  | ref a' => obtain ⟨a, vs, e1, e2, e3⟩ := lstOf_ok rl (.ref a') h; exact ⟨a, vs, e1, .inl e2, e3⟩
  | _ => cases h
def inD (x : D) (ds : List D) : Option Bool := match x.nk, D.nks ds with
  | some k, some ks => if k.depth ≤ 60 then some (ks.any fun j => NestedKey.beq j k) else none
  | _, _ => none
open Classical in
/-- what an item's test tells, read off the heap -/
noncomputable def tellK (h : Heap) (k : NestedKey) (u : Value) : Bool := if e : ∃ j, NestedIs h j u then NestedKey.beq (Classical.choose e) k else false
theorem tellK_eq {h : Heap} {k j : NestedKey} {u : Value} (x : NestedIs h j u) : tellK h k u = NestedKey.beq j k := by
  have e : ∃ j, NestedIs h j u := ⟨j, x⟩
  unfold tellK
  rw [dif_pos e, NestedIs.inj _ _ _ (Classical.choose_spec e) x]
theorem nested_any {h : Heap} {k : NestedKey} : ∀ {ks : List NestedKey} {us : List Value}, NestedAll h ks us → us.any (tellK h k) = ks.any fun j => NestedKey.beq j k
  | _, _, .nil => rfl
  | _, _, .cons x r => by rw [List.any_cons, List.any_cons, nested_any r, tellK_eq x]
theorem nested_mem {h : Heap} : ∀ {ks : List NestedKey} {us : List Value}, NestedAll h ks us → ∀ u ∈ us, ∃ j, NestedIs h j u
  | _, _, .nil, _, hu => by cases hu
  | _, _, .cons x r, u, hu => by
    rcases List.mem_cons.mp hu with e | e
    · subst e; exact ⟨_, x⟩
    · exact nested_mem r u e
def rInQ (K : PySem.W.Frag) (neg : Bool) : R2 := fun x y H Q => ∃ dx ds a vs b, Rp K H x dx ∧ y = .ref a ∧ (SqL K H a vs ∨ SqT K H a vs) ∧ RpL K H vs ds ∧ inD dx ds = some b ∧ Q (.bl (if neg then !b else b)) H
theorem in_facts {pins : List (Addr × Obj)} {s : Shared} {x : V} {u : Value} {dx : D} {ds : List D} {vs : List V} {its : List Value} {b : Bool} (hu : X.A.units + 64 < cLine) (I : Inv X pins σ H s) (hx : Rp X.K H x dx) (rx : RelV x u) (hr : RpL X.K H vs ds) (rv : Vals vs its) (e : inD dx ds = some b) :
    ∃ k, its.toArray.any (tellK s.heap k) = b ∧ ∀ y, y ∈ its.toArray → SeqAt.EqAt X.A.in1 s y u (tellK s.heap k y) := by
  unfold inD at e
  cases e1 : dx.nk with
  | none => rw [e1] at e; cases e
  | some k =>
    cases e2 : D.nks ds with
    | none => rw [e1, e2] at e; cases e
    | some ks =>
      rw [e1, e2] at e
      obtain ⟨hd, rfl⟩ := if_some e
      have nx := Rp.nested I dx k x u hx e1 rx
      have na := RpL.nested I ds ks vs its hr e2 rv
      refine ⟨k, ?_, fun y hy => ?_⟩
      · rw [show its.toArray.any (tellK s.heap k) = its.any (tellK s.heap k) by simp, nested_any na]
      · obtain ⟨j, nj⟩ := nested_mem na y (by simpa using hy)
        rw [tellK_eq nj]
        refine eqAt_key j k X.A.in1 s y u nj nx ?_
        have : X.A.in1.units = X.A.units + 1 := rfl
        have := Nat.min_le_right j.depth k.depth
        omega
theorem op_inQ (hu : X.A.units + 64 < cLine) : OpR X (compareOp .In) (rInQ X.K false) := by
  intro pins s σ H x y v u Q I rx ry h
  obtain ⟨dx, ds, a, vs, b, hx, rfl, hs, hr, e, q⟩ := h
  cases ry
  rcases hs with hs | hs
  · obtain ⟨its, rv, pl, _⟩ := I.list hs
    obtain ⟨k, h1, h2⟩ := in_facts hu I hx rx hr rv e
    exact SeqAt.in_listAt (tellK s.heap k) pl.isList h2 (by rw [h1]; exact ⟨.bl b, H, I, rfl, q⟩)
  · obtain ⟨its, rv, pl, _⟩ := I.tuple hs
    obtain ⟨k, h1, h2⟩ := in_facts hu I hx rx hr rv e
    exact SeqAt.in_tupleAt (tellK s.heap k) pl h2 (by rw [h1]; exact ⟨.bl b, H, I, rfl, q⟩)
theorem op_ninQ (hu : X.A.units + 64 < cLine) : OpR X (compareOp .NotIn) (rInQ X.K true) := by
  intro pins s σ H x y v u Q I rx ry h
  obtain ⟨dx, ds, a, vs, b, hx, rfl, hs, hr, e, q⟩ := h
  cases ry
  rcases hs with hs | hs
  · obtain ⟨its, rv, pl, _⟩ := I.list hs
    obtain ⟨k, h1, h2⟩ := in_facts hu I hx rx hr rv e
    exact SeqAt.notIn_listAt (tellK s.heap k) pl.isList h2 (by rw [h1]; exact ⟨.bl (!b), H, I, rfl, q⟩)
  · obtain ⟨its, rv, pl, _⟩ := I.tuple hs
    obtain ⟨k, h1, h2⟩ := in_facts hu I hx rx hr rv e
    exact SeqAt.notIn_tupleAt (tellK s.heap k) pl h2 (by rw [h1]; exact ⟨.bl (!b), H, I, rfl, q⟩)
def gIn : DOp := fun S x y => (seqOf S y).bind fun ds => (inD x ds).map .bl
def gNin : DOp := fun S x y => (seqOf S y).bind fun ds => (inD x ds).map fun b => .bl (!b)
theorem of_in : OpF X (rInQ X.K false) gIn := fun x y dx dy H F S d rl rx ry ed Q k => by
  obtain ⟨ds, h1, h2⟩ := Option.bind_eq_some_iff.mp ed
  obtain ⟨b, h3, rfl⟩ := Option.map_eq_some_iff.mp h2
  obtain ⟨a, vs, rfl, hs, hr⟩ := seqOf_ok rl ry h1
  exact ⟨dx, ds, a, vs, b, rx.mono rl.sub, rfl, hs, hr.mono rl.sub, h3, k _ H F (Ex.refl F) rl (.bl b)⟩
theorem of_nin : OpF X (rInQ X.K true) gNin := fun x y dx dy H F S d rl rx ry ed Q k => by
  obtain ⟨ds, h1, h2⟩ := Option.bind_eq_some_iff.mp ed
  obtain ⟨b, h3, rfl⟩ := Option.map_eq_some_iff.mp h2
  obtain ⟨a, vs, rfl, hs, hr⟩ := seqOf_ok rl ry h1
  exact ⟨dx, ds, a, vs, b, rx.mono rl.sub, rfl, hs, hr.mono rl.sub, h3, k _ H F (Ex.refl F) rl (.bl _)⟩
theorem fe_in {α β : EF} (hu : X.A.units + 64 < cLine) (ha : FE X a α) (hb : FE X b β) (hm : behindInMarks .In b = false := by rfl) : FE X (.Compare a [.In] [b] pos) (dBin gIn α β) := fe_cmp (op_inQ hu) of_in ha hb hm
theorem ft_in {α β : EF} (hu : X.A.units + 64 < cLine) (ha : FE X a α) (hb : FE X b β) (hm : behindInMarks .In b = false := by rfl) : FTe X (.Compare a [.In] [b] pos) (tb (dBin gIn α β)) := ft_cmp (op_inQ hu) of_in ha hb hm
theorem fe_nin {α β : EF} (hu : X.A.units + 64 < cLine) (ha : FE X a α) (hb : FE X b β) (hm : behindInMarks .NotIn b = false := by rfl) : FE X (.Compare a [.NotIn] [b] pos) (dBin gNin α β) := fe_cmp (op_ninQ hu) of_nin ha hb hm
theorem ft_nin {α β : EF} (hu : X.A.units + 64 < cLine) (ha : FE X a α) (hb : FE X b β) (hm : behindInMarks .NotIn b = false := by rfl) : FTe X (.Compare a [.NotIn] [b] pos) (tb (dBin gNin α β)) := ft_cmp (op_ninQ hu) of_nin ha hb hm
/-- one sign in a text -/
def gInS : DOp := fun _ x y => match x, y with
  | .str i, .str z => match i.cps.toList with
    | [c] => some (.bl (decide (c ∈ z.cps.toList)))
    | _ => none
  | _, _ => none
theorem of_inS : OpF X (fun x y H Q => ∃ (c : Nat) (z : Str), x = .str ⟨#[c]⟩ ∧ y = .str z ∧ Q (.bl (decide (c ∈ z.cps.toList))) H) gInS := fun x y dx dy H F S d rl rx ry ed Q k => by
  cases dx <;> cases dy <;> simp only [gInS] at ed <;> try cases ed
  rename_i i z
  cases rx
  cases ry
  cases q : i.cps.toList with
  | nil => rw [q] at ed; cases ed
  | cons c r =>
    cases r with
    | cons _ _ => rw [q] at ed; cases ed
    | nil =>
      rw [q] at ed
      cases ed
      have e : i = ⟨#[c]⟩ := by
        cases i with
        | mk cps =>
          have : cps = #[c] := by
            have q' : cps.toList = [c] := q
            rw [← Array.toArray_toList (xs := cps), q']
          rw [this]
      exact ⟨c, z, by rw [e], rfl, k _ H F (Ex.refl F) rl (.bl _)⟩
theorem fe_inS {α β : EF} (ha : FE X a α) (hb : FE X b β) (hm : behindInMarks .In b = false := by rfl) : FE X (.Compare a [.In] [b] pos) (dBin gInS α β) := fe_cmp op_in_sign of_inS ha hb hm
/-! ### order of ints; is None -/
def gLt : DOp := fun _ x y => match x, y with
  | .int i, .int j => some (.bl (decide (i < j)))
  | _, _ => none
def gLe : DOp := fun _ x y => match x, y with
  | .int i, .int j => some (.bl (decide (i ≤ j)))
  | _, _ => none
def gGt : DOp := fun _ x y => match x, y with
  | .int i, .int j => some (.bl (decide (j < i)))
  | _, _ => none
def gGe : DOp := fun _ x y => match x, y with
  | .int i, .int j => some (.bl (decide (j ≤ i)))
  | _, _ => none
theorem of_lt : OpF X (rI0 fun i j => .bl (decide (i < j))) gLt := of_rI0 fun S x y d h => by
  cases x <;> cases y <;> simp only [gLt] at h <;> try cases h
  exact ⟨_, _, rfl, rfl, fun F => .bl _⟩
theorem of_le : OpF X (rI0 fun i j => .bl (decide (i ≤ j))) gLe := of_rI0 fun S x y d h => by
  cases x <;> cases y <;> simp only [gLe] at h <;> try cases h
  exact ⟨_, _, rfl, rfl, fun F => .bl _⟩
theorem of_gt : OpF X (rI0 fun i j => .bl (decide (j < i))) gGt := of_rI0 fun S x y d h => by
  cases x <;> cases y <;> simp only [gGt] at h <;> try cases h
  exact ⟨_, _, rfl, rfl, fun F => .bl _⟩
theorem of_ge : OpF X (rI0 fun i j => .bl (decide (j ≤ i))) gGe := of_rI0 fun S x y d h => by
  cases x <;> cases y <;> simp only [gGe] at h <;> try cases h
  exact ⟨_, _, rfl, rfl, fun F => .bl _⟩
theorem ft_lt {α β : EF} (ha : FE X a α) (hb : FE X b β) : FTe X (.Compare a [.Lt] [b] pos) (tb (dBin gLt α β)) := ft_cmp op_lt of_lt ha hb
theorem ft_le {α β : EF} (ha : FE X a α) (hb : FE X b β) : FTe X (.Compare a [.LtE] [b] pos) (tb (dBin gLe α β)) := ft_cmp op_le of_le ha hb
theorem ft_gt {α β : EF} (ha : FE X a α) (hb : FE X b β) : FTe X (.Compare a [.Gt] [b] pos) (tb (dBin gGt α β)) := ft_cmp op_gt of_gt ha hb
theorem ft_ge {α β : EF} (ha : FE X a α) (hb : FE X b β) : FTe X (.Compare a [.GtE] [b] pos) (tb (dBin gGe α β)) := ft_cmp op_ge of_ge ha hb
theorem fe_lt {α β : EF} (ha : FE X a α) (hb : FE X b β) : FE X (.Compare a [.Lt] [b] pos) (dBin gLt α β) := fe_cmp op_lt of_lt ha hb
theorem fe_le {α β : EF} (ha : FE X a α) (hb : FE X b β) : FE X (.Compare a [.LtE] [b] pos) (dBin gLe α β) := fe_cmp op_le of_le ha hb
theorem fe_gt {α β : EF} (ha : FE X a α) (hb : FE X b β) : FE X (.Compare a [.Gt] [b] pos) (dBin gGt α β) := fe_cmp op_gt of_gt ha hb
theorem fe_ge {α β : EF} (ha : FE X a α) (hb : FE X b β) : FE X (.Compare a [.GtE] [b] pos) (dBin gGe α β) := fe_cmp op_ge of_ge ha hb
/-- a < b < c -/
def dChain (g g' : DOp) (α β γ : EF) : EF := fun ρ S => (α ρ S).bind fun x => (β ρ S).bind fun y => (g S x y).bind fun z => match z with
  | .bl k => if k = true then (γ ρ S).bind fun w => g' S y w else some (.bl false)
  | _ => none
theorem ft_chain {op op' : CmpOp} {r r' : R2} {g g' : DOp} {α β γ : EF} (ho : OpR X (compareOp op) r) (ho' : OpR X (compareOp op') r') (hg : OpF X r g) (hg' : OpF X r' g') (ha : FE X a α) (hb : FE X b β) (hc : FE X c γ) (hm : lastMarks [op, op'] [b, c] = false := by rfl) :
    FTe X (.Compare a [op, op'] [b, c] pos) (tb (dChain g g' α β γ)) := by
  refine PT.imp (pt_chain ho ho' ha hb hc hm) fun σ H Q ⟨F, ρ, S, Q', rl, en, ⟨kk, h, q⟩, k⟩ => ?_
  obtain ⟨x, h1, h2⟩ := Option.bind_eq_some_iff.mp (tb_some h)
  obtain ⟨y, h3, h4⟩ := Option.bind_eq_some_iff.mp h2
  obtain ⟨z, h5, h6⟩ := Option.bind_eq_some_iff.mp h4
  refine ⟨F, ρ, S, fun d S1 => d = x ∧ S1 = S, rl, en, ⟨x, h1, rfl, rfl⟩, fun v H1 F1 S1 d x1 r1 p1 e1 => ?_⟩
  obtain ⟨rfl, rfl⟩ := e1
  refine ⟨F1, ρ, S1, fun e S2 => e = y ∧ S2 = S1, r1, en.mono x1, ⟨y, h3, rfl, rfl⟩, fun v2 H2 F2 S2 d2 x2 r2 p2 e2 => ?_⟩
  obtain ⟨rfl, rfl⟩ := e2
  refine hg v v2 d d2 H2 F2 S2 z r2 (p1.mono x2) p2 h5 _ fun v3 H3 F3 x3 r3 p3 => ?_
  cases z with
  | bl kz =>
    cases p3
    refine ⟨kz, rfl, ?_⟩
    cases kz with
    | true =>
      rw [if_pos rfl]
      obtain ⟨w, h7, h8⟩ := Option.bind_eq_some_iff.mp (show ((γ ρ S2).bind fun w => g' S2 d2 w) = some (.bl kk) from h6)
      refine ⟨F3, ρ, S2, fun e S3 => e = w ∧ S3 = S2, r3, (en.mono x1).mono (x2.trans x3), ⟨w, h7, rfl, rfl⟩, fun v4 H4 F4 S4 d4 x4 r4 p4 e4 => ?_⟩
      obtain ⟨rfl, rfl⟩ := e4
      refine hg' v2 v4 d2 d4 H4 F4 S4 (.bl kk) r4 (p2.mono (x3.trans x4)) p4 h8 _ fun v5 H5 F5 x5 r5 p5 => ?_
      cases p5
      exact ⟨kk, rfl, k kk H5 F5 S4 ((((x1.trans x2).trans x3).trans x4).trans x5) r5 q⟩
    | false =>
      rw [if_neg Bool.false_ne_true]
      cases (show some (D.bl false) = some (.bl kk) from h6)
      exact ⟨false, rfl, k false H3 F3 S2 ((x1.trans x2).trans x3) r3 q⟩
  | _ => cases h6
def D.isNon : D → Bool
  | .non => true
  | _ => false
def gIsN : DOp := fun _ x y => match y with
  | .non => some (.bl x.isNon)
  | _ => none
def gNotN : DOp := fun _ x y => match y with
  | .non => some (.bl (!x.isNon))
  | _ => none
theorem non_iff {K : PySem.W.Frag} {v : V} {d : D} (r : Rp K F v d) : decide (v = .non) = d.isNon := by cases r <;> simp [D.isNon]
theorem of_isN : OpF X (fun x y H Q => y = .non ∧ Q (.bl (decide (x = .non))) H) gIsN := fun x y dx dy H F S d rl rx ry ed Q k => by
  cases dy <;> simp only [gIsN] at ed <;> try cases ed
  cases ry
  exact ⟨rfl, by rw [non_iff rx]; exact k _ H F (Ex.refl F) rl (.bl _)⟩
theorem of_notN : OpF X (fun x y H Q => y = .non ∧ Q (.bl (!decide (x = .non))) H) gNotN := fun x y dx dy H F S d rl rx ry ed Q k => by
  cases dy <;> simp only [gNotN] at ed <;> try cases ed
  cases ry
  refine ⟨rfl, ?_⟩
  rw [non_iff rx]
  exact k _ H F (Ex.refl F) rl (.bl _)
theorem fe_isN {α β : EF} (ha : FE X a α) (hb : FE X b β) : FE X (.Compare a [.Is] [b] pos) (dBin gIsN α β) := fe_cmp op_isN of_isN ha hb
theorem ft_isN {α β : EF} (ha : FE X a α) (hb : FE X b β) : FTe X (.Compare a [.Is] [b] pos) (tb (dBin gIsN α β)) := ft_cmp op_isN of_isN ha hb
theorem fe_notN {α β : EF} (ha : FE X a α) (hb : FE X b β) : FE X (.Compare a [.IsNot] [b] pos) (dBin gNotN α β) := fe_cmp op_notN of_notN ha hb
theorem ft_notN {α β : EF} (ha : FE X a α) (hb : FE X b β) : FTe X (.Compare a [.IsNot] [b] pos) (tb (dBin gNotN α β)) := ft_cmp op_notN of_notN ha hb
end
end KD
set_option Elab.async false
set_option linter.all false
set_option maxRecDepth 100000
set_option maxHeartbeats 4000000
/-! Rules over data: subscripts, slices, attributes, built-in calls. -/
namespace KD
open PySem PySem.Spec PyProof.Rows L2 Evl
section
variable {X : Cx} {F F' : Hp} {H H' : Hp} {S S' : DS} {σ : L2.St} {ρ : Rho} {pos p : Pos} {e a b c o : Expr} {es : List Expr}
theorem RpL.atI {K : PySem.W.Frag} {vs : List V} {ds : List D} {i : Int} {d : D} (r : RpL K F vs ds) (h : atI ds i = some d) : ∃ v, atI vs i = some v ∧ Rp K F v d := by
  unfold L2.atI at h ⊢
  rw [r.length]
  obtain ⟨j, h1, h2⟩ := Option.bind_eq_some_iff.mp h
  obtain ⟨v, h3, h4⟩ := r.get h2
  exact ⟨v, by rw [h1]; exact h3, h4⟩
def gIx : DOp := fun S x y => match x, y with
  | .str z, .int i => if z.length ≤ 1000000 then (atI z.cps.toList i).map fun c => .str ⟨#[c]⟩ else none
  | x, .int i => (seqOf S x).bind fun ds => atI ds i
  | _, _ => none
theorem gIx_seq {S : DS} {x : D} {i : Int} {ds : List D} (h : seqOf S x = some ds) : gIx S x (.int i) = atI ds i := by
  cases x with
  | str z => cases h
  | _ => simp only [gIx, h] <;> rfl
theorem of_ix : OpF X (rIx X.K) gIx := fun x y dx dy H F S d rl rx ry ed Q k => by
  cases dy with
  | int i =>
    cases ry
    cases hx : seqOf S dx with
    | some ds =>
      rw [gIx_seq hx] at ed
      obtain ⟨a, vs, rfl, hs, hr⟩ := seqOf_ok rl rx hx
      obtain ⟨v, h1, h2⟩ := hr.atI ed
      rcases hs with hs | hs
      · exact .inl ⟨a, vs, i, v, rfl, rfl, hs, h1, k v H F (Ex.refl F) rl h2⟩
      · exact .inr (.inl ⟨a, vs, i, v, rfl, rfl, hs, h1, k v H F (Ex.refl F) rl h2⟩)
    | none =>
      cases dx with
      | str z =>
        cases rx
        simp only [gIx] at ed
        by_cases hl : z.length ≤ 1000000
        · rw [if_pos hl] at ed
          obtain ⟨c, h1, rfl⟩ := Option.map_eq_some_iff.mp ed
          exact .inr (.inr ⟨z, i, c, rfl, rfl, Nat.le_trans hl (by rw [sizeLine_eq]; decide), h1, k _ H F (Ex.refl F) rl (.str _)⟩)
        · rw [if_neg hl] at ed; cases ed
      | _ => simp only [gIx, hx] at ed <;> cases ed
  | _ => cases dx <;> cases ed
theorem we_ix {T U : DE} (ha : WE X a T) (hb : WE X b U) (hs : PlainIx b := by exact fun _ _ => rfl) : WE X (.Subscript a b pos) (tBin gIx T U) := we_tOp of_ix (pe_ix ix_seq ha hb hs)
theorem fe_ix {α β : EF} (ha : FE X a α) (hb : FE X b β) (hs : PlainIx b := by exact fun _ _ => rfl) : FE X (.Subscript a b pos) (dBin gIx α β) := fe_tBin (we_ix ha hb hs)

/-! ### slices -/
abbrev FOf := Rho → DS → Option (Option Int)
def oW (X : Cx) (o : FOf) : TO := fun σ H Q => ∃ F ρ S i, Rl X S H F ∧ En X F σ ρ ∧ o ρ S = some i ∧ ∀ H' F', Ex F F' → Rl X S H' F' → Q i H'
def FO (X : Cx) (e : Option Expr) (o : FOf) : Prop := PO X e (oW X o)
def oNone : FOf := fun _ _ => some none
def oSome (ε : EF) : FOf := fun ρ S => (ε ρ S).bind fun d => match d with
  | .int i => some (some i)
  | _ => none
theorem fo_none : FO X none oNone := ⟨fun pins s σ H Q I ⟨F, ρ, S, i, rl, en, h, k⟩ => po_none.run pins s σ H Q I (by cases h; exact k H F (Ex.refl F) rl)⟩
theorem fo_some {ε : EF} (h : FE X e ε) : FO X (some e) (oSome ε) := ⟨fun pins s σ H Q I ⟨F, ρ, S, i, rl, en, hh, k⟩ => (po_some h).run pins s σ H Q I (by
  obtain ⟨d, h1, h2⟩ := Option.bind_eq_some_iff.mp hh
  cases d with
  | int j =>
    cases h2
    exact ⟨F, ρ, S, fun d S1 => d = .int j ∧ S1 = S, rl, en, ⟨_, h1, rfl, rfl⟩, fun v H1 F1 S1 d x1 r1 p1 ⟨e1, e2⟩ => by
      subst e1 e2
      cases p1
      exact ⟨j, rfl, k H1 F1 x1 r1⟩⟩
  | _ => cases h2)⟩
def cutD (xs : List D) (lo hi : Option Int) : List D := (xs.drop (HT.sIx xs.length 0 lo)).take (HT.sIx xs.length xs.length hi - HT.sIx xs.length 0 lo)
theorem RpL.cut {K : PySem.W.Frag} {vs : List V} {ds : List D} (r : RpL K F vs ds) (lo hi : Option Int) : RpL K F (cutV vs lo hi) (cutD ds lo hi) := by
  unfold cutV cutD
  rw [r.length]
  exact (r.drop _).take _
theorem cutD_len (xs : List D) (lo hi : Option Int) : (cutD xs lo hi).length ≤ xs.length := by
  unfold cutD
  rw [List.length_take, List.length_drop]
  omega
theorem we_sliceL {T : DE} {ol oh : FOf} {lo hi : Option Expr} {p2 : Pos} (he : WE X e T) (hl : FO X lo ol) (hh : FO X hi oh) :
    WE X (.Subscript e (.Slice lo hi none p2) pos) (asCell fun ρ S R => T ρ S fun x S1 => ∃ ds i j, lstOf S1 x = some ds ∧ ol ρ S1 = some i ∧ oh ρ S1 = some j ∧ R (cutD ds i j) S1) :=
  PE.imp (pe_slice sl_list he hl hh) fun σ H Q ⟨F, ρ, S, Q', rl, en, t, k⟩ =>
  ⟨F, ρ, S, _, rl, en, t, fun x H1 F1 S1 dx x1 r1 p1 ⟨ds, i, j, e1, e2, e3, q⟩ =>
    ⟨F1, ρ, S1, i, r1, en.mono x1, e2, fun H2 F2 x2 r2 => ⟨F2, ρ, S1, j, r2, (en.mono x1).mono x2, e3, fun H3 F3 x3 r3 => by
      obtain ⟨l, vs, rfl, h1, h2⟩ := lstOf_ok r3 ((p1.mono x2).mono x3) e1
      exact ⟨l, vs, rfl, h1, fun p hp => k (.ref p) _ F3 _ _ ((x1.trans x2).trans x3) (r3.fresh (c := .lst (cutD ds i j)) (o := .lst (cutV vs i j)) hp ⟨_, upd_same, h2.cut i j⟩) (.ref p) (q p (r3.free hp).1)⟩⟩⟩⟩
def lCut (ε : EF) (ol oh : FOf) : FA := fun ρ S => (ε ρ S).bind fun x => (lstOf S x).bind fun ds => (ol ρ S).bind fun i => (oh ρ S).map fun j => cutD ds i j
theorem fl_slice {ε : EF} {ol oh : FOf} {lo hi : Option Expr} {p2 : Pos} (he : FE X e ε) (hl : FO X lo ol) (hh : FO X hi oh) : WE X (.Subscript e (.Slice lo hi none p2) pos) (asCell (fL (lCut ε ol oh))) :=
  we_imp (we_sliceL he hl hh) fun ρ S Q ⟨zs, h, q⟩ => by
    obtain ⟨x, h1, h⟩ := Option.bind_eq_some_iff.mp h
    obtain ⟨ds, h2, h⟩ := Option.bind_eq_some_iff.mp h
    obtain ⟨i, h3, h⟩ := Option.bind_eq_some_iff.mp h
    obtain ⟨j, h4, rfl⟩ := Option.map_eq_some_iff.mp h
    exact ⟨x, h1, ds, i, j, h2, h3, h4, q⟩
theorem fe_sliceL {ε : EF} {ol oh : FOf} {lo hi : Option Expr} {p2 : Pos} (he : FE X e ε) (hl : FO X lo ol) (hh : FO X hi oh) : FE X (.Subscript e (.Slice lo hi none p2) pos) (dLst (lCut ε ol oh)) := fe_settle (fl_slice he hl hh)
def dCutT (ε : EF) (ol oh : FOf) : EF := fun ρ S => (ε ρ S).bind fun x => (ol ρ S).bind fun i => (oh ρ S).bind fun j => match x with
  | .tup ds => some (.tup (cutD ds i j))
  | _ => none
theorem fe_sliceT {ε : EF} {ol oh : FOf} {lo hi : Option Expr} {p2 : Pos} (he : FE X e ε) (hl : FO X lo ol) (hh : FO X hi oh) : FE X (.Subscript e (.Slice lo hi none p2) pos) (dCutT ε ol oh) :=
  PE.imp (pe_slice sl_tupA he hl hh) fun σ H Q ⟨F, ρ, S, Q', rl, en, ⟨d, h, q⟩, k⟩ => by
    obtain ⟨x, h1, h⟩ := Option.bind_eq_some_iff.mp h
    obtain ⟨i, h3, h⟩ := Option.bind_eq_some_iff.mp h
    obtain ⟨j, h4, h⟩ := Option.bind_eq_some_iff.mp h
    cases x with
    | tup ds =>
      cases h
      refine ⟨F, ρ, S, fun d S1 => d = .tup ds ∧ S1 = S, rl, en, ⟨_, h1, rfl, rfl⟩, fun v H1 F1 S1 d x1 r1 p1 e12 => ?_⟩
      obtain ⟨e1, e2⟩ := e12
      subst e1 e2
      refine ⟨F1, ρ, S1, i, r1, en.mono x1, h3, fun H2 F2 x2 r2 => ⟨F2, ρ, S1, j, r2, (en.mono x1).mono x2, h4, fun H3 F3 x3 r3 => ?_⟩⟩
      cases p1 with
      | @tup a vs _ hs hr =>
        have hr3 := (hr.mono x2).mono x3
        have hs3 := ex_t x3 (ex_t x2 hs)
        refine ⟨a, vs, rfl, ex_t r3.sub hs3, fun hw => ?_, fun _ p hp => ?_⟩
        · refine k _ H3 F3 S1 _ ((x1.trans x2).trans x3) r3 (.tup hs3 ?_) q
          have : cutV vs i j = vs := by unfold cutV; rw [hw.1, hw.2, List.drop_zero, Nat.sub_zero, List.take_length]
          have hc := hr3.cut i j
          rw [this] at hc
          exact hc
        · obtain ⟨r4, x4⟩ := r3.settled (o := .tup (cutV vs i j)) hp
          exact k _ _ _ S1 _ (((x1.trans x2).trans x3).trans x4) r4 (.tup (st_of upd_same) ((hr3.cut i j).mono x4)) q
    | _ => cases h

/-! ### attributes -/
theorem fs_lookup {K : PySem.W.Frag} {f : Str} : ∀ {fs : List (Str × D)} {gs : List (Str × V)}, Paired (fun (p : Str × D) (q : Str × V) => p.1 = q.1 ∧ Rp K F q.2 p.2) fs gs → ∀ d, fs.lookup f = some d → ∃ v, gs.lookup f = some v ∧ Rp K F v d
  | _, _, .nil, _, e => by cases e
  | p :: fs, q :: gs, .cons r t, d, e => by
    obtain ⟨p1, p2⟩ := p
    obtain ⟨q1, q2⟩ := q
    obtain ⟨h1, h2⟩ := r
    simp only at h1 h2
    subst h1
    rw [List.lookup_cons] at e ⊢
    cases hb : f == p1 with
    | true => rw [hb] at e; cases e; exact ⟨q2, rfl, h2⟩
    | false => rw [hb] at e; exact fs_lookup t d e
def dFld (C : Addr) (f : Str) (α : EF) : EF := fun ρ S => (α ρ S).bind fun x => match x with
  | .ref a => match S a with
    | some (.ins C' fs) => if C' = C then fs.lookup f else none
    | _ => none
  | _ => none
theorem dFld_inv {C : Addr} {f : Str} {α : EF} {ρ : Rho} {S : DS} {d : D} (h : dFld C f α ρ S = some d) : ∃ a fs, α ρ S = some (.ref a) ∧ S a = some (.ins C fs) ∧ fs.lookup f = some d := by
  obtain ⟨x, h1, h2⟩ := Option.bind_eq_some_iff.mp h
  cases x with
  | ref a =>
    cases q : S a with
    | none => simp only [q] at h2; cases h2
    | some c =>
      simp only [q] at h2
      cases c with
      | ins C' fs =>
        obtain ⟨rfl, h3⟩ : C' = C ∧ fs.lookup f = some d := by
          by_cases hc : C' = C
          · simp only [if_pos hc] at h2; exact ⟨hc, h2⟩
          · simp only [if_neg hc] at h2; cases h2
        exact ⟨a, fs, h1, q, h3⟩
      | _ => cases h2
  | _ => cases h2
theorem fe_fld {C : Addr} {f : Str} {α : EF} (hc : Cls X.K C) (hn : NoAttr X.K C f) (h : FE X e α) (hb : attributeBase e f X.env (eval e X.env) = eval e X.env := by rfl) : FE X (.Attribute e f pos) (dFld C f α) :=
  PE.imp (pe_fld h hb) fun σ H Q ⟨F, ρ, S, Q', rl, en, ⟨d, ed, q⟩, k⟩ => by
    obtain ⟨a, fs, h1, h2, h3⟩ := dFld_inv ed
    refine ⟨F, ρ, S, fun d S1 => d = .ref a ∧ S1 = S, rl, en, ⟨_, h1, rfl, rfl⟩, fun v H1 F1 S1 d x1 r1 p1 e12 => ?_⟩
    obtain ⟨e1, e2⟩ := e12
    subst e1 e2
    cases p1
    obtain ⟨_, dx, gs, h4, h5⟩ := r1.cell a _ h2
    obtain ⟨v, h6, h7⟩ := fs_lookup h5 _ h3
    exact ⟨a, C, dx, gs, v, rfl, h4, hc, hn, h6, k v H1 F1 S1 _ x1 r1 h7 q⟩

/-! ### built-in calls -/
abbrev DCall := DS → List D → Option D
def CallF (X : Cx) (r : List V → Hp → VK → Prop) (g : DCall) : Prop := ∀ xs ds H F S d, Rl X S H F → RpL X.K F xs ds → g S ds = some d → ∀ Q : VK, (∀ v H' F', Ex F F' → Rl X S H' F' → Rp X.K F' v d → Q v H') → r xs H Q
abbrev DCallL := DS → List D → Option (List D)
def CallFL (X : Cx) (r : List V → Hp → VK → Prop) (g : DCallL) : Prop := ∀ xs ds H F S zs, Rl X S H F → RpL X.K F xs ds → g S ds = some zs → ∀ Q : VK, (∀ p H', H p = none → Rl X (put S p (.lst zs)) H' F → Q (.ref p) H') → r xs H Q
def wCall (g : DCall) (U : DA) : DE := fun ρ S Q => U ρ S fun ds S1 => ∃ d, g S1 ds = some d ∧ Q d S1
def wCallL (g : DCallL) (U : DA) : DL := fun ρ S R => U ρ S fun ds S1 => ∃ zs, g S1 ds = some zs ∧ R zs S1
def dCall (g : DCall) (η : FA) : EF := fun ρ S => (η ρ S).bind (g S)
def lCall (g : DCallL) (η : FA) : FA := fun ρ S => (η ρ S).bind (g S)
theorem we_tCB {r : List V → Hp → VK → Prop} {g : DCall} {U : DA} (hf : CallF X r g) (h : PE X e (tCB r (aW X U))) : WE X e (wCall g U) := PE.imp h fun σ H Q ⟨F, ρ, S, Q', rl, en, t, k⟩ =>
  ⟨F, ρ, S, _, rl, en, t, fun vs H1 F1 S1 ds x1 r1 p1 ⟨d, ed, q⟩ => hf vs ds H1 F1 S1 d r1 p1 ed Q fun v H2 F2 x2 r2 p2 => k v H2 F2 S1 d (x1.trans x2) r2 p2 q⟩
theorem we_tCBL {r : List V → Hp → VK → Prop} {g : DCallL} {U : DA} (hf : CallFL X r g) (h : PE X e (tCB r (aW X U))) : WE X e (asCell (wCallL g U)) := PE.imp h fun σ H Q ⟨F, ρ, S, Q', rl, en, t, k⟩ =>
  ⟨F, ρ, S, _, rl, en, t, fun vs H1 F1 S1 ds x1 r1 p1 ⟨zs, ed, q⟩ => hf vs ds H1 F1 S1 zs r1 p1 ed Q fun p H2 hp r2 => k (.ref p) H2 F1 _ _ x1 r2 (.ref p) (q p (r1.free hp).1)⟩
theorem we_callB {x : Str} {id : String} {r : List V → Hp → VK → Prop} {g : DCall} {U : DA} (hc : CallR X (.builtin id) r) (hf : CallF X r g) (hg : Gl X x) (hm : X.mg x = none) (hv : bootBuiltins x = some (.builtin id)) (ha : WA X (e :: es) U) (hn : x ≠ "__name__" := by decide) (hdb : (x == ("__debug__" : Str)) = false := by decide)
    (he : starEach (e :: es) X.env = (false, eval e X.env) :: starEach es X.env := by rfl) (hpl : (backTo pos (starEach es X.env)).any (·.1) = false := by rfl) : WE X (.Call (.Name x p) (e :: es) [] pos) (wCall g U) := we_tCB hf (pe_callB hc hg hm hv ha hn hdb he hpl)
theorem we_callBL {x : Str} {id : String} {r : List V → Hp → VK → Prop} {g : DCallL} {U : DA} (hc : CallR X (.builtin id) r) (hf : CallFL X r g) (hg : Gl X x) (hm : X.mg x = none) (hv : bootBuiltins x = some (.builtin id)) (ha : WA X (e :: es) U) (hn : x ≠ "__name__" := by decide) (hdb : (x == ("__debug__" : Str)) = false := by decide)
    (he : starEach (e :: es) X.env = (false, eval e X.env) :: starEach es X.env := by rfl) (hpl : (backTo pos (starEach es X.env)).any (·.1) = false := by rfl) : WE X (.Call (.Name x p) (e :: es) [] pos) (asCell (wCallL g U)) := we_tCBL hf (pe_callB hc hg hm hv ha hn hdb he hpl)
theorem we_callT {x : Str} {T : String} {r : List V → Hp → VK → Prop} {g : DCall} {U : DA} (hc : CallR X (.type T) r) (hf : CallF X r g) (hg : Gl X x) (hm : X.mg x = none) (hv : bootBuiltins x = some (.type T)) (ha : WA X (e :: es) U) (hn : x ≠ "__name__" := by decide) (hdb : (x == ("__debug__" : Str)) = false := by decide)
    (he : starEach (e :: es) X.env = (false, eval e X.env) :: starEach es X.env := by rfl) (hpl : (backTo pos (starEach es X.env)).any (·.1) = false := by rfl) : WE X (.Call (.Name x p) (e :: es) [] pos) (wCall g U) := we_tCB hf (pe_callTy hc hg hm hv ha hn hdb he hpl)
theorem we_callTL {x : Str} {T : String} {r : List V → Hp → VK → Prop} {g : DCallL} {U : DA} (hc : CallR X (.type T) r) (hf : CallFL X r g) (hg : Gl X x) (hm : X.mg x = none) (hv : bootBuiltins x = some (.type T)) (ha : WA X (e :: es) U) (hn : x ≠ "__name__" := by decide) (hdb : (x == ("__debug__" : Str)) = false := by decide)
    (he : starEach (e :: es) X.env = (false, eval e X.env) :: starEach es X.env := by rfl) (hpl : (backTo pos (starEach es X.env)).any (·.1) = false := by rfl) : WE X (.Call (.Name x p) (e :: es) [] pos) (asCell (wCallL g U)) := we_tCBL hf (pe_callTy hc hg hm hv ha hn hdb he hpl)
theorem fe_wCall {g : DCall} {η : FA} (h : WE X e (wCall g (fA η))) : FE X e (dCall g η) := we_imp h fun ρ S Q ⟨d, h, q⟩ => by
  obtain ⟨ds, h1, h2⟩ := Option.bind_eq_some_iff.mp h
  exact ⟨ds, h1, d, h2, q⟩
theorem fl_wCall {g : DCallL} {η : FA} (h : WE X e (asCell (wCallL g (fA η)))) : WE X e (asCell (fL (lCall g η))) := we_imp h fun ρ S Q ⟨d, h, q⟩ => by
  obtain ⟨ds, h1, h2⟩ := Option.bind_eq_some_iff.mp h
  exact ⟨ds, h1, d, h2, q⟩
theorem RpL.one {K : PySem.W.Frag} {xs : List V} {d : D} (r : RpL K F xs [d]) : ∃ x, xs = [x] ∧ Rp K F x d := by
  cases r with
  | cons h t => cases t; exact ⟨_, rfl, h⟩
theorem RpL.two {K : PySem.W.Frag} {xs : List V} {d e : D} (r : RpL K F xs [d, e]) : ∃ x y, xs = [x, y] ∧ Rp K F x d ∧ Rp K F y e := by
  cases r with
  | cons h t => obtain ⟨y, rfl, h2⟩ := t.one; exact ⟨_, y, rfl, h, h2⟩
/-- len -/
def gLen : DCall := fun S ds => match ds with
  | [.str z] => if z.length ≤ 1000000 then some (.int z.length) else none
  | [x] => (seqOf S x).map fun xs => .int xs.length
  | _ => none
theorem of_len : CallF X (fun xs H Q => ∃ x n, xs = [x] ∧ LenV X.K x H n ∧ Q (.int n) H) gLen := fun xs ds H F S d rl rx ed Q k => by
  match ds, rx, ed with
  | [], _, ed => cases ed
  | _ :: _ :: _, _, ed => simp only [gLen] at ed; cases ed
  | [dx], rx, ed =>
    obtain ⟨x, rfl, rz⟩ := rx.one
    cases hx : seqOf S dx with
    | some zs =>
      obtain ⟨a, vs, rfl, hs, hr⟩ := seqOf_ok rl rz hx
      have e : d = .int zs.length := by
        cases dx with
        | str z => cases hx
        | _ => simp only [gLen, hx] at ed; cases ed; rfl
      subst e
      refine ⟨.ref a, zs.length, rfl, ?_, k _ H F (Ex.refl F) rl (.int _)⟩
      rcases hs with hs | hs
      · exact .inl ⟨vs, hs, hr.length.symm⟩
      · exact .inr ⟨vs, hs, hr.length.symm⟩
    | none =>
      cases dx with
      | str z =>
        cases rz
        simp only [gLen] at ed
        obtain ⟨hl, rfl⟩ := if_some ed
        exact ⟨.str z, z.length, rfl, ⟨Nat.le_trans hl (by rw [sizeLine_eq]; decide), rfl⟩, k _ H F (Ex.refl F) rl (.int _)⟩
      | _ => simp only [gLen, hx] at ed; cases ed
theorem fe_len {α : EF} (hg : Gl X "len") (hm : X.mg "len" = none) (ha : FE X e α) (he : starEach [e] X.env = (false, eval e X.env) :: starEach [] X.env := by rfl) : FE X (.Call (.Name "len" p) [e] [] pos) (dCall gLen (aCons α aNil)) :=
  fe_wCall (we_callB call_len of_len hg hm PySem.boot_len (fa_cons ha fa_nil he) (he := he))
/-- isinstance of a built-in type -/
def tyName (S : DS) : D → Option String
  | .non => some "NoneType"
  | .bl _ => some "bool"
  | .int _ => some "int"
  | .str _ => some "str"
  | .tup _ => some "tuple"
  | .lst _ => some "list"
  | .ref a => match S a with
    | some (.lst _) => some "list"
    | some (.dS _) => some "dict"
    | _ => none
  | .ty _ => none
def gIsi : DCall := fun S ds => match ds with
  | [x, .ty n] => (tyName S x).bind fun t => (kitB t n).map .bl
  | _ => none
theorem tyX_of {v : V} {d : D} {t : String} (rl : Rl X S H F) (r : Rp X.K F v d) (h : tyName S d = some t) : TyX X.K H v (.type t) := by
  cases r with
  | non => cases h; exact .base .non
  | bl b => cases h; exact .base (.bl b)
  | int i => cases h; exact .base (.int i)
  | str x => cases h; exact .base (.str x)
  | ty n => cases h
  | tup hs hr =>
    cases h
    rcases hs with (hs | ⟨o, hs⟩) | ⟨o, its, n, h1, h2, _⟩
    · exact .base (.tup (rl.sub _ _ hs))
    · exact .fTuple (rl.sub _ _ hs)
    · exact .kTuple h1 h2
  | lst hs hr =>
    cases h
    rcases hs with (hs | ⟨o, hs⟩) | ⟨o, its, n, h1, h2, _⟩
    · exact .base (.lst (rl.sub _ _ hs))
    · exact .base (.frz (rl.sub _ _ hs))
    · exact .kList h1 h2
  | ref a =>
    simp only [tyName] at h
    cases q : S a with
    | none => rw [q] at h; cases h
    | some c =>
      rw [q] at h
      obtain ⟨_, ok⟩ := rl.cell a c q
      cases c with
      | lst ds => cases h; obtain ⟨vs, h1, _⟩ := ok; exact .base (.lst h1)
      | dS kvs => cases h; obtain ⟨gs, h1, _⟩ := ok; exact .base (.dK h1)
      | _ => cases h
theorem of_isi : CallF X (rIsi X.K) gIsi := fun xs ds H F S d rl rx ed Q k => by
  match ds, rx, ed with
  | [], _, ed => cases ed
  | [_], _, ed => cases ed
  | _ :: _ :: _ :: _, _, ed => simp only [gIsi] at ed; cases ed
  | [dx, dy], rx, ed =>
    obtain ⟨x, y, rfl, r1, r2⟩ := rx.two
    cases dy with
    | ty n =>
      cases r2
      obtain ⟨t, h1, h2⟩ := Option.bind_eq_some_iff.mp (show ((tyName S dx).bind fun t => (kitB t n).map .bl) = some d from ed)
      obtain ⟨b, h3, rfl⟩ := Option.map_eq_some_iff.mp h2
      exact ⟨x, .ty n, .type t, .type n, b, rfl, .ty n, tyX_of rl r1 h1, kit_ty h3, k _ H F (Ex.refl F) rl (.bl b)⟩
    | _ => cases ed
theorem fe_isi {α β : EF} (hg : Gl X "isinstance") (hm : X.mg "isinstance" = none) (ha : FE X a α) (hb : FE X b β) (he : starEach [a, b] X.env = (false, eval a X.env) :: starEach [b] X.env := by rfl) (he2 : starEach [b] X.env = (false, eval b X.env) :: starEach [] X.env := by rfl) (hpl : (backTo pos (starEach [b] X.env)).any (·.1) = false := by rfl) :
    FE X (.Call (.Name "isinstance" p) [a, b] [] pos) (dCall gIsi (aCons α (aCons β aNil))) :=
  fe_wCall (we_callB call_isi of_isi hg hm (by decide +kernel) (fa_cons ha (fa_cons hb fa_nil he2) he) (he := he) (hpl := hpl))
/-- all, any of a list of Bools -/
def blsOf : List D → Option (List Bool)
  | [] => some []
  | .bl b :: r => (blsOf r).map (b :: ·)
  | _ :: _ => none
theorem bls_ok {K : PySem.W.Frag} : ∀ {ds : List D} {vs : List V} {bs : List Bool}, RpL K F vs ds → blsOf ds = some bs → vs = bs.map V.bl
  | [], _, _, .nil, h => by cases h; rfl
  | d :: ds, _, bs, .cons r t, h => by
    cases d with
    | bl b =>
      obtain ⟨cs, h1, rfl⟩ := Option.map_eq_some_iff.mp (show (blsOf ds).map (b :: ·) = some bs from h)
      cases r
      rw [List.map_cons, bls_ok t h1]
    | _ => cases h
theorem blsOf_map (bs : List Bool) : blsOf (bs.map D.bl) = some bs := by
  induction bs with
  | nil => rfl
  | cons b r ih => rw [List.map_cons, blsOf, ih]; rfl
def gAll : DCall := fun S ds => match ds with
  | [x] => (lstOf S x).bind fun xs => (blsOf xs).map fun bs => .bl (bs.all id)
  | _ => none
def gAny : DCall := fun S ds => match ds with
  | [x] => (lstOf S x).bind fun xs => (blsOf xs).map fun bs => .bl (bs.any id)
  | _ => none
theorem of_all : CallF X (rAll X.K) gAll := fun xs ds H F S d rl rx ed Q k => by
  match ds, rx, ed with
  | [], _, ed => cases ed
  | _ :: _ :: _, _, ed => simp only [gAll] at ed; cases ed
  | [dx], rx, ed =>
    obtain ⟨x, rfl, rz⟩ := rx.one
    obtain ⟨zs, h1, h2⟩ := Option.bind_eq_some_iff.mp (show ((lstOf S dx).bind fun xs => (blsOf xs).map fun bs => D.bl (bs.all id)) = some d from ed)
    obtain ⟨bs, h3, rfl⟩ := Option.map_eq_some_iff.mp h2
    obtain ⟨a, vs, rfl, hs, hr⟩ := lstOf_ok rl rz h1
    have e := bls_ok hr h3
    subst e
    exact ⟨a, bs, rfl, hs, k _ H F (Ex.refl F) rl (.bl _)⟩
theorem of_any : CallF X (rAny X.K) gAny := fun xs ds H F S d rl rx ed Q k => by
  match ds, rx, ed with
  | [], _, ed => cases ed
  | _ :: _ :: _, _, ed => simp only [gAny] at ed; cases ed
  | [dx], rx, ed =>
    obtain ⟨x, rfl, rz⟩ := rx.one
    obtain ⟨zs, h1, h2⟩ := Option.bind_eq_some_iff.mp (show ((lstOf S dx).bind fun xs => (blsOf xs).map fun bs => D.bl (bs.any id)) = some d from ed)
    obtain ⟨bs, h3, rfl⟩ := Option.map_eq_some_iff.mp h2
    obtain ⟨a, vs, rfl, hs, hr⟩ := lstOf_ok rl rz h1
    have e := bls_ok hr h3
    subst e
    exact ⟨a, bs, rfl, hs, k _ H F (Ex.refl F) rl (.bl _)⟩
theorem fe_all {α : EF} (hcalm : X.calm = true) (hg : Gl X "all") (hm : X.mg "all" = none) (ha : FE X e α) (he : starEach [e] X.env = (false, eval e X.env) :: starEach [] X.env := by rfl) : FE X (.Call (.Name "all" p) [e] [] pos) (dCall gAll (aCons α aNil)) :=
  fe_wCall (we_callB (cr_all hcalm) of_all hg hm (by decide +kernel) (fa_cons ha fa_nil he) (he := he))
theorem fe_any {α : EF} (hcalm : X.calm = true) (hg : Gl X "any") (hm : X.mg "any" = none) (ha : FE X e α) (he : starEach [e] X.env = (false, eval e X.env) :: starEach [] X.env := by rfl) : FE X (.Call (.Name "any" p) [e] [] pos) (dCall gAny (aCons α aNil)) :=
  fe_wCall (we_callB (cr_any hcalm) of_any hg hm (by decide +kernel) (fa_cons ha fa_nil he) (he := he))
/-- tuple(xs), list(xs) -/
def gTuple : DCall := fun S ds => match ds with
  | [x] => (seqOf S x).map .tup
  | _ => none
theorem of_tuple : CallF X (fun xs H Q => ∃ p ys, xs = [.ref p] ∧ ((SqL X.K H p ys ∧ ∀ l, H l = none → Q (.ref l) (upd H l (.tup ys))) ∨ (SqT X.K H p ys ∧ Q (.ref p) H))) gTuple := fun xs ds H F S d rl rx ed Q k => by
  match ds, rx, ed with
  | [], _, ed => cases ed
  | _ :: _ :: _, _, ed => simp only [gTuple] at ed; cases ed
  | [dx], rx, ed =>
    obtain ⟨x, rfl, rz⟩ := rx.one
    obtain ⟨zs, h1, rfl⟩ := Option.map_eq_some_iff.mp (show (seqOf S dx).map .tup = some d from ed)
    by_cases ht : ∃ ys, dx = .tup ys
    · obtain ⟨ys, rfl⟩ := ht
      cases h1
      cases rz with
      | tup hs hr => exact ⟨_, _, rfl, .inr ⟨ex_t rl.sub hs, k _ H F (Ex.refl F) rl (.tup hs hr)⟩⟩
    · have h2 : lstOf S dx = some zs := by
        cases dx with
        | tup ys => exact absurd ⟨ys, rfl⟩ ht
        | _ => exact h1
      obtain ⟨a, vs, rfl, hs, hr⟩ := lstOf_ok rl rz h2
      refine ⟨a, vs, rfl, .inl ⟨hs, fun l hl => ?_⟩⟩
      obtain ⟨r2, x2⟩ := rl.settled (o := .tup vs) hl
      exact k _ _ _ x2 r2 (.tup (st_of upd_same) (hr.mono x2))
theorem fe_tuple {α : EF} (hg : Gl X "tuple") (hm : X.mg "tuple" = none) (ha : FE X e α) (he : starEach [e] X.env = (false, eval e X.env) :: starEach [] X.env := by rfl) : FE X (.Call (.Name "tuple" p) [e] [] pos) (dCall gTuple (aCons α aNil)) :=
  fe_wCall (we_callT call_tuple_of of_tuple hg hm (by decide +kernel) (fa_cons ha fa_nil he) (he := he))
theorem we_tuple {T : DE} (hg : Gl X "tuple") (hm : X.mg "tuple" = none) (ha : WE X e T) (he : starEach [e] X.env = (false, eval e X.env) :: starEach [] X.env := by rfl) : WE X (.Call (.Name "tuple" p) [e] [] pos) (wCall gTuple fun ρ S Q => T ρ S fun d S1 => Q [d] S1) :=
  we_callT call_tuple_of of_tuple hg hm (by decide +kernel) (wa_cons ha wa_nil he) (he := he)
def gList : DCallL := fun S ds => match ds with
  | [x] => seqOf S x
  | _ => none
theorem of_list : CallFL X (fun xs H Q => ∃ p ys, xs = [.ref p] ∧ (SqL X.K H p ys ∨ SqT X.K H p ys) ∧ ∀ l, H l = none → Q (.ref l) (upd H l (.lst ys))) gList := fun xs ds H F S zs rl rx ed Q k => by
  match ds, rx, ed with
  | [], _, ed => cases ed
  | _ :: _ :: _, _, ed => simp only [gList] at ed; cases ed
  | [dx], rx, ed =>
    obtain ⟨x, rfl, rz⟩ := rx.one
    obtain ⟨a, vs, rfl, hs, hr⟩ := seqOf_ok rl rz (show seqOf S dx = some zs from ed)
    exact ⟨a, vs, rfl, hs, fun l hl => k l _ hl (rl.fresh (c := .lst zs) (o := .lst vs) hl ⟨_, upd_same, hr⟩)⟩
theorem fl_list {α : EF} (hg : Gl X "list") (hm : X.mg "list" = none) (ha : FE X e α) (he : starEach [e] X.env = (false, eval e X.env) :: starEach [] X.env := by rfl) : WE X (.Call (.Name "list" p) [e] [] pos) (asCell (fL (lCall gList (aCons α aNil)))) :=
  fl_wCall (we_callTL call_list_of of_list hg hm (by decide +kernel) (fa_cons ha fa_nil he) (he := he))
theorem fe_list {α : EF} (hg : Gl X "list") (hm : X.mg "list" = none) (ha : FE X e α) (he : starEach [e] X.env = (false, eval e X.env) :: starEach [] X.env := by rfl) : FE X (.Call (.Name "list" p) [e] [] pos) (dLst (lCall gList (aCons α aNil))) := fe_settle (fl_list hg hm ha he)
/-- int(i) -/
def gInt : DCall := fun _ ds => match ds with
  | [.int i] => some (.int i)
  | _ => none
theorem of_int : CallF X (fun xs H Q => (∃ i, xs = [.int i] ∧ Q (.int i) H) ∨ ∃ k, xs = [.bl k] ∧ Q (.int (if k then 1 else 0)) H) gInt := fun xs ds H F S d rl rx ed Q k => by
  match ds, rx, ed with
  | [], _, ed => cases ed
  | _ :: _ :: _, _, ed => simp only [gInt] at ed; cases ed
  | [dx], rx, ed =>
    obtain ⟨x, rfl, rz⟩ := rx.one
    cases dx with
    | int i => cases ed; cases rz; exact .inl ⟨i, rfl, k _ H F (Ex.refl F) rl (.int i)⟩
    | _ => cases ed
theorem fe_intc {α : EF} (hg : Gl X "int") (hm : X.mg "int" = none) (ha : FE X e α) (he : starEach [e] X.env = (false, eval e X.env) :: starEach [] X.env := by rfl) : FE X (.Call (.Name "int" p) [e] [] pos) (dCall gInt (aCons α aNil)) :=
  fe_wCall (we_callT call_int1 of_int hg hm (by decide +kernel) (fa_cons ha fa_nil he) (he := he))
end
end KD
set_option Elab.async false
set_option linter.all false
set_option maxRecDepth 100000
set_option maxHeartbeats 4000000
/-! Rules over data: dicts. -/
namespace KD
open PySem PySem.Spec PyProof.Rows L2 Evl
def findS (x : Str) (kvs : List (Str × D)) : Option D := (kvs.find? fun p => decide (p.1 = x)).map (·.2)
def findT (k : NestedKey) (kvs : List (D × D)) : Option D := (kvs.find? fun p => decide (p.1.key = some k)).map (·.2)
def putS (x : Str) (v : D) (kvs : List (Str × D)) : List (Str × D) := if (kvs.any fun p => decide (p.1 = x)) = true then kvs.map fun p => if p.1 = x then (p.1, v) else p else kvs ++ [(x, v)]
def putT (kd : D) (k : NestedKey) (v : D) (kvs : List (D × D)) : List (D × D) := if (findT k kvs).isSome = true then kvs.map fun p => if p.1.key = some k then (p.1, v) else p else kvs ++ [(kd, v)]
/-- a text as a key -/
def D.sk : D → Option Str
  | .str x => some x
  | _ => none
def getD (S : DS) (a : Addr) (key : D) : Option (Option D) := match S a with
  | some (.dS kvs) => key.sk.map fun x => findS x kvs
  | some (.lS _ _ kvs) => key.sk.map fun x => findS x kvs
  | some (.dT kvs) => key.key.map fun k => findT k kvs
  | some (.lT _ _ kvs) => key.key.map fun k => findT k kvs
  | _ => none
abbrev PS1 (K : PySem.W.Frag) (F : Hp) : List (Str × D) → List (Key × V) → Prop := Paired fun p q => q.1 = Sum.inr p.1 ∧ Rp K F q.2 p.2
abbrev PT1 (K : PySem.W.Frag) (F : Hp) : List (D × D) → List (NestedKey × Addr × V) → Prop := Paired fun p q => p.1.key = some q.1 ∧ Rp K F (.ref q.2.1) p.1 ∧ Rp K F q.2.2 p.2
abbrev PT2 : List (NestedKey × Addr × V) → List (NestedKey × Addr × Value) → Prop := Paired fun p q => p.1 = q.1 ∧ p.2.1 = q.2.1 ∧ RelV p.2.2 q.2.2
section
variable {K : PySem.W.Frag} {F : Hp}
theorem findS_ok (x : Str) : ∀ {kvs : List (Str × D)} {gs : List (Key × V)}, PS1 K F kvs gs → (∀ d, findS x kvs = some d → ∃ v, valV gs (Sum.inr x) = some v ∧ Rp K F v d) ∧ (findS x kvs = none → valV gs (Sum.inr x) = none)
  | _, _, .nil => ⟨fun d h => (by cases h), fun _ => rfl⟩
  | p :: kvs, q :: gs, .cons r t => by
    obtain ⟨h1, h2⟩ := r
    obtain ⟨i1, i2⟩ := findS_ok x t
    by_cases e : p.1 = x
    · have e2 : q.1 = (Sum.inr x : Key) := by rw [h1, e]
      have f1 : findS x (p :: kvs) = some p.2 := by unfold findS; rw [List.find?_cons_of_pos (by simp [e])]; rfl
      rw [valV_pos e2, f1]
      exact ⟨fun d h => (by cases h; exact ⟨_, rfl, h2⟩), fun h => (by cases h)⟩
    · have e2 : ¬ q.1 = (Sum.inr x : Key) := by rw [h1]; intro z; exact e (Sum.inr.inj z)
      have f1 : findS x (p :: kvs) = findS x kvs := by unfold findS; rw [List.find?_cons_of_neg (by simp [e])]
      rw [valV_neg e2, f1]
      exact ⟨i1, i2⟩
theorem findT_ok (k : NestedKey) : ∀ {kvs : List (D × D)} {xs : List (NestedKey × Addr × V)} {us : List (NestedKey × Addr × Value)}, PT1 K F kvs xs → PT2 xs us →
    (∀ d, findT k kvs = some d → ∃ p v, atKey us k = some p ∧ RelV v p.2 ∧ Rp K F v d) ∧ (findT k kvs = none → atKey us k = none)
  | _, _, _, .nil, .nil => ⟨fun d h => (by cases h), fun _ => rfl⟩
  | p :: kvs, q :: xs, u :: us, .cons r t, .cons r2 t2 => by
    obtain ⟨h1, h2, h3⟩ := r
    obtain ⟨g1, g2, g3⟩ := r2
    obtain ⟨i1, i2⟩ := findT_ok k t t2
    by_cases e : q.1 = k
    · have e1 : p.1.key = some k := by rw [h1, e]
      have e2 : u.1 = k := by rw [← g1, e]
      have f1 : findT k (p :: kvs) = some p.2 := by unfold findT; rw [List.find?_cons_of_pos (by simp [e1])]; rfl
      have f2 : atKey (u :: us) k = some u.2 := by unfold atKey; rw [List.find?_cons_of_pos (by simp [e2])]; rfl
      rw [f1, f2]
      exact ⟨fun d h => (by cases h; exact ⟨_, _, rfl, g3, h3⟩), fun h => (by cases h)⟩
    · have e1 : ¬ p.1.key = some k := by rw [h1]; intro z; exact e (Option.some.inj z)
      have e2 : ¬ u.1 = k := by rw [← g1]; exact e
      have f1 : findT k (p :: kvs) = findT k kvs := by unfold findT; rw [List.find?_cons_of_neg (by simp [e1])]
      have f2 : atKey (u :: us) k = atKey us k := by unfold atKey; rw [List.find?_cons_of_neg (by simp [e2])]
      rw [f1, f2]
      exact ⟨i1, i2⟩
theorem pt2_keys : ∀ {xs : List (NestedKey × Addr × V)} {us : List (NestedKey × Addr × Value)}, PT2 xs us → xs.map (·.1) = us.map (·.1)
  | _, _, .nil => rfl
  | _, _, .cons r t => by rw [List.map_cons, List.map_cons, r.1, pt2_keys t]
theorem pairedLen {α β : Type} {R : α → β → Prop} : ∀ {xs : List α} {ys : List β}, Paired R xs ys → xs.length = ys.length
  | _, _, .nil => rfl
  | _, _, .cons _ t => by rw [List.length_cons, List.length_cons, pairedLen t]
theorem pairedApp {α β : Type} {R : α → β → Prop} : ∀ {xs xs' : List α} {ys ys' : List β}, Paired R xs ys → Paired R xs' ys' → Paired R (xs ++ xs') (ys ++ ys')
  | _, _, _, _, .nil, s => s
  | _, _, _, _, .cons r t, s => .cons r (pairedApp t s)
theorem pairedMap {α β : Type} {R : α → β → Prop} {f : α → α} {g : β → β} (h : ∀ a b, R a b → R (f a) (g b)) : ∀ {xs : List α} {ys : List β}, Paired R xs ys → Paired R (xs.map f) (ys.map g)
  | _, _, .nil => .nil
  | _, _, .cons r t => .cons (h _ _ r) (pairedMap h t)
theorem pairedGet {α β : Type} {R : α → β → Prop} : ∀ {xs : List α} {ys : List β} {i : Nat} {a : α}, Paired R xs ys → xs[i]? = some a → ∃ b, ys[i]? = some b ∧ R a b
  | _, _, _, _, .nil, e => by simp at e
  | _, _, 0, a, .cons h _, e => by simp at e; subst e; exact ⟨_, rfl, h⟩
  | _, _, i + 1, a, .cons _ r, e => by
    obtain ⟨v, h1, h2⟩ := pairedGet (i := i) (a := a) r (by simpa using e)
    exact ⟨v, by simpa using h1, h2⟩
theorem pairedMem {α β : Type} {R : α → β → Prop} : ∀ {xs : List α} {ys : List β} {b : β}, Paired R xs ys → b ∈ ys → ∃ a ∈ xs, R a b
  | _, _, _, .nil, h => by cases h
  | _, _, b, .cons r t, h => by
    rcases List.mem_cons.mp h with e | e
    · subst e; exact ⟨_, List.mem_cons_self, r⟩
    · obtain ⟨a, h1, h2⟩ := pairedMem t e; exact ⟨a, List.mem_cons_of_mem _ h1, h2⟩
end
theorem key_nk {d : D} {k : NestedKey} (h : d.key = some k) : d.nk = some k ∧ k.depth ≤ 8 := by
  cases d with
  | tup xs =>
    simp only [D.key] at h
    cases e : (D.tup xs).nk with
    | none => rw [e] at h; cases h
    | some j =>
      rw [e] at h
      obtain ⟨h1, rfl⟩ := if_some h
      exact ⟨rfl, h1⟩
  | _ => cases h
theorem ext_ok {P : Program} {w : World} {H : Hp} {h : Heap} {a : Addr} {xs : List (NestedKey × Addr × V)} (p : DTphi P w a xs h) : ObjOk P w H h a (.ext (DTphi P w a xs)) := by
  obtain ⟨h1, h2, h3, us, o, es, ep, h4, h5, h6⟩ := id p
  refine ⟨p, ⟨o, h5⟩, fun g1 g2 q k => ?_⟩
  obtain ⟨h1, h2, h3, us, o, es, ep, h4, h5, h6⟩ := q
  exact ⟨h1, h2, h3, us, o, es, ep, h4, k o h5, h6⟩
section
variable {X : Cx} {F F' : Hp} {H H' : Hp} {S S' : DS} {σ : L2.St} {ρ : Rho} {pos p : Pos} {e f a b c o i value : Expr} {es : List Expr}
theorem key_is {pins : List (Addr × Obj)} {s : Shared} (I : Inv X pins σ H s) (rl : Rl X S H F) {y : V} {u : Value} {key : D} {k : NestedKey} (ry : Rp X.K F y key) (ru : RelV y u) (h : key.key = some k) : ∃ b, y = .ref b ∧ u = .ref b ∧ (nestedKind X.prog X.w).is s.heap k b := by
  obtain ⟨h1, h2⟩ := key_nk h
  have n := Rp.nested I key k y u (ry.mono rl.sub) h1 ru
  cases key with
  | tup xs =>
    cases ry with
    | tup hs hr => cases ru; exact ⟨_, rfl, rfl, n, h2⟩
  | _ => cases h
/-- a dict with tuple keys, opened -/
theorem dT_open {pins : List (Addr × Obj)} {s : Shared} {ad : Addr} {kvs : List (D × D)} {xs : List (NestedKey × Addr × V)} (I : Inv X pins σ H s) (rl : Rl X S H F) (hH : Rd H ad (.ext (DTphi X.prog X.w ad xs))) (p1 : PT1 X.K F kvs xs) :
    ∃ us, PT2 xs us ∧ xs.length ≤ sizeLine ∧ (ad == sysModules) = false ∧ s.heap.DictOfH (nestedKind X.prog X.w) ad us := by
  obtain ⟨⟨h1, h2, h3, us, o, es, ep, h4, h5, h6, h7, h8⟩, _⟩ : ObjOk X.prog X.w H s.heap ad (.ext (DTphi X.prog X.w ad xs)) := hH.ok I.hok
  refine ⟨us, h4, h1, h2, o, es, ep, h5, h6, h7, h8, fun x hx => ?_, by rw [← pt2_keys h4]; exact h3⟩
  obtain ⟨y, hy, g1, g2, _⟩ := pairedMem h4 hx
  obtain ⟨z, hz, k1, k2, _⟩ := pairedMem p1 hy
  obtain ⟨b, e1, e2, e3⟩ := key_is I rl (y := .ref y.2.1) (u := .ref y.2.1) k2 rfl k1
  cases e1
  rw [← g1, ← g2]
  exact e3
/-- a look-up's facts -/
inductive GetV (X : Cx) (F H : Hp) (s : Shared) (ad : Addr) (y : V) (u : Value) (r : Option D) : Prop
  | k (ov : Option V) (g : DGet H ad y ov) (h1 : ∀ d, r = some d → ∃ v, ov = some v ∧ Rp X.K F v d) (h2 : r = none → ov = none)
  | t (b : Addr) (k : NestedKey) (us : List (NestedKey × Addr × Value)) (hu : u = .ref b) (hk : (nestedKind X.prog X.w).is s.heap k b) (hd : (ad == sysModules) = false) (hm : s.heap.DictOfH (nestedKind X.prog X.w) ad us)
      (h1 : ∀ d, r = some d → ∃ p v, atKey us k = some p ∧ RelV v p.2 ∧ Rp X.K F v d) (h2 : r = none → atKey us k = none)
theorem getV {pins : List (Addr × Obj)} {s : Shared} {ad : Addr} {y : V} {u : Value} {key : D} {r : Option D} (I : Inv X pins σ H s) (rl : Rl X S H F) (ry : Rp X.K F y key) (ru : RelV y u) (h : getD S ad key = some r) : GetV X F H s ad y u r := by
  unfold getD at h
  have tcase : ∀ (kvs : List (D × D)) (xs : List (NestedKey × Addr × V)), Rd H ad (.ext (DTphi X.prog X.w ad xs)) → PT1 X.K F kvs xs → key.key.map (fun k => findT k kvs) = some r → GetV X F H s ad y u r := by
    intro kvs xs hH p1 h
    obtain ⟨k, hk, rfl⟩ := Option.map_eq_some_iff.mp h
    obtain ⟨us, p2, _, hd, hm⟩ := dT_open I rl hH p1
    obtain ⟨b, _, hu, hi⟩ := key_is I rl ry ru hk
    obtain ⟨h1, h2⟩ := findT_ok k p1 p2
    exact .t b k us hu hi hd hm h1 h2
  have scase : ∀ (kvs : List (Str × D)) (gs : List (Key × V)), Rd H ad (.dK gs) → PS1 X.K F kvs gs → (key.sk.map fun x => findS x kvs) = some r → GetV X F H s ad y u r := by
    intro kvs gs hH p1 h
    cases key with
    | str x =>
      cases h
      cases ry
      obtain ⟨h1, h2⟩ := findS_ok x p1
      exact .k (valV gs (Sum.inr x)) (.inl ⟨gs, Sum.inr x, hH, rfl, rfl⟩) h1 h2
    | _ => cases h
  cases q : S ad with
  | none => rw [q] at h; cases h
  | some c =>
    rw [q] at h
    obtain ⟨_, ok⟩ := rl.cell ad c q
    cases c with
    | dS kvs => obtain ⟨gs, h1, h2⟩ := ok; exact scase kvs gs (.inl h1) h2 h
    | lS od u kvs => obtain ⟨gs, ⟨h1, rfl⟩, h2⟩ := ok; exact scase kvs gs (.inr ⟨od, h1⟩) h2 h
    | dT kvs => obtain ⟨xs, h1, h2⟩ := ok; exact tcase kvs xs (.inl h1) h2 h
    | lT od u kvs => obtain ⟨xs, ⟨h1, rfl⟩, h2⟩ := ok; exact tcase kvs xs (.inr ⟨od, h1⟩) h2 h
    | _ => cases h
theorem room8 {A : Around} (hu : A.units + 64 < cLine) (prog : Program) (w : World) : (nestedKind prog w).room A.in1 := by
  show A.units + 1 + 8 < cLine
  omega
theorem dict_type {pins : List (Addr × Obj)} {s : Shared} {ad : Addr} {y : V} {u : Value} {r : Option D} (I : Inv X pins σ H s) (g : GetV X F H s ad y u r) : s.TypeIs (.ref ad) "dict" ∧ ∀ b, Value.ref ad = .ref b → ∃ ob, s.heap.get? b = some ob ∧ ob.dict = none := by
  cases g with
  | k ov g _ _ => exact ⟨dict_typeIs I g, dict_noDict I g⟩
  | t b k us hu hk hd hm h1 h2 =>
    refine ⟨hm.typeIs, fun b q => ?_⟩
    cases q
    obtain ⟨ob, _, _, h1, h2, _⟩ := hm
    exact ⟨ob, h1, h2.2.1⟩
/-- d[k] -/
theorem q_getItem {pins : List (Addr × Obj)} {s : Shared} {ad : Addr} {y : V} {u : Value} {d : D} {Q : Value → Shared → Prop} {E : Value → Shared → Prop} (hu : X.A.units + 64 < cLine) (I : Inv X pins σ H s) (ru : RelV y u) (g : GetV X F H s ad y u (some d))
    (h : ∀ v w' s', Inv X pins σ H s' → RelV v w' → Rp X.K F v d → Q w' s') : wpAny (model X.prog X.w) X.A (getItem (.ref ad) u) Q E s := by
  cases g with
  | k ov g h1 _ =>
    obtain ⟨v, e, r⟩ := h1 d rfl
    subst e
    exact d_getItem (by omega) I g ru fun w' s' I' rw' => h v w' s' I' rw' r
  | t b k us hu2 hk hd hm h1 _ =>
    obtain ⟨p, v, e, rv, r⟩ := h1 d rfl
    subst hu2
    exact wpAny_getItem_heap (room8 hu _ _) hk hm e (h v _ _ (I.tok _) rv r)
theorem q_in {pins : List (Addr × Obj)} {s : Shared} {ad : Addr} {y : V} {u : Value} {r : Option D} {Q : Value → Shared → Prop} {E : Value → Shared → Prop} (hu : X.A.units + 64 < cLine) (I : Inv X pins σ H s) (ru : RelV y u) (g : GetV X F H s ad y u r)
    (h : ∀ s', Inv X pins σ H s' → Q (.bool r.isSome) s') : wpAny (model X.prog X.w) X.A (compareOp .In u (.ref ad)) Q E s := by
  cases g with
  | k ov g h1 h2 =>
    refine d_in (by omega) I g ru fun s' I' => ?_
    cases r with
    | none => rw [h2 rfl]; exact h s' I'
    | some d => obtain ⟨v, e, _⟩ := h1 d rfl; rw [e]; exact h s' I'
  | t b k us hu2 hk hd hm h1 h2 =>
    subst hu2
    refine wpAny_in_heap (room8 hu _ _) hk hd hm ?_
    cases r with
    | none => rw [h2 rfl]; exact h _ (I.tok _)
    | some d => obtain ⟨p, v, e, _⟩ := h1 d rfl; rw [e]; exact h _ (I.tok _)
theorem q_notIn {pins : List (Addr × Obj)} {s : Shared} {ad : Addr} {y : V} {u : Value} {r : Option D} {Q : Value → Shared → Prop} {E : Value → Shared → Prop} (hu : X.A.units + 64 < cLine) (I : Inv X pins σ H s) (ru : RelV y u) (g : GetV X F H s ad y u r)
    (h : ∀ s', Inv X pins σ H s' → Q (.bool (!r.isSome)) s') : wpAny (model X.prog X.w) X.A (compareOp .NotIn u (.ref ad)) Q E s := by
  cases g with
  | k ov g h1 h2 =>
    refine d_notIn (by omega) I g ru fun s' I' => ?_
    cases r with
    | none => rw [h2 rfl]; exact h s' I'
    | some d => obtain ⟨v, e, _⟩ := h1 d rfl; rw [e]; exact h s' I'
  | t b k us hu2 hk hd hm h1 h2 =>
    subst hu2
    show wpAny _ _ (do return .bool (!(← contains (.ref ad) (.ref b)))) Q E s
    refine wpAny_bind (wpAny_contains_heap (room8 hu _ _) hk hd hm (wpAny_pure ?_))
    cases r with
    | none => rw [h2 rfl]; exact h _ (I.tok _)
    | some d => obtain ⟨p, v, e, _⟩ := h1 d rfl; rw [e]; exact h _ (I.tok _)
theorem q_get2 {pins : List (Addr × Obj)} {s : Shared} {ad : Addr} {y z : V} {u t : Value} {r : Option D} {dz : D} {Q : Value → Shared → Prop} {E : Value → Shared → Prop} (hu : X.A.units + 64 < cLine) (I : Inv X pins σ H s) (ru : RelV y u) (rz : RelV z t) (pz : Rp X.K F z dz) (g : GetV X F H s ad y u r)
    (h : ∀ v w' s', Inv X pins σ H s' → RelV v w' → Rp X.K F v (r.getD dz) → Q w' s') : wpAny (model X.prog X.w) X.A (call (.builtin "dict.get") [.ref ad, u, t]) Q E s := by
  cases g with
  | k ov g h1 h2 =>
    refine d_get2 (by omega) I g ru rz fun w' s' I' rw' => ?_
    cases r with
    | none => rw [h2 rfl] at rw'; exact h z w' s' I' rw' pz
    | some d => obtain ⟨v, e, r⟩ := h1 d rfl; rw [e] at rw'; exact h v w' s' I' rw' r
  | t b k us hu2 hk hd hm h1 h2 =>
    subst hu2
    refine call_meetsIn PySem.F.slot_dict_get hm.typeIs PySem.F.entry_dict_get (PySem.F.args_dict_get_3 _ _ _) (meetsH_dict_get_default (nestedKind X.prog X.w) ad b hd t) ⟨room8 hu _ _, k, us, hk, hm, ?_⟩
    cases r with
    | none => rw [h2 rfl]; exact h z _ _ (I.tok _) rz pz
    | some d => obtain ⟨p, v, e, rv, r⟩ := h1 d rfl; rw [e]; exact h v _ _ (I.tok _) rv r
/-! ### readings -/
def dDget (α β : EF) : EF := fun ρ S => (α ρ S).bind fun x => (β ρ S).bind fun y => match x with
  | .ref ad => (getD S ad y).join
  | _ => none
theorem fe_two {α β : EF} {dx dy : D} (h1 : α ρ S = some dx) (h2 : β ρ S = some dy) (rl : Rl X S H F) (en : En X F σ ρ) {R : V → V → Hp → Prop} (k : ∀ x y H2 F2, Ex F F2 → Rl X S H2 F2 → Rp X.K F2 x dx → Rp X.K F2 y dy → R x y H2) :
    tW X (fE α) σ H fun x H1 => tW X (fE β) σ H1 fun y H2 => R x y H2 :=
  ⟨F, ρ, S, fun d S1 => d = dx ∧ S1 = S, rl, en, ⟨_, h1, rfl, rfl⟩, fun v H1 F1 S1 d x1 r1 p1 e1 => by
    obtain ⟨e1, e2⟩ := e1
    subst e1 e2
    exact ⟨F1, ρ, S1, fun d S2 => d = dy ∧ S2 = S1, r1, en.mono x1, ⟨_, h2, rfl, rfl⟩, fun v2 H2 F2 S2 d2 x2 r2 p2 e2 => by
      obtain ⟨e1, e2⟩ := e2
      subst e1 e2
      exact k v v2 H2 F2 (x1.trans x2) r2 (p1.mono x2) p2⟩⟩
theorem fe_dget {α β : EF} (hu : X.A.units + 64 < cLine) (ho : FE X o α) (hi : FE X i β) (hs : NoSl i := by exact fun _ _ => rfl) : FE X (.Subscript o i pos) (dDget α β) := by
  refine ⟨fun pins s σ H Q I h => ?_⟩
  obtain ⟨F, ρ, S, Q', rl, en, ⟨d, ed, q⟩, k⟩ := h
  obtain ⟨x, h1, h2⟩ := Option.bind_eq_some_iff.mp ed
  obtain ⟨y, h3, h4⟩ := Option.bind_eq_some_iff.mp h2
  cases x with
  | ref ad =>
    have h5 : getD S ad y = some (some d) := by
      cases z : getD S ad y with
      | none => simp only [z] at h4; cases h4
      | some r => simp only [z] at h4; cases r with
        | none => cases h4
        | some d' => cases h4; rfl
    have hh := fe_two (R := fun x y H2 => ∃ F2, Ex F F2 ∧ Rl X S H2 F2 ∧ x = .ref ad ∧ Rp X.K F2 y _) h1 h3 rl en fun x y H2 F2 x2 r2 p1 p2 => ⟨F2, x2, r2, by cases p1; rfl, p2⟩
    refine subD_of PySem.F.slot_dict_getitem.lookup hs (thn (ho.run pins s σ H _ I hh) fun u s1 ⟨xv, H1, I1, rx, q1⟩ => thn (hi.run pins s1 σ H1 _ I1 q1) fun iv s2 ⟨yv, H2, I2, ry, F2, x2, r2, ex, py⟩ => ?_)
    subst ex
    obtain rfl : u = Value.ref ad := rx
    have g := getV I2 r2 py ry h5
    exact ⟨(dict_type I2 g).1, q_getItem hu I2 ry g fun v w' s3 I3 rv pv => ⟨v, H2, I3, rv, k v H2 F2 S d x2 r2 pv q⟩⟩
  | _ => cases h4
def dDin (neg : Bool) (α β : EF) : EF := fun ρ S => (α ρ S).bind fun y => (β ρ S).bind fun x => match x with
  | .ref ad => (getD S ad y).map fun r => .bl (if neg then !r.isSome else r.isSome)
  | _ => none
theorem pc_dinQ {α β : EF} (hu : X.A.units + 64 < cLine) (hi : FE X i α) (ho : FE X o β) : PC X .In i o (tW X (fE (dDin false α β))) := by
  refine ⟨fun pins s σ H Q I h => ?_⟩
  obtain ⟨F, ρ, S, Q', rl, en, ⟨d, ed, q⟩, k⟩ := h
  obtain ⟨y, h1, h2⟩ := Option.bind_eq_some_iff.mp ed
  obtain ⟨x, h3, h4⟩ := Option.bind_eq_some_iff.mp h2
  cases x with
  | ref ad =>
    obtain ⟨r, h5, rfl⟩ := Option.map_eq_some_iff.mp h4
    have hh := fe_two (R := fun y x H2 => ∃ F2, Ex F F2 ∧ Rl X S H2 F2 ∧ x = .ref ad ∧ Rp X.K F2 y _) h1 h3 rl en fun y x H2 F2 x2 r2 p1 p2 => ⟨F2, x2, r2, by cases p2; rfl, p1⟩
    refine thn (hi.run pins s σ H _ I hh) fun iv s1 ⟨yv, H1, I1, ry, q1⟩ => thn (ho.run pins s1 σ H1 _ I1 q1) fun u s2 ⟨xv, H2, I2, rx, F2, x2, r2, ex, py⟩ => ?_
    subst ex
    obtain rfl : u = Value.ref ad := rx
    exact q_in hu I2 ry (getV I2 r2 py ry h5) fun s3 I3 => ⟨.bl r.isSome, H2, I3, rfl, k _ H2 F2 S _ x2 r2 (.bl _) q⟩
  | _ => cases h4
theorem pc_dninQ {α β : EF} (hu : X.A.units + 64 < cLine) (hi : FE X i α) (ho : FE X o β) : PC X .NotIn i o (tW X (fE (dDin true α β))) := by
  refine ⟨fun pins s σ H Q I h => ?_⟩
  obtain ⟨F, ρ, S, Q', rl, en, ⟨d, ed, q⟩, k⟩ := h
  obtain ⟨y, h1, h2⟩ := Option.bind_eq_some_iff.mp ed
  obtain ⟨x, h3, h4⟩ := Option.bind_eq_some_iff.mp h2
  cases x with
  | ref ad =>
    obtain ⟨r, h5, rfl⟩ := Option.map_eq_some_iff.mp h4
    have hh := fe_two (R := fun y x H2 => ∃ F2, Ex F F2 ∧ Rl X S H2 F2 ∧ x = .ref ad ∧ Rp X.K F2 y _) h1 h3 rl en fun y x H2 F2 x2 r2 p1 p2 => ⟨F2, x2, r2, by cases p2; rfl, p1⟩
    refine thn (hi.run pins s σ H _ I hh) fun iv s1 ⟨yv, H1, I1, ry, q1⟩ => thn (ho.run pins s1 σ H1 _ I1 q1) fun u s2 ⟨xv, H2, I2, rx, F2, x2, r2, ex, py⟩ => ?_
    subst ex
    obtain rfl : u = Value.ref ad := rx
    exact q_notIn hu I2 ry (getV I2 r2 py ry h5) fun s3 I3 => ⟨.bl (!r.isSome), H2, I3, rfl, k _ H2 F2 S _ x2 r2 (.bl _) q⟩
  | _ => cases h4
theorem fe_din {α β : EF} (hu : X.A.units + 64 < cLine) (hi : FE X i α) (ho : FE X o β) (hm : behindInMarks .In o = false := by rfl) : FE X (.Compare i [.In] [o] pos) (dDin false α β) := pe_cmp (pc_dinQ hu hi ho) hm
theorem fe_dnin {α β : EF} (hu : X.A.units + 64 < cLine) (hi : FE X i α) (ho : FE X o β) (hm : behindInMarks .NotIn o = false := by rfl) : FE X (.Compare i [.NotIn] [o] pos) (dDin true α β) := pe_cmp (pc_dninQ hu hi ho) hm
theorem ft_pc {op : CmpOp} {ε : EF} (h : PC X op i o (tW X (fE ε))) (hm : behindInMarks op o = false) : FTe X (.Compare i [op] [o] pos) (tb ε) := PT.imp (pt_cmp h hm) fun σ H Q ⟨F, ρ, S, Q', rl, en, ⟨kk, h, q⟩, k⟩ =>
  ⟨F, ρ, S, fun d S1 => d = .bl kk ∧ S1 = S, rl, en, ⟨_, tb_some h, rfl, rfl⟩, fun v H1 F1 S1 d x1 r1 p1 e12 => by
    obtain ⟨e1, e2⟩ := e12
    subst e1 e2
    cases p1
    exact ⟨kk, rfl, k kk H1 F1 S1 x1 r1 q⟩⟩
theorem ft_din {α β : EF} (hu : X.A.units + 64 < cLine) (hi : FE X i α) (ho : FE X o β) (hm : behindInMarks .In o = false := by rfl) : FTe X (.Compare i [.In] [o] pos) (tb (dDin false α β)) := ft_pc (pc_dinQ hu hi ho) hm
theorem ft_dnin {α β : EF} (hu : X.A.units + 64 < cLine) (hi : FE X i α) (ho : FE X o β) (hm : behindInMarks .NotIn o = false := by rfl) : FTe X (.Compare i [.NotIn] [o] pos) (tb (dDin true α β)) := ft_pc (pc_dninQ hu hi ho) hm
/-- d.get(k, x) -/
def dDget2 (α β γ : EF) : EF := fun ρ S => (α ρ S).bind fun x => (β ρ S).bind fun y => (γ ρ S).bind fun z => match x with
  | .ref ad => (getD S ad y).map fun r => r.getD z
  | _ => none
theorem fe_dget2 {α β γ : EF} {apos cpos : Pos} (hu : X.A.units + 64 < cLine) (ho : FE X o α) (he : FE X e β) (hf : FE X f γ) (m : M2 X o "get" apos e f cpos) : FE X (.Call (.Attribute o "get" apos) [e, f] [] cpos) (dDget2 α β γ) := by
  refine ⟨fun pins s σ H Q I h => ?_⟩
  obtain ⟨F, ρ, S, Q', rl, en, ⟨d, ed, q⟩, k⟩ := h
  obtain ⟨x, h1, h2⟩ := Option.bind_eq_some_iff.mp ed
  obtain ⟨y, h3, h4⟩ := Option.bind_eq_some_iff.mp h2
  obtain ⟨z, h5, h6⟩ := Option.bind_eq_some_iff.mp h4
  cases x with
  | ref ad =>
    obtain ⟨r, h7, rfl⟩ := Option.map_eq_some_iff.mp h6
    have hh : tW X (fE α) σ H fun x H1 => ∃ F1, Ex F F1 ∧ Rl X S H1 F1 ∧ x = .ref ad := ⟨F, ρ, S, fun d S1 => d = .ref ad ∧ S1 = S, rl, en, ⟨_, h1, rfl, rfl⟩, fun v H1 F1 S1 d x1 r1 p1 e1 => by
      obtain ⟨e1, e2⟩ := e1
      subst e1 e2
      exact ⟨F1, x1, r1, by cases p1; rfl⟩⟩
    refine wpAny_Call_method m.base m.few m.line PySem.F.plainAttrs_dict PySem.F.slot_dict_get PySem.F.type_dict_get (thn (ho.run pins s σ H _ I hh) fun u s1 ⟨xv, H1, I1, rx, F1, x1, r1, ex⟩ => ?_)
    subst ex
    obtain rfl : u = Value.ref ad := rx
    have hty : s1.TypeIs (.ref ad) "dict" ∧ ∀ b, Value.ref ad = .ref b → ∃ ob, s1.heap.get? b = some ob ∧ ob.dict = none := by
      unfold getD at h7
      cases q : S ad with
      | none => rw [q] at h7; cases h7
      | some c =>
        rw [q] at h7
        obtain ⟨_, ok⟩ := r1.cell ad c q
        cases c with
        | dS kvs => obtain ⟨gs, g1, g2⟩ := ok; exact ⟨(isD_at I1 (.inl ⟨gs, .inl g1⟩)).1, (isD_at I1 (.inl ⟨gs, .inl g1⟩)).2.1⟩
        | lS od u kvs => obtain ⟨gs, ⟨g1, rfl⟩, g2⟩ := ok; exact ⟨(isD_at I1 (.inl ⟨gs, .inr ⟨od, g1⟩⟩)).1, (isD_at I1 (.inl ⟨gs, .inr ⟨od, g1⟩⟩)).2.1⟩
        | dT kvs =>
          obtain ⟨xs, g1, g2⟩ := ok
          obtain ⟨us, _, _, _, hm⟩ := dT_open I1 r1 (.inl g1) g2
          exact ⟨hm.typeIs, fun b q => by cases q; obtain ⟨ob, _, _, e1, e2, _⟩ := hm; exact ⟨ob, e1, e2.2.1⟩⟩
        | lT od u kvs =>
          obtain ⟨xs, ⟨g1, rfl⟩, g2⟩ := ok
          obtain ⟨us, _, _, _, hm⟩ := dT_open I1 r1 (.inr ⟨od, g1⟩) g2
          exact ⟨hm.typeIs, fun b q => by cases q; obtain ⟨ob, _, _, e1, e2, _⟩ := hm; exact ⟨ob, e1, e2.2.1⟩⟩
        | _ => cases h7
    refine ⟨hty.1, hty.2, ?_⟩
    rw [m.trees]
    have hh2 := fe_two (R := fun y z H2 => ∃ F2, Ex F1 F2 ∧ Rl X S H2 F2 ∧ Rp X.K F2 y _ ∧ Rp X.K F2 z _) h3 h5 r1 (en.mono x1) fun y z H2 F2 x2 r2 p1 p2 => ⟨F2, x2, r2, p1, p2⟩
    refine Calls.callWith_builtin rfl (Calls.evalArgs_plain (Calls.spliced_cons (thn (he.run pins s1 σ H1 _ I1 hh2) fun iv s2 ⟨yv, H2, I2, ry, q2⟩ =>
      Calls.spliced_cons (thn (hf.run pins s2 σ H2 _ I2 q2) fun fv s3 ⟨zv, H3, I3, rz, F3, x3, r3, py, pz⟩ => Calls.spliced_nil ?_))))
    exact q_get2 hu I3 ry rz pz (getV I3 r3 py ry h7) fun v w' s4 I4 rv pv => ⟨v, H3, I4, rv, k v H3 F3 S _ (x1.trans x3) r3 pv q⟩
  | _ => cases h6
end
end KD
set_option Elab.async false
set_option linter.all false
set_option maxRecDepth 100000
set_option maxHeartbeats 4000000
/-! Rules over data: statements, targets, loops. -/
namespace KD
open PySem PySem.Spec PyProof.Rows L2 Evl
section
variable {X : Cx} {F F' : Hp} {H H' : Hp} {S S' : DS} {σ : L2.St} {ρ : Rho} {pos p pos' : Pos} {e f a b c o i value : Expr} {es : List Expr} {st : Stmt} {rest body : List Stmt}
theorem wss_imp {T T' : DTS} (h : WSs X rest T) (j : ∀ E ρ S, T' E ρ S → T E ρ S) : WSs X rest T' := PSs.imp h fun D σ H ⟨F, ρ, S, E, rl, en, t, k⟩ => ⟨F, ρ, S, E, rl, en, j _ _ _ t, k⟩
theorem ws_imp {T T' : DTS} (h : WS X st T) (j : ∀ E ρ S, T' E ρ S → T E ρ S) : WS X st T' := PS.imp h fun D σ H ⟨F, ρ, S, E, rl, en, t, k⟩ => ⟨F, ρ, S, E, rl, en, j _ _ _ t, k⟩
def dNext : DTS := fun E ρ S => E.nx ρ S
def dSeq (T U : DTS) : DTS := fun E ρ S => T { E with nx := U E } ρ S
theorem wss_nil : WSs X [] dNext := PSs.imp pss_nil fun D σ H ⟨F, ρ, S, E, rl, en, t, k⟩ => k.nx σ H F ρ S (Ex.refl F) rl en t
theorem wss_cons {T U : DTS} (h1 : WS X st T) (h2 : WSs X rest U) : WSs X (st :: rest) (dSeq T U) := PSs.imp (pss_cons h1 h2) fun D σ H ⟨F, ρ, S, E, rl, en, t, k⟩ =>
  ⟨F, ρ, S, { E with nx := U E }, rl, en, t, ⟨fun σ' H' F' ρ' S' x r en' u => ⟨F', ρ', S', E, r, en', u, k.mono x⟩, k.rt, k.bk, k.ct⟩⟩
theorem wss_one {T : DTS} (h : WS X st T) : WSs X [st] T := pss_one h
def dNever : DTS := fun _ _ _ => False
theorem ws_never : WS X st dNever := PS.imp ps_never fun D σ H ⟨F, ρ, S, E, rl, en, t, k⟩ => t
theorem wss_never : WSs X rest dNever := PSs.imp pss_never fun D σ H ⟨F, ρ, S, E, rl, en, t, k⟩ => t
def dBreak : DTS := fun E ρ S => E.bk ρ S
def dCont : DTS := fun E ρ S => E.ct ρ S
theorem ws_pass : WS X (.Pass pos) dNext := PS.imp ps_pass fun D σ H ⟨F, ρ, S, E, rl, en, t, k⟩ => k.nx σ H F ρ S (Ex.refl F) rl en t
theorem ws_break : WS X (.Break pos) dBreak := PS.imp ps_break fun D σ H ⟨F, ρ, S, E, rl, en, t, k⟩ => k.bk σ H F ρ S (Ex.refl F) rl en t
theorem ws_cont : WS X (.Continue pos) dCont := PS.imp ps_continue fun D σ H ⟨F, ρ, S, E, rl, en, t, k⟩ => k.ct σ H F ρ S (Ex.refl F) rl en t
def dRet (T : DE) : DTS := fun E ρ S => T ρ S E.rt
theorem ws_ret {T : DE} (h : WE X e T) : WS X (.Return (some e) pos) (dRet T) := PS.imp (ps_ret h) fun D σ H ⟨F, ρ, S, E, rl, en, t, k⟩ => ⟨F, ρ, S, E.rt, rl, en, t, k.rt⟩
def dRetN : DTS := fun E _ S => E.rt .non S
theorem ws_retN : WS X (.Return none pos) dRetN := PS.imp ps_retN fun D σ H ⟨F, ρ, S, E, rl, en, t, k⟩ => k.rt .non H F S .non (Ex.refl F) rl .non t
def dDrop (T : DE) : DTS := fun E ρ S => T ρ S fun _ S1 => E.nx ρ S1
theorem ws_expr {T : DE} (h : WE X e T) (hs : swapsWith e none pos.line X.env = pure false := by rfl) : WS X (.Expr e pos) (dDrop T) := PS.imp (ps_expr h hs) fun D σ H ⟨F, ρ, S, E, rl, en, t, k⟩ =>
  ⟨F, ρ, S, _, rl, en, t, fun v H1 F1 S1 d x1 r1 p1 q => k.nx σ H1 F1 ρ S1 x1 r1 (en.mono x1) q⟩
def dIfS (T : DT) (U V' : DTS) : DTS := fun E ρ S => T ρ S fun k S1 => if k = true then U E ρ S1 else V' E ρ S1
theorem ws_if {T : DT} {U V' : DTS} {sa sb : List Stmt} (hc : WT X c T) (ha : WSs X sa U) (hb : WSs X sb V') : WS X (.If c sa sb pos) (dIfS T U V') := PS.imp (ps_if hc ha hb) fun D σ H ⟨F, ρ, S, E, rl, en, t, k⟩ =>
  ⟨F, ρ, S, _, rl, en, t, fun kk H1 F1 S1 x1 r1 q => by
    cases kk with
    | true => exact iteT ⟨F1, ρ, S1, E, r1, en.mono x1, by rwa [if_pos rfl] at q, k.mono x1⟩
    | false => exact iteF ⟨F1, ρ, S1, E, r1, en.mono x1, by rwa [if_neg Bool.false_ne_true] at q, k.mono x1⟩⟩

/-! ### targets -/
abbrev DG := D → Rho → DS → (Rho → DS → Prop) → Prop
abbrev DGs := List D → Rho → DS → (Rho → DS → Prop) → Prop
def gW (X : Cx) (G : DG) : TG := fun v σ H Q => ∃ F ρ S d Q', Rl X S H F ∧ En X F σ ρ ∧ Rp X.K F v d ∧ G d ρ S Q' ∧ KtN X F Q' Q
def gsW (X : Cx) (G : DGs) : TGs := fun vs σ H Q => ∃ F ρ S ds Q', Rl X S H F ∧ En X F σ ρ ∧ RpL X.K F vs ds ∧ G ds ρ S Q' ∧ KtN X F Q' Q
theorem PG.imp {t t' : TG} (h : PG X e t) (j : ∀ v σ H Q, t' v σ H Q → t v σ H Q) : PG X e t' := ⟨fun pins s σ H v u Q I r q => h.run pins s σ H v u Q I r (j _ _ _ _ q)⟩
theorem PGs.imp {t t' : TGs} (h : PGs X es t) (j : ∀ v σ H Q, t' v σ H Q → t v σ H Q) : PGs X es t' := ⟨fun pins s σ H v u Q I r q => h.run pins s σ H v u Q I r (j _ _ _ _ q)⟩
def WG (X : Cx) (e : Expr) (G : DG) : Prop := PG X e (gW X G)
def WGs (X : Cx) (es : List Expr) (G : DGs) : Prop := PGs X es (gsW X G)
def dgName (i : Nat) : DG := fun d ρ S Q => Q (ρ.set i (some d)) S
theorem wg_name {i : Nat} {x : Str} (hN : X.N.Nodup) (hi : X.N[i]? = some x := by rfl) (hx : Loc X.env.scope x := by first | exact Or.inl rfl | exact Or.inr rfl) (hf : X.fn x = true ∨ X.env.scope.names.lookup x = some .local := by first | exact .inl rfl | exact .inr rfl) : WG X (.Name x pos) (dgName i) :=
  PG.imp (pg_name hN hi hx hf) fun v σ H Q ⟨F, ρ, S, d, Q', rl, en, r, g, k⟩ => k (σ.set i (some v)) H F _ S (Ex.refl F) rl (en.set r) g
def dgNil : DGs := fun ds ρ S Q => ds = [] ∧ Q ρ S
def dgCons (G : DG) (U : DGs) : DGs := fun ds ρ S Q => ∃ d r, ds = d :: r ∧ G d ρ S fun ρ' S' => U r ρ' S' Q
theorem wgs_nil : WGs X [] dgNil := PGs.imp pgs_nil fun v σ H Q ⟨F, ρ, S, ds, Q', rl, en, r, ⟨e1, g⟩, k⟩ => by
  subst e1
  cases r
  exact ⟨rfl, k σ H F ρ S (Ex.refl F) rl en g⟩
theorem wgs_cons {G : DG} {U : DGs} (h1 : WG X e G) (h2 : WGs X es U) (hs : (assignEach (e :: es) X.env).map (·.2) = assign e X.env :: (assignEach es X.env).map (·.2) := by rfl) : WGs X (e :: es) (dgCons G U) :=
  PGs.imp (pgs_cons h1 h2 hs) fun vs σ H Q ⟨F, ρ, S, ds, Q', rl, en, r, ⟨d, rd, e1, g⟩, k⟩ => by
    subst e1
    cases r with
    | cons r1 r2 => exact ⟨_, _, rfl, F, ρ, S, d, _, rl, en, r1, g, fun σ' H' F' ρ' S' x r' en' q => ⟨F', ρ', S', rd, Q', r', en', r2.mono x, q, k.mono x⟩⟩
def dgTup (n : Nat) (U : DGs) : DG := fun d ρ S Q => ∃ ds, d = .tup ds ∧ ds.length = n ∧ U ds ρ S Q
theorem wg_tup {k : Nat} {U : DGs} {n : Nat} (hc : X.calm = true) (h : WGs X es U) (hn : (assignEach es X.env).length = n := by rfl) (hst : (assignEach es X.env).findIdx? (·.1) = none := by rfl) : WG X (.Tuple es k pos) (dgTup n U) :=
  PG.imp (pg_tup hc h hn hst) fun v σ H Q ⟨F, ρ, S, d, Q', rl, en, r, ⟨ds, e1, hl, g⟩, k⟩ => by
    subst e1
    cases r with
    | tup hs hr => exact ⟨_, _, rfl, ex_t rl.sub hs, by rw [hr.length]; exact hl, F, ρ, S, ds, Q', rl, en, hr, g, k⟩
/-- a, b, .. = a list of that length -/
def dgLst (n : Nat) (U : DGs) : DG := fun d ρ S Q => ∃ ds, lstOf S d = some ds ∧ ds.length = n ∧ U ds ρ S Q
theorem wg_lst {k : Nat} {U : DGs} {n : Nat} (hc : X.calm = true) (h : WGs X es U) (hn : (assignEach es X.env).length = n := by rfl) (hst : (assignEach es X.env).findIdx? (·.1) = none := by rfl) : WG X (.Tuple es k pos) (dgLst n U) :=
  PG.imp (pg_unl hc h hn hst) fun v σ H Q ⟨F, ρ, S, d, Q', rl, en, r, ⟨ds, e1, hl, g⟩, k⟩ => by
    obtain ⟨a, vs, rfl, hs, hr⟩ := lstOf_ok rl r e1
    exact ⟨a, vs, rfl, hs, by rw [hr.length]; exact hl, F, ρ, S, ds, Q', rl, en, hr, g, k⟩
def dAsg (T : DE) (G : DG) : DTS := fun E ρ S => T ρ S fun d S1 => G d ρ S1 E.nx
theorem ws_asg {T : DE} {G : DG} (he : WE X e T) (hg : WG X a G) (hs : swapsWithSole [a] e pos.line X.env = pure false := by rfl) (hw : swappedStores [a] e X.env = pure none := by rfl)
    (h1 : (assignEach [a] X.env).map (·.2) = [assign a X.env] := by rfl) : WS X (.Assign [a] e pos) (dAsg T G) := PS.imp (ps_asg he hg hs hw h1) fun D σ H ⟨F, ρ, S, E, rl, en, t, k⟩ =>
  ⟨F, ρ, S, _, rl, en, t, fun v H1 F1 S1 d x1 r1 p1 q => ⟨F1, ρ, S1, d, E.nx, r1, en.mono x1, p1, q, k.nx.mono x1⟩⟩
/-- x = e, x a name -/
theorem ws_set {i : Nat} {x : Str} {T : DE} (hN : X.N.Nodup) (he : WE X e T) (hi : X.N[i]? = some x := by rfl) (hx : Loc X.env.scope x := by first | exact Or.inl rfl | exact Or.inr rfl) (hs : swapsWith e (some (.Name x pos')) pos.line X.env = pure false := by rfl)
    (hf : X.fn x = true ∨ X.env.scope.names.lookup x = some .local := by first | exact .inl rfl | exact .inr rfl) : WS X (.Assign [.Name x pos'] e pos) (dAsg T (dgName i)) := PS.imp (ps_set hN hi hx he hs hf) fun D σ H ⟨F, ρ, S, E, rl, en, t, k⟩ =>
  ⟨F, ρ, S, _, rl, en, t, fun v H1 F1 S1 d x1 r1 p1 q => k.nx (σ.set i (some v)) H1 F1 _ S1 x1 r1 ((en.mono x1).set p1) q⟩
/-- a, b = e1, e2 -/
def dPar (i j : Nat) (U : DA) : DTS := fun E ρ S => U ρ S fun ds S1 => ∃ v w, ds = [v, w] ∧ E.nx ((ρ.set i (some v)).set j (some w)) S1
theorem ws_par {i j : Nat} {x y : Str} {U : DA} {px py pt : Pos} {kt k2 pt2} (hc : X.calm = true) (hN : X.N.Nodup) (hi : X.N[i]? = some x) (hj : X.N[j]? = some y) (hij : i ≠ j)
    (hx : X.env.scope.names.lookup x = some .local) (hy : X.env.scope.names.lookup y = some .local) (ha : WA X [a, b] U)
    (hw : swappedStores [.Tuple [.Name x px, .Name y py] kt pt] (.Tuple [a, b] k2 pt2) X.env = pure (some [x, y]))
    (hs : swapsWithSole [.Tuple [.Name x px, .Name y py] kt pt] (.Tuple [a, b] k2 pt2) pos.line X.env = pure false := by rfl) :
    WS X (.Assign [.Tuple [.Name x px, .Name y py] kt pt] (.Tuple [a, b] k2 pt2) pos) (dPar i j U) := PS.imp (ps_par hc hN hi hj hij hx hy ha hw hs) fun D σ H ⟨F, ρ, S, E, rl, en, t, k⟩ =>
  ⟨F, ρ, S, _, rl, en, t, fun vs H1 F1 S1 ds x1 r1 p1 ⟨d1, d2, e1, q⟩ => by
    subst e1
    obtain ⟨x, y, rfl, h1, h2⟩ := p1.two
    exact ⟨x, y, rfl, k.nx _ H1 F1 _ S1 x1 r1 (((en.mono x1).set h1).set h2) q⟩⟩
/-- o.f = e -/
def putFD (f : Str) (v : D) : List (Str × D) → List (Str × D)
  | [] => [(f, v)]
  | (g, x) :: fs => if g = f then (g, v) :: fs else (g, x) :: putFD f v fs
theorem putF_ok {K : PySem.W.Frag} {f : Str} {v : V} {d : D} (h : Rp K F v d) : ∀ {fs : List (Str × D)} {gs : List (Str × V)}, Paired (fun (p : Str × D) (q : Str × V) => p.1 = q.1 ∧ Rp K F q.2 p.2) fs gs →
    Paired (fun (p : Str × D) (q : Str × V) => p.1 = q.1 ∧ Rp K F q.2 p.2) (putFD f d fs) (putF f v gs)
  | _, _, .nil => .cons ⟨rfl, h⟩ .nil
  | p :: fs, q :: gs, .cons r t => by
    obtain ⟨p1, p2⟩ := p
    obtain ⟨q1, q2⟩ := q
    obtain ⟨h1, h2⟩ := r
    simp only at h1 h2
    subst h1
    show Paired (fun (p : Str × D) (q : Str × V) => p.1 = q.1 ∧ Rp K F q.2 p.2) (if p1 = f then (p1, d) :: fs else (p1, p2) :: putFD f d fs) (if p1 = f then (p1, v) :: gs else (p1, q2) :: putF f v gs)
    by_cases e : p1 = f
    · rw [if_pos e, if_pos e]; exact .cons ⟨rfl, h⟩ t
    · rw [if_neg e, if_neg e]; exact .cons ⟨rfl, h2⟩ (putF_ok h t)
def dFldPut (C : Addr) (f : Str) (α : EF) (T : DE) : DTS := fun E ρ S => T ρ S fun d S1 => ∃ a fs, α ρ S1 = some (.ref a) ∧ S1 a = some (.ins C fs) ∧ fs.length < 1000 ∧ E.nx ρ (put S1 a (.ins C (putFD f d fs)))
theorem ws_fld {C : Addr} {f : Str} {α : EF} {T : DE} (hc : Cls X.K C) (hn : NoAttr X.K C f) (ho : FE X o α) (hv : WE X value T) (hs : swapsWith value (some (.Attribute o f pos')) pos.line X.env = pure false := by rfl) : WS X (.Assign [.Attribute o f pos'] value pos) (dFldPut C f α T) :=
  PS.imp (ps_fld ho hv hs) fun D σ H ⟨F, ρ, S, E, rl, en, t, k⟩ => ⟨F, ρ, S, _, rl, en, t, fun v H1 F1 S1 d x1 r1 p1 ⟨a, fs, h1, h2, hl, q⟩ =>
    ⟨F1, ρ, S1, fun d2 S2 => d2 = .ref a ∧ S2 = S1, r1, en.mono x1, ⟨_, h1, rfl, rfl⟩, fun v2 H2 F2 S2 d2 x2 r2 p2 e12 => by
      obtain ⟨e1, e2⟩ := e12
      subst e1 e2
      cases p2
      obtain ⟨_, dx, gs, h4, h5⟩ := r2.cell a _ h2
      refine ⟨a, C, dx, gs, rfl, h4, hc, hn, by rw [← pairedLen h5]; exact hl, ?_⟩
      exact k.nx σ _ F2 ρ _ (x1.trans x2) (r2.write (c' := .ins C (putFD f d fs)) h2 ⟨dx, _, upd_same, putF_ok (p1.mono x2) h5⟩) ((en.mono x1).mono x2) q⟩⟩
/-- xs[i] = e -/
def setLst (x y d : D) (S : DS) (Q : DS → Prop) : Prop := ∃ a k ds j, x = .ref a ∧ y = .int k ∧ S a = some (.lst ds) ∧ ixN ds.length k = some j ∧ Q (put S a (.lst (ds.set j d)))
def dgSub (T U : DE) : DG := fun d ρ S Q => T ρ S fun x S1 => U ρ S1 fun y S2 => setLst x y d S2 fun S3 => Q ρ S3
theorem wg_subL {T U : DE} (ho : WE X o T) (hi : WE X i U) (ha : ∀ v, assign (.Subscript o i pos) X.env v = (do
      let ov ← holding [v] (eval o X.env)
      let iv ← holding [v, ov] (eval i X.env)
      standAt pos
      holding [v, ov, iv] (setItem ov iv v)
      release [v, ov, iv] []) := by intro _; rfl) : WG X (.Subscript o i pos) (dgSub T U) := PG.imp (pg_sub ho hi set_list ha) fun v σ H Q ⟨F, ρ, S, d, Q', rl, en, r, g, k⟩ =>
  ⟨F, ρ, S, _, rl, en, g, fun x H1 F1 S1 dx x1 r1 p1 q1 => ⟨F1, ρ, S1, _, r1, en.mono x1, q1, fun y H2 F2 S2 dy x2 r2 p2 ⟨a, kk, ds, j, e1, e2, e3, e4, q⟩ => by
    subst e1 e2
    cases p1
    cases p2
    obtain ⟨_, vs, h1, h2⟩ := r2.cell a _ e3
    refine ⟨a, vs, kk, j, rfl, rfl, h1, by rw [h2.length]; exact e4, ?_⟩
    exact k σ _ F2 ρ _ (x1.trans x2) (r2.write (c' := .lst (ds.set j d)) e3 ⟨_, upd_same, h2.set ((r.mono x1).mono x2) j⟩) ((en.mono x1).mono x2) q⟩⟩
/-- d[k] = e -/
def putD (S : DS) (ad : Addr) (key v : D) : Option DS := match S ad with
  | some (.dS kvs) => key.sk.bind fun x => if kvs.length < 1000000 then some (put S ad (.dS (putS x v kvs))) else none
  | some (.dT kvs) => key.key.bind fun k => if kvs.length < 1000000 then some (put S ad (.dT (putT key k v kvs))) else none
  | _ => none
theorem putS_ok {K : PySem.W.Frag} {x : Str} {v : V} {d : D} (h : Rp K F v d) {kvs : List (Str × D)} {gs : List (Key × V)} (t : PS1 K F kvs gs) : PS1 K F (putS x d kvs) (putK gs (Sum.inr x) v) := by
  have e : (kvs.any fun p => decide (p.1 = x)) = gs.any fun q => decide (q.1 = (Sum.inr x : Key)) := by
    clear h
    induction t with
    | nil => rfl
    | cons r t ih =>
      rw [List.any_cons, List.any_cons, ih, r.1]
      congr 1
      rw [decide_eq_decide]
      exact ⟨fun z => by rw [z], fun z => Sum.inr.inj z⟩
  unfold putS putK
  rw [e]
  by_cases ha : (gs.any fun q => decide (q.1 = (Sum.inr x : Key))) = true
  · rw [if_pos ha, if_pos ha]
    refine pairedMap (fun p q r => ?_) t
    by_cases hp : p.1 = x
    · rw [if_pos hp, if_pos (by rw [r.1, hp])]; exact ⟨r.1, h⟩
    · rw [if_neg hp, if_neg (by rw [r.1]; intro z; exact hp (Sum.inr.inj z))]; exact r
  · rw [if_neg ha, if_neg ha]
    exact pairedApp t (.cons ⟨rfl, h⟩ .nil)
def putX (xs : List (NestedKey × Addr × V)) (k : NestedKey) (b : Addr) (v : V) (there : Bool) : List (NestedKey × Addr × V) := if there = true then xs.map fun p => if p.1 = k then (p.1, p.2.1, v) else p else xs ++ [(k, b, v)]
theorem q_setItem {pins : List (Addr × Obj)} {s : Shared} {ad : Addr} {y v : V} {u r : Value} {key d : D} {S2 : DS} {Q : Unit → Shared → Prop} {E : Value → Shared → Prop} (hu : X.A.units + 64 < cLine) (I : Inv X pins σ H s) (rl : Rl X S H F) (ry : Rp X.K F y key) (ru : RelV y u) (rv : Rp X.K F v d) (rr : RelV v r)
    (hp : putD S ad key d = some S2) (h : ∀ s' H', Inv X pins σ H' s' → Rl X S2 H' F → Q () s') : wpAny (model X.prog X.w) X.A (setItem (.ref ad) u r) Q E s := by
  unfold putD at hp
  cases q : S ad with
  | none => rw [q] at hp; cases hp
  | some c =>
    rw [q] at hp
    obtain ⟨hF, ok⟩ := rl.cell ad c q
    cases c with
    | dS kvs =>
      obtain ⟨x, h1, h2⟩ := Option.bind_eq_some_iff.mp hp
      obtain ⟨hl, rfl⟩ := if_some h2
      obtain ⟨gs, g1, g2⟩ := ok
      cases key with
      | str z =>
        obtain rfl : z = x := Option.some.inj h1
        cases ry
        refine d_setItem (by omega) I (DPut.k (k := Sum.inr z) g1 (by rw [← pairedLen g2]; exact Nat.lt_of_lt_of_le hl (by rw [sizeLine_eq]; decide))) ru rr fun s' I' => h s' _ I' (rl.write (c' := .dS (putS z d kvs)) q ⟨_, upd_same, putS_ok rv g2⟩)
      | _ => cases h1
    | dT kvs =>
      obtain ⟨k, h1, h2⟩ := Option.bind_eq_some_iff.mp hp
      obtain ⟨hl, rfl⟩ := if_some h2
      obtain ⟨xs, g1, g2⟩ := ok
      obtain ⟨us, t2, hz, hd, hm⟩ := dT_open I rl (.inl g1) g2
      obtain ⟨b, e1, e2, hi⟩ := key_is I rl ry ru h1
      subst e1 e2
      obtain ⟨f1, f2⟩ := findT_ok k g2 t2
      have hthere : (findT k kvs).isSome = (atKey us k).isSome := by
        cases z : findT k kvs with
        | none => rw [f2 z]; rfl
        | some dd => obtain ⟨p, _, e, _⟩ := f1 dd z; rw [e]; rfl
      have hlx : xs.length < 1000000 := by rw [← pairedLen g2]; exact hl
      have hlu : us.length = xs.length := (pairedLen t2).symm
      refine wpAny_setItem_heap (room8 hu _ _) hi hm (fun h' hm' hs => ?_) (by rw [hlu]; exact hz)
      -- the new table
      have n1 : PT1 X.K F (putT key k d kvs) (putX xs k b v (findT k kvs).isSome) := by
        unfold putT putX
        by_cases ha : (findT k kvs).isSome = true
        · rw [if_pos ha, if_pos ha]
          refine pairedMap (fun p q r => ?_) g2
          by_cases hp : q.1 = k
          · rw [if_pos (by rw [r.1, hp]), if_pos hp]; exact ⟨r.1, r.2.1, rv⟩
          · rw [if_neg (by rw [r.1]; intro z; exact hp (Option.some.inj z)), if_neg hp]; exact r
        · rw [if_neg ha, if_neg ha]
          exact pairedApp g2 (.cons ⟨h1, ry, rv⟩ .nil)
      have n2 : PT2 (putX xs k b v (findT k kvs).isSome) (storedH us k b r) := by
        unfold putX storedH
        rw [hthere]
        by_cases ha : (atKey us k).isSome = true
        · rw [if_pos ha, if_pos ha]
          refine pairedMap (fun p q r' => ?_) t2
          unfold putAt
          by_cases hp : p.1 = k
          · rw [if_pos hp, if_pos (by rw [← r'.1, hp])]; exact ⟨r'.1, r'.2.1, rr⟩
          · rw [if_neg hp, if_neg (by rw [← r'.1]; exact hp)]; exact r'
        · rw [if_neg ha, if_neg ha]
          exact pairedApp t2 (.cons ⟨rfl, rfl, rr⟩ .nil)
      have hlen : (putX xs k b v (findT k kvs).isSome).length ≤ xs.length + 1 := by
        unfold putX
        split
        · rw [List.length_map]; omega
        · rw [List.length_append]; simp
      have phi : DTphi X.prog X.w ad (putX xs k b v (findT k kvs).isSome) h' := by
        obtain ⟨o, es, ep, q1, q2, q3, q4, _, q6⟩ := hm'
        exact ⟨Nat.le_trans hlen (by rw [sizeLine_eq]; omega), hd, by rw [pt2_keys n2]; exact q6, _, o, es, ep, n2, q1, q2, q3, q4⟩
      have hthere2 : ∃ q, h'.get? ad = some q := let ⟨o, _, _, q1, _⟩ := hm'; ⟨o, q1⟩
      exact h _ _ (d_write (ob := .ext (DTphi X.prog X.w ad (putX xs k b v (findT k kvs).isSome))) I (by rw [g1]; exact True.intro) hs hthere2 (ext_ok phi)) (rl.write (c' := .dT (putT key k d kvs)) q ⟨_, upd_same, n1⟩)
    | _ => cases hp
def dDput (T U V' : DE) : DTS := fun E ρ S => V' ρ S fun d S1 => T ρ S1 fun x S2 => U ρ S2 fun y S3 => ∃ ad S4, x = .ref ad ∧ putD S3 ad y d = some S4 ∧ E.nx ρ S4
theorem ws_dput {T U V' : DE} (hu : X.A.units + 64 < cLine) (ho : WE X o T) (hi : WE X i U) (hv : WE X value V') (hs : swapsWith value (some (.Subscript o i pos')) pos.line X.env = pure false := by rfl) : WS X (.Assign [.Subscript o i pos'] value pos) (dDput T U V') := by
  refine ⟨fun pins s σ H D I ⟨F, ρ, S, E, rl, en, t, k⟩ => ?_⟩
  have hh : tW X V' σ H fun v H1 => tW X T σ H1 fun x H2 => tW X U σ H2 fun y H3 => ∃ F3 S3 S4 ad dy d, Ex F F3 ∧ Rl X S3 H3 F3 ∧ x = .ref ad ∧ Rp X.K F3 y dy ∧ Rp X.K F3 v d ∧ putD S3 ad dy d = some S4 ∧ E.nx ρ S4 :=
    ⟨F, ρ, S, _, rl, en, t, fun v H1 F1 S1 d x1 r1 p1 q1 => ⟨F1, ρ, S1, _, r1, en.mono x1, q1, fun x H2 F2 S2 dx x2 r2 p2 q2 => ⟨F2, ρ, S2, _, r2, (en.mono x1).mono x2, q2, fun y H3 F3 S3 dy x3 r3 p3 ⟨ad, S4, e1, e2, q⟩ =>
      ⟨F3, S3, S4, ad, dy, d, (x1.trans x2).trans x3, r3, by subst e1; cases p2; rfl, p3, (p1.mono x2).mono x3, e2, q⟩⟩⟩⟩
  refine wpAny_Assign_Subscript (thn (hv.run pins s σ H _ I hh) fun r s1 ⟨v, H1, I1, rv, q1⟩ => thn (ho.run pins s1 σ H1 _ I1 q1) fun u s2 ⟨x, H2, I2, rx, q2⟩ => thn (hi.run pins s2 σ H2 _ I2 q2) fun iv s3 ⟨y, H3, I3, ry, F3, S3, S4, ad, dy, d, x3, r3, ex, py, pv, ep, q⟩ => ?_) hs
  subst ex
  obtain rfl : u = Value.ref ad := rx
  exact q_setItem hu I3 r3 py ry pv rv ep fun s4 H4 I4 r4 => ⟨σ, H4, I4, k.nx σ H4 F3 ρ S4 x3 r4 (en.mono x3) q⟩
/-- {} -/
def dNewS : DE := fun _ S Q => ∀ p, S p = none → Q (.ref p) (put S p (.dS []))
def dNewT : DE := fun _ S Q => ∀ p, S p = none → Q (.ref p) (put S p (.dT []))
theorem we_newS : WE X (.Dict [] [] pos) dNewS := PE.imp pe_dnewK fun σ H Q ⟨F, ρ, S, Q', rl, en, t, k⟩ p hp =>
  k (.ref p) _ F _ _ (Ex.refl F) (rl.fresh (c := .dS []) (o := .dK []) hp ⟨[], upd_same, .nil⟩) (.ref p) (t p (rl.free hp).1)
theorem we_newT : WE X (.Dict [] [] pos) dNewT := ⟨fun pins s σ H Q I ⟨F, ρ, S, Q', rl, en, t, k⟩ => by
  refine wpAny_Dict_empty ?_
  have hp := I.hok.fresh (Nat.le_refl s.heap.objs.size)
  have phi : DTphi X.prog X.w s.heap.objs.size [] (s.heap.push { cls := .type "dict", data := .dict #[] }) :=
    ⟨Nat.zero_le _, beq_eq_false_iff_ne.mpr (Ne.symm (Nat.ne_of_lt I.big)), List.nodup_nil, [], _, #[], 0, .nil, Heap.get?_push_size _ rfl, ⟨rfl, rfl, rfl⟩, rfl, rfl⟩
  exact ⟨.ref s.heap.objs.size, _, I.laid (a := s.heap.objs.size) (o := .ext (DTphi X.prog X.w s.heap.objs.size [])) (t' := s.toks) (fun _ _ q => Heap.get?_push_of_some _ q) (Nat.le_refl _) (ext_ok phi), rfl,
    k (.ref _) _ F _ _ (Ex.refl F) (rl.fresh (c := .dT []) hp ⟨[], upd_same, .nil⟩) (.ref _) (t _ (rl.free hp).1)⟩⟩
end
end KD
set_option Elab.async false
set_option linter.all false
set_option maxRecDepth 100000
set_option maxHeartbeats 4000000
/-! Rules over data: what is walked, for, while. -/
namespace KD
open PySem PySem.Spec PyProof.Rows L2 Evl
section
variable {X : Cx} {F F' : Hp} {H H' : Hp} {S S' : DS} {σ : L2.St} {ρ : Rho} {pos p pos' : Pos} {e f a b c o i value tg iter : Expr} {es : List Expr} {st : Stmt} {rest body : List Stmt}
/-- what J walks, told of data: these items, while G holds of the cells -/
structure DWalk (X : Cx) (J : It) (G : DS → Prop) (F0 : Hp) (items : List D) : Prop where
  go : ∀ i S H F, Ex F0 F → Rl X S H F → G S → i < items.length → J.go i H
  stop : ∀ S H F, Ex F0 F → Rl X S H F → G S → J.stop items.length H
  yld : ∀ i S H F x H', Ex F0 F → Rl X S H F → G S → i < items.length → J.yld i H x H' → ∃ F' d, Ex F F' ∧ Rl X S H' F' ∧ items[i]? = some d ∧ Rp X.K F' x d
abbrev IQ := List D → (DS → Prop) → DS → Prop
abbrev DI := Rho → DS → IQ → Prop
def iW (X : Cx) (T : DI) : TI := fun σ H R => ∃ F ρ S Q', Rl X S H F ∧ En X F σ ρ ∧ T ρ S Q' ∧ ∀ J H' F' S' items G, Ex F F' → Rl X S' H' F' → DWalk X J G F' items → Q' items G S' → R J H'
def WI (X : Cx) (tg iter : Expr) (T : DI) : Prop := PI X tg iter (iW X T)
theorem PI.imp {w w' : TI} (h : PI X tg iter w) (j : ∀ σ H R, w' σ H R → w σ H R) : PI X tg iter w' := ⟨fun pins s σ H R I q => h.run pins s σ H R I (j σ H R q)⟩
theorem wi_imp {T T' : DI} (h : WI X tg iter T) (j : ∀ ρ S Q, T' ρ S Q → T ρ S Q) : WI X tg iter T' := PI.imp h fun σ H Q ⟨F, ρ, S, Q', rl, en, t, k⟩ => ⟨F, ρ, S, Q', rl, en, j _ _ _ t, k⟩
theorem RpL.lt_get {K : PySem.W.Frag} {F : Hp} {vs : List V} {ds : List D} {i : Nat} (r : RpL K F vs ds) (h : i < ds.length) : ∃ v d, vs[i]? = some v ∧ ds[i]? = some d ∧ Rp K F v d := by
  have e : ds[i]? = some ds[i] := List.getElem?_eq_getElem h
  obtain ⟨v, h1, h2⟩ := r.get e
  exact ⟨v, _, h1, e, h2⟩
theorem walkL {ad : Addr} {ds : List D} (G : DS → Prop) {F0 : Hp} (h : ∀ S H F, Ex F0 F → Rl X S H F → G S → ∃ vs, SqL X.K H ad vs ∧ RpL X.K F vs ds) : DWalk X (Itl X.K ad) G F0 ds :=
  ⟨fun i S H F x rl g hi => by
    obtain ⟨vs, hq, r⟩ := h S H F x rl g
    obtain ⟨v, d, h1, _, _⟩ := r.lt_get hi
    exact ⟨vs, v, hq, h1⟩,
  fun S H F x rl g => by
    obtain ⟨vs, hq, r⟩ := h S H F x rl g
    exact ⟨vs, hq, by rw [r.length]; exact Nat.le_refl _⟩,
  fun i S H F v H' x rl g hi ⟨e, y⟩ => by
    subst e
    obtain ⟨vs, hq, r⟩ := h S _ F x rl g
    obtain ⟨d, h1, h2⟩ := r.get' (y vs hq)
    exact ⟨F, d, Ex.refl F, rl, h1, h2⟩⟩
theorem walkT {ad : Addr} {ds : List D} (G : DS → Prop) {F0 : Hp} (h : ∀ S H F, Ex F0 F → Rl X S H F → G S → ∃ vs, SqT X.K H ad vs ∧ RpL X.K F vs ds) : DWalk X (Itt X.K ad) G F0 ds :=
  ⟨fun i S H F x rl g hi => by
    obtain ⟨vs, hq, r⟩ := h S H F x rl g
    obtain ⟨v, d, h1, _, _⟩ := r.lt_get hi
    exact ⟨vs, v, hq, h1⟩,
  fun S H F x rl g => by
    obtain ⟨vs, hq, r⟩ := h S H F x rl g
    exact ⟨vs, hq, by rw [r.length]; exact Nat.le_refl _⟩,
  fun i S H F v H' x rl g hi ⟨e, y⟩ => by
    subst e
    obtain ⟨vs, hq, r⟩ := h S _ F x rl g
    obtain ⟨d, h1, h2⟩ := r.get' (y vs hq)
    exact ⟨F, d, Ex.refl F, rl, h1, h2⟩⟩
def GT : DS → Prop := fun _ => True
/-- a tuple -/
def iTupD (T : DE) : DI := fun ρ S Q => T ρ S fun d S1 => ∃ ds, d = .tup ds ∧ Q ds GT S1
theorem wi_tup {T : DE} (h : WE X e T) : WI X tg e (iTupD T) := PI.imp (pi_tup h) fun σ H R ⟨F, ρ, S, Q', rl, en, t, k⟩ =>
  ⟨F, ρ, S, _, rl, en, t, fun v H1 F1 S1 d x1 r1 p1 ⟨ds, e, q⟩ => by
    subst e
    cases p1 with
    | tup hs hr => exact ⟨_, rfl, ⟨_, ex_t r1.sub hs⟩, k _ H1 F1 S1 ds GT x1 r1 (walkT GT fun S H F x rl _ => ⟨_, ex_t rl.sub (ex_t x hs), hr.mono x⟩) q⟩⟩
/-- a list: settled, or a cell that the loop leaves as it is -/
def Keeps (d : D) (ds : List D) : DS → Prop := fun S => match d with
  | .ref a => S a = some (.lst ds)
  | _ => True
theorem lstOf_keeps {d : D} {ds : List D} (h : lstOf S d = some ds) : Keeps d ds S := by
  cases d with
  | ref a =>
    show S a = some (.lst ds)
    simp only [lstOf] at h
    cases q : S a with
    | none => rw [q] at h; cases h
    | some c =>
      rw [q] at h
      cases c with
      | lst xs => cases h; rfl
      | _ => cases h
  | _ => exact True.intro
theorem keeps_lstOf {d : D} {ds : List D} (h : lstOf S d = some ds) (k : Keeps d ds S') : lstOf S' d = some ds := by
  cases d with
  | ref a =>
    have k' : S' a = some (.lst ds) := k
    simp only [lstOf, k']
  | lst xs => exact h
  | _ => cases h
def iLstD (T : DE) : DI := fun ρ S Q => T ρ S fun d S1 => ∃ ds, lstOf S1 d = some ds ∧ Q ds (Keeps d ds) S1
theorem wi_lst {T : DE} (h : WE X e T) : WI X tg e (iLstD T) := PI.imp (pi_list h) fun σ H R ⟨F, ρ, S, Q', rl, en, t, k⟩ =>
  ⟨F, ρ, S, _, rl, en, t, fun v H1 F1 S1 d x1 r1 p1 ⟨ds, e, q⟩ => by
    obtain ⟨ad, vs, rfl, hs, hr⟩ := lstOf_ok r1 p1 e
    refine ⟨ad, rfl, ⟨_, hs⟩, k _ H1 F1 S1 ds _ x1 r1 (walkL _ fun S H F x rl g => ?_) q⟩
    obtain ⟨ad2, vs2, e2, h2, h3⟩ := lstOf_ok rl (p1.mono x) (keeps_lstOf e g)
    cases e2
    exact ⟨vs2, h2, h3⟩⟩
/-- a tuple or a settled list or a cell of a list, as the value shows -/
def iSeqD (T : DE) : DI := fun ρ S Q => T ρ S fun d S1 => ∃ ds, seqOf S1 d = some ds ∧ Q ds (Keeps d ds) S1

/-- range -/
def rngD (lo : Int) (n : Nat) : List D := (List.range n).map fun i => .int (lo + (i : Nat))
theorem walkR {lo : Int} {n : Nat} (G : DS → Prop) {F0 : Hp} : DWalk X (Itr lo n) G F0 (rngD lo n) :=
  ⟨fun i S H F x rl g hi => by unfold rngD at hi; rw [List.length_map, List.length_range] at hi; exact hi,
  fun S H F x rl g => by unfold rngD; rw [List.length_map, List.length_range]; exact Nat.le_refl _,
  fun i S H F v H' x rl g hi ⟨e, y⟩ => by
    subst e y
    have hi : i < n := by unfold rngD at hi; rw [List.length_map, List.length_range] at hi; exact hi
    exact ⟨F, .int (lo + i), Ex.refl F, rl, by unfold rngD; rw [List.getElem?_map, List.getElem?_range hi]; rfl, .int _⟩⟩
def iRng (U : DA) : DI := fun ρ S Q => U ρ S fun ds S1 => ∃ j : Int, ds = [.int j] ∧ -(2 ^ 62) ≤ j ∧ j < 2 ^ 62 ∧ Q (rngD 0 j.toNat) GT S1
theorem wi_rng {U : DA} (hg : Gl X "range") (hm : X.mg "range" = none) (ha : WA X [a] U) (hs : starEach [a] X.env = [(false, eval a X.env)] := by rfl) : WI X tg (.Call (.Name "range" p) [a] [] pos) (iRng U) := PI.imp (pi_range1 hg hm ha hs) fun σ H R ⟨F, ρ, S, Q', rl, en, t, k⟩ =>
  ⟨F, ρ, S, _, rl, en, t, fun vs H1 F1 S1 ds x1 r1 p1 ⟨j, e, h1, h2, q⟩ => by
    subst e
    obtain ⟨v, rfl, hv⟩ := p1.one
    cases hv
    exact ⟨j, rfl, h1, h2, k _ H1 F1 S1 _ GT x1 r1 (walkR GT) q⟩⟩
/-- a text, sign by sign -/
def signs (z : Str) : List D := z.cps.toList.map fun c => .str ⟨#[c]⟩
theorem walkS {z : Str} (G : DS → Prop) {F0 : Hp} : DWalk X (Its z) G F0 (signs z) :=
  ⟨fun i S H F x rl g hi => by unfold signs at hi; rw [List.length_map, Array.length_toList] at hi; exact hi,
  fun S H F x rl g => by unfold signs; rw [List.length_map, Array.length_toList]; exact Nat.le_refl _,
  fun i S H F v H' x rl g hi ⟨e, cc, y1, y2⟩ => by
    subst e y2
    exact ⟨F, .str ⟨#[cc]⟩, Ex.refl F, rl, by unfold signs; rw [List.getElem?_map, Array.getElem?_toList, y1]; rfl, .str _⟩⟩
def iStrD (T : DE) : DI := fun ρ S Q => T ρ S fun d S1 => ∃ z, d = .str z ∧ Q (signs z) GT S1
theorem wi_str {T : DE} (h : WE X e T) : WI X tg e (iStrD T) := PI.imp (pi_str h) fun σ H R ⟨F, ρ, S, Q', rl, en, t, k⟩ =>
  ⟨F, ρ, S, _, rl, en, t, fun v H1 F1 S1 d x1 r1 p1 ⟨z, e, q⟩ => by
    subst e
    cases p1
    exact ⟨z, rfl, k _ H1 F1 S1 _ GT x1 r1 (walkS GT) q⟩⟩

/-! ### for, while -/
def dFor (T : DI) (G : DG) (U : DTS) : DTS := fun E ρ S => T ρ S fun items Gk S1 => ∃ Pv : Nat → Rho → DS → Prop, Pv 0 ρ S1 ∧ (∀ i ρ S, i ≤ items.length → Pv i ρ S → Gk S) ∧
  (∀ i d ρ S, items[i]? = some d → Pv i ρ S → G d ρ S fun ρ2 S2 => U { E with nx := Pv (i + 1), ct := Pv (i + 1), bk := E.nx } ρ2 S2) ∧ ∀ ρ S, Pv items.length ρ S → E.nx ρ S
theorem ws_for {T : DI} {G : DG} {U : DTS} (hp : PassesOwn (model X.prog X.w) X.A X.env X.xe) (hc : X.calm = true) (hi : WI X tg iter T) (hg : WG X tg G) (hb : WSs X body U) (hs : ∀ x, foldedSetIterable iter X.env x = pure x := by intro _; rfl) :
    WS X (.For tg iter body [] pos) (dFor T G U) := PS.imp (ps_for hp hc hi hg hb hs) fun Ds σ H ⟨F, ρ, S, E, rl, en, t, k⟩ =>
  ⟨F, ρ, S, _, rl, en, t, fun J H1 F1 S1 items Gk x1 r1 w ⟨Pv, h0, hG, hst, hd⟩ => by
    refine ⟨fun i m σ H => m = items.length - i ∧ i ≤ items.length ∧ ∃ F2 ρ2 S2, Ex F1 F2 ∧ Rl X S2 H F2 ∧ En X F2 σ ρ2 ∧ Pv i ρ2 S2, ⟨items.length, by simp, Nat.zero_le _, F1, ρ, S1, Ex.refl F1, r1, en.mono x1, h0⟩, ?_⟩
    rintro i m σ H ⟨rfl, hi, F2, ρ2, S2, x2, r2, en2, p2⟩
    have g := hG i ρ2 S2 hi p2
    by_cases hlt : i < items.length
    · refine .inr ⟨w.go i S2 H F2 x2 r2 g hlt, fun σ' H' => ∃ F3 ρ3 S3, Ex F1 F3 ∧ Rl X S3 H' F3 ∧ En X F3 σ' ρ3 ∧ Pv (i + 1) ρ3 S3, fun σ' H' z => ⟨items.length - (i + 1), by omega, rfl, hlt, z⟩, fun v H' y => ?_⟩
      obtain ⟨F3, d, x3, r3, e3, p3⟩ := w.yld i S2 H F2 v H' x2 r2 g hlt y
      refine ⟨F3, ρ2, S2, d, _, r3, en2.mono x3, p3, hst i d ρ2 S2 e3 p2, fun σ4 H4 F4 ρ4 S4 x4 r4 en4 q4 => ?_⟩
      refine ⟨F4, ρ4, S4, _, r4, en4, q4, ⟨fun σ5 H5 F5 ρ5 S5 x5 r5 en5 q5 => ?_, ?_, ?_, fun σ5 H5 F5 ρ5 S5 x5 r5 en5 q5 => ?_⟩⟩
      · exact ⟨F5, ρ5, S5, (x2.trans x3).trans (x4.trans x5), r5, en5, q5⟩
      · exact k.rt.mono ((x1.trans x2).trans (x3.trans x4))
      · exact k.nx.mono ((x1.trans x2).trans (x3.trans x4))
      · exact ⟨F5, ρ5, S5, (x2.trans x3).trans (x4.trans x5), r5, en5, q5⟩
    · have e : i = items.length := by omega
      subst e
      exact .inl ⟨w.stop S2 H F2 x2 r2 g, k.nx σ H F2 ρ2 S2 (x1.trans x2) r2 en2 (hd ρ2 S2 p2)⟩⟩
def dWhile (C : DT) (U : DTS) : DTS := fun E ρ S => ∃ Pv : Nat → Rho → DS → Prop, (∃ m, Pv m ρ S) ∧ ∀ m ρ S, Pv m ρ S → C ρ S fun b S1 => if b = true then U { E with nx := fun ρ' S' => ∃ m', m' < m ∧ Pv m' ρ' S', ct := fun ρ' S' => ∃ m', m' < m ∧ Pv m' ρ' S', bk := E.nx } ρ S1 else E.nx ρ S1
theorem ws_while {C : DT} {U : DTS} (hp : PassesOwn (model X.prog X.w) X.A X.env X.xe) (hc : WT X c C) (hb : WSs X body U) : WS X (.While c body [] pos) (dWhile C U) := PS.imp (ps_while hp hc hb) fun Ds σ H ⟨F, ρ, S, E, rl, en, ⟨Pv, ⟨m0, h0⟩, st⟩, k⟩ => by
  refine ⟨fun m σ H => ∃ F2 ρ2 S2, Ex F F2 ∧ Rl X S2 H F2 ∧ En X F2 σ ρ2 ∧ Pv m ρ2 S2, ⟨m0, F, ρ, S, Ex.refl F, rl, en, h0⟩, ?_⟩
  rintro m σ H ⟨F2, ρ2, S2, x2, r2, en2, p2⟩
  refine ⟨F2, ρ2, S2, _, r2, en2, st m ρ2 S2 p2, fun b H3 F3 S3 x3 r3 q => ?_⟩
  cases b with
  | true =>
    rw [if_pos rfl] at q ⊢
    refine ⟨fun σ' H' => ∃ m', m' < m ∧ ∃ F5 ρ5 S5, Ex F F5 ∧ Rl X S5 H' F5 ∧ En X F5 σ' ρ5 ∧ Pv m' ρ5 S5, fun σ' H' z => z, F3, ρ2, S3, _, r3, en2.mono x3, q, ⟨fun σ5 H5 F5 ρ5 S5 x5 r5 en5 ⟨m', hm, q5⟩ => ?_, ?_, ?_, fun σ5 H5 F5 ρ5 S5 x5 r5 en5 ⟨m', hm, q5⟩ => ?_⟩⟩
    · exact ⟨m', hm, F5, ρ5, S5, (x2.trans x3).trans x5, r5, en5, q5⟩
    · exact k.rt.mono (x2.trans x3)
    · exact k.nx.mono (x2.trans x3)
    · exact ⟨m', hm, F5, ρ5, S5, (x2.trans x3).trans x5, r5, en5, q5⟩
  | false =>
    rw [if_neg Bool.false_ne_true] at q ⊢
    exact k.nx σ H3 F3 ρ2 S3 (x2.trans x3) r3 (en2.mono x3) q
end
end KD
set_option Elab.async false
set_option linter.all false
set_option maxRecDepth 100000
set_option maxHeartbeats 4000000
/-! Rules over data: one's own defs, methods, classes. -/
namespace KD
open PySem PySem.Spec PyProof.Rows L2 Evl C8
section
variable {X Y : Cx} {F F' : Hp} {H H' : Hp} {S S' : DS} {σ : L2.St} {ρ : Rho} {pos p pos' apos : Pos} {e f a b c o i value tg iter : Expr} {es : List Expr} {st : Stmt} {rest body : List Stmt}
/-! ### one context for another -/
theorem CellOk.to {ad : Addr} {c : Cell} (h1 : X.prog = Y.prog) (h2 : X.w = Y.w) (h3 : X.K = Y.K) (h : CellOk X F H ad c) : CellOk Y F H ad c := by
  unfold CellOk at h ⊢
  rw [← h1, ← h2, ← h3]
  exact h
theorem Rl.to (h1 : X.prog = Y.prog) (h2 : X.w = Y.w) (h3 : X.K = Y.K) (r : Rl X S H F) : Rl Y S H F := ⟨r.sub, fun ad c e => ⟨(r.cell ad c e).1, (r.cell ad c e).2.to h1 h2 h3⟩⟩
theorem En.to (h3 : X.K = Y.K) (r : En X F σ ρ) : En Y F σ ρ := ⟨r.len, fun i d e => by
  obtain ⟨v, q1, q2⟩ := r.at_ i d e
  exact ⟨v, q1, by rw [← h3]; exact q2⟩⟩
def RlP (P : Program) (w : World) (K : PySem.W.Frag) (S : DS) (H F : Hp) : Prop := ∃ X : Cx, X.prog = P ∧ X.w = w ∧ X.K = K ∧ Rl X S H F
theorem RlP.at_ (r : RlP X.prog X.w X.K S H F) : Rl X S H F := by
  obtain ⟨Z, e1, e2, e3, r⟩ := r
  exact r.to e1 e2 e3
theorem Rl.toP (r : Rl X S H F) : RlP X.prog X.w X.K S H F := ⟨X, rfl, rfl, rfl, r⟩

/-! ### promises -/
abbrev DSp := List D → DS → DQ → Prop
def spOf (P : Program) (w : World) (K : PySem.W.Frag) (n : Nat) (dsp : DSp) : Sp := fun vs H Q _ => ∃ F ds S Q', RpL K F vs ds ∧ RlP P w K S H F ∧ ds.length = n ∧ dsp ds S Q' ∧ ∀ v H' F' S' d, Ex F F' → RlP P w K S' H' F' → Rp K F' v d → Q' d S' → Q v H'
theorem spOf_imp {P : Program} {w : World} {K : PySem.W.Frag} {n : Nat} {dsp dsp' : DSp} (i : ∀ ds S Q, ds.length = n → dsp' ds S Q → dsp ds S Q) {vs : List V} {Q : VK} {E : XK} (h : spOf P w K n dsp' vs H Q E) : spOf P w K n dsp vs H Q E := by
  obtain ⟨F, ds, S, Q', h1, h2, h3, h4, h5⟩ := h
  exact ⟨F, ds, S, Q', h1, h2, h3, i _ _ _ h3 h4, h5⟩
def Le (S2 S1 : DS) : Prop := ∀ ad c, S2 ad = some c → S1 ad = some c
theorem Le.refl (S : DS) : Le S S := fun _ _ h => h
theorem Le.trans {A B C : DS} (h : Le A B) (k : Le B C) : Le A C := fun ad c e => k ad c (h ad c e)
theorem Le.put {ad : Addr} {c : Cell} (h : S ad = none) : Le S (put S ad c) := fun b d e => by
  rw [put_ne (fun z => by rw [z, h] at e; cases e)]; exact e
/-- at a return cells may be forgotten; a list that is returned may settle -/
def RdQ (Q : DQ) : DQ := fun d1 S1 => ∃ S2, Le S2 S1 ∧ (Q d1 S2 ∨ ∃ ad ds, d1 = .ref ad ∧ S2 ad = some (.lst ds) ∧ Q (.lst ds) (forget S2 ad))
theorem RdQ.here {Q : DQ} {d : D} (h : Q d S) : RdQ Q d S := ⟨S, Le.refl S, .inl h⟩
theorem RdQ.le {Q : DQ} {d : D} (h : Q d S) (l : Le S S') : RdQ Q d S' := ⟨S, l, .inl h⟩
theorem kt_rd {Q' : DQ} {Q : VK} (k : Kt X F Q' Q) : Kt X F (RdQ Q') Q := fun v H1 F1 S1 d x1 r1 p1 ⟨S2, l, q⟩ => by
  have r2 := r1.less l
  rcases q with q | ⟨ad, ds, rfl, hs, q⟩
  · exact k v H1 F1 S2 d x1 r2 p1 q
  · obtain ⟨F2, x2, r3, p3⟩ := r2.settle hs
    cases p1
    exact k (.ref ad) H1 F2 _ _ (x1.trans x2) r3 p3 q
def startD (N : List Str) (ds : List D) : Rho := ds.map some ++ List.replicate (N.length - ds.length) none
theorem RpL.getMap {K : PySem.W.Frag} {vs : List V} {ds : List D} (r : RpL K F vs ds) {i : Nat} {d : D} (h : (ds.map some)[i]? = some (some d)) : ∃ v, (vs.map some)[i]? = some (some v) ∧ Rp K F v d := by
  rw [List.getElem?_map] at h
  cases q : ds[i]? with
  | none => rw [q] at h; cases h
  | some z =>
    rw [q] at h
    cases h
    obtain ⟨v, h1, h2⟩ := r.get q
    exact ⟨v, by rw [List.getElem?_map, h1]; rfl, h2⟩
theorem en_start {N : List Str} {vs : List V} {ds : List D} (r : RpL X.K F vs ds) : En X F (L2.start N vs) (startD N ds) := by
  have hl := r.length
  unfold L2.start startD
  refine ⟨by simp [hl], fun i d q => ?_⟩
  by_cases hi : i < ds.length
  · rw [List.getElem?_append_left (by simpa using hi)] at q
    obtain ⟨v, h1, h2⟩ := r.getMap q
    exact ⟨v, by rw [List.getElem?_append_left (by simpa [hl] using hi)]; exact h1, h2⟩
  · rw [List.getElem?_append_right (by simpa using hi), List.getElem?_replicate] at q
    split at q <;> cases q
end
section
variable {P : Program} {w : World} {K : PySem.W.Frag} {mg : Str → Option Value} {base : Heap}
/-- THE RULE of a def: the reading T of its body; what is promised follows from it -/
theorem fn_ok {x qual : Str} {params : Arguments} {body : List Stmt} {scope : Scope} {f : Addr} {fd : FuncData} {N ps : List Str} {k : Nat} {dsp : DSp} (F : FunD K x qual params body scope [] [] f fd) (Sc : FnScope N ps scope)
    (h : ∀ (cdv : Value) (A : Around) (outer : List Env) (s : Shared) (H : Hp) (E : XK), Room k (A.deeper (envOfC qual scope s.heap.objs.size f cdv)) →
      ∃ T : DTS, WSs (cxOf C8.CX0 P w K mg base N qual scope f cdv A outer s H E).nox body T ∧ ∀ ds S Q, ds.length = ps.length → dsp ds S Q → T { nx := fun _ S1 => RdQ Q .non S1, rt := RdQ Q } (startD N ds) S) :
    FnOk P w K mg base C8.CX0 (k + 1) f fd ps (spOf P w K ps.length dsp) := by
  refine F.ok Sc (fun vs H Q E ⟨_, ds, _, _, r, _, hl, _⟩ => by rw [r.length, hl]) (fun cdv A outer s H vs Q E hr hs => ?_)
  obtain ⟨F0, ds, S, Q', r, rl, hl, hd, kt⟩ := hs
  obtain ⟨T, hw, hp⟩ := h cdv A outer s H E hr
  have kk : Kt (cxOf C8.CX0 P w K mg base N qual scope f cdv A outer s H E).nox F0 Q' Q := fun v H' F' S' d x1 r1 p1 q => kt v H' F' S' d x1 r1.toP p1 q
  refine ⟨_, PSs.nox hw, F0, startD N ds, S, _, RlP.at_ (X := (cxOf C8.CX0 P w K mg base N qual scope f cdv A outer s H E).nox) rl, en_start (X := (cxOf C8.CX0 P w K mg base N qual scope f cdv A outer s H E).nox) r, hp ds S Q' hl hd, ?_⟩
  refine ⟨fun σ' H' F' ρ' S' x1 r1 _ q => kt_rd kk .non H' F' S' .non x1 r1 .non q, kt_rd kk, fun σ' H' F' ρ' S' x1 r1 _ q => q, fun σ' H' F' ρ' S' x1 r1 _ q => q⟩
/-- a def of the module under its name, its defaults none -/
def Dn (K : PySem.W.Frag) (mg : Str → Option Value) (x : Str) (st : Stmt) : Prop := ∃ f fd, FunD K x x (defArgs st) (defBody st) (defScope st) [] [] f fd ∧ mg x = some (.ref f)
abbrev BindsAll (x qual : Str) (st : Stmt) (ps : List Str) : Prop := ∀ (kV doc pm : Value) (an : Option Addr) (cdv ct : Value) (us : List Value), us.length = ps.length → bindArgs (PySem.W.fnOf x qual (defArgs st) (defBody st) (defScope st) .none kV doc pm an cdv ct) ⟨us, []⟩ = pure (ps.zip us)
abbrev Has (P : Program) (w : World) (K : PySem.W.Frag) (mg : Str → Option Value) (base : Heap) (k : Nat) (x : Str) (n : Nat) (dsp : DSp) : Prop := Cal P w K mg base k x (spOf P w K n dsp) []
theorem has_ok {x : Str} {st : Stmt} {N ps : List Str} {k : Nat} {dsp : DSp} (dn : Dn K mg x st) (Sc : FnScope N ps (defScope st)) (hb : BindsAll x x st ps)
    (h : ∀ (f : Addr) (cdv : Value) (A : Around) (outer : List Env) (s : Shared) (H : Hp) (E : XK), Room k (A.deeper (envOfC x (defScope st) s.heap.objs.size f cdv)) →
      ∃ T : DTS, WSs (cxOf C8.CX0 P w K mg base N x (defScope st) f cdv A outer s H E).nox (defBody st) T ∧ ∀ ds S Q, ds.length = ps.length → dsp ds S Q → T { nx := fun _ S1 => RdQ Q .non S1, rt := RdQ Q } (startD N ds) S) :
    Has P w K mg base (k + 1) x ps.length dsp := by
  obtain ⟨f, fd, F, hm⟩ := dn
  exact ⟨f, fd, ps, [], fn_ok F Sc (h f), hm, F.kp, F.bindsN hb, .nil⟩
theorem Has.imp {k j n : Nat} {x : Str} {dsp dsp' : DSp} (c : Has P w K mg base k x n dsp) (hk : k ≤ j) (i : ∀ ds S Q, ds.length = n → dsp' ds S Q → dsp ds S Q) : Has P w K mg base j x n dsp' := by
  obtain ⟨f, fd, ps, ds, F, hm, kp, b, d⟩ := c.ex
  exact ⟨f, fd, ps, ds, (F.mono hk).imp fun vs H Q E q => spOf_imp i q, hm, kp, b, d⟩
/-- a method -/
abbrev HasM (P : Program) (w : World) (K : PySem.W.Frag) (mg : Str → Option Value) (base : Heap) (k : Nat) (C : Addr) (m : Str) (n : Nat) (dsp : DSp) : Prop := Met P w K mg base k C m (spOf P w K n dsp) []
theorem hasM_ok {m qual : Str} {C f : Addr} {fd : FuncData} {st : Stmt} {N ps : List Str} {k : Nat} {dsp : DSp} (c : Cls K C) (me : Meth K C m f) (F : FunD K m qual (defArgs st) (defBody st) (defScope st) [] [] f fd) (Sc : FnScope N ps (defScope st)) (hb : BindsAll m qual st ps)
    (h : ∀ (cdv : Value) (A : Around) (outer : List Env) (s : Shared) (H : Hp) (E : XK), Room k (A.deeper (envOfC qual (defScope st) s.heap.objs.size f cdv)) →
      ∃ T : DTS, WSs (cxOf C8.CX0 P w K mg base N qual (defScope st) f cdv A outer s H E).nox (defBody st) T ∧ ∀ ds S Q, ds.length = ps.length → dsp ds S Q → T { nx := fun _ S1 => RdQ Q .non S1, rt := RdQ Q } (startD N ds) S) :
    HasM P w K mg base (k + 1) C m ps.length dsp := ⟨f, fd, ps, [], c, me, fn_ok F Sc h, F.bindsN hb, .nil⟩
/-- a class, made -/
abbrev HasC (P : Program) (w : World) (K : PySem.W.Frag) (mg : Str → Option Value) (base : Heap) (k : Nat) (x : Str) (C : Addr) (n : Nat) (dsp : DSp) : Prop := Mak P w K mg base k x C (spOf P w K n dsp) []
theorem hasC_ok {x qual : Str} {C f : Addr} {fd : FuncData} {st : Stmt} {N ps : List Str} {k : Nat} {dsp : DSp} (M : Mk K C f) (hm : mg x = some (.ref C)) (F : FunD K "__init__" qual (defArgs st) (defBody st) (defScope st) [] [] f fd) (Sc : FnScope N ps (defScope st)) (hb : BindsAll "__init__" qual st ps)
    (h : ∀ (cdv : Value) (A : Around) (outer : List Env) (s : Shared) (H : Hp) (E : XK), Room k (A.deeper (envOfC qual (defScope st) s.heap.objs.size f cdv)) →
      ∃ T : DTS, WSs (cxOf C8.CX0 P w K mg base N qual (defScope st) f cdv A outer s H E).nox (defBody st) T ∧ ∀ ds S Q, ds.length = ps.length → dsp ds S Q → T { nx := fun _ S1 => RdQ Q .non S1, rt := RdQ Q } (startD N ds) S) :
    HasC P w K mg base (k + 1) x C ps.length dsp := ⟨f, fd, ps, [], M, fn_ok F Sc h, hm, F.bindsN hb, .nil⟩
end
section
variable {X : Cx} {F F' : Hp} {H H' : Hp} {S S' : DS} {σ : L2.St} {ρ : Rho} {pos p pos' apos kpos : Pos} {e f a b c o i value tg iter : Expr} {es : List Expr} {st : Stmt} {rest body : List Stmt} {k j n : Nat} {x m : Str} {C : Addr} {dsp : DSp} {T : DE} {U U' : DA}
/-! ### calls -/
theorem sp_go {vs : List V} {Q' : DQ} {Q : VK} {E : XK} {ds : List D} (rl : Rl X S H F) (r : RpL X.K F vs ds) (hl : ds.length = n) (h : dsp ds S Q') (kt : Kt X F Q' Q) : spOf X.prog X.w X.K n dsp vs H Q E :=
  ⟨F, ds, S, Q', r, rl.toP, hl, h, fun v H' F' S' d x1 r1 p1 q => kt v H' F' S' d x1 r1.at_ p1 q⟩
def dCallW (n : Nat) (dsp : DSp) (U : DA) : DE := fun ρ S Q => U ρ S fun ds S1 => ds.length = n ∧ dsp ds S1 Q
theorem we_call (h : Has X.prog X.w X.K X.mg X.base k x n dsp) (hr : Room j X.A) (hk : k ≤ j) (hg : Gl X x) (ha : WA X (e :: es) U)
    (hdb : (x == ("__debug__" : Str)) = false := by decide) (he : starEach (e :: es) X.env = (false, eval e X.env) :: starEach es X.env := by rfl) (hpl : (backTo pos (starEach es X.env)).any (·.1) = false := by rfl) :
    WE X (.Call (.Name x p) (e :: es) [] pos) (dCallW n dsp U) := PE.imp (pe_c h hr hk hg ha hdb he hpl) fun σ H Q ⟨F, ρ, S, Q', rl, en, t, kt⟩ =>
  ⟨F, ρ, S, _, rl, en, t, fun vs H1 F1 S1 ds x1 r1 p1 ⟨hl, q1⟩ => sp_go r1 (by rw [List.append_nil]; exact p1) hl q1 (kt.mono x1)⟩
/-- f(e, .., k = v, ..), the keywords behind in the parameters' order -/
theorem kb_app {K : PySem.W.Frag} {fd : FuncData} {ps ks : List Str} (h : ∀ (s : Shared) (us ws : List Value), K.In s.heap → (us ++ ws).length = ps.length → BindsTo s fd ⟨us, ks.zip ws⟩ (ps.zip (us ++ ws))) : KBinds K fd ps ks (fun us ws => us ++ ws) (fun vs zs => vs ++ zs) :=
  ⟨h, fun r1 r2 => r1.append r2⟩
structure HasK (P : Program) (w : World) (K : PySem.W.Frag) (mg : Str → Option Value) (base : Heap) (k : Nat) (x : Str) (n : Nat) (ks : List Str) (dsp : DSp) : Prop where
  ex : ∃ (f : Addr) (fd : FuncData) (ps : List Str), FnOk P w K mg base C8.CX0 k f fd ps (spOf P w K n dsp) ∧ mg x = some (.ref f) ∧ PySem.W.keepIn K (.ref f) = true ∧ KBinds K fd ps ks (fun us ws => us ++ ws) (fun vs zs => vs ++ zs)
def WK (X : Cx) (kws : List Keyword) (U : DA) : Prop := PK X kws (aW X U)
theorem wk_nil : WK X [] (fun _ S Q => Q [] S) := ⟨fun pos pins s σ H Q I ⟨F, ρ, S, Q', rl, en, t, k⟩ => pk_nil.run pos pins s σ H Q I (k [] H F S [] (Ex.refl F) rl .nil t)⟩
theorem wk_cons {kws : List Keyword} {nm : Option Str} (h : WE X e T) (hr : WK X kws U) : WK X (⟨nm, e, kpos⟩ :: kws) (fun ρ S Q => T ρ S fun d S1 => U ρ S1 fun ds S2 => Q (d :: ds) S2) := ⟨fun pos pins s σ H Q I ⟨F, ρ, S, Q', rl, en, t, k⟩ => (pk_cons h hr).run pos pins s σ H Q I
  ⟨F, ρ, S, _, rl, en, t, fun v H1 F1 S1 d x1 r1 p1 q1 => ⟨F1, ρ, S1, _, r1, en.mono x1, q1, fun vs H2 F2 S2 ds x2 r2 p2 q2 => k (v :: vs) H2 F2 S2 (d :: ds) (x1.trans x2) r2 (.cons (p1.mono x2) p2) q2⟩⟩⟩
theorem we_callK {kws : List Keyword} {ks : List Str} (h : HasK X.prog X.w X.K X.mg X.base k x n ks dsp) (hr : Room j X.A) (hk : k ≤ j) (hg : Gl X x) (ha : WA X (e :: es) U) (hkw : WK X kws U') (hall : (backToKw pos (keywordEach kws X.env)).all (·.1.isSome) = true := by rfl) (hks : (backToKw pos (keywordEach kws X.env)).filterMap (·.1) = ks := by rfl)
    (hdb : (x == ("__debug__" : Str)) = false := by decide) (he : starEach (e :: es) X.env = (false, eval e X.env) :: starEach es X.env := by rfl)
    (hpl : ((backTo pos (starEach (e :: es) X.env)).any (·.1) || (backToKw pos (keywordEach kws X.env)).any (·.1.isNone)) = false := by rfl) :
    WE X (.Call (.Name x p) (e :: es) kws pos) (dCallW n dsp fun ρ S Q => U ρ S fun ds S1 => U' ρ S1 fun zs S2 => Q (ds ++ zs) S2) := by
  obtain ⟨fa, fd, ps, Fn, hm, kp, b⟩ := h.ex
  exact PE.imp (pe_callK (Fn.mono hk) hr hg hm kp b C8.pass0 ha hkw hall hks hdb he hpl) fun σ H Q ⟨F, ρ, S, Q', rl, en, t, kt⟩ =>
    ⟨F, ρ, S, _, rl, en, t, fun vs H1 F1 S1 ds x1 r1 p1 q1 => ⟨F1, ρ, S1, _, r1, en.mono x1, q1, fun zs H2 F2 S2 es2 x2 r2 p2 ⟨hl, q2⟩ => sp_go (E := C8.E0) r2 ((p1.mono x2).append p2) hl q2 (kt.mono (x1.trans x2))⟩⟩
/-- o.m(..) -/
theorem lookup_none {K : PySem.W.Frag} : ∀ {fs : List (Str × D)} {gs : List (Str × V)}, Paired (fun (p : Str × D) (q : Str × V) => p.1 = q.1 ∧ Rp K F q.2 p.2) fs gs → fs.lookup m = none → gs.lookup m = none
  | _, _, .nil, _ => rfl
  | p :: fs, q :: gs, .cons r t, h => by
    obtain ⟨p1, p2⟩ := p
    obtain ⟨q1, q2⟩ := q
    obtain ⟨h1, h2⟩ := r
    simp only at h1 h2
    subst h1
    cases e : m == p1 with
    | true => rw [List.lookup_cons, e] at h; cases h
    | false =>
      rw [List.lookup_cons, e] at h
      rw [List.lookup_cons, e]
      exact lookup_none t h
def dMethW (C : Addr) (m : Str) (n : Nat) (dsp : DSp) (T : DE) (U : DA) : DE := fun ρ S Q => T ρ S fun x S1 => ∃ ad fs, x = .ref ad ∧ S1 ad = some (.ins C fs) ∧ fs.lookup m = none ∧ U ρ S1 fun ds S2 => ds.length + 1 = n ∧ dsp (.ref ad :: ds) S2 Q
theorem we_meth {pl : Sem Bool} (h : HasM X.prog X.w X.K X.mg X.base k C m n dsp) (hr : Room j X.A) (hk : k ≤ j) (ho : WE X o T) (ha : WA X (e :: es) U)
    (hst : starEach (e :: es) X.env = (false, eval e X.env) :: starEach es X.env := by rfl) (hpl : (backTo pos (starEach es X.env)).any (·.1) = false := by rfl)
    (ht : eval (.Call (.Attribute o m apos) (e :: es) [] pos) X.env = (do
      let ov ← eval o X.env
      standAt apos.atName
      let (f, first) ← holding [ov] (getMethod ov m pl)
      callWith pos f first (backTo pos (starEach (e :: es) X.env)) (backToKw pos (keywordEach [] X.env))) := by rfl) :
    WE X (.Call (.Attribute o m apos) (e :: es) [] pos) (dMethW C m n dsp T U) := PE.imp (pe_mt (pl := pl) h hr hk ho ha hst hpl ht) fun σ H Q ⟨F, ρ, S, Q', rl, en, t, kt⟩ =>
  ⟨F, ρ, S, _, rl, en, t, fun v H1 F1 S1 d x1 r1 p1 ⟨ad, fs, ed, hs, hf, q1⟩ => by
    subst ed
    cases p1
    obtain ⟨_, dx, gs, h4, h5⟩ := r1.cell ad _ hs
    exact ⟨ad, dx, gs, rfl, h4, lookup_none h5 hf, F1, ρ, S1, _, r1, en.mono x1, q1, fun vs H2 F2 S2 ds x2 r2 p2 ⟨hl, q2⟩ =>
      sp_go r2 (.cons (.ref ad) (by rw [List.append_nil]; exact p2)) (by rw [List.length_cons]; exact hl) q2 (kt.mono (x1.trans x2))⟩⟩
theorem we_meth0 {pl : Sem Bool} (h : HasM X.prog X.w X.K X.mg X.base k C m n dsp) (hr : Room j X.A) (hk : k ≤ j) (ho : WE X o T)
    (ht : eval (.Call (.Attribute o m apos) [] [] pos) X.env = (do
      let ov ← eval o X.env
      standAt apos.atName
      let (f, first) ← holding [ov] (getMethod ov m pl)
      callWith pos f first (backTo pos (starEach [] X.env)) (backToKw pos (keywordEach [] X.env))) := by rfl) :
    WE X (.Call (.Attribute o m apos) [] [] pos) (dMethW C m n dsp T fun _ S Q => Q [] S) := PE.imp (pe_mt0 (pl := pl) h hr hk ho ht) fun σ H Q ⟨F, ρ, S, Q', rl, en, t, kt⟩ =>
  ⟨F, ρ, S, _, rl, en, t, fun v H1 F1 S1 d x1 r1 p1 ⟨ad, fs, ed, hs, hf, hl, q1⟩ => by
    subst ed
    cases p1
    obtain ⟨_, dx, gs, h4, h5⟩ := r1.cell ad _ hs
    exact ⟨ad, dx, gs, rfl, h4, lookup_none h5 hf, sp_go (E := C8.E0) (ds := [.ref ad]) r1 (.cons (.ref ad) .nil) hl q1 (kt.mono x1)⟩⟩
/-- C(..) -/
theorem Rl.junk {dx : Addr} {ob : HO} (r : Rl X S H F) (h : H dx = none) : Rl X S (upd H dx ob) F := by
  obtain ⟨hS, hF⟩ := r.free h
  refine ⟨fun b u e => ?_, fun b c e => ?_⟩
  · rw [upd_ne (fun z => by rw [z, hF] at e; cases e)]
    exact r.sub b u e
  · obtain ⟨h1, h2⟩ := r.cell b c e
    exact ⟨h1, h2.mono (Ex.refl F) (upd_ne (fun z => by rw [z, hS] at e; cases e))⟩
def dMakeW (C : Addr) (n : Nat) (dsp : DSp) (U : DA) : DE := fun ρ S Q => U ρ S fun ds S1 => ds.length + 1 = n ∧ ∀ ad, S1 ad = none → dsp (.ref ad :: ds) (put S1 ad (.ins C [])) fun d S2 => d = .non ∧ Q (.ref ad) S2
theorem we_make (h : HasC X.prog X.w X.K X.mg X.base k x C n dsp) (hr : Room j X.A) (hk : k + 1 ≤ j) (hg : Gl X x) (ha : WA X (e :: es) U)
    (hdb : (x == ("__debug__" : Str)) = false := by decide) (he : starEach (e :: es) X.env = (false, eval e X.env) :: starEach es X.env := by rfl) (hpl : (backTo pos (starEach es X.env)).any (·.1) = false := by rfl) :
    WE X (.Call (.Name x p) (e :: es) [] pos) (dMakeW C n dsp U) := PE.imp (pe_mk h hr hk hg ha hdb he hpl) fun σ H Q ⟨F, ρ, S, Q', rl, en, t, kt⟩ =>
  ⟨F, ρ, S, _, rl, en, t, fun vs H1 F1 S1 ds x1 r1 p1 ⟨hl, q1⟩ ad dx ha hd hne => by
    have r2 := r1.junk (ob := .own ad) hd
    have hf : upd H1 dx (.own ad) ad = none := by rw [upd_ne (Ne.symm hne)]; exact ha
    have r3 := r2.fresh (c := .ins C []) (o := .ins C dx []) hf ⟨dx, [], upd_same, .nil⟩
    exact sp_go r3 (.cons (.ref ad) (by rw [List.append_nil]; exact p1)) (by rw [List.length_cons]; exact hl) (q1 ad (r1.free ha).1) fun v H' F' S' d x2 r4 p4 ⟨ed, q⟩ => by
      subst ed
      cases p4
      exact ⟨rfl, kt (.ref ad) H' F' S' _ (x1.trans x2) r4 (.ref ad) q⟩⟩
end
end KD
set_option Elab.async false
set_option linter.all false
set_option maxRecDepth 100000
set_option maxHeartbeats 4000000
/-! Rules over data: list methods, comprehensions. -/
namespace KD
open PySem PySem.Spec PyProof.Rows L2 Evl 
open PySem.AutoSeq1 (idx_int wpAny_loadPart')
theorem extend_tuple (l : Addr) (items : Array Value) (n : Nat) (b : Addr) (items2 : Array Value) (n2 : Nat) (dd : Option Addr) (sl : Array (Option Value)) (hs0 : ¬(!items.isEmpty && Builtin.List.listTooLong (items.size + items2.size)) = true) (hs1 : items.size ≤ sizeLine) (hs2 : items.size + items2.size ≤ sizeLine + 1) :
    Meets (Builtin.«list.extend» ⟨[.ref l, .ref b], []⟩) (fun _ R s => s.heap.get? l = some { cls := .type "list", dict := none, data := .seq items n, slots := #[] } ∧ s.heap.get? b = some { cls := .type "tuple", dict := dd, data := .seq items2 n2, slots := sl } ∧ R (.ok (.ret Value.none)) { s with heap := s.heap.update l (Obj.mapSeq fun x => x ++ items2), toks := s.toks }) :=
  .of_wp fun prog w A R s h => by
    obtain ⟨hp, g, d, tk, os⟩ := s; obtain ⟨hl, hb, h⟩ := h; have f1 := idx_int; have f2 := PySem.AutoSeq1.sub_tuple_tuple; have f3 := PySem.AutoSeq1.sub_list_list; have f4 := PySem.AutoSeq1.sub_tuple_list; have f5 := PySem.AutoSeq1.sub_list_tuple;
    have hz' : (items ++ items2).size ≤ sizeLine + 1 := by rw [Array.size_append]; exact hs2
    wp_walk using (wpAny_updateSeq hl rfl (hz := hs1) (_hz' := hz')), wpAny_loadPart' hl, wpAny_loadPart' hb; exact ⟨_, rfl, h⟩
theorem extend_list (l : Addr) (items : Array Value) (n : Nat) (b : Addr) (items2 : Array Value) (n2 : Nat) (sl : Array (Option Value)) (hs0 : ¬(!items.isEmpty && Builtin.List.listTooLong (items.size + items2.size)) = true) (hs1 : items.size ≤ sizeLine) (hs2 : items.size + items2.size ≤ sizeLine + 1) :
    Meets (Builtin.«list.extend» ⟨[.ref l, .ref b], []⟩) (fun _ R s => s.heap.get? l = some { cls := .type "list", dict := none, data := .seq items n, slots := #[] } ∧ s.heap.get? b = some { cls := .type "list", dict := none, data := .seq items2 n2, slots := sl } ∧ R (.ok (.ret Value.none)) { s with heap := s.heap.update l (Obj.mapSeq fun x => x ++ items2), toks := s.toks }) :=
  .of_wp fun prog w A R s h => by
    obtain ⟨hp, g, d, tk, os⟩ := s; obtain ⟨hl, hb, h⟩ := h; have f1 := idx_int; have f2 := PySem.AutoSeq1.sub_tuple_tuple; have f3 := PySem.AutoSeq1.sub_list_list; have f4 := PySem.AutoSeq1.sub_tuple_list; have f5 := PySem.AutoSeq1.sub_list_tuple;
    have hz' : (items ++ items2).size ≤ sizeLine + 1 := by rw [Array.size_append]; exact hs2
    wp_walk using (wpAny_updateSeq hl rfl (hz := hs1) (_hz' := hz')), wpAny_loadPart' hl, wpAny_loadPart' hb; exact ⟨_, rfl, h⟩
section
variable {X : Cx} {F F' : Hp} {H H' : Hp} {S S' : DS} {σ : L2.St} {ρ : Rho} {pos p pos' : Pos} {e f a b c o i value tg iter : Expr} {es : List Expr} {st : Stmt} {rest body : List Stmt}
def rExtendT (K : PySem.W.Frag) : V → List V → Hp → VK → Prop := fun x vs H Q => ∃ l b xs zs, x = .ref l ∧ vs = [.ref b] ∧ H l = some (.lst xs) ∧ SqT K H b zs ∧ xs.length + zs.length ≤ sizeLine ∧ Q .non (upd H l (.lst (xs ++ zs)))
theorem mt_extendT : MtM X "list.extend" (rExtendT X.K) := by
  intro pins s σ H x vs v us Q I rx rv h
  obtain ⟨l, b, xs, zs, rfl, rfl, hH, hB, hz, q⟩ := h
  cases rx
  obtain ⟨u, rfl, ru⟩ := rv.one
  cases ru
  obtain ⟨z, its, n, r, hl, e⟩ := I.lstM hH
  obtain ⟨its2, r2, ⟨ob, e2, hc2, n2, hd2⟩, hz2⟩ := I.tuple hB
  obtain ⟨oc, od, dt, osl⟩ := ob
  cases hc2
  cases hd2
  have hl2 := r2.length
  have hsz : its.toArray.size + its2.toArray.size ≤ sizeLine := by rw [List.size_toArray, List.size_toArray]; omega
  have hlong : ¬ (!its.toArray.isEmpty && Builtin.List.listTooLong (its.toArray.size + its2.toArray.size)) = true := by
    rw [notLongL hsz, Bool.and_false]
    exact Bool.false_ne_true
  refine call_meets F.slot_list_extend ⟨_, e, rfl⟩ F.entry_list_extend (F.args_list_extend_2 _ _)
    (extend_tuple l its.toArray n b its2.toArray n2 od osl hlong (by rw [List.size_toArray]; omega) (by omega)) ⟨e, e2, ?_⟩
  refine ⟨.non, _, I.lset (its' := its ++ its2) hH e (by simp) (r.append r2) ?_, rfl, q⟩
  rw [List.length_append]
  omega

/-! ### list methods -/
theorem tyV_lst {ad : Addr} {vs : List V} (h : H ad = some (.lst vs)) : tyV X.K "list" (.ref ad) H := Or.inl ⟨rfl, vs, sq_of h⟩
/-- o is a cell of a list; what stands there; the new list and what comes back -/
def dLm (T : DE) (U : DA) (r : DS → List D → List D → Option (D × List D)) : DE := fun ρ S Q => T ρ S fun x S1 => (∃ ad ds, x = .ref ad ∧ S1 ad = some (.lst ds)) ∧ U ρ S1 fun zs S2 => ∃ ad ds d ds', x = .ref ad ∧ S2 ad = some (.lst ds) ∧ r S2 ds zs = some (d, ds') ∧ Q d (put S2 ad (.lst ds'))
def mAppend (_ : DS) (ds zs : List D) : Option (D × List D) := match zs with
  | [y] => if ds.length < 1000000 then some (.non, ds ++ [y]) else none
  | _ => none
theorem we_append {T : DE} {U : DA} {apos cpos : Pos} (ho : WE X o T) (ha : WA X [e] U) (hbase : attributeBase o "append" X.env (eval o X.env) = eval o X.env := by rfl) (hline : (apos.endLine == cpos.line) = true := by rfl)
    (hfew : ((backTo cpos (starEach [e] X.env)).all (fun x => !x.1) && (backToKw cpos (keywordEach [] X.env)).all (fun x => x.1.isSome)
      && decide (([e] : List Expr).length + ([] : List Keyword).length + (if ([] : List Keyword).isEmpty then 0 else 1) < 30)) = true := by rfl)
    (hs : starEach [e] X.env = (false, eval e X.env) :: starEach [] X.env := by rfl) :
    WE X (.Call (.Attribute o "append" apos) [e] [] cpos) (dLm T U mAppend) := PE.imp (pe_bm PySem.F.plainAttrs_list PySem.F.slot_list_append PySem.F.type_list_append mt_append ho ha hbase hfew hline hs (by rfl)) fun σ H Q ⟨F, ρ, S, Q', rl, en, t, k⟩ =>
  ⟨F, ρ, S, _, rl, en, t, fun x H1 F1 S1 dx x1 r1 p1 ⟨⟨ad, ds, ex, es0⟩, q1⟩ => by
    subst ex
    cases p1
    obtain ⟨_, vs, h1, _⟩ := r1.cell ad _ es0
    refine ⟨tyV_lst h1, F1, ρ, S1, _, r1, en.mono x1, q1, fun us H2 F2 S2 zs x2 r2 p2 ⟨ad2, ds2, d, ds', e1, e2, e3, q⟩ => ?_⟩
    cases e1
    obtain ⟨_, vs2, h2, h3⟩ := r2.cell ad _ e2
    cases p2 with
    | nil => cases e3
    | cons py pr =>
      cases pr with
      | cons _ _ => cases e3
      | nil =>
        obtain ⟨hl, e4⟩ := if_some e3
        cases e4
        exact ⟨ad, vs2, _, rfl, rfl, h2, by rw [h3.length]; exact Nat.lt_of_lt_of_le hl (by rw [sizeLine_eq]; decide),
          k .non _ F2 _ .non (x1.trans x2) (r2.write (c' := .lst (ds2 ++ [_])) e2 ⟨_, upd_same, h3.snoc py⟩) .non q⟩⟩
def mPop (_ : DS) (ds zs : List D) : Option (D × List D) := match zs, ds.getLast? with
  | [], some y => some (y, ds.dropLast)
  | _, _ => none
theorem we_pop {T : DE} {apos cpos : Pos} (ho : WE X o T) (hbase : attributeBase o "pop" X.env (eval o X.env) = eval o X.env := by rfl) (hline : (apos.endLine == cpos.line) = true := by rfl) :
    WE X (.Call (.Attribute o "pop" apos) [] [] cpos) (dLm T (fun _ S Q => Q [] S) mPop) := PE.imp (pe_bm0 PySem.F.plainAttrs_list PySem.F.slot_list_pop PySem.F.type_list_pop mt_pop ho hbase hline) fun σ H Q ⟨F, ρ, S, Q', rl, en, t, k⟩ =>
  ⟨F, ρ, S, _, rl, en, t, fun x H1 F1 S1 dx x1 r1 p1 ⟨_, ad, ds, d, ds', ex, es0, e3, q⟩ => by
    subst ex
    cases p1
    obtain ⟨_, vs, h1, h3⟩ := r1.cell ad _ es0
    unfold mPop at e3
    cases eg : ds.getLast? with
    | none => rw [eg] at e3; cases e3
    | some y =>
      rw [eg] at e3
      cases e3
      rw [List.getLast?_eq_getElem?] at eg
      obtain ⟨v, g1, g2⟩ := h3.get eg
      refine ⟨tyV_lst h1, ad, vs, v, rfl, rfl, h1, by rw [h3.length]; exact g1, ?_⟩
      exact k v _ F1 _ _ x1 (r1.write (c' := .lst ds.dropLast) es0 ⟨_, upd_same, h3.dropLast⟩) g2 q⟩
/-- extend by a tuple, a list -/
def mExtend (S : DS) (ds zs : List D) : Option (D × List D) := match zs with
  | [.tup ys] => if ds.length + ys.length ≤ 1000000 then some (.non, ds ++ ys) else none
  | _ => none
theorem we_extendT {T : DE} {U : DA} {apos cpos : Pos} (ho : WE X o T) (ha : WA X [e] U) (hbase : attributeBase o "extend" X.env (eval o X.env) = eval o X.env := by rfl) (hline : (apos.endLine == cpos.line) = true := by rfl)
    (hfew : ((backTo cpos (starEach [e] X.env)).all (fun x => !x.1) && (backToKw cpos (keywordEach [] X.env)).all (fun x => x.1.isSome)
      && decide (([e] : List Expr).length + ([] : List Keyword).length + (if ([] : List Keyword).isEmpty then 0 else 1) < 30)) = true := by rfl)
    (hs : starEach [e] X.env = (false, eval e X.env) :: starEach [] X.env := by rfl) :
    WE X (.Call (.Attribute o "extend" apos) [e] [] cpos) (dLm T U mExtend) := PE.imp (pe_bm PySem.F.plainAttrs_list PySem.F.slot_list_extend PySem.F.type_list_extend mt_extendT ho ha hbase hfew hline hs (by rfl)) fun σ H Q ⟨F, ρ, S, Q', rl, en, t, k⟩ =>
  ⟨F, ρ, S, _, rl, en, t, fun x H1 F1 S1 dx x1 r1 p1 ⟨⟨ad, ds, ex, es0⟩, q1⟩ => by
    subst ex
    cases p1
    obtain ⟨_, vs, h1, _⟩ := r1.cell ad _ es0
    refine ⟨tyV_lst h1, F1, ρ, S1, _, r1, en.mono x1, q1, fun us H2 F2 S2 zs x2 r2 p2 ⟨ad2, ds2, d, ds', e1, e2, e3, q⟩ => ?_⟩
    cases e1
    obtain ⟨_, vs2, h2, h3⟩ := r2.cell ad _ e2
    cases p2 with
    | nil => cases e3
    | cons py pr =>
      cases pr with
      | cons _ _ => cases py <;> cases e3
      | nil =>
        cases py with
        | tup hs hr =>
          obtain ⟨hl, e4⟩ := if_some e3
          cases e4
          refine ⟨ad, _, vs2, _, rfl, rfl, h2, ex_t r2.sub hs, by rw [h3.length, hr.length]; exact Nat.le_trans hl (by rw [sizeLine_eq]; decide), ?_⟩
          exact k .non _ F2 _ .non (x1.trans x2) (r2.write (c' := .lst (ds2 ++ _)) e2 ⟨_, upd_same, h3.append hr⟩) .non q
        | _ => cases e3⟩
/-- by a settled list that is not this one -/
def mExtendL (S : DS) (ds zs : List D) : Option (D × List D) := match zs with
  | [.lst ys] => if ds.length + ys.length ≤ 1000000 then some (.non, ds ++ ys) else none
  | _ => none
def rExtendL (K : PySem.W.Frag) : V → List V → Hp → VK → Prop := fun x vs H Q => ∃ l b xs zs, x = .ref l ∧ vs = [.ref b] ∧ H l = some (.lst xs) ∧ SqL K H b zs ∧ xs.length + zs.length ≤ sizeLine ∧ Q .non (upd H l (.lst (xs ++ zs)))
theorem mt_extendL : MtM X "list.extend" (rExtendL X.K) := by
  intro pins s σ H x vs v us Q I rx rv h
  obtain ⟨l, b, xs, zs, rfl, rfl, hH, hB, hz, q⟩ := h
  cases rx
  obtain ⟨u, rfl, ru⟩ := rv.one
  cases ru
  obtain ⟨z, its, n, r, hl, e⟩ := I.lstM hH
  obtain ⟨its2, r2, ⟨ob, n2, e2, hc2, hx2, hd2⟩, hz2⟩ := I.list hB
  obtain ⟨oc, od, dt, osl⟩ := ob
  cases hc2
  cases hx2
  cases hd2
  have hl2 := r2.length
  have hsz : its.toArray.size + its2.toArray.size ≤ sizeLine := by rw [List.size_toArray, List.size_toArray]; omega
  have hlong : ¬ (!its.toArray.isEmpty && Builtin.List.listTooLong (its.toArray.size + its2.toArray.size)) = true := by
    rw [notLongL hsz, Bool.and_false]
    exact Bool.false_ne_true
  refine call_meets F.slot_list_extend ⟨_, e, rfl⟩ F.entry_list_extend (F.args_list_extend_2 _ _)
    (extend_list l its.toArray n b its2.toArray n2 osl hlong (by rw [List.size_toArray]; omega) (by omega)) ⟨e, e2, ?_⟩
  refine ⟨.non, _, I.lset (its' := its ++ its2) hH e (by simp) (r.append r2) ?_, rfl, q⟩
  rw [List.length_append]
  omega
theorem we_extendL {T : DE} {U : DA} {apos cpos : Pos} (ho : WE X o T) (ha : WA X [e] U) (hbase : attributeBase o "extend" X.env (eval o X.env) = eval o X.env := by rfl) (hline : (apos.endLine == cpos.line) = true := by rfl)
    (hfew : ((backTo cpos (starEach [e] X.env)).all (fun x => !x.1) && (backToKw cpos (keywordEach [] X.env)).all (fun x => x.1.isSome)
      && decide (([e] : List Expr).length + ([] : List Keyword).length + (if ([] : List Keyword).isEmpty then 0 else 1) < 30)) = true := by rfl)
    (hs : starEach [e] X.env = (false, eval e X.env) :: starEach [] X.env := by rfl) :
    WE X (.Call (.Attribute o "extend" apos) [e] [] cpos) (dLm T U mExtendL) := PE.imp (pe_bm PySem.F.plainAttrs_list PySem.F.slot_list_extend PySem.F.type_list_extend mt_extendL ho ha hbase hfew hline hs (by rfl)) fun σ H Q ⟨F, ρ, S, Q', rl, en, t, k⟩ =>
  ⟨F, ρ, S, _, rl, en, t, fun x H1 F1 S1 dx x1 r1 p1 ⟨⟨ad, ds, ex, es0⟩, q1⟩ => by
    subst ex
    cases p1
    obtain ⟨_, vs, h1, _⟩ := r1.cell ad _ es0
    refine ⟨tyV_lst h1, F1, ρ, S1, _, r1, en.mono x1, q1, fun us H2 F2 S2 zs x2 r2 p2 ⟨ad2, ds2, d, ds', e1, e2, e3, q⟩ => ?_⟩
    cases e1
    obtain ⟨_, vs2, h2, h3⟩ := r2.cell ad _ e2
    cases p2 with
    | nil => cases e3
    | cons py pr =>
      cases pr with
      | cons _ _ => cases py <;> cases e3
      | nil =>
        cases py with
        | lst hs hr =>
          obtain ⟨hl, e4⟩ := if_some e3
          cases e4
          refine ⟨ad, _, vs2, _, rfl, rfl, h2, ex_l r2.sub hs, by rw [h3.length, hr.length]; exact Nat.le_trans hl (by rw [sizeLine_eq]; decide), ?_⟩
          exact k .non _ F2 _ .non (x1.trans x2) (r2.write (c' := .lst (ds2 ++ _)) e2 ⟨_, upd_same, h3.append hr⟩) .non q
        | _ => cases e3⟩
/-- join of a settled list or tuple of texts -/
def strsOf : List D → Option (List Str)
  | [] => some []
  | .str x :: r => (strsOf r).map (x :: ·)
  | _ => none
theorem strsOf_ok {K : PySem.W.Frag} {F : Hp} : ∀ {vs : List V} {ds : List D} {ys : List Str}, RpL K F vs ds → strsOf ds = some ys → vs = ys.map V.str
  | _, _, ys, .nil, h => by cases h; rfl
  | _, _, ys, .cons h0 r, h => by
    cases h0 with
    | str x =>
      obtain ⟨zs, h1, h2⟩ := Option.map_eq_some_iff.mp h
      subst h2
      rw [strsOf_ok r h1]
      rfl
    | _ => cases h
def gJoin (S : DS) (x y : D) : Option D := match x with
  | .str a => (seqOf S y).bind fun ds => (strsOf ds).bind fun ys => if (ys.map (·.length)).sum + ys.length * a.length ≤ 16777216 then some (.str (Txt.join a ys)) else none
  | _ => none
theorem we_join {T U : DE} {apos : Pos} (ho : WE X o T) (he : WE X e U) (hs : starEach [e] X.env = [(false, eval e X.env)] := by rfl) (hbase : attributeBase o "join" X.env (eval o X.env) = eval o X.env := by rfl) (hline : (apos.endLine == pos.line) = true := by rfl) :
    WE X (.Call (.Attribute o "join" apos) [e] [] pos) (fun ρ S Q => T ρ S fun x S1 => (∃ a, x = .str a) ∧ U ρ S1 fun y S2 => ∃ d, gJoin S2 x y = some d ∧ Q d S2) := PE.imp (pe_join ho he hs hbase hline) fun σ H Q ⟨F, ρ, S, Q', rl, en, t, k⟩ =>
  ⟨F, ρ, S, _, rl, en, t, fun x H1 F1 S1 dx x1 r1 p1 ⟨⟨z, ez⟩, q1⟩ => by
    subst ez
    cases p1
    refine ⟨⟨z, rfl⟩, F1, ρ, S1, _, r1, en.mono x1, q1, fun y H2 F2 S2 dy x2 r2 p2 ⟨d, ed, q⟩ => ?_⟩
    obtain ⟨ds, h1, h2⟩ := Option.bind_eq_some_iff.mp ed
    obtain ⟨ys, h3, h4⟩ := Option.bind_eq_some_iff.mp h2
    obtain ⟨hl, h5⟩ := if_some h4
    obtain ⟨ad, vs, rfl, hs2, hr⟩ := seqOf_ok r2 p2 h1
    have ev := strsOf_ok hr h3
    subst ev
    refine ⟨z, ad, ys, rfl, rfl, hs2, hl, ?_⟩
    subst h5
    exact k _ H2 F2 S2 _ (x1.trans x2) r2 (.str _) q⟩
theorem fe_join {α β : EF} {apos : Pos} (ho : FE X o α) (he : FE X e β) (hs : starEach [e] X.env = [(false, eval e X.env)] := by rfl) (hbase : attributeBase o "join" X.env (eval o X.env) = eval o X.env := by rfl) (hline : (apos.endLine == pos.line) = true := by rfl) :
    FE X (.Call (.Attribute o "join" apos) [e] [] pos) (dBin gJoin α β) := we_imp (we_join ho he hs hbase hline) fun ρ S Q ⟨d, h, q⟩ => by
  obtain ⟨x, h1, h2⟩ := Option.bind_eq_some_iff.mp h
  obtain ⟨y, h3, h4⟩ := Option.bind_eq_some_iff.mp h2
  refine ⟨x, h1, ?_, y, h3, d, h4, q⟩
  cases x with
  | str z => exact ⟨z, rfl⟩
  | _ => cases h4

/-! ### comprehensions -/
def wipeD (ρ : Rho) : List Nat → Rho
  | [] => ρ
  | v :: vs => (wipeD ρ vs).set v none
theorem wipeD_length (ρ : Rho) : ∀ vs, (wipeD ρ vs).length = ρ.length
  | [] => rfl
  | v :: vs => by unfold wipeD; rw [List.length_set, wipeD_length ρ vs]
theorem En.wipe (h : En X F σ ρ) : ∀ vs, En X F (L2.wipe σ vs) (wipeD ρ vs)
  | [] => h
  | v :: vs => by
    have ih := En.wipe h vs
    refine ⟨by unfold L2.wipe wipeD; rw [List.length_set, List.length_set]; exact ih.len, fun j d q => ?_⟩
    unfold wipeD at q
    unfold L2.wipe
    by_cases hj : v = j
    · subst hj
      by_cases hl : v < (wipeD ρ vs).length
      · rw [List.getElem?_set_self hl] at q; cases q
      · rw [List.getElem?_eq_none (by rw [List.length_set]; omega)] at q; cases q
    · rw [List.getElem?_set_ne hj] at q ⊢
      exact ih.at_ j d q
theorem wipe_set {v : V} {i : Nat} : ∀ {vs : List Nat} {σ : L2.St}, i ∈ vs → L2.wipe (σ.set i (some v)) vs = L2.wipe σ vs
  | [], _, h => by cases h
  | w :: vs, σ, h => by
    unfold L2.wipe
    by_cases hi : i ∈ vs
    · rw [wipe_set hi]
    · have e : i = w := by
        rcases List.mem_cons.mp h with e | e
        · exact e
        · exact absurd e hi
      subst e
      have key : ∀ (us : List Nat) (τ : L2.St), i ∉ us → L2.wipe (τ.set i (some v)) us = (L2.wipe τ us).set i (some v) := fun us => by
        induction us with
        | nil => exact fun _ _ => rfl
        | cons u us ih =>
          intro τ hn
          unfold L2.wipe
          rw [ih τ (fun z => hn (List.mem_cons_of_mem _ z)), List.set_comm _ _ (fun z => hn (by rw [z]; exact List.mem_cons_self))]
      rw [key vs σ hi, List.set_set]
/-- how a block's target binds data -/
abbrev Gam := D → Rho → Option Rho
structure TgB (K : PySem.W.Frag) (vs : List Nat) (γ : Gam) (g : TG) : Prop where
  run : ∀ (X : Cx), X.K = K → ∀ (v : V) (σ : L2.St) (H F : Hp) (S : DS) (d : D) (ρ ρ2 : Rho) (Q : L2.St → Hp → Prop), Rl X S H F → En X F σ ρ → Rp K F v d → γ d ρ = some ρ2 → (∀ σ2, En X F σ2 ρ2 → L2.wipe σ2 vs = L2.wipe σ vs → Q σ2 H) → g v σ H Q
def gamN (i : Nat) : Gam := fun d ρ => some (ρ.set i (some d))
theorem tgb_name {K : PySem.W.Frag} {vs : List Nat} {i : Nat} (h : i ∈ vs := by decide) : TgB K vs (gamN i) (gName i) := ⟨fun X hK v σ H F S d ρ ρ2 Q rl en r e q => by
  subst hK
  cases e
  exact q _ (en.set r) (wipe_set h)⟩
def setsD : List Nat → List D → Rho → Option Rho
  | [], [], ρ => some ρ
  | i :: is, d :: ds, ρ => setsD is ds (ρ.set i (some d))
  | _, _, _ => none
def gNames : List Nat → TGs
  | [] => gNil
  | i :: is => gCons (gName i) (gNames is)
def gamT (is : List Nat) : Gam := fun d ρ => match d with
  | .tup ds => setsD is ds ρ
  | _ => none
theorem sets_len : ∀ {is : List Nat} {ds : List D} {ρ ρ2 : Rho}, setsD is ds ρ = some ρ2 → ds.length = is.length
  | [], [], _, _, _ => rfl
  | [], _ :: _, _, _, h => by cases h
  | _ :: _, [], _, _, h => by cases h
  | _ :: is, _ :: ds, _, _, h => by rw [List.length_cons, List.length_cons, sets_len (is := is) (ds := ds) h]
theorem names_run {vs : List Nat} : ∀ {is : List Nat} {us : List V} {ds : List D} {σ : L2.St} {ρ ρ2 : Rho} {Q : L2.St → Hp → Prop}, (∀ i ∈ is, i ∈ vs) → En X F σ ρ → RpL X.K F us ds → setsD is ds ρ = some ρ2 → (∀ σ2, En X F σ2 ρ2 → L2.wipe σ2 vs = L2.wipe σ vs → Q σ2 H) → gNames is us σ H Q
  | [], _, _, _, _, _, _, _, en, .nil, e, q => by cases e; exact ⟨rfl, q _ en rfl⟩
  | [], _, _, _, _, _, _, _, en, .cons _ _, e, q => by cases e
  | _ :: _, _, _, _, _, _, _, _, en, .nil, e, q => by cases e
  | i :: is, _, _, _, _, _, _, h, en, .cons r rs, e, q => ⟨_, _, rfl, names_run (fun j hj => h j (List.mem_cons_of_mem _ hj)) (en.set r) rs e fun σ2 en2 w => q σ2 en2 (w.trans (wipe_set (h i List.mem_cons_self)))⟩
theorem tgb_tup {K : PySem.W.Frag} {vs is : List Nat} {n : Nat} (hn : is.length = n := by rfl) (h : ∀ i ∈ is, i ∈ vs := by decide) : TgB K vs (gamT is) (gTup K n (gNames is)) := ⟨fun X hK v σ H F S d ρ ρ2 Q rl en r e q => by
  subst hK
  cases r with
  | tup hs hr => exact ⟨_, _, rfl, ex_t rl.sub hs, by rw [hr.length, sets_len e]; exact hn, names_run h en hr e q⟩
  | _ => cases e⟩
/-- the readings of a block in its surrounding context -/
theorem ptb {Y : Cx} {ifs : List Expr} {C : DT} (h : PTs Y ifs (bW Y C)) (h1 : Y.prog = X.prog) (h2 : Y.w = X.w) (h3 : Y.K = X.K) : PTs Y ifs (bW X C) := ⟨fun pins s σ H Q I ⟨F, ρ, S, Q', rl, en, t, k⟩ => h.run pins s σ H Q I
  ⟨F, ρ, S, Q', rl.to h1.symm h2.symm h3.symm, en.to h3.symm, t, fun b H1 F1 S1 x1 r1 q => k b H1 F1 S1 x1 (r1.to h1 h2 h3) q⟩⟩
theorem peb {Y : Cx} {T : DE} (h : WE Y e T) (h1 : Y.prog = X.prog) (h2 : Y.w = X.w) (h3 : Y.K = X.K) : PE Y e (tW X T) := ⟨fun pins s σ H Q I ⟨F, ρ, S, Q', rl, en, t, k⟩ => h.run pins s σ H Q I
  ⟨F, ρ, S, Q', rl.to h1.symm h2.symm h3.symm, en.to h3.symm, t, fun v H1 F1 S1 d x1 r1 p1 q => k v H1 F1 S1 d x1 (r1.to h1 h2 h3) (by rw [← h3]; exact p1) q⟩⟩
def dYes : DT := fun _ S Q => Q true S
theorem wif_nil : PTs X [] (bW X dYes) := ⟨fun pins s σ H Q I ⟨F, ρ, S, Q', rl, en, t, k⟩ => pts_nil.run pins s σ H Q I (k true H F S (Ex.refl F) rl t)⟩
theorem wif_one {C : DT} (h : WT X c C) : PTs X [c] (bW X C) := pts_one h
def dLc (T : DI) (γ : Gam) (C : DT) (V' : DE) (vs : List Nat) : DE := fun ρ S Q => T ρ S fun items Gk S1 => ∀ ad, S1 ad = none → ∃ Pv : Nat → DS → Prop, Pv 0 (put S1 ad (.lst [])) ∧ (∀ i S, i ≤ items.length → Pv i S → Gk S) ∧
  (∀ i d S, items[i]? = some d → Pv i S → ∃ ρ2, γ d (wipeD ρ vs) = some ρ2 ∧ C ρ2 S fun b S3 => if b = true then V' ρ2 S3 fun y S4 => ∃ acc, S4 ad = some (.lst acc) ∧ acc.length < 1000000 ∧ Pv (i + 1) (put S4 ad (.lst (acc ++ [y]))) else Pv (i + 1) S3) ∧ ∀ S, Pv items.length S → Q (.ref ad) S
theorem lc_go {T : DI} {γ : Gam} {g : TG} {C : DT} {V' : DE} {vs : List Nat} {Q : VK} (tb : TgB X.K vs γ g) (h : tW X (dLc T γ C V' vs) σ H Q) : tLc (iW X T) g (bW X C) (tW X V') vs σ H Q := by
  obtain ⟨F, ρ, S, Q', rl, en, t, k⟩ := h
  refine ⟨F, ρ, S, _, rl, en, t, fun J H1 F1 S1 items Gk x1 r1 w hq ad hn => ?_⟩
  obtain ⟨Pv, h0, hG, hst, hd⟩ := hq ad (r1.free hn).1
  refine ⟨fun i m H => m = items.length - i ∧ i ≤ items.length ∧ ∃ F2 S2, Ex F1 F2 ∧ Rl X S2 H F2 ∧ Pv i S2, ⟨items.length, by simp, Nat.zero_le _, F1, _, Ex.refl F1, r1.fresh (c := .lst []) (o := .lst []) hn ⟨[], upd_same, .nil⟩, h0⟩, ?_⟩
  rintro i m H ⟨rfl, hi, F2, S2, x2, r2, p2⟩
  have gg := hG i S2 hi p2
  by_cases hlt : i < items.length
  · refine .inr ⟨w.go i S2 H F2 x2 r2 gg hlt, fun H' => ∃ F3 S3, Ex F1 F3 ∧ Rl X S3 H' F3 ∧ Pv (i + 1) S3, fun H' z => ⟨items.length - (i + 1), by omega, rfl, hlt, z⟩, fun v H' y => ?_⟩
    obtain ⟨F3, d, x3, r3, e3, p3⟩ := w.yld i S2 H F2 v H' x2 r2 gg hlt y
    obtain ⟨ρ2, eg, q⟩ := hst i d S2 e3 p2
    have en3 : En X F3 (L2.wipe σ vs) (wipeD ρ vs) := (en.mono (x1.trans (x2.trans x3))).wipe vs
    refine tb.run X rfl v _ H' F3 S2 d _ ρ2 _ r3 en3 p3 eg fun σ2 en4 hw => ⟨?_, F3, ρ2, S2, _, r3, en4, q, fun b H4 F4 S4 x4 r4 q4 => ?_⟩
    · have idem : ∀ (us : List Nat) (τ : L2.St), L2.wipe (L2.wipe τ us) us = L2.wipe τ us := fun us τ => by
        apply List.ext_getElem?
        intro j
        have key : ∀ (us : List Nat) (τ : L2.St), (L2.wipe τ us)[j]? = if j ∈ us ∧ j < τ.length then some none else τ[j]? := fun us => by
          induction us with
          | nil => intro τ; simp [L2.wipe]
          | cons u us ih =>
            intro τ
            unfold L2.wipe
            by_cases hu : u = j
            · subst hu
              by_cases hl : u < τ.length
              · rw [List.getElem?_set_self (by rw [wipe_length]; exact hl), if_pos ⟨List.mem_cons_self, hl⟩]
              · rw [List.getElem?_eq_none (by rw [List.length_set, wipe_length]; omega), if_neg (fun z => hl z.2), List.getElem?_eq_none (by omega)]
            · rw [List.getElem?_set_ne hu, ih]
              have e : (j ∈ us ∧ j < τ.length) ↔ (j ∈ u :: us ∧ j < τ.length) := by
                constructor
                · exact fun z => ⟨List.mem_cons_of_mem _ z.1, z.2⟩
                · exact fun z => ⟨(List.mem_cons.mp z.1).resolve_left (fun e => hu e.symm), z.2⟩
              by_cases hq : j ∈ us ∧ j < τ.length
              · rw [if_pos hq, if_pos (e.mp hq)]
              · rw [if_neg hq, if_neg (fun z => hq (e.mpr z))]
        rw [key, key, wipe_length]
        split <;> rfl
      rw [hw, idem]
    · cases b with
      | true =>
        rw [if_pos rfl] at q4 ⊢
        refine ⟨F4, ρ2, S4, _, r4, en4.mono x4, q4, fun v5 H5 F5 S5 d5 x5 r5 p5 ⟨acc, e5, hl, q5⟩ => ?_⟩
        obtain ⟨_, us, h6, h7⟩ := r5.cell ad _ e5
        exact ⟨us, h6, by rw [h7.length]; exact Nat.lt_of_lt_of_le hl (by rw [sizeLine_eq]; decide), F5, _, (x2.trans x3).trans (x4.trans x5), r5.write (c' := .lst (acc ++ [d5])) e5 ⟨_, upd_same, h7.snoc p5⟩, q5⟩
      | false =>
        rw [if_neg Bool.false_ne_true] at q4 ⊢
        exact ⟨F4, S4, (x2.trans x3).trans x4, r4, q4⟩
  · have e : i = items.length := by omega
    subst e
    exact .inl ⟨w.stop S2 H F2 x2 r2 gg, k (.ref ad) H F2 S2 _ (x1.trans x2) r2 (.ref ad) (hd S2 p2)⟩
abbrev OnBlk (X : Cx) (scope : Scope) (P : Cx → Prop) : Prop := ∀ (s : Shared) (H : Hp) (C : Addr) (cl : List (Str × Addr)) (fp : List Addr), P (X.blk s H scope (compEnvC scope cl C X.env) fp)
theorem we_lc {elt : Expr} {ifs : List Expr} {scope : Scope} {own : List (Str × Nat)} {T : DI} {γ : Gam} {g : TG} {C : DT} {V' : DE} (hc : X.calm = true) (hN : X.N.Nodup) (ok : BlkOk X.N X.env.scope scope own) (hi : WI X tg iter T) (tb : TgB X.K (own.map (·.2)) γ g)
    (hg : OnBlk X scope fun Y => PG Y tg g) (ht : OnBlk X scope fun Y => PTs Y ifs (bW Y C)) (he : OnBlk X scope fun Y => WE Y elt V') (hs : ∀ x, foldedSetIterable iter X.env x = pure x := by intro _; rfl) :
    WE X (.ListComp elt [⟨tg, iter, ifs, 0⟩] scope pos) (dLc T γ C V' (own.map (·.2))) :=
  PE.imp (pe_lc hc hN hi ok hg (fun s H C' cl fp => ptb (ht s H C' cl fp) rfl rfl rfl) (fun s H C' cl fp => peb (he s H C' cl fp) rfl rfl rfl) hs) fun σ H Q h => lc_go tb h
/-- name = [..] on one line -/
theorem ws_setLc {i : Nat} {y : Str} {py spos : Pos} {elt : Expr} {ifs : List Expr} {scope : Scope} {own : List (Str × Nat)} {T : DI} {γ : Gam} {g : TG} {C : DT} {V' : DE} (hc : X.calm = true) (hN : X.N.Nodup) (hyl : X.env.scope.names.lookup y = some .local) (hy : X.N[i]? = some y)
    (hsw : swapsWith (.ListComp elt [⟨tg, iter, ifs, 0⟩] scope pos) (some (.Name y py)) spos.line X.env = pure true) (ok : BlkOk X.N X.env.scope scope own) (hi : WI X tg iter T) (tb : TgB X.K (own.map (·.2)) γ g)
    (hg : OnBlk X scope fun Y => PG Y tg g) (ht : OnBlk X scope fun Y => PTs Y ifs (bW Y C)) (he : OnBlk X scope fun Y => WE Y elt V') (hs : ∀ x, foldedSetIterable iter X.env x = pure x := by intro _; rfl) :
    WS X (.Assign [.Name y py] (.ListComp elt [⟨tg, iter, ifs, 0⟩] scope pos) spos) (dAsg (dLc T γ C V' (own.map (·.2))) (dgName i)) :=
  PS.imp (ps_setLc hc hN hy hyl hsw hi ok hg (fun s H C' cl fp => ptb (ht s H C' cl fp) rfl rfl rfl) (fun s H C' cl fp => peb (he s H C' cl fp) rfl rfl rfl) hs) fun Ds σ H ⟨F, ρ, S, E, rl, en, t, k⟩ =>
    lc_go (Q := fun x H1 => gName i x σ H1 Ds.nx) tb ⟨F, ρ, S, _, rl, en, t, fun v H1 F1 S1 d x1 r1 p1 q => k.nx (σ.set i (some v)) H1 F1 _ S1 x1 r1 ((en.mono x1).set p1) q⟩
end
end KD
set_option Elab.async false
set_option linter.all false
set_option maxRecDepth 100000
set_option maxHeartbeats 4000000
/-! Rules over data: dicts walked, listed, counted; sorted. -/
namespace KD
open PySem PySem.Spec PyProof.Rows L2 Evl
section
variable {X : Cx} {F F' : Hp} {H H' : Hp} {S S' : DS} {σ : L2.St} {ρ : Rho} {pos p pos' : Pos} {e f a b c o i value tg iter : Expr} {es : List Expr} {st : Stmt} {rest body : List Stmt}
/-- the keys of a dict's cell -/
def keysOf : Cell → Option (List D)
  | .dS kvs => some (kvs.map fun p => .str p.1)
  | .dT kvs => some (kvs.map (·.1))
  | .lS _ _ kvs => some (kvs.map fun p => .str p.1)
  | .lT _ _ kvs => some (kvs.map (·.1))
  | _ => none
theorem keysT {K : PySem.W.Frag} {F : Hp} : ∀ {kvs : List (D × D)} {xs : List (NestedKey × Addr × V)}, PT1 K F kvs xs → RpL K F (xs.map fun q => V.ref q.2.1) (kvs.map (·.1))
  | _, _, .nil => .nil
  | _, _, .cons r t => .cons r.2.1 (keysT t)
theorem keysS {K : PySem.W.Frag} {F : Hp} : ∀ {kvs : List (Str × D)} {gs : List (Key × V)}, PS1 K F kvs gs → RpL K F (gs.map fun q => kV q.1) (kvs.map fun p => .str p.1)
  | _, _, .nil => .nil
  | p :: kvs, q :: gs, .cons r t => .cons (by
      show Rp K F (kV q.1) (.str p.1)
      rw [r.1]
      exact .str _) (keysS t)
theorem refsT : ∀ {xs : List (NestedKey × Addr × V)} {us : List (NestedKey × Addr × Value)}, PT2 xs us → Vals (xs.map fun q => V.ref q.2.1) (us.map fun q => Value.ref q.2.1)
  | _, _, .nil => .nil
  | p :: _, q :: _, .cons r t => .cons (by
      show RelV (.ref p.2.1) (.ref q.2.1)
      rw [r.2.1]
      rfl) (refsT t)
/-- what list() and sorted() read off a dict -/
structure DSrc (X : Cx) (s : Shared) (ad : Addr) (vs : List V) (n : Nat) (P : Nat → Value → Prop) (OK : Heap → Prop) : Prop where
  src : PySem.W.KdlSrc X.prog X.w "dict" ad ad n P OK
  ok : OK s.heap
  le : n ≤ sizeLine
  len : vs.length = n
  items : ∀ acc : Array Value, ItemsOf P acc n → Vals vs acc.toList
theorem entry_ref {P : Program} {w : World} (q : NestedKey × Addr × Value) : (entryOfKey (nestedKind P w) q).key = .ref q.2.1 := rfl
theorem dsrc {pins : List (Addr × Obj)} {s : Shared} {ad : Addr} {c : Cell} {ks : List D} (I : Inv X pins σ H s) (rl : Rl X S H F) (h : S ad = some c) (hk : keysOf c = some ks) (hl : ∀ od u, (∀ kvs, c ≠ .lS od u kvs) ∧ ∀ kvs, c ≠ .lT od u kvs) :
    ∃ vs n P OK, DSrc X s ad vs n P OK ∧ RpL X.K F vs ks := by
  obtain ⟨hF, ok⟩ := rl.cell ad c h
  cases c with
  | dS kvs =>
    cases hk
    obtain ⟨gs, g1, g2⟩ := ok
    obtain ⟨z, lo, vs, rel, dd⟩ := dk_of I.hok g1
    obtain ⟨ep, hat⟩ := dd.dictAt
    have ek : (gs.map fun kv => kV kv.1) = vs.map fun p => kV p.1 := by
      have e := congrArg (List.map kV) rel.keys
      rw [List.map_map, List.map_map] at e
      exact e
    refine ⟨_, _, _, _, ⟨PySem.W.kdl_dict (knd := mixKind X.prog X.w) (kvs := vs) (ep := ep) lo, hat, by rw [← rel.length]; exact z, by rw [List.length_map]; exact rel.length, fun acc hacc => ?_⟩, keysS g2⟩
    rw [ek]
    exact keys_at (by rw [Array.length_toList]; exact hacc.1) fun j v e => hacc.2 j v (by rw [← Array.getElem?_toList]; exact e)
  | dT kvs =>
    cases hk
    obtain ⟨xs, g1, g2⟩ := ok
    obtain ⟨⟨h1, h2, h3, us, o, es, ep, h4, h5, h6, h7, h8⟩, _⟩ : ObjOk X.prog X.w H s.heap ad (.ext (DTphi X.prog X.w ad xs)) := I.hok ad _ g1
    have l1 : es.size = us.length := size_of_entries h8
    have l2 : xs.length = us.length := pairedLen h4
    refine ⟨_, _, _, _, ⟨kdl_raw h2 h6 h7, h5, by omega, by rw [List.length_map, l1, l2], fun acc hacc => ?_⟩, keysT g2⟩
    have ea : acc.toList = us.map fun x => Value.ref x.2.1 := by
      have hl : acc.toList.length = us.length := by rw [Array.length_toList, hacc.1]; exact l1
      apply List.ext_getElem?
      intro j
      rw [List.getElem?_map]
      cases hj : acc.toList[j]? with
      | none =>
        have q1 := List.getElem?_eq_none_iff.mp hj
        rw [List.getElem?_eq_none (by omega)]
        rfl
      | some v =>
        obtain ⟨en, hen, hv⟩ := hacc.2 j v (by rw [← Array.getElem?_toList]; exact hj)
        have qe := congrArg (fun l : List DictEntry => l[j]?) h8
        simp only [List.getElem?_map] at qe
        rw [Array.getElem?_toList, hen] at qe
        cases hb : us[j]? with
        | none => rw [hb] at qe; cases qe
        | some b =>
          rw [hb] at qe
          have e2 := Option.some.inj qe
          rw [hv, e2]
          rfl
    rw [ea]
    exact refsT h4
  | lS od u kvs => exact absurd rfl ((hl od u).1 kvs)
  | lT od u kvs => exact absurd rfl ((hl od u).2 kvs)
  | _ => cases hk

/-! ### list(d), len(d) -/
def dictKeys (S : DS) : D → Option (List D)
  | .ref ad => match S ad with
    | some (.dS kvs) => some (kvs.map fun p => .str p.1)
    | some (.dT kvs) => some (kvs.map (·.1))
    | _ => none
  | _ => none
theorem dictKeys_ok {d : D} {ks : List D} (h : dictKeys S d = some ks) : ∃ ad c, d = .ref ad ∧ S ad = some c ∧ keysOf c = some ks ∧ ∀ od u, (∀ kvs, c ≠ .lS od u kvs) ∧ ∀ kvs, c ≠ .lT od u kvs := by
  cases d with
  | ref ad =>
    simp only [dictKeys] at h
    cases q : S ad with
    | none => rw [q] at h; cases h
    | some c =>
      rw [q] at h
      refine ⟨ad, c, rfl, q, ?_⟩
      cases c with
      | dS kvs => cases h; exact ⟨rfl, fun _ _ => ⟨fun _ z => (by cases z), fun _ z => (by cases z)⟩⟩
      | dT kvs => cases h; exact ⟨rfl, fun _ _ => ⟨fun _ z => (by cases z), fun _ z => (by cases z)⟩⟩
      | _ => cases h
  | _ => cases h
/-- a rule that is told over data from the first -/
def rDat (X : Cx) (g : DCall) : List V → Hp → VK → Prop := fun xs H Q => ∃ F S ds d, Rl X S H F ∧ RpL X.K F xs ds ∧ g S ds = some d ∧ ∀ v H' F', Ex F F' → Rl X S H' F' → Rp X.K F' v d → Q v H'
def rDatL (X : Cx) (g : DCallL) : List V → Hp → VK → Prop := fun xs H Q => ∃ F S ds zs, Rl X S H F ∧ RpL X.K F xs ds ∧ g S ds = some zs ∧ ∀ p H', H p = none → Rl X (put S p (.lst zs)) H' F → Q (.ref p) H'
theorem of_dat {g : DCall} : CallF X (rDat X g) g := fun xs ds H F S d rl rx ed Q k => ⟨F, S, ds, d, rl, rx, ed, k⟩
theorem of_datL {g : DCallL} : CallFL X (rDatL X g) g := fun xs ds H F S zs rl rx ed Q k => ⟨F, S, ds, zs, rl, rx, ed, k⟩
def gListDict : DCallL := fun S ds => match ds with
  | [x] => dictKeys S x
  | _ => none
theorem call_listDict (hc : X.calm = true) : CallR X (.type "list") (rDatL X gListDict) := by
  intro pins s σ H xs us Q I r h
  obtain ⟨F, S, ds, ks, rl, rp, hk, q⟩ := h
  match ds, rp, hk with
  | [], _, hk => cases hk
  | _ :: _ :: _, _, hk => simp only [gListDict] at hk; cases hk
  | [dx], rp, hk =>
    obtain ⟨x, rfl, rz⟩ := rp.one
    obtain ⟨ad, c, rfl, hS, hk2, hnl⟩ := dictKeys_ok hk
    cases rz
    obtain ⟨u, rfl, ru⟩ := vals1 r
    cases ru
    obtain ⟨vs, n, P, OK, D, rv⟩ := dsrc I rl hS hk2 hnl
    refine PySem.W.kdl_call D.src (I.ok.hd hc) D.ok D.le fun h' tk acc' c' hkeep hLst hacc => ?_
    have hz : vs.length ≤ sizeLine := by rw [D.len]; exact D.le
    have hp : H s.heap.objs.size = none := I.hok.fresh (Nat.le_refl _)
    refine ⟨.ref s.heap.objs.size, upd H s.heap.objs.size (.lst vs), I.laid (t' := tk) hkeep (Nat.le_refl _) (show ObjOk X.prog X.w _ _ _ (.lst vs) from ⟨hz, acc'.toList, c', D.items _ hacc, by rw [Array.toArray_toList]; exact hLst⟩), rfl, ?_⟩
    exact q _ _ hp (rl.fresh (c := .lst ks) (o := .lst vs) hp ⟨_, upd_same, rv⟩)
theorem fl_listDict {α : EF} (hc : X.calm = true) (hg : Gl X "list") (hm : X.mg "list" = none) (ha : FE X e α) (he : starEach [e] X.env = (false, eval e X.env) :: starEach [] X.env := by rfl) : WE X (.Call (.Name "list" p) [e] [] pos) (asCell (fL (lCall gListDict (aCons α aNil)))) :=
  fl_wCall (we_callTL (call_listDict hc) of_datL hg hm (by decide +kernel) (fa_cons ha fa_nil he) (he := he))
/-- len of a dict -/
def gLenDict : DCall := fun S ds => match ds with
  | [x] => (dictKeys S x).map fun ks => .int ks.length
  | _ => none
theorem len_raw {A : Around} {E : Value → Shared → Prop} {s : Shared} {P : Program} {w : World} {d : Addr} {es : Array DictEntry} {ep : Nat} {Q : Value → Shared → Prop} (hd : (d == sysModules) = false) (hm : s.heap.DictRaw d es ep) (hz : (es.size : Int) < 2 ^ 63)
    (h : Q (.int es.size (s.toks + 1)) { s with toks := s.toks + 1 + 1 }) : wpAny (model P w) A (call (.builtin "len") [.ref d]) Q E s := by
  refine Calls.call_function_entry PySem.kind_len PySem.plain_len PySem.entry_len (PySem.args_len1 _) ?_
  unfold Builtin.«len»
  refine wpAny_bind (m := oneArg "len" _) (wpAny_pure ?_)
  refine wpAny_bind (m := callSpecial? (.ref d) (Str.ofString "__len__")) (wpAny_callSpecial?_slot (name := Str.ofString "__len__") hm.typeIs F.slot_dict_len (call_len_raw hd hm ?_))
  show wpAny _ _ _ _ _ { s with toks := s.toks + 1 }
  refine wpAny_bind (wpAny_holding (wpAny_pure ?_))
  refine wpAny_bind (wpAny_letGo ?_)
  show wpAny _ _ (if ((es.size : Nat) : Int) < 0 then _ else _) _ _ _
  rw [if_neg (by omega)]
  show wpAny _ _ (if ((es.size : Nat) : Int) ≥ 2 ^ 63 then _ else _) _ _ _
  rw [if_neg (by omega)]
  exact wpAny_bind (wpAny_mkInt (wpAny_pure ⟨_, rfl, h⟩))
theorem call_lenDict : CallR X (.builtin "len") (rDat X gLenDict) := by
  intro pins s σ H xs us Q I r h
  obtain ⟨F, S, ds, d, rl, rp, hk, q⟩ := h
  match ds, rp, hk with
  | [], _, hk => cases hk
  | _ :: _ :: _, _, hk => simp only [gLenDict] at hk; cases hk
  | [dx], rp, hk =>
    obtain ⟨ks, h1, h2⟩ := Option.map_eq_some_iff.mp (show (dictKeys S dx).map (fun ks => D.int ks.length) = some d from hk)
    subst h2
    obtain ⟨x, rfl, rz⟩ := rp.one
    obtain ⟨ad, c, rfl, hS, hk2, hnl⟩ := dictKeys_ok h1
    cases rz
    obtain ⟨u, rfl, ru⟩ := vals1 r
    cases ru
    obtain ⟨hF, ok⟩ := rl.cell ad c hS
    have hs63 := line63
    have fin : ∀ (es : Array DictEntry) (ep : Nat), (ad == sysModules) = false → s.heap.DictRaw ad es ep → es.size ≤ sizeLine → es.size = ks.length → wpAny (model X.prog X.w) X.A (call (.builtin "len") [.ref ad]) (EP X pins σ Q) X.xe s := by
      intro es ep hd hm hz hl
      refine len_raw hd hm (by omega) ?_
      have I1 : Inv X pins σ H { s with toks := s.toks + 1 + 1 } := I.tok _
      exact ⟨.int es.size, H, I1, ⟨_, rfl⟩, by rw [hl]; exact q _ H F (Ex.refl F) rl (.int _)⟩
    cases c with
    | dS kvs =>
      cases hk2
      obtain ⟨gs, g1, g2⟩ := ok
      obtain ⟨z, lo, vs, rel, dd⟩ := dk_of I.hok g1
      have hl : vs.length = kvs.length := by rw [← rel.length, ← pairedLen g2]
      refine call_len_dict lo dd (by rw [← rel.length]; omega) ?_
      have I1 : Inv X pins σ H { s with toks := s.toks + 1 + 1 } := I.tok _
      exact ⟨.int vs.length, H, I1, ⟨_, rfl⟩, by rw [hl]; simpa using q _ H F (Ex.refl F) rl (.int _)⟩
    | dT kvs =>
      cases hk2
      obtain ⟨xs, g1, g2⟩ := ok
      obtain ⟨⟨h1, h2, h3, us, o, es, ep, h4, h5, h6, h7, h8⟩, _⟩ : ObjOk X.prog X.w H s.heap ad (.ext (DTphi X.prog X.w ad xs)) := I.hok ad _ g1
      have l1 : es.size = us.length := by rw [← Array.length_toList, h8, List.length_map]
      have l2 : xs.length = us.length := pairedLen h4
      have l3 : kvs.length = xs.length := pairedLen g2
      exact fin es ep h2 ⟨o, h5, h6, h7⟩ (by omega) (by rw [List.length_map]; omega)
    | lS od u kvs => exact absurd rfl ((hnl od u).1 kvs)
    | lT od u kvs => exact absurd rfl ((hnl od u).2 kvs)
    | _ => cases hk2
theorem fe_lenDict {α : EF} (hg : Gl X "len") (hm : X.mg "len" = none) (ha : FE X e α) (he : starEach [e] X.env = (false, eval e X.env) :: starEach [] X.env := by rfl) : FE X (.Call (.Name "len" p) [e] [] pos) (dCall gLenDict (aCons α aNil)) :=
  fe_wCall (we_callB call_lenDict of_dat hg hm PySem.boot_len (fa_cons ha fa_nil he) (he := he))
end
end KD
set_option Elab.async false
set_option linter.all false
set_option maxRecDepth 100000
set_option maxHeartbeats 4000000
/-! Rules over data: sorted. -/
namespace KD
open PySem PySem.Spec PyProof.Rows L2 Evl
/-! data as the library's sorts read them; what cannot be sorted is a dict -/
mutual
def D.py : D → PyData
  | .non => .none
  | .bl b => .bool b
  | .int i => .int i
  | .str x => .str x
  | .ty _ => .dict []
  | .ref _ => .dict []
  | .tup xs => .tuple (D.pys xs)
  | .lst _ => .dict []
def D.pys : List D → List PyData
  | [] => []
  | d :: ds => D.py d :: D.pys ds
end
theorem pys_eq : ∀ ds : List D, D.pys ds = ds.map D.py
  | [] => rfl
  | d :: ds => by
    show D.py d :: D.pys ds = _
    rw [pys_eq ds]
    rfl
section
variable {X : Cx} {F F' : Hp} {H H' : Hp} {S S' : DS} {σ : L2.St} {ρ : Rho} {pos p pos' : Pos} {e f a b c o i value tg iter : Expr} {es : List Expr} {st : Stmt} {rest body : List Stmt}
mutual
theorem reads_d {pins : List (Addr × Obj)} {s : Shared} (I : Inv X pins σ H s) (rl : Rl X S H F) : ∀ {d : D} {v : V} {u : Value}, PySem.W.alike d.py d.py = true → Rp X.K F v d → RelV v u → Reads s.heap u d.py []
  | .non, _, _, _, .non, r => by
    obtain rfl : _ = Value.none := r
    exact .none
  | .bl b, _, _, _, .bl _, r => by
    obtain rfl : _ = Value.bool b := r
    exact .bool b
  | .int i, _, _, _, .int _, r => by
    obtain ⟨t, rfl⟩ : ∃ t, _ = Value.int i t := r
    exact .int i t
  | .str x, _, _, _, .str _, r => by
    obtain ⟨t, rfl⟩ : ∃ t, _ = Value.str x t := r
    exact .str x t
  | .ty _, _, _, h, _, _ => by simp [D.py, PySem.W.alike] at h
  | .ref _, _, _, h, _, _ => by simp [D.py, PySem.W.alike] at h
  | .lst _, _, _, h, _, _ => by simp [D.py, PySem.W.alike] at h
  | .tup xs, _, _, h, .tup (a := ad) hs hr, r => by
    obtain rfl : _ = Value.ref ad := r
    obtain ⟨its, rv, ⟨ob, h1, h2, n, h3⟩, _⟩ := I.tuple (ex_t rl.sub hs)
    have hh : PySem.W.alikeAll (D.pys xs) (D.pys xs) = true := by simpa [D.py, PySem.W.alike] using h
    exact .tuple h1 h2 h3 (readsAll_d I rl hh hr rv)
theorem readsAll_d {pins : List (Addr × Obj)} {s : Shared} (I : Inv X pins σ H s) (rl : Rl X S H F) : ∀ {ds : List D} {vs : List V} {us : List Value}, PySem.W.alikeAll (D.pys ds) (D.pys ds) = true → RpL X.K F vs ds → Vals vs us → ReadsAll s.heap us (D.pys ds) []
  | [], _, _, _, .nil, .nil => .nil
  | d :: ds, _, _, h, .cons r rs, .cons q qs => by
    obtain ⟨h1, h2⟩ := PySem.W.alike_all_cons (show PySem.W.alikeAll (D.py d :: D.pys ds) (D.py d :: D.pys ds) = true from h)
    exact ReadsAll.cons (as := []) (bs := []) (reads_d I rl h1 r q) (readsAll_d I rl h2 rs qs)
end
/-- what may be sorted so -/
structure SortOk (ds : List D) : Prop where
  alike : PySem.W.AllAlike (ds.map D.py)
  kind : PySem.W.Sortable (ds.map D.py)
  few : ds.length ≤ 1000000
  flat : ∀ d ∈ ds, (D.py d).depth < 32
def sortD (ds : List D) : List D := ds.mergeSort (PySem.W.dataLe false D.py)
theorem sortD_perm (ds : List D) : (sortD ds).Perm ds := List.mergeSort_perm ds _
theorem zip_each : ∀ {vs : List V} {us : List Value} {ds : List D}, Vals vs us → vs.length = ds.length → PySem.W.EachIs (fun u (q : D × V) => RelV q.2 u) us (ds.zip vs)
  | [], _, [], .nil, _ => .nil
  | [], _, _ :: _, _, h => by cases h
  | _ :: _, _, [], _, h => by cases h
  | v :: vs, _, d :: ds, .cons r t, h => .cons r (zip_each t (by simpa using h))
theorem each_mem2 {α β : Type} {R : α → β → Prop} {Q : α → β → Prop} (h : ∀ u q, R u q → Q u q) : ∀ {us : List α} {qs : List β}, PySem.W.EachIs R us qs → PySem.W.EachIs Q us qs
  | _, _, .nil => .nil
  | _, _, .cons r t => .cons (h _ _ r) (each_mem2 h t)
theorem zip_reads {pins : List (Addr × Obj)} {s : Shared} (I : Inv X pins σ H s) (rl : Rl X S H F) : ∀ {vs : List V} {us : List Value} {ds : List D}, Vals vs us → RpL X.K F vs ds → (∀ d ∈ ds, PySem.W.alike d.py d.py = true) → PySem.W.EachIs (fun u (q : D × V) => Reads s.heap u q.1.py []) us (ds.zip vs)
  | _, _, _, .nil, .nil, _ => .nil
  | _, _, _, .cons r t, .cons q qs, h => .cons (reads_d I rl (h _ List.mem_cons_self) q r) (zip_reads I rl t qs fun d hd => h d (List.mem_cons_of_mem _ hd))
theorem each_out : ∀ {out : List Value} {qs : List (D × V)}, PySem.W.EachIs (fun u (q : D × V) => RelV q.2 u) out qs → Vals (qs.map (·.2)) out
  | _, _, .nil => .nil
  | _, _, .cons r t => .cons r (each_out t)
theorem rpl_zip : ∀ {vs : List V} {ds : List D}, RpL X.K F vs ds → ∀ q ∈ ds.zip vs, Rp X.K F q.2 q.1
  | _, _, .nil, q, h => by cases h
  | _, _, .cons r t, q, h => by
    rcases List.mem_cons.mp h with e | e
    · subst e; exact r
    · exact rpl_zip t q e
theorem rpl_of : ∀ {qs : List (D × V)}, (∀ q ∈ qs, Rp X.K F q.2 q.1) → RpL X.K F (qs.map (·.2)) (qs.map (·.1))
  | [], _ => .nil
  | q :: qs, h => .cons (h q List.mem_cons_self) (rpl_of fun z hz => h z (List.mem_cons_of_mem _ hz))
theorem zip_fst : ∀ {vs : List V} {ds : List D}, vs.length = ds.length → (ds.zip vs).map (·.1) = ds
  | [], [], _ => rfl
  | _ :: _, [], h => by cases h
  | [], _ :: _, h => by cases h
  | _ :: vs, _ :: ds, h => by
    rw [List.zip_cons_cons, List.map_cons, zip_fst (by simpa using h)]
abbrev encP : D × V → PyData := fun q => q.1.py
/-- the sorted pairs tell the sorted list -/
theorem sorted_back {vs : List V} {ds : List D} (r : RpL X.K F vs ds) {out : List Value} (h : PySem.W.EachIs (fun u (q : D × V) => RelV q.2 u) out ((ds.zip vs).mergeSort (PySem.W.dataLe false encP))) :
    ∃ ws, Vals ws out ∧ RpL X.K F ws (sortD ds) ∧ ws.length = ds.length := by
  have hl := r.length
  refine ⟨_, each_out h, ?_, ?_⟩
  · have e : (((ds.zip vs).mergeSort (PySem.W.dataLe false encP)).map (·.1)) = sortD ds := by
      rw [List.map_mergeSort (r := PySem.W.dataLe false encP) (s := PySem.W.dataLe false D.py) (f := fun q : D × V => q.1) (l := ds.zip vs) (fun a _ b _ => rfl), zip_fst hl]
      rfl
    rw [← e]
    exact rpl_of fun q hq => rpl_zip r q (((List.mergeSort_perm _ _).mem_iff).mp hq)
  · rw [List.length_map, (List.mergeSort_perm _ _).length_eq, List.length_zip, hl, Nat.min_self]
/-- sorted of a list: settled, or a cell -/
def rSortD (X : Cx) : List V → Hp → VK → Prop := fun xs H Q => ∃ F S d ds, Rl X S H F ∧ RpL X.K F xs [d] ∧ (lstOf S d = some ds ∨ dictKeys S d = some ds) ∧ SortOk ds ∧ ∀ p H', H p = none → Rl X (put S p (.lst (sortD ds))) H' F → Q (.ref p) H'
theorem alike_self {ds : List D} (h : SortOk ds) : ∀ d ∈ ds, PySem.W.alike d.py d.py = true := fun d hd => h.alike _ (List.mem_map_of_mem hd) _ (List.mem_map_of_mem hd)
theorem zip_enc {vs : List V} {ds : List D} (h : vs.length = ds.length) : (ds.zip vs).map encP = ds.map D.py := by
  have e := congrArg (List.map D.py) (zip_fst h)
  rw [List.map_map] at e
  exact e
theorem call_sortD (hc : X.calm = true) (hu : X.A.units + 64 < cLine) : CallR X (.builtin "sorted") (rSortD X) := by
  intro pins s σ H xs us Q I r h
  obtain ⟨F, S, d, ds, rl, rp, hk, ok, q⟩ := h
  obtain ⟨x, rfl, rz⟩ := rp.one
  have hz : ds.length ≤ sizeLine := Nat.le_trans ok.few (by rw [sizeLine_eq]; decide)
  rcases hk with hk | hk
  · obtain ⟨ad, vs, rfl, hs, hr⟩ := lstOf_ok rl rz hk
    obtain ⟨u, rfl, ru⟩ := vals1 r
    cases ru
    obtain ⟨its, rv, pl, _⟩ := I.list hs
    have hl := hr.length
    refine PySem.W.sorted_data (R := fun u (q : D × V) => RelV q.2 u) (enc := encP) (bs := ds.zip vs) pl.isList (zip_each rv hl) (each_mem2 (fun _ _ z => ⟨[], z⟩) (zip_reads I rl rv hr (alike_self ok)))
      (by rw [zip_enc hl]; exact ok.alike) (by rw [zip_enc hl]; exact ok.kind) (by rw [List.length_zip, hl, Nat.min_self]; exact hz) (fun b hb => ?_) fun out ho he => ?_
    · have hm : b.1 ∈ ds := (List.of_mem_zip (a := b.1) (b := b.2) hb).1
      have := ok.flat _ hm
      show X.A.units + 2 + (D.py b.1).depth < cLine
      omega
    · obtain ⟨ws, w1, w2, w3⟩ := sorted_back hr he
      obtain ⟨n, hn⟩ := sortedAll_at s.heap its out.toArray
      have hp : H (s.heap.objs.size + 1) = none := I.hok.fresh (Nat.le_succ _)
      refine ⟨.ref _, upd H (s.heap.objs.size + 1) (.lst ws), I.laid (t' := s.toks) (fun b o e => sortedAll_old e) (Nat.le_succ _) (show ObjOk X.prog X.w _ _ _ (.lst ws) from ⟨by rw [w3]; exact hz, out, n, w1, hn⟩), rfl, ?_⟩
      exact q _ _ hp (rl.fresh (c := .lst (sortD ds)) (o := .lst ws) hp ⟨_, upd_same, w2⟩)
  · obtain ⟨ad, c, rfl, hS, hk2, hnl⟩ := dictKeys_ok hk
    cases rz
    obtain ⟨u, rfl, ru⟩ := vals1 r
    cases ru
    obtain ⟨vs, n, P, OK, Ds, hr⟩ := dsrc I rl hS hk2 hnl
    have hl := hr.length
    refine Calls.call_function_entry PyProof.Rows.kind_sorted PyProof.Rows.plain_sorted PyProof.Rows.entry_sorted (PyProof.Rows.args_sorted1 _) ?_
    unfold Builtin.«sorted»
    refine wpAny_bind (m := checkCount "sorted" 1 1 _) (wpAny_pure ?_)
    refine wpAny_bind (PySem.W.kdu_collect (A := X.A.in1) Ds.src (I.ok.hd hc) Ds.ok Ds.le fun h' tk acc hk hacc => ?_)
    have rv := Ds.items _ hacc
    have hal : acc.toList.length = ds.length := by rw [← rv.length, hl]
    have I1 : Inv X pins σ H { s with heap := h', toks := tk } := I.kept hk
    refine wpAny_bind (wpAny_newList ?_ (by rw [hal]; exact hz))
    have hoL : (h'.push (seqObj "list" acc.toList.toArray 0)).get? h'.objs.size = some (seqObj "list" acc.toList.toArray 0) := Heap.get?_push_size _ rfl
    show wpAny _ _ _ _ _ { s with heap := h'.push (seqObj "list" acc.toList.toArray 0), toks := tk }
    have hreads := zip_reads I1 rl rv hr (alike_self ok)
    refine wpAny_bind (wpAny_holding (PySem.W.list_sort_data (s := { s with heap := h'.push (seqObj "list" acc.toList.toArray 0), toks := tk }) (R := fun u (q : D × V) => RelV q.2 u) (enc := encP) (bs := ds.zip vs) hoL (zip_each rv hl)
      (each_mem2 (fun _ _ z => ⟨[], PyProof.Rows.Reads.keeps (fun _ _ e => Heap.get?_push_of_some _ e) z, by simp⟩) hreads)
      (by rw [zip_enc hl]; exact ok.alike) (by rw [zip_enc hl]; exact ok.kind) (by rw [List.length_zip, hl, Nat.min_self]; exact hz) (fun b hb => ?_) fun out ho he => ?_))
    · have hm : b.1 ∈ ds := (List.of_mem_zip (a := b.1) (b := b.2) hb).1
      have := ok.flat _ hm
      show X.A.units + 1 + 1 + (D.py b.1).depth < cLine
      omega
    · obtain ⟨ws, w1, w2, w3⟩ := sorted_back hr he
      obtain ⟨e', he'⟩ := PyProof.Rows.sortedHeap_at (vs := acc.toList) (out := out.toArray) hoL
      have hp : H h'.objs.size = none := I1.hok.fresh (Nat.le_refl _)
      refine wpAny_pure ⟨_, rfl, .ref h'.objs.size, upd H h'.objs.size (.lst ws), I1.laid (t' := tk) (fun b u e => ?_) (Nat.le_refl _)
        (show ObjOk X.prog X.w _ _ _ (.lst ws) from ⟨by rw [w3]; exact hz, out, e', w1, he'⟩), rfl, q _ _ hp (rl.fresh (c := .lst (sortD ds)) (o := .lst ws) hp ⟨_, upd_same, w2⟩)⟩
      have hb : b < h'.objs.size := Heap.lt_size e
      rw [PyProof.Rows.sortedHeap_old (Nat.ne_of_lt hb) (by rw [size_push']; exact Nat.lt_succ_of_lt hb)]
      exact Heap.get?_push_of_some _ e
/-- sorted(..): a new list -/
def lSort (U : DA) : DL := fun ρ S R => U ρ S fun zs S1 => ∃ d ds, zs = [d] ∧ (lstOf S1 d = some ds ∨ dictKeys S1 d = some ds) ∧ SortOk ds ∧ R (sortD ds) S1
theorem we_sorted {U : DA} (hc : X.calm = true) (hu : X.A.units + 64 < cLine) (hg : Gl X "sorted") (hm : X.mg "sorted" = none) (ha : WA X [e] U) (he : starEach [e] X.env = (false, eval e X.env) :: starEach [] X.env := by rfl) : WE X (.Call (.Name "sorted" p) [e] [] pos) (asCell (lSort U)) :=
  PE.imp (pe_callB (call_sortD hc hu) hg hm PyProof.Rows.boot_sorted ha (he := he)) fun σ H Q ⟨F, ρ, S, Q', rl, en, t, k⟩ =>
  ⟨F, ρ, S, _, rl, en, t, fun vs H1 F1 S1 ds x1 r1 p1 ⟨d, ks, e1, hk, ok, q⟩ => by
    subst e1
    exact ⟨F1, S1, d, ks, r1, p1, hk, ok, fun ad H2 hp r2 => k (.ref ad) H2 F1 _ _ x1 r2 (.ref ad) (q ad (r1.free hp).1)⟩⟩
end
end KD
set_option Elab.async false
set_option linter.all false
set_option maxRecDepth 100000
set_option maxHeartbeats 4000000
/-! Rules over data: enumerate of a tuple; dicts walked while they are locked. -/
namespace KD
open PySem PySem.Spec PyProof.Rows L2 Evl
theorem enum_newB {v : Value} {o : Obj} {H : Heap → Prop} (B : Begins v o H) :
    Meets (Builtin.«enumerate.__new__» ⟨[.type "enumerate", v], []⟩) (fun _ R s => H s.heap ∧
      R (.ok (.ret (.ref (s.heap.push o).objs.size))) { s with heap := (s.heap.push o).push { cls := .type "enumerate", data := .fields #[.none, .bool false, .ref s.heap.objs.size, rawInt 0, .none, .none] } }) :=
  .of_wp fun prog w A R s h => by
    obtain ⟨hp, g, d, tk, os⟩ := s; obtain ⟨h1, h⟩ := h
    have hsub := sub_enumerate
    have q1 : ∀ {A' : Around} {E : Value → Shared → Prop} {Q : Value → Shared → Prop}, Q (.ref hp.objs.size) ⟨hp.push o, g, d, tk, os⟩ → wpAny (model prog w) A' (pyIter v) Q E ⟨hp, g, d, tk, os⟩ :=
      fun q => B.iter prog w _ _ ⟨hp, g, d, tk, os⟩ _ h1 q
    wp_walk using q1
    refine wpAny_stack_any fun st => wpAny_pure ?_
    split
    · rename_i c _ _ _ _ _
      cases (c == Value.type "enumerate")
      · wp_walk using q1
        exact ⟨_, rfl, h⟩
      · wp_walk using q1
        exact ⟨_, rfl, h⟩
    · wp_walk using q1
      exact ⟨_, rfl, h⟩
section
variable {prog : Program} {w : World} {A : Around} {E : Value → Shared → Prop} {s : Shared}
theorem enum1_begins {v : Value} {o : Obj} {H : Heap → Prop} {Q : Value → Shared → Prop} (B : Begins v o H) (h1 : H s.heap)
    (h : ∀ h', IsEnum h' (s.heap.objs.size + 1) s.heap.objs.size 0 .none → h'.get? s.heap.objs.size = some o → h'.objs.size = s.heap.objs.size + 2 →
      (∀ b o, s.heap.get? b = some o → h'.get? b = some o) → Q (.ref (s.heap.objs.size + 1)) { s with heap := h' }) :
    wpAny (model prog w) A (call (.type "enumerate") [v]) Q E s := by
  refine callType_new F.called_enumerate (by decide) (F.typeCall_enumerate_1 _) (F.newCall_enumerate_1 _) (fun obj => F.args_object_init_2 obj _) F.entry_enumerate_new
    (enum_newB B) ⟨h1, ?_⟩
  have hz : (s.heap.push o).objs.size = s.heap.objs.size + 1 := Heap.size_push ..
  show _ ∧ _
  rw [hz]
  have he : IsEnum ((s.heap.push o).push { cls := .type "enumerate", data := .fields #[.none, .bool false, .ref s.heap.objs.size, rawInt 0, .none, .none] }) (s.heap.objs.size + 1) s.heap.objs.size 0 .none := by
    have := Heap.get?_push_size (s.heap.push o) (o := { cls := .type "enumerate", data := .fields #[.none, .bool false, .ref s.heap.objs.size, rawInt 0, .none, .none] }) rfl
    rw [hz] at this; exact this
  refine ⟨⟨_, he, rfl⟩, h _ he (Heap.get?_push_of_some _ (Heap.get?_push_size _ B.free)) (by rw [Heap.size_push, hz]) fun b o x => Heap.get?_push_of_some _ (Heap.get?_push_of_some _ x)⟩
end
/-- the tuple at a, its items in new pairs -/
def Iet (K : PySem.W.Frag) (a : Addr) : It :=
  ⟨fun i H => ∃ (xs : List V) (x : V), SqT K H a xs ∧ xs[i]? = some x, fun i H v H' => ∃ T x, v = .ref T ∧ H T = none ∧ H' = upd H T (.tup [.int (i : Nat), x]) ∧ ∀ xs, SqT K H a xs → xs[i]? = some x, fun i H => ∃ xs : List V, SqT K H a xs ∧ xs.length = i⟩
theorem turn_enumT {P : Program} {w : World} {K : PySem.W.Frag} {elts : List Expr} {kk : Nat} {tpos : Pos} (a e it : Addr) :
    Turn P w K (.Tuple elts kk tpos) (Iet K a) [e, it] e (fun i h => (∃ old, IsEnum h e it ((i : Nat) : Int) old) ∧ h.IsTupleIter it a i ∧ e ≠ it) where
  mem := by simp
  obj := fun i h st b hb => by
    obtain ⟨⟨old, he⟩, ⟨o, ho, hc, hd⟩, _⟩ := st
    have e' : b = e ∨ b = it := by simpa using hb
    rcases e' with z | z
    · rw [z]; exact ⟨_, he, fun v q => nomatch q⟩
    · rw [z]; exact ⟨o, ho, fun v q => by rw [hd] at q; cases q⟩
  keep := fun i h h' st k => let ⟨⟨old, he⟩, hi, hne⟩ := st; ⟨⟨old, k e (by simp) _ he⟩, hi.at fun o q => k it (by simp) o q, hne⟩
  item := by
    intro X hP hw hK hc i pins s σ H E I hf st hg
    subst hP hw hK
    obtain ⟨⟨old, he⟩, hit, hne⟩ := st
    obtain ⟨xs, x, hq, hx⟩ := hg
    obtain ⟨its, rv, p, hz⟩ := I.tuple hq
    obtain ⟨u, hu, ru⟩ := rv.get hx
    have hel : e < s.heap.objs.size := Heap.lt_size he
    have hil : it < s.heap.objs.size := by obtain ⟨_, q, _⟩ := hit; exact Heap.lt_size q
    have hlen := rv.length
    have hai : a ≠ it := fun z => by
      obtain ⟨o1, g1, c1, _⟩ := p
      obtain ⟨o2, g2, c2, _⟩ := hit
      rw [z, g2] at g1
      cases g1
      rw [c2] at c1
      exact absurd (Value.type.inj c1) (by decide)
    have hi : i < its.toArray.size := by
      have h1 : i < xs.length := by
        rcases Nat.lt_or_ge i xs.length with z | z
        · exact z
        · rw [List.getElem?_eq_none z] at hx; cases hx
      rw [List.size_toArray]; omega
    refine wpAny_pyNext_enum_itemD (Draws.tuple (prog := X.prog) (w := X.w) (A := X.A.in1) (I.ok.hd hc) it a hai its.toArray) he ⟨hit, show s.heap.IsTuple a its.toArray from p⟩ hi hne ?_ fun y h' tk hP ho hst' hT hsz hk => ?_
    · intro z
      have z' : e = it ∨ e = a := by simpa using z
      rcases z' with z | z
      · exact hne z
      · obtain ⟨o1, g1, c1, _⟩ := p
        rw [← z, show s.heap.get? e = _ from he] at g1
        cases g1
        exact absurd (Value.type.inj c1) (by decide)
    have ey : y = u := by
      have hP' : its.toArray[i]? = some y := hP
      rw [← Array.getElem?_toList] at hP'
      have : its[i]? = some y := hP'
      rw [hu] at this
      cases this
      rfl
    subst ey
    refine ⟨_, rfl, wpAny_letOwnedTupleGo_enum (s := { s with heap := h', toks := tk + 1 }) ho fun h'' he' sb => ?_⟩
    have hT2 : h''.get? s.heap.objs.size = some { cls := .type "tuple", data := .seq #[.int i tk, y] } := (sb.2 _ (Nat.ne_of_gt hel)).trans hT
    have new : ObjOk X.prog X.w (upd H s.heap.objs.size (.tup [.int (i : Nat), x])) h'' s.heap.objs.size (.tup [.int (i : Nat), x]) :=
      ⟨by show 2 ≤ sizeLine; decide, [.int i tk, y], .cons ⟨_, rfl⟩ (.cons ru .nil), ⟨_, hT2, rfl, _, rfl⟩⟩
    have I1 : Inv X pins σ (upd H s.heap.objs.size (.tup [.int (i : Nat), x])) { s with heap := h'', toks := tk + 1 } :=
      I.turnedNew (ch := [e, it]) (fun b ob hb q => (sb.2 b (fun z => hb (by simp [z]))).trans (hk b ob (fun z => hb (by simp [z])) (fun z => hb (by simp [z])) q)) hf (Nat.le_refl _) new
    refine ⟨.ref s.heap.objs.size, _, I1, rfl, ⟨_, x, rfl, I.hok.fresh (Nat.le_refl _), rfl, fun ys hy => by rw [I.tuple_inj hy hq]; exact hx⟩, ⟨⟨y, ?_⟩, hst'.1.at fun o q => (sb.2 it (Ne.symm hne)).trans q, hne⟩, fun b hb => ?_⟩
    · have e1 : ((i + 1 : Nat) : Int) = (i : Int) + 1 := by omega
      rw [e1]; exact he'
    · have hb' : b < s.heap.objs.size := by
        have e' : b = e ∨ b = it := by simpa using hb
        rcases e' with z | z
        · rw [z]; exact hel
        · rw [z]; exact hil
      rw [upd_ne (Nat.ne_of_lt hb')]
      exact (hf b hb).1
  done := by
    intro X hP hw hK hc i pins s σ H E I hf st hg
    subst hP hw hK
    obtain ⟨⟨old, he⟩, hit, hne⟩ := st
    obtain ⟨xs, hq, hx⟩ := hg
    obtain ⟨its, rv, p, hz⟩ := I.tuple hq
    obtain ⟨f0, f1, f2, f3, f4, f5⟩ := hf it (by simp)
    have hl := rv.length
    have hai : a ≠ it := fun z => by
      obtain ⟨o1, g1, c1, _⟩ := p
      obtain ⟨o2, g2, c2, _⟩ := hit
      rw [z, g2] at g1
      cases g1
      rw [c2] at c1
      exact absurd (Value.type.inj c1) (by decide)
    have hn : i = its.toArray.size := by rw [List.size_toArray]; omega
    rw [hn] at hit
    exact wpAny_pyNext_enum_endD (Draws.tuple (prog := X.prog) (w := X.w) (A := X.A.in1) (I.ok.hd hc) it a hai its.toArray) he ⟨hit, show s.heap.IsTuple a its.toArray from p⟩ fun h' eb => ⟨rfl, I.turned (t' := s.toks) (fun b o hb q => eb b o hb q) f0 f1 f3 f4 f5⟩
  self := fun A i s Q E st h => let ⟨⟨_, he⟩, _⟩ := st; wpAny_pyIter_enum he h
section
variable {X : Cx} {F F' : Hp} {H H' : Hp} {S S' : DS} {σ : L2.St} {ρ : Rho} {pos p pos' : Pos} {e f a b c o i value tg iter : Expr} {es : List Expr} {st : Stmt} {rest body : List Stmt}
def iEnumT (K : PySem.W.Frag) (ta : TA) : TI := fun σ H R => ta σ H fun vs H1 => ∃ a xs, vs = [.ref a] ∧ SqT K H1 a xs ∧ R (Iet K a) H1
theorem pi_enumT {ta : TA} {tpos : Pos} {elts : List Expr} {kk : Nat} (hg : Gl X "enumerate") (hm : X.mg "enumerate" = none) (ha : PA X [e] ta) (hs : starEach [e] X.env = [(false, eval e X.env)] := by rfl) :
    PI X (.Tuple elts kk tpos) (.Call (.Name "enumerate" p) [e] [] pos) (iEnumT X.K ta) := by
  refine ⟨fun pins s σ H R I h => ?_⟩
  refine Call_ (ld_blt I hg hm boot_enumerate (PyProof.Rows.callWith_type1 (thn (ha.run pos pins s σ H _ I h) fun us s1 ⟨vs, H1, I1, r1, q1⟩ => ?_) hs rfl))
  obtain ⟨ad, xs, ex, hq, q⟩ := q1
  subst ex
  cases r1 with
  | cons r rr =>
    cases rr
    cases r
    obtain ⟨its, rv, p', hz⟩ := I1.tuple hq
    refine enum1_begins (begins_tuple ad its.toArray) (show s1.heap.IsTuple ad its.toArray from p') fun h' he hit hsz hk => wpAny_pyIter_enum he ?_
    have I2 : Inv X pins σ H1 { s1 with heap := h' } := I1.kept (t' := s1.toks) hk
    refine ⟨s1.heap.objs.size + 1, [s1.heap.objs.size + 1, s1.heap.objs.size], _, _, H1, rfl, I2, turn_enumT ad (s1.heap.objs.size + 1) s1.heap.objs.size, ⟨⟨.none, he⟩, ⟨_, hit, rfl, rfl⟩, Nat.succ_ne_self _⟩, fun b hb => ?_, q⟩
    have e' : b = s1.heap.objs.size + 1 ∨ b = s1.heap.objs.size := by simpa using hb
    have hle : s1.heap.objs.size ≤ b := by
      rcases e' with z | z
      · rw [z]; exact Nat.le_add_right _ _
      · rw [z]; exact Nat.le_refl _
    exact I1.fpOk hle (I1.hok.fresh hle)
/-- the pairs of enumerate -/
def enumD (ds : List D) : List D := ds.zipIdx.map fun p => .tup [.int (p.2 : Nat), p.1]
theorem enumD_len (ds : List D) : (enumD ds).length = ds.length := by unfold enumD; rw [List.length_map, List.length_zipIdx]
theorem enumD_get {ds : List D} {i : Nat} {d : D} (h : ds[i]? = some d) : (enumD ds)[i]? = some (.tup [.int (i : Nat), d]) := by
  unfold enumD
  rw [List.getElem?_map, List.getElem?_zipIdx, h]
  simp
theorem walkE {ad : Addr} {vs : List V} {ds : List D} {F0 : Hp} (hs : SqT X.K F0 ad vs) (r : RpL X.K F0 vs ds) : DWalk X (Iet X.K ad) GT F0 (enumD ds) :=
  ⟨fun i S H F x rl g hi => by
    obtain ⟨v, d, h1, _, _⟩ := r.lt_get (by rw [enumD_len] at hi; exact hi)
    exact ⟨vs, v, ex_t rl.sub (ex_t x hs), h1⟩,
  fun S H F x rl g => ⟨vs, ex_t rl.sub (ex_t x hs), by rw [r.length, enumD_len]⟩,
  fun i S H F v H' x rl g hi ⟨T, z, e1, hT, e2, y⟩ => by
    subst e1 e2
    obtain ⟨d, h1, h2⟩ := (r.mono x).get' (y vs (ex_t rl.sub (ex_t x hs)))
    obtain ⟨r2, x2⟩ := rl.settled (o := .tup [.int (i : Nat), z]) hT
    exact ⟨_, _, x2, r2, enumD_get h1, .tup (st_of upd_same) (.cons (.int _) (.cons (h2.mono x2) .nil))⟩⟩
def iEnumD (U : DA) : DI := fun ρ S Q => U ρ S fun zs S1 => ∃ ds, zs = [.tup ds] ∧ Q (enumD ds) GT S1
theorem wi_enum {U : DA} {tpos : Pos} {elts : List Expr} {kk : Nat} (hg : Gl X "enumerate") (hm : X.mg "enumerate" = none) (ha : WA X [e] U) (hs : starEach [e] X.env = [(false, eval e X.env)] := by rfl) : WI X (.Tuple elts kk tpos) (.Call (.Name "enumerate" p) [e] [] pos) (iEnumD U) :=
  PI.imp (pi_enumT hg hm ha hs) fun σ H R ⟨F, ρ, S, Q', rl, en, t, k⟩ =>
  ⟨F, ρ, S, _, rl, en, t, fun vs H1 F1 S1 zs x1 r1 p1 ⟨ds, e, q⟩ => by
    subst e
    obtain ⟨v, rfl, hv⟩ := p1.one
    cases hv with
    | tup hs hr => exact ⟨_, _, rfl, ex_t r1.sub hs, k _ H1 F1 S1 _ GT x1 r1 (walkE hs hr) q⟩⟩

/-! ### dicts, locked while they are walked -/
/-- the keys of a dict with n nested keys, locked -/
def Itn (P : Program) (w : World) (ad : Addr) (o : Obj) (n : Nat) : It :=
  ⟨fun i H => (∃ xs, H ad = some (.frz o (.ext (DTphi P w ad xs)))) ∧ i < n, fun i H x H' => H' = H ∧ ∀ xs, H ad = some (.frz o (.ext (DTphi P w ad xs))) → ∃ q, xs[i]? = some q ∧ x = .ref q.2.1, fun i H => (∃ xs, H ad = some (.frz o (.ext (DTphi P w ad xs)))) ∧ n ≤ i⟩
theorem frzN {pins : List (Addr × Obj)} {s : Shared} {ad : Addr} {o : Obj} {xs : List (NestedKey × Addr × V)} (I : Inv X pins σ H s) (h : H ad = some (.frz o (.ext (DTphi X.prog X.w ad xs)))) :
    (ad == sysModules) = false ∧ s.heap.get? ad = some o ∧ o.ExactDict ∧ ∃ es ep us, o.data = .dict es ep ∧ es.size = xs.length ∧ PT2 xs us ∧ es.toList = us.map (entryOfKey (nestedKind X.prog X.w)) := by
  obtain ⟨hg, ⟨h1, h2, h3, us, o', es, ep, h4, h5, h6, h7, h8⟩, _⟩ : ObjOk X.prog X.w H s.heap ad (.frz o (.ext (DTphi X.prog X.w ad xs))) := I.hok ad _ h
  rw [hg] at h5
  cases h5
  exact ⟨h2, hg, h6, es, ep, us, h7, by rw [← Array.length_toList, h8, List.length_map, pairedLen h4], h4, h8⟩
theorem turn_keysN {P : Program} {w : World} {K : PySem.W.Frag} {tg : Expr} {ad : Addr} {o : Obj} {es : Array DictEntry} {ep n : Nat} (it : Addr) (hod : o.data = .dict es ep) (hn : es.size = n) : Turn P w K tg (Itn P w ad o n) [it] it (fun i h => h.IsKeyIter it ad i n ep) where
  mem := by simp
  obj := fun i h st b hb => by
    have e : b = it := by simpa using hb
    subst e
    obtain ⟨oi, e, c, dd⟩ := st
    exact ⟨oi, e, fun v z => by rw [dd] at z; cases z⟩
  keep := fun i h h' st k => st.at fun oi e => k it (by simp) oi e
  item := by
    intro X hP hw hK hc i pins s σ H E I hf st hg
    subst hP hw hK
    obtain ⟨⟨xs, hd⟩, hi⟩ := hg
    obtain ⟨f0, f1, f2, f3, f4, f5⟩ := hf it (by simp)
    obtain ⟨hs, hgd, hx, es', ep', us, hdt, hsz, p2, ent⟩ := frzN I hd
    obtain ⟨rfl, rfl⟩ := dict_ep hod hdt
    obtain ⟨q, hq⟩ : ∃ q, xs[i]? = some q := ⟨xs[i], List.getElem?_eq_getElem (by omega)⟩
    obtain ⟨u, hu, hr⟩ := pairedGet p2 hq
    have hen : es'[i]? = some (entryOfKey (nestedKind X.prog X.w) u) := by
      rw [← Array.getElem?_toList, ent, List.getElem?_map, hu]
      rfl
    refine next_key_item st hgd hdt hn hen fun h' st' sb => ?_
    have I1 : Inv X pins σ H { s with heap := h' } := I.turned (t' := s.toks) (fun b ob hb e => (sb.2 b hb).trans e) f0 f1 f3 f4 f5
    obtain ⟨oi, e, c, dd⟩ := id st'
    refine ⟨_, rfl, go_of (s := { s with heap := h' }) e c dd (by decide) ⟨.ref q.2.1, H, I1, by
      show RelV (.ref q.2.1) (.ref u.2.1)
      rw [hr.2.1]
      rfl, ⟨rfl, fun ys hy => ?_⟩, st', fun b hb => (hf b hb).1⟩⟩
    obtain ⟨_, _, _, es2, ep2, us2, hdt2, hsz2, p3, ent2⟩ := frzN I hy
    obtain ⟨rfl, rfl⟩ := dict_ep hod hdt2
    obtain ⟨q2, hq2⟩ : ∃ q, ys[i]? = some q := ⟨ys[i]'(by omega), List.getElem?_eq_getElem (by omega)⟩
    obtain ⟨u2, hu2, hr2⟩ := pairedGet p3 hq2
    have hen2 : es2[i]? = some (entryOfKey (nestedKind X.prog X.w) u2) := by
      rw [← Array.getElem?_toList, ent2, List.getElem?_map, hu2]
      rfl
    rw [hen] at hen2
    have e3 : Value.ref u.2.1 = Value.ref u2.2.1 := congrArg DictEntry.key (Option.some.inj hen2)
    refine ⟨q2, hq2, ?_⟩
    rw [hr.2.1, hr2.2.1, Value.ref.inj e3]
  done := by
    intro X hP hw hK hc i pins s σ H E I hf st hg
    subst hP hw hK
    obtain ⟨⟨xs, hd⟩, hi⟩ := hg
    obtain ⟨f0, f1, f2, f3, f4, f5⟩ := hf it (by simp)
    obtain ⟨hs, hgd, hx, es', ep', us, hdt, hsz, p2, ent⟩ := frzN I hd
    obtain ⟨rfl, rfl⟩ := dict_ep hod hdt
    exact next_key_end (I.ok.hd hc) st hgd hdt hn hi fun h' eb => ⟨rfl, I.turned (t' := s.toks) (fun b ob hb e => eb b ob hb e) f0 f1 f3 f4 f5⟩
  self := fun A i s Q E st h => wpAny_pyIter_keyiter st h
def iKeysN (P : Program) (w : World) (td : TE) : TI := fun σ H R => td σ H fun x H1 => ∃ d o xs, x = .ref d ∧ H1 d = some (.frz o (.ext (DTphi P w d xs))) ∧ R (Itn P w d o xs.length) H1
theorem pi_keysN {td : TE} (he : PE X e td) : PI X tg e (iKeysN X.prog X.w td) := by
  refine ⟨fun pins s σ H R I h => ?_⟩
  refine thn (he.run pins s σ H _ I h) fun u s1 ⟨x, H1, I1, rx, d, o, xs, ex, hd, q⟩ => ?_
  subst ex
  obtain rfl : u = Value.ref d := rx
  obtain ⟨hs, hgd, hx, es, ep, us, hdt, hsz, p2, ent⟩ := frzN I1 hd
  refine iter_keys hs hgd hx hdt (pi_one (tk := s1.toks) I1 _ (turn_keysN _ hdt hsz) ⟨_, Heap.get?_push_size _ rfl, rfl, ?_⟩ q)
  rw [hsz] <;> rfl
theorem walkN {ad : Addr} {o : Obj} {u : HO} {kvs : List (D × D)} {F0 : Hp} : DWalk X (Itn X.prog X.w ad o kvs.length) (fun S => S ad = some (.lT o u kvs)) F0 (kvs.map (·.1)) :=
  ⟨fun i S H F x rl g hi => by
    obtain ⟨_, xs, ⟨h1, rfl⟩, h2⟩ := rl.cell ad _ g
    exact ⟨⟨xs, h1⟩, by rw [List.length_map] at hi; exact hi⟩,
  fun S H F x rl g => by
    obtain ⟨_, xs, ⟨h1, rfl⟩, h2⟩ := rl.cell ad _ g
    exact ⟨⟨xs, h1⟩, by rw [List.length_map]; exact Nat.le_refl _⟩,
  fun i S H F v H' x rl g hi ⟨e, y⟩ => by
    subst e
    obtain ⟨_, xs, ⟨h1, rfl⟩, h2⟩ := rl.cell ad _ g
    obtain ⟨q, hq, rfl⟩ := y xs h1
    obtain ⟨d, h3, h4⟩ := (keysT h2).get' (i := i) (v := .ref q.2.1) (by rw [List.getElem?_map, hq]; rfl)
    exact ⟨F, d, Ex.refl F, rl, h3, h4⟩⟩
/-- for k in d, d a locked dict with nested keys -/
def iKeysT (T : DE) : DI := fun ρ S Q => T ρ S fun d S1 => ∃ ad o u kvs, d = .ref ad ∧ S1 ad = some (.lT o u kvs) ∧ Q (kvs.map (·.1)) (fun S => S ad = some (.lT o u kvs)) S1
theorem wi_keysT {T : DE} (h : WE X e T) : WI X tg e (iKeysT T) := PI.imp (pi_keysN h) fun σ H R ⟨F, ρ, S, Q', rl, en, t, k⟩ =>
  ⟨F, ρ, S, _, rl, en, t, fun v H1 F1 S1 d x1 r1 p1 ⟨ad, o, u, kvs, ed, hs, q⟩ => by
    subst ed
    cases p1
    have w := walkN (X := X) (ad := ad) (o := o) (u := u) (kvs := kvs) (F0 := F1)
    obtain ⟨_, xs, ⟨h1, rfl⟩, h2⟩ := r1.cell ad _ hs
    refine ⟨ad, o, xs, rfl, h1, ?_⟩
    rw [← pairedLen h2]
    exact k _ H1 F1 S1 _ _ x1 r1 w q⟩
theorem walkK {ad : Addr} {o : Obj} {gs : List (Key × V)} {kvs : List (Str × D)} {F0 : Hp} (p0 : PS1 X.K F0 kvs gs) : DWalk X (Itk ad o gs) (fun S => S ad = some (.lS o (.dK gs) kvs)) F0 (kvs.map fun p => .str p.1) :=
  ⟨fun i S H F x rl g hi => by
    obtain ⟨_, xs, ⟨h1, e⟩, h2⟩ := rl.cell ad _ g
    exact ⟨h1, by rw [List.length_map, pairedLen p0] at hi; exact hi⟩,
  fun S H F x rl g => by
    obtain ⟨_, xs, ⟨h1, e⟩, h2⟩ := rl.cell ad _ g
    exact ⟨h1, by rw [List.length_map, pairedLen p0]; exact Nat.le_refl _⟩,
  fun i S H F v H' x rl g hi ⟨e, k, v', hk, ev⟩ => by
    subst e ev
    obtain ⟨d, h3, h4⟩ := ((keysS p0).mono x).get' (i := i) (v := kV k) (by rw [List.getElem?_map, hk]; rfl)
    exact ⟨F, d, Ex.refl F, rl, h3, h4⟩⟩
/-- .. with texts for keys -/
def iKeysS (T : DE) : DI := fun ρ S Q => T ρ S fun d S1 => ∃ ad o u kvs, d = .ref ad ∧ S1 ad = some (.lS o u kvs) ∧ Q (kvs.map fun p => .str p.1) (fun S => S ad = some (.lS o u kvs)) S1
theorem wi_keysS {T : DE} (h : WE X e T) : WI X tg e (iKeysS T) := PI.imp (pi_keys h) fun σ H R ⟨F, ρ, S, Q', rl, en, t, k⟩ =>
  ⟨F, ρ, S, _, rl, en, t, fun v H1 F1 S1 d x1 r1 p1 ⟨ad, o, u, kvs, ed, hs, q⟩ => by
    subst ed
    cases p1
    obtain ⟨_, gs, ⟨h1, rfl⟩, h2⟩ := r1.cell ad _ hs
    exact ⟨ad, o, rfl, .inl ⟨gs, h1, k _ H1 F1 S1 _ _ x1 r1 (walkK h2) q⟩⟩⟩
/-- a dict is locked while an expression, a statement runs -/
def LkC (od : Obj) (u : HO) : Cell → Option Cell
  | .dS kvs => some (.lS od u kvs)
  | .dT kvs => some (.lT od u kvs)
  | _ => none
theorem Rl.lock {ad : Addr} {c : Cell} (rl : Rl X S H F) (h : S ad = some c) (hl : (keysOf c).isSome = true) (hn : ∀ od u, (∀ kvs, c ≠ .lS od u kvs) ∧ ∀ kvs, c ≠ .lT od u kvs) : ∃ u, H ad = some u ∧ Mut (some u) ∧ ∀ od, ∃ c', LkC od u c = some c' ∧ Rl X (put S ad c') (upd H ad (.frz od u)) F := by
  obtain ⟨hF, ok⟩ := rl.cell ad c h
  cases c with
  | dS kvs =>
    obtain ⟨gs, g1, g2⟩ := ok
    exact ⟨_, g1, trivial, fun od => ⟨_, rfl, rl.write (c' := .lS od _ kvs) h ⟨gs, ⟨upd_same, rfl⟩, g2⟩⟩⟩
  | dT kvs =>
    obtain ⟨gs, g1, g2⟩ := ok
    exact ⟨_, g1, trivial, fun od => ⟨_, rfl, rl.write (c' := .lT od _ kvs) h ⟨gs, ⟨upd_same, rfl⟩, g2⟩⟩⟩
  | lS od u kvs => exact absurd rfl ((hn od u).1 kvs)
  | lT od u kvs => exact absurd rfl ((hn od u).2 kvs)
  | _ => cases hl
theorem Rl.unlock {ad : Addr} {c c' : Cell} {od : Obj} {u : HO} (rl : Rl X S H F) (hk : LkC od u c = some c') (h : S ad = some c') : H ad = some (.frz od u) ∧ Rl X (put S ad c) (upd H ad u) F := by
  obtain ⟨hF, ok⟩ := rl.cell ad c' h
  cases c with
  | dS kvs =>
    cases hk
    obtain ⟨gs, ⟨g1, e⟩, g2⟩ := ok
    exact ⟨g1, rl.write (c' := .dS kvs) h ⟨gs, by rw [upd_same, e], g2⟩⟩
  | dT kvs =>
    cases hk
    obtain ⟨gs, ⟨g1, e⟩, g2⟩ := ok
    exact ⟨g1, rl.write (c' := .dT kvs) h ⟨gs, by rw [upd_same, e], g2⟩⟩
  | _ => cases hk
def Free (c : Cell) : Prop := match c with
  | .dS _ => True
  | .dT _ => True
  | _ => False
theorem Free.keys {c : Cell} (h : Free c) : (keysOf c).isSome = true ∧ ∀ od u, (∀ kvs, c ≠ .lS od u kvs) ∧ ∀ kvs, c ≠ .lT od u kvs := by
  cases c with
  | dS _ => exact ⟨rfl, fun _ _ => ⟨fun _ z => (by cases z), fun _ z => (by cases z)⟩⟩
  | dT _ => exact ⟨rfl, fun _ _ => ⟨fun _ z => (by cases z), fun _ z => (by cases z)⟩⟩
  | _ => exact h.elim
def dLockE (T : DE) : DE := fun ρ S Q => ∃ ad c, S ad = some c ∧ Free c ∧ ∀ od u c', LkC od u c = some c' → T ρ (put S ad c') fun d S' => S' ad = some c' ∧ Q d (put S' ad c)
theorem we_lock {T : DE} (h : WE X e T) : WE X e (dLockE T) := PE.imp (pe_lock h) fun σ H Q ⟨F, ρ, S, Q', rl, en, ⟨ad, c, hs, hf, t⟩, k⟩ => by
  obtain ⟨u, h1, h2, h3⟩ := rl.lock hs hf.keys.1 hf.keys.2
  refine ⟨ad, u, h1, h2, fun od => ?_⟩
  obtain ⟨c', h4, r2⟩ := h3 od
  exact ⟨F, ρ, _, _, r2, en, t od u c' h4, fun v H1 F1 S1 d x1 r3 p1 ⟨e1, q⟩ => by
    obtain ⟨h5, r4⟩ := r3.unlock h4 e1
    exact ⟨h5, k v _ F1 _ d x1 r4 p1 q⟩⟩
def dLockS (T : DTS) : DTS := fun E ρ S => ∃ ad c, S ad = some c ∧ Free c ∧ ∀ od u c', LkC od u c = some c' → T ⟨fun ρ' S' => S' ad = some c' ∧ E.nx ρ' (put S' ad c), fun d S' => S' ad = some c' ∧ E.rt d (put S' ad c), fun ρ' S' => S' ad = some c' ∧ E.bk ρ' (put S' ad c), fun ρ' S' => S' ad = some c' ∧ E.ct ρ' (put S' ad c)⟩ ρ (put S ad c')
theorem ws_lock {T : DTS} (h : WS X st T) : WS X st (dLockS T) := PS.imp (ps_lock h) fun Ds σ H ⟨F, ρ, S, E, rl, en, ⟨ad, c, hs, hf, t⟩, k⟩ => by
  obtain ⟨u, h1, h2, h3⟩ := rl.lock hs hf.keys.1 hf.keys.2
  refine ⟨ad, u, h1, h2, fun od => ?_⟩
  obtain ⟨c', h4, r2⟩ := h3 od
  refine ⟨F, ρ, _, _, r2, en, t od u c' h4, ⟨fun σ' H' F' ρ' S' x1 r3 en3 ⟨e1, q⟩ => ?_, fun v H' F' S' d x1 r3 p3 ⟨e1, q⟩ => ?_, fun σ' H' F' ρ' S' x1 r3 en3 ⟨e1, q⟩ => ?_, fun σ' H' F' ρ' S' x1 r3 en3 ⟨e1, q⟩ => ?_⟩⟩
  · obtain ⟨h5, r4⟩ := r3.unlock h4 e1
    exact ⟨h5, k.nx _ _ F' _ _ x1 r4 en3 q⟩
  · obtain ⟨h5, r4⟩ := r3.unlock h4 e1
    exact ⟨h5, k.rt _ _ F' _ _ x1 r4 p3 q⟩
  · obtain ⟨h5, r4⟩ := r3.unlock h4 e1
    exact ⟨h5, k.bk _ _ F' _ _ x1 r4 en3 q⟩
  · obtain ⟨h5, r4⟩ := r3.unlock h4 e1
    exact ⟨h5, k.ct _ _ F' _ _ x1 r4 en3 q⟩
end
end KD
set_option Elab.async false
set_option linter.all false
set_option maxRecDepth 100000
set_option maxHeartbeats 4000000
/-! Rules over data: dict of pairs, a dict's display. -/
namespace KD
open PySem PySem.Spec PyProof.Rows L2 Evl
section
variable {X : Cx} {F F' : Hp} {H H' : Hp} {S S' : DS} {σ : L2.St} {ρ : Rho} {pos p pos' : Pos} {e f a b c o i value tg iter : Expr} {es : List Expr} {st : Stmt} {rest body : List Stmt}
theorem put_pt {K : PySem.W.Frag} {key d : D} {k : NestedKey} {b : Addr} {v : V} {r : Value} {kvs : List (D × D)} {xs : List (NestedKey × Addr × V)} {us : List (NestedKey × Addr × Value)} (g2 : PT1 K F kvs xs) (t2 : PT2 xs us) (h1 : key.key = some k) (ry : Rp K F (.ref b) key) (rv : Rp K F v d) (rr : RelV v r) :
    ∃ xs', PT1 K F (putT key k d kvs) xs' ∧ PT2 xs' (storedH us k b r) := by
  obtain ⟨f1, f2⟩ := findT_ok k g2 t2
  have hthere : (findT k kvs).isSome = (atKey us k).isSome := by
    cases z : findT k kvs with
    | none => rw [f2 z]; rfl
    | some dd => obtain ⟨p, _, e, _⟩ := f1 dd z; rw [e]; rfl
  refine ⟨putX xs k b v (findT k kvs).isSome, ?_, ?_⟩
  · unfold putT putX
    by_cases ha : (findT k kvs).isSome = true
    · rw [if_pos ha, if_pos ha]
      refine pairedMap (fun p q r => ?_) g2
      by_cases hp : q.1 = k
      · rw [if_pos (by rw [r.1, hp]), if_pos hp]; exact ⟨r.1, r.2.1, rv⟩
      · rw [if_neg (by rw [r.1]; intro z; exact hp (Option.some.inj z)), if_neg hp]; exact r
    · rw [if_neg ha, if_neg ha]
      exact pairedApp g2 (.cons ⟨h1, ry, rv⟩ .nil)
  · unfold putX storedH
    rw [hthere]
    by_cases ha : (atKey us k).isSome = true
    · rw [if_pos ha, if_pos ha]
      refine pairedMap (fun p q r' => ?_) t2
      unfold putAt
      by_cases hp : p.1 = k
      · rw [if_pos hp, if_pos (by rw [← r'.1, hp])]; exact ⟨r'.1, r'.2.1, rr⟩
      · rw [if_neg hp, if_neg (by rw [← r'.1]; exact hp)]; exact r'
    · rw [if_neg ha, if_neg ha]
      exact pairedApp t2 (.cons ⟨rfl, rfl, rr⟩ .nil)
def putAll : List (D × D) → List (D × D) → List (D × D)
  | kvs, [] => kvs
  | kvs, p :: ps => match p.1.key with
    | some k => putAll (putT p.1 k p.2 kvs) ps
    | none => putAll kvs ps
/-- a pair of data and an entry to be stored -/
def Pk (X : Cx) (F : Hp) (h : Heap) : D × D → NestedKey × Addr × Value → Prop := fun p q => p.1.key = some q.1 ∧ Rp X.K F (.ref q.2.1) p.1 ∧ (∃ v, RelV v q.2.2 ∧ Rp X.K F v p.2) ∧ (nestedKind X.prog X.w).is h q.1 q.2.1
theorem putAll_ok {h : Heap} : ∀ {ps : List (D × D)} {qs : List (NestedKey × Addr × Value)}, Paired (Pk X F h) ps qs → ∀ {kvs : List (D × D)} {xs : List (NestedKey × Addr × V)} {us : List (NestedKey × Addr × Value)}, PT1 X.K F kvs xs → PT2 xs us →
    ∃ xs', PT1 X.K F (putAll kvs ps) xs' ∧ PT2 xs' (storedAllH us qs)
  | _, _, .nil, _, xs, _, g, t => ⟨xs, g, t⟩
  | p :: ps, q :: qs, .cons r rs, kvs, xs, us, g, t => by
    obtain ⟨h1, h2, ⟨v, h3, h4⟩, _⟩ := r
    obtain ⟨xs1, g1, t1⟩ := put_pt g t h1 h2 h4 h3
    obtain ⟨xs2, g2, t2⟩ := putAll_ok rs g1 t1
    refine ⟨xs2, ?_, t2⟩
    unfold putAll
    rw [h1]
    exact g2
theorem putT_len {key : D} {k : NestedKey} {d : D} {kvs : List (D × D)} : (putT key k d kvs).length ≤ kvs.length + 1 := by
  unfold putT
  split
  · rw [List.length_map]; omega
  · rw [List.length_append]; simp
theorem putAll_len : ∀ {ps kvs : List (D × D)}, (putAll kvs ps).length ≤ kvs.length + ps.length
  | [], kvs => Nat.le_refl _
  | p :: ps, kvs => by
    unfold putAll
    rw [List.length_cons]
    split
    · next k _ =>
      have h1 := putAll_len (ps := ps) (kvs := putT p.1 k p.2 kvs)
      have h2 := putT_len (key := p.1) (k := k) (d := p.2) (kvs := kvs)
      omega
    · have h1 := putAll_len (ps := ps) (kvs := kvs)
      omega
/-- the new dict -/
theorem dT_made {h' : Heap} {ad : Addr} {us : List (NestedKey × Addr × Value)} {xs : List (NestedKey × Addr × V)} (hd : (ad == sysModules) = false) (hz : xs.length ≤ sizeLine) (t : PT2 xs us) (hm : h'.DictOfH (nestedKind X.prog X.w) ad us) : DTphi X.prog X.w ad xs h' := by
  obtain ⟨o, es, ep, h1, h2, h3, h4, h5, h6⟩ := hm
  exact ⟨hz, hd, by rw [pt2_keys t]; exact h6, us, o, es, ep, t, h1, h2, h3, h4⟩
def pairsOf : List D → Option (List (D × D))
  | [] => some []
  | .tup [x, y] :: r => match x.key with
    | some _ => (pairsOf r).map ((x, y) :: ·)
    | none => none
  | _ => none
theorem pairs_open {pins : List (Addr × Obj)} {s : Shared} (I : Inv X pins σ H s) (rl : Rl X S H F) : ∀ {vs : List V} {ds : List D} {its : List Value} {ps : List (D × D)}, RpL X.K F vs ds → Vals vs its → pairsOf ds = some ps →
    ∃ (ts : List Addr) (qs : List (NestedKey × Addr × Value)), its = ts.map Value.ref ∧ ts.length = qs.length ∧ Paired (Pk X F s.heap) ps qs ∧ ∀ (j : Nat) (t : Addr) (q : NestedKey × Addr × Value), ts[j]? = some t → qs[j]? = some q → PairAt s.heap t (.ref q.2.1) q.2.2
  | _, _, _, ps, .nil, .nil, h => by
    cases h
    exact ⟨[], [], rfl, rfl, .nil, fun j t q e => by simp at e⟩
  | v :: vs, d :: ds, u :: its, ps, .cons r rs, .cons q qs, h => by
    cases r with
    | tup hs hr =>
      rename_i ad ws zs
      match zs, hr, h with
      | [], hr, h => cases h
      | [_], hr, h => cases h
      | _ :: _ :: _ :: _, hr, h => cases h
      | [x, y], hr, h =>
        cases ek : x.key with
        | none => simp only [pairsOf, ek] at h; cases h
        | some k =>
          simp only [pairsOf, ek] at h
          obtain ⟨ps', h1, h2⟩ := Option.map_eq_some_iff.mp h
          subst h2
          obtain ⟨ts, qs', e1, e2, e3, e4⟩ := pairs_open I rl rs qs h1
          obtain ⟨va, vb, rfl, r1, r2⟩ := hr.two
          obtain ⟨is2, rv, hp, _⟩ := I.tuple (ex_t rl.sub hs)
          obtain ⟨ua, ub, rfl, q1, q2⟩ := vals2 rv
          obtain rfl : u = Value.ref ad := q
          obtain ⟨b, e5, e6, e7⟩ := key_is I rl r1 q1 ek
          subst e5
          subst e6
          refine ⟨ad :: ts, (k, b, ub) :: qs', by rw [e1]; rfl, by rw [List.length_cons, List.length_cons, e2], .cons ⟨ek, r1, ⟨vb, q2, r2⟩, e7⟩ e3, fun j t q g1 g2 => ?_⟩
          cases j with
          | zero =>
            simp at g1 g2
            subst g1 g2
            exact .inl hp
          | succ j => exact e4 j t q (by simpa using g1) (by simpa using g2)
    | _ => cases h
/-- dict(pairs) -/
def rDictP (X : Cx) : List V → Hp → VK → Prop := fun xs H Q => ∃ F S d ds ps, Rl X S H F ∧ RpL X.K F xs [d] ∧ lstOf S d = some ds ∧ pairsOf ds = some ps ∧ ds.length ≤ 1000000 ∧ ∀ p H', H p = none → Rl X (put S p (.dT (putAll [] ps))) H' F → Q (.ref p) H'
theorem paired_len2 {α β : Type} {R : α → β → Prop} {xs : List α} {ys : List β} (h : Paired R xs ys) : xs.length = ys.length := pairedLen h
theorem pairsOf_len : ∀ {ds : List D} {ps : List (D × D)}, pairsOf ds = some ps → ps.length = ds.length
  | [], _, h => by cases h; rfl
  | .tup [x, y] :: r, ps, h => by
    cases ek : x.key with
    | none => simp only [pairsOf, ek] at h; cases h
    | some k =>
      simp only [pairsOf, ek] at h
      obtain ⟨ps', h1, h2⟩ := Option.map_eq_some_iff.mp h
      subst h2
      rw [List.length_cons, List.length_cons, pairsOf_len h1]
  | .tup [] :: _, _, h => by cases h
  | .tup [_] :: _, _, h => by cases h
  | .tup (_ :: _ :: _ :: _) :: _, _, h => by cases h
  | .non :: _, _, h => by cases h
  | .bl _ :: _, _, h => by cases h
  | .int _ :: _, _, h => by cases h
  | .str _ :: _, _, h => by cases h
  | .ty _ :: _, _, h => by cases h
  | .ref _ :: _, _, h => by cases h
  | .lst _ :: _, _, h => by cases h
theorem call_dictP (hc : X.calm = true) (hu : X.A.units + 64 < cLine) : CallR X (.type "dict") (rDictP X) := by
  intro pins s σ H xs us Q I r h
  obtain ⟨F, S, d, ds, ps, rl, rp, hk, hps, hz, q⟩ := h
  obtain ⟨x, rfl, rz⟩ := rp.one
  obtain ⟨ad, vs, rfl, hs, hr⟩ := lstOf_ok rl rz hk
  obtain ⟨u, rfl, ru⟩ := vals1 r
  cases ru
  obtain ⟨its, rv, pl, _⟩ := I.list hs
  obtain ⟨ts, qs, e1, e2, e3, e4⟩ := pairs_open I rl hr rv hps
  subst e1
  have hl : qs.length = ds.length := by rw [← pairedLen e3, pairsOf_len hps]
  have hsz : ds.length ≤ sizeLine := Nat.le_trans hz (by rw [sizeLine_eq]; decide)
  obtain ⟨o, n, g1, g2, g3, g4⟩ := pl
  have hroom : (nestedKind X.prog X.w).room X.A.in1.in1 := by
    show X.A.units + 1 + 1 + 8 < cLine
    omega
  refine call_dict_pairsH (knd := nestedKind X.prog X.w) (ps := qs) (PairArg.list ad (ts.map Value.ref).toArray (fun j => ts.getD j 0) (qs.map fun q => (.ref q.2.1, q.2.2))) (I.ok.hd hc) hroom ⟨⟨o, n, g1, g2, g3, g4⟩, ?_, ?_⟩ ⟨?_, ?_⟩ ?_ ?_ fun h' tk hd' hk => ?_
  · simp [e2]
  · intro j k v hj
    rw [List.getElem?_map] at hj
    cases hq : qs[j]? with
    | none => rw [hq] at hj; cases hj
    | some q =>
      rw [hq] at hj
      cases hj
      have hlt : j < ts.length := by
        rw [e2]
        rcases Nat.lt_or_ge j qs.length with z | z
        · exact z
        · rw [List.getElem?_eq_none z] at hq; cases hq
      have ht : ts[j]? = some ts[j] := List.getElem?_eq_getElem hlt
      have hg : ts.getD j 0 = ts[j] := by rw [List.getD_eq_getElem?_getD, ht]; rfl
      refine ⟨?_, ?_⟩
      · show (ts.map Value.ref).toArray[j]? = some (Value.ref (ts.getD j 0))
        rw [hg]
        simp [ht]
      · show PairAt s.heap (ts.getD j 0) (Value.ref q.2.1) q.2.2
        rw [hg]
        exact e4 j _ q ht hq
  · simp
  · intro i key v hj
    have hj : (qs.map fun q : NestedKey × Addr × Value => (Value.ref q.2.1, q.2.2))[i]? = some (key, v) := hj
    rw [List.getElem?_map] at hj
    cases hq : qs[i]? with
    | none => rw [hq] at hj; cases hj
    | some q => rw [hq] at hj; cases hj; exact ⟨q.1, q.2.1, rfl, rfl⟩
  · intro h' hk x hx
    obtain ⟨y, _, hy⟩ := pairedMem e3 hx
    exact nestedKind_stays.stays (fun b o _ _ g _ => hk b o (Nat.ne_of_lt (Heap.lt_size g)) (by simp) g) hy.2.2.2
  · simp only [List.length_map]; omega
  · obtain ⟨xs', g5, g6⟩ := putAll_ok e3 (kvs := []) (xs := []) (us := []) .nil .nil
    have hlx : xs'.length ≤ sizeLine := by
      rw [← pairedLen g5]
      have := putAll_len (ps := ps) (kvs := [])
      rw [pairsOf_len hps] at this
      simp at this
      omega
    have hp := I.hok.fresh (Nat.le_refl s.heap.objs.size)
    have phi := dT_made (X := X) (beq_eq_false_iff_ne.mpr (Ne.symm (Nat.ne_of_lt I.big))) hlx g6 hd'
    exact ⟨.ref s.heap.objs.size, _, I.laid (a := s.heap.objs.size) (o := .ext (DTphi X.prog X.w s.heap.objs.size xs')) (t' := tk) (fun b o e => hk b o (by simp) e) (Nat.le_refl _) (ext_ok phi), rfl,
      q _ _ hp (rl.fresh (c := .dT (putAll [] ps)) hp ⟨xs', upd_same, g5⟩)⟩
def dDictP (U : DA) : DE := fun ρ S Q => U ρ S fun zs S1 => ∃ d ds ps, zs = [d] ∧ lstOf S1 d = some ds ∧ pairsOf ds = some ps ∧ ds.length ≤ 1000000 ∧ ∀ ad, S1 ad = none → Q (.ref ad) (put S1 ad (.dT (putAll [] ps)))
theorem we_dictP {U : DA} (hc : X.calm = true) (hu : X.A.units + 64 < cLine) (hg : Gl X "dict") (hm : X.mg "dict" = none) (ha : WA X [e] U) (he : starEach [e] X.env = (false, eval e X.env) :: starEach [] X.env := by rfl) : WE X (.Call (.Name "dict" p) [e] [] pos) (dDictP U) :=
  PE.imp (pe_callTy (call_dictP hc hu) hg hm (by decide +kernel) ha (he := he)) fun σ H Q ⟨F, ρ, S, Q', rl, en, t, k⟩ =>
  ⟨F, ρ, S, _, rl, en, t, fun vs H1 F1 S1 ds x1 r1 p1 ⟨d, ks, ps, e1, hk, ok, hz, q⟩ => by
    subst e1
    exact ⟨F1, S1, d, ks, ps, r1, p1, hk, ok, hz, fun ad H2 hp r2 => k (.ref ad) H2 F1 _ _ x1 r2 (.ref ad) (q ad (r1.free hp).1)⟩⟩
/-! ### {k1: v1, k2: v2} -/
def dDisp2 (T1 U1 T2 U2 : DE) : DE := fun ρ S Q => ∀ ad, S ad = none → T1 ρ (put S ad (.dT [])) fun k1 S1 => U1 ρ S1 fun v1 S2 => T2 ρ S2 fun k2 S3 => U2 ρ S3 fun v2 S4 =>
  k1.key.isSome = true ∧ k2.key.isSome = true ∧ S4 ad = some (.dT []) ∧ Q (.ref ad) (put S4 ad (.dT (putAll [] [(k1, v1), (k2, v2)])))
theorem we_disp2 {k1 v1 k2 v2 : Expr} {T1 U1 T2 U2 : DE} (hu : X.A.units + 64 < cLine) (h1 : WE X k1 T1) (h2 : WE X v1 U1) (h3 : WE X k2 T2) (h4 : WE X v2 U2)
    (hshape : (evalEachOpt [some k1, some k2] X.env).zip ((evalEach [v1, v2] X.env).map fun v => do let x ← v; standAt pos; pure x) = [(eval k1 X.env, do let x ← eval v1 X.env; standAt pos; pure x), (eval k2 X.env, do let x ← eval v2 X.env; standAt pos; pure x)].map fun p => (some p.1, p.2) := by rfl) :
    WE X (.Dict [some k1, some k2] [v1, v2] pos) (dDisp2 T1 U1 T2 U2) := ⟨fun pins s σ H Q I ⟨F, ρ, S, Q', rl, en, t, k⟩ => by
  have hroom : (nestedKind X.prog X.w).room X.A := by
    show X.A.units + 8 < cLine
    omega
  have hd : (s.heap.objs.size == sysModules) = false := beq_eq_false_iff_ne.mpr (Ne.symm (Nat.ne_of_lt I.big))
  rw [arm_eval_Dict, hshape, dictDisplay_pairs _ (by simp) (by simp)]
  refine wpAny_bind (wpAny_standAt (wpAny_bind (wpAny_subDictH (knd := nestedKind X.prog X.w) (Q := fun d s' => wpAny (model X.prog X.w) X.A (pure (Value.ref d)) (EP X pins σ Q) X.xe s') hroom (by simp) ?_)))
  have hp := I.hok.fresh (Nat.le_refl s.heap.objs.size)
  have phi : DTphi X.prog X.w s.heap.objs.size [] (s.heap.push { cls := .type "dict", data := .dict #[] }) :=
    ⟨Nat.zero_le _, hd, List.nodup_nil, [], _, #[], 0, .nil, Heap.get?_push_size _ rfl, ⟨rfl, rfl, rfl⟩, rfl, rfl⟩
  have I0 : Inv X pins σ (upd H s.heap.objs.size (.ext (DTphi X.prog X.w s.heap.objs.size []))) { s with heap := s.heap.push { cls := .type "dict", data := .dict #[] } } :=
    I.laid (a := s.heap.objs.size) (o := .ext (DTphi X.prog X.w s.heap.objs.size [])) (t' := s.toks) (fun _ _ q => Heap.get?_push_of_some _ q) (Nat.le_refl _) (ext_ok phi)
  have r0 := rl.fresh (c := .dT []) hp ⟨[], upd_same (o := .ext (DTphi X.prog X.w s.heap.objs.size [])), .nil⟩
  generalize hsz : s.heap.objs.size = ad at *
  -- the four values
  have run : tW X T1 σ (upd H ad (.ext (DTphi X.prog X.w ad []))) fun a1 H1 => tW X U1 σ H1 fun b1 H2 => tW X T2 σ H2 fun a2 H3 => tW X U2 σ H3 fun b2 H4 =>
      ∃ F4 S4 d1 e1 d2 e2, Ex F F4 ∧ Rl X S4 H4 F4 ∧ Rp X.K F4 a1 d1 ∧ Rp X.K F4 b1 e1 ∧ Rp X.K F4 a2 d2 ∧ Rp X.K F4 b2 e2 ∧ d1.key.isSome = true ∧ d2.key.isSome = true ∧ S4 ad = some (.dT []) ∧ Q' (.ref ad) (put S4 ad (.dT (putAll [] [(d1, e1), (d2, e2)]))) :=
    ⟨F, ρ, _, _, r0, en, t ad (rl.free hp).1, fun a1 H1 F1 S1 d1 x1 r1 p1 q1 => ⟨F1, ρ, S1, _, r1, en.mono x1, q1, fun b1 H2 F2 S2 e1 x2 r2 p2 q2 => ⟨F2, ρ, S2, _, r2, (en.mono x1).mono x2, q2, fun a2 H3 F3 S3 d2 x3 r3 p3 q3 =>
      ⟨F3, ρ, S3, _, r3, ((en.mono x1).mono x2).mono x3, q3, fun b2 H4 F4 S4 e2 x4 r4 p4 ⟨g1, g2, g3, g4⟩ => ⟨F4, S4, d1, e1, d2, e2, ((x1.trans x2).trans x3).trans x4, r4, ((p1.mono x2).mono x3).mono x4, (p2.mono x3).mono x4, p3.mono x4, p4, g1, g2, g3, g4⟩⟩⟩⟩⟩
  unfold evalPairs
  refine wpAny_bind (thn (h1.run pins _ σ _ _ I0 run) fun w1 s1 ⟨a1, H1, I1, ra1, q1⟩ => ?_)
  refine wpAny_bind (wpAny_holding (wpAny_bind (thn (h2.run pins s1 σ H1 _ I1 q1) fun y1 s2 ⟨b1, H2, I2, rb1, q2⟩ => wpAny_bind (wpAny_standAt (wpAny_pure ?_)))))
  refine wpAny_bind (wpAny_holding ?_)
  unfold evalPairs
  refine wpAny_bind (thn (h3.run pins _ σ H2 _ I2 q2) fun w2 s3 ⟨a2, H3, I3, ra2, q3⟩ => ?_)
  refine wpAny_bind (wpAny_holding (wpAny_bind (thn (h4.run pins s3 σ H3 _ I3 q3) fun y2 s4 ⟨b2, H4, I4, rb2, q4⟩ => wpAny_bind (wpAny_standAt (wpAny_pure ?_)))))
  refine wpAny_bind (wpAny_holding ?_)
  unfold evalPairs
  refine wpAny_pure (wpAny_pure (wpAny_pure ?_))
  obtain ⟨F4, S4, d1, e1, d2, e2, x4, r4, p1, p2, p3, p4, g1, g2, g3, g4⟩ := q4
  obtain ⟨k1', hk1⟩ := Option.isSome_iff_exists.mp g1
  obtain ⟨k2', hk2⟩ := Option.isSome_iff_exists.mp g2
  obtain ⟨c1, rfl, rfl, i1⟩ := key_is I4 r4 p1 ra1 hk1
  obtain ⟨c2, rfl, rfl, i2⟩ := key_is I4 r4 p3 ra2 hk2
  obtain ⟨_, xs0, hx0, hp0⟩ := r4.cell ad _ g3
  cases hp0
  obtain ⟨us0, t0, _, _, hm0⟩ := dT_open I4 r4 (.inl hx0) .nil
  cases t0
  have pks : Paired (Pk X F4 s4.heap) [(d1, e1), (d2, e2)] [(k1', c1, y1), (k2', c2, y2)] := .cons ⟨hk1, p1, ⟨b1, rb1, p2⟩, i1⟩ (.cons ⟨hk2, p3, ⟨b2, rb2, p4⟩, i2⟩ .nil)
  refine ⟨[(k1', c1, y1), (k2', c2, y2)], ⟨rfl, rfl, i1, rfl, rfl, i2, trivial⟩, hm0, fun h' tk hk hs => wpAny_pure ?_⟩
  obtain ⟨xs', g5, g6⟩ := putAll_ok pks (kvs := []) (xs := []) (us := []) .nil .nil
  have hlx : xs'.length ≤ sizeLine := by
    rw [← pairedLen g5]
    have := putAll_len (ps := [(d1, e1), (d2, e2)]) (kvs := [])
    simp at this
    rw [sizeLine_eq]
    omega
  have phi2 := dT_made (X := X) hd hlx g6 hk
  have hthere : ∃ q, h'.get? ad = some q := by
    obtain ⟨o, _, _, z, _⟩ := hk
    exact ⟨o, z⟩
  refine ⟨.ref ad, _, d_write (t' := tk) (ob := .ext (DTphi X.prog X.w ad xs')) I4 (by rw [hx0]; exact True.intro) hs hthere (ext_ok phi2), rfl, ?_⟩
  exact k (.ref ad) _ F4 _ (.ref ad) x4 (r4.write (c' := .dT (putAll [] [(d1, e1), (d2, e2)])) g3 ⟨xs', upd_same, g5⟩) (.ref ad) g4⟩
end
end KD
set_option Elab.async false
set_option linter.all false
set_option maxRecDepth 100000
set_option maxHeartbeats 4000000
/-! Rules over data: pure walks and comprehensions, pure calls. -/
namespace KD
open PySem PySem.Spec PyProof.Rows L2 Evl
section
variable {X : Cx} {F F' : Hp} {H H' : Hp} {S S' : DS} {σ : L2.St} {ρ : Rho} {pos p pos' apos : Pos} {e f a b c o i value tg iter : Expr} {es : List Expr} {st : Stmt} {rest body : List Stmt} {T : DE} {U : DA}
/-- behind an expression cells may be forgotten, a list may settle -/
theorem we_rd (h : WE X e T) : WE X e (fun ρ S Q => T ρ S (RdQ Q)) := PE.imp h fun σ H Q ⟨F, ρ, S, Q', rl, en, t, k⟩ => ⟨F, ρ, S, _, rl, en, t, kt_rd k⟩
theorem wss_clean {T : DTS} (h : WSs X body T) : WSs X body (fun E ρ S => ∃ S2, Le S2 S ∧ T E ρ S2) := PSs.imp h fun D σ H ⟨F, ρ, S, E, rl, en, ⟨S2, l, t⟩, k⟩ => ⟨F, ρ, S2, E, rl.less l, en, t, k⟩
theorem ite_some {P : Prop} [Decidable P] {α : Type} {o : Option α} {d : α} (h : (if P then o else none) = some d) : P ∧ o = some d := by
  by_cases hp : P
  · rw [if_pos hp] at h; exact ⟨hp, h⟩
  · rw [if_neg hp] at h; cases h
/-! ### walks as values -/
abbrev KeepC := Option (Addr × Cell)
def KeptC : KeepC → DS → Prop
  | none => fun _ => True
  | some (ad, c) => fun S => S ad = some c
abbrev FI := Rho → DS → Option (List D × KeepC)
def fI (ι : FI) : DI := fun ρ S Q => ∃ items k, ι ρ S = some (items, k) ∧ Q items (KeptC k) S
def FIt (X : Cx) (tg iter : Expr) (ι : FI) : Prop := WI X tg iter (fI ι)
/-- the walk's kept cell stands -/
theorem walk_mono {J : It} {G G' : DS → Prop} {F0 : Hp} {items : List D} (w : DWalk X J G F0 items) (h : ∀ S, G' S → G S) : DWalk X J G' F0 items :=
  ⟨fun i S H F x rl g hi => w.go i S H F x rl (h S g) hi, fun S H F x rl g => w.stop S H F x rl (h S g), fun i S H F v H' x rl g hi y => w.yld i S H F v H' x rl (h S g) hi y⟩
theorem wi_mono {T T' : DI} (h : WI X tg iter T) (j : ∀ ρ S Q, T' ρ S Q → T ρ S fun items G S1 => ∃ G', (∀ S, G' S → G S) ∧ Q items G' S1) : WI X tg iter T' := PI.imp h fun σ H R ⟨F, ρ, S, Q', rl, en, t, k⟩ =>
  ⟨F, ρ, S, _, rl, en, j ρ S Q' t, fun J H1 F1 S1 items G x1 r1 w ⟨G', hg, q⟩ => k J H1 F1 S1 items G' x1 r1 (walk_mono w hg) q⟩
def itTup (ε : EF) : FI := fun ρ S => (ε ρ S).bind fun d => match d with
  | .tup ds => some (ds, none)
  | _ => none
theorem fi_tup {ε : EF} (h : FE X e ε) : FIt X tg e (itTup ε) := wi_mono (wi_tup h) fun ρ S Q ⟨items, k, h, q⟩ => by
  obtain ⟨d, h1, h2⟩ := Option.bind_eq_some_iff.mp h
  cases d with
  | tup ds => cases h2; exact ⟨_, h1, _, rfl, _, fun _ _ => trivial, q⟩
  | _ => cases h2
def itLst (ε : EF) : FI := fun ρ S => (ε ρ S).bind fun d => match d with
  | .lst ds => some (ds, none)
  | .ref ad => match S ad with
    | some (.lst ds) => some (ds, some (ad, .lst ds))
    | _ => none
  | _ => none
theorem fi_lst {ε : EF} (h : FE X e ε) : FIt X tg e (itLst ε) := wi_mono (wi_lst h) fun ρ S Q ⟨items, k, h, q⟩ => by
  obtain ⟨d, h1, h2⟩ := Option.bind_eq_some_iff.mp h
  cases d with
  | lst ds => cases h2; exact ⟨_, h1, _, rfl, _, fun _ _ => trivial, q⟩
  | ref ad =>
    simp only at h2
    cases e1 : S ad with
    | none => rw [e1] at h2; cases h2
    | some cc =>
      rw [e1] at h2
      cases cc with
      | lst ds => cases h2; exact ⟨_, h1, _, by simp only [lstOf, e1], _, fun S g => g, q⟩
      | _ => cases h2
  | _ => cases h2
def itStr (ε : EF) : FI := fun ρ S => (ε ρ S).bind fun d => match d with
  | .str z => some (signs z, none)
  | _ => none
theorem fi_str {ε : EF} (h : FE X e ε) : FIt X tg e (itStr ε) := wi_mono (wi_str h) fun ρ S Q ⟨items, k, h, q⟩ => by
  obtain ⟨d, h1, h2⟩ := Option.bind_eq_some_iff.mp h
  cases d with
  | str z => cases h2; exact ⟨_, h1, z, rfl, _, fun _ _ => trivial, q⟩
  | _ => cases h2
def itRng (η : FA) : FI := fun ρ S => (η ρ S).bind fun ds => match ds with
  | [.int j] => if -(2 ^ 62) ≤ j ∧ j < 2 ^ 62 then some (rngD 0 j.toNat, none) else none
  | _ => none
theorem fi_rng {η : FA} (hg : Gl X "range") (hm : X.mg "range" = none) (ha : FAs X [a] η) (hs : starEach [a] X.env = [(false, eval a X.env)] := by rfl) : FIt X tg (.Call (.Name "range" p) [a] [] pos) (itRng η) :=
  wi_mono (wi_rng hg hm ha hs) fun ρ S Q ⟨items, k, h, q⟩ => by
  obtain ⟨ds, h1, h2⟩ := Option.bind_eq_some_iff.mp h
  match ds, h2 with
  | [.int j], h2 =>
    obtain ⟨hj, h3⟩ := if_some h2
    cases h3
    exact ⟨_, h1, j, rfl, hj.1, hj.2, _, fun _ _ => trivial, q⟩
def itEnum (η : FA) : FI := fun ρ S => (η ρ S).bind fun ds => match ds with
  | [.tup zs] => some (enumD zs, none)
  | _ => none
theorem fi_enum {η : FA} {tpos : Pos} {elts : List Expr} {kk : Nat} (hg : Gl X "enumerate") (hm : X.mg "enumerate" = none) (ha : FAs X [e] η) (hs : starEach [e] X.env = [(false, eval e X.env)] := by rfl) : FIt X (.Tuple elts kk tpos) (.Call (.Name "enumerate" p) [e] [] pos) (itEnum η) :=
  wi_mono (wi_enum hg hm ha hs) fun ρ S Q ⟨items, k, h, q⟩ => by
  obtain ⟨ds, h1, h2⟩ := Option.bind_eq_some_iff.mp h
  match ds, h2 with
  | [.tup zs], h2 =>
    cases h2
    exact ⟨_, h1, zs, rfl, _, fun _ _ => trivial, q⟩
def itKeys (ε : EF) : FI := fun ρ S => (ε ρ S).bind fun d => match d with
  | .ref ad => match S ad with
    | some (.lT od u kvs) => some (kvs.map (·.1), some (ad, .lT od u kvs))
    | _ => none
  | _ => none
theorem fi_keys {ε : EF} (h : FE X e ε) : FIt X tg e (itKeys ε) := wi_mono (wi_keysT h) fun ρ S Q ⟨items, k, h, q⟩ => by
  obtain ⟨d, h1, h2⟩ := Option.bind_eq_some_iff.mp h
  cases d with
  | ref ad =>
    simp only at h2
    cases e1 : S ad with
    | none => rw [e1] at h2; cases h2
    | some cc =>
      rw [e1] at h2
      cases cc with
      | lT od u kvs => cases h2; exact ⟨_, h1, ad, od, u, kvs, rfl, e1, _, fun S g => g, q⟩
      | _ => cases h2
  | _ => cases h2

/-! ### pure comprehensions -/
def lLc (ι : FI) (γ : Gam) (κ : FT) (ν : EF) (vs : List Nat) : DL := fun ρ S R => ∃ items k, ι ρ S = some (items, k) ∧ ∃ (keep : D → Bool) (out : D → D), items.length ≤ 1000000 ∧
  (∀ d ∈ items, ∀ S', Le S S' → ∃ ρ2, γ d (wipeD ρ vs) = some ρ2 ∧ κ ρ2 S' = some (keep d) ∧ (keep d = true → ν ρ2 S' = some (out d))) ∧ R ((items.filter keep).map out) S
theorem lLc_mono {ι : FI} {γ : Gam} {κ : FT} {ν : EF} {vs : List Nat} : MonoL (lLc ι γ κ ν vs) := fun ρ S R R' i ⟨items, k, h1, keep, out, h2, h3, r⟩ => ⟨items, k, h1, keep, out, h2, h3, i _ _ r⟩
theorem kept_le {k : KeepC} {ι : FI} (h : KeptC k S) (l : Le S S') : KeptC k S' := by
  cases k with
  | none => trivial
  | some q => exact l _ _ h
theorem lc_pure {ι : FI} {γ : Gam} {κ : FT} {ν : EF} {vs : List Nat} {Q : DQ} (hk : ∀ items k, ι ρ S = some (items, k) → KeptC k S) (h : asCell (lLc ι γ κ ν vs) ρ S Q) : dLc (fI ι) γ (fT κ) (fE ν) vs ρ S Q := by
  obtain ⟨items, k, h1, keep, out, h2, h3, hq⟩ := h
  refine ⟨items, k, h1, fun ad hn => ⟨fun i S2 => S2 = put S ad (.lst (((items.take i).filter keep).map out)), rfl, fun i S2 _ e => ?_, fun i d S2 hd e => ?_, fun S2 e => ?_⟩⟩
  · subst e
    exact kept_le (ι := ι) (hk items k h1) (Le.put hn)
  · subst e
    have hi : i < items.length := by
      rcases Nat.lt_or_ge i items.length with z | z
      · exact z
      · rw [List.getElem?_eq_none z] at hd; cases hd
    have hmem : d ∈ items := List.mem_of_getElem? hd
    obtain ⟨ρ2, g1, g2, g3⟩ := h3 d hmem _ (Le.put (c := .lst (((items.take i).filter keep).map out)) hn)
    have ht : items.take (i + 1) = items.take i ++ [d] := by rw [List.take_succ, hd]; rfl
    refine ⟨ρ2, g1, keep d, g2, ?_⟩
    cases hb : keep d with
    | true =>
      rw [if_pos rfl]
      refine ⟨out d, g3 hb, _, put_same, ?_, ?_⟩
      · rw [List.length_map]
        have := List.length_filter_le keep (items.take i)
        rw [List.length_take] at this
        omega
      · show put (put S ad _) ad _ = put S ad (.lst (((items.take (i + 1)).filter keep).map out))
        rw [put_put, ht, List.filter_append, List.map_append]
        simp [hb]
    | false =>
      rw [if_neg Bool.false_ne_true]
      show put S ad (.lst (((items.take i).filter keep).map out)) = put S ad (.lst (((items.take (i + 1)).filter keep).map out))
      rw [ht, List.filter_append, List.map_append]
      simp [hb]
  · subst e
    rw [List.take_length]
    exact hq ad hn
/-- the kept cell is the cell that was read -/
structure IOk (ι : FI) : Prop where
  kept : ∀ ρ S items k, ι ρ S = some (items, k) → KeptC k S
theorem iok_tup {ε : EF} : IOk (itTup ε) := ⟨fun ρ S items k h => by
  obtain ⟨d, h1, h2⟩ := Option.bind_eq_some_iff.mp h
  cases d with
  | tup ds => cases h2; trivial
  | _ => cases h2⟩
theorem iok_lst {ε : EF} : IOk (itLst ε) := ⟨fun ρ S items k h => by
  obtain ⟨d, h1, h2⟩ := Option.bind_eq_some_iff.mp h
  cases d with
  | lst ds => cases h2; trivial
  | ref ad =>
    simp only at h2
    cases e1 : S ad with
    | none => rw [e1] at h2; cases h2
    | some cc =>
      rw [e1] at h2
      cases cc with
      | lst ds => cases h2; exact e1
      | _ => cases h2
  | _ => cases h2⟩
theorem iok_str {ε : EF} : IOk (itStr ε) := ⟨fun ρ S items k h => by
  obtain ⟨d, h1, h2⟩ := Option.bind_eq_some_iff.mp h
  cases d with
  | str z => cases h2; trivial
  | _ => cases h2⟩
theorem iok_rng {η : FA} : IOk (itRng η) := ⟨fun ρ S items k h => by
  obtain ⟨ds, h1, h2⟩ := Option.bind_eq_some_iff.mp h
  match ds, h2 with
  | [.int j], h2 => obtain ⟨_, h3⟩ := if_some h2; cases h3; trivial⟩
theorem iok_keys {ε : EF} : IOk (itKeys ε) := ⟨fun ρ S items k h => by
  obtain ⟨d, h1, h2⟩ := Option.bind_eq_some_iff.mp h
  cases d with
  | ref ad =>
    simp only at h2
    cases e1 : S ad with
    | none => rw [e1] at h2; cases h2
    | some cc =>
      rw [e1] at h2
      cases cc with
      | lT od u kvs => cases h2; exact e1
      | _ => cases h2
  | _ => cases h2⟩
abbrev FTs (X : Cx) (ifs : List Expr) (κ : FT) : Prop := PTs X ifs (bW X (fT κ))
def kYes : FT := fun _ _ => some true
theorem ftn : FTs X [] kYes := ⟨fun pins s σ H Q I ⟨F, ρ, S, Q', rl, en, ⟨b, e, t⟩, k⟩ => by
  cases e
  exact pts_nil.run pins s σ H Q I (k true H F S (Ex.refl F) rl t)⟩
theorem ft1 {κ : FT} (h : FTe X c κ) : FTs X [c] κ := pts_one h
theorem wl_lc {elt : Expr} {ifs : List Expr} {scope : Scope} {own : List (Str × Nat)} {ι : FI} {γ : Gam} {g : TG} {κ : FT} {ν : EF} (hc : X.calm = true) (hN : X.N.Nodup) (ok : BlkOk X.N X.env.scope scope own) (io : IOk ι) (hi : FIt X tg iter ι) (tb : TgB X.K (own.map (·.2)) γ g)
    (hg : OnBlk X scope fun Y => PG Y tg g) (ht : OnBlk X scope fun Y => FTs Y ifs κ) (he : OnBlk X scope fun Y => FE Y elt ν) (hs : ∀ x, foldedSetIterable iter X.env x = pure x := by intro _; rfl) :
    WE X (.ListComp elt [⟨tg, iter, ifs, 0⟩] scope pos) (asCell (lLc ι γ κ ν (own.map (·.2)))) :=
  we_imp (we_lc hc hN ok hi tb hg ht he hs) fun ρ S Q h => lc_pure (fun items k e => io.kept ρ S items k e) h
/-- .. settled -/
theorem wl_lcS {elt : Expr} {ifs : List Expr} {scope : Scope} {own : List (Str × Nat)} {ι : FI} {γ : Gam} {g : TG} {κ : FT} {ν : EF} (hc : X.calm = true) (hN : X.N.Nodup) (ok : BlkOk X.N X.env.scope scope own) (io : IOk ι) (hi : FIt X tg iter ι) (tb : TgB X.K (own.map (·.2)) γ g)
    (hg : OnBlk X scope fun Y => PG Y tg g) (ht : OnBlk X scope fun Y => FTs Y ifs κ) (he : OnBlk X scope fun Y => FE Y elt ν) (hs : ∀ x, foldedSetIterable iter X.env x = pure x := by intro _; rfl) :
    WE X (.ListComp elt [⟨tg, iter, ifs, 0⟩] scope pos) (asLst (lLc ι γ κ ν (own.map (·.2)))) := we_settle (wl_lc hc hN ok io hi tb hg ht he hs) lLc_mono
/-- name = [..] on one line; the list a cell, the list settled -/
theorem ws_setLcC {i : Nat} {y : Str} {py spos : Pos} {elt : Expr} {ifs : List Expr} {scope : Scope} {own : List (Str × Nat)} {ι : FI} {γ : Gam} {g : TG} {κ : FT} {ν : EF} (hc : X.calm = true) (hN : X.N.Nodup) (hyl : X.env.scope.names.lookup y = some .local) (hy : X.N[i]? = some y)
    (hsw : swapsWith (.ListComp elt [⟨tg, iter, ifs, 0⟩] scope pos) (some (.Name y py)) spos.line X.env = pure true) (ok : BlkOk X.N X.env.scope scope own) (io : IOk ι) (hi : FIt X tg iter ι) (tb : TgB X.K (own.map (·.2)) γ g)
    (hg : OnBlk X scope fun Y => PG Y tg g) (ht : OnBlk X scope fun Y => FTs Y ifs κ) (he : OnBlk X scope fun Y => FE Y elt ν) (hs : ∀ x, foldedSetIterable iter X.env x = pure x := by intro _; rfl) :
    WS X (.Assign [.Name y py] (.ListComp elt [⟨tg, iter, ifs, 0⟩] scope pos) spos) (dAsg (asCell (lLc ι γ κ ν (own.map (·.2)))) (dgName i)) :=
  ws_imp (ws_setLc hc hN hyl hy hsw ok hi tb hg ht he hs) fun E ρ S h => lc_pure (fun items k e => io.kept ρ S items k e) h
theorem ws_setLcR {i : Nat} {y : Str} {py spos : Pos} {elt : Expr} {ifs : List Expr} {scope : Scope} {own : List (Str × Nat)} {T : DI} {γ : Gam} {g : TG} {C : DT} {V' : DE} (hc : X.calm = true) (hN : X.N.Nodup) (hyl : X.env.scope.names.lookup y = some .local) (hy : X.N[i]? = some y)
    (hsw : swapsWith (.ListComp elt [⟨tg, iter, ifs, 0⟩] scope pos) (some (.Name y py)) spos.line X.env = pure true) (ok : BlkOk X.N X.env.scope scope own) (hi : WI X tg iter T) (tb : TgB X.K (own.map (·.2)) γ g)
    (hg : OnBlk X scope fun Y => PG Y tg g) (ht : OnBlk X scope fun Y => PTs Y ifs (bW Y C)) (he : OnBlk X scope fun Y => WE Y elt V') (hs : ∀ x, foldedSetIterable iter X.env x = pure x := by intro _; rfl) :
    WS X (.Assign [.Name y py] (.ListComp elt [⟨tg, iter, ifs, 0⟩] scope pos) spos) (dAsg (fun ρ S Q => dLc T γ C V' (own.map (·.2)) ρ S (RdQ Q)) (dgName i)) :=
  PS.imp (ps_setLc hc hN hy hyl hsw hi ok hg (fun s H C' cl fp => ptb (ht s H C' cl fp) rfl rfl rfl) (fun s H C' cl fp => peb (he s H C' cl fp) rfl rfl rfl) hs) fun Ds σ H ⟨F, ρ, S, E, rl, en, t, k⟩ =>
    lc_go (Q := fun x H1 => gName i x σ H1 Ds.nx) tb ⟨F, ρ, S, _, rl, en, t, kt_rd fun v H1 F1 S1 d x1 r1 p1 q => k.nx (σ.set i (some v)) H1 F1 _ S1 x1 r1 ((en.mono x1).set p1) q⟩
/-- the settled list -/
theorem ws_setLcS {i : Nat} {y : Str} {py spos : Pos} {elt : Expr} {ifs : List Expr} {scope : Scope} {own : List (Str × Nat)} {ι : FI} {γ : Gam} {g : TG} {κ : FT} {ν : EF} (hc : X.calm = true) (hN : X.N.Nodup) (hyl : X.env.scope.names.lookup y = some .local) (hy : X.N[i]? = some y)
    (hsw : swapsWith (.ListComp elt [⟨tg, iter, ifs, 0⟩] scope pos) (some (.Name y py)) spos.line X.env = pure true) (ok : BlkOk X.N X.env.scope scope own) (io : IOk ι) (hi : FIt X tg iter ι) (tb : TgB X.K (own.map (·.2)) γ g)
    (hg : OnBlk X scope fun Y => PG Y tg g) (ht : OnBlk X scope fun Y => FTs Y ifs κ) (he : OnBlk X scope fun Y => FE Y elt ν) (hs : ∀ x, foldedSetIterable iter X.env x = pure x := by intro _; rfl) :
    WS X (.Assign [.Name y py] (.ListComp elt [⟨tg, iter, ifs, 0⟩] scope pos) spos) (dAsg (asLst (lLc ι γ κ ν (own.map (·.2)))) (dgName i)) :=
  ws_imp (ws_setLcR hc hN hyl hy hsw ok hi tb hg ht he hs) fun E ρ S h => lc_pure (fun items k e => io.kept ρ S items k e) (lLc_mono ρ S (fun ds S1 => E.nx (ρ.set i (some (.lst ds))) S1) _ (fun ds S1 q ad hn => ⟨_, Le.refl _, .inr ⟨ad, ds, rfl, put_same, by rw [forget_put hn]; exact q⟩⟩) h)

/-! ### pure calls -/
def pureSp (f : DS → List D → Option D) : DSp := fun ds S Q => ∃ d, f S ds = some d ∧ Q d S
def dFn (n : Nat) (f : DS → List D → Option D) (η : FA) : EF := fun ρ S => (η ρ S).bind fun ds => if ds.length = n then f S ds else none
theorem fe_call {η : FA} {x : Str} {k j n : Nat} {f : DS → List D → Option D} (h : Has X.prog X.w X.K X.mg X.base k x n (pureSp f)) (hr : Room j X.A) (hk : k ≤ j) (hg : Gl X x) (ha : FAs X (e :: es) η)
    (hdb : (x == ("__debug__" : Str)) = false := by decide) (he : starEach (e :: es) X.env = (false, eval e X.env) :: starEach es X.env := by rfl) (hpl : (backTo pos (starEach es X.env)).any (·.1) = false := by rfl) :
    FE X (.Call (.Name x p) (e :: es) [] pos) (dFn n f η) := we_imp (we_call h hr hk hg ha hdb he hpl) fun ρ S Q ⟨d, h, q⟩ => by
  obtain ⟨ds, h1, h2⟩ := Option.bind_eq_some_iff.mp h
  obtain ⟨hl, h3⟩ := ite_some h2
  exact ⟨ds, h1, hl, d, h3, q⟩
/-- a method that only reads -/
def dMth (C : Addr) (m : Str) (n : Nat) (f : DS → List D → Option D) (α : EF) (η : FA) : EF := fun ρ S => (α ρ S).bind fun x => match x with
  | .ref ad => match S ad with
    | some (.ins C' fs) => if C' = C ∧ fs.lookup m = none then (η ρ S).bind fun ds => if ds.length + 1 = n then f S (.ref ad :: ds) else none else none
    | _ => none
  | _ => none
theorem fe_meth {pl : Sem Bool} {α : EF} {η : FA} {k j n : Nat} {C : Addr} {m : Str} {f : DS → List D → Option D} (h : HasM X.prog X.w X.K X.mg X.base k C m n (pureSp f)) (hr : Room j X.A) (hk : k ≤ j) (ho : FE X o α) (ha : FAs X (e :: es) η)
    (hst : starEach (e :: es) X.env = (false, eval e X.env) :: starEach es X.env := by rfl) (hpl : (backTo pos (starEach es X.env)).any (·.1) = false := by rfl)
    (ht : eval (.Call (.Attribute o m apos) (e :: es) [] pos) X.env = (do
      let ov ← eval o X.env
      standAt apos.atName
      let (f, first) ← holding [ov] (getMethod ov m pl)
      callWith pos f first (backTo pos (starEach (e :: es) X.env)) (backToKw pos (keywordEach [] X.env))) := by rfl) :
    FE X (.Call (.Attribute o m apos) (e :: es) [] pos) (dMth C m n f α η) := we_imp (we_meth (pl := pl) h hr hk ho ha hst hpl ht) fun ρ S Q ⟨d, h, q⟩ => by
  obtain ⟨x, h1, h2⟩ := Option.bind_eq_some_iff.mp h
  cases x with
  | ref ad =>
    simp only at h2
    cases e1 : S ad with
    | none => rw [e1] at h2; cases h2
    | some cc =>
      rw [e1] at h2
      cases cc with
      | ins C' fs =>
        obtain ⟨⟨rfl, hf⟩, h3⟩ := ite_some h2
        obtain ⟨ds, h4, h5⟩ := Option.bind_eq_some_iff.mp h3
        obtain ⟨hl, h6⟩ := ite_some h5
        exact ⟨_, h1, ad, fs, rfl, e1, hf, ds, h4, hl, d, h6, q⟩
      | _ => cases h2
  | _ => cases h2
theorem fe_meth0 {pl : Sem Bool} {α : EF} {k j n : Nat} {C : Addr} {m : Str} {f : DS → List D → Option D} (h : HasM X.prog X.w X.K X.mg X.base k C m n (pureSp f)) (hr : Room j X.A) (hk : k ≤ j) (ho : FE X o α)
    (ht : eval (.Call (.Attribute o m apos) [] [] pos) X.env = (do
      let ov ← eval o X.env
      standAt apos.atName
      let (f, first) ← holding [ov] (getMethod ov m pl)
      callWith pos f first (backTo pos (starEach [] X.env)) (backToKw pos (keywordEach [] X.env))) := by rfl) :
    FE X (.Call (.Attribute o m apos) [] [] pos) (dMth C m n f α aNil) := we_imp (we_meth0 (pl := pl) h hr hk ho ht) fun ρ S Q ⟨d, h, q⟩ => by
  obtain ⟨x, h1, h2⟩ := Option.bind_eq_some_iff.mp h
  cases x with
  | ref ad =>
    simp only at h2
    cases e1 : S ad with
    | none => rw [e1] at h2; cases h2
    | some cc =>
      rw [e1] at h2
      cases cc with
      | ins C' fs =>
        obtain ⟨⟨rfl, hf⟩, h3⟩ := ite_some h2
        obtain ⟨ds, h4, h5⟩ := Option.bind_eq_some_iff.mp h3
        cases h4
        obtain ⟨hl, h6⟩ := ite_some h5
        exact ⟨_, h1, ad, fs, rfl, e1, hf, hl, d, h6, q⟩
      | _ => cases h2
  | _ => cases h2
end
end KD
set_option Elab.async false
set_option linter.all false
set_option maxRecDepth 100000
set_option maxHeartbeats 4000000
/-! Rules over data: what the printed derivations use besides. -/
namespace KD
open PySem PySem.Spec PyProof.Rows L2 Evl
/-- a module's constant -/
def Gc (K : PySem.W.Frag) (mg : Str → Option Value) (x : Str) (d : D) : Prop := ∃ u v, mg x = some u ∧ RelV v u ∧ ∀ F, Rp K F v d
section
variable {X : Cx} {pos p pos' apos : Pos} {e f a b c o i value tg iter : Expr} {es : List Expr} {T : DE} {U : DA}
theorem fe_gc {x : Str} {d : D} (h : Gc X.K X.mg x d) (hg : Gl X x) (hd : (x == ("__debug__" : Str)) = false := by decide) : FE X (.Name x pos) (dC d) := by
  obtain ⟨u, v, hm, r, rp⟩ := h
  exact fe_glob hg hm r rp hd
theorem we_all (hg : Gl X "all") (hm : X.mg "all" = none) (ha : WA X [e] U) (hc : X.calm = true := by rfl) (he : starEach [e] X.env = (false, eval e X.env) :: starEach [] X.env := by rfl) : WE X (.Call (.Name "all" p) [e] [] pos) (wCall gAll U) :=
  we_callB (cr_all hc) of_all hg hm (by decide +kernel) ha (he := he)
theorem we_any (hg : Gl X "any") (hm : X.mg "any" = none) (ha : WA X [e] U) (hc : X.calm = true := by rfl) (he : starEach [e] X.env = (false, eval e X.env) :: starEach [] X.env := by rfl) : WE X (.Call (.Name "any" p) [e] [] pos) (wCall gAny U) :=
  we_callB (cr_any hc) of_any hg hm (by decide +kernel) ha (he := he)
theorem we_list (hg : Gl X "list") (hm : X.mg "list" = none) (ha : WA X [e] U) (he : starEach [e] X.env = (false, eval e X.env) :: starEach [] X.env := by rfl) : WE X (.Call (.Name "list" p) [e] [] pos) (asCell (wCallL gList U)) :=
  we_callTL call_list_of of_list hg hm (by decide +kernel) ha (he := he)
theorem we_intc (hg : Gl X "int") (hm : X.mg "int" = none) (ha : WA X [e] U) (he : starEach [e] X.env = (false, eval e X.env) :: starEach [] X.env := by rfl) : WE X (.Call (.Name "int" p) [e] [] pos) (wCall gInt U) :=
  we_callT call_int1 of_int hg hm (by decide +kernel) ha (he := he)
theorem bare_units {k : Nat} {A : Around} (hr : Room k A) : A.units + 64 < cLine := hr.units
end
end KD
set_option Elab.async false
set_option linter.all false
set_option maxRecDepth 100000
set_option maxHeartbeats 4000000
/-! Readings run: lemmas that the proofs over data use. -/
namespace KD
open PySem PySem.Spec PyProof.Rows L2 Evl
/-! ### promises by the number of arguments -/
abbrev DF := DS → List D → Option D
def p1 (f : D → Option D) : DF := fun _ ds => match ds with
  | [a] => f a
  | _ => none
def p2 (f : D → D → Option D) : DF := fun _ ds => match ds with
  | [a, b] => f a b
  | _ => none
def p3 (f : D → D → D → Option D) : DF := fun _ ds => match ds with
  | [a, b, c] => f a b c
  | _ => none
theorem p1_open {f : D → Option D} {S : DS} {ds : List D} {Q : DQ} (h : pureSp (p1 f) ds S Q) : ∃ a d, ds = [a] ∧ f a = some d ∧ Q d S := by
  obtain ⟨d, h, q⟩ := h
  match ds, h with
  | [a], h => exact ⟨a, d, rfl, h, q⟩
theorem p2_open {f : D → D → Option D} {S : DS} {ds : List D} {Q : DQ} (h : pureSp (p2 f) ds S Q) : ∃ a b d, ds = [a, b] ∧ f a b = some d ∧ Q d S := by
  obtain ⟨d, h, q⟩ := h
  match ds, h with
  | [a, b], h => exact ⟨a, b, d, rfl, h, q⟩
theorem p3_open {f : D → D → D → Option D} {S : DS} {ds : List D} {Q : DQ} (h : pureSp (p3 f) ds S Q) : ∃ a b c d, ds = [a, b, c] ∧ f a b c = some d ∧ Q d S := by
  obtain ⟨d, h, q⟩ := h
  match ds, h with
  | [a, b, c], h => exact ⟨a, b, c, d, rfl, h, q⟩
theorem dFn1 {f : D → Option D} {α : EF} {ρ : Rho} {S : DS} : dFn 1 (p1 f) (aCons α aNil) ρ S = (α ρ S).bind f := by
  unfold dFn aCons aNil
  cases α ρ S <;> rfl
theorem dFn2 {f : D → D → Option D} {α β : EF} {ρ : Rho} {S : DS} : dFn 2 (p2 f) (aCons α (aCons β aNil)) ρ S = (α ρ S).bind fun a => (β ρ S).bind fun b => f a b := by
  unfold dFn aCons aNil
  cases α ρ S with
  | none => rfl
  | some a => cases β ρ S <;> rfl
theorem dFn3 {f : D → D → D → Option D} {α β γ : EF} {ρ : Rho} {S : DS} : dFn 3 (p3 f) (aCons α (aCons β (aCons γ aNil))) ρ S = (α ρ S).bind fun a => (β ρ S).bind fun b => (γ ρ S).bind fun c => f a b c := by
  unfold dFn aCons aNil
  cases α ρ S with
  | none => rfl
  | some a =>
    cases β ρ S with
    | none => rfl
    | some b => cases γ ρ S <;> rfl
/-- a promise that holds of what is so: the answer is d -/
def yes (b : Bool) (d : D) : Option D := if b = true then some d else none
theorem yes_some {b : Bool} {d e : D} (h : yes b d = some e) : b = true ∧ e = d := by
  unfold yes at h
  obtain ⟨h1, h2⟩ := ite_some h
  cases h2
  exact ⟨h1, rfl⟩
theorem yes_true {b : Bool} {d : D} (h : b = true) : yes b d = some d := if_pos h

/-! ### all, any of a comprehension -/
theorem filter_true {α : Type} (xs : List α) : xs.filter (fun _ => true) = xs := by
  induction xs with
  | nil => rfl
  | cons x xs ih => rw [List.filter_cons_of_pos (by rfl), ih]
theorem bls_map (f : D → Bool) : ∀ xs : List D, blsOf (xs.map fun x => D.bl (f x)) = some (xs.map f)
  | [] => rfl
  | x :: xs => by
    have e : blsOf (D.bl (f x) :: xs.map fun x => D.bl (f x)) = (blsOf (xs.map fun x => D.bl (f x))).map (f x :: ·) := by
      simp only [blsOf]
    rw [List.map_cons, List.map_cons, e, bls_map f xs]
    rfl
theorem gAll_map {S : DS} {f : D → Bool} {xs : List D} : gAll S [.lst (xs.map fun d => .bl (f d))] = some (.bl (xs.all f)) := by
  simp only [gAll, lstOf, Option.bind_some, bls_map, Option.map_some, List.all_map]
  rfl
theorem gAny_map {S : DS} {f : D → Bool} {xs : List D} : gAny S [.lst (xs.map fun d => .bl (f d))] = some (.bl (xs.any f)) := by
  simp only [gAny, lstOf, Option.bind_some, bls_map, Option.map_some, List.any_map]
  rfl
section
variable {ι : FI} {γ : Gam} {κ : FT} {ν : EF} {vs : List Nat} {ρ : Rho} {S : DS} {Q : DQ} {items : List D} {k : KeepC} {f : D → Bool}
abbrev lcArg (ι : FI) (γ : Gam) (κ : FT) (ν : EF) (vs : List Nat) : DA := fun ρ S Q => asLst (lLc ι γ κ ν vs) ρ S fun d S1 => (fun ds S2 => Q (d :: ds) S2) [] S1
theorem all_go (h1 : ι ρ S = some (items, k)) (hl : items.length ≤ 1000000) (h2 : ∀ d ∈ items, ∀ S', Le S S' → ∃ ρ2, γ d (wipeD ρ vs) = some ρ2 ∧ ν ρ2 S' = some (.bl (f d))) (q : Q (.bl (items.all f)) S) :
    wCall gAll (lcArg ι γ kYes ν vs) ρ S Q := by
  refine ⟨items, k, h1, fun _ => true, fun d => .bl (f d), hl, fun d hd S' l => ?_, .bl (items.all f), ?_, q⟩
  · obtain ⟨ρ2, g1, g2⟩ := h2 d hd S' l
    exact ⟨ρ2, g1, rfl, fun _ => g2⟩
  · rw [filter_true]
    exact gAll_map
theorem any_go (h1 : ι ρ S = some (items, k)) (hl : items.length ≤ 1000000) (h2 : ∀ d ∈ items, ∀ S', Le S S' → ∃ ρ2, γ d (wipeD ρ vs) = some ρ2 ∧ ν ρ2 S' = some (.bl (f d))) (q : Q (.bl (items.any f)) S) :
    wCall gAny (lcArg ι γ kYes ν vs) ρ S Q := by
  refine ⟨items, k, h1, fun _ => true, fun d => .bl (f d), hl, fun d hd S' l => ?_, .bl (items.any f), ?_, q⟩
  · obtain ⟨ρ2, g1, g2⟩ := h2 d hd S' l
    exact ⟨ρ2, g1, rfl, fun _ => g2⟩
  · rw [filter_true]
    exact gAny_map
/-- a comprehension, settled -/
theorem lc_go1 {keep : D → Bool} {out : D → D} {R : LQ} (h1 : ι ρ S = some (items, k)) (hl : items.length ≤ 1000000) (h2 : ∀ d ∈ items, ∀ S', Le S S' → ∃ ρ2, γ d (wipeD ρ vs) = some ρ2 ∧ κ ρ2 S' = some (keep d) ∧ (keep d = true → ν ρ2 S' = some (out d)))
    (q : R ((items.filter keep).map out) S) : lLc ι γ κ ν vs ρ S R := ⟨items, k, h1, keep, out, hl, h2, q⟩
end
/-! ### items -/
theorem atI0 {a : D} {r : List D} : atI (a :: r) 0 = some a := by
  unfold atI
  rw [show ixN (a :: r).length 0 = some 0 by unfold ixN; simp]
  rfl
theorem atI1 {a b : D} {r : List D} : atI (a :: b :: r) 1 = some b := by
  unfold atI
  rw [show ixN (a :: b :: r).length 1 = some 1 by unfold ixN; simp; omega]
  rfl
theorem atI2 {a b c : D} {r : List D} : atI (a :: b :: c :: r) 2 = some c := by
  unfold atI
  rw [show ixN (a :: b :: c :: r).length 2 = some 2 by unfold ixN; simp; omega]
  rfl
theorem atI3 {a b c d : D} {r : List D} : atI (a :: b :: c :: d :: r) 3 = some d := by
  unfold atI
  rw [show ixN (a :: b :: c :: d :: r).length 3 = some 3 by unfold ixN; simp; omega]
  rfl
theorem atIn {ds : List D} {i : Nat} {d : D} (h : ds[i]? = some d) : atI ds (i : Int) = some d := by
  have hi : i < ds.length := by
    rcases Nat.lt_or_ge i ds.length with z | z
    · exact z
    · rw [List.getElem?_eq_none z] at h; cases h
  unfold atI
  rw [show ixN ds.length (i : Int) = some i by unfold ixN; simp; omega]
  exact h
theorem eq2_str {x y : Str} : D.eq2 (.str x) (.str y) = some (decide (x = y)) := rfl
theorem eq2_int {x y : Int} : D.eq2 (.int x) (.int y) = some (decide (x = y)) := rfl
theorem eq2_bl {x y : Bool} : D.eq2 (.bl x) (.bl y) = some (decide (x = y)) := rfl
/-! ### cells -/
theorem Le.at_ {S S' : DS} {ad : Addr} {c : Cell} (l : Le S S') (h : S ad = some c) : S' ad = some c := l ad c h
/-- what isinstance tells -/
theorem kits (a b : String) (r : Bool) (h : kitB a b = some r := by first | rfl | decide | decide +kernel) : kitB a b = some r := h
end KD
set_option Elab.async false
set_option linter.all false
set_option maxRecDepth 100000
set_option maxHeartbeats 4000000
/-! Cells kept; lists that settle. -/
namespace KD
open PySem PySem.Spec PyProof.Rows L2 Evl
theorem le_putR {S S' : DS} {p : Addr} {c : Cell} (l : Le S S') (h : S p = none) : Le S (put S' p c) := fun ad d e => by
  have hne : ad ≠ p := fun z => by rw [z, h] at e; cases e
  rw [put_ne hne]
  exact l ad d e
theorem le_putL {S S' : DS} {p : Addr} {c : Cell} (l : Le S S') (h : S' p = some c) : Le (put S p c) S' := fun ad d e => by
  by_cases z : ad = p
  · subst z; rw [put_same] at e; cases e; exact h
  · rw [put_ne z] at e; exact l ad d e
/-- a list that is returned settles, the rest of what is new is forgotten -/
theorem RdQ.lst {Q : DQ} {S S' : DS} {p : Addr} {ds : List D} (h : Q (.lst ds) S) (l : Le S S') (hp : S p = none) (e : S' p = some (.lst ds)) : RdQ Q (.ref p) S' :=
  ⟨put S p (.lst ds), le_putL l e, .inr ⟨p, ds, rfl, put_same, by rw [forget_put hp]; exact h⟩⟩
theorem rd_new {Q : DQ} {S : DS} {p : Addr} {ds : List D} (hp : S p = none) (h : Q (.lst ds) S) : RdQ Q (.ref p) (put S p (.lst ds)) := RdQ.lst h (Le.put hp) hp put_same
theorem put_at {S : DS} {a b : Addr} {c : Cell} (h : b ≠ a) : put S a c b = S b := put_ne h
theorem fresh_ne {S : DS} {a b : Addr} {c : Cell} (h : S a = some c) (k : S b = none) : b ≠ a := fun z => by rw [z, h] at k; cases k
section
variable {α : EF} {η : FA} {ρ : Rho} {S : DS} {Q : DQ} {ad : Addr} {ds ys : List D} {y : D}
theorem append_go (h1 : α ρ S = some (.ref ad)) (h2 : η ρ S = some [y]) (h3 : S ad = some (.lst ds)) (hl : ds.length < 1000000) (q : Q .non (put S ad (.lst (ds ++ [y])))) : dLm (fE α) (fA η) mAppend ρ S Q :=
  ⟨.ref ad, h1, ⟨ad, ds, rfl, h3⟩, [y], h2, ad, ds, .non, ds ++ [y], rfl, h3, if_pos hl, q⟩
theorem pop_go (h1 : α ρ S = some (.ref ad)) (h3 : S ad = some (.lst (ds ++ [y]))) (q : Q y (put S ad (.lst ds))) : dLm (fE α) (fun _ S Q => Q [] S) mPop ρ S Q :=
  ⟨.ref ad, h1, ⟨ad, _, rfl, h3⟩, ad, ds ++ [y], y, ds, rfl, h3, by simp [mPop], q⟩
theorem extendT_go (h1 : α ρ S = some (.ref ad)) (h2 : η ρ S = some [.tup ys]) (h3 : S ad = some (.lst ds)) (hl : ds.length + ys.length ≤ 1000000) (q : Q .non (put S ad (.lst (ds ++ ys)))) : dLm (fE α) (fA η) mExtend ρ S Q :=
  ⟨.ref ad, h1, ⟨ad, ds, rfl, h3⟩, [.tup ys], h2, ad, ds, .non, ds ++ ys, rfl, h3, if_pos hl, q⟩
theorem extendL_go (h1 : α ρ S = some (.ref ad)) (h2 : η ρ S = some [.lst ys]) (h3 : S ad = some (.lst ds)) (hl : ds.length + ys.length ≤ 1000000) (q : Q .non (put S ad (.lst (ds ++ ys)))) : dLm (fE α) (fA η) mExtendL ρ S Q :=
  ⟨.ref ad, h1, ⟨ad, ds, rfl, h3⟩, [.lst ys], h2, ad, ds, .non, ds ++ ys, rfl, h3, if_pos hl, q⟩
end
section
variable {α β γ : EF} {ρ : Rho} {S S' : DS} {E : DEnds} {ad : Addr} {key v : D} {kvs : List (D × D)} {kvt : List (Str × D)} {x : Str} {k : NestedKey}
theorem putD_S (h : S ad = some (.dS kvt)) (hl : kvt.length < 1000000) : putD S ad (.str x) v = some (put S ad (.dS (putS x v kvt))) := by
  unfold putD
  rw [h]
  exact if_pos hl
theorem putD_T (h : S ad = some (.dT kvs)) (hk : key.key = some k) (hl : kvs.length < 1000000) : putD S ad key v = some (put S ad (.dT (putT key k v kvs))) := by
  unfold putD
  rw [h]
  show key.key.bind _ = _
  rw [hk]
  exact if_pos hl
theorem dput_go (h1 : α ρ S = some (.ref ad)) (h2 : β ρ S = some key) (h3 : γ ρ S = some v) (h4 : putD S ad key v = some S') (q : E.nx ρ S') : dDput (fE α) (fE β) (fE γ) E ρ S :=
  ⟨v, h3, .ref ad, h1, key, h2, ad, S', rfl, h4, q⟩
end
/-! ### pure comprehensions over any walk -/
section
variable {X : Cx} {F F' : Hp} {H H' : Hp} {S S' : DS} {σ : L2.St} {ρ : Rho} {pos p pos' apos : Pos} {e f a b c o i value tg iter : Expr} {es : List Expr}
def dLcI (T : DI) (γ : Gam) (κ : FT) (ν : EF) (vs : List Nat) : DE := fun ρ S Q => T ρ S fun items Gk S1 => (∀ S', Le S1 S' → Gk S') ∧ ∃ (keep : D → Bool) (out : D → D), items.length ≤ 1000000 ∧
  (∀ d ∈ items, ∀ S', Le S1 S' → ∃ ρ2, γ d (wipeD ρ vs) = some ρ2 ∧ κ ρ2 S' = some (keep d) ∧ (keep d = true → ν ρ2 S' = some (out d))) ∧ ∀ ad, S1 ad = none → Q (.ref ad) (put S1 ad (.lst ((items.filter keep).map out)))
def moI (T : DI) : DI := fun ρ S Q => ∃ Q1, T ρ S Q1 ∧ ∀ items G S1, Q1 items G S1 → Q items G S1
theorem lc_goI {T : DI} {γ : Gam} {g : TG} {κ : FT} {ν : EF} {vs : List Nat} {Q : VK} (tb : TgB X.K vs γ g) (h : tW X (dLcI T γ κ ν vs) σ H Q) : tLc (iW X T) g (bW X (fT κ)) (tW X (fE ν)) vs σ H Q := by
  obtain ⟨F, ρ, S, Q', rl, en, t, k⟩ := h
  have h2 : tW X (dLc (moI T) γ (fT κ) (fE ν) vs) σ H Q := by
    refine ⟨F, ρ, S, Q', rl, en, ⟨_, t, fun items Gk S1 ⟨hG, keep, out, hl, hc, hq⟩ ad hn => ?_⟩, k⟩
    refine ⟨fun i S2 => S2 = put S1 ad (.lst (((items.take i).filter keep).map out)), rfl, fun i S2 _ e => ?_, fun i d S2 hd e => ?_, fun S2 e => ?_⟩
    · subst e
      exact hG _ (Le.put hn)
    · subst e
      have hi : i < items.length := by
        rcases Nat.lt_or_ge i items.length with z | z
        · exact z
        · rw [List.getElem?_eq_none z] at hd; cases hd
      have hmem : d ∈ items := List.mem_of_getElem? hd
      obtain ⟨ρ2, g1, g2, g3⟩ := hc d hmem _ (Le.put (c := .lst (((items.take i).filter keep).map out)) hn)
      have ht : items.take (i + 1) = items.take i ++ [d] := by rw [List.take_succ, hd]; rfl
      refine ⟨ρ2, g1, keep d, g2, ?_⟩
      cases hb : keep d with
      | true =>
        rw [if_pos rfl]
        refine ⟨out d, g3 hb, _, put_same, ?_, ?_⟩
        · rw [List.length_map]
          have := List.length_filter_le keep (items.take i)
          rw [List.length_take] at this
          omega
        · show put (put S1 ad _) ad _ = put S1 ad (.lst (((items.take (i + 1)).filter keep).map out))
          rw [put_put, ht, List.filter_append, List.map_append]
          simp [hb]
      | false =>
        rw [if_neg Bool.false_ne_true]
        show put S1 ad (.lst (((items.take i).filter keep).map out)) = put S1 ad (.lst (((items.take (i + 1)).filter keep).map out))
        rw [ht, List.filter_append, List.map_append]
        simp [hb]
    · subst e
      rw [List.take_length]
      exact hq ad hn
  obtain ⟨F2, ρ2, S2, Q2, rl2, en2, ⟨Q1, t1, m1⟩, k2⟩ := lc_go tb h2
  exact ⟨F2, ρ2, S2, Q1, rl2, en2, t1, fun J H' F' S' items G x r w q => k2 J H' F' S' items G x r w (m1 _ _ _ q)⟩
theorem wl_lcI {elt : Expr} {ifs : List Expr} {scope : Scope} {own : List (Str × Nat)} {T : DI} {γ : Gam} {g : TG} {κ : FT} {ν : EF} (hc : X.calm = true) (hN : X.N.Nodup) (ok : BlkOk X.N X.env.scope scope own) (hi : WI X tg iter T) (tb : TgB X.K (own.map (·.2)) γ g)
    (hg : OnBlk X scope fun Y => PG Y tg g) (ht : OnBlk X scope fun Y => FTs Y ifs κ) (he : OnBlk X scope fun Y => FE Y elt ν) (hs : ∀ x, foldedSetIterable iter X.env x = pure x := by intro _; rfl) :
    WE X (.ListComp elt [⟨tg, iter, ifs, 0⟩] scope pos) (dLcI T γ κ ν (own.map (·.2))) :=
  PE.imp (pe_lc hc hN hi ok hg (fun s H C' cl fp => ptb (ht s H C' cl fp) rfl rfl rfl) (fun s H C' cl fp => peb (he s H C' cl fp) rfl rfl rfl) hs) fun σ H Q h => lc_goI tb h
end
end KD
set_option Elab.async false
set_option linter.all false
set_option maxRecDepth 100000
set_option maxHeartbeats 4000000
/-! What is written: words, kinds, sayings, facts as data. No program in sight. -/
namespace KD
open PySem PySem.Spec PyProof.Rows L2 Evl
def letters : Str := "abcdefghijklmnopqrstuvwxyz"
def isW (x : Str) : Bool := decide (1 ≤ x.length) && decide (x.length ≤ 8) && x.cps.toList.all fun c => decide (c ∈ letters.cps.toList)
def wfW : D → Bool
  | .str x => isW x
  | _ => false
def wfK : Nat → D → Bool
  | n + 1, .tup [.str t] => decide (t = "any") || decide (t = "none")
  | n + 1, .tup [.str t, x] => (decide (t = "name") && wfW x) || (decide (t = "and") && match x with
    | .tup ks => decide (2 ≤ ks.length) && decide (ks.length ≤ 1000) && ks.all (wfK n)
    | _ => false)
  | n + 1, .tup [.str t, x, k] => decide (t = "some") && wfW x && wfK n k
  | _, _ => false
theorem wfK2 {n : Nat} {t : Str} {x : D} : wfK (n + 1) (.tup [.str t, x]) = ((decide (t = "name") && wfW x) || (decide (t = "and") && match x with
    | .tup ks => decide (2 ≤ ks.length) && decide (ks.length ≤ 1000) && ks.all (wfK n)
    | _ => false)) := by
  cases x <;> simp [wfK]
theorem kit_NoneType_bool : kitB "NoneType" "bool" = some false := by first | rfl | decide | decide +kernel
theorem kit_NoneType_int : kitB "NoneType" "int" = some false := by first | rfl | decide | decide +kernel
theorem kit_NoneType_str : kitB "NoneType" "str" = some false := by first | rfl | decide | decide +kernel
theorem kit_NoneType_tuple : kitB "NoneType" "tuple" = some false := by first | rfl | decide | decide +kernel
theorem kit_NoneType_list : kitB "NoneType" "list" = some false := by first | rfl | decide | decide +kernel
theorem kit_NoneType_dict : kitB "NoneType" "dict" = some false := by first | rfl | decide | decide +kernel
theorem kit_bool_bool : kitB "bool" "bool" = some true := by first | rfl | decide | decide +kernel
theorem kit_bool_int : kitB "bool" "int" = some true := by first | rfl | decide | decide +kernel
theorem kit_bool_str : kitB "bool" "str" = some false := by first | rfl | decide | decide +kernel
theorem kit_bool_tuple : kitB "bool" "tuple" = some false := by first | rfl | decide | decide +kernel
theorem kit_bool_list : kitB "bool" "list" = some false := by first | rfl | decide | decide +kernel
theorem kit_bool_dict : kitB "bool" "dict" = some false := by first | rfl | decide | decide +kernel
theorem kit_int_bool : kitB "int" "bool" = some false := by first | rfl | decide | decide +kernel
theorem kit_int_int : kitB "int" "int" = some true := by first | rfl | decide | decide +kernel
theorem kit_int_str : kitB "int" "str" = some false := by first | rfl | decide | decide +kernel
theorem kit_int_tuple : kitB "int" "tuple" = some false := by first | rfl | decide | decide +kernel
theorem kit_int_list : kitB "int" "list" = some false := by first | rfl | decide | decide +kernel
theorem kit_int_dict : kitB "int" "dict" = some false := by first | rfl | decide | decide +kernel
theorem kit_str_bool : kitB "str" "bool" = some false := by first | rfl | decide | decide +kernel
theorem kit_str_int : kitB "str" "int" = some false := by first | rfl | decide | decide +kernel
theorem kit_str_str : kitB "str" "str" = some true := by first | rfl | decide | decide +kernel
theorem kit_str_tuple : kitB "str" "tuple" = some false := by first | rfl | decide | decide +kernel
theorem kit_str_list : kitB "str" "list" = some false := by first | rfl | decide | decide +kernel
theorem kit_str_dict : kitB "str" "dict" = some false := by first | rfl | decide | decide +kernel
theorem kit_tuple_bool : kitB "tuple" "bool" = some false := by first | rfl | decide | decide +kernel
theorem kit_tuple_int : kitB "tuple" "int" = some false := by first | rfl | decide | decide +kernel
theorem kit_tuple_str : kitB "tuple" "str" = some false := by first | rfl | decide | decide +kernel
theorem kit_tuple_tuple : kitB "tuple" "tuple" = some true := by first | rfl | decide | decide +kernel
theorem kit_tuple_list : kitB "tuple" "list" = some false := by first | rfl | decide | decide +kernel
theorem kit_tuple_dict : kitB "tuple" "dict" = some false := by first | rfl | decide | decide +kernel
theorem kit_list_bool : kitB "list" "bool" = some false := by first | rfl | decide | decide +kernel
theorem kit_list_int : kitB "list" "int" = some false := by first | rfl | decide | decide +kernel
theorem kit_list_str : kitB "list" "str" = some false := by first | rfl | decide | decide +kernel
theorem kit_list_tuple : kitB "list" "tuple" = some false := by first | rfl | decide | decide +kernel
theorem kit_list_list : kitB "list" "list" = some true := by first | rfl | decide | decide +kernel
theorem kit_list_dict : kitB "list" "dict" = some false := by first | rfl | decide | decide +kernel
theorem kit_dict_bool : kitB "dict" "bool" = some false := by first | rfl | decide | decide +kernel
theorem kit_dict_int : kitB "dict" "int" = some false := by first | rfl | decide | decide +kernel
theorem kit_dict_str : kitB "dict" "str" = some false := by first | rfl | decide | decide +kernel
theorem kit_dict_tuple : kitB "dict" "tuple" = some false := by first | rfl | decide | decide +kernel
theorem kit_dict_list : kitB "dict" "list" = some false := by first | rfl | decide | decide +kernel
theorem kit_dict_dict : kitB "dict" "dict" = some true := by first | rfl | decide | decide +kernel
end KD
set_option Elab.async false
set_option linter.all false
set_option maxRecDepth 100000
set_option maxHeartbeats 4000000
namespace KD
open PySem PySem.Spec PyProof.Rows L2 Evl
/-! kinds within, parts -/
def kwD : D → Option (List D)
  | .tup [.str t] => if t = "any" ∨ t = "none" then some [] else none
  | .tup [.str t, x] => if t = "and" then (match x with
    | .tup ks => some ks
    | _ => none) else if t = "name" then some [] else none
  | .tup [.str t, _, k] => if t = "some" then some [k] else none
  | _ => none
def partsD : Nat → D → List D
  | 0, _ => []
  | n + 1, d => d :: ((kwD d).getD []).reverse.flatMap (partsD n)
theorem kw_len {n : Nat} {d : D} (h : wfK n d = true) : ∃ ks, kwD d = some ks ∧ ks.length ≤ 1000 ∧ ∀ k ∈ ks, wfK (n - 1) k = true := by
  match n, d, h with
  | n + 1, .tup [.str t], h =>
    have ht : t = "any" ∨ t = "none" := by simpa [wfK] using h
    exact ⟨[], if_pos ht, by simp, fun k hk => nomatch hk⟩
  | n + 1, .tup [.str t, x], h =>
    rw [wfK2] at h
    rcases Bool.or_eq_true_iff.mp h with h | h
    · obtain ⟨h1, h2⟩ := Bool.and_eq_true_iff.mp h
      obtain rfl := of_decide_eq_true h1
      exact ⟨[], rfl, by simp, fun k hk => nomatch hk⟩
    · obtain ⟨h1, h2⟩ := Bool.and_eq_true_iff.mp h
      obtain rfl := of_decide_eq_true h1
      cases x with
      | tup ks =>
        simp only [Bool.and_eq_true, decide_eq_true_eq, List.all_eq_true] at h2
        exact ⟨ks, rfl, h2.1.2, h2.2⟩
      | _ => cases h2
  | n + 1, .tup [.str t, x, k], h =>
    have h : (decide (t = "some") && wfW x && wfK n k) = true := h
    simp only [Bool.and_eq_true, decide_eq_true_eq] at h
    obtain ⟨⟨rfl, hx⟩, hk⟩ := h
    exact ⟨[k], rfl, by simp, fun z hz => by rw [List.mem_singleton.mp hz]; exact hk⟩
theorem wfK_succ : ∀ {n : Nat} {d : D}, wfK n d = true → wfK (n + 1) d = true
  | n + 1, .tup [.str t], h => h
  | n + 1, .tup [.str t, x], h => by
    rw [wfK2] at h ⊢
    rcases Bool.or_eq_true_iff.mp h with h | h
    · exact Bool.or_eq_true_iff.mpr (.inl h)
    · obtain ⟨h1, h2⟩ := Bool.and_eq_true_iff.mp h
      refine Bool.or_eq_true_iff.mpr (.inr (Bool.and_eq_true_iff.mpr ⟨h1, ?_⟩))
      cases x with
      | tup ks =>
        simp only [Bool.and_eq_true, decide_eq_true_eq, List.all_eq_true] at h2 ⊢
        exact ⟨h2.1, fun k hk => wfK_succ (h2.2 k hk)⟩
      | _ => cases h2
  | n + 1, .tup [.str t, x, k], h => by
    have h : (decide (t = "some") && wfW x && wfK n k) = true := h
    show (decide (t = "some") && wfW x && wfK (n + 1) k) = true
    simp only [Bool.and_eq_true] at h ⊢
    exact ⟨h.1, wfK_succ h.2⟩
theorem parts_succ : ∀ {n : Nat} {d : D}, wfK n d = true → partsD (n + 1) d = partsD n d
  | 0, d, h => by cases d <;> simp [wfK] at h
  | n + 1, d, h => by
    obtain ⟨ks, e, _, hk⟩ := kw_len h
    show d :: ((kwD d).getD []).reverse.flatMap (partsD (n + 1)) = d :: ((kwD d).getD []).reverse.flatMap (partsD n)
    rw [e]
    congr 1
    show ks.reverse.flatMap _ = ks.reverse.flatMap _
    have key : ∀ l : List D, (∀ k ∈ l, wfK n k = true) → l.flatMap (partsD (n + 1)) = l.flatMap (partsD n) := fun l => by
      induction l with
      | nil => exact fun _ => rfl
      | cons x l ih =>
        intro hl
        rw [List.flatMap_cons, List.flatMap_cons, parts_succ (hl x List.mem_cons_self), ih fun k hk => hl k (List.mem_cons_of_mem _ hk)]
    exact key _ fun k hk2 => hk k (List.mem_reverse.mp hk2)
/-- the parts of a kind that is n deep -/
theorem parts_eq {n : Nat} {d : D} (h : wfK n d = true) : ∃ ks, kwD d = some ks ∧ ks.length ≤ 1000 ∧ (∀ k ∈ ks, wfK n k = true) ∧ partsD n d = d :: ks.reverse.flatMap (partsD n) := by
  obtain ⟨ks, e, hl, hk⟩ := kw_len h
  cases n with
  | zero => cases d <;> simp [wfK] at h
  | succ n =>
    refine ⟨ks, e, hl, fun k hk2 => wfK_succ (hk k hk2), ?_⟩
    rw [← parts_succ h]
    show d :: ((kwD d).getD []).reverse.flatMap (partsD (n + 1)) = _
    rw [e]
    rfl
theorem len_parts {n : Nat} : ∀ {l : List D}, (∀ x ∈ l, wfK n x = true) → l.length ≤ (l.flatMap (partsD n)).length
  | [], _ => Nat.le_refl _
  | x :: l, h => by
    obtain ⟨ks, _, _, _, e⟩ := parts_eq (h x List.mem_cons_self)
    have ih := len_parts (l := l) fun z hz => h z (List.mem_cons_of_mem _ hz)
    rw [List.flatMap_cons, List.length_append, List.length_cons, e, List.length_cons]
    omega
/-- sayings -/
def wfS (n : Nat) : D → Bool
  | .tup [.str t, a, b] => (decide (t = "below") && wfK n a && wfK n b) || (decide (t = "role") && wfW a && wfW b)
  | .tup [.str t, a, b, c] => decide (t = "chain") && wfW a && wfW b && wfW c
  | _ => false
def wfB (n : Nat) : D → Bool
  | .tup ss => decide (ss.length ≤ 1000000) && ss.all (wfS n)
  | _ => false
def kos1 : D → List D
  | .tup [.str t, a, b] => if t = "below" then [a, b] else []
  | _ => []
def kosD (ss : List D) : List D := ss.flatMap kos1
theorem kos1_len (d : D) : (kos1 d).length ≤ 2 := by
  unfold kos1
  split
  · split <;> simp
  · simp
theorem kosD_len : ∀ ss : List D, (kosD ss).length ≤ 2 * ss.length
  | [] => Nat.le_refl _
  | x :: l => by
    have h1 := kosD_len l
    have h2 := kos1_len x
    unfold kosD at h1 ⊢
    rw [List.flatMap_cons, List.length_append, List.length_cons]
    omega
theorem kosD_snoc (ss : List D) (d : D) : kosD (ss ++ [d]) = kosD ss ++ kos1 d := by
  unfold kosD
  rw [List.flatMap_append]
  simp
/-- facts -/
def wfF (n : Nat) : D → Bool
  | .tup [.str t, a, k] => decide (t = "is") && wfW a && wfK n k
  | .tup [.str t, a, b, c] => decide (t = "to") && wfW a && wfW b && wfW c
  | _ => false
def wfFs (n : Nat) : D → Bool
  | .tup ss => decide (ss.length ≤ 1000000) && ss.all (wfF n)
  | _ => false
def pocD : D → List D
  | .tup [.str t, a, _] => if t = "is" then [a] else []
  | .tup [.str t, a, _, c] => if t = "to" then [a, c] else []
  | _ => []
end KD
set_option Elab.async false
set_option linter.all false
set_option maxRecDepth 100000
set_option maxHeartbeats 4000000
namespace KD
open PySem PySem.Spec PyProof.Rows L2 Evl
/-! sets of texts, sets of data, sorted -/
def addS (xs : List Str) (x : Str) : List Str := if x ∈ xs then xs else xs ++ [x]
def uniqS (xs ys : List Str) : List Str := ys.foldl addS xs
def trueS (xs : List Str) : List (Str × D) := xs.map fun x => (x, .bl true)
theorem putS_true {xs : List Str} {x : Str} : putS x (.bl true) (trueS xs) = trueS (addS xs x) := by
  have ha : ((trueS xs).any fun p => decide (p.1 = x)) = decide (x ∈ xs) := by
    unfold trueS
    rw [List.any_map]
    rw [Bool.eq_iff_iff]
    simp only [List.any_eq_true, decide_eq_true_eq, Function.comp]
    exact ⟨fun ⟨y, h1, h2⟩ => h2 ▸ h1, fun h => ⟨x, h, rfl⟩⟩
  unfold putS
  rw [ha]
  unfold addS
  by_cases h : x ∈ xs
  · rw [if_pos (by simpa using h), if_pos h]
    unfold trueS
    rw [List.map_map]
    refine List.map_congr_left fun y _ => ?_
    simp only [Function.comp]
    split <;> rfl
  · rw [if_neg (by simpa using h), if_neg h]
    unfold trueS
    rw [List.map_append]
    rfl
theorem mem_addS {xs : List Str} {x y : Str} : y ∈ addS xs x ↔ y ∈ xs ∨ y = x := by
  unfold addS
  split
  · next h => exact ⟨.inl, fun z => z.elim id fun e => e ▸ h⟩
  · simp
theorem mem_uniqS : ∀ {ys xs : List Str} {y : Str}, y ∈ uniqS xs ys ↔ y ∈ xs ∨ y ∈ ys
  | [], xs, y => by simp [uniqS]
  | z :: ys, xs, y => by
    show y ∈ uniqS (addS xs z) ys ↔ _
    rw [mem_uniqS, mem_addS, List.mem_cons, or_assoc]
theorem addS_nodup {xs : List Str} {x : Str} (h : xs.Nodup) : (addS xs x).Nodup := by
  unfold addS
  split
  · exact h
  · next hx =>
    rw [List.nodup_append]
    exact ⟨h, by simp, fun a ha b hb => by rw [List.mem_singleton.mp hb]; rintro rfl; exact hx ha⟩
theorem uniqS_nodup : ∀ {ys xs : List Str}, xs.Nodup → (uniqS xs ys).Nodup
  | [], _, h => h
  | z :: ys, xs, h => uniqS_nodup (ys := ys) (addS_nodup h)
theorem addS_len {xs : List Str} {x : Str} : (addS xs x).length ≤ xs.length + 1 := by
  unfold addS; split <;> simp
theorem uniqS_len : ∀ {ys xs : List Str}, (uniqS xs ys).length ≤ xs.length + ys.length
  | [], _ => Nat.le_refl _
  | z :: ys, xs => by
    have h1 := uniqS_len (ys := ys) (xs := addS xs z)
    have h2 := addS_len (xs := xs) (x := z)
    show (uniqS (addS xs z) ys).length ≤ _
    rw [List.length_cons]
    omega
def leS (a b : Str) : Bool := decide (a.cps.toList ≤ b.cps.toList)
def sortS (xs : List Str) : List Str := xs.mergeSort leS
theorem sortD_strs (xs : List Str) : sortD (xs.map .str) = (sortS xs).map .str := by
  unfold sortD sortS
  rw [List.map_mergeSort (r := leS) (s := PySem.W.dataLe false D.py) (f := D.str)]
  intro a _ b _
  have e := PySem.W.dataLe_str (β := Str) id
  have e2 := congrFun (congrFun e a) b
  exact e2.symm
theorem sortOk_strs {xs : List Str} (h : xs.length ≤ 1000000) : SortOk (xs.map .str) := by
  refine ⟨?_, ?_, by rw [List.length_map]; exact h, fun d hd => ?_⟩
  · rw [List.map_map]
    exact PySem.W.AllAlike.of fun a b => by simp [D.py, PySem.W.alike]
  · rw [List.map_map]
    exact PySem.W.Sortable.others fun a => ⟨by simp [D.py], fun xs => by simp [D.py]⟩
  · obtain ⟨x, _, rfl⟩ := List.mem_map.mp hd
    simp [D.py, PyData.depth]
/-! the persons of facts -/
def txt : D → Str
  | .str x => x
  | _ => ""
def pocS (d : D) : List Str := (pocD d).map txt
theorem pocS_of {d : D} {n : Nat} (h : wfF n d = true) : (pocS d).map D.str = pocD d ∧ (pocS d).length ≤ 2 := by
  match d, h with
  | .tup [.str t, x, y], h =>
    have h : (decide (t = "is") && wfW x && wfK n y) = true := h
    simp only [Bool.and_eq_true, decide_eq_true_eq] at h
    obtain ⟨⟨rfl, h1⟩, h2⟩ := h
    cases x with
    | str z => exact ⟨rfl, by show 1 ≤ 2; decide⟩
    | _ => cases h1
  | .tup [.str t, x, y, z], h =>
    have h : (decide (t = "to") && wfW x && wfW y && wfW z) = true := h
    simp only [Bool.and_eq_true, decide_eq_true_eq] at h
    obtain ⟨⟨⟨rfl, h1⟩, h2⟩, h3⟩ := h
    cases x with
    | str a => cases z with
      | str b => exact ⟨rfl, by show 2 ≤ 2; decide⟩
      | _ => cases h3
    | _ => cases h1
def perS (ss : List D) : List Str := uniqS [] (ss.flatMap pocS)
def perD (ss : List D) : List D := (sortS (perS ss)).map .str
/-! sets of keys -/
def addK (ks : List D) (d : D) : List D := if (ks.any fun e => decide (e.key = d.key)) = true then ks else ks ++ [d]
def addKs (ks ds : List D) : List D := ds.foldl addK ks
def trueT (ks : List D) : List (D × D) := ks.map fun d => (d, .bl true)
theorem findT_true {k : NestedKey} : ∀ {ks : List D}, findT k (trueT ks) = if (ks.any fun e => decide (e.key = some k)) = true then some (.bl true) else none
  | [] => rfl
  | d :: ks => by
    have ih := findT_true (k := k) (ks := ks)
    unfold findT trueT at ih ⊢
    rw [List.map_cons, List.any_cons]
    by_cases h : d.key = some k
    · rw [List.find?_cons_of_pos (by simp [h])]
      simp [h]
    · rw [List.find?_cons_of_neg (by simp [h]), ih]
      simp [h]
theorem putT_true {ks : List D} {d : D} {k : NestedKey} (h : d.key = some k) : putT d k (.bl true) (trueT ks) = trueT (addK ks d) := by
  unfold putT addK
  rw [findT_true, h]
  by_cases ha : (ks.any fun e => decide (e.key = some k)) = true
  · rw [if_pos ha, if_pos (by rfl), if_pos ha]
    unfold trueT
    rw [List.map_map]
    refine List.map_congr_left fun y _ => ?_
    simp only [Function.comp]
    split <;> rfl
  · rw [if_neg ha, if_neg (by simp), if_neg ha]
    unfold trueT
    rw [List.map_append]
    rfl
theorem addK_len {ks : List D} {d : D} : (addK ks d).length ≤ ks.length + 1 := by
  unfold addK; split <;> simp
theorem addKs_len : ∀ {ds ks : List D}, (addKs ks ds).length ≤ ks.length + ds.length
  | [], _ => Nat.le_refl _
  | z :: ds, ks => by
    have h1 := addKs_len (ds := ds) (ks := addK ks z)
    have h2 := addK_len (ks := ks) (d := z)
    show (addKs (addK ks z) ds).length ≤ _
    rw [List.length_cons]
    omega
theorem trueT_keys (ks : List D) : (trueT ks).map (·.1) = ks := by
  unfold trueT
  rw [List.map_map]
  exact List.map_id ks
theorem trueS_keys (xs : List Str) : ((trueS xs).map fun p => D.str p.1) = xs.map .str := by
  unfold trueS
  rw [List.map_map]
  rfl
/-! texts among texts -/
theorem nks_strs : ∀ xs : List Str, D.nks (xs.map .str) = some (xs.map .text)
  | [] => rfl
  | x :: xs => by
    have ih := nks_strs xs
    rw [List.map_cons, List.map_cons]
    simp only [D.nks, D.nk, ih]
theorem inD_nk {x : D} {ds : List D} {k : NestedKey} {ks : List NestedKey} (hx : x.nk = some k) (hd : D.nks ds = some ks) (h : k.depth ≤ 60) : inD x ds = some (decide (k ∈ ks)) := by
  unfold inD
  rw [hx, hd]
  show (if k.depth ≤ 60 then some (ks.any fun j => NestedKey.beq j k) else none) = _
  rw [if_pos h]
  congr 1
  rw [Bool.eq_iff_iff, List.any_eq_true, decide_eq_true_eq]
  constructor
  · rintro ⟨j, h1, h2⟩
    rw [← NestedKey.eq_of_beq j k h2]
    exact h1
  · exact fun h => ⟨k, h, NestedKey.beq_self k⟩
theorem inD_str (x : Str) (xs : List Str) : inD (.str x) (xs.map .str) = some (decide (x ∈ xs)) := by
  rw [inD_nk (k := .text x) rfl (nks_strs xs) (by simp [NestedKey.depth])]
  congr 1
  rw [Bool.eq_iff_iff, decide_eq_true_eq, decide_eq_true_eq, List.mem_map]
  exact ⟨fun ⟨y, h1, h2⟩ => by cases h2; exact h1, fun h => ⟨x, h, rfl⟩⟩
/-! data of texts and tuples alone -/
mutual
def TD : D → Bool
  | .str _ => true
  | .tup xs => TDs xs
  | _ => false
def TDs : List D → Bool
  | [] => true
  | d :: ds => TD d && TDs ds
end
def nkD (d : D) : NestedKey := (d.nk).getD .none
mutual
theorem nk_some : ∀ {d : D}, TD d = true → ∃ k, d.nk = some k
  | .str x, _ => ⟨_, rfl⟩
  | .tup xs, h => by
    obtain ⟨ks, e⟩ := nks_some (ds := xs) h
    exact ⟨.tup ks, by simp only [D.nk, e]; rfl⟩
theorem nks_some : ∀ {ds : List D}, TDs ds = true → ∃ ks, D.nks ds = some ks
  | [], _ => ⟨[], rfl⟩
  | d :: ds, h => by
    obtain ⟨h1, h2⟩ := Bool.and_eq_true_iff.mp (show (TD d && TDs ds) = true from h)
    obtain ⟨k, e1⟩ := nk_some h1
    obtain ⟨ks, e2⟩ := nks_some h2
    exact ⟨k :: ks, by simp only [D.nks, e1, e2]⟩
end
mutual
theorem nk_inj : ∀ {a b : D}, TD a = true → TD b = true → a.nk = b.nk → a = b
  | .str x, .str y, _, _, e => by
    have e2 : some (NestedKey.text x) = some (.text y) := e
    cases e2
    rfl
  | .str x, .tup ys, _, hb, e => by
    obtain ⟨ks, e2⟩ := nks_some (ds := ys) hb
    simp only [D.nk, e2] at e
    cases e
  | .tup xs, .str y, ha, _, e => by
    obtain ⟨ks, e2⟩ := nks_some (ds := xs) ha
    simp only [D.nk, e2] at e
    cases e
  | .tup xs, .tup ys, ha, hb, e => by
    obtain ⟨ks, e2⟩ := nks_some (ds := xs) ha
    obtain ⟨js, e3⟩ := nks_some (ds := ys) hb
    simp only [D.nk, e2, e3] at e
    have e4 : ks = js := by
      have e5 : some (NestedKey.tup ks) = some (.tup js) := e
      cases e5
      rfl
    rw [nks_inj (as := xs) (bs := ys) ha hb (by rw [e2, e3, e4])]
theorem nks_inj : ∀ {as bs : List D}, TDs as = true → TDs bs = true → D.nks as = D.nks bs → as = bs
  | [], [], _, _, _ => rfl
  | [], b :: bs, _, hb, e => by
    obtain ⟨ks, e2⟩ := nks_some hb
    rw [e2] at e
    have e3 : some [] = some ks := e
    cases e3
    obtain ⟨h1, h2⟩ := Bool.and_eq_true_iff.mp (show (TD b && TDs bs) = true from hb)
    obtain ⟨k, e4⟩ := nk_some h1
    obtain ⟨ks, e5⟩ := nks_some h2
    simp only [D.nks, e4, e5] at e2
    cases e2
  | a :: as, [], ha, _, e => by
    obtain ⟨h1, h2⟩ := Bool.and_eq_true_iff.mp (show (TD a && TDs as) = true from ha)
    obtain ⟨k, e4⟩ := nk_some h1
    obtain ⟨ks, e5⟩ := nks_some h2
    simp only [D.nks, e4, e5] at e
    cases e
  | a :: as, b :: bs, ha, hb, e => by
    obtain ⟨h1, h2⟩ := Bool.and_eq_true_iff.mp (show (TD a && TDs as) = true from ha)
    obtain ⟨h3, h4⟩ := Bool.and_eq_true_iff.mp (show (TD b && TDs bs) = true from hb)
    obtain ⟨k, e4⟩ := nk_some h1
    obtain ⟨ks, e5⟩ := nks_some h2
    obtain ⟨j, e6⟩ := nk_some h3
    obtain ⟨js, e7⟩ := nks_some h4
    simp only [D.nks, e4, e5, e6, e7] at e
    have e8 : some (k :: ks) = some (j :: js) := e
    cases e8
    rw [nk_inj h1 h3 (by rw [e4, e6]), nks_inj h2 h4 (by rw [e5, e7])]
end
theorem nkD_of {d : D} (h : TD d = true) : d.nk = some (nkD d) := by
  obtain ⟨k, e⟩ := nk_some h
  unfold nkD
  rw [e]
  rfl
theorem nkD_inj {a b : D} (ha : TD a = true) (hb : TD b = true) (e : nkD a = nkD b) : a = b := nk_inj ha hb (by rw [nkD_of ha, nkD_of hb, e])
theorem nks_map : ∀ {ds : List D}, (∀ d ∈ ds, TD d = true) → D.nks ds = some (ds.map nkD)
  | [], _ => rfl
  | d :: ds, h => by
    have e1 := nkD_of (h d List.mem_cons_self)
    have e2 := nks_map (ds := ds) fun x hx => h x (List.mem_cons_of_mem _ hx)
    rw [List.map_cons]
    simp only [D.nks, e1, e2]
theorem TDs_mem {ds : List D} : TDs ds = true ↔ ∀ d ∈ ds, TD d = true := by
  induction ds with
  | nil => exact ⟨fun _ d h => (nomatch h), fun _ => rfl⟩
  | cons x ds ih =>
    show (TD x && TDs ds) = true ↔ _
    rw [Bool.and_eq_true, ih]
    simp
/-- an item's test among data of texts and tuples -/
theorem inD_td {x : D} {ds : List D} (hx : TD x = true) (hd : ∀ d ∈ ds, TD d = true) (h : (nkD x).depth ≤ 60) : ∃ b, inD x ds = some b ∧ (b = true ↔ x ∈ ds) := by
  refine ⟨_, inD_nk (nkD_of hx) (nks_map hd) h, ?_⟩
  rw [decide_eq_true_eq, List.mem_map]
  constructor
  · rintro ⟨y, h1, h2⟩
    rw [← nkD_inj (hd y h1) hx h2]
    exact h1
  · exact fun h => ⟨x, h, rfl⟩
/-- a tuple of texts and tuples as a key -/
theorem key_td {xs : List D} (h : TD (.tup xs) = true) (hd : (nkD (.tup xs)).depth ≤ 8) : (D.tup xs).key = some (nkD (.tup xs)) := by
  show (match (D.tup xs).nk with
    | some k => if k.depth ≤ 8 then some k else none
    | none => none) = _
  rw [nkD_of h]
  exact if_pos hd
/-! fresh persons -/
def cands : List Str := letters.cps.toList.map fun c => ("n" : Str) ++ ⟨#[c]⟩
def freshS (ss : List D) : List Str := (cands.filter fun x => decide (x ∉ perS ss)).take 3
theorem mem_sortS {xs : List Str} {x : Str} : x ∈ sortS xs ↔ x ∈ xs := (List.mergeSort_perm xs leS).mem_iff
theorem cut3 {ds : List D} : KD.cutD ds none (some 3) = ds.take 3 := by
  unfold KD.cutD HT.sIx
  simp
theorem cands_len : cands.length = 26 := by decide +kernel
theorem freshS_not {ss : List D} {x : Str} (h : x ∈ freshS ss) : x ∉ perS ss := by
  have h2 := List.mem_of_mem_take h
  simpa using (List.mem_filter.mp h2).2
theorem fresh_items : (((KD.signs letters).filter fun _ => true).map fun d => D.str (("n" : Str) ++ txt d)) = cands.map .str := by
  rw [filter_true]
  unfold KD.signs cands
  rw [List.map_map, List.map_map]
  rfl
/-! the kinds asked -/
def kofF : D → List D
  | .tup [.str _, _, k] => [k]
  | _ => []
theorem kofF_len (d : D) : (kofF d).length ≤ 1 := by
  unfold kofF
  split <;> simp
def anyD : D := .tup [.str "any"]
def noneD : D := .tup [.str "none"]
def wholeD (bs fl kl : List D) : List D := kosD bs ++ kl ++ fl.flatMap kofF
def askedD (bs fl kl : List D) : List D := addKs [anyD, noneD] ((wholeD bs fl kl).flatMap (partsD 9))
structure AskOk (bs fl kl : List D) : Prop where
  b : ∀ d ∈ bs, wfS 9 d = true
  lb : bs.length ≤ 1000
  f : ∀ d ∈ fl, wfF 9 d = true
  lf : fl.length ≤ 1000
  k : ∀ d ∈ kl, wfK 9 d = true
  lk : kl.length ≤ 1000
  wf : ∀ d ∈ wholeD bs fl kl, wfK 9 d = true
  few : ((wholeD bs fl kl).flatMap (partsD 9)).length ≤ 100000
  key : ∀ d ∈ (wholeD bs fl kl).flatMap (partsD 9), ∃ k, d.key = some k
  sort : SortOk (askedD bs fl kl)
theorem flat_take_le {α β : Type} {f : α → List β} {l : List α} {i : Nat} : ((l.take i).flatMap f).length ≤ (l.flatMap f).length := by
  conv => rhs; rw [← List.take_append_drop i l, List.flatMap_append, List.length_append]
  omega
theorem mem_len_flat {α β : Type} {f : α → List β} : ∀ {l : List α} {d : α}, d ∈ l → (f d).length ≤ (l.flatMap f).length
  | x :: l, d, h => by
    rw [List.flatMap_cons, List.length_append]
    rcases List.mem_cons.mp h with rfl | h
    · omega
    · have := mem_len_flat (f := f) h
      omega
theorem findT_put {key v : D} {k : NestedKey} {kvs : List (D × D)} (hk : key.key = some k) (h : findT k kvs = none) : putT key k v kvs = kvs ++ [(key, v)] ∧ findT k (kvs ++ [(key, v)]) = some v ∧ ∀ j, j ≠ k → findT j (kvs ++ [(key, v)]) = findT j kvs := by
  refine ⟨?_, ?_, fun j hj => ?_⟩
  · unfold putT
    rw [h]
    rfl
  · unfold findT at h ⊢
    rw [List.find?_append]
    cases q : kvs.find? fun p => decide (p.1.key = some k) with
    | some p => rw [q] at h; cases h
    | none => simp [hk]
  · unfold findT
    rw [List.find?_append]
    cases q : kvs.find? fun p => decide (p.1.key = some j) with
    | some p => rfl
    | none =>
      have e : ¬ (some k = some j) := fun z => hj (Option.some.inj z).symm
      simp [hk, e]
theorem findS_put {x : Str} {v : D} {kvs : List (Str × D)} (h : findS x kvs = none) : putS x v kvs = kvs ++ [(x, v)] ∧ findS x (kvs ++ [(x, v)]) = some v ∧ ∀ y, y ≠ x → findS y (kvs ++ [(x, v)]) = findS y kvs := by
  have hn : ∀ p ∈ kvs, p.1 ≠ x := fun p hp e => by
    unfold findS at h
    have h2 : kvs.find? (fun p => decide (p.1 = x)) = none := Option.map_eq_none_iff.mp h
    have := List.find?_eq_none.mp h2 p hp
    simp [e] at this
  refine ⟨?_, ?_, fun y hy => ?_⟩
  · unfold putS
    rw [if_neg]
    simp only [List.any_eq_true, decide_eq_true_eq, not_exists, not_and]
    exact fun p hp => hn p hp
  · unfold findS at h ⊢
    rw [List.find?_append]
    cases q : kvs.find? fun p => decide (p.1 = x) with
    | some p => rw [q] at h; cases h
    | none => simp
  · unfold findS
    rw [List.find?_append]
    cases q : kvs.find? fun p => decide (p.1 = y) with
    | some p => rfl
    | none =>
      have e : ¬ (x = y) := fun z => hy z.symm
      simp [e]
end KD
set_option Elab.async false
set_option linter.all false
set_option maxRecDepth 100000
set_option maxHeartbeats 4000000
/-! Tables: a dict whose values are lists of its own. -/
namespace KD
open PySem PySem.Spec PyProof.Rows L2 Evl
/-- what a dict's cell has at a key -/
def look : Cell → NestedKey → Option D
  | .dT kvs, k => findT k kvs
  | .dS kvs, .text x => findS x kvs
  | _, _ => none
def isTab (n : Nat) : Cell → Prop
  | .dT kvs => kvs.length ≤ n
  | .dS kvs => kvs.length ≤ n
  | _ => False
abbrev Tag := Addr → Option (Nat × NestedKey)
abbrev Map := NestedKey → List D
def upM (m : Map) (k : NestedKey) (ds : List D) : Map := fun j => if j = k then ds else m j
theorem upM_same {m : Map} {k : NestedKey} {ds : List D} : upM m k ds k = ds := if_pos rfl
theorem upM_ne {m : Map} {j k : NestedKey} {ds : List D} (h : j ≠ k) : upM m k ds j = m j := if_neg h
structure TabOk (tag : Tag) (t : Nat) (S : DS) (ad : Addr) (n : Nat) (m : Map) : Prop where
  ex : ∃ c, S ad = some c ∧ isTab n c ∧ ∀ k, (look c k = none ∧ m k = []) ∨ ∃ p, look c k = some (.ref p) ∧ tag p = some (t, k) ∧ S p = some (.lst (m k))
/-- the key of data in a dict's cell -/
def ckey : Cell → D → Option NestedKey
  | .dT _, d => d.key
  | .dS _, .str x => some (.text x)
  | _, _ => none
/-- the list at a table's key, made if it is not there -/
def dspUnderK : DSp := fun ds S Q => ∃ ad key, ds = [.ref ad, key] ∧ ((∃ kvs k, S ad = some (.dT kvs) ∧ key.key = some k ∧ ((∃ v, findT k kvs = some v ∧ Q v S) ∨ (findT k kvs = none ∧ kvs.length < 1000000 ∧ ∀ p, S p = none → Q (.ref p) (put (put S p (.lst [])) ad (.dT (putT key k (.ref p) kvs)))))) ∨
  (∃ kvs x, S ad = some (.dS kvs) ∧ key = .str x ∧ ((∃ v, findS x kvs = some v ∧ Q v S) ∨ (findS x kvs = none ∧ kvs.length < 1000000 ∧ ∀ p, S p = none → Q (.ref p) (put (put S p (.lst [])) ad (.dS (putS x (.ref p) kvs)))))))
/-- .. over cells -/
theorem under_k {ad : Addr} {key : D} {S : DS} {Q : DQ} {c : Cell} {k : NestedKey} (h : S ad = some c) (hk : ckey c key = some k) (hn : isTab 999999 c) (h1 : ∀ v, look c k = some v → Q v S)
    (h2 : look c k = none → ∀ p c', S p = none → isTab 1000000 c' → (∀ n, isTab n c → isTab (n + 1) c') → look c' k = some (.ref p) → (∀ j, j ≠ k → look c' j = look c j) → (∀ d, ckey c' d = ckey c d) → Q (.ref p) (put (put S p (.lst [])) ad c')) : dspUnderK [.ref ad, key] S Q := by
  refine ⟨ad, key, rfl, ?_⟩
  cases c with
  | dT kvs =>
    have hk' : key.key = some k := hk
    refine .inl ⟨kvs, k, h, hk', ?_⟩
    cases e : findT k kvs with
    | some v => exact .inl ⟨v, rfl, h1 v e⟩
    | none =>
      have hl : kvs.length ≤ 999999 := hn
      refine .inr ⟨rfl, by omega, fun p hp => ?_⟩
      obtain ⟨f1, f2, f3⟩ := findT_put (v := .ref p) hk' e
      rw [f1]
      refine h2 e p _ hp ?_ (fun n hn => ?_) f2 f3 (fun d => rfl)
      · show (kvs ++ [(key, D.ref p)]).length ≤ _
        rw [List.length_append]
        simp
        omega
      · show (kvs ++ [(key, D.ref p)]).length ≤ _
        rw [List.length_append]
        exact Nat.succ_le_succ hn
  | dS kvs =>
    cases key with
    | str x =>
      have hk' : k = .text x := by cases hk; rfl
      subst hk'
      refine .inr ⟨kvs, x, h, rfl, ?_⟩
      cases e : findS x kvs with
      | some v => exact .inl ⟨v, rfl, h1 v e⟩
      | none =>
        have hl : kvs.length ≤ 999999 := hn
        refine .inr ⟨rfl, by omega, fun p hp => ?_⟩
        obtain ⟨f1, f2, f3⟩ := findS_put (v := .ref p) e
        rw [f1]
        refine h2 e p _ hp ?_ (fun n hn => ?_) f2 (fun j hj => ?_) (fun d => by cases d <;> rfl)
        · show (kvs ++ [(x, D.ref p)]).length ≤ _
          rw [List.length_append]
          simp
          omega
        · show (kvs ++ [(x, D.ref p)]).length ≤ _
          rw [List.length_append]
          exact Nat.succ_le_succ hn
        · cases j with
          | text y => exact f3 y fun z => hj (by rw [z])
          | _ => rfl
    | _ => cases hk
  | _ => exact hn.elim
/-- nothing of the others has changed -/
structure Keep (tag : Tag) (t : Nat) (k : NestedKey) (ad : Addr) (S S' : DS) (tag' : Tag) : Prop where
  cell : ∀ b c, S b = some c → b ≠ ad → tag b ≠ some (t, k) → S' b = some c
  tags : ∀ b q, tag b = some q → tag' b = some q
  news : ∀ b q, tag' b = some q → tag b = some q ∨ (S b = none ∧ q = (t, k))
  there : ∀ b q, tag' b = some q → S' b ≠ none
theorem TabOk.keep {tag tag' : Tag} {t t2 n : Nat} {k : NestedKey} {S S' : DS} {ad ad2 : Addr} {m : Map} (h : TabOk tag t2 S ad2 n m) (kp : Keep tag t k ad S S' tag') (hne : ad2 ≠ ad) (hu : tag ad2 = none) (hu2 : tag ad = none) (ht : t2 ≠ t) : TabOk tag' t2 S' ad2 n m := by
  obtain ⟨c, h1, h2, h3⟩ := h.ex
  refine ⟨c, kp.cell ad2 c h1 hne (by rw [hu]; exact fun z => nomatch z), h2, fun j => ?_⟩
  rcases h3 j with q | ⟨p, q1, q2, q3⟩
  · exact .inl q
  · refine .inr ⟨p, q1, kp.tags p _ q2, kp.cell p _ q3 ?_ ?_⟩
    · rintro rfl
      rw [hu2] at q2
      cases q2
    · rw [q2]
      intro z
      exact ht (congrArg Prod.fst (Option.some.inj z))
/-- nothing of a table is touched -/
theorem TabOk.same {tag : Tag} {t n : Nat} {S S' : DS} {ad : Addr} {m : Map} (h : TabOk tag t S ad n m) (hc : ∀ b c, S b = some c → (b = ad ∨ tag b ≠ none) → S' b = some c) : TabOk tag t S' ad n m := by
  obtain ⟨c, h1, h2, h3⟩ := h.ex
  refine ⟨c, hc ad c h1 (.inl rfl), h2, fun j => ?_⟩
  rcases h3 j with q | ⟨p, q1, q2, q3⟩
  · exact .inl q
  · exact .inr ⟨p, q1, q2, hc p _ q3 (.inr (by rw [q2]; exact fun z => nomatch z))⟩
theorem isTab_mono {n n' : Nat} {c : Cell} (h : isTab n c) (l : n ≤ n') : isTab n' c := by
  cases c <;> first | exact Nat.le_trans h l | exact h
theorem TabOk.mono {tag : Tag} {t n n' : Nat} {S : DS} {ad : Addr} {m : Map} (h : TabOk tag t S ad n m) (l : n ≤ n') : TabOk tag t S ad n' m := by
  obtain ⟨c, h1, h2, h3⟩ := h.ex
  exact ⟨c, h1, isTab_mono h2 l, h3⟩
/-- the same keys serve -/
def KeyAs (S S' : DS) (ad : Addr) : Prop := ∀ c', S' ad = some c' → ∃ c, S ad = some c ∧ ∀ d, ckey c' d = ckey c d
/-- x goes behind the list at the key -/
theorem tab_app {tag : Tag} {t n : Nat} {S : DS} {ad : Addr} {m : Map} {key x : D} {k : NestedKey} {η ζ : FA} {ρ : Rho} {Q : DQ} (h : TabOk tag t S ad n m) (hu : tag ad = none) (hth : ∀ b q, tag b = some q → S b ≠ none) (hk : ∀ c, S ad = some c → ckey c key = some k)
    (hn : n < 1000000) (hm : (m k).length < 1000000) (he : η ρ S = some [.ref ad, key]) (hx : ∀ S1, (∀ b c, S b = some c → b ≠ ad → S1 b = some c) → ζ ρ S1 = some [x])
    (q : ∀ S' tag', TabOk tag' t S' ad (n + 1) (upM m k (m k ++ [x])) → Keep tag t k ad S S' tag' → KeyAs S S' ad → Q .non S') : dLm (dCallW 2 dspUnderK (fA η)) (fA ζ) mAppend ρ S Q := by
  obtain ⟨c, h1, h2, h3⟩ := h.ex
  have hp0 : ∀ p q, tag p = some q → p ≠ ad := fun p q e z => by rw [z, hu] at e; cases e
  refine ⟨[.ref ad, key], he, rfl, under_k h1 (hk c h1) (isTab_mono h2 (by omega)) (fun v hv => ?_) fun hv p c' hp hc1 hc2 hc3 hc4 hc5 => ?_⟩
  · rcases h3 k with ⟨e, _⟩ | ⟨p, e, g1, g2⟩
    · rw [e] at hv; cases hv
    · rw [e] at hv
      cases hv
      refine ⟨⟨p, m k, rfl, g2⟩, [x], hx S fun _ _ h _ => h, p, m k, .non, m k ++ [x], rfl, g2, if_pos hm, q _ tag ⟨c, ?_, isTab_mono h2 (Nat.le_succ n), fun j => ?_⟩ ⟨fun b c2 hb h5 h6 => ?_, fun _ _ h => h, fun _ _ h => .inl h, fun b qq hb => ?_⟩ fun c3 hc3 => ⟨c, h1, by rw [put_ne (Ne.symm (hp0 p _ g1)), h1] at hc3; cases hc3; exact fun _ => rfl⟩⟩
      · rw [put_ne (Ne.symm (hp0 p _ g1))]; exact h1
      · by_cases hj : j = k
        · subst hj
          exact .inr ⟨p, e, g1, by rw [put_same, upM_same]⟩
        · rw [upM_ne hj]
          rcases h3 j with z | ⟨p2, z1, z2, z3⟩
          · exact .inl z
          · refine .inr ⟨p2, z1, z2, ?_⟩
            rw [put_ne]
            · exact z3
            · rintro rfl
              rw [g1] at z2
              exact hj (congrArg Prod.snd (Option.some.inj z2)).symm
      · rw [put_ne]
        · exact hb
        · rintro rfl
          exact h6 g1
      · by_cases z : b = p
        · subst z; rw [put_same]; exact fun w => nomatch w
        · rw [put_ne z]; exact hth b qq hb
  · rcases h3 k with ⟨_, e⟩ | ⟨p2, e, _⟩
    · have hpa : p ≠ ad := fun z => by rw [z, h1] at hp; cases hp
      have hpt : tag p = none := by
        cases q2 : tag p with
        | none => rfl
        | some z => exact absurd hp (hth p z q2)
      have hs1 : put (put S p (.lst [])) ad c' p = some (.lst []) := by rw [put_ne hpa, put_same]
      have hcell : ∀ b c2, S b = some c2 → b ≠ ad → put (put (put S p (.lst [])) ad c') p (.lst ([] ++ [x])) b = some c2 := fun b c2 hb hne => by
        have hbp : b ≠ p := fun z => by rw [z, hp] at hb; cases hb
        rw [put_ne hbp, put_ne hne, put_ne hbp]
        exact hb
      refine ⟨⟨p, [], rfl, hs1⟩, [x], hx _ (fun b c2 hb hne => ?_), p, [], .non, [] ++ [x], rfl, hs1, rfl, q _ (fun b => if b = p then some (t, k) else tag b) ⟨c', ?_, hc2 n h2, fun j => ?_⟩ ⟨fun b c2 hb h5 _ => hcell b c2 hb h5, fun b qq hb => ?_, fun b qq hb => ?_, fun b qq hb => ?_⟩ fun c3 hc3 => ⟨c, h1, by rw [put_ne (Ne.symm hpa), put_same] at hc3; cases hc3; exact hc5⟩⟩
      · have hbp : b ≠ p := fun z => by rw [z, hp] at hb; cases hb
        rw [put_ne hne, put_ne hbp]
        exact hb
      · rw [put_ne (Ne.symm hpa), put_same]
      · by_cases hj : j = k
        · subst hj
          exact .inr ⟨p, hc3, if_pos rfl, by rw [put_same, upM_same, e]⟩
        · rw [upM_ne hj, hc4 j hj]
          rcases h3 j with z | ⟨p2, z1, z2, z3⟩
          · exact .inl z
          · have hne2 : p2 ≠ p := fun z => by rw [z, hpt] at z2; cases z2
            exact .inr ⟨p2, z1, by rw [if_neg hne2]; exact z2, hcell p2 _ z3 (hp0 p2 _ z2)⟩
      · have hne2 : b ≠ p := fun z => by rw [z, hpt] at hb; cases hb
        show (if b = p then _ else _) = _
        rw [if_neg hne2]; exact hb
      · have hb : (if b = p then some (t, k) else tag b) = some qq := hb
        by_cases z : b = p
        · rw [if_pos z] at hb
          cases hb
          exact .inr ⟨by rw [z]; exact hp, rfl⟩
        · rw [if_neg z] at hb
          exact .inl hb
      · have hb : (if b = p then some (t, k) else tag b) = some qq := hb
        by_cases z : b = p
        · rw [z, put_same]; exact fun w => nomatch w
        · rw [if_neg z] at hb
          rw [put_ne z]
          by_cases z2 : b = ad
          · rw [z2, put_same]; exact fun w => nomatch w
          · rw [put_ne z2, put_ne z]; exact hth b qq hb
    · rw [e] at hv; cases hv
/-- the list at a key, by get with [] behind -/
theorem tab_get {tag : Tag} {t n : Nat} {S : DS} {ad : Addr} {m : Map} {key : D} {k : NestedKey} {c : Cell} (h : TabOk tag t S ad n m) (hc : S ad = some c) (hk : ckey c key = some k) :
    ∃ r, getD S ad key = some r ∧ ((r = none ∧ m k = []) ∨ ∃ p, r = some (.ref p) ∧ tag p = some (t, k) ∧ S p = some (.lst (m k))) := by
  obtain ⟨c2, h1, h2, h3⟩ := h.ex
  rw [hc] at h1
  cases h1
  refine ⟨look c k, ?_, ?_⟩
  · cases c with
    | dT kvs =>
      have hk' : key.key = some k := hk
      simp only [getD, hc, hk', Option.map_some, look]
    | dS kvs => cases key with
      | str x =>
        cases hk
        simp only [getD, hc, D.sk, Option.map_some, look]
      | _ => cases hk
    | _ => cases hk
  · rcases h3 k with ⟨e1, e2⟩ | ⟨p, e1, e2, e3⟩
    · exact .inl ⟨e1, e2⟩
    · exact .inr ⟨p, e1, e2, e3⟩
/-- a new table -/
theorem tab_new {tag : Tag} {t : Nat} {S : DS} {ad : Addr} {c : Cell} (h : S ad = some c) (hc : c = .dT [] ∨ c = .dS []) : TabOk tag t S ad 0 fun _ => [] := by
  refine ⟨c, h, ?_, fun k => .inl ⟨?_, rfl⟩⟩
  · rcases hc with rfl | rfl
    · exact Nat.le_refl 0
    · exact Nat.le_refl 0
  · rcases hc with rfl | rfl
    · rfl
    · cases k <;> rfl
end KD
set_option Elab.async false
set_option linter.all false
set_option maxRecDepth 100000
set_option maxHeartbeats 4000000
/-! An agenda: what is known, what waits. -/
namespace KD
open PySem PySem.Spec PyProof.Rows L2 Evl
abbrev keysD (kvs : List (D × D)) : List D := kvs.map (·.1)
/-- data that may be keys -/
def KeyOk (d : D) : Prop := TD d = true ∧ d.key = some (nkD d)
theorem keyOk_inj {a b : D} (ha : KeyOk a) (hb : KeyOk b) (e : a.key = b.key) : a = b := by
  rw [ha.2, hb.2] at e
  exact nkD_inj ha.1 hb.1 (Option.some.inj e)
theorem find_key {c : D} {kvs : List (D × D)} (hc : KeyOk c) (h : ∀ d ∈ keysD kvs, KeyOk d) : (findT (nkD c) kvs).isSome = true ↔ c ∈ keysD kvs := by
  unfold findT keysD
  rw [Option.isSome_map, List.find?_isSome]
  constructor
  · rintro ⟨p, hp, e⟩
    have e := of_decide_eq_true e
    have hk := h p.1 (List.mem_map_of_mem hp)
    rw [← hc.2] at e
    rw [← keyOk_inj hk hc e]
    exact List.mem_map_of_mem hp
  · intro hm
    obtain ⟨p, hp, e⟩ := List.mem_map.mp hm
    exact ⟨p, hp, by rw [e, hc.2]; simp⟩
/-- the agenda: U bounds it -/
structure AgOk (U : List D) (kvs : List (D × D)) (wt : List D) : Prop where
  u : ∀ d ∈ U, KeyOk d
  few : U.length ≤ 100000
  sub : ∀ d ∈ keysD kvs, d ∈ U
  nd : (keysD kvs).Nodup
  wait : wt.length ≤ kvs.length
theorem nodup_le {α : Type} [DecidableEq α] : ∀ {l m : List α}, l.Nodup → (∀ x ∈ l, x ∈ m) → l.length ≤ m.length
  | [], m, _, _ => Nat.zero_le _
  | x :: l, m, h, hs => by
    have hx := hs x List.mem_cons_self
    have h2 := List.nodup_cons.mp h
    have h3 : ∀ y ∈ l, y ∈ m.erase x := fun y hy => (List.mem_erase_of_ne (by rintro rfl; exact h2.1 hy)).mpr (hs y (List.mem_cons_of_mem _ hy))
    have := nodup_le h2.2 h3
    rw [List.length_erase_of_mem hx] at this
    have hpos : 0 < m.length := List.length_pos_of_mem hx
    rw [List.length_cons]
    omega
theorem AgOk.len {U : List D} {kvs : List (D × D)} {wt : List D} (h : AgOk U kvs wt) : kvs.length ≤ 100000 := by
  classical
  have := nodup_le h.nd h.sub
  rw [List.length_map] at this
  exact Nat.le_trans this h.few
/-- what is offered has come in -/
structure Offd (cs : List D) (kvs : List (D × D)) (wt : List D) (kvs' : List (D × D)) (wt' : List D) : Prop where
  ex : ∃ new, keysD kvs' = keysD kvs ++ new ∧ wt' = wt ++ new ∧ new.Nodup ∧ (∀ c ∈ new, c ∈ cs ∧ c ∉ keysD kvs) ∧ ∀ c ∈ cs, c ∈ keysD kvs'
theorem Offd.nil {kvs : List (D × D)} {wt : List D} : Offd [] kvs wt kvs wt := ⟨[], by simp, by simp, List.nodup_nil, fun c h => (nomatch h), fun c h => (nomatch h)⟩
theorem Offd.append {cs ds : List D} {kvs kvs' kvs'' : List (D × D)} {wt wt' wt'' : List D} (h : Offd cs kvs wt kvs' wt') (k : Offd ds kvs' wt' kvs'' wt'') : Offd (cs ++ ds) kvs wt kvs'' wt'' := by
  obtain ⟨n1, a1, a2, a3, a4, a5⟩ := h.ex
  obtain ⟨n2, b1, b2, b3, b4, b5⟩ := k.ex
  refine ⟨n1 ++ n2, by rw [b1, a1, List.append_assoc], by rw [b2, a2, List.append_assoc], ?_, fun c hc => ?_, fun c hc => ?_⟩
  · rw [List.nodup_append]
    refine ⟨a3, b3, fun x hx y hy e => ?_⟩
    subst e
    exact (b4 x hy).2 (by rw [a1]; exact List.mem_append_right _ hx)
  · rcases List.mem_append.mp hc with h1 | h1
    · exact ⟨List.mem_append_left _ (a4 c h1).1, (a4 c h1).2⟩
    · refine ⟨List.mem_append_right _ (b4 c h1).1, fun z => (b4 c h1).2 ?_⟩
      rw [a1]
      exact List.mem_append_left _ z
  · rcases List.mem_append.mp hc with h1 | h1
    · rw [b1]
      exact List.mem_append_left _ (a5 c h1)
    · exact b5 c h1
theorem Offd.congr {cs ds : List D} {kvs kvs' : List (D × D)} {wt wt' : List D} (h : Offd cs kvs wt kvs' wt') (e : cs = ds) : Offd ds kvs wt kvs' wt' := e ▸ h
theorem AgOk.offd {U cs : List D} {kvs kvs' : List (D × D)} {wt wt' : List D} (a : AgOk U kvs wt) (h : Offd cs kvs wt kvs' wt') (hc : ∀ c ∈ cs, c ∈ U) : AgOk U kvs' wt' := by
  obtain ⟨n1, a1, a2, a3, a4, a5⟩ := h.ex
  refine ⟨a.u, a.few, fun d hd => ?_, ?_, ?_⟩
  · rw [a1] at hd
    rcases List.mem_append.mp hd with h1 | h1
    · exact a.sub d h1
    · exact hc d (a4 d h1).1
  · rw [a1, List.nodup_append]
    exact ⟨a.nd, a3, fun x hx y hy e => (a4 y hy).2 (e ▸ hx)⟩
  · have e1 := congrArg List.length a1
    have e2 := congrArg List.length a2
    have := a.wait
    simp only [List.length_map, List.length_append] at e1 e2
    omega
/-- one is offered -/
theorem offd_one {c v : D} {kvs : List (D × D)} {wt : List D} : (c ∈ keysD kvs → Offd [c] kvs wt kvs wt) ∧ (c ∉ keysD kvs → Offd [c] kvs wt (kvs ++ [(c, v)]) (wt ++ [c])) :=
  ⟨fun h => ⟨[], by simp, by simp, List.nodup_nil, fun d h => (nomatch h), fun d hd => by rw [List.mem_singleton.mp hd]; exact h⟩,
   fun h => ⟨[c], by simp [keysD], rfl, by simp, fun d hd => by rw [List.mem_singleton.mp hd]; exact ⟨List.mem_singleton.mpr rfl, h⟩, fun d hd => by rw [List.mem_singleton.mp hd]; simp [keysD]⟩⟩
/-! the two cells of the agenda -/
def agS (S : DS) (a1 a3 : Addr) (kvs : List (D × D)) (wt : List D) : DS := put (put S a1 (.dT kvs)) a3 (.lst wt)
theorem put_self {S : DS} {a : Addr} {c : Cell} (h : S a = some c) : put S a c = S := by
  funext b
  unfold put
  split
  · next e => rw [e, h]
  · rfl
theorem put_comm {S : DS} {a b : Addr} {c d : Cell} (h : a ≠ b) : put (put S a c) b d = put (put S b d) a c := by
  funext x
  unfold put
  split
  · next e =>
    split
    · next e2 => exact absurd (e2.symm.trans e) h
    · rfl
  · rfl
theorem agS_self {S : DS} {a1 a3 : Addr} {kvs : List (D × D)} {wt : List D} (h1 : S a1 = some (.dT kvs)) (h3 : S a3 = some (.lst wt)) : agS S a1 a3 kvs wt = S := by
  unfold agS
  rw [put_self h1, put_self h3]
theorem agS_1 {S : DS} {a1 a3 : Addr} {kvs : List (D × D)} {wt : List D} (h : a1 ≠ a3) : agS S a1 a3 kvs wt a1 = some (.dT kvs) := by
  unfold agS
  rw [put_ne h, put_same]
theorem agS_3 {S : DS} {a1 a3 : Addr} {kvs : List (D × D)} {wt : List D} : agS S a1 a3 kvs wt a3 = some (.lst wt) := put_same
theorem agS_ne {S : DS} {a1 a3 b : Addr} {kvs : List (D × D)} {wt : List D} (h : b ≠ a1) (k : b ≠ a3) : agS S a1 a3 kvs wt b = S b := by
  unfold agS
  rw [put_ne k, put_ne h]
theorem agS_agS {S : DS} {a1 a3 : Addr} {kvs kvs' : List (D × D)} {wt wt' : List D} (h : a1 ≠ a3) : agS (agS S a1 a3 kvs wt) a1 a3 kvs' wt' = agS S a1 a3 kvs' wt' := by
  unfold agS
  rw [put_comm (Ne.symm h), put_put, put_put]
end KD
set_option Elab.async false
set_option linter.all false
set_option maxRecDepth 100000
set_option maxHeartbeats 4000000
/-! What follows from what, over kinds without "and" and books of roles and chains. -/
namespace KD
open PySem PySem.Spec PyProof.Rows L2 Evl
theorem eq2_td {xs ys : List D} (hx : TD (.tup xs) = true) (hy : TD (.tup ys) = true) (hd : (nkD (.tup xs)).depth ≤ 60) : ∃ b, (D.tup xs).eq2 (.tup ys) = some b ∧ (b = true ↔ xs = ys) := by
  obtain ⟨j, e1⟩ := nks_some (ds := xs) hx
  obtain ⟨k, e2⟩ := nks_some (ds := ys) hy
  have e3 : nkD (.tup xs) = .tup j := by
    unfold nkD
    simp only [D.nk, e1]
    rfl
  have hd2 : NestedKey.depthAll j ≤ 60 := by
    rw [e3] at hd
    simp only [NestedKey.depth] at hd
    omega
  refine ⟨NestedKey.beqAll j k, by simp only [D.eq2, e1, e2]; exact if_pos hd2, ?_, ?_⟩
  · intro h
    have h2 : NestedKey.beq (.tup j) (.tup k) = true := by simpa [NestedKey.beq] using h
    have h3 := NestedKey.eq_of_beq _ _ h2
    injection h3 with h4
    exact nks_inj hx hy (by rw [e1, e2, h4])
  · rintro rfl
    rw [e1] at e2
    cases e2
    have h2 := NestedKey.beq_self (.tup j)
    simpa [NestedKey.beq] using h2
/-- sayings of roles -/
inductive Say where
  | role (a b : Str)
  | chain (a b c : Str)
deriving DecidableEq
def Say.d : Say → D
  | .role a b => .tup [.str "role", .str a, .str b]
  | .chain a b c => .tup [.str "chain", .str a, .str b, .str c]
/-- conclusions -/
inductive Cn where
  | bel (s k : D)
  | lnk (s : D) (r : Str) (e : D)
def Cn.d : Cn → D
  | .bel s k => .tup [.str "below", s, k]
  | .lnk s r e => .tup [.str "link", s, .str r, e]
theorem Cn.d_inj : ∀ {a b : Cn}, a.d = b.d → a = b
  | .bel s k, .bel s2 k2, e => by
    injection e with e
    injection e with _ e
    injection e with e1 e
    injection e with e2 _
    rw [e1, e2]
  | .lnk s r x, .lnk s2 r2 x2, e => by
    injection e with e
    injection e with _ e
    injection e with e1 e
    injection e with e2 e
    injection e with e3 _
    injection e2 with e2
    rw [e1, e2, e3]
  | .bel s k, .lnk s2 r2 x2, e => by
    injection e with e
    injection e with e1 e
    injection e1 with e1
    exact absurd e1 (by decide)
  | .lnk s r x, .bel s2 k2, e => by
    injection e with e
    injection e with e1 e
    injection e1 with e1
    exact absurd e1 (by decide)
def someD (r : Str) (e : D) : D := .tup [.str "some", .str r, e]
/-- what follows at one step -/
inductive Con (book : List Say) (kinds : List D) (M : Cn → Prop) : Cn → Prop where
  | role {s r r2 e} : Say.role r r2 ∈ book → M (.lnk s r e) → Con book kinds M (.lnk s r2 e)
  | chain {s a b c m e} : Say.chain a b c ∈ book → M (.lnk s a m) → M (.lnk m b e) → Con book kinds M (.lnk s c e)
  | opn {s r e} : M (.bel s (someD r e)) → Con book kinds M (.lnk s r e)
  | close {s r e k} : someD r k ∈ kinds → M (.lnk s r e) → M (.bel e k) → Con book kinds M (.bel s (someD r k))
  | empty {s r e} : M (.lnk s r e) → M (.bel e noneD) → Con book kinds M (.bel s noneD)
  | nothing {s k} : M (.bel s noneD) → k ∈ kinds → Con book kinds M (.bel s k)
/-! the tables, by what is worked off -/
def mB (pr : List Cn) (k : NestedKey) : List D := pr.filterMap fun c => match c with
  | .bel s x => if nkD s = k then some x else none
  | _ => none
def mF (pr : List Cn) (k : NestedKey) : List D := pr.filterMap fun c => match c with
  | .lnk s r e => if nkD s = k then some (.tup [.str r, e]) else none
  | _ => none
def mT (pr : List Cn) (k : NestedKey) : List D := pr.filterMap fun c => match c with
  | .lnk s r e => if nkD e = k then some (.tup [s, .str r]) else none
  | _ => none
theorem mB_bel {pr : List Cn} {s x : D} : mB (pr ++ [.bel s x]) = upM (mB pr) (nkD s) (mB pr (nkD s) ++ [x]) := by
  funext k
  unfold mB upM
  rw [List.filterMap_append]
  by_cases h : k = nkD s
  · subst h; simp
  · simp [h, Ne.symm h, eq_comm]
theorem mB_lnk {pr : List Cn} {s e : D} {r : Str} : mB (pr ++ [.lnk s r e]) = mB pr := by
  funext k
  unfold mB
  rw [List.filterMap_append]
  simp
theorem mF_lnk {pr : List Cn} {s e : D} {r : Str} : mF (pr ++ [.lnk s r e]) = upM (mF pr) (nkD s) (mF pr (nkD s) ++ [.tup [.str r, e]]) := by
  funext k
  unfold mF upM
  rw [List.filterMap_append]
  by_cases h : k = nkD s
  · subst h; simp
  · simp [h, Ne.symm h, eq_comm]
theorem mF_bel {pr : List Cn} {s x : D} : mF (pr ++ [.bel s x]) = mF pr := by
  funext k
  unfold mF
  rw [List.filterMap_append]
  simp
theorem mT_lnk {pr : List Cn} {s e : D} {r : Str} : mT (pr ++ [.lnk s r e]) = upM (mT pr) (nkD e) (mT pr (nkD e) ++ [.tup [s, .str r]]) := by
  funext k
  unfold mT upM
  rw [List.filterMap_append]
  by_cases h : k = nkD e
  · subst h; simp
  · simp [h, Ne.symm h, eq_comm]
theorem mT_bel {pr : List Cn} {s x : D} : mT (pr ++ [.bel s x]) = mT pr := by
  funext k
  unfold mT
  rw [List.filterMap_append]
  simp
/-- conclusions of a universe: its subjects are keys -/
def CnOk (P : D → Prop) : Cn → Prop
  | .bel s k => P s ∧ P k
  | .lnk s _ e => P s ∧ P e
theorem mem_mB {P : D → Prop} {pr : List Cn} {s x : D} (hp : ∀ c ∈ pr, CnOk P c) (hk : ∀ d, P d → TD d = true) (hs : P s) : x ∈ mB pr (nkD s) ↔ Cn.bel s x ∈ pr := by
  unfold mB
  rw [List.mem_filterMap]
  constructor
  · rintro ⟨c, hc, e⟩
    cases c with
    | bel s2 x2 =>
      by_cases h : nkD s2 = nkD s
      · simp only [if_pos h] at e
        cases e
        rw [← nkD_inj (hk _ (hp _ hc).1) (hk _ hs) h]
        exact hc
      · simp only [if_neg h] at e
        cases e
    | lnk _ _ _ => cases e
  · exact fun h => ⟨_, h, if_pos rfl⟩
theorem mem_mF {P : D → Prop} {pr : List Cn} {s x : D} (hp : ∀ c ∈ pr, CnOk P c) (hk : ∀ d, P d → TD d = true) (hs : P s) : x ∈ mF pr (nkD s) ↔ ∃ r e, x = .tup [.str r, e] ∧ Cn.lnk s r e ∈ pr := by
  unfold mF
  rw [List.mem_filterMap]
  constructor
  · rintro ⟨c, hc, e⟩
    cases c with
    | lnk s2 r2 e2 =>
      by_cases h : nkD s2 = nkD s
      · simp only [if_pos h] at e
        cases e
        rw [nkD_inj (hk _ (hp _ hc).1) (hk _ hs) h] at hc
        exact ⟨_, _, rfl, hc⟩
      · simp only [if_neg h] at e
        cases e
    | bel _ _ => cases e
  · rintro ⟨r, e, rfl, h⟩
    exact ⟨_, h, if_pos rfl⟩
theorem mem_mT {P : D → Prop} {pr : List Cn} {s x : D} (hp : ∀ c ∈ pr, CnOk P c) (hk : ∀ d, P d → TD d = true) (hs : P s) : x ∈ mT pr (nkD s) ↔ ∃ r e, x = .tup [e, .str r] ∧ Cn.lnk e r s ∈ pr := by
  unfold mT
  rw [List.mem_filterMap]
  constructor
  · rintro ⟨c, hc, e⟩
    cases c with
    | lnk s2 r2 e2 =>
      by_cases h : nkD e2 = nkD s
      · simp only [if_pos h] at e
        cases e
        rw [nkD_inj (hk _ (hp _ hc).2) (hk _ hs) h] at hc
        exact ⟨_, _, rfl, hc⟩
      · simp only [if_neg h] at e
        cases e
    | bel _ _ => cases e
  · rintro ⟨r, e, rfl, h⟩
    exact ⟨_, h, if_pos rfl⟩
/-! the book's tables -/
def mRo (book : List (Say × Nat)) (k : NestedKey) : List D := book.filterMap fun p => match p.1 with
  | .role a b => if NestedKey.text a = k then some (.tup [.int (p.2 : Nat), .str b]) else none
  | _ => none
def mFi (book : List (Say × Nat)) (k : NestedKey) : List D := book.filterMap fun p => match p.1 with
  | .chain a b c => if NestedKey.text a = k then some (.tup [.int (p.2 : Nat), .str b, .str c]) else none
  | _ => none
def mSe (book : List (Say × Nat)) (k : NestedKey) : List D := book.filterMap fun p => match p.1 with
  | .chain a b c => if NestedKey.text b = k then some (.tup [.int (p.2 : Nat), .str a, .str c]) else none
  | _ => none
theorem mem_mRo {book : List (Say × Nat)} {r : Str} {x : D} : x ∈ mRo book (.text r) ↔ ∃ i : Nat, ∃ b, x = .tup [.int i, .str b] ∧ (Say.role r b, i) ∈ book := by
  unfold mRo
  rw [List.mem_filterMap]
  constructor
  · rintro ⟨⟨s, i⟩, hc, e⟩
    cases s with
    | role a b =>
      by_cases h : NestedKey.text a = .text r
      · simp only [if_pos h] at e
        cases e
        cases h
        exact ⟨_, _, rfl, hc⟩
      · simp only [if_neg h] at e
        cases e
    | chain _ _ _ => cases e
  · rintro ⟨i, b, rfl, h⟩
    exact ⟨_, h, if_pos rfl⟩
theorem mem_mFi {book : List (Say × Nat)} {r : Str} {x : D} : x ∈ mFi book (.text r) ↔ ∃ i : Nat, ∃ b c, x = .tup [.int i, .str b, .str c] ∧ (Say.chain r b c, i) ∈ book := by
  unfold mFi
  rw [List.mem_filterMap]
  constructor
  · rintro ⟨⟨s, i⟩, hc, e⟩
    cases s with
    | chain a b c =>
      by_cases h : NestedKey.text a = .text r
      · simp only [if_pos h] at e
        cases e
        cases h
        exact ⟨_, _, _, rfl, hc⟩
      · simp only [if_neg h] at e
        cases e
    | role _ _ => cases e
  · rintro ⟨i, b, c, rfl, h⟩
    exact ⟨_, h, if_pos rfl⟩
theorem mem_mSe {book : List (Say × Nat)} {r : Str} {x : D} : x ∈ mSe book (.text r) ↔ ∃ i : Nat, ∃ a c, x = .tup [.int i, .str a, .str c] ∧ (Say.chain a r c, i) ∈ book := by
  unfold mSe
  rw [List.mem_filterMap]
  constructor
  · rintro ⟨⟨s, i⟩, hc, e⟩
    cases s with
    | chain a b c =>
      by_cases h : NestedKey.text b = .text r
      · simp only [if_pos h] at e
        cases e
        cases h
        exact ⟨_, _, _, rfl, hc⟩
      · simp only [if_neg h] at e
        cases e
    | role _ _ => cases e
  · rintro ⟨i, b, c, rfl, h⟩
    exact ⟨_, h, if_pos rfl⟩
/-- the somes: each "some" kind at its role and kind -/
structure SomesOk (kinds : List D) (kvs : List (D × D)) : Prop where
  at_ : ∀ r e, TD e = true → (someD r e ∈ kinds ∧ findT (nkD (.tup [.str r, e])) kvs = some (someD r e)) ∨ (someD r e ∉ kinds ∧ findT (nkD (.tup [.str r, e])) kvs = none)
end KD
set_option Elab.async false
set_option linter.all false
set_option maxRecDepth 100000
set_option maxHeartbeats 4000000
/-! A saturation's cells. -/
namespace KD
open PySem PySem.Spec PyProof.Rows L2 Evl
structure Ads where
  sf : Addr
  a1 : Addr
  a3 : Addr
  a4 : Addr
  a5 : Addr
  a6 : Addr
  a7 : Addr
  a8 : Addr
  a9 : Addr
  a10 : Addr
  a11 : Addr
  a12 : Addr
  fs : List (Str × D)
  kinds : List D
  persons : List D
def Ads.all (A : Ads) : List Addr := [A.sf, A.a1, A.a3, A.a4, A.a5, A.a6, A.a7, A.a8, A.a9, A.a10, A.a11, A.a12]
structure FsOk (A : Ads) : Prop where
  kinds : A.fs.lookup ("kinds" : Str) = some (.tup A.kinds)
  persons : A.fs.lookup ("persons" : Str) = some (.tup A.persons)
  least : A.fs.lookup ("least" : Str) = some (.bl false)
  steps : A.fs.lookup ("steps" : Str) = some (.ref A.a1)
  waiting : A.fs.lookup ("waiting" : Str) = some (.ref A.a3)
  below : A.fs.lookup ("below" : Str) = some (.ref A.a4)
  links_from : A.fs.lookup ("links_from" : Str) = some (.ref A.a5)
  links_to : A.fs.lookup ("links_to" : Str) = some (.ref A.a6)
  wholes : A.fs.lookup ("wholes" : Str) = some (.ref A.a7)
  somes : A.fs.lookup ("somes" : Str) = some (.ref A.a8)
  sayings : A.fs.lookup ("sayings" : Str) = some (.ref A.a9)
  roles : A.fs.lookup ("roles" : Str) = some (.ref A.a10)
  firsts : A.fs.lookup ("firsts" : Str) = some (.ref A.a11)
  seconds : A.fs.lookup ("seconds" : Str) = some (.ref A.a12)
  offer : A.fs.lookup ("_offer" : Str) = none
  behind : A.fs.lookup ("_behind" : Str) = none
  link_ : A.fs.lookup ("_link" : Str) = none
  below_ : A.fs.lookup ("_below" : Str) = none
  next_ : A.fs.lookup ("_next" : Str) = none
  is_below : A.fs.lookup ("is_below" : Str) = none
  void_subject : A.fs.lookup ("void_subject" : Str) = none
  is_void : A.fs.lookup ("is_void" : Str) = none
/-- what a saturation is about -/
structure Wo where
  book : List (Say × Nat)
  kinds : List D
  U : List D
  Un : Cn → Prop
  P : D → Prop
def Wo.says (B : Wo) : List Say := B.book.map (·.1)
abbrev Wo.Con (B : Wo) (M : Cn → Prop) (c : Cn) : Prop := KD.Con B.says B.kinds M c
structure WoOk (B : Wo) : Prop where
  mem : ∀ c, B.Un c → c.d ∈ B.U
  cl : ∀ c, B.Con B.Un c → B.Un c
  ok : ∀ c, B.Un c → CnOk B.P c
  key : ∀ d, B.P d → KeyOk d ∧ (nkD d).depth ≤ 4
  tup : ∀ d, B.P d → ∃ t xs, d = .tup (.str t :: xs) ∧ t ≠ "and" ∧ (t = "some" → ∃ r e, d = someD r e ∧ TD e = true)
  ky : ∀ d ∈ B.U, KeyOk d
  few : B.U.length ≤ 100000
  none_ : B.P noneD
/-- the agenda's cells -/
structure AgSt (C : Addr) (A : Ads) (U : List D) (kvs : List (D × D)) (wt : List D) (S : DS) : Prop where
  fo : FsOk A
  sf : S A.sf = some (.ins C A.fs)
  c1 : S A.a1 = some (.dT kvs)
  c3 : S A.a3 = some (.lst wt)
  n13 : A.a1 ≠ A.a3
  nf1 : A.sf ≠ A.a1
  nf3 : A.sf ≠ A.a3
  ag : AgOk U kvs wt
theorem AgSt.go {C : Addr} {A : Ads} {U : List D} {kvs kvs' : List (D × D)} {wt wt' : List D} {S : DS} (h : AgSt C A U kvs wt S) (k : AgOk U kvs' wt') : AgSt C A U kvs' wt' (agS S A.a1 A.a3 kvs' wt') :=
  ⟨h.fo, by rw [agS_ne h.nf1 h.nf3]; exact h.sf, agS_1 h.n13, agS_3, h.n13, h.nf1, h.nf3, k⟩
theorem AgSt.self {C : Addr} {A : Ads} {U : List D} {kvs : List (D × D)} {wt : List D} {S : DS} (h : AgSt C A U kvs wt S) : agS S A.a1 A.a3 kvs wt = S := agS_self h.c1 h.c3
/-- the rest of the cells -/
structure StaM (A : Ads) (B : Wo) (S00 : DS) (tag : Tag) (n4 n5 n6 : Nat) (m4 m5 m6 : Map) (S : DS) : Prop where
  un : ∀ a ∈ A.all, tag a = none
  nd : A.all.Nodup
  th : ∀ b q, tag b = some q → S b ≠ none
  le : Le S00 S
  fr : ∀ a ∈ A.all, S00 a = none
  ft : ∀ b q, tag b = some q → S00 b = none
  t4 : TabOk tag 4 S A.a4 n4 m4
  t5 : TabOk tag 5 S A.a5 n5 m5
  t6 : TabOk tag 6 S A.a6 n6 m6
  c4 : ∀ c, S A.a4 = some c → ∀ d, ckey c d = d.key
  c5 : ∀ c, S A.a5 = some c → ∀ d, ckey c d = d.key
  c6 : ∀ c, S A.a6 = some c → ∀ d, ckey c d = d.key
  c7 : S A.a7 = some (.dT [])
  c8 : ∃ kvs, S A.a8 = some (.dT kvs) ∧ SomesOk B.kinds kvs
  c9 : S A.a9 = some (.dT [])
  t10 : TabOk tag 10 S A.a10 100000 (mRo B.book)
  t11 : TabOk tag 11 S A.a11 100000 (mFi B.book)
  t12 : TabOk tag 12 S A.a12 100000 (mSe B.book)
  c10 : ∀ c, S A.a10 = some c → ∀ x, ckey c (.str x) = some (.text x)
  c11 : ∀ c, S A.a11 = some c → ∀ x, ckey c (.str x) = some (.text x)
  c12 : ∀ c, S A.a12 = some c → ∀ x, ckey c (.str x) = some (.text x)
abbrev Sta (A : Ads) (B : Wo) (S00 : DS) (tag : Tag) (pr : List Cn) (S : DS) : Prop := StaM A B S00 tag pr.length pr.length pr.length (mB pr) (mF pr) (mT pr) S
section
variable {C : Addr} {A : Ads} {B : Wo} {S00 S S' : DS} {tag tag' : Tag} {pr : List Cn} {kvs kvs' kvs1 : List (D × D)} {wt wt' wt1 : List D} {n4 n5 n6 : Nat} {m4 m5 m6 m : Map}
theorem nodup_ne {l : List Addr} (h : l.Nodup) {i j : Nat} {a b : Addr} (ha : l[i]? = some a) (hb : l[j]? = some b) (hij : i ≠ j) : a ≠ b := by
  obtain ⟨h1, e1⟩ := List.getElem?_eq_some_iff.mp ha
  obtain ⟨h2, e2⟩ := List.getElem?_eq_some_iff.mp hb
  have hp := List.pairwise_iff_getElem.mp h
  rcases Nat.lt_or_gt_of_ne hij with z | z
  · rw [← e1, ← e2]; exact hp i j h1 h2 z
  · rw [← e1, ← e2]; exact fun e => hp j i h2 h1 z e.symm
theorem StaM.ne (h : StaM A B S00 tag n4 n5 n6 m4 m5 m6 S) (i j : Nat) {a b : Addr} (hij : i ≠ j := by decide) (ha : A.all[i]? = some a := by rfl) (hb : A.all[j]? = some b := by rfl) : a ≠ b := nodup_ne h.nd ha hb hij
theorem StaM.tg (h : StaM A B S00 tag n4 n5 n6 m4 m5 m6 S) (i : Nat) {a : Addr} (ha : A.all[i]? = some a := by rfl) : tag a = none := h.un a (List.mem_of_getElem? ha)
theorem StaM.f0 (h : StaM A B S00 tag n4 n5 n6 m4 m5 m6 S) (i : Nat) {a : Addr} (ha : A.all[i]? = some a := by rfl) : S00 a = none := h.fr a (List.mem_of_getElem? ha)
theorem StaM.go (h : StaM A B S00 tag n4 n5 n6 m4 m5 m6 S) : StaM A B S00 tag n4 n5 n6 m4 m5 m6 (agS S A.a1 A.a3 kvs wt) := by
  have m1 := h.tg 1
  have m3 := h.tg 2
  have hk : ∀ b q, tag b = some q → b ≠ A.a1 ∧ b ≠ A.a3 := fun b q e => ⟨fun z => (by rw [z, m1] at e; cases e), fun z => (by rw [z, m3] at e; cases e)⟩
  have f1 := h.f0 1
  have f3 := h.f0 2
  have sm : ∀ {ad : Addr}, ad ≠ A.a1 → ad ≠ A.a3 → ∀ b c, S b = some c → (b = ad ∨ tag b ≠ none) → agS S A.a1 A.a3 kvs wt b = some c := fun {ad} hn hn2 b c hb hz => by
    rcases hz with rfl | hz
    · rw [agS_ne hn hn2]; exact hb
    · obtain ⟨q, hq⟩ := Option.ne_none_iff_exists'.mp hz
      rw [agS_ne (hk b q hq).1 (hk b q hq).2]
      exact hb
  refine ⟨h.un, h.nd, fun b q e => ?_, fun b c e => ?_, h.fr, h.ft, h.t4.same (sm (h.ne 3 1) (h.ne 3 2)), h.t5.same (sm (h.ne 4 1) (h.ne 4 2)), h.t6.same (sm (h.ne 5 1) (h.ne 5 2)), ?_, ?_, ?_, ?_, ?_, ?_, h.t10.same (sm (h.ne 9 1) (h.ne 9 2)), h.t11.same (sm (h.ne 10 1) (h.ne 10 2)), h.t12.same (sm (h.ne 11 1) (h.ne 11 2)), ?_, ?_, ?_⟩
  · rw [agS_ne (hk b q e).1 (hk b q e).2]; exact h.th b q e
  · rw [agS_ne (fun z => (by rw [z, f1] at e; cases e)) (fun z => (by rw [z, f3] at e; cases e))]
    exact h.le b c e
  · rw [agS_ne (h.ne 3 1) (h.ne 3 2)]; exact h.c4
  · rw [agS_ne (h.ne 4 1) (h.ne 4 2)]; exact h.c5
  · rw [agS_ne (h.ne 5 1) (h.ne 5 2)]; exact h.c6
  · rw [agS_ne (h.ne 6 1) (h.ne 6 2)]; exact h.c7
  · rw [agS_ne (h.ne 7 1) (h.ne 7 2)]; exact h.c8
  · rw [agS_ne (h.ne 8 1) (h.ne 8 2)]; exact h.c9
  · rw [agS_ne (h.ne 9 1) (h.ne 9 2)]; exact h.c10
  · rw [agS_ne (h.ne 10 1) (h.ne 10 2)]; exact h.c11
  · rw [agS_ne (h.ne 11 1) (h.ne 11 2)]; exact h.c12
/-- what a table's change leaves -/
theorem Keep.here {t : Nat} {k : NestedKey} {ad : Addr} (kp : Keep tag t k ad S S' tag') {b : Addr} {c : Cell} (h : S b = some c) (hne : b ≠ ad) (ht : tag b = none) : S' b = some c := kp.cell b c h hne (by rw [ht]; exact fun z => nomatch z)
theorem Keep.un (h : StaM A B S00 tag n4 n5 n6 m4 m5 m6 S) {t : Nat} {k : NestedKey} {ad : Addr} (kp : Keep tag t k ad S S' tag') (ex : ∀ a ∈ A.all, S a ≠ none) : ∀ a ∈ A.all, tag' a = none := fun a ha => by
  cases e : tag' a with
  | none => rfl
  | some q =>
    rcases kp.news a q e with z | z
    · rw [h.un a ha] at z; cases z
    · exact absurd z.1 (ex a ha)
theorem Keep.keyD {t : Nat} {k : NestedKey} {ad b : Addr} (kp : Keep tag t k ad S S' tag') (hne : b ≠ ad) (ht : tag b = none) (hs : ∃ c, S b = some c) (h : ∀ c, S b = some c → ∀ d, ckey c d = d.key) : ∀ c, S' b = some c → ∀ d, ckey c d = d.key := fun c hc => by
  obtain ⟨c2, h2⟩ := hs
  rw [kp.here h2 hne ht] at hc
  cases hc
  exact h _ h2
theorem Keep.keyS {t : Nat} {k : NestedKey} {ad b : Addr} (kp : Keep tag t k ad S S' tag') (hne : b ≠ ad) (ht : tag b = none) (hs : ∃ c, S b = some c) (h : ∀ c, S b = some c → ∀ x, ckey c (.str x) = some (.text x)) : ∀ c, S' b = some c → ∀ x, ckey c (.str x) = some (.text x) := fun c hc => by
  obtain ⟨c2, h2⟩ := hs
  rw [kp.here h2 hne ht] at hc
  cases hc
  exact h _ h2
theorem TabOk.cell {t n : Nat} {ad : Addr} (h : TabOk tag t S ad n m) : ∃ c, S ad = some c := by
  obtain ⟨c, h1, _⟩ := h.ex
  exact ⟨c, h1⟩
theorem KeyAs.go {ad : Addr} (k : KeyAs S S' ad) (h : ∀ c, S ad = some c → ∀ d, ckey c d = d.key) : ∀ c, S' ad = some c → ∀ d, ckey c d = d.key := fun c hc d => by
  obtain ⟨c2, h2, h3⟩ := k c hc
  rw [h3]
  exact h c2 h2 d
theorem StaM.le2 (h : StaM A B S00 tag n4 n5 n6 m4 m5 m6 S) {t : Nat} {k : NestedKey} {ad : Addr} (kp : Keep tag t k ad S S' tag') (hd : ad ∈ A.all) : Le S00 S' := fun b c e => kp.cell b c (h.le b c e) (fun z => by rw [z, h.fr ad hd] at e; cases e) (fun z => by rw [h.ft b _ z] at e; cases e)
theorem StaM.ft2 (h : StaM A B S00 tag n4 n5 n6 m4 m5 m6 S) {t : Nat} {k : NestedKey} {ad : Addr} (kp : Keep tag t k ad S S' tag') : ∀ b q, tag' b = some q → S00 b = none := fun b q e => by
  rcases kp.news b q e with z | z
  · exact h.ft b q z
  · cases e2 : S00 b with
    | none => rfl
    | some c => rw [h.le b c e2] at z; cases z.1
theorem StaM.keep4 (h : StaM A B S00 tag n4 n5 n6 m4 m5 m6 S) (ex : ∀ a ∈ A.all, S a ≠ none) {k : NestedKey} (kp : Keep tag 4 k A.a4 S S' tag') (ka : KeyAs S S' A.a4) (tk : TabOk tag' 4 S' A.a4 (n4 + 1) m) : StaM A B S00 tag' (n4 + 1) n5 n6 m m5 m6 S' :=
  ⟨Keep.un h kp ex, h.nd, kp.there, h.le2 kp (by simp [Ads.all]), h.fr, h.ft2 kp, tk, h.t5.keep kp (h.ne 4 3) (h.tg 4) (h.tg 3) (by decide), h.t6.keep kp (h.ne 5 3) (h.tg 5) (h.tg 3) (by decide),
   ka.go h.c4, kp.keyD (h.ne 4 3) (h.tg 4) h.t5.cell h.c5, kp.keyD (h.ne 5 3) (h.tg 5) h.t6.cell h.c6, kp.here h.c7 (h.ne 6 3) (h.tg 6), (by obtain ⟨kvs, h1, h2⟩ := h.c8; exact ⟨kvs, kp.here h1 (h.ne 7 3) (h.tg 7), h2⟩), kp.here h.c9 (h.ne 8 3) (h.tg 8),
   h.t10.keep kp (h.ne 9 3) (h.tg 9) (h.tg 3) (by decide), h.t11.keep kp (h.ne 10 3) (h.tg 10) (h.tg 3) (by decide), h.t12.keep kp (h.ne 11 3) (h.tg 11) (h.tg 3) (by decide),
   kp.keyS (h.ne 9 3) (h.tg 9) h.t10.cell h.c10, kp.keyS (h.ne 10 3) (h.tg 10) h.t11.cell h.c11, kp.keyS (h.ne 11 3) (h.tg 11) h.t12.cell h.c12⟩
theorem StaM.keep5 (h : StaM A B S00 tag n4 n5 n6 m4 m5 m6 S) (ex : ∀ a ∈ A.all, S a ≠ none) {k : NestedKey} (kp : Keep tag 5 k A.a5 S S' tag') (ka : KeyAs S S' A.a5) (tk : TabOk tag' 5 S' A.a5 (n5 + 1) m) : StaM A B S00 tag' n4 (n5 + 1) n6 m4 m m6 S' :=
  ⟨Keep.un h kp ex, h.nd, kp.there, h.le2 kp (by simp [Ads.all]), h.fr, h.ft2 kp, h.t4.keep kp (h.ne 3 4) (h.tg 3) (h.tg 4) (by decide), tk, h.t6.keep kp (h.ne 5 4) (h.tg 5) (h.tg 4) (by decide),
   kp.keyD (h.ne 3 4) (h.tg 3) h.t4.cell h.c4, ka.go h.c5, kp.keyD (h.ne 5 4) (h.tg 5) h.t6.cell h.c6, kp.here h.c7 (h.ne 6 4) (h.tg 6), (by obtain ⟨kvs, h1, h2⟩ := h.c8; exact ⟨kvs, kp.here h1 (h.ne 7 4) (h.tg 7), h2⟩), kp.here h.c9 (h.ne 8 4) (h.tg 8),
   h.t10.keep kp (h.ne 9 4) (h.tg 9) (h.tg 4) (by decide), h.t11.keep kp (h.ne 10 4) (h.tg 10) (h.tg 4) (by decide), h.t12.keep kp (h.ne 11 4) (h.tg 11) (h.tg 4) (by decide),
   kp.keyS (h.ne 9 4) (h.tg 9) h.t10.cell h.c10, kp.keyS (h.ne 10 4) (h.tg 10) h.t11.cell h.c11, kp.keyS (h.ne 11 4) (h.tg 11) h.t12.cell h.c12⟩
theorem StaM.keep6 (h : StaM A B S00 tag n4 n5 n6 m4 m5 m6 S) (ex : ∀ a ∈ A.all, S a ≠ none) {k : NestedKey} (kp : Keep tag 6 k A.a6 S S' tag') (ka : KeyAs S S' A.a6) (tk : TabOk tag' 6 S' A.a6 (n6 + 1) m) : StaM A B S00 tag' n4 n5 (n6 + 1) m4 m5 m S' :=
  ⟨Keep.un h kp ex, h.nd, kp.there, h.le2 kp (by simp [Ads.all]), h.fr, h.ft2 kp, h.t4.keep kp (h.ne 3 5) (h.tg 3) (h.tg 5) (by decide), h.t5.keep kp (h.ne 4 5) (h.tg 4) (h.tg 5) (by decide), tk,
   kp.keyD (h.ne 3 5) (h.tg 3) h.t4.cell h.c4, kp.keyD (h.ne 4 5) (h.tg 4) h.t5.cell h.c5, ka.go h.c6, kp.here h.c7 (h.ne 6 5) (h.tg 6), (by obtain ⟨kvs, h1, h2⟩ := h.c8; exact ⟨kvs, kp.here h1 (h.ne 7 5) (h.tg 7), h2⟩), kp.here h.c9 (h.ne 8 5) (h.tg 8),
   h.t10.keep kp (h.ne 9 5) (h.tg 9) (h.tg 5) (by decide), h.t11.keep kp (h.ne 10 5) (h.tg 10) (h.tg 5) (by decide), h.t12.keep kp (h.ne 11 5) (h.tg 11) (h.tg 5) (by decide),
   kp.keyS (h.ne 9 5) (h.tg 9) h.t10.cell h.c10, kp.keyS (h.ne 10 5) (h.tg 10) h.t11.cell h.c11, kp.keyS (h.ne 11 5) (h.tg 11) h.t12.cell h.c12⟩
/-- the agenda's cells are kept too -/
theorem AgSt.keep {U : List D} (h : AgSt C A U kvs wt S) (hs : StaM A B S00 tag n4 n5 n6 m4 m5 m6 S) {t : Nat} {k : NestedKey} {ad : Addr} (kp : Keep tag t k ad S S' tag') (h0 : A.sf ≠ ad) (h1 : A.a1 ≠ ad) (h3 : A.a3 ≠ ad) : AgSt C A U kvs wt S' :=
  ⟨h.fo, kp.here h.sf h0 (hs.tg 0), kp.here h.c1 h1 (hs.tg 1), kp.here h.c3 h3 (hs.tg 2), h.n13, h.nf1, h.nf3, h.ag⟩
theorem all_there {U : List D} (h : AgSt C A U kvs wt S) (hs : StaM A B S00 tag n4 n5 n6 m4 m5 m6 S) : ∀ a ∈ A.all, S a ≠ none := by
  intro a ha
  obtain ⟨c4, h4⟩ := hs.t4.cell
  obtain ⟨c5, h5⟩ := hs.t5.cell
  obtain ⟨c6, h6⟩ := hs.t6.cell
  obtain ⟨c8, h8, _⟩ := hs.c8
  obtain ⟨c10, h10⟩ := hs.t10.cell
  obtain ⟨c11, h11⟩ := hs.t11.cell
  obtain ⟨c12, h12⟩ := hs.t12.cell
  have := h.sf
  have := h.c1
  have := h.c3
  have := hs.c7
  have := hs.c9
  simp only [Ads.all, List.mem_cons, List.not_mem_nil, or_false] at ha
  rcases ha with rfl | rfl | rfl | rfl | rfl | rfl | rfl | rfl | rfl | rfl | rfl | rfl <;> simp_all
end
/-! ### fields, tables' lists -/
section
variable {C : Addr} {f : Str} {α β γ : EF} {ρ : Rho} {S : DS} {ad : Addr} {fs : List (Str × D)} {d key : D} {tag : Tag} {t n : Nat} {m : Map} {k : NestedKey}
theorem fld_go (h1 : α ρ S = some (.ref ad)) (h2 : S ad = some (.ins C fs)) (h3 : fs.lookup f = some d) : dFld C f α ρ S = some d := by
  unfold dFld
  rw [h1]
  simp only [Option.bind_some, h2, if_true]
  exact h3
def TagK (tag : Tag) (t : Nat) (k : NestedKey) (S : DS) (ds : List D) : KeepC → Prop
  | none => True
  | some (p, c) => tag p = some (t, k) ∧ c = .lst ds ∧ S p = some c
theorem tab_it (h : TabOk tag t S ad n m) (hk : ∀ c, S ad = some c → ckey c key = some k) (h1 : α ρ S = some (.ref ad)) (h2 : β ρ S = some key) (h3 : γ ρ S = some (.lst [])) :
    ∃ kp, itLst (dDget2 α β γ) ρ S = some (m k, kp) ∧ TagK tag t k S (m k) kp := by
  obtain ⟨c, hc, _⟩ := h.ex
  obtain ⟨r, e, hr⟩ := tab_get h hc (hk c hc)
  have e2 : dDget2 α β γ ρ S = some (r.getD (.lst [])) := by
    unfold dDget2
    rw [h1, h2, h3]
    simp only [Option.bind_some, e]
    rfl
  rcases hr with ⟨rfl, hm⟩ | ⟨p, rfl, g1, g2⟩
  · refine ⟨none, ?_, trivial⟩
    unfold itLst
    rw [e2, hm]
    rfl
  · refine ⟨some (p, .lst (m k)), ?_, g1, rfl, g2⟩
    unfold itLst
    rw [e2]
    simp only [Option.bind_some, Option.getD_some, g2]
theorem tab_it2 (h : TabOk tag t S ad n m) (hk : ∀ c, S ad = some c → ckey c key = some k) (h1 : α ρ S = some (.ref ad)) (h2 : β ρ S = some key) (h3 : γ ρ S = some (.lst [])) (hl : (m k).length ≤ 1000000) :
    itLst (dLst (lCall gList (aCons (dDget2 α β γ) aNil))) ρ S = some (m k, none) := by
  obtain ⟨c, hc, _⟩ := h.ex
  obtain ⟨r, e, hr⟩ := tab_get h hc (hk c hc)
  have e2 : dDget2 α β γ ρ S = some (r.getD (.lst [])) := by
    unfold dDget2
    rw [h1, h2, h3]
    simp only [Option.bind_some, e]
    rfl
  rcases hr with ⟨rfl, hm⟩ | ⟨p, rfl, g1, g2⟩
  · unfold itLst dLst lCall aCons aNil
    rw [e2, hm]
    rfl
  · unfold itLst dLst lCall aCons aNil
    rw [e2]
    simp [gList, seqOf, lstOf, g2, hl]
end
/-! ### loops that offer -/
section
variable {C : Addr} {A : Ads} {U : List D} {S0 : DS} {kvs : List (D × D)} {wt : List D} {items : List D} {kp : KeepC} {o : D → List D} {R : Rho → Prop} {ρ : Rho} {ι : FI} {G : DG} {W : DTS} {E : DEnds}
theorem ag_for (hs : AgOk U kvs wt) (ht : ι ρ (agS S0 A.a1 A.a3 kvs wt) = some (items, kp)) (hk : ∀ kvs' wt', KeptC kp (agS S0 A.a1 A.a3 kvs' wt')) (hr : R ρ) (hu : ∀ d ∈ items, ∀ c ∈ o d, c ∈ U)
    (body : ∀ d ∈ items, ∀ ρ kvs1 wt1, R ρ → AgOk U kvs1 wt1 → ∀ E' : DEnds, (∀ ρ' kvs2 wt2, R ρ' → Offd (o d) kvs1 wt1 kvs2 wt2 → AgOk U kvs2 wt2 → E'.nx ρ' (agS S0 A.a1 A.a3 kvs2 wt2)) → G d ρ (agS S0 A.a1 A.a3 kvs1 wt1) (fun ρ2 S2 => W E' ρ2 S2))
    (done : ∀ ρ' kvs' wt', R ρ' → Offd (items.flatMap o) kvs wt kvs' wt' → AgOk U kvs' wt' → E.nx ρ' (agS S0 A.a1 A.a3 kvs' wt')) : dFor (fI ι) G W E ρ (agS S0 A.a1 A.a3 kvs wt) := by
  refine ⟨items, kp, ht, fun i ρ' S' => R ρ' ∧ ∃ kvs' wt', Offd ((items.take i).flatMap o) kvs wt kvs' wt' ∧ AgOk U kvs' wt' ∧ S' = agS S0 A.a1 A.a3 kvs' wt', ⟨hr, kvs, wt, Offd.nil, hs, rfl⟩, fun i ρ' S' _ hv => ?_, fun i d ρ' S' hd hv => ?_, fun ρ' S' hv => ?_⟩
  · obtain ⟨_, kvs', wt', _, _, rfl⟩ := hv
    exact hk kvs' wt'
  · obtain ⟨hr', kvs', wt', ho, hg, rfl⟩ := hv
    have ht2 : items.take (i + 1) = items.take i ++ [d] := by rw [List.take_succ, hd]; rfl
    refine body d (List.mem_of_getElem? hd) ρ' kvs' wt' hr' hg _ fun ρ2 kvs2 wt2 hr2 ho2 hg2 => ⟨hr2, kvs2, wt2, ?_, hg2, rfl⟩
    rw [ht2, List.flatMap_append]
    exact ho.append (ho2.congr (by simp))
  · obtain ⟨hr', kvs', wt', ho, hg, rfl⟩ := hv
    rw [List.take_length] at ho
    exact done ρ' kvs' wt' hr' ho hg
end
end KD
set_option Elab.async false
set_option linter.all false
set_option maxRecDepth 100000
set_option maxHeartbeats 4000000
/-! What the saturation's methods promise. -/
namespace KD
open PySem PySem.Spec PyProof.Rows L2 Evl
theorem getD_T {S : DS} {ad : Addr} {kvs : List (D × D)} {key : D} {k : NestedKey} (h : S ad = some (.dT kvs)) (hk : key.key = some k) : getD S ad key = some (findT k kvs) := by
  simp only [getD, h, hk, Option.map_some]
theorem din_go {α β : EF} {ρ : Rho} {S : DS} {ad : Addr} {key : D} {r : Option D} (h1 : α ρ S = some key) (h2 : β ρ S = some (.ref ad)) (h3 : getD S ad key = some r) : tb (dDin false α β) ρ S = some r.isSome := by
  unfold tb dDin
  rw [h1, h2]
  simp [h3]
theorem meth_go {C : Addr} {m : Str} {n : Nat} {dsp : DSp} {α : EF} {η : FA} {ρ : Rho} {S : DS} {Q : DQ} {ad : Addr} {fs : List (Str × D)} {ds : List D} (h1 : α ρ S = some (.ref ad)) (h2 : S ad = some (.ins C fs)) (h3 : fs.lookup m = none) (h4 : η ρ S = some ds) (h5 : ds.length + 1 = n) (q : dsp (.ref ad :: ds) S Q) :
    dMethW C m n dsp (fE α) (fA η) ρ S Q := ⟨_, h1, ad, fs, rfl, h2, h3, ds, h4, h5, q⟩
theorem meth_go0 {C : Addr} {m : Str} {n : Nat} {dsp : DSp} {α : EF} {ρ : Rho} {S : DS} {Q : DQ} {ad : Addr} {fs : List (Str × D)} (h1 : α ρ S = some (.ref ad)) (h2 : S ad = some (.ins C fs)) (h3 : fs.lookup m = none) (h5 : 1 = n) (q : dsp [.ref ad] S Q) :
    dMethW C m n dsp (fE α) (fun _ S Q => Q [] S) ρ S Q := ⟨_, h1, ad, fs, rfl, h2, h3, h5, q⟩
section
variable {ε : FT} {U V : DTS} {E : DEnds} {ρ : Rho} {S : DS}
theorem if_yes (h : ε ρ S = some true) (q : U E ρ S) : dIfS (fT ε) U V E ρ S := ⟨true, h, by show (if true = true then _ else _); rw [if_pos rfl]; exact q⟩
theorem if_no (h : ε ρ S = some false) (q : V E ρ S) : dIfS (fT ε) U V E ρ S := ⟨false, h, by show (if false = true then _ else _); rw [if_neg Bool.false_ne_true]; exact q⟩
end
theorem asg_go {ε : EF} {i : Nat} {E : DEnds} {ρ : Rho} {S : DS} {d : D} (h : ε ρ S = some d) (q : E.nx (ρ.set i (some d)) S) : dAsg (fE ε) (dgName i) E ρ S := ⟨d, h, q⟩
theorem eq_none {B : Wo} (hw : WoOk B) {k : D} (hk : B.P k) {α : EF} {ρ : Rho} {S : DS} (h : α ρ S = some k) : ∃ b, tb (dBin gEq α (dC noneD)) ρ S = some b ∧ (b = true ↔ k = noneD) := by
  obtain ⟨t, xs, rfl, _, _⟩ := hw.tup k hk
  obtain ⟨b, h1, h2⟩ := eq2_td (xs := .str t :: xs) (ys := [.str "none"]) (hw.key _ hk).1.1 rfl (Nat.le_trans (hw.key _ hk).2 (by decide))
  refine ⟨b, ?_, ?_⟩
  · unfold tb dBin gEq dC
    rw [h]
    show ((D.eq2 (.tup (.str t :: xs)) (.tup [.str "none"])).map D.bl).bind _ = _
    rw [h1]
    rfl
  · rw [h2]
    unfold noneD
    exact ⟨fun e => by rw [e], fun e => by injection e⟩
def dspOffer (C : Addr) : DSp := fun ds S Q => ∃ A U kvs wt c r g pl, ds = [.ref A.sf, c, r, g, pl] ∧ AgSt C A U kvs wt S ∧ c ∈ U ∧
  ∀ kvs' wt', Offd [c] kvs wt kvs' wt' → AgOk U kvs' wt' → Q .non (agS S A.a1 A.a3 kvs' wt')
/-- an offer, over the agenda's two cells -/
theorem offer_go {C : Addr} {A : Ads} {U : List D} {kvs kvs1 : List (D × D)} {wt wt1 : List D} {S : DS} {Q : DQ} {c r g pl : D} (h : AgSt C A U kvs wt S) (ha : AgOk U kvs1 wt1) (hc : c ∈ U)
    (q : ∀ kvs' wt', Offd [c] kvs1 wt1 kvs' wt' → AgOk U kvs' wt' → Q .non (agS S A.a1 A.a3 kvs' wt')) : dspOffer C [.ref A.sf, c, r, g, pl] (agS S A.a1 A.a3 kvs1 wt1) Q :=
  ⟨A, U, kvs1, wt1, c, r, g, pl, rfl, h.go ha, hc, fun kvs' wt' ho hg => by
    rw [agS_agS h.n13]
    exact q kvs' wt' ho hg⟩
noncomputable def ifP (p : Prop) (l : List D) : List D := @ite _ p (Classical.propDecidable p) l []
theorem ifP_pos {p : Prop} {l : List D} (h : p) : ifP p l = l := if_pos h
theorem ifP_neg {p : Prop} {l : List D} (h : ¬ p) : ifP p l = [] := if_neg h
theorem mem_ifP {p : Prop} {l : List D} {d : D} : d ∈ ifP p l ↔ p ∧ d ∈ l := by
  by_cases h : p
  · rw [ifP_pos h]; exact ⟨fun z => ⟨h, z⟩, fun z => z.2⟩
  · rw [ifP_neg h]; exact ⟨fun z => (nomatch z), fun z => (h z.1).elim⟩
/-- what stands behind a link and its end's kind -/
noncomputable def behOff (kinds : List D) (st : D) (r : Str) (k : D) : List D := ifP (someD r k ∈ kinds) [(Cn.bel st (someD r k)).d] ++ ifP (k = noneD) [(Cn.bel st noneD).d]
def dspBehind (C : Addr) : DSp := fun ds S Q => ∃ A B kvs wt S00 tag pr s r e k, ds = [.ref A.sf, s, .str r, e, k] ∧ WoOk B ∧ B.Un (.lnk s r e) ∧ B.Un (.bel e k) ∧ AgSt C A B.U kvs wt S ∧ Sta A B S00 tag pr S ∧
  ∀ kvs' wt', Offd (behOff B.kinds s r k) kvs wt kvs' wt' → AgOk B.U kvs' wt' → Q .non (agS S A.a1 A.a3 kvs' wt')
theorem behind_go {C : Addr} {A : Ads} {B : Wo} {kvs kvs1 : List (D × D)} {wt wt1 : List D} {S00 S : DS} {Q : DQ} {tag : Tag} {pr : List Cn} {s e k : D} {r : Str} (hw : WoOk B) (h1 : B.Un (.lnk s r e)) (h2 : B.Un (.bel e k)) (h : AgSt C A B.U kvs wt S) (hs : Sta A B S00 tag pr S) (ha : AgOk B.U kvs1 wt1)
    (q : ∀ kvs' wt', Offd (behOff B.kinds s r k) kvs1 wt1 kvs' wt' → AgOk B.U kvs' wt' → Q .non (agS S A.a1 A.a3 kvs' wt')) : dspBehind C [.ref A.sf, s, .str r, e, k] (agS S A.a1 A.a3 kvs1 wt1) Q :=
  ⟨A, B, kvs1, wt1, S00, tag, pr, s, r, e, k, rfl, hw, h1, h2, h.go ha, hs.go, fun kvs' wt' ho hg => by
    rw [agS_agS h.n13]
    exact q kvs' wt' ho hg⟩
/-- a conclusion is worked off -/
def dspDraw (C : Addr) (cn : Cn) (S : DS) (Q : DQ) (A : Ads) : Prop := ∃ B kvs wt S00 tag pr, WoOk B ∧ A.kinds = B.kinds ∧ (∀ c ∈ pr ++ [cn], B.Un c) ∧ pr.length < 100000 ∧ AgSt C A B.U kvs wt S ∧ Sta A B S00 tag pr S ∧
  ∀ S' tag' kvs' wt' cs, Offd cs kvs wt kvs' wt' → AgSt C A B.U kvs' wt' S' → Sta A B S00 tag' (pr ++ [cn]) S' → (∀ d ∈ cs, ∃ c, d = Cn.d c ∧ B.Con (· ∈ pr ++ [cn]) c) → (∀ c, B.Con (· ∈ pr ++ [cn]) c → B.Con (· ∈ pr) c ∨ c.d ∈ cs) → Q .non S'
def dspBelow (C : Addr) : DSp := fun ds S Q => ∃ A s k, ds = [.ref A.sf, (Cn.bel s k).d, s, k] ∧ dspDraw C (.bel s k) S Q A
def dspLink (C : Addr) : DSp := fun ds S Q => ∃ A s r e, ds = [.ref A.sf, (Cn.lnk s r e).d, s, .str r, e] ∧ dspDraw C (.lnk s r e) S Q A
theorem nkD_tup {xs : List D} (h : TD (.tup xs) = true) : nkD (.tup xs) = .tup (xs.map nkD) := by
  have e := nks_map (ds := xs) (TDs_mem.mp h)
  unfold nkD
  simp only [D.nk, e]
  rfl
theorem pair_key {r : Str} {k : D} (h : TD k = true) (hd : (nkD k).depth ≤ 4) : (D.tup [.str r, k]).key = some (nkD (.tup [.str r, k])) := by
  have ht : TD (.tup [.str r, k]) = true := by simp [TD, TDs, h]
  refine key_td ht ?_
  rw [nkD_tup ht]
  simp only [List.map_cons, List.map_nil, NestedKey.depth, NestedKey.depthAll]
  have : (nkD (D.str r)).depth = 0 ∨ (nkD (D.str r)).depth = 1 := by
    show (NestedKey.depth (.text r)) = 0 ∨ (NestedKey.depth (.text r)) = 1
    simp [NestedKey.depth]
  omega
end KD
set_option Elab.async false
set_option linter.all false
set_option maxRecDepth 100000
set_option maxHeartbeats 4000000
/-! What is offered is what follows. -/
namespace KD
open PySem PySem.Spec PyProof.Rows L2 Evl
def oRole (s e : D) : D → List D
  | .tup [_, .str b] => [(Cn.lnk s b e).d]
  | _ => []
def oF2 (s : D) (b c : Str) : D → List D
  | .tup [.str o, l] => if o = b then [(Cn.lnk s c l).d] else []
  | _ => []
def oFirst (pr : List Cn) (s e : D) : D → List D
  | .tup [_, .str b, .str c] => (mF pr (nkD e)).flatMap (oF2 s b c)
  | _ => []
def oT2 (a c : Str) (e : D) : D → List D
  | .tup [b, .str o] => if o = a then [(Cn.lnk b c e).d] else []
  | _ => []
def oSec (pr : List Cn) (s e : D) : D → List D
  | .tup [_, .str a, .str c] => (mT pr (nkD s)).flatMap (oT2 a c e)
  | _ => []
noncomputable def lnkOff (B : Wo) (pr : List Cn) (s : D) (r : Str) (e : D) : List D :=
  (((mRo B.book (.text r)).flatMap (oRole s e) ++ (mFi B.book (.text r)).flatMap (oFirst pr s e)) ++ (mSe B.book (.text r)).flatMap (oSec pr s e)) ++ (mB pr (nkD e)).flatMap (behOff B.kinds s r)
theorem says_mem {B : Wo} {x : Say} : x ∈ B.says ↔ ∃ i, (x, i) ∈ B.book := by
  unfold Wo.says
  rw [List.mem_map]
  exact ⟨fun ⟨⟨y, i⟩, h, e⟩ => ⟨i, e ▸ h⟩, fun ⟨i, h⟩ => ⟨(x, i), h, rfl⟩⟩
theorem beh_mem {kinds : List D} {s k d : D} {r : Str} : d ∈ behOff kinds s r k ↔ (someD r k ∈ kinds ∧ d = (Cn.bel s (someD r k)).d) ∨ (k = noneD ∧ d = (Cn.bel s noneD).d) := by
  unfold behOff
  rw [List.mem_append, mem_ifP, mem_ifP, List.mem_singleton, List.mem_singleton]
section
variable {B : Wo} {pr : List Cn} {s e k : D} {r : Str}
theorem P_td (hw : WoOk B) : ∀ d, B.P d → TD d = true := fun d h => (hw.key d h).1.1
theorem lnk_snd (hw : WoOk B) (hp : ∀ c ∈ pr, B.Un c) (hn : Cn.lnk s r e ∈ pr) : ∀ d ∈ lnkOff B pr s r e, ∃ c, d = Cn.d c ∧ B.Con (· ∈ pr) c := by
  have ho : ∀ c ∈ pr, CnOk B.P c := fun c hc => hw.ok c (hp c hc)
  have hs : B.P s := (ho _ hn).1
  have he : B.P e := (ho _ hn).2
  intro d hd
  simp only [lnkOff, List.mem_append, List.mem_flatMap] at hd
  rcases hd with ((⟨x, hx, hd⟩ | ⟨x, hx, hd⟩) | ⟨x, hx, hd⟩) | ⟨x, hx, hd⟩
  · obtain ⟨i, b, rfl, hb⟩ := mem_mRo.mp hx
    exact ⟨_, List.mem_singleton.mp hd, .role (says_mem.mpr ⟨i, hb⟩) hn⟩
  · obtain ⟨i, b, c, rfl, hb⟩ := mem_mFi.mp hx
    obtain ⟨y, hy, hd⟩ := List.mem_flatMap.mp hd
    obtain ⟨o, l, rfl, hl⟩ := (mem_mF ho (P_td hw) he).mp hy
    unfold oF2 at hd
    by_cases h : o = b
    · simp only [if_pos h, List.mem_singleton] at hd
      exact ⟨_, hd, .chain (says_mem.mpr ⟨i, hb⟩) hn (h ▸ hl)⟩
    · simp only [if_neg h] at hd
      cases hd
  · obtain ⟨i, a, c, rfl, hb⟩ := mem_mSe.mp hx
    obtain ⟨y, hy, hd⟩ := List.mem_flatMap.mp hd
    obtain ⟨o, l, rfl, hl⟩ := (mem_mT ho (P_td hw) hs).mp hy
    unfold oT2 at hd
    by_cases h : o = a
    · simp only [if_pos h, List.mem_singleton] at hd
      exact ⟨_, hd, .chain (says_mem.mpr ⟨i, hb⟩) (h ▸ hl) hn⟩
    · simp only [if_neg h] at hd
      cases hd
  · have hk := (mem_mB ho (P_td hw) he).mp hx
    rcases beh_mem.mp hd with ⟨h1, h2⟩ | ⟨h1, h2⟩
    · exact ⟨_, h2, .close h1 hn hk⟩
    · exact ⟨_, h2, .empty hn (h1 ▸ hk)⟩
theorem lnk_cmp (hw : WoOk B) (hp : ∀ c ∈ pr ++ [.lnk s r e], B.Un c) : ∀ c, B.Con (· ∈ pr ++ [.lnk s r e]) c → B.Con (· ∈ pr) c ∨ c.d ∈ lnkOff B (pr ++ [.lnk s r e]) s r e := by
  have ho : ∀ c ∈ pr ++ [.lnk s r e], CnOk B.P c := fun c hc => hw.ok c (hp c hc)
  have hn : Cn.lnk s r e ∈ pr ++ [.lnk s r e] := by simp
  have hs : B.P s := (ho _ hn).1
  have he : B.P e := (ho _ hn).2
  have split : ∀ c, c ∈ pr ++ [.lnk s r e] → c ∈ pr ∨ c = .lnk s r e := fun c hc => by simpa using hc
  have bels : ∀ x y, Cn.bel x y ∈ pr ++ [.lnk s r e] → Cn.bel x y ∈ pr := fun x y h => (split _ h).elim id fun z => nomatch z
  intro c hc
  simp only [lnkOff, List.mem_append, List.mem_flatMap]
  cases hc with
  | role h1 h2 =>
    rcases split _ h2 with h3 | h3
    · exact .inl (.role h1 h3)
    · cases h3
      obtain ⟨i, hi⟩ := says_mem.mp h1
      exact .inr (.inl (.inl (.inl ⟨_, mem_mRo.mpr ⟨i, _, rfl, hi⟩, List.mem_singleton.mpr rfl⟩)))
  | chain h1 h2 h3 =>
    obtain ⟨i, hi⟩ := says_mem.mp h1
    rcases split _ h2 with h4 | h4
    · rcases split _ h3 with h5 | h5
      · exact .inl (.chain h1 h4 h5)
      · cases h5
        exact .inr (.inl (.inr ⟨_, mem_mSe.mpr ⟨i, _, _, rfl, hi⟩, List.mem_flatMap.mpr ⟨_, (mem_mT ho (P_td hw) hs).mpr ⟨_, _, rfl, h2⟩, by simp [oT2]⟩⟩))
    · cases h4
      exact .inr (.inl (.inl (.inr ⟨_, mem_mFi.mpr ⟨i, _, _, rfl, hi⟩, List.mem_flatMap.mpr ⟨_, (mem_mF ho (P_td hw) he).mpr ⟨_, _, rfl, h3⟩, by simp [oF2]⟩⟩)))
  | opn h1 => exact .inl (.opn (bels _ _ h1))
  | close h1 h2 h3 =>
    rcases split _ h2 with h4 | h4
    · exact .inl (.close h1 h4 (bels _ _ h3))
    · cases h4
      exact .inr (.inr ⟨_, (mem_mB ho (P_td hw) he).mpr h3, beh_mem.mpr (.inl ⟨h1, rfl⟩)⟩)
  | empty h1 h2 =>
    rcases split _ h1 with h4 | h4
    · exact .inl (.empty h4 (bels _ _ h2))
    · cases h4
      exact .inr (.inr ⟨_, (mem_mB ho (P_td hw) he).mpr h2, beh_mem.mpr (.inr ⟨rfl, rfl⟩)⟩)
  | nothing h1 h2 => exact .inl (.nothing (bels _ _ h1) h2)
def oOpn (s : D) : D → List D
  | .tup [.str t, .str r, e] => if t = "some" then [(Cn.lnk s r e).d] else []
  | _ => []
noncomputable def oTo (kinds : List D) (k : D) : D → List D
  | .tup [st, .str r] => behOff kinds st r k
  | _ => []
noncomputable def belOff (B : Wo) (pr : List Cn) (s k : D) : List D := (oOpn s k ++ ifP (k = noneD) (B.kinds.map fun o => (Cn.bel s o).d)) ++ (mT pr (nkD s)).flatMap (oTo B.kinds k)
theorem opn_mem {d : D} : d ∈ oOpn s k ↔ ∃ r e, k = someD r e ∧ d = (Cn.lnk s r e).d := by
  constructor
  · intro h
    unfold oOpn at h
    split at h
    · next t r e =>
      by_cases ht : t = "some"
      · rw [if_pos ht] at h
        subst ht
        exact ⟨r, e, rfl, List.mem_singleton.mp h⟩
      · rw [if_neg ht] at h
        cases h
    · cases h
  · rintro ⟨r, e, rfl, rfl⟩
    simp [oOpn, someD]
theorem bel_snd (hw : WoOk B) (hp : ∀ c ∈ pr, B.Un c) (hn : Cn.bel s k ∈ pr) : ∀ d ∈ belOff B pr s k, ∃ c, d = Cn.d c ∧ B.Con (· ∈ pr) c := by
  have ho : ∀ c ∈ pr, CnOk B.P c := fun c hc => hw.ok c (hp c hc)
  have hs : B.P s := (ho _ hn).1
  intro d hd
  simp only [belOff, List.mem_append, List.mem_flatMap] at hd
  rcases hd with (hd | hd) | ⟨x, hx, hd⟩
  · obtain ⟨r, e, rfl, rfl⟩ := opn_mem.mp hd
    exact ⟨_, rfl, .opn hn⟩
  · obtain ⟨e1, hd2⟩ := mem_ifP.mp hd
    obtain ⟨o, h1, rfl⟩ := List.mem_map.mp hd2
    exact ⟨_, rfl, .nothing (e1 ▸ hn) h1⟩
  · obtain ⟨r, st, rfl, hl⟩ := (mem_mT ho (P_td hw) hs).mp hx
    rcases beh_mem.mp hd with ⟨h1, h2⟩ | ⟨h1, h2⟩
    · exact ⟨_, h2, .close h1 hl hn⟩
    · exact ⟨_, h2, .empty hl (h1 ▸ hn)⟩
theorem bel_cmp (hw : WoOk B) (hp : ∀ c ∈ pr ++ [.bel s k], B.Un c) : ∀ c, B.Con (· ∈ pr ++ [.bel s k]) c → B.Con (· ∈ pr) c ∨ c.d ∈ belOff B (pr ++ [.bel s k]) s k := by
  have ho : ∀ c ∈ pr ++ [.bel s k], CnOk B.P c := fun c hc => hw.ok c (hp c hc)
  have hn : Cn.bel s k ∈ pr ++ [.bel s k] := by simp
  have hs : B.P s := (ho _ hn).1
  have split : ∀ c, c ∈ pr ++ [.bel s k] → c ∈ pr ∨ c = .bel s k := fun c hc => by simpa using hc
  have lnks : ∀ x r y, Cn.lnk x r y ∈ pr ++ [.bel s k] → Cn.lnk x r y ∈ pr := fun x r y h => (split _ h).elim id fun z => nomatch z
  intro c hc
  simp only [belOff, List.mem_append, List.mem_flatMap]
  cases hc with
  | role h1 h2 => exact .inl (.role h1 (lnks _ _ _ h2))
  | chain h1 h2 h3 => exact .inl (.chain h1 (lnks _ _ _ h2) (lnks _ _ _ h3))
  | opn h1 =>
    rcases split _ h1 with h4 | h4
    · exact .inl (.opn h4)
    · cases h4
      exact .inr (.inl (.inl (opn_mem.mpr ⟨_, _, rfl, rfl⟩)))
  | close h1 h2 h3 =>
    rcases split _ h3 with h4 | h4
    · exact .inl (.close h1 (lnks _ _ _ h2) h4)
    · cases h4
      exact .inr (.inr ⟨_, (mem_mT ho (P_td hw) hs).mpr ⟨_, _, rfl, h2⟩, beh_mem.mpr (.inl ⟨h1, rfl⟩)⟩)
  | empty h1 h2 =>
    rcases split _ h2 with h4 | h4
    · exact .inl (.empty (lnks _ _ _ h1) h4)
    · cases h4
      exact .inr (.inr ⟨_, (mem_mT ho (P_td hw) hs).mpr ⟨_, _, rfl, h1⟩, beh_mem.mpr (.inr ⟨rfl, rfl⟩)⟩)
  | nothing h1 h2 =>
    rcases split _ h1 with h4 | h4
    · exact .inl (.nothing h4 h2)
    · cases h4
      exact .inr (.inl (.inr (mem_ifP.mpr ⟨rfl, List.mem_map.mpr ⟨_, h2, rfl⟩⟩)))
theorem snd_U (hw : WoOk B) (hp : ∀ c ∈ pr, B.Un c) {ds : List D} (h : ∀ d ∈ ds, ∃ c, d = Cn.d c ∧ B.Con (· ∈ pr) c) : ∀ d ∈ ds, d ∈ B.U := by
  intro d hd
  obtain ⟨c, rfl, hc⟩ := h d hd
  refine hw.mem c (hw.cl c ?_)
  cases hc with
  | role h1 h2 => exact .role h1 (hp _ h2)
  | chain h1 h2 h3 => exact .chain h1 (hp _ h2) (hp _ h3)
  | opn h1 => exact .opn (hp _ h1)
  | close h1 h2 h3 => exact .close h1 (hp _ h2) (hp _ h3)
  | empty h1 h2 => exact .empty (hp _ h1) (hp _ h2)
  | nothing h1 h2 => exact .nothing (hp _ h1) h2
end
theorem filterMap_le {α β : Type} {f : α → Option β} : ∀ {l : List α}, (l.filterMap f).length ≤ l.length
  | l => List.length_filterMap_le f l
theorem mB_len {pr : List Cn} {k : NestedKey} : (mB pr k).length ≤ pr.length := List.length_filterMap_le _ _
theorem mF_len {pr : List Cn} {k : NestedKey} : (mF pr k).length ≤ pr.length := List.length_filterMap_le _ _
theorem mT_len {pr : List Cn} {k : NestedKey} : (mT pr k).length ≤ pr.length := List.length_filterMap_le _ _
end KD
set_option Elab.async false
set_option linter.all false
set_option maxRecDepth 100000
set_option maxHeartbeats 4000000
/-! Small steps for the saturation's walk. -/
namespace KD
open PySem PySem.Spec PyProof.Rows L2 Evl
theorem acons_go {α : EF} {η : FA} {ρ : Rho} {S : DS} {d : D} {ds : List D} (h : α ρ S = some d) (k : η ρ S = some ds) : aCons α η ρ S = some (d :: ds) := by
  unfold aCons
  rw [h, k]
  rfl
theorem eqs_go {α β : EF} {ρ : Rho} {S : DS} {x y : Str} (h : α ρ S = some (.str x)) (k : β ρ S = some (.str y)) : tb (dBin gEq α β) ρ S = some (decide (x = y)) := by
  unfold tb dBin gEq
  rw [h, k]
  rfl
theorem tag_kept {A : Ads} {tag : Tag} {t : Nat} {k : NestedKey} {S : DS} {ds : List D} {kp : KeepC} {kvs : List (D × D)} {wt : List D} (h : TagK tag t k (agS S A.a1 A.a3 kvs wt) ds kp) (h1 : tag A.a1 = none) (h3 : tag A.a3 = none) : ∀ kvs' wt', KeptC kp (agS S A.a1 A.a3 kvs' wt') := by
  intro kvs' wt'
  cases kp with
  | none => trivial
  | some pc =>
    obtain ⟨p, c⟩ := pc
    obtain ⟨g1, g2, g3⟩ := h
    have n1 : p ≠ A.a1 := fun z => by rw [z, h1] at g1; cases g1
    have n3 : p ≠ A.a3 := fun z => by rw [z, h3] at g1; cases g1
    show agS S A.a1 A.a3 kvs' wt' p = some c
    rw [agS_ne n1 n3] at g3 ⊢
    exact g3
theorem TabOk.ups {tag : Tag} {t n n' : Nat} {S : DS} {ad : Addr} {m : Map} (h : TabOk tag t S ad n m) (l : n ≤ n') : TabOk tag t S ad n' m := h.mono l
theorem StaM.up {A : Ads} {B : Wo} {S00 S : DS} {tag : Tag} {n4 n5 n6 k4 k5 k6 : Nat} {m4 m5 m6 : Map} (h : StaM A B S00 tag n4 n5 n6 m4 m5 m6 S) (l4 : n4 ≤ k4) (l5 : n5 ≤ k5) (l6 : n6 ≤ k6) : StaM A B S00 tag k4 k5 k6 m4 m5 m6 S :=
  ⟨h.un, h.nd, h.th, h.le, h.fr, h.ft, h.t4.mono l4, h.t5.mono l5, h.t6.mono l6, h.c4, h.c5, h.c6, h.c7, h.c8, h.c9, h.t10, h.t11, h.t12, h.c10, h.c11, h.c12⟩
theorem sta_lnk {A : Ads} {B : Wo} {S00 S : DS} {tag : Tag} {pr : List Cn} {s e : D} {r : Str} (h : StaM A B S00 tag pr.length (pr.length + 1) (pr.length + 1) (mB pr) (upM (mF pr) (nkD s) (mF pr (nkD s) ++ [.tup [.str r, e]])) (upM (mT pr) (nkD e) (mT pr (nkD e) ++ [.tup [s, .str r]])) S) :
    Sta A B S00 tag (pr ++ [.lnk s r e]) S := by
  unfold Sta
  rw [mB_lnk, mF_lnk, mT_lnk, List.length_append]
  exact h.up (Nat.le_succ _) (Nat.le_refl _) (Nat.le_refl _)
theorem sta_bel {A : Ads} {B : Wo} {S00 S : DS} {tag : Tag} {pr : List Cn} {s k : D} (h : StaM A B S00 tag (pr.length + 1) pr.length pr.length (upM (mB pr) (nkD s) (mB pr (nkD s) ++ [k])) (mF pr) (mT pr) S) :
    Sta A B S00 tag (pr ++ [.bel s k]) S := by
  unfold Sta
  rw [mB_bel, mF_bel, mT_bel, List.length_append]
  exact h.up (Nat.le_refl _) (Nat.le_succ _) (Nat.le_succ _)
theorem ix0_go {α : EF} {ρ : Rho} {S : DS} {d : D} {xs : List D} (h : α ρ S = some (.tup (d :: xs))) : dBin gIx α (dC (.int 0)) ρ S = some d := by
  unfold dBin dC
  rw [h]
  simp [gIx, seqOf, atI0]
theorem ix1_go {α : EF} {ρ : Rho} {S : DS} {d d1 : D} {xs : List D} (h : α ρ S = some (.tup (d :: d1 :: xs))) : dBin gIx α (dC (.int 1)) ρ S = some d1 := by
  unfold dBin dC
  rw [h]
  simp [gIx, seqOf, atI1]
theorem ix2_go {α : EF} {ρ : Rho} {S : DS} {d d1 d2 : D} {xs : List D} (h : α ρ S = some (.tup (d :: d1 :: d2 :: xs))) : dBin gIx α (dC (.int 2)) ρ S = some d2 := by
  unfold dBin dC
  rw [h]
  simp [gIx, seqOf, atI2]
theorem ix3_go {α : EF} {ρ : Rho} {S : DS} {d d1 d2 d3 : D} {xs : List D} (h : α ρ S = some (.tup (d :: d1 :: d2 :: d3 :: xs))) : dBin gIx α (dC (.int 3)) ρ S = some d3 := by
  unfold dBin dC
  rw [h]
  simp [gIx, seqOf, atI3]
theorem tup_go {η : FA} {ρ : Rho} {S : DS} {ds : List D} (h : η ρ S = some ds) (hl : ds.length ≤ 1000 := by simp) : dTup η ρ S = some (.tup ds) := by
  unfold dTup
  rw [h]
  exact if_pos hl
section
variable {A : Ads} {U : List D} {S0 : DS} {kvs : List (D × D)} {wt : List D} {o : List D} {R : Rho → Prop} {ρ : Rho} {ε : FT} {W : DTS} {E : DEnds} {p : Prop} {b : Bool}
theorem ag_opt (hs : AgOk U kvs wt) (hr : R ρ) (hc : ε ρ (agS S0 A.a1 A.a3 kvs wt) = some b) (hb : b = true ↔ p) (h1 : p → ∀ E' : DEnds, (∀ ρ' kvs' wt', R ρ' → Offd o kvs wt kvs' wt' → AgOk U kvs' wt' → E'.nx ρ' (agS S0 A.a1 A.a3 kvs' wt')) → W E' ρ (agS S0 A.a1 A.a3 kvs wt)) (h2 : ¬ p → o = [])
    (done : ∀ ρ' kvs' wt', R ρ' → Offd o kvs wt kvs' wt' → AgOk U kvs' wt' → E.nx ρ' (agS S0 A.a1 A.a3 kvs' wt')) : dIfS (fT ε) W dNext E ρ (agS S0 A.a1 A.a3 kvs wt) := by
  by_cases hp : p
  · rw [hb.mpr hp] at hc
    exact if_yes hc (h1 hp E done)
  · have : b = false := by
      rw [Bool.eq_false_iff]
      exact fun z => hp (hb.mp z)
    rw [this] at hc
    exact if_no hc (done ρ kvs wt hr (by rw [h2 hp]; exact Offd.nil) hs)
end
end KD
set_option Elab.async false
set_option linter.all false
set_option maxRecDepth 100000
set_option maxHeartbeats 4000000
/-! A saturation, as it is made. -/
namespace KD
open PySem PySem.Spec PyProof.Rows L2 Evl
def dspNext (C : Addr) : DSp := fun ds S Q => ∃ A B kvs wt S00 tag pr c, ds = [.ref A.sf] ∧ WoOk B ∧ A.kinds = B.kinds ∧ (∀ x ∈ pr ++ [c], B.Un x) ∧ pr.length < 100000 ∧ AgSt C A B.U kvs (wt ++ [Cn.d c]) S ∧ Sta A B S00 tag pr S ∧
  ∀ S' tag' kvs' wt' cs, Offd cs kvs wt kvs' wt' → AgSt C A B.U kvs' wt' S' → Sta A B S00 tag' (pr ++ [c]) S' → (∀ d ∈ cs, ∃ x, d = Cn.d x ∧ B.Con (· ∈ pr ++ [c]) x) → (∀ x, B.Con (· ∈ pr ++ [c]) x → B.Con (· ∈ pr) x ∨ x.d ∈ cs) → Q .non S'
theorem agS_3put {S : DS} {a1 a3 : Addr} {kvs : List (D × D)} {wt : List D} (h : S a1 = some (.dT kvs)) : put S a3 (.lst wt) = agS S a1 a3 kvs wt := by
  unfold agS
  rw [put_self h]
theorem AgOk.less {U : List D} {kvs : List (D × D)} {wt : List D} {x : D} (h : AgOk U kvs (wt ++ [x])) : AgOk U kvs wt := ⟨h.u, h.few, h.sub, h.nd, by have := h.wait; rw [List.length_append] at this; omega⟩
/-! fields -/
theorem lookup_put_same {f : Str} {v : D} : ∀ {fs : List (Str × D)}, (putFD f v fs).lookup f = some v
  | [] => by simp [putFD, List.lookup]
  | (g, x) :: fs => by
    unfold putFD
    by_cases h : g = f
    · rw [if_pos h, List.lookup_cons, h]
      simp
    · have h2 : (f == g) = false := by simpa using fun z => h z.symm
      rw [if_neg h, List.lookup_cons, h2]
      exact lookup_put_same
theorem lookup_put_ne {f g : Str} {v : D} (hne : g ≠ f) : ∀ {fs : List (Str × D)}, (putFD f v fs).lookup g = fs.lookup g
  | [] => by
    have h2 : (g == f) = false := by simpa using hne
    simp [putFD, List.lookup, h2]
  | (k, x) :: fs => by
    unfold putFD
    by_cases h : k = f
    · subst h
      have h2 : (g == k) = false := by simpa using hne
      rw [if_pos rfl, List.lookup_cons, List.lookup_cons, h2]
    · rw [if_neg h, List.lookup_cons, List.lookup_cons]
      cases g == k with
      | true => rfl
      | false => exact lookup_put_ne hne
theorem putFD_len {f : Str} {v : D} : ∀ {fs : List (Str × D)}, (putFD f v fs).length ≤ fs.length + 1
  | [] => by simp [putFD]
  | (g, x) :: fs => by
    unfold putFD
    split
    · simp
    · simp only [List.length_cons]
      have := putFD_len (f := f) (v := v) (fs := fs)
      omega
/-! what it owns -/
structure Ini (C : Addr) (S00 : DS) (sf : Addr) (fs : List (Str × D)) (own : List (Addr × Option Cell)) (S : DS) : Prop where
  self : S sf = some (.ins C fs)
  s0 : S00 sf = none
  owns : ∀ p ∈ own, (∀ c, p.2 = some c → S p.1 = some c) ∧ S p.1 ≠ none ∧ S00 p.1 = none ∧ p.1 ≠ sf
  nd : (own.map (·.1)).Nodup
  le : Le S00 S
section
variable {C : Addr} {S00 S : DS} {sf a : Addr} {fs : List (Str × D)} {own : List (Addr × Option Cell)} {f : Str} {d : D} {c c' : Cell} {o o' : Option Cell}
theorem Ini.new (h : Ini C S00 sf fs own S) (ha : S a = none) : Ini C S00 sf fs (own ++ [(a, some c)]) (put S a c) := by
  have hsf : sf ≠ a := fun z => by rw [← z, h.self] at ha; cases ha
  have h0 : S00 a = none := by
    cases e : S00 a with
    | none => rfl
    | some x => rw [h.le a x e] at ha; cases ha
  have hno : ∀ p ∈ own, p.1 ≠ a := fun p hp z => (h.owns p hp).2.1 (z ▸ ha)
  refine ⟨by rw [put_ne hsf]; exact h.self, h.s0, fun p hp => ?_, ?_, le_putR h.le h0⟩
  · rcases List.mem_append.mp hp with hp | hp
    · have q := h.owns p hp
      rw [put_ne (hno p hp)]
      exact q
    · rw [List.mem_singleton.mp hp]
      exact ⟨fun x e => (by cases e; exact put_same), (by rw [put_same]; exact fun z => (nomatch z)), h0, Ne.symm hsf⟩
  · rw [List.map_append, List.nodup_append]
    exact ⟨h.nd, by simp, fun x hx y hy e => by
      obtain ⟨p, hp, rfl⟩ := List.mem_map.mp hx
      have hy : y = a := by simpa using hy
      exact hno p hp (e.trans hy)⟩
theorem Ini.fld (h : Ini C S00 sf fs own S) (fs' : List (Str × D)) : Ini C S00 sf fs' own (put S sf (.ins C fs')) := by
  refine ⟨put_same, h.s0, fun p hp => ?_, h.nd, fun b c e => ?_⟩
  · have q := h.owns p hp
    rw [put_ne q.2.2.2]
    exact q
  · rw [put_ne (fun z => by rw [z, h.s0] at e; cases e)]
    exact h.le b c e
/-- the last's cell is changed -/
theorem Ini.last (h : Ini C S00 sf fs (own ++ [(a, o)]) S) : Ini C S00 sf fs (own ++ [(a, some c')]) (put S a c') := by
  have ha := h.owns (a, o) (by simp)
  have hn := h.nd
  rw [List.map_append, List.nodup_append] at hn
  have hno : ∀ p ∈ own, p.1 ≠ a := fun p hp => hn.2.2 p.1 (List.mem_map_of_mem hp) a (by simp)
  refine ⟨by rw [put_ne (Ne.symm ha.2.2.2)]; exact h.self, h.s0, fun p hp => ?_, ?_, fun b c e => ?_⟩
  · rcases List.mem_append.mp hp with hp | hp
    · have q := h.owns p (List.mem_append_left _ hp)
      rw [put_ne (hno p hp)]
      exact q
    · rw [List.mem_singleton.mp hp]
      exact ⟨fun x e => (by cases e; exact put_same), (by rw [put_same]; exact fun z => (nomatch z)), ha.2.2.1, ha.2.2.2⟩
  · have := h.nd
    rw [List.map_append] at this ⊢
    exact this
  · rw [put_ne (fun z => by rw [z, ha.2.2.1] at e; cases e)]
    exact h.le b c e
theorem Ini.at_ (h : Ini C S00 sf fs own S) (hm : (a, some c) ∈ own) : S a = some c := (h.owns _ hm).1 c rfl
end
/-! a field is set -/
section
variable {C : Addr} {S00 S : DS} {sf : Addr} {fs : List (Str × D)} {own : List (Addr × Option Cell)} {f : Str} {d : D} {α ε : EF} {ρ : Rho} {E : DEnds}
theorem fput_e (h : Ini C S00 sf fs own S) (hl : fs.length < 1000) (ha : ∀ S, α ρ S = some (.ref sf)) (he : ε ρ S = some d) (q : ∀ S', Ini C S00 sf (putFD f d fs) own S' → E.nx ρ S') : dFldPut C f α (fE ε) E ρ S :=
  ⟨d, he, sf, fs, ha S, h.self, hl, q _ (h.fld _)⟩
theorem fput_T (h : Ini C S00 sf fs own S) (hl : fs.length < 1000) (ha : ∀ S, α ρ S = some (.ref sf)) (q : ∀ p S', Ini C S00 sf (putFD f (.ref p) fs) (own ++ [(p, some (.dT []))]) S' → E.nx ρ S') : dFldPut C f α dNewT E ρ S :=
  fun p hp => ⟨sf, fs, ha _, (h.new hp).self, hl, q p _ ((h.new hp).fld _)⟩
theorem fput_S (h : Ini C S00 sf fs own S) (hl : fs.length < 1000) (ha : ∀ S, α ρ S = some (.ref sf)) (q : ∀ p S', Ini C S00 sf (putFD f (.ref p) fs) (own ++ [(p, some (.dS []))]) S' → E.nx ρ S') : dFldPut C f α dNewS E ρ S :=
  fun p hp => ⟨sf, fs, ha _, (h.new hp).self, hl, q p _ ((h.new hp).fld _)⟩
theorem fput_L (h : Ini C S00 sf fs own S) (hl : fs.length < 1000) (ha : ∀ S, α ρ S = some (.ref sf)) (q : ∀ p S', Ini C S00 sf (putFD f (.ref p) fs) (own ++ [(p, some (.lst []))]) S' → E.nx ρ S') : dFldPut C f α (asCell fun ρ S R => fA aNil ρ S fun ds S1 => ds.length ≤ 1000 ∧ R ds S1) E ρ S :=
  ⟨[], rfl, Nat.zero_le _, fun p hp => ⟨sf, fs, ha _, (h.new hp).self, hl, q p _ ((h.new hp).fld _)⟩⟩
end
/-- kinds that are served -/
def KiOk (k : D) : Prop := ∃ t xs, k = .tup (.str t :: xs) ∧ t ≠ "and" ∧ (t = "some" → ∃ r e, k = someD r e ∧ TD e = true ∧ (nkD e).depth ≤ 4)
def dspIdxK (C : Addr) : DSp := fun ds S Q => ∃ S00 sf fs own kinds, ds = [.ref sf] ∧ Ini C S00 sf fs own S ∧ fs.lookup ("kinds" : Str) = some (.tup kinds) ∧ fs.length < 900 ∧ kinds.length ≤ 100000 ∧ (∀ k ∈ kinds, KiOk k) ∧
  ∀ a7 a8 kvs S', Ini C S00 sf (putFD "somes" (.ref a8) (putFD "wholes" (.ref a7) fs)) ((own ++ [(a7, some (.dT []))]) ++ [(a8, some (.dT kvs))]) S' → SomesOk kinds kvs → Q .non S'
theorem someD_inj {r r2 : Str} {e e2 : D} (h : someD r e = someD r2 e2) : r = r2 ∧ e = e2 := by
  unfold someD at h
  injection h with h
  injection h with _ h
  injection h with h1 h
  injection h with h2 _
  injection h1 with h1
  exact ⟨h1, h2⟩
/-- the somes of a part of the kinds -/
theorem somes_put {ks : List D} {kvs : List (D × D)} {r : Str} {e : D} (h : SomesOk ks kvs) (he : TD e = true) (hd : (nkD e).depth ≤ 4) : SomesOk (ks ++ [someD r e]) (putT (.tup [.str r, e]) (nkD (.tup [.str r, e])) (someD r e) kvs) := by
  have hk := pair_key (r := r) he hd
  have tp : ∀ {r : Str} {e : D}, TD e = true → TD (.tup [.str r, e]) = true := fun {r e} h => by simp [TD, TDs, h]
  have inj : ∀ r2 e2, TD e2 = true → nkD (.tup [.str r2, e2]) = nkD (.tup [.str r, e]) → r2 = r ∧ e2 = e := fun r2 e2 h2 hz => by
    have := nkD_inj (tp h2) (tp he) hz
    injection this with h3
    injection h3 with h4 h5
    injection h4 with h4
    injection h5 with h5 _
    exact ⟨h4, h5⟩
  have other : ∀ j, j ≠ nkD (.tup [.str r, e]) → findT j (putT (.tup [.str r, e]) (nkD (.tup [.str r, e])) (someD r e) kvs) = findT j kvs := fun j hj => by
    cases hf : findT (nkD (.tup [.str r, e])) kvs with
    | none => rw [(findT_put hk hf).1]; exact (findT_put hk hf).2.2 j hj
    | some v =>
      unfold putT
      rw [hf]
      simp only [Option.isSome_some, if_true]
      unfold findT
      rw [List.find?_map]
      have : ((fun p : D × D => decide (p.1.key = some j)) ∘ fun p : D × D => if p.1.key = some (nkD (.tup [.str r, e])) then (p.1, someD r e) else p) = fun p : D × D => decide (p.1.key = some j) := by
        funext p
        simp only [Function.comp]
        split <;> rfl
      rw [this]
      cases hq : kvs.find? fun p : D × D => decide (p.1.key = some j) with
      | none => rfl
      | some p =>
        have hp := List.find?_some hq
        have hp : p.1.key = some j := of_decide_eq_true hp
        simp only [Option.map_some]
        rw [if_neg (by rw [hp]; exact fun z => hj (Option.some.inj z))]
  have same : findT (nkD (.tup [.str r, e])) (putT (.tup [.str r, e]) (nkD (.tup [.str r, e])) (someD r e) kvs) = some (someD r e) := by
    cases hf : findT (nkD (.tup [.str r, e])) kvs with
    | none => rw [(findT_put hk hf).1]; exact (findT_put hk hf).2.1
    | some v =>
      unfold putT
      rw [hf]
      simp only [Option.isSome_some, if_true]
      unfold findT at hf ⊢
      rw [List.find?_map]
      have : ((fun p : D × D => decide (p.1.key = some (nkD (.tup [.str r, e])))) ∘ fun p : D × D => if p.1.key = some (nkD (.tup [.str r, e])) then (p.1, someD r e) else p) = fun p : D × D => decide (p.1.key = some (nkD (.tup [.str r, e]))) := by
        funext p
        simp only [Function.comp]
        split <;> rfl
      rw [this]
      cases hq : kvs.find? fun p : D × D => decide (p.1.key = some (nkD (.tup [.str r, e]))) with
      | none => rw [hq] at hf; cases hf
      | some p =>
        have hp := List.find?_some hq
        have hp : p.1.key = some (nkD (.tup [.str r, e])) := of_decide_eq_true hp
        simp only [Option.map_some]
        rw [if_pos hp]
  refine ⟨fun r2 e2 h2 => ?_⟩
  by_cases hz : nkD (.tup [.str r2, e2]) = nkD (.tup [.str r, e])
  · obtain ⟨rfl, rfl⟩ := inj r2 e2 h2 hz
    exact .inl ⟨by simp, same⟩
  · rw [other _ hz]
    have hne : someD r2 e2 ≠ someD r e := fun z => by
      obtain ⟨rfl, rfl⟩ := someD_inj z
      exact hz rfl
    rcases h.at_ r2 e2 h2 with ⟨q1, q2⟩ | ⟨q1, q2⟩
    · exact .inl ⟨List.mem_append_left _ q1, q2⟩
    · exact .inr ⟨fun z => (List.mem_append.mp z).elim q1 fun w => hne (List.mem_singleton.mp w), q2⟩
theorem somes_skip {ks : List D} {kvs : List (D × D)} {k : D} (h : SomesOk ks kvs) (hk : ∀ r e, k ≠ someD r e) : SomesOk (ks ++ [k]) kvs := ⟨fun r2 e2 h2 => by
  rcases h.at_ r2 e2 h2 with ⟨q1, q2⟩ | ⟨q1, q2⟩
  · exact .inl ⟨List.mem_append_left _ q1, q2⟩
  · exact .inr ⟨fun z => (List.mem_append.mp z).elim q1 fun w => hk _ _ (List.mem_singleton.mp w).symm, q2⟩⟩
end KD
set_option Elab.async false
set_option linter.all false
set_option maxRecDepth 100000
set_option maxHeartbeats 4000000
/-! The book's tables, as they are made. -/
namespace KD
open PySem PySem.Spec PyProof.Rows L2 Evl
theorem mRo_snoc {bk : List (Say × Nat)} {a b : Str} {i : Nat} : mRo (bk ++ [(.role a b, i)]) = upM (mRo bk) (.text a) (mRo bk (.text a) ++ [.tup [.int (i : Nat), .str b]]) := by
  funext k
  unfold mRo upM
  rw [List.filterMap_append]
  by_cases h : k = .text a
  · subst h; simp
  · simp [h, Ne.symm h, eq_comm]
theorem mFi_role {bk : List (Say × Nat)} {a b : Str} {i : Nat} : mFi (bk ++ [(.role a b, i)]) = mFi bk := by
  funext k
  unfold mFi
  rw [List.filterMap_append]
  simp
theorem mSe_role {bk : List (Say × Nat)} {a b : Str} {i : Nat} : mSe (bk ++ [(.role a b, i)]) = mSe bk := by
  funext k
  unfold mSe
  rw [List.filterMap_append]
  simp
theorem mRo_chain {bk : List (Say × Nat)} {a b c : Str} {i : Nat} : mRo (bk ++ [(.chain a b c, i)]) = mRo bk := by
  funext k
  unfold mRo
  rw [List.filterMap_append]
  simp
theorem mFi_snoc {bk : List (Say × Nat)} {a b c : Str} {i : Nat} : mFi (bk ++ [(.chain a b c, i)]) = upM (mFi bk) (.text a) (mFi bk (.text a) ++ [.tup [.int (i : Nat), .str b, .str c]]) := by
  funext k
  unfold mFi upM
  rw [List.filterMap_append]
  by_cases h : k = .text a
  · subst h; simp
  · simp [h, Ne.symm h, eq_comm]
theorem mSe_snoc {bk : List (Say × Nat)} {a b c : Str} {i : Nat} : mSe (bk ++ [(.chain a b c, i)]) = upM (mSe bk) (.text b) (mSe bk (.text b) ++ [.tup [.int (i : Nat), .str a, .str c]]) := by
  funext k
  unfold mSe upM
  rw [List.filterMap_append]
  by_cases h : k = .text b
  · subst h; simp
  · simp [h, Ne.symm h, eq_comm]
theorem mRo_len {bk : List (Say × Nat)} {k : NestedKey} : (mRo bk k).length ≤ bk.length := List.length_filterMap_le _ _
theorem mFi_len {bk : List (Say × Nat)} {k : NestedKey} : (mFi bk k).length ≤ bk.length := List.length_filterMap_le _ _
theorem mSe_len {bk : List (Say × Nat)} {k : NestedKey} : (mSe bk k).length ≤ bk.length := List.length_filterMap_le _ _
structure TabS (tag : Tag) (S00 : DS) (ads : List Addr) (a10 a11 a12 : Addr) (n10 n11 n12 : Nat) (m10 m11 m12 : Map) (S : DS) : Prop where
  un : ∀ a ∈ ads, tag a = none
  th : ∀ b q, tag b = some q → S b ≠ none
  ft : ∀ b q, tag b = some q → S00 b = none
  i10 : a10 ∈ ads
  i11 : a11 ∈ ads
  i12 : a12 ∈ ads
  n1 : a10 ≠ a11
  n2 : a10 ≠ a12
  n3 : a11 ≠ a12
  t10 : TabOk tag 10 S a10 n10 m10
  t11 : TabOk tag 11 S a11 n11 m11
  t12 : TabOk tag 12 S a12 n12 m12
  c10 : ∀ c, S a10 = some c → ∀ x, ckey c (.str x) = some (.text x)
  c11 : ∀ c, S a11 = some c → ∀ x, ckey c (.str x) = some (.text x)
  c12 : ∀ c, S a12 = some c → ∀ x, ckey c (.str x) = some (.text x)
section
variable {tag tag' : Tag} {S00 S S' : DS} {ads : List Addr} {a10 a11 a12 ad : Addr} {n10 n11 n12 t : Nat} {m10 m11 m12 m : Map} {k : NestedKey} {C : Addr} {sf : Addr} {fs : List (Str × D)} {own : List (Addr × Option Cell)}
theorem KeyAs.goS {ad : Addr} (k : KeyAs S S' ad) (h : ∀ c, S ad = some c → ∀ x, ckey c (.str x) = some (.text x)) : ∀ c, S' ad = some c → ∀ x, ckey c (.str x) = some (.text x) := fun c hc d => by
  obtain ⟨c2, h2, h3⟩ := k c hc
  rw [h3]
  exact h c2 h2 d
theorem keep_un (kp : Keep tag t k ad S S' tag') (h : ∀ a ∈ ads, tag a = none) (ex : ∀ a ∈ ads, S a ≠ none) : ∀ a ∈ ads, tag' a = none := fun a ha => by
  cases e : tag' a with
  | none => rfl
  | some q =>
    rcases kp.news a q e with z | z
    · rw [h a ha] at z; cases z
    · exact absurd z.1 (ex a ha)
theorem keep_ft (kp : Keep tag t k ad S S' tag') (le : Le S00 S) (h : ∀ b q, tag b = some q → S00 b = none) : ∀ b q, tag' b = some q → S00 b = none := fun b q e => by
  rcases kp.news b q e with z | z
  · exact h b q z
  · cases e2 : S00 b with
    | none => rfl
    | some c => rw [le b c e2] at z; cases z.1
theorem TabS.keep10 (h : TabS tag S00 ads a10 a11 a12 n10 n11 n12 m10 m11 m12 S) (le : Le S00 S) (ex : ∀ a ∈ ads, S a ≠ none) (kp : Keep tag 10 k a10 S S' tag') (ka : KeyAs S S' a10) (tk : TabOk tag' 10 S' a10 (n10 + 1) m) : TabS tag' S00 ads a10 a11 a12 (n10 + 1) n11 n12 m m11 m12 S' :=
  ⟨keep_un kp h.un ex, kp.there, keep_ft kp le h.ft, h.i10, h.i11, h.i12, h.n1, h.n2, h.n3, tk, h.t11.keep kp (Ne.symm h.n1) (h.un _ h.i11) (h.un _ h.i10) (by decide), h.t12.keep kp (Ne.symm h.n2) (h.un _ h.i12) (h.un _ h.i10) (by decide),
   ka.goS h.c10, kp.keyS (Ne.symm h.n1) (h.un _ h.i11) h.t11.cell h.c11, kp.keyS (Ne.symm h.n2) (h.un _ h.i12) h.t12.cell h.c12⟩
theorem TabS.keep11 (h : TabS tag S00 ads a10 a11 a12 n10 n11 n12 m10 m11 m12 S) (le : Le S00 S) (ex : ∀ a ∈ ads, S a ≠ none) (kp : Keep tag 11 k a11 S S' tag') (ka : KeyAs S S' a11) (tk : TabOk tag' 11 S' a11 (n11 + 1) m) : TabS tag' S00 ads a10 a11 a12 n10 (n11 + 1) n12 m10 m m12 S' :=
  ⟨keep_un kp h.un ex, kp.there, keep_ft kp le h.ft, h.i10, h.i11, h.i12, h.n1, h.n2, h.n3, h.t10.keep kp h.n1 (h.un _ h.i10) (h.un _ h.i11) (by decide), tk, h.t12.keep kp (Ne.symm h.n3) (h.un _ h.i12) (h.un _ h.i11) (by decide),
   kp.keyS h.n1 (h.un _ h.i10) h.t10.cell h.c10, ka.goS h.c11, kp.keyS (Ne.symm h.n3) (h.un _ h.i12) h.t12.cell h.c12⟩
theorem TabS.keep12 (h : TabS tag S00 ads a10 a11 a12 n10 n11 n12 m10 m11 m12 S) (le : Le S00 S) (ex : ∀ a ∈ ads, S a ≠ none) (kp : Keep tag 12 k a12 S S' tag') (ka : KeyAs S S' a12) (tk : TabOk tag' 12 S' a12 (n12 + 1) m) : TabS tag' S00 ads a10 a11 a12 n10 n11 (n12 + 1) m10 m11 m S' :=
  ⟨keep_un kp h.un ex, kp.there, keep_ft kp le h.ft, h.i10, h.i11, h.i12, h.n1, h.n2, h.n3, h.t10.keep kp h.n2 (h.un _ h.i10) (h.un _ h.i12) (by decide), h.t11.keep kp h.n3 (h.un _ h.i11) (h.un _ h.i12) (by decide), tk,
   kp.keyS h.n2 (h.un _ h.i10) h.t10.cell h.c10, kp.keyS h.n3 (h.un _ h.i11) h.t11.cell h.c11, ka.goS h.c12⟩
theorem Ini.keep (h : Ini C S00 sf fs own S) (kp : Keep tag t k ad S S' tag') (hm : (ad, none) ∈ own) (hsf : tag sf = none) (ht : ∀ p ∈ own, tag p.1 = none) (hft : ∀ b q, tag b = some q → S00 b = none) (he : S' ad ≠ none) : Ini C S00 sf fs own S' := by
  have hne : ∀ p ∈ own, p.2 ≠ none → p.1 ≠ ad := fun p hp h2 z => by
    have hinj : ∀ {l : List (Addr × Option Cell)}, (l.map (·.1)).Nodup → ∀ {p q}, p ∈ l → q ∈ l → p.1 = q.1 → p = q := by
      intro l
      induction l with
      | nil => intro _ p q hp; cases hp
      | cons x l ih =>
        intro hn p q hp hq e
        rw [List.map_cons, List.nodup_cons] at hn
        rcases List.mem_cons.mp hp with hp1 | hp1
        · rcases List.mem_cons.mp hq with hq1 | hq1
          · rw [hp1, hq1]
          · exact absurd (by rw [← hp1, e]; exact List.mem_map_of_mem hq1) hn.1
        · rcases List.mem_cons.mp hq with hq1 | hq1
          · exact absurd (by rw [← hq1, ← e]; exact List.mem_map_of_mem hp1) hn.1
          · exact ih hn.2 hp1 hq1 e
    have := hinj h.nd hp hm z
    rw [this] at h2
    exact h2 rfl
  refine ⟨kp.here h.self (Ne.symm (h.owns _ hm).2.2.2) hsf, h.s0, fun p hp => ?_, h.nd, fun b c e => ?_⟩
  · obtain ⟨q1, q2, q3, q4⟩ := h.owns p hp
    refine ⟨fun c e => kp.here (q1 c e) (hne p hp (by rw [e]; exact fun z => nomatch z)) (ht p hp), ?_, q3, q4⟩
    by_cases z : p.1 = ad
    · rw [z]; exact he
    · obtain ⟨c, hc⟩ := Option.ne_none_iff_exists'.mp q2
      rw [kp.here hc z (ht p hp)]
      exact fun z => nomatch z
  · exact kp.cell b c (h.le b c e) (fun z => by rw [z, (h.owns _ hm).2.2.1] at e; cases e) fun z => by rw [hft b _ z] at e; cases e
theorem Ini.weak3 {a b d : Addr} {ca cb cd : Option Cell} (h : Ini C S00 sf fs (((own ++ [(a, ca)]) ++ [(b, cb)]) ++ [(d, cd)]) S) : Ini C S00 sf fs (own ++ [(a, none), (b, none), (d, none)]) S := by
  refine ⟨h.self, h.s0, fun p hp => ?_, ?_, h.le⟩
  · rcases List.mem_append.mp hp with hp | hp
    · exact h.owns p (by simp [hp])
    · simp only [List.mem_cons, List.not_mem_nil, or_false] at hp
      rcases hp with rfl | rfl | rfl
      · exact ⟨fun c e => (nomatch e), (h.owns (a, ca) (by simp)).2⟩
      · exact ⟨fun c e => (nomatch e), (h.owns (b, cb) (by simp)).2⟩
      · exact ⟨fun c e => (nomatch e), (h.owns (d, cd) (by simp)).2⟩
  · have := h.nd
    simpa using this
end
def adsOf (sf : Addr) (own : List (Addr × Option Cell)) : List Addr := sf :: own.map (·.1)
def dspIdxS (C : Addr) : DSp := fun ds S Q => ∃ S00 sf fs own, ∃ book : List Say, ds = [.ref sf, .tup (book.map Say.d)] ∧ Ini C S00 sf fs own S ∧ fs.length < 900 ∧ book.length ≤ 1000 ∧
  ∀ a9 a10 a11 a12 tag S', Ini C S00 sf (putFD "seconds" (.ref a12) (putFD "firsts" (.ref a11) (putFD "roles" (.ref a10) (putFD "sayings" (.ref a9) fs)))) ((own ++ [(a9, some (.dT []))]) ++ [(a10, none), (a11, none), (a12, none)]) S' →
    TabS tag S00 (adsOf sf ((own ++ [(a9, some (.dT []))]) ++ [(a10, none), (a11, none), (a12, none)])) a10 a11 a12 1000 1000 1000 (mRo book.zipIdx) (mFi book.zipIdx) (mSe book.zipIdx) S' → Q .non S'
theorem ads_there {C : Addr} {S00 S : DS} {sf : Addr} {fs : List (Str × D)} {own : List (Addr × Option Cell)} (h : Ini C S00 sf fs own S) : ∀ a ∈ adsOf sf own, S a ≠ none := fun a ha => by
  rcases List.mem_cons.mp ha with rfl | ha
  · rw [h.self]; exact fun z => nomatch z
  · obtain ⟨p, hp, rfl⟩ := List.mem_map.mp ha
    exact (h.owns p hp).2.1
theorem TabS.up {tag : Tag} {S00 S : DS} {ads : List Addr} {a10 a11 a12 : Addr} {n10 n11 n12 k10 k11 k12 : Nat} {m10 m11 m12 : Map} (h : TabS tag S00 ads a10 a11 a12 n10 n11 n12 m10 m11 m12 S) (l1 : n10 ≤ k10) (l2 : n11 ≤ k11) (l3 : n12 ≤ k12) : TabS tag S00 ads a10 a11 a12 k10 k11 k12 m10 m11 m12 S :=
  ⟨h.un, h.th, h.ft, h.i10, h.i11, h.i12, h.n1, h.n2, h.n3, h.t10.mono l1, h.t11.mono l2, h.t12.mono l3, h.c10, h.c11, h.c12⟩
end KD
set_option Elab.async false
set_option linter.all false
set_option maxRecDepth 100000
set_option maxHeartbeats 4000000
/-! What a saturation begins with; what it is asked. -/
namespace KD
open PySem PySem.Spec PyProof.Rows L2 Evl
inductive Fa where
  | is (x : Str) (k : D)
  | to (x r y : Str)
def Fa.d : Fa → D
  | .is x k => .tup [.str "is", .str x, k]
  | .to x r y => .tup [.str "to", .str x, .str r, .str y]
def psn (x : Str) : D := .tup [.str "person", .str x]
def Fa.c : Fa → Cn
  | .is x k => .bel (psn x) k
  | .to x r y => .lnk (psn x) r (psn y)
def begL (kinds : List D) (ps : List Str) (fs : List Fa) : List Cn := (kinds.flatMap (fun k => [Cn.bel k k, .bel k anyD]) ++ ps.map fun p => Cn.bel (psn p) anyD) ++ fs.map Fa.c
def dspBegin (C : Addr) : DSp := fun ds S Q => ∃ (A : Ads) (B : Wo), ∃ facts : List Fa, ∃ ps : List Str, ds = [.ref A.sf, .tup (facts.map Fa.d)] ∧ A.kinds = B.kinds ∧ A.persons = ps.map .str ∧ (∀ x ∈ facts, wfF 9 x.d = true) ∧ AgSt C A B.U [] [] S ∧ (∀ c ∈ begL B.kinds ps facts, c.d ∈ B.U) ∧
  ∀ kvs wt, Offd ((begL B.kinds ps facts).map Cn.d) [] [] kvs wt → AgOk B.U kvs wt → Q .non (agS S A.a1 A.a3 kvs wt)
theorem enum_mem {l : List D} {d : D} (h : d ∈ enumD l) : ∃ i : Nat, ∃ x, d = .tup [.int i, x] ∧ x ∈ l := by
  unfold enumD at h
  obtain ⟨⟨x, i⟩, h1, rfl⟩ := List.mem_map.mp h
  exact ⟨i, x, rfl, by obtain ⟨_, _, e⟩ := List.mem_zipIdx h1; rw [e]; exact List.getElem_mem _⟩
theorem enum_flat {o : D → List D} : ∀ {l : List D} {n : Nat}, (l.zipIdx n).flatMap (fun p => o p.1) = l.flatMap o
  | [], _ => rfl
  | x :: l, n => by rw [List.zipIdx_cons, List.flatMap_cons, List.flatMap_cons, enum_flat]
theorem mth_go {C : Addr} {m : Str} {n : Nat} {f : DS → List D → Option D} {α : EF} {η : FA} {ρ : Rho} {S : DS} {ad : Addr} {fs : List (Str × D)} {ds : List D} (h1 : α ρ S = some (.ref ad)) (h2 : S ad = some (.ins C fs)) (h3 : fs.lookup m = none) (h4 : η ρ S = some ds) (h5 : ds.length + 1 = n) :
    dMth C m n f α η ρ S = f S (.ref ad :: ds) := by
  unfold dMth
  rw [h1]
  simp only [Option.bind_some, h2, h3, h4, h5, and_self, if_true]
theorem tb_go {ε : EF} {ρ : Rho} {S : DS} {b : Bool} (h : ε ρ S = some (.bl b)) : tb ε ρ S = some b := by
  unfold tb
  rw [h]
  rfl
/-- whether a conclusion of kinds is told -/
def belF (C : Addr) : DF := fun S ds => dDin false (dTup (aCons (dC (.str "below")) (aCons (dVar 1) (aCons (dVar 2) aNil)))) (dFld C "steps" (dVar 0)) (ds.map some) S
structure NoVoid (C sf : Addr) (S : DS) : Prop where
  ex : ∃ (fs : List (Str × D)) (ps : List Str) (a1 : Addr) (kvs : List (D × D)), S sf = some (.ins C fs) ∧ fs.lookup ("persons" : Str) = some (.tup (ps.map .str)) ∧ fs.lookup ("is_below" : Str) = none ∧ fs.lookup ("void_subject" : Str) = none ∧ ps.length ≤ 1000 ∧ fs.lookup ("steps" : Str) = some (.ref a1) ∧ S a1 = some (.dT kvs) ∧
    ∀ s ∈ anyD :: ps.map psn, ∃ k, (D.tup [.str "below", s, noneD]).key = some k ∧ findT k kvs = none
noncomputable def voidF (C : Addr) : DF := fun S ds => @ite _ (∃ sf, ds = [.ref sf] ∧ NoVoid C sf S) (Classical.propDecidable _) (some .non) none
noncomputable def isVoidF (C : Addr) : DF := fun S ds => @ite _ (∃ sf, ds = [.ref sf] ∧ NoVoid C sf S) (Classical.propDecidable _) (some (.bl false)) none
theorem voidF_open {C : Addr} {S : DS} {ds : List D} {d : D} (h : voidF C S ds = some d) : d = .non ∧ ∃ sf, ds = [.ref sf] ∧ NoVoid C sf S := by
  unfold voidF at h
  split at h
  · next hv => cases h; exact ⟨rfl, hv⟩
  · cases h
theorem isVoidF_open {C : Addr} {S : DS} {ds : List D} {d : D} (h : isVoidF C S ds = some d) : d = .bl false ∧ ∃ sf, ds = [.ref sf] ∧ NoVoid C sf S := by
  unfold isVoidF at h
  split at h
  · next hv => cases h; exact ⟨rfl, hv⟩
  · cases h
theorem voidF_go {C sf : Addr} {S : DS} (h : NoVoid C sf S) : voidF C S [.ref sf] = some .non := if_pos ⟨sf, rfl, h⟩
theorem isVoidF_go {C sf : Addr} {S : DS} (h : NoVoid C sf S) : isVoidF C S [.ref sf] = some (.bl false) := if_pos ⟨sf, rfl, h⟩
theorem NoVoid.le {C sf : Addr} {S S' : DS} (h : NoVoid C sf S) (l : Le S S') : NoVoid C sf S' := by
  obtain ⟨fs, ps, a1, kvs, h1, h2, h3, h3b, h4, h5, h6, h7⟩ := h.ex
  exact ⟨fs, ps, a1, kvs, l _ _ h1, h2, h3, h3b, h4, h5, l _ _ h6, h7⟩
theorem NoVoid.bel {C sf : Addr} {S : DS} (h : NoVoid C sf S) : ∃ (fs : List (Str × D)) (ps : List Str), S sf = some (.ins C fs) ∧ fs.lookup ("persons" : Str) = some (.tup (ps.map .str)) ∧ fs.lookup ("is_below" : Str) = none ∧ fs.lookup ("void_subject" : Str) = none ∧ ps.length ≤ 1000 ∧
    ∀ s ∈ anyD :: ps.map psn, ∀ S', Le S S' → belF C S' [.ref sf, s, noneD] = some (.bl false) := by
  obtain ⟨fs, ps, a1, kvs, h1, h2, h3, h3b, h4, h5, h6, h7⟩ := h.ex
  refine ⟨fs, ps, h1, h2, h3, h3b, h4, fun s hs S' l => ?_⟩
  obtain ⟨k, hk, hf⟩ := h7 s hs
  unfold belF dDin
  rw [tup_go (ds := [.str "below", s, noneD]) (acons_go rfl (acons_go rfl (acons_go rfl rfl))), fld_go rfl (l _ _ h1) h5]
  simp only [Option.bind_some, getD_T (l _ _ h6) hk, Option.map_some, hf]
  rfl
end KD
set_option Elab.async false
set_option linter.all false
set_option maxRecDepth 100000
set_option maxHeartbeats 4000000
/-! The saturation's run. -/
namespace KD
open PySem PySem.Spec PyProof.Rows L2 Evl
theorem Con.mono {book : List Say} {kinds : List D} {M M' : Cn → Prop} (i : ∀ c, M c → M' c) {c : Cn} (h : Con book kinds M c) : Con book kinds M' c := by
  cases h with
  | role h1 h2 => exact .role h1 (i _ h2)
  | chain h1 h2 h3 => exact .chain h1 (i _ h2) (i _ h3)
  | opn h1 => exact .opn (i _ h1)
  | close h1 h2 h3 => exact .close h1 (i _ h2) (i _ h3)
  | empty h1 h2 => exact .empty (i _ h1) (i _ h2)
  | nothing h1 h2 => exact .nothing (i _ h1) h2
theorem pick {p : Cn → Prop} : ∀ {ds : List D}, (∀ d ∈ ds, ∃ c, d = Cn.d c ∧ p c) → ∃ cs : List Cn, ds = cs.map Cn.d ∧ ∀ c ∈ cs, p c
  | [], _ => ⟨[], rfl, fun _ h => (nomatch h)⟩
  | d :: ds, h => by
    obtain ⟨c, hc, hp⟩ := h d List.mem_cons_self
    obtain ⟨cs, e, hq⟩ := pick (ds := ds) fun x hx => h x (List.mem_cons_of_mem _ hx)
    refine ⟨c :: cs, by rw [hc, e]; rfl, fun x hx => ?_⟩
    rcases List.mem_cons.mp hx with rfl | hx
    · exact hp
    · exact hq x hx
structure Run (B : Wo) (init pr wl : List Cn) (kvs : List (D × D)) : Prop where
  perm : (keysD kvs).Perm ((pr ++ wl).map Cn.d)
  un : ∀ c ∈ pr ++ wl, B.Un c
  snd : ∀ T : Cn → Prop, (∀ c ∈ init, T c) → (∀ c, B.Con T c → T c) → ∀ c ∈ pr ++ wl, T c
  cmp : ∀ c, B.Con (· ∈ pr) c → c.d ∈ keysD kvs
  beg : ∀ c ∈ init, c.d ∈ keysD kvs
section
variable {B : Wo} {init pr wl : List Cn} {c : Cn} {kvs kvs' : List (D × D)} {wt' cs : List D}
theorem Run.start (hu : ∀ c ∈ init, B.Un c) (h : Offd (init.map Cn.d) [] [] kvs' wt') : ∃ wl, wt' = wl.map Cn.d ∧ Run B init [] wl kvs' := by
  obtain ⟨new, a1, a2, a3, a4, a5⟩ := h.ex
  obtain ⟨wl, e, hp⟩ := pick (p := (· ∈ init)) (ds := new) fun d hd => by
    obtain ⟨x, hx, rfl⟩ := List.mem_map.mp (a4 d hd).1
    exact ⟨x, rfl, hx⟩
  refine ⟨wl, by rw [a2, e]; rfl, ?_, fun c hc => hu c (hp c hc), fun T h1 _ c hc => h1 c (hp c hc), fun c hc => ?_, fun c hc => a5 _ (List.mem_map_of_mem hc)⟩
  · rw [a1, e]
    exact List.Perm.refl _
  · cases hc with
    | role _ h2 => cases h2
    | chain _ h2 _ => cases h2
    | opn h1 => cases h1
    | close _ h2 _ => cases h2
    | empty h1 _ => cases h1
    | nothing h1 _ => cases h1
theorem Run.step (hw : WoOk B) (h : Run B init pr (wl ++ [c]) kvs) (ho : Offd cs kvs (wl.map Cn.d) kvs' wt') (hs : ∀ d ∈ cs, ∃ x, d = Cn.d x ∧ B.Con (· ∈ pr ++ [c]) x) (hc : ∀ x, B.Con (· ∈ pr ++ [c]) x → B.Con (· ∈ pr) x ∨ x.d ∈ cs) :
    ∃ wl', wt' = wl'.map Cn.d ∧ Run B init (pr ++ [c]) wl' kvs' := by
  obtain ⟨new, a1, a2, a3, a4, a5⟩ := ho.ex
  obtain ⟨nw, e, hp⟩ := pick (ds := new) fun d hd => hs d (a4 d hd).1
  have hsub : ∀ x ∈ pr ++ [c], x ∈ pr ++ (wl ++ [c]) := fun x hx => by
    rcases List.mem_append.mp hx with z | z
    · exact List.mem_append_left _ z
    · exact List.mem_append_right _ (List.mem_append_right _ z)
  have hsplit : ∀ x, x ∈ (pr ++ [c]) ++ (wl ++ nw) → x ∈ pr ++ (wl ++ [c]) ∨ x ∈ nw := fun x hx => by
    simp only [List.mem_append, List.mem_singleton] at hx ⊢
    rcases hx with (z | z) | (z | z)
    · exact .inl (.inl z)
    · exact .inl (.inr (.inr z))
    · exact .inl (.inr (.inl z))
    · exact .inr z
  refine ⟨wl ++ nw, by rw [a2, e, List.map_append], ?_, fun x hx => ?_, fun T h1 h2 x hx => ?_, fun x hx => ?_, fun x hx => ?_⟩
  · rw [a1, e]
    have p1 : (pr ++ (wl ++ [c])).Perm ((pr ++ [c]) ++ wl) := by
      rw [List.append_assoc]
      exact List.Perm.append_left _ List.perm_append_comm
    have p2 := (h.perm.trans (p1.map Cn.d)).append_right (nw.map Cn.d)
    refine p2.trans ?_
    rw [← List.map_append, List.append_assoc]
  · rcases hsplit x hx with z | z
    · exact h.un x z
    · exact hw.cl x (Con.mono (fun y hy => h.un y (hsub y hy)) (hp x z))
  · have hT := h.snd T h1 h2
    rcases hsplit x hx with z | z
    · exact hT x z
    · exact h2 x (Con.mono (fun y hy => hT y (hsub y hy)) (hp x z))
  · rcases hc x hx with z | z
    · rw [a1]
      exact List.mem_append_left _ (h.cmp x z)
    · exact a5 _ z
  · rw [a1]
    exact List.mem_append_left _ (h.beg x hx)
theorem Run.len (h : Run B init pr wl kvs) : pr.length + wl.length = kvs.length := by
  have := h.perm.length_eq
  simp only [List.length_map, List.length_append] at this
  omega
end
/-- what a saturation is, once made -/
structure Done (C : Addr) (A : Ads) (B : Wo) (S00 : DS) (init : List Cn) (S : DS) : Prop where
  ex : ∃ tag pr kvs, AgSt C A B.U kvs [] S ∧ Sta A B S00 tag pr S ∧ (∀ c : Cn, c ∈ pr ↔ c.d ∈ keysD kvs) ∧ (∀ c ∈ init, c ∈ pr) ∧ (∀ c, B.Con (· ∈ pr) c → c ∈ pr) ∧ (∀ c ∈ pr, B.Un c) ∧ pr.length ≤ 100000 ∧ ∀ T : Cn → Prop, (∀ c ∈ init, T c) → (∀ c, B.Con T c → T c) → ∀ c ∈ pr, T c
theorem Run.done {C : Addr} {A : Ads} {B : Wo} {S00 S : DS} {init pr : List Cn} {kvs : List (D × D)} {tag : Tag} (h : Run B init pr [] kvs) (ha : AgSt C A B.U kvs [] S) (hs : Sta A B S00 tag pr S) : Done C A B S00 init S := by
  have hm : ∀ c : Cn, c ∈ pr ↔ c.d ∈ keysD kvs := fun c => by
    rw [h.perm.mem_iff, List.append_nil]
    constructor
    · exact fun z => List.mem_map_of_mem z
    · intro z
      obtain ⟨x, hx, e⟩ := List.mem_map.mp z
      rw [← Cn.d_inj e]
      exact hx
  exact ⟨tag, pr, kvs, ha, hs, hm, fun c hc => (hm c).mpr (h.beg c hc), fun c hc => (hm c).mpr (h.cmp c hc), fun c hc => h.un c (by rw [List.append_nil]; exact hc), (by have := h.len; have := ha.ag.len; simp at *; omega), fun T h1 h2 c hc => h.snd T h1 h2 c (by rw [List.append_nil]; exact hc)⟩
/-- the promise of a saturation -/
def dspSat (C : Addr) : DSp := fun ds S Q => ∃ S00 sf, ∃ book : List Say, ∃ facts : List Fa, ∃ kl, ∃ B : Wo, ds = [.ref sf, .tup (book.map Say.d), .tup (facts.map Fa.d), .tup kl, .bl false] ∧ S sf = some (.ins C []) ∧ S00 sf = none ∧ Le S00 S ∧ AskOk (book.map Say.d) (facts.map Fa.d) kl ∧ WoOk B ∧ B.book = book.zipIdx ∧
  B.kinds = sortD (askedD (book.map Say.d) (facts.map Fa.d) kl) ∧ (∀ k ∈ B.kinds, KiOk k) ∧ B.kinds.length ≤ 100000 ∧ wfFs 9 (.tup (facts.map Fa.d)) = true ∧ (∀ c ∈ begL B.kinds (sortS (perS (facts.map Fa.d))) facts, B.Un c) ∧
  ∀ A S', A.sf = sf → A.kinds = B.kinds → A.persons = perD (facts.map Fa.d) → Done C A B S00 (begL B.kinds (sortS (perS (facts.map Fa.d))) facts) S' → Q .non S'
/-! fields, one after the other -/
structure In2 (C : Addr) (S00 : DS) (sf : Addr) (fs : List (Str × D)) (own : List (Addr × Option Cell)) (n : Nat) (S : DS) : Prop where
  i : Ini C S00 sf fs own S
  l : fs.length ≤ n
section
variable {C : Addr} {S00 S : DS} {sf : Addr} {fs : List (Str × D)} {own : List (Addr × Option Cell)} {f : Str} {d : D} {α ε : EF} {ρ : Rho} {E : DEnds} {n : Nat}
theorem put_l (h : In2 C S00 sf fs own n S) {v : D} : (putFD f v fs).length ≤ n + 1 := Nat.le_trans putFD_len (Nat.succ_le_succ h.l)
theorem gput_e (h : In2 C S00 sf fs own n S) (ha : ∀ S, α ρ S = some (.ref sf)) (he : ε ρ S = some d) (q : ∀ S', In2 C S00 sf (putFD f d fs) own (n + 1) S' → E.nx ρ S') (hn : n < 900 := by decide) : dFldPut C f α (fE ε) E ρ S :=
  fput_e h.i (by have := h.l; omega) ha he fun S' h' => q S' ⟨h', put_l h⟩
theorem gput_T (h : In2 C S00 sf fs own n S) (ha : ∀ S, α ρ S = some (.ref sf)) (q : ∀ p S', In2 C S00 sf (putFD f (.ref p) fs) (own ++ [(p, some (.dT []))]) (n + 1) S' → E.nx ρ S') (hn : n < 900 := by decide) : dFldPut C f α dNewT E ρ S :=
  fput_T h.i (by have := h.l; omega) ha fun p S' h' => q p S' ⟨h', put_l h⟩
theorem gput_L (h : In2 C S00 sf fs own n S) (ha : ∀ S, α ρ S = some (.ref sf)) (q : ∀ p S', In2 C S00 sf (putFD f (.ref p) fs) (own ++ [(p, some (.lst []))]) (n + 1) S' → E.nx ρ S') (hn : n < 900 := by decide) : dFldPut C f α (asCell fun ρ S R => fA aNil ρ S fun ds S1 => ds.length ≤ 1000 ∧ R ds S1) E ρ S :=
  fput_L h.i (by have := h.l; omega) ha fun p S' h' => q p S' ⟨h', put_l h⟩
end
end KD
set_option Elab.async false
set_option linter.all false
set_option maxRecDepth 100000
set_option maxHeartbeats 4000000
/-! What a saturation answers. -/
namespace KD
open PySem PySem.Spec PyProof.Rows L2 Evl
structure SatOk (B : Wo) (book : List Say) (facts : List Fa) (kl : List D) : Prop where
  ask : AskOk (book.map Say.d) (facts.map Fa.d) kl
  wo : WoOk B
  bk : B.book = book.zipIdx
  kd : B.kinds = sortD (askedD (book.map Say.d) (facts.map Fa.d) kl)
  ki : ∀ k ∈ B.kinds, KiOk k
  few : B.kinds.length ≤ 100000
  wf : wfFs 9 (.tup (facts.map Fa.d)) = true
  un : ∀ c ∈ begL B.kinds (sortS (perS (facts.map Fa.d))) facts, B.Un c
/-- the persons -/
def psS (facts : List Fa) : List Str := sortS (perS (facts.map Fa.d))
theorem perD_eq (facts : List Fa) : perD (facts.map Fa.d) = (psS facts).map .str := rfl
/-- the least that is closed -/
structure Least (B : Wo) (init : List Cn) (pr : Cn → Prop) : Prop where
  beg : ∀ c ∈ init, pr c
  cl : ∀ c, B.Con pr c → pr c
  un : ∀ c, pr c → B.Un c
  ind : ∀ T : Cn → Prop, (∀ c ∈ init, T c) → (∀ c, B.Con T c → T c) → ∀ c, pr c → T c
theorem Least.same {B : Wo} {init : List Cn} {p q : Cn → Prop} (h : Least B init p) (k : Least B init q) : ∀ c, p c ↔ q c := fun c => ⟨h.ind q k.beg k.cl c, k.ind p h.beg h.cl c⟩
def dspSatd (C : Addr) : DSp := fun ds S Q => ∃ book facts kl B, ds = [.tup (book.map Say.d), .tup (facts.map Fa.d), .tup kl] ∧ SatOk B book facts kl ∧
  ∀ A S', S A.sf = none → A.kinds = B.kinds → A.persons = (psS facts).map .str → Done C A B S (begL B.kinds (psS facts) facts) S' → Q (.ref A.sf) S'
theorem key3 {x : Str} {s k : D} (hs : TD s = true) (hd : (nkD s).depth ≤ 4) (hk : TD k = true) (hd2 : (nkD k).depth ≤ 4) : KeyOk (.tup [.str x, s, k]) := by
  have ht : TD (.tup [.str x, s, k]) = true := by simp [TD, TDs, hs, hk]
  refine ⟨ht, key_td ht ?_⟩
  rw [nkD_tup ht]
  simp only [List.map_cons, List.map_nil, NestedKey.depth, NestedKey.depthAll]
  have : (nkD (D.str x)).depth = 0 ∨ (nkD (D.str x)).depth = 1 := by
    show (NestedKey.depth (.text x)) = 0 ∨ (NestedKey.depth (.text x)) = 1
    simp [NestedKey.depth]
  omega
theorem psn_td (p : Str) : TD (psn p) = true ∧ (nkD (psn p)).depth ≤ 4 := by
  refine ⟨rfl, ?_⟩
  show (NestedKey.depth (.tup [.text "person", .text p])) ≤ 4
  simp [NestedKey.depth, NestedKey.depthAll]
theorem any_td : TD anyD = true ∧ (nkD anyD).depth ≤ 4 := by
  refine ⟨rfl, ?_⟩
  show (NestedKey.depth (.tup [.text "any"])) ≤ 4
  simp [NestedKey.depth, NestedKey.depthAll]
theorem none_td : TD noneD = true ∧ (nkD noneD).depth ≤ 4 := by
  refine ⟨rfl, ?_⟩
  show (NestedKey.depth (.tup [.text "none"])) ≤ 4
  simp [NestedKey.depth, NestedKey.depthAll]
section
variable {C : Addr} {A : Ads} {B : Wo} {S00 S : DS} {init : List Cn}
/-- what is asked of it, told by the least set -/
theorem Done.ans (h : Done C A B S00 init S) : ∃ tag pr kvs, Least B init (· ∈ pr) ∧ AgSt C A B.U kvs [] S ∧ Sta A B S00 tag pr S ∧ (∀ c : Cn, c ∈ pr ↔ c.d ∈ keysD kvs) ∧ pr.length ≤ 100000 := by
  obtain ⟨tag, pr, kvs, ha, hs, hm, hb, hc, hu, hl, hi⟩ := h.ex
  exact ⟨tag, pr, kvs, ⟨hb, hc, hu, hi⟩, ha, hs, hm, hl⟩
/-- whether it is told -/
theorem told_go {kvs : List (D × D)} {pr : List Cn} (ha : AgSt C A B.U kvs [] S) (hm : ∀ c : Cn, c ∈ pr ↔ c.d ∈ keysD kvs) {c : Cn} (hk : KeyOk c.d) : c.d.key = some (nkD c.d) ∧ ((findT (nkD c.d) kvs).isSome = true ↔ c ∈ pr) :=
  ⟨hk.2, (find_key hk fun d hd => ha.ag.u d (ha.ag.sub d hd)).trans (hm c).symm⟩
theorem noVoid_go {kvs : List (D × D)} {pr : List Cn} {facts : List Fa} (ha : AgSt C A B.U kvs [] S) (hm : ∀ c : Cn, c ∈ pr ↔ c.d ∈ keysD kvs) (hp : A.persons = (psS facts).map .str) (hl : (psS facts).length ≤ 1000) (hv : ∀ s ∈ anyD :: (psS facts).map psn, Cn.bel s noneD ∉ pr) : NoVoid C A.sf S := by
  refine ⟨A.fs, psS facts, A.a1, kvs, ha.sf, by rw [← hp]; exact ha.fo.persons, ha.fo.is_below, ha.fo.void_subject, hl, ha.fo.steps, ha.c1, fun s hs => ?_⟩
  have hst : TD s = true ∧ (nkD s).depth ≤ 4 := by
    rcases List.mem_cons.mp hs with rfl | hs
    · exact any_td
    · obtain ⟨p, _, rfl⟩ := List.mem_map.mp hs
      exact psn_td p
  obtain ⟨h1, h2⟩ := told_go ha hm (c := .bel s noneD) (key3 hst.1 hst.2 none_td.1 none_td.2)
  refine ⟨_, h1, ?_⟩
  cases e : findT (nkD (Cn.bel s noneD).d) kvs with
  | none => rfl
  | some v => exact absurd (h2.mp (by rw [e]; rfl)) (hv s hs)
open Classical in
theorem belF_go {kvs : List (D × D)} {pr : List Cn} {S' : DS} {s k : D} (ha : AgSt C A B.U kvs [] S) (hm : ∀ c : Cn, c ∈ pr ↔ c.d ∈ keysD kvs) (l : Le S S') (hk : KeyOk (Cn.bel s k).d) : belF C S' [.ref A.sf, s, k] = some (.bl (decide (Cn.bel s k ∈ pr))) := by
  obtain ⟨h1, h2⟩ := told_go ha hm (c := .bel s k) hk
  unfold belF dDin
  rw [tup_go (ds := [.str "below", s, k]) (acons_go rfl (acons_go rfl (acons_go rfl rfl))), fld_go rfl (l _ _ ha.sf) ha.fo.steps]
  have h1 : (D.tup [.str "below", s, k]).key = some (nkD (Cn.bel s k).d) := h1
  simp only [Option.bind_some, getD_T (l _ _ ha.c1) h1, Option.map_some]
  congr 2
  rw [Bool.eq_iff_iff, decide_eq_true_eq]
  simpa using h2
end
end KD
set_option Elab.async false
set_option linter.all false
set_option maxRecDepth 100000
set_option maxHeartbeats 4000000
/-! linked, members, follows: what is promised. -/
namespace KD
open PySem PySem.Spec PyProof.Rows L2 Evl
abbrev inL (B : Wo) (facts : List Fa) : List Cn := begL B.kinds (psS facts) facts
def NoVd (B : Wo) (facts : List Fa) : Prop := ∀ pr, Least B (inL B facts) pr → ∀ s ∈ anyD :: (psS facts).map psn, ¬ pr (.bel s noneD)
def dspLinked : DSp := fun ds S Q => ∃ book facts x r B, ds = [.tup (book.map Say.d), .tup (facts.map Fa.d), .str x, .str r] ∧ SatOk B book facts [] ∧ wfB 9 (.tup (book.map Say.d)) = true ∧ wfW (.str x) = true ∧ wfW (.str r) = true ∧ x ∈ perS (facts.map Fa.d) ∧ (psS facts).length ≤ 1000 ∧ NoVd B facts ∧
  ∀ keep : Str → Bool, (∀ pr, Least B (inL B facts) pr → ∀ y, keep y = true ↔ pr (.lnk (psn x) r (psn y))) → Q (.tup (((psS facts).filter keep).map .str)) S
def dspMembers : DSp := fun ds S Q => ∃ book facts k B, ds = [.tup (book.map Say.d), .tup (facts.map Fa.d), k] ∧ SatOk B book facts [k] ∧ wfB 9 (.tup (book.map Say.d)) = true ∧ wfK 9 k = true ∧ TD k = true ∧ (nkD k).depth ≤ 4 ∧ (psS facts).length ≤ 1000 ∧ NoVd B facts ∧
  ∀ keep : Str → Bool, (∀ pr, Least B (inL B facts) pr → ∀ y, keep y = true ↔ pr (.bel (psn y) k)) → Q (.tup (((psS facts).filter keep).map .str)) S
theorem tab_val {α β γ : EF} {ρ : Rho} {S : DS} {ad : Addr} {key : D} {tag : Tag} {t n : Nat} {m : Map} {k : NestedKey} (h : TabOk tag t S ad n m) (hk : ∀ c, S ad = some c → ckey c key = some k) (h1 : α ρ S = some (.ref ad)) (h2 : β ρ S = some key) (h3 : γ ρ S = some (.lst [])) :
    ∃ v, dDget2 α β γ ρ S = some v ∧ ∀ S', Le S S' → seqOf S' v = some (m k) := by
  obtain ⟨c, hc, _⟩ := h.ex
  obtain ⟨r, e, hr⟩ := tab_get h hc (hk c hc)
  have e2 : dDget2 α β γ ρ S = some (r.getD (.lst [])) := by
    unfold dDget2
    rw [h1, h2, h3]
    simp only [Option.bind_some, e]
    rfl
  rcases hr with ⟨rfl, hm⟩ | ⟨p, rfl, g1, g2⟩
  · exact ⟨_, e2, fun S' l => by rw [hm]; rfl⟩
  · refine ⟨_, e2, fun S' l => ?_⟩
    simp only [Option.getD_some, seqOf, lstOf, l _ _ g2]
theorem in_go {α β : EF} {ρ : Rho} {S : DS} {x v : D} {ds : List D} {b : Bool} (h1 : α ρ S = some x) (h2 : β ρ S = some v) (h3 : seqOf S v = some ds) (h4 : inD x ds = some b) : dBin gIn α β ρ S = some (.bl b) := by
  unfold dBin gIn
  rw [h1, h2]
  simp only [Option.bind_some, h3, h4, Option.map_some]
theorem psS_mem {facts : List Fa} {x : Str} : x ∈ psS facts ↔ x ∈ perS (facts.map Fa.d) := mem_sortS
theorem least_psn {B : Wo} {facts : List Fa} {pr : Cn → Prop} (h : Least B (inL B facts) pr) (hw : WoOk B) {x : Str} (hx : x ∈ psS facts) : B.P (psn x) := by
  have : pr (.bel (psn x) anyD) := h.beg _ (by simp only [begL, List.mem_append, List.mem_map]; exact .inl (.inr ⟨x, hx, rfl⟩))
  exact (hw.ok _ (h.un _ this)).1
theorem filter_strs {keep : Str → Bool} : ∀ {xs : List Str}, ((xs.map D.str).filter fun d => keep (txt d)) = (xs.filter keep).map .str
  | [] => rfl
  | x :: xs => by
    rw [List.map_cons]
    by_cases h : keep x = true
    · rw [List.filter_cons_of_pos (by exact h), List.filter_cons_of_pos h, filter_strs, List.map_cons]
    · rw [List.filter_cons_of_neg (by exact h), List.filter_cons_of_neg h, filter_strs]
end KD
set_option Elab.async false
set_option linter.all false
set_option maxRecDepth 100000
set_option maxHeartbeats 4000000
/-! follows: what is promised. -/
namespace KD
open PySem PySem.Spec PyProof.Rows L2 Evl
/-- the facts with which a saying is asked, over the fresh persons; the conclusion asked for -/
def askF (cl : Say) (a b c : Str) : List Fa := match cl with
  | .role x _ => [.to a x b]
  | .chain x y _ => [.to a x b, .to b y c]
def goalC (cl : Say) (a b c : Str) : Cn := match cl with
  | .role _ y => .lnk (psn a) y (psn b)
  | .chain _ _ z => .lnk (psn a) z (psn c)
structure QuOk (B : Wo) (book : List Say) (facts : List Fa) (cl : Say) (a b c : Str) : Prop where
  sat : SatOk B book (facts ++ askF cl a b c) []
  wf : wfFs 9 (.tup (facts.map Fa.d)) = true
  few : facts.length ≤ 900
  wc : wfS 9 cl.d = true
  fresh : freshS (facts.map Fa.d) = [a, b, c]
def dspQuestion (C : Addr) : DSp := fun ds S Q => ∃ book facts cl B a b c, ds = [.tup (book.map Say.d), .tup (facts.map Fa.d), Say.d cl] ∧ QuOk B book facts cl a b c ∧
  ∀ A S', A.persons = (psS (facts ++ askF cl a b c)).map .str → Done C A B S (inL B (facts ++ askF cl a b c)) S' → Q (.tup [.ref A.sf, (goalC cl a b c).d]) S'
def dspFollowsOf : DSp := fun ds S Q => ∃ book facts cl B a b c, ds = [.tup (book.map Say.d), .tup (facts.map Fa.d), Say.d cl] ∧ QuOk B book facts cl a b c ∧ (psS (facts ++ askF cl a b c)).length ≤ 1000 ∧ NoVd B (facts ++ askF cl a b c) ∧
  ∀ k : Bool, (∀ pr, Least B (inL B (facts ++ askF cl a b c)) pr → (k = true ↔ pr (goalC cl a b c))) → Q (.bl k) S
def dspFollows : DSp := fun ds S Q => ∃ book facts cl B a b c, ds = [.tup (book.map Say.d), .tup (facts.map Fa.d), Say.d cl] ∧ wfB 9 (.tup (book.map Say.d)) = true ∧ QuOk B book facts cl a b c ∧ (psS (facts ++ askF cl a b c)).length ≤ 1000 ∧ NoVd B (facts ++ askF cl a b c) ∧
  ∀ k : Bool, (∀ pr, Least B (inL B (facts ++ askF cl a b c)) pr → (k = true ↔ pr (goalC cl a b c))) → Q (.bl k) S
theorem lnk_key {a b r : Str} : KeyOk (Cn.lnk (psn a) r (psn b)).d := by
  refine ⟨rfl, ?_⟩
  exact key_td (xs := [.str "link", psn a, .str r, psn b]) rfl (by
    show (NestedKey.depth (.tup [.text "link", .tup [.text "person", .text a], .text r, .tup [.text "person", .text b]])) ≤ 8
    simp [NestedKey.depth, NestedKey.depthAll])
theorem goal_key {cl : Say} {a b c : Str} : KeyOk (goalC cl a b c).d := by
  cases cl
  · exact lnk_key
  · exact lnk_key
end KD
set_option Elab.async false
set_option linter.all false
set_option maxRecDepth 100000
set_option maxHeartbeats 4000000
/-! The law's draws. -/
namespace KD
open PySem PySem.Spec PyProof.Rows L2 Evl
theorem bits_le {v : Int} {k : Nat} (h : v.natAbs < 2 ^ k) : Builtin.Int.intBits v ≤ k := by
  unfold Builtin.Int.intBits
  split
  · exact Nat.zero_le _
  · next hz =>
    have hne : v.natAbs ≠ 0 := fun z => hz (by simp [Int.natAbs_eq_zero.mp z])
    have := (Nat.log2_lt hne).mpr h
    omega
theorem mul_go {α β : EF} {ρ : Rho} {S : DS} {i j : Int} {k l : Nat} (h1 : α ρ S = some (.int i)) (h2 : β ρ S = some (.int j)) (hi : i.natAbs < 2 ^ k) (hj : j.natAbs < 2 ^ l) (hkl : k + l ≤ 134217728) : dBin gMul α β ρ S = some (.int (i * j)) := by
  unfold dBin gMul
  rw [h1, h2]
  have := bits_le hi
  have := bits_le hj
  exact if_pos (by omega)
theorem add_go {α β : EF} {ρ : Rho} {S : DS} {i j : Int} (h1 : α ρ S = some (.int i)) (h2 : β ρ S = some (.int j)) : dBin gAdd α β ρ S = some (.int (i + j)) := by
  unfold dBin gAdd
  rw [h1, h2]
  rfl
theorem mod_go {α β : EF} {ρ : Rho} {S : DS} {i j : Int} (h1 : α ρ S = some (.int i)) (h2 : β ρ S = some (.int j)) (hj : 0 < j) : dBin gMod α β ρ S = some (.int (i % j)) := by
  unfold dBin gMod
  rw [h1, h2]
  exact if_pos hj
theorem div_go {α β : EF} {ρ : Rho} {S : DS} {i j : Int} (h1 : α ρ S = some (.int i)) (h2 : β ρ S = some (.int j)) (hj : 0 < j) (hj2 : j < 1073741824) : dBin gDiv α β ρ S = some (.int (i / j)) := by
  unfold dBin gDiv
  rw [h1, h2]
  exact if_pos ⟨hj, hj2⟩
theorem int_go {α : EF} {ρ : Rho} {S : DS} {i : Int} (h1 : α ρ S = some (.int i)) : dCall gInt (aCons α aNil) ρ S = some (.int i) := by
  unfold dCall
  rw [acons_go (ds := []) h1 rfl]
  rfl
theorem ixl_go {α : EF} {ρ : Rho} {S : DS} {p : Addr} {a b : D} (h : α ρ S = some (.ref p)) (hs : S p = some (.lst [a, b])) : dBin gIx α (dC (.int 0)) ρ S = some a ∧ dBin gIx α (dC (.int 1)) ρ S = some b := by
  unfold dBin dC
  rw [h]
  simp [gIx, seqOf, lstOf, hs, atI0, atI1]
theorem asgs_go {ε α : EF} {k : Nat} {E : DEnds} {ρ : Rho} {S : DS} {d : D} {p : Addr} {ds : List D} {i : Int} (h : ε ρ S = some d) (ha : α ρ S = some (.ref p)) (hs : S p = some (.lst ds)) (hi : ixN ds.length i = some k) (q : E.nx ρ (put S p (.lst (ds.set k d)))) : dAsg (fE ε) (dgSub (fE α) (fE (dC (.int i)))) E ρ S :=
  ⟨d, h, .ref p, ha, .int i, rfl, p, i, ds, k, rfl, rfl, hs, hi, q⟩
theorem mulb_go {α β : EF} {ρ : Rho} {S : DS} {i j : Int} (h1 : α ρ S = some (.int i)) (h2 : β ρ S = some (.int j)) (hi : Builtin.Int.intBits i + Builtin.Int.intBits j ≤ 134217728) : dBin gMul α β ρ S = some (.int (i * j)) := by
  unfold dBin gMul
  rw [h1, h2]
  exact if_pos hi
def dspSource : DSp := fun ds S Q => ∃ c : Int, ds = [.int c] ∧ Builtin.Int.intBits c ≤ 60000000 ∧ ∀ p u v, S p = none → 0 ≤ v → v < 2 ^ 62 → Q (.ref p) (put S p (.lst [.int u, .int v]))
def dspPick : DSp := fun ds S Q => ∃ p u v n, ds = [.ref p, .int n] ∧ S p = some (.lst [.int u, .int v]) ∧ 0 ≤ v ∧ v < 2 ^ 62 ∧ 0 < n ∧ n ≤ 1000 ∧
  ∀ r u' v', 0 ≤ r → r < n → 0 ≤ v' → v' < 2 ^ 62 → Q (.int r) (put S p (.lst [.int u', .int v']))
end KD
set_option Elab.async false
set_option linter.all false
set_option maxRecDepth 100000
set_option maxHeartbeats 4000000
/-! Draws over one source. -/
namespace KD
open PySem PySem.Spec PyProof.Rows L2 Evl
/-- the cells, the source's two numbers being u, v -/
def drS (S : DS) (p : Addr) (u v : Int) : DS := put S p (.lst [.int u, .int v])
def SrcV (v : Int) : Prop := 0 ≤ v ∧ v < 2 ^ 62
theorem drS_at {S : DS} {p : Addr} {u v : Int} : drS S p u v p = some (.lst [.int u, .int v]) := put_same
theorem drS_ne {S : DS} {p a : Addr} {u v : Int} (h : a ≠ p) : drS S p u v a = S a := put_ne h
theorem drS_drS {S : DS} {p : Addr} {u v u' v' : Int} : put (drS S p u v) p (.lst [.int u', .int v']) = drS S p u' v' := put_put
theorem pick_go {η : FA} {ρ : Rho} {S : DS} {p : Addr} {u v n : Int} {Q : DQ} (h : η ρ (drS S p u v) = some [.ref p, .int n]) (hv : SrcV v) (h0 : 0 < n) (h1 : n ≤ 1000) (q : ∀ r u' v', 0 ≤ r → r < n → SrcV v' → Q (.int r) (drS S p u' v')) : dCallW 2 dspPick (fA η) ρ (drS S p u v) Q :=
  ⟨_, h, rfl, p, u, v, n, rfl, drS_at, hv.1, hv.2, h0, h1, fun r u' v' a b c d => by
    rw [drS_drS]
    exact q r u' v' a b ⟨c, d⟩⟩
/-- an item of a list, drawn -/
theorem item_go {α : EF} {η : FA} {ρ : Rho} {S : DS} {p : Addr} {u v : Int} {Q : DQ} {ds : List D} {a : D} (ha : ∀ S', α ρ S' = some a) (hs : ∀ S', (∀ b c, b ≠ p → S b = some c → S' b = some c) → gIx S' a = fun y => (match y with | .int i => atI ds i | _ => none)) (h : η ρ (drS S p u v) = some [.ref p, .int ds.length]) (hv : SrcV v) (h0 : 0 < ds.length) (h1 : ds.length ≤ 1000)
    (q : ∀ d u' v', d ∈ ds → SrcV v' → Q d (drS S p u' v')) : tBin gIx (fE α) (dCallW 2 dspPick (fA η)) ρ (drS S p u v) Q := by
  refine ⟨a, ha _, ?_⟩
  refine pick_go h hv (by omega) (by omega) fun r u' v' hr hr2 hv' => ?_
  obtain ⟨k, rfl⟩ := Int.eq_ofNat_of_zero_le hr
  have hk : k < ds.length := by omega
  refine ⟨ds[k], ?_, q _ u' v' (List.getElem_mem hk) hv'⟩
  rw [hs _ fun b c hb e => by rw [drS_ne hb]; exact e]
  exact atIn (List.getElem?_eq_getElem hk)
end KD
set_option Elab.async false
set_option linter.all false
set_option maxHeartbeats 400000
namespace KD
open PySem PySem.Spec PyProof.Rows L2 Evl
theorem rng_go {η : FA} {ρ : Rho} {S : DS} {j : Int} {n : Nat} (h : η ρ S = some [.int j]) (hj : j = (n : Int)) (hn : n ≤ 1000000) : itRng η ρ S = some ((List.range n).map fun i => D.int (i : Nat), none) := by
  have h1 : -(2 ^ 62) ≤ j ∧ j < 2 ^ 62 := by omega
  unfold itRng
  rw [h]
  simp only [Option.bind_some]
  split
  · next hc =>
    subst hj
    simp [rngD]
  · next hc => exact absurd h1 hc
end KD
set_option Elab.async false
set_option linter.all false
set_option maxRecDepth 100000
set_option maxHeartbeats 1000000
/-! What is drawn: a calculus. -/
namespace KD
open PySem PySem.Spec PyProof.Rows L2 Evl
/-- T at ρ draws from the source at p and gives what P tells -/
def Dr (T : DE) (ρ : Rho) (p : Addr) (P : D → Prop) : Prop := ∀ S u v R, S p = some (.lst [.int u, .int v]) → SrcV v → (∀ y u' v', P y → SrcV v' → R y (drS S p u' v')) → T ρ S R
theorem Dr.imp {T : DE} {ρ : Rho} {p : Addr} {P P' : D → Prop} (h : Dr T ρ p P) (i : ∀ y, P y → P' y) : Dr T ρ p P' := fun S u v R hp hv q => h S u v R hp hv fun y u' v' hy hv' => q y u' v' (i y hy) hv'
theorem drS_self {S : DS} {p : Addr} {u v : Int} (h : S p = some (.lst [.int u, .int v])) : drS S p u v = S := put_self h
theorem drS2 {S : DS} {p : Addr} {u v u' v' : Int} : drS (drS S p u v) p u' v' = drS S p u' v' := put_put
theorem dr_pick {η : FA} {ρ : Rho} {p : Addr} {n : Int} (h : ∀ S u v, S p = some (.lst [.int u, .int v]) → η ρ S = some [.ref p, .int n]) (h0 : 0 < n) (h1 : n ≤ 1000) : Dr (dCallW 2 dspPick (fA η)) ρ p (fun y => ∃ r, y = .int r ∧ 0 ≤ r ∧ r < n) := fun S u v R hp hv q => by
  have := pick_go (η := η) (ρ := ρ) (S := S) (p := p) (u := u) (v := v) (n := n) (Q := R) (by rw [drS_self hp]; exact h S u v hp) hv h0 h1 fun r u' v' a b c => q _ u' v' ⟨r, rfl, a, b⟩ c
  rw [drS_self hp] at this
  exact this
theorem dr_fe {α : EF} {ρ : Rho} {p : Addr} {a : D} (h : ∀ S u v, S p = some (.lst [.int u, .int v]) → α ρ S = some a) : Dr (fE α) ρ p (· = a) := fun S u v R hp hv q => ⟨a, h S u v hp, by
  have := q a u v rfl hv
  rw [drS_self hp] at this
  exact this⟩
/-- an operation of what is drawn -/
theorem dr_bin {g : DOp} {T U : DE} {ρ : Rho} {p : Addr} {P P' P2 : D → Prop} (h : Dr T ρ p P) (k : Dr U ρ p P') (hg : ∀ S x y, P x → P' y → ∃ d, g S x y = some d ∧ P2 d) : Dr (tBin g T U) ρ p P2 := fun S u v R hp hv q =>
  h S u v _ hp hv fun x u1 v1 hx hv1 => k _ u1 v1 _ drS_at hv1 fun y u2 v2 hy hv2 => by
    obtain ⟨d, e, hd⟩ := hg (drS (drS S p u1 v1) p u2 v2) x y hx hy
    refine ⟨d, e, ?_⟩
    rw [drS2]
    exact q d u2 v2 hd hv2
/-- an item, drawn -/
theorem dr_item {α : EF} {η : FA} {ρ : Rho} {p : Addr} {a : D} {ds : List D} (ha : ∀ S u v, S p = some (.lst [.int u, .int v]) → α ρ S = some a) (hg : ∀ S i, gIx S a (.int i) = atI ds i) (h : ∀ S u v, S p = some (.lst [.int u, .int v]) → η ρ S = some [.ref p, .int ds.length]) (h0 : 0 < ds.length) (h1 : ds.length ≤ 1000) :
    Dr (tBin gIx (fE α) (dCallW 2 dspPick (fA η))) ρ p (· ∈ ds) :=
  dr_bin (dr_fe ha) (dr_pick h (by omega) (by omega)) fun S x y hx hy => by
    subst hx
    obtain ⟨r, rfl, hr, hr2⟩ := hy
    obtain ⟨k, rfl⟩ := Int.eq_ofNat_of_zero_le hr
    have hk : k < ds.length := by omega
    exact ⟨ds[k], by rw [hg]; exact atIn (List.getElem?_eq_getElem hk), List.getElem_mem hk⟩
/-- a list of draws -/
theorem dr_lc {V' : DE} {ρ : Rho} {p : Addr} {P : D → Prop} {U : DA} {i : Nat} {vs : List Nat} {m : Nat} {PU : D → Prop} (hm : m ≤ 1000000) (hU : ∀ S u v R, S p = some (.lst [.int u, .int v]) → SrcV v → (∀ j u' v', PU (.int j) → SrcV v' → R [.int j] (drS S p u' v')) → U ρ S R) (hPU : ∀ j, PU (.int j) → 0 ≤ j ∧ j ≤ m)
    (hV : ∀ k : Int, Dr V' ((wipeD ρ vs).set i (some (.int k))) p P) :
    Dr (fun ρ S Q => dLc (iRng U) (gamN i) dYes V' vs ρ S (RdQ Q)) ρ p (fun y => ∃ ys, y = .lst ys ∧ ys.length ≤ m ∧ (∃ j : Int, PU (.int j) ∧ (ys.length : Int) = j) ∧ ∀ y ∈ ys, P y) := fun S u v R hp hv q => by
  refine hU S u v _ hp hv fun j u1 v1 hj hv1 => ?_
  have hjb := hPU j hj
  refine ⟨j, rfl, by omega, by omega, fun ad had => ?_⟩
  have hne : ad ≠ p := fun z => by rw [z, drS_at] at had; cases had
  have had2 : ∀ u' v', drS S p u' v' ad = none := fun u' v' => by rw [drS_ne hne]; rw [drS_ne hne] at had; exact had
  have hlen : (rngD 0 j.toNat).length = j.toNat := by unfold rngD; rw [List.length_map, List.length_range]
  refine ⟨fun i S' => ∃ u' v' ys, ys.length = i ∧ (∀ y ∈ ys, P y) ∧ SrcV v' ∧ S' = put (drS S p u' v') ad (.lst ys), ⟨u1, v1, [], rfl, fun _ h => (nomatch h), hv1, rfl⟩, fun _ _ _ _ => trivial, fun i' d S' hd hI => ?_, fun S' hI => ?_⟩
  · have hd : (rngD 0 j.toNat)[i']? = some d := by
      first | exact hd | skip
    obtain ⟨u', v', ys, hys, hall, hv', rfl⟩ := hI
    have hi' : i' < j.toNat := by
      rcases Nat.lt_or_ge i' (rngD 0 j.toNat).length with z | z
      · rw [hlen] at z; exact z
      · rw [List.getElem?_eq_none z] at hd; cases hd
    obtain ⟨k, rfl⟩ : ∃ k : Int, d = .int k := by
      have := List.mem_of_getElem? hd
      unfold rngD at this
      obtain ⟨x, _, rfl⟩ := List.mem_map.mp this
      exact ⟨_, rfl⟩
    refine ⟨_, rfl, ?_⟩
    unfold dYes
    simp only [if_true]
    refine hV k _ u' v' _ (by rw [put_ne (Ne.symm hne)]; exact drS_at) hv' fun y u2 v2 hy hv2 => ?_
    have e : drS (put (drS S p u' v') ad (.lst ys)) p u2 v2 = put (drS S p u2 v2) ad (.lst ys) := by
      show put (put (drS S p u' v') ad (.lst ys)) p _ = _
      rw [put_comm hne]
      show put (drS (drS S p u' v') p u2 v2) ad _ = _
      rw [drS2]
    rw [e]
    refine ⟨ys, put_same, by omega, u2, v2, ys ++ [y], by rw [List.length_append]; simp [hys], fun z hz => ?_, hv2, put_put⟩
    rcases List.mem_append.mp hz with hz | hz
    · exact hall z hz
    · rw [List.mem_singleton.mp hz]; exact hy
  · obtain ⟨u', v', ys, hys, hall, hv', rfl⟩ := hI
    rw [hlen] at hys
    refine rd_new (had2 u' v') (q _ u' v' ⟨ys, rfl, by omega, ⟨j, hj, by omega⟩, hall⟩ hv')
end KD
set_option Elab.async false
set_option linter.all false
set_option maxRecDepth 100000
set_option maxHeartbeats 1000000
namespace KD
open PySem PySem.Spec PyProof.Rows L2 Evl
theorem drS_put {S : DS} {p a : Addr} {c : Cell} {u v u' v' : Int} (h : a ≠ p) : drS (put (drS S p u v) a c) p u' v' = put (drS S p u' v') a c := by
  show put (put (drS S p u v) a c) p _ = _
  rw [put_comm h]
  show put (drS (drS S p u v) p u' v') a _ = _
  rw [drS2]
def Say.inn (rs : List Str) : Say → Prop
  | .role a b => a ∈ rs ∧ b ∈ rs
  | .chain a b c => a ∈ rs ∧ b ∈ rs ∧ c ∈ rs
def dspRoleBook : DSp := fun ds S Q => ∃ p u v, ∃ rs : List Str, ∃ m : Nat, ds = [.ref p, .lst (rs.map .str), .int (m : Nat)] ∧ S p = some (.lst [.int u, .int v]) ∧ SrcV v ∧ 0 < rs.length ∧ rs.length ≤ 1000 ∧ m ≤ 1000 ∧
  ∀ (bk : List Say) u' v', bk.length = m → (∀ s ∈ bk, s.inn rs) → SrcV v' → Q (.tup (bk.map Say.d)) (drS S p u' v')
theorem gIx_lst {S : DS} {ds : List D} {i : Int} : gIx S (.lst ds) (.int i) = atI ds i := rfl
theorem ixv_go {α : EF} {ρ : Rho} {S : DS} {a b c : D} (h : α ρ S = some (.lst [a, b, c])) : dBin gIx α (dC (.int 0)) ρ S = some a ∧ dBin gIx α (dC (.int 1)) ρ S = some b ∧ dBin gIx α (dC (.int 2)) ρ S = some c := by
  unfold dBin dC
  rw [h]
  simp [gIx, seqOf, lstOf, atI0, atI1, atI2]
end KD
set_option Elab.async false
set_option linter.all false
set_option maxRecDepth 100000
set_option maxHeartbeats 1000000
/-! Words, drawn. -/
namespace KD
open PySem PySem.Spec PyProof.Rows L2 Evl
def txtS (cs : List Nat) : Str := ⟨cs.toArray⟩
theorem txtS_len {cs : List Nat} : (txtS cs).length = cs.length := by simp [txtS, Str.length]
theorem txtS_app {a b : List Nat} : txtS a ++ txtS b = txtS (a ++ b) := TL.ext_tl (by rw [TL.tl_append]; simp [txtS, TL.tl])
theorem txtS_inj {a b : List Nat} (h : txtS a = txtS b) : a = b := congrArg (fun x : Str => x.cps.toList) h
theorem joinL_ones : ∀ cs : List Nat, TL.joinL [] (cs.map fun c => [c]) = cs
  | [] => rfl
  | [c] => rfl
  | a :: b :: r => by
    have ih := joinL_ones (b :: r)
    show [a] ++ ([] ++ TL.joinL [] (([b]) :: (r.map fun c => [c]))) = _
    rw [show ([b] :: (r.map fun c => [c])) = (b :: r).map (fun c => [c]) from rfl, ih]
    rfl
theorem join_ones (cs : List Nat) : Txt.join "" (cs.map fun c => txtS [c]) = txtS cs := by
  rw [TL.join_eq]
  refine TL.ext_tl ?_
  rw [TL.tl_join, List.map_map]
  show TL.joinL (TL.tl (Str.ofString "")) (cs.map fun c => [c]) = cs
  rw [show TL.tl (Str.ofString "") = [] by decide +kernel, joinL_ones]
abbrev lets : List Nat := letters.cps.toList
theorem isW_ok {cs : List Nat} (h1 : 1 ≤ cs.length) (h2 : cs.length ≤ 8) (h : ∀ c ∈ cs, c ∈ lets) : isW (txtS cs) = true := by
  unfold isW
  simp only [Bool.and_eq_true, decide_eq_true_eq, List.all_eq_true, txtS_len]
  exact ⟨⟨h1, h2⟩, h⟩
theorem lets_len : lets.length = 26 := by decide +kernel
theorem lets_nodup : lets.Nodup := by decide +kernel
/-- a letter -/
def LetD (y : D) : Prop := ∃ c ∈ lets, y = .str (txtS [c])
theorem atIn' {α : Type} {ds : List α} {i : Nat} {d : α} (h : ds[i]? = some d) : atI ds (i : Int) = some d := by
  have hi : i < ds.length := by
    rcases Nat.lt_or_ge i ds.length with z | z
    · exact z
    · rw [List.getElem?_eq_none z] at h; cases h
  unfold atI
  rw [show ixN ds.length (i : Int) = some i by unfold ixN; simp; omega]
  exact h
theorem gIx_lets {S : DS} {i : Int} (h0 : 0 ≤ i) (h1 : i < 26) : ∃ d, gIx S (.str letters) (.int i) = some d ∧ LetD d := by
  obtain ⟨k, rfl⟩ := Int.eq_ofNat_of_zero_le h0
  have hk : k < lets.length := by rw [lets_len]; omega
  refine ⟨.str (txtS [lets[k]]), ?_, lets[k], List.getElem_mem hk, rfl⟩
  show (if letters.length ≤ 1000000 then (atI lets k).map fun c => D.str ⟨#[c]⟩ else none) = _
  rw [if_pos (by decide +kernel), atIn' (List.getElem?_eq_getElem hk)]
  rfl
theorem dr_let {α : EF} {η : FA} {ρ : Rho} {p : Addr} (ha : ∀ S u v, S p = some (.lst [.int u, .int v]) → α ρ S = some (.str letters)) (h : ∀ S u v, S p = some (.lst [.int u, .int v]) → η ρ S = some [.ref p, .int 26]) : Dr (tBin gIx (fE α) (dCallW 2 dspPick (fA η))) ρ p LetD :=
  dr_bin (dr_fe ha) (dr_pick h (by decide) (by decide)) fun S x y hx hy => by
    subst hx
    obtain ⟨r, rfl, hr, hr2⟩ := hy
    exact gIx_lets hr hr2
theorem gAddS_txt {S : DS} {a b : List Nat} (h : a.length + b.length ≤ 1000000) : KD.gAddS S (.str (txtS a)) (.str (txtS b)) = some (.str (txtS (a ++ b))) := by
  show (if (txtS a).length + (txtS b).length ≤ 1000000 then some (D.str (txtS a ++ txtS b)) else none) = _
  rw [txtS_len, txtS_len, if_pos h, txtS_app]
/-- letters, joined -/
theorem lets_open : ∀ {ys : List D}, (∀ y ∈ ys, LetD y) → ∃ cs : List Nat, ys = cs.map (fun c => D.str (txtS [c])) ∧ ∀ c ∈ cs, c ∈ lets
  | [], _ => ⟨[], rfl, fun _ h => (nomatch h)⟩
  | y :: ys, h => by
    obtain ⟨c, hc, rfl⟩ := h _ List.mem_cons_self
    obtain ⟨cs, rfl, hcs⟩ := lets_open (ys := ys) fun z hz => h z (List.mem_cons_of_mem _ hz)
    refine ⟨c :: cs, rfl, fun x hx => ?_⟩
    rcases List.mem_cons.mp hx with rfl | hx
    · exact hc
    · exact hcs x hx
theorem strsOf_lets : ∀ cs : List Nat, strsOf (cs.map fun c => D.str (txtS [c])) = some (cs.map fun c => txtS [c])
  | [] => rfl
  | c :: cs => by
    rw [List.map_cons]
    show (strsOf (cs.map fun c => D.str (txtS [c]))).map (txtS [c] :: ·) = _
    rw [strsOf_lets cs]
    rfl
theorem sum_ones : ∀ cs : List Nat, ((cs.map fun c => txtS [c]).map (·.length)).sum = cs.length
  | [] => rfl
  | c :: cs => by
    rw [List.map_cons, List.map_cons, List.sum_cons, sum_ones cs, List.length_cons]
    show 1 + _ = _
    omega
theorem gJoin_lets {S : DS} {y : D} {cs : List Nat} (h : seqOf S y = some (cs.map fun c => D.str (txtS [c]))) (hl : cs.length ≤ 1000) : gJoin S (.str "") y = some (.str (txtS cs)) := by
  unfold gJoin
  simp only [h, Option.bind_some, strsOf_lets, sum_ones]
  have : (Str.ofString "").length = 0 := by decide +kernel
  rw [if_pos (by simp [this]; omega), join_ones]
/-- one more sign, not there yet -/
theorem fresh_sign {a : Nat} {ws : List Str} (h : ws.length < 26) : ∃ c ∈ lets, txtS [a, c] ∉ ws := by
  refine Classical.byContradiction fun hn => ?_
  have hall : ∀ c ∈ lets, txtS [a, c] ∈ ws := fun c hc => Classical.byContradiction fun z => hn ⟨c, hc, z⟩
  have hnd : (lets.map fun c => txtS [a, c]).Nodup := by
    refine List.pairwise_map.mpr (List.Pairwise.imp (fun {x y} h e => h ?_) lets_nodup)
    have := txtS_inj e
    injection this with _ e
    injection e
  have := nodup_le hnd fun x hx => by
    obtain ⟨c, hc, rfl⟩ := List.mem_map.mp hx
    exact hall c hc
  rw [List.length_map, lets_len] at this
  omega
theorem addN {ws : List Str} {x : Str} (h : ws.Nodup) (hx : x ∉ ws) : (ws ++ [x]).Nodup := by
  rw [List.nodup_append]
  refine ⟨h, by simp, fun a ha b hb e => ?_⟩
  rw [List.mem_singleton.mp hb] at e
  exact hx (e ▸ ha)
theorem addW {ws : List Str} {x : Str} (h : ∀ x ∈ ws, isW x = true) (hx : isW x = true) : ∀ y ∈ ws ++ [x], isW y = true := fun y hy => by
  rcases List.mem_append.mp hy with hy | hy
  · exact h y hy
  · rw [List.mem_singleton.mp hy]; exact hx
theorem isW2 {a b : Nat} (ha : a ∈ lets) (hb : b ∈ lets) : isW (txtS [a, b]) = true := isW_ok (Nat.le_add_left 1 1) (by simp) fun c hc => by
  rcases List.mem_cons.mp hc with rfl | hc
  · exact ha
  · rw [List.mem_singleton.mp hc]; exact hb
theorem isW3 {a b c : Nat} (ha : a ∈ lets) (hb : b ∈ lets) (hc : c ∈ lets) : isW (txtS [a, b, c]) = true := isW_ok (Nat.le_add_left 1 2) (by simp) fun x hx => by
  rcases List.mem_cons.mp hx with rfl | hx
  · exact ha
  rcases List.mem_cons.mp hx with rfl | hx
  · exact hb
  · rw [List.mem_singleton.mp hx]; exact hc
def sgn : D → Nat
  | .str x => x.cps.toList.headD 0
  | _ => 0
def keepF (a : Nat) (ws : List Str) (d : D) : Bool := decide (txtS [a, sgn d] ∉ ws)
def outF (a : Nat) (d : D) : D := .str (txtS [a, sgn d])
theorem first_fresh {a : Nat} {ws : List Str} (h : ws.length < 26) : ∃ c ∈ lets, txtS [a, c] ∉ ws ∧ ∃ r, ((KD.signs letters).filter (keepF a ws)).map (outF a) = .str (txtS [a, c]) :: r := by
  obtain ⟨c, hc, hn⟩ := fresh_sign (a := a) h
  have hm : D.str (txtS [c]) ∈ (KD.signs letters).filter (keepF a ws) := List.mem_filter.mpr ⟨List.mem_map.mpr ⟨c, hc, rfl⟩, decide_eq_true hn⟩
  cases e : (KD.signs letters).filter (keepF a ws) with
  | nil => rw [e] at hm; cases hm
  | cons d r =>
    have hd : d ∈ (KD.signs letters).filter (keepF a ws) := by rw [e]; exact List.mem_cons_self
    obtain ⟨h1, h2⟩ := List.mem_filter.mp hd
    obtain ⟨c1, hc1, rfl⟩ := List.mem_map.mp (show d ∈ lets.map fun c => D.str ⟨#[c]⟩ from h1)
    exact ⟨c1, hc1, of_decide_eq_true h2, r.map (outF a), rfl⟩
theorem base_go {α β : EF} {ρ : Rho} {S : DS} {a b c : Nat} (h1 : α ρ S = some (.str (txtS [a, b]))) (h2 : β ρ S = some (.str (txtS [c]))) : dBin KD.gAddS (dBin gIx α (dC (.int 0))) β ρ S = some (.str (txtS [a, c])) := by
  have h3 : dBin gIx α (dC (.int 0)) ρ S = some (.str (txtS [a])) := by
    unfold dBin dC
    rw [h1]
    show (if (txtS [a, b]).length ≤ 1000000 then (atI [a, b] 0).map fun c => D.str ⟨#[c]⟩ else none) = _
    rw [if_pos (by simp [txtS_len]), show (0 : Int) = ((0 : Nat) : Int) from rfl, atIn' (d := a) rfl]
    rfl
  show Option.bind (dBin gIx α (dC (.int 0)) ρ S) (fun x => Option.bind (β ρ S) fun y => KD.gAddS S x y) = _
  rw [h3, h2, Option.bind_some, Option.bind_some]
  exact gAddS_txt (S := S) (a := [a]) (b := [c]) (by simp)
theorem nin_go {α β : EF} {ρ : Rho} {S : DS} {x v : D} {ds : List D} {b : Bool} (h1 : α ρ S = some x) (h2 : β ρ S = some v) (h3 : seqOf S v = some ds) (h4 : inD x ds = some b) : dBin gNin α β ρ S = some (.bl (!b)) := by
  unfold dBin gNin
  rw [h1, h2]
  simp only [Option.bind_some, h3, h4, Option.map_some]
def dspWords : DSp := fun ds S Q => ∃ p u v, ∃ m : Nat, ds = [.ref p, .int (m : Nat)] ∧ S p = some (.lst [.int u, .int v]) ∧ SrcV v ∧ m ≤ 20 ∧
  ∀ (ws : List Str) u' v', ws.length = m → ws.Nodup → (∀ x ∈ ws, isW x = true) → SrcV v' → Q (.lst (ws.map .str)) (drS S p u' v')
end KD
set_option Elab.async false
set_option linter.all false
set_option maxRecDepth 100000
set_option maxHeartbeats 1000000
/-! Going on until nothing is new. -/
namespace KD
open PySem PySem.Spec PyProof.Rows L2 Evl
abbrev Lk := Str × Str × Str
def lkd (l : Lk) : D := .tup [.str l.1, .str l.2.1, .str l.2.2]
inductive Sp (book : List Say) (links : List Lk) : Str → Str → Str → Prop
  | base {x r y} : (x, r, y) ∈ links → Sp book links x r y
  | role {x r r2 y} : Say.role r r2 ∈ book → Sp book links x r y → Sp book links x r2 y
  | chain {x a b c y z} : Say.chain a b c ∈ book → Sp book links x a y → Sp book links y b z → Sp book links x c z
def addL (ls : List Lk) (l : Lk) : List Lk := if l ∈ ls then ls else ls ++ [l]
def endsL (t : Lk) (b : Str) (ls : List Lk) : List Str := (ls.filter fun l => decide (l.1 = t.2.2 ∧ l.2.1 = b)).map (·.2.2)
def stepSay (t : Lk) (ls : List Lk) : Say → List Lk
  | .role a b => if a = t.2.1 then addL ls (t.1, b, t.2.2) else ls
  | .chain a b c => if a = t.2.1 then (endsL t b ls).foldl (fun acc z => addL acc (t.1, c, z)) ls else ls
def roundT (book : List Say) (ls : List Lk) (t : Lk) : List Lk := book.foldl (stepSay t) ls
def round (book : List Say) (ls : List Lk) : List Lk := ls.foldl (roundT book) ls
theorem addL_ext {ls : List Lk} {l : Lk} : ls <+: addL ls l := by
  unfold addL; split
  · exact List.prefix_rfl
  · exact List.prefix_append _ _
theorem addL_mem {ls : List Lk} {l m : Lk} : m ∈ addL ls l ↔ m ∈ ls ∨ m = l := by
  unfold addL; split
  · next h => exact ⟨.inl, fun z => z.elim id (fun e => e ▸ h)⟩
  · simp
theorem addL_nodup {ls : List Lk} {l : Lk} (h : ls.Nodup) : (addL ls l).Nodup := by
  unfold addL; split
  · exact h
  · next hn =>
    rw [List.nodup_append]
    refine ⟨h, by simp, fun a ha b hb e => ?_⟩
    rw [List.mem_singleton.mp hb] at e
    exact hn (e ▸ ha)
theorem fold_ext {α β : Type} {f : List α → β → List α} (h : ∀ acc x, acc <+: f acc x) : ∀ {l : List β} {a : List α}, a <+: l.foldl f a
  | [], _ => List.prefix_rfl
  | x :: l, a => (h a x).trans (fold_ext h (l := l))
theorem fold_fix {α β : Type} {f : List α → β → List α} (h : ∀ acc x, acc <+: f acc x) : ∀ {l : List β} {a : List α}, (l.foldl f a).length = a.length → ∀ x ∈ l, f a x = a
  | [], _, _, _, hx => nomatch hx
  | y :: l, a, e, x, hx => by
    have h1 := h a y
    have h2 := fold_ext h (l := l) (a := f a y)
    have e0 : (l.foldl f (f a y)).length = a.length := e
    have e1 : f a y = a := by
      refine (h1.eq_of_length ?_).symm
      have := h1.length_le
      have := h2.length_le
      omega
    rcases List.mem_cons.mp hx with rfl | hx
    · exact e1
    · rw [e1] at e0
      exact fold_fix h e0 x hx
theorem fold_ind {α β : Type} {f : α → β → α} {p : α → Prop} : ∀ {l : List β} {a : α}, p a → (∀ a x, x ∈ l → p a → p (f a x)) → p (l.foldl f a)
  | [], _, h, _ => h
  | x :: l, a, h, hs => fold_ind (l := l) (hs a x List.mem_cons_self h) fun a y hy => hs a y (List.mem_cons_of_mem _ hy)
theorem stepSay_ext {t : Lk} (ls : List Lk) (s : Say) : ls <+: stepSay t ls s := by
  cases s with
  | role a b =>
    show ls <+: if a = t.2.1 then addL ls (t.1, b, t.2.2) else ls
    split
    · exact addL_ext
    · exact List.prefix_rfl
  | chain a b c =>
    show ls <+: if a = t.2.1 then (endsL t b ls).foldl (fun acc z => addL acc (t.1, c, z)) ls else ls
    split
    · exact fold_ext (fun _ _ => addL_ext)
    · exact List.prefix_rfl
theorem roundT_ext {book : List Say} (ls : List Lk) (t : Lk) : ls <+: roundT book ls t := fold_ext stepSay_ext
theorem round_ext {book : List Say} {ls : List Lk} : ls <+: round book ls := fold_ext roundT_ext
theorem stepSay_nodup {t : Lk} {ls : List Lk} {s : Say} (h : ls.Nodup) : (stepSay t ls s).Nodup := by
  cases s with
  | role a b =>
    show (if a = t.2.1 then addL ls (t.1, b, t.2.2) else ls).Nodup
    split
    · exact addL_nodup h
    · exact h
  | chain a b c =>
    show (if a = t.2.1 then (endsL t b ls).foldl (fun acc z => addL acc (t.1, c, z)) ls else ls).Nodup
    split
    · exact fold_ind h (fun _ _ _ => addL_nodup)
    · exact h
theorem round_nodup {book : List Say} {ls : List Lk} (h : ls.Nodup) : (round book ls).Nodup := fold_ind h fun _ _ _ h => fold_ind h fun _ _ _ h => stepSay_nodup h
theorem round_fix {book : List Say} {ls : List Lk} (h : (round book ls).length = ls.length) : ∀ t ∈ ls, ∀ s ∈ book, stepSay t ls s = ls := fun t ht s hs => by
  have h1 := fold_fix (f := roundT book) roundT_ext h t ht
  exact fold_fix (f := stepSay t) stepSay_ext (congrArg List.length h1) s hs
section
variable {book : List Say} {links ls : List Lk}
def AllSp (book : List Say) (links ls : List Lk) : Prop := ∀ l ∈ ls, Sp book links l.1 l.2.1 l.2.2
theorem addL_sp {l : Lk} (h : AllSp book links ls) (k : Sp book links l.1 l.2.1 l.2.2) : AllSp book links (addL ls l) := fun m hm => by
  rcases addL_mem.mp hm with hm | rfl
  · exact h m hm
  · exact k
theorem stepSay_sp {t : Lk} {s : Say} (hs : s ∈ book) (ht : Sp book links t.1 t.2.1 t.2.2) (h : AllSp book links ls) : AllSp book links (stepSay t ls s) := by
  cases s with
  | role a b =>
    show AllSp book links (if a = t.2.1 then addL ls (t.1, b, t.2.2) else ls)
    split
    · next e => subst e; exact addL_sp h (.role hs ht)
    · exact h
  | chain a b c =>
    show AllSp book links (if a = t.2.1 then (endsL t b ls).foldl (fun acc z => addL acc (t.1, c, z)) ls else ls)
    split
    · next e =>
      subst e
      refine fold_ind h fun acc z hz hacc => addL_sp hacc ?_
      unfold endsL at hz
      obtain ⟨l, hl, rfl⟩ := List.mem_map.mp hz
      obtain ⟨hl, hc⟩ := List.mem_filter.mp hl
      obtain ⟨e1, e2⟩ := of_decide_eq_true hc
      have := h l hl
      rw [e1, e2] at this
      exact .chain hs ht this
    · exact h
theorem round_sp (h : AllSp book links ls) : AllSp book links (round book ls) := by
  refine fold_ind (p := AllSp book links) h fun acc t ht hacc => ?_
  exact fold_ind (p := AllSp book links) hacc fun acc s hs hacc => stepSay_sp hs (h t ht) hacc
theorem round_done (hb : ∀ l ∈ links, l ∈ ls) (h : (round book ls).length = ls.length) : ∀ {x r y}, Sp book links x r y → (x, r, y) ∈ ls := by
  intro x r y hs
  induction hs with
  | base h0 => exact hb _ h0
  | @role x r r2 y h0 _ ih =>
    have := round_fix h _ ih _ h0
    have e : stepSay (x, r, y) ls (.role r r2) = addL ls (x, r2, y) := if_pos rfl
    rw [e] at this
    rw [← this]
    exact addL_mem.mpr (.inr rfl)
  | @chain x a b c y z h0 _ _ ih1 ih2 =>
    have := round_fix h _ ih1 _ h0
    have e : stepSay (x, a, y) ls (.chain a b c) = (endsL (x, a, y) b ls).foldl (fun acc z => addL acc (x, c, z)) ls := if_pos rfl
    rw [e] at this
    have h3 := fold_fix (f := fun acc z => addL acc (x, c, z)) (fun _ _ => addL_ext) (congrArg List.length this) z (by
      unfold endsL
      exact List.mem_map.mpr ⟨(y, b, z), List.mem_filter.mpr ⟨ih2, by simp⟩, rfl⟩)
    have h3 : addL ls (x, c, z) = ls := h3
    rw [← h3]
    exact addL_mem.mpr (.inr rfl)
end
/-! as cells -/
theorem lkd_key (l : Lk) : (lkd l).key = some (.tup [.text l.1, .text l.2.1, .text l.2.2]) := by
  unfold lkd
  refine (key_td (xs := [.str l.1, .str l.2.1, .str l.2.2]) rfl ?_).trans ?_
  · show (NestedKey.depth (.tup [.text _, .text _, .text _])) ≤ 8
    simp [NestedKey.depth, NestedKey.depthAll]
  · rfl
theorem lkd_inj {l m : Lk} (h : lkd l = lkd m) : l = m := by
  obtain ⟨a, b, c⟩ := l
  obtain ⟨x, y, z⟩ := m
  unfold lkd at h
  injection h with h
  injection h with h1 h
  injection h with h2 h
  injection h with h3 _
  injection h1 with h1
  injection h2 with h2
  injection h3 with h3
  exact Prod.ext h1 (Prod.ext h2 h3)
theorem lkd_key_inj {l m : Lk} (h : (lkd l).key = (lkd m).key) : l = m := by
  rw [lkd_key, lkd_key] at h
  injection h with h
  injection h with h
  injection h with h1 h
  injection h with h2 h
  injection h with h3 _
  injection h1 with h1
  injection h2 with h2
  injection h3 with h3
  exact Prod.ext h1 (Prod.ext h2 h3)
theorem any_lkd {ls : List Lk} {l : Lk} : ((ls.map lkd).any fun e => decide (e.key = (lkd l).key)) = true ↔ l ∈ ls := by
  rw [List.any_map, List.any_eq_true]
  constructor
  · rintro ⟨m, hm, e⟩
    rw [← lkd_key_inj (of_decide_eq_true e)]
    exact hm
  · exact fun h => ⟨l, h, decide_eq_true rfl⟩
theorem addK_lkd {ls : List Lk} {l : Lk} : addK (ls.map lkd) (lkd l) = (addL ls l).map lkd := by
  unfold addK addL
  by_cases h : l ∈ ls
  · rw [if_pos (any_lkd.mpr h), if_pos h]
  · rw [if_neg (fun z => h (any_lkd.mp z)), if_neg h, List.map_append]
    rfl
/-- the dict of links -/
def lkT (ls : List Lk) : List (D × D) := trueT (ls.map lkd)
theorem lkT_len {ls : List Lk} : (lkT ls).length = ls.length := by unfold lkT trueT; simp
theorem putT_lk {ls : List Lk} {l : Lk} {k : NestedKey} (h : (lkd l).key = some k) : putT (lkd l) k (.bl true) (lkT ls) = lkT (addL ls l) := by
  unfold lkT
  rw [putT_true h, addK_lkd]
theorem findT_lk {ls : List Lk} {l : Lk} {k : NestedKey} (h : (lkd l).key = some k) : (findT k (lkT ls)).isSome = decide (l ∈ ls) := by
  unfold lkT
  rw [findT_true, ← h]
  by_cases hm : l ∈ ls
  · rw [if_pos (any_lkd.mpr hm), decide_eq_true hm]; rfl
  · rw [if_neg (fun z => hm (any_lkd.mp z)), decide_eq_false hm]; rfl
theorem fe_listD {X : Cx} {e : Expr} {p pos : Pos} {α : EF} (hc : X.calm = true) (hg : Gl X "list") (hm : X.mg "list" = none) (ha : FE X e α) (he : starEach [e] X.env = (false, eval e X.env) :: starEach [] X.env := by rfl) : FE X (.Call (.Name "list" p) [e] [] pos) (dLst (lCall gListDict (aCons α aNil))) :=
  fe_settle (fl_listDict hc hg hm ha (he := he))
theorem it_lst {α : EF} {ρ : Rho} {S : DS} {d : D} {ds : List D} (h : α ρ S = some d) (h2 : lstOf S d = some ds) : ∃ k, itLst α ρ S = some (ds, k) ∧ (k = none ∨ ∃ ad, k = some (ad, .lst ds) ∧ S ad = some (.lst ds)) := by
  unfold itLst
  rw [h]
  cases d with
  | lst xs => cases h2; exact ⟨_, rfl, .inl rfl⟩
  | ref ad =>
    simp only [lstOf] at h2
    simp only [Option.bind_some]
    cases q : S ad with
    | none => rw [q] at h2; cases h2
    | some c =>
      rw [q] at h2
      cases c with
      | lst xs => cases h2; exact ⟨_, rfl, .inr ⟨ad, rfl, q⟩⟩
      | _ => cases h2
  | _ => cases h2
theorem dictLc_go {ι : FI} {γ : Gam} {κ : FT} {ν : EF} {vs : List Nat} {G : DG} {E : DEnds} {ρ : Rho} {S : DS} {items : List D} {k : KeepC} {keep : D → Bool} {out : D → D} {ps : List (D × D)} (h1 : ι ρ S = some (items, k)) (hl : items.length ≤ 1000000)
    (h2 : ∀ d ∈ items, ∀ S', Le S S' → ∃ ρ2, γ d (wipeD ρ vs) = some ρ2 ∧ κ ρ2 S' = some (keep d) ∧ (keep d = true → ν ρ2 S' = some (out d))) (hp : pairsOf ((items.filter keep).map out) = some ps)
    (q : ∀ ad, S ad = none → G (.ref ad) ρ (put S ad (.dT (putAll [] ps))) E.nx) : dAsg (dDictP fun ρ S Q => asLst (lLc ι γ κ ν vs) ρ S fun d S1 => (fun ds S2 => Q (d :: ds) S2) [] S1) G E ρ S := by
  dsimp only [dAsg, dDictP, asLst]
  exact lc_go1 h1 hl h2 ⟨_, _, _, rfl, rfl, hp, by rw [List.length_map]; exact Nat.le_trans (List.length_filter_le _ _) hl, q⟩
theorem listD_go {α : EF} {ρ : Rho} {S : DS} {ad : Addr} {ls : List Lk} (h : α ρ S = some (.ref ad)) (hs : S ad = some (.dT (lkT ls))) : itLst (dLst (lCall gListDict (aCons α aNil))) ρ S = some (ls.map lkd, none) := by
  have e : dLst (lCall gListDict (aCons α aNil)) ρ S = some (.lst (ls.map lkd)) := by
    unfold dLst lCall
    rw [acons_go (ds := []) h rfl]
    show ((dictKeys S (.ref ad)).map D.lst) = _
    simp only [dictKeys, hs, Option.map_some]
    unfold lkT trueT
    rw [List.map_map, show ((fun x : D × D => x.fst) ∘ fun d => (d, D.bl true)) = id from rfl, List.map_id]
  unfold itLst
  rw [e]
  rfl
theorem lenD_go {α : EF} {ρ : Rho} {S : DS} {ad : Addr} {ls : List Lk} (h : α ρ S = some (.ref ad)) (hs : S ad = some (.dT (lkT ls))) : dCall gLenDict (aCons α aNil) ρ S = some (.int ls.length) := by
  unfold dCall
  rw [acons_go (ds := []) h rfl]
  show (dictKeys S (.ref ad)).map (fun ks => D.int ks.length) = _
  simp only [dictKeys, hs, Option.map_some]
  rw [List.length_map, lkT_len]
theorem pairs_lk : ∀ links : List Lk, pairsOf (links.map fun l => D.tup [lkd l, .bl true]) = some (links.map fun l => (lkd l, .bl true))
  | [] => rfl
  | l :: links => by
    rw [List.map_cons]
    show (match (lkd l).key with | some _ => (pairsOf (links.map fun l => D.tup [lkd l, .bl true])).map ((lkd l, D.bl true) :: ·) | none => none) = _
    rw [lkd_key, pairs_lk links]
    rfl
theorem putAll_lk : ∀ {links ls : List Lk}, putAll (lkT ls) (links.map fun l => (lkd l, .bl true)) = lkT (links.foldl addL ls)
  | [], _ => rfl
  | l :: links, ls => by
    rw [List.map_cons]
    show (match (lkd l).key with | some k => putAll (putT (lkd l) k (.bl true) (lkT ls)) (links.map fun l => (lkd l, .bl true)) | none => putAll (lkT ls) (links.map fun l => (lkd l, .bl true))) = _
    rw [lkd_key]
    show putAll (putT (lkd l) _ (.bl true) (lkT ls)) _ = _
    rw [putT_lk (lkd_key l), putAll_lk]
    rfl
theorem foldAdd_mem : ∀ {links ls : List Lk} {m : Lk}, m ∈ links.foldl addL ls ↔ m ∈ ls ∨ m ∈ links
  | [], _, _ => by simp
  | l :: links, ls, m => by
    rw [List.foldl_cons, foldAdd_mem, addL_mem, List.mem_cons, or_assoc]
/-- the links from the end of t by b -/
def lkGet (d : D) : Lk := match d with
  | .tup [.str a, .str b, .str c] => (a, b, c)
  | _ => ("", "", "")
theorem lkGet_lkd (l : Lk) : lkGet (lkd l) = l := rfl
theorem filter_lk {f : Lk → Bool} : ∀ {ls : List Lk}, (((ls.map lkd).filter fun d => f (lkGet d)).map fun d => D.str (lkGet d).2.2) = ((ls.filter f).map (·.2.2)).map .str
  | [] => rfl
  | l :: ls => by
    rw [List.map_cons]
    by_cases h : f l = true
    · rw [List.filter_cons_of_pos (by exact h), List.filter_cons_of_pos h, List.map_cons, filter_lk, List.map_cons, List.map_cons]
      rfl
    · rw [List.filter_cons_of_neg (by exact h), List.filter_cons_of_neg h, filter_lk]
theorem and_eqs {α α' β γ : EF} {ρ : Rho} {S : DS} {t x a r : Str} (h1 : α ρ S = some (.str t)) (h1' : α' ρ S = some (.str x)) (h2 : β ρ S = some (.str a)) (h3 : γ ρ S = some (.str r)) : bAnd (tb (dBin gEq α α')) (tb (dBin gEq β γ)) ρ S = some (decide (t = x) && decide (a = r)) := by
  have e1 : tb (dBin gEq α α') ρ S = some (decide (t = x)) := tb_go (by unfold dBin; rw [h1, h1']; rfl)
  have e2 : tb (dBin gEq β γ) ρ S = some (decide (a = r)) := tb_go (by unfold dBin; rw [h2, h3]; rfl)
  unfold bAnd
  rw [e1, e2]
  cases decide (t = x) <;> rfl
theorem fold_take {α β : Type} {f : α → β → α} {l : List β} {i : Nat} {x : β} {a : α} (h : l[i]? = some x) : (l.take (i + 1)).foldl f a = f ((l.take i).foldl f a) x := by
  rw [List.take_succ, h, List.foldl_append]
  rfl
theorem map_get {α β : Type} {f : α → β} {l : List α} {i : Nat} {y : β} (h : (l.map f)[i]? = some y) : ∃ x, l[i]? = some x ∧ y = f x := by
  rw [List.getElem?_map] at h
  obtain ⟨x, h1, h2⟩ := Option.map_eq_some_iff.mp h
  exact ⟨x, h1, h2.symm⟩
structure Good (book : List Say) (links : List Lk) (ls : List Lk) : Prop where
  nd : ls.Nodup
  sp : AllSp book links ls
theorem Good.len {book : List Say} {links ls U : List Lk} (h : Good book links ls) (hU : ∀ x r y, Sp book links x r y → (x, r, y) ∈ U) : ls.length ≤ U.length := nodup_le h.nd fun l hl => hU _ _ _ (h.sp l hl)
theorem Good.step {book : List Say} {links ls : List Lk} {t : Lk} {s : Say} (h : Good book links ls) (hs : s ∈ book) (ht : Sp book links t.1 t.2.1 t.2.2) : Good book links (stepSay t ls s) := ⟨stepSay_nodup h.nd, stepSay_sp hs ht h.sp⟩
theorem Good.add {book : List Say} {links ls : List Lk} {l : Lk} (h : Good book links ls) (k : Sp book links l.1 l.2.1 l.2.2) : Good book links (addL ls l) := ⟨addL_nodup h.nd, addL_sp h.sp k⟩
theorem dput_lk {α β γ : EF} {E : DEnds} {ρ : Rho} {S : DS} {ad : Addr} {ls : List Lk} {l : Lk} (h1 : α ρ (put S ad (.dT (lkT ls))) = some (.ref ad)) (h2 : β ρ (put S ad (.dT (lkT ls))) = some (lkd l)) (h3 : γ ρ (put S ad (.dT (lkT ls))) = some (.bl true)) (hl : ls.length ≤ 1000)
    (q : E.nx ρ (put S ad (.dT (lkT (addL ls l))))) : dDput (fE α) (fE β) (fE γ) E ρ (put S ad (.dT (lkT ls))) :=
  dput_go h1 h2 h3 (putD_T put_same (lkd_key l) (by rw [lkT_len]; omega)) (by rw [putT_lk (lkd_key l), put_put]; exact q)
theorem asgLc_go {ι : FI} {γ : Gam} {κ : FT} {ν : EF} {vs : List Nat} {G : DG} {E : DEnds} {ρ : Rho} {S : DS} {items : List D} {k : KeepC} {keep : D → Bool} {out : D → D} (h1 : ι ρ S = some (items, k)) (hl : items.length ≤ 1000000)
    (h2 : ∀ d ∈ items, ∀ S', Le S S' → ∃ ρ2, γ d (wipeD ρ vs) = some ρ2 ∧ κ ρ2 S' = some (keep d) ∧ (keep d = true → ν ρ2 S' = some (out d))) (q : G (.lst ((items.filter keep).map out)) ρ S E.nx) : dAsg (asLst (lLc ι γ κ ν vs)) G E ρ S := by
  dsimp only [dAsg, asLst]
  exact lc_go1 h1 hl h2 q
theorem keys_lk {ls : List Lk} : (lkT ls).map (·.1) = ls.map lkd := by
  unfold lkT trueT
  rw [List.map_map, show ((fun x : D × D => x.fst) ∘ fun d => (d, D.bl true)) = id from rfl, List.map_id]
theorem itKeys_lk {α : EF} {ρ : Rho} {S : DS} {ad : Addr} {od : Obj} {u : HO} {ls : List Lk} (h : α ρ S = some (.ref ad)) (hs : S ad = some (.lT od u (lkT ls))) : itKeys α ρ S = some (ls.map lkd, some (ad, .lT od u (lkT ls))) := by
  unfold itKeys
  rw [h]
  simp only [Option.bind_some, hs]
  rw [keys_lk]
theorem lenEq_go {α β : EF} {ρ : Rho} {S : DS} {ad : Addr} {ls : List Lk} {n : Nat} (h1 : α ρ S = some (.ref ad)) (h2 : β ρ S = some (.int n)) (hs : S ad = some (.dT (lkT ls))) : tb (dBin gEq (dCall gLenDict (aCons α aNil)) β) ρ S = some (decide (ls.length = n)) := by
  refine tb_go ?_
  unfold dBin
  rw [lenD_go h1 hs, h2]
  show some (D.bl (decide ((ls.length : Int) = n))) = _
  congr 2
  rw [decide_eq_decide]
  omega
theorem endsL_sp {book : List Say} {links ls : List Lk} {ta tr tc a b c : Str} (hs : Say.chain a b c ∈ book) (ha : a = tr) (ht : Sp book links ta tr tc) (h : AllSp book links ls) : ∀ z ∈ endsL (ta, tr, tc) b ls, Sp book links ta c z := fun z hz => by
  unfold endsL at hz
  obtain ⟨l, hl, rfl⟩ := List.mem_map.mp hz
  obtain ⟨hl, hc⟩ := List.mem_filter.mp hl
  obtain ⟨e1, e2⟩ := of_decide_eq_true hc
  have := h l hl
  rw [e1, e2] at this
  subst ha
  exact .chain hs ht this
def dspSpread : DSp := fun ds S Q => ∃ (book : List Say) (links : List Lk) (d : D) (U : List Lk), ds = [.tup (book.map Say.d), d] ∧ lstOf S d = some (links.map lkd) ∧ book.length ≤ 1000 ∧ links.length ≤ 1000 ∧ (∀ x r y, Sp book links x r y → (x, r, y) ∈ U) ∧ U.length ≤ 1000 ∧
  ∀ p ls, S p = none → (∀ x r y, (x, r, y) ∈ ls ↔ Sp book links x r y) → ls.length ≤ 1000 → Q (.ref p) (put S p (.dT (lkT ls)))
end KD
set_option Elab.async false
set_option linter.all false
set_option maxRecDepth 100000
set_option maxHeartbeats 1000000
/-! Calls with keywords. -/
namespace KD
open PySem PySem.Spec PyProof.Rows L2 Evl C8
def pickI {α : Type} (idx : List Nat) (xs : List α) : List α := idx.filterMap fun i => xs[i]?
/-- nu arguments by place, nw by keyword, put in the parameters' order -/
def gK {α : Type} (nu nw : Nat) (idx : List Nat) (us ws : List α) : List α := if us.length = nu ∧ ws.length = nw then pickI idx (us ++ ws) else []
theorem vals_app {vs : List V} {us : List Value} {zs : List V} {ws : List Value} (r : Vals vs us) (q : Vals zs ws) : Vals (vs ++ zs) (us ++ ws) := r.append q
theorem vals_get : ∀ {vs : List V} {us : List Value}, Vals vs us → ∀ i : Nat, (vs[i]? = none ∧ us[i]? = none) ∨ ∃ v u, vs[i]? = some v ∧ us[i]? = some u ∧ RelV v u
  | _, _, .nil, i => .inl (by simp)
  | _, _, .cons r t, 0 => .inr ⟨_, _, rfl, rfl, r⟩
  | _, _, .cons r t, i + 1 => by simpa using vals_get t i
theorem vals_pick {vs : List V} {us : List Value} (r : Vals vs us) : ∀ idx : List Nat, Vals (pickI idx vs) (pickI idx us)
  | [] => .nil
  | i :: idx => by
    unfold pickI
    rcases vals_get r i with ⟨e1, e2⟩ | ⟨v, u, e1, e2, h⟩
    · rw [List.filterMap_cons, List.filterMap_cons, e1, e2]; exact vals_pick r idx
    · rw [List.filterMap_cons, List.filterMap_cons, e1, e2]; exact .cons h (vals_pick r idx)
theorem rpl_get {K : PySem.W.Frag} {F : Hp} : ∀ {vs : List V} {ds : List D}, RpL K F vs ds → ∀ i : Nat, (vs[i]? = none ∧ ds[i]? = none) ∨ ∃ v d, vs[i]? = some v ∧ ds[i]? = some d ∧ Rp K F v d
  | _, _, .nil, i => .inl (by simp)
  | _, _, .cons r t, 0 => .inr ⟨_, _, rfl, rfl, r⟩
  | _, _, .cons r t, i + 1 => by simpa using rpl_get t i
theorem rpl_pick {K : PySem.W.Frag} {F : Hp} {vs : List V} {ds : List D} (r : RpL K F vs ds) : ∀ idx : List Nat, RpL K F (pickI idx vs) (pickI idx ds)
  | [] => .nil
  | i :: idx => by
    unfold pickI
    rcases rpl_get r i with ⟨e1, e2⟩ | ⟨v, u, e1, e2, h⟩
    · rw [List.filterMap_cons, List.filterMap_cons, e1, e2]; exact rpl_pick r idx
    · rw [List.filterMap_cons, List.filterMap_cons, e1, e2]; exact .cons h (rpl_pick r idx)
theorem vals_gK {nu nw : Nat} {idx : List Nat} {vs : List V} {us : List Value} {zs : List V} {ws : List Value} (r : Vals vs us) (q : Vals zs ws) : Vals (gK nu nw idx vs zs) (gK nu nw idx us ws) := by
  unfold gK
  rw [r.length, q.length]
  split
  · exact vals_pick (vals_app r q) idx
  · exact .nil
theorem rpl_gK {K : PySem.W.Frag} {F : Hp} {nu nw : Nat} {idx : List Nat} {vs zs : List V} {ds es : List D} (r : RpL K F vs ds) (q : RpL K F zs es) : RpL K F (gK nu nw idx vs zs) (gK nu nw idx ds es) := by
  unfold gK
  rw [r.length, q.length]
  split
  · exact rpl_pick (r.append q) idx
  · exact .nil
structure HasKw (P : Program) (w : World) (K : PySem.W.Frag) (mg : Str → Option Value) (base : Heap) (k : Nat) (x : Str) (n nu nw : Nat) (idx : List Nat) (ks : List Str) (dsp : DSp) : Prop where
  ex : ∃ (f : Addr) (fd : FuncData) (ps : List Str), FnOk P w K mg base C8.CX0 k f fd ps (spOf P w K n dsp) ∧ mg x = some (.ref f) ∧ PySem.W.keepIn K (.ref f) = true ∧ KBinds K fd ps ks (gK nu nw idx) (gK nu nw idx)
section
variable {P : Program} {w : World} {K : PySem.W.Frag} {mg : Str → Option Value} {base : Heap}
/-- a def with its function object -/
structure HasD (P : Program) (w : World) (K : PySem.W.Frag) (mg : Str → Option Value) (base : Heap) (k : Nat) (x : Str) (st : Stmt) (ps : List Str) (dsp : DSp) : Prop where
  ex : ∃ (f : Addr) (fd : FuncData), FunD K x x (defArgs st) (defBody st) (defScope st) [] [] f fd ∧ FnOk P w K mg base C8.CX0 k f fd ps (spOf P w K ps.length dsp) ∧ mg x = some (.ref f)
theorem hasD_ok {x : Str} {st : Stmt} {N ps : List Str} {k : Nat} {dsp : DSp} (dn : Dn K mg x st) (Sc : FnScope N ps (defScope st))
    (h : ∀ (f : Addr) (cdv : Value) (A : Around) (outer : List Env) (s : Shared) (H : Hp) (E : XK), Room k (A.deeper (envOfC x (defScope st) s.heap.objs.size f cdv)) →
      ∃ T : DTS, WSs (cxOf C8.CX0 P w K mg base N x (defScope st) f cdv A outer s H E).nox (defBody st) T ∧ ∀ ds S Q, ds.length = ps.length → dsp ds S Q → T { nx := fun _ S1 => RdQ Q .non S1, rt := RdQ Q } (startD N ds) S) :
    HasD P w K mg base (k + 1) x st ps dsp := by
  obtain ⟨f, fd, F, hm⟩ := dn
  exact ⟨f, fd, F, fn_ok F Sc (h f), hm⟩
theorem HasD.has {x : Str} {st : Stmt} {ps : List Str} {k : Nat} {dsp : DSp} (h : HasD P w K mg base k x st ps dsp) (hb : BindsAll x x st ps) : Has P w K mg base k x ps.length dsp := by
  obtain ⟨f, fd, F, Fn, hm⟩ := h.ex
  exact ⟨f, fd, ps, [], Fn, hm, F.kp, F.bindsN hb, .nil⟩
abbrev BindsKw (x qual : Str) (st : Stmt) (ps ks : List Str) (nu nw : Nat) (idx : List Nat) : Prop := ∀ (kV doc pm : Value) (an : Option Addr) (cdv ct : Value) (us ws : List Value), us.length = nu → ws.length = nw → bindArgs (PySem.W.fnOf x qual (defArgs st) (defBody st) (defScope st) .none kV doc pm an cdv ct) ⟨us, ks.zip ws⟩ = pure (ps.zip (pickI idx (us ++ ws)))
theorem HasD.kw {x : Str} {st : Stmt} {ps ks : List Str} {k nu nw : Nat} {idx : List Nat} {dsp : DSp} (h : HasD P w K mg base k x st ps dsp) (hp : ps.length ≠ 0) (hb : BindsKw x x st ps ks nu nw idx) : HasKw P w K mg base k x ps.length nu nw idx ks dsp := by
  obtain ⟨f, fd, F, Fn, hm⟩ := h.ex
  refine ⟨f, fd, ps, Fn, hm, F.kp, ⟨fun s us ws hK hl => ?_, vals_gK⟩⟩
  obtain ⟨oc, od, dV, kV, doc, pm, an, cdv, ct, osl, rfl, lk, hcd, hD, hK⟩ := F.ex
  rcases hD with ⟨_, rfl⟩ | ⟨e, _⟩
  · unfold gK at hl ⊢
    split at hl
    · next hc =>
      rw [if_pos hc]
      exact .of_eq (hb kV doc pm an cdv ct us ws hc.1 hc.2)
    · exact absurd hl.symm hp
  · exact absurd rfl e
end
section
variable {X : Cx} {ρ : Rho} {pos p kpos : Pos} {e : Expr} {es : List Expr} {k j n nu nw : Nat} {idx : List Nat} {x : Str} {dsp : DSp} {U U' : DA}
theorem we_callKw {kws : List Keyword} {ks : List Str} (h : HasKw X.prog X.w X.K X.mg X.base k x n nu nw idx ks dsp) (hr : Room j X.A) (hk : k ≤ j) (hg : Gl X x) (ha : WA X (e :: es) U) (hkw : WK X kws U') (hall : (backToKw pos (keywordEach kws X.env)).all (·.1.isSome) = true := by rfl) (hks : (backToKw pos (keywordEach kws X.env)).filterMap (·.1) = ks := by rfl)
    (hdb : (x == ("__debug__" : Str)) = false := by decide) (he : starEach (e :: es) X.env = (false, eval e X.env) :: starEach es X.env := by rfl)
    (hpl : ((backTo pos (starEach (e :: es) X.env)).any (·.1) || (backToKw pos (keywordEach kws X.env)).any (·.1.isNone)) = false := by rfl) :
    WE X (.Call (.Name x p) (e :: es) kws pos) (dCallW n dsp fun ρ S Q => U ρ S fun ds S1 => U' ρ S1 fun zs S2 => Q (gK nu nw idx ds zs) S2) := by
  obtain ⟨fa, fd, ps, Fn, hm, kp, b⟩ := h.ex
  exact PE.imp (pe_callK (Fn.mono hk) hr hg hm kp b C8.pass0 ha hkw hall hks hdb he hpl) fun σ H Q ⟨F, ρ, S, Q', rl, en, t, kt⟩ =>
    ⟨F, ρ, S, _, rl, en, t, fun vs H1 F1 S1 ds x1 r1 p1 q1 => ⟨F1, ρ, S1, _, r1, en.mono x1, q1, fun zs H2 F2 S2 es2 x2 r2 p2 ⟨hl, q2⟩ => sp_go (E := C8.E0) r2 (rpl_gK (p1.mono x2) p2) hl q2 (kt.mono (x1.trans x2))⟩⟩
end
end KD
set_option Elab.async false
set_option linter.all false
set_option maxRecDepth 100000
set_option maxHeartbeats 2000000
/-! Books of roles and chains, links between persons: what is told. -/
namespace KD
open PySem PySem.Spec PyProof.Rows L2 Evl
theorem addK_mem {ks : List D} {d x : D} (h : x ∈ addK ks d) : x ∈ ks ∨ x = d := by
  unfold addK at h
  split at h
  · exact .inl h
  · simpa using h
theorem addK_sub {ks : List D} {d x : D} (h : x ∈ ks) : x ∈ addK ks d := by
  unfold addK
  split
  · exact h
  · exact List.mem_append_left _ h
theorem addKs_mem : ∀ {ds ks : List D} {x : D}, x ∈ addKs ks ds → x ∈ ks ∨ x ∈ ds
  | [], _, _, h => .inl h
  | d :: ds, ks, x, h => by
    rcases addKs_mem (ds := ds) (ks := addK ks d) h with h | h
    · rcases addK_mem h with h | rfl
      · exact .inl h
      · exact .inr List.mem_cons_self
    · exact .inr (List.mem_cons_of_mem _ h)
theorem addKs_sub : ∀ {ds ks : List D} {x : D}, x ∈ ks → x ∈ addKs ks ds
  | [], _, _, h => h
  | d :: ds, ks, x, h => addKs_sub (ds := ds) (ks := addK ks d) (addK_sub h)
theorem addK_key {ks : List D} {d : D} (h : ∀ x ∈ ks, KeyOk x) (hd : KeyOk d) : d ∈ addK ks d := by
  unfold addK
  split
  · next ha =>
    obtain ⟨e, he, hk⟩ := List.any_eq_true.mp ha
    rw [← keyOk_inj (h e he) hd (of_decide_eq_true hk)]
    exact he
  · simp
theorem addKs_key : ∀ {ds ks : List D} {x : D}, (∀ x ∈ ks, KeyOk x) → (∀ x ∈ ds, KeyOk x) → x ∈ ds → x ∈ addKs ks ds
  | d :: ds, ks, x, h1, h2, hx => by
    have hd := h2 d List.mem_cons_self
    rcases List.mem_cons.mp hx with rfl | hx
    · exact addKs_sub (ds := ds) (addK_key h1 hd)
    · refine addKs_key (ds := ds) (ks := addK ks d) (fun y hy => ?_) (fun y hy => h2 y (List.mem_cons_of_mem _ hy)) hx
      rcases addK_mem hy with hy | rfl
      · exact h1 y hy
      · exact hd
abbrev saD (r : Str) : D := someD r anyD
theorem any_key : KeyOk anyD ∧ (nkD anyD).depth ≤ 4 := ⟨⟨any_td.1, key_td any_td.1 (Nat.le_trans any_td.2 (by decide))⟩, any_td.2⟩
theorem none_key : KeyOk noneD ∧ (nkD noneD).depth ≤ 4 := ⟨⟨none_td.1, key_td none_td.1 (Nat.le_trans none_td.2 (by decide))⟩, none_td.2⟩
theorem psn_key (p : Str) : KeyOk (psn p) ∧ (nkD (psn p)).depth ≤ 4 := ⟨⟨(psn_td p).1, key_td (psn_td p).1 (Nat.le_trans (psn_td p).2 (by decide))⟩, (psn_td p).2⟩
theorem sa_td (r : Str) : TD (saD r) = true ∧ (nkD (saD r)).depth ≤ 4 := by
  refine ⟨rfl, ?_⟩
  show (NestedKey.depth (.tup [.text "some", .text r, .tup [.text "any"]])) ≤ 4
  simp [NestedKey.depth, NestedKey.depthAll]
theorem sa_key (r : Str) : KeyOk (saD r) ∧ (nkD (saD r)).depth ≤ 4 := ⟨⟨(sa_td r).1, key_td (sa_td r).1 (Nat.le_trans (sa_td r).2 (by decide))⟩, (sa_td r).2⟩
theorem any_ne_none : anyD ≠ noneD := by
  intro e; injection e with e; injection e with e _; injection e with e; exact absurd e (by decide)
theorem psn_ne_any {p : Str} : psn p ≠ anyD := by
  intro e; injection e with e; injection e with e _; injection e with e; exact absurd e (by decide)
theorem psn_ne_none {p : Str} : psn p ≠ noneD := by
  intro e; injection e with e; injection e with e _; injection e with e; exact absurd e (by decide)
theorem some_ne_any {r : Str} {e : D} : someD r e ≠ anyD := by
  intro e; injection e with e; injection e with e _; injection e with e; exact absurd e (by decide)
theorem some_ne_none {r : Str} {e : D} : someD r e ≠ noneD := by
  intro e; injection e with e; injection e with e _; injection e with e; exact absurd e (by decide)
theorem some_ne_psn {r p : Str} {e : D} : someD r e ≠ psn p := by
  intro e; injection e with e; injection e with e _; injection e with e; exact absurd e (by decide)
theorem psn_inj {p q : Str} (h : psn p = psn q) : p = q := by
  injection h with h; injection h with _ h; injection h with h _; injection h
structure Setup (book : List Say) (facts : List KD.Fa) (rs ps : List Str) : Prop where
  bk : ∀ s ∈ book, s.inn rs
  bl : book.length ≤ 100
  rl : rs.length ≤ 20
  rw : ∀ r ∈ rs, isW r = true
  fk : ∀ f ∈ facts, (∃ x r y, f = .to x r y ∧ x ∈ ps ∧ r ∈ rs ∧ y ∈ ps) ∨ ∃ x, f = .is x anyD ∧ x ∈ ps
  fl : facts.length ≤ 100
  pw : ∀ p ∈ ps, isW p = true
  pl : ps.length ≤ 40
def linksOf (facts : List KD.Fa) : List Lk := facts.filterMap fun f => match f with
  | .to x r y => some (x, r, y)
  | .is _ _ => none
structure KlOk (rs : List Str) (kl : List D) : Prop where
  le : kl.length ≤ 1
  sa : ∀ k ∈ kl, ∃ r ∈ rs, k = saD r
def plW (kl : List D) (ps : List Str) : List D := [anyD, noneD] ++ kl ++ ps.map psn
def uW (pl : List D) (rs : List Str) : List D := (pl.flatMap fun s => pl.map fun k => (Cn.bel s k).d) ++ pl.flatMap fun s => rs.flatMap fun r => pl.map fun e => (Cn.lnk s r e).d
def unW (pl : List D) (rs : List Str) : Cn → Prop
  | .bel s k => s ∈ pl ∧ k ∈ pl
  | .lnk s r e => s ∈ pl ∧ r ∈ rs ∧ e ∈ pl
def world (book : List Say) (facts : List KD.Fa) (kl : List D) (rs ps : List Str) : Wo where
  book := book.zipIdx
  kinds := sortD (askedD (book.map Say.d) (facts.map Fa.d) kl)
  U := uW (plW kl ps) rs
  Un := unW (plW kl ps) rs
  P := (· ∈ plW kl ps)
theorem flat_le {α β : Type} {f : α → List β} {n : Nat} : ∀ {l : List α}, (∀ x ∈ l, (f x).length ≤ n) → (l.flatMap f).length ≤ l.length * n
  | [], _ => by simp
  | x :: l, h => by
    rw [List.flatMap_cons, List.length_append, List.length_cons, Nat.add_mul, Nat.one_mul]
    have h1 := h x List.mem_cons_self
    have h2 := flat_le (l := l) fun y hy => h y (List.mem_cons_of_mem _ hy)
    omega
section
variable {book : List Say} {facts : List KD.Fa} {kl : List D} {rs ps : List Str}
theorem kos_none (book : List Say) : kosD (book.map Say.d) = [] := by
  unfold kosD
  rw [List.flatMap_eq_nil_iff]
  intro d hd
  obtain ⟨s, _, rfl⟩ := List.mem_map.mp hd
  cases s <;> rfl
theorem kof_any (h : Setup book facts rs ps) : ∀ d ∈ (facts.map Fa.d).flatMap kofF, d = anyD := fun d hd => by
  obtain ⟨x, hx, hd⟩ := List.mem_flatMap.mp hd
  obtain ⟨f, hf, rfl⟩ := List.mem_map.mp hx
  rcases h.fk f hf with ⟨x, r, y, rfl, _⟩ | ⟨x, rfl, _⟩
  · cases hd
  · exact List.mem_singleton.mp hd
theorem whole_mem (h : Setup book facts rs ps) (hk : KlOk rs kl) : ∀ d ∈ wholeD (book.map Say.d) (facts.map Fa.d) kl, d = anyD ∨ d ∈ kl := fun d hd => by
  unfold wholeD at hd
  rw [kos_none, List.nil_append] at hd
  rcases List.mem_append.mp hd with hd | hd
  · exact .inr hd
  · exact .inl (kof_any h d hd)
theorem parts_any : partsD 9 anyD = [anyD] := rfl
theorem parts_sa (r : Str) : partsD 9 (saD r) = [saD r, anyD] := rfl
theorem parts_mem (h : Setup book facts rs ps) (hk : KlOk rs kl) : ∀ d ∈ (wholeD (book.map Say.d) (facts.map Fa.d) kl).flatMap (partsD 9), d = anyD ∨ d ∈ kl := fun d hd => by
  obtain ⟨x, hx, hd⟩ := List.mem_flatMap.mp hd
  rcases whole_mem h hk x hx with rfl | hx
  · exact .inl (List.mem_singleton.mp hd)
  · obtain ⟨r, hr, rfl⟩ := hk.sa x hx
    rw [parts_sa] at hd
    rcases List.mem_cons.mp hd with rfl | hd
    · exact .inr hx
    · exact .inl (List.mem_singleton.mp hd)
theorem asked_mem (h : Setup book facts rs ps) (hk : KlOk rs kl) : ∀ d ∈ askedD (book.map Say.d) (facts.map Fa.d) kl, d = anyD ∨ d = noneD ∨ d ∈ kl := fun d hd => by
  rcases addKs_mem hd with hd | hd
  · rcases List.mem_cons.mp hd with rfl | hd
    · exact .inl rfl
    · exact .inr (.inl (List.mem_singleton.mp hd))
  · rcases parts_mem h hk d hd with h | h
    · exact .inl h
    · exact .inr (.inr h)
theorem kind_mem (h : Setup book facts rs ps) (hk : KlOk rs kl) {d : D} (hd : d ∈ (world book facts kl rs ps).kinds) : d = anyD ∨ d = noneD ∨ d ∈ kl := asked_mem h hk d ((sortD_perm _).mem_iff.mp hd)
theorem asked_any (book : List Say) (facts : List KD.Fa) (kl : List D) : anyD ∈ askedD (book.map Say.d) (facts.map Fa.d) kl := addKs_sub List.mem_cons_self
theorem asked_kl (h : Setup book facts rs ps) (hk : KlOk rs kl) {d : D} (hd : d ∈ kl) : d ∈ askedD (book.map Say.d) (facts.map Fa.d) kl := by
  have key : ∀ x, x = anyD ∨ x ∈ kl → KeyOk x := fun x hx => by
    rcases hx with rfl | hx
    · exact any_key.1
    · obtain ⟨r, _, rfl⟩ := hk.sa x hx
      exact (sa_key r).1
  refine addKs_key (fun x hx => ?_) (fun x hx => key x (parts_mem h hk x hx)) ?_
  · rcases List.mem_cons.mp hx with rfl | hx
    · exact any_key.1
    · rw [List.mem_singleton.mp hx]; exact none_key.1
  · refine List.mem_flatMap.mpr ⟨d, ?_, ?_⟩
    · unfold wholeD
      exact List.mem_append_left _ (List.mem_append_right _ hd)
    · obtain ⟨r, _, rfl⟩ := hk.sa d hd
      rw [parts_sa]
      exact List.mem_cons_self
theorem wf_any : wfK 9 anyD = true := rfl
theorem wf_sa {r : Str} (h : isW r = true) : wfK 9 (saD r) = true := by
  show (decide (("some" : Str) = "some") && isW r && wfK 8 anyD) = true
  rw [h]; rfl
theorem wfS_d (h : Setup book facts rs ps) : ∀ d ∈ book.map Say.d, wfS 9 d = true := fun d hd => by
  obtain ⟨s, hs, rfl⟩ := List.mem_map.mp hd
  have := h.bk s hs
  cases s with
  | role a b =>
    show ((decide (("role" : Str) = "below") && wfK 9 (.str a) && wfK 9 (.str b)) || (decide (("role" : Str) = "role") && isW a && isW b)) = true
    rw [h.rw a this.1, h.rw b this.2]; simp
  | chain a b c =>
    show (decide (("chain" : Str) = "chain") && isW a && isW b && isW c) = true
    rw [h.rw a this.1, h.rw b this.2.1, h.rw c this.2.2]; simp
theorem wfF_d (h : Setup book facts rs ps) : ∀ d ∈ facts.map Fa.d, wfF 9 d = true := fun d hd => by
  obtain ⟨f, hf, rfl⟩ := List.mem_map.mp hd
  rcases h.fk f hf with ⟨x, r, y, rfl, hx, hr, hy⟩ | ⟨x, rfl, hx⟩
  · show (decide (("to" : Str) = "to") && isW x && isW r && isW y) = true
    rw [h.pw x hx, h.rw r hr, h.pw y hy]; simp
  · show (decide (("is" : Str) = "is") && isW x && wfK 9 anyD) = true
    rw [h.pw x hx, wf_any]; simp
theorem few_whole (h : Setup book facts rs ps) (hk : KlOk rs kl) : (wholeD (book.map Say.d) (facts.map Fa.d) kl).length ≤ 101 := by
  unfold wholeD
  rw [kos_none, List.nil_append, List.length_append]
  have h1 := flat_le (f := kofF) (n := 1) (l := facts.map Fa.d) fun x _ => kofF_len x
  have := hk.le
  have := h.fl
  rw [List.length_map] at h1
  omega
theorem few_parts (h : Setup book facts rs ps) (hk : KlOk rs kl) : ((wholeD (book.map Say.d) (facts.map Fa.d) kl).flatMap (partsD 9)).length ≤ 202 := by
  have h1 := flat_le (f := partsD 9) (n := 2) (l := wholeD (book.map Say.d) (facts.map Fa.d) kl) fun x hx => by
    rcases whole_mem h hk x hx with rfl | hx
    · rw [parts_any]; simp
    · obtain ⟨r, _, rfl⟩ := hk.sa x hx
      rw [parts_sa]; simp
  have := few_whole h hk
  omega
theorem alike_any_sa {r : Str} : ∀ a b, (a = anyD ∨ a = noneD ∨ a = saD r) → (b = anyD ∨ b = noneD ∨ b = saD r) → PySem.W.alike a.py b.py = true := by
  rintro a b (rfl | rfl | rfl) (rfl | rfl | rfl) <;> rfl
theorem asked_sort (h : Setup book facts rs ps) (hk : KlOk rs kl) : SortOk (askedD (book.map Say.d) (facts.map Fa.d) kl) := by
  have hm := asked_mem h hk
  have hr : ∃ r : Str, ∀ d ∈ kl, d = saD r := by
    match kl, hk with
    | [], _ => exact ⟨"", fun d hd => nomatch hd⟩
    | [k], hk =>
      obtain ⟨r, _, rfl⟩ := hk.sa k List.mem_cons_self
      exact ⟨r, fun d hd => List.mem_singleton.mp hd⟩
    | _ :: _ :: _, hk => exact absurd hk.le (by simp)
  obtain ⟨r, hr⟩ := hr
  have hm : ∀ d ∈ askedD (book.map Say.d) (facts.map Fa.d) kl, d = anyD ∨ d = noneD ∨ d = saD r := fun d hd => by
    rcases hm d hd with e | e | e
    · exact .inl e
    · exact .inr (.inl e)
    · exact .inr (.inr (hr d e))
  refine ⟨fun x hx y hy => ?_, .inl fun x hx => ?_, ?_, fun d hd => ?_⟩
  · obtain ⟨a, ha, rfl⟩ := List.mem_map.mp hx
    obtain ⟨b, hb, rfl⟩ := List.mem_map.mp hy
    exact alike_any_sa a b (hm a ha) (hm b hb)
  · obtain ⟨a, ha, rfl⟩ := List.mem_map.mp hx
    rcases hm a ha with rfl | rfl | rfl <;> exact ⟨_, _, rfl⟩
  · have h1 := addKs_len (ds := (wholeD (book.map Say.d) (facts.map Fa.d) kl).flatMap (partsD 9)) (ks := [anyD, noneD])
    have h2 := few_parts h hk
    simp only [List.length_cons, List.length_nil] at h1
    show (addKs _ _).length ≤ 1000000
    omega
  · rcases hm d hd with rfl | rfl | rfl
    · decide
    · decide
    · simp [D.py, D.pys, someD, anyD, PyData.depth, PyData.depthAll]
theorem sort_len (h : Setup book facts rs ps) (hk : KlOk rs kl) : (world book facts kl rs ps).kinds.length ≤ 204 := by
  show (sortD _).length ≤ 204
  rw [(sortD_perm _).length_eq]
  have h1 := addKs_len (ds := (wholeD (book.map Say.d) (facts.map Fa.d) kl).flatMap (partsD 9)) (ks := [anyD, noneD])
  have h2 := few_parts h hk
  simp only [List.length_cons, List.length_nil] at h1
  show (addKs _ _).length ≤ 204
  omega
theorem ask_ok (h : Setup book facts rs ps) (hk : KlOk rs kl) : AskOk (book.map Say.d) (facts.map Fa.d) kl where
  b := wfS_d h
  lb := by rw [List.length_map]; have := h.bl; omega
  f := wfF_d h
  lf := by rw [List.length_map]; have := h.fl; omega
  k := fun d hd => by
    obtain ⟨r, hr, rfl⟩ := hk.sa d hd
    exact wf_sa (h.rw r hr)
  lk := by have := hk.le; omega
  wf := fun d hd => by
    rcases whole_mem h hk d hd with rfl | hd
    · exact wf_any
    · obtain ⟨r, hr, rfl⟩ := hk.sa d hd
      exact wf_sa (h.rw r hr)
  few := by have := few_parts h hk; omega
  key := fun d hd => by
    rcases parts_mem h hk d hd with rfl | hd
    · exact ⟨_, any_key.1.2⟩
    · obtain ⟨r, hr, rfl⟩ := hk.sa d hd
      exact ⟨_, (sa_key r).1.2⟩
  sort := asked_sort h hk
theorem pl_cases (hk : KlOk rs kl) {d : D} (hd : d ∈ plW kl ps) : d = anyD ∨ d = noneD ∨ (∃ r ∈ rs, d = saD r ∧ d ∈ kl) ∨ ∃ p ∈ ps, d = psn p := by
  unfold plW at hd
  rcases List.mem_append.mp hd with hd | hd
  · rcases List.mem_append.mp hd with hd | hd
    · rcases List.mem_cons.mp hd with rfl | hd
      · exact .inl rfl
      · exact .inr (.inl (List.mem_singleton.mp hd))
    · obtain ⟨r, hr, rfl⟩ := hk.sa d hd
      exact .inr (.inr (.inl ⟨r, hr, rfl, hd⟩))
  · obtain ⟨p, hp, rfl⟩ := List.mem_map.mp hd
    exact .inr (.inr (.inr ⟨p, hp, rfl⟩))
theorem pl_any {kl : List D} {ps : List Str} : anyD ∈ plW kl ps := by unfold plW; simp
theorem pl_none {kl : List D} {ps : List Str} : noneD ∈ plW kl ps := by unfold plW; simp
theorem pl_kl {kl : List D} {ps : List Str} {d : D} (h : d ∈ kl) : d ∈ plW kl ps := by unfold plW; simp [h]
theorem pl_psn {kl : List D} {ps : List Str} {p : Str} (h : p ∈ ps) : psn p ∈ plW kl ps := by unfold plW; exact List.mem_append_right _ (List.mem_map_of_mem h)
theorem kind_pl (h : Setup book facts rs ps) (hk : KlOk rs kl) {d : D} (hd : d ∈ (world book facts kl rs ps).kinds) : d ∈ plW kl ps := by
  rcases kind_mem h hk hd with rfl | rfl | hd
  · exact pl_any
  · exact pl_none
  · exact pl_kl hd
theorem says_eq (book : List Say) (facts : List KD.Fa) (kl : List D) (rs ps : List Str) : (world book facts kl rs ps).says = book := by
  show (book.zipIdx).map (·.1) = book
  exact List.zipIdx_map_fst 0 book
theorem pl_key (hk : KlOk rs kl) {d : D} (hd : d ∈ plW kl ps) : KeyOk d ∧ (nkD d).depth ≤ 4 := by
  rcases pl_cases hk hd with rfl | rfl | ⟨r, _, rfl, _⟩ | ⟨p, _, rfl⟩
  · exact any_key
  · exact none_key
  · exact sa_key r
  · exact psn_key p
theorem un_cl (h : Setup book facts rs ps) (hk : KlOk rs kl) : ∀ c, (world book facts kl rs ps).Con (unW (plW kl ps) rs) c → unW (plW kl ps) rs c := fun c hc => by
  have hb : ∀ s, s ∈ (world book facts kl rs ps).says → s.inn rs := fun s hs => h.bk s (by rw [says_eq] at hs; exact hs)
  cases hc with
  | role h1 h2 => exact ⟨h2.1, (hb _ h1).2, h2.2.2⟩
  | chain h1 h2 h3 => exact ⟨h2.1, (hb _ h1).2.2, h3.2.2⟩
  | @opn s r e h1 =>
    rcases pl_cases hk h1.2 with e | e | ⟨r2, hr, e, _⟩ | ⟨p, _, e⟩
    · exact absurd e some_ne_any
    · exact absurd e some_ne_none
    · obtain ⟨rfl, rfl⟩ := someD_inj e
      exact ⟨h1.1, hr, pl_any⟩
    · exact absurd e some_ne_psn
  | close h1 h2 h3 => exact ⟨h2.1, kind_pl h hk h1⟩
  | empty h1 h2 => exact ⟨h1.1, pl_none⟩
  | nothing h1 h2 => exact ⟨h1.1, kind_pl h hk h2⟩
theorem lnk_key4 {s e : D} {r : Str} (h1 : KeyOk s ∧ (nkD s).depth ≤ 4) (h2 : KeyOk e ∧ (nkD e).depth ≤ 4) : KeyOk (Cn.lnk s r e).d := by
  have ht : TD (Cn.lnk s r e).d = true := by simp [Cn.d, TD, TDs, h1.1.1, h2.1.1]
  refine ⟨ht, key_td ht ?_⟩
  show (nkD (.tup [.str "link", s, .str r, e])).depth ≤ 8
  rw [nkD_tup ht]
  simp only [List.map_cons, List.map_nil, NestedKey.depth, NestedKey.depthAll]
  have h3 : (nkD (D.str "link")).depth ≤ 1 := by
    show (NestedKey.depth (.text "link")) ≤ 1
    simp [NestedKey.depth]
  have h4 : (nkD (D.str r)).depth ≤ 1 := by
    show (NestedKey.depth (.text r)) ≤ 1
    simp [NestedKey.depth]
  omega
theorem uW_mem {pl : List D} {rs : List Str} {c : Cn} (h : unW pl rs c) : c.d ∈ uW pl rs := by
  unfold uW
  cases c with
  | bel s k => exact List.mem_append_left _ (List.mem_flatMap.mpr ⟨s, h.1, List.mem_map_of_mem (f := fun k => (Cn.bel s k).d) h.2⟩)
  | lnk s r e => exact List.mem_append_right _ (List.mem_flatMap.mpr ⟨s, h.1, List.mem_flatMap.mpr ⟨r, h.2.1, List.mem_map_of_mem (f := fun e => (Cn.lnk s r e).d) h.2.2⟩⟩)
theorem uW_key (hk : KlOk rs kl) : ∀ d ∈ uW (plW kl ps) rs, KeyOk d := fun d hd => by
  unfold uW at hd
  rcases List.mem_append.mp hd with hd | hd
  · obtain ⟨s, hs, hd⟩ := List.mem_flatMap.mp hd
    obtain ⟨k, hkk, rfl⟩ := List.mem_map.mp hd
    have h1 := pl_key hk hs
    have h2 := pl_key hk hkk
    exact key3 h1.1.1 h1.2 h2.1.1 h2.2
  · obtain ⟨s, hs, hd⟩ := List.mem_flatMap.mp hd
    obtain ⟨r, hr, hd⟩ := List.mem_flatMap.mp hd
    obtain ⟨e, he, rfl⟩ := List.mem_map.mp hd
    exact lnk_key4 (pl_key hk hs) (pl_key hk he)
theorem uW_len {pl : List D} {rs : List Str} (h1 : pl.length ≤ 43) (h2 : rs.length ≤ 20) : (uW pl rs).length ≤ 100000 := by
  unfold uW
  rw [List.length_append]
  have a1 := flat_le (f := fun s => pl.map fun k => (Cn.bel s k).d) (n := 43) (l := pl) fun x _ => by rw [List.length_map]; exact h1
  have a2 := flat_le (f := fun s => rs.flatMap fun r => pl.map fun e => (Cn.lnk s r e).d) (n := 860) (l := pl) fun x _ => by
    have a3 := flat_le (f := fun r => pl.map fun e => (Cn.lnk x r e).d) (n := 43) (l := rs) fun y _ => by rw [List.length_map]; exact h1
    omega
  omega
theorem wo_ok (h : Setup book facts rs ps) (hk : KlOk rs kl) : WoOk (world book facts kl rs ps) where
  mem := fun c hc => uW_mem hc
  cl := un_cl h hk
  ok := fun c hc => by
    cases c with
    | bel s k => exact hc
    | lnk s r e => exact ⟨hc.1, hc.2.2⟩
  key := fun d hd => pl_key hk hd
  tup := fun d hd => by
    rcases pl_cases hk hd with rfl | rfl | ⟨r, _, rfl, _⟩ | ⟨p, _, rfl⟩
    · exact ⟨"any", [], rfl, by decide, fun e => absurd e (by decide)⟩
    · exact ⟨"none", [], rfl, by decide, fun e => absurd e (by decide)⟩
    · exact ⟨"some", _, rfl, by decide, fun _ => ⟨r, anyD, rfl, rfl⟩⟩
    · exact ⟨"person", _, rfl, by decide, fun e => absurd e (by decide)⟩
  ky := uW_key hk
  few := uW_len (by
    unfold plW
    simp only [List.length_append, List.length_map, List.length_cons, List.length_nil]
    have := hk.le
    have := h.pl
    omega) h.rl
  none_ := pl_none
theorem poc_to {a r b : Str} : pocS (Fa.d (.to a r b)) = [a, b] := rfl
theorem poc_is {a : Str} {k : D} : pocS (Fa.d (.is a k)) = [a] := rfl
theorem per_mem (h : Setup book facts rs ps) {x : Str} (hx : x ∈ perS (facts.map Fa.d)) : x ∈ ps := by
  unfold perS at hx
  rcases mem_uniqS.mp hx with hx | hx
  · cases hx
  · obtain ⟨d, hd, hx⟩ := List.mem_flatMap.mp hx
    obtain ⟨f, hf, rfl⟩ := List.mem_map.mp hd
    rcases h.fk f hf with ⟨a, r, b, rfl, ha, hr, hb⟩ | ⟨a, rfl, ha⟩
    · rw [poc_to] at hx
      rcases List.mem_cons.mp hx with rfl | hx
      · exact ha
      · rw [List.mem_singleton.mp hx]; exact hb
    · rw [poc_is] at hx
      rw [List.mem_singleton.mp hx]; exact ha
theorem per_to {facts : List KD.Fa} {a r b : Str} (h : KD.Fa.to a r b ∈ facts) : a ∈ perS (facts.map Fa.d) ∧ b ∈ perS (facts.map Fa.d) := by
  unfold perS
  constructor <;> refine mem_uniqS.mpr (.inr (List.mem_flatMap.mpr ⟨_, List.mem_map_of_mem h, ?_⟩)) <;> rw [poc_to] <;> simp
theorem per_is {facts : List KD.Fa} {a : Str} {k : D} (h : KD.Fa.is a k ∈ facts) : a ∈ perS (facts.map Fa.d) := by
  unfold perS
  refine mem_uniqS.mpr (.inr (List.mem_flatMap.mpr ⟨_, List.mem_map_of_mem h, ?_⟩))
  rw [poc_is]; simp
theorem sat_ok (h : Setup book facts rs ps) (hk : KlOk rs kl) : SatOk (world book facts kl rs ps) book facts kl where
  ask := ask_ok h hk
  wo := wo_ok h hk
  bk := rfl
  kd := rfl
  ki := fun k hkk => by
    rcases kind_mem h hk hkk with rfl | rfl | hkk
    · exact ⟨"any", [], rfl, by decide, fun e => absurd e (by decide)⟩
    · exact ⟨"none", [], rfl, by decide, fun e => absurd e (by decide)⟩
    · obtain ⟨r, _, rfl⟩ := hk.sa k hkk
      exact ⟨"some", _, rfl, by decide, fun _ => ⟨r, anyD, rfl, any_td.1, any_td.2⟩⟩
  few := by have := sort_len h hk; omega
  wf := by
    show (decide ((facts.map Fa.d).length ≤ 1000000) && (facts.map Fa.d).all (wfF 9)) = true
    rw [Bool.and_eq_true, decide_eq_true_eq, List.all_eq_true, List.length_map]
    exact ⟨by have := h.fl; omega, wfF_d h⟩
  un := fun c hc => by
    unfold begL at hc
    rcases List.mem_append.mp hc with hc | hc
    · rcases List.mem_append.mp hc with hc | hc
      · obtain ⟨k, hkk, hc⟩ := List.mem_flatMap.mp hc
        rcases List.mem_cons.mp hc with rfl | hc
        · exact ⟨kind_pl h hk hkk, kind_pl h hk hkk⟩
        · rw [List.mem_singleton.mp hc]
          exact ⟨kind_pl h hk hkk, pl_any⟩
      · obtain ⟨p, hp, rfl⟩ := List.mem_map.mp hc
        exact ⟨pl_psn (per_mem h (mem_sortS.mp hp)), pl_any⟩
    · obtain ⟨f, hf, rfl⟩ := List.mem_map.mp hc
      rcases h.fk f hf with ⟨a, r, b, rfl, ha, hr, hb⟩ | ⟨a, rfl, ha⟩
      · exact ⟨pl_psn ha, hr, pl_psn hb⟩
      · exact ⟨pl_psn ha, pl_any⟩
/-! what is told, read as links -/
def Rd (book : List Say) (ls : List Lk) : Cn → Prop
  | .lnk s r e => (e = anyD ∨ ∃ y, e = psn y) ∧ s ≠ anyD ∧ ∀ x, s = psn x → ((e = anyD → ∃ y, Sp book ls x r y) ∧ ∀ y, e = psn y → Sp book ls x r y)
  | .bel s k => (k = noneD → s = noneD) ∧ ∀ r e, k = someD r e → e = anyD ∧ s ≠ anyD ∧ ∀ x, s = psn x → ∃ y, Sp book ls x r y
theorem links_mem {facts : List KD.Fa} {x r y : Str} : (x, r, y) ∈ linksOf facts ↔ KD.Fa.to x r y ∈ facts := by
  unfold linksOf
  rw [List.mem_filterMap]
  constructor
  · rintro ⟨f, hf, e⟩
    cases f with
    | to a b c => cases e; exact hf
    | is a k => cases e
  · exact fun h => ⟨_, h, rfl⟩
theorem rd_cl (h : Setup book facts rs ps) (hk : KlOk rs kl) : ∀ c, (world book facts kl rs ps).Con (Rd book (linksOf facts)) c → Rd book (linksOf facts) c := fun c hc => by
  have hb : ∀ s, s ∈ (world book facts kl rs ps).says → s ∈ book := fun s hs => by rw [says_eq] at hs; exact hs
  have hkd : ∀ r e, someD r e ∈ (world book facts kl rs ps).kinds → e = anyD := fun r e hd => by
    rcases kind_mem h hk hd with e2 | e2 | hd
    · exact absurd e2 some_ne_any
    · exact absurd e2 some_ne_none
    · obtain ⟨r2, _, e2⟩ := hk.sa _ hd
      exact (someD_inj e2).2
  cases hc with
  | role h1 h2 =>
    refine ⟨h2.1, h2.2.1, fun x hx => ⟨fun he => ?_, fun y hy => .role (hb _ h1) ((h2.2.2 x hx).2 y hy)⟩⟩
    obtain ⟨y, hy⟩ := (h2.2.2 x hx).1 he
    exact ⟨y, .role (hb _ h1) hy⟩
  | chain h1 h2 h3 =>
    rcases h2.1 with e | ⟨m, e⟩
    · exact absurd e h3.2.1
    · refine ⟨h3.1, h2.2.1, fun x hx => ?_⟩
      have a := (h2.2.2 x hx).2 m e
      refine ⟨fun he => ?_, fun y hy => .chain (hb _ h1) a ((h3.2.2 m e).2 y hy)⟩
      obtain ⟨y, hy⟩ := (h3.2.2 m e).1 he
      exact ⟨y, .chain (hb _ h1) a hy⟩
  | opn h1 =>
    obtain ⟨e1, e2, e3⟩ := h1.2 _ _ rfl
    subst e1
    exact ⟨.inl rfl, e2, fun x hx => ⟨fun _ => e3 x hx, fun y hy => absurd hy.symm psn_ne_any⟩⟩
  | close h1 h2 h3 =>
    refine ⟨fun e => absurd e some_ne_none, fun r2 k2 e => ?_⟩
    obtain ⟨rfl, rfl⟩ := someD_inj e
    refine ⟨hkd _ _ h1, h2.2.1, fun x hx => ?_⟩
    rcases h2.1 with e | ⟨y, e⟩
    · exact (h2.2.2 x hx).1 e
    · exact ⟨y, (h2.2.2 x hx).2 y e⟩
  | empty h1 h2 =>
    have e := h2.1 rfl
    subst e
    rcases h1.1 with e | ⟨y, e⟩
    · exact absurd e.symm any_ne_none
    · exact absurd e.symm psn_ne_none
  | nothing h1 h2 =>
    have e := h1.1 rfl
    subst e
    refine ⟨fun _ => rfl, fun r k e => ?_⟩
    subst e
    exact ⟨hkd _ _ h2, fun e => absurd e.symm any_ne_none, fun x hx => absurd hx.symm psn_ne_none⟩
theorem rd_beg (h : Setup book facts rs ps) (hk : KlOk rs kl) : ∀ c ∈ inL (world book facts kl rs ps) facts, Rd book (linksOf facts) c := fun c hc => by
  have hany : ∀ s, Rd book (linksOf facts) (.bel s anyD) := fun s => ⟨fun e => absurd e any_ne_none, fun r e he => absurd he.symm some_ne_any⟩
  unfold inL begL at hc
  rcases List.mem_append.mp hc with hc | hc
  · rcases List.mem_append.mp hc with hc | hc
    · obtain ⟨k, hkk, hc⟩ := List.mem_flatMap.mp hc
      rcases List.mem_cons.mp hc with rfl | hc
      · refine ⟨fun e => e, fun r e he => ?_⟩
        subst he
        rcases kind_mem h hk hkk with e2 | e2 | hd
        · exact absurd e2 some_ne_any
        · exact absurd e2 some_ne_none
        · obtain ⟨r2, _, e2⟩ := hk.sa _ hd
          exact ⟨(someD_inj e2).2, some_ne_any, fun x hx => absurd hx some_ne_psn⟩
      · rw [List.mem_singleton.mp hc]; exact hany k
    · obtain ⟨p, hp, rfl⟩ := List.mem_map.mp hc
      exact hany _
  · obtain ⟨f, hf, rfl⟩ := List.mem_map.mp hc
    rcases h.fk f hf with ⟨a, r, b, rfl, ha, hr, hb⟩ | ⟨a, rfl, ha⟩
    · refine ⟨.inr ⟨b, rfl⟩, psn_ne_any, fun x hx => ⟨fun e => absurd e psn_ne_any, fun y hy => ?_⟩⟩
      rw [← psn_inj hx, ← psn_inj hy]
      exact .base (links_mem.mpr hf)
    · exact hany _
section
variable {pr : Cn → Prop}
theorem pr_sp (hle : Least (world book facts kl rs ps) (inL (world book facts kl rs ps) facts) pr) {x r y : Str} (hs : Sp book (linksOf facts) x r y) : pr (.lnk (psn x) r (psn y)) := by
  have hb : ∀ s, s ∈ book → s ∈ (world book facts kl rs ps).says := fun s hs => by rw [says_eq]; exact hs
  induction hs with
  | base h0 =>
    refine hle.beg _ ?_
    unfold inL begL
    exact List.mem_append_right _ (List.mem_map_of_mem (f := Fa.c) (links_mem.mp h0))
  | role h0 _ ih => exact hle.cl _ (.role (hb _ h0) ih)
  | chain h0 _ _ ih1 ih2 => exact hle.cl _ (.chain (hb _ h0) ih1 ih2)
theorem ans_lnk (h : Setup book facts rs ps) (hk : KlOk rs kl) (hle : Least (world book facts kl rs ps) (inL (world book facts kl rs ps) facts) pr) {x r y : Str} : pr (.lnk (psn x) r (psn y)) ↔ Sp book (linksOf facts) x r y :=
  ⟨fun hp => ((hle.ind _ (rd_beg h hk) (rd_cl h hk) _ hp).2.2 x rfl).2 y rfl, pr_sp hle⟩
theorem sp_end {book : List Say} {ls : List Lk} {x r y : Str} (h : Sp book ls x r y) : (∃ r z, (x, r, z) ∈ ls) ∧ ∃ r z, (z, r, y) ∈ ls := by
  induction h with
  | base h0 => exact ⟨⟨_, _, h0⟩, ⟨_, _, h0⟩⟩
  | role _ _ ih => exact ih
  | chain _ _ _ ih1 ih2 => exact ⟨ih1.1, ih2.2⟩
theorem ans_bel (h : Setup book facts rs ps) (hk : KlOk rs kl) (hle : Least (world book facts kl rs ps) (inL (world book facts kl rs ps) facts) pr) {x r : Str} (hr : saD r ∈ kl) : pr (.bel (psn x) (saD r)) ↔ ∃ y, Sp book (linksOf facts) x r y := by
  refine ⟨fun hp => ((hle.ind _ (rd_beg h hk) (rd_cl h hk) _ hp).2 r anyD rfl).2.2 x rfl, fun ⟨y, hy⟩ => ?_⟩
  refine hle.cl _ (.close ((sortD_perm _).mem_iff.mpr (asked_kl h hk hr)) (pr_sp hle hy) (hle.beg _ ?_))
  obtain ⟨_, r2, z, hz⟩ := sp_end hy
  unfold inL begL
  exact List.mem_append_left _ (List.mem_append_right _ (List.mem_map_of_mem (f := fun p => Cn.bel (psn p) anyD) (mem_sortS.mpr (per_to (links_mem.mp hz)).2)))
theorem ans_void (h : Setup book facts rs ps) (hk : KlOk rs kl) : NoVd (world book facts kl rs ps) facts := fun pr hle s hs hp => by
  have e := (hle.ind _ (rd_beg h hk) (rd_cl h hk) _ hp).1 rfl
  subst e
  rcases List.mem_cons.mp hs with e | hs
  · exact any_ne_none e.symm
  · obtain ⟨p, _, e⟩ := List.mem_map.mp hs
    exact psn_ne_none e
end
end
end KD
set_option Elab.async false
set_option linter.all false
set_option maxRecDepth 100000
set_option maxHeartbeats 2000000
/-! Sorted texts, fresh persons, what the law asks. -/
namespace KD
open PySem PySem.Spec PyProof.Rows L2 Evl
theorem leS_trans (a b c : Str) (h : leS a b = true) (k : leS b c = true) : leS a c = true := by
  unfold leS at *
  rw [decide_eq_true_eq] at *
  exact List.le_trans h k
theorem leS_total (a b : Str) : (leS a b || leS b a) = true := by
  unfold leS
  rw [Bool.or_eq_true, decide_eq_true_eq, decide_eq_true_eq]
  exact List.le_total _ _
theorem leS_anti {a b : Str} (h : leS a b = true) (k : leS b a = true) : a = b := by
  unfold leS at *
  rw [decide_eq_true_eq] at *
  exact TL.ext_tl (List.le_antisymm h k)
theorem sortS_pw (xs : List Str) : (sortS xs).Pairwise fun a b => leS a b = true := List.pairwise_mergeSort leS_trans leS_total xs
theorem sortS_same {xs ys : List Str} (h : xs.Perm ys) : sortS xs = sortS ys :=
  List.Perm.eq_of_pairwise (fun a b _ _ => leS_anti) (sortS_pw xs) (sortS_pw ys) (((List.mergeSort_perm xs leS).trans h).trans (List.mergeSort_perm ys leS).symm)
theorem sortS_filter (xs : List Str) (f : Str → Bool) : sortS ((sortS xs).filter f) = (sortS xs).filter f := List.mergeSort_of_pairwise ((sortS_pw xs).filter f)
theorem sortS_nodup {xs : List Str} (h : xs.Nodup) : (sortS xs).Nodup := (List.mergeSort_perm xs leS).nodup_iff.mpr h
theorem psS_eq {facts : List KD.Fa} {ws : List Str} (hn : ws.Nodup) (h : ∀ x, x ∈ perS (facts.map Fa.d) ↔ x ∈ ws) : psS facts = sortS ws := by
  refine sortS_same ?_
  exact (List.perm_ext_iff_of_nodup (uniqS_nodup List.nodup_nil) hn).mpr h
theorem filter_len_ge {l m : List Str} (h : l.Nodup) : l.length ≤ (l.filter fun x => decide (x ∉ m)).length + m.length := by
  have h1 : l.length = (l.filter fun x => decide (x ∉ m)).length + (l.filter fun x => !decide (x ∉ m)).length := by
    induction l with
    | nil => rfl
    | cons x l ih =>
      have := ih (List.nodup_cons.mp h).2
      by_cases hx : x ∈ m <;> simp [hx] at this ⊢ <;> omega
  have h2 : (l.filter fun x => !decide (x ∉ m)).length ≤ m.length := nodup_le (h.filter _) fun x hx => by
    have := (List.mem_filter.mp hx).2
    simpa using this
  omega
theorem cands_nodup : cands.Nodup := by decide +kernel
theorem cands_isW : ∀ x ∈ cands, isW x = true := by decide +kernel
section
variable {book : List Say} {facts : List KD.Fa} {rs ps : List Str}
theorem fresh_three (h : Setup book facts rs ps) (hp : ps.length ≤ 10) : ∃ a b c, freshS (facts.map Fa.d) = [a, b, c] ∧ a ≠ b ∧ a ≠ c ∧ b ≠ c ∧ isW a = true ∧ isW b = true ∧ isW c = true ∧ a ∉ perS (facts.map Fa.d) ∧ b ∉ perS (facts.map Fa.d) ∧ c ∉ perS (facts.map Fa.d) := by
  have h1 := filter_len_ge (l := cands) (m := perS (facts.map Fa.d)) cands_nodup
  have h2 : (perS (facts.map Fa.d)).length ≤ ps.length := nodup_le (uniqS_nodup List.nodup_nil) fun x hx => per_mem h hx
  rw [cands_len] at h1
  have hl : (freshS (facts.map Fa.d)).length = 3 := by
    unfold freshS
    rw [List.length_take]
    omega
  have hn : (freshS (facts.map Fa.d)).Nodup := (cands_nodup.filter _).sublist (List.take_sublist _ _)
  have hw : ∀ x ∈ freshS (facts.map Fa.d), isW x = true := fun x hx => cands_isW x (List.mem_filter.mp (List.mem_of_mem_take hx)).1
  have hf : ∀ x ∈ freshS (facts.map Fa.d), x ∉ perS (facts.map Fa.d) := fun x hx => freshS_not hx
  match he : freshS (facts.map Fa.d), hl with
  | [a, b, c], _ =>
    rw [he] at hn hw hf
    simp at hn hw hf
    exact ⟨a, b, c, rfl, hn.1.1, hn.1.2, hn.2, hw.1, hw.2.1, hw.2.2, hf.1, hf.2.1, hf.2.2⟩
theorem setup_ask (h : Setup book facts rs ps) (hp : ps.length ≤ 10) (hf : facts.length ≤ 50) {cl : Say} (hc : cl.inn rs) {a b c : Str} (ha : isW a = true) (hb : isW b = true) (hc2 : isW c = true) : Setup book (facts ++ askF cl a b c) rs (ps ++ [a, b, c]) where
  bk := h.bk
  bl := h.bl
  rl := h.rl
  rw := h.rw
  fk := fun f hff => by
    rcases List.mem_append.mp hff with hff | hff
    · rcases h.fk f hff with ⟨x, r, y, e, hx, hr, hy⟩ | ⟨x, e, hx⟩
      · exact .inl ⟨x, r, y, e, List.mem_append_left _ hx, hr, List.mem_append_left _ hy⟩
      · exact .inr ⟨x, e, List.mem_append_left _ hx⟩
    · cases cl with
      | role x y =>
        rw [List.mem_singleton.mp hff]
        exact .inl ⟨a, x, b, rfl, by simp, hc.1, by simp⟩
      | chain x y z =>
        rcases List.mem_cons.mp hff with rfl | hff
        · exact .inl ⟨a, x, b, rfl, by simp, hc.1, by simp⟩
        · rw [List.mem_singleton.mp hff]
          exact .inl ⟨b, y, c, rfl, by simp, hc.2.1, by simp⟩
  fl := by
    rw [List.length_append]
    have : (askF cl a b c).length ≤ 2 := by cases cl <;> simp [askF]
    omega
  pw := fun p hpp => by
    rcases List.mem_append.mp hpp with hpp | hpp
    · exact h.pw p hpp
    · simp at hpp
      rcases hpp with rfl | rfl | rfl <;> assumption
  pl := by rw [List.length_append]; simp; omega
theorem ps_len (h : Setup book facts rs ps) : (psS facts).length ≤ 40 := by
  have : (psS facts).length ≤ ps.length := nodup_le (sortS_nodup (uniqS_nodup List.nodup_nil)) fun x hx => per_mem h (mem_sortS.mp hx)
  have := h.pl
  omega
def askL (cl : Say) (a b c : Str) : List Lk := match cl with
  | .role x _ => [(a, x, b)]
  | .chain x y _ => [(a, x, b), (b, y, c)]
def goalL (cl : Say) (a b c : Str) : Lk := match cl with
  | .role _ y => (a, y, b)
  | .chain _ _ z => (a, z, c)
theorem links_ask {cl : Say} {a b c : Str} : linksOf (facts ++ askF cl a b c) = linksOf facts ++ askL cl a b c := by
  unfold linksOf
  rw [List.filterMap_append]
  cases cl <;> rfl
theorem sp_mono {book : List Say} {l m : List Lk} (i : ∀ x ∈ l, x ∈ m) {x r y : Str} (h : Sp book l x r y) : Sp book m x r y := by
  induction h with
  | base h0 => exact .base (i _ h0)
  | role h0 _ ih => exact .role h0 ih
  | chain h0 _ _ ih1 ih2 => exact .chain h0 ih1 ih2
theorem sp_fresh {book : List Say} {l m : List Lk} {F : Str → Prop} (h1 : ∀ x ∈ l, ¬ F x.1) (h2 : ∀ x ∈ m, F x.2.2) {x r y : Str} (h : Sp book (l ++ m) x r y) : F x → Sp book m x r y ∧ F y := by
  induction h with
  | base h0 =>
    intro hx
    rcases List.mem_append.mp h0 with h0 | h0
    · exact absurd hx (h1 _ h0)
    · exact ⟨.base h0, h2 _ h0⟩
  | role h0 _ ih => intro hx; obtain ⟨a, b⟩ := ih hx; exact ⟨.role h0 a, b⟩
  | chain h0 _ _ ih1 ih2 =>
    intro hx
    obtain ⟨a, b⟩ := ih1 hx
    obtain ⟨c, d⟩ := ih2 b
    exact ⟨.chain h0 a c, d⟩
theorem sp_map {book : List Say} {l : List Lk} (f : Str → Str) {x r y : Str} (h : Sp book l x r y) : Sp book (l.map fun z => (f z.1, z.2.1, f z.2.2)) (f x) r (f y) := by
  induction h with
  | base h0 => exact .base (List.mem_map_of_mem (f := fun z : Lk => (f z.1, z.2.1, f z.2.2)) h0)
  | role h0 _ ih => exact .role h0 ih
  | chain h0 _ _ ih1 ih2 => exact .chain h0 ih1 ih2
theorem ask_map (cl : Say) (f : Str → Str) (a b c : Str) : (askL cl a b c).map (fun z => (f z.1, z.2.1, f z.2.2)) = askL cl (f a) (f b) (f c) := by cases cl <;> rfl
def ren (a b : Str) (x y z : Str) (w : Str) : Str := if w = a then x else if w = b then y else z
theorem goal_map {cl : Say} {f : Str → Str} {a b c : Str} (h : Sp book (askL cl a b c) (goalL cl a b c).1 (goalL cl a b c).2.1 (goalL cl a b c).2.2) : Sp book (askL cl (f a) (f b) (f c)) (goalL cl (f a) (f b) (f c)).1 (goalL cl (f a) (f b) (f c)).2.1 (goalL cl (f a) (f b) (f c)).2.2 := by
  have := sp_map f h
  rw [ask_map] at this
  cases cl <;> exact this
theorem goal_ren {cl : Say} {a b c x y z : Str} (h1 : a ≠ b) (h2 : a ≠ c) (h3 : b ≠ c) (h : Sp book (askL cl a b c) (goalL cl a b c).1 (goalL cl a b c).2.1 (goalL cl a b c).2.2) : Sp book (askL cl x y z) (goalL cl x y z).1 (goalL cl x y z).2.1 (goalL cl x y z).2.2 := by
  have e1 : ren a b x y z a = x := if_pos rfl
  have e2 : ren a b x y z b = y := (if_neg (Ne.symm h1)).trans (if_pos rfl)
  have e3 : ren a b x y z c = z := (if_neg (Ne.symm h2)).trans (if_neg (Ne.symm h3))
  have := goal_map (f := ren a b x y z) h
  rw [e1, e2, e3] at this
  exact this
/-- the claim's goal is told exactly if it comes of the links of x, y, z -/
theorem ask_iff (h : Setup book facts rs ps) {cl : Say} {a b c : Str} (h1 : a ≠ b) (h2 : a ≠ c) (h3 : b ≠ c) (ha : a ∉ perS (facts.map Fa.d)) (hb : b ∉ perS (facts.map Fa.d)) (hc : c ∉ perS (facts.map Fa.d)) :
    Sp book (linksOf (facts ++ askF cl a b c)) (goalL cl a b c).1 (goalL cl a b c).2.1 (goalL cl a b c).2.2 ↔ Sp book (askL cl "x" "y" "z") (goalL cl "x" "y" "z").1 (goalL cl "x" "y" "z").2.1 (goalL cl "x" "y" "z").2.2 := by
  rw [links_ask]
  constructor
  · intro hs
    refine goal_ren h1 h2 h3 (sp_fresh (F := fun w => w = a ∨ w = b ∨ w = c) (fun l hl hF => ?_) (fun l hl => ?_) hs ?_).1
    · have hm := (per_to (links_mem.mp hl)).1
      rcases hF with e | e | e <;> rw [e] at hm
      · exact ha hm
      · exact hb hm
      · exact hc hm
    · cases cl <;> simp [askL] at hl
      · rw [hl]; exact .inr (.inl rfl)
      · rcases hl with rfl | rfl
        · exact .inr (.inl rfl)
        · exact .inr (.inr rfl)
    · cases cl <;> exact .inl rfl
  · intro hs
    exact sp_mono (fun x hx => List.mem_append_right _ hx) (goal_ren (x := a) (y := b) (z := c) (by decide) (by decide) (by decide) hs)
theorem qu_ok (h : Setup book facts rs ps) (hp : ps.length ≤ 10) (hf : facts.length ≤ 50) {cl : Say} (hc : cl.inn rs) {a b c : Str} (ha : isW a = true) (hb : isW b = true) (hc2 : isW c = true) (hfr : freshS (facts.map Fa.d) = [a, b, c]) :
    QuOk (world book (facts ++ askF cl a b c) [] rs (ps ++ [a, b, c])) book facts cl a b c where
  sat := sat_ok (setup_ask h hp hf hc ha hb hc2) ⟨by simp, fun k hk => nomatch hk⟩
  wf := (sat_ok (kl := []) h ⟨by simp, fun k hk => nomatch hk⟩).wf
  few := by omega
  wc := by
    have h2 : Setup [cl] [] rs [] := { bk := fun s hs => by rw [List.mem_singleton.mp hs]; exact hc, bl := by simp, rl := h.rl, rw := h.rw, fk := fun _ h => (nomatch h), fl := by simp, pw := fun _ h => (nomatch h), pl := by simp }
    exact wfS_d h2 _ (by simp)
  fresh := hfr
end
end KD
set_option Elab.async false
set_option linter.all false
set_option maxRecDepth 100000
set_option maxHeartbeats 2000000
/-! Steps of the law. -/
namespace KD
open PySem PySem.Spec PyProof.Rows L2 Evl
theorem nil_kl {rs : List Str} : KlOk rs [] := ⟨by simp, fun k hk => nomatch hk⟩
theorem sa_kl {rs : List Str} {r : Str} (h : r ∈ rs) : KlOk rs [saD r] := ⟨by simp, fun k hk => ⟨r, h, List.mem_singleton.mp hk⟩⟩
theorem least_ex {B : Wo} {init : List Cn} (hw : WoOk B) (hu : ∀ c ∈ init, B.Un c) : ∃ pr, Least B init pr :=
  ⟨fun c => ∀ T : Cn → Prop, (∀ c ∈ init, T c) → (∀ c, B.Con T c → T c) → T c, fun c hc T h1 _ => h1 c hc, fun c hc T h1 h2 => h2 c (Con.mono (fun x hx => hx T h1 h2) hc), fun c hc => hc _ hu hw.cl, fun T h1 h2 c hc => hc T h1 h2⟩
theorem wfB_d {book : List Say} {facts : List KD.Fa} {rs ps : List Str} (h : Setup book facts rs ps) : wfB 9 (.tup (book.map Say.d)) = true := by
  show (decide ((book.map Say.d).length ≤ 1000000) && (book.map Say.d).all (wfS 9)) = true
  rw [Bool.and_eq_true, decide_eq_true_eq, List.all_eq_true, List.length_map]
  exact ⟨by have := h.bl; omega, wfS_d h⟩
theorem keep_lnk {book : List Say} {facts : List KD.Fa} {rs ps : List Str} {ls : List Lk} {x r : Str} {keep : Str → Bool} (h : Setup book facts rs ps) (hls : ∀ x r y, (x, r, y) ∈ ls ↔ Sp book (linksOf facts) x r y)
    (hk : ∀ pr, Least (world book facts [] rs ps) (inL (world book facts [] rs ps) facts) pr → ∀ y, keep y = true ↔ pr (.lnk (psn x) r (psn y))) : keep = fun y => decide ((x, r, y) ∈ ls) := by
  obtain ⟨pr, hpr⟩ := least_ex (wo_ok h nil_kl) (sat_ok h nil_kl).un
  funext y
  rw [Bool.eq_iff_iff, hk pr hpr y, ans_lnk h nil_kl hpr, decide_eq_true_eq, hls]
theorem keep_bel {book : List Say} {facts : List KD.Fa} {rs ps : List Str} {ls : List Lk} {r : Str} {keep : Str → Bool} (h : Setup book facts rs ps) (hr : r ∈ rs) (hls : ∀ x r y, (x, r, y) ∈ ls ↔ Sp book (linksOf facts) x r y)
    (hk : ∀ pr, Least (world book facts [saD r] rs ps) (inL (world book facts [saD r] rs ps) facts) pr → ∀ y, keep y = true ↔ pr (.bel (psn y) (saD r))) : keep = fun y => (psS facts).any fun z => decide ((y, r, z) ∈ ls) := by
  obtain ⟨pr, hpr⟩ := least_ex (wo_ok h (sa_kl hr)) (sat_ok h (sa_kl hr)).un
  funext y
  rw [Bool.eq_iff_iff, hk pr hpr y, ans_bel h (sa_kl hr) hpr (List.mem_singleton.mpr rfl), List.any_eq_true]
  constructor
  · rintro ⟨z, hz⟩
    obtain ⟨_, r2, z2, hz2⟩ := sp_end hz
    exact ⟨z, psS_mem.mpr (per_to (links_mem.mp hz2)).2, decide_eq_true ((hls _ _ _).mpr hz)⟩
  · rintro ⟨z, _, hz⟩
    exact ⟨z, (hls _ _ _).mp (of_decide_eq_true hz)⟩
def dspTold : DSp := fun ds S Q => ∃ (book : List Say) (facts : List KD.Fa) (rs ps roles : List Str) (sp : Addr) (ls : List Lk), ds = [.tup (book.map Say.d), .tup (facts.map Fa.d), .lst ((psS facts).map .str), .lst (roles.map .str), .ref sp] ∧ S sp = some (.dT (lkT ls)) ∧ Setup book facts rs ps ∧ (∀ r ∈ roles, r ∈ rs) ∧ roles.length ≤ 1000 ∧
  (∀ x r y, (x, r, y) ∈ ls ↔ Sp book (linksOf facts) x r y) ∧ Q (.bl true) S
theorem nm_go {i : Nat} {d : D} {ρ : Rho} {S : DS} {Q : Rho → DS → Prop} (q : Q (ρ.set i (some d)) S) : dgName i d ρ S Q := q
theorem sq_go {T U : DTS} {E : DEnds} {ρ : Rho} {S : DS} (q : T { E with nx := U E } ρ S) : dSeq T U E ρ S := q
theorem sort_due {xs : List D} {txs : List Str} (h : xs = txs.map .str) (hl : txs.length ≤ 1000000) : SortOk xs ∧ sortD xs = (sortS txs).map .str := by
  subst h
  exact ⟨sortOk_strs hl, sortD_strs txs⟩
theorem dueLc_go {ι : FI} {γ : Gam} {κ : FT} {ν : EF} {vs : List Nat} {i : Nat} {E : DEnds} {ρ : Rho} {S : DS} {items : List D} {k : KeepC} {keep : D → Bool} {out : D → D} {txs : List Str} (h1 : ι ρ S = some (items, k)) (hl : items.length ≤ 1000000)
    (h2 : ∀ d ∈ items, ∀ S', Le S S' → ∃ ρ2, γ d (wipeD ρ vs) = some ρ2 ∧ κ ρ2 S' = some (keep d) ∧ (keep d = true → ν ρ2 S' = some (out d))) (hs : (items.filter keep).map out = txs.map .str) (hl2 : txs.length ≤ 1000000)
    (q : E.nx (ρ.set i (some (.tup ((sortS txs).map .str)))) S) : dAsg (wCall gTuple fun ρ S Q => asCell (lSort fun ρ S Q => asLst (lLc ι γ κ ν vs) ρ S fun d S1 => (fun ds S2 => Q (d :: ds) S2) [] S1) ρ S (RdQ fun d S1 => Q [d] S1)) (dgName i) E ρ S := by
  obtain ⟨so, se⟩ := sort_due hs hl2
  dsimp only [dAsg, wCall, asCell, lSort, asLst]
  refine lc_go1 h1 hl h2 ⟨_, _, rfl, .inl rfl, so, fun p hp => rd_new hp ⟨_, rfl, ?_⟩⟩
  rw [se]
  exact q
/-- the same where the test has comprehensions of its own -/
theorem lcw_go {α : EF} {i : Nat} {vs : List Nat} {C : DT} {ρ : Rho} {S : DS} {Q : DQ} {items : List D} {keep : D → Bool} (h : α ρ S = some (.lst items)) (hl : items.length ≤ 900000) (hC : ∀ d ∈ items, ∀ S' R, Le S S' → R (keep d) S' → C ((wipeD ρ vs).set i (some d)) S' R)
    (hV : ∀ d S', dVar i ((wipeD ρ vs).set i (some d)) S' = some d) (q : Q (.lst (items.filter keep)) S) : dLc (iLstD (fE α)) (gamN i) C (fE (dVar i)) vs ρ S (RdQ Q) := by
  refine ⟨_, h, items, rfl, fun ad had => ?_⟩
  refine ⟨fun j S' => S' = put S ad (.lst ((items.take j).filter keep)), rfl, fun _ _ _ _ => trivial, fun j d S' hd hI => ?_, fun S' hI => ?_⟩
  · subst hI
    have hj : j < items.length := by
      rcases Nat.lt_or_ge j items.length with z | z
      · exact z
      · rw [List.getElem?_eq_none z] at hd; cases hd
    have ht : (items.take (j + 1)).filter keep = (items.take j).filter keep ++ (if keep d = true then [d] else []) := by
      rw [List.take_succ, hd, List.filter_append]
      congr 1
      by_cases hk : keep d = true
      · simp [hk]
      · simp [hk]
    refine ⟨_, rfl, hC d (List.mem_of_getElem? hd) _ _ (Le.put had) ?_⟩
    by_cases hk : keep d = true
    · rw [hk] at ht ⊢
      rw [if_pos rfl] at ht ⊢
      have hlen : ((items.take j).filter keep).length < 1000000 := by
        have h1 := List.length_filter_le keep (items.take j)
        have h2 := List.length_take_le j items
        omega
      refine ⟨d, hV d _, _, put_same, hlen, ?_⟩
      show _ = put S ad _
      rw [put_put, ht]
    · rw [if_neg hk] at ht ⊢
      show _ = put S ad _
      rw [ht, List.append_nil]
  · subst hI
    rw [List.take_length]
    exact rd_new had q
theorem due2_go {α : EF} {j i : Nat} {vs : List Nat} {C : DT} {E : DEnds} {ρ : Rho} {S : DS} {items : List D} {keep : D → Bool} {txs : List Str} (h : α ρ S = some (.lst items)) (hl : items.length ≤ 900000) (hC : ∀ d ∈ items, ∀ S' R, Le S S' → R (keep d) S' → C ((wipeD ρ vs).set i (some d)) S' R)
    (hV : ∀ d S', dVar i ((wipeD ρ vs).set i (some d)) S' = some d) (hs : items.filter keep = txs.map .str) (hl2 : txs.length ≤ 1000000) (q : E.nx (ρ.set j (some (.tup ((sortS txs).map .str)))) S) :
    dAsg (wCall gTuple fun ρ S Q => asCell (lSort fun ρ S Q => dLc (iLstD (fE α)) (gamN i) C (fE (dVar i)) vs ρ S (RdQ fun d S1 => (fun ds S2 => Q (d :: ds) S2) [] S1)) ρ S (RdQ fun d S1 => Q [d] S1)) (dgName j) E ρ S := by
  obtain ⟨so, se⟩ := sort_due hs hl2
  dsimp only [dAsg, wCall, asCell, lSort]
  refine lcw_go h hl hC hV ⟨_, _, rfl, .inl rfl, so, fun p hp => rd_new hp ⟨_, rfl, ?_⟩⟩
  rw [se]
  exact q
theorem dDin_lk {β : EF} {α : EF} {ρ : Rho} {S : DS} {sp : Addr} {ls : List Lk} {l : Lk} (h1 : α ρ S = some (lkd l)) (h2 : β ρ S = some (.ref sp)) (hs : S sp = some (.dT (lkT ls))) : dDin false α β ρ S = some (.bl (decide (l ∈ ls))) := by
  unfold dDin
  rw [h1, h2]
  have h3 := lkd_key l
  simp only [Option.bind_some, getD_T hs h3, Option.map_some, findT_lk h3]
  rfl
end KD
set_option Elab.async false
set_option linter.all false
set_option maxRecDepth 100000
set_option maxHeartbeats 2000000
/-! A key in a dict that is made on the spot. -/
namespace KD
open PySem PySem.Spec PyProof.Rows L2 Evl
section
variable {X : Cx}
def rDinQ (X : Cx) (neg : Bool) : R2 := fun x y H Q => ∃ F S dx ad r, Rl X S H F ∧ Rp X.K F x dx ∧ y = .ref ad ∧ getD S ad dx = some r ∧ Q (.bl (if neg then !r.isSome else r.isSome)) H
theorem op_dinQ (hu : X.A.units + 64 < cLine) : OpR X (compareOp .In) (rDinQ X false) := by
  intro pins s σ H x y v u Q I rx ry ⟨F, S, dx, ad, r, rl, px, ey, h5, q⟩
  subst ey
  obtain rfl : u = Value.ref ad := ry
  exact q_in hu I rx (getV I rl px rx h5) fun s3 I3 => ⟨.bl r.isSome, H, I3, rfl, q⟩
theorem op_dninQ (hu : X.A.units + 64 < cLine) : OpR X (compareOp .NotIn) (rDinQ X true) := by
  intro pins s σ H x y v u Q I rx ry ⟨F, S, dx, ad, r, rl, px, ey, h5, q⟩
  subst ey
  obtain rfl : u = Value.ref ad := ry
  exact q_notIn hu I rx (getV I rl px rx h5) fun s3 I3 => ⟨.bl (!r.isSome), H, I3, rfl, q⟩
def gDin (neg : Bool) : DOp := fun S x y => match y with
  | .ref ad => (getD S ad x).map fun r => .bl (if neg then !r.isSome else r.isSome)
  | _ => none
theorem of_din {neg : Bool} : OpF X (rDinQ X neg) (gDin neg) := fun x y dx dy H F S d rl rx ry ed Q k => by
  cases dy with
  | ref ad =>
    obtain ⟨r, h1, rfl⟩ := Option.map_eq_some_iff.mp ed
    cases ry
    exact ⟨F, S, dx, ad, r, rl, rx, rfl, h1, k _ H F (Ex.refl F) rl (.bl _)⟩
  | _ => cases ed
end
end KD
set_option Elab.async false
set_option linter.all false
set_option maxRecDepth 100000
set_option maxHeartbeats 2000000
/-! Steps of the law, drawn. -/
namespace KD
open PySem PySem.Spec PyProof.Rows L2 Evl
theorem cut6 {ds : List D} : KD.cutD ds none (some 6) = ds.take 6 := by
  unfold KD.cutD HT.sIx
  simp
theorem cut2 {ds : List D} : KD.cutD ds none (some 2) = ds.take 2 := by
  unfold KD.cutD HT.sIx
  simp
theorem dr_cnt {η : FA} {ρ : Rho} {p : Addr} {c n : Nat} (h : ∀ S u v, S p = some (.lst [.int u, .int v]) → η ρ S = some [.ref p, .int (n : Nat)]) (h0 : 0 < n) (h1 : n ≤ 1000) : Dr (tBin gAdd (fE (dC (.int (c : Nat)))) (dCallW 2 dspPick (fA η))) ρ p (fun d => ∃ m : Nat, d = .int (m : Nat) ∧ c ≤ m ∧ m < c + n) :=
  dr_bin (dr_fe (a := .int (c : Nat)) fun _ _ _ _ => rfl) (dr_pick (n := (n : Nat)) h (by omega) (by omega)) fun S x y hx hy => by
    subst hx
    obtain ⟨r, rfl, hr, hr2⟩ := hy
    obtain ⟨k, rfl⟩ := Int.eq_ofNat_of_zero_le hr
    exact ⟨_, rfl, c + k, by simp, by omega, by omega⟩
theorem dr_words {α : EF} {T : DE} {ρ : Rho} {p : Addr} {lo hi : Nat} (ha : ∀ S u v, S p = some (.lst [.int u, .int v]) → α ρ S = some (.ref p)) (hT : Dr T ρ p (fun d => ∃ m : Nat, d = .int (m : Nat) ∧ lo ≤ m ∧ m < hi)) (hh : hi ≤ 20) :
    Dr (dCallW 2 dspWords fun ρ S Q => fE α ρ S fun d S1 => T ρ S1 fun d1 S1 => (fun ds S2 => (fun ds S2 => Q (d :: ds) S2) (d1 :: ds) S2) [] S1) ρ p (fun y => ∃ ws : List Str, y = .lst (ws.map .str) ∧ lo ≤ ws.length ∧ ws.length < hi ∧ ws.Nodup ∧ ∀ x ∈ ws, isW x = true) := fun S u v R hp hv q => by
  refine ⟨_, ha S u v hp, hT S u v _ hp hv fun y u' v' hy hv' => ?_⟩
  obtain ⟨m, rfl, h1, h2⟩ := hy
  refine ⟨rfl, p, u', v', m, rfl, drS_at, hv', by omega, fun ws u2 v2 hl hn hw hv2 => ?_⟩
  rw [drS2]
  exact q _ u2 v2 ⟨ws, rfl, by omega, by omega, hn, hw⟩ hv2
theorem dr_sortw {T : DE} {ρ : Rho} {p : Addr} {P : List Str → Prop} (hT : Dr T ρ p (fun y => ∃ ws : List Str, y = .lst (ws.map .str) ∧ P ws)) (hP : ∀ ws, P ws → ws.length ≤ 1000) :
    Dr (fun ρ S Q => asCell (lSort fun ρ S Q => T ρ S fun d S1 => (fun ds S2 => Q (d :: ds) S2) [] S1) ρ S (RdQ Q)) ρ p (fun y => ∃ ws : List Str, y = .lst ((sortS ws).map .str) ∧ P ws) := fun S u v R hp hv q => by
  refine hT S u v _ hp hv fun y u' v' hy hv' => ?_
  obtain ⟨ws, rfl, hw⟩ := hy
  obtain ⟨so, se⟩ := sort_due (xs := ws.map .str) rfl (by have := hP ws hw; omega)
  refine ⟨_, _, rfl, .inl rfl, so, fun p2 hp2 => rd_new hp2 ?_⟩
  rw [se]
  exact q _ u' v' ⟨ws, rfl, hw⟩ hv'
theorem dr_book {α β : EF} {T : DE} {ρ : Rho} {p : Addr} {rs : List Str} {lo hi : Nat} (ha : ∀ S u v, S p = some (.lst [.int u, .int v]) → α ρ S = some (.ref p)) (hb : ∀ S u v, S p = some (.lst [.int u, .int v]) → β ρ S = some (.lst (rs.map .str))) (hT : Dr T ρ p (fun d => ∃ m : Nat, d = .int (m : Nat) ∧ lo ≤ m ∧ m < hi)) (hh : hi ≤ 1000) (h0 : 0 < rs.length) (h1 : rs.length ≤ 1000) :
    Dr (dCallW 3 dspRoleBook fun ρ S Q => fE α ρ S fun d S1 => fE β ρ S1 fun d1 S1 => T ρ S1 fun d2 S1 => (fun ds S2 => (fun ds S2 => (fun ds S2 => Q (d :: ds) S2) (d1 :: ds) S2) (d2 :: ds) S2) [] S1) ρ p (fun y => ∃ bk : List Say, y = .tup (bk.map Say.d) ∧ bk.length < hi ∧ ∀ s ∈ bk, s.inn rs) := fun S u v R hp hv q => by
  refine ⟨_, ha S u v hp, _, hb S u v hp, hT S u v _ hp hv fun y u' v' hy hv' => ?_⟩
  obtain ⟨m, rfl, h2, h3⟩ := hy
  refine ⟨rfl, p, u', v', rs, m, rfl, drS_at, hv', h0, h1, by omega, fun bk u2 v2 hl hbk hv2 => ?_⟩
  rw [drS2]
  exact q _ u2 v2 ⟨bk, rfl, by omega, hbk⟩ hv2
/-- two lists, one behind the other, as a tuple -/
theorem catLc_go {ι1 ι2 : FI} {γ1 γ2 : Gam} {κ1 κ2 : FT} {ν1 ν2 : EF} {vs1 vs2 : List Nat} {i : Nat} {E : DEnds} {ρ : Rho} {S : DS} {it1 it2 : List D} {k1 k2 : KeepC} {out1 out2 : D → D} (h1 : ι1 ρ S = some (it1, k1)) (h2 : ι2 ρ S = some (it2, k2)) (hl : it1.length + it2.length ≤ 1000000)
    (g1 : ∀ d ∈ it1, ∀ S', Le S S' → ∃ ρ2, γ1 d (wipeD ρ vs1) = some ρ2 ∧ κ1 ρ2 S' = some true ∧ ν1 ρ2 S' = some (out1 d)) (g2 : ∀ d ∈ it2, ∀ S', Le S S' → ∃ ρ2, γ2 d (wipeD ρ vs2) = some ρ2 ∧ κ2 ρ2 S' = some true ∧ ν2 ρ2 S' = some (out2 d))
    (q : E.nx (ρ.set i (some (.tup (it1.map out1 ++ it2.map out2)))) S) : dAsg (wCall gTuple fun ρ S Q => asCell (fun ρ S R => asLst (lLc ι1 γ1 κ1 ν1 vs1) ρ S fun x S1 => asLst (lLc ι2 γ2 κ2 ν2 vs2) ρ S1 fun y S2 => ∃ xs ys, lstOf S2 x = some xs ∧ lstOf S2 y = some ys ∧ xs.length + ys.length ≤ 1000000 ∧ R (xs ++ ys) S2) ρ S (RdQ fun d S1 => Q [d] S1)) (dgName i) E ρ S := by
  dsimp only [dAsg, wCall, asCell, asLst]
  refine lc_go1 (keep := fun _ => true) h1 (by omega) (fun d hd S' l => by obtain ⟨ρ2, a, b, c⟩ := g1 d hd S' l; exact ⟨ρ2, a, b, fun _ => c⟩) ?_
  refine lc_go1 (keep := fun _ => true) h2 (by omega) (fun d hd S' l => by obtain ⟨ρ2, a, b, c⟩ := g2 d hd S' l; exact ⟨ρ2, a, b, fun _ => c⟩) ?_
  rw [filter_true, filter_true]
  exact ⟨_, _, rfl, rfl, by rw [List.length_map, List.length_map]; exact hl, fun p hp => rd_new hp ⟨_, rfl, q⟩⟩
/-- one of five words is new -/
def five : List Str := ["zua", "zub", "zuc", "zud", "zue"]
theorem first_new {ws : List Str} (h : ws.length < 5) : ∃ w r, (five.filter fun x => decide (x ∉ ws)) = w :: r ∧ w ∈ five ∧ w ∉ ws := by
  cases e : five.filter fun x => decide (x ∉ ws) with
  | nil =>
    have hall : ∀ x ∈ five, x ∈ ws := fun x hx => Classical.byContradiction fun hn => by
      have hm : x ∈ five.filter fun x => decide (x ∉ ws) := List.mem_filter.mpr ⟨hx, decide_eq_true hn⟩
      rw [e] at hm
      cases hm
    have := nodup_le (l := five) (by decide +kernel) hall
    have h5 : five.length = 5 := rfl
    omega
  | cons w r =>
    have hm : w ∈ five.filter fun x => decide (x ∉ ws) := by rw [e]; exact List.mem_cons_self
    obtain ⟨h1, h2⟩ := List.mem_filter.mp hm
    exact ⟨w, r, rfl, h1, of_decide_eq_true h2⟩
theorem five_isW : ∀ x ∈ five, isW x = true := by decide +kernel
/-! the law's facts -/
def factsW (lks : List Lk) (ws : List Str) : List KD.Fa := lks.map (fun l => .to l.1 l.2.1 l.2.2) ++ ws.map fun p => .is p anyD
def LkIn (ps rs : List Str) (l : Lk) : Prop := l.1 ∈ ps ∧ l.2.1 ∈ rs ∧ l.2.2 ∈ ps
theorem facts_d (lks : List Lk) (ws : List Str) : (factsW lks ws).map Fa.d = (lks.map lkd).map (fun d => Fa.d (.to (lkGet d).1 (lkGet d).2.1 (lkGet d).2.2)) ++ (ws.map D.str).map fun d => Fa.d (.is (txt d) anyD) := by
  unfold factsW
  rw [List.map_append, List.map_map, List.map_map, List.map_map, List.map_map]
  rfl
theorem links_to : ∀ lks : List Lk, linksOf (lks.map fun l => .to l.1 l.2.1 l.2.2) = lks
  | [] => rfl
  | l :: lks => by
    rw [List.map_cons]
    show (l.1, l.2.1, l.2.2) :: linksOf (lks.map fun l => .to l.1 l.2.1 l.2.2) = _
    rw [links_to lks]
theorem links_is : ∀ ws : List Str, linksOf (ws.map fun p => .is p anyD) = []
  | [] => rfl
  | w :: ws => by
    rw [List.map_cons]
    show linksOf (ws.map fun p => .is p anyD) = []
    exact links_is ws
theorem facts_links (lks : List Lk) (ws : List Str) : linksOf (factsW lks ws) = lks := by
  have h : ∀ a b : List KD.Fa, linksOf (a ++ b) = linksOf a ++ linksOf b := fun a b => List.filterMap_append
  unfold factsW
  rw [h, links_to, links_is, List.append_nil]
theorem setup_law {book : List Say} {lks : List Lk} {rs ws : List Str} (hb : ∀ s ∈ book, s.inn rs) (hbl : book.length ≤ 100) (hr : ∀ r ∈ rs, isW r = true) (hrl : rs.length ≤ 20) (hl : ∀ l ∈ lks, LkIn ws rs l) (hll : lks.length ≤ 20) (hw : ∀ x ∈ ws, isW x = true) (hwl : ws.length ≤ 10) : Setup book (factsW lks ws) rs ws where
  bk := hb
  bl := hbl
  rl := hrl
  rw := hr
  fk := fun f hf => by
    unfold factsW at hf
    rcases List.mem_append.mp hf with hf | hf
    · obtain ⟨l, hl2, rfl⟩ := List.mem_map.mp hf
      obtain ⟨a, b, c⟩ := hl l hl2
      exact .inl ⟨_, _, _, rfl, a, b, c⟩
    · obtain ⟨p, hp, rfl⟩ := List.mem_map.mp hf
      exact .inr ⟨p, rfl, hp⟩
  fl := by unfold factsW; rw [List.length_append, List.length_map, List.length_map]; omega
  pw := hw
  pl := by omega
theorem psS_law {lks : List Lk} {rs ws : List Str} (hn : ws.Nodup) (hl : ∀ l ∈ lks, LkIn ws rs l) : psS (factsW lks ws) = sortS ws := by
  refine psS_eq hn fun x => ⟨fun hx => ?_, fun hx => ?_⟩
  · unfold perS at hx
    rcases mem_uniqS.mp hx with hx | hx
    · cases hx
    · obtain ⟨d, hd, hx⟩ := List.mem_flatMap.mp hx
      obtain ⟨f, hf, rfl⟩ := List.mem_map.mp hd
      unfold factsW at hf
      rcases List.mem_append.mp hf with hf | hf
      · obtain ⟨l, hl2, rfl⟩ := List.mem_map.mp hf
        obtain ⟨a, _, c⟩ := hl l hl2
        rw [poc_to] at hx
        rcases List.mem_cons.mp hx with rfl | hx
        · exact a
        · rw [List.mem_singleton.mp hx]; exact c
      · obtain ⟨p, hp, rfl⟩ := List.mem_map.mp hf
        rw [poc_is] at hx
        rw [List.mem_singleton.mp hx]; exact hp
  · refine per_is (k := anyD) ?_
    unfold factsW
    exact List.mem_append_right _ (List.mem_map_of_mem (f := fun p => KD.Fa.is p anyD) hx)
def uniL (ps rs : List Str) : List Lk := ps.flatMap fun x => rs.flatMap fun r => ps.map fun y => (x, r, y)
theorem uniL_len {ps rs : List Str} (h1 : ps.length ≤ 10) (h2 : rs.length ≤ 10) : (uniL ps rs).length ≤ 1000 := by
  have := flat_le (f := fun x => rs.flatMap fun r => ps.map fun y => ((x, r, y) : Lk)) (n := 100) (l := ps) fun x _ => by
    have := flat_le (f := fun r => ps.map fun y => ((x, r, y) : Lk)) (n := 10) (l := rs) fun r _ => by rw [List.length_map]; exact h1
    omega
  unfold uniL
  omega
theorem sp_uni {book : List Say} {ps rs : List Str} {lks : List Lk} (hb : ∀ s ∈ book, s.inn rs) (hl : ∀ l ∈ lks, LkIn ps rs l) : ∀ x r y, Sp book lks x r y → (x, r, y) ∈ uniL ps rs := fun x r y h => by
  have : x ∈ ps ∧ r ∈ rs ∧ y ∈ ps := by
    induction h with
    | base h0 => exact hl _ h0
    | role h0 _ ih => exact ⟨ih.1, (hb _ h0).2, ih.2.2⟩
    | chain h0 _ _ ih1 ih2 => exact ⟨ih1.1, (hb _ h0).2.2, ih2.2.2⟩
  unfold uniL
  exact List.mem_flatMap.mpr ⟨x, this.1, List.mem_flatMap.mpr ⟨r, this.2.1, List.mem_map_of_mem (f := fun y => (x, r, y)) this.2.2⟩⟩
theorem inn_mono {rs rs' : List Str} (i : ∀ r ∈ rs, r ∈ rs') {s : Say} (h : s.inn rs) : s.inn rs' := by
  cases s with
  | role a b => exact ⟨i _ h.1, i _ h.2⟩
  | chain a b c => exact ⟨i _ h.1, i _ h.2.1, i _ h.2.2⟩
def dspLaw : DSp := fun ds S Q => ∃ ns : List Int, ds = [.lst (ns.map .int)] ∧ ns.length ≤ 1000 ∧ (∀ n ∈ ns, Builtin.Int.intBits n ≤ 1048576) ∧ Q (.bl true) S
theorem items_go {α : EF} {ρ : Rho} {S : DS} {big : Int} {ns : List Int} (h : α ρ S = some (.lst (ns.map .int))) (hl : ns.length ≤ 1000) : itLst (dLst (lCut (dLst (lAdd (dLst (lLst (aCons (dC (.int big)) aNil))) α)) oNone (oSome (dC (.int 6))))) ρ S = some (((big :: ns).take 6).map .int, none) := by
  have e1 : dLst (lAdd (dLst (lLst (aCons (dC (.int big)) aNil))) α) ρ S = some (.lst ((big :: ns).map .int)) := by
    show Option.map D.lst ((dLst (lLst (aCons (dC (.int big)) aNil)) ρ S).bind fun x => (α ρ S).bind fun y => (lstOf S x).bind fun xs => (lstOf S y).bind fun ys => if xs.length + ys.length ≤ 1000000 then some (xs ++ ys) else none) = _
    rw [show dLst (lLst (aCons (dC (.int big)) aNil)) ρ S = some (.lst [.int big]) from rfl, h]
    show (if ([D.int big]).length + (ns.map D.int).length ≤ 1000000 then some ([D.int big] ++ ns.map D.int) else none).map D.lst = _
    rw [if_pos (by simp; omega)]
    rfl
  have e2 : dLst (lCut (dLst (lAdd (dLst (lLst (aCons (dC (.int big)) aNil))) α)) oNone (oSome (dC (.int 6)))) ρ S = some (.lst (((big :: ns).take 6).map .int)) := by
    show Option.map D.lst (((dLst (lAdd (dLst (lLst (aCons (dC (.int big)) aNil))) α)) ρ S).bind fun x => (lstOf S x).bind fun ds => (oNone ρ S).bind fun i => (oSome (dC (.int 6)) ρ S).map fun j => KD.cutD ds i j) = _
    rw [e1]
    show some (D.lst (KD.cutD ((big :: ns).map .int) none (some 6))) = _
    rw [cut6, List.map_take]
  unfold itLst
  rw [e2]
  rfl
end KD
set_option Elab.async false
set_option linter.all false
set_option maxRecDepth 100000
set_option maxHeartbeats 2000000
/-! Steps of the law, on. -/
namespace KD
open PySem PySem.Spec PyProof.Rows L2 Evl
theorem none_le {S S' : DS} {p : Addr} (l : Le S S') (h : S' p = none) : S p = none := by
  cases e : S p with
  | none => rfl
  | some c => rw [l _ _ e] at h; cases h
theorem not_go {A B : Prop} (h : B) : (if (!true) = true then A else B) := h
theorem nx_go {E : DEnds} {ρ : Rho} {S : DS} (h : E.nx ρ S) : dNext E ρ S := h
theorem pj_go {a b c : Rho → DS → Prop} {r : DQ} {ρ : Rho} {S : DS} (h : a ρ S) : (DEnds.mk a r b c).nx ρ S := h
theorem lst_go {η : FA} {ρ : Rho} {S : DS} {ds : List D} (h : η ρ S = some ds) (hl : ds.length ≤ 1000 := by simp) : dLst (lLst η) ρ S = some (.lst ds) := by
  unfold dLst lLst
  rw [h]
  show (if ds.length ≤ 1000 then some ds else none).map D.lst = _
  rw [if_pos hl]
  rfl
theorem gDin_lk {S : DS} {ad : Addr} {ls : List Lk} {l : Lk} (h : S ad = some (.dT (lkT ls))) : gDin false S (lkd l) (.ref ad) = some (.bl (decide (l ∈ ls))) := by
  have h3 := lkd_key l
  unfold gDin
  simp only [getD_T h h3, Option.map_some, findT_lk h3]
  rfl
theorem addT_go {α β : EF} {ρ : Rho} {S : DS} {xs ys : List D} (h1 : α ρ S = some (.tup xs)) (h2 : β ρ S = some (.tup ys)) (hl : xs.length + ys.length ≤ 1000) : dBin gAddT α β ρ S = some (.tup (xs ++ ys)) := by
  unfold dBin
  rw [h1, h2]
  show (if xs.length + ys.length ≤ 1000000 then some (D.tup (xs ++ ys)) else none) = _
  exact if_pos (by omega)
theorem cut2v_go {α : EF} {ρ : Rho} {S : DS} {ws : List Str} (h : α ρ S = some (.lst (ws.map .str))) : dLst (lCut α oNone (oSome (dC (.int 2)))) ρ S = some (.lst ((ws.take 2).map .str)) := by
  show Option.map D.lst ((α ρ S).bind fun x => (lstOf S x).bind fun ds => (oNone ρ S).bind fun i => (oSome (dC (.int 2)) ρ S).map fun j => KD.cutD ds i j) = _
  rw [h]
  show some (D.lst (KD.cutD (ws.map .str) none (some 2))) = _
  rw [cut2, List.map_take]
theorem dif_go {γ : FT} {α β : EF} {ρ : Rho} {S : DS} {b : Bool} {d : D} (h : γ ρ S = some b) (h1 : b = true → α ρ S = some d) (h2 : b = false → β ρ S = some d) : dIf γ α β ρ S = some d := by
  unfold dIf
  rw [h]
  cases b with
  | true => exact h1 rfl
  | false => exact h2 rfl
theorem eqs1 {α α' : EF} {ρ : Rho} {S : DS} {t x : Str} (h1 : α ρ S = some (.str t)) (h1' : α' ρ S = some (.str x)) : tb (dBin gEq α α') ρ S = some (decide (t = x)) := tb_go (by unfold dBin; rw [h1, h1']; rfl)
theorem ix0Lc_go {ι : FI} {γ : Gam} {κ : FT} {ν : EF} {vs : List Nat} {i : Nat} {E : DEnds} {ρ : Rho} {S : DS} {items : List D} {k : KeepC} {keep : D → Bool} {out : D → D} {w : D} {r : List D} (h1 : ι ρ S = some (items, k)) (hl : items.length ≤ 1000000)
    (h2 : ∀ d ∈ items, ∀ S', Le S S' → ∃ ρ2, γ d (wipeD ρ vs) = some ρ2 ∧ κ ρ2 S' = some (keep d) ∧ (keep d = true → ν ρ2 S' = some (out d))) (hr : (items.filter keep).map out = w :: r) (q : E.nx (ρ.set i (some w)) S) :
    dAsg (tBin gIx (asLst (lLc ι γ κ ν vs)) (fE (dC (.int 0)))) (dgName i) E ρ S := by
  dsimp only [dAsg, tBin, asLst]
  refine lc_go1 h1 hl h2 ?_
  rw [hr]
  exact ⟨_, rfl, w, gIx_lst.trans atI0, q⟩
def xyz : List Str := ["x", "y", "z"]
theorem in_x : ("x" : Str) ∈ xyz := List.mem_cons_self
theorem in_y : ("y" : Str) ∈ xyz := List.mem_cons_of_mem _ List.mem_cons_self
theorem in_z : ("z" : Str) ∈ xyz := List.mem_cons_of_mem _ (List.mem_cons_of_mem _ List.mem_cons_self)
theorem ask_in {rs : List Str} {cl : Say} (h : cl.inn rs) : ∀ l ∈ askL cl "x" "y" "z", LkIn xyz rs l := fun l hl => by
  cases cl with
  | role a b =>
    rw [List.mem_singleton.mp hl]
    exact ⟨in_x, h.1, in_y⟩
  | chain a b c =>
    rcases List.mem_cons.mp hl with rfl | hl
    · exact ⟨in_x, h.1, in_y⟩
    · rw [List.mem_singleton.mp hl]
      exact ⟨in_y, h.2.1, in_z⟩
theorem goalC_eq {cl : Say} {a b c : Str} : goalC cl a b c = .lnk (psn (goalL cl a b c).1) (goalL cl a b c).2.1 (psn (goalL cl a b c).2.2) := by cases cl <;> rfl
theorem fol_iff {book : List Say} {facts : List KD.Fa} {rs ps : List Str} {cl : Say} {a b c : Str} {ls : List Lk} {k : Bool} (h : Setup book facts rs ps) (hp : ps.length ≤ 10) (hf : facts.length ≤ 50) (hc : cl.inn rs) (wa : isW a = true) (wb : isW b = true) (wc : isW c = true)
    (h1 : a ≠ b) (h2 : a ≠ c) (h3 : b ≠ c) (ha : a ∉ perS (facts.map Fa.d)) (hb : b ∉ perS (facts.map Fa.d)) (hcc : c ∉ perS (facts.map Fa.d)) (hls : ∀ x r y, (x, r, y) ∈ ls ↔ Sp book (askL cl "x" "y" "z") x r y)
    (hk : ∀ pr, Least (world book (facts ++ askF cl a b c) [] rs (ps ++ [a, b, c])) (inL (world book (facts ++ askF cl a b c) [] rs (ps ++ [a, b, c])) (facts ++ askF cl a b c)) pr → (k = true ↔ pr (goalC cl a b c))) : k = decide (goalL cl "x" "y" "z" ∈ ls) := by
  have hs := setup_ask h hp hf hc wa wb wc
  obtain ⟨pr, hpr⟩ := least_ex (wo_ok hs nil_kl) (sat_ok hs nil_kl).un
  rw [Bool.eq_iff_iff, hk pr hpr, goalC_eq, ans_lnk hs nil_kl hpr, ask_iff h h1 h2 h3 ha hb hcc, decide_eq_true_eq, ← hls]
end KD
set_option Elab.async false
set_option linter.all false
set_option maxRecDepth 100000
set_option maxHeartbeats 4000000
namespace K62
open PySem PySem.Spec PyProof.Rows L2 Evl KD
def top (i : Nat) : Stmt := PySem.Challenge.pw_kindlore_k62_whole_chains_and_roles.main.body.getD i (.Pass ⟨0, 0, 0, 0⟩)
def meth (i : Nat) : Stmt := (C8.clsBody (top 43)).getD i (.Pass ⟨0, 0, 0, 0⟩)
def clsC (K : PySem.W.Frag) : Addr := He.ga K "Saturation"
structure Wd (K : PySem.W.Frag) (mg : Str → Option Value) : Prop where
  f_len : mg "len" = none
  f_isinstance : mg "isinstance" = none
  f_all : mg "all" = none
  f_any : mg "any" = none
  f_str : mg "str" = none
  f_tuple : mg "tuple" = none
  f_list : mg "list" = none
  f_bool : mg "bool" = none
  f_int : mg "int" = none
  f_dict : mg "dict" = none
  f_sorted : mg "sorted" = none
  f_range : mg "range" = none
  f_enumerate : mg "enumerate" = none
  letters : Gc K mg "LETTERS" (.str "abcdefghijklmnopqrstuvwxyz")
  any : Gc K mg "ANY" (.tup [.str "any"])
  none : Gc K mg "NONE" (.tup [.str "none"])
  d_is_word : Dn K mg "is_word" (top 12)
  d_check_word : Dn K mg "check_word" (top 13)
  d_is_kind : Dn K mg "is_kind" (top 17)
  d_check_kind : Dn K mg "check_kind" (top 18)
  d_kinds_within : Dn K mg "kinds_within" (top 19)
  d_parts_of : Dn K mg "parts_of" (top 20)
  d_is_saying : Dn K mg "is_saying" (top 22)
  d_is_book : Dn K mg "is_book" (top 23)
  d_check_book : Dn K mg "check_book" (top 24)
  d_kinds_of_sayings : Dn K mg "kinds_of_sayings" (top 25)
  d_is_fact : Dn K mg "is_fact" (top 27)
  d_is_facts : Dn K mg "is_facts" (top 28)
  d_is_claim : Dn K mg "is_claim" (top 29)
  d_check_facts : Dn K mg "check_facts" (top 30)
  d_check_claim : Dn K mg "check_claim" (top 31)
  d_persons_of_claim : Dn K mg "persons_of_claim" (top 32)
  d_persons_in : Dn K mg "persons_in" (top 33)
  d_kinds_in : Dn K mg "kinds_in" (top 34)
  d_fresh_persons : Dn K mg "fresh_persons" (top 35)
  d_asked_facts : Dn K mg "asked_facts" (top 36)
  d_goal_of : Dn K mg "goal_of" (top 37)
  d_conclusion_of_fact : Dn K mg "conclusion_of_fact" (top 39)
  d_asked_of : Dn K mg "asked_of" (top 41)
  d_under : Dn K mg "under" (top 42)
  m___init__ : ∃ f fd, FunD K "__init__" "Saturation.__init__" (defArgs (meth 0)) (defBody (meth 0)) (defScope (meth 0)) [] [] f fd ∧ Mk K (clsC K) f
  m__index_kinds : ∃ f fd, FunD K "_index_kinds" "Saturation._index_kinds" (defArgs (meth 1)) (defBody (meth 1)) (defScope (meth 1)) [] [] f fd ∧ Meth K (clsC K) "_index_kinds" f
  m__index_sayings : ∃ f fd, FunD K "_index_sayings" "Saturation._index_sayings" (defArgs (meth 2)) (defBody (meth 2)) (defScope (meth 2)) [] [] f fd ∧ Meth K (clsC K) "_index_sayings" f
  m__begin : ∃ f fd, FunD K "_begin" "Saturation._begin" (defArgs (meth 3)) (defBody (meth 3)) (defScope (meth 3)) [] [] f fd ∧ Meth K (clsC K) "_begin" f
  m__offer : ∃ f fd, FunD K "_offer" "Saturation._offer" (defArgs (meth 4)) (defBody (meth 4)) (defScope (meth 4)) [] [] f fd ∧ Meth K (clsC K) "_offer" f
  m__next : ∃ f fd, FunD K "_next" "Saturation._next" (defArgs (meth 5)) (defBody (meth 5)) (defScope (meth 5)) [] [] f fd ∧ Meth K (clsC K) "_next" f
  m__below : ∃ f fd, FunD K "_below" "Saturation._below" (defArgs (meth 6)) (defBody (meth 6)) (defScope (meth 6)) [] [] f fd ∧ Meth K (clsC K) "_below" f
  m__whole : ∃ f fd, FunD K "_whole" "Saturation._whole" (defArgs (meth 7)) (defBody (meth 7)) (defScope (meth 7)) [] [] f fd ∧ Meth K (clsC K) "_whole" f
  m__behind : ∃ f fd, FunD K "_behind" "Saturation._behind" (defArgs (meth 8)) (defBody (meth 8)) (defScope (meth 8)) [] [] f fd ∧ Meth K (clsC K) "_behind" f
  m__link : ∃ f fd, FunD K "_link" "Saturation._link" (defArgs (meth 9)) (defBody (meth 9)) (defScope (meth 9)) [] [] f fd ∧ Meth K (clsC K) "_link" f
  m_is_below : ∃ f fd, FunD K "is_below" "Saturation.is_below" (defArgs (meth 10)) (defBody (meth 10)) (defScope (meth 10)) [] [] f fd ∧ Meth K (clsC K) "is_below" f
  m_void_subject : ∃ f fd, FunD K "void_subject" "Saturation.void_subject" (defArgs (meth 11)) (defBody (meth 11)) (defScope (meth 11)) [] [] f fd ∧ Meth K (clsC K) "void_subject" f
  m_is_void : ∃ f fd, FunD K "is_void" "Saturation.is_void" (defArgs (meth 12)) (defBody (meth 12)) (defScope (meth 12)) [] [] f fd ∧ Meth K (clsC K) "is_void" f
  d_saturated : Dn K mg "saturated" (top 44)
  d_check_known : Dn K mg "check_known" (top 46)
  d_members : Dn K mg "members" (top 47)
  d_linked : Dn K mg "linked" (top 48)
  d_check_question : Dn K mg "check_question" (top 50)
  d_question : Dn K mg "question" (top 51)
  d_follows_of : Dn K mg "follows_of" (top 52)
  d_follows : Dn K mg "follows" (top 53)
  d__law_source : Dn K mg "_law_source" (top 55)
  d__law_pick : Dn K mg "_law_pick" (top 56)
  d__law_same : Dn K mg "_law_same" (top 57)
  d__law_words : Dn K mg "_law_words" (top 58)
  d__law_spread : Dn K mg "_law_spread" (top 59)
  d__law_role_book : Dn K mg "_law_role_book" (top 60)
  d__law_told_right : Dn K mg "_law_told_right" (top 61)
  d_law : Dn K mg "law" (top 62)
  g_cls : mg "Saturation" = some (.ref (clsC K))
  cls : Cls K (clsC K)
  n_kinds : NoAttr K (clsC K) "kinds"
  n_persons : NoAttr K (clsC K) "persons"
  n_least : NoAttr K (clsC K) "least"
  n_steps : NoAttr K (clsC K) "steps"
  n_sizes : NoAttr K (clsC K) "sizes"
  n_waiting : NoAttr K (clsC K) "waiting"
  n_count : NoAttr K (clsC K) "count"
  n_below : NoAttr K (clsC K) "below"
  n_links_from : NoAttr K (clsC K) "links_from"
  n_links_to : NoAttr K (clsC K) "links_to"
  n_wholes : NoAttr K (clsC K) "wholes"
  n_somes : NoAttr K (clsC K) "somes"
  n_sayings : NoAttr K (clsC K) "sayings"
  n_roles : NoAttr K (clsC K) "roles"
  n_firsts : NoAttr K (clsC K) "firsts"
  n_seconds : NoAttr K (clsC K) "seconds"
/-- every def with its names -/
theorem sc_is_word : FnScope ["value", "char"] ["value"] (defScope (top 12)) := ⟨rfl, rfl, rfl, by decide +kernel, rfl, by decide +kernel, by decide +kernel⟩
theorem sc_is_kind : FnScope ["value", "kind"] ["value"] (defScope (top 17)) := ⟨rfl, rfl, rfl, by decide +kernel, rfl, by decide +kernel, by decide +kernel⟩
theorem sc_check_word : FnScope ["word"] ["word"] (defScope (top 13)) := ⟨rfl, rfl, rfl, by decide +kernel, rfl, by decide +kernel, by decide +kernel⟩
section
variable {P : Program} {w : World} {K : PySem.W.Frag} {mg : Str → Option Value} {base : Heap}
theorem has_is_word (W : Wd K mg) : Has P w K mg base 1 "is_word" 1 (pureSp (p1 fun a => yes (wfW a) (.bl true))) := by
  have Sc := sc_is_word
  refine has_ok W.d_is_word Sc (fun _ _ _ _ _ _ us hl => match us, hl with | [_], _ => rfl) fun f cdv A outer s H E hr => ?_
  have hu := bare_units hr
  have hd : WSs (cxOf C8.CX0 P w K mg base ["value", "char"] "is_word" (defScope (top 12)) f cdv A outer s H E).nox (defBody (top 12)) _ := (wss_cons (ws_if (ft_w (fw_or (ft_not (ft_val (fe_isi rfl W.f_isinstance (fe_v 0) (fe_ty (n := "str") rfl W.f_str (by decide +kernel))))) (fw_or1 (ft_not (ft_chain op_le op_le of_le of_le (fe_int) (fe_len rfl W.f_len (fe_v 0)) (fe_int)))))) (wss_one (ws_ret (fe_bl))) wss_nil)
      (wss_one (ws_ret (we_all rfl W.f_all (wa_cons (wl_lcS (own := [("char", 1)]) rfl Sc.nd (blkOk_by (by rfl)) iok_str (fi_str (fe_v 0)) (tgb_name (i := 1)) (fun _ _ _ _ _ => (pg_name (i := 1) Sc.nd rfl (Or.inl rfl))) (fun _ _ _ _ _ => ftn) (fun _ _ _ _ _ => (fe_inS (fe_v 1) (fe_gc W.letters rfl)))) wa_nil)))))
  refine ⟨_, hd, fun ds S Q hl hp => ?_⟩
  clear hd
  obtain ⟨a, d, rfl, h, q⟩ := p1_open hp
  obtain ⟨ha, rfl⟩ := yes_some h
  match a, ha with
  | .str x, ha =>
  have h1 : 1 ≤ x.length ∧ x.length ≤ 8 ∧ ∀ c ∈ x.cps.toList, c ∈ letters.cps.toList := by
    have ha : isW x = true := ha
    unfold isW at ha
    simp only [Bool.and_eq_true, decide_eq_true_eq, List.all_eq_true] at ha
    exact ⟨ha.1.1, ha.1.2, ha.2⟩
  have h2 : x.length ≤ 1000000 := by omega
  have h3 : (1 : Int) ≤ x.length := by omega
  have h4 : (x.length : Int) ≤ 8 := by omega
  refine ⟨false, ?_, ?_⟩
  · simp [fT, fE, fA, bOr, bAnd, bNot, tb, tru, truD, dCall, lCall, gIsi, aCons, aNil, dVar, dC, dChain, gLe, gLt, gGe, gGt, gLen, gEq, gNe, eq2_str, eq2_int, eq2_bl, gIx, dBin, dTup, dIf, gAdd, gAddS, gAddT, gAll, gAny, gTuple, gList, gInt, startD, tyName, seqOf, lstOf, List.map_cons, List.map_nil, List.length_cons, List.length_nil, List.replicate, Option.bind_some, Option.map_some, Option.join_some, kit_NoneType_bool, kit_NoneType_int, kit_NoneType_str, kit_NoneType_tuple, kit_NoneType_list, kit_NoneType_dict, kit_bool_bool, kit_bool_int, kit_bool_str, kit_bool_tuple, kit_bool_list, kit_bool_dict, kit_int_bool, kit_int_int, kit_int_str, kit_int_tuple, kit_int_list, kit_int_dict, kit_str_bool, kit_str_int, kit_str_str, kit_str_tuple, kit_str_list, kit_str_dict, kit_tuple_bool, kit_tuple_int, kit_tuple_str, kit_tuple_tuple, kit_tuple_list, kit_tuple_dict, kit_list_bool, kit_list_int, kit_list_str, kit_list_tuple, kit_list_list, kit_list_dict, kit_dict_bool, kit_dict_int, kit_dict_str, kit_dict_tuple, kit_dict_list, kit_dict_dict, dFn1, dFn2, dFn3, atI0, atI1, atI2, atI3, vAnd, vOr, vNot, Option.bind_none, Option.map_none, if_true, if_false, Bool.not_true, Bool.not_false, decide_true, decide_false, Bool.false_eq_true, h2, h3, h4]
  · refine all_go (f := fun _ => true) (items := KD.signs x) (k := none) (by simp [itStr, fT, fE, fA, bOr, bAnd, bNot, tb, tru, truD, dCall, lCall, gIsi, aCons, aNil, dVar, dC, dChain, gLe, gLt, gGe, gGt, gLen, gEq, gNe, eq2_str, eq2_int, eq2_bl, gIx, dBin, dTup, dIf, gAdd, gAddS, gAddT, gAll, gAny, gTuple, gList, gInt, startD, tyName, seqOf, lstOf, List.map_cons, List.map_nil, List.length_cons, List.length_nil, List.replicate, Option.bind_some, Option.map_some, Option.join_some, kit_NoneType_bool, kit_NoneType_int, kit_NoneType_str, kit_NoneType_tuple, kit_NoneType_list, kit_NoneType_dict, kit_bool_bool, kit_bool_int, kit_bool_str, kit_bool_tuple, kit_bool_list, kit_bool_dict, kit_int_bool, kit_int_int, kit_int_str, kit_int_tuple, kit_int_list, kit_int_dict, kit_str_bool, kit_str_int, kit_str_str, kit_str_tuple, kit_str_list, kit_str_dict, kit_tuple_bool, kit_tuple_int, kit_tuple_str, kit_tuple_tuple, kit_tuple_list, kit_tuple_dict, kit_list_bool, kit_list_int, kit_list_str, kit_list_tuple, kit_list_list, kit_list_dict, kit_dict_bool, kit_dict_int, kit_dict_str, kit_dict_tuple, kit_dict_list, kit_dict_dict, dFn1, dFn2, dFn3, atI0, atI1, atI2, atI3, vAnd, vOr, vNot, Option.bind_none, Option.map_none, if_true, if_false, Bool.not_true, Bool.not_false, decide_true, decide_false, Bool.false_eq_true]) ?_ (fun d hd S' _ => ?_) ?_
    · unfold KD.signs
      rw [List.length_map, Array.length_toList]
      exact h2
    · obtain ⟨c, hc, rfl⟩ := List.mem_map.mp (show d ∈ x.cps.toList.map fun c => D.str ⟨#[c]⟩ from hd)
      refine ⟨_, rfl, ?_⟩
      have hc2 : c ∈ (Str.ofString "abcdefghijklmnopqrstuvwxyz").cps := Array.mem_toList_iff.mp (h1.2.2 c hc)
      simp [fT, fE, fA, bOr, bAnd, bNot, tb, tru, truD, dCall, lCall, gIsi, aCons, aNil, dVar, dC, dChain, gLe, gLt, gGe, gGt, gLen, gEq, gNe, eq2_str, eq2_int, eq2_bl, gIx, dBin, dTup, dIf, gAdd, gAddS, gAddT, gAll, gAny, gTuple, gList, gInt, startD, tyName, seqOf, lstOf, List.map_cons, List.map_nil, List.length_cons, List.length_nil, List.replicate, Option.bind_some, Option.map_some, Option.join_some, kit_NoneType_bool, kit_NoneType_int, kit_NoneType_str, kit_NoneType_tuple, kit_NoneType_list, kit_NoneType_dict, kit_bool_bool, kit_bool_int, kit_bool_str, kit_bool_tuple, kit_bool_list, kit_bool_dict, kit_int_bool, kit_int_int, kit_int_str, kit_int_tuple, kit_int_list, kit_int_dict, kit_str_bool, kit_str_int, kit_str_str, kit_str_tuple, kit_str_list, kit_str_dict, kit_tuple_bool, kit_tuple_int, kit_tuple_str, kit_tuple_tuple, kit_tuple_list, kit_tuple_dict, kit_list_bool, kit_list_int, kit_list_str, kit_list_tuple, kit_list_list, kit_list_dict, kit_dict_bool, kit_dict_int, kit_dict_str, kit_dict_tuple, kit_dict_list, kit_dict_dict, dFn1, dFn2, dFn3, atI0, atI1, atI2, atI3, vAnd, vOr, vNot, Option.bind_none, Option.map_none, if_true, if_false, Bool.not_true, Bool.not_false, decide_true, decide_false, Bool.false_eq_true, wipeD, gInS, hc2]
    · refine RdQ.here ?_
      rw [show (KD.signs x).all (fun _ => true) = true by simp]
      exact q
theorem has_check_word (W : Wd K mg) : Has P w K mg base 2 "check_word" 1 (pureSp (p1 fun a => yes (wfW a) .non)) := by
  have Sc := sc_check_word
  refine has_ok W.d_check_word Sc (fun _ _ _ _ _ _ us hl => match us, hl with | [_], _ => rfl) fun f cdv A outer s H E hr => ?_
  have hu := bare_units hr
  have hd : WSs (cxOf C8.CX0 P w K mg base ["word"] "check_word" (defScope (top 13)) f cdv A outer s H E).nox (defBody (top 13)) _ := (wss_one (ws_if (ft_not (ft_val (fe_call (has_is_word W) hr (by first | decide | omega) rfl (fa_cons (fe_v 0) fa_nil)))) wss_never wss_nil))
  refine ⟨_, hd, fun ds S Q hl hp => ?_⟩
  clear hd
  obtain ⟨a, d, rfl, h, q⟩ := p1_open hp
  obtain ⟨ha, rfl⟩ := yes_some h
  refine ⟨false, ?_, RdQ.here q⟩
  simp [fT, fE, fA, bOr, bAnd, bNot, tb, tru, truD, dCall, lCall, gIsi, aCons, aNil, dVar, dC, dChain, gLe, gLt, gGe, gGt, gLen, gEq, gNe, eq2_str, eq2_int, eq2_bl, gIx, dBin, dTup, dIf, gAdd, gAddS, gAddT, gAll, gAny, gTuple, gList, gInt, startD, tyName, seqOf, lstOf, List.map_cons, List.map_nil, List.length_cons, List.length_nil, List.replicate, Option.bind_some, Option.map_some, Option.join_some, kit_NoneType_bool, kit_NoneType_int, kit_NoneType_str, kit_NoneType_tuple, kit_NoneType_list, kit_NoneType_dict, kit_bool_bool, kit_bool_int, kit_bool_str, kit_bool_tuple, kit_bool_list, kit_bool_dict, kit_int_bool, kit_int_int, kit_int_str, kit_int_tuple, kit_int_list, kit_int_dict, kit_str_bool, kit_str_int, kit_str_str, kit_str_tuple, kit_str_list, kit_str_dict, kit_tuple_bool, kit_tuple_int, kit_tuple_str, kit_tuple_tuple, kit_tuple_list, kit_tuple_dict, kit_list_bool, kit_list_int, kit_list_str, kit_list_tuple, kit_list_list, kit_list_dict, kit_dict_bool, kit_dict_int, kit_dict_str, kit_dict_tuple, kit_dict_list, kit_dict_dict, dFn1, dFn2, dFn3, atI0, atI1, atI2, atI3, vAnd, vOr, vNot, Option.bind_none, Option.map_none, if_true, if_false, Bool.not_true, Bool.not_false, decide_true, decide_false, Bool.false_eq_true, yes_true ha]
/-- is_kind of what is a kind, n deep -/
theorem has_is_kind (W : Wd K mg) : ∀ n, Has P w K mg base (n + 2) "is_kind" 1 (pureSp (p1 fun a => yes (wfK n a) (.bl true)))
  | 0 => by
    have Sc := sc_is_kind
    refine has_ok W.d_is_kind Sc (fun _ _ _ _ _ _ us hl => match us, hl with | [_], _ => rfl) fun f cdv A outer s H E hr => ?_
    have hu := bare_units hr
    have hd : WSs (cxOf C8.CX0 P w K mg base ["value", "kind"] "is_kind" (defScope (top 17)) f cdv A outer s H E).nox (defBody (top 17)) _ := wss_never
    refine ⟨_, hd, fun ds S Q hl hp => ?_⟩
    clear hd
    obtain ⟨a, d, rfl, h, q⟩ := p1_open hp
    obtain ⟨ha, rfl⟩ := yes_some h
    cases a <;> simp [wfK] at ha
  | n + 1 => by
    have ih := has_is_kind W n
    have Sc := sc_is_kind
    refine has_ok W.d_is_kind Sc (fun _ _ _ _ _ _ us hl => match us, hl with | [_], _ => rfl) fun f cdv A outer s H E hr => ?_
    have hu := bare_units hr
    have hd : WSs (cxOf C8.CX0 P w K mg base ["value", "kind"] "is_kind" (defScope (top 17)) f cdv A outer s H E).nox (defBody (top 17)) _ := (wss_cons (ws_if (ft_w (fw_or (ft_not (ft_val (fe_isi rfl W.f_isinstance (fe_v 0) (fe_ty (n := "tuple") rfl W.f_tuple (by decide +kernel))))) (fw_or (ft_not (ft_tru (fe_v 0))) (fw_or1 (ft_not (ft_val (fe_isi rfl W.f_isinstance (fe_ix (fe_v 0) (fe_int)) (fe_ty (n := "str") rfl W.f_str (by decide +kernel))))))))) (wss_one (ws_ret (fe_bl))) wss_nil)
        (wss_cons (ws_if (ft_w (fw_or (ft_eq hu (fe_ix (fe_v 0) (fe_int)) (fe_str)) (fw_or1 (ft_eq hu (fe_ix (fe_v 0) (fe_int)) (fe_str))))) (wss_one (ws_ret (fe_eq hu (fe_len rfl W.f_len (fe_v 0)) (fe_int)))) wss_nil)
        (wss_cons (ws_if (ft_eq hu (fe_ix (fe_v 0) (fe_int)) (fe_str)) (wss_one (ws_ret (fe_and (fe_eq hu (fe_len rfl W.f_len (fe_v 0)) (fe_int)) (fe_one (fe_call (has_is_word W) hr (by first | decide | omega) rfl (fa_cons (fe_ix (fe_v 0) (fe_int)) fa_nil)))))) wss_nil)
        (wss_cons (ws_if (ft_eq hu (fe_ix (fe_v 0) (fe_int)) (fe_str)) (wss_one (ws_ret (fe_and (fe_eq hu (fe_len rfl W.f_len (fe_v 0)) (fe_int)) (fe_and (fe_call (has_is_word W) hr (by first | decide | omega) rfl (fa_cons (fe_ix (fe_v 0) (fe_int)) fa_nil)) (fe_one (fe_call ih hr (by first | decide | omega) rfl (fa_cons (fe_ix (fe_v 0) (fe_int)) fa_nil))))))) wss_nil)
        (wss_cons (ws_if (ft_w (fw_or (ft_ne hu (fe_ix (fe_v 0) (fe_int)) (fe_str)) (fw_or (ft_ne hu (fe_len rfl W.f_len (fe_v 0)) (fe_int)) (fw_or (ft_not (ft_val (fe_isi rfl W.f_isinstance (fe_ix (fe_v 0) (fe_int)) (fe_ty (n := "tuple") rfl W.f_tuple (by decide +kernel))))) (fw_or1 (ft_lt (fe_len rfl W.f_len (fe_ix (fe_v 0) (fe_int))) (fe_int))))))) (wss_one (ws_ret (fe_bl))) wss_nil)
        (wss_one (ws_ret (we_all rfl W.f_all (wa_cons (wl_lcS (own := [("kind", 1)]) rfl Sc.nd (blkOk_by (by rfl)) iok_tup (fi_tup (fe_ix (fe_v 0) (fe_int))) (tgb_name (i := 1)) (fun _ _ _ _ _ => (pg_name (i := 1) Sc.nd rfl (Or.inl rfl))) (fun _ _ _ _ _ => ftn) (fun _ _ _ _ _ => (fe_call ih hr (by first | decide | omega) rfl (fa_cons (fe_v 1) fa_nil)))) wa_nil)))))))))
    refine ⟨_, hd, fun ds S Q hl hp => ?_⟩
    clear hd
    obtain ⟨a, d, rfl, h, q⟩ := p1_open hp
    obtain ⟨ha, rfl⟩ := yes_some h
    match a, ha with
    | .tup [.str t], ha =>
      have ht : t = "any" ∨ t = "none" := by simpa [wfK] using ha
      rcases ht with rfl | rfl
      · exact ⟨false, (by first | rfl | simp [fT, fE, fA, bOr, bAnd, bNot, tb, tru, truD, dCall, lCall, gIsi, aCons, aNil, dVar, dC, dChain, gLe, gLt, gGe, gGt, gLen, gEq, gNe, eq2_str, eq2_int, eq2_bl, gIx, dBin, dTup, dIf, gAdd, gAddS, gAddT, gAll, gAny, gTuple, gList, gInt, startD, tyName, seqOf, lstOf, List.map_cons, List.map_nil, List.length_cons, List.length_nil, List.replicate, Option.bind_some, Option.map_some, Option.join_some, kit_NoneType_bool, kit_NoneType_int, kit_NoneType_str, kit_NoneType_tuple, kit_NoneType_list, kit_NoneType_dict, kit_bool_bool, kit_bool_int, kit_bool_str, kit_bool_tuple, kit_bool_list, kit_bool_dict, kit_int_bool, kit_int_int, kit_int_str, kit_int_tuple, kit_int_list, kit_int_dict, kit_str_bool, kit_str_int, kit_str_str, kit_str_tuple, kit_str_list, kit_str_dict, kit_tuple_bool, kit_tuple_int, kit_tuple_str, kit_tuple_tuple, kit_tuple_list, kit_tuple_dict, kit_list_bool, kit_list_int, kit_list_str, kit_list_tuple, kit_list_list, kit_list_dict, kit_dict_bool, kit_dict_int, kit_dict_str, kit_dict_tuple, kit_dict_list, kit_dict_dict, dFn1, dFn2, dFn3, atI0, atI1, atI2, atI3, vAnd, vOr, vNot, Option.bind_none, Option.map_none, if_true, if_false, Bool.not_true, Bool.not_false, decide_true, decide_false, Bool.false_eq_true]), true, (by first | rfl | simp [fT, fE, fA, bOr, bAnd, bNot, tb, tru, truD, dCall, lCall, gIsi, aCons, aNil, dVar, dC, dChain, gLe, gLt, gGe, gGt, gLen, gEq, gNe, eq2_str, eq2_int, eq2_bl, gIx, dBin, dTup, dIf, gAdd, gAddS, gAddT, gAll, gAny, gTuple, gList, gInt, startD, tyName, seqOf, lstOf, List.map_cons, List.map_nil, List.length_cons, List.length_nil, List.replicate, Option.bind_some, Option.map_some, Option.join_some, kit_NoneType_bool, kit_NoneType_int, kit_NoneType_str, kit_NoneType_tuple, kit_NoneType_list, kit_NoneType_dict, kit_bool_bool, kit_bool_int, kit_bool_str, kit_bool_tuple, kit_bool_list, kit_bool_dict, kit_int_bool, kit_int_int, kit_int_str, kit_int_tuple, kit_int_list, kit_int_dict, kit_str_bool, kit_str_int, kit_str_str, kit_str_tuple, kit_str_list, kit_str_dict, kit_tuple_bool, kit_tuple_int, kit_tuple_str, kit_tuple_tuple, kit_tuple_list, kit_tuple_dict, kit_list_bool, kit_list_int, kit_list_str, kit_list_tuple, kit_list_list, kit_list_dict, kit_dict_bool, kit_dict_int, kit_dict_str, kit_dict_tuple, kit_dict_list, kit_dict_dict, dFn1, dFn2, dFn3, atI0, atI1, atI2, atI3, vAnd, vOr, vNot, Option.bind_none, Option.map_none, if_true, if_false, Bool.not_true, Bool.not_false, decide_true, decide_false, Bool.false_eq_true]), .bl true, (by first | rfl | simp [fT, fE, fA, bOr, bAnd, bNot, tb, tru, truD, dCall, lCall, gIsi, aCons, aNil, dVar, dC, dChain, gLe, gLt, gGe, gGt, gLen, gEq, gNe, eq2_str, eq2_int, eq2_bl, gIx, dBin, dTup, dIf, gAdd, gAddS, gAddT, gAll, gAny, gTuple, gList, gInt, startD, tyName, seqOf, lstOf, List.map_cons, List.map_nil, List.length_cons, List.length_nil, List.replicate, Option.bind_some, Option.map_some, Option.join_some, kit_NoneType_bool, kit_NoneType_int, kit_NoneType_str, kit_NoneType_tuple, kit_NoneType_list, kit_NoneType_dict, kit_bool_bool, kit_bool_int, kit_bool_str, kit_bool_tuple, kit_bool_list, kit_bool_dict, kit_int_bool, kit_int_int, kit_int_str, kit_int_tuple, kit_int_list, kit_int_dict, kit_str_bool, kit_str_int, kit_str_str, kit_str_tuple, kit_str_list, kit_str_dict, kit_tuple_bool, kit_tuple_int, kit_tuple_str, kit_tuple_tuple, kit_tuple_list, kit_tuple_dict, kit_list_bool, kit_list_int, kit_list_str, kit_list_tuple, kit_list_list, kit_list_dict, kit_dict_bool, kit_dict_int, kit_dict_str, kit_dict_tuple, kit_dict_list, kit_dict_dict, dFn1, dFn2, dFn3, atI0, atI1, atI2, atI3, vAnd, vOr, vNot, Option.bind_none, Option.map_none, if_true, if_false, Bool.not_true, Bool.not_false, decide_true, decide_false, Bool.false_eq_true]), RdQ.here q⟩
      · exact ⟨false, (by first | rfl | simp [fT, fE, fA, bOr, bAnd, bNot, tb, tru, truD, dCall, lCall, gIsi, aCons, aNil, dVar, dC, dChain, gLe, gLt, gGe, gGt, gLen, gEq, gNe, eq2_str, eq2_int, eq2_bl, gIx, dBin, dTup, dIf, gAdd, gAddS, gAddT, gAll, gAny, gTuple, gList, gInt, startD, tyName, seqOf, lstOf, List.map_cons, List.map_nil, List.length_cons, List.length_nil, List.replicate, Option.bind_some, Option.map_some, Option.join_some, kit_NoneType_bool, kit_NoneType_int, kit_NoneType_str, kit_NoneType_tuple, kit_NoneType_list, kit_NoneType_dict, kit_bool_bool, kit_bool_int, kit_bool_str, kit_bool_tuple, kit_bool_list, kit_bool_dict, kit_int_bool, kit_int_int, kit_int_str, kit_int_tuple, kit_int_list, kit_int_dict, kit_str_bool, kit_str_int, kit_str_str, kit_str_tuple, kit_str_list, kit_str_dict, kit_tuple_bool, kit_tuple_int, kit_tuple_str, kit_tuple_tuple, kit_tuple_list, kit_tuple_dict, kit_list_bool, kit_list_int, kit_list_str, kit_list_tuple, kit_list_list, kit_list_dict, kit_dict_bool, kit_dict_int, kit_dict_str, kit_dict_tuple, kit_dict_list, kit_dict_dict, dFn1, dFn2, dFn3, atI0, atI1, atI2, atI3, vAnd, vOr, vNot, Option.bind_none, Option.map_none, if_true, if_false, Bool.not_true, Bool.not_false, decide_true, decide_false, Bool.false_eq_true]), true, (by first | rfl | simp [fT, fE, fA, bOr, bAnd, bNot, tb, tru, truD, dCall, lCall, gIsi, aCons, aNil, dVar, dC, dChain, gLe, gLt, gGe, gGt, gLen, gEq, gNe, eq2_str, eq2_int, eq2_bl, gIx, dBin, dTup, dIf, gAdd, gAddS, gAddT, gAll, gAny, gTuple, gList, gInt, startD, tyName, seqOf, lstOf, List.map_cons, List.map_nil, List.length_cons, List.length_nil, List.replicate, Option.bind_some, Option.map_some, Option.join_some, kit_NoneType_bool, kit_NoneType_int, kit_NoneType_str, kit_NoneType_tuple, kit_NoneType_list, kit_NoneType_dict, kit_bool_bool, kit_bool_int, kit_bool_str, kit_bool_tuple, kit_bool_list, kit_bool_dict, kit_int_bool, kit_int_int, kit_int_str, kit_int_tuple, kit_int_list, kit_int_dict, kit_str_bool, kit_str_int, kit_str_str, kit_str_tuple, kit_str_list, kit_str_dict, kit_tuple_bool, kit_tuple_int, kit_tuple_str, kit_tuple_tuple, kit_tuple_list, kit_tuple_dict, kit_list_bool, kit_list_int, kit_list_str, kit_list_tuple, kit_list_list, kit_list_dict, kit_dict_bool, kit_dict_int, kit_dict_str, kit_dict_tuple, kit_dict_list, kit_dict_dict, dFn1, dFn2, dFn3, atI0, atI1, atI2, atI3, vAnd, vOr, vNot, Option.bind_none, Option.map_none, if_true, if_false, Bool.not_true, Bool.not_false, decide_true, decide_false, Bool.false_eq_true]), .bl true, (by first | rfl | simp [fT, fE, fA, bOr, bAnd, bNot, tb, tru, truD, dCall, lCall, gIsi, aCons, aNil, dVar, dC, dChain, gLe, gLt, gGe, gGt, gLen, gEq, gNe, eq2_str, eq2_int, eq2_bl, gIx, dBin, dTup, dIf, gAdd, gAddS, gAddT, gAll, gAny, gTuple, gList, gInt, startD, tyName, seqOf, lstOf, List.map_cons, List.map_nil, List.length_cons, List.length_nil, List.replicate, Option.bind_some, Option.map_some, Option.join_some, kit_NoneType_bool, kit_NoneType_int, kit_NoneType_str, kit_NoneType_tuple, kit_NoneType_list, kit_NoneType_dict, kit_bool_bool, kit_bool_int, kit_bool_str, kit_bool_tuple, kit_bool_list, kit_bool_dict, kit_int_bool, kit_int_int, kit_int_str, kit_int_tuple, kit_int_list, kit_int_dict, kit_str_bool, kit_str_int, kit_str_str, kit_str_tuple, kit_str_list, kit_str_dict, kit_tuple_bool, kit_tuple_int, kit_tuple_str, kit_tuple_tuple, kit_tuple_list, kit_tuple_dict, kit_list_bool, kit_list_int, kit_list_str, kit_list_tuple, kit_list_list, kit_list_dict, kit_dict_bool, kit_dict_int, kit_dict_str, kit_dict_tuple, kit_dict_list, kit_dict_dict, dFn1, dFn2, dFn3, atI0, atI1, atI2, atI3, vAnd, vOr, vNot, Option.bind_none, Option.map_none, if_true, if_false, Bool.not_true, Bool.not_false, decide_true, decide_false, Bool.false_eq_true]), RdQ.here q⟩
    | .tup [.str t, x], ha =>
      have ht : (t = "name" ∧ wfW x = true) ∨ (t = "and" ∧ ∃ ks, x = .tup ks ∧ 2 ≤ ks.length ∧ ks.length ≤ 1000 ∧ ∀ k ∈ ks, wfK n k = true) := by
        rw [wfK2] at ha
        rcases Bool.or_eq_true_iff.mp ha with h | h
        · obtain ⟨h1, h2⟩ := Bool.and_eq_true_iff.mp h
          exact .inl ⟨of_decide_eq_true h1, h2⟩
        · obtain ⟨h1, h2⟩ := Bool.and_eq_true_iff.mp h
          refine .inr ⟨of_decide_eq_true h1, ?_⟩
          cases x with
          | tup ks =>
            simp only [Bool.and_eq_true, decide_eq_true_eq, List.all_eq_true] at h2
            exact ⟨ks, rfl, h2.1.1, h2.1.2, h2.2⟩
          | _ => cases h2
      rcases ht with ⟨rfl, hx⟩ | ⟨rfl, ks, rfl, hk1, hk2, hk3⟩
      · refine ⟨false, (by first | rfl | simp [fT, fE, fA, bOr, bAnd, bNot, tb, tru, truD, dCall, lCall, gIsi, aCons, aNil, dVar, dC, dChain, gLe, gLt, gGe, gGt, gLen, gEq, gNe, eq2_str, eq2_int, eq2_bl, gIx, dBin, dTup, dIf, gAdd, gAddS, gAddT, gAll, gAny, gTuple, gList, gInt, startD, tyName, seqOf, lstOf, List.map_cons, List.map_nil, List.length_cons, List.length_nil, List.replicate, Option.bind_some, Option.map_some, Option.join_some, kit_NoneType_bool, kit_NoneType_int, kit_NoneType_str, kit_NoneType_tuple, kit_NoneType_list, kit_NoneType_dict, kit_bool_bool, kit_bool_int, kit_bool_str, kit_bool_tuple, kit_bool_list, kit_bool_dict, kit_int_bool, kit_int_int, kit_int_str, kit_int_tuple, kit_int_list, kit_int_dict, kit_str_bool, kit_str_int, kit_str_str, kit_str_tuple, kit_str_list, kit_str_dict, kit_tuple_bool, kit_tuple_int, kit_tuple_str, kit_tuple_tuple, kit_tuple_list, kit_tuple_dict, kit_list_bool, kit_list_int, kit_list_str, kit_list_tuple, kit_list_list, kit_list_dict, kit_dict_bool, kit_dict_int, kit_dict_str, kit_dict_tuple, kit_dict_list, kit_dict_dict, dFn1, dFn2, dFn3, atI0, atI1, atI2, atI3, vAnd, vOr, vNot, Option.bind_none, Option.map_none, if_true, if_false, Bool.not_true, Bool.not_false, decide_true, decide_false, Bool.false_eq_true]), false, (by first | rfl | simp [fT, fE, fA, bOr, bAnd, bNot, tb, tru, truD, dCall, lCall, gIsi, aCons, aNil, dVar, dC, dChain, gLe, gLt, gGe, gGt, gLen, gEq, gNe, eq2_str, eq2_int, eq2_bl, gIx, dBin, dTup, dIf, gAdd, gAddS, gAddT, gAll, gAny, gTuple, gList, gInt, startD, tyName, seqOf, lstOf, List.map_cons, List.map_nil, List.length_cons, List.length_nil, List.replicate, Option.bind_some, Option.map_some, Option.join_some, kit_NoneType_bool, kit_NoneType_int, kit_NoneType_str, kit_NoneType_tuple, kit_NoneType_list, kit_NoneType_dict, kit_bool_bool, kit_bool_int, kit_bool_str, kit_bool_tuple, kit_bool_list, kit_bool_dict, kit_int_bool, kit_int_int, kit_int_str, kit_int_tuple, kit_int_list, kit_int_dict, kit_str_bool, kit_str_int, kit_str_str, kit_str_tuple, kit_str_list, kit_str_dict, kit_tuple_bool, kit_tuple_int, kit_tuple_str, kit_tuple_tuple, kit_tuple_list, kit_tuple_dict, kit_list_bool, kit_list_int, kit_list_str, kit_list_tuple, kit_list_list, kit_list_dict, kit_dict_bool, kit_dict_int, kit_dict_str, kit_dict_tuple, kit_dict_list, kit_dict_dict, dFn1, dFn2, dFn3, atI0, atI1, atI2, atI3, vAnd, vOr, vNot, Option.bind_none, Option.map_none, if_true, if_false, Bool.not_true, Bool.not_false, decide_true, decide_false, Bool.false_eq_true]), true, (by first | rfl | simp [fT, fE, fA, bOr, bAnd, bNot, tb, tru, truD, dCall, lCall, gIsi, aCons, aNil, dVar, dC, dChain, gLe, gLt, gGe, gGt, gLen, gEq, gNe, eq2_str, eq2_int, eq2_bl, gIx, dBin, dTup, dIf, gAdd, gAddS, gAddT, gAll, gAny, gTuple, gList, gInt, startD, tyName, seqOf, lstOf, List.map_cons, List.map_nil, List.length_cons, List.length_nil, List.replicate, Option.bind_some, Option.map_some, Option.join_some, kit_NoneType_bool, kit_NoneType_int, kit_NoneType_str, kit_NoneType_tuple, kit_NoneType_list, kit_NoneType_dict, kit_bool_bool, kit_bool_int, kit_bool_str, kit_bool_tuple, kit_bool_list, kit_bool_dict, kit_int_bool, kit_int_int, kit_int_str, kit_int_tuple, kit_int_list, kit_int_dict, kit_str_bool, kit_str_int, kit_str_str, kit_str_tuple, kit_str_list, kit_str_dict, kit_tuple_bool, kit_tuple_int, kit_tuple_str, kit_tuple_tuple, kit_tuple_list, kit_tuple_dict, kit_list_bool, kit_list_int, kit_list_str, kit_list_tuple, kit_list_list, kit_list_dict, kit_dict_bool, kit_dict_int, kit_dict_str, kit_dict_tuple, kit_dict_list, kit_dict_dict, dFn1, dFn2, dFn3, atI0, atI1, atI2, atI3, vAnd, vOr, vNot, Option.bind_none, Option.map_none, if_true, if_false, Bool.not_true, Bool.not_false, decide_true, decide_false, Bool.false_eq_true]), .bl true, ?_, RdQ.here q⟩
        simp [fT, fE, fA, bOr, bAnd, bNot, tb, tru, truD, dCall, lCall, gIsi, aCons, aNil, dVar, dC, dChain, gLe, gLt, gGe, gGt, gLen, gEq, gNe, eq2_str, eq2_int, eq2_bl, gIx, dBin, dTup, dIf, gAdd, gAddS, gAddT, gAll, gAny, gTuple, gList, gInt, startD, tyName, seqOf, lstOf, List.map_cons, List.map_nil, List.length_cons, List.length_nil, List.replicate, Option.bind_some, Option.map_some, Option.join_some, kit_NoneType_bool, kit_NoneType_int, kit_NoneType_str, kit_NoneType_tuple, kit_NoneType_list, kit_NoneType_dict, kit_bool_bool, kit_bool_int, kit_bool_str, kit_bool_tuple, kit_bool_list, kit_bool_dict, kit_int_bool, kit_int_int, kit_int_str, kit_int_tuple, kit_int_list, kit_int_dict, kit_str_bool, kit_str_int, kit_str_str, kit_str_tuple, kit_str_list, kit_str_dict, kit_tuple_bool, kit_tuple_int, kit_tuple_str, kit_tuple_tuple, kit_tuple_list, kit_tuple_dict, kit_list_bool, kit_list_int, kit_list_str, kit_list_tuple, kit_list_list, kit_list_dict, kit_dict_bool, kit_dict_int, kit_dict_str, kit_dict_tuple, kit_dict_list, kit_dict_dict, dFn1, dFn2, dFn3, atI0, atI1, atI2, atI3, vAnd, vOr, vNot, Option.bind_none, Option.map_none, if_true, if_false, Bool.not_true, Bool.not_false, decide_true, decide_false, Bool.false_eq_true, vAnd, yes_true hx]
      · have e1 : (2 : Int) ≤ ks.length := by omega
        have e2 : ks.length ≤ 1000000 := by omega
        refine ⟨false, (by first | rfl | simp [fT, fE, fA, bOr, bAnd, bNot, tb, tru, truD, dCall, lCall, gIsi, aCons, aNil, dVar, dC, dChain, gLe, gLt, gGe, gGt, gLen, gEq, gNe, eq2_str, eq2_int, eq2_bl, gIx, dBin, dTup, dIf, gAdd, gAddS, gAddT, gAll, gAny, gTuple, gList, gInt, startD, tyName, seqOf, lstOf, List.map_cons, List.map_nil, List.length_cons, List.length_nil, List.replicate, Option.bind_some, Option.map_some, Option.join_some, kit_NoneType_bool, kit_NoneType_int, kit_NoneType_str, kit_NoneType_tuple, kit_NoneType_list, kit_NoneType_dict, kit_bool_bool, kit_bool_int, kit_bool_str, kit_bool_tuple, kit_bool_list, kit_bool_dict, kit_int_bool, kit_int_int, kit_int_str, kit_int_tuple, kit_int_list, kit_int_dict, kit_str_bool, kit_str_int, kit_str_str, kit_str_tuple, kit_str_list, kit_str_dict, kit_tuple_bool, kit_tuple_int, kit_tuple_str, kit_tuple_tuple, kit_tuple_list, kit_tuple_dict, kit_list_bool, kit_list_int, kit_list_str, kit_list_tuple, kit_list_list, kit_list_dict, kit_dict_bool, kit_dict_int, kit_dict_str, kit_dict_tuple, kit_dict_list, kit_dict_dict, dFn1, dFn2, dFn3, atI0, atI1, atI2, atI3, vAnd, vOr, vNot, Option.bind_none, Option.map_none, if_true, if_false, Bool.not_true, Bool.not_false, decide_true, decide_false, Bool.false_eq_true]), false, (by first | rfl | simp [fT, fE, fA, bOr, bAnd, bNot, tb, tru, truD, dCall, lCall, gIsi, aCons, aNil, dVar, dC, dChain, gLe, gLt, gGe, gGt, gLen, gEq, gNe, eq2_str, eq2_int, eq2_bl, gIx, dBin, dTup, dIf, gAdd, gAddS, gAddT, gAll, gAny, gTuple, gList, gInt, startD, tyName, seqOf, lstOf, List.map_cons, List.map_nil, List.length_cons, List.length_nil, List.replicate, Option.bind_some, Option.map_some, Option.join_some, kit_NoneType_bool, kit_NoneType_int, kit_NoneType_str, kit_NoneType_tuple, kit_NoneType_list, kit_NoneType_dict, kit_bool_bool, kit_bool_int, kit_bool_str, kit_bool_tuple, kit_bool_list, kit_bool_dict, kit_int_bool, kit_int_int, kit_int_str, kit_int_tuple, kit_int_list, kit_int_dict, kit_str_bool, kit_str_int, kit_str_str, kit_str_tuple, kit_str_list, kit_str_dict, kit_tuple_bool, kit_tuple_int, kit_tuple_str, kit_tuple_tuple, kit_tuple_list, kit_tuple_dict, kit_list_bool, kit_list_int, kit_list_str, kit_list_tuple, kit_list_list, kit_list_dict, kit_dict_bool, kit_dict_int, kit_dict_str, kit_dict_tuple, kit_dict_list, kit_dict_dict, dFn1, dFn2, dFn3, atI0, atI1, atI2, atI3, vAnd, vOr, vNot, Option.bind_none, Option.map_none, if_true, if_false, Bool.not_true, Bool.not_false, decide_true, decide_false, Bool.false_eq_true]), false, (by first | rfl | simp [fT, fE, fA, bOr, bAnd, bNot, tb, tru, truD, dCall, lCall, gIsi, aCons, aNil, dVar, dC, dChain, gLe, gLt, gGe, gGt, gLen, gEq, gNe, eq2_str, eq2_int, eq2_bl, gIx, dBin, dTup, dIf, gAdd, gAddS, gAddT, gAll, gAny, gTuple, gList, gInt, startD, tyName, seqOf, lstOf, List.map_cons, List.map_nil, List.length_cons, List.length_nil, List.replicate, Option.bind_some, Option.map_some, Option.join_some, kit_NoneType_bool, kit_NoneType_int, kit_NoneType_str, kit_NoneType_tuple, kit_NoneType_list, kit_NoneType_dict, kit_bool_bool, kit_bool_int, kit_bool_str, kit_bool_tuple, kit_bool_list, kit_bool_dict, kit_int_bool, kit_int_int, kit_int_str, kit_int_tuple, kit_int_list, kit_int_dict, kit_str_bool, kit_str_int, kit_str_str, kit_str_tuple, kit_str_list, kit_str_dict, kit_tuple_bool, kit_tuple_int, kit_tuple_str, kit_tuple_tuple, kit_tuple_list, kit_tuple_dict, kit_list_bool, kit_list_int, kit_list_str, kit_list_tuple, kit_list_list, kit_list_dict, kit_dict_bool, kit_dict_int, kit_dict_str, kit_dict_tuple, kit_dict_list, kit_dict_dict, dFn1, dFn2, dFn3, atI0, atI1, atI2, atI3, vAnd, vOr, vNot, Option.bind_none, Option.map_none, if_true, if_false, Bool.not_true, Bool.not_false, decide_true, decide_false, Bool.false_eq_true]), false, (by first | rfl | simp [fT, fE, fA, bOr, bAnd, bNot, tb, tru, truD, dCall, lCall, gIsi, aCons, aNil, dVar, dC, dChain, gLe, gLt, gGe, gGt, gLen, gEq, gNe, eq2_str, eq2_int, eq2_bl, gIx, dBin, dTup, dIf, gAdd, gAddS, gAddT, gAll, gAny, gTuple, gList, gInt, startD, tyName, seqOf, lstOf, List.map_cons, List.map_nil, List.length_cons, List.length_nil, List.replicate, Option.bind_some, Option.map_some, Option.join_some, kit_NoneType_bool, kit_NoneType_int, kit_NoneType_str, kit_NoneType_tuple, kit_NoneType_list, kit_NoneType_dict, kit_bool_bool, kit_bool_int, kit_bool_str, kit_bool_tuple, kit_bool_list, kit_bool_dict, kit_int_bool, kit_int_int, kit_int_str, kit_int_tuple, kit_int_list, kit_int_dict, kit_str_bool, kit_str_int, kit_str_str, kit_str_tuple, kit_str_list, kit_str_dict, kit_tuple_bool, kit_tuple_int, kit_tuple_str, kit_tuple_tuple, kit_tuple_list, kit_tuple_dict, kit_list_bool, kit_list_int, kit_list_str, kit_list_tuple, kit_list_list, kit_list_dict, kit_dict_bool, kit_dict_int, kit_dict_str, kit_dict_tuple, kit_dict_list, kit_dict_dict, dFn1, dFn2, dFn3, atI0, atI1, atI2, atI3, vAnd, vOr, vNot, Option.bind_none, Option.map_none, if_true, if_false, Bool.not_true, Bool.not_false, decide_true, decide_false, Bool.false_eq_true]), false, ?_, ?_⟩
        · simp [fT, fE, fA, bOr, bAnd, bNot, tb, tru, truD, dCall, lCall, gIsi, aCons, aNil, dVar, dC, dChain, gLe, gLt, gGe, gGt, gLen, gEq, gNe, eq2_str, eq2_int, eq2_bl, gIx, dBin, dTup, dIf, gAdd, gAddS, gAddT, gAll, gAny, gTuple, gList, gInt, startD, tyName, seqOf, lstOf, List.map_cons, List.map_nil, List.length_cons, List.length_nil, List.replicate, Option.bind_some, Option.map_some, Option.join_some, kit_NoneType_bool, kit_NoneType_int, kit_NoneType_str, kit_NoneType_tuple, kit_NoneType_list, kit_NoneType_dict, kit_bool_bool, kit_bool_int, kit_bool_str, kit_bool_tuple, kit_bool_list, kit_bool_dict, kit_int_bool, kit_int_int, kit_int_str, kit_int_tuple, kit_int_list, kit_int_dict, kit_str_bool, kit_str_int, kit_str_str, kit_str_tuple, kit_str_list, kit_str_dict, kit_tuple_bool, kit_tuple_int, kit_tuple_str, kit_tuple_tuple, kit_tuple_list, kit_tuple_dict, kit_list_bool, kit_list_int, kit_list_str, kit_list_tuple, kit_list_list, kit_list_dict, kit_dict_bool, kit_dict_int, kit_dict_str, kit_dict_tuple, kit_dict_list, kit_dict_dict, dFn1, dFn2, dFn3, atI0, atI1, atI2, atI3, vAnd, vOr, vNot, Option.bind_none, Option.map_none, if_true, if_false, Bool.not_true, Bool.not_false, decide_true, decide_false, Bool.false_eq_true, e1, e2]
        · refine all_go (f := fun _ => true) (items := ks) (k := none) (by simp [itTup, fT, fE, fA, bOr, bAnd, bNot, tb, tru, truD, dCall, lCall, gIsi, aCons, aNil, dVar, dC, dChain, gLe, gLt, gGe, gGt, gLen, gEq, gNe, eq2_str, eq2_int, eq2_bl, gIx, dBin, dTup, dIf, gAdd, gAddS, gAddT, gAll, gAny, gTuple, gList, gInt, startD, tyName, seqOf, lstOf, List.map_cons, List.map_nil, List.length_cons, List.length_nil, List.replicate, Option.bind_some, Option.map_some, Option.join_some, kit_NoneType_bool, kit_NoneType_int, kit_NoneType_str, kit_NoneType_tuple, kit_NoneType_list, kit_NoneType_dict, kit_bool_bool, kit_bool_int, kit_bool_str, kit_bool_tuple, kit_bool_list, kit_bool_dict, kit_int_bool, kit_int_int, kit_int_str, kit_int_tuple, kit_int_list, kit_int_dict, kit_str_bool, kit_str_int, kit_str_str, kit_str_tuple, kit_str_list, kit_str_dict, kit_tuple_bool, kit_tuple_int, kit_tuple_str, kit_tuple_tuple, kit_tuple_list, kit_tuple_dict, kit_list_bool, kit_list_int, kit_list_str, kit_list_tuple, kit_list_list, kit_list_dict, kit_dict_bool, kit_dict_int, kit_dict_str, kit_dict_tuple, kit_dict_list, kit_dict_dict, dFn1, dFn2, dFn3, atI0, atI1, atI2, atI3, vAnd, vOr, vNot, Option.bind_none, Option.map_none, if_true, if_false, Bool.not_true, Bool.not_false, decide_true, decide_false, Bool.false_eq_true]) e2 (fun d hd S' _ => ⟨_, rfl, ?_⟩) ?_
          · simp [fT, fE, fA, bOr, bAnd, bNot, tb, tru, truD, dCall, lCall, gIsi, aCons, aNil, dVar, dC, dChain, gLe, gLt, gGe, gGt, gLen, gEq, gNe, eq2_str, eq2_int, eq2_bl, gIx, dBin, dTup, dIf, gAdd, gAddS, gAddT, gAll, gAny, gTuple, gList, gInt, startD, tyName, seqOf, lstOf, List.map_cons, List.map_nil, List.length_cons, List.length_nil, List.replicate, Option.bind_some, Option.map_some, Option.join_some, kit_NoneType_bool, kit_NoneType_int, kit_NoneType_str, kit_NoneType_tuple, kit_NoneType_list, kit_NoneType_dict, kit_bool_bool, kit_bool_int, kit_bool_str, kit_bool_tuple, kit_bool_list, kit_bool_dict, kit_int_bool, kit_int_int, kit_int_str, kit_int_tuple, kit_int_list, kit_int_dict, kit_str_bool, kit_str_int, kit_str_str, kit_str_tuple, kit_str_list, kit_str_dict, kit_tuple_bool, kit_tuple_int, kit_tuple_str, kit_tuple_tuple, kit_tuple_list, kit_tuple_dict, kit_list_bool, kit_list_int, kit_list_str, kit_list_tuple, kit_list_list, kit_list_dict, kit_dict_bool, kit_dict_int, kit_dict_str, kit_dict_tuple, kit_dict_list, kit_dict_dict, dFn1, dFn2, dFn3, atI0, atI1, atI2, atI3, vAnd, vOr, vNot, Option.bind_none, Option.map_none, if_true, if_false, Bool.not_true, Bool.not_false, decide_true, decide_false, Bool.false_eq_true, wipeD, yes_true (hk3 d hd)]
          · refine RdQ.here ?_
            rw [show ks.all (fun _ => true) = true by simp]
            exact q
    | .tup [.str t, x, k], ha =>
      have ha : (decide (t = "some") && wfW x && wfK n k) = true := ha
      simp only [Bool.and_eq_true, decide_eq_true_eq] at ha
      obtain ⟨⟨rfl, hx⟩, hk⟩ := ha
      refine ⟨false, (by first | rfl | simp [fT, fE, fA, bOr, bAnd, bNot, tb, tru, truD, dCall, lCall, gIsi, aCons, aNil, dVar, dC, dChain, gLe, gLt, gGe, gGt, gLen, gEq, gNe, eq2_str, eq2_int, eq2_bl, gIx, dBin, dTup, dIf, gAdd, gAddS, gAddT, gAll, gAny, gTuple, gList, gInt, startD, tyName, seqOf, lstOf, List.map_cons, List.map_nil, List.length_cons, List.length_nil, List.replicate, Option.bind_some, Option.map_some, Option.join_some, kit_NoneType_bool, kit_NoneType_int, kit_NoneType_str, kit_NoneType_tuple, kit_NoneType_list, kit_NoneType_dict, kit_bool_bool, kit_bool_int, kit_bool_str, kit_bool_tuple, kit_bool_list, kit_bool_dict, kit_int_bool, kit_int_int, kit_int_str, kit_int_tuple, kit_int_list, kit_int_dict, kit_str_bool, kit_str_int, kit_str_str, kit_str_tuple, kit_str_list, kit_str_dict, kit_tuple_bool, kit_tuple_int, kit_tuple_str, kit_tuple_tuple, kit_tuple_list, kit_tuple_dict, kit_list_bool, kit_list_int, kit_list_str, kit_list_tuple, kit_list_list, kit_list_dict, kit_dict_bool, kit_dict_int, kit_dict_str, kit_dict_tuple, kit_dict_list, kit_dict_dict, dFn1, dFn2, dFn3, atI0, atI1, atI2, atI3, vAnd, vOr, vNot, Option.bind_none, Option.map_none, if_true, if_false, Bool.not_true, Bool.not_false, decide_true, decide_false, Bool.false_eq_true]), false, (by first | rfl | simp [fT, fE, fA, bOr, bAnd, bNot, tb, tru, truD, dCall, lCall, gIsi, aCons, aNil, dVar, dC, dChain, gLe, gLt, gGe, gGt, gLen, gEq, gNe, eq2_str, eq2_int, eq2_bl, gIx, dBin, dTup, dIf, gAdd, gAddS, gAddT, gAll, gAny, gTuple, gList, gInt, startD, tyName, seqOf, lstOf, List.map_cons, List.map_nil, List.length_cons, List.length_nil, List.replicate, Option.bind_some, Option.map_some, Option.join_some, kit_NoneType_bool, kit_NoneType_int, kit_NoneType_str, kit_NoneType_tuple, kit_NoneType_list, kit_NoneType_dict, kit_bool_bool, kit_bool_int, kit_bool_str, kit_bool_tuple, kit_bool_list, kit_bool_dict, kit_int_bool, kit_int_int, kit_int_str, kit_int_tuple, kit_int_list, kit_int_dict, kit_str_bool, kit_str_int, kit_str_str, kit_str_tuple, kit_str_list, kit_str_dict, kit_tuple_bool, kit_tuple_int, kit_tuple_str, kit_tuple_tuple, kit_tuple_list, kit_tuple_dict, kit_list_bool, kit_list_int, kit_list_str, kit_list_tuple, kit_list_list, kit_list_dict, kit_dict_bool, kit_dict_int, kit_dict_str, kit_dict_tuple, kit_dict_list, kit_dict_dict, dFn1, dFn2, dFn3, atI0, atI1, atI2, atI3, vAnd, vOr, vNot, Option.bind_none, Option.map_none, if_true, if_false, Bool.not_true, Bool.not_false, decide_true, decide_false, Bool.false_eq_true]), false, (by first | rfl | simp [fT, fE, fA, bOr, bAnd, bNot, tb, tru, truD, dCall, lCall, gIsi, aCons, aNil, dVar, dC, dChain, gLe, gLt, gGe, gGt, gLen, gEq, gNe, eq2_str, eq2_int, eq2_bl, gIx, dBin, dTup, dIf, gAdd, gAddS, gAddT, gAll, gAny, gTuple, gList, gInt, startD, tyName, seqOf, lstOf, List.map_cons, List.map_nil, List.length_cons, List.length_nil, List.replicate, Option.bind_some, Option.map_some, Option.join_some, kit_NoneType_bool, kit_NoneType_int, kit_NoneType_str, kit_NoneType_tuple, kit_NoneType_list, kit_NoneType_dict, kit_bool_bool, kit_bool_int, kit_bool_str, kit_bool_tuple, kit_bool_list, kit_bool_dict, kit_int_bool, kit_int_int, kit_int_str, kit_int_tuple, kit_int_list, kit_int_dict, kit_str_bool, kit_str_int, kit_str_str, kit_str_tuple, kit_str_list, kit_str_dict, kit_tuple_bool, kit_tuple_int, kit_tuple_str, kit_tuple_tuple, kit_tuple_list, kit_tuple_dict, kit_list_bool, kit_list_int, kit_list_str, kit_list_tuple, kit_list_list, kit_list_dict, kit_dict_bool, kit_dict_int, kit_dict_str, kit_dict_tuple, kit_dict_list, kit_dict_dict, dFn1, dFn2, dFn3, atI0, atI1, atI2, atI3, vAnd, vOr, vNot, Option.bind_none, Option.map_none, if_true, if_false, Bool.not_true, Bool.not_false, decide_true, decide_false, Bool.false_eq_true]), true, (by first | rfl | simp [fT, fE, fA, bOr, bAnd, bNot, tb, tru, truD, dCall, lCall, gIsi, aCons, aNil, dVar, dC, dChain, gLe, gLt, gGe, gGt, gLen, gEq, gNe, eq2_str, eq2_int, eq2_bl, gIx, dBin, dTup, dIf, gAdd, gAddS, gAddT, gAll, gAny, gTuple, gList, gInt, startD, tyName, seqOf, lstOf, List.map_cons, List.map_nil, List.length_cons, List.length_nil, List.replicate, Option.bind_some, Option.map_some, Option.join_some, kit_NoneType_bool, kit_NoneType_int, kit_NoneType_str, kit_NoneType_tuple, kit_NoneType_list, kit_NoneType_dict, kit_bool_bool, kit_bool_int, kit_bool_str, kit_bool_tuple, kit_bool_list, kit_bool_dict, kit_int_bool, kit_int_int, kit_int_str, kit_int_tuple, kit_int_list, kit_int_dict, kit_str_bool, kit_str_int, kit_str_str, kit_str_tuple, kit_str_list, kit_str_dict, kit_tuple_bool, kit_tuple_int, kit_tuple_str, kit_tuple_tuple, kit_tuple_list, kit_tuple_dict, kit_list_bool, kit_list_int, kit_list_str, kit_list_tuple, kit_list_list, kit_list_dict, kit_dict_bool, kit_dict_int, kit_dict_str, kit_dict_tuple, kit_dict_list, kit_dict_dict, dFn1, dFn2, dFn3, atI0, atI1, atI2, atI3, vAnd, vOr, vNot, Option.bind_none, Option.map_none, if_true, if_false, Bool.not_true, Bool.not_false, decide_true, decide_false, Bool.false_eq_true]), .bl true, ?_, RdQ.here q⟩
      simp [fT, fE, fA, bOr, bAnd, bNot, tb, tru, truD, dCall, lCall, gIsi, aCons, aNil, dVar, dC, dChain, gLe, gLt, gGe, gGt, gLen, gEq, gNe, eq2_str, eq2_int, eq2_bl, gIx, dBin, dTup, dIf, gAdd, gAddS, gAddT, gAll, gAny, gTuple, gList, gInt, startD, tyName, seqOf, lstOf, List.map_cons, List.map_nil, List.length_cons, List.length_nil, List.replicate, Option.bind_some, Option.map_some, Option.join_some, kit_NoneType_bool, kit_NoneType_int, kit_NoneType_str, kit_NoneType_tuple, kit_NoneType_list, kit_NoneType_dict, kit_bool_bool, kit_bool_int, kit_bool_str, kit_bool_tuple, kit_bool_list, kit_bool_dict, kit_int_bool, kit_int_int, kit_int_str, kit_int_tuple, kit_int_list, kit_int_dict, kit_str_bool, kit_str_int, kit_str_str, kit_str_tuple, kit_str_list, kit_str_dict, kit_tuple_bool, kit_tuple_int, kit_tuple_str, kit_tuple_tuple, kit_tuple_list, kit_tuple_dict, kit_list_bool, kit_list_int, kit_list_str, kit_list_tuple, kit_list_list, kit_list_dict, kit_dict_bool, kit_dict_int, kit_dict_str, kit_dict_tuple, kit_dict_list, kit_dict_dict, dFn1, dFn2, dFn3, atI0, atI1, atI2, atI3, vAnd, vOr, vNot, Option.bind_none, Option.map_none, if_true, if_false, Bool.not_true, Bool.not_false, decide_true, decide_false, Bool.false_eq_true, vAnd, yes_true hx, yes_true hk]
end
end K62
set_option Elab.async false
set_option linter.all false
set_option maxRecDepth 100000
set_option maxHeartbeats 4000000
namespace K62
open PySem PySem.Spec PyProof.Rows L2 Evl KD
theorem sc_check_kind : FnScope ["kind"] ["kind"] (defScope (top 18)) := ⟨rfl, rfl, rfl, by decide +kernel, rfl, by decide +kernel, by decide +kernel⟩
theorem sc_kinds_within : FnScope ["kind"] ["kind"] (defScope (top 19)) := ⟨rfl, rfl, rfl, by decide +kernel, rfl, by decide +kernel, by decide +kernel⟩
theorem sc_parts_of : FnScope ["kind", "found", "left", "part"] ["kind"] (defScope (top 20)) := ⟨rfl, rfl, rfl, by decide +kernel, rfl, by decide +kernel, by decide +kernel⟩
theorem sc_is_saying : FnScope ["value", "word"] ["value"] (defScope (top 22)) := ⟨rfl, rfl, rfl, by decide +kernel, rfl, by decide +kernel, by decide +kernel⟩
theorem sc_is_book : FnScope ["value", "saying"] ["value"] (defScope (top 23)) := ⟨rfl, rfl, rfl, by decide +kernel, rfl, by decide +kernel, by decide +kernel⟩
theorem sc_check_book : FnScope ["book"] ["book"] (defScope (top 24)) := ⟨rfl, rfl, rfl, by decide +kernel, rfl, by decide +kernel, by decide +kernel⟩
theorem sc_kinds_of_sayings : FnScope ["book", "found", "saying"] ["book"] (defScope (top 25)) := ⟨rfl, rfl, rfl, by decide +kernel, rfl, by decide +kernel, by decide +kernel⟩
theorem sc_is_fact : FnScope ["value", "word"] ["value"] (defScope (top 27)) := ⟨rfl, rfl, rfl, by decide +kernel, rfl, by decide +kernel, by decide +kernel⟩
theorem sc_is_facts : FnScope ["value", "fact"] ["value"] (defScope (top 28)) := ⟨rfl, rfl, rfl, by decide +kernel, rfl, by decide +kernel, by decide +kernel⟩
theorem sc_is_claim : FnScope ["value"] ["value"] (defScope (top 29)) := ⟨rfl, rfl, rfl, by decide +kernel, rfl, by decide +kernel, by decide +kernel⟩
theorem sc_check_facts : FnScope ["facts"] ["facts"] (defScope (top 30)) := ⟨rfl, rfl, rfl, by decide +kernel, rfl, by decide +kernel, by decide +kernel⟩
theorem sc_check_claim : FnScope ["claim"] ["claim"] (defScope (top 31)) := ⟨rfl, rfl, rfl, by decide +kernel, rfl, by decide +kernel, by decide +kernel⟩
theorem sc_persons_of_claim : FnScope ["claim"] ["claim"] (defScope (top 32)) := ⟨rfl, rfl, rfl, by decide +kernel, rfl, by decide +kernel, by decide +kernel⟩
section
variable {P : Program} {w : World} {K : PySem.W.Frag} {mg : Str → Option Value} {base : Heap}
theorem has_check_kind (W : Wd K mg) (n : Nat) : Has P w K mg base (n + 3) "check_kind" 1 (pureSp (p1 fun a => yes (wfK n a) .non)) := by
  have Sc := sc_check_kind
  refine has_ok W.d_check_kind Sc (fun _ _ _ _ _ _ us hl => match us, hl with | [_], _ => rfl) fun f cdv A outer s H E hr => ?_
  have hu := bare_units hr
  have hd : WSs (cxOf C8.CX0 P w K mg base ["kind"] "check_kind" (defScope (top 18)) f cdv A outer s H E).nox (defBody (top 18)) _ := (wss_one (ws_if (ft_not (ft_val (fe_call (has_is_kind W n) hr (by first | decide | omega) rfl (fa_cons (fe_v 0) fa_nil)))) wss_never wss_nil))
  refine ⟨_, hd, fun ds S Q hl hp => ?_⟩
  clear hd
  obtain ⟨a, d, rfl, h, q⟩ := p1_open hp
  obtain ⟨ha, rfl⟩ := yes_some h
  refine ⟨false, ?_, RdQ.here q⟩
  simp [fT, fE, fA, bOr, bAnd, bNot, tb, tru, truD, dCall, lCall, gIsi, aCons, aNil, dVar, dC, dChain, gLe, gLt, gGe, gGt, gLen, gEq, gNe, eq2_str, eq2_int, eq2_bl, gIx, dBin, dTup, dIf, gAdd, gAddS, gAddT, gAll, gAny, gTuple, gList, gInt, startD, tyName, seqOf, lstOf, List.map_cons, List.map_nil, List.length_cons, List.length_nil, List.replicate, Option.bind_some, Option.map_some, Option.join_some, kit_NoneType_bool, kit_NoneType_int, kit_NoneType_str, kit_NoneType_tuple, kit_NoneType_list, kit_NoneType_dict, kit_bool_bool, kit_bool_int, kit_bool_str, kit_bool_tuple, kit_bool_list, kit_bool_dict, kit_int_bool, kit_int_int, kit_int_str, kit_int_tuple, kit_int_list, kit_int_dict, kit_str_bool, kit_str_int, kit_str_str, kit_str_tuple, kit_str_list, kit_str_dict, kit_tuple_bool, kit_tuple_int, kit_tuple_str, kit_tuple_tuple, kit_tuple_list, kit_tuple_dict, kit_list_bool, kit_list_int, kit_list_str, kit_list_tuple, kit_list_list, kit_list_dict, kit_dict_bool, kit_dict_int, kit_dict_str, kit_dict_tuple, kit_dict_list, kit_dict_dict, dFn1, dFn2, dFn3, atI0, atI1, atI2, atI3, vAnd, vOr, vNot, Option.bind_none, Option.map_none, if_true, if_false, Bool.not_true, Bool.not_false, decide_true, decide_false, Bool.false_eq_true, yes_true ha]
theorem has_kinds_within (W : Wd K mg) : Has P w K mg base 1 "kinds_within" 1 (pureSp (p1 fun a => (kwD a).map .tup)) := by
  have Sc := sc_kinds_within
  refine has_ok W.d_kinds_within Sc (fun _ _ _ _ _ _ us hl => match us, hl with | [_], _ => rfl) fun f cdv A outer s H E hr => ?_
  have hu := bare_units hr
  have hd : WSs (cxOf C8.CX0 P w K mg base ["kind"] "kinds_within" (defScope (top 19)) f cdv A outer s H E).nox (defBody (top 19)) _ := (wss_cons (ws_if (ft_eq hu (fe_ix (fe_v 0) (fe_int)) (fe_str)) (wss_one (ws_ret (fe_ix (fe_v 0) (fe_int)))) wss_nil)
      (wss_cons (ws_if (ft_eq hu (fe_ix (fe_v 0) (fe_int)) (fe_str)) (wss_one (ws_ret (fe_tup (fa_cons (fe_ix (fe_v 0) (fe_int)) fa_nil)))) wss_nil)
      (wss_one (ws_ret (fe_tup fa_nil)))))
  refine ⟨_, hd, fun ds S Q hl hp => ?_⟩
  clear hd
  obtain ⟨a, d, rfl, h, q⟩ := p1_open hp
  obtain ⟨ks, hk, rfl⟩ := Option.map_eq_some_iff.mp h
  match a, hk with
  | .tup [.str t], hk =>
    obtain ⟨ht, rfl⟩ := if_some hk
    rcases ht with rfl | rfl
    · exact ⟨false, (by first | rfl | simp [fT, fE, fA, bOr, bAnd, bNot, tb, tru, truD, dCall, lCall, gIsi, aCons, aNil, dVar, dC, dChain, gLe, gLt, gGe, gGt, gLen, gEq, gNe, eq2_str, eq2_int, eq2_bl, gIx, dBin, dTup, dIf, gAdd, gAddS, gAddT, gAll, gAny, gTuple, gList, gInt, startD, tyName, seqOf, lstOf, List.map_cons, List.map_nil, List.length_cons, List.length_nil, List.replicate, Option.bind_some, Option.map_some, Option.join_some, kit_NoneType_bool, kit_NoneType_int, kit_NoneType_str, kit_NoneType_tuple, kit_NoneType_list, kit_NoneType_dict, kit_bool_bool, kit_bool_int, kit_bool_str, kit_bool_tuple, kit_bool_list, kit_bool_dict, kit_int_bool, kit_int_int, kit_int_str, kit_int_tuple, kit_int_list, kit_int_dict, kit_str_bool, kit_str_int, kit_str_str, kit_str_tuple, kit_str_list, kit_str_dict, kit_tuple_bool, kit_tuple_int, kit_tuple_str, kit_tuple_tuple, kit_tuple_list, kit_tuple_dict, kit_list_bool, kit_list_int, kit_list_str, kit_list_tuple, kit_list_list, kit_list_dict, kit_dict_bool, kit_dict_int, kit_dict_str, kit_dict_tuple, kit_dict_list, kit_dict_dict, dFn1, dFn2, dFn3, atI0, atI1, atI2, atI3, vAnd, vOr, vNot, Option.bind_none, Option.map_none, if_true, if_false, Bool.not_true, Bool.not_false, decide_true, decide_false, Bool.false_eq_true]), false, (by first | rfl | simp [fT, fE, fA, bOr, bAnd, bNot, tb, tru, truD, dCall, lCall, gIsi, aCons, aNil, dVar, dC, dChain, gLe, gLt, gGe, gGt, gLen, gEq, gNe, eq2_str, eq2_int, eq2_bl, gIx, dBin, dTup, dIf, gAdd, gAddS, gAddT, gAll, gAny, gTuple, gList, gInt, startD, tyName, seqOf, lstOf, List.map_cons, List.map_nil, List.length_cons, List.length_nil, List.replicate, Option.bind_some, Option.map_some, Option.join_some, kit_NoneType_bool, kit_NoneType_int, kit_NoneType_str, kit_NoneType_tuple, kit_NoneType_list, kit_NoneType_dict, kit_bool_bool, kit_bool_int, kit_bool_str, kit_bool_tuple, kit_bool_list, kit_bool_dict, kit_int_bool, kit_int_int, kit_int_str, kit_int_tuple, kit_int_list, kit_int_dict, kit_str_bool, kit_str_int, kit_str_str, kit_str_tuple, kit_str_list, kit_str_dict, kit_tuple_bool, kit_tuple_int, kit_tuple_str, kit_tuple_tuple, kit_tuple_list, kit_tuple_dict, kit_list_bool, kit_list_int, kit_list_str, kit_list_tuple, kit_list_list, kit_list_dict, kit_dict_bool, kit_dict_int, kit_dict_str, kit_dict_tuple, kit_dict_list, kit_dict_dict, dFn1, dFn2, dFn3, atI0, atI1, atI2, atI3, vAnd, vOr, vNot, Option.bind_none, Option.map_none, if_true, if_false, Bool.not_true, Bool.not_false, decide_true, decide_false, Bool.false_eq_true]), .tup [], (by first | rfl | simp [fT, fE, fA, bOr, bAnd, bNot, tb, tru, truD, dCall, lCall, gIsi, aCons, aNil, dVar, dC, dChain, gLe, gLt, gGe, gGt, gLen, gEq, gNe, eq2_str, eq2_int, eq2_bl, gIx, dBin, dTup, dIf, gAdd, gAddS, gAddT, gAll, gAny, gTuple, gList, gInt, startD, tyName, seqOf, lstOf, List.map_cons, List.map_nil, List.length_cons, List.length_nil, List.replicate, Option.bind_some, Option.map_some, Option.join_some, kit_NoneType_bool, kit_NoneType_int, kit_NoneType_str, kit_NoneType_tuple, kit_NoneType_list, kit_NoneType_dict, kit_bool_bool, kit_bool_int, kit_bool_str, kit_bool_tuple, kit_bool_list, kit_bool_dict, kit_int_bool, kit_int_int, kit_int_str, kit_int_tuple, kit_int_list, kit_int_dict, kit_str_bool, kit_str_int, kit_str_str, kit_str_tuple, kit_str_list, kit_str_dict, kit_tuple_bool, kit_tuple_int, kit_tuple_str, kit_tuple_tuple, kit_tuple_list, kit_tuple_dict, kit_list_bool, kit_list_int, kit_list_str, kit_list_tuple, kit_list_list, kit_list_dict, kit_dict_bool, kit_dict_int, kit_dict_str, kit_dict_tuple, kit_dict_list, kit_dict_dict, dFn1, dFn2, dFn3, atI0, atI1, atI2, atI3, vAnd, vOr, vNot, Option.bind_none, Option.map_none, if_true, if_false, Bool.not_true, Bool.not_false, decide_true, decide_false, Bool.false_eq_true]), RdQ.here q⟩
    · exact ⟨false, (by first | rfl | simp [fT, fE, fA, bOr, bAnd, bNot, tb, tru, truD, dCall, lCall, gIsi, aCons, aNil, dVar, dC, dChain, gLe, gLt, gGe, gGt, gLen, gEq, gNe, eq2_str, eq2_int, eq2_bl, gIx, dBin, dTup, dIf, gAdd, gAddS, gAddT, gAll, gAny, gTuple, gList, gInt, startD, tyName, seqOf, lstOf, List.map_cons, List.map_nil, List.length_cons, List.length_nil, List.replicate, Option.bind_some, Option.map_some, Option.join_some, kit_NoneType_bool, kit_NoneType_int, kit_NoneType_str, kit_NoneType_tuple, kit_NoneType_list, kit_NoneType_dict, kit_bool_bool, kit_bool_int, kit_bool_str, kit_bool_tuple, kit_bool_list, kit_bool_dict, kit_int_bool, kit_int_int, kit_int_str, kit_int_tuple, kit_int_list, kit_int_dict, kit_str_bool, kit_str_int, kit_str_str, kit_str_tuple, kit_str_list, kit_str_dict, kit_tuple_bool, kit_tuple_int, kit_tuple_str, kit_tuple_tuple, kit_tuple_list, kit_tuple_dict, kit_list_bool, kit_list_int, kit_list_str, kit_list_tuple, kit_list_list, kit_list_dict, kit_dict_bool, kit_dict_int, kit_dict_str, kit_dict_tuple, kit_dict_list, kit_dict_dict, dFn1, dFn2, dFn3, atI0, atI1, atI2, atI3, vAnd, vOr, vNot, Option.bind_none, Option.map_none, if_true, if_false, Bool.not_true, Bool.not_false, decide_true, decide_false, Bool.false_eq_true]), false, (by first | rfl | simp [fT, fE, fA, bOr, bAnd, bNot, tb, tru, truD, dCall, lCall, gIsi, aCons, aNil, dVar, dC, dChain, gLe, gLt, gGe, gGt, gLen, gEq, gNe, eq2_str, eq2_int, eq2_bl, gIx, dBin, dTup, dIf, gAdd, gAddS, gAddT, gAll, gAny, gTuple, gList, gInt, startD, tyName, seqOf, lstOf, List.map_cons, List.map_nil, List.length_cons, List.length_nil, List.replicate, Option.bind_some, Option.map_some, Option.join_some, kit_NoneType_bool, kit_NoneType_int, kit_NoneType_str, kit_NoneType_tuple, kit_NoneType_list, kit_NoneType_dict, kit_bool_bool, kit_bool_int, kit_bool_str, kit_bool_tuple, kit_bool_list, kit_bool_dict, kit_int_bool, kit_int_int, kit_int_str, kit_int_tuple, kit_int_list, kit_int_dict, kit_str_bool, kit_str_int, kit_str_str, kit_str_tuple, kit_str_list, kit_str_dict, kit_tuple_bool, kit_tuple_int, kit_tuple_str, kit_tuple_tuple, kit_tuple_list, kit_tuple_dict, kit_list_bool, kit_list_int, kit_list_str, kit_list_tuple, kit_list_list, kit_list_dict, kit_dict_bool, kit_dict_int, kit_dict_str, kit_dict_tuple, kit_dict_list, kit_dict_dict, dFn1, dFn2, dFn3, atI0, atI1, atI2, atI3, vAnd, vOr, vNot, Option.bind_none, Option.map_none, if_true, if_false, Bool.not_true, Bool.not_false, decide_true, decide_false, Bool.false_eq_true]), .tup [], (by first | rfl | simp [fT, fE, fA, bOr, bAnd, bNot, tb, tru, truD, dCall, lCall, gIsi, aCons, aNil, dVar, dC, dChain, gLe, gLt, gGe, gGt, gLen, gEq, gNe, eq2_str, eq2_int, eq2_bl, gIx, dBin, dTup, dIf, gAdd, gAddS, gAddT, gAll, gAny, gTuple, gList, gInt, startD, tyName, seqOf, lstOf, List.map_cons, List.map_nil, List.length_cons, List.length_nil, List.replicate, Option.bind_some, Option.map_some, Option.join_some, kit_NoneType_bool, kit_NoneType_int, kit_NoneType_str, kit_NoneType_tuple, kit_NoneType_list, kit_NoneType_dict, kit_bool_bool, kit_bool_int, kit_bool_str, kit_bool_tuple, kit_bool_list, kit_bool_dict, kit_int_bool, kit_int_int, kit_int_str, kit_int_tuple, kit_int_list, kit_int_dict, kit_str_bool, kit_str_int, kit_str_str, kit_str_tuple, kit_str_list, kit_str_dict, kit_tuple_bool, kit_tuple_int, kit_tuple_str, kit_tuple_tuple, kit_tuple_list, kit_tuple_dict, kit_list_bool, kit_list_int, kit_list_str, kit_list_tuple, kit_list_list, kit_list_dict, kit_dict_bool, kit_dict_int, kit_dict_str, kit_dict_tuple, kit_dict_list, kit_dict_dict, dFn1, dFn2, dFn3, atI0, atI1, atI2, atI3, vAnd, vOr, vNot, Option.bind_none, Option.map_none, if_true, if_false, Bool.not_true, Bool.not_false, decide_true, decide_false, Bool.false_eq_true]), RdQ.here q⟩
  | .tup [.str t, x], hk =>
    by_cases h1 : t = "and"
    · subst h1
      cases x with
      | tup zs =>
        obtain rfl : zs = ks := by
          have h2 : some zs = some ks := hk
          exact Option.some.inj h2
        exact ⟨true, (by first | rfl | simp [fT, fE, fA, bOr, bAnd, bNot, tb, tru, truD, dCall, lCall, gIsi, aCons, aNil, dVar, dC, dChain, gLe, gLt, gGe, gGt, gLen, gEq, gNe, eq2_str, eq2_int, eq2_bl, gIx, dBin, dTup, dIf, gAdd, gAddS, gAddT, gAll, gAny, gTuple, gList, gInt, startD, tyName, seqOf, lstOf, List.map_cons, List.map_nil, List.length_cons, List.length_nil, List.replicate, Option.bind_some, Option.map_some, Option.join_some, kit_NoneType_bool, kit_NoneType_int, kit_NoneType_str, kit_NoneType_tuple, kit_NoneType_list, kit_NoneType_dict, kit_bool_bool, kit_bool_int, kit_bool_str, kit_bool_tuple, kit_bool_list, kit_bool_dict, kit_int_bool, kit_int_int, kit_int_str, kit_int_tuple, kit_int_list, kit_int_dict, kit_str_bool, kit_str_int, kit_str_str, kit_str_tuple, kit_str_list, kit_str_dict, kit_tuple_bool, kit_tuple_int, kit_tuple_str, kit_tuple_tuple, kit_tuple_list, kit_tuple_dict, kit_list_bool, kit_list_int, kit_list_str, kit_list_tuple, kit_list_list, kit_list_dict, kit_dict_bool, kit_dict_int, kit_dict_str, kit_dict_tuple, kit_dict_list, kit_dict_dict, dFn1, dFn2, dFn3, atI0, atI1, atI2, atI3, vAnd, vOr, vNot, Option.bind_none, Option.map_none, if_true, if_false, Bool.not_true, Bool.not_false, decide_true, decide_false, Bool.false_eq_true]), .tup zs, (by first | rfl | simp [fT, fE, fA, bOr, bAnd, bNot, tb, tru, truD, dCall, lCall, gIsi, aCons, aNil, dVar, dC, dChain, gLe, gLt, gGe, gGt, gLen, gEq, gNe, eq2_str, eq2_int, eq2_bl, gIx, dBin, dTup, dIf, gAdd, gAddS, gAddT, gAll, gAny, gTuple, gList, gInt, startD, tyName, seqOf, lstOf, List.map_cons, List.map_nil, List.length_cons, List.length_nil, List.replicate, Option.bind_some, Option.map_some, Option.join_some, kit_NoneType_bool, kit_NoneType_int, kit_NoneType_str, kit_NoneType_tuple, kit_NoneType_list, kit_NoneType_dict, kit_bool_bool, kit_bool_int, kit_bool_str, kit_bool_tuple, kit_bool_list, kit_bool_dict, kit_int_bool, kit_int_int, kit_int_str, kit_int_tuple, kit_int_list, kit_int_dict, kit_str_bool, kit_str_int, kit_str_str, kit_str_tuple, kit_str_list, kit_str_dict, kit_tuple_bool, kit_tuple_int, kit_tuple_str, kit_tuple_tuple, kit_tuple_list, kit_tuple_dict, kit_list_bool, kit_list_int, kit_list_str, kit_list_tuple, kit_list_list, kit_list_dict, kit_dict_bool, kit_dict_int, kit_dict_str, kit_dict_tuple, kit_dict_list, kit_dict_dict, dFn1, dFn2, dFn3, atI0, atI1, atI2, atI3, vAnd, vOr, vNot, Option.bind_none, Option.map_none, if_true, if_false, Bool.not_true, Bool.not_false, decide_true, decide_false, Bool.false_eq_true]), RdQ.here q⟩
      | _ => exact absurd hk (by intro z; cases z)
    · have hk : (if t = "name" then some [] else none) = some ks := by
        have h2 : (if t = "and" then _ else if t = "name" then some [] else none) = some ks := hk
        rwa [if_neg h1] at h2
      obtain ⟨rfl, rfl⟩ := if_some hk
      exact ⟨false, (by first | rfl | simp [fT, fE, fA, bOr, bAnd, bNot, tb, tru, truD, dCall, lCall, gIsi, aCons, aNil, dVar, dC, dChain, gLe, gLt, gGe, gGt, gLen, gEq, gNe, eq2_str, eq2_int, eq2_bl, gIx, dBin, dTup, dIf, gAdd, gAddS, gAddT, gAll, gAny, gTuple, gList, gInt, startD, tyName, seqOf, lstOf, List.map_cons, List.map_nil, List.length_cons, List.length_nil, List.replicate, Option.bind_some, Option.map_some, Option.join_some, kit_NoneType_bool, kit_NoneType_int, kit_NoneType_str, kit_NoneType_tuple, kit_NoneType_list, kit_NoneType_dict, kit_bool_bool, kit_bool_int, kit_bool_str, kit_bool_tuple, kit_bool_list, kit_bool_dict, kit_int_bool, kit_int_int, kit_int_str, kit_int_tuple, kit_int_list, kit_int_dict, kit_str_bool, kit_str_int, kit_str_str, kit_str_tuple, kit_str_list, kit_str_dict, kit_tuple_bool, kit_tuple_int, kit_tuple_str, kit_tuple_tuple, kit_tuple_list, kit_tuple_dict, kit_list_bool, kit_list_int, kit_list_str, kit_list_tuple, kit_list_list, kit_list_dict, kit_dict_bool, kit_dict_int, kit_dict_str, kit_dict_tuple, kit_dict_list, kit_dict_dict, dFn1, dFn2, dFn3, atI0, atI1, atI2, atI3, vAnd, vOr, vNot, Option.bind_none, Option.map_none, if_true, if_false, Bool.not_true, Bool.not_false, decide_true, decide_false, Bool.false_eq_true]), false, (by first | rfl | simp [fT, fE, fA, bOr, bAnd, bNot, tb, tru, truD, dCall, lCall, gIsi, aCons, aNil, dVar, dC, dChain, gLe, gLt, gGe, gGt, gLen, gEq, gNe, eq2_str, eq2_int, eq2_bl, gIx, dBin, dTup, dIf, gAdd, gAddS, gAddT, gAll, gAny, gTuple, gList, gInt, startD, tyName, seqOf, lstOf, List.map_cons, List.map_nil, List.length_cons, List.length_nil, List.replicate, Option.bind_some, Option.map_some, Option.join_some, kit_NoneType_bool, kit_NoneType_int, kit_NoneType_str, kit_NoneType_tuple, kit_NoneType_list, kit_NoneType_dict, kit_bool_bool, kit_bool_int, kit_bool_str, kit_bool_tuple, kit_bool_list, kit_bool_dict, kit_int_bool, kit_int_int, kit_int_str, kit_int_tuple, kit_int_list, kit_int_dict, kit_str_bool, kit_str_int, kit_str_str, kit_str_tuple, kit_str_list, kit_str_dict, kit_tuple_bool, kit_tuple_int, kit_tuple_str, kit_tuple_tuple, kit_tuple_list, kit_tuple_dict, kit_list_bool, kit_list_int, kit_list_str, kit_list_tuple, kit_list_list, kit_list_dict, kit_dict_bool, kit_dict_int, kit_dict_str, kit_dict_tuple, kit_dict_list, kit_dict_dict, dFn1, dFn2, dFn3, atI0, atI1, atI2, atI3, vAnd, vOr, vNot, Option.bind_none, Option.map_none, if_true, if_false, Bool.not_true, Bool.not_false, decide_true, decide_false, Bool.false_eq_true]), .tup [], (by first | rfl | simp [fT, fE, fA, bOr, bAnd, bNot, tb, tru, truD, dCall, lCall, gIsi, aCons, aNil, dVar, dC, dChain, gLe, gLt, gGe, gGt, gLen, gEq, gNe, eq2_str, eq2_int, eq2_bl, gIx, dBin, dTup, dIf, gAdd, gAddS, gAddT, gAll, gAny, gTuple, gList, gInt, startD, tyName, seqOf, lstOf, List.map_cons, List.map_nil, List.length_cons, List.length_nil, List.replicate, Option.bind_some, Option.map_some, Option.join_some, kit_NoneType_bool, kit_NoneType_int, kit_NoneType_str, kit_NoneType_tuple, kit_NoneType_list, kit_NoneType_dict, kit_bool_bool, kit_bool_int, kit_bool_str, kit_bool_tuple, kit_bool_list, kit_bool_dict, kit_int_bool, kit_int_int, kit_int_str, kit_int_tuple, kit_int_list, kit_int_dict, kit_str_bool, kit_str_int, kit_str_str, kit_str_tuple, kit_str_list, kit_str_dict, kit_tuple_bool, kit_tuple_int, kit_tuple_str, kit_tuple_tuple, kit_tuple_list, kit_tuple_dict, kit_list_bool, kit_list_int, kit_list_str, kit_list_tuple, kit_list_list, kit_list_dict, kit_dict_bool, kit_dict_int, kit_dict_str, kit_dict_tuple, kit_dict_list, kit_dict_dict, dFn1, dFn2, dFn3, atI0, atI1, atI2, atI3, vAnd, vOr, vNot, Option.bind_none, Option.map_none, if_true, if_false, Bool.not_true, Bool.not_false, decide_true, decide_false, Bool.false_eq_true]), RdQ.here q⟩
  | .tup [.str t, y, k], hk =>
    obtain ⟨rfl, h2⟩ := if_some hk
    subst h2
    exact ⟨false, (by first | rfl | simp [fT, fE, fA, bOr, bAnd, bNot, tb, tru, truD, dCall, lCall, gIsi, aCons, aNil, dVar, dC, dChain, gLe, gLt, gGe, gGt, gLen, gEq, gNe, eq2_str, eq2_int, eq2_bl, gIx, dBin, dTup, dIf, gAdd, gAddS, gAddT, gAll, gAny, gTuple, gList, gInt, startD, tyName, seqOf, lstOf, List.map_cons, List.map_nil, List.length_cons, List.length_nil, List.replicate, Option.bind_some, Option.map_some, Option.join_some, kit_NoneType_bool, kit_NoneType_int, kit_NoneType_str, kit_NoneType_tuple, kit_NoneType_list, kit_NoneType_dict, kit_bool_bool, kit_bool_int, kit_bool_str, kit_bool_tuple, kit_bool_list, kit_bool_dict, kit_int_bool, kit_int_int, kit_int_str, kit_int_tuple, kit_int_list, kit_int_dict, kit_str_bool, kit_str_int, kit_str_str, kit_str_tuple, kit_str_list, kit_str_dict, kit_tuple_bool, kit_tuple_int, kit_tuple_str, kit_tuple_tuple, kit_tuple_list, kit_tuple_dict, kit_list_bool, kit_list_int, kit_list_str, kit_list_tuple, kit_list_list, kit_list_dict, kit_dict_bool, kit_dict_int, kit_dict_str, kit_dict_tuple, kit_dict_list, kit_dict_dict, dFn1, dFn2, dFn3, atI0, atI1, atI2, atI3, vAnd, vOr, vNot, Option.bind_none, Option.map_none, if_true, if_false, Bool.not_true, Bool.not_false, decide_true, decide_false, Bool.false_eq_true]), true, (by first | rfl | simp [fT, fE, fA, bOr, bAnd, bNot, tb, tru, truD, dCall, lCall, gIsi, aCons, aNil, dVar, dC, dChain, gLe, gLt, gGe, gGt, gLen, gEq, gNe, eq2_str, eq2_int, eq2_bl, gIx, dBin, dTup, dIf, gAdd, gAddS, gAddT, gAll, gAny, gTuple, gList, gInt, startD, tyName, seqOf, lstOf, List.map_cons, List.map_nil, List.length_cons, List.length_nil, List.replicate, Option.bind_some, Option.map_some, Option.join_some, kit_NoneType_bool, kit_NoneType_int, kit_NoneType_str, kit_NoneType_tuple, kit_NoneType_list, kit_NoneType_dict, kit_bool_bool, kit_bool_int, kit_bool_str, kit_bool_tuple, kit_bool_list, kit_bool_dict, kit_int_bool, kit_int_int, kit_int_str, kit_int_tuple, kit_int_list, kit_int_dict, kit_str_bool, kit_str_int, kit_str_str, kit_str_tuple, kit_str_list, kit_str_dict, kit_tuple_bool, kit_tuple_int, kit_tuple_str, kit_tuple_tuple, kit_tuple_list, kit_tuple_dict, kit_list_bool, kit_list_int, kit_list_str, kit_list_tuple, kit_list_list, kit_list_dict, kit_dict_bool, kit_dict_int, kit_dict_str, kit_dict_tuple, kit_dict_list, kit_dict_dict, dFn1, dFn2, dFn3, atI0, atI1, atI2, atI3, vAnd, vOr, vNot, Option.bind_none, Option.map_none, if_true, if_false, Bool.not_true, Bool.not_false, decide_true, decide_false, Bool.false_eq_true]), .tup [k], (by first | rfl | simp [fT, fE, fA, bOr, bAnd, bNot, tb, tru, truD, dCall, lCall, gIsi, aCons, aNil, dVar, dC, dChain, gLe, gLt, gGe, gGt, gLen, gEq, gNe, eq2_str, eq2_int, eq2_bl, gIx, dBin, dTup, dIf, gAdd, gAddS, gAddT, gAll, gAny, gTuple, gList, gInt, startD, tyName, seqOf, lstOf, List.map_cons, List.map_nil, List.length_cons, List.length_nil, List.replicate, Option.bind_some, Option.map_some, Option.join_some, kit_NoneType_bool, kit_NoneType_int, kit_NoneType_str, kit_NoneType_tuple, kit_NoneType_list, kit_NoneType_dict, kit_bool_bool, kit_bool_int, kit_bool_str, kit_bool_tuple, kit_bool_list, kit_bool_dict, kit_int_bool, kit_int_int, kit_int_str, kit_int_tuple, kit_int_list, kit_int_dict, kit_str_bool, kit_str_int, kit_str_str, kit_str_tuple, kit_str_list, kit_str_dict, kit_tuple_bool, kit_tuple_int, kit_tuple_str, kit_tuple_tuple, kit_tuple_list, kit_tuple_dict, kit_list_bool, kit_list_int, kit_list_str, kit_list_tuple, kit_list_list, kit_list_dict, kit_dict_bool, kit_dict_int, kit_dict_str, kit_dict_tuple, kit_dict_list, kit_dict_dict, dFn1, dFn2, dFn3, atI0, atI1, atI2, atI3, vAnd, vOr, vNot, Option.bind_none, Option.map_none, if_true, if_false, Bool.not_true, Bool.not_false, decide_true, decide_false, Bool.false_eq_true]), RdQ.here q⟩
theorem has_parts_of (W : Wd K mg) (n : Nat) : Has P w K mg base 2 "parts_of" 1 (pureSp (p1 fun a => if wfK n a = true ∧ (partsD n a).length ≤ 100000 then some (.lst (partsD n a)) else none)) := by
  have Sc := sc_parts_of
  refine has_ok W.d_parts_of Sc (fun _ _ _ _ _ _ us hl => match us, hl with | [_], _ => rfl) fun f cdv A outer s H E hr => ?_
  have hu := bare_units hr
  have hd : WSs (cxOf C8.CX0 P w K mg base ["kind", "found", "left", "part"] "parts_of" (defScope (top 20)) f cdv A outer s H E).nox (defBody (top 20)) _ := (wss_cons (ws_set (i := 1) Sc.nd (we_lst fa_nil))
      (wss_cons (ws_set (i := 2) Sc.nd (we_lst (fa_cons (fe_v 0) fa_nil)))
      (wss_cons (ws_while PassesOwn.never (ft_tru (fe_v 2)) (wss_cons (ws_set (i := 3) Sc.nd (we_pop (fe_v 2)))
      (wss_cons (ws_expr (we_append (fe_v 1) (fa_cons (fe_v 3) fa_nil)))
      (wss_one (ws_expr (we_extendT (fe_v 2) (fa_cons (fe_call (has_kinds_within W) hr (by first | decide | omega) rfl (fa_cons (fe_v 3) fa_nil)) fa_nil)))))))
      (wss_one (ws_ret (fe_v 1))))))
  refine ⟨_, hd, fun ds S Q hl hp => ?_⟩
  clear hd
  obtain ⟨a, d, rfl, h, q⟩ := p1_open hp
  obtain ⟨⟨ha, hz⟩, rfl⟩ := if_some h
  refine ⟨_, rfl, by decide, fun pf hpf => ?_⟩
  refine ⟨_, rfl, by simp, fun pl hpl => ?_⟩
  have hne : pl ≠ pf := fun z => by rw [z, put_same] at hpl; cases hpl
  have hpl2 : S pl = none := by rw [← put_ne (S := S) (c := .lst []) hne]; exact hpl
  refine ⟨fun m ρ' S' => ∃ fnd lft o, ρ' = [some a, some (.ref pf), some (.ref pl), o] ∧ S' pf = some (.lst fnd) ∧ S' pl = some (.lst lft) ∧ Le S S' ∧ (∀ x ∈ lft, wfK n x = true) ∧ fnd ++ lft.reverse.flatMap (partsD n) = partsD n a ∧ m = (lft.reverse.flatMap (partsD n)).length,
    ⟨_, [], [a], none, rfl, ?_, put_same, le_putR (le_putR (Le.refl S) hpf) hpl2, fun x hx => by rw [List.mem_singleton.mp hx]; exact ha, by simp, rfl⟩, ?_⟩
  · rw [put_ne (Ne.symm hne), put_same]
  rintro m ρ' S' ⟨fnd, lft, o, rfl, hf, hl2, hle, hwf, hsum, rfl⟩
  have hlen := congrArg List.length hsum
  rw [List.length_append] at hlen
  rcases List.eq_nil_or_concat lft with rfl | ⟨l', x, rfl⟩
  · refine ⟨false, by simp [fT, fE, fA, bOr, bAnd, bNot, tb, tru, truD, dCall, lCall, gIsi, aCons, aNil, dVar, dC, dChain, gLe, gLt, gGe, gGt, gLen, gEq, gNe, eq2_str, eq2_int, eq2_bl, gIx, dBin, dTup, dIf, gAdd, gAddS, gAddT, gAll, gAny, gTuple, gList, gInt, startD, tyName, seqOf, lstOf, List.map_cons, List.map_nil, List.length_cons, List.length_nil, List.replicate, Option.bind_some, Option.map_some, Option.join_some, kit_NoneType_bool, kit_NoneType_int, kit_NoneType_str, kit_NoneType_tuple, kit_NoneType_list, kit_NoneType_dict, kit_bool_bool, kit_bool_int, kit_bool_str, kit_bool_tuple, kit_bool_list, kit_bool_dict, kit_int_bool, kit_int_int, kit_int_str, kit_int_tuple, kit_int_list, kit_int_dict, kit_str_bool, kit_str_int, kit_str_str, kit_str_tuple, kit_str_list, kit_str_dict, kit_tuple_bool, kit_tuple_int, kit_tuple_str, kit_tuple_tuple, kit_tuple_list, kit_tuple_dict, kit_list_bool, kit_list_int, kit_list_str, kit_list_tuple, kit_list_list, kit_list_dict, kit_dict_bool, kit_dict_int, kit_dict_str, kit_dict_tuple, kit_dict_list, kit_dict_dict, dFn1, dFn2, dFn3, atI0, atI1, atI2, atI3, vAnd, vOr, vNot, Option.bind_none, Option.map_none, if_true, if_false, Bool.not_true, Bool.not_false, decide_true, decide_false, Bool.false_eq_true, hl2], ?_⟩
    refine ⟨.ref pf, rfl, RdQ.lst (ds := partsD n a) q hle hpf ?_⟩
    rw [hf, ← hsum]
    simp
  · refine ⟨true, by simp [fT, fE, fA, bOr, bAnd, bNot, tb, tru, truD, dCall, lCall, gIsi, aCons, aNil, dVar, dC, dChain, gLe, gLt, gGe, gGt, gLen, gEq, gNe, eq2_str, eq2_int, eq2_bl, gIx, dBin, dTup, dIf, gAdd, gAddS, gAddT, gAll, gAny, gTuple, gList, gInt, startD, tyName, seqOf, lstOf, List.map_cons, List.map_nil, List.length_cons, List.length_nil, List.replicate, Option.bind_some, Option.map_some, Option.join_some, kit_NoneType_bool, kit_NoneType_int, kit_NoneType_str, kit_NoneType_tuple, kit_NoneType_list, kit_NoneType_dict, kit_bool_bool, kit_bool_int, kit_bool_str, kit_bool_tuple, kit_bool_list, kit_bool_dict, kit_int_bool, kit_int_int, kit_int_str, kit_int_tuple, kit_int_list, kit_int_dict, kit_str_bool, kit_str_int, kit_str_str, kit_str_tuple, kit_str_list, kit_str_dict, kit_tuple_bool, kit_tuple_int, kit_tuple_str, kit_tuple_tuple, kit_tuple_list, kit_tuple_dict, kit_list_bool, kit_list_int, kit_list_str, kit_list_tuple, kit_list_list, kit_list_dict, kit_dict_bool, kit_dict_int, kit_dict_str, kit_dict_tuple, kit_dict_list, kit_dict_dict, dFn1, dFn2, dFn3, atI0, atI1, atI2, atI3, vAnd, vOr, vNot, Option.bind_none, Option.map_none, if_true, if_false, Bool.not_true, Bool.not_false, decide_true, decide_false, Bool.false_eq_true, hl2], ?_⟩
    rw [List.concat_eq_append] at *
    have hx : wfK n x = true := hwf x (by simp)
    obtain ⟨ks, hk1, hk2, hk3, hk4⟩ := parts_eq hx
    have hr : (l' ++ [x]).reverse.flatMap (partsD n) = x :: (ks.reverse.flatMap (partsD n) ++ l'.reverse.flatMap (partsD n)) := by
      rw [List.reverse_append, List.reverse_singleton, List.singleton_append, List.flatMap_cons, hk4, List.cons_append]
    have hr2 : (l' ++ ks).reverse.flatMap (partsD n) = ks.reverse.flatMap (partsD n) ++ l'.reverse.flatMap (partsD n) := by
      rw [List.reverse_append, List.flatMap_append]
    rw [hr] at hsum hlen
    have hlp : l'.length ≤ (l'.reverse.flatMap (partsD n)).length := by
      rw [← List.length_reverse]
      exact len_parts fun z hz => hwf z (List.mem_append_left _ (List.mem_reverse.mp hz))
    simp only [List.length_cons, List.length_append] at hlen
    refine pop_go rfl hl2 ?_
    refine append_go rfl rfl (ds := fnd) (by rw [put_ne (Ne.symm hne)]; exact hf) (by omega) ?_
    refine extendT_go (ys := ks) (ds := l') rfl (by simp [fT, fE, fA, bOr, bAnd, bNot, tb, tru, truD, dCall, lCall, gIsi, aCons, aNil, dVar, dC, dChain, gLe, gLt, gGe, gGt, gLen, gEq, gNe, eq2_str, eq2_int, eq2_bl, gIx, dBin, dTup, dIf, gAdd, gAddS, gAddT, gAll, gAny, gTuple, gList, gInt, startD, tyName, seqOf, lstOf, List.map_cons, List.map_nil, List.length_cons, List.length_nil, List.replicate, Option.bind_some, Option.map_some, Option.join_some, kit_NoneType_bool, kit_NoneType_int, kit_NoneType_str, kit_NoneType_tuple, kit_NoneType_list, kit_NoneType_dict, kit_bool_bool, kit_bool_int, kit_bool_str, kit_bool_tuple, kit_bool_list, kit_bool_dict, kit_int_bool, kit_int_int, kit_int_str, kit_int_tuple, kit_int_list, kit_int_dict, kit_str_bool, kit_str_int, kit_str_str, kit_str_tuple, kit_str_list, kit_str_dict, kit_tuple_bool, kit_tuple_int, kit_tuple_str, kit_tuple_tuple, kit_tuple_list, kit_tuple_dict, kit_list_bool, kit_list_int, kit_list_str, kit_list_tuple, kit_list_list, kit_list_dict, kit_dict_bool, kit_dict_int, kit_dict_str, kit_dict_tuple, kit_dict_list, kit_dict_dict, dFn1, dFn2, dFn3, atI0, atI1, atI2, atI3, vAnd, vOr, vNot, Option.bind_none, Option.map_none, if_true, if_false, Bool.not_true, Bool.not_false, decide_true, decide_false, Bool.false_eq_true, hk1]) (by rw [put_ne hne, put_same]) (by omega) ?_
    refine ⟨_, ?_, fnd ++ [x], l' ++ ks, _, rfl, ?_, put_same, ?_, ?_, ?_, rfl⟩
    · rw [hr, hr2, List.length_cons]
      omega
    · rw [put_ne (Ne.symm hne), put_same]
    · exact le_putR (le_putR (le_putR hle hpl2) hpf) hpl2
    · intro z hz
      rcases List.mem_append.mp hz with h | h
      · exact hwf z (List.mem_append_left _ h)
      · exact hk3 z h
    · rw [hr2, ← hsum]
      simp
theorem has_is_saying (W : Wd K mg) (n : Nat) : Has P w K mg base (n + 3) "is_saying" 1 (pureSp (p1 fun a => yes (wfS n a) (.bl true))) := by
  have Sc := sc_is_saying
  refine has_ok W.d_is_saying Sc (fun _ _ _ _ _ _ us hl => match us, hl with | [_], _ => rfl) fun f cdv A outer s H E hr => ?_
  have hu := bare_units hr
  have hd : WSs (cxOf C8.CX0 P w K mg base ["value", "word"] "is_saying" (defScope (top 22)) f cdv A outer s H E).nox (defBody (top 22)) _ := (wss_cons (ws_if (ft_w (fw_or (ft_not (ft_val (fe_isi rfl W.f_isinstance (fe_v 0) (fe_ty (n := "tuple") rfl W.f_tuple (by decide +kernel))))) (fw_or (ft_not (ft_tru (fe_v 0))) (fw_or1 (ft_not (ft_val (fe_isi rfl W.f_isinstance (fe_ix (fe_v 0) (fe_int)) (fe_ty (n := "str") rfl W.f_str (by decide +kernel))))))))) (wss_one (ws_ret (fe_bl))) wss_nil)
      (wss_cons (ws_if (ft_eq hu (fe_ix (fe_v 0) (fe_int)) (fe_str)) (wss_one (ws_ret (fe_and (fe_eq hu (fe_len rfl W.f_len (fe_v 0)) (fe_int)) (fe_and (fe_call (has_is_kind W n) hr (by first | decide | omega) rfl (fa_cons (fe_ix (fe_v 0) (fe_int)) fa_nil)) (fe_one (fe_call (has_is_kind W n) hr (by first | decide | omega) rfl (fa_cons (fe_ix (fe_v 0) (fe_int)) fa_nil))))))) wss_nil)
      (wss_cons (ws_if (ft_eq hu (fe_ix (fe_v 0) (fe_int)) (fe_str)) (wss_one (ws_ret (fe_and (fe_eq hu (fe_len rfl W.f_len (fe_v 0)) (fe_int)) (fe_and (fe_call (has_is_word W) hr (by first | decide | omega) rfl (fa_cons (fe_ix (fe_v 0) (fe_int)) fa_nil)) (fe_one (fe_call (has_is_word W) hr (by first | decide | omega) rfl (fa_cons (fe_ix (fe_v 0) (fe_int)) fa_nil))))))) wss_nil)
      (wss_one (ws_ret (we_and (fe_eq hu (fe_ix (fe_v 0) (fe_int)) (fe_str)) (we_and (fe_eq hu (fe_len rfl W.f_len (fe_v 0)) (fe_int)) (we_one (we_all rfl W.f_all (wa_cons (wl_lcS (own := [("word", 1)]) rfl Sc.nd (blkOk_by (by rfl)) iok_tup (fi_tup (fe_sliceT (fe_v 0) (fo_some (fe_int)) fo_none)) (tgb_name (i := 1)) (fun _ _ _ _ _ => (pg_name (i := 1) Sc.nd rfl (Or.inl rfl))) (fun _ _ _ _ _ => ftn) (fun _ _ _ _ _ => (fe_call (has_is_word W) hr (by first | decide | omega) rfl (fa_cons (fe_v 1) fa_nil)))) wa_nil))))))))))
  refine ⟨_, hd, fun ds S Q hl hp => ?_⟩
  clear hd
  obtain ⟨a, d, rfl, h, q⟩ := p1_open hp
  obtain ⟨ha, rfl⟩ := yes_some h
  match a, ha with
  | .tup [.str t, x, y], ha =>
    have ha : ((decide (t = "below") && wfK n x && wfK n y) || (decide (t = "role") && wfW x && wfW y)) = true := ha
    simp only [Bool.or_eq_true, Bool.and_eq_true, decide_eq_true_eq] at ha
    rcases ha with ⟨⟨rfl, h1⟩, h2⟩ | ⟨⟨rfl, h1⟩, h2⟩
    · refine ⟨false, (by first | rfl | simp [fT, fE, fA, bOr, bAnd, bNot, tb, tru, truD, dCall, lCall, gIsi, aCons, aNil, dVar, dC, dChain, gLe, gLt, gGe, gGt, gLen, gEq, gNe, eq2_str, eq2_int, eq2_bl, gIx, dBin, dTup, dIf, gAdd, gAddS, gAddT, gAll, gAny, gTuple, gList, gInt, startD, tyName, seqOf, lstOf, List.map_cons, List.map_nil, List.length_cons, List.length_nil, List.replicate, Option.bind_some, Option.map_some, Option.join_some, kit_NoneType_bool, kit_NoneType_int, kit_NoneType_str, kit_NoneType_tuple, kit_NoneType_list, kit_NoneType_dict, kit_bool_bool, kit_bool_int, kit_bool_str, kit_bool_tuple, kit_bool_list, kit_bool_dict, kit_int_bool, kit_int_int, kit_int_str, kit_int_tuple, kit_int_list, kit_int_dict, kit_str_bool, kit_str_int, kit_str_str, kit_str_tuple, kit_str_list, kit_str_dict, kit_tuple_bool, kit_tuple_int, kit_tuple_str, kit_tuple_tuple, kit_tuple_list, kit_tuple_dict, kit_list_bool, kit_list_int, kit_list_str, kit_list_tuple, kit_list_list, kit_list_dict, kit_dict_bool, kit_dict_int, kit_dict_str, kit_dict_tuple, kit_dict_list, kit_dict_dict, dFn1, dFn2, dFn3, atI0, atI1, atI2, atI3, vAnd, vOr, vNot, Option.bind_none, Option.map_none, if_true, if_false, Bool.not_true, Bool.not_false, decide_true, decide_false, Bool.false_eq_true]), true, (by first | rfl | simp [fT, fE, fA, bOr, bAnd, bNot, tb, tru, truD, dCall, lCall, gIsi, aCons, aNil, dVar, dC, dChain, gLe, gLt, gGe, gGt, gLen, gEq, gNe, eq2_str, eq2_int, eq2_bl, gIx, dBin, dTup, dIf, gAdd, gAddS, gAddT, gAll, gAny, gTuple, gList, gInt, startD, tyName, seqOf, lstOf, List.map_cons, List.map_nil, List.length_cons, List.length_nil, List.replicate, Option.bind_some, Option.map_some, Option.join_some, kit_NoneType_bool, kit_NoneType_int, kit_NoneType_str, kit_NoneType_tuple, kit_NoneType_list, kit_NoneType_dict, kit_bool_bool, kit_bool_int, kit_bool_str, kit_bool_tuple, kit_bool_list, kit_bool_dict, kit_int_bool, kit_int_int, kit_int_str, kit_int_tuple, kit_int_list, kit_int_dict, kit_str_bool, kit_str_int, kit_str_str, kit_str_tuple, kit_str_list, kit_str_dict, kit_tuple_bool, kit_tuple_int, kit_tuple_str, kit_tuple_tuple, kit_tuple_list, kit_tuple_dict, kit_list_bool, kit_list_int, kit_list_str, kit_list_tuple, kit_list_list, kit_list_dict, kit_dict_bool, kit_dict_int, kit_dict_str, kit_dict_tuple, kit_dict_list, kit_dict_dict, dFn1, dFn2, dFn3, atI0, atI1, atI2, atI3, vAnd, vOr, vNot, Option.bind_none, Option.map_none, if_true, if_false, Bool.not_true, Bool.not_false, decide_true, decide_false, Bool.false_eq_true]), .bl true, ?_, RdQ.here q⟩
      simp [fT, fE, fA, bOr, bAnd, bNot, tb, tru, truD, dCall, lCall, gIsi, aCons, aNil, dVar, dC, dChain, gLe, gLt, gGe, gGt, gLen, gEq, gNe, eq2_str, eq2_int, eq2_bl, gIx, dBin, dTup, dIf, gAdd, gAddS, gAddT, gAll, gAny, gTuple, gList, gInt, startD, tyName, seqOf, lstOf, List.map_cons, List.map_nil, List.length_cons, List.length_nil, List.replicate, Option.bind_some, Option.map_some, Option.join_some, kit_NoneType_bool, kit_NoneType_int, kit_NoneType_str, kit_NoneType_tuple, kit_NoneType_list, kit_NoneType_dict, kit_bool_bool, kit_bool_int, kit_bool_str, kit_bool_tuple, kit_bool_list, kit_bool_dict, kit_int_bool, kit_int_int, kit_int_str, kit_int_tuple, kit_int_list, kit_int_dict, kit_str_bool, kit_str_int, kit_str_str, kit_str_tuple, kit_str_list, kit_str_dict, kit_tuple_bool, kit_tuple_int, kit_tuple_str, kit_tuple_tuple, kit_tuple_list, kit_tuple_dict, kit_list_bool, kit_list_int, kit_list_str, kit_list_tuple, kit_list_list, kit_list_dict, kit_dict_bool, kit_dict_int, kit_dict_str, kit_dict_tuple, kit_dict_list, kit_dict_dict, dFn1, dFn2, dFn3, atI0, atI1, atI2, atI3, vAnd, vOr, vNot, Option.bind_none, Option.map_none, if_true, if_false, Bool.not_true, Bool.not_false, decide_true, decide_false, Bool.false_eq_true, yes_true h1, yes_true h2]
    · refine ⟨false, (by first | rfl | simp [fT, fE, fA, bOr, bAnd, bNot, tb, tru, truD, dCall, lCall, gIsi, aCons, aNil, dVar, dC, dChain, gLe, gLt, gGe, gGt, gLen, gEq, gNe, eq2_str, eq2_int, eq2_bl, gIx, dBin, dTup, dIf, gAdd, gAddS, gAddT, gAll, gAny, gTuple, gList, gInt, startD, tyName, seqOf, lstOf, List.map_cons, List.map_nil, List.length_cons, List.length_nil, List.replicate, Option.bind_some, Option.map_some, Option.join_some, kit_NoneType_bool, kit_NoneType_int, kit_NoneType_str, kit_NoneType_tuple, kit_NoneType_list, kit_NoneType_dict, kit_bool_bool, kit_bool_int, kit_bool_str, kit_bool_tuple, kit_bool_list, kit_bool_dict, kit_int_bool, kit_int_int, kit_int_str, kit_int_tuple, kit_int_list, kit_int_dict, kit_str_bool, kit_str_int, kit_str_str, kit_str_tuple, kit_str_list, kit_str_dict, kit_tuple_bool, kit_tuple_int, kit_tuple_str, kit_tuple_tuple, kit_tuple_list, kit_tuple_dict, kit_list_bool, kit_list_int, kit_list_str, kit_list_tuple, kit_list_list, kit_list_dict, kit_dict_bool, kit_dict_int, kit_dict_str, kit_dict_tuple, kit_dict_list, kit_dict_dict, dFn1, dFn2, dFn3, atI0, atI1, atI2, atI3, vAnd, vOr, vNot, Option.bind_none, Option.map_none, if_true, if_false, Bool.not_true, Bool.not_false, decide_true, decide_false, Bool.false_eq_true]), false, (by first | rfl | simp [fT, fE, fA, bOr, bAnd, bNot, tb, tru, truD, dCall, lCall, gIsi, aCons, aNil, dVar, dC, dChain, gLe, gLt, gGe, gGt, gLen, gEq, gNe, eq2_str, eq2_int, eq2_bl, gIx, dBin, dTup, dIf, gAdd, gAddS, gAddT, gAll, gAny, gTuple, gList, gInt, startD, tyName, seqOf, lstOf, List.map_cons, List.map_nil, List.length_cons, List.length_nil, List.replicate, Option.bind_some, Option.map_some, Option.join_some, kit_NoneType_bool, kit_NoneType_int, kit_NoneType_str, kit_NoneType_tuple, kit_NoneType_list, kit_NoneType_dict, kit_bool_bool, kit_bool_int, kit_bool_str, kit_bool_tuple, kit_bool_list, kit_bool_dict, kit_int_bool, kit_int_int, kit_int_str, kit_int_tuple, kit_int_list, kit_int_dict, kit_str_bool, kit_str_int, kit_str_str, kit_str_tuple, kit_str_list, kit_str_dict, kit_tuple_bool, kit_tuple_int, kit_tuple_str, kit_tuple_tuple, kit_tuple_list, kit_tuple_dict, kit_list_bool, kit_list_int, kit_list_str, kit_list_tuple, kit_list_list, kit_list_dict, kit_dict_bool, kit_dict_int, kit_dict_str, kit_dict_tuple, kit_dict_list, kit_dict_dict, dFn1, dFn2, dFn3, atI0, atI1, atI2, atI3, vAnd, vOr, vNot, Option.bind_none, Option.map_none, if_true, if_false, Bool.not_true, Bool.not_false, decide_true, decide_false, Bool.false_eq_true]), true, (by first | rfl | simp [fT, fE, fA, bOr, bAnd, bNot, tb, tru, truD, dCall, lCall, gIsi, aCons, aNil, dVar, dC, dChain, gLe, gLt, gGe, gGt, gLen, gEq, gNe, eq2_str, eq2_int, eq2_bl, gIx, dBin, dTup, dIf, gAdd, gAddS, gAddT, gAll, gAny, gTuple, gList, gInt, startD, tyName, seqOf, lstOf, List.map_cons, List.map_nil, List.length_cons, List.length_nil, List.replicate, Option.bind_some, Option.map_some, Option.join_some, kit_NoneType_bool, kit_NoneType_int, kit_NoneType_str, kit_NoneType_tuple, kit_NoneType_list, kit_NoneType_dict, kit_bool_bool, kit_bool_int, kit_bool_str, kit_bool_tuple, kit_bool_list, kit_bool_dict, kit_int_bool, kit_int_int, kit_int_str, kit_int_tuple, kit_int_list, kit_int_dict, kit_str_bool, kit_str_int, kit_str_str, kit_str_tuple, kit_str_list, kit_str_dict, kit_tuple_bool, kit_tuple_int, kit_tuple_str, kit_tuple_tuple, kit_tuple_list, kit_tuple_dict, kit_list_bool, kit_list_int, kit_list_str, kit_list_tuple, kit_list_list, kit_list_dict, kit_dict_bool, kit_dict_int, kit_dict_str, kit_dict_tuple, kit_dict_list, kit_dict_dict, dFn1, dFn2, dFn3, atI0, atI1, atI2, atI3, vAnd, vOr, vNot, Option.bind_none, Option.map_none, if_true, if_false, Bool.not_true, Bool.not_false, decide_true, decide_false, Bool.false_eq_true]), .bl true, ?_, RdQ.here q⟩
      simp [fT, fE, fA, bOr, bAnd, bNot, tb, tru, truD, dCall, lCall, gIsi, aCons, aNil, dVar, dC, dChain, gLe, gLt, gGe, gGt, gLen, gEq, gNe, eq2_str, eq2_int, eq2_bl, gIx, dBin, dTup, dIf, gAdd, gAddS, gAddT, gAll, gAny, gTuple, gList, gInt, startD, tyName, seqOf, lstOf, List.map_cons, List.map_nil, List.length_cons, List.length_nil, List.replicate, Option.bind_some, Option.map_some, Option.join_some, kit_NoneType_bool, kit_NoneType_int, kit_NoneType_str, kit_NoneType_tuple, kit_NoneType_list, kit_NoneType_dict, kit_bool_bool, kit_bool_int, kit_bool_str, kit_bool_tuple, kit_bool_list, kit_bool_dict, kit_int_bool, kit_int_int, kit_int_str, kit_int_tuple, kit_int_list, kit_int_dict, kit_str_bool, kit_str_int, kit_str_str, kit_str_tuple, kit_str_list, kit_str_dict, kit_tuple_bool, kit_tuple_int, kit_tuple_str, kit_tuple_tuple, kit_tuple_list, kit_tuple_dict, kit_list_bool, kit_list_int, kit_list_str, kit_list_tuple, kit_list_list, kit_list_dict, kit_dict_bool, kit_dict_int, kit_dict_str, kit_dict_tuple, kit_dict_list, kit_dict_dict, dFn1, dFn2, dFn3, atI0, atI1, atI2, atI3, vAnd, vOr, vNot, Option.bind_none, Option.map_none, if_true, if_false, Bool.not_true, Bool.not_false, decide_true, decide_false, Bool.false_eq_true, yes_true h1, yes_true h2]
  | .tup [.str t, x, y, z], ha =>
    have ha : (decide (t = "chain") && wfW x && wfW y && wfW z) = true := ha
    simp only [Bool.and_eq_true, decide_eq_true_eq] at ha
    obtain ⟨⟨⟨rfl, h1⟩, h2⟩, h3⟩ := ha
    refine ⟨false, (by first | rfl | simp [fT, fE, fA, bOr, bAnd, bNot, tb, tru, truD, dCall, lCall, gIsi, aCons, aNil, dVar, dC, dChain, gLe, gLt, gGe, gGt, gLen, gEq, gNe, eq2_str, eq2_int, eq2_bl, gIx, dBin, dTup, dIf, gAdd, gAddS, gAddT, gAll, gAny, gTuple, gList, gInt, startD, tyName, seqOf, lstOf, List.map_cons, List.map_nil, List.length_cons, List.length_nil, List.replicate, Option.bind_some, Option.map_some, Option.join_some, kit_NoneType_bool, kit_NoneType_int, kit_NoneType_str, kit_NoneType_tuple, kit_NoneType_list, kit_NoneType_dict, kit_bool_bool, kit_bool_int, kit_bool_str, kit_bool_tuple, kit_bool_list, kit_bool_dict, kit_int_bool, kit_int_int, kit_int_str, kit_int_tuple, kit_int_list, kit_int_dict, kit_str_bool, kit_str_int, kit_str_str, kit_str_tuple, kit_str_list, kit_str_dict, kit_tuple_bool, kit_tuple_int, kit_tuple_str, kit_tuple_tuple, kit_tuple_list, kit_tuple_dict, kit_list_bool, kit_list_int, kit_list_str, kit_list_tuple, kit_list_list, kit_list_dict, kit_dict_bool, kit_dict_int, kit_dict_str, kit_dict_tuple, kit_dict_list, kit_dict_dict, dFn1, dFn2, dFn3, atI0, atI1, atI2, atI3, vAnd, vOr, vNot, Option.bind_none, Option.map_none, if_true, if_false, Bool.not_true, Bool.not_false, decide_true, decide_false, Bool.false_eq_true]), false, (by first | rfl | simp [fT, fE, fA, bOr, bAnd, bNot, tb, tru, truD, dCall, lCall, gIsi, aCons, aNil, dVar, dC, dChain, gLe, gLt, gGe, gGt, gLen, gEq, gNe, eq2_str, eq2_int, eq2_bl, gIx, dBin, dTup, dIf, gAdd, gAddS, gAddT, gAll, gAny, gTuple, gList, gInt, startD, tyName, seqOf, lstOf, List.map_cons, List.map_nil, List.length_cons, List.length_nil, List.replicate, Option.bind_some, Option.map_some, Option.join_some, kit_NoneType_bool, kit_NoneType_int, kit_NoneType_str, kit_NoneType_tuple, kit_NoneType_list, kit_NoneType_dict, kit_bool_bool, kit_bool_int, kit_bool_str, kit_bool_tuple, kit_bool_list, kit_bool_dict, kit_int_bool, kit_int_int, kit_int_str, kit_int_tuple, kit_int_list, kit_int_dict, kit_str_bool, kit_str_int, kit_str_str, kit_str_tuple, kit_str_list, kit_str_dict, kit_tuple_bool, kit_tuple_int, kit_tuple_str, kit_tuple_tuple, kit_tuple_list, kit_tuple_dict, kit_list_bool, kit_list_int, kit_list_str, kit_list_tuple, kit_list_list, kit_list_dict, kit_dict_bool, kit_dict_int, kit_dict_str, kit_dict_tuple, kit_dict_list, kit_dict_dict, dFn1, dFn2, dFn3, atI0, atI1, atI2, atI3, vAnd, vOr, vNot, Option.bind_none, Option.map_none, if_true, if_false, Bool.not_true, Bool.not_false, decide_true, decide_false, Bool.false_eq_true]), false, (by first | rfl | simp [fT, fE, fA, bOr, bAnd, bNot, tb, tru, truD, dCall, lCall, gIsi, aCons, aNil, dVar, dC, dChain, gLe, gLt, gGe, gGt, gLen, gEq, gNe, eq2_str, eq2_int, eq2_bl, gIx, dBin, dTup, dIf, gAdd, gAddS, gAddT, gAll, gAny, gTuple, gList, gInt, startD, tyName, seqOf, lstOf, List.map_cons, List.map_nil, List.length_cons, List.length_nil, List.replicate, Option.bind_some, Option.map_some, Option.join_some, kit_NoneType_bool, kit_NoneType_int, kit_NoneType_str, kit_NoneType_tuple, kit_NoneType_list, kit_NoneType_dict, kit_bool_bool, kit_bool_int, kit_bool_str, kit_bool_tuple, kit_bool_list, kit_bool_dict, kit_int_bool, kit_int_int, kit_int_str, kit_int_tuple, kit_int_list, kit_int_dict, kit_str_bool, kit_str_int, kit_str_str, kit_str_tuple, kit_str_list, kit_str_dict, kit_tuple_bool, kit_tuple_int, kit_tuple_str, kit_tuple_tuple, kit_tuple_list, kit_tuple_dict, kit_list_bool, kit_list_int, kit_list_str, kit_list_tuple, kit_list_list, kit_list_dict, kit_dict_bool, kit_dict_int, kit_dict_str, kit_dict_tuple, kit_dict_list, kit_dict_dict, dFn1, dFn2, dFn3, atI0, atI1, atI2, atI3, vAnd, vOr, vNot, Option.bind_none, Option.map_none, if_true, if_false, Bool.not_true, Bool.not_false, decide_true, decide_false, Bool.false_eq_true]), .bl true, (by first | rfl | simp [fT, fE, fA, bOr, bAnd, bNot, tb, tru, truD, dCall, lCall, gIsi, aCons, aNil, dVar, dC, dChain, gLe, gLt, gGe, gGt, gLen, gEq, gNe, eq2_str, eq2_int, eq2_bl, gIx, dBin, dTup, dIf, gAdd, gAddS, gAddT, gAll, gAny, gTuple, gList, gInt, startD, tyName, seqOf, lstOf, List.map_cons, List.map_nil, List.length_cons, List.length_nil, List.replicate, Option.bind_some, Option.map_some, Option.join_some, kit_NoneType_bool, kit_NoneType_int, kit_NoneType_str, kit_NoneType_tuple, kit_NoneType_list, kit_NoneType_dict, kit_bool_bool, kit_bool_int, kit_bool_str, kit_bool_tuple, kit_bool_list, kit_bool_dict, kit_int_bool, kit_int_int, kit_int_str, kit_int_tuple, kit_int_list, kit_int_dict, kit_str_bool, kit_str_int, kit_str_str, kit_str_tuple, kit_str_list, kit_str_dict, kit_tuple_bool, kit_tuple_int, kit_tuple_str, kit_tuple_tuple, kit_tuple_list, kit_tuple_dict, kit_list_bool, kit_list_int, kit_list_str, kit_list_tuple, kit_list_list, kit_list_dict, kit_dict_bool, kit_dict_int, kit_dict_str, kit_dict_tuple, kit_dict_list, kit_dict_dict, dFn1, dFn2, dFn3, atI0, atI1, atI2, atI3, vAnd, vOr, vNot, Option.bind_none, Option.map_none, if_true, if_false, Bool.not_true, Bool.not_false, decide_true, decide_false, Bool.false_eq_true]), true, rfl, .bl true, (by first | rfl | simp [fT, fE, fA, bOr, bAnd, bNot, tb, tru, truD, dCall, lCall, gIsi, aCons, aNil, dVar, dC, dChain, gLe, gLt, gGe, gGt, gLen, gEq, gNe, eq2_str, eq2_int, eq2_bl, gIx, dBin, dTup, dIf, gAdd, gAddS, gAddT, gAll, gAny, gTuple, gList, gInt, startD, tyName, seqOf, lstOf, List.map_cons, List.map_nil, List.length_cons, List.length_nil, List.replicate, Option.bind_some, Option.map_some, Option.join_some, kit_NoneType_bool, kit_NoneType_int, kit_NoneType_str, kit_NoneType_tuple, kit_NoneType_list, kit_NoneType_dict, kit_bool_bool, kit_bool_int, kit_bool_str, kit_bool_tuple, kit_bool_list, kit_bool_dict, kit_int_bool, kit_int_int, kit_int_str, kit_int_tuple, kit_int_list, kit_int_dict, kit_str_bool, kit_str_int, kit_str_str, kit_str_tuple, kit_str_list, kit_str_dict, kit_tuple_bool, kit_tuple_int, kit_tuple_str, kit_tuple_tuple, kit_tuple_list, kit_tuple_dict, kit_list_bool, kit_list_int, kit_list_str, kit_list_tuple, kit_list_list, kit_list_dict, kit_dict_bool, kit_dict_int, kit_dict_str, kit_dict_tuple, kit_dict_list, kit_dict_dict, dFn1, dFn2, dFn3, atI0, atI1, atI2, atI3, vAnd, vOr, vNot, Option.bind_none, Option.map_none, if_true, if_false, Bool.not_true, Bool.not_false, decide_true, decide_false, Bool.false_eq_true]), true, rfl, ?_⟩
    refine all_go (f := fun _ => true) (items := [x, y, z]) (k := none) (by first | rfl | simp [fT, fE, fA, bOr, bAnd, bNot, tb, tru, truD, dCall, lCall, gIsi, aCons, aNil, dVar, dC, dChain, gLe, gLt, gGe, gGt, gLen, gEq, gNe, eq2_str, eq2_int, eq2_bl, gIx, dBin, dTup, dIf, gAdd, gAddS, gAddT, gAll, gAny, gTuple, gList, gInt, startD, tyName, seqOf, lstOf, List.map_cons, List.map_nil, List.length_cons, List.length_nil, List.replicate, Option.bind_some, Option.map_some, Option.join_some, kit_NoneType_bool, kit_NoneType_int, kit_NoneType_str, kit_NoneType_tuple, kit_NoneType_list, kit_NoneType_dict, kit_bool_bool, kit_bool_int, kit_bool_str, kit_bool_tuple, kit_bool_list, kit_bool_dict, kit_int_bool, kit_int_int, kit_int_str, kit_int_tuple, kit_int_list, kit_int_dict, kit_str_bool, kit_str_int, kit_str_str, kit_str_tuple, kit_str_list, kit_str_dict, kit_tuple_bool, kit_tuple_int, kit_tuple_str, kit_tuple_tuple, kit_tuple_list, kit_tuple_dict, kit_list_bool, kit_list_int, kit_list_str, kit_list_tuple, kit_list_list, kit_list_dict, kit_dict_bool, kit_dict_int, kit_dict_str, kit_dict_tuple, kit_dict_list, kit_dict_dict, dFn1, dFn2, dFn3, atI0, atI1, atI2, atI3, vAnd, vOr, vNot, Option.bind_none, Option.map_none, if_true, if_false, Bool.not_true, Bool.not_false, decide_true, decide_false, Bool.false_eq_true]) (by simp) (fun d hd S' _ => ⟨_, rfl, ?_⟩) (RdQ.here q)
    have hd2 : wfW d = true := by
      simp only [List.mem_cons, List.not_mem_nil, or_false] at hd
      rcases hd with rfl | rfl | rfl <;> assumption
    simp [fT, fE, fA, bOr, bAnd, bNot, tb, tru, truD, dCall, lCall, gIsi, aCons, aNil, dVar, dC, dChain, gLe, gLt, gGe, gGt, gLen, gEq, gNe, eq2_str, eq2_int, eq2_bl, gIx, dBin, dTup, dIf, gAdd, gAddS, gAddT, gAll, gAny, gTuple, gList, gInt, startD, tyName, seqOf, lstOf, List.map_cons, List.map_nil, List.length_cons, List.length_nil, List.replicate, Option.bind_some, Option.map_some, Option.join_some, kit_NoneType_bool, kit_NoneType_int, kit_NoneType_str, kit_NoneType_tuple, kit_NoneType_list, kit_NoneType_dict, kit_bool_bool, kit_bool_int, kit_bool_str, kit_bool_tuple, kit_bool_list, kit_bool_dict, kit_int_bool, kit_int_int, kit_int_str, kit_int_tuple, kit_int_list, kit_int_dict, kit_str_bool, kit_str_int, kit_str_str, kit_str_tuple, kit_str_list, kit_str_dict, kit_tuple_bool, kit_tuple_int, kit_tuple_str, kit_tuple_tuple, kit_tuple_list, kit_tuple_dict, kit_list_bool, kit_list_int, kit_list_str, kit_list_tuple, kit_list_list, kit_list_dict, kit_dict_bool, kit_dict_int, kit_dict_str, kit_dict_tuple, kit_dict_list, kit_dict_dict, dFn1, dFn2, dFn3, atI0, atI1, atI2, atI3, vAnd, vOr, vNot, Option.bind_none, Option.map_none, if_true, if_false, Bool.not_true, Bool.not_false, decide_true, decide_false, Bool.false_eq_true, wipeD, yes_true hd2]
theorem has_is_book (W : Wd K mg) (n : Nat) : Has P w K mg base (n + 4) "is_book" 1 (pureSp (p1 fun a => yes (wfB n a) (.bl true))) := by
  have Sc := sc_is_book
  refine has_ok W.d_is_book Sc (fun _ _ _ _ _ _ us hl => match us, hl with | [_], _ => rfl) fun f cdv A outer s H E hr => ?_
  have hu := bare_units hr
  have hd : WSs (cxOf C8.CX0 P w K mg base ["value", "saying"] "is_book" (defScope (top 23)) f cdv A outer s H E).nox (defBody (top 23)) _ := (wss_one (ws_ret (we_and (fe_isi rfl W.f_isinstance (fe_v 0) (fe_ty (n := "tuple") rfl W.f_tuple (by decide +kernel))) (we_one (we_all rfl W.f_all (wa_cons (wl_lcS (own := [("saying", 1)]) rfl Sc.nd (blkOk_by (by rfl)) iok_tup (fi_tup (fe_v 0)) (tgb_name (i := 1)) (fun _ _ _ _ _ => (pg_name (i := 1) Sc.nd rfl (Or.inl rfl))) (fun _ _ _ _ _ => ftn) (fun _ _ _ _ _ => (fe_call (has_is_saying W n) hr (by first | decide | omega) rfl (fa_cons (fe_v 1) fa_nil)))) wa_nil))))))
  refine ⟨_, hd, fun ds S Q hl hp => ?_⟩
  clear hd
  obtain ⟨a, d, rfl, h, q⟩ := p1_open hp
  obtain ⟨ha, rfl⟩ := yes_some h
  cases a with
  | tup ss =>
    have ha : (decide (ss.length ≤ 1000000) && ss.all (wfS n)) = true := ha
    simp only [Bool.and_eq_true, decide_eq_true_eq, List.all_eq_true] at ha
    refine ⟨.bl true, (by first | rfl | simp [fT, fE, fA, bOr, bAnd, bNot, tb, tru, truD, dCall, lCall, gIsi, aCons, aNil, dVar, dC, dChain, gLe, gLt, gGe, gGt, gLen, gEq, gNe, eq2_str, eq2_int, eq2_bl, gIx, dBin, dTup, dIf, gAdd, gAddS, gAddT, gAll, gAny, gTuple, gList, gInt, startD, tyName, seqOf, lstOf, List.map_cons, List.map_nil, List.length_cons, List.length_nil, List.replicate, Option.bind_some, Option.map_some, Option.join_some, kit_NoneType_bool, kit_NoneType_int, kit_NoneType_str, kit_NoneType_tuple, kit_NoneType_list, kit_NoneType_dict, kit_bool_bool, kit_bool_int, kit_bool_str, kit_bool_tuple, kit_bool_list, kit_bool_dict, kit_int_bool, kit_int_int, kit_int_str, kit_int_tuple, kit_int_list, kit_int_dict, kit_str_bool, kit_str_int, kit_str_str, kit_str_tuple, kit_str_list, kit_str_dict, kit_tuple_bool, kit_tuple_int, kit_tuple_str, kit_tuple_tuple, kit_tuple_list, kit_tuple_dict, kit_list_bool, kit_list_int, kit_list_str, kit_list_tuple, kit_list_list, kit_list_dict, kit_dict_bool, kit_dict_int, kit_dict_str, kit_dict_tuple, kit_dict_list, kit_dict_dict, dFn1, dFn2, dFn3, atI0, atI1, atI2, atI3, vAnd, vOr, vNot, Option.bind_none, Option.map_none, if_true, if_false, Bool.not_true, Bool.not_false, decide_true, decide_false, Bool.false_eq_true]), true, rfl, ?_⟩
    refine all_go (f := fun _ => true) (items := ss) (k := none) rfl ha.1 (fun d hd S' _ => ⟨_, rfl, ?_⟩) ?_
    · simp [fT, fE, fA, bOr, bAnd, bNot, tb, tru, truD, dCall, lCall, gIsi, aCons, aNil, dVar, dC, dChain, gLe, gLt, gGe, gGt, gLen, gEq, gNe, eq2_str, eq2_int, eq2_bl, gIx, dBin, dTup, dIf, gAdd, gAddS, gAddT, gAll, gAny, gTuple, gList, gInt, startD, tyName, seqOf, lstOf, List.map_cons, List.map_nil, List.length_cons, List.length_nil, List.replicate, Option.bind_some, Option.map_some, Option.join_some, kit_NoneType_bool, kit_NoneType_int, kit_NoneType_str, kit_NoneType_tuple, kit_NoneType_list, kit_NoneType_dict, kit_bool_bool, kit_bool_int, kit_bool_str, kit_bool_tuple, kit_bool_list, kit_bool_dict, kit_int_bool, kit_int_int, kit_int_str, kit_int_tuple, kit_int_list, kit_int_dict, kit_str_bool, kit_str_int, kit_str_str, kit_str_tuple, kit_str_list, kit_str_dict, kit_tuple_bool, kit_tuple_int, kit_tuple_str, kit_tuple_tuple, kit_tuple_list, kit_tuple_dict, kit_list_bool, kit_list_int, kit_list_str, kit_list_tuple, kit_list_list, kit_list_dict, kit_dict_bool, kit_dict_int, kit_dict_str, kit_dict_tuple, kit_dict_list, kit_dict_dict, dFn1, dFn2, dFn3, atI0, atI1, atI2, atI3, vAnd, vOr, vNot, Option.bind_none, Option.map_none, if_true, if_false, Bool.not_true, Bool.not_false, decide_true, decide_false, Bool.false_eq_true, wipeD, yes_true (ha.2 d hd)]
    · refine RdQ.here ?_
      rw [show ss.all (fun _ => true) = true by simp]
      exact q
  | _ => cases ha
theorem has_check_book (W : Wd K mg) (n : Nat) : Has P w K mg base (n + 5) "check_book" 1 (pureSp (p1 fun a => yes (wfB n a) .non)) := by
  have Sc := sc_check_book
  refine has_ok W.d_check_book Sc (fun _ _ _ _ _ _ us hl => match us, hl with | [_], _ => rfl) fun f cdv A outer s H E hr => ?_
  have hu := bare_units hr
  have hd : WSs (cxOf C8.CX0 P w K mg base ["book"] "check_book" (defScope (top 24)) f cdv A outer s H E).nox (defBody (top 24)) _ := (wss_one (ws_if (ft_not (ft_val (fe_call (has_is_book W n) hr (by first | decide | omega) rfl (fa_cons (fe_v 0) fa_nil)))) wss_never wss_nil))
  refine ⟨_, hd, fun ds S Q hl hp => ?_⟩
  clear hd
  obtain ⟨a, d, rfl, h, q⟩ := p1_open hp
  obtain ⟨ha, rfl⟩ := yes_some h
  refine ⟨false, ?_, RdQ.here q⟩
  simp [fT, fE, fA, bOr, bAnd, bNot, tb, tru, truD, dCall, lCall, gIsi, aCons, aNil, dVar, dC, dChain, gLe, gLt, gGe, gGt, gLen, gEq, gNe, eq2_str, eq2_int, eq2_bl, gIx, dBin, dTup, dIf, gAdd, gAddS, gAddT, gAll, gAny, gTuple, gList, gInt, startD, tyName, seqOf, lstOf, List.map_cons, List.map_nil, List.length_cons, List.length_nil, List.replicate, Option.bind_some, Option.map_some, Option.join_some, kit_NoneType_bool, kit_NoneType_int, kit_NoneType_str, kit_NoneType_tuple, kit_NoneType_list, kit_NoneType_dict, kit_bool_bool, kit_bool_int, kit_bool_str, kit_bool_tuple, kit_bool_list, kit_bool_dict, kit_int_bool, kit_int_int, kit_int_str, kit_int_tuple, kit_int_list, kit_int_dict, kit_str_bool, kit_str_int, kit_str_str, kit_str_tuple, kit_str_list, kit_str_dict, kit_tuple_bool, kit_tuple_int, kit_tuple_str, kit_tuple_tuple, kit_tuple_list, kit_tuple_dict, kit_list_bool, kit_list_int, kit_list_str, kit_list_tuple, kit_list_list, kit_list_dict, kit_dict_bool, kit_dict_int, kit_dict_str, kit_dict_tuple, kit_dict_list, kit_dict_dict, dFn1, dFn2, dFn3, atI0, atI1, atI2, atI3, vAnd, vOr, vNot, Option.bind_none, Option.map_none, if_true, if_false, Bool.not_true, Bool.not_false, decide_true, decide_false, Bool.false_eq_true, yes_true ha]
theorem has_is_fact (W : Wd K mg) (n : Nat) : Has P w K mg base (n + 3) "is_fact" 1 (pureSp (p1 fun a => yes (wfF n a) (.bl true))) := by
  have Sc := sc_is_fact
  refine has_ok W.d_is_fact Sc (fun _ _ _ _ _ _ us hl => match us, hl with | [_], _ => rfl) fun f cdv A outer s H E hr => ?_
  have hu := bare_units hr
  have hd : WSs (cxOf C8.CX0 P w K mg base ["value", "word"] "is_fact" (defScope (top 27)) f cdv A outer s H E).nox (defBody (top 27)) _ := (wss_cons (ws_if (ft_w (fw_or (ft_not (ft_val (fe_isi rfl W.f_isinstance (fe_v 0) (fe_ty (n := "tuple") rfl W.f_tuple (by decide +kernel))))) (fw_or (ft_not (ft_tru (fe_v 0))) (fw_or1 (ft_not (ft_val (fe_isi rfl W.f_isinstance (fe_ix (fe_v 0) (fe_int)) (fe_ty (n := "str") rfl W.f_str (by decide +kernel))))))))) (wss_one (ws_ret (fe_bl))) wss_nil)
      (wss_cons (ws_if (ft_eq hu (fe_ix (fe_v 0) (fe_int)) (fe_str)) (wss_one (ws_ret (fe_and (fe_eq hu (fe_len rfl W.f_len (fe_v 0)) (fe_int)) (fe_and (fe_call (has_is_word W) hr (by first | decide | omega) rfl (fa_cons (fe_ix (fe_v 0) (fe_int)) fa_nil)) (fe_one (fe_call (has_is_kind W n) hr (by first | decide | omega) rfl (fa_cons (fe_ix (fe_v 0) (fe_int)) fa_nil))))))) wss_nil)
      (wss_one (ws_ret (we_and (fe_eq hu (fe_ix (fe_v 0) (fe_int)) (fe_str)) (we_and (fe_eq hu (fe_len rfl W.f_len (fe_v 0)) (fe_int)) (we_one (we_all rfl W.f_all (wa_cons (wl_lcS (own := [("word", 1)]) rfl Sc.nd (blkOk_by (by rfl)) iok_tup (fi_tup (fe_sliceT (fe_v 0) (fo_some (fe_int)) fo_none)) (tgb_name (i := 1)) (fun _ _ _ _ _ => (pg_name (i := 1) Sc.nd rfl (Or.inl rfl))) (fun _ _ _ _ _ => ftn) (fun _ _ _ _ _ => (fe_call (has_is_word W) hr (by first | decide | omega) rfl (fa_cons (fe_v 1) fa_nil)))) wa_nil)))))))))
  refine ⟨_, hd, fun ds S Q hl hp => ?_⟩
  clear hd
  obtain ⟨a, d, rfl, h, q⟩ := p1_open hp
  obtain ⟨ha, rfl⟩ := yes_some h
  match a, ha with
  | .tup [.str t, x, y], ha =>
    have ha : (decide (t = "is") && wfW x && wfK n y) = true := ha
    simp only [Bool.and_eq_true, decide_eq_true_eq] at ha
    obtain ⟨⟨rfl, h1⟩, h2⟩ := ha
    refine ⟨false, (by first | rfl | simp [fT, fE, fA, bOr, bAnd, bNot, tb, tru, truD, dCall, lCall, gIsi, aCons, aNil, dVar, dC, dChain, gLe, gLt, gGe, gGt, gLen, gEq, gNe, eq2_str, eq2_int, eq2_bl, gIx, dBin, dTup, dIf, gAdd, gAddS, gAddT, gAll, gAny, gTuple, gList, gInt, startD, tyName, seqOf, lstOf, List.map_cons, List.map_nil, List.length_cons, List.length_nil, List.replicate, Option.bind_some, Option.map_some, Option.join_some, kit_NoneType_bool, kit_NoneType_int, kit_NoneType_str, kit_NoneType_tuple, kit_NoneType_list, kit_NoneType_dict, kit_bool_bool, kit_bool_int, kit_bool_str, kit_bool_tuple, kit_bool_list, kit_bool_dict, kit_int_bool, kit_int_int, kit_int_str, kit_int_tuple, kit_int_list, kit_int_dict, kit_str_bool, kit_str_int, kit_str_str, kit_str_tuple, kit_str_list, kit_str_dict, kit_tuple_bool, kit_tuple_int, kit_tuple_str, kit_tuple_tuple, kit_tuple_list, kit_tuple_dict, kit_list_bool, kit_list_int, kit_list_str, kit_list_tuple, kit_list_list, kit_list_dict, kit_dict_bool, kit_dict_int, kit_dict_str, kit_dict_tuple, kit_dict_list, kit_dict_dict, dFn1, dFn2, dFn3, atI0, atI1, atI2, atI3, vAnd, vOr, vNot, Option.bind_none, Option.map_none, if_true, if_false, Bool.not_true, Bool.not_false, decide_true, decide_false, Bool.false_eq_true]), true, (by first | rfl | simp [fT, fE, fA, bOr, bAnd, bNot, tb, tru, truD, dCall, lCall, gIsi, aCons, aNil, dVar, dC, dChain, gLe, gLt, gGe, gGt, gLen, gEq, gNe, eq2_str, eq2_int, eq2_bl, gIx, dBin, dTup, dIf, gAdd, gAddS, gAddT, gAll, gAny, gTuple, gList, gInt, startD, tyName, seqOf, lstOf, List.map_cons, List.map_nil, List.length_cons, List.length_nil, List.replicate, Option.bind_some, Option.map_some, Option.join_some, kit_NoneType_bool, kit_NoneType_int, kit_NoneType_str, kit_NoneType_tuple, kit_NoneType_list, kit_NoneType_dict, kit_bool_bool, kit_bool_int, kit_bool_str, kit_bool_tuple, kit_bool_list, kit_bool_dict, kit_int_bool, kit_int_int, kit_int_str, kit_int_tuple, kit_int_list, kit_int_dict, kit_str_bool, kit_str_int, kit_str_str, kit_str_tuple, kit_str_list, kit_str_dict, kit_tuple_bool, kit_tuple_int, kit_tuple_str, kit_tuple_tuple, kit_tuple_list, kit_tuple_dict, kit_list_bool, kit_list_int, kit_list_str, kit_list_tuple, kit_list_list, kit_list_dict, kit_dict_bool, kit_dict_int, kit_dict_str, kit_dict_tuple, kit_dict_list, kit_dict_dict, dFn1, dFn2, dFn3, atI0, atI1, atI2, atI3, vAnd, vOr, vNot, Option.bind_none, Option.map_none, if_true, if_false, Bool.not_true, Bool.not_false, decide_true, decide_false, Bool.false_eq_true]), .bl true, ?_, RdQ.here q⟩
    simp [fT, fE, fA, bOr, bAnd, bNot, tb, tru, truD, dCall, lCall, gIsi, aCons, aNil, dVar, dC, dChain, gLe, gLt, gGe, gGt, gLen, gEq, gNe, eq2_str, eq2_int, eq2_bl, gIx, dBin, dTup, dIf, gAdd, gAddS, gAddT, gAll, gAny, gTuple, gList, gInt, startD, tyName, seqOf, lstOf, List.map_cons, List.map_nil, List.length_cons, List.length_nil, List.replicate, Option.bind_some, Option.map_some, Option.join_some, kit_NoneType_bool, kit_NoneType_int, kit_NoneType_str, kit_NoneType_tuple, kit_NoneType_list, kit_NoneType_dict, kit_bool_bool, kit_bool_int, kit_bool_str, kit_bool_tuple, kit_bool_list, kit_bool_dict, kit_int_bool, kit_int_int, kit_int_str, kit_int_tuple, kit_int_list, kit_int_dict, kit_str_bool, kit_str_int, kit_str_str, kit_str_tuple, kit_str_list, kit_str_dict, kit_tuple_bool, kit_tuple_int, kit_tuple_str, kit_tuple_tuple, kit_tuple_list, kit_tuple_dict, kit_list_bool, kit_list_int, kit_list_str, kit_list_tuple, kit_list_list, kit_list_dict, kit_dict_bool, kit_dict_int, kit_dict_str, kit_dict_tuple, kit_dict_list, kit_dict_dict, dFn1, dFn2, dFn3, atI0, atI1, atI2, atI3, vAnd, vOr, vNot, Option.bind_none, Option.map_none, if_true, if_false, Bool.not_true, Bool.not_false, decide_true, decide_false, Bool.false_eq_true, yes_true h1, yes_true h2]
  | .tup [.str t, x, y, z], ha =>
    have ha : (decide (t = "to") && wfW x && wfW y && wfW z) = true := ha
    simp only [Bool.and_eq_true, decide_eq_true_eq] at ha
    obtain ⟨⟨⟨rfl, h1⟩, h2⟩, h3⟩ := ha
    refine ⟨false, (by first | rfl | simp [fT, fE, fA, bOr, bAnd, bNot, tb, tru, truD, dCall, lCall, gIsi, aCons, aNil, dVar, dC, dChain, gLe, gLt, gGe, gGt, gLen, gEq, gNe, eq2_str, eq2_int, eq2_bl, gIx, dBin, dTup, dIf, gAdd, gAddS, gAddT, gAll, gAny, gTuple, gList, gInt, startD, tyName, seqOf, lstOf, List.map_cons, List.map_nil, List.length_cons, List.length_nil, List.replicate, Option.bind_some, Option.map_some, Option.join_some, kit_NoneType_bool, kit_NoneType_int, kit_NoneType_str, kit_NoneType_tuple, kit_NoneType_list, kit_NoneType_dict, kit_bool_bool, kit_bool_int, kit_bool_str, kit_bool_tuple, kit_bool_list, kit_bool_dict, kit_int_bool, kit_int_int, kit_int_str, kit_int_tuple, kit_int_list, kit_int_dict, kit_str_bool, kit_str_int, kit_str_str, kit_str_tuple, kit_str_list, kit_str_dict, kit_tuple_bool, kit_tuple_int, kit_tuple_str, kit_tuple_tuple, kit_tuple_list, kit_tuple_dict, kit_list_bool, kit_list_int, kit_list_str, kit_list_tuple, kit_list_list, kit_list_dict, kit_dict_bool, kit_dict_int, kit_dict_str, kit_dict_tuple, kit_dict_list, kit_dict_dict, dFn1, dFn2, dFn3, atI0, atI1, atI2, atI3, vAnd, vOr, vNot, Option.bind_none, Option.map_none, if_true, if_false, Bool.not_true, Bool.not_false, decide_true, decide_false, Bool.false_eq_true]), false, (by first | rfl | simp [fT, fE, fA, bOr, bAnd, bNot, tb, tru, truD, dCall, lCall, gIsi, aCons, aNil, dVar, dC, dChain, gLe, gLt, gGe, gGt, gLen, gEq, gNe, eq2_str, eq2_int, eq2_bl, gIx, dBin, dTup, dIf, gAdd, gAddS, gAddT, gAll, gAny, gTuple, gList, gInt, startD, tyName, seqOf, lstOf, List.map_cons, List.map_nil, List.length_cons, List.length_nil, List.replicate, Option.bind_some, Option.map_some, Option.join_some, kit_NoneType_bool, kit_NoneType_int, kit_NoneType_str, kit_NoneType_tuple, kit_NoneType_list, kit_NoneType_dict, kit_bool_bool, kit_bool_int, kit_bool_str, kit_bool_tuple, kit_bool_list, kit_bool_dict, kit_int_bool, kit_int_int, kit_int_str, kit_int_tuple, kit_int_list, kit_int_dict, kit_str_bool, kit_str_int, kit_str_str, kit_str_tuple, kit_str_list, kit_str_dict, kit_tuple_bool, kit_tuple_int, kit_tuple_str, kit_tuple_tuple, kit_tuple_list, kit_tuple_dict, kit_list_bool, kit_list_int, kit_list_str, kit_list_tuple, kit_list_list, kit_list_dict, kit_dict_bool, kit_dict_int, kit_dict_str, kit_dict_tuple, kit_dict_list, kit_dict_dict, dFn1, dFn2, dFn3, atI0, atI1, atI2, atI3, vAnd, vOr, vNot, Option.bind_none, Option.map_none, if_true, if_false, Bool.not_true, Bool.not_false, decide_true, decide_false, Bool.false_eq_true]), .bl true, (by first | rfl | simp [fT, fE, fA, bOr, bAnd, bNot, tb, tru, truD, dCall, lCall, gIsi, aCons, aNil, dVar, dC, dChain, gLe, gLt, gGe, gGt, gLen, gEq, gNe, eq2_str, eq2_int, eq2_bl, gIx, dBin, dTup, dIf, gAdd, gAddS, gAddT, gAll, gAny, gTuple, gList, gInt, startD, tyName, seqOf, lstOf, List.map_cons, List.map_nil, List.length_cons, List.length_nil, List.replicate, Option.bind_some, Option.map_some, Option.join_some, kit_NoneType_bool, kit_NoneType_int, kit_NoneType_str, kit_NoneType_tuple, kit_NoneType_list, kit_NoneType_dict, kit_bool_bool, kit_bool_int, kit_bool_str, kit_bool_tuple, kit_bool_list, kit_bool_dict, kit_int_bool, kit_int_int, kit_int_str, kit_int_tuple, kit_int_list, kit_int_dict, kit_str_bool, kit_str_int, kit_str_str, kit_str_tuple, kit_str_list, kit_str_dict, kit_tuple_bool, kit_tuple_int, kit_tuple_str, kit_tuple_tuple, kit_tuple_list, kit_tuple_dict, kit_list_bool, kit_list_int, kit_list_str, kit_list_tuple, kit_list_list, kit_list_dict, kit_dict_bool, kit_dict_int, kit_dict_str, kit_dict_tuple, kit_dict_list, kit_dict_dict, dFn1, dFn2, dFn3, atI0, atI1, atI2, atI3, vAnd, vOr, vNot, Option.bind_none, Option.map_none, if_true, if_false, Bool.not_true, Bool.not_false, decide_true, decide_false, Bool.false_eq_true]), true, rfl, .bl true, (by first | rfl | simp [fT, fE, fA, bOr, bAnd, bNot, tb, tru, truD, dCall, lCall, gIsi, aCons, aNil, dVar, dC, dChain, gLe, gLt, gGe, gGt, gLen, gEq, gNe, eq2_str, eq2_int, eq2_bl, gIx, dBin, dTup, dIf, gAdd, gAddS, gAddT, gAll, gAny, gTuple, gList, gInt, startD, tyName, seqOf, lstOf, List.map_cons, List.map_nil, List.length_cons, List.length_nil, List.replicate, Option.bind_some, Option.map_some, Option.join_some, kit_NoneType_bool, kit_NoneType_int, kit_NoneType_str, kit_NoneType_tuple, kit_NoneType_list, kit_NoneType_dict, kit_bool_bool, kit_bool_int, kit_bool_str, kit_bool_tuple, kit_bool_list, kit_bool_dict, kit_int_bool, kit_int_int, kit_int_str, kit_int_tuple, kit_int_list, kit_int_dict, kit_str_bool, kit_str_int, kit_str_str, kit_str_tuple, kit_str_list, kit_str_dict, kit_tuple_bool, kit_tuple_int, kit_tuple_str, kit_tuple_tuple, kit_tuple_list, kit_tuple_dict, kit_list_bool, kit_list_int, kit_list_str, kit_list_tuple, kit_list_list, kit_list_dict, kit_dict_bool, kit_dict_int, kit_dict_str, kit_dict_tuple, kit_dict_list, kit_dict_dict, dFn1, dFn2, dFn3, atI0, atI1, atI2, atI3, vAnd, vOr, vNot, Option.bind_none, Option.map_none, if_true, if_false, Bool.not_true, Bool.not_false, decide_true, decide_false, Bool.false_eq_true]), true, rfl, ?_⟩
    refine all_go (f := fun _ => true) (items := [x, y, z]) (k := none) (by first | rfl | simp [fT, fE, fA, bOr, bAnd, bNot, tb, tru, truD, dCall, lCall, gIsi, aCons, aNil, dVar, dC, dChain, gLe, gLt, gGe, gGt, gLen, gEq, gNe, eq2_str, eq2_int, eq2_bl, gIx, dBin, dTup, dIf, gAdd, gAddS, gAddT, gAll, gAny, gTuple, gList, gInt, startD, tyName, seqOf, lstOf, List.map_cons, List.map_nil, List.length_cons, List.length_nil, List.replicate, Option.bind_some, Option.map_some, Option.join_some, kit_NoneType_bool, kit_NoneType_int, kit_NoneType_str, kit_NoneType_tuple, kit_NoneType_list, kit_NoneType_dict, kit_bool_bool, kit_bool_int, kit_bool_str, kit_bool_tuple, kit_bool_list, kit_bool_dict, kit_int_bool, kit_int_int, kit_int_str, kit_int_tuple, kit_int_list, kit_int_dict, kit_str_bool, kit_str_int, kit_str_str, kit_str_tuple, kit_str_list, kit_str_dict, kit_tuple_bool, kit_tuple_int, kit_tuple_str, kit_tuple_tuple, kit_tuple_list, kit_tuple_dict, kit_list_bool, kit_list_int, kit_list_str, kit_list_tuple, kit_list_list, kit_list_dict, kit_dict_bool, kit_dict_int, kit_dict_str, kit_dict_tuple, kit_dict_list, kit_dict_dict, dFn1, dFn2, dFn3, atI0, atI1, atI2, atI3, vAnd, vOr, vNot, Option.bind_none, Option.map_none, if_true, if_false, Bool.not_true, Bool.not_false, decide_true, decide_false, Bool.false_eq_true]) (by simp) (fun d hd S' _ => ⟨_, rfl, ?_⟩) (RdQ.here q)
    have hd2 : wfW d = true := by
      simp only [List.mem_cons, List.not_mem_nil, or_false] at hd
      rcases hd with rfl | rfl | rfl <;> assumption
    simp [fT, fE, fA, bOr, bAnd, bNot, tb, tru, truD, dCall, lCall, gIsi, aCons, aNil, dVar, dC, dChain, gLe, gLt, gGe, gGt, gLen, gEq, gNe, eq2_str, eq2_int, eq2_bl, gIx, dBin, dTup, dIf, gAdd, gAddS, gAddT, gAll, gAny, gTuple, gList, gInt, startD, tyName, seqOf, lstOf, List.map_cons, List.map_nil, List.length_cons, List.length_nil, List.replicate, Option.bind_some, Option.map_some, Option.join_some, kit_NoneType_bool, kit_NoneType_int, kit_NoneType_str, kit_NoneType_tuple, kit_NoneType_list, kit_NoneType_dict, kit_bool_bool, kit_bool_int, kit_bool_str, kit_bool_tuple, kit_bool_list, kit_bool_dict, kit_int_bool, kit_int_int, kit_int_str, kit_int_tuple, kit_int_list, kit_int_dict, kit_str_bool, kit_str_int, kit_str_str, kit_str_tuple, kit_str_list, kit_str_dict, kit_tuple_bool, kit_tuple_int, kit_tuple_str, kit_tuple_tuple, kit_tuple_list, kit_tuple_dict, kit_list_bool, kit_list_int, kit_list_str, kit_list_tuple, kit_list_list, kit_list_dict, kit_dict_bool, kit_dict_int, kit_dict_str, kit_dict_tuple, kit_dict_list, kit_dict_dict, dFn1, dFn2, dFn3, atI0, atI1, atI2, atI3, vAnd, vOr, vNot, Option.bind_none, Option.map_none, if_true, if_false, Bool.not_true, Bool.not_false, decide_true, decide_false, Bool.false_eq_true, wipeD, yes_true hd2]
theorem has_is_facts (W : Wd K mg) (n : Nat) : Has P w K mg base (n + 4) "is_facts" 1 (pureSp (p1 fun a => yes (wfFs n a) (.bl true))) := by
  have Sc := sc_is_facts
  refine has_ok W.d_is_facts Sc (fun _ _ _ _ _ _ us hl => match us, hl with | [_], _ => rfl) fun f cdv A outer s H E hr => ?_
  have hu := bare_units hr
  have hd : WSs (cxOf C8.CX0 P w K mg base ["value", "fact"] "is_facts" (defScope (top 28)) f cdv A outer s H E).nox (defBody (top 28)) _ := (wss_one (ws_ret (we_and (fe_isi rfl W.f_isinstance (fe_v 0) (fe_ty (n := "tuple") rfl W.f_tuple (by decide +kernel))) (we_one (we_all rfl W.f_all (wa_cons (wl_lcS (own := [("fact", 1)]) rfl Sc.nd (blkOk_by (by rfl)) iok_tup (fi_tup (fe_v 0)) (tgb_name (i := 1)) (fun _ _ _ _ _ => (pg_name (i := 1) Sc.nd rfl (Or.inl rfl))) (fun _ _ _ _ _ => ftn) (fun _ _ _ _ _ => (fe_call (has_is_fact W n) hr (by first | decide | omega) rfl (fa_cons (fe_v 1) fa_nil)))) wa_nil))))))
  refine ⟨_, hd, fun ds S Q hl hp => ?_⟩
  clear hd
  obtain ⟨a, d, rfl, h, q⟩ := p1_open hp
  obtain ⟨ha, rfl⟩ := yes_some h
  cases a with
  | tup ss =>
    have ha : (decide (ss.length ≤ 1000000) && ss.all (wfF n)) = true := ha
    simp only [Bool.and_eq_true, decide_eq_true_eq, List.all_eq_true] at ha
    refine ⟨.bl true, (by first | rfl | simp [fT, fE, fA, bOr, bAnd, bNot, tb, tru, truD, dCall, lCall, gIsi, aCons, aNil, dVar, dC, dChain, gLe, gLt, gGe, gGt, gLen, gEq, gNe, eq2_str, eq2_int, eq2_bl, gIx, dBin, dTup, dIf, gAdd, gAddS, gAddT, gAll, gAny, gTuple, gList, gInt, startD, tyName, seqOf, lstOf, List.map_cons, List.map_nil, List.length_cons, List.length_nil, List.replicate, Option.bind_some, Option.map_some, Option.join_some, kit_NoneType_bool, kit_NoneType_int, kit_NoneType_str, kit_NoneType_tuple, kit_NoneType_list, kit_NoneType_dict, kit_bool_bool, kit_bool_int, kit_bool_str, kit_bool_tuple, kit_bool_list, kit_bool_dict, kit_int_bool, kit_int_int, kit_int_str, kit_int_tuple, kit_int_list, kit_int_dict, kit_str_bool, kit_str_int, kit_str_str, kit_str_tuple, kit_str_list, kit_str_dict, kit_tuple_bool, kit_tuple_int, kit_tuple_str, kit_tuple_tuple, kit_tuple_list, kit_tuple_dict, kit_list_bool, kit_list_int, kit_list_str, kit_list_tuple, kit_list_list, kit_list_dict, kit_dict_bool, kit_dict_int, kit_dict_str, kit_dict_tuple, kit_dict_list, kit_dict_dict, dFn1, dFn2, dFn3, atI0, atI1, atI2, atI3, vAnd, vOr, vNot, Option.bind_none, Option.map_none, if_true, if_false, Bool.not_true, Bool.not_false, decide_true, decide_false, Bool.false_eq_true]), true, rfl, ?_⟩
    refine all_go (f := fun _ => true) (items := ss) (k := none) rfl ha.1 (fun d hd S' _ => ⟨_, rfl, ?_⟩) ?_
    · simp [fT, fE, fA, bOr, bAnd, bNot, tb, tru, truD, dCall, lCall, gIsi, aCons, aNil, dVar, dC, dChain, gLe, gLt, gGe, gGt, gLen, gEq, gNe, eq2_str, eq2_int, eq2_bl, gIx, dBin, dTup, dIf, gAdd, gAddS, gAddT, gAll, gAny, gTuple, gList, gInt, startD, tyName, seqOf, lstOf, List.map_cons, List.map_nil, List.length_cons, List.length_nil, List.replicate, Option.bind_some, Option.map_some, Option.join_some, kit_NoneType_bool, kit_NoneType_int, kit_NoneType_str, kit_NoneType_tuple, kit_NoneType_list, kit_NoneType_dict, kit_bool_bool, kit_bool_int, kit_bool_str, kit_bool_tuple, kit_bool_list, kit_bool_dict, kit_int_bool, kit_int_int, kit_int_str, kit_int_tuple, kit_int_list, kit_int_dict, kit_str_bool, kit_str_int, kit_str_str, kit_str_tuple, kit_str_list, kit_str_dict, kit_tuple_bool, kit_tuple_int, kit_tuple_str, kit_tuple_tuple, kit_tuple_list, kit_tuple_dict, kit_list_bool, kit_list_int, kit_list_str, kit_list_tuple, kit_list_list, kit_list_dict, kit_dict_bool, kit_dict_int, kit_dict_str, kit_dict_tuple, kit_dict_list, kit_dict_dict, dFn1, dFn2, dFn3, atI0, atI1, atI2, atI3, vAnd, vOr, vNot, Option.bind_none, Option.map_none, if_true, if_false, Bool.not_true, Bool.not_false, decide_true, decide_false, Bool.false_eq_true, wipeD, yes_true (ha.2 d hd)]
    · refine RdQ.here ?_
      rw [show ss.all (fun _ => true) = true by simp]
      exact q
  | _ => cases ha
/-- a claim that is a saying -/
theorem has_is_claim (W : Wd K mg) (n : Nat) : Has P w K mg base (n + 4) "is_claim" 1 (pureSp (p1 fun a => yes (wfS n a) (.bl true))) := by
  have Sc := sc_is_claim
  refine has_ok W.d_is_claim Sc (fun _ _ _ _ _ _ us hl => match us, hl with | [_], _ => rfl) fun f cdv A outer s H E hr => ?_
  have hu := bare_units hr
  have hd : WSs (cxOf C8.CX0 P w K mg base ["value"] "is_claim" (defScope (top 29)) f cdv A outer s H E).nox (defBody (top 29)) _ := (wss_one (ws_ret (fe_or (fe_call (has_is_saying W n) hr (by first | decide | omega) rfl (fa_cons (fe_v 0) fa_nil)) (fe_one (fe_call (has_is_fact W n) hr (by first | decide | omega) rfl (fa_cons (fe_v 0) fa_nil))))))
  refine ⟨_, hd, fun ds S Q hl hp => ?_⟩
  clear hd
  obtain ⟨a, d, rfl, h, q⟩ := p1_open hp
  obtain ⟨ha, rfl⟩ := yes_some h
  refine ⟨.bl true, ?_, RdQ.here q⟩
  simp [fT, fE, fA, bOr, bAnd, bNot, tb, tru, truD, dCall, lCall, gIsi, aCons, aNil, dVar, dC, dChain, gLe, gLt, gGe, gGt, gLen, gEq, gNe, eq2_str, eq2_int, eq2_bl, gIx, dBin, dTup, dIf, gAdd, gAddS, gAddT, gAll, gAny, gTuple, gList, gInt, startD, tyName, seqOf, lstOf, List.map_cons, List.map_nil, List.length_cons, List.length_nil, List.replicate, Option.bind_some, Option.map_some, Option.join_some, kit_NoneType_bool, kit_NoneType_int, kit_NoneType_str, kit_NoneType_tuple, kit_NoneType_list, kit_NoneType_dict, kit_bool_bool, kit_bool_int, kit_bool_str, kit_bool_tuple, kit_bool_list, kit_bool_dict, kit_int_bool, kit_int_int, kit_int_str, kit_int_tuple, kit_int_list, kit_int_dict, kit_str_bool, kit_str_int, kit_str_str, kit_str_tuple, kit_str_list, kit_str_dict, kit_tuple_bool, kit_tuple_int, kit_tuple_str, kit_tuple_tuple, kit_tuple_list, kit_tuple_dict, kit_list_bool, kit_list_int, kit_list_str, kit_list_tuple, kit_list_list, kit_list_dict, kit_dict_bool, kit_dict_int, kit_dict_str, kit_dict_tuple, kit_dict_list, kit_dict_dict, dFn1, dFn2, dFn3, atI0, atI1, atI2, atI3, vAnd, vOr, vNot, Option.bind_none, Option.map_none, if_true, if_false, Bool.not_true, Bool.not_false, decide_true, decide_false, Bool.false_eq_true, yes_true ha]
theorem has_check_facts (W : Wd K mg) (n : Nat) : Has P w K mg base (n + 5) "check_facts" 1 (pureSp (p1 fun a => yes (wfFs n a) .non)) := by
  have Sc := sc_check_facts
  refine has_ok W.d_check_facts Sc (fun _ _ _ _ _ _ us hl => match us, hl with | [_], _ => rfl) fun f cdv A outer s H E hr => ?_
  have hu := bare_units hr
  have hd : WSs (cxOf C8.CX0 P w K mg base ["facts"] "check_facts" (defScope (top 30)) f cdv A outer s H E).nox (defBody (top 30)) _ := (wss_one (ws_if (ft_not (ft_val (fe_call (has_is_facts W n) hr (by first | decide | omega) rfl (fa_cons (fe_v 0) fa_nil)))) wss_never wss_nil))
  refine ⟨_, hd, fun ds S Q hl hp => ?_⟩
  clear hd
  obtain ⟨a, d, rfl, h, q⟩ := p1_open hp
  obtain ⟨ha, rfl⟩ := yes_some h
  refine ⟨false, ?_, RdQ.here q⟩
  simp [fT, fE, fA, bOr, bAnd, bNot, tb, tru, truD, dCall, lCall, gIsi, aCons, aNil, dVar, dC, dChain, gLe, gLt, gGe, gGt, gLen, gEq, gNe, eq2_str, eq2_int, eq2_bl, gIx, dBin, dTup, dIf, gAdd, gAddS, gAddT, gAll, gAny, gTuple, gList, gInt, startD, tyName, seqOf, lstOf, List.map_cons, List.map_nil, List.length_cons, List.length_nil, List.replicate, Option.bind_some, Option.map_some, Option.join_some, kit_NoneType_bool, kit_NoneType_int, kit_NoneType_str, kit_NoneType_tuple, kit_NoneType_list, kit_NoneType_dict, kit_bool_bool, kit_bool_int, kit_bool_str, kit_bool_tuple, kit_bool_list, kit_bool_dict, kit_int_bool, kit_int_int, kit_int_str, kit_int_tuple, kit_int_list, kit_int_dict, kit_str_bool, kit_str_int, kit_str_str, kit_str_tuple, kit_str_list, kit_str_dict, kit_tuple_bool, kit_tuple_int, kit_tuple_str, kit_tuple_tuple, kit_tuple_list, kit_tuple_dict, kit_list_bool, kit_list_int, kit_list_str, kit_list_tuple, kit_list_list, kit_list_dict, kit_dict_bool, kit_dict_int, kit_dict_str, kit_dict_tuple, kit_dict_list, kit_dict_dict, dFn1, dFn2, dFn3, atI0, atI1, atI2, atI3, vAnd, vOr, vNot, Option.bind_none, Option.map_none, if_true, if_false, Bool.not_true, Bool.not_false, decide_true, decide_false, Bool.false_eq_true, yes_true ha]
theorem has_check_claim (W : Wd K mg) (n : Nat) : Has P w K mg base (n + 5) "check_claim" 1 (pureSp (p1 fun a => yes (wfS n a) .non)) := by
  have Sc := sc_check_claim
  refine has_ok W.d_check_claim Sc (fun _ _ _ _ _ _ us hl => match us, hl with | [_], _ => rfl) fun f cdv A outer s H E hr => ?_
  have hu := bare_units hr
  have hd : WSs (cxOf C8.CX0 P w K mg base ["claim"] "check_claim" (defScope (top 31)) f cdv A outer s H E).nox (defBody (top 31)) _ := (wss_one (ws_if (ft_not (ft_val (fe_call (has_is_claim W n) hr (by first | decide | omega) rfl (fa_cons (fe_v 0) fa_nil)))) wss_never wss_nil))
  refine ⟨_, hd, fun ds S Q hl hp => ?_⟩
  clear hd
  obtain ⟨a, d, rfl, h, q⟩ := p1_open hp
  obtain ⟨ha, rfl⟩ := yes_some h
  refine ⟨false, ?_, RdQ.here q⟩
  simp [fT, fE, fA, bOr, bAnd, bNot, tb, tru, truD, dCall, lCall, gIsi, aCons, aNil, dVar, dC, dChain, gLe, gLt, gGe, gGt, gLen, gEq, gNe, eq2_str, eq2_int, eq2_bl, gIx, dBin, dTup, dIf, gAdd, gAddS, gAddT, gAll, gAny, gTuple, gList, gInt, startD, tyName, seqOf, lstOf, List.map_cons, List.map_nil, List.length_cons, List.length_nil, List.replicate, Option.bind_some, Option.map_some, Option.join_some, kit_NoneType_bool, kit_NoneType_int, kit_NoneType_str, kit_NoneType_tuple, kit_NoneType_list, kit_NoneType_dict, kit_bool_bool, kit_bool_int, kit_bool_str, kit_bool_tuple, kit_bool_list, kit_bool_dict, kit_int_bool, kit_int_int, kit_int_str, kit_int_tuple, kit_int_list, kit_int_dict, kit_str_bool, kit_str_int, kit_str_str, kit_str_tuple, kit_str_list, kit_str_dict, kit_tuple_bool, kit_tuple_int, kit_tuple_str, kit_tuple_tuple, kit_tuple_list, kit_tuple_dict, kit_list_bool, kit_list_int, kit_list_str, kit_list_tuple, kit_list_list, kit_list_dict, kit_dict_bool, kit_dict_int, kit_dict_str, kit_dict_tuple, kit_dict_list, kit_dict_dict, dFn1, dFn2, dFn3, atI0, atI1, atI2, atI3, vAnd, vOr, vNot, Option.bind_none, Option.map_none, if_true, if_false, Bool.not_true, Bool.not_false, decide_true, decide_false, Bool.false_eq_true, yes_true ha]
theorem has_persons_of_claim (W : Wd K mg) : Has P w K mg base 1 "persons_of_claim" 1 (pureSp (p1 fun a => if wfF 9 a = true ∨ wfS 9 a = true then some (.tup (pocD a)) else none)) := by
  have Sc := sc_persons_of_claim
  refine has_ok W.d_persons_of_claim Sc (fun _ _ _ _ _ _ us hl => match us, hl with | [_], _ => rfl) fun f cdv A outer s H E hr => ?_
  have hu := bare_units hr
  have hd : WSs (cxOf C8.CX0 P w K mg base ["claim"] "persons_of_claim" (defScope (top 32)) f cdv A outer s H E).nox (defBody (top 32)) _ := (wss_cons (ws_if (ft_eq hu (fe_ix (fe_v 0) (fe_int)) (fe_str)) (wss_one (ws_ret (fe_tup (fa_cons (fe_ix (fe_v 0) (fe_int)) fa_nil)))) wss_nil)
      (wss_cons (ws_if (ft_eq hu (fe_ix (fe_v 0) (fe_int)) (fe_str)) (wss_one (ws_ret (fe_tup (fa_cons (fe_ix (fe_v 0) (fe_int)) (fa_cons (fe_ix (fe_v 0) (fe_int)) fa_nil))))) wss_nil)
      (wss_one (ws_ret (fe_tup fa_nil)))))
  refine ⟨_, hd, fun ds S Q hl hp => ?_⟩
  clear hd
  obtain ⟨a, d, rfl, h, q⟩ := p1_open hp
  obtain ⟨ha, rfl⟩ := if_some h
  match a, ha with
  | .tup [.str t, x, y], ha =>
    by_cases h1 : t = "is"
    · subst h1
      exact ⟨true, (by first | rfl | simp [fT, fE, fA, bOr, bAnd, bNot, tb, tru, truD, dCall, lCall, gIsi, aCons, aNil, dVar, dC, dChain, gLe, gLt, gGe, gGt, gLen, gEq, gNe, eq2_str, eq2_int, eq2_bl, gIx, dBin, dTup, dIf, gAdd, gAddS, gAddT, gAll, gAny, gTuple, gList, gInt, startD, tyName, seqOf, lstOf, List.map_cons, List.map_nil, List.length_cons, List.length_nil, List.replicate, Option.bind_some, Option.map_some, Option.join_some, kit_NoneType_bool, kit_NoneType_int, kit_NoneType_str, kit_NoneType_tuple, kit_NoneType_list, kit_NoneType_dict, kit_bool_bool, kit_bool_int, kit_bool_str, kit_bool_tuple, kit_bool_list, kit_bool_dict, kit_int_bool, kit_int_int, kit_int_str, kit_int_tuple, kit_int_list, kit_int_dict, kit_str_bool, kit_str_int, kit_str_str, kit_str_tuple, kit_str_list, kit_str_dict, kit_tuple_bool, kit_tuple_int, kit_tuple_str, kit_tuple_tuple, kit_tuple_list, kit_tuple_dict, kit_list_bool, kit_list_int, kit_list_str, kit_list_tuple, kit_list_list, kit_list_dict, kit_dict_bool, kit_dict_int, kit_dict_str, kit_dict_tuple, kit_dict_list, kit_dict_dict, dFn1, dFn2, dFn3, atI0, atI1, atI2, atI3, vAnd, vOr, vNot, Option.bind_none, Option.map_none, if_true, if_false, Bool.not_true, Bool.not_false, decide_true, decide_false, Bool.false_eq_true]), .tup [x], (by first | rfl | simp [fT, fE, fA, bOr, bAnd, bNot, tb, tru, truD, dCall, lCall, gIsi, aCons, aNil, dVar, dC, dChain, gLe, gLt, gGe, gGt, gLen, gEq, gNe, eq2_str, eq2_int, eq2_bl, gIx, dBin, dTup, dIf, gAdd, gAddS, gAddT, gAll, gAny, gTuple, gList, gInt, startD, tyName, seqOf, lstOf, List.map_cons, List.map_nil, List.length_cons, List.length_nil, List.replicate, Option.bind_some, Option.map_some, Option.join_some, kit_NoneType_bool, kit_NoneType_int, kit_NoneType_str, kit_NoneType_tuple, kit_NoneType_list, kit_NoneType_dict, kit_bool_bool, kit_bool_int, kit_bool_str, kit_bool_tuple, kit_bool_list, kit_bool_dict, kit_int_bool, kit_int_int, kit_int_str, kit_int_tuple, kit_int_list, kit_int_dict, kit_str_bool, kit_str_int, kit_str_str, kit_str_tuple, kit_str_list, kit_str_dict, kit_tuple_bool, kit_tuple_int, kit_tuple_str, kit_tuple_tuple, kit_tuple_list, kit_tuple_dict, kit_list_bool, kit_list_int, kit_list_str, kit_list_tuple, kit_list_list, kit_list_dict, kit_dict_bool, kit_dict_int, kit_dict_str, kit_dict_tuple, kit_dict_list, kit_dict_dict, dFn1, dFn2, dFn3, atI0, atI1, atI2, atI3, vAnd, vOr, vNot, Option.bind_none, Option.map_none, if_true, if_false, Bool.not_true, Bool.not_false, decide_true, decide_false, Bool.false_eq_true]), RdQ.here q⟩
    · have h2 : t ≠ "to" := by
        rintro rfl
        rcases ha with h | h
        · have h : (decide ((Str.ofString "to") = "is") && wfW x && wfK 9 y) = true := h
          simp only [Bool.and_eq_true, decide_eq_true_eq] at h
          exact h1 h.1.1
        · have h : ((decide ((Str.ofString "to") = "below") && wfK 9 x && wfK 9 y) || (decide ((Str.ofString "to") = "role") && wfW x && wfW y)) = true := h
          revert h
          simp [show ¬ (Str.ofString "to") = "below" by decide, show ¬ (Str.ofString "to") = "role" by decide]
      have e : pocD (.tup [.str t, x, y]) = [] := if_neg h1
      rw [e] at q
      exact ⟨false, by simp [fT, fE, fA, bOr, bAnd, bNot, tb, tru, truD, dCall, lCall, gIsi, aCons, aNil, dVar, dC, dChain, gLe, gLt, gGe, gGt, gLen, gEq, gNe, eq2_str, eq2_int, eq2_bl, gIx, dBin, dTup, dIf, gAdd, gAddS, gAddT, gAll, gAny, gTuple, gList, gInt, startD, tyName, seqOf, lstOf, List.map_cons, List.map_nil, List.length_cons, List.length_nil, List.replicate, Option.bind_some, Option.map_some, Option.join_some, kit_NoneType_bool, kit_NoneType_int, kit_NoneType_str, kit_NoneType_tuple, kit_NoneType_list, kit_NoneType_dict, kit_bool_bool, kit_bool_int, kit_bool_str, kit_bool_tuple, kit_bool_list, kit_bool_dict, kit_int_bool, kit_int_int, kit_int_str, kit_int_tuple, kit_int_list, kit_int_dict, kit_str_bool, kit_str_int, kit_str_str, kit_str_tuple, kit_str_list, kit_str_dict, kit_tuple_bool, kit_tuple_int, kit_tuple_str, kit_tuple_tuple, kit_tuple_list, kit_tuple_dict, kit_list_bool, kit_list_int, kit_list_str, kit_list_tuple, kit_list_list, kit_list_dict, kit_dict_bool, kit_dict_int, kit_dict_str, kit_dict_tuple, kit_dict_list, kit_dict_dict, dFn1, dFn2, dFn3, atI0, atI1, atI2, atI3, vAnd, vOr, vNot, Option.bind_none, Option.map_none, if_true, if_false, Bool.not_true, Bool.not_false, decide_true, decide_false, Bool.false_eq_true, h1], false, by simp [fT, fE, fA, bOr, bAnd, bNot, tb, tru, truD, dCall, lCall, gIsi, aCons, aNil, dVar, dC, dChain, gLe, gLt, gGe, gGt, gLen, gEq, gNe, eq2_str, eq2_int, eq2_bl, gIx, dBin, dTup, dIf, gAdd, gAddS, gAddT, gAll, gAny, gTuple, gList, gInt, startD, tyName, seqOf, lstOf, List.map_cons, List.map_nil, List.length_cons, List.length_nil, List.replicate, Option.bind_some, Option.map_some, Option.join_some, kit_NoneType_bool, kit_NoneType_int, kit_NoneType_str, kit_NoneType_tuple, kit_NoneType_list, kit_NoneType_dict, kit_bool_bool, kit_bool_int, kit_bool_str, kit_bool_tuple, kit_bool_list, kit_bool_dict, kit_int_bool, kit_int_int, kit_int_str, kit_int_tuple, kit_int_list, kit_int_dict, kit_str_bool, kit_str_int, kit_str_str, kit_str_tuple, kit_str_list, kit_str_dict, kit_tuple_bool, kit_tuple_int, kit_tuple_str, kit_tuple_tuple, kit_tuple_list, kit_tuple_dict, kit_list_bool, kit_list_int, kit_list_str, kit_list_tuple, kit_list_list, kit_list_dict, kit_dict_bool, kit_dict_int, kit_dict_str, kit_dict_tuple, kit_dict_list, kit_dict_dict, dFn1, dFn2, dFn3, atI0, atI1, atI2, atI3, vAnd, vOr, vNot, Option.bind_none, Option.map_none, if_true, if_false, Bool.not_true, Bool.not_false, decide_true, decide_false, Bool.false_eq_true, h2], .tup [], (by first | rfl | simp [fT, fE, fA, bOr, bAnd, bNot, tb, tru, truD, dCall, lCall, gIsi, aCons, aNil, dVar, dC, dChain, gLe, gLt, gGe, gGt, gLen, gEq, gNe, eq2_str, eq2_int, eq2_bl, gIx, dBin, dTup, dIf, gAdd, gAddS, gAddT, gAll, gAny, gTuple, gList, gInt, startD, tyName, seqOf, lstOf, List.map_cons, List.map_nil, List.length_cons, List.length_nil, List.replicate, Option.bind_some, Option.map_some, Option.join_some, kit_NoneType_bool, kit_NoneType_int, kit_NoneType_str, kit_NoneType_tuple, kit_NoneType_list, kit_NoneType_dict, kit_bool_bool, kit_bool_int, kit_bool_str, kit_bool_tuple, kit_bool_list, kit_bool_dict, kit_int_bool, kit_int_int, kit_int_str, kit_int_tuple, kit_int_list, kit_int_dict, kit_str_bool, kit_str_int, kit_str_str, kit_str_tuple, kit_str_list, kit_str_dict, kit_tuple_bool, kit_tuple_int, kit_tuple_str, kit_tuple_tuple, kit_tuple_list, kit_tuple_dict, kit_list_bool, kit_list_int, kit_list_str, kit_list_tuple, kit_list_list, kit_list_dict, kit_dict_bool, kit_dict_int, kit_dict_str, kit_dict_tuple, kit_dict_list, kit_dict_dict, dFn1, dFn2, dFn3, atI0, atI1, atI2, atI3, vAnd, vOr, vNot, Option.bind_none, Option.map_none, if_true, if_false, Bool.not_true, Bool.not_false, decide_true, decide_false, Bool.false_eq_true]), RdQ.here q⟩
  | .tup [.str t, x, y, z], ha =>
    have h0 : t ≠ "is" := by
      rintro rfl
      rcases ha with h | h
      · have h : (decide ((Str.ofString "is") = "to") && wfW x && wfW y && wfW z) = true := h
        revert h
        simp [show ¬ (Str.ofString "is") = "to" by decide]
      · have h : (decide ((Str.ofString "is") = "chain") && wfW x && wfW y && wfW z) = true := h
        revert h
        simp [show ¬ (Str.ofString "is") = "chain" by decide]
    by_cases h1 : t = "to"
    · subst h1
      exact ⟨false, by simp [fT, fE, fA, bOr, bAnd, bNot, tb, tru, truD, dCall, lCall, gIsi, aCons, aNil, dVar, dC, dChain, gLe, gLt, gGe, gGt, gLen, gEq, gNe, eq2_str, eq2_int, eq2_bl, gIx, dBin, dTup, dIf, gAdd, gAddS, gAddT, gAll, gAny, gTuple, gList, gInt, startD, tyName, seqOf, lstOf, List.map_cons, List.map_nil, List.length_cons, List.length_nil, List.replicate, Option.bind_some, Option.map_some, Option.join_some, kit_NoneType_bool, kit_NoneType_int, kit_NoneType_str, kit_NoneType_tuple, kit_NoneType_list, kit_NoneType_dict, kit_bool_bool, kit_bool_int, kit_bool_str, kit_bool_tuple, kit_bool_list, kit_bool_dict, kit_int_bool, kit_int_int, kit_int_str, kit_int_tuple, kit_int_list, kit_int_dict, kit_str_bool, kit_str_int, kit_str_str, kit_str_tuple, kit_str_list, kit_str_dict, kit_tuple_bool, kit_tuple_int, kit_tuple_str, kit_tuple_tuple, kit_tuple_list, kit_tuple_dict, kit_list_bool, kit_list_int, kit_list_str, kit_list_tuple, kit_list_list, kit_list_dict, kit_dict_bool, kit_dict_int, kit_dict_str, kit_dict_tuple, kit_dict_list, kit_dict_dict, dFn1, dFn2, dFn3, atI0, atI1, atI2, atI3, vAnd, vOr, vNot, Option.bind_none, Option.map_none, if_true, if_false, Bool.not_true, Bool.not_false, decide_true, decide_false, Bool.false_eq_true, h0], true, (by first | rfl | simp [fT, fE, fA, bOr, bAnd, bNot, tb, tru, truD, dCall, lCall, gIsi, aCons, aNil, dVar, dC, dChain, gLe, gLt, gGe, gGt, gLen, gEq, gNe, eq2_str, eq2_int, eq2_bl, gIx, dBin, dTup, dIf, gAdd, gAddS, gAddT, gAll, gAny, gTuple, gList, gInt, startD, tyName, seqOf, lstOf, List.map_cons, List.map_nil, List.length_cons, List.length_nil, List.replicate, Option.bind_some, Option.map_some, Option.join_some, kit_NoneType_bool, kit_NoneType_int, kit_NoneType_str, kit_NoneType_tuple, kit_NoneType_list, kit_NoneType_dict, kit_bool_bool, kit_bool_int, kit_bool_str, kit_bool_tuple, kit_bool_list, kit_bool_dict, kit_int_bool, kit_int_int, kit_int_str, kit_int_tuple, kit_int_list, kit_int_dict, kit_str_bool, kit_str_int, kit_str_str, kit_str_tuple, kit_str_list, kit_str_dict, kit_tuple_bool, kit_tuple_int, kit_tuple_str, kit_tuple_tuple, kit_tuple_list, kit_tuple_dict, kit_list_bool, kit_list_int, kit_list_str, kit_list_tuple, kit_list_list, kit_list_dict, kit_dict_bool, kit_dict_int, kit_dict_str, kit_dict_tuple, kit_dict_list, kit_dict_dict, dFn1, dFn2, dFn3, atI0, atI1, atI2, atI3, vAnd, vOr, vNot, Option.bind_none, Option.map_none, if_true, if_false, Bool.not_true, Bool.not_false, decide_true, decide_false, Bool.false_eq_true]), .tup [x, z], (by first | rfl | simp [fT, fE, fA, bOr, bAnd, bNot, tb, tru, truD, dCall, lCall, gIsi, aCons, aNil, dVar, dC, dChain, gLe, gLt, gGe, gGt, gLen, gEq, gNe, eq2_str, eq2_int, eq2_bl, gIx, dBin, dTup, dIf, gAdd, gAddS, gAddT, gAll, gAny, gTuple, gList, gInt, startD, tyName, seqOf, lstOf, List.map_cons, List.map_nil, List.length_cons, List.length_nil, List.replicate, Option.bind_some, Option.map_some, Option.join_some, kit_NoneType_bool, kit_NoneType_int, kit_NoneType_str, kit_NoneType_tuple, kit_NoneType_list, kit_NoneType_dict, kit_bool_bool, kit_bool_int, kit_bool_str, kit_bool_tuple, kit_bool_list, kit_bool_dict, kit_int_bool, kit_int_int, kit_int_str, kit_int_tuple, kit_int_list, kit_int_dict, kit_str_bool, kit_str_int, kit_str_str, kit_str_tuple, kit_str_list, kit_str_dict, kit_tuple_bool, kit_tuple_int, kit_tuple_str, kit_tuple_tuple, kit_tuple_list, kit_tuple_dict, kit_list_bool, kit_list_int, kit_list_str, kit_list_tuple, kit_list_list, kit_list_dict, kit_dict_bool, kit_dict_int, kit_dict_str, kit_dict_tuple, kit_dict_list, kit_dict_dict, dFn1, dFn2, dFn3, atI0, atI1, atI2, atI3, vAnd, vOr, vNot, Option.bind_none, Option.map_none, if_true, if_false, Bool.not_true, Bool.not_false, decide_true, decide_false, Bool.false_eq_true]), RdQ.here q⟩
    · have e : pocD (.tup [.str t, x, y, z]) = [] := if_neg h1
      rw [e] at q
      exact ⟨false, by simp [fT, fE, fA, bOr, bAnd, bNot, tb, tru, truD, dCall, lCall, gIsi, aCons, aNil, dVar, dC, dChain, gLe, gLt, gGe, gGt, gLen, gEq, gNe, eq2_str, eq2_int, eq2_bl, gIx, dBin, dTup, dIf, gAdd, gAddS, gAddT, gAll, gAny, gTuple, gList, gInt, startD, tyName, seqOf, lstOf, List.map_cons, List.map_nil, List.length_cons, List.length_nil, List.replicate, Option.bind_some, Option.map_some, Option.join_some, kit_NoneType_bool, kit_NoneType_int, kit_NoneType_str, kit_NoneType_tuple, kit_NoneType_list, kit_NoneType_dict, kit_bool_bool, kit_bool_int, kit_bool_str, kit_bool_tuple, kit_bool_list, kit_bool_dict, kit_int_bool, kit_int_int, kit_int_str, kit_int_tuple, kit_int_list, kit_int_dict, kit_str_bool, kit_str_int, kit_str_str, kit_str_tuple, kit_str_list, kit_str_dict, kit_tuple_bool, kit_tuple_int, kit_tuple_str, kit_tuple_tuple, kit_tuple_list, kit_tuple_dict, kit_list_bool, kit_list_int, kit_list_str, kit_list_tuple, kit_list_list, kit_list_dict, kit_dict_bool, kit_dict_int, kit_dict_str, kit_dict_tuple, kit_dict_list, kit_dict_dict, dFn1, dFn2, dFn3, atI0, atI1, atI2, atI3, vAnd, vOr, vNot, Option.bind_none, Option.map_none, if_true, if_false, Bool.not_true, Bool.not_false, decide_true, decide_false, Bool.false_eq_true, h0], false, by simp [fT, fE, fA, bOr, bAnd, bNot, tb, tru, truD, dCall, lCall, gIsi, aCons, aNil, dVar, dC, dChain, gLe, gLt, gGe, gGt, gLen, gEq, gNe, eq2_str, eq2_int, eq2_bl, gIx, dBin, dTup, dIf, gAdd, gAddS, gAddT, gAll, gAny, gTuple, gList, gInt, startD, tyName, seqOf, lstOf, List.map_cons, List.map_nil, List.length_cons, List.length_nil, List.replicate, Option.bind_some, Option.map_some, Option.join_some, kit_NoneType_bool, kit_NoneType_int, kit_NoneType_str, kit_NoneType_tuple, kit_NoneType_list, kit_NoneType_dict, kit_bool_bool, kit_bool_int, kit_bool_str, kit_bool_tuple, kit_bool_list, kit_bool_dict, kit_int_bool, kit_int_int, kit_int_str, kit_int_tuple, kit_int_list, kit_int_dict, kit_str_bool, kit_str_int, kit_str_str, kit_str_tuple, kit_str_list, kit_str_dict, kit_tuple_bool, kit_tuple_int, kit_tuple_str, kit_tuple_tuple, kit_tuple_list, kit_tuple_dict, kit_list_bool, kit_list_int, kit_list_str, kit_list_tuple, kit_list_list, kit_list_dict, kit_dict_bool, kit_dict_int, kit_dict_str, kit_dict_tuple, kit_dict_list, kit_dict_dict, dFn1, dFn2, dFn3, atI0, atI1, atI2, atI3, vAnd, vOr, vNot, Option.bind_none, Option.map_none, if_true, if_false, Bool.not_true, Bool.not_false, decide_true, decide_false, Bool.false_eq_true, h1], .tup [], (by first | rfl | simp [fT, fE, fA, bOr, bAnd, bNot, tb, tru, truD, dCall, lCall, gIsi, aCons, aNil, dVar, dC, dChain, gLe, gLt, gGe, gGt, gLen, gEq, gNe, eq2_str, eq2_int, eq2_bl, gIx, dBin, dTup, dIf, gAdd, gAddS, gAddT, gAll, gAny, gTuple, gList, gInt, startD, tyName, seqOf, lstOf, List.map_cons, List.map_nil, List.length_cons, List.length_nil, List.replicate, Option.bind_some, Option.map_some, Option.join_some, kit_NoneType_bool, kit_NoneType_int, kit_NoneType_str, kit_NoneType_tuple, kit_NoneType_list, kit_NoneType_dict, kit_bool_bool, kit_bool_int, kit_bool_str, kit_bool_tuple, kit_bool_list, kit_bool_dict, kit_int_bool, kit_int_int, kit_int_str, kit_int_tuple, kit_int_list, kit_int_dict, kit_str_bool, kit_str_int, kit_str_str, kit_str_tuple, kit_str_list, kit_str_dict, kit_tuple_bool, kit_tuple_int, kit_tuple_str, kit_tuple_tuple, kit_tuple_list, kit_tuple_dict, kit_list_bool, kit_list_int, kit_list_str, kit_list_tuple, kit_list_list, kit_list_dict, kit_dict_bool, kit_dict_int, kit_dict_str, kit_dict_tuple, kit_dict_list, kit_dict_dict, dFn1, dFn2, dFn3, atI0, atI1, atI2, atI3, vAnd, vOr, vNot, Option.bind_none, Option.map_none, if_true, if_false, Bool.not_true, Bool.not_false, decide_true, decide_false, Bool.false_eq_true]), RdQ.here q⟩
end
end K62
set_option Elab.async false
set_option linter.all false
set_option maxRecDepth 100000
set_option maxHeartbeats 4000000
namespace K62
open PySem PySem.Spec PyProof.Rows L2 Evl KD
theorem sc_persons_in : FnScope ["facts", "found", "fact", "person"] ["facts"] (defScope (top 33)) := ⟨rfl, rfl, rfl, by decide +kernel, rfl, by decide +kernel, by decide +kernel⟩
theorem sc_kinds_in : FnScope ["claim"] ["claim"] (defScope (top 34)) := ⟨rfl, rfl, rfl, by decide +kernel, rfl, by decide +kernel, by decide +kernel⟩
theorem sc_fresh_persons : FnScope ["facts", "persons", "word", "char"] ["facts"] (defScope (top 35)) := ⟨rfl, rfl, rfl, by decide +kernel, rfl, by decide +kernel, by decide +kernel⟩
theorem sc_asked_facts : FnScope ["facts", "claim", "first", "second", "third", "more", "person"] ["facts", "claim"] (defScope (top 36)) := ⟨rfl, rfl, rfl, by decide +kernel, rfl, by decide +kernel, by decide +kernel⟩
theorem sc_goal_of : FnScope ["facts", "claim", "first", "second", "third", "word"] ["facts", "claim"] (defScope (top 37)) := ⟨rfl, rfl, rfl, by decide +kernel, rfl, by decide +kernel, by decide +kernel⟩
theorem sc_conclusion_of_fact : FnScope ["fact"] ["fact"] (defScope (top 39)) := ⟨rfl, rfl, rfl, by decide +kernel, rfl, by decide +kernel, by decide +kernel⟩
theorem sc_asked_of : FnScope ["book", "facts", "kinds", "found", "whole", "fact", "kind", "part"] ["book", "facts", "kinds"] (defScope (top 41)) := ⟨rfl, rfl, rfl, by decide +kernel, rfl, by decide +kernel, by decide +kernel⟩
theorem sc_under : FnScope ["table", "key"] ["table", "key"] (defScope (top 42)) := ⟨rfl, rfl, rfl, by decide +kernel, rfl, by decide +kernel, by decide +kernel⟩
section
variable {P : Program} {w : World} {K : PySem.W.Frag} {mg : Str → Option Value} {base : Heap}
theorem has_kinds_of_sayings (W : Wd K mg) : Has P w K mg base 1 "kinds_of_sayings" 1 (pureSp (p1 fun a => match a with
    | .tup ss => if (ss.all fun d => wfS 9 d || wfF 9 d) = true ∧ ss.length ≤ 1000 then some (.lst (kosD ss)) else none
    | _ => none)) := by
  have Sc := sc_kinds_of_sayings
  refine has_ok W.d_kinds_of_sayings Sc (fun _ _ _ _ _ _ us hl => match us, hl with | [_], _ => rfl) fun f cdv A outer s H E hr => ?_
  have hu := bare_units hr
  have hd : WSs (cxOf C8.CX0 P w K mg base ["book", "found", "saying"] "kinds_of_sayings" (defScope (top 25)) f cdv A outer s H E).nox (defBody (top 25)) _ := (wss_cons (ws_set (i := 1) Sc.nd (we_lst fa_nil))
      (wss_cons (ws_for PassesOwn.never rfl (fi_tup (fe_v 0)) (wg_name (i := 2) Sc.nd) (wss_one (ws_if (ft_eq hu (fe_ix (fe_v 2) (fe_int)) (fe_str)) (wss_one (ws_expr (we_extendL (fe_v 1) (fa_cons (fe_lst (fa_cons (fe_ix (fe_v 2) (fe_int)) (fa_cons (fe_ix (fe_v 2) (fe_int)) fa_nil))) fa_nil)))) wss_nil)))
      (wss_one (ws_ret (fe_v 1)))))
  refine ⟨_, hd, fun ds S Q hl hp => ?_⟩
  clear hd
  obtain ⟨a, d, rfl, h, q⟩ := p1_open hp
  cases a with
  | tup ss =>
    obtain ⟨⟨hb, hz⟩, rfl⟩ := if_some h
    simp only [List.all_eq_true] at hb
    refine ⟨_, rfl, by simp, fun pf hpf => ?_⟩
    refine ⟨ss, none, rfl, fun i ρ' S' => ∃ o, ρ' = [some (.tup ss), some (.ref pf), o] ∧ S' pf = some (.lst (kosD (ss.take i))) ∧ Le S S', ⟨_, rfl, put_same, le_putR (Le.refl S) hpf⟩, fun _ _ _ _ _ => trivial, fun i d ρ' S' hd hv => ?_, fun ρ' S' hv => ?_⟩
    · obtain ⟨o, rfl, hf, hle⟩ := hv
      have hi : i < ss.length := by
        rcases Nat.lt_or_ge i ss.length with z | z
        · exact z
        · rw [List.getElem?_eq_none z] at hd; cases hd
      have ht : ss.take (i + 1) = ss.take i ++ [d] := by rw [List.take_succ, hd]; rfl
      have hlen := kosD_len (ss.take i)
      rw [List.length_take] at hlen
      have hw := hb d (List.mem_of_getElem? hd)
      match d, hw with
      | .tup [.str t, x, y], hw =>
        by_cases h1 : t = "below"
        · subst h1
          refine ⟨true, (by first | rfl | simp [fT, fE, fA, bOr, bAnd, bNot, tb, tru, truD, dCall, lCall, gIsi, aCons, aNil, dVar, dC, dChain, gLe, gLt, gGe, gGt, gLen, gEq, gNe, eq2_str, eq2_int, eq2_bl, gIx, dBin, dTup, dIf, gAdd, gAddS, gAddT, gAll, gAny, gTuple, gList, gInt, startD, tyName, seqOf, lstOf, List.map_cons, List.map_nil, List.length_cons, List.length_nil, List.replicate, Option.bind_some, Option.map_some, Option.join_some, kit_NoneType_bool, kit_NoneType_int, kit_NoneType_str, kit_NoneType_tuple, kit_NoneType_list, kit_NoneType_dict, kit_bool_bool, kit_bool_int, kit_bool_str, kit_bool_tuple, kit_bool_list, kit_bool_dict, kit_int_bool, kit_int_int, kit_int_str, kit_int_tuple, kit_int_list, kit_int_dict, kit_str_bool, kit_str_int, kit_str_str, kit_str_tuple, kit_str_list, kit_str_dict, kit_tuple_bool, kit_tuple_int, kit_tuple_str, kit_tuple_tuple, kit_tuple_list, kit_tuple_dict, kit_list_bool, kit_list_int, kit_list_str, kit_list_tuple, kit_list_list, kit_list_dict, kit_dict_bool, kit_dict_int, kit_dict_str, kit_dict_tuple, kit_dict_list, kit_dict_dict, dFn1, dFn2, dFn3, atI0, atI1, atI2, atI3, vAnd, vOr, vNot, Option.bind_none, Option.map_none, if_true, if_false, Bool.not_true, Bool.not_false, decide_true, decide_false, Bool.false_eq_true]), ?_⟩
          refine extendL_go (ys := [x, y]) (ds := kosD (ss.take i)) rfl (by first | rfl | simp [fT, fE, fA, bOr, bAnd, bNot, tb, tru, truD, dCall, lCall, gIsi, aCons, aNil, dVar, dC, dChain, gLe, gLt, gGe, gGt, gLen, gEq, gNe, eq2_str, eq2_int, eq2_bl, gIx, dBin, dTup, dIf, gAdd, gAddS, gAddT, gAll, gAny, gTuple, gList, gInt, startD, tyName, seqOf, lstOf, List.map_cons, List.map_nil, List.length_cons, List.length_nil, List.replicate, Option.bind_some, Option.map_some, Option.join_some, kit_NoneType_bool, kit_NoneType_int, kit_NoneType_str, kit_NoneType_tuple, kit_NoneType_list, kit_NoneType_dict, kit_bool_bool, kit_bool_int, kit_bool_str, kit_bool_tuple, kit_bool_list, kit_bool_dict, kit_int_bool, kit_int_int, kit_int_str, kit_int_tuple, kit_int_list, kit_int_dict, kit_str_bool, kit_str_int, kit_str_str, kit_str_tuple, kit_str_list, kit_str_dict, kit_tuple_bool, kit_tuple_int, kit_tuple_str, kit_tuple_tuple, kit_tuple_list, kit_tuple_dict, kit_list_bool, kit_list_int, kit_list_str, kit_list_tuple, kit_list_list, kit_list_dict, kit_dict_bool, kit_dict_int, kit_dict_str, kit_dict_tuple, kit_dict_list, kit_dict_dict, dFn1, dFn2, dFn3, atI0, atI1, atI2, atI3, vAnd, vOr, vNot, Option.bind_none, Option.map_none, if_true, if_false, Bool.not_true, Bool.not_false, decide_true, decide_false, Bool.false_eq_true]) hf (by simp; omega) ?_
          refine ⟨_, rfl, ?_, le_putR hle hpf⟩
          rw [put_same, ht, kosD_snoc]
          rfl
        · refine ⟨false, by simp [fT, fE, fA, bOr, bAnd, bNot, tb, tru, truD, dCall, lCall, gIsi, aCons, aNil, dVar, dC, dChain, gLe, gLt, gGe, gGt, gLen, gEq, gNe, eq2_str, eq2_int, eq2_bl, gIx, dBin, dTup, dIf, gAdd, gAddS, gAddT, gAll, gAny, gTuple, gList, gInt, startD, tyName, seqOf, lstOf, List.map_cons, List.map_nil, List.length_cons, List.length_nil, List.replicate, Option.bind_some, Option.map_some, Option.join_some, kit_NoneType_bool, kit_NoneType_int, kit_NoneType_str, kit_NoneType_tuple, kit_NoneType_list, kit_NoneType_dict, kit_bool_bool, kit_bool_int, kit_bool_str, kit_bool_tuple, kit_bool_list, kit_bool_dict, kit_int_bool, kit_int_int, kit_int_str, kit_int_tuple, kit_int_list, kit_int_dict, kit_str_bool, kit_str_int, kit_str_str, kit_str_tuple, kit_str_list, kit_str_dict, kit_tuple_bool, kit_tuple_int, kit_tuple_str, kit_tuple_tuple, kit_tuple_list, kit_tuple_dict, kit_list_bool, kit_list_int, kit_list_str, kit_list_tuple, kit_list_list, kit_list_dict, kit_dict_bool, kit_dict_int, kit_dict_str, kit_dict_tuple, kit_dict_list, kit_dict_dict, dFn1, dFn2, dFn3, atI0, atI1, atI2, atI3, vAnd, vOr, vNot, Option.bind_none, Option.map_none, if_true, if_false, Bool.not_true, Bool.not_false, decide_true, decide_false, Bool.false_eq_true, h1], ?_⟩
          refine ⟨_, rfl, ?_, hle⟩
          have e : kos1 (.tup [.str t, x, y]) = [] := if_neg h1
          rw [hf, ht, kosD_snoc, e, List.append_nil]
      | .tup [.str t, x, y, z], hw =>
        have hw : ((decide (t = "chain") && wfW x && wfW y && wfW z) || (decide (t = "to") && wfW x && wfW y && wfW z)) = true := hw
        have ht0 : t ≠ "below" := by
          rintro rfl
          revert hw
          simp [show ¬ (Str.ofString "below") = "chain" by decide, show ¬ (Str.ofString "below") = "to" by decide]
        refine ⟨false, by simp [fT, fE, fA, bOr, bAnd, bNot, tb, tru, truD, dCall, lCall, gIsi, aCons, aNil, dVar, dC, dChain, gLe, gLt, gGe, gGt, gLen, gEq, gNe, eq2_str, eq2_int, eq2_bl, gIx, dBin, dTup, dIf, gAdd, gAddS, gAddT, gAll, gAny, gTuple, gList, gInt, startD, tyName, seqOf, lstOf, List.map_cons, List.map_nil, List.length_cons, List.length_nil, List.replicate, Option.bind_some, Option.map_some, Option.join_some, kit_NoneType_bool, kit_NoneType_int, kit_NoneType_str, kit_NoneType_tuple, kit_NoneType_list, kit_NoneType_dict, kit_bool_bool, kit_bool_int, kit_bool_str, kit_bool_tuple, kit_bool_list, kit_bool_dict, kit_int_bool, kit_int_int, kit_int_str, kit_int_tuple, kit_int_list, kit_int_dict, kit_str_bool, kit_str_int, kit_str_str, kit_str_tuple, kit_str_list, kit_str_dict, kit_tuple_bool, kit_tuple_int, kit_tuple_str, kit_tuple_tuple, kit_tuple_list, kit_tuple_dict, kit_list_bool, kit_list_int, kit_list_str, kit_list_tuple, kit_list_list, kit_list_dict, kit_dict_bool, kit_dict_int, kit_dict_str, kit_dict_tuple, kit_dict_list, kit_dict_dict, dFn1, dFn2, dFn3, atI0, atI1, atI2, atI3, vAnd, vOr, vNot, Option.bind_none, Option.map_none, if_true, if_false, Bool.not_true, Bool.not_false, decide_true, decide_false, Bool.false_eq_true, ht0], ?_⟩
        refine ⟨_, rfl, ?_, hle⟩
        rw [hf, ht, kosD_snoc]
        simp [kos1]
    · obtain ⟨o, rfl, hf, hle⟩ := hv
      rw [List.take_length] at hf
      exact ⟨.ref pf, rfl, RdQ.lst q hle hpf hf⟩
  | _ => cases h
theorem has_persons_in (W : Wd K mg) : Has P w K mg base 2 "persons_in" 1 (pureSp (p1 fun a => match a with
    | .tup ss => if wfFs 9 a = true ∧ ss.length ≤ 1000 then some (.tup (perD ss)) else none
    | _ => none)) := by
  have Sc := sc_persons_in
  refine has_ok W.d_persons_in Sc (fun _ _ _ _ _ _ us hl => match us, hl with | [_], _ => rfl) fun f cdv A outer s H E hr => ?_
  have hu := bare_units hr
  have hd : WSs (cxOf C8.CX0 P w K mg base ["facts", "found", "fact", "person"] "persons_in" (defScope (top 33)) f cdv A outer s H E).nox (defBody (top 33)) _ := (wss_cons (ws_set (i := 1) Sc.nd we_newS)
      (wss_cons (ws_for PassesOwn.never rfl (fi_tup (fe_v 0)) (wg_name (i := 2) Sc.nd) (wss_one (ws_for PassesOwn.never rfl (fi_tup (fe_call (has_persons_of_claim W) hr (by first | decide | omega) rfl (fa_cons (fe_v 2) fa_nil))) (wg_name (i := 3) Sc.nd) (wss_one (ws_dput hu (fe_v 1) (fe_v 3) (fe_bl))))))
      (wss_one (ws_ret (we_tuple rfl W.f_tuple (we_rd (we_sorted rfl hu rfl W.f_sorted (fa_cons (fe_v 1) fa_nil))))))))
  refine ⟨_, hd, fun ds S Q hl hp => ?_⟩
  clear hd
  obtain ⟨a, d, rfl, h, q⟩ := p1_open hp
  cases a with
  | tup ss =>
    obtain ⟨⟨hb, hz⟩, rfl⟩ := if_some h
    have hb : (decide (ss.length ≤ 1000000) && ss.all (wfF 9)) = true := hb
    simp only [Bool.and_eq_true, decide_eq_true_eq, List.all_eq_true] at hb
    have hpl : ∀ l : List D, (∀ d ∈ l, wfF 9 d = true) → (l.flatMap pocS).length ≤ 2 * l.length := fun l => by
      induction l with
      | nil => exact fun _ => Nat.le_refl _
      | cons x l ih =>
        intro hl
        have h1 := ih fun d hd => hl d (List.mem_cons_of_mem _ hd)
        have h2 := (pocS_of (hl x List.mem_cons_self)).2
        rw [List.flatMap_cons, List.length_append, List.length_cons]
        omega
    intro pf hpf
    refine ⟨ss, none, rfl, fun i ρ' S' => ∃ o o2, ρ' = [some (.tup ss), some (.ref pf), o, o2] ∧ S' pf = some (.dS (trueS (uniqS [] ((ss.take i).flatMap pocS)))) ∧ Le S S', ⟨_, _, rfl, put_same, le_putR (Le.refl S) hpf⟩, fun _ _ _ _ _ => trivial, fun i d ρ' S' hd hv => ?_, fun ρ' S' hv => ?_⟩
    · obtain ⟨o, o2, rfl, hf, hle⟩ := hv
      have hi : i < ss.length := by
        rcases Nat.lt_or_ge i ss.length with z | z
        · exact z
        · rw [List.getElem?_eq_none z] at hd; cases hd
      have ht : ss.take (i + 1) = ss.take i ++ [d] := by rw [List.take_succ, hd]; rfl
      have hmem := List.mem_of_getElem? hd
      have hw := hb.2 d hmem
      have hp2 := pocS_of hw
      have hlen := hpl (ss.take i) fun z hz => hb.2 z (List.mem_of_mem_take hz)
      rw [List.length_take] at hlen
      refine ⟨pocD d, none, by simp [itTup, fT, fE, fA, bOr, bAnd, bNot, tb, tru, truD, dCall, lCall, gIsi, aCons, aNil, dVar, dC, dChain, gLe, gLt, gGe, gGt, gLen, gEq, gNe, eq2_str, eq2_int, eq2_bl, gIx, dBin, dTup, dIf, gAdd, gAddS, gAddT, gAll, gAny, gTuple, gList, gInt, startD, tyName, seqOf, lstOf, List.map_cons, List.map_nil, List.length_cons, List.length_nil, List.replicate, Option.bind_some, Option.map_some, Option.join_some, kit_NoneType_bool, kit_NoneType_int, kit_NoneType_str, kit_NoneType_tuple, kit_NoneType_list, kit_NoneType_dict, kit_bool_bool, kit_bool_int, kit_bool_str, kit_bool_tuple, kit_bool_list, kit_bool_dict, kit_int_bool, kit_int_int, kit_int_str, kit_int_tuple, kit_int_list, kit_int_dict, kit_str_bool, kit_str_int, kit_str_str, kit_str_tuple, kit_str_list, kit_str_dict, kit_tuple_bool, kit_tuple_int, kit_tuple_str, kit_tuple_tuple, kit_tuple_list, kit_tuple_dict, kit_list_bool, kit_list_int, kit_list_str, kit_list_tuple, kit_list_list, kit_list_dict, kit_dict_bool, kit_dict_int, kit_dict_str, kit_dict_tuple, kit_dict_list, kit_dict_dict, dFn1, dFn2, dFn3, atI0, atI1, atI2, atI3, vAnd, vOr, vNot, Option.bind_none, Option.map_none, if_true, if_false, Bool.not_true, Bool.not_false, decide_true, decide_false, Bool.false_eq_true, hw], fun j ρ2 S2 => ∃ o2, ρ2 = [some (.tup ss), some (.ref pf), some d, o2] ∧ S2 pf = some (.dS (trueS (uniqS [] ((ss.take i).flatMap pocS ++ (pocS d).take j)))) ∧ Le S S2, ⟨_, rfl, by simpa using hf, hle⟩, fun _ _ _ _ _ => trivial, fun j x ρ2 S2 hx hv => ?_, fun ρ2 S2 hv => ?_⟩
      · obtain ⟨o2, rfl, hf, hle⟩ := hv
        rw [← hp2.1, List.getElem?_map] at hx
        obtain ⟨y, hy, rfl⟩ := Option.map_eq_some_iff.mp hx
        have ht2 : (pocS d).take (j + 1) = (pocS d).take j ++ [y] := by rw [List.take_succ, hy]; rfl
        have hkl : (uniqS [] ((ss.take i).flatMap pocS ++ (pocS d).take j)).length < 1000000 := by
          have := uniqS_len (xs := []) (ys := (ss.take i).flatMap pocS ++ (pocS d).take j)
          rw [List.length_append, List.length_take] at this
          simp only [List.length_nil] at this
          omega
        refine dput_go rfl rfl rfl (putD_S hf (by unfold trueS; rw [List.length_map]; exact hkl)) ?_
        refine ⟨_, rfl, ?_, le_putR hle hpf⟩
        rw [put_same, putS_true, ht2, ← List.append_assoc]
        unfold uniqS
        rw [List.foldl_append (l' := [y])]
        rfl
      · obtain ⟨o2, rfl, hf, hle⟩ := hv
        refine ⟨_, _, rfl, ?_, hle⟩
        rw [hf, ht, List.flatMap_append]
        have e : (pocS d).take (pocD d).length = pocS d := by
          rw [← hp2.1, List.length_map, List.take_length]
        rw [e]
        simp
    · obtain ⟨o, o2, rfl, hf, hle⟩ := hv
      rw [List.take_length] at hf
      have hkl : (perS ss).length ≤ 1000000 := by
        have h1 := uniqS_len (xs := []) (ys := ss.flatMap pocS)
        have h2 := hpl ss hb.2
        unfold perS
        simp only [List.length_nil] at h1
        omega
      refine ⟨[.ref pf], rfl, .ref pf, (perS ss).map .str, rfl, .inr ?_, sortOk_strs hkl, fun ad hn => ?_⟩
      · show dictKeys S' (.ref pf) = _
        simp only [dictKeys, hf]
        rw [trueS_keys]
        rfl
      · rw [sortD_strs]
        exact rd_new hn ⟨_, rfl, RdQ.le q hle⟩
  | _ => cases h
theorem has_kinds_in (W : Wd K mg) : Has P w K mg base 2 "kinds_in" 1 (pureSp (p1 fun a => if wfF 9 a = true then some (.tup (kofF a)) else if wfS 9 a = true then some (.tup (kos1 a)) else none)) := by
  have Sc := sc_kinds_in
  refine has_ok W.d_kinds_in Sc (fun _ _ _ _ _ _ us hl => match us, hl with | [_], _ => rfl) fun f cdv A outer s H E hr => ?_
  have hu := bare_units hr
  have hd : WSs (cxOf C8.CX0 P w K mg base ["claim"] "kinds_in" (defScope (top 34)) f cdv A outer s H E).nox (defBody (top 34)) _ := (wss_cons (ws_if (ft_eq hu (fe_ix (fe_v 0) (fe_int)) (fe_str)) (wss_one (ws_ret (fe_tup (fa_cons (fe_ix (fe_v 0) (fe_int)) fa_nil)))) wss_nil)
      (wss_one (ws_ret (fe_tuple rfl W.f_tuple (fe_call (has_kinds_of_sayings W) hr (by first | decide | omega) rfl (fa_cons (fe_tup (fa_cons (fe_v 0) fa_nil)) fa_nil))))))
  refine ⟨_, hd, fun ds S Q hl hp => ?_⟩
  clear hd
  obtain ⟨a, d, rfl, h, q⟩ := p1_open hp
  by_cases h1 : wfF 9 a = true
  · rw [if_pos h1] at h
    cases h
    match a, h1, q with
    | .tup [.str t, x, k], h1, q =>
      have h2 : (decide (t = "is") && wfW x && wfK 9 k) = true := h1
      simp only [Bool.and_eq_true, decide_eq_true_eq] at h2
      obtain ⟨⟨rfl, _⟩, _⟩ := h2
      exact ⟨true, (by first | rfl | simp [fT, fE, fA, bOr, bAnd, bNot, tb, tru, truD, dCall, lCall, gIsi, aCons, aNil, dVar, dC, dChain, gLe, gLt, gGe, gGt, gLen, gEq, gNe, eq2_str, eq2_int, eq2_bl, gIx, dBin, dTup, dIf, gAdd, gAddS, gAddT, gAll, gAny, gTuple, gList, gInt, startD, tyName, seqOf, lstOf, List.map_cons, List.map_nil, List.length_cons, List.length_nil, List.replicate, Option.bind_some, Option.map_some, Option.join_some, kit_NoneType_bool, kit_NoneType_int, kit_NoneType_str, kit_NoneType_tuple, kit_NoneType_list, kit_NoneType_dict, kit_bool_bool, kit_bool_int, kit_bool_str, kit_bool_tuple, kit_bool_list, kit_bool_dict, kit_int_bool, kit_int_int, kit_int_str, kit_int_tuple, kit_int_list, kit_int_dict, kit_str_bool, kit_str_int, kit_str_str, kit_str_tuple, kit_str_list, kit_str_dict, kit_tuple_bool, kit_tuple_int, kit_tuple_str, kit_tuple_tuple, kit_tuple_list, kit_tuple_dict, kit_list_bool, kit_list_int, kit_list_str, kit_list_tuple, kit_list_list, kit_list_dict, kit_dict_bool, kit_dict_int, kit_dict_str, kit_dict_tuple, kit_dict_list, kit_dict_dict, dFn1, dFn2, dFn3, atI0, atI1, atI2, atI3, vAnd, vOr, vNot, Option.bind_none, Option.map_none, if_true, if_false, Bool.not_true, Bool.not_false, decide_true, decide_false, Bool.false_eq_true]), .tup [k], (by first | rfl | simp [fT, fE, fA, bOr, bAnd, bNot, tb, tru, truD, dCall, lCall, gIsi, aCons, aNil, dVar, dC, dChain, gLe, gLt, gGe, gGt, gLen, gEq, gNe, eq2_str, eq2_int, eq2_bl, gIx, dBin, dTup, dIf, gAdd, gAddS, gAddT, gAll, gAny, gTuple, gList, gInt, startD, tyName, seqOf, lstOf, List.map_cons, List.map_nil, List.length_cons, List.length_nil, List.replicate, Option.bind_some, Option.map_some, Option.join_some, kit_NoneType_bool, kit_NoneType_int, kit_NoneType_str, kit_NoneType_tuple, kit_NoneType_list, kit_NoneType_dict, kit_bool_bool, kit_bool_int, kit_bool_str, kit_bool_tuple, kit_bool_list, kit_bool_dict, kit_int_bool, kit_int_int, kit_int_str, kit_int_tuple, kit_int_list, kit_int_dict, kit_str_bool, kit_str_int, kit_str_str, kit_str_tuple, kit_str_list, kit_str_dict, kit_tuple_bool, kit_tuple_int, kit_tuple_str, kit_tuple_tuple, kit_tuple_list, kit_tuple_dict, kit_list_bool, kit_list_int, kit_list_str, kit_list_tuple, kit_list_list, kit_list_dict, kit_dict_bool, kit_dict_int, kit_dict_str, kit_dict_tuple, kit_dict_list, kit_dict_dict, dFn1, dFn2, dFn3, atI0, atI1, atI2, atI3, vAnd, vOr, vNot, Option.bind_none, Option.map_none, if_true, if_false, Bool.not_true, Bool.not_false, decide_true, decide_false, Bool.false_eq_true]), RdQ.here q⟩
    | .tup [.str t, x, y, z], h1, q =>
      have h2 : (decide (t = "to") && wfW x && wfW y && wfW z) = true := h1
      simp only [Bool.and_eq_true, decide_eq_true_eq] at h2
      obtain ⟨⟨⟨rfl, _⟩, _⟩, _⟩ := h2
      refine ⟨false, (by first | rfl | simp [fT, fE, fA, bOr, bAnd, bNot, tb, tru, truD, dCall, lCall, gIsi, aCons, aNil, dVar, dC, dChain, gLe, gLt, gGe, gGt, gLen, gEq, gNe, eq2_str, eq2_int, eq2_bl, gIx, dBin, dTup, dIf, gAdd, gAddS, gAddT, gAll, gAny, gTuple, gList, gInt, startD, tyName, seqOf, lstOf, List.map_cons, List.map_nil, List.length_cons, List.length_nil, List.replicate, Option.bind_some, Option.map_some, Option.join_some, kit_NoneType_bool, kit_NoneType_int, kit_NoneType_str, kit_NoneType_tuple, kit_NoneType_list, kit_NoneType_dict, kit_bool_bool, kit_bool_int, kit_bool_str, kit_bool_tuple, kit_bool_list, kit_bool_dict, kit_int_bool, kit_int_int, kit_int_str, kit_int_tuple, kit_int_list, kit_int_dict, kit_str_bool, kit_str_int, kit_str_str, kit_str_tuple, kit_str_list, kit_str_dict, kit_tuple_bool, kit_tuple_int, kit_tuple_str, kit_tuple_tuple, kit_tuple_list, kit_tuple_dict, kit_list_bool, kit_list_int, kit_list_str, kit_list_tuple, kit_list_list, kit_list_dict, kit_dict_bool, kit_dict_int, kit_dict_str, kit_dict_tuple, kit_dict_list, kit_dict_dict, dFn1, dFn2, dFn3, atI0, atI1, atI2, atI3, vAnd, vOr, vNot, Option.bind_none, Option.map_none, if_true, if_false, Bool.not_true, Bool.not_false, decide_true, decide_false, Bool.false_eq_true]), .tup [], ?_, RdQ.here q⟩
      simp [fT, fE, fA, bOr, bAnd, bNot, tb, tru, truD, dCall, lCall, gIsi, aCons, aNil, dVar, dC, dChain, gLe, gLt, gGe, gGt, gLen, gEq, gNe, eq2_str, eq2_int, eq2_bl, gIx, dBin, dTup, dIf, gAdd, gAddS, gAddT, gAll, gAny, gTuple, gList, gInt, startD, tyName, seqOf, lstOf, List.map_cons, List.map_nil, List.length_cons, List.length_nil, List.replicate, Option.bind_some, Option.map_some, Option.join_some, kit_NoneType_bool, kit_NoneType_int, kit_NoneType_str, kit_NoneType_tuple, kit_NoneType_list, kit_NoneType_dict, kit_bool_bool, kit_bool_int, kit_bool_str, kit_bool_tuple, kit_bool_list, kit_bool_dict, kit_int_bool, kit_int_int, kit_int_str, kit_int_tuple, kit_int_list, kit_int_dict, kit_str_bool, kit_str_int, kit_str_str, kit_str_tuple, kit_str_list, kit_str_dict, kit_tuple_bool, kit_tuple_int, kit_tuple_str, kit_tuple_tuple, kit_tuple_list, kit_tuple_dict, kit_list_bool, kit_list_int, kit_list_str, kit_list_tuple, kit_list_list, kit_list_dict, kit_dict_bool, kit_dict_int, kit_dict_str, kit_dict_tuple, kit_dict_list, kit_dict_dict, dFn1, dFn2, dFn3, atI0, atI1, atI2, atI3, vAnd, vOr, vNot, Option.bind_none, Option.map_none, if_true, if_false, Bool.not_true, Bool.not_false, decide_true, decide_false, Bool.false_eq_true, h1, kosD, kos1]
  · rw [if_neg h1] at h
    obtain ⟨h2, rfl⟩ := if_some h
    have hne : ∃ t r, a = .tup (.str t :: r) ∧ t ≠ "is" := by
      match a, h2 with
      | .tup [.str t, x, y], h2 =>
        have h2 : ((decide (t = "below") && wfK 9 x && wfK 9 y) || (decide (t = "role") && wfW x && wfW y)) = true := h2
        refine ⟨t, [x, y], rfl, ?_⟩
        rintro rfl
        revert h2
        simp [show ¬ (Str.ofString "is") = "below" by decide, show ¬ (Str.ofString "is") = "role" by decide]
      | .tup [.str t, x, y, z], h2 =>
        have h2 : (decide (t = "chain") && wfW x && wfW y && wfW z) = true := h2
        refine ⟨t, [x, y, z], rfl, ?_⟩
        rintro rfl
        revert h2
        simp [show ¬ (Str.ofString "is") = "chain" by decide]
    obtain ⟨t, r, rfl, ht⟩ := hne
    refine ⟨false, by simp [fT, fE, fA, bOr, bAnd, bNot, tb, tru, truD, dCall, lCall, gIsi, aCons, aNil, dVar, dC, dChain, gLe, gLt, gGe, gGt, gLen, gEq, gNe, eq2_str, eq2_int, eq2_bl, gIx, dBin, dTup, dIf, gAdd, gAddS, gAddT, gAll, gAny, gTuple, gList, gInt, startD, tyName, seqOf, lstOf, List.map_cons, List.map_nil, List.length_cons, List.length_nil, List.replicate, Option.bind_some, Option.map_some, Option.join_some, kit_NoneType_bool, kit_NoneType_int, kit_NoneType_str, kit_NoneType_tuple, kit_NoneType_list, kit_NoneType_dict, kit_bool_bool, kit_bool_int, kit_bool_str, kit_bool_tuple, kit_bool_list, kit_bool_dict, kit_int_bool, kit_int_int, kit_int_str, kit_int_tuple, kit_int_list, kit_int_dict, kit_str_bool, kit_str_int, kit_str_str, kit_str_tuple, kit_str_list, kit_str_dict, kit_tuple_bool, kit_tuple_int, kit_tuple_str, kit_tuple_tuple, kit_tuple_list, kit_tuple_dict, kit_list_bool, kit_list_int, kit_list_str, kit_list_tuple, kit_list_list, kit_list_dict, kit_dict_bool, kit_dict_int, kit_dict_str, kit_dict_tuple, kit_dict_list, kit_dict_dict, dFn1, dFn2, dFn3, atI0, atI1, atI2, atI3, vAnd, vOr, vNot, Option.bind_none, Option.map_none, if_true, if_false, Bool.not_true, Bool.not_false, decide_true, decide_false, Bool.false_eq_true, ht], .tup (kos1 (.tup (.str t :: r))), ?_, RdQ.here q⟩
    simp [fT, fE, fA, bOr, bAnd, bNot, tb, tru, truD, dCall, lCall, gIsi, aCons, aNil, dVar, dC, dChain, gLe, gLt, gGe, gGt, gLen, gEq, gNe, eq2_str, eq2_int, eq2_bl, gIx, dBin, dTup, dIf, gAdd, gAddS, gAddT, gAll, gAny, gTuple, gList, gInt, startD, tyName, seqOf, lstOf, List.map_cons, List.map_nil, List.length_cons, List.length_nil, List.replicate, Option.bind_some, Option.map_some, Option.join_some, kit_NoneType_bool, kit_NoneType_int, kit_NoneType_str, kit_NoneType_tuple, kit_NoneType_list, kit_NoneType_dict, kit_bool_bool, kit_bool_int, kit_bool_str, kit_bool_tuple, kit_bool_list, kit_bool_dict, kit_int_bool, kit_int_int, kit_int_str, kit_int_tuple, kit_int_list, kit_int_dict, kit_str_bool, kit_str_int, kit_str_str, kit_str_tuple, kit_str_list, kit_str_dict, kit_tuple_bool, kit_tuple_int, kit_tuple_str, kit_tuple_tuple, kit_tuple_list, kit_tuple_dict, kit_list_bool, kit_list_int, kit_list_str, kit_list_tuple, kit_list_list, kit_list_dict, kit_dict_bool, kit_dict_int, kit_dict_str, kit_dict_tuple, kit_dict_list, kit_dict_dict, dFn1, dFn2, dFn3, atI0, atI1, atI2, atI3, vAnd, vOr, vNot, Option.bind_none, Option.map_none, if_true, if_false, Bool.not_true, Bool.not_false, decide_true, decide_false, Bool.false_eq_true, h2, kosD]
theorem has_fresh_persons (W : Wd K mg) : Has P w K mg base 3 "fresh_persons" 1 (pureSp (p1 fun a => match a with
    | .tup ss => if wfFs 9 a = true ∧ ss.length ≤ 1000 then some (.lst ((freshS ss).map .str)) else none
    | _ => none)) := by
  have Sc := sc_fresh_persons
  refine has_ok W.d_fresh_persons Sc (fun _ _ _ _ _ _ us hl => match us, hl with | [_], _ => rfl) fun f cdv A outer s H E hr => ?_
  have hu := bare_units hr
  have hd : WSs (cxOf C8.CX0 P w K mg base ["facts", "persons", "word", "char"] "fresh_persons" (defScope (top 35)) f cdv A outer s H E).nox (defBody (top 35)) _ := (wss_cons (ws_set (i := 1) Sc.nd (fe_call (has_persons_in W) hr (by first | decide | omega) rfl (fa_cons (fe_v 0) fa_nil)))
      (wss_one (ws_ret (we_rd (we_sliceL (we_rd (wl_lcI (own := [("word", 2)]) rfl Sc.nd (blkOk_by (by rfl)) (wi_lst (wl_lcS (own := [("char", 3)]) rfl Sc.nd (blkOk_by (by rfl)) iok_str (fi_str (fe_gc W.letters rfl)) (tgb_name (i := 3)) (fun _ _ _ _ _ => (pg_name (i := 3) Sc.nd rfl (Or.inl rfl))) (fun _ _ _ _ _ => ftn) (fun _ _ _ _ _ => (fe_addS (fe_str) (fe_v 3))))) (tgb_name (i := 2)) (fun _ _ _ _ _ => (pg_name (i := 2) Sc.nd rfl (Or.inl rfl))) (fun _ _ _ _ _ => (ft1 (ft_nin hu (fe_v 2) (fe_v 1)))) (fun _ _ _ _ _ => (fe_v 2)))) fo_none (fo_some (fe_int)))))))
  refine ⟨_, hd, fun ds S Q hl hp => ?_⟩
  clear hd
  obtain ⟨a, d, rfl, h, q⟩ := p1_open hp
  cases a with
  | tup ss =>
    obtain ⟨⟨hb, hz⟩, rfl⟩ := if_some h
    refine ⟨.tup (perD ss), by simp [fT, fE, fA, bOr, bAnd, bNot, tb, tru, truD, dCall, lCall, gIsi, aCons, aNil, dVar, dC, dChain, gLe, gLt, gGe, gGt, gLen, gEq, gNe, eq2_str, eq2_int, eq2_bl, gIx, dBin, dTup, dIf, gAdd, gAddS, gAddT, gAll, gAny, gTuple, gList, gInt, startD, tyName, seqOf, lstOf, List.map_cons, List.map_nil, List.length_cons, List.length_nil, List.replicate, Option.bind_some, Option.map_some, Option.join_some, kit_NoneType_bool, kit_NoneType_int, kit_NoneType_str, kit_NoneType_tuple, kit_NoneType_list, kit_NoneType_dict, kit_bool_bool, kit_bool_int, kit_bool_str, kit_bool_tuple, kit_bool_list, kit_bool_dict, kit_int_bool, kit_int_int, kit_int_str, kit_int_tuple, kit_int_list, kit_int_dict, kit_str_bool, kit_str_int, kit_str_str, kit_str_tuple, kit_str_list, kit_str_dict, kit_tuple_bool, kit_tuple_int, kit_tuple_str, kit_tuple_tuple, kit_tuple_list, kit_tuple_dict, kit_list_bool, kit_list_int, kit_list_str, kit_list_tuple, kit_list_list, kit_list_dict, kit_dict_bool, kit_dict_int, kit_dict_str, kit_dict_tuple, kit_dict_list, kit_dict_dict, dFn1, dFn2, dFn3, atI0, atI1, atI2, atI3, vAnd, vOr, vNot, Option.bind_none, Option.map_none, if_true, if_false, Bool.not_true, Bool.not_false, decide_true, decide_false, Bool.false_eq_true, hb, hz], ?_⟩
    refine ⟨KD.signs letters, none, rfl, fun _ => true, fun d => .str (("n" : Str) ++ txt d), by decide +kernel, fun d hd S' _ => ?_, ?_⟩
    · obtain ⟨c, hc, rfl⟩ := List.mem_map.mp (show d ∈ letters.cps.toList.map fun c => D.str ⟨#[c]⟩ from hd)
      refine ⟨_, rfl, rfl, fun _ => ?_⟩
      have e1 : (Str.ofString "n").length + (⟨#[c]⟩ : Str).length ≤ 1000000 := by show (1 : Nat) + 1 ≤ 1000000; decide
      simp [fT, fE, fA, bOr, bAnd, bNot, tb, tru, truD, dCall, lCall, gIsi, aCons, aNil, dVar, dC, dChain, gLe, gLt, gGe, gGt, gLen, gEq, gNe, eq2_str, eq2_int, eq2_bl, gIx, dBin, dTup, dIf, gAdd, gAddS, gAddT, gAll, gAny, gTuple, gList, gInt, startD, tyName, seqOf, lstOf, List.map_cons, List.map_nil, List.length_cons, List.length_nil, List.replicate, Option.bind_some, Option.map_some, Option.join_some, kit_NoneType_bool, kit_NoneType_int, kit_NoneType_str, kit_NoneType_tuple, kit_NoneType_list, kit_NoneType_dict, kit_bool_bool, kit_bool_int, kit_bool_str, kit_bool_tuple, kit_bool_list, kit_bool_dict, kit_int_bool, kit_int_int, kit_int_str, kit_int_tuple, kit_int_list, kit_int_dict, kit_str_bool, kit_str_int, kit_str_str, kit_str_tuple, kit_str_list, kit_str_dict, kit_tuple_bool, kit_tuple_int, kit_tuple_str, kit_tuple_tuple, kit_tuple_list, kit_tuple_dict, kit_list_bool, kit_list_int, kit_list_str, kit_list_tuple, kit_list_list, kit_list_dict, kit_dict_bool, kit_dict_int, kit_dict_str, kit_dict_tuple, kit_dict_list, kit_dict_dict, dFn1, dFn2, dFn3, atI0, atI1, atI2, atI3, vAnd, vOr, vNot, Option.bind_none, Option.map_none, if_true, if_false, Bool.not_true, Bool.not_false, decide_true, decide_false, Bool.false_eq_true, wipeD, txt, e1]
    · rw [fresh_items]
      refine ⟨_, rfl, fun _ _ => trivial, fun d => decide (txt d ∉ perS ss), id, by rw [List.length_map, cands_len]; decide, fun d hd S' _ => ?_, fun ad hn => ?_⟩
      · obtain ⟨x, _, rfl⟩ := List.mem_map.mp hd
        refine ⟨_, rfl, ?_, fun _ => rfl⟩
        have e : inD (.str x) (perD ss) = some (decide (x ∈ perS ss)) := by
          unfold perD
          rw [inD_str]
          simp [mem_sortS]
        simp [fT, fE, fA, bOr, bAnd, bNot, tb, tru, truD, dCall, lCall, gIsi, aCons, aNil, dVar, dC, dChain, gLe, gLt, gGe, gGt, gLen, gEq, gNe, eq2_str, eq2_int, eq2_bl, gIx, dBin, dTup, dIf, gAdd, gAddS, gAddT, gAll, gAny, gTuple, gList, gInt, startD, tyName, seqOf, lstOf, List.map_cons, List.map_nil, List.length_cons, List.length_nil, List.replicate, Option.bind_some, Option.map_some, Option.join_some, kit_NoneType_bool, kit_NoneType_int, kit_NoneType_str, kit_NoneType_tuple, kit_NoneType_list, kit_NoneType_dict, kit_bool_bool, kit_bool_int, kit_bool_str, kit_bool_tuple, kit_bool_list, kit_bool_dict, kit_int_bool, kit_int_int, kit_int_str, kit_int_tuple, kit_int_list, kit_int_dict, kit_str_bool, kit_str_int, kit_str_str, kit_str_tuple, kit_str_list, kit_str_dict, kit_tuple_bool, kit_tuple_int, kit_tuple_str, kit_tuple_tuple, kit_tuple_list, kit_tuple_dict, kit_list_bool, kit_list_int, kit_list_str, kit_list_tuple, kit_list_list, kit_list_dict, kit_dict_bool, kit_dict_int, kit_dict_str, kit_dict_tuple, kit_dict_list, kit_dict_dict, dFn1, dFn2, dFn3, atI0, atI1, atI2, atI3, vAnd, vOr, vNot, Option.bind_none, Option.map_none, if_true, if_false, Bool.not_true, Bool.not_false, decide_true, decide_false, Bool.false_eq_true, wipeD, gNin, e, txt]
        by_cases hx : x ∈ perS ss <;> simp [hx]
      · refine rd_new hn ⟨_, none, some 3, rfl, rfl, rfl, fun p hp => rd_new hp (RdQ.here ?_)⟩
        rw [cut3]
        have e : (((cands.map D.str).filter fun d => decide (txt d ∉ perS ss)).map id) = (cands.filter fun x => decide (x ∉ perS ss)).map .str := by
          rw [List.map_id, List.filter_map]
          rfl
        rw [e, ← List.map_take]
        exact q
  | _ => cases h
/-- the three fresh ones -/
theorem has_asked_facts (W : Wd K mg) : Has P w K mg base 4 "asked_facts" 2 (fun ds S Q => ∃ fs cl a b c, ds = [.tup fs, cl] ∧ wfFs 9 (.tup fs) = true ∧ fs.length ≤ 900 ∧ freshS fs = [a, b, c] ∧
    ((∃ x y, cl = .tup [.str "role", x, y] ∧ Q (.tup (fs ++ [.tup [.str "to", .str a, x, .str b]])) S) ∨ ∃ x y z, cl = .tup [.str "chain", x, y, z] ∧ Q (.tup (fs ++ [.tup [.str "to", .str a, x, .str b], .tup [.str "to", .str b, y, .str c]])) S)) := by
  have Sc := sc_asked_facts
  refine has_ok W.d_asked_facts Sc (fun _ _ _ _ _ _ us hl => match us, hl with | [_, _], _ => rfl) fun f cdv A outer s H E hr => ?_
  have hu := bare_units hr
  have hd : WSs (cxOf C8.CX0 P w K mg base ["facts", "claim", "first", "second", "third", "more", "person"] "asked_facts" (defScope (top 36)) f cdv A outer s H E).nox (defBody (top 36)) _ := (wss_cons (ws_asg (fe_call (has_fresh_persons W) hr (by first | decide | omega) rfl (fa_cons (fe_v 0) fa_nil)) (wg_lst rfl (wgs_cons (wg_name (i := 2) Sc.nd) (wgs_cons (wg_name (i := 3) Sc.nd) (wgs_cons (wg_name (i := 4) Sc.nd) wgs_nil)))))
      (wss_cons (ws_if (ft_eq hu (fe_ix (fe_v 1) (fe_int)) (fe_str)) (wss_one (ws_ret (fe_addT (fe_v 0) (fe_tup (fa_cons (fe_tup (fa_cons (fe_str) (fa_cons (fe_v 2) (fa_cons (fe_ix (fe_v 1) (fe_int)) (fa_cons (fe_v 3) fa_nil))))) fa_nil))))) wss_nil)
      (wss_cons (ws_if (ft_eq hu (fe_ix (fe_v 1) (fe_int)) (fe_str)) (wss_one (ws_ret (fe_addT (fe_v 0) (fe_tup (fa_cons (fe_tup (fa_cons (fe_str) (fa_cons (fe_v 2) (fa_cons (fe_ix (fe_v 1) (fe_int)) (fa_cons (fe_v 3) fa_nil))))) (fa_cons (fe_tup (fa_cons (fe_str) (fa_cons (fe_v 3) (fa_cons (fe_ix (fe_v 1) (fe_int)) (fa_cons (fe_v 4) fa_nil))))) fa_nil)))))) wss_nil)
      wss_never)))
  refine ⟨_, hd, fun ds S Q hl hp => ?_⟩
  clear hd
  obtain ⟨fs, cl, a, b, c, rfl, hb, hz, hf, hq⟩ := hp
  have hz2 : fs.length ≤ 1000 := by omega
  refine ⟨.lst [.str a, .str b, .str c], by simp [fT, fE, fA, bOr, bAnd, bNot, tb, tru, truD, dCall, lCall, gIsi, aCons, aNil, dVar, dC, dChain, gLe, gLt, gGe, gGt, gLen, gEq, gNe, eq2_str, eq2_int, eq2_bl, gIx, dBin, dTup, dIf, gAdd, gAddS, gAddT, gAll, gAny, gTuple, gList, gInt, startD, tyName, seqOf, lstOf, List.map_cons, List.map_nil, List.length_cons, List.length_nil, List.replicate, Option.bind_some, Option.map_some, Option.join_some, kit_NoneType_bool, kit_NoneType_int, kit_NoneType_str, kit_NoneType_tuple, kit_NoneType_list, kit_NoneType_dict, kit_bool_bool, kit_bool_int, kit_bool_str, kit_bool_tuple, kit_bool_list, kit_bool_dict, kit_int_bool, kit_int_int, kit_int_str, kit_int_tuple, kit_int_list, kit_int_dict, kit_str_bool, kit_str_int, kit_str_str, kit_str_tuple, kit_str_list, kit_str_dict, kit_tuple_bool, kit_tuple_int, kit_tuple_str, kit_tuple_tuple, kit_tuple_list, kit_tuple_dict, kit_list_bool, kit_list_int, kit_list_str, kit_list_tuple, kit_list_list, kit_list_dict, kit_dict_bool, kit_dict_int, kit_dict_str, kit_dict_tuple, kit_dict_list, kit_dict_dict, dFn1, dFn2, dFn3, atI0, atI1, atI2, atI3, vAnd, vOr, vNot, Option.bind_none, Option.map_none, if_true, if_false, Bool.not_true, Bool.not_false, decide_true, decide_false, Bool.false_eq_true, hb, hz2, hf], [.str a, .str b, .str c], rfl, rfl, ?_⟩
  refine ⟨_, _, rfl, _, _, rfl, _, _, rfl, rfl, ?_⟩
  rcases hq with ⟨x, y, rfl, q⟩ | ⟨x, y, z, rfl, q⟩
  · refine ⟨true, (by first | rfl | simp [fT, fE, fA, bOr, bAnd, bNot, tb, tru, truD, dCall, lCall, gIsi, aCons, aNil, dVar, dC, dChain, gLe, gLt, gGe, gGt, gLen, gEq, gNe, eq2_str, eq2_int, eq2_bl, gIx, dBin, dTup, dIf, gAdd, gAddS, gAddT, gAll, gAny, gTuple, gList, gInt, startD, tyName, seqOf, lstOf, List.map_cons, List.map_nil, List.length_cons, List.length_nil, List.replicate, Option.bind_some, Option.map_some, Option.join_some, kit_NoneType_bool, kit_NoneType_int, kit_NoneType_str, kit_NoneType_tuple, kit_NoneType_list, kit_NoneType_dict, kit_bool_bool, kit_bool_int, kit_bool_str, kit_bool_tuple, kit_bool_list, kit_bool_dict, kit_int_bool, kit_int_int, kit_int_str, kit_int_tuple, kit_int_list, kit_int_dict, kit_str_bool, kit_str_int, kit_str_str, kit_str_tuple, kit_str_list, kit_str_dict, kit_tuple_bool, kit_tuple_int, kit_tuple_str, kit_tuple_tuple, kit_tuple_list, kit_tuple_dict, kit_list_bool, kit_list_int, kit_list_str, kit_list_tuple, kit_list_list, kit_list_dict, kit_dict_bool, kit_dict_int, kit_dict_str, kit_dict_tuple, kit_dict_list, kit_dict_dict, dFn1, dFn2, dFn3, atI0, atI1, atI2, atI3, vAnd, vOr, vNot, Option.bind_none, Option.map_none, if_true, if_false, Bool.not_true, Bool.not_false, decide_true, decide_false, Bool.false_eq_true]), .tup (fs ++ [.tup [.str "to", .str a, x, .str b]]), ?_, RdQ.here q⟩
    have e : fs.length ≤ 999999 := by omega
    simp [fT, fE, fA, bOr, bAnd, bNot, tb, tru, truD, dCall, lCall, gIsi, aCons, aNil, dVar, dC, dChain, gLe, gLt, gGe, gGt, gLen, gEq, gNe, eq2_str, eq2_int, eq2_bl, gIx, dBin, dTup, dIf, gAdd, gAddS, gAddT, gAll, gAny, gTuple, gList, gInt, startD, tyName, seqOf, lstOf, List.map_cons, List.map_nil, List.length_cons, List.length_nil, List.replicate, Option.bind_some, Option.map_some, Option.join_some, kit_NoneType_bool, kit_NoneType_int, kit_NoneType_str, kit_NoneType_tuple, kit_NoneType_list, kit_NoneType_dict, kit_bool_bool, kit_bool_int, kit_bool_str, kit_bool_tuple, kit_bool_list, kit_bool_dict, kit_int_bool, kit_int_int, kit_int_str, kit_int_tuple, kit_int_list, kit_int_dict, kit_str_bool, kit_str_int, kit_str_str, kit_str_tuple, kit_str_list, kit_str_dict, kit_tuple_bool, kit_tuple_int, kit_tuple_str, kit_tuple_tuple, kit_tuple_list, kit_tuple_dict, kit_list_bool, kit_list_int, kit_list_str, kit_list_tuple, kit_list_list, kit_list_dict, kit_dict_bool, kit_dict_int, kit_dict_str, kit_dict_tuple, kit_dict_list, kit_dict_dict, dFn1, dFn2, dFn3, atI0, atI1, atI2, atI3, vAnd, vOr, vNot, Option.bind_none, Option.map_none, if_true, if_false, Bool.not_true, Bool.not_false, decide_true, decide_false, Bool.false_eq_true, e]
  · refine ⟨false, (by first | rfl | simp [fT, fE, fA, bOr, bAnd, bNot, tb, tru, truD, dCall, lCall, gIsi, aCons, aNil, dVar, dC, dChain, gLe, gLt, gGe, gGt, gLen, gEq, gNe, eq2_str, eq2_int, eq2_bl, gIx, dBin, dTup, dIf, gAdd, gAddS, gAddT, gAll, gAny, gTuple, gList, gInt, startD, tyName, seqOf, lstOf, List.map_cons, List.map_nil, List.length_cons, List.length_nil, List.replicate, Option.bind_some, Option.map_some, Option.join_some, kit_NoneType_bool, kit_NoneType_int, kit_NoneType_str, kit_NoneType_tuple, kit_NoneType_list, kit_NoneType_dict, kit_bool_bool, kit_bool_int, kit_bool_str, kit_bool_tuple, kit_bool_list, kit_bool_dict, kit_int_bool, kit_int_int, kit_int_str, kit_int_tuple, kit_int_list, kit_int_dict, kit_str_bool, kit_str_int, kit_str_str, kit_str_tuple, kit_str_list, kit_str_dict, kit_tuple_bool, kit_tuple_int, kit_tuple_str, kit_tuple_tuple, kit_tuple_list, kit_tuple_dict, kit_list_bool, kit_list_int, kit_list_str, kit_list_tuple, kit_list_list, kit_list_dict, kit_dict_bool, kit_dict_int, kit_dict_str, kit_dict_tuple, kit_dict_list, kit_dict_dict, dFn1, dFn2, dFn3, atI0, atI1, atI2, atI3, vAnd, vOr, vNot, Option.bind_none, Option.map_none, if_true, if_false, Bool.not_true, Bool.not_false, decide_true, decide_false, Bool.false_eq_true]), true, (by first | rfl | simp [fT, fE, fA, bOr, bAnd, bNot, tb, tru, truD, dCall, lCall, gIsi, aCons, aNil, dVar, dC, dChain, gLe, gLt, gGe, gGt, gLen, gEq, gNe, eq2_str, eq2_int, eq2_bl, gIx, dBin, dTup, dIf, gAdd, gAddS, gAddT, gAll, gAny, gTuple, gList, gInt, startD, tyName, seqOf, lstOf, List.map_cons, List.map_nil, List.length_cons, List.length_nil, List.replicate, Option.bind_some, Option.map_some, Option.join_some, kit_NoneType_bool, kit_NoneType_int, kit_NoneType_str, kit_NoneType_tuple, kit_NoneType_list, kit_NoneType_dict, kit_bool_bool, kit_bool_int, kit_bool_str, kit_bool_tuple, kit_bool_list, kit_bool_dict, kit_int_bool, kit_int_int, kit_int_str, kit_int_tuple, kit_int_list, kit_int_dict, kit_str_bool, kit_str_int, kit_str_str, kit_str_tuple, kit_str_list, kit_str_dict, kit_tuple_bool, kit_tuple_int, kit_tuple_str, kit_tuple_tuple, kit_tuple_list, kit_tuple_dict, kit_list_bool, kit_list_int, kit_list_str, kit_list_tuple, kit_list_list, kit_list_dict, kit_dict_bool, kit_dict_int, kit_dict_str, kit_dict_tuple, kit_dict_list, kit_dict_dict, dFn1, dFn2, dFn3, atI0, atI1, atI2, atI3, vAnd, vOr, vNot, Option.bind_none, Option.map_none, if_true, if_false, Bool.not_true, Bool.not_false, decide_true, decide_false, Bool.false_eq_true]), .tup (fs ++ [.tup [.str "to", .str a, x, .str b], .tup [.str "to", .str b, y, .str c]]), ?_, RdQ.here q⟩
    have e : fs.length ≤ 999998 := by omega
    simp [fT, fE, fA, bOr, bAnd, bNot, tb, tru, truD, dCall, lCall, gIsi, aCons, aNil, dVar, dC, dChain, gLe, gLt, gGe, gGt, gLen, gEq, gNe, eq2_str, eq2_int, eq2_bl, gIx, dBin, dTup, dIf, gAdd, gAddS, gAddT, gAll, gAny, gTuple, gList, gInt, startD, tyName, seqOf, lstOf, List.map_cons, List.map_nil, List.length_cons, List.length_nil, List.replicate, Option.bind_some, Option.map_some, Option.join_some, kit_NoneType_bool, kit_NoneType_int, kit_NoneType_str, kit_NoneType_tuple, kit_NoneType_list, kit_NoneType_dict, kit_bool_bool, kit_bool_int, kit_bool_str, kit_bool_tuple, kit_bool_list, kit_bool_dict, kit_int_bool, kit_int_int, kit_int_str, kit_int_tuple, kit_int_list, kit_int_dict, kit_str_bool, kit_str_int, kit_str_str, kit_str_tuple, kit_str_list, kit_str_dict, kit_tuple_bool, kit_tuple_int, kit_tuple_str, kit_tuple_tuple, kit_tuple_list, kit_tuple_dict, kit_list_bool, kit_list_int, kit_list_str, kit_list_tuple, kit_list_list, kit_list_dict, kit_dict_bool, kit_dict_int, kit_dict_str, kit_dict_tuple, kit_dict_list, kit_dict_dict, dFn1, dFn2, dFn3, atI0, atI1, atI2, atI3, vAnd, vOr, vNot, Option.bind_none, Option.map_none, if_true, if_false, Bool.not_true, Bool.not_false, decide_true, decide_false, Bool.false_eq_true, e]
abbrev pers (x : Str) : D := .tup [.str "person", .str x]
theorem has_goal_of (W : Wd K mg) : Has P w K mg base 4 "goal_of" 2 (fun ds S Q => ∃ fs cl a b c, ds = [.tup fs, cl] ∧ wfFs 9 (.tup fs) = true ∧ fs.length ≤ 900 ∧ freshS fs = [a, b, c] ∧
    ((∃ x y, cl = .tup [.str "role", x, y] ∧ Q (.tup [.str "link", pers a, y, pers b]) S) ∨ ∃ x y z, cl = .tup [.str "chain", x, y, z] ∧ Q (.tup [.str "link", pers a, z, pers c]) S)) := by
  have Sc := sc_goal_of
  refine has_ok W.d_goal_of Sc (fun _ _ _ _ _ _ us hl => match us, hl with | [_, _], _ => rfl) fun f cdv A outer s H E hr => ?_
  have hu := bare_units hr
  have hd : WSs (cxOf C8.CX0 P w K mg base ["facts", "claim", "first", "second", "third", "word"] "goal_of" (defScope (top 37)) f cdv A outer s H E).nox (defBody (top 37)) _ := (wss_cons (ws_asg (wl_lcS (own := [("word", 5)]) rfl Sc.nd (blkOk_by (by rfl)) iok_lst (fi_lst (fe_call (has_fresh_persons W) hr (by first | decide | omega) rfl (fa_cons (fe_v 0) fa_nil))) (tgb_name (i := 5)) (fun _ _ _ _ _ => (pg_name (i := 5) Sc.nd rfl (Or.inl rfl))) (fun _ _ _ _ _ => ftn) (fun _ _ _ _ _ => (fe_tup (fa_cons (fe_str) (fa_cons (fe_v 5) fa_nil))))) (wg_lst rfl (wgs_cons (wg_name (i := 2) Sc.nd) (wgs_cons (wg_name (i := 3) Sc.nd) (wgs_cons (wg_name (i := 4) Sc.nd) wgs_nil)))))
      (wss_cons (ws_if (ft_eq hu (fe_ix (fe_v 1) (fe_int)) (fe_str)) (wss_one (ws_ret (fe_v 1))) wss_nil)
      (wss_cons (ws_if (ft_eq hu (fe_ix (fe_v 1) (fe_int)) (fe_str)) (wss_one (ws_ret (fe_tup (fa_cons (fe_str) (fa_cons (fe_tup (fa_cons (fe_str) (fa_cons (fe_ix (fe_v 1) (fe_int)) fa_nil))) (fa_cons (fe_ix (fe_v 1) (fe_int)) fa_nil)))))) wss_nil)
      (wss_cons (ws_if (ft_eq hu (fe_ix (fe_v 1) (fe_int)) (fe_str)) (wss_one (ws_ret (fe_tup (fa_cons (fe_str) (fa_cons (fe_tup (fa_cons (fe_str) (fa_cons (fe_ix (fe_v 1) (fe_int)) fa_nil))) (fa_cons (fe_ix (fe_v 1) (fe_int)) (fa_cons (fe_tup (fa_cons (fe_str) (fa_cons (fe_ix (fe_v 1) (fe_int)) fa_nil))) fa_nil))))))) wss_nil)
      (wss_cons (ws_if (ft_eq hu (fe_ix (fe_v 1) (fe_int)) (fe_str)) (wss_one (ws_ret (fe_tup (fa_cons (fe_str) (fa_cons (fe_v 2) (fa_cons (fe_ix (fe_v 1) (fe_int)) (fa_cons (fe_v 3) fa_nil))))))) wss_nil)
      (wss_one (ws_ret (fe_tup (fa_cons (fe_str) (fa_cons (fe_v 2) (fa_cons (fe_ix (fe_v 1) (fe_int)) (fa_cons (fe_v 4) fa_nil))))))))))))
  refine ⟨_, hd, fun ds S Q hl hp => ?_⟩
  clear hd
  obtain ⟨fs, cl, a, b, c, rfl, hb, hz, hf, hq⟩ := hp
  have hz2 : fs.length ≤ 1000 := by omega
  refine ⟨[.str a, .str b, .str c], none, by simp [itLst, fT, fE, fA, bOr, bAnd, bNot, tb, tru, truD, dCall, lCall, gIsi, aCons, aNil, dVar, dC, dChain, gLe, gLt, gGe, gGt, gLen, gEq, gNe, eq2_str, eq2_int, eq2_bl, gIx, dBin, dTup, dIf, gAdd, gAddS, gAddT, gAll, gAny, gTuple, gList, gInt, startD, tyName, seqOf, lstOf, List.map_cons, List.map_nil, List.length_cons, List.length_nil, List.replicate, Option.bind_some, Option.map_some, Option.join_some, kit_NoneType_bool, kit_NoneType_int, kit_NoneType_str, kit_NoneType_tuple, kit_NoneType_list, kit_NoneType_dict, kit_bool_bool, kit_bool_int, kit_bool_str, kit_bool_tuple, kit_bool_list, kit_bool_dict, kit_int_bool, kit_int_int, kit_int_str, kit_int_tuple, kit_int_list, kit_int_dict, kit_str_bool, kit_str_int, kit_str_str, kit_str_tuple, kit_str_list, kit_str_dict, kit_tuple_bool, kit_tuple_int, kit_tuple_str, kit_tuple_tuple, kit_tuple_list, kit_tuple_dict, kit_list_bool, kit_list_int, kit_list_str, kit_list_tuple, kit_list_list, kit_list_dict, kit_dict_bool, kit_dict_int, kit_dict_str, kit_dict_tuple, kit_dict_list, kit_dict_dict, dFn1, dFn2, dFn3, atI0, atI1, atI2, atI3, vAnd, vOr, vNot, Option.bind_none, Option.map_none, if_true, if_false, Bool.not_true, Bool.not_false, decide_true, decide_false, Bool.false_eq_true, hb, hz2, hf], fun _ => true, fun d => .tup [.str "person", d], by simp, fun d hd S' _ => ⟨_, rfl, rfl, fun _ => (by first | rfl | simp [fT, fE, fA, bOr, bAnd, bNot, tb, tru, truD, dCall, lCall, gIsi, aCons, aNil, dVar, dC, dChain, gLe, gLt, gGe, gGt, gLen, gEq, gNe, eq2_str, eq2_int, eq2_bl, gIx, dBin, dTup, dIf, gAdd, gAddS, gAddT, gAll, gAny, gTuple, gList, gInt, startD, tyName, seqOf, lstOf, List.map_cons, List.map_nil, List.length_cons, List.length_nil, List.replicate, Option.bind_some, Option.map_some, Option.join_some, kit_NoneType_bool, kit_NoneType_int, kit_NoneType_str, kit_NoneType_tuple, kit_NoneType_list, kit_NoneType_dict, kit_bool_bool, kit_bool_int, kit_bool_str, kit_bool_tuple, kit_bool_list, kit_bool_dict, kit_int_bool, kit_int_int, kit_int_str, kit_int_tuple, kit_int_list, kit_int_dict, kit_str_bool, kit_str_int, kit_str_str, kit_str_tuple, kit_str_list, kit_str_dict, kit_tuple_bool, kit_tuple_int, kit_tuple_str, kit_tuple_tuple, kit_tuple_list, kit_tuple_dict, kit_list_bool, kit_list_int, kit_list_str, kit_list_tuple, kit_list_list, kit_list_dict, kit_dict_bool, kit_dict_int, kit_dict_str, kit_dict_tuple, kit_dict_list, kit_dict_dict, dFn1, dFn2, dFn3, atI0, atI1, atI2, atI3, vAnd, vOr, vNot, Option.bind_none, Option.map_none, if_true, if_false, Bool.not_true, Bool.not_false, decide_true, decide_false, Bool.false_eq_true])⟩, ?_⟩
  refine ⟨_, rfl, rfl, ?_⟩
  refine ⟨_, _, rfl, _, _, rfl, _, _, rfl, rfl, ?_⟩
  rcases hq with ⟨x, y, rfl, q⟩ | ⟨x, y, z, rfl, q⟩
  · exact ⟨false, (by first | rfl | simp [fT, fE, fA, bOr, bAnd, bNot, tb, tru, truD, dCall, lCall, gIsi, aCons, aNil, dVar, dC, dChain, gLe, gLt, gGe, gGt, gLen, gEq, gNe, eq2_str, eq2_int, eq2_bl, gIx, dBin, dTup, dIf, gAdd, gAddS, gAddT, gAll, gAny, gTuple, gList, gInt, startD, tyName, seqOf, lstOf, List.map_cons, List.map_nil, List.length_cons, List.length_nil, List.replicate, Option.bind_some, Option.map_some, Option.join_some, kit_NoneType_bool, kit_NoneType_int, kit_NoneType_str, kit_NoneType_tuple, kit_NoneType_list, kit_NoneType_dict, kit_bool_bool, kit_bool_int, kit_bool_str, kit_bool_tuple, kit_bool_list, kit_bool_dict, kit_int_bool, kit_int_int, kit_int_str, kit_int_tuple, kit_int_list, kit_int_dict, kit_str_bool, kit_str_int, kit_str_str, kit_str_tuple, kit_str_list, kit_str_dict, kit_tuple_bool, kit_tuple_int, kit_tuple_str, kit_tuple_tuple, kit_tuple_list, kit_tuple_dict, kit_list_bool, kit_list_int, kit_list_str, kit_list_tuple, kit_list_list, kit_list_dict, kit_dict_bool, kit_dict_int, kit_dict_str, kit_dict_tuple, kit_dict_list, kit_dict_dict, dFn1, dFn2, dFn3, atI0, atI1, atI2, atI3, vAnd, vOr, vNot, Option.bind_none, Option.map_none, if_true, if_false, Bool.not_true, Bool.not_false, decide_true, decide_false, Bool.false_eq_true]), false, (by first | rfl | simp [fT, fE, fA, bOr, bAnd, bNot, tb, tru, truD, dCall, lCall, gIsi, aCons, aNil, dVar, dC, dChain, gLe, gLt, gGe, gGt, gLen, gEq, gNe, eq2_str, eq2_int, eq2_bl, gIx, dBin, dTup, dIf, gAdd, gAddS, gAddT, gAll, gAny, gTuple, gList, gInt, startD, tyName, seqOf, lstOf, List.map_cons, List.map_nil, List.length_cons, List.length_nil, List.replicate, Option.bind_some, Option.map_some, Option.join_some, kit_NoneType_bool, kit_NoneType_int, kit_NoneType_str, kit_NoneType_tuple, kit_NoneType_list, kit_NoneType_dict, kit_bool_bool, kit_bool_int, kit_bool_str, kit_bool_tuple, kit_bool_list, kit_bool_dict, kit_int_bool, kit_int_int, kit_int_str, kit_int_tuple, kit_int_list, kit_int_dict, kit_str_bool, kit_str_int, kit_str_str, kit_str_tuple, kit_str_list, kit_str_dict, kit_tuple_bool, kit_tuple_int, kit_tuple_str, kit_tuple_tuple, kit_tuple_list, kit_tuple_dict, kit_list_bool, kit_list_int, kit_list_str, kit_list_tuple, kit_list_list, kit_list_dict, kit_dict_bool, kit_dict_int, kit_dict_str, kit_dict_tuple, kit_dict_list, kit_dict_dict, dFn1, dFn2, dFn3, atI0, atI1, atI2, atI3, vAnd, vOr, vNot, Option.bind_none, Option.map_none, if_true, if_false, Bool.not_true, Bool.not_false, decide_true, decide_false, Bool.false_eq_true]), false, (by first | rfl | simp [fT, fE, fA, bOr, bAnd, bNot, tb, tru, truD, dCall, lCall, gIsi, aCons, aNil, dVar, dC, dChain, gLe, gLt, gGe, gGt, gLen, gEq, gNe, eq2_str, eq2_int, eq2_bl, gIx, dBin, dTup, dIf, gAdd, gAddS, gAddT, gAll, gAny, gTuple, gList, gInt, startD, tyName, seqOf, lstOf, List.map_cons, List.map_nil, List.length_cons, List.length_nil, List.replicate, Option.bind_some, Option.map_some, Option.join_some, kit_NoneType_bool, kit_NoneType_int, kit_NoneType_str, kit_NoneType_tuple, kit_NoneType_list, kit_NoneType_dict, kit_bool_bool, kit_bool_int, kit_bool_str, kit_bool_tuple, kit_bool_list, kit_bool_dict, kit_int_bool, kit_int_int, kit_int_str, kit_int_tuple, kit_int_list, kit_int_dict, kit_str_bool, kit_str_int, kit_str_str, kit_str_tuple, kit_str_list, kit_str_dict, kit_tuple_bool, kit_tuple_int, kit_tuple_str, kit_tuple_tuple, kit_tuple_list, kit_tuple_dict, kit_list_bool, kit_list_int, kit_list_str, kit_list_tuple, kit_list_list, kit_list_dict, kit_dict_bool, kit_dict_int, kit_dict_str, kit_dict_tuple, kit_dict_list, kit_dict_dict, dFn1, dFn2, dFn3, atI0, atI1, atI2, atI3, vAnd, vOr, vNot, Option.bind_none, Option.map_none, if_true, if_false, Bool.not_true, Bool.not_false, decide_true, decide_false, Bool.false_eq_true]), true, (by first | rfl | simp [fT, fE, fA, bOr, bAnd, bNot, tb, tru, truD, dCall, lCall, gIsi, aCons, aNil, dVar, dC, dChain, gLe, gLt, gGe, gGt, gLen, gEq, gNe, eq2_str, eq2_int, eq2_bl, gIx, dBin, dTup, dIf, gAdd, gAddS, gAddT, gAll, gAny, gTuple, gList, gInt, startD, tyName, seqOf, lstOf, List.map_cons, List.map_nil, List.length_cons, List.length_nil, List.replicate, Option.bind_some, Option.map_some, Option.join_some, kit_NoneType_bool, kit_NoneType_int, kit_NoneType_str, kit_NoneType_tuple, kit_NoneType_list, kit_NoneType_dict, kit_bool_bool, kit_bool_int, kit_bool_str, kit_bool_tuple, kit_bool_list, kit_bool_dict, kit_int_bool, kit_int_int, kit_int_str, kit_int_tuple, kit_int_list, kit_int_dict, kit_str_bool, kit_str_int, kit_str_str, kit_str_tuple, kit_str_list, kit_str_dict, kit_tuple_bool, kit_tuple_int, kit_tuple_str, kit_tuple_tuple, kit_tuple_list, kit_tuple_dict, kit_list_bool, kit_list_int, kit_list_str, kit_list_tuple, kit_list_list, kit_list_dict, kit_dict_bool, kit_dict_int, kit_dict_str, kit_dict_tuple, kit_dict_list, kit_dict_dict, dFn1, dFn2, dFn3, atI0, atI1, atI2, atI3, vAnd, vOr, vNot, Option.bind_none, Option.map_none, if_true, if_false, Bool.not_true, Bool.not_false, decide_true, decide_false, Bool.false_eq_true]), _, rfl, RdQ.here q⟩
  · exact ⟨false, (by first | rfl | simp [fT, fE, fA, bOr, bAnd, bNot, tb, tru, truD, dCall, lCall, gIsi, aCons, aNil, dVar, dC, dChain, gLe, gLt, gGe, gGt, gLen, gEq, gNe, eq2_str, eq2_int, eq2_bl, gIx, dBin, dTup, dIf, gAdd, gAddS, gAddT, gAll, gAny, gTuple, gList, gInt, startD, tyName, seqOf, lstOf, List.map_cons, List.map_nil, List.length_cons, List.length_nil, List.replicate, Option.bind_some, Option.map_some, Option.join_some, kit_NoneType_bool, kit_NoneType_int, kit_NoneType_str, kit_NoneType_tuple, kit_NoneType_list, kit_NoneType_dict, kit_bool_bool, kit_bool_int, kit_bool_str, kit_bool_tuple, kit_bool_list, kit_bool_dict, kit_int_bool, kit_int_int, kit_int_str, kit_int_tuple, kit_int_list, kit_int_dict, kit_str_bool, kit_str_int, kit_str_str, kit_str_tuple, kit_str_list, kit_str_dict, kit_tuple_bool, kit_tuple_int, kit_tuple_str, kit_tuple_tuple, kit_tuple_list, kit_tuple_dict, kit_list_bool, kit_list_int, kit_list_str, kit_list_tuple, kit_list_list, kit_list_dict, kit_dict_bool, kit_dict_int, kit_dict_str, kit_dict_tuple, kit_dict_list, kit_dict_dict, dFn1, dFn2, dFn3, atI0, atI1, atI2, atI3, vAnd, vOr, vNot, Option.bind_none, Option.map_none, if_true, if_false, Bool.not_true, Bool.not_false, decide_true, decide_false, Bool.false_eq_true]), false, (by first | rfl | simp [fT, fE, fA, bOr, bAnd, bNot, tb, tru, truD, dCall, lCall, gIsi, aCons, aNil, dVar, dC, dChain, gLe, gLt, gGe, gGt, gLen, gEq, gNe, eq2_str, eq2_int, eq2_bl, gIx, dBin, dTup, dIf, gAdd, gAddS, gAddT, gAll, gAny, gTuple, gList, gInt, startD, tyName, seqOf, lstOf, List.map_cons, List.map_nil, List.length_cons, List.length_nil, List.replicate, Option.bind_some, Option.map_some, Option.join_some, kit_NoneType_bool, kit_NoneType_int, kit_NoneType_str, kit_NoneType_tuple, kit_NoneType_list, kit_NoneType_dict, kit_bool_bool, kit_bool_int, kit_bool_str, kit_bool_tuple, kit_bool_list, kit_bool_dict, kit_int_bool, kit_int_int, kit_int_str, kit_int_tuple, kit_int_list, kit_int_dict, kit_str_bool, kit_str_int, kit_str_str, kit_str_tuple, kit_str_list, kit_str_dict, kit_tuple_bool, kit_tuple_int, kit_tuple_str, kit_tuple_tuple, kit_tuple_list, kit_tuple_dict, kit_list_bool, kit_list_int, kit_list_str, kit_list_tuple, kit_list_list, kit_list_dict, kit_dict_bool, kit_dict_int, kit_dict_str, kit_dict_tuple, kit_dict_list, kit_dict_dict, dFn1, dFn2, dFn3, atI0, atI1, atI2, atI3, vAnd, vOr, vNot, Option.bind_none, Option.map_none, if_true, if_false, Bool.not_true, Bool.not_false, decide_true, decide_false, Bool.false_eq_true]), false, (by first | rfl | simp [fT, fE, fA, bOr, bAnd, bNot, tb, tru, truD, dCall, lCall, gIsi, aCons, aNil, dVar, dC, dChain, gLe, gLt, gGe, gGt, gLen, gEq, gNe, eq2_str, eq2_int, eq2_bl, gIx, dBin, dTup, dIf, gAdd, gAddS, gAddT, gAll, gAny, gTuple, gList, gInt, startD, tyName, seqOf, lstOf, List.map_cons, List.map_nil, List.length_cons, List.length_nil, List.replicate, Option.bind_some, Option.map_some, Option.join_some, kit_NoneType_bool, kit_NoneType_int, kit_NoneType_str, kit_NoneType_tuple, kit_NoneType_list, kit_NoneType_dict, kit_bool_bool, kit_bool_int, kit_bool_str, kit_bool_tuple, kit_bool_list, kit_bool_dict, kit_int_bool, kit_int_int, kit_int_str, kit_int_tuple, kit_int_list, kit_int_dict, kit_str_bool, kit_str_int, kit_str_str, kit_str_tuple, kit_str_list, kit_str_dict, kit_tuple_bool, kit_tuple_int, kit_tuple_str, kit_tuple_tuple, kit_tuple_list, kit_tuple_dict, kit_list_bool, kit_list_int, kit_list_str, kit_list_tuple, kit_list_list, kit_list_dict, kit_dict_bool, kit_dict_int, kit_dict_str, kit_dict_tuple, kit_dict_list, kit_dict_dict, dFn1, dFn2, dFn3, atI0, atI1, atI2, atI3, vAnd, vOr, vNot, Option.bind_none, Option.map_none, if_true, if_false, Bool.not_true, Bool.not_false, decide_true, decide_false, Bool.false_eq_true]), false, (by first | rfl | simp [fT, fE, fA, bOr, bAnd, bNot, tb, tru, truD, dCall, lCall, gIsi, aCons, aNil, dVar, dC, dChain, gLe, gLt, gGe, gGt, gLen, gEq, gNe, eq2_str, eq2_int, eq2_bl, gIx, dBin, dTup, dIf, gAdd, gAddS, gAddT, gAll, gAny, gTuple, gList, gInt, startD, tyName, seqOf, lstOf, List.map_cons, List.map_nil, List.length_cons, List.length_nil, List.replicate, Option.bind_some, Option.map_some, Option.join_some, kit_NoneType_bool, kit_NoneType_int, kit_NoneType_str, kit_NoneType_tuple, kit_NoneType_list, kit_NoneType_dict, kit_bool_bool, kit_bool_int, kit_bool_str, kit_bool_tuple, kit_bool_list, kit_bool_dict, kit_int_bool, kit_int_int, kit_int_str, kit_int_tuple, kit_int_list, kit_int_dict, kit_str_bool, kit_str_int, kit_str_str, kit_str_tuple, kit_str_list, kit_str_dict, kit_tuple_bool, kit_tuple_int, kit_tuple_str, kit_tuple_tuple, kit_tuple_list, kit_tuple_dict, kit_list_bool, kit_list_int, kit_list_str, kit_list_tuple, kit_list_list, kit_list_dict, kit_dict_bool, kit_dict_int, kit_dict_str, kit_dict_tuple, kit_dict_list, kit_dict_dict, dFn1, dFn2, dFn3, atI0, atI1, atI2, atI3, vAnd, vOr, vNot, Option.bind_none, Option.map_none, if_true, if_false, Bool.not_true, Bool.not_false, decide_true, decide_false, Bool.false_eq_true]), _, rfl, RdQ.here q⟩
def conD : D → Option D
  | .tup [.str _, x, k] => some (.tup [.str "below", .tup [.str "person", x], k])
  | .tup [.str _, x, r, y] => some (.tup [.str "link", .tup [.str "person", x], r, .tup [.str "person", y]])
  | _ => none
theorem has_conclusion_of_fact (W : Wd K mg) : Has P w K mg base 1 "conclusion_of_fact" 1 (pureSp (p1 fun a => if wfF 9 a = true then conD a else none)) := by
  have Sc := sc_conclusion_of_fact
  refine has_ok W.d_conclusion_of_fact Sc (fun _ _ _ _ _ _ us hl => match us, hl with | [_], _ => rfl) fun f cdv A outer s H E hr => ?_
  have hu := bare_units hr
  have hd : WSs (cxOf C8.CX0 P w K mg base ["fact"] "conclusion_of_fact" (defScope (top 39)) f cdv A outer s H E).nox (defBody (top 39)) _ := (wss_cons (ws_if (ft_eq hu (fe_ix (fe_v 0) (fe_int)) (fe_str)) (wss_one (ws_ret (fe_tup (fa_cons (fe_str) (fa_cons (fe_tup (fa_cons (fe_str) (fa_cons (fe_ix (fe_v 0) (fe_int)) fa_nil))) (fa_cons (fe_ix (fe_v 0) (fe_int)) fa_nil)))))) wss_nil)
      (wss_one (ws_ret (fe_tup (fa_cons (fe_str) (fa_cons (fe_tup (fa_cons (fe_str) (fa_cons (fe_ix (fe_v 0) (fe_int)) fa_nil))) (fa_cons (fe_ix (fe_v 0) (fe_int)) (fa_cons (fe_tup (fa_cons (fe_str) (fa_cons (fe_ix (fe_v 0) (fe_int)) fa_nil))) fa_nil))))))))
  refine ⟨_, hd, fun ds S Q hl hp => ?_⟩
  clear hd
  obtain ⟨a, d, rfl, h, q⟩ := p1_open hp
  obtain ⟨hw, h2⟩ := ite_some h
  match a, hw, h2 with
  | .tup [.str t, x, k], hw, h2 =>
    have hw : (decide (t = "is") && wfW x && wfK 9 k) = true := hw
    simp only [Bool.and_eq_true, decide_eq_true_eq] at hw
    obtain ⟨⟨rfl, _⟩, _⟩ := hw
    cases h2
    exact ⟨true, (by first | rfl | simp [fT, fE, fA, bOr, bAnd, bNot, tb, tru, truD, dCall, lCall, gIsi, aCons, aNil, dVar, dC, dChain, gLe, gLt, gGe, gGt, gLen, gEq, gNe, eq2_str, eq2_int, eq2_bl, gIx, dBin, dTup, dIf, gAdd, gAddS, gAddT, gAll, gAny, gTuple, gList, gInt, startD, tyName, seqOf, lstOf, List.map_cons, List.map_nil, List.length_cons, List.length_nil, List.replicate, Option.bind_some, Option.map_some, Option.join_some, kit_NoneType_bool, kit_NoneType_int, kit_NoneType_str, kit_NoneType_tuple, kit_NoneType_list, kit_NoneType_dict, kit_bool_bool, kit_bool_int, kit_bool_str, kit_bool_tuple, kit_bool_list, kit_bool_dict, kit_int_bool, kit_int_int, kit_int_str, kit_int_tuple, kit_int_list, kit_int_dict, kit_str_bool, kit_str_int, kit_str_str, kit_str_tuple, kit_str_list, kit_str_dict, kit_tuple_bool, kit_tuple_int, kit_tuple_str, kit_tuple_tuple, kit_tuple_list, kit_tuple_dict, kit_list_bool, kit_list_int, kit_list_str, kit_list_tuple, kit_list_list, kit_list_dict, kit_dict_bool, kit_dict_int, kit_dict_str, kit_dict_tuple, kit_dict_list, kit_dict_dict, dFn1, dFn2, dFn3, atI0, atI1, atI2, atI3, vAnd, vOr, vNot, Option.bind_none, Option.map_none, if_true, if_false, Bool.not_true, Bool.not_false, decide_true, decide_false, Bool.false_eq_true]), _, rfl, RdQ.here q⟩
  | .tup [.str t, x, y, z], hw, h2 =>
    have hw : (decide (t = "to") && wfW x && wfW y && wfW z) = true := hw
    simp only [Bool.and_eq_true, decide_eq_true_eq] at hw
    obtain ⟨⟨⟨rfl, _⟩, _⟩, _⟩ := hw
    cases h2
    exact ⟨false, (by first | rfl | simp [fT, fE, fA, bOr, bAnd, bNot, tb, tru, truD, dCall, lCall, gIsi, aCons, aNil, dVar, dC, dChain, gLe, gLt, gGe, gGt, gLen, gEq, gNe, eq2_str, eq2_int, eq2_bl, gIx, dBin, dTup, dIf, gAdd, gAddS, gAddT, gAll, gAny, gTuple, gList, gInt, startD, tyName, seqOf, lstOf, List.map_cons, List.map_nil, List.length_cons, List.length_nil, List.replicate, Option.bind_some, Option.map_some, Option.join_some, kit_NoneType_bool, kit_NoneType_int, kit_NoneType_str, kit_NoneType_tuple, kit_NoneType_list, kit_NoneType_dict, kit_bool_bool, kit_bool_int, kit_bool_str, kit_bool_tuple, kit_bool_list, kit_bool_dict, kit_int_bool, kit_int_int, kit_int_str, kit_int_tuple, kit_int_list, kit_int_dict, kit_str_bool, kit_str_int, kit_str_str, kit_str_tuple, kit_str_list, kit_str_dict, kit_tuple_bool, kit_tuple_int, kit_tuple_str, kit_tuple_tuple, kit_tuple_list, kit_tuple_dict, kit_list_bool, kit_list_int, kit_list_str, kit_list_tuple, kit_list_list, kit_list_dict, kit_dict_bool, kit_dict_int, kit_dict_str, kit_dict_tuple, kit_dict_list, kit_dict_dict, dFn1, dFn2, dFn3, atI0, atI1, atI2, atI3, vAnd, vOr, vNot, Option.bind_none, Option.map_none, if_true, if_false, Bool.not_true, Bool.not_false, decide_true, decide_false, Bool.false_eq_true]), _, rfl, RdQ.here q⟩
theorem has_asked_of (W : Wd K mg) : Has P w K mg base 5 "asked_of" 3 (fun ds S Q => ∃ bs fl kl, ds = [.tup bs, .tup fl, .tup kl] ∧ AskOk bs fl kl ∧ Q (.tup (sortD (askedD bs fl kl))) S) := by
  have Sc := sc_asked_of
  refine has_ok W.d_asked_of Sc (fun _ _ _ _ _ _ us hl => match us, hl with | [_, _, _], _ => rfl) fun f cdv A outer s H E hr => ?_
  have hu := bare_units hr
  have hd : WSs (cxOf C8.CX0 P w K mg base ["book", "facts", "kinds", "found", "whole", "fact", "kind", "part"] "asked_of" (defScope (top 41)) f cdv A outer s H E).nox (defBody (top 41)) _ := (wss_cons (ws_set (i := 3) Sc.nd (we_disp2 hu (fe_gc W.any rfl) (fe_bl) (fe_gc W.none rfl) (fe_bl)))
      (wss_cons (ws_set (i := 4) Sc.nd (we_addL (fe_call (has_kinds_of_sayings W) hr (by first | decide | omega) rfl (fa_cons (fe_v 0) fa_nil)) (fe_list rfl W.f_list (fe_v 2))))
      (wss_cons (ws_for PassesOwn.never rfl (fi_tup (fe_v 1)) (wg_name (i := 5) Sc.nd) (wss_one (ws_expr (we_extendT (fe_v 4) (fa_cons (fe_call (has_kinds_in W) hr (by first | decide | omega) rfl (fa_cons (fe_v 5) fa_nil)) fa_nil)))))
      (wss_cons (ws_for PassesOwn.never rfl (fi_lst (fe_v 4)) (wg_name (i := 6) Sc.nd) (wss_one (ws_for PassesOwn.never rfl (fi_lst (fe_call (has_parts_of W 9) hr (by first | decide | omega) rfl (fa_cons (fe_v 6) fa_nil))) (wg_name (i := 7) Sc.nd) (wss_one (ws_dput hu (fe_v 3) (fe_v 7) (fe_bl))))))
      (wss_one (ws_ret (we_tuple rfl W.f_tuple (we_rd (we_sorted rfl hu rfl W.f_sorted (fa_cons (fe_v 3) fa_nil))))))))))
  refine ⟨_, hd, fun ds S Q hl hp => ?_⟩
  clear hd
  obtain ⟨bs, fl, kl, rfl, ok, q⟩ := hp
  intro pf hpf
  refine ⟨_, rfl, _, rfl, _, rfl, _, rfl, rfl, rfl, put_same, ?_⟩
  have e1 : (bs.all fun d => wfS 9 d || wfF 9 d) = true := by
    rw [List.all_eq_true]
    intro d hd
    rw [ok.b d hd]
    rfl
  have hkl := kosD_len bs
  have hbl := ok.lb
  have hll := ok.lk
  have hfl := ok.lf
  refine ⟨.lst (kosD bs), by
    simp [fT, fE, fA, bOr, bAnd, bNot, tb, tru, truD, dCall, lCall, gIsi, aCons, aNil, dVar, dC, dChain, gLe, gLt, gGe, gGt, gLen, gEq, gNe, eq2_str, eq2_int, eq2_bl, gIx, dBin, dTup, dIf, gAdd, gAddS, gAddT, gAll, gAny, gTuple, gList, gInt, startD, tyName, seqOf, lstOf, List.map_cons, List.map_nil, List.length_cons, List.length_nil, List.replicate, Option.bind_some, Option.map_some, Option.join_some, kit_NoneType_bool, kit_NoneType_int, kit_NoneType_str, kit_NoneType_tuple, kit_NoneType_list, kit_NoneType_dict, kit_bool_bool, kit_bool_int, kit_bool_str, kit_bool_tuple, kit_bool_list, kit_bool_dict, kit_int_bool, kit_int_int, kit_int_str, kit_int_tuple, kit_int_list, kit_int_dict, kit_str_bool, kit_str_int, kit_str_str, kit_str_tuple, kit_str_list, kit_str_dict, kit_tuple_bool, kit_tuple_int, kit_tuple_str, kit_tuple_tuple, kit_tuple_list, kit_tuple_dict, kit_list_bool, kit_list_int, kit_list_str, kit_list_tuple, kit_list_list, kit_list_dict, kit_dict_bool, kit_dict_int, kit_dict_str, kit_dict_tuple, kit_dict_list, kit_dict_dict, dFn1, dFn2, dFn3, atI0, atI1, atI2, atI3, vAnd, vOr, vNot, Option.bind_none, Option.map_none, if_true, if_false, Bool.not_true, Bool.not_false, decide_true, decide_false, Bool.false_eq_true, e1, ok.lb]
    exact fun x hx h => absurd h (by rw [ok.b x hx]; decide), .lst kl, rfl, kosD bs, kl, rfl, rfl, by omega, fun pw hpw => ?_⟩
  have hne : pw ≠ pf := fun z => by rw [z, put_same] at hpw; cases hpw
  have hpw2 : S pw = none := by rw [put_put, put_ne hne] at hpw; exact hpw
  refine ⟨fl, none, rfl, fun i ρ' S' => ∃ o, ρ' = [some (.tup bs), some (.tup fl), some (.tup kl), some (.ref pf), some (.ref pw), o, none, none] ∧ S' pf = some (.dT (trueT [anyD, noneD])) ∧ S' pw = some (.lst (kosD bs ++ kl ++ (fl.take i).flatMap kofF)) ∧ Le S S', ⟨_, rfl, ?_, by rw [put_same]; simp, ?_⟩, fun _ _ _ _ _ => trivial, fun i d ρ' S' hd hv => ?_, fun ρ' S' hv => ?_⟩
  · rw [put_ne (Ne.symm hne), put_same]
    rfl
  · rw [put_put]
    exact le_putR (le_putR (Le.refl S) hpf) hpw2
  · obtain ⟨o, rfl, h1, h2, hle⟩ := hv
    have ht : fl.take (i + 1) = fl.take i ++ [d] := by rw [List.take_succ, hd]; rfl
    have hw := ok.f d (List.mem_of_getElem? hd)
    have hfk : ∀ l : List D, (l.flatMap kofF).length ≤ l.length := fun l => by
      induction l with
      | nil => exact Nat.le_refl _
      | cons x l ih =>
        have := kofF_len x
        rw [List.flatMap_cons, List.length_append, List.length_cons]
        omega
    have h3 := hfk (fl.take i)
    rw [List.length_take] at h3
    have h4 := kofF_len d
    refine extendT_go (ys := kofF d) (ds := kosD bs ++ kl ++ (fl.take i).flatMap kofF) rfl (by simp [fT, fE, fA, bOr, bAnd, bNot, tb, tru, truD, dCall, lCall, gIsi, aCons, aNil, dVar, dC, dChain, gLe, gLt, gGe, gGt, gLen, gEq, gNe, eq2_str, eq2_int, eq2_bl, gIx, dBin, dTup, dIf, gAdd, gAddS, gAddT, gAll, gAny, gTuple, gList, gInt, startD, tyName, seqOf, lstOf, List.map_cons, List.map_nil, List.length_cons, List.length_nil, List.replicate, Option.bind_some, Option.map_some, Option.join_some, kit_NoneType_bool, kit_NoneType_int, kit_NoneType_str, kit_NoneType_tuple, kit_NoneType_list, kit_NoneType_dict, kit_bool_bool, kit_bool_int, kit_bool_str, kit_bool_tuple, kit_bool_list, kit_bool_dict, kit_int_bool, kit_int_int, kit_int_str, kit_int_tuple, kit_int_list, kit_int_dict, kit_str_bool, kit_str_int, kit_str_str, kit_str_tuple, kit_str_list, kit_str_dict, kit_tuple_bool, kit_tuple_int, kit_tuple_str, kit_tuple_tuple, kit_tuple_list, kit_tuple_dict, kit_list_bool, kit_list_int, kit_list_str, kit_list_tuple, kit_list_list, kit_list_dict, kit_dict_bool, kit_dict_int, kit_dict_str, kit_dict_tuple, kit_dict_list, kit_dict_dict, dFn1, dFn2, dFn3, atI0, atI1, atI2, atI3, vAnd, vOr, vNot, Option.bind_none, Option.map_none, if_true, if_false, Bool.not_true, Bool.not_false, decide_true, decide_false, Bool.false_eq_true, hw]) h2 (by simp only [List.length_append]; omega) ?_
    refine ⟨_, rfl, ?_, ?_, le_putR hle hpw2⟩
    · rw [put_ne (Ne.symm hne)]; exact h1
    · rw [put_same, ht, List.flatMap_append]
      simp
  · obtain ⟨o, rfl, h1, h2, hle⟩ := hv
    rw [List.take_length] at h2
    change S' pw = some (.lst (wholeD bs fl kl)) at h2
    refine ⟨wholeD bs fl kl, some (pw, .lst (wholeD bs fl kl)), by simp [itLst, fT, fE, fA, bOr, bAnd, bNot, tb, tru, truD, dCall, lCall, gIsi, aCons, aNil, dVar, dC, dChain, gLe, gLt, gGe, gGt, gLen, gEq, gNe, eq2_str, eq2_int, eq2_bl, gIx, dBin, dTup, dIf, gAdd, gAddS, gAddT, gAll, gAny, gTuple, gList, gInt, startD, tyName, seqOf, lstOf, List.map_cons, List.map_nil, List.length_cons, List.length_nil, List.replicate, Option.bind_some, Option.map_some, Option.join_some, kit_NoneType_bool, kit_NoneType_int, kit_NoneType_str, kit_NoneType_tuple, kit_NoneType_list, kit_NoneType_dict, kit_bool_bool, kit_bool_int, kit_bool_str, kit_bool_tuple, kit_bool_list, kit_bool_dict, kit_int_bool, kit_int_int, kit_int_str, kit_int_tuple, kit_int_list, kit_int_dict, kit_str_bool, kit_str_int, kit_str_str, kit_str_tuple, kit_str_list, kit_str_dict, kit_tuple_bool, kit_tuple_int, kit_tuple_str, kit_tuple_tuple, kit_tuple_list, kit_tuple_dict, kit_list_bool, kit_list_int, kit_list_str, kit_list_tuple, kit_list_list, kit_list_dict, kit_dict_bool, kit_dict_int, kit_dict_str, kit_dict_tuple, kit_dict_list, kit_dict_dict, dFn1, dFn2, dFn3, atI0, atI1, atI2, atI3, vAnd, vOr, vNot, Option.bind_none, Option.map_none, if_true, if_false, Bool.not_true, Bool.not_false, decide_true, decide_false, Bool.false_eq_true, h2], fun i ρ2 S2 => ∃ o2 o3, ρ2 = [some (.tup bs), some (.tup fl), some (.tup kl), some (.ref pf), some (.ref pw), o, o2, o3] ∧ S2 pf = some (.dT (trueT (addKs [anyD, noneD] (((wholeD bs fl kl).take i).flatMap (partsD 9))))) ∧ S2 pw = some (.lst (wholeD bs fl kl)) ∧ Le S S2,
      ⟨_, _, rfl, by simpa [addKs] using h1, h2, hle⟩, fun i ρ2 S2 _ hv => by obtain ⟨_, _, _, _, hv, _⟩ := hv; exact hv, fun i d ρ2 S2 hd hv => ?_, fun ρ2 S2 hv => ?_⟩
    · obtain ⟨o2, o3, rfl, g1, g2, hle2⟩ := hv
      have ht : (wholeD bs fl kl).take (i + 1) = (wholeD bs fl kl).take i ++ [d] := by rw [List.take_succ, hd]; rfl
      have hmem := List.mem_of_getElem? hd
      have hw := ok.wf d hmem
      have hpl : (partsD 9 d).length ≤ 100000 := Nat.le_trans (mem_len_flat (f := partsD 9) hmem) ok.few
      refine ⟨partsD 9 d, none, by simp [itLst, fT, fE, fA, bOr, bAnd, bNot, tb, tru, truD, dCall, lCall, gIsi, aCons, aNil, dVar, dC, dChain, gLe, gLt, gGe, gGt, gLen, gEq, gNe, eq2_str, eq2_int, eq2_bl, gIx, dBin, dTup, dIf, gAdd, gAddS, gAddT, gAll, gAny, gTuple, gList, gInt, startD, tyName, seqOf, lstOf, List.map_cons, List.map_nil, List.length_cons, List.length_nil, List.replicate, Option.bind_some, Option.map_some, Option.join_some, kit_NoneType_bool, kit_NoneType_int, kit_NoneType_str, kit_NoneType_tuple, kit_NoneType_list, kit_NoneType_dict, kit_bool_bool, kit_bool_int, kit_bool_str, kit_bool_tuple, kit_bool_list, kit_bool_dict, kit_int_bool, kit_int_int, kit_int_str, kit_int_tuple, kit_int_list, kit_int_dict, kit_str_bool, kit_str_int, kit_str_str, kit_str_tuple, kit_str_list, kit_str_dict, kit_tuple_bool, kit_tuple_int, kit_tuple_str, kit_tuple_tuple, kit_tuple_list, kit_tuple_dict, kit_list_bool, kit_list_int, kit_list_str, kit_list_tuple, kit_list_list, kit_list_dict, kit_dict_bool, kit_dict_int, kit_dict_str, kit_dict_tuple, kit_dict_list, kit_dict_dict, dFn1, dFn2, dFn3, atI0, atI1, atI2, atI3, vAnd, vOr, vNot, Option.bind_none, Option.map_none, if_true, if_false, Bool.not_true, Bool.not_false, decide_true, decide_false, Bool.false_eq_true, hw, hpl], fun j ρ3 S3 => ∃ o3, ρ3 = [some (.tup bs), some (.tup fl), some (.tup kl), some (.ref pf), some (.ref pw), o, some d, o3] ∧ S3 pf = some (.dT (trueT (addKs [anyD, noneD] (((wholeD bs fl kl).take i).flatMap (partsD 9) ++ (partsD 9 d).take j)))) ∧ S3 pw = some (.lst (wholeD bs fl kl)) ∧ Le S S3,
        ⟨_, rfl, by simpa using g1, g2, hle2⟩, fun _ _ _ _ _ => trivial, fun j x ρ3 S3 hx hv => ?_, fun ρ3 S3 hv => ?_⟩
      · obtain ⟨o3, rfl, f1, f2, hle3⟩ := hv
        have ht2 : (partsD 9 d).take (j + 1) = (partsD 9 d).take j ++ [x] := by rw [List.take_succ, hx]; rfl
        have hxm : x ∈ (wholeD bs fl kl).flatMap (partsD 9) := List.mem_flatMap.mpr ⟨d, hmem, List.mem_of_getElem? hx⟩
        obtain ⟨k, hk⟩ := ok.key x hxm
        have hl : (trueT (addKs [anyD, noneD] (((wholeD bs fl kl).take i).flatMap (partsD 9) ++ (partsD 9 d).take j))).length < 1000000 := by
          unfold trueT
          rw [List.length_map]
          have h5 := addKs_len (ks := [anyD, noneD]) (ds := ((wholeD bs fl kl).take i).flatMap (partsD 9) ++ (partsD 9 d).take j)
          have h6 := flat_take_le (f := partsD 9) (l := wholeD bs fl kl) (i := i)
          have h7 := ok.few
          rw [List.length_append, List.length_take] at h5
          simp only [List.length_cons, List.length_nil] at h5
          omega
        refine dput_go rfl rfl rfl (putD_T f1 hk hl) ?_
        refine ⟨_, rfl, ?_, ?_, le_putR hle3 hpf⟩
        · rw [put_same, putT_true hk, ht2, ← List.append_assoc]
          unfold addKs
          rw [List.foldl_append (l' := [x])]
          rfl
        · rw [put_ne hne]; exact f2
      · obtain ⟨o3, rfl, f1, f2, hle3⟩ := hv
        refine ⟨_, _, rfl, ?_, f2, hle3⟩
        rw [f1, List.take_length, ht, List.flatMap_append]
        simp
    · obtain ⟨o2, o3, rfl, g1, g2, hle2⟩ := hv
      rw [List.take_length] at g1
      change S2 pf = some (.dT (trueT (askedD bs fl kl))) at g1
      refine ⟨[.ref pf], rfl, .ref pf, askedD bs fl kl, rfl, .inr ?_, ok.sort, fun ad hn => rd_new hn ⟨_, rfl, RdQ.le q hle2⟩⟩
      show dictKeys S2 (.ref pf) = _
      simp only [dictKeys, g1]
      rw [trueT_keys]
theorem has_under (W : Wd K mg) : Has P w K mg base 1 "under" 2 dspUnderK := by
  have Sc := sc_under
  refine has_ok W.d_under Sc (fun _ _ _ _ _ _ us hl => match us, hl with | [_, _], _ => rfl) fun f cdv A outer s H E hr => ?_
  have hu := bare_units hr
  have hd : WSs (cxOf C8.CX0 P w K mg base ["table", "key"] "under" (defScope (top 42)) f cdv A outer s H E).nox (defBody (top 42)) _ := (wss_cons (ws_if (ft_dnin hu (fe_v 1) (fe_v 0)) (wss_one (ws_dput hu (fe_v 0) (fe_v 1) (we_lst fa_nil))) wss_nil)
      (wss_one (ws_ret (fe_dget hu (fe_v 0) (fe_v 1)))))
  refine ⟨_, hd, fun ds S Q hl hp => ?_⟩
  clear hd
  obtain ⟨ad, key, rfl, hq⟩ := hp
  rcases hq with ⟨kvs, k, h1, hk, hq⟩ | ⟨kvs, x, h1, rfl, hq⟩
  · have hg : KD.getD S ad key = some (findT k kvs) := by simp only [KD.getD, h1, hk, Option.map_some]
    rcases hq with ⟨v, hv, q⟩ | ⟨hv, hl, q⟩
    · rw [hv] at hg
      refine ⟨false, by simp [fT, fE, fA, bOr, bAnd, bNot, tb, tru, truD, dCall, lCall, gIsi, aCons, aNil, dVar, dC, dChain, gLe, gLt, gGe, gGt, gLen, gEq, gNe, eq2_str, eq2_int, eq2_bl, gIx, dBin, dTup, dIf, gAdd, gAddS, gAddT, gAll, gAny, gTuple, gList, gInt, startD, tyName, seqOf, lstOf, List.map_cons, List.map_nil, List.length_cons, List.length_nil, List.replicate, Option.bind_some, Option.map_some, Option.join_some, kit_NoneType_bool, kit_NoneType_int, kit_NoneType_str, kit_NoneType_tuple, kit_NoneType_list, kit_NoneType_dict, kit_bool_bool, kit_bool_int, kit_bool_str, kit_bool_tuple, kit_bool_list, kit_bool_dict, kit_int_bool, kit_int_int, kit_int_str, kit_int_tuple, kit_int_list, kit_int_dict, kit_str_bool, kit_str_int, kit_str_str, kit_str_tuple, kit_str_list, kit_str_dict, kit_tuple_bool, kit_tuple_int, kit_tuple_str, kit_tuple_tuple, kit_tuple_list, kit_tuple_dict, kit_list_bool, kit_list_int, kit_list_str, kit_list_tuple, kit_list_list, kit_list_dict, kit_dict_bool, kit_dict_int, kit_dict_str, kit_dict_tuple, kit_dict_list, kit_dict_dict, dFn1, dFn2, dFn3, atI0, atI1, atI2, atI3, vAnd, vOr, vNot, Option.bind_none, Option.map_none, if_true, if_false, Bool.not_true, Bool.not_false, decide_true, decide_false, Bool.false_eq_true, dDin, hg], v, by simp [fT, fE, fA, bOr, bAnd, bNot, tb, tru, truD, dCall, lCall, gIsi, aCons, aNil, dVar, dC, dChain, gLe, gLt, gGe, gGt, gLen, gEq, gNe, eq2_str, eq2_int, eq2_bl, gIx, dBin, dTup, dIf, gAdd, gAddS, gAddT, gAll, gAny, gTuple, gList, gInt, startD, tyName, seqOf, lstOf, List.map_cons, List.map_nil, List.length_cons, List.length_nil, List.replicate, Option.bind_some, Option.map_some, Option.join_some, kit_NoneType_bool, kit_NoneType_int, kit_NoneType_str, kit_NoneType_tuple, kit_NoneType_list, kit_NoneType_dict, kit_bool_bool, kit_bool_int, kit_bool_str, kit_bool_tuple, kit_bool_list, kit_bool_dict, kit_int_bool, kit_int_int, kit_int_str, kit_int_tuple, kit_int_list, kit_int_dict, kit_str_bool, kit_str_int, kit_str_str, kit_str_tuple, kit_str_list, kit_str_dict, kit_tuple_bool, kit_tuple_int, kit_tuple_str, kit_tuple_tuple, kit_tuple_list, kit_tuple_dict, kit_list_bool, kit_list_int, kit_list_str, kit_list_tuple, kit_list_list, kit_list_dict, kit_dict_bool, kit_dict_int, kit_dict_str, kit_dict_tuple, kit_dict_list, kit_dict_dict, dFn1, dFn2, dFn3, atI0, atI1, atI2, atI3, vAnd, vOr, vNot, Option.bind_none, Option.map_none, if_true, if_false, Bool.not_true, Bool.not_false, decide_true, decide_false, Bool.false_eq_true, dDget, hg], RdQ.here q⟩
    · rw [hv] at hg
      refine ⟨true, by simp [fT, fE, fA, bOr, bAnd, bNot, tb, tru, truD, dCall, lCall, gIsi, aCons, aNil, dVar, dC, dChain, gLe, gLt, gGe, gGt, gLen, gEq, gNe, eq2_str, eq2_int, eq2_bl, gIx, dBin, dTup, dIf, gAdd, gAddS, gAddT, gAll, gAny, gTuple, gList, gInt, startD, tyName, seqOf, lstOf, List.map_cons, List.map_nil, List.length_cons, List.length_nil, List.replicate, Option.bind_some, Option.map_some, Option.join_some, kit_NoneType_bool, kit_NoneType_int, kit_NoneType_str, kit_NoneType_tuple, kit_NoneType_list, kit_NoneType_dict, kit_bool_bool, kit_bool_int, kit_bool_str, kit_bool_tuple, kit_bool_list, kit_bool_dict, kit_int_bool, kit_int_int, kit_int_str, kit_int_tuple, kit_int_list, kit_int_dict, kit_str_bool, kit_str_int, kit_str_str, kit_str_tuple, kit_str_list, kit_str_dict, kit_tuple_bool, kit_tuple_int, kit_tuple_str, kit_tuple_tuple, kit_tuple_list, kit_tuple_dict, kit_list_bool, kit_list_int, kit_list_str, kit_list_tuple, kit_list_list, kit_list_dict, kit_dict_bool, kit_dict_int, kit_dict_str, kit_dict_tuple, kit_dict_list, kit_dict_dict, dFn1, dFn2, dFn3, atI0, atI1, atI2, atI3, vAnd, vOr, vNot, Option.bind_none, Option.map_none, if_true, if_false, Bool.not_true, Bool.not_false, decide_true, decide_false, Bool.false_eq_true, dDin, hg], ?_⟩
      refine ⟨[], rfl, by decide, fun p hp => ?_⟩
      have hne : ad ≠ p := fun z => by rw [z, hp] at h1; cases h1
      have h2 : put S p (.lst []) ad = some (.dT kvs) := by rw [put_ne hne]; exact h1
      obtain ⟨f1, f2, _⟩ := findT_put (v := .ref p) hk hv
      refine ⟨.ref ad, rfl, key, rfl, ad, _, rfl, putD_T h2 hk hl, .ref p, ?_, RdQ.here (q p hp)⟩
      have hg2 : KD.getD (put (put S p (.lst [])) ad (.dT (putT key k (.ref p) kvs))) ad key = some (some (.ref p)) := by
        simp only [KD.getD, put_same, hk, Option.map_some, f1, f2]
      simp [fT, fE, fA, bOr, bAnd, bNot, tb, tru, truD, dCall, lCall, gIsi, aCons, aNil, dVar, dC, dChain, gLe, gLt, gGe, gGt, gLen, gEq, gNe, eq2_str, eq2_int, eq2_bl, gIx, dBin, dTup, dIf, gAdd, gAddS, gAddT, gAll, gAny, gTuple, gList, gInt, startD, tyName, seqOf, lstOf, List.map_cons, List.map_nil, List.length_cons, List.length_nil, List.replicate, Option.bind_some, Option.map_some, Option.join_some, kit_NoneType_bool, kit_NoneType_int, kit_NoneType_str, kit_NoneType_tuple, kit_NoneType_list, kit_NoneType_dict, kit_bool_bool, kit_bool_int, kit_bool_str, kit_bool_tuple, kit_bool_list, kit_bool_dict, kit_int_bool, kit_int_int, kit_int_str, kit_int_tuple, kit_int_list, kit_int_dict, kit_str_bool, kit_str_int, kit_str_str, kit_str_tuple, kit_str_list, kit_str_dict, kit_tuple_bool, kit_tuple_int, kit_tuple_str, kit_tuple_tuple, kit_tuple_list, kit_tuple_dict, kit_list_bool, kit_list_int, kit_list_str, kit_list_tuple, kit_list_list, kit_list_dict, kit_dict_bool, kit_dict_int, kit_dict_str, kit_dict_tuple, kit_dict_list, kit_dict_dict, dFn1, dFn2, dFn3, atI0, atI1, atI2, atI3, vAnd, vOr, vNot, Option.bind_none, Option.map_none, if_true, if_false, Bool.not_true, Bool.not_false, decide_true, decide_false, Bool.false_eq_true, dDget, hg2]
  · have hg : KD.getD S ad (.str x) = some (findS x kvs) := by simp only [KD.getD, h1, D.sk, Option.map_some]
    rcases hq with ⟨v, hv, q⟩ | ⟨hv, hl, q⟩
    · rw [hv] at hg
      refine ⟨false, by simp [fT, fE, fA, bOr, bAnd, bNot, tb, tru, truD, dCall, lCall, gIsi, aCons, aNil, dVar, dC, dChain, gLe, gLt, gGe, gGt, gLen, gEq, gNe, eq2_str, eq2_int, eq2_bl, gIx, dBin, dTup, dIf, gAdd, gAddS, gAddT, gAll, gAny, gTuple, gList, gInt, startD, tyName, seqOf, lstOf, List.map_cons, List.map_nil, List.length_cons, List.length_nil, List.replicate, Option.bind_some, Option.map_some, Option.join_some, kit_NoneType_bool, kit_NoneType_int, kit_NoneType_str, kit_NoneType_tuple, kit_NoneType_list, kit_NoneType_dict, kit_bool_bool, kit_bool_int, kit_bool_str, kit_bool_tuple, kit_bool_list, kit_bool_dict, kit_int_bool, kit_int_int, kit_int_str, kit_int_tuple, kit_int_list, kit_int_dict, kit_str_bool, kit_str_int, kit_str_str, kit_str_tuple, kit_str_list, kit_str_dict, kit_tuple_bool, kit_tuple_int, kit_tuple_str, kit_tuple_tuple, kit_tuple_list, kit_tuple_dict, kit_list_bool, kit_list_int, kit_list_str, kit_list_tuple, kit_list_list, kit_list_dict, kit_dict_bool, kit_dict_int, kit_dict_str, kit_dict_tuple, kit_dict_list, kit_dict_dict, dFn1, dFn2, dFn3, atI0, atI1, atI2, atI3, vAnd, vOr, vNot, Option.bind_none, Option.map_none, if_true, if_false, Bool.not_true, Bool.not_false, decide_true, decide_false, Bool.false_eq_true, dDin, hg], v, by simp [fT, fE, fA, bOr, bAnd, bNot, tb, tru, truD, dCall, lCall, gIsi, aCons, aNil, dVar, dC, dChain, gLe, gLt, gGe, gGt, gLen, gEq, gNe, eq2_str, eq2_int, eq2_bl, gIx, dBin, dTup, dIf, gAdd, gAddS, gAddT, gAll, gAny, gTuple, gList, gInt, startD, tyName, seqOf, lstOf, List.map_cons, List.map_nil, List.length_cons, List.length_nil, List.replicate, Option.bind_some, Option.map_some, Option.join_some, kit_NoneType_bool, kit_NoneType_int, kit_NoneType_str, kit_NoneType_tuple, kit_NoneType_list, kit_NoneType_dict, kit_bool_bool, kit_bool_int, kit_bool_str, kit_bool_tuple, kit_bool_list, kit_bool_dict, kit_int_bool, kit_int_int, kit_int_str, kit_int_tuple, kit_int_list, kit_int_dict, kit_str_bool, kit_str_int, kit_str_str, kit_str_tuple, kit_str_list, kit_str_dict, kit_tuple_bool, kit_tuple_int, kit_tuple_str, kit_tuple_tuple, kit_tuple_list, kit_tuple_dict, kit_list_bool, kit_list_int, kit_list_str, kit_list_tuple, kit_list_list, kit_list_dict, kit_dict_bool, kit_dict_int, kit_dict_str, kit_dict_tuple, kit_dict_list, kit_dict_dict, dFn1, dFn2, dFn3, atI0, atI1, atI2, atI3, vAnd, vOr, vNot, Option.bind_none, Option.map_none, if_true, if_false, Bool.not_true, Bool.not_false, decide_true, decide_false, Bool.false_eq_true, dDget, hg], RdQ.here q⟩
    · rw [hv] at hg
      refine ⟨true, by simp [fT, fE, fA, bOr, bAnd, bNot, tb, tru, truD, dCall, lCall, gIsi, aCons, aNil, dVar, dC, dChain, gLe, gLt, gGe, gGt, gLen, gEq, gNe, eq2_str, eq2_int, eq2_bl, gIx, dBin, dTup, dIf, gAdd, gAddS, gAddT, gAll, gAny, gTuple, gList, gInt, startD, tyName, seqOf, lstOf, List.map_cons, List.map_nil, List.length_cons, List.length_nil, List.replicate, Option.bind_some, Option.map_some, Option.join_some, kit_NoneType_bool, kit_NoneType_int, kit_NoneType_str, kit_NoneType_tuple, kit_NoneType_list, kit_NoneType_dict, kit_bool_bool, kit_bool_int, kit_bool_str, kit_bool_tuple, kit_bool_list, kit_bool_dict, kit_int_bool, kit_int_int, kit_int_str, kit_int_tuple, kit_int_list, kit_int_dict, kit_str_bool, kit_str_int, kit_str_str, kit_str_tuple, kit_str_list, kit_str_dict, kit_tuple_bool, kit_tuple_int, kit_tuple_str, kit_tuple_tuple, kit_tuple_list, kit_tuple_dict, kit_list_bool, kit_list_int, kit_list_str, kit_list_tuple, kit_list_list, kit_list_dict, kit_dict_bool, kit_dict_int, kit_dict_str, kit_dict_tuple, kit_dict_list, kit_dict_dict, dFn1, dFn2, dFn3, atI0, atI1, atI2, atI3, vAnd, vOr, vNot, Option.bind_none, Option.map_none, if_true, if_false, Bool.not_true, Bool.not_false, decide_true, decide_false, Bool.false_eq_true, dDin, hg], ?_⟩
      refine ⟨[], rfl, by decide, fun p hp => ?_⟩
      have hne : ad ≠ p := fun z => by rw [z, hp] at h1; cases h1
      have h2 : put S p (.lst []) ad = some (.dS kvs) := by rw [put_ne hne]; exact h1
      obtain ⟨f1, f2, _⟩ := findS_put (v := .ref p) hv
      refine ⟨.ref ad, rfl, .str x, rfl, ad, _, rfl, putD_S h2 hl, .ref p, ?_, RdQ.here (q p hp)⟩
      have hg2 : KD.getD (put (put S p (.lst [])) ad (.dS (putS x (.ref p) kvs))) ad (.str x) = some (some (.ref p)) := by
        simp only [KD.getD, put_same, D.sk, Option.map_some, f1, f2]
      simp [fT, fE, fA, bOr, bAnd, bNot, tb, tru, truD, dCall, lCall, gIsi, aCons, aNil, dVar, dC, dChain, gLe, gLt, gGe, gGt, gLen, gEq, gNe, eq2_str, eq2_int, eq2_bl, gIx, dBin, dTup, dIf, gAdd, gAddS, gAddT, gAll, gAny, gTuple, gList, gInt, startD, tyName, seqOf, lstOf, List.map_cons, List.map_nil, List.length_cons, List.length_nil, List.replicate, Option.bind_some, Option.map_some, Option.join_some, kit_NoneType_bool, kit_NoneType_int, kit_NoneType_str, kit_NoneType_tuple, kit_NoneType_list, kit_NoneType_dict, kit_bool_bool, kit_bool_int, kit_bool_str, kit_bool_tuple, kit_bool_list, kit_bool_dict, kit_int_bool, kit_int_int, kit_int_str, kit_int_tuple, kit_int_list, kit_int_dict, kit_str_bool, kit_str_int, kit_str_str, kit_str_tuple, kit_str_list, kit_str_dict, kit_tuple_bool, kit_tuple_int, kit_tuple_str, kit_tuple_tuple, kit_tuple_list, kit_tuple_dict, kit_list_bool, kit_list_int, kit_list_str, kit_list_tuple, kit_list_list, kit_list_dict, kit_dict_bool, kit_dict_int, kit_dict_str, kit_dict_tuple, kit_dict_list, kit_dict_dict, dFn1, dFn2, dFn3, atI0, atI1, atI2, atI3, vAnd, vOr, vNot, Option.bind_none, Option.map_none, if_true, if_false, Bool.not_true, Bool.not_false, decide_true, decide_false, Bool.false_eq_true, dDget, hg2]
end
end K62
set_option Elab.async false
set_option linter.all false
set_option maxRecDepth 100000
set_option maxHeartbeats 4000000
namespace K62
open PySem PySem.Spec PyProof.Rows L2 Evl KD
theorem sc__offer : FnScope ["self", "conclusion", "rule", "grounds", "place", "size", "ground"] ["self", "conclusion", "rule", "grounds", "place"] (defScope (meth 4)) := ⟨rfl, rfl, rfl, by decide +kernel, rfl, by decide +kernel, by decide +kernel⟩
theorem sc__behind : FnScope ["self", "start", "role", "end", "kind", "grounds"] ["self", "start", "role", "end", "kind"] (defScope (meth 8)) := ⟨rfl, rfl, rfl, by decide +kernel, rfl, by decide +kernel, by decide +kernel⟩
section
variable {P : Program} {w : World} {K : PySem.W.Frag} {mg : Str → Option Value} {base : Heap}
theorem has__offer (W : Wd K mg) : HasM P w K mg base 1 (clsC K) "_offer" 5 (dspOffer (clsC K)) := by
  have Sc := sc__offer
  obtain ⟨f, fd, Fd, me⟩ := W.m__offer
  refine hasM_ok W.cls me Fd Sc (fun _ _ _ _ _ _ us hl => match us, hl with | [_, _, _, _, _], _ => rfl) fun cdv A outer s H E hr => ?_
  have hu := bare_units hr
  have hd : WSs (cxOf C8.CX0 P w K mg base ["self", "conclusion", "rule", "grounds", "place", "size", "ground"] "Saturation._offer" (defScope (meth 4)) f cdv A outer s H E).nox (defBody (meth 4)) _ := (wss_cons (ws_if (ft_din hu (fe_v 1) (fe_fld W.cls W.n_steps (fe_v 0))) (wss_one ws_retN) wss_nil)
      (wss_cons (ws_if (ft_not (ft_tru (fe_fld W.cls W.n_least (fe_v 0)))) (wss_cons (ws_dput hu (fe_fld W.cls W.n_steps (fe_v 0)) (fe_v 1) (fe_tup (fa_cons (fe_v 2) (fa_cons (fe_v 3) (fa_cons (fe_v 4) fa_nil)))))
      (wss_cons (ws_expr (we_append (fe_fld W.cls W.n_waiting (fe_v 0)) (fa_cons (fe_v 1) fa_nil)))
      (wss_one ws_retN))) wss_nil)
      wss_never))
  refine ⟨_, hd, fun ds S Q hl hp => ?_⟩
  clear hd
  obtain ⟨A, U, kvs, wt, c, r, g, pl, rfl, h, hc, q⟩ := hp
  have hk := h.ag.u c hc
  have hg := getD_T h.c1 hk.2
  have hf := find_key hk fun d hd => h.ag.u d (h.ag.sub d hd)
  have hd := din_go (α := dVar 1) (β := dFld (clsC K) "steps" (dVar 0)) (ρ := startD ["self", "conclusion", "rule", "grounds", "place", "size", "ground"] [.ref A.sf, c, r, g, pl]) rfl (fld_go rfl h.sf h.fo.steps) hg
  by_cases hm : c ∈ keysD kvs
  · rw [hf.mpr hm] at hd
    refine if_yes hd (RdQ.here ?_)
    have := q kvs wt (offd_one (v := .non).1 hm) h.ag
    rwa [h.self] at this
  · have hn : (findT (nkD c) kvs).isSome = false := by
      rw [Bool.eq_false_iff]
      exact fun z => hm (hf.mp z)
    rw [hn] at hd
    refine if_no hd ?_
    have hl := h.ag.len
    have hnone : findT (nkD c) kvs = none := by
      cases e : findT (nkD c) kvs with
      | none => rfl
      | some _ => rw [e] at hn; cases hn
    have hw := h.ag.wait
    refine if_yes ?_ ?_
    · unfold bNot tru
      rw [fld_go (d := .bl false) rfl h.sf h.fo.least]
      rfl
    refine dput_go (fld_go rfl h.sf h.fo.steps) rfl rfl (putD_T h.c1 hk.2 (by omega)) ?_
    rw [(findT_put hk.2 hnone).1]
    refine append_go (fld_go (fs := A.fs) rfl ?_ h.fo.waiting) rfl (by rw [put_ne (Ne.symm h.n13)]; exact h.c3) (by omega) ?_
    · rw [put_ne h.nf1]; exact h.sf
    refine RdQ.here ?_
    have ho := (offd_one (v := .tup [r, g, pl]) (kvs := kvs) (wt := wt)).2 hm
    exact q _ _ ho (h.ag.offd ho fun d hd => by rw [List.mem_singleton.mp hd]; exact hc)
theorem has__behind (W : Wd K mg) : HasM P w K mg base 2 (clsC K) "_behind" 5 (dspBehind (clsC K)) := by
  have Sc := sc__behind
  obtain ⟨f, fd, Fd, me⟩ := W.m__behind
  refine hasM_ok W.cls me Fd Sc (fun _ _ _ _ _ _ us hl => match us, hl with | [_, _, _, _, _], _ => rfl) fun cdv A outer s H E hr => ?_
  have hu := bare_units hr
  have hd : WSs (cxOf C8.CX0 P w K mg base ["self", "start", "role", "end", "kind", "grounds"] "Saturation._behind" (defScope (meth 8)) f cdv A outer s H E).nox (defBody (meth 8)) _ := (wss_cons (ws_set (i := 5) Sc.nd (fe_tup (fa_cons (fe_tup (fa_cons (fe_str) (fa_cons (fe_v 1) (fa_cons (fe_v 2) (fa_cons (fe_v 3) fa_nil))))) (fa_cons (fe_tup (fa_cons (fe_str) (fa_cons (fe_v 3) (fa_cons (fe_v 4) fa_nil)))) fa_nil))))
      (wss_cons (ws_if (ft_din hu (fe_tup (fa_cons (fe_v 2) (fa_cons (fe_v 4) fa_nil))) (fe_fld W.cls W.n_somes (fe_v 0))) (wss_one (ws_expr (we_meth (has__offer W) hr (by first | decide | omega) (fe_v 0) (fa_cons (fe_tup (fa_cons (fe_str) (fa_cons (fe_v 1) (fa_cons (fe_dget hu (fe_fld W.cls W.n_somes (fe_v 0)) (fe_tup (fa_cons (fe_v 2) (fa_cons (fe_v 4) fa_nil)))) fa_nil)))) (fa_cons (fe_str) (fa_cons (fe_v 5) (fa_cons (fe_non) fa_nil))))))) wss_nil)
      (wss_one (ws_if (ft_eq hu (fe_v 4) (fe_gc W.none rfl)) (wss_one (ws_expr (we_meth (has__offer W) hr (by first | decide | omega) (fe_v 0) (fa_cons (fe_tup (fa_cons (fe_str) (fa_cons (fe_v 1) (fa_cons (fe_gc W.none rfl) fa_nil)))) (fa_cons (fe_str) (fa_cons (fe_v 5) (fa_cons (fe_non) fa_nil))))))) wss_nil))))
  refine ⟨_, hd, fun ds S Q hl hp => ?_⟩
  clear hd
  obtain ⟨A, B, kvs, wt, S00, tag, pr, s, r, e, k, rfl, hw, hu1, hu2, h, hs, q⟩ := hp
  obtain ⟨kv8, h8, so⟩ := hs.c8
  have hsP := (hw.ok _ hu1).1
  have hkP := (hw.ok _ hu2).2
  have hk := hw.key k hkP
  have hkey := pair_key (r := r) hk.1.1 hk.2
  have hg := getD_T h8 hkey
  refine asg_go (d := .tup [(Cn.lnk s r e).d, (Cn.bel e k).d]) rfl ?_
  have fin : ∀ kvs1 wt1 o1, Offd o1 kvs wt kvs1 wt1 → AgOk B.U kvs1 wt1 → o1 ++ ifP (k = noneD) [(Cn.bel s noneD).d] = behOff B.kinds s r k →
      dIfS (fT (tb (dBin gEq (dVar 4) (dC noneD)))) (dDrop (dMethW (clsC K) "_offer" 5 (dspOffer (clsC K)) (fE (dVar 0)) (fA (aCons (dTup (aCons (dC (.str "below")) (aCons (dVar 1) (aCons (dC (.tup [.str "none"])) aNil)))) (aCons (dC (.str "empty")) (aCons (dVar 5) (aCons (dC .non) aNil))))))) dNext
        { nx := fun x S1 => RdQ Q D.non S1, rt := RdQ Q } [some (.ref A.sf), some s, some (.str r), some e, some k, some (.tup [(Cn.lnk s r e).d, (Cn.bel e k).d])] (agS S A.a1 A.a3 kvs1 wt1) := by
    intro kvs1 wt1 o1 ho hg ht
    obtain ⟨b, hb, hb2⟩ := eq_none hw hkP (α := dVar 4) (ρ := [some (.ref A.sf), some s, some (.str r), some e, some k, some (.tup [(Cn.lnk s r e).d, (Cn.bel e k).d])]) (S := agS S A.a1 A.a3 kvs1 wt1) rfl
    by_cases hz : k = noneD
    · rw [hb2.mpr hz] at hb
      rw [ifP_pos hz] at ht
      refine if_yes hb (meth_go rfl (h.go hg).sf h.fo.offer rfl rfl ?_)
      refine offer_go (c := (Cn.bel s noneD).d) h hg (hw.mem _ (hw.cl _ (.empty hu1 (hz ▸ hu2)))) fun kvs' wt' ho' hg' => RdQ.here (q kvs' wt' (ht ▸ ho.append ho') hg')
    · have hb3 : b = false := by
        rw [Bool.eq_false_iff]
        exact fun e => hz (hb2.mp e)
      rw [hb3] at hb
      rw [ifP_neg hz, List.append_nil] at ht
      exact if_no hb (RdQ.here (q kvs1 wt1 (ht ▸ ho) hg))
  have hd := din_go (α := dTup (aCons (dVar 2) (aCons (dVar 4) aNil))) (β := dFld (clsC K) "somes" (dVar 0)) (ρ := [some (.ref A.sf), some s, some (.str r), some e, some k, some (.tup [(Cn.lnk s r e).d, (Cn.bel e k).d])]) rfl (fld_go rfl h.sf h.fo.somes) hg
  rcases so.at_ r k hk.1.1 with ⟨hm, hf⟩ | ⟨hm, hf⟩
  · rw [hf] at hd
    refine if_yes hd ?_
    refine meth_go (ds := [(Cn.bel s (someD r k)).d, .str "close", .tup [(Cn.lnk s r e).d, (Cn.bel e k).d], .non]) rfl h.sf h.fo.offer ?_ rfl ?_
    · have e1 : dDget (dFld (clsC K) "somes" (dVar 0)) (dTup (aCons (dVar 2) (aCons (dVar 4) aNil))) [some (.ref A.sf), some s, some (.str r), some e, some k, some (.tup [(Cn.lnk s r e).d, (Cn.bel e k).d])] S = some (someD r k) := by
        unfold dDget
        rw [fld_go (ρ := [some (.ref A.sf), some s, some (.str r), some e, some k, some (.tup [(Cn.lnk s r e).d, (Cn.bel e k).d])]) rfl h.sf h.fo.somes]
        show (getD S A.a8 (.tup [.str r, k])).join = _
        rw [hg, hf]
        rfl
      show (aCons (dTup (aCons (dC (.str "below")) (aCons (dVar 1) (aCons (dDget (dFld (clsC K) "somes" (dVar 0)) (dTup (aCons (dVar 2) (aCons (dVar 4) aNil)))) aNil)))) _) [some (.ref A.sf), some s, some (.str r), some e, some k, some (.tup [(Cn.lnk s r e).d, (Cn.bel e k).d])] S = _
      simp only [aCons, dTup, e1]
      rfl
    have h0 := h.self
    have hoff := offer_go (Q := fun _ S1 => dIfS (fT (tb (dBin gEq (dVar 4) (dC noneD)))) (dDrop (dMethW (clsC K) "_offer" 5 (dspOffer (clsC K)) (fE (dVar 0)) (fA (aCons (dTup (aCons (dC (.str "below")) (aCons (dVar 1) (aCons (dC (.tup [.str "none"])) aNil)))) (aCons (dC (.str "empty")) (aCons (dVar 5) (aCons (dC .non) aNil))))))) dNext
        { nx := fun x S1 => RdQ Q D.non S1, rt := RdQ Q } [some (.ref A.sf), some s, some (.str r), some e, some k, some (.tup [(Cn.lnk s r e).d, (Cn.bel e k).d])] S1) (c := (Cn.bel s (someD r k)).d) (r := .str "close") (g := .tup [(Cn.lnk s r e).d, (Cn.bel e k).d]) (pl := .non) h h.ag (hw.mem _ (hw.cl _ (.close hm hu1 hu2))) fun kvs' wt' ho' hg' => fin kvs' wt' _ ho' hg' (by unfold behOff; rw [ifP_pos hm])
    rw [h0] at hoff
    exact hoff
  · rw [hf] at hd
    refine if_no hd ?_
    have hf := fin kvs wt [] Offd.nil h.ag (by unfold behOff; rw [ifP_neg hm])
    rw [h.self] at hf
    exact hf
end
end K62
set_option Elab.async false
set_option linter.all false
set_option maxRecDepth 100000
set_option maxHeartbeats 4000000
namespace K62
open PySem PySem.Spec PyProof.Rows L2 Evl KD
theorem sc__link : FnScope ["self", "conclusion", "start", "role", "end", "place", "other", "second", "third", "last", "grounds", "first", "before", "kind"] ["self", "conclusion", "start", "role", "end"] (defScope (meth 9)) := ⟨rfl, rfl, rfl, by decide +kernel, rfl, by decide +kernel, by decide +kernel⟩
section
variable {P : Program} {w : World} {K : PySem.W.Frag} {mg : Str → Option Value} {base : Heap}
theorem has__link (W : Wd K mg) : HasM P w K mg base 3 (clsC K) "_link" 5 (dspLink (clsC K)) := by
  have Sc := sc__link
  obtain ⟨f, fd, Fd, me⟩ := W.m__link
  refine hasM_ok W.cls me Fd Sc (fun _ _ _ _ _ _ us hl => match us, hl with | [_, _, _, _, _], _ => rfl) fun cdv A outer s H E hr => ?_
  have hu := bare_units hr
  have hd : WSs (cxOf C8.CX0 P w K mg base ["self", "conclusion", "start", "role", "end", "place", "other", "second", "third", "last", "grounds", "first", "before", "kind"] "Saturation._link" (defScope (meth 9)) f cdv A outer s H E).nox (defBody (meth 9)) _ := (wss_cons (ws_expr (we_append (we_call (has_under W) hr (by first | decide | omega) rfl (fa_cons (fe_fld W.cls W.n_links_from (fe_v 0)) (fa_cons (fe_v 2) fa_nil))) (fa_cons (fe_tup (fa_cons (fe_v 3) (fa_cons (fe_v 4) fa_nil))) fa_nil)))
      (wss_cons (ws_expr (we_append (we_call (has_under W) hr (by first | decide | omega) rfl (fa_cons (fe_fld W.cls W.n_links_to (fe_v 0)) (fa_cons (fe_v 4) fa_nil))) (fa_cons (fe_tup (fa_cons (fe_v 2) (fa_cons (fe_v 3) fa_nil))) fa_nil)))
      (wss_cons (ws_for PassesOwn.never rfl (fi_lst (fe_dget2 hu (fe_fld W.cls W.n_roles (fe_v 0)) (fe_v 3) (fe_lst fa_nil) ⟨by rfl, by rfl, by rfl, by rfl⟩)) (wg_tup rfl (wgs_cons (wg_name (i := 5) Sc.nd) (wgs_cons (wg_name (i := 6) Sc.nd) wgs_nil))) (wss_one (ws_expr (we_meth (has__offer W) hr (by first | decide | omega) (fe_v 0) (fa_cons (fe_tup (fa_cons (fe_str) (fa_cons (fe_v 2) (fa_cons (fe_v 6) (fa_cons (fe_v 4) fa_nil))))) (fa_cons (fe_str) (fa_cons (fe_tup (fa_cons (fe_v 1) fa_nil)) (fa_cons (fe_v 5) fa_nil))))))))
      (wss_cons (ws_for PassesOwn.never rfl (fi_lst (fe_dget2 hu (fe_fld W.cls W.n_firsts (fe_v 0)) (fe_v 3) (fe_lst fa_nil) ⟨by rfl, by rfl, by rfl, by rfl⟩)) (wg_tup rfl (wgs_cons (wg_name (i := 5) Sc.nd) (wgs_cons (wg_name (i := 7) Sc.nd) (wgs_cons (wg_name (i := 8) Sc.nd) wgs_nil)))) (wss_one (ws_for PassesOwn.never rfl (fi_lst (fe_list rfl W.f_list (fe_dget2 hu (fe_fld W.cls W.n_links_from (fe_v 0)) (fe_v 4) (fe_lst fa_nil) ⟨by rfl, by rfl, by rfl, by rfl⟩))) (wg_tup rfl (wgs_cons (wg_name (i := 6) Sc.nd) (wgs_cons (wg_name (i := 9) Sc.nd) wgs_nil))) (wss_one (ws_if (ft_eq hu (fe_v 6) (fe_v 7)) (wss_cons (ws_set (i := 10) Sc.nd (fe_tup (fa_cons (fe_v 1) (fa_cons (fe_tup (fa_cons (fe_str) (fa_cons (fe_v 4) (fa_cons (fe_v 6) (fa_cons (fe_v 9) fa_nil))))) fa_nil))))
      (wss_one (ws_expr (we_meth (has__offer W) hr (by first | decide | omega) (fe_v 0) (fa_cons (fe_tup (fa_cons (fe_str) (fa_cons (fe_v 2) (fa_cons (fe_v 8) (fa_cons (fe_v 9) fa_nil))))) (fa_cons (fe_str) (fa_cons (fe_v 10) (fa_cons (fe_v 5) fa_nil)))))))) wss_nil)))))
      (wss_cons (ws_for PassesOwn.never rfl (fi_lst (fe_dget2 hu (fe_fld W.cls W.n_seconds (fe_v 0)) (fe_v 3) (fe_lst fa_nil) ⟨by rfl, by rfl, by rfl, by rfl⟩)) (wg_tup rfl (wgs_cons (wg_name (i := 5) Sc.nd) (wgs_cons (wg_name (i := 11) Sc.nd) (wgs_cons (wg_name (i := 8) Sc.nd) wgs_nil)))) (wss_one (ws_for PassesOwn.never rfl (fi_lst (fe_list rfl W.f_list (fe_dget2 hu (fe_fld W.cls W.n_links_to (fe_v 0)) (fe_v 2) (fe_lst fa_nil) ⟨by rfl, by rfl, by rfl, by rfl⟩))) (wg_tup rfl (wgs_cons (wg_name (i := 12) Sc.nd) (wgs_cons (wg_name (i := 6) Sc.nd) wgs_nil))) (wss_one (ws_if (ft_eq hu (fe_v 6) (fe_v 11)) (wss_cons (ws_set (i := 10) Sc.nd (fe_tup (fa_cons (fe_tup (fa_cons (fe_str) (fa_cons (fe_v 12) (fa_cons (fe_v 6) (fa_cons (fe_v 2) fa_nil))))) (fa_cons (fe_v 1) fa_nil))))
      (wss_one (ws_expr (we_meth (has__offer W) hr (by first | decide | omega) (fe_v 0) (fa_cons (fe_tup (fa_cons (fe_str) (fa_cons (fe_v 12) (fa_cons (fe_v 8) (fa_cons (fe_v 4) fa_nil))))) (fa_cons (fe_str) (fa_cons (fe_v 10) (fa_cons (fe_v 5) fa_nil)))))))) wss_nil)))))
      (wss_one (ws_for PassesOwn.never rfl (fi_lst (fe_list rfl W.f_list (fe_dget2 hu (fe_fld W.cls W.n_below (fe_v 0)) (fe_v 4) (fe_lst fa_nil) ⟨by rfl, by rfl, by rfl, by rfl⟩))) (wg_name (i := 13) Sc.nd) (wss_one (ws_expr (we_meth (has__behind W) hr (by first | decide | omega) (fe_v 0) (fa_cons (fe_v 2) (fa_cons (fe_v 3) (fa_cons (fe_v 4) (fa_cons (fe_v 13) fa_nil))))))))))))))
  refine ⟨_, hd, fun ds S Q hl hp => ?_⟩
  clear hd
  obtain ⟨A, s, r, e, rfl, B, kvs, wt, S00, tag, pr, hw, hkd, hp, hpl, h, hs, q⟩ := hp
  have hn : Cn.lnk s r e ∈ pr ++ [.lnk s r e] := by simp
  have ho : ∀ c ∈ pr ++ [.lnk s r e], CnOk B.P c := fun c hc => hw.ok c (hp c hc)
  have hsP : B.P s := (ho _ hn).1
  have heP : B.P e := (ho _ hn).2
  have hsk := (hw.key s hsP).1.2
  have hek := (hw.key e heP).1.2
  have hsnd := lnk_snd hw hp hn
  have hcmp := lnk_cmp hw hp
  have hU := snd_U hw hp hsnd
  have lF : ∀ k, (mF pr k).length < 1000000 := fun k => by have := mF_len (pr := pr) (k := k); omega
  have lT : ∀ k, (mT pr k).length < 1000000 := fun k => by have := mT_len (pr := pr) (k := k); omega
  refine tab_app (t := 5) (x := .tup [.str r, e]) hs.t5 (hs.tg 4) hs.th (fun c hc => (hs.c5 c hc s).trans hsk) (by omega) (lF _) (acons_go (fld_go rfl h.sf h.fo.links_from) rfl) (fun _ _ => rfl) fun S1 tag1 ht1 kp1 ka1 => ?_
  have h1 := h.keep hs kp1 (hs.ne 0 4) (hs.ne 1 4) (hs.ne 2 4)
  have hs1 := hs.keep5 (all_there h hs) kp1 ka1 ht1
  refine tab_app (t := 6) (x := .tup [s, .str r]) hs1.t6 (hs1.tg 5) hs1.th (fun c hc => (hs1.c6 c hc e).trans hek) (by omega) (lT _) (acons_go (fld_go rfl h1.sf h.fo.links_to) rfl) (fun _ _ => rfl) fun S2 tag2 ht2 kp2 ka2 => ?_
  have h2 := h1.keep hs1 kp2 (hs1.ne 0 5) (hs1.ne 1 5) (hs1.ne 2 5)
  have hs2 := sta_lnk (hs1.keep6 (all_there h1 hs1) kp2 ka2 ht2)
  clear ht1 kp1 ka1 h1 hs1 ht2 kp2 ka2
  have hlen : (pr ++ [Cn.lnk s r e]).length ≤ 100000 := by rw [List.length_append]; exact hpl
  rw [← h2.self]
  obtain ⟨kp, ht, hk⟩ := tab_it (α := dFld (clsC K) "roles" (dVar 0)) (γ := dLst (lLst aNil)) (β := dVar 3) (ρ := startD ["self", "conclusion", "start", "role", "end", "place", "other", "second", "third", "last", "grounds", "first", "before", "kind"] [.ref A.sf, (Cn.lnk s r e).d, s, .str r, e]) (hs2.go (kvs := kvs) (wt := wt)).t10 (fun c hc => hs2.go.c10 c hc r) (fld_go rfl (h2.go h2.ag).sf h2.fo.roles) rfl rfl
  refine ag_for (o := oRole s e) (R := fun ρ => ∃ x5 x6 x7 x8 x9 x10 x11 x12 x13, ρ = [some (.ref A.sf), some (Cn.lnk s r e).d, some s, some (.str r), some e, x5, x6, x7, x8, x9, x10, x11, x12, x13]) h2.ag ht (tag_kept hk (hs2.tg 1) (hs2.tg 2)) ⟨_, _, _, _, _, _, _, _, _, rfl⟩ (fun d hd c hc => hU c ?_) ?_ ?_
  · simp only [lnkOff, List.mem_append, List.mem_flatMap]
    exact .inl (.inl (.inl ⟨d, hd, hc⟩))
  · rintro d hd ρ kvs1 wt1 ⟨x5, x6, x7, x8, x9, x10, x11, x12, x13, rfl⟩ hg E' q'
    obtain ⟨i, b, rfl, hb⟩ := mem_mRo.mp hd
    refine ⟨_, rfl, rfl, _, _, rfl, _, _, rfl, rfl, ?_⟩
    refine meth_go rfl (h2.go hg).sf h2.fo.offer rfl rfl ?_
    refine offer_go (c := (Cn.lnk s b e).d) h2 hg (hU _ ?_) fun kvs' wt' ho' hg' => q' _ _ _ ⟨_, _, _, _, _, _, _, _, _, rfl⟩ ho' hg'
    simp only [lnkOff, List.mem_append, List.mem_flatMap]
    exact .inl (.inl (.inl ⟨_, hd, List.mem_singleton.mpr rfl⟩))
  clear ht hk
  rintro ρ1 kvs1 wt1 ⟨x5, x6, x7, x8, x9, x10, x11, x12, x13, rfl⟩ ho1 hg1
  have mm : mB (pr ++ [Cn.lnk s r e]) = mB pr := mB_lnk
  have nF : ∀ k, (mF (pr ++ [Cn.lnk s r e]) k).length ≤ 1000000 := fun k => by have := mF_len (pr := pr ++ [Cn.lnk s r e]) (k := k); omega
  have nT : ∀ k, (mT (pr ++ [Cn.lnk s r e]) k).length ≤ 1000000 := fun k => by have := mT_len (pr := pr ++ [Cn.lnk s r e]) (k := k); omega
  have nB : ∀ k, (mB (pr ++ [Cn.lnk s r e]) k).length ≤ 1000000 := fun k => by have := mB_len (pr := pr ++ [Cn.lnk s r e]) (k := k); omega
  obtain ⟨kp, ht, hk⟩ := tab_it (α := dFld (clsC K) "firsts" (dVar 0)) (γ := dLst (lLst aNil)) (β := dVar 3) (ρ := [some (.ref A.sf), some (Cn.lnk s r e).d, some s, some (.str r), some e, x5, x6, x7, x8, x9, x10, x11, x12, x13]) (hs2.go (kvs := kvs1) (wt := wt1)).t11 (fun c hc => hs2.go.c11 c hc r) (fld_go rfl (h2.go hg1).sf h2.fo.firsts) rfl rfl
  refine ag_for (o := oFirst (pr ++ [.lnk s r e]) s e) (R := fun ρ => ∃ x5 x6 x7 x8 x9 x10 x11 x12 x13, ρ = [some (.ref A.sf), some (Cn.lnk s r e).d, some s, some (.str r), some e, x5, x6, x7, x8, x9, x10, x11, x12, x13]) hg1 ht (tag_kept hk (hs2.tg 1) (hs2.tg 2)) ⟨_, _, _, _, _, _, _, _, _, rfl⟩ (fun d hd c hc => hU c ?_) ?_ ?_
  · simp only [lnkOff, List.mem_append, List.mem_flatMap]
    exact .inl (.inl (.inr ⟨d, hd, hc⟩))
  · rintro d hd ρ kvs2 wt2 ⟨y5, y6, y7, y8, y9, y10, y11, y12, y13, rfl⟩ hg2 E' q'
    obtain ⟨i, b, c, rfl, hb⟩ := mem_mFi.mp hd
    refine ⟨_, rfl, rfl, _, _, rfl, _, _, rfl, _, _, rfl, rfl, ?_⟩
    have hin : ∀ x ∈ mF (pr ++ [.lnk s r e]) (nkD e), ∀ d ∈ oF2 s b c x, d ∈ B.U := fun x hx d hd2 => hU d (by
      simp only [lnkOff, List.mem_append, List.mem_flatMap]
      exact .inl (.inl (.inr ⟨_, hd, List.mem_flatMap.mpr ⟨x, hx, hd2⟩⟩)))
    refine ag_for (o := oF2 s b c) (R := fun ρ => ∃ x6 x9 x10 x11 x12 x13, ρ = [some (.ref A.sf), some (Cn.lnk s r e).d, some s, some (.str r), some e, some (.int (i : Nat)), x6, some (.str b), some (.str c), x9, x10, x11, x12, x13]) hg2 (tab_it2 (α := dFld (clsC K) "links_from" (dVar 0)) (γ := dLst (lLst aNil)) (β := dVar 4) (hs2.go (kvs := kvs2) (wt := wt2)).t5 (fun c hc => (hs2.go.c5 c hc e).trans hek) (fld_go rfl (h2.go hg2).sf h2.fo.links_from) rfl rfl (nF _)) (fun _ _ => trivial) ⟨_, _, _, _, _, _, rfl⟩ hin ?_ ?_
    · rintro d hd3 ρ kvs3 wt3 ⟨z6, z9, z10, z11, z12, z13, rfl⟩ hg3 E2 q2
      obtain ⟨o, l, rfl, hol⟩ := (mem_mF ho (P_td hw) heP).mp hd3
      refine ⟨_, rfl, rfl, _, _, rfl, _, _, rfl, rfl, ?_⟩
      by_cases hob : o = b
      · refine if_yes ((eqs_go rfl rfl).trans (by rw [decide_eq_true hob])) ?_
        refine asg_go rfl ?_
        refine meth_go rfl (h2.go hg3).sf h2.fo.offer rfl rfl ?_
        have e1 : oF2 s b c (.tup [.str o, l]) = [(Cn.lnk s c l).d] := if_pos hob
        refine offer_go (c := (Cn.lnk s c l).d) h2 hg3 (hin _ hd3 _ (by rw [e1]; exact List.mem_singleton.mpr rfl)) fun kvs' wt' ho' hg' => q2 _ _ _ ⟨_, _, _, _, _, _, rfl⟩ (by rw [e1]; exact ho') hg'
      · refine if_no ((eqs_go rfl rfl).trans (by rw [decide_eq_false hob])) ?_
        have e1 : oF2 s b c (.tup [.str o, l]) = [] := if_neg hob
        exact q2 _ _ _ ⟨_, _, _, _, _, _, rfl⟩ (by rw [e1]; exact Offd.nil) hg3
    · rintro ρ' kvs' wt' ⟨z6, z9, z10, z11, z12, z13, rfl⟩ ho' hg'
      exact q' _ _ _ ⟨_, _, _, _, _, _, _, _, _, rfl⟩ ho' hg'
  clear ht hk
  rintro ρ2 kvs2 wt2 ⟨y5, y6, y7, y8, y9, y10, y11, y12, y13, rfl⟩ ho2 hg2
  obtain ⟨kp, ht, hk⟩ := tab_it (α := dFld (clsC K) "seconds" (dVar 0)) (γ := dLst (lLst aNil)) (β := dVar 3) (ρ := [some (.ref A.sf), some (Cn.lnk s r e).d, some s, some (.str r), some e, y5, y6, y7, y8, y9, y10, y11, y12, y13]) (hs2.go (kvs := kvs2) (wt := wt2)).t12 (fun c hc => hs2.go.c12 c hc r) (fld_go rfl (h2.go hg2).sf h2.fo.seconds) rfl rfl
  refine ag_for (o := oSec (pr ++ [.lnk s r e]) s e) (R := fun ρ => ∃ x5 x6 x7 x8 x9 x10 x11 x12 x13, ρ = [some (.ref A.sf), some (Cn.lnk s r e).d, some s, some (.str r), some e, x5, x6, x7, x8, x9, x10, x11, x12, x13]) hg2 ht (tag_kept hk (hs2.tg 1) (hs2.tg 2)) ⟨_, _, _, _, _, _, _, _, _, rfl⟩ (fun d hd c hc => hU c ?_) ?_ ?_
  · simp only [lnkOff, List.mem_append, List.mem_flatMap]
    exact .inl (.inr ⟨d, hd, hc⟩)
  · rintro d hd ρ kvs3 wt3 ⟨z5, z6, z7, z8, z9, z10, z11, z12, z13, rfl⟩ hg3 E' q'
    obtain ⟨i, a, c, rfl, hb⟩ := mem_mSe.mp hd
    refine ⟨_, rfl, rfl, _, _, rfl, _, _, rfl, _, _, rfl, rfl, ?_⟩
    have hin : ∀ x ∈ mT (pr ++ [.lnk s r e]) (nkD s), ∀ d ∈ oT2 a c e x, d ∈ B.U := fun x hx d hd2 => hU d (by
      simp only [lnkOff, List.mem_append, List.mem_flatMap]
      exact .inl (.inr ⟨_, hd, List.mem_flatMap.mpr ⟨x, hx, hd2⟩⟩))
    refine ag_for (o := oT2 a c e) (R := fun ρ => ∃ x6 x7 x9 x10 x12 x13, ρ = [some (.ref A.sf), some (Cn.lnk s r e).d, some s, some (.str r), some e, some (.int (i : Nat)), x6, x7, some (.str c), x9, x10, some (.str a), x12, x13]) hg3 (tab_it2 (α := dFld (clsC K) "links_to" (dVar 0)) (γ := dLst (lLst aNil)) (β := dVar 2) (hs2.go (kvs := kvs3) (wt := wt3)).t6 (fun c hc => (hs2.go.c6 c hc s).trans hsk) (fld_go rfl (h2.go hg3).sf h2.fo.links_to) rfl rfl (nT _)) (fun _ _ => trivial) ⟨_, _, _, _, _, _, rfl⟩ hin ?_ ?_
    · rintro d hd3 ρ kvs4 wt4 ⟨w6, w7, w9, w10, w12, w13, rfl⟩ hg4 E2 q2
      obtain ⟨o, l, rfl, hol⟩ := (mem_mT ho (P_td hw) hsP).mp hd3
      refine ⟨_, rfl, rfl, _, _, rfl, _, _, rfl, rfl, ?_⟩
      by_cases hob : o = a
      · refine if_yes ((eqs_go rfl rfl).trans (by rw [decide_eq_true hob])) ?_
        refine asg_go rfl ?_
        refine meth_go rfl (h2.go hg4).sf h2.fo.offer rfl rfl ?_
        have e1 : oT2 a c e (.tup [l, .str o]) = [(Cn.lnk l c e).d] := if_pos hob
        refine offer_go (c := (Cn.lnk l c e).d) h2 hg4 (hin _ hd3 _ (by rw [e1]; exact List.mem_singleton.mpr rfl)) fun kvs' wt' ho' hg' => q2 _ _ _ ⟨_, _, _, _, _, _, rfl⟩ (by rw [e1]; exact ho') hg'
      · refine if_no ((eqs_go rfl rfl).trans (by rw [decide_eq_false hob])) ?_
        have e1 : oT2 a c e (.tup [l, .str o]) = [] := if_neg hob
        exact q2 _ _ _ ⟨_, _, _, _, _, _, rfl⟩ (by rw [e1]; exact Offd.nil) hg4
    · rintro ρ' kvs' wt' ⟨w6, w7, w9, w10, w12, w13, rfl⟩ ho' hg'
      exact q' _ _ _ ⟨_, _, _, _, _, _, _, _, _, rfl⟩ ho' hg'
  clear ht hk
  rintro ρ3 kvs3 wt3 ⟨z5, z6, z7, z8, z9, z10, z11, z12, z13, rfl⟩ ho3 hg3
  have hmB : ∀ x ∈ mB (pr ++ [.lnk s r e]) (nkD e), ∀ c ∈ behOff B.kinds s r x, c ∈ B.U := fun x hx c hc => hU c (by
    simp only [lnkOff, List.mem_append, List.mem_flatMap]
    exact .inr ⟨x, hx, hc⟩)
  refine ag_for (o := behOff B.kinds s r) (R := fun ρ => ∃ x5 x6 x7 x8 x9 x10 x11 x12 x13, ρ = [some (.ref A.sf), some (Cn.lnk s r e).d, some s, some (.str r), some e, x5, x6, x7, x8, x9, x10, x11, x12, x13]) hg3 (tab_it2 (α := dFld (clsC K) "below" (dVar 0)) (γ := dLst (lLst aNil)) (β := dVar 4) (hs2.go (kvs := kvs3) (wt := wt3)).t4 (fun c hc => (hs2.go.c4 c hc e).trans hek) (fld_go rfl (h2.go hg3).sf h2.fo.below) rfl rfl (nB _)) (fun _ _ => trivial) ⟨_, _, _, _, _, _, _, _, _, rfl⟩ hmB ?_ ?_
  · rintro d hd ρ kvs4 wt4 ⟨w5, w6, w7, w8, w9, w10, w11, w12, w13, rfl⟩ hg4 E' q'
    have hun := hp _ ((mem_mB ho (P_td hw) heP).mp hd)
    refine meth_go rfl (h2.go hg4).sf h2.fo.behind rfl rfl ?_
    exact behind_go hw (hp _ hn) hun h2 hs2 hg4 fun kvs' wt' ho' hg' => q' _ _ _ ⟨_, _, _, _, _, _, _, _, _, rfl⟩ ho' hg'
  rintro ρ4 kvs4 wt4 ⟨w5, w6, w7, w8, w9, w10, w11, w12, w13, rfl⟩ ho4 hg4
  exact RdQ.here (q _ tag2 kvs4 wt4 _ (((ho1.append ho2).append ho3).append ho4) (h2.go hg4) hs2.go hsnd hcmp)
end
end K62
set_option Elab.async false
set_option linter.all false
set_option maxRecDepth 100000
set_option maxHeartbeats 4000000
namespace K62
open PySem PySem.Spec PyProof.Rows L2 Evl KD
theorem sc__below : FnScope ["self", "conclusion", "subject", "kind", "member", "place", "other", "whole", "start", "role"] ["self", "conclusion", "subject", "kind"] (defScope (meth 6)) := ⟨rfl, rfl, rfl, by decide +kernel, rfl, by decide +kernel, by decide +kernel⟩
section
variable {P : Program} {w : World} {K : PySem.W.Frag} {mg : Str → Option Value} {base : Heap}
theorem has__below (W : Wd K mg) : HasM P w K mg base 3 (clsC K) "_below" 4 (dspBelow (clsC K)) := by
  have Sc := sc__below
  obtain ⟨f, fd, Fd, me⟩ := W.m__below
  refine hasM_ok W.cls me Fd Sc (fun _ _ _ _ _ _ us hl => match us, hl with | [_, _, _, _], _ => rfl) fun cdv A outer s H E hr => ?_
  have hu := bare_units hr
  have hd : WSs (cxOf C8.CX0 P w K mg base ["self", "conclusion", "subject", "kind", "member", "place", "other", "whole", "start", "role"] "Saturation._below" (defScope (meth 6)) f cdv A outer s H E).nox (defBody (meth 6)) _ := (wss_cons (ws_expr (we_append (we_call (has_under W) hr (by first | decide | omega) rfl (fa_cons (fe_fld W.cls W.n_below (fe_v 0)) (fa_cons (fe_v 2) fa_nil))) (fa_cons (fe_v 3) fa_nil)))
      (wss_cons (ws_if (ft_eq hu (fe_ix (fe_v 3) (fe_int)) (fe_str)) (wss_one (ws_for PassesOwn.never rfl (fi_tup (fe_ix (fe_v 3) (fe_int))) (wg_name (i := 4) Sc.nd) wss_never)) wss_nil)
      (wss_cons (ws_for PassesOwn.never rfl (fi_lst (fe_dget2 hu (fe_fld W.cls W.n_sayings (fe_v 0)) (fe_v 3) (fe_lst fa_nil) ⟨by rfl, by rfl, by rfl, by rfl⟩)) (wg_tup rfl (wgs_cons (wg_name (i := 5) Sc.nd) (wgs_cons (wg_name (i := 6) Sc.nd) wgs_nil))) wss_never)
      (wss_cons (ws_if (ft_eq hu (fe_ix (fe_v 3) (fe_int)) (fe_str)) (wss_one (ws_expr (we_meth (has__offer W) hr (by first | decide | omega) (fe_v 0) (fa_cons (fe_tup (fa_cons (fe_str) (fa_cons (fe_v 2) (fa_cons (fe_ix (fe_v 3) (fe_int)) (fa_cons (fe_ix (fe_v 3) (fe_int)) fa_nil))))) (fa_cons (fe_str) (fa_cons (fe_tup (fa_cons (fe_v 1) fa_nil)) (fa_cons (fe_non) fa_nil))))))) wss_nil)
      (wss_cons (ws_if (ft_eq hu (fe_v 3) (fe_gc W.none rfl)) (wss_one (ws_for PassesOwn.never rfl (fi_tup (fe_fld W.cls W.n_kinds (fe_v 0))) (wg_name (i := 6) Sc.nd) (wss_one (ws_expr (we_meth (has__offer W) hr (by first | decide | omega) (fe_v 0) (fa_cons (fe_tup (fa_cons (fe_str) (fa_cons (fe_v 2) (fa_cons (fe_v 6) fa_nil)))) (fa_cons (fe_str) (fa_cons (fe_tup (fa_cons (fe_v 1) fa_nil)) (fa_cons (fe_non) fa_nil))))))))) wss_nil)
      (wss_cons (ws_for PassesOwn.never rfl (fi_lst (fe_dget2 hu (fe_fld W.cls W.n_wholes (fe_v 0)) (fe_v 3) (fe_lst fa_nil) ⟨by rfl, by rfl, by rfl, by rfl⟩)) (wg_name (i := 7) Sc.nd) wss_never)
      (wss_one (ws_for PassesOwn.never rfl (fi_lst (fe_dget2 hu (fe_fld W.cls W.n_links_to (fe_v 0)) (fe_v 2) (fe_lst fa_nil) ⟨by rfl, by rfl, by rfl, by rfl⟩)) (wg_tup rfl (wgs_cons (wg_name (i := 8) Sc.nd) (wgs_cons (wg_name (i := 9) Sc.nd) wgs_nil))) (wss_one (ws_expr (we_meth (has__behind W) hr (by first | decide | omega) (fe_v 0) (fa_cons (fe_v 8) (fa_cons (fe_v 9) (fa_cons (fe_v 2) (fa_cons (fe_v 3) fa_nil)))))))))))))))
  refine ⟨_, hd, fun ds S Q hl hp => ?_⟩
  clear hd
  obtain ⟨A, s, k, rfl, B, kvs, wt, S00, tag, pr, hw, hkd, hp, hpl, h, hs, q⟩ := hp
  have hn : Cn.bel s k ∈ pr ++ [.bel s k] := by simp
  have ho : ∀ c ∈ pr ++ [.bel s k], CnOk B.P c := fun c hc => hw.ok c (hp c hc)
  have hsP : B.P s := (ho _ hn).1
  have hkP : B.P k := (ho _ hn).2
  have hsk := (hw.key s hsP).1.2
  have hkk := (hw.key k hkP).1.2
  have hsnd := bel_snd hw hp hn
  have hcmp := bel_cmp hw hp
  have hU := snd_U hw hp hsnd
  have lB : ∀ k, (mB pr k).length < 1000000 := fun k => by have := mB_len (pr := pr) (k := k); omega
  refine tab_app (t := 4) (x := k) hs.t4 (hs.tg 3) hs.th (fun c hc => (hs.c4 c hc s).trans hsk) (by omega) (lB _) (acons_go (fld_go rfl h.sf h.fo.below) rfl) (fun _ _ => rfl) fun S2 tag2 ht1 kp1 ka1 => ?_
  have h2 := h.keep hs kp1 (hs.ne 0 3) (hs.ne 1 3) (hs.ne 2 3)
  have hs2 := sta_bel (hs.keep4 (all_there h hs) kp1 ka1 ht1)
  clear ht1 kp1 ka1
  obtain ⟨t, xs, hkt, hand, hsome⟩ := hw.tup k hkP
  have e0 : ∀ {ρ : Rho} {S : DS}, dVar 3 ρ S = some k → dBin gIx (dVar 3) (dC (.int 0)) ρ S = some (.str t) := fun hk => ix0_go (by rw [hk, hkt])
  refine if_no ((eqs_go (e0 rfl) rfl).trans (by rw [decide_eq_false hand])) ?_
  rw [← h2.self]
  have t9 : ∀ {kvs' wt'}, TabOk tag2 9 (agS S2 A.a1 A.a3 kvs' wt') A.a9 0 (fun _ => []) := fun {kvs' wt'} => tab_new (hs2.go (kvs := kvs') (wt := wt')).c9 (.inl rfl)
  have t7 : ∀ {kvs' wt'}, TabOk tag2 7 (agS S2 A.a1 A.a3 kvs' wt') A.a7 0 (fun _ => []) := fun {kvs' wt'} => tab_new (hs2.go (kvs := kvs') (wt := wt')).c7 (.inl rfl)
  obtain ⟨kp, ht, hk⟩ := tab_it (α := dFld (clsC K) "sayings" (dVar 0)) (γ := dLst (lLst aNil)) (β := dVar 3) (ρ := startD ["self", "conclusion", "subject", "kind", "member", "place", "other", "whole", "start", "role"] [.ref A.sf, (Cn.bel s k).d, s, k]) (t9 (kvs' := kvs) (wt' := wt)) (fun c hc => by rw [(hs2.go).c9] at hc; cases hc; exact hkk) (fld_go rfl (h2.go h2.ag).sf h2.fo.sayings) rfl rfl
  refine ag_for (o := fun _ => []) (R := fun ρ => ∃ x4 x5 x6 x7 x8 x9, ρ = [some (.ref A.sf), some (Cn.bel s k).d, some s, some k, x4, x5, x6, x7, x8, x9]) h2.ag ht (tag_kept hk (hs2.tg 1) (hs2.tg 2)) ⟨_, _, _, _, _, _, rfl⟩ (fun d hd => (nomatch hd)) (fun d hd => (nomatch hd)) ?_
  clear ht hk
  rintro ρ1 kvs1 wt1 ⟨x4, x5, x6, x7, x8, x9, rfl⟩ ho1 hg1
  refine ag_opt (o := oOpn s k) (p := t = "some") (R := fun ρ => ∃ x4 x5 x6 x7 x8 x9, ρ = [some (.ref A.sf), some (Cn.bel s k).d, some s, some k, x4, x5, x6, x7, x8, x9]) hg1 ⟨_, _, _, _, _, _, rfl⟩ (eqs_go (e0 rfl) rfl) (by rw [decide_eq_true_eq]) ?_ ?_ ?_
  · intro hp E' q'
    obtain ⟨r, e, rfl, _⟩ := hsome hp
    refine meth_go (ds := [(Cn.lnk s r e).d, .str "open", .tup [(Cn.bel s (someD r e)).d], .non]) rfl (h2.go hg1).sf h2.fo.offer (acons_go (tup_go (acons_go rfl (acons_go rfl (acons_go (ix1_go rfl) (acons_go (ix2_go rfl) rfl))))) rfl) rfl ?_
    refine offer_go (c := (Cn.lnk s r e).d) h2 hg1 (hU _ ?_) fun kvs' wt' ho' hg' => q' _ _ _ ⟨_, _, _, _, _, _, rfl⟩ ho' hg'
    simp only [belOff, List.mem_append]
    exact .inl (.inl (opn_mem.mpr ⟨r, e, rfl, rfl⟩))
  · intro hp
    rw [hkt]
    unfold oOpn
    split
    · next h3 =>
      injection h3 with h3
      injection h3 with h3 h4
      injection h3 with h3
      exact if_neg (h3 ▸ hp)
    · rfl
  rintro ρ2 kvs2 wt2 ⟨y4, y5, y6, y7, y8, y9, rfl⟩ ho2 hg2
  obtain ⟨b, hb, hb2⟩ := eq_none hw hkP (α := dVar 3) (ρ := [some (.ref A.sf), some (Cn.bel s k).d, some s, some k, y4, y5, y6, y7, y8, y9]) (S := agS S2 A.a1 A.a3 kvs2 wt2) rfl
  refine ag_opt (o := ifP (k = noneD) (B.kinds.map fun o => (Cn.bel s o).d)) (p := k = noneD) (R := fun ρ => ∃ x4 x5 x6 x7 x8 x9, ρ = [some (.ref A.sf), some (Cn.bel s k).d, some s, some k, x4, x5, x6, x7, x8, x9]) hg2 ⟨_, _, _, _, _, _, rfl⟩ hb hb2 ?_ (fun hp => ifP_neg hp) ?_
  · intro hp E' q'
    rw [ifP_pos hp] at q'
    have hin : ∀ x ∈ B.kinds, ∀ c ∈ [(Cn.bel s x).d], c ∈ B.U := fun x hx c hc => hU c (by
      simp only [belOff, List.mem_append]
      exact .inl (.inr (mem_ifP.mpr ⟨hp, List.mem_map.mpr ⟨x, hx, (List.mem_singleton.mp hc).symm⟩⟩)))
    refine ag_for (kp := none) (items := B.kinds) (o := fun x => [(Cn.bel s x).d]) (R := fun ρ => ∃ x4 x5 x6 x7 x8 x9, ρ = [some (.ref A.sf), some (Cn.bel s k).d, some s, some k, x4, x5, x6, x7, x8, x9]) hg2 ?_ (fun _ _ => trivial) ⟨_, _, _, _, _, _, rfl⟩ hin ?_ ?_
    · unfold itTup
      rw [fld_go (d := .tup A.kinds) rfl (h2.go hg2).sf h2.fo.kinds, hkd]
      rfl
    · rintro d hd ρ kvs3 wt3 ⟨z4, z5, z6, z7, z8, z9, rfl⟩ hg3 E2 q2
      refine meth_go rfl (h2.go hg3).sf h2.fo.offer rfl rfl ?_
      exact offer_go (c := (Cn.bel s d).d) h2 hg3 (hin d hd _ (List.mem_singleton.mpr rfl)) fun kvs' wt' ho' hg' => q2 _ _ _ ⟨_, _, _, _, _, _, rfl⟩ ho' hg'
    · intro ρ' kvs' wt' hr ho' hg'
      refine q' _ _ _ hr (ho'.congr ?_) hg'
      rw [← List.map_eq_flatMap]
  rintro ρ3 kvs3 wt3 ⟨z4, z5, z6, z7, z8, z9, rfl⟩ ho3 hg3
  obtain ⟨kp, ht, hk⟩ := tab_it (α := dFld (clsC K) "wholes" (dVar 0)) (γ := dLst (lLst aNil)) (β := dVar 3) (ρ := [some (.ref A.sf), some (Cn.bel s k).d, some s, some k, z4, z5, z6, z7, z8, z9]) (t7 (kvs' := kvs3) (wt' := wt3)) (fun c hc => by rw [(hs2.go).c7] at hc; cases hc; exact hkk) (fld_go rfl (h2.go hg3).sf h2.fo.wholes) rfl rfl
  refine ag_for (o := fun _ => []) (R := fun ρ => ∃ x4 x5 x6 x7 x8 x9, ρ = [some (.ref A.sf), some (Cn.bel s k).d, some s, some k, x4, x5, x6, x7, x8, x9]) hg3 ht (tag_kept hk (hs2.tg 1) (hs2.tg 2)) ⟨_, _, _, _, _, _, rfl⟩ (fun d hd => (nomatch hd)) (fun d hd => (nomatch hd)) ?_
  clear ht hk
  rintro ρ4 kvs4 wt4 ⟨w4, w5, w6, w7, w8, w9, rfl⟩ ho4 hg4
  obtain ⟨kp, ht, hk⟩ := tab_it (α := dFld (clsC K) "links_to" (dVar 0)) (γ := dLst (lLst aNil)) (β := dVar 2) (ρ := [some (.ref A.sf), some (Cn.bel s k).d, some s, some k, w4, w5, w6, w7, w8, w9]) (hs2.go (kvs := kvs4) (wt := wt4)).t6 (fun c hc => (hs2.go.c6 c hc s).trans hsk) (fld_go rfl (h2.go hg4).sf h2.fo.links_to) rfl rfl
  refine ag_for (o := oTo B.kinds k) (R := fun ρ => ∃ x4 x5 x6 x7 x8 x9, ρ = [some (.ref A.sf), some (Cn.bel s k).d, some s, some k, x4, x5, x6, x7, x8, x9]) hg4 ht (tag_kept hk (hs2.tg 1) (hs2.tg 2)) ⟨_, _, _, _, _, _, rfl⟩ (fun d hd c hc => hU c ?_) ?_ ?_
  · simp only [belOff, List.mem_append, List.mem_flatMap]
    exact .inr ⟨d, hd, hc⟩
  · rintro d hd ρ kvs5 wt5 ⟨v4, v5, v6, v7, v8, v9, rfl⟩ hg5 E' q'
    obtain ⟨r, st, rfl, hl⟩ := (mem_mT ho (P_td hw) hsP).mp hd
    refine ⟨_, rfl, rfl, _, _, rfl, _, _, rfl, rfl, ?_⟩
    refine meth_go rfl (h2.go hg5).sf h2.fo.behind rfl rfl ?_
    exact behind_go hw (hp _ hl) (hp _ hn) h2 hs2 hg5 fun kvs' wt' ho' hg' => q' _ _ _ ⟨_, _, _, _, _, _, rfl⟩ ho' hg'
  rintro ρ5 kvs5 wt5 ⟨v4, v5, v6, v7, v8, v9, rfl⟩ ho5 hg5
  exact RdQ.here (q _ tag2 kvs5 wt5 (belOff B (pr ++ [.bel s k]) s k) (((((ho1.append ho2).append ho3).append ho4).append ho5).congr (by simp [belOff])) (h2.go hg5) hs2.go hsnd hcmp)
end
end K62
set_option Elab.async false
set_option linter.all false
set_option maxRecDepth 100000
set_option maxHeartbeats 4000000
namespace K62
open PySem PySem.Spec PyProof.Rows L2 Evl KD
theorem sc__next : FnScope ["self", "size", "_", "conclusion", "step"] ["self"] (defScope (meth 5)) := ⟨rfl, rfl, rfl, by decide +kernel, rfl, by decide +kernel, by decide +kernel⟩
theorem sc__index_kinds : FnScope ["self", "kind", "member"] ["self"] (defScope (meth 1)) := ⟨rfl, rfl, rfl, by decide +kernel, rfl, by decide +kernel, by decide +kernel⟩
section
variable {P : Program} {w : World} {K : PySem.W.Frag} {mg : Str → Option Value} {base : Heap}
theorem has__next (W : Wd K mg) : HasM P w K mg base 4 (clsC K) "_next" 1 (dspNext (clsC K)) := by
  have Sc := sc__next
  obtain ⟨f, fd, Fd, me⟩ := W.m__next
  refine hasM_ok W.cls me Fd Sc (fun _ _ _ _ _ _ us hl => match us, hl with | [_], _ => rfl) fun cdv A outer s H E hr => ?_
  have hu := bare_units hr
  have hd : WSs (cxOf C8.CX0 P w K mg base ["self", "size", "_", "conclusion", "step"] "Saturation._next" (defScope (meth 5)) f cdv A outer s H E).nox (defBody (meth 5)) _ := (wss_cons (ws_if (ft_tru (fe_fld W.cls W.n_least (fe_v 0))) wss_never (wss_one (ws_set (i := 3) Sc.nd (we_pop (fe_fld W.cls W.n_waiting (fe_v 0))))))
      (wss_one (ws_if (ft_eq hu (fe_ix (fe_v 3) (fe_int)) (fe_str)) (wss_one (ws_expr (we_meth (has__below W) hr (by first | decide | omega) (fe_v 0) (fa_cons (fe_v 3) (fa_cons (fe_ix (fe_v 3) (fe_int)) (fa_cons (fe_ix (fe_v 3) (fe_int)) fa_nil)))))) (wss_one (ws_expr (we_meth (has__link W) hr (by first | decide | omega) (fe_v 0) (fa_cons (fe_v 3) (fa_cons (fe_ix (fe_v 3) (fe_int)) (fa_cons (fe_ix (fe_v 3) (fe_int)) (fa_cons (fe_ix (fe_v 3) (fe_int)) fa_nil))))))))))
  refine ⟨_, hd, fun ds S Q hl hp => ?_⟩
  clear hd
  obtain ⟨A, B, kvs, wt, S00, tag, pr, c, rfl, hw, hkd, hp, hpl, h, hs, q⟩ := hp
  refine if_no ?_ ?_
  · unfold tru
    rw [fld_go (d := .bl false) rfl h.sf h.fo.least]
    rfl
  refine pop_go (ds := wt) (y := c.d) (fld_go rfl h.sf h.fo.waiting) h.c3 ?_
  rw [agS_3put h.c1]
  have h2 := h.go h.ag.less
  have hs2 := hs.go (kvs := kvs) (wt := wt)
  cases c with
  | bel s k =>
    refine if_yes ((eqs_go (x := "below") (y := "below") (ix0_go rfl) rfl).trans (by rw [decide_eq_true rfl])) ?_
    refine meth_go (ds := [(Cn.bel s k).d, s, k]) rfl h2.sf h.fo.below_ (acons_go rfl (acons_go (ix1_go rfl) (acons_go (ix2_go rfl) rfl))) rfl ?_
    exact ⟨A, s, k, rfl, B, kvs, wt, S00, tag, pr, hw, hkd, hp, hpl, h2, hs2, fun S' tag' kvs' wt' cs ho hg hst hsn hcm => RdQ.here (q S' tag' kvs' wt' cs ho hg hst hsn hcm)⟩
  | lnk s r e =>
    refine if_no ((eqs_go (x := "link") (y := "below") (ix0_go rfl) rfl).trans (by rw [decide_eq_false (by decide)])) ?_
    refine meth_go (ds := [(Cn.lnk s r e).d, s, .str r, e]) rfl h2.sf h.fo.link_ (acons_go rfl (acons_go (ix1_go rfl) (acons_go (ix2_go rfl) (acons_go (ix3_go rfl) rfl)))) rfl ?_
    exact ⟨A, s, r, e, rfl, B, kvs, wt, S00, tag, pr, hw, hkd, hp, hpl, h2, hs2, fun S' tag' kvs' wt' cs ho hg hst hsn hcm => RdQ.here (q S' tag' kvs' wt' cs ho hg hst hsn hcm)⟩
theorem has__index_kinds (W : Wd K mg) : HasM P w K mg base 1 (clsC K) "_index_kinds" 1 (dspIdxK (clsC K)) := by
  have Sc := sc__index_kinds
  obtain ⟨f, fd, Fd, me⟩ := W.m__index_kinds
  refine hasM_ok W.cls me Fd Sc (fun _ _ _ _ _ _ us hl => match us, hl with | [_], _ => rfl) fun cdv A outer s H E hr => ?_
  have hu := bare_units hr
  have hd : WSs (cxOf C8.CX0 P w K mg base ["self", "kind", "member"] "Saturation._index_kinds" (defScope (meth 1)) f cdv A outer s H E).nox (defBody (meth 1)) _ := (wss_cons (ws_fld W.cls W.n_wholes (fe_v 0) we_newT)
      (wss_cons (ws_fld W.cls W.n_somes (fe_v 0) we_newT)
      (wss_one (ws_for PassesOwn.never rfl (fi_tup (fe_fld W.cls W.n_kinds (fe_v 0))) (wg_name (i := 1) Sc.nd) (wss_one (ws_if (ft_eq hu (fe_ix (fe_v 1) (fe_int)) (fe_str)) (wss_one (ws_for PassesOwn.never rfl (fi_tup (fe_ix (fe_v 1) (fe_int))) (wg_name (i := 2) Sc.nd) wss_never)) (wss_one (ws_if (ft_eq hu (fe_ix (fe_v 1) (fe_int)) (fe_str)) (wss_one (ws_dput hu (fe_fld W.cls W.n_somes (fe_v 0)) (fe_tup (fa_cons (fe_ix (fe_v 1) (fe_int)) (fa_cons (fe_ix (fe_v 1) (fe_int)) fa_nil))) (fe_v 1))) wss_nil))))))))
  refine ⟨_, hd, fun ds S Q hl hp => ?_⟩
  clear hd
  obtain ⟨S00, sf, fs, own, kinds, rfl, h, hk, hfl, hkl, hki, q⟩ := hp
  refine fput_T h (by omega) (fun _ => rfl) fun a7 S1 h1 => ?_
  refine fput_T h1 (by have := putFD_len (f := "wholes") (v := D.ref a7) (fs := fs); omega) (fun _ => rfl) fun a8 S2 h2 => ?_
  have hk2 : (putFD "somes" (D.ref a8) (putFD "wholes" (.ref a7) fs)).lookup ("kinds" : Str) = some (.tup kinds) := by
    rw [lookup_put_ne (by decide), lookup_put_ne (by decide), hk]
  refine ⟨kinds, none, ?_, fun i ρ' S' => ∃ x1 x2 kvs, ρ' = [some (.ref sf), x1, x2] ∧ Ini (clsC K) S00 sf (putFD "somes" (.ref a8) (putFD "wholes" (.ref a7) fs)) ((own ++ [(a7, some (.dT []))]) ++ [(a8, some (.dT kvs))]) S' ∧ SomesOk (kinds.take i) kvs ∧ kvs.length ≤ i, ⟨_, _, [], rfl, h2, ⟨fun r e he => .inr ⟨by simp, rfl⟩⟩, Nat.le_refl _⟩, fun _ _ _ _ _ => trivial, fun i d ρ' S' hd hv => ?_, fun ρ' S' hv => ?_⟩
  · unfold itTup
    rw [fld_go (d := .tup kinds) rfl h2.self hk2]
    rfl
  · obtain ⟨x1, x2, kvs, rfl, hI, hso, hkl2⟩ := hv
    have hi : i < kinds.length := by
      rcases Nat.lt_or_ge i kinds.length with z | z
      · exact z
      · rw [List.getElem?_eq_none z] at hd; cases hd
    have ht : kinds.take (i + 1) = kinds.take i ++ [d] := by rw [List.take_succ, hd]; rfl
    obtain ⟨t, xs, hdt, hand, hsome⟩ := hki d (List.mem_of_getElem? hd)
    have e0 : ∀ {ρ : Rho} {S : DS}, dVar 1 ρ S = some d → dBin gIx (dVar 1) (dC (.int 0)) ρ S = some (.str t) := fun hk => ix0_go (by rw [hk, hdt])
    refine if_no ((eqs_go (e0 rfl) rfl).trans (by rw [decide_eq_false hand])) ?_
    by_cases hs : t = "some"
    · obtain ⟨r, e, rfl, he1, he2⟩ := hsome hs
      refine if_yes ((eqs_go (e0 rfl) rfl).trans (by rw [decide_eq_true hs])) ?_
      have h8 : S' a8 = some (.dT kvs) := hI.at_ (by simp)
      refine dput_go (ad := a8) (key := .tup [.str r, e]) (v := someD r e) (fld_go rfl hI.self (by rw [lookup_put_same])) (tup_go (acons_go (ix1_go rfl) (acons_go (ix2_go rfl) rfl))) rfl (putD_T h8 (pair_key he1 he2) (by omega)) ?_
      refine ⟨_, _, _, rfl, hI.last, ?_, ?_⟩
      · rw [ht]
        exact somes_put hso he1 he2
      · have := putT_len (key := D.tup [.str r, e]) (k := nkD (.tup [.str r, e])) (d := someD r e) (kvs := kvs)
        omega
    · refine if_no ((eqs_go (e0 rfl) rfl).trans (by rw [decide_eq_false hs])) ?_
      refine ⟨_, _, kvs, rfl, hI, ?_, by omega⟩
      rw [ht]
      refine somes_skip hso fun r e z => hs ?_
      rw [hdt] at z
      injection z with z
      injection z with z _
      injection z with z
  · obtain ⟨x1, x2, kvs, rfl, hI, hso, hkl2⟩ := hv
    rw [List.take_length] at hso
    exact RdQ.here (q a7 a8 kvs S' hI hso)
end
end K62
set_option Elab.async false
set_option linter.all false
set_option maxRecDepth 100000
set_option maxHeartbeats 4000000
namespace K62
open PySem PySem.Spec PyProof.Rows L2 Evl KD
theorem sc__index_sayings : FnScope ["self", "book", "place", "saying"] ["self", "book"] (defScope (meth 2)) := ⟨rfl, rfl, rfl, by decide +kernel, rfl, by decide +kernel, by decide +kernel⟩
section
variable {P : Program} {w : World} {K : PySem.W.Frag} {mg : Str → Option Value} {base : Heap}
theorem has__index_sayings (W : Wd K mg) : HasM P w K mg base 2 (clsC K) "_index_sayings" 2 (dspIdxS (clsC K)) := by
  have Sc := sc__index_sayings
  obtain ⟨f, fd, Fd, me⟩ := W.m__index_sayings
  refine hasM_ok W.cls me Fd Sc (fun _ _ _ _ _ _ us hl => match us, hl with | [_, _], _ => rfl) fun cdv A outer s H E hr => ?_
  have hu := bare_units hr
  have hd : WSs (cxOf C8.CX0 P w K mg base ["self", "book", "place", "saying"] "Saturation._index_sayings" (defScope (meth 2)) f cdv A outer s H E).nox (defBody (meth 2)) _ := (wss_cons (ws_fld W.cls W.n_sayings (fe_v 0) we_newT)
      (wss_cons (ws_fld W.cls W.n_roles (fe_v 0) we_newS)
      (wss_cons (ws_fld W.cls W.n_firsts (fe_v 0) we_newS)
      (wss_cons (ws_fld W.cls W.n_seconds (fe_v 0) we_newS)
      (wss_one (ws_for PassesOwn.never rfl (fi_enum rfl W.f_enumerate (fa_cons (fe_v 1) fa_nil)) (wg_tup rfl (wgs_cons (wg_name (i := 2) Sc.nd) (wgs_cons (wg_name (i := 3) Sc.nd) wgs_nil))) (wss_one (ws_if (ft_eq hu (fe_ix (fe_v 3) (fe_int)) (fe_str)) wss_never (wss_one (ws_if (ft_eq hu (fe_ix (fe_v 3) (fe_int)) (fe_str)) (wss_one (ws_expr (we_append (we_call (has_under W) hr (by first | decide | omega) rfl (fa_cons (fe_fld W.cls W.n_roles (fe_v 0)) (fa_cons (fe_ix (fe_v 3) (fe_int)) fa_nil))) (fa_cons (fe_tup (fa_cons (fe_v 2) (fa_cons (fe_ix (fe_v 3) (fe_int)) fa_nil))) fa_nil)))) (wss_cons (ws_expr (we_append (we_call (has_under W) hr (by first | decide | omega) rfl (fa_cons (fe_fld W.cls W.n_firsts (fe_v 0)) (fa_cons (fe_ix (fe_v 3) (fe_int)) fa_nil))) (fa_cons (fe_tup (fa_cons (fe_v 2) (fa_cons (fe_ix (fe_v 3) (fe_int)) (fa_cons (fe_ix (fe_v 3) (fe_int)) fa_nil)))) fa_nil)))
      (wss_one (ws_expr (we_append (we_call (has_under W) hr (by first | decide | omega) rfl (fa_cons (fe_fld W.cls W.n_seconds (fe_v 0)) (fa_cons (fe_ix (fe_v 3) (fe_int)) fa_nil))) (fa_cons (fe_tup (fa_cons (fe_v 2) (fa_cons (fe_ix (fe_v 3) (fe_int)) (fa_cons (fe_ix (fe_v 3) (fe_int)) fa_nil)))) fa_nil)))))))))))))))
  refine ⟨_, hd, fun ds S Q hl hp => ?_⟩
  clear hd
  obtain ⟨S00, sf, fs, own, book, rfl, h, hfl, hbl, q⟩ := hp
  refine fput_T h (by omega) (fun _ => rfl) fun a9 S1 h1 => ?_
  have l1 := putFD_len (f := "sayings") (v := D.ref a9) (fs := fs)
  refine fput_S h1 (by omega) (fun _ => rfl) fun a10 S2 h2 => ?_
  have l2 := putFD_len (f := "roles") (v := D.ref a10) (fs := putFD "sayings" (.ref a9) fs)
  refine fput_S h2 (by omega) (fun _ => rfl) fun a11 S3 h3 => ?_
  have l3 := putFD_len (f := "firsts") (v := D.ref a11) (fs := putFD "roles" (.ref a10) (putFD "sayings" (.ref a9) fs))
  refine fput_S h3 (by omega) (fun _ => rfl) fun a12 S4 h4 => ?_
  have w4 := h4.weak3
  have e10 : S4 a10 = some (.dS []) := h4.at_ (by simp)
  have e11 : S4 a11 = some (.dS []) := h4.at_ (by simp)
  have e12 : S4 a12 = some (.dS []) := h4.at_ (by simp)
  have kS : ∀ {c : Cell}, some (Cell.dS []) = some c → ∀ x, ckey c (.str x) = some (.text x) := fun e x => by cases e; rfl
  have nd4 : a10 ≠ a11 ∧ a10 ≠ a12 ∧ a11 ≠ a12 := by
    have := h4.nd
    simp only [List.map_append, List.map_cons, List.map_nil, List.append_assoc, List.nodup_append, List.nodup_cons, List.cons_append, List.nil_append] at this
    simp_all
  have t4 : TabS (fun _ => none) S00 (adsOf sf ((own ++ [(a9, some (.dT []))]) ++ [(a10, none), (a11, none), (a12, none)])) a10 a11 a12 0 0 0 (mRo []) (mFi []) (mSe []) S4 :=
    ⟨fun _ _ => rfl, fun b q e => (nomatch e), fun b q e => (nomatch e), by simp [adsOf], by simp [adsOf], by simp [adsOf], nd4.1, nd4.2.1, nd4.2.2,
     tab_new e10 (.inr rfl), tab_new e11 (.inr rfl), tab_new e12 (.inr rfl), fun c hc => kS (e10 ▸ hc), fun c hc => kS (e11 ▸ hc), fun c hc => kS (e12 ▸ hc)⟩
  refine ⟨enumD (book.map Say.d), none, rfl, fun i ρ' S' => ∃ x2 x3 tag, ρ' = [some (.ref sf), some (.tup (book.map Say.d)), x2, x3] ∧
    Ini (clsC K) S00 sf (putFD "seconds" (.ref a12) (putFD "firsts" (.ref a11) (putFD "roles" (.ref a10) (putFD "sayings" (.ref a9) fs)))) ((own ++ [(a9, some (.dT []))]) ++ [(a10, none), (a11, none), (a12, none)]) S' ∧
    TabS tag S00 (adsOf sf ((own ++ [(a9, some (.dT []))]) ++ [(a10, none), (a11, none), (a12, none)])) a10 a11 a12 i i i (mRo (book.zipIdx.take i)) (mFi (book.zipIdx.take i)) (mSe (book.zipIdx.take i)) S', ⟨_, _, _, rfl, w4, t4⟩, fun _ _ _ _ _ => trivial, fun i d ρ' S' hd hv => ?_, fun ρ' S' hv => ?_⟩
  · obtain ⟨x2, x3, tag, rfl, hI, hT⟩ := hv
    have hi : i < book.length := by
      rcases Nat.lt_or_ge i (enumD (book.map Say.d)).length with z | z
      · rw [enumD_len, List.length_map] at z; exact z
      · rw [List.getElem?_eq_none z] at hd; cases hd
    have hb : book[i]? = some book[i] := List.getElem?_eq_getElem hi
    have hz : book.zipIdx[i]? = some (book[i], i) := by rw [List.getElem?_zipIdx, hb]; simp
    have ht : book.zipIdx.take (i + 1) = book.zipIdx.take i ++ [(book[i], i)] := by rw [List.take_succ, hz]; rfl
    have hd2 := enumD_get (ds := book.map Say.d) (i := i) (d := book[i].d) (by rw [List.getElem?_map, hb]; rfl)
    rw [hd2] at hd
    cases hd
    have hle := hI.le
    have hun : tag sf = none := hT.un _ List.mem_cons_self
    have hown : ∀ p ∈ ((own ++ [(a9, some (.dT []))]) ++ [(a10, none), (a11, none), (a12, none)] : List (Addr × Option Cell)), tag p.1 = none := fun p hp => hT.un _ (List.mem_cons_of_mem _ (List.mem_map_of_mem hp))
    have lR : ∀ k, (mRo (book.zipIdx.take i) k).length ≤ (book.zipIdx.take i).length := fun k => mRo_len
    have lF : ∀ k, (mFi (book.zipIdx.take i) k).length ≤ (book.zipIdx.take i).length := fun k => mFi_len
    have lS : ∀ k, (mSe (book.zipIdx.take i) k).length ≤ (book.zipIdx.take i).length := fun k => mSe_len
    have lt : (book.zipIdx.take i).length ≤ 1000 := by rw [List.length_take, List.length_zipIdx]; omega
    have f10 : ∀ {fs' : List (Str × D)}, (putFD "seconds" (D.ref a12) (putFD "firsts" (.ref a11) (putFD "roles" (.ref a10) fs'))).lookup ("roles" : Str) = some (.ref a10) := by
      intro fs'; rw [lookup_put_ne (by decide), lookup_put_ne (by decide), lookup_put_same]
    have f11 : ∀ {fs' : List (Str × D)}, (putFD "seconds" (D.ref a12) (putFD "firsts" (.ref a11) fs')).lookup ("firsts" : Str) = some (.ref a11) := by
      intro fs'; rw [lookup_put_ne (by decide), lookup_put_same]
    have f12 : ∀ {fs' : List (Str × D)}, (putFD "seconds" (D.ref a12) fs').lookup ("seconds" : Str) = some (.ref a12) := lookup_put_same
    refine ⟨_, rfl, rfl, _, _, rfl, _, _, rfl, rfl, ?_⟩
    cases hx : book[i] with
    | role a b =>
      refine if_no ((eqs_go (x := "role") (y := "below") (ix0_go rfl) rfl).trans (by rw [decide_eq_false (by decide)])) ?_
      refine if_yes ((eqs_go (x := "role") (y := "role") (ix0_go rfl) rfl).trans (by rw [decide_eq_true rfl])) ?_
      refine tab_app (t := 10) (key := .str a) (k := .text a) (x := .tup [.int (i : Nat), .str b]) hT.t10 (hT.un _ hT.i10) hT.th (fun c hc => hT.c10 c hc a) (by omega) (by have := lR (.text a); omega) (acons_go (fld_go rfl hI.self f10) (acons_go (ix1_go rfl) rfl)) (fun _ _ => acons_go (tup_go (acons_go rfl (acons_go (ix2_go rfl) rfl))) rfl) fun S5 tag5 ht5 kp5 ka5 => ?_
      refine ⟨_, _, tag5, rfl, hI.keep kp5 (by simp) hun hown hT.ft (by obtain ⟨c, hc⟩ := ht5.cell; rw [hc]; exact fun z => nomatch z), ?_⟩
      rw [ht, hx, mRo_snoc, mFi_role, mSe_role]
      exact (hT.keep10 hle (ads_there hI) kp5 ka5 ht5).up (Nat.le_refl _) (Nat.le_succ _) (Nat.le_succ _)
    | chain a b c =>
      refine if_no ((eqs_go (x := "chain") (y := "below") (ix0_go rfl) rfl).trans (by rw [decide_eq_false (by decide)])) ?_
      refine if_no ((eqs_go (x := "chain") (y := "role") (ix0_go rfl) rfl).trans (by rw [decide_eq_false (by decide)])) ?_
      refine tab_app (t := 11) (key := .str a) (k := .text a) (x := .tup [.int (i : Nat), .str b, .str c]) hT.t11 (hT.un _ hT.i11) hT.th (fun c hc => hT.c11 c hc a) (by omega) (by have := lF (.text a); omega) (acons_go (fld_go rfl hI.self f11) (acons_go (ix1_go rfl) rfl)) (fun _ _ => acons_go (tup_go (acons_go rfl (acons_go (ix2_go rfl) (acons_go (ix3_go rfl) rfl)))) rfl) fun S5 tag5 ht5 kp5 ka5 => ?_
      have hI5 := hI.keep kp5 (by simp) hun hown hT.ft (by obtain ⟨c, hc⟩ := ht5.cell; rw [hc]; exact fun z => nomatch z)
      have hT5 := hT.keep11 hle (ads_there hI) kp5 ka5 ht5
      have hun5 : tag5 sf = none := hT5.un _ List.mem_cons_self
      have hown5 : ∀ p ∈ ((own ++ [(a9, some (.dT []))]) ++ [(a10, none), (a11, none), (a12, none)] : List (Addr × Option Cell)), tag5 p.1 = none := fun p hp => hT5.un _ (List.mem_cons_of_mem _ (List.mem_map_of_mem hp))
      refine tab_app (t := 12) (key := .str b) (k := .text b) (x := .tup [.int (i : Nat), .str a, .str c]) hT5.t12 (hT5.un _ hT5.i12) hT5.th (fun c hc => hT5.c12 c hc b) (by omega) (by have := lS (.text b); omega) (acons_go (fld_go rfl hI5.self f12) (acons_go (ix2_go rfl) rfl)) (fun _ _ => acons_go (tup_go (acons_go rfl (acons_go (ix1_go rfl) (acons_go (ix3_go rfl) rfl)))) rfl) fun S6 tag6 ht6 kp6 ka6 => ?_
      refine ⟨_, _, tag6, rfl, hI5.keep kp6 (by simp) hun5 hown5 hT5.ft (by obtain ⟨c, hc⟩ := ht6.cell; rw [hc]; exact fun z => nomatch z), ?_⟩
      rw [ht, hx, mRo_chain, mFi_snoc, mSe_snoc]
      exact (hT5.keep12 hI5.le (ads_there hI5) kp6 ka6 ht6).up (Nat.le_succ _) (Nat.le_refl _) (Nat.le_refl _)
  · obtain ⟨x2, x3, tag, rfl, hI, hT⟩ := hv
    rw [enumD_len, List.length_map] at hT
    have : book.zipIdx.take book.length = book.zipIdx := List.take_of_length_le (by rw [List.length_zipIdx]; exact Nat.le_refl _)
    rw [this] at hT
    exact RdQ.here (q a9 a10 a11 a12 tag S' hI (hT.up hbl hbl hbl))
end
end K62
set_option Elab.async false
set_option linter.all false
set_option maxRecDepth 100000
set_option maxHeartbeats 4000000
namespace K62
open PySem PySem.Spec PyProof.Rows L2 Evl KD
theorem sc__begin : FnScope ["self", "facts", "kind", "person", "place", "fact"] ["self", "facts"] (defScope (meth 3)) := ⟨rfl, rfl, rfl, by decide +kernel, rfl, by decide +kernel, by decide +kernel⟩
theorem sc_is_below : FnScope ["self", "subject", "kind"] ["self", "subject", "kind"] (defScope (meth 10)) := ⟨rfl, rfl, rfl, by decide +kernel, rfl, by decide +kernel, by decide +kernel⟩
theorem sc_void_subject : FnScope ["self", "subject", "person"] ["self"] (defScope (meth 11)) := ⟨rfl, rfl, rfl, by decide +kernel, rfl, by decide +kernel, by decide +kernel⟩
theorem sc_is_void : FnScope ["self"] ["self"] (defScope (meth 12)) := ⟨rfl, rfl, rfl, by decide +kernel, rfl, by decide +kernel, by decide +kernel⟩
section
variable {P : Program} {w : World} {K : PySem.W.Frag} {mg : Str → Option Value} {base : Heap}
theorem has__begin (W : Wd K mg) : HasM P w K mg base 3 (clsC K) "_begin" 2 (dspBegin (clsC K)) := by
  have Sc := sc__begin
  obtain ⟨f, fd, Fd, me⟩ := W.m__begin
  refine hasM_ok W.cls me Fd Sc (fun _ _ _ _ _ _ us hl => match us, hl with | [_, _], _ => rfl) fun cdv A outer s H E hr => ?_
  have hu := bare_units hr
  have hd : WSs (cxOf C8.CX0 P w K mg base ["self", "facts", "kind", "person", "place", "fact"] "Saturation._begin" (defScope (meth 3)) f cdv A outer s H E).nox (defBody (meth 3)) _ := (wss_cons (ws_for PassesOwn.never rfl (fi_tup (fe_fld W.cls W.n_kinds (fe_v 0))) (wg_name (i := 2) Sc.nd) (wss_cons (ws_expr (we_meth (has__offer W) hr (by first | decide | omega) (fe_v 0) (fa_cons (fe_tup (fa_cons (fe_str) (fa_cons (fe_v 2) (fa_cons (fe_v 2) fa_nil)))) (fa_cons (fe_str) (fa_cons (fe_tup fa_nil) (fa_cons (fe_non) fa_nil))))))
      (wss_one (ws_expr (we_meth (has__offer W) hr (by first | decide | omega) (fe_v 0) (fa_cons (fe_tup (fa_cons (fe_str) (fa_cons (fe_v 2) (fa_cons (fe_gc W.any rfl) fa_nil)))) (fa_cons (fe_str) (fa_cons (fe_tup fa_nil) (fa_cons (fe_non) fa_nil)))))))))
      (wss_cons (ws_for PassesOwn.never rfl (fi_tup (fe_fld W.cls W.n_persons (fe_v 0))) (wg_name (i := 3) Sc.nd) (wss_one (ws_expr (we_meth (has__offer W) hr (by first | decide | omega) (fe_v 0) (fa_cons (fe_tup (fa_cons (fe_str) (fa_cons (fe_tup (fa_cons (fe_str) (fa_cons (fe_v 3) fa_nil))) (fa_cons (fe_gc W.any rfl) fa_nil)))) (fa_cons (fe_str) (fa_cons (fe_tup fa_nil) (fa_cons (fe_non) fa_nil))))))))
      (wss_one (ws_for PassesOwn.never rfl (fi_enum rfl W.f_enumerate (fa_cons (fe_v 1) fa_nil)) (wg_tup rfl (wgs_cons (wg_name (i := 4) Sc.nd) (wgs_cons (wg_name (i := 5) Sc.nd) wgs_nil))) (wss_one (ws_expr (we_meth (has__offer W) hr (by first | decide | omega) (fe_v 0) (fa_cons (fe_call (has_conclusion_of_fact W) hr (by first | decide | omega) rfl (fa_cons (fe_v 5) fa_nil)) (fa_cons (fe_str) (fa_cons (fe_tup fa_nil) (fa_cons (fe_v 4) fa_nil)))))))))))
  refine ⟨_, hd, fun ds S Q hl hp => ?_⟩
  clear hd
  obtain ⟨A, B, facts, ps, rfl, hkd, hps, hwf, h, hU, q⟩ := hp
  have hm : ∀ c, c ∈ begL B.kinds ps facts → c.d ∈ B.U := hU
  have b0 : ∀ k ∈ B.kinds, (Cn.bel k k).d ∈ B.U ∧ (Cn.bel k anyD).d ∈ B.U := fun k hk => ⟨hm _ (by simp only [begL, List.mem_append, List.mem_flatMap]; exact .inl (.inl ⟨k, hk, by simp⟩)), hm _ (by simp only [begL, List.mem_append, List.mem_flatMap]; exact .inl (.inl ⟨k, hk, by simp⟩))⟩
  have b1 : ∀ p ∈ ps, (Cn.bel (psn p) anyD).d ∈ B.U := fun p hp => hm _ (by simp only [begL, List.mem_append, List.mem_map]; exact .inl (.inr ⟨p, hp, rfl⟩))
  have b2 : ∀ x ∈ facts, x.c.d ∈ B.U := fun x hx => hm _ (by simp only [begL, List.mem_append, List.mem_map]; exact .inr ⟨x, hx, rfl⟩)
  rw [← h.self]
  refine ag_for (kp := none) (items := B.kinds) (o := fun k => [(Cn.bel k k).d, (Cn.bel k anyD).d]) (R := fun ρ => ∃ x2 x3 x4 x5, ρ = [some (.ref A.sf), some (.tup (facts.map Fa.d)), x2, x3, x4, x5]) h.ag ?_ (fun _ _ => trivial) ⟨_, _, _, _, rfl⟩ ?_ ?_ ?_
  · unfold itTup
    rw [fld_go (d := .tup A.kinds) rfl (h.go h.ag).sf h.fo.kinds, hkd]
    rfl
  · intro k hk c hc
    simp only [List.mem_cons, List.not_mem_nil, or_false] at hc
    rcases hc with rfl | rfl
    · exact (b0 k hk).1
    · exact (b0 k hk).2
  · rintro k hk ρ kvs1 wt1 ⟨x2, x3, x4, x5, rfl⟩ hg E' q'
    refine meth_go rfl (h.go hg).sf h.fo.offer rfl rfl ?_
    refine offer_go (c := (Cn.bel k k).d) h hg (b0 k hk).1 fun kvs2 wt2 ho2 hg2 => ?_
    refine meth_go rfl (h.go hg2).sf h.fo.offer rfl rfl ?_
    exact offer_go (c := (Cn.bel k anyD).d) h hg2 (b0 k hk).2 fun kvs3 wt3 ho3 hg3 => q' _ _ _ ⟨_, _, _, _, rfl⟩ (ho2.append ho3) hg3
  rintro ρ1 kvs1 wt1 ⟨x2, x3, x4, x5, rfl⟩ ho1 hg1
  refine ag_for (kp := none) (items := ps.map .str) (o := fun p => [(Cn.bel (.tup [.str "person", p]) anyD).d]) (R := fun ρ => ∃ x2 x3 x4 x5, ρ = [some (.ref A.sf), some (.tup (facts.map Fa.d)), x2, x3, x4, x5]) hg1 ?_ (fun _ _ => trivial) ⟨_, _, _, _, rfl⟩ ?_ ?_ ?_
  · unfold itTup
    rw [fld_go (d := .tup A.persons) rfl (h.go hg1).sf h.fo.persons, hps]
    rfl
  · intro d hd c hc
    obtain ⟨p, hp, rfl⟩ := List.mem_map.mp hd
    rw [List.mem_singleton.mp hc]
    exact b1 p hp
  · rintro d hd ρ kvs2 wt2 ⟨y2, y3, y4, y5, rfl⟩ hg E' q'
    obtain ⟨p, hp, rfl⟩ := List.mem_map.mp hd
    refine meth_go rfl (h.go hg).sf h.fo.offer rfl rfl ?_
    exact offer_go (c := (Cn.bel (psn p) anyD).d) h hg (b1 p hp) fun kvs3 wt3 ho3 hg3 => q' _ _ _ ⟨_, _, _, _, rfl⟩ ho3 hg3
  rintro ρ2 kvs2 wt2 ⟨y2, y3, y4, y5, rfl⟩ ho2 hg2
  have hcon : ∀ x : Fa, conD x.d = some x.c.d := fun x => by cases x <;> rfl
  refine ag_for (kp := none) (items := enumD (facts.map Fa.d)) (o := fun d => match d with | .tup [_, f] => (conD f).toList | _ => []) (R := fun ρ => ∃ x2 x3 x4 x5, ρ = [some (.ref A.sf), some (.tup (facts.map Fa.d)), x2, x3, x4, x5]) hg2 rfl (fun _ _ => trivial) ⟨_, _, _, _, rfl⟩ ?_ ?_ ?_
  · intro d hd c hc
    obtain ⟨i, f, rfl, hf⟩ := enum_mem hd
    obtain ⟨x, hx, rfl⟩ := List.mem_map.mp hf
    simp only [hcon, Option.toList, List.mem_singleton] at hc
    rw [hc]
    exact b2 x hx
  · rintro d hd ρ kvs3 wt3 ⟨z2, z3, z4, z5, rfl⟩ hg E' q'
    obtain ⟨i, f, rfl, hf⟩ := enum_mem hd
    obtain ⟨x, hx, rfl⟩ := List.mem_map.mp hf
    refine ⟨_, rfl, rfl, _, _, rfl, _, _, rfl, rfl, ?_⟩
    refine meth_go (ds := [x.c.d, .str "fact", .tup [], .int i]) rfl (h.go hg).sf h.fo.offer (acons_go (dFn1.trans ?_) rfl) rfl ?_
    · show (if wfF 9 x.d = true then conD x.d else none) = _
      rw [if_pos (hwf x hx)]
      exact hcon x
    · refine offer_go (c := x.c.d) h hg (b2 x hx) fun kvs4 wt4 ho4 hg4 => q' _ _ _ ⟨_, _, _, _, rfl⟩ ?_ hg4
      simp only [hcon]
      exact ho4
  rintro ρ3 kvs3 wt3 ⟨z2, z3, z4, z5, rfl⟩ ho3 hg3
  refine RdQ.here (q kvs3 wt3 (((ho1.append ho2).append ho3).congr ?_) hg3)
  have e3 : (enumD (facts.map Fa.d)).flatMap (fun d => match d with | .tup [_, f] => (conD f).toList | _ => []) = facts.map fun x => x.c.d := by
    unfold enumD
    rw [List.flatMap_map]
    have : ((facts.map Fa.d).zipIdx).flatMap (fun p => (fun f => (conD f).toList) p.1) = (facts.map Fa.d).flatMap fun f => (conD f).toList := enum_flat (o := fun f => (conD f).toList)
    refine Eq.trans this ?_
    rw [List.flatMap_map]
    simp only [hcon, Option.toList]
    rw [← List.map_eq_flatMap]
  rw [e3, begL, List.map_append, List.map_append, List.map_flatMap, List.map_map, List.map_map, List.flatMap_map, ← List.map_eq_flatMap]
  rfl
theorem has_is_below (W : Wd K mg) : HasM P w K mg base 1 (clsC K) "is_below" 3 (pureSp (belF (clsC K))) := by
  have Sc := sc_is_below
  obtain ⟨f, fd, Fd, me⟩ := W.m_is_below
  refine hasM_ok W.cls me Fd Sc (fun _ _ _ _ _ _ us hl => match us, hl with | [_, _, _], _ => rfl) fun cdv A outer s H E hr => ?_
  have hu := bare_units hr
  have hd : WSs (cxOf C8.CX0 P w K mg base ["self", "subject", "kind"] "Saturation.is_below" (defScope (meth 10)) f cdv A outer s H E).nox (defBody (meth 10)) _ := (wss_one (ws_ret (fe_din hu (fe_tup (fa_cons (fe_str) (fa_cons (fe_v 1) (fa_cons (fe_v 2) fa_nil)))) (fe_fld W.cls W.n_steps (fe_v 0)))))
  refine ⟨_, hd, fun ds S Q hl hp => ?_⟩
  clear hd
  obtain ⟨d, h, q⟩ := hp
  match ds, hl with
  | [a, b, c], _ => exact ⟨d, h, RdQ.here q⟩
theorem has_void_subject (W : Wd K mg) : HasM P w K mg base 2 (clsC K) "void_subject" 1 (pureSp (voidF (clsC K))) := by
  have Sc := sc_void_subject
  obtain ⟨f, fd, Fd, me⟩ := W.m_void_subject
  refine hasM_ok W.cls me Fd Sc (fun _ _ _ _ _ _ us hl => match us, hl with | [_], _ => rfl) fun cdv A outer s H E hr => ?_
  have hu := bare_units hr
  have hd : WSs (cxOf C8.CX0 P w K mg base ["self", "subject", "person"] "Saturation.void_subject" (defScope (meth 11)) f cdv A outer s H E).nox (defBody (meth 11)) _ := (wss_cons (ws_for PassesOwn.never rfl (wi_lst (we_rd (we_addL (fe_lst (fa_cons (fe_gc W.any rfl) fa_nil)) (wl_lcS (own := [("person", 2)]) rfl Sc.nd (blkOk_by (by rfl)) iok_tup (fi_tup (fe_fld W.cls W.n_persons (fe_v 0))) (tgb_name (i := 2)) (fun _ _ _ _ _ => (pg_name (i := 2) Sc.nd rfl (Or.inl rfl))) (fun _ _ _ _ _ => ftn) (fun _ _ _ _ _ => (fe_tup (fa_cons (fe_str) (fa_cons (fe_v 2) fa_nil)))))))) (wg_name (i := 1) Sc.nd) (wss_one (ws_if (ft_val (fe_meth (has_is_below W) hr (by first | decide | omega) (fe_v 0) (fa_cons (fe_v 1) (fa_cons (fe_gc W.none rfl) fa_nil)))) (wss_one (ws_ret (fe_v 1))) wss_nil)))
      (wss_one (ws_ret (fe_non))))
  refine ⟨_, hd, fun ds S Q hl hp => ?_⟩
  clear hd
  obtain ⟨d, h, q⟩ := hp
  obtain ⟨rfl, sf, rfl, hv⟩ := voidF_open h
  obtain ⟨fs, ps, h1, h2, h3, h4, h5, h6⟩ := hv.bel
  refine ⟨.lst [anyD], rfl, ?_⟩
  refine lc_go1 (items := ps.map .str) (k := none) (keep := fun _ => true) (out := fun d => .tup [.str "person", d]) ?_ (by rw [List.length_map]; omega) (fun d hd S' l => ⟨_, rfl, rfl, fun _ => rfl⟩) ?_
  · unfold itTup
    rw [fld_go (d := .tup (ps.map .str)) rfl h1 h2]
    rfl
  refine ⟨[anyD], _, rfl, rfl, ?_, fun p hp => ?_⟩
  · rw [filter_true, List.length_map, List.length_map]
    simp
    omega
  have hit : [anyD] ++ ((ps.map D.str).filter fun _ => true).map (fun d => D.tup [.str "person", d]) = anyD :: ps.map psn := by
    rw [filter_true, List.map_map]
    rfl
  rw [hit]
  refine rd_new hp ⟨_, rfl, fun i ρ' S' => ∃ o1 o2, ρ' = [some (.ref sf), o1, o2] ∧ S' = S, ⟨_, _, rfl, rfl⟩, fun _ _ _ _ _ => trivial, fun i d ρ' S' hd hv2 => ?_, fun ρ' S' hv2 => ?_⟩
  · obtain ⟨o1, o2, rfl, rfl⟩ := hv2
    refine if_no (tb_go ((mth_go rfl h1 h3 rfl rfl).trans (h6 d (List.mem_of_getElem? hd) _ (Le.refl _)))) ?_
    exact ⟨_, _, rfl, rfl⟩
  · obtain ⟨o1, o2, rfl, rfl⟩ := hv2
    exact ⟨_, rfl, RdQ.here q⟩
theorem has_is_void (W : Wd K mg) : HasM P w K mg base 3 (clsC K) "is_void" 1 (pureSp (isVoidF (clsC K))) := by
  have Sc := sc_is_void
  obtain ⟨f, fd, Fd, me⟩ := W.m_is_void
  refine hasM_ok W.cls me Fd Sc (fun _ _ _ _ _ _ us hl => match us, hl with | [_], _ => rfl) fun cdv A outer s H E hr => ?_
  have hu := bare_units hr
  have hd : WSs (cxOf C8.CX0 P w K mg base ["self"] "Saturation.is_void" (defScope (meth 12)) f cdv A outer s H E).nox (defBody (meth 12)) _ := (wss_one (ws_ret (fe_notN (fe_meth0 (has_void_subject W) hr (by first | decide | omega) (fe_v 0)) (fe_non))))
  refine ⟨_, hd, fun ds S Q hl hp => ?_⟩
  clear hd
  obtain ⟨d, h, q⟩ := hp
  obtain ⟨rfl, sf, rfl, hv⟩ := isVoidF_open h
  refine ⟨_, ?_, RdQ.here q⟩
  obtain ⟨fs, ps, h1, h2, h3, h4, h5, h6⟩ := hv.bel
  have e := mth_go (C := clsC K) (m := "void_subject") (n := 1) (f := voidF (clsC K)) (α := dVar 0) (η := aNil) (ρ := startD ["self"] [.ref sf]) rfl h1 h4 rfl rfl
  rw [voidF_go hv] at e
  show (Option.bind (dMth (clsC K) "void_subject" 1 (voidF (clsC K)) (dVar 0) aNil (startD ["self"] [.ref sf]) S) _) = _
  rw [e]
  rfl
end
end K62
set_option Elab.async false
set_option linter.all false
set_option maxRecDepth 100000
set_option maxHeartbeats 4000000
namespace K62
open PySem PySem.Spec PyProof.Rows L2 Evl KD
theorem sc___init__ : FnScope ["self", "book", "facts", "kinds", "least"] ["self", "book", "facts", "kinds", "least"] (defScope (meth 0)) := ⟨rfl, rfl, rfl, by decide +kernel, rfl, by decide +kernel, by decide +kernel⟩
section
variable {P : Program} {w : World} {K : PySem.W.Frag} {mg : Str → Option Value} {base : Heap}
theorem has_Saturation (W : Wd K mg) : HasC P w K mg base 8 "Saturation" (clsC K) 5 (dspSat (clsC K)) := by
  have Sc := sc___init__
  obtain ⟨f, fd, Fd, Mk0⟩ := W.m___init__
  refine hasC_ok Mk0 W.g_cls Fd Sc (fun _ _ _ _ _ _ us hl => match us, hl with | [_, _, _, _, _], _ => rfl) fun cdv A outer s H E hr => ?_
  have hu := bare_units hr
  have hd : WSs (cxOf C8.CX0 P w K mg base ["self", "book", "facts", "kinds", "least"] "Saturation.__init__" (defScope (meth 0)) f cdv A outer s H E).nox (defBody (meth 0)) _ := (wss_cons (ws_fld W.cls W.n_kinds (fe_v 0) (we_call (has_asked_of W) hr (by first | decide | omega) rfl (fa_cons (fe_v 1) (fa_cons (fe_v 2) (fa_cons (fe_v 3) fa_nil)))))
      (wss_cons (ws_fld W.cls W.n_persons (fe_v 0) (fe_call (has_persons_in W) hr (by first | decide | omega) rfl (fa_cons (fe_v 2) fa_nil)))
      (wss_cons (ws_fld W.cls W.n_least (fe_v 0) (fe_v 4))
      (wss_cons (ws_fld W.cls W.n_steps (fe_v 0) we_newT)
      (wss_cons (ws_fld W.cls W.n_sizes (fe_v 0) we_newT)
      (wss_cons (ws_fld W.cls W.n_waiting (fe_v 0) (we_lst fa_nil))
      (wss_cons (ws_fld W.cls W.n_count (fe_v 0) (fe_int))
      (wss_cons (ws_fld W.cls W.n_below (fe_v 0) we_newT)
      (wss_cons (ws_fld W.cls W.n_links_from (fe_v 0) we_newT)
      (wss_cons (ws_fld W.cls W.n_links_to (fe_v 0) we_newT)
      (wss_cons (ws_expr (we_meth0 (has__index_kinds W) hr (by first | decide | omega) (fe_v 0)))
      (wss_cons (ws_expr (we_meth (has__index_sayings W) hr (by first | decide | omega) (fe_v 0) (fa_cons (fe_v 1) fa_nil)))
      (wss_cons (ws_expr (we_meth (has__begin W) hr (by first | decide | omega) (fe_v 0) (fa_cons (fe_v 2) fa_nil)))
      (wss_one (ws_while PassesOwn.never (ft_tru (fe_fld W.cls W.n_waiting (fe_v 0))) (wss_one (ws_expr (we_meth0 (has__next W) hr (by first | decide | omega) (fe_v 0)))))))))))))))))))
  refine ⟨_, hd, fun ds S Q hl hp => ?_⟩
  clear hd
  obtain ⟨S00, sf, book, facts, kl, B, rfl, hsf, h0, hle, hask, hw, hbk, hkd, hki, hkl, hwf, hun, q⟩ := hp
  have j0 : In2 (clsC K) S00 sf [] [] 0 S := ⟨⟨hsf, h0, fun p hp => (nomatch hp), List.nodup_nil, hle⟩, Nat.le_refl _⟩
  have hfl : (facts.map Fa.d).length ≤ 1000 := hask.lf
  refine ⟨[.tup (book.map Say.d), .tup (facts.map Fa.d), .tup kl], rfl, rfl, _, _, _, rfl, hask, sf, [], rfl, hsf, by simp, ?_⟩
  rw [← hkd]
  have j1 : In2 (clsC K) S00 sf (putFD "kinds" (.tup B.kinds) []) [] 1 (put S sf (.ins (clsC K) (putFD "kinds" (.tup B.kinds) []))) := ⟨j0.i.fld _, Nat.le_refl _⟩
  revert j1
  generalize put S sf (.ins (clsC K) (putFD "kinds" (.tup B.kinds) [])) = T1
  intro j1
  refine gput_e (d := .tup (perD (facts.map Fa.d))) j1 (fun _ => rfl) (dFn1.trans ?_) fun T2 j2 => ?_
  · show (if wfFs 9 (.tup (facts.map Fa.d)) = true ∧ (facts.map Fa.d).length ≤ 1000 then some (D.tup (perD (facts.map Fa.d))) else none) = _
    exact if_pos ⟨hwf, hfl⟩
  refine gput_e (d := .bl false) j2 (fun _ => rfl) rfl fun T3 j3 => ?_
  refine gput_T j3 (fun _ => rfl) fun a1 T4 j4 => ?_
  refine gput_T j4 (fun _ => rfl) fun a2 T5 j5 => ?_
  refine gput_L j5 (fun _ => rfl) fun a3 T6 j6 => ?_
  refine gput_e (d := .int 0) j6 (fun _ => rfl) rfl fun T7 j7 => ?_
  refine gput_T j7 (fun _ => rfl) fun a4 T8 j8 => ?_
  refine gput_T j8 (fun _ => rfl) fun a5 T9 j9 => ?_
  refine gput_T j9 (fun _ => rfl) fun a6 T10 j10 => ?_
  refine meth_go0 rfl j10.i.self ?_ rfl ?_
  · repeat (first | rw [lookup_put_same] | rw [lookup_put_ne (by decide)])
    rfl
  refine ⟨S00, sf, _, _, B.kinds, rfl, j10.i, ?_, by have := j10.l; omega, hkl, hki, fun a7 a8 kv8 T11 j11 hso => ?_⟩
  · repeat (first | rw [lookup_put_same] | rw [lookup_put_ne (by decide)])
  refine meth_go rfl j11.self ?_ rfl rfl ?_
  · repeat (first | rw [lookup_put_same] | rw [lookup_put_ne (by decide)])
    rfl
  refine ⟨S00, sf, _, _, book, rfl, j11, ?_, by have := hask.lb; rw [List.length_map] at this; exact this, fun a9 a10 a11 a12 tag T12 j12 ht => ?_⟩
  · exact Nat.lt_of_le_of_lt (Nat.le_trans putFD_len (Nat.succ_le_succ (put_l j10))) (by decide)
  have sub : ([sf, a1, a3, a4, a5, a6, a7, a8, a9, a10, a11, a12] : List Addr).Sublist (adsOf sf (((((((((([] ++ [(a1, some (Cell.dT []))]) ++ [(a2, some (.dT []))]) ++ [(a3, some (.lst []))]) ++ [(a4, some (.dT []))]) ++ [(a5, some (.dT []))]) ++ [(a6, some (.dT []))]) ++ [(a7, some (.dT []))]) ++ [(a8, some (.dT kv8))]) ++ [(a9, some (.dT []))]) ++ [(a10, none), (a11, none), (a12, none)])) := .cons₂ _ (.cons₂ _ (.cons _ (List.Sublist.refl _)))
  have hndf : (adsOf sf (((((((((([] ++ [(a1, some (Cell.dT []))]) ++ [(a2, some (.dT []))]) ++ [(a3, some (.lst []))]) ++ [(a4, some (.dT []))]) ++ [(a5, some (.dT []))]) ++ [(a6, some (.dT []))]) ++ [(a7, some (.dT []))]) ++ [(a8, some (.dT kv8))]) ++ [(a9, some (.dT []))]) ++ [(a10, none), (a11, none), (a12, none)] : List (Addr × Option Cell))).Nodup := List.nodup_cons.mpr ⟨fun z => (by
    obtain ⟨p, hp, e⟩ := List.mem_map.mp z
    exact (j12.owns p hp).2.2.2 e), j12.nd⟩
  have fo : FsOk ⟨sf, a1, a3, a4, a5, a6, a7, a8, a9, a10, a11, a12, (putFD "seconds" (D.ref a12) (putFD "firsts" (D.ref a11) (putFD "roles" (D.ref a10) (putFD "sayings" (D.ref a9) (putFD "somes" (D.ref a8) (putFD "wholes" (D.ref a7) (putFD "links_to" (D.ref a6) (putFD "links_from" (D.ref a5) (putFD "below" (D.ref a4) (putFD "count" (D.int 0) (putFD "waiting" (D.ref a3) (putFD "sizes" (D.ref a2) (putFD "steps" (D.ref a1) (putFD "least" (D.bl false) (putFD "persons" (D.tup (perD (facts.map Fa.d))) (putFD "kinds" (D.tup B.kinds) [])))))))))))))))), B.kinds, perD (facts.map Fa.d)⟩ := by
    constructor <;> dsimp only <;> (repeat (first | rw [lookup_put_same] | rw [lookup_put_ne (by decide)])) <;> rfl
  have hs0 : ∀ a ∈ adsOf sf (((((((((([] ++ [(a1, some (Cell.dT []))]) ++ [(a2, some (.dT []))]) ++ [(a3, some (.lst []))]) ++ [(a4, some (.dT []))]) ++ [(a5, some (.dT []))]) ++ [(a6, some (.dT []))]) ++ [(a7, some (.dT []))]) ++ [(a8, some (.dT kv8))]) ++ [(a9, some (.dT []))]) ++ [(a10, none), (a11, none), (a12, none)] : List (Addr × Option Cell)), S00 a = none := fun a ha => (by
    rcases List.mem_cons.mp ha with z | z
    · rw [z]; exact h0
    · obtain ⟨p, hp, e⟩ := List.mem_map.mp z
      rw [← e]
      exact (j12.owns p hp).2.2.1)
  have e1 : T12 a1 = some (.dT []) := j12.at_ (by simp)
  have e3 : T12 a3 = some (.lst []) := j12.at_ (by simp)
  have e4 : T12 a4 = some (.dT []) := j12.at_ (by simp)
  have e5 : T12 a5 = some (.dT []) := j12.at_ (by simp)
  have e6 : T12 a6 = some (.dT []) := j12.at_ (by simp)
  have e7 : T12 a7 = some (.dT []) := j12.at_ (by simp)
  have e8 : T12 a8 = some (.dT kv8) := j12.at_ (by simp)
  have e9 : T12 a9 = some (.dT []) := j12.at_ (by simp)
  have kT : ∀ {c : Cell}, some (Cell.dT []) = some c → ∀ d, ckey c d = d.key := fun e d => by cases e; rfl
  have hA : ∃ A2 : Ads, A2 = ⟨sf, a1, a3, a4, a5, a6, a7, a8, a9, a10, a11, a12, (putFD "seconds" (D.ref a12) (putFD "firsts" (D.ref a11) (putFD "roles" (D.ref a10) (putFD "sayings" (D.ref a9) (putFD "somes" (D.ref a8) (putFD "wholes" (D.ref a7) (putFD "links_to" (D.ref a6) (putFD "links_from" (D.ref a5) (putFD "below" (D.ref a4) (putFD "count" (D.int 0) (putFD "waiting" (D.ref a3) (putFD "sizes" (D.ref a2) (putFD "steps" (D.ref a1) (putFD "least" (D.bl false) (putFD "persons" (D.tup (perD (facts.map Fa.d))) (putFD "kinds" (D.tup B.kinds) [])))))))))))))))), B.kinds, perD (facts.map Fa.d)⟩ := ⟨_, rfl⟩
  obtain ⟨A2, hA⟩ := hA
  rw [← hA] at fo
  have hst : Sta A2 B S00 tag [] T12 := by
    subst hA
    exact ⟨fun a ha => ht.un a (sub.subset ha), hndf.sublist sub, ht.th, j12.le, fun a ha => hs0 a (sub.subset ha), ht.ft, tab_new e4 (.inl rfl), tab_new e5 (.inl rfl), tab_new e6 (.inl rfl),
      fun c hc => kT (e4 ▸ hc), fun c hc => kT (e5 ▸ hc), fun c hc => kT (e6 ▸ hc), e7, ⟨kv8, e8, hso⟩, e9,
      (by rw [hbk]; exact ht.t10.mono (by decide)), (by rw [hbk]; exact ht.t11.mono (by decide)), (by rw [hbk]; exact ht.t12.mono (by decide)), ht.c10, ht.c11, ht.c12⟩
  have hag : AgSt (clsC K) A2 B.U [] [] T12 := by
    refine ⟨fo, ?_, ?_, ?_, hst.ne 1 2, hst.ne 0 1, hst.ne 0 2, ⟨hw.ky, hw.few, fun d hd => (nomatch hd), List.nodup_nil, Nat.le_refl _⟩⟩
    · subst hA; exact j12.self
    · subst hA; exact e1
    · subst hA; exact e3
  have a_sf : A2.sf = sf := by rw [hA]
  have a_k : A2.kinds = B.kinds := by rw [hA]
  have a_p : A2.persons = perD (facts.map Fa.d) := by rw [hA]
  have a_3 : A2.fs.lookup ("waiting" : Str) = some (.ref A2.a3) := fo.waiting
  have lbegin : ((putFD "seconds" (D.ref a12) (putFD "firsts" (D.ref a11) (putFD "roles" (D.ref a10) (putFD "sayings" (D.ref a9) (putFD "somes" (D.ref a8) (putFD "wholes" (D.ref a7) (putFD "links_to" (D.ref a6) (putFD "links_from" (D.ref a5) (putFD "below" (D.ref a4) (putFD "count" (D.int 0) (putFD "waiting" (D.ref a3) (putFD "sizes" (D.ref a2) (putFD "steps" (D.ref a1) (putFD "least" (D.bl false) (putFD "persons" (D.tup (perD (facts.map Fa.d))) (putFD "kinds" (D.tup B.kinds) [])))))))))))))))) : List (Str × D)).lookup ("_begin" : Str) = none := by
    repeat (first | rw [lookup_put_same] | rw [lookup_put_ne (by decide)])
    rfl
  have hwfx : ∀ x ∈ facts, wfF 9 x.d = true := fun x hx => hask.f _ (List.mem_map_of_mem hx)
  refine meth_go (ds := [.tup (facts.map Fa.d)]) rfl j12.self lbegin rfl rfl ?_
  refine ⟨A2, B, facts, sortS (perS (facts.map Fa.d)), by rw [a_sf], a_k, a_p, hwfx, hag, fun c hc => hw.mem c (hun c hc), fun kvs wt ho hg => ?_⟩
  clear hA fo
  obtain ⟨wl, rfl, hrun⟩ := Run.start hun ho
  refine ⟨fun m ρ' S' => ρ' = startD ["self", "book", "facts", "kinds", "least"] [.ref A2.sf, .tup (book.map Say.d), .tup (facts.map Fa.d), .tup kl, .bl false] ∧ ∃ tag pr wl kvs, m = 100000 - pr.length ∧ AgSt (clsC K) A2 B.U kvs (wl.map Cn.d) S' ∧ Sta A2 B S00 tag pr S' ∧ Run B (begL B.kinds (sortS (perS (facts.map Fa.d))) facts) pr wl kvs,
    ⟨_, by rw [a_sf], tag, [], wl, kvs, rfl, hag.go hg, hst.go, hrun⟩, fun m ρ' S' hv => ?_⟩
  obtain ⟨rfl, tag', pr, wl', kvs', rfl, hag', hst', hrun'⟩ := hv
  have hlen := hrun'.len
  have hmax := hag'.ag.len
  rcases List.eq_nil_or_concat wl' with rfl | ⟨wl2, c, rfl⟩
  · refine ⟨false, ?_, ?_⟩
    · unfold tru
      rw [fld_go (ad := A2.sf) (d := .ref A2.a3) rfl hag'.sf a_3]
      show truD S' (.ref A2.a3) = _
      simp only [truD, hag'.c3]
      rfl
    · exact RdQ.here (q A2 S' a_sf a_k a_p (hrun'.done hag' hst'))
  · refine ⟨true, ?_, ?_⟩
    · unfold tru
      rw [fld_go (ad := A2.sf) (d := .ref A2.a3) rfl hag'.sf a_3]
      show truD S' (.ref A2.a3) = _
      simp only [truD, hag'.c3]
      simp
    · rw [List.concat_eq_append] at hrun' hag' hlen
      rw [List.map_append] at hag'
      refine meth_go0 rfl hag'.sf hag'.fo.next_ rfl ?_
      have hl2 : pr.length < 100000 := by
        simp only [List.length_append, List.length_cons, List.length_nil] at hlen
        omega
      refine ⟨A2, B, kvs', wl2.map Cn.d, S00, tag', pr, c, rfl, hw, a_k, fun x hx => hrun'.un x ?_, hl2, hag', hst', fun S2 tag2 kvs2 wt2 cs ho2 hg2 hs2 hsn hcm => ?_⟩
      · rcases List.mem_append.mp hx with z | z
        · exact List.mem_append_left _ z
        · exact List.mem_append_right _ (List.mem_append_right _ z)
      · obtain ⟨wl3, rfl, hr3⟩ := hrun'.step hw ho2 hsn hcm
        refine ⟨_, ?_, rfl, tag2, pr ++ [c], wl3, kvs2, rfl, hg2, hs2, hr3⟩
        rw [List.length_append]
        simp only [List.length_cons, List.length_nil]
        omega
end
end K62
set_option Elab.async false
set_option linter.all false
set_option maxRecDepth 100000
set_option maxHeartbeats 4000000
namespace K62
open PySem PySem.Spec PyProof.Rows L2 Evl KD
theorem sc_saturated : FnScope ["book", "facts", "kinds"] ["book", "facts", "kinds"] (defScope (top 44)) := ⟨rfl, rfl, rfl, by decide +kernel, rfl, by decide +kernel, by decide +kernel⟩
theorem sc_check_known : FnScope ["facts", "person"] ["facts", "person"] (defScope (top 46)) := ⟨rfl, rfl, rfl, by decide +kernel, rfl, by decide +kernel, by decide +kernel⟩
section
variable {P : Program} {w : World} {K : PySem.W.Frag} {mg : Str → Option Value} {base : Heap}
theorem has_saturated (W : Wd K mg) : Has P w K mg base 10 "saturated" 3 (dspSatd (clsC K)) := by
  have Sc := sc_saturated
  refine has_ok W.d_saturated Sc (fun _ _ _ _ _ _ us hl => match us, hl with | [_, _, _], _ => rfl) fun f cdv A outer s H E hr => ?_
  have hu := bare_units hr
  have hd : WSs (cxOf C8.CX0 P w K mg base ["book", "facts", "kinds"] "saturated" (defScope (top 44)) f cdv A outer s H E).nox (defBody (top 44)) _ := (wss_one (ws_ret (we_make (has_Saturation W) hr (by first | decide | omega) rfl (fa_cons (fe_v 0) (fa_cons (fe_v 1) (fa_cons (fe_v 2) (fa_cons (fe_bl) fa_nil)))))))
  refine ⟨_, hd, fun ds S Q hl hp => ?_⟩
  clear hd
  obtain ⟨book, facts, kl, B, rfl, hok, q⟩ := hp
  refine ⟨[.tup (book.map Say.d), .tup (facts.map Fa.d), .tup kl, .bl false], rfl, rfl, fun sf hsf => ?_⟩
  refine ⟨S, sf, book, facts, kl, B, rfl, put_same, hsf, Le.put hsf, hok.ask, hok.wo, hok.bk, hok.kd, hok.ki, hok.few, hok.wf, hok.un, fun A S' e1 e2 e3 hd => ⟨rfl, ?_⟩⟩
  subst e1
  exact RdQ.here (q A S' hsf e2 e3 hd)
theorem has_check_known (W : Wd K mg) : Has P w K mg base 3 "check_known" 2 (pureSp (p2 fun a b => match a, b with
    | .tup ss, .str x => if wfFs 9 a = true ∧ ss.length ≤ 1000 ∧ x ∈ perS ss then some .non else none
    | _, _ => none)) := by
  have Sc := sc_check_known
  refine has_ok W.d_check_known Sc (fun _ _ _ _ _ _ us hl => match us, hl with | [_, _], _ => rfl) fun f cdv A outer s H E hr => ?_
  have hu := bare_units hr
  have hd : WSs (cxOf C8.CX0 P w K mg base ["facts", "person"] "check_known" (defScope (top 46)) f cdv A outer s H E).nox (defBody (top 46)) _ := (wss_one (ws_if (ft_nin hu (fe_v 1) (fe_call (has_persons_in W) hr (by first | decide | omega) rfl (fa_cons (fe_v 0) fa_nil))) wss_never wss_nil))
  refine ⟨_, hd, fun ds S Q hl hp => ?_⟩
  clear hd
  obtain ⟨a, b, d, rfl, h, q⟩ := p2_open hp
  match a, b, h with
  | .tup ss, .str x, h =>
    obtain ⟨⟨h1, h2, h3⟩, rfl⟩ := if_some h
    refine if_no (tb_go ?_) (RdQ.here q)
    unfold dBin
    rw [dFn1]
    show (Option.bind (some (D.str x)) fun a => Option.bind (Option.bind (some (D.tup ss)) _) fun b => gNin S a b) = _
    simp only [Option.bind_some]
    rw [if_pos ⟨h1, h2⟩]
    simp only [Option.bind_some, gNin, perD, seqOf]
    rw [inD_str]
    simp [mem_sortS, h3]
end
end K62
set_option Elab.async false
set_option linter.all false
set_option maxRecDepth 100000
set_option maxHeartbeats 4000000
namespace K62
open PySem PySem.Spec PyProof.Rows L2 Evl KD
theorem sc_linked : FnScope ["book", "facts", "person", "role", "table", "links", "other"] ["book", "facts", "person", "role"] (defScope (top 48)) := ⟨rfl, rfl, rfl, by decide +kernel, rfl, by decide +kernel, by decide +kernel⟩
section
variable {P : Program} {w : World} {K : PySem.W.Frag} {mg : Str → Option Value} {base : Heap}
open Classical in
theorem hasD_linked (W : Wd K mg) : HasD P w K mg base 16 "linked" (top 48) ["book", "facts", "person", "role"] dspLinked := by
  have Sc := sc_linked
  refine hasD_ok W.d_linked Sc fun f cdv A outer s H E hr => ?_
  have hu := bare_units hr
  have hd : WSs (cxOf C8.CX0 P w K mg base ["book", "facts", "person", "role", "table", "links", "other"] "linked" (defScope (top 48)) f cdv A outer s H E).nox (defBody (top 48)) _ := (wss_cons (ws_expr (fe_call (has_check_book W 9) hr (by first | decide | omega) rfl (fa_cons (fe_v 0) fa_nil)))
      (wss_cons (ws_expr (fe_call (has_check_facts W 9) hr (by first | decide | omega) rfl (fa_cons (fe_v 1) fa_nil)))
      (wss_cons (ws_expr (fe_call (has_check_word W) hr (by first | decide | omega) rfl (fa_cons (fe_v 2) fa_nil)))
      (wss_cons (ws_expr (fe_call (has_check_word W) hr (by first | decide | omega) rfl (fa_cons (fe_v 3) fa_nil)))
      (wss_cons (ws_expr (fe_call (has_check_known W) hr (by first | decide | omega) rfl (fa_cons (fe_v 1) (fa_cons (fe_v 2) fa_nil))))
      (wss_cons (ws_set (i := 4) Sc.nd (we_call (has_saturated W) hr (by first | decide | omega) rfl (fa_cons (fe_v 0) (fa_cons (fe_v 1) (fa_cons (fe_tup fa_nil) fa_nil)))))
      (wss_cons (ws_if (ft_val (fe_meth0 (has_is_void W) hr (by first | decide | omega) (fe_v 4))) (wss_one (ws_ret (fe_call (has_persons_in W) hr (by first | decide | omega) rfl (fa_cons (fe_v 1) fa_nil)))) wss_nil)
      (wss_cons (ws_set (i := 5) Sc.nd (fe_dget2 hu (fe_fld W.cls W.n_links_from (fe_v 4)) (fe_tup (fa_cons (fe_str) (fa_cons (fe_v 2) fa_nil))) (fe_lst fa_nil) ⟨by rfl, by rfl, by rfl, by rfl⟩))
      (wss_one (ws_ret (we_tuple rfl W.f_tuple (wl_lcS (own := [("other", 6)]) rfl Sc.nd (blkOk_by (by rfl)) iok_tup (fi_tup (fe_call (has_persons_in W) hr (by first | decide | omega) rfl (fa_cons (fe_v 1) fa_nil))) (tgb_name (i := 6)) (fun _ _ _ _ _ => (pg_name (i := 6) Sc.nd rfl (Or.inl rfl))) (fun _ _ _ _ _ => (ft1 (ft_in hu (fe_tup (fa_cons (fe_v 3) (fa_cons (fe_tup (fa_cons (fe_str) (fa_cons (fe_v 6) fa_nil))) fa_nil))) (fe_v 5)))) (fun _ _ _ _ _ => (fe_v 6))))))))))))))
  refine ⟨_, hd, fun ds S Q hl hp => ?_⟩
  clear hd
  obtain ⟨book, facts, x, r, B, rfl, hok, hwb, hwx, hwr, hx, hpl, hnv, q⟩ := hp
  refine ⟨.non, dFn1.trans (yes_true hwb), ?_⟩
  refine ⟨.non, dFn1.trans (yes_true hok.wf), ?_⟩
  refine ⟨.non, dFn1.trans (yes_true hwx), ?_⟩
  refine ⟨.non, dFn1.trans (yes_true hwr), ?_⟩
  have hfl : (facts.map Fa.d).length ≤ 1000 := hok.ask.lf
  refine ⟨.non, dFn2.trans (if_pos ⟨hok.wf, hfl, hx⟩), ?_⟩
  refine ⟨[.tup (book.map Say.d), .tup (facts.map Fa.d), .tup []], rfl, rfl, book, facts, [], B, rfl, hok, fun A2 S1 hsf e2 e3 hd => ?_⟩
  obtain ⟨tag, pr, kvs, hle, ha, hs, hm, hpn⟩ := hd.ans
  have nv := noVoid_go ha hm e3 hpl (hnv _ hle)
  refine if_no (tb_go ((mth_go rfl ha.sf ha.fo.is_void rfl rfl).trans (isVoidF_go nv))) ?_
  have hxs : x ∈ psS facts := psS_mem.mpr hx
  have hPx := least_psn hle hok.wo hxs
  have hkx := (hok.wo.key _ hPx).1.2
  obtain ⟨v, hv, hv2⟩ := tab_val (α := dFld (clsC K) "links_from" (dVar 4)) (β := dTup (aCons (dC (.str "person")) (aCons (dVar 2) aNil))) (γ := dLst (lLst aNil)) (ρ := [some (.tup (book.map Say.d)), some (.tup (facts.map Fa.d)), some (.str x), some (.str r), some (.ref A2.sf), none, none]) hs.t5 (fun c hc => (hs.c5 c hc (psn x)).trans hkx) (fld_go rfl ha.sf ha.fo.links_from) rfl rfl
  refine asg_go hv ?_
  have ho : ∀ c ∈ pr, CnOk B.P c := fun c hc => hok.wo.ok c (hle.un c hc)
  have hTD : ∀ d ∈ mF pr (nkD (psn x)), TD d = true := fun d hd => by
    obtain ⟨r2, e, rfl, hl⟩ := (mem_mF ho (P_td hok.wo) hPx).mp hd
    have := P_td hok.wo _ (ho _ hl).2
    simp [TD, TDs, this]
  dsimp only [dRet, wCall, asLst]
  refine lc_go1 (items := (psS facts).map .str) (k := none) (keep := fun d => decide (Cn.lnk (psn x) r (psn (txt d)) ∈ pr)) (out := id) ?_ (by rw [List.length_map]; omega) (fun d hd S' l => ?_) ?_
  · unfold itTup
    rw [dFn1]
    show (Option.bind (Option.bind (some (D.tup (facts.map Fa.d))) _) _) = _
    simp only [Option.bind_some]
    rw [if_pos ⟨hok.wf, hfl⟩]
    rfl
  · obtain ⟨y, hy, rfl⟩ := List.mem_map.mp hd
    refine ⟨_, rfl, tb_go ?_, fun _ => rfl⟩
    obtain ⟨b, hb, hb2⟩ := inD_td (x := .tup [.str r, psn y]) (ds := mF pr (nkD (psn x))) (by simp [TD, TDs, psn]) hTD (by
      rw [nkD_tup (by simp [TD, TDs, psn])]
      have := (psn_td y).2
      have h0 : (nkD (D.str r)).depth ≤ 4 := by
        show (NestedKey.depth (.text r)) ≤ 4
        simp [NestedKey.depth]
      simp only [List.map_cons, List.map_nil, NestedKey.depth, NestedKey.depthAll]
      omega)
    refine (in_go (x := .tup [.str r, psn y]) (v := v) rfl rfl (hv2 S' l) hb).trans ?_
    congr 2
    rw [Bool.eq_iff_iff, hb2, decide_eq_true_eq, mem_mF ho (P_td hok.wo) hPx]
    constructor
    · rintro ⟨r2, e, h1, h2⟩
      injection h1 with h1
      injection h1 with h1 h3
      injection h3 with h3 _
      injection h1 with h1
      rw [h1, show psn (txt (.str y)) = psn y from rfl, h3]
      exact h2
    · exact fun h => ⟨r, psn y, rfl, h⟩
  · rw [List.map_id]
    have hf : ((psS facts).map D.str).filter (fun d => decide (Cn.lnk (psn x) r (psn (txt d)) ∈ pr)) = ((psS facts).filter fun y => decide (Cn.lnk (psn x) r (psn y) ∈ pr)).map .str := filter_strs (keep := fun y => decide (Cn.lnk (psn x) r (psn y) ∈ pr))
    rw [hf]
    refine ⟨.tup (((psS facts).filter fun y => decide (Cn.lnk (psn x) r (psn y) ∈ pr)).map .str), ?_, ?_⟩
    · rfl
    · exact RdQ.le (q _ fun pr' hp' y => by rw [decide_eq_true_eq]; exact hle.same hp' _) hs.le
theorem has_linked (W : Wd K mg) : Has P w K mg base 16 "linked" 4 dspLinked := (hasD_linked W).has fun _ _ _ _ _ _ us hl => match us, hl with | [_, _, _, _], _ => rfl
theorem hasK_linked (W : Wd K mg) : HasKw P w K mg base 16 "linked" 4 3 1 [0, 1, 2, 3] ["role"] dspLinked := (hasD_linked W).kw (by decide) fun _ _ _ _ _ _ us ws hu hw => match us, ws, hu, hw with | [_, _, _], [_], _, _ => rfl
end
end K62
set_option Elab.async false
set_option linter.all false
set_option maxRecDepth 100000
set_option maxHeartbeats 4000000
namespace K62
open PySem PySem.Spec PyProof.Rows L2 Evl KD
theorem sc_members : FnScope ["book", "facts", "kind", "table", "void", "person"] ["book", "facts", "kind"] (defScope (top 47)) := ⟨rfl, rfl, rfl, by decide +kernel, rfl, by decide +kernel, by decide +kernel⟩
theorem sc_check_question : FnScope ["book", "facts", "claim"] ["book", "facts", "claim"] (defScope (top 50)) := ⟨rfl, rfl, rfl, by decide +kernel, rfl, by decide +kernel, by decide +kernel⟩
section
variable {P : Program} {w : World} {K : PySem.W.Frag} {mg : Str → Option Value} {base : Heap}
open Classical in
theorem has_members (W : Wd K mg) : Has P w K mg base 16 "members" 3 dspMembers := by
  have Sc := sc_members
  refine has_ok W.d_members Sc (fun _ _ _ _ _ _ us hl => match us, hl with | [_, _, _], _ => rfl) fun f cdv A outer s H E hr => ?_
  have hu := bare_units hr
  have hd : WSs (cxOf C8.CX0 P w K mg base ["book", "facts", "kind", "table", "void", "person"] "members" (defScope (top 47)) f cdv A outer s H E).nox (defBody (top 47)) _ := (wss_cons (ws_expr (fe_call (has_check_book W 9) hr (by first | decide | omega) rfl (fa_cons (fe_v 0) fa_nil)))
      (wss_cons (ws_expr (fe_call (has_check_facts W 9) hr (by first | decide | omega) rfl (fa_cons (fe_v 1) fa_nil)))
      (wss_cons (ws_expr (fe_call (has_check_kind W 9) hr (by first | decide | omega) rfl (fa_cons (fe_v 2) fa_nil)))
      (wss_cons (ws_set (i := 3) Sc.nd (we_call (has_saturated W) hr (by first | decide | omega) rfl (fa_cons (fe_v 0) (fa_cons (fe_v 1) (fa_cons (fe_tup (fa_cons (fe_v 2) fa_nil)) fa_nil)))))
      (wss_cons (ws_set (i := 4) Sc.nd (fe_meth0 (has_is_void W) hr (by first | decide | omega) (fe_v 3)))
      (wss_one (ws_ret (we_tuple rfl W.f_tuple (wl_lcS (own := [("person", 5)]) rfl Sc.nd (blkOk_by (by rfl)) iok_tup (fi_tup (fe_call (has_persons_in W) hr (by first | decide | omega) rfl (fa_cons (fe_v 1) fa_nil))) (tgb_name (i := 5)) (fun _ _ _ _ _ => (pg_name (i := 5) Sc.nd rfl (Or.inl rfl))) (fun _ _ _ _ _ => (ft1 (ft_w (fw_or (ft_tru (fe_v 4)) (fw_or1 (ft_val (fe_meth (has_is_below W) hr (by first | decide | omega) (fe_v 3) (fa_cons (fe_tup (fa_cons (fe_str) (fa_cons (fe_v 5) fa_nil))) (fa_cons (fe_v 2) fa_nil))))))))) (fun _ _ _ _ _ => (fe_v 5)))))))))))
  refine ⟨_, hd, fun ds S Q hl hp => ?_⟩
  clear hd
  obtain ⟨book, facts, k, B, rfl, hok, hwb, hwk, hkt, hkd, hpl, hnv, q⟩ := hp
  refine ⟨.non, dFn1.trans (yes_true hwb), ?_⟩
  refine ⟨.non, dFn1.trans (yes_true hok.wf), ?_⟩
  refine ⟨.non, dFn1.trans (yes_true hwk), ?_⟩
  have hfl : (facts.map Fa.d).length ≤ 1000 := hok.ask.lf
  refine ⟨[.tup (book.map Say.d), .tup (facts.map Fa.d), .tup [k]], rfl, rfl, book, facts, [k], B, rfl, hok, fun A2 S1 hsf e2 e3 hd => ?_⟩
  obtain ⟨tag, pr, kvs, hle, ha, hs, hm, hpn⟩ := hd.ans
  have nv := noVoid_go ha hm e3 hpl (hnv _ hle)
  refine asg_go ((mth_go rfl ha.sf ha.fo.is_void rfl rfl).trans (isVoidF_go nv)) ?_
  dsimp only [dRet, wCall, asLst]
  refine lc_go1 (items := (psS facts).map .str) (k := none) (keep := fun d => decide (Cn.bel (psn (txt d)) k ∈ pr)) (out := id) ?_ (by rw [List.length_map]; omega) (fun d hd S' l => ?_) ?_
  · unfold itTup
    rw [dFn1]
    show (Option.bind (Option.bind (some (D.tup (facts.map Fa.d))) _) _) = _
    simp only [Option.bind_some]
    rw [if_pos ⟨hok.wf, hfl⟩]
    rfl
  · obtain ⟨y, hy, rfl⟩ := List.mem_map.mp hd
    refine ⟨_, rfl, ?_, fun _ => rfl⟩
    have hb := belF_go (S' := S') (s := psn y) (k := k) ha hm l (key3 (psn_td y).1 (psn_td y).2 hkt hkd)
    have e5 := tb_go ((mth_go (C := clsC K) (m := "is_below") (n := 3) (f := belF (clsC K)) (α := dVar 3) (η := aCons (dTup (aCons (dC (.str "person")) (aCons (dVar 5) aNil))) (aCons (dVar 2) aNil)) (ρ := [some (.tup (book.map Say.d)), some (.tup (facts.map Fa.d)), some k, some (.ref A2.sf), some (.bl false), some (.str y)]) (ds := [psn y, k]) rfl (l _ _ ha.sf) ha.fo.is_below rfl rfl).trans hb)
    show bOr (tru (dVar 4)) (tb (dMth (clsC K) "is_below" 3 (belF (clsC K)) (dVar 3) (aCons (dTup (aCons (dC (.str "person")) (aCons (dVar 5) aNil))) (aCons (dVar 2) aNil)))) [some (.tup (book.map Say.d)), some (.tup (facts.map Fa.d)), some k, some (.ref A2.sf), some (.bl false), some (.str y)] S' = _
    unfold bOr
    rw [e5]
    rfl
  · rw [List.map_id]
    have hf : ((psS facts).map D.str).filter (fun d => decide (Cn.bel (psn (txt d)) k ∈ pr)) = ((psS facts).filter fun y => decide (Cn.bel (psn y) k ∈ pr)).map .str := filter_strs (keep := fun y => decide (Cn.bel (psn y) k ∈ pr))
    rw [hf]
    refine ⟨.tup (((psS facts).filter fun y => decide (Cn.bel (psn y) k ∈ pr)).map .str), rfl, ?_⟩
    exact RdQ.le (q _ fun pr' hp' y => by rw [decide_eq_true_eq]; exact hle.same hp' _) hs.le
theorem has_check_question (W : Wd K mg) : Has P w K mg base 15 "check_question" 3 (pureSp (p3 fun a b c => yes (wfB 9 a && wfFs 9 b && wfS 9 c) .non)) := by
  have Sc := sc_check_question
  refine has_ok W.d_check_question Sc (fun _ _ _ _ _ _ us hl => match us, hl with | [_, _, _], _ => rfl) fun f cdv A outer s H E hr => ?_
  have hu := bare_units hr
  have hd : WSs (cxOf C8.CX0 P w K mg base ["book", "facts", "claim"] "check_question" (defScope (top 50)) f cdv A outer s H E).nox (defBody (top 50)) _ := (wss_cons (ws_expr (fe_call (has_check_book W 9) hr (by first | decide | omega) rfl (fa_cons (fe_v 0) fa_nil)))
      (wss_cons (ws_expr (fe_call (has_check_facts W 9) hr (by first | decide | omega) rfl (fa_cons (fe_v 1) fa_nil)))
      (wss_one (ws_expr (fe_call (has_check_claim W 9) hr (by first | decide | omega) rfl (fa_cons (fe_v 2) fa_nil))))))
  refine ⟨_, hd, fun ds S Q hl hp => ?_⟩
  clear hd
  obtain ⟨a, b, c, d, rfl, h, q⟩ := p3_open hp
  obtain ⟨h1, rfl⟩ := yes_some h
  simp only [Bool.and_eq_true] at h1
  exact ⟨.non, dFn1.trans (yes_true h1.1.1), .non, dFn1.trans (yes_true h1.1.2), .non, dFn1.trans (yes_true h1.2), RdQ.here q⟩
end
end K62
set_option Elab.async false
set_option linter.all false
set_option maxRecDepth 100000
set_option maxHeartbeats 4000000
namespace K62
open PySem PySem.Spec PyProof.Rows L2 Evl KD
theorem sc_question : FnScope ["book", "facts", "claim", "asked"] ["book", "facts", "claim"] (defScope (top 51)) := ⟨rfl, rfl, rfl, by decide +kernel, rfl, by decide +kernel, by decide +kernel⟩
theorem sc_follows_of : FnScope ["book", "facts", "claim", "found", "wanted"] ["book", "facts", "claim"] (defScope (top 52)) := ⟨rfl, rfl, rfl, by decide +kernel, rfl, by decide +kernel, by decide +kernel⟩
theorem sc_follows : FnScope ["book", "facts", "claim"] ["book", "facts", "claim"] (defScope (top 53)) := ⟨rfl, rfl, rfl, by decide +kernel, rfl, by decide +kernel, by decide +kernel⟩
section
variable {P : Program} {w : World} {K : PySem.W.Frag} {mg : Str → Option Value} {base : Heap}
theorem has_question (W : Wd K mg) : Has P w K mg base 15 "question" 3 (dspQuestion (clsC K)) := by
  have Sc := sc_question
  refine has_ok W.d_question Sc (fun _ _ _ _ _ _ us hl => match us, hl with | [_, _, _], _ => rfl) fun f cdv A outer s H E hr => ?_
  have hu := bare_units hr
  have hd : WSs (cxOf C8.CX0 P w K mg base ["book", "facts", "claim", "asked"] "question" (defScope (top 51)) f cdv A outer s H E).nox (defBody (top 51)) _ := (wss_cons (ws_set (i := 3) Sc.nd (we_call (has_asked_facts W) hr (by first | decide | omega) rfl (fa_cons (fe_v 1) (fa_cons (fe_v 2) fa_nil))))
      (wss_one (ws_ret (we_tup (wa_cons (we_call (has_saturated W) hr (by first | decide | omega) rfl (fa_cons (fe_v 0) (fa_cons (fe_v 3) (fa_cons (fe_call (has_kinds_in W) hr (by first | decide | omega) rfl (fa_cons (fe_v 2) fa_nil)) fa_nil)))) (wa_cons (we_call (has_goal_of W) hr (by first | decide | omega) rfl (fa_cons (fe_v 1) (fa_cons (fe_v 2) fa_nil))) wa_nil))))))
  refine ⟨_, hd, fun ds S Q hl hp => ?_⟩
  clear hd
  obtain ⟨book, facts, cl, B, a, b, c, rfl, hq, q⟩ := hp
  have hl9 : (facts.map Fa.d).length ≤ 900 := by rw [List.length_map]; exact hq.few
  have hkin : ∀ x3, dFn 1 (p1 fun a => if wfF 9 a = true then some (D.tup (kofF a)) else if wfS 9 a = true then some (D.tup (kos1 a)) else none) (aCons (dVar 2) aNil) [some (.tup (book.map Say.d)), some (.tup (facts.map Fa.d)), some cl.d, x3] S = some (.tup []) := by
    intro x3
    rw [dFn1]
    show (Option.bind (some cl.d) _) = _
    simp only [Option.bind_some]
    have hc := hq.wc
    cases cl with
    | role x y =>
      have h1 : wfF 9 (Say.role x y).d = false := rfl
      rw [h1, hc]
      rfl
    | chain x y z =>
      have h1 : wfF 9 (Say.chain x y z).d = false := rfl
      rw [h1, hc]
      rfl
  have happ : (facts ++ askF cl a b c).map Fa.d = facts.map Fa.d ++ (askF cl a b c).map Fa.d := List.map_append
  cases cl with
  | role x y =>
    refine ⟨[.tup (facts.map Fa.d), (Say.role x y).d], rfl, rfl, facts.map Fa.d, (Say.role x y).d, a, b, c, rfl, hq.wf, hl9, hq.fresh, .inl ⟨.str x, .str y, rfl, ?_⟩⟩
    refine ⟨[.tup (book.map Say.d), .tup ((facts ++ askF (.role x y) a b c).map Fa.d), .tup []], acons_go rfl (acons_go (by rw [happ]; rfl) (acons_go (hkin _) rfl)), rfl, book, facts ++ askF (.role x y) a b c, [], B, rfl, hq.sat, fun A2 S1 _ _ e3 hd => ?_⟩
    exact ⟨[.tup (facts.map Fa.d), (Say.role x y).d], rfl, rfl, facts.map Fa.d, (Say.role x y).d, a, b, c, rfl, hq.wf, hl9, hq.fresh, .inl ⟨.str x, .str y, rfl, by simp, RdQ.here (q A2 S1 e3 hd)⟩⟩
  | chain x y z =>
    refine ⟨[.tup (facts.map Fa.d), (Say.chain x y z).d], rfl, rfl, facts.map Fa.d, (Say.chain x y z).d, a, b, c, rfl, hq.wf, hl9, hq.fresh, .inr ⟨.str x, .str y, .str z, rfl, ?_⟩⟩
    refine ⟨[.tup (book.map Say.d), .tup ((facts ++ askF (.chain x y z) a b c).map Fa.d), .tup []], acons_go rfl (acons_go (by rw [happ]; rfl) (acons_go (hkin _) rfl)), rfl, book, facts ++ askF (.chain x y z) a b c, [], B, rfl, hq.sat, fun A2 S1 _ _ e3 hd => ?_⟩
    exact ⟨[.tup (facts.map Fa.d), (Say.chain x y z).d], rfl, rfl, facts.map Fa.d, (Say.chain x y z).d, a, b, c, rfl, hq.wf, hl9, hq.fresh, .inr ⟨.str x, .str y, .str z, rfl, by simp, RdQ.here (q A2 S1 e3 hd)⟩⟩
theorem has_follows_of (W : Wd K mg) : Has P w K mg base 16 "follows_of" 3 dspFollowsOf := by
  have Sc := sc_follows_of
  refine has_ok W.d_follows_of Sc (fun _ _ _ _ _ _ us hl => match us, hl with | [_, _, _], _ => rfl) fun f cdv A outer s H E hr => ?_
  have hu := bare_units hr
  have hd : WSs (cxOf C8.CX0 P w K mg base ["book", "facts", "claim", "found", "wanted"] "follows_of" (defScope (top 52)) f cdv A outer s H E).nox (defBody (top 52)) _ := (wss_cons (ws_asg (we_call (has_question W) hr (by first | decide | omega) rfl (fa_cons (fe_v 0) (fa_cons (fe_v 1) (fa_cons (fe_v 2) fa_nil)))) (wg_tup rfl (wgs_cons (wg_name (i := 3) Sc.nd) (wgs_cons (wg_name (i := 4) Sc.nd) wgs_nil))))
      (wss_one (ws_ret (fe_or (fe_din hu (fe_v 4) (fe_fld W.cls W.n_steps (fe_v 3))) (fe_one (fe_meth0 (has_is_void W) hr (by first | decide | omega) (fe_v 3)))))))
  refine ⟨_, hd, fun ds S Q hl hp => ?_⟩
  clear hd
  obtain ⟨book, facts, cl, B, a, b, c, rfl, hq, hpl, hnv, q⟩ := hp
  refine ⟨[.tup (book.map Say.d), .tup (facts.map Fa.d), cl.d], rfl, rfl, book, facts, cl, B, a, b, c, rfl, hq, fun A2 S1 e3 hd => ?_⟩
  refine ⟨_, rfl, rfl, _, _, rfl, _, _, rfl, rfl, ?_⟩
  obtain ⟨tag, pr, kvs, hle, ha, hs, hm, hpn⟩ := hd.ans
  have nv := noVoid_go ha hm e3 hpl (hnv _ hle)
  obtain ⟨h1, h2⟩ := told_go ha hm (c := goalC cl a b c) goal_key
  have hv := (mth_go (C := clsC K) (m := "is_void") (n := 1) (f := isVoidF (clsC K)) (α := dVar 3) (η := aNil) (ρ := [some (.tup (book.map Say.d)), some (.tup (facts.map Fa.d)), some cl.d, some (.ref A2.sf), some (goalC cl a b c).d]) rfl ha.sf ha.fo.is_void rfl rfl).trans (isVoidF_go nv)
  have hdin : dDin false (dVar 4) (dFld (clsC K) "steps" (dVar 3)) [some (.tup (book.map Say.d)), some (.tup (facts.map Fa.d)), some cl.d, some (.ref A2.sf), some (goalC cl a b c).d] S1 = some (.bl (findT (nkD (goalC cl a b c).d) kvs).isSome) := by
    have ef := fld_go (C := clsC K) (f := "steps") (α := dVar 3) (ρ := [some (.tup (book.map Say.d)), some (.tup (facts.map Fa.d)), some cl.d, some (.ref A2.sf), some (goalC cl a b c).d]) (S := S1) rfl ha.sf ha.fo.steps
    unfold dDin
    show (Option.bind (some (goalC cl a b c).d) fun y => Option.bind (dFld (clsC K) "steps" (dVar 3) [some (.tup (book.map Say.d)), some (.tup (facts.map Fa.d)), some cl.d, some (.ref A2.sf), some (goalC cl a b c).d] S1) _) = _
    rw [show dFld (clsC K) "steps" (dVar 3) [some (.tup (book.map Say.d)), some (.tup (facts.map Fa.d)), some cl.d, some (.ref A2.sf), some (goalC cl a b c).d] S1 = some (.ref A2.a1) from ef]
    simp only [Option.bind_some, getD_T ha.c1 h1, Option.map_some]
    rfl
  refine ⟨.bl (findT (nkD (goalC cl a b c).d) kvs).isSome, ?_, RdQ.le (q _ fun pr' hp' => h2.trans (hle.same hp' _)) hs.le⟩
  show vOr (dDin false (dVar 4) (dFld (clsC K) "steps" (dVar 3))) (dMth (clsC K) "is_void" 1 (isVoidF (clsC K)) (dVar 3) aNil) [some (.tup (book.map Say.d)), some (.tup (facts.map Fa.d)), some cl.d, some (.ref A2.sf), some (goalC cl a b c).d] S1 = _
  unfold vOr
  rw [hdin, hv]
  cases (findT (nkD (goalC cl a b c).d) kvs).isSome <;> rfl
theorem has_follows (W : Wd K mg) : Has P w K mg base 17 "follows" 3 dspFollows := by
  have Sc := sc_follows
  refine has_ok W.d_follows Sc (fun _ _ _ _ _ _ us hl => match us, hl with | [_, _, _], _ => rfl) fun f cdv A outer s H E hr => ?_
  have hu := bare_units hr
  have hd : WSs (cxOf C8.CX0 P w K mg base ["book", "facts", "claim"] "follows" (defScope (top 53)) f cdv A outer s H E).nox (defBody (top 53)) _ := (wss_cons (ws_expr (fe_call (has_check_question W) hr (by first | decide | omega) rfl (fa_cons (fe_v 0) (fa_cons (fe_v 1) (fa_cons (fe_v 2) fa_nil)))))
      (wss_one (ws_ret (we_call (has_follows_of W) hr (by first | decide | omega) rfl (fa_cons (fe_v 0) (fa_cons (fe_v 1) (fa_cons (fe_v 2) fa_nil)))))))
  refine ⟨_, hd, fun ds S Q hl hp => ?_⟩
  clear hd
  obtain ⟨book, facts, cl, B, a, b, c, rfl, hwb, hq, hpl, hnv, q⟩ := hp
  refine ⟨.non, ?_, ?_⟩
  · show dFn 3 (p3 fun a b c => yes (wfB 9 a && wfFs 9 b && wfS 9 c) .non) (aCons (dVar 0) (aCons (dVar 1) (aCons (dVar 2) aNil))) (startD ["book", "facts", "claim"] [.tup (book.map Say.d), .tup (facts.map Fa.d), cl.d]) S = _
    rw [dFn3]
    exact yes_true (by rw [hwb, hq.wf, hq.wc]; rfl)
  exact ⟨[.tup (book.map Say.d), .tup (facts.map Fa.d), cl.d], rfl, rfl, book, facts, cl, B, a, b, c, rfl, hq, hpl, hnv, fun k hk => RdQ.here (q k hk)⟩
end
end K62
set_option Elab.async false
set_option linter.all false
set_option maxRecDepth 100000
set_option maxHeartbeats 4000000
namespace K62
open PySem PySem.Spec PyProof.Rows L2 Evl KD
theorem sc__law_pick : FnScope ["source", "many", "found"] ["source", "many"] (defScope (top 56)) := ⟨rfl, rfl, rfl, by decide +kernel, rfl, by decide +kernel, by decide +kernel⟩
theorem sc__law_source : FnScope ["cell"] ["cell"] (defScope (top 55)) := ⟨rfl, rfl, rfl, by decide +kernel, rfl, by decide +kernel, by decide +kernel⟩
section
variable {P : Program} {w : World} {K : PySem.W.Frag} {mg : Str → Option Value} {base : Heap}
theorem has__law_pick (W : Wd K mg) : Has P w K mg base 1 "_law_pick" 2 dspPick := by
  have Sc := sc__law_pick
  refine has_ok W.d__law_pick Sc (fun _ _ _ _ _ _ us hl => match us, hl with | [_, _], _ => rfl) fun f cdv A outer s H E hr => ?_
  have hu := bare_units hr
  have hd : WSs (cxOf C8.CX0 P w K mg base ["source", "many", "found"] "_law_pick" (defScope (top 56)) f cdv A outer s H E).nox (defBody (top 56)) _ := (wss_cons (ws_if (ft_gt (fe_ix (fe_v 0) (fe_int)) (fe_int)) (wss_cons (ws_set (i := 2) Sc.nd (fe_mod (fe_intc rfl W.f_int (fe_ix (fe_v 0) (fe_int))) (fe_v 1)))
      (wss_cons (ws_asg (fe_div (fe_ix (fe_v 0) (fe_int)) (fe_v 1)) (wg_subL (fe_v 0) (fe_int)))
      (wss_one (ws_ret (fe_v 2))))) wss_nil)
      (wss_cons (ws_asg (fe_mod (fe_intc rfl W.f_int (fe_add (fe_mul (fe_ix (fe_v 0) (fe_int)) (fe_int)) (fe_int))) (fe_int)) (wg_subL (fe_v 0) (fe_int)))
      (wss_one (ws_ret (fe_mod (fe_div (fe_intc rfl W.f_int (fe_ix (fe_v 0) (fe_int))) (fe_int)) (fe_v 1))))))
  refine ⟨_, hd, fun ds S Q hl hp => ?_⟩
  clear hd
  obtain ⟨p, u, v, n, rfl, hp, hv0, hv1, hn0, hn1, q⟩ := hp
  have hg : tb (dBin gGt (dBin gIx (dVar 0) (dC (.int 0))) (dC (.int 0))) (startD ["source", "many", "found"] [.ref p, .int n]) S = some (decide (u > 0)) := by
    apply tb_go
    unfold dBin gGt
    rw [show (Option.bind (dVar 0 (startD ["source", "many", "found"] [.ref p, .int n]) S) fun x => Option.bind (dC (.int 0) (startD ["source", "many", "found"] [.ref p, .int n]) S) fun y => gIx S x y) = some (.int u) from (ixl_go (α := dVar 0) rfl hp).1]
    rfl
  by_cases hu0 : u > 0
  · rw [decide_eq_true hu0] at hg
    refine if_yes hg ?_
    refine asg_go (mod_go (int_go (ixl_go rfl hp).1) rfl hn0) ?_
    refine asgs_go (k := 0) (div_go (ixl_go rfl hp).1 rfl hn0 (by omega)) rfl hp rfl ?_
    exact ⟨_, rfl, RdQ.here (q _ _ _ (Int.emod_nonneg _ (by omega)) (Int.emod_lt_of_pos _ hn0) hv0 hv1)⟩
  · rw [decide_eq_false hu0] at hg
    refine if_no hg ?_
    have hm : ∀ x : Int, 0 ≤ x % 2305843009213693951 ∧ x % 2305843009213693951 < 2 ^ 62 := fun x => ⟨Int.emod_nonneg _ (by decide), Int.lt_trans (Int.emod_lt_of_pos _ (by decide)) (by decide)⟩
    refine asgs_go (k := 1) (mod_go (int_go (add_go (mul_go (k := 62) (l := 63) (ixl_go rfl hp).2 rfl (by omega) (by decide) (by decide)) rfl)) rfl (by decide)) rfl hp rfl ?_
    refine ⟨_, mod_go (div_go (int_go (ixl_go rfl put_same).2) rfl (by decide) (by decide)) rfl hn0, RdQ.here (q _ _ _ (Int.emod_nonneg _ (by omega)) (Int.emod_lt_of_pos _ hn0) (hm _).1 (hm _).2)⟩
theorem has__law_source (W : Wd K mg) : Has P w K mg base 1 "_law_source" 1 dspSource := by
  have Sc := sc__law_source
  refine has_ok W.d__law_source Sc (fun _ _ _ _ _ _ us hl => match us, hl with | [_], _ => rfl) fun f cdv A outer s H E hr => ?_
  have hu := bare_units hr
  have hd : WSs (cxOf C8.CX0 P w K mg base ["cell"] "_law_source" (defScope (top 55)) f cdv A outer s H E).nox (defBody (top 55)) _ := (wss_cons (ws_set (i := 0) Sc.nd (fe_intc rfl W.f_int (fe_v 0)))
      (wss_one (ws_ret (we_lst (fa_cons (fe_if (ft_ge (fe_v 0) (fe_pow (fe_int) (fe_int))) (fe_sub (fe_v 0) (fe_pow (fe_int) (fe_int))) (fe_int)) (fa_cons (fe_add (fe_mod (fe_intc rfl W.f_int (fe_add (fe_add (fe_mul (fe_v 0) (fe_v 0)) (fe_mul (fe_int) (fe_v 0))) (fe_int))) (fe_int)) (fe_int)) fa_nil))))))
  refine ⟨_, hd, fun ds S Q hl hp => ?_⟩
  clear hd
  obtain ⟨c, rfl, hc, q⟩ := hp
  refine asg_go (d := .int c) (int_go rfl) ?_
  have hpow : dBin gPow (dC (.int 10)) (dC (.int 18)) [some (D.int c)] S = some (.int 1000000000000000000) := by
    unfold dBin gPow dC
    exact (if_pos (show (0 : Int) ≤ 18 ∧ (18 : Int) ≤ 1000000 ∧ (10 : Int).natAbs < 2 ^ 64 by decide) : (if (0 : Int) ≤ 18 ∧ (18 : Int) ≤ 1000000 ∧ (10 : Int).natAbs < 2 ^ 64 then some (D.int (10 ^ Int.toNat 18)) else none) = _).trans rfl
  have hcond : tb (dBin gGe (dVar 0) (dBin gPow (dC (.int 10)) (dC (.int 18)))) [some (D.int c)] S = some (decide (c ≥ 1000000000000000000)) := by
    apply tb_go
    show Option.bind (some (D.int c)) (fun x => Option.bind (dBin gPow (dC (.int 10)) (dC (.int 18)) [some (D.int c)] S) fun y => gGe S x y) = _
    rw [hpow]
    rfl
  have hu : ∃ u, dIf (tb (dBin gGe (dVar 0) (dBin gPow (dC (.int 10)) (dC (.int 18))))) (dBin KD.gSub (dVar 0) (dBin gPow (dC (.int 10)) (dC (.int 18)))) (dC (.int 0)) [some (D.int c)] S = some (.int u) := by
    unfold dIf
    rw [hcond]
    by_cases hz : c ≥ 1000000000000000000
    · rw [decide_eq_true hz]
      refine ⟨c - 1000000000000000000, ?_⟩
      show Option.bind (some (D.int c)) (fun x => Option.bind (dBin gPow (dC (.int 10)) (dC (.int 18)) [some (D.int c)] S) fun y => KD.gSub S x y) = _
      rw [hpow]
      rfl
    · rw [decide_eq_false hz]
      exact ⟨0, rfl⟩
  obtain ⟨u, hu⟩ := hu
  have hb977 : Builtin.Int.intBits 977 = 10 := by decide
  have hv : ∀ x : Int, 0 ≤ x % 2305843009213693951 + 3 ∧ x % 2305843009213693951 + 3 < 2 ^ 62 := fun x => by
    have h1 := Int.emod_nonneg x (b := 2305843009213693951) (by decide)
    have h2 := Int.emod_lt_of_pos x (b := 2305843009213693951) (by decide)
    omega
  refine ⟨_, acons_go hu (acons_go (add_go (mod_go (int_go (add_go (add_go (mulb_go rfl rfl (by omega)) (mulb_go rfl rfl (by omega))) rfl)) rfl (by decide)) rfl) rfl), by simp, fun p hp => RdQ.here (q p u _ hp (hv _).1 (hv _).2)⟩
end
end K62
set_option Elab.async false
set_option linter.all false
set_option maxRecDepth 100000
set_option maxHeartbeats 4000000
namespace K62
open PySem PySem.Spec PyProof.Rows L2 Evl KD
theorem sc__law_same : FnScope ["found", "due", "k"] ["found", "due"] (defScope (top 57)) := ⟨rfl, rfl, rfl, by decide +kernel, rfl, by decide +kernel, by decide +kernel⟩
/-- alike: equal truth values, equal texts, tuples of such -/
def samB : Nat → D → D → Bool
  | 0, _, _ => false
  | _ + 1, .bl x, .bl y => x == y
  | _ + 1, .str x, .str y => decide (x = y)
  | n + 1, .tup xs, .tup ys => decide (xs.length = ys.length) && decide (xs.length ≤ 1000) && (xs.zip ys).all fun p => samB n p.1 p.2
  | _ + 1, _, _ => false
section
variable {P : Program} {w : World} {K : PySem.W.Frag} {mg : Str → Option Value} {base : Heap}
theorem has__law_same (W : Wd K mg) : ∀ n, Has P w K mg base (n + 1) "_law_same" 2 (pureSp (p2 fun a b => yes (samB n a b) (.bl true)))
  | 0 => by
    have Sc := sc__law_same
    refine has_ok W.d__law_same Sc (fun _ _ _ _ _ _ us hl => match us, hl with | [_, _], _ => rfl) fun f cdv A outer s H E hr => ?_
    have hu := bare_units hr
    have hd : WSs (cxOf C8.CX0 P w K mg base ["found", "due", "k"] "_law_same" (defScope (top 57)) f cdv A outer s H E).nox (defBody (top 57)) _ := wss_never
    refine ⟨_, hd, fun ds S Q hl hp => ?_⟩
    clear hd
    obtain ⟨a, b, d, rfl, h, q⟩ := p2_open hp
    obtain ⟨h1, rfl⟩ := yes_some h
    cases h1
  | n + 1 => by
    have ih := has__law_same W n
    have Sc := sc__law_same
    refine has_ok W.d__law_same Sc (fun _ _ _ _ _ _ us hl => match us, hl with | [_, _], _ => rfl) fun f cdv A outer s H E hr => ?_
    have hu := bare_units hr
    have hd : WSs (cxOf C8.CX0 P w K mg base ["found", "due", "k"] "_law_same" (defScope (top 57)) f cdv A outer s H E).nox (defBody (top 57)) _ := (wss_cons (ws_if (ft_w (fw_or (ft_val (fe_isi rfl W.f_isinstance (fe_v 1) (fe_ty (n := "tuple") rfl W.f_tuple (by decide +kernel)))) (fw_or1 (ft_val (fe_isi rfl W.f_isinstance (fe_v 1) (fe_ty (n := "list") rfl W.f_list (by decide +kernel))))))) (wss_cons (ws_if (ft_w (fw_or (ft_ne hu (fe_isi rfl W.f_isinstance (fe_v 1) (fe_ty (n := "tuple") rfl W.f_tuple (by decide +kernel))) (fe_isi rfl W.f_isinstance (fe_v 0) (fe_ty (n := "tuple") rfl W.f_tuple (by decide +kernel)))) (fw_or1 (ft_ne hu (fe_isi rfl W.f_isinstance (fe_v 1) (fe_ty (n := "list") rfl W.f_list (by decide +kernel))) (fe_isi rfl W.f_isinstance (fe_v 0) (fe_ty (n := "list") rfl W.f_list (by decide +kernel))))))) (wss_one (ws_ret (fe_bl))) wss_nil)
        (wss_one (ws_ret (we_and (fe_eq hu (fe_len rfl W.f_len (fe_v 0)) (fe_len rfl W.f_len (fe_v 1))) (we_one (we_all rfl W.f_all (wa_cons (wl_lcS (own := [("k", 2)]) rfl Sc.nd (blkOk_by (by rfl)) iok_rng (fi_rng rfl W.f_range (fa_cons (fe_len rfl W.f_len (fe_v 1)) fa_nil)) (tgb_name (i := 2)) (fun _ _ _ _ _ => (pg_name (i := 2) Sc.nd rfl (Or.inl rfl))) (fun _ _ _ _ _ => ftn) (fun _ _ _ _ _ => (fe_call ih hr (by first | decide | omega) rfl (fa_cons (fe_ix (fe_v 0) (fe_v 2)) (fa_cons (fe_ix (fe_v 1) (fe_v 2)) fa_nil))))) wa_nil))))))) wss_nil)
        (wss_cons (ws_if (ft_isN (fe_v 1) (fe_non)) (wss_one (ws_ret (fe_isN (fe_v 0) (fe_non)))) wss_nil)
        (wss_cons (ws_if (ft_val (fe_isi rfl W.f_isinstance (fe_v 1) (fe_ty (n := "bool") rfl W.f_bool (by decide +kernel)))) (wss_one (ws_ret (fe_and (fe_isi rfl W.f_isinstance (fe_v 0) (fe_ty (n := "bool") rfl W.f_bool (by decide +kernel))) (fe_one (fe_eq hu (fe_v 0) (fe_v 1)))))) wss_nil)
        (wss_cons (ws_if (ft_val (fe_isi rfl W.f_isinstance (fe_v 1) (fe_ty (n := "int") rfl W.f_int (by decide +kernel)))) (wss_one (ws_ret (fe_and (fe_isi rfl W.f_isinstance (fe_v 0) (fe_ty (n := "int") rfl W.f_int (by decide +kernel))) (fe_and (fe_not (fe_isi rfl W.f_isinstance (fe_v 0) (fe_ty (n := "bool") rfl W.f_bool (by decide +kernel)))) (fe_one (fe_eq hu (fe_v 0) (fe_v 1))))))) wss_nil)
        (wss_one (ws_ret (fe_and (fe_isi rfl W.f_isinstance (fe_v 0) (fe_ty (n := "str") rfl W.f_str (by decide +kernel))) (fe_one (fe_eq hu (fe_v 0) (fe_v 1))))))))))
    refine ⟨_, hd, fun ds S Q hl hp => ?_⟩
    clear hd
    obtain ⟨a, b, d, rfl, h, q⟩ := p2_open hp
    obtain ⟨h1, rfl⟩ := yes_some h
    match a, b, h1 with
    | .bl x, .bl y, h1 =>
      have e : x = y := by simpa [samB] using h1
      subst e
      exact if_no (by first | rfl | simp [fT, fE, fA, bOr, bAnd, bNot, tb, tru, truD, dCall, lCall, gIsi, aCons, aNil, dVar, dC, dChain, gLe, gLt, gGe, gGt, gLen, gEq, gNe, eq2_str, eq2_int, eq2_bl, gIx, dBin, dTup, dIf, gAdd, gAddS, gAddT, gAll, gAny, gTuple, gList, gInt, startD, tyName, seqOf, lstOf, List.map_cons, List.map_nil, List.length_cons, List.length_nil, List.replicate, Option.bind_some, Option.map_some, Option.join_some, kit_NoneType_bool, kit_NoneType_int, kit_NoneType_str, kit_NoneType_tuple, kit_NoneType_list, kit_NoneType_dict, kit_bool_bool, kit_bool_int, kit_bool_str, kit_bool_tuple, kit_bool_list, kit_bool_dict, kit_int_bool, kit_int_int, kit_int_str, kit_int_tuple, kit_int_list, kit_int_dict, kit_str_bool, kit_str_int, kit_str_str, kit_str_tuple, kit_str_list, kit_str_dict, kit_tuple_bool, kit_tuple_int, kit_tuple_str, kit_tuple_tuple, kit_tuple_list, kit_tuple_dict, kit_list_bool, kit_list_int, kit_list_str, kit_list_tuple, kit_list_list, kit_list_dict, kit_dict_bool, kit_dict_int, kit_dict_str, kit_dict_tuple, kit_dict_list, kit_dict_dict, dFn1, dFn2, dFn3, atI0, atI1, atI2, atI3, vAnd, vOr, vNot, Option.bind_none, Option.map_none, if_true, if_false, Bool.not_true, Bool.not_false, decide_true, decide_false, Bool.false_eq_true]) (if_no (by first | rfl | simp [fT, fE, fA, bOr, bAnd, bNot, tb, tru, truD, dCall, lCall, gIsi, aCons, aNil, dVar, dC, dChain, gLe, gLt, gGe, gGt, gLen, gEq, gNe, eq2_str, eq2_int, eq2_bl, gIx, dBin, dTup, dIf, gAdd, gAddS, gAddT, gAll, gAny, gTuple, gList, gInt, startD, tyName, seqOf, lstOf, List.map_cons, List.map_nil, List.length_cons, List.length_nil, List.replicate, Option.bind_some, Option.map_some, Option.join_some, kit_NoneType_bool, kit_NoneType_int, kit_NoneType_str, kit_NoneType_tuple, kit_NoneType_list, kit_NoneType_dict, kit_bool_bool, kit_bool_int, kit_bool_str, kit_bool_tuple, kit_bool_list, kit_bool_dict, kit_int_bool, kit_int_int, kit_int_str, kit_int_tuple, kit_int_list, kit_int_dict, kit_str_bool, kit_str_int, kit_str_str, kit_str_tuple, kit_str_list, kit_str_dict, kit_tuple_bool, kit_tuple_int, kit_tuple_str, kit_tuple_tuple, kit_tuple_list, kit_tuple_dict, kit_list_bool, kit_list_int, kit_list_str, kit_list_tuple, kit_list_list, kit_list_dict, kit_dict_bool, kit_dict_int, kit_dict_str, kit_dict_tuple, kit_dict_list, kit_dict_dict, dFn1, dFn2, dFn3, atI0, atI1, atI2, atI3, vAnd, vOr, vNot, Option.bind_none, Option.map_none, if_true, if_false, Bool.not_true, Bool.not_false, decide_true, decide_false, Bool.false_eq_true]) (if_yes (by first | rfl | simp [fT, fE, fA, bOr, bAnd, bNot, tb, tru, truD, dCall, lCall, gIsi, aCons, aNil, dVar, dC, dChain, gLe, gLt, gGe, gGt, gLen, gEq, gNe, eq2_str, eq2_int, eq2_bl, gIx, dBin, dTup, dIf, gAdd, gAddS, gAddT, gAll, gAny, gTuple, gList, gInt, startD, tyName, seqOf, lstOf, List.map_cons, List.map_nil, List.length_cons, List.length_nil, List.replicate, Option.bind_some, Option.map_some, Option.join_some, kit_NoneType_bool, kit_NoneType_int, kit_NoneType_str, kit_NoneType_tuple, kit_NoneType_list, kit_NoneType_dict, kit_bool_bool, kit_bool_int, kit_bool_str, kit_bool_tuple, kit_bool_list, kit_bool_dict, kit_int_bool, kit_int_int, kit_int_str, kit_int_tuple, kit_int_list, kit_int_dict, kit_str_bool, kit_str_int, kit_str_str, kit_str_tuple, kit_str_list, kit_str_dict, kit_tuple_bool, kit_tuple_int, kit_tuple_str, kit_tuple_tuple, kit_tuple_list, kit_tuple_dict, kit_list_bool, kit_list_int, kit_list_str, kit_list_tuple, kit_list_list, kit_list_dict, kit_dict_bool, kit_dict_int, kit_dict_str, kit_dict_tuple, kit_dict_list, kit_dict_dict, dFn1, dFn2, dFn3, atI0, atI1, atI2, atI3, vAnd, vOr, vNot, Option.bind_none, Option.map_none, if_true, if_false, Bool.not_true, Bool.not_false, decide_true, decide_false, Bool.false_eq_true]) ⟨.bl true, (by first | rfl | simp [fT, fE, fA, bOr, bAnd, bNot, tb, tru, truD, dCall, lCall, gIsi, aCons, aNil, dVar, dC, dChain, gLe, gLt, gGe, gGt, gLen, gEq, gNe, eq2_str, eq2_int, eq2_bl, gIx, dBin, dTup, dIf, gAdd, gAddS, gAddT, gAll, gAny, gTuple, gList, gInt, startD, tyName, seqOf, lstOf, List.map_cons, List.map_nil, List.length_cons, List.length_nil, List.replicate, Option.bind_some, Option.map_some, Option.join_some, kit_NoneType_bool, kit_NoneType_int, kit_NoneType_str, kit_NoneType_tuple, kit_NoneType_list, kit_NoneType_dict, kit_bool_bool, kit_bool_int, kit_bool_str, kit_bool_tuple, kit_bool_list, kit_bool_dict, kit_int_bool, kit_int_int, kit_int_str, kit_int_tuple, kit_int_list, kit_int_dict, kit_str_bool, kit_str_int, kit_str_str, kit_str_tuple, kit_str_list, kit_str_dict, kit_tuple_bool, kit_tuple_int, kit_tuple_str, kit_tuple_tuple, kit_tuple_list, kit_tuple_dict, kit_list_bool, kit_list_int, kit_list_str, kit_list_tuple, kit_list_list, kit_list_dict, kit_dict_bool, kit_dict_int, kit_dict_str, kit_dict_tuple, kit_dict_list, kit_dict_dict, dFn1, dFn2, dFn3, atI0, atI1, atI2, atI3, vAnd, vOr, vNot, Option.bind_none, Option.map_none, if_true, if_false, Bool.not_true, Bool.not_false, decide_true, decide_false, Bool.false_eq_true]), RdQ.here q⟩))
    | .str x, .str y, h1 =>
      have e : x = y := by simpa [samB] using h1
      subst e
      exact if_no (by first | rfl | simp [fT, fE, fA, bOr, bAnd, bNot, tb, tru, truD, dCall, lCall, gIsi, aCons, aNil, dVar, dC, dChain, gLe, gLt, gGe, gGt, gLen, gEq, gNe, eq2_str, eq2_int, eq2_bl, gIx, dBin, dTup, dIf, gAdd, gAddS, gAddT, gAll, gAny, gTuple, gList, gInt, startD, tyName, seqOf, lstOf, List.map_cons, List.map_nil, List.length_cons, List.length_nil, List.replicate, Option.bind_some, Option.map_some, Option.join_some, kit_NoneType_bool, kit_NoneType_int, kit_NoneType_str, kit_NoneType_tuple, kit_NoneType_list, kit_NoneType_dict, kit_bool_bool, kit_bool_int, kit_bool_str, kit_bool_tuple, kit_bool_list, kit_bool_dict, kit_int_bool, kit_int_int, kit_int_str, kit_int_tuple, kit_int_list, kit_int_dict, kit_str_bool, kit_str_int, kit_str_str, kit_str_tuple, kit_str_list, kit_str_dict, kit_tuple_bool, kit_tuple_int, kit_tuple_str, kit_tuple_tuple, kit_tuple_list, kit_tuple_dict, kit_list_bool, kit_list_int, kit_list_str, kit_list_tuple, kit_list_list, kit_list_dict, kit_dict_bool, kit_dict_int, kit_dict_str, kit_dict_tuple, kit_dict_list, kit_dict_dict, dFn1, dFn2, dFn3, atI0, atI1, atI2, atI3, vAnd, vOr, vNot, Option.bind_none, Option.map_none, if_true, if_false, Bool.not_true, Bool.not_false, decide_true, decide_false, Bool.false_eq_true]) (if_no (by first | rfl | simp [fT, fE, fA, bOr, bAnd, bNot, tb, tru, truD, dCall, lCall, gIsi, aCons, aNil, dVar, dC, dChain, gLe, gLt, gGe, gGt, gLen, gEq, gNe, eq2_str, eq2_int, eq2_bl, gIx, dBin, dTup, dIf, gAdd, gAddS, gAddT, gAll, gAny, gTuple, gList, gInt, startD, tyName, seqOf, lstOf, List.map_cons, List.map_nil, List.length_cons, List.length_nil, List.replicate, Option.bind_some, Option.map_some, Option.join_some, kit_NoneType_bool, kit_NoneType_int, kit_NoneType_str, kit_NoneType_tuple, kit_NoneType_list, kit_NoneType_dict, kit_bool_bool, kit_bool_int, kit_bool_str, kit_bool_tuple, kit_bool_list, kit_bool_dict, kit_int_bool, kit_int_int, kit_int_str, kit_int_tuple, kit_int_list, kit_int_dict, kit_str_bool, kit_str_int, kit_str_str, kit_str_tuple, kit_str_list, kit_str_dict, kit_tuple_bool, kit_tuple_int, kit_tuple_str, kit_tuple_tuple, kit_tuple_list, kit_tuple_dict, kit_list_bool, kit_list_int, kit_list_str, kit_list_tuple, kit_list_list, kit_list_dict, kit_dict_bool, kit_dict_int, kit_dict_str, kit_dict_tuple, kit_dict_list, kit_dict_dict, dFn1, dFn2, dFn3, atI0, atI1, atI2, atI3, vAnd, vOr, vNot, Option.bind_none, Option.map_none, if_true, if_false, Bool.not_true, Bool.not_false, decide_true, decide_false, Bool.false_eq_true]) (if_no (by first | rfl | simp [fT, fE, fA, bOr, bAnd, bNot, tb, tru, truD, dCall, lCall, gIsi, aCons, aNil, dVar, dC, dChain, gLe, gLt, gGe, gGt, gLen, gEq, gNe, eq2_str, eq2_int, eq2_bl, gIx, dBin, dTup, dIf, gAdd, gAddS, gAddT, gAll, gAny, gTuple, gList, gInt, startD, tyName, seqOf, lstOf, List.map_cons, List.map_nil, List.length_cons, List.length_nil, List.replicate, Option.bind_some, Option.map_some, Option.join_some, kit_NoneType_bool, kit_NoneType_int, kit_NoneType_str, kit_NoneType_tuple, kit_NoneType_list, kit_NoneType_dict, kit_bool_bool, kit_bool_int, kit_bool_str, kit_bool_tuple, kit_bool_list, kit_bool_dict, kit_int_bool, kit_int_int, kit_int_str, kit_int_tuple, kit_int_list, kit_int_dict, kit_str_bool, kit_str_int, kit_str_str, kit_str_tuple, kit_str_list, kit_str_dict, kit_tuple_bool, kit_tuple_int, kit_tuple_str, kit_tuple_tuple, kit_tuple_list, kit_tuple_dict, kit_list_bool, kit_list_int, kit_list_str, kit_list_tuple, kit_list_list, kit_list_dict, kit_dict_bool, kit_dict_int, kit_dict_str, kit_dict_tuple, kit_dict_list, kit_dict_dict, dFn1, dFn2, dFn3, atI0, atI1, atI2, atI3, vAnd, vOr, vNot, Option.bind_none, Option.map_none, if_true, if_false, Bool.not_true, Bool.not_false, decide_true, decide_false, Bool.false_eq_true]) (if_no (by first | rfl | simp [fT, fE, fA, bOr, bAnd, bNot, tb, tru, truD, dCall, lCall, gIsi, aCons, aNil, dVar, dC, dChain, gLe, gLt, gGe, gGt, gLen, gEq, gNe, eq2_str, eq2_int, eq2_bl, gIx, dBin, dTup, dIf, gAdd, gAddS, gAddT, gAll, gAny, gTuple, gList, gInt, startD, tyName, seqOf, lstOf, List.map_cons, List.map_nil, List.length_cons, List.length_nil, List.replicate, Option.bind_some, Option.map_some, Option.join_some, kit_NoneType_bool, kit_NoneType_int, kit_NoneType_str, kit_NoneType_tuple, kit_NoneType_list, kit_NoneType_dict, kit_bool_bool, kit_bool_int, kit_bool_str, kit_bool_tuple, kit_bool_list, kit_bool_dict, kit_int_bool, kit_int_int, kit_int_str, kit_int_tuple, kit_int_list, kit_int_dict, kit_str_bool, kit_str_int, kit_str_str, kit_str_tuple, kit_str_list, kit_str_dict, kit_tuple_bool, kit_tuple_int, kit_tuple_str, kit_tuple_tuple, kit_tuple_list, kit_tuple_dict, kit_list_bool, kit_list_int, kit_list_str, kit_list_tuple, kit_list_list, kit_list_dict, kit_dict_bool, kit_dict_int, kit_dict_str, kit_dict_tuple, kit_dict_list, kit_dict_dict, dFn1, dFn2, dFn3, atI0, atI1, atI2, atI3, vAnd, vOr, vNot, Option.bind_none, Option.map_none, if_true, if_false, Bool.not_true, Bool.not_false, decide_true, decide_false, Bool.false_eq_true]) ⟨.bl true, (by first | rfl | simp [fT, fE, fA, bOr, bAnd, bNot, tb, tru, truD, dCall, lCall, gIsi, aCons, aNil, dVar, dC, dChain, gLe, gLt, gGe, gGt, gLen, gEq, gNe, eq2_str, eq2_int, eq2_bl, gIx, dBin, dTup, dIf, gAdd, gAddS, gAddT, gAll, gAny, gTuple, gList, gInt, startD, tyName, seqOf, lstOf, List.map_cons, List.map_nil, List.length_cons, List.length_nil, List.replicate, Option.bind_some, Option.map_some, Option.join_some, kit_NoneType_bool, kit_NoneType_int, kit_NoneType_str, kit_NoneType_tuple, kit_NoneType_list, kit_NoneType_dict, kit_bool_bool, kit_bool_int, kit_bool_str, kit_bool_tuple, kit_bool_list, kit_bool_dict, kit_int_bool, kit_int_int, kit_int_str, kit_int_tuple, kit_int_list, kit_int_dict, kit_str_bool, kit_str_int, kit_str_str, kit_str_tuple, kit_str_list, kit_str_dict, kit_tuple_bool, kit_tuple_int, kit_tuple_str, kit_tuple_tuple, kit_tuple_list, kit_tuple_dict, kit_list_bool, kit_list_int, kit_list_str, kit_list_tuple, kit_list_list, kit_list_dict, kit_dict_bool, kit_dict_int, kit_dict_str, kit_dict_tuple, kit_dict_list, kit_dict_dict, dFn1, dFn2, dFn3, atI0, atI1, atI2, atI3, vAnd, vOr, vNot, Option.bind_none, Option.map_none, if_true, if_false, Bool.not_true, Bool.not_false, decide_true, decide_false, Bool.false_eq_true]), RdQ.here q⟩)))
    | .tup xs, .tup ys, h1 =>
      simp only [samB, Bool.and_eq_true, decide_eq_true_eq] at h1
      obtain ⟨⟨hl, hz⟩, ha⟩ := h1
      refine if_yes (by first | rfl | simp [fT, fE, fA, bOr, bAnd, bNot, tb, tru, truD, dCall, lCall, gIsi, aCons, aNil, dVar, dC, dChain, gLe, gLt, gGe, gGt, gLen, gEq, gNe, eq2_str, eq2_int, eq2_bl, gIx, dBin, dTup, dIf, gAdd, gAddS, gAddT, gAll, gAny, gTuple, gList, gInt, startD, tyName, seqOf, lstOf, List.map_cons, List.map_nil, List.length_cons, List.length_nil, List.replicate, Option.bind_some, Option.map_some, Option.join_some, kit_NoneType_bool, kit_NoneType_int, kit_NoneType_str, kit_NoneType_tuple, kit_NoneType_list, kit_NoneType_dict, kit_bool_bool, kit_bool_int, kit_bool_str, kit_bool_tuple, kit_bool_list, kit_bool_dict, kit_int_bool, kit_int_int, kit_int_str, kit_int_tuple, kit_int_list, kit_int_dict, kit_str_bool, kit_str_int, kit_str_str, kit_str_tuple, kit_str_list, kit_str_dict, kit_tuple_bool, kit_tuple_int, kit_tuple_str, kit_tuple_tuple, kit_tuple_list, kit_tuple_dict, kit_list_bool, kit_list_int, kit_list_str, kit_list_tuple, kit_list_list, kit_list_dict, kit_dict_bool, kit_dict_int, kit_dict_str, kit_dict_tuple, kit_dict_list, kit_dict_dict, dFn1, dFn2, dFn3, atI0, atI1, atI2, atI3, vAnd, vOr, vNot, Option.bind_none, Option.map_none, if_true, if_false, Bool.not_true, Bool.not_false, decide_true, decide_false, Bool.false_eq_true]) (if_no (by first | rfl | simp [fT, fE, fA, bOr, bAnd, bNot, tb, tru, truD, dCall, lCall, gIsi, aCons, aNil, dVar, dC, dChain, gLe, gLt, gGe, gGt, gLen, gEq, gNe, eq2_str, eq2_int, eq2_bl, gIx, dBin, dTup, dIf, gAdd, gAddS, gAddT, gAll, gAny, gTuple, gList, gInt, startD, tyName, seqOf, lstOf, List.map_cons, List.map_nil, List.length_cons, List.length_nil, List.replicate, Option.bind_some, Option.map_some, Option.join_some, kit_NoneType_bool, kit_NoneType_int, kit_NoneType_str, kit_NoneType_tuple, kit_NoneType_list, kit_NoneType_dict, kit_bool_bool, kit_bool_int, kit_bool_str, kit_bool_tuple, kit_bool_list, kit_bool_dict, kit_int_bool, kit_int_int, kit_int_str, kit_int_tuple, kit_int_list, kit_int_dict, kit_str_bool, kit_str_int, kit_str_str, kit_str_tuple, kit_str_list, kit_str_dict, kit_tuple_bool, kit_tuple_int, kit_tuple_str, kit_tuple_tuple, kit_tuple_list, kit_tuple_dict, kit_list_bool, kit_list_int, kit_list_str, kit_list_tuple, kit_list_list, kit_list_dict, kit_dict_bool, kit_dict_int, kit_dict_str, kit_dict_tuple, kit_dict_list, kit_dict_dict, dFn1, dFn2, dFn3, atI0, atI1, atI2, atI3, vAnd, vOr, vNot, Option.bind_none, Option.map_none, if_true, if_false, Bool.not_true, Bool.not_false, decide_true, decide_false, Bool.false_eq_true]) ?_)
      refine ⟨.bl true, by simp [fT, fE, fA, bOr, bAnd, bNot, tb, tru, truD, dCall, lCall, gIsi, aCons, aNil, dVar, dC, dChain, gLe, gLt, gGe, gGt, gLen, gEq, gNe, eq2_str, eq2_int, eq2_bl, gIx, dBin, dTup, dIf, gAdd, gAddS, gAddT, gAll, gAny, gTuple, gList, gInt, startD, tyName, seqOf, lstOf, List.map_cons, List.map_nil, List.length_cons, List.length_nil, List.replicate, Option.bind_some, Option.map_some, Option.join_some, kit_NoneType_bool, kit_NoneType_int, kit_NoneType_str, kit_NoneType_tuple, kit_NoneType_list, kit_NoneType_dict, kit_bool_bool, kit_bool_int, kit_bool_str, kit_bool_tuple, kit_bool_list, kit_bool_dict, kit_int_bool, kit_int_int, kit_int_str, kit_int_tuple, kit_int_list, kit_int_dict, kit_str_bool, kit_str_int, kit_str_str, kit_str_tuple, kit_str_list, kit_str_dict, kit_tuple_bool, kit_tuple_int, kit_tuple_str, kit_tuple_tuple, kit_tuple_list, kit_tuple_dict, kit_list_bool, kit_list_int, kit_list_str, kit_list_tuple, kit_list_list, kit_list_dict, kit_dict_bool, kit_dict_int, kit_dict_str, kit_dict_tuple, kit_dict_list, kit_dict_dict, dFn1, dFn2, dFn3, atI0, atI1, atI2, atI3, vAnd, vOr, vNot, Option.bind_none, Option.map_none, if_true, if_false, Bool.not_true, Bool.not_false, decide_true, decide_false, Bool.false_eq_true, hl], true, rfl, ?_⟩
      rw [if_pos rfl]
      have hall : ∀ i, (hi : i < ys.length) → samB n (xs[i]'(by omega)) ys[i] = true := fun i hi => by
        have hm : (xs[i]'(by omega), ys[i]) ∈ xs.zip ys := by
          have : (xs.zip ys)[i]'(by rw [List.length_zip]; omega) = (xs[i]'(by omega), ys[i]) := List.getElem_zip ..
          rw [← this]
          exact List.getElem_mem _
        exact List.all_eq_true.mp ha _ hm
      refine all_go (items := (List.range ys.length).map fun i => D.int (i : Nat)) (k := none) (f := fun _ => true) ?_ (by rw [List.length_map, List.length_range]; omega) (fun d hd S' l => ?_) ?_
      · exact rng_go (j := (ys.length : Nat)) (acons_go rfl rfl) rfl (by omega)
      · obtain ⟨i, hi, rfl⟩ := List.mem_map.mp hd
        have hi : i < ys.length := List.mem_range.mp hi
        refine ⟨_, rfl, ?_⟩
        refine dFn2.trans ?_
        show Option.bind (gIx S' (.tup xs) (.int i)) (fun a => Option.bind (gIx S' (.tup ys) (.int i)) fun b => yes (samB n a b) (.bl true)) = _
        rw [gIx_seq (ds := xs) rfl, gIx_seq (ds := ys) rfl, atIn (List.getElem?_eq_getElem (by omega)), atIn (List.getElem?_eq_getElem hi)]
        exact yes_true (hall i hi)
      · have : (((List.range ys.length).map fun i => D.int (i : Nat)).all fun _ => true) = true := List.all_eq_true.mpr fun _ _ => rfl
        rw [this]
        exact RdQ.here q
end
end K62
set_option Elab.async false
set_option linter.all false
set_option maxRecDepth 100000
set_option maxHeartbeats 4000000
namespace K62
open PySem PySem.Spec PyProof.Rows L2 Evl KD
theorem sc__law_role_book : FnScope ["source", "roles", "many", "found", "k", "drawn", "at"] ["source", "roles", "many"] (defScope (top 60)) := ⟨rfl, rfl, rfl, by decide +kernel, rfl, by decide +kernel, by decide +kernel⟩
section
variable {P : Program} {w : World} {K : PySem.W.Frag} {mg : Str → Option Value} {base : Heap}
theorem has__law_role_book (W : Wd K mg) : Has P w K mg base 2 "_law_role_book" 3 dspRoleBook := by
  have Sc := sc__law_role_book
  refine has_ok W.d__law_role_book Sc (fun _ _ _ _ _ _ us hl => match us, hl with | [_, _, _], _ => rfl) fun f cdv A outer s H E hr => ?_
  have hu := bare_units hr
  have hd : WSs (cxOf C8.CX0 P w K mg base ["source", "roles", "many", "found", "k", "drawn", "at"] "_law_role_book" (defScope (top 60)) f cdv A outer s H E).nox (defBody (top 60)) _ := (wss_cons (ws_set (i := 3) Sc.nd (we_lst fa_nil))
      (wss_cons (ws_for PassesOwn.never rfl (fi_rng rfl W.f_range (fa_cons (fe_v 2) fa_nil)) (wg_name (i := 4) Sc.nd) (wss_cons (ws_setLcR (i := 5) (own := [("at", 6)]) rfl Sc.nd (by rfl) (by rfl) (by first | exact sw_true (by rfl) (by rfl) (by rfl) (by rfl) | rfl) (blkOk_by (by rfl)) (wi_rng rfl W.f_range (fa_cons (fe_int) fa_nil)) (tgb_name (i := 6)) (fun _ _ _ _ _ => (pg_name (i := 6) Sc.nd rfl (Or.inl rfl))) (fun _ _ _ _ _ => wif_nil) (fun _ _ _ _ _ => (we_ix (fe_v 1) (we_call (has__law_pick W) hr (by first | decide | omega) rfl (fa_cons (fe_v 0) (fa_cons (fe_len rfl W.f_len (fe_v 1)) fa_nil))))))
      (wss_one (ws_expr (we_append (fe_v 3) (wa_cons (we_if (wt_eq hu (we_call (has__law_pick W) hr (by first | decide | omega) rfl (fa_cons (fe_v 0) (fa_cons (fe_int) fa_nil))) (fe_int)) (fe_tup (fa_cons (fe_str) (fa_cons (fe_ix (fe_v 5) (fe_int)) (fa_cons (fe_ix (fe_v 5) (fe_int)) fa_nil)))) (fe_tup (fa_cons (fe_str) (fa_cons (fe_ix (fe_v 5) (fe_int)) (fa_cons (fe_ix (fe_v 5) (fe_int)) (fa_cons (fe_ix (fe_v 5) (fe_int)) fa_nil)))))) wa_nil))))))
      (wss_one (ws_ret (fe_tuple rfl W.f_tuple (fe_v 3))))))
  refine ⟨_, hd, fun ds S Q hl hp => ?_⟩
  clear hd
  obtain ⟨p, u, v, rs, m, rfl, hp, hv, hr0, hr1, hm, q⟩ := hp
  refine ⟨[], rfl, Nat.zero_le _, fun pf hpf => ?_⟩
  have hne : pf ≠ p := fun z => by rw [z, hp] at hpf; cases hpf
  refine ⟨(List.range m).map fun i => .int (i : Nat), none, rng_go (j := (m : Nat)) rfl rfl (by omega), fun i ρ' S' => ∃ x4 x5 x6 u' v' bk, ρ' = [some (.ref p), some (.lst (rs.map .str)), some (.int (m : Nat)), some (.ref pf), x4, x5, x6] ∧ bk.length = i ∧ (∀ s ∈ bk, Say.inn rs s) ∧ SrcV v' ∧ S' = put (drS S p u' v') pf (.lst (bk.map Say.d)), ⟨_, _, _, u, v, [], rfl, rfl, fun _ h => (nomatch h), hv, by rw [drS_self hp]; rfl⟩, fun _ _ _ _ _ => trivial, fun i d ρ' S' hd hI => ?_, fun ρ' S' hI => ?_⟩
  · obtain ⟨x4, x5, x6, u', v', bk, rfl, hbl, hbk, hv', rfl⟩ := hI
    have hi : i < m := by
      rcases Nat.lt_or_ge i ((List.range m).map fun i => D.int (i : Nat)).length with z | z
      · rw [List.length_map, List.length_range] at z; exact z
      · rw [List.getElem?_eq_none z] at hd; cases hd
    have hroom : ∀ {S' : DS} {c : Cell}, put (drS S p u' v') pf c p = some (.lst [.int u', .int v']) := fun {S'} {c} => by rw [put_ne (Ne.symm hne)]; exact drS_at
    refine dr_lc (p := p) (P := fun y => y ∈ rs.map D.str) (m := 3) (PU := (· = .int 3)) (by decide) (fun S u v R hp hv q => ⟨[.int 3], rfl, by have := q 3 u v rfl hv; rw [drS_self hp] at this; exact this⟩) (fun j hj => by cases hj; decide) (fun k => dr_item (a := .lst (rs.map .str)) (ds := rs.map .str) (fun _ _ _ _ => rfl) (fun _ _ => gIx_lst) (fun _ _ _ _ => rfl) (by rw [List.length_map]; exact hr0) (by rw [List.length_map]; exact hr1)) _ u' v' _ (by rw [put_ne (Ne.symm hne)]; exact drS_at) hv' fun y u2 v2 hy hv2 => ?_
    obtain ⟨ys, rfl, _, ⟨j, hj, hyl⟩, hys⟩ := hy
    cases hj
    have hyl : ys.length = 3 := by omega
    match ys, hyl, hys with
    | [y1, y2, y3], _, hys =>
      obtain ⟨a, ha, rfl⟩ := List.mem_map.mp (hys y1 (by simp))
      obtain ⟨b, hb, rfl⟩ := List.mem_map.mp (hys y2 (by simp))
      obtain ⟨c, hc, rfl⟩ := List.mem_map.mp (hys y3 (by simp))
      rw [drS_put hne]
      refine ⟨.ref pf, rfl, ⟨pf, _, rfl, put_same⟩, ?_⟩
      refine dr_bin (P2 := fun y => ∃ k, y = .bl k) (dr_pick (p := p) (n := 3) (fun _ _ _ _ => rfl) (by decide) (by decide)) (dr_fe (a := .int 0) fun _ _ _ _ => rfl) (fun S x y hx hy => ?_) _ u2 v2 _ (by rw [put_ne (Ne.symm hne)]; exact drS_at) hv2 fun y u3 v3 hy hv3 => ?_
      · obtain ⟨r, rfl, _, _⟩ := hx
        subst hy
        exact ⟨_, rfl, _, rfl⟩
      obtain ⟨k, rfl⟩ := hy
      refine ⟨k, rfl, ?_⟩
      rw [drS_put hne]
      have hix := fun (S : DS) => ixv_go (α := dVar 5) (ρ := [some (.ref p), some (.lst (rs.map .str)), some (.int (m : Nat)), some (.ref pf), some d, some (.lst [.str a, .str b, .str c]), x6]) (S := S) rfl
      cases k with
      | true =>
        simp only [if_true]
        refine ⟨_, tup_go (acons_go rfl (acons_go (hix _).1 (acons_go (hix _).2.1 rfl))), pf, bk.map Say.d, .non, _, rfl, put_same, if_pos (by rw [List.length_map]; omega), ?_⟩
        refine ⟨_, _, _, u3, v3, bk ++ [.role a b], rfl, by simp [hbl], fun s hs => ?_, hv3, ?_⟩
        · rcases List.mem_append.mp hs with hs | hs
          · exact hbk s hs
          · rw [List.mem_singleton.mp hs]; exact ⟨ha, hb⟩
        · rw [put_put, List.map_append]; rfl
      | false =>
        simp only [Bool.false_eq_true, if_false]
        refine ⟨_, tup_go (acons_go rfl (acons_go (hix _).1 (acons_go (hix _).2.1 (acons_go (hix _).2.2 rfl)))), pf, bk.map Say.d, .non, _, rfl, put_same, if_pos (by rw [List.length_map]; omega), ?_⟩
        refine ⟨_, _, _, u3, v3, bk ++ [.chain a b c], rfl, by simp [hbl], fun s hs => ?_, hv3, ?_⟩
        · rcases List.mem_append.mp hs with hs | hs
          · exact hbk s hs
          · rw [List.mem_singleton.mp hs]; exact ⟨ha, hb, hc⟩
        · rw [put_put, List.map_append]; rfl
  · obtain ⟨x4, x5, x6, u', v', bk, rfl, hbl, hbk, hv', rfl⟩ := hI
    rw [List.length_map, List.length_range] at hbl
    refine ⟨.tup (bk.map Say.d), ?_, RdQ.le (q bk u' v' hbl hbk hv') (Le.put (by rw [drS_ne hne]; exact hpf))⟩
    show Option.bind (aCons (dVar 3) aNil [some (.ref p), some (.lst (rs.map .str)), some (.int (m : Nat)), some (.ref pf), x4, x5, x6] _) _ = _
    rw [acons_go (d := .ref pf) (ds := []) rfl rfl]
    simp [gTuple, seqOf, lstOf, put_same]
end
end K62
set_option Elab.async false
set_option linter.all false
set_option maxRecDepth 100000
set_option maxHeartbeats 4000000
namespace K62
open PySem PySem.Spec PyProof.Rows L2 Evl KD
theorem sc__law_words : FnScope ["source", "many", "letters", "found", "near", "base", "k", "word", "at", "sign"] ["source", "many"] (defScope (top 58)) := ⟨rfl, rfl, rfl, by decide +kernel, rfl, by decide +kernel, by decide +kernel⟩
section
variable {P : Program} {w : World} {K : PySem.W.Frag} {mg : Str → Option Value} {base : Heap}
theorem has__law_words (W : Wd K mg) : Has P w K mg base 2 "_law_words" 2 dspWords := by
  have Sc := sc__law_words
  refine has_ok W.d__law_words Sc (fun _ _ _ _ _ _ us hl => match us, hl with | [_, _], _ => rfl) fun f cdv A outer s H E hr => ?_
  have hu := bare_units hr
  have hd : WSs (cxOf C8.CX0 P w K mg base ["source", "many", "letters", "found", "near", "base", "k", "word", "at", "sign"] "_law_words" (defScope (top 58)) f cdv A outer s H E).nox (defBody (top 58)) _ := (wss_cons (ws_set (i := 2) Sc.nd (fe_str))
      (wss_cons (ws_set (i := 3) Sc.nd (we_lst fa_nil))
      (wss_cons (ws_set (i := 4) Sc.nd (we_cmp (op_eqQ hu) of_eq (we_call (has__law_pick W) hr (by first | decide | omega) rfl (fa_cons (fe_v 0) (fa_cons (fe_int) fa_nil))) (fe_int)))
      (wss_cons (ws_set (i := 5) Sc.nd (we_bin op_add_str of_addS (we_ix (fe_v 2) (we_call (has__law_pick W) hr (by first | decide | omega) rfl (fa_cons (fe_v 0) (fa_cons (fe_int) fa_nil)))) (we_ix (fe_v 2) (we_call (has__law_pick W) hr (by first | decide | omega) rfl (fa_cons (fe_v 0) (fa_cons (fe_int) fa_nil))))))
      (wss_cons (ws_for PassesOwn.never rfl (fi_rng rfl W.f_range (fa_cons (fe_v 1) fa_nil)) (wg_name (i := 6) Sc.nd) (wss_cons (ws_set (i := 7) Sc.nd (we_join (fe_str) (we_rd (we_lc (own := [("at", 8)]) rfl Sc.nd (blkOk_by (by rfl)) (wi_rng rfl W.f_range (wa_cons (we_bin op_add of_add (fe_int) (we_call (has__law_pick W) hr (by first | decide | omega) rfl (fa_cons (fe_v 0) (fa_cons (fe_int) fa_nil)))) wa_nil)) (tgb_name (i := 8)) (fun _ _ _ _ _ => (pg_name (i := 8) Sc.nd rfl (Or.inl rfl))) (fun _ _ _ _ _ => wif_nil) (fun _ _ _ _ _ => (we_ix (fe_v 2) (we_call (has__law_pick W) hr (by first | decide | omega) rfl (fa_cons (fe_v 0) (fa_cons (fe_int) fa_nil)))))))))
      (wss_cons (ws_if (ft_tru (fe_v 4)) (wss_one (ws_set (i := 7) Sc.nd (we_bin op_add_str of_addS (fe_v 5) (we_ix (fe_v 2) (we_call (has__law_pick W) hr (by first | decide | omega) rfl (fa_cons (fe_v 0) (fa_cons (fe_int) fa_nil))))))) wss_nil)
      (wss_cons (ws_if (ft_in hu (fe_v 7) (fe_v 3)) (wss_one (ws_set (i := 7) Sc.nd (we_ix (wl_lcS (own := [("sign", 9)]) rfl Sc.nd (blkOk_by (by rfl)) iok_str (fi_str (fe_v 2)) (tgb_name (i := 9)) (fun _ _ _ _ _ => (pg_name (i := 9) Sc.nd rfl (Or.inl rfl))) (fun _ _ _ _ _ => (ft1 (ft_nin hu (fe_addS (fe_ix (fe_v 5) (fe_int)) (fe_v 9)) (fe_v 3)))) (fun _ _ _ _ _ => (fe_addS (fe_ix (fe_v 5) (fe_int)) (fe_v 9)))) (fe_int)))) wss_nil)
      (wss_one (ws_expr (we_append (fe_v 3) (fa_cons (fe_v 7) fa_nil))))))))
      (wss_one (ws_ret (fe_v 3))))))))
  refine ⟨_, hd, fun ds S Q hl hp => ?_⟩
  clear hd
  obtain ⟨p, u, v, m, rfl, hp, hv, hm, q⟩ := hp
  refine asg_go (d := .str letters) rfl ?_
  refine ⟨[], rfl, Nat.zero_le _, fun pf hpf => ?_⟩
  have hne : pf ≠ p := fun z => by rw [z, hp] at hpf; cases hpf
  refine dr_bin (p := p) (P2 := fun y => ∃ k, y = .bl k) (dr_pick (p := p) (n := 2) (fun _ _ _ _ => rfl) (by decide) (by decide)) (dr_fe (a := .int 0) fun _ _ _ _ => rfl) (fun S x y hx hy => ?_) _ u v _ (by rw [put_ne (Ne.symm hne)]; exact hp) hv fun y u1 v1 hy hv1 => ?_
  · obtain ⟨r, rfl, _, _⟩ := hx
    subst hy
    exact ⟨_, rfl, _, rfl⟩
  obtain ⟨near, rfl⟩ := hy
  refine dr_bin (p := p) (P2 := fun y => ∃ a b, a ∈ lets ∧ b ∈ lets ∧ y = .str (txtS [a, b])) (dr_let (p := p) (fun _ _ _ _ => rfl) (fun _ _ _ _ => rfl)) (dr_let (p := p) (fun _ _ _ _ => rfl) (fun _ _ _ _ => rfl)) (fun S x y hx hy => ?_) _ u1 v1 _ drS_at hv1 fun y u2 v2 hy hv2 => ?_
  · obtain ⟨a, ha, rfl⟩ := hx
    obtain ⟨b, hb, rfl⟩ := hy
    exact ⟨_, gAddS_txt (by simp), a, b, ha, hb, rfl⟩
  obtain ⟨a, b, ha, hb, rfl⟩ := hy
  rw [drS2]
  refine ⟨(List.range m).map fun i => .int (i : Nat), none, rng_go (j := (m : Nat)) rfl rfl (by omega), fun i ρ' S' => ∃ x6 x7 x8 x9 u' v' ws, ρ' = [some (.ref p), some (.int (m : Nat)), some (.str letters), some (.ref pf), some (.bl near), some (.str (txtS [a, b])), x6, x7, x8, x9] ∧ ws.length = i ∧ ws.Nodup ∧ (∀ x ∈ ws, isW x = true) ∧ SrcV v' ∧ S' = put (drS S p u' v') pf (.lst (ws.map .str)), ⟨_, _, _, _, u2, v2, [], rfl, rfl, List.nodup_nil, fun _ h => (nomatch h), hv2, by show drS (put S pf (.lst [])) p u2 v2 = put (drS S p u2 v2) pf (.lst []); exact (put_comm hne)⟩, fun _ _ _ _ _ => trivial, fun i d ρ' S' hd hI => ?_, fun ρ' S' hI => ?_⟩
  · obtain ⟨x6, x7, x8, x9, u', v', ws, rfl, hwl, hwn, hws, hv', rfl⟩ := hI
    have hi : i < m := by
      rcases Nat.lt_or_ge i ((List.range m).map fun i => D.int (i : Nat)).length with z | z
      · rw [List.length_map, List.length_range] at z; exact z
      · rw [List.getElem?_eq_none z] at hd; cases hd
    refine ⟨.str "", rfl, ⟨_, rfl⟩, ?_⟩
    refine dr_lc (p := p) (P := LetD) (m := 8) (PU := fun d => ∃ j : Int, d = .int j ∧ 1 ≤ j ∧ j ≤ 8) (by decide) (fun S u v R hp hv q => ?_) (fun j hj => ?_) (fun k => dr_let (p := p) (fun _ _ _ _ => rfl) (fun _ _ _ _ => rfl)) _ u' v' _ (by rw [put_ne (Ne.symm hne)]; exact drS_at) hv' fun y u3 v3 hy hv3 => ?_
    · refine dr_bin (p := p) (P2 := fun d => ∃ j : Int, d = .int j ∧ 1 ≤ j ∧ j ≤ 8) (dr_fe (a := .int 1) fun _ _ _ _ => rfl) (dr_pick (p := p) (n := 8) (fun _ _ _ _ => rfl) (by decide) (by decide)) (fun S x y hx hy => ?_) _ u v _ hp hv fun y u' v' hy hv' => ?_
      · subst hx
        obtain ⟨r, rfl, h1, h2⟩ := hy
        exact ⟨_, rfl, _, rfl, by omega, by omega⟩
      · obtain ⟨j, rfl, h1, h2⟩ := hy
        exact q j u' v' ⟨j, rfl, h1, h2⟩ hv'
    · obtain ⟨j', e, h1, h2⟩ := hj
      cases e
      omega
    obtain ⟨ys, rfl, hyl, ⟨j, ⟨j', e, hj1, hj2⟩, hjl⟩, hys⟩ := hy
    cases e
    obtain ⟨cs, rfl, hcs⟩ := lets_open hys
    rw [List.length_map] at hyl hjl
    rw [drS_put hne]
    refine ⟨.str (txtS cs), gJoin_lets rfl (by omega), ?_⟩
    have hw1 : isW (txtS cs) = true := isW_ok (by omega) hyl hcs
    cases near with
    | false =>
      refine if_no rfl ?_
      by_cases hin : (txtS cs) ∈ ws
      · refine if_yes (tb_go (in_go (x := .str (txtS cs)) (v := .ref pf) (ds := ws.map .str) rfl rfl (by simp [seqOf, lstOf, put_same]) ((inD_str _ _).trans (by rw [decide_eq_true hin])))) ?_
        obtain ⟨c1, hc1, hn1, r, hr⟩ := first_fresh (a := a) (ws := ws) (by omega)
        dsimp only [dAsg, tBin, asLst]
        refine lc_go1 (items := KD.signs letters) (k := none) (keep := keepF a ws) (out := outF a) rfl (by decide +kernel) (fun d hd S' l => ?_) ?_
        · obtain ⟨c2, hc2, rfl⟩ := List.mem_map.mp (show d ∈ lets.map fun c => D.str (txtS [c]) from hd)
          refine ⟨_, rfl, tb_go ?_, fun _ => base_go (a := a) (b := b) (c := c2) rfl rfl⟩
          refine (nin_go (x := .str (txtS [a, c2])) (v := .ref pf) (ds := ws.map .str) (base_go (b := b) rfl rfl) rfl (by simp [seqOf, lstOf, l _ _ put_same]) (inD_str _ _)).trans ?_
          show some (D.bl (!decide (txtS [a, c2] ∈ ws))) = some (D.bl (decide (txtS [a, c2] ∉ ws)))
          rw [decide_not]
        · rw [hr]
          refine ⟨_, rfl, .str (txtS [a, c1]), gIx_lst.trans atI0, ?_⟩
          refine append_go rfl rfl put_same (by rw [List.length_map]; omega) ⟨_, _, _, _, u3, v3, ws ++ [txtS [a, c1]], rfl, by simp [hwl], addN hwn hn1, addW hws (isW2 ha hc1), hv3, by rw [put_put, List.map_append]; rfl⟩
      · refine if_no (tb_go (in_go (x := .str (txtS cs)) (v := .ref pf) (ds := ws.map .str) rfl rfl (by simp [seqOf, lstOf, put_same]) ((inD_str _ _).trans (by rw [decide_eq_false hin])))) ?_
        refine append_go rfl rfl put_same (by rw [List.length_map]; omega) ⟨_, _, _, _, u3, v3, ws ++ [(txtS cs)], rfl, by simp [hwl], addN hwn hin, addW hws hw1, hv3, by rw [put_put, List.map_append]; rfl⟩
    | true =>
      refine if_yes rfl ?_
      refine dr_bin (p := p) (P2 := fun y => ∃ c, c ∈ lets ∧ y = .str (txtS [a, b, c])) (dr_fe (a := .str (txtS [a, b])) fun _ _ _ _ => rfl) (dr_let (p := p) (fun _ _ _ _ => rfl) (fun _ _ _ _ => rfl)) (fun S x y hx hy => ?_) _ u3 v3 _ (by rw [put_ne (Ne.symm hne)]; exact drS_at) hv3 fun y u4 v4 hy hv4 => ?_
      · subst hx
        obtain ⟨c, hc, rfl⟩ := hy
        exact ⟨_, gAddS_txt (by simp), c, hc, rfl⟩
      obtain ⟨c3, hc3, rfl⟩ := hy
      rw [drS_put hne]
      have hw3 : isW (txtS [a, b, c3]) = true := isW3 ha hb hc3
      by_cases hin : (txtS [a, b, c3]) ∈ ws
      · refine if_yes (tb_go (in_go (x := .str (txtS [a, b, c3])) (v := .ref pf) (ds := ws.map .str) rfl rfl (by simp [seqOf, lstOf, put_same]) ((inD_str _ _).trans (by rw [decide_eq_true hin])))) ?_
        obtain ⟨c1, hc1, hn1, r, hr⟩ := first_fresh (a := a) (ws := ws) (by omega)
        dsimp only [dAsg, tBin, asLst]
        refine lc_go1 (items := KD.signs letters) (k := none) (keep := keepF a ws) (out := outF a) rfl (by decide +kernel) (fun d hd S' l => ?_) ?_
        · obtain ⟨c2, hc2, rfl⟩ := List.mem_map.mp (show d ∈ lets.map fun c => D.str (txtS [c]) from hd)
          refine ⟨_, rfl, tb_go ?_, fun _ => base_go (a := a) (b := b) (c := c2) rfl rfl⟩
          refine (nin_go (x := .str (txtS [a, c2])) (v := .ref pf) (ds := ws.map .str) (base_go (b := b) rfl rfl) rfl (by simp [seqOf, lstOf, l _ _ put_same]) (inD_str _ _)).trans ?_
          show some (D.bl (!decide (txtS [a, c2] ∈ ws))) = some (D.bl (decide (txtS [a, c2] ∉ ws)))
          rw [decide_not]
        · rw [hr]
          refine ⟨_, rfl, .str (txtS [a, c1]), gIx_lst.trans atI0, ?_⟩
          refine append_go rfl rfl put_same (by rw [List.length_map]; omega) ⟨_, _, _, _, u4, v4, ws ++ [txtS [a, c1]], rfl, by simp [hwl], addN hwn hn1, addW hws (isW2 ha hc1), hv4, by rw [put_put, List.map_append]; rfl⟩
      · refine if_no (tb_go (in_go (x := .str (txtS [a, b, c3])) (v := .ref pf) (ds := ws.map .str) rfl rfl (by simp [seqOf, lstOf, put_same]) ((inD_str _ _).trans (by rw [decide_eq_false hin])))) ?_
        refine append_go rfl rfl put_same (by rw [List.length_map]; omega) ⟨_, _, _, _, u4, v4, ws ++ [(txtS [a, b, c3])], rfl, by simp [hwl], addN hwn hin, addW hws hw3, hv4, by rw [put_put, List.map_append]; rfl⟩
  · obtain ⟨x6, x7, x8, x9, u', v', ws, rfl, hwl, hwn, hws, hv', rfl⟩ := hI
    rw [List.length_map, List.length_range] at hwl
    exact ⟨_, rfl, RdQ.lst (q ws u' v' hwl hwn hws hv') (Le.put (by rw [drS_ne hne]; exact hpf)) (by rw [drS_ne hne]; exact hpf) put_same⟩
end
end K62
set_option Elab.async false
set_option linter.all false
set_option maxRecDepth 100000
set_option maxHeartbeats 4000000
namespace K62
open PySem PySem.Spec PyProof.Rows L2 Evl KD
theorem sc__law_spread : FnScope ["book", "links", "found", "turn", "many", "start", "role", "end", "saying", "ends", "last", "link", "begin", "other"] ["book", "links"] (defScope (top 59)) := ⟨rfl, rfl, rfl, by decide +kernel, rfl, by decide +kernel, by decide +kernel⟩
section
variable {P : Program} {w : World} {K : PySem.W.Frag} {mg : Str → Option Value} {base : Heap}
theorem has__law_spread (W : Wd K mg) : Has P w K mg base 1 "_law_spread" 2 dspSpread := by
  have Sc := sc__law_spread
  refine has_ok W.d__law_spread Sc (fun _ _ _ _ _ _ us hl => match us, hl with | [_, _], _ => rfl) fun f cdv A outer s H E hr => ?_
  have hu := bare_units hr
  have hd : WSs (cxOf C8.CX0 P w K mg base ["book", "links", "found", "turn", "many", "start", "role", "end", "saying", "ends", "last", "link", "begin", "other"] "_law_spread" (defScope (top 59)) f cdv A outer s H E).nox (defBody (top 59)) _ := (wss_cons (ws_set (i := 2) Sc.nd (we_dictP rfl hu rfl W.f_dict (wa_cons (wl_lcS (own := [("link", 11)]) rfl Sc.nd (blkOk_by (by rfl)) iok_lst (fi_lst (fe_v 1)) (tgb_name (i := 11)) (fun _ _ _ _ _ => (pg_name (i := 11) Sc.nd rfl (Or.inl rfl))) (fun _ _ _ _ _ => ftn) (fun _ _ _ _ _ => (fe_tup (fa_cons (fe_v 11) (fa_cons (fe_bl) fa_nil))))) wa_nil)))
      (wss_cons (ws_for PassesOwn.never rfl (fi_rng rfl W.f_range (fa_cons (fe_int) fa_nil)) (wg_name (i := 3) Sc.nd) (wss_cons (ws_set (i := 4) Sc.nd (fe_lenDict rfl W.f_len (fe_v 2)))
      (wss_cons (ws_for PassesOwn.never rfl (fi_lst (fe_listD rfl rfl W.f_list (fe_v 2))) (wg_tup rfl (wgs_cons (wg_name (i := 5) Sc.nd) (wgs_cons (wg_name (i := 6) Sc.nd) (wgs_cons (wg_name (i := 7) Sc.nd) wgs_nil)))) (wss_one (ws_for PassesOwn.never rfl (fi_tup (fe_v 0)) (wg_name (i := 8) Sc.nd) (wss_cons (ws_if (ft_w (fw_and (ft_eq hu (fe_ix (fe_v 8) (fe_int)) (fe_str)) (fw_and1 (ft_eq hu (fe_ix (fe_v 8) (fe_int)) (fe_v 6))))) (wss_one (ws_dput hu (fe_v 2) (fe_tup (fa_cons (fe_v 5) (fa_cons (fe_ix (fe_v 8) (fe_int)) (fa_cons (fe_v 7) fa_nil)))) (fe_bl))) wss_nil)
      (wss_one (ws_if (ft_w (fw_and (ft_eq hu (fe_ix (fe_v 8) (fe_int)) (fe_str)) (fw_and1 (ft_eq hu (fe_ix (fe_v 8) (fe_int)) (fe_v 6))))) (wss_cons (ws_lock (ws_setLcS (i := 9) (own := [("begin", 12), ("other", 13), ("last", 10)]) rfl Sc.nd (by rfl) (by rfl) (by first | exact sw_true (by rfl) (by rfl) (by rfl) (by rfl) | rfl) (blkOk_by (by rfl)) iok_keys (fi_keys (fe_v 2)) (tgb_tup (is := [12, 13, 10])) (fun _ _ _ _ _ => (pg_tup rfl (pgs_cons (pg_name (i := 12) Sc.nd rfl (Or.inl rfl)) (pgs_cons (pg_name (i := 13) Sc.nd rfl (Or.inl rfl)) (pgs_cons (pg_name (i := 10) Sc.nd rfl (Or.inl rfl)) pgs_nil))))) (fun _ _ _ _ _ => (ft1 (ft_w (fw_and (ft_eq hu (fe_v 12) (fe_v 7)) (fw_and1 (ft_eq hu (fe_v 13) (fe_ix (fe_v 8) (fe_int)))))))) (fun _ _ _ _ _ => (fe_v 10))))
      (wss_one (ws_for PassesOwn.never rfl (fi_lst (fe_v 9)) (wg_name (i := 10) Sc.nd) (wss_one (ws_dput hu (fe_v 2) (fe_tup (fa_cons (fe_v 5) (fa_cons (fe_ix (fe_v 8) (fe_int)) (fa_cons (fe_v 10) fa_nil)))) (fe_bl)))))) wss_nil))))))
      (wss_one (ws_if (ft_eq hu (fe_lenDict rfl W.f_len (fe_v 2)) (fe_v 4)) (wss_one ws_break) wss_nil)))))
      (wss_one (ws_ret (fe_v 2)))))
  refine ⟨_, hd, fun ds S Q hl hp => ?_⟩
  clear hd
  obtain ⟨book, links, dl, U, rfl, hlk, hbl, hll, hU, hUl, q⟩ := hp
  obtain ⟨k0, hit, _⟩ := it_lst (α := dVar 1) (ρ := startD ["book", "links", "found", "turn", "many", "start", "role", "end", "saying", "ends", "last", "link", "begin", "other"] [.tup (book.map Say.d), dl]) rfl hlk
  refine dictLc_go (items := links.map lkd) (k := k0) (keep := fun _ => true) (out := fun d => .tup [d, .bl true]) hit (by rw [List.length_map]; omega) (fun d hd S' l => ⟨_, rfl, rfl, fun _ => rfl⟩) (ps := links.map fun l => (lkd l, .bl true)) (by rw [filter_true, List.map_map]; exact pairs_lk links) fun pf hpf => ?_
  rw [show putAll [] (links.map fun l => (lkd l, D.bl true)) = lkT (links.foldl addL []) from putAll_lk (ls := [])]
  have hgood0 : Good book links (links.foldl addL []) := by
    refine fold_ind (p := Good book links) ⟨List.nodup_nil, fun _ h => (nomatch h)⟩ fun acc l hl hacc => hacc.add (.base hl)
  refine ⟨(List.range 2000).map fun i => .int (i : Nat), none, rng_go (j := 2000) (n := 2000) rfl rfl (by omega), fun i ρ' S' => ∃ x3 x4 x5 x6 x7 x8 x9 x10 x11 x12 x13 ls, ρ' = [some (.tup (book.map Say.d)), some dl, some (.ref pf), x3, x4, x5, x6, x7, x8, x9, x10, x11, x12, x13] ∧ Good book links ls ∧ (∀ l ∈ links, l ∈ ls) ∧ i ≤ ls.length ∧ S' = put S pf (.dT (lkT ls)), ⟨_, _, _, _, _, _, _, _, _, _, _, links.foldl addL [], rfl, hgood0, fun l hl => foldAdd_mem.mpr (.inr hl), Nat.zero_le _, rfl⟩, fun _ _ _ _ _ => trivial, fun i d ρ' S' hd hI => ?_, fun ρ' S' hI => ?_⟩
  · obtain ⟨x3, x4, x5, x6, x7, x8, x9, x10, x11, x12, x13, ls, rfl, hg, hls, hil, rfl⟩ := hI
    refine asg_go (lenD_go rfl put_same) ?_
    refine ⟨ls.map lkd, none, listD_go rfl put_same, fun j ρ' S' => ∃ x5 x6 x7 x8 x9 x10 x11 x12 x13 acc, ρ' = [some (.tup (book.map Say.d)), some dl, some (.ref pf), some d, some (.int ls.length), x5, x6, x7, x8, x9, x10, x11, x12, x13] ∧ acc = (ls.take j).foldl (roundT book) ls ∧ Good book links acc ∧ S' = put S pf (.dT (lkT acc)), ⟨_, _, _, _, _, _, _, _, _, ls, rfl, rfl, hg, rfl⟩, fun _ _ _ _ _ => trivial, fun j d1 ρ' S' hd1 hI => ?_, fun ρ' S' hI => ?_⟩
    · obtain ⟨x5, x6, x7, x8, x9, x10, x11, x12, x13, acc, rfl, hacc, hga, rfl⟩ := hI
      obtain ⟨t, ht, rfl⟩ := map_get hd1
      have hts := hg.sp t (List.mem_of_getElem? ht)
      obtain ⟨ta, tr, tc⟩ := t
      refine ⟨_, rfl, rfl, _, _, rfl, _, _, rfl, _, _, rfl, rfl, ?_⟩
      refine ⟨book.map Say.d, none, rfl, fun m ρ' S' => ∃ x8 x9 x10 x11 x12 x13 ac2, ρ' = [some (.tup (book.map Say.d)), some dl, some (.ref pf), some d, some (.int ls.length), some (.str ta), some (.str tr), some (.str tc), x8, x9, x10, x11, x12, x13] ∧ ac2 = (book.take m).foldl (stepSay (ta, tr, tc)) acc ∧ Good book links ac2 ∧ S' = put S pf (.dT (lkT ac2)), ⟨_, _, _, _, _, _, acc, rfl, rfl, hga, rfl⟩, fun _ _ _ _ _ => trivial, fun m d2 ρ' S' hd2 hI => ?_, fun ρ' S' hI => ?_⟩
      · obtain ⟨x8, x9, x10, x11, x12, x13, ac2, rfl, hac2, hg2, rfl⟩ := hI
        obtain ⟨s, hs, rfl⟩ := map_get hd2
        have hsb := List.mem_of_getElem? hs
        have hl2 := Nat.le_trans (hg2.len hU) hUl
        have hnext : stepSay (ta, tr, tc) ac2 s = (book.take (m + 1)).foldl (stepSay (ta, tr, tc)) acc := by rw [fold_take hs, hac2]
        have hg3 : Good book links (stepSay (ta, tr, tc) ac2 s) := hg2.step hsb hts
        cases s with
        | role a b =>
          by_cases har : a = tr
          · refine if_yes ((and_eqs (t := "role") (a := a) (r := tr) (ix0_go rfl) rfl (ix1_go rfl) rfl).trans (by simp [har])) ?_
            refine dput_lk (l := (ta, b, tc)) rfl (tup_go (acons_go rfl (acons_go (ix2_go rfl) (acons_go rfl rfl)))) rfl hl2 ?_
            refine if_no ((and_eqs (t := "role") (a := a) (r := tr) (ix0_go rfl) rfl (ix1_go rfl) rfl).trans (by rfl)) ?_
            have e : stepSay (ta, tr, tc) ac2 (.role a b) = addL ac2 (ta, b, tc) := if_pos har
            rw [e] at hnext hg3
            exact ⟨_, _, _, _, _, _, _, rfl, hnext, hg3, rfl⟩
          · refine if_no ((and_eqs (t := "role") (a := a) (r := tr) (ix0_go rfl) rfl (ix1_go rfl) rfl).trans (by simp [har])) ?_
            refine if_no ((and_eqs (t := "role") (a := a) (r := tr) (ix0_go rfl) rfl (ix1_go rfl) rfl).trans (by rfl)) ?_
            have e : stepSay (ta, tr, tc) ac2 (.role a b) = ac2 := if_neg har
            rw [e] at hnext hg3
            exact ⟨_, _, _, _, _, _, _, rfl, hnext, hg3, rfl⟩
        | chain a b c =>
          refine if_no ((and_eqs (t := "chain") (a := a) (r := tr) (ix0_go rfl) rfl (ix1_go rfl) rfl).trans (by rfl)) ?_
          by_cases har : a = tr
          · refine if_yes ((and_eqs (t := "chain") (a := a) (r := tr) (ix0_go rfl) rfl (ix1_go rfl) rfl).trans (by simp [har])) ?_
            have e : stepSay (ta, tr, tc) ac2 (.chain a b c) = (endsL (ta, tr, tc) b ac2).foldl (fun acc z => addL acc (ta, c, z)) ac2 := if_pos har
            rw [e] at hnext hg3
            refine ⟨pf, _, put_same, trivial, fun od u c' hc => ?_⟩
            cases hc
            refine asgLc_go (items := ac2.map lkd) (k := some (pf, .lT od u (lkT ac2))) (keep := fun d => decide ((lkGet d).1 = tc ∧ (lkGet d).2.1 = b)) (out := fun d => .str (lkGet d).2.2) (itKeys_lk rfl put_same) (by rw [List.length_map]; omega) (fun d4 hd4 S' l => ?_) ?_
            · obtain ⟨l4, hl4, rfl⟩ := List.mem_map.mp hd4
              refine ⟨_, rfl, ?_, fun _ => rfl⟩
              refine (and_eqs (t := l4.1) (x := tc) (a := l4.2.1) (r := b) rfl rfl rfl (ix2_go rfl)).trans ?_
              rw [← Bool.decide_and]
              rfl
            · rw [filter_lk (f := fun l => decide (l.1 = tc ∧ l.2.1 = b))]
              refine ⟨put_same, ?_⟩
              rw [put_put, put_put]
              refine ⟨(endsL (ta, tr, tc) b ac2).map .str, none, rfl, fun n ρ' S' => ∃ x10 ac3, ρ' = [some (.tup (book.map Say.d)), some dl, some (.ref pf), some d, some (.int ls.length), some (.str ta), some (.str tr), some (.str tc), some (Say.d (.chain a b c)), some (.lst ((endsL (ta, tr, tc) b ac2).map .str)), x10, x11, x12, x13] ∧ ac3 = ((endsL (ta, tr, tc) b ac2).take n).foldl (fun acc z => addL acc (ta, c, z)) ac2 ∧ Good book links ac3 ∧ S' = put S pf (.dT (lkT ac3)), ⟨_, ac2, rfl, rfl, hg2, rfl⟩, fun _ _ _ _ _ => trivial, fun n d5 ρ' S' hd5 hI => ?_, fun ρ' S' hI => ?_⟩
              · obtain ⟨x10, ac3, rfl, hac3, hg4, rfl⟩ := hI
                obtain ⟨z, hz, rfl⟩ := map_get hd5
                refine dput_lk (l := (ta, c, z)) rfl (tup_go (acons_go rfl (acons_go (ix3_go rfl) (acons_go rfl rfl)))) rfl (Nat.le_trans (hg4.len hU) hUl) ?_
                exact ⟨_, _, rfl, by rw [fold_take hz, hac3], hg4.add (endsL_sp hsb har hts hg2.sp z (List.mem_of_getElem? hz)), rfl⟩
              · obtain ⟨x10, ac3, rfl, hac3, hg4, rfl⟩ := hI
                rw [List.length_map, List.take_length] at hac3
                exact ⟨_, _, _, _, _, _, ac3, rfl, by rw [hac3, hnext], hg4, rfl⟩
          · refine if_no ((and_eqs (t := "chain") (a := a) (r := tr) (ix0_go rfl) rfl (ix1_go rfl) rfl).trans (by simp [har])) ?_
            have e : stepSay (ta, tr, tc) ac2 (.chain a b c) = ac2 := if_neg har
            rw [e] at hnext hg3
            exact ⟨_, _, _, _, _, _, _, rfl, hnext, hg3, rfl⟩
      · obtain ⟨x8, x9, x10, x11, x12, x13, ac2, rfl, hac2, hg2, rfl⟩ := hI
        rw [List.length_map, List.take_length] at hac2
        exact ⟨_, _, _, _, _, _, _, _, _, ac2, rfl, by rw [fold_take ht, ← hacc, hac2]; rfl, hg2, rfl⟩
    · obtain ⟨x5, x6, x7, x8, x9, x10, x11, x12, x13, acc, rfl, hacc, hga, rfl⟩ := hI
      rw [List.length_map, List.take_length] at hacc
      have hacc : acc = round book ls := hacc
      by_cases hlen : acc.length = ls.length
      · refine if_yes ((lenEq_go (n := ls.length) rfl rfl put_same).trans (by rw [decide_eq_true hlen])) ?_
        refine ⟨_, rfl, RdQ.here (q pf acc hpf (fun x r y => ⟨fun h => hga.sp _ h, fun h => ?_⟩) (Nat.le_trans (hga.len hU) hUl))⟩
        rw [hacc] at hlen ⊢
        exact round_ext.subset (round_done hls hlen h)
      · refine if_no ((lenEq_go (n := ls.length) rfl rfl put_same).trans (by rw [decide_eq_false hlen])) ?_
        have hx : ls <+: acc := by rw [hacc]; exact round_ext
        have := hx.length_le
        exact ⟨_, _, _, _, _, _, _, _, _, _, _, acc, rfl, hga, fun l hl => hx.subset (hls l hl), by omega, rfl⟩
  · obtain ⟨x3, x4, x5, x6, x7, x8, x9, x10, x11, x12, x13, ls, rfl, hg, hls, hil, rfl⟩ := hI
    rw [List.length_map, List.length_range] at hil
    have := hg.len hU
    omega
end
end K62
set_option Elab.async false
set_option linter.all false
set_option maxRecDepth 100000
set_option maxHeartbeats 4000000
namespace K62
open PySem PySem.Spec PyProof.Rows L2 Evl KD
theorem sc__law_told_right : FnScope ["book", "facts", "persons", "roles", "spread", "person", "role", "due", "other"] ["book", "facts", "persons", "roles", "spread"] (defScope (top 61)) := ⟨rfl, rfl, rfl, by decide +kernel, rfl, by decide +kernel, by decide +kernel⟩
theorem samB_zip : ∀ l : List Str, ((l.map D.str).zip (l.map D.str)).all (fun p => samB 1 p.1 p.2) = true
  | [] => rfl
  | x :: l => by
    rw [List.map_cons, List.zip_cons_cons, List.all_cons, samB_zip l]
    show (decide (x = x) && true) = true
    simp
theorem samB_txs {l : List Str} (h : l.length ≤ 1000) : samB 2 (.tup (l.map .str)) (.tup (l.map .str)) = true := by
  show (decide ((l.map D.str).length = (l.map D.str).length) && decide ((l.map D.str).length ≤ 1000) && ((l.map D.str).zip (l.map D.str)).all fun p => samB 1 p.1 p.2) = true
  rw [samB_zip]
  simp [h]
section
variable {P : Program} {w : World} {K : PySem.W.Frag} {mg : Str → Option Value} {base : Heap}
theorem has__law_told_right (W : Wd K mg) : Has P w K mg base 17 "_law_told_right" 5 dspTold := by
  have Sc := sc__law_told_right
  refine has_ok W.d__law_told_right Sc (fun _ _ _ _ _ _ us hl => match us, hl with | [_, _, _, _, _], _ => rfl) fun f cdv A outer s H E hr => ?_
  have hu := bare_units hr
  have hd : WSs (cxOf C8.CX0 P w K mg base ["book", "facts", "persons", "roles", "spread", "person", "role", "due", "other"] "_law_told_right" (defScope (top 61)) f cdv A outer s H E).nox (defBody (top 61)) _ := (wss_cons (ws_for PassesOwn.never rfl (fi_lst (fe_v 2)) (wg_name (i := 5) Sc.nd) (wss_one (ws_for PassesOwn.never rfl (fi_lst (fe_v 3)) (wg_name (i := 6) Sc.nd) (wss_cons (ws_set (i := 7) Sc.nd (we_tuple rfl W.f_tuple (we_rd (we_sorted rfl hu rfl W.f_sorted (wa_cons (wl_lcS (own := [("other", 8)]) rfl Sc.nd (blkOk_by (by rfl)) iok_lst (fi_lst (fe_v 2)) (tgb_name (i := 8)) (fun _ _ _ _ _ => (pg_name (i := 8) Sc.nd rfl (by first | exact Or.inl rfl | exact Or.inr rfl))) (fun _ _ _ _ _ => (ft1 (ft_din hu (fe_tup (fa_cons (fe_v 5) (fa_cons (fe_v 6) (fa_cons (fe_v 8) fa_nil)))) (fe_v 4)))) (fun _ _ _ _ _ => (fe_v 8))) wa_nil)))))
      (wss_one (ws_if (wt_not (wt_val (we_call (has__law_same W 2) hr (by first | decide | omega) rfl (wa_cons (we_callKw (hasK_linked W) hr (by first | decide | omega) rfl (fa_cons (fe_v 0) (fa_cons (fe_v 1) (fa_cons (fe_v 5) fa_nil))) (wk_cons (fe_v 6) wk_nil)) (wa_cons (fe_v 7) wa_nil))))) (wss_one (ws_ret (fe_bl))) wss_nil))))))
      (wss_cons (ws_for PassesOwn.never rfl (fi_lst (fe_v 3)) (wg_name (i := 6) Sc.nd) (wss_cons (ws_set (i := 7) Sc.nd (we_tuple rfl W.f_tuple (we_rd (we_sorted rfl hu rfl W.f_sorted (wa_cons (we_rd (we_lc (own := [("person", 5)]) rfl Sc.nd (blkOk_by (by rfl)) (wi_lst (fe_v 2)) (tgb_name (i := 5)) (fun _ _ _ _ _ => (pg_name (i := 5) Sc.nd rfl (by first | exact Or.inl rfl | exact Or.inr rfl))) (fun _ _ _ _ _ => (wif_one (wt_val (we_any rfl W.f_any (wa_cons (wl_lcS (own := [("other", 8)]) rfl Sc.nd (blkOk_by (by rfl)) iok_lst (fi_lst (fe_v 2)) (tgb_name (i := 8)) (fun _ _ _ _ _ => (pg_name (i := 8) Sc.nd rfl (by first | exact Or.inl rfl | exact Or.inr rfl))) (fun _ _ _ _ _ => ftn) (fun _ _ _ _ _ => (fe_din hu (fe_tup (fa_cons (fe_v 5) (fa_cons (fe_v 6) (fa_cons (fe_v 8) fa_nil)))) (fe_v 4)))) wa_nil))))) (fun _ _ _ _ _ => (fe_v 5)))) wa_nil)))))
      (wss_one (ws_if (wt_not (wt_val (we_call (has__law_same W 2) hr (by first | decide | omega) rfl (wa_cons (we_call (has_members W) hr (by first | decide | omega) rfl (fa_cons (fe_v 0) (fa_cons (fe_v 1) (fa_cons (fe_tup (fa_cons (fe_str) (fa_cons (fe_v 6) (fa_cons (fe_tup (fa_cons (fe_str) fa_nil)) fa_nil)))) fa_nil)))) (wa_cons (fe_v 7) wa_nil))))) (wss_one (ws_ret (fe_bl))) wss_nil))))
      (wss_one (ws_ret (fe_bl)))))
  refine ⟨_, hd, fun ds S Q hl hp => ?_⟩
  clear hd
  obtain ⟨book, facts, rs, ps, roles, sp, ls, rfl, hsp, hset, hro, hrl, hls, q⟩ := hp
  have hpl := ps_len hset
  refine ⟨(psS facts).map .str, none, rfl, fun i ρ' S' => ∃ x5 x6 x7 x8, ρ' = [some (.tup (book.map Say.d)), some (.tup (facts.map Fa.d)), some (.lst ((psS facts).map .str)), some (.lst (roles.map .str)), some (.ref sp), x5, x6, x7, x8] ∧ S' = S, ⟨_, _, _, _, rfl, rfl⟩, fun _ _ _ _ _ => trivial, fun i d ρ' S' hd hI => ?_, fun ρ' S' hI => ?_⟩
  · obtain ⟨x5, x6, x7, x8, rfl, rfl⟩ := hI
    obtain ⟨x, hx, rfl⟩ := map_get hd
    have hx := List.mem_of_getElem? hx
    refine ⟨roles.map .str, none, rfl, fun j ρ' S'' => ∃ x6 x7 x8, ρ' = [some (.tup (book.map Say.d)), some (.tup (facts.map Fa.d)), some (.lst ((psS facts).map .str)), some (.lst (roles.map .str)), some (.ref sp), some (.str x), x6, x7, x8] ∧ S'' = S', ⟨_, _, _, rfl, rfl⟩, fun _ _ _ _ _ => trivial, fun j d2 ρ' S'' hd2 hI => ?_, fun ρ' S'' hI => ?_⟩
    · obtain ⟨x6, x7, x8, rfl, rfl⟩ := hI
      obtain ⟨r, hr, rfl⟩ := map_get hd2
      have hr := hro r (List.mem_of_getElem? hr)
      refine dueLc_go (items := (psS facts).map .str) (k := none) (keep := fun d => decide ((x, r, txt d) ∈ ls)) (out := id) (txs := (psS facts).filter fun y => decide ((x, r, y) ∈ ls)) rfl (by rw [List.length_map]; omega) (fun d hd S' l => ?_) ?_ (Nat.le_trans (List.length_filter_le _ _) (by omega)) ?_
      · obtain ⟨y, hy, rfl⟩ := List.mem_map.mp hd
        refine ⟨_, rfl, tb_go ?_, fun _ => rfl⟩
        exact dDin_lk (l := (x, r, y)) (tup_go (acons_go rfl (acons_go rfl (acons_go rfl rfl)))) rfl (l _ _ hsp)
      · rw [List.map_id]
        exact filter_strs (keep := fun y => decide ((x, r, y) ∈ ls))
      refine ⟨_, rfl, _, rfl, rfl, book, facts, x, r, world book facts [] rs ps, rfl, sat_ok hset nil_kl, wfB_d hset, hset.pw x (per_mem hset (psS_mem.mp hx)), hset.rw r hr, psS_mem.mp hx, by omega, ans_void hset nil_kl, fun keep hkeep => ?_⟩
      rw [keep_lnk hset hls hkeep]
      refine ⟨_, rfl, rfl, .bl true, yes_true ?_, true, rfl, ⟨_, _, _, rfl, rfl⟩⟩
      rw [show sortS ((psS facts).filter fun y => decide ((x, r, y) ∈ ls)) = (psS facts).filter fun y => decide ((x, r, y) ∈ ls) from sortS_filter _ _]
      exact samB_txs (Nat.le_trans (List.length_filter_le _ _) (by omega))
    · obtain ⟨x6, x7, x8, rfl, rfl⟩ := hI
      exact ⟨_, _, _, _, rfl, rfl⟩
  · obtain ⟨x5, x6, x7, x8, rfl, rfl⟩ := hI
    refine ⟨roles.map .str, none, rfl, fun j ρ' S'' => ∃ x5 x6 x7 x8, ρ' = [some (.tup (book.map Say.d)), some (.tup (facts.map Fa.d)), some (.lst ((psS facts).map .str)), some (.lst (roles.map .str)), some (.ref sp), x5, x6, x7, x8] ∧ S'' = S', ⟨_, _, _, _, rfl, rfl⟩, fun _ _ _ _ _ => trivial, fun j d2 ρ' S'' hd2 hI => ?_, fun ρ' S'' hI => ?_⟩
    · obtain ⟨x5, x6, x7, x8, rfl, rfl⟩ := hI
      obtain ⟨r, hr, rfl⟩ := map_get hd2
      have hr := hro r (List.mem_of_getElem? hr)
      refine nm_go (sq_go ?_)
      refine due2_go (items := (psS facts).map .str) (keep := fun d => (psS facts).any fun z => decide ((txt d, r, z) ∈ ls)) (txs := (psS facts).filter fun y => (psS facts).any fun z => decide ((y, r, z) ∈ ls)) rfl (by rw [List.length_map]; omega) (fun d hd S' R l hR => ?_) (fun _ _ => by rfl) ?_ (Nat.le_trans (List.length_filter_le _ _) (by omega)) ?_
      · obtain ⟨y, hy, rfl⟩ := List.mem_map.mp hd
        refine any_go (items := (psS facts).map .str) (k := none) (f := fun d => decide ((y, r, txt d) ∈ ls)) rfl (by rw [List.length_map]; omega) (fun d hd S2 l2 => ?_) ⟨_, rfl, ?_⟩
        · obtain ⟨z, hz, rfl⟩ := List.mem_map.mp hd
          exact ⟨_, rfl, dDin_lk (l := (y, r, z)) (tup_go (acons_go rfl (acons_go rfl (acons_go rfl rfl)))) rfl (l2 _ _ (l _ _ hsp))⟩
        · rw [List.any_map]
          exact hR
      · exact filter_strs (keep := fun y => (psS facts).any fun z => decide ((y, r, z) ∈ ls))
      refine ⟨[.tup (book.map Say.d), .tup (facts.map Fa.d), saD r], rfl, rfl, book, facts, saD r, world book facts [saD r] rs ps, rfl, sat_ok hset (sa_kl hr), wfB_d hset, wf_sa (hset.rw r hr), (sa_td r).1, (sa_td r).2, by omega, ans_void hset (sa_kl hr), fun keep hkeep => ?_⟩
      rw [keep_bel hset hr hls hkeep]
      refine ⟨_, rfl, rfl, .bl true, yes_true ?_, true, rfl, ⟨_, _, _, _, rfl, rfl⟩⟩
      rw [show sortS ((psS facts).filter fun y => (psS facts).any fun z => decide ((y, r, z) ∈ ls)) = (psS facts).filter fun y => (psS facts).any fun z => decide ((y, r, z) ∈ ls) from sortS_filter _ _]
      exact samB_txs (Nat.le_trans (List.length_filter_le _ _) (by omega))
    · obtain ⟨x5, x6, x7, x8, rfl, rfl⟩ := hI
      exact ⟨_, rfl, RdQ.here q⟩
end
end K62
set_option Elab.async false
set_option linter.all false
set_option maxRecDepth 100000
set_option maxHeartbeats 4000000
namespace K62
open PySem PySem.Spec PyProof.Rows L2 Evl KD
theorem sc_law : FnScope ["script", "cell", "source", "roles", "persons", "book", "links", "k", "one", "two", "facts", "three", "last", "fresh", "written", "spread", "saying", "tests", "goal", "role", "person", "word"] ["script"] (defScope (top 62)) := ⟨rfl, rfl, rfl, by decide +kernel, rfl, by decide +kernel, by decide +kernel⟩
section
variable {P : Program} {w : World} {K : PySem.W.Frag} {mg : Str → Option Value} {base : Heap}
theorem law_fn (W : Wd K mg) {f : Addr} {fd : FuncData} (F : FunD K "law" "law" (defArgs (top 62)) (defBody (top 62)) (defScope (top 62)) [] [] f fd) : FnOk P w K mg base C8.CX0 19 f fd ["script"] (spOf P w K ["script"].length dspLaw) := by
  have Sc := sc_law
  refine fn_ok F Sc fun cdv A outer s H E hr => ?_
  have hu := bare_units hr
  have hd : WSs (cxOf C8.CX0 P w K mg base ["script", "cell", "source", "roles", "persons", "book", "links", "k", "one", "two", "facts", "three", "last", "fresh", "written", "spread", "saying", "tests", "goal", "role", "person", "word"] "law" (defScope (top 62)) f cdv A outer s H E).nox (defBody (top 62)) _ := (wss_cons (ws_for PassesOwn.never rfl (fi_lst (fe_sliceL (fe_addL (fe_lst (fa_cons (fe_int) fa_nil)) (fe_v 0)) fo_none (fo_some (fe_int)))) (wg_name (i := 1) Sc.nd) (wss_cons (ws_set (i := 2) Sc.nd (we_call (has__law_source W) hr (by first | decide | omega) rfl (fa_cons (fe_v 1) fa_nil)))
      (wss_cons (ws_asg (we_tup (wa_cons (we_call (has__law_words W) hr (by first | decide | omega) rfl (wa_cons (fe_v 2) (wa_cons (we_bin op_add of_add (fe_int) (we_call (has__law_pick W) hr (by first | decide | omega) rfl (fa_cons (fe_v 2) (fa_cons (fe_int) fa_nil)))) wa_nil))) (wa_cons (we_rd (we_sorted rfl hu rfl W.f_sorted (wa_cons (we_call (has__law_words W) hr (by first | decide | omega) rfl (wa_cons (fe_v 2) (wa_cons (we_bin op_add of_add (fe_int) (we_call (has__law_pick W) hr (by first | decide | omega) rfl (fa_cons (fe_v 2) (fa_cons (fe_int) fa_nil)))) wa_nil))) wa_nil))) wa_nil))) (wg_tup rfl (wgs_cons (wg_name (i := 3) Sc.nd) (wgs_cons (wg_name (i := 4) Sc.nd) wgs_nil))))
      (wss_cons (ws_set (i := 5) Sc.nd (we_call (has__law_role_book W) hr (by first | decide | omega) rfl (wa_cons (fe_v 2) (wa_cons (fe_v 3) (wa_cons (we_bin op_add of_add (fe_int) (we_call (has__law_pick W) hr (by first | decide | omega) rfl (fa_cons (fe_v 2) (fa_cons (fe_int) fa_nil)))) wa_nil)))))
      (wss_cons (ws_set (i := 6) Sc.nd (we_lst fa_nil))
      (wss_cons (ws_for PassesOwn.never rfl (wi_rng rfl W.f_range (wa_cons (we_bin op_add of_add (fe_int) (we_call (has__law_pick W) hr (by first | decide | omega) rfl (fa_cons (fe_v 2) (fa_cons (fe_int) fa_nil)))) wa_nil)) (wg_name (i := 7) Sc.nd) (wss_cons (ws_par (i := 8) (j := 9) rfl Sc.nd rfl rfl (by decide) rfl rfl (wa_cons (we_ix (fe_v 4) (we_call (has__law_pick W) hr (by first | decide | omega) rfl (fa_cons (fe_v 2) (fa_cons (fe_len rfl W.f_len (fe_v 4)) fa_nil)))) (wa_cons (we_ix (fe_v 4) (we_call (has__law_pick W) hr (by first | decide | omega) rfl (fa_cons (fe_v 2) (fa_cons (fe_len rfl W.f_len (fe_v 4)) fa_nil)))) wa_nil)) (by rfl))
      (wss_one (ws_expr (we_append (fe_v 6) (wa_cons (we_tup (wa_cons (fe_v 8) (wa_cons (we_ix (fe_v 3) (we_call (has__law_pick W) hr (by first | decide | omega) rfl (fa_cons (fe_v 2) (fa_cons (fe_len rfl W.f_len (fe_v 3)) fa_nil)))) (wa_cons (fe_v 9) wa_nil)))) wa_nil))))))
      (wss_cons (ws_set (i := 10) Sc.nd (we_tuple rfl W.f_tuple (we_rd (we_addL (wl_lcS (own := [("one", 8), ("role", 19), ("two", 9)]) rfl Sc.nd (blkOk_by (by rfl)) iok_lst (fi_lst (fe_v 6)) (tgb_tup (is := [8, 19, 9])) (fun _ _ _ _ _ => (pg_tup rfl (pgs_cons (pg_name (i := 8) Sc.nd rfl (by first | exact Or.inl rfl | exact Or.inr rfl)) (pgs_cons (pg_name (i := 19) Sc.nd rfl (by first | exact Or.inl rfl | exact Or.inr rfl)) (pgs_cons (pg_name (i := 9) Sc.nd rfl (by first | exact Or.inl rfl | exact Or.inr rfl)) pgs_nil))))) (fun _ _ _ _ _ => ftn) (fun _ _ _ _ _ => (fe_tup (fa_cons (fe_str) (fa_cons (fe_v 8) (fa_cons (fe_v 19) (fa_cons (fe_v 9) fa_nil))))))) (wl_lcS (own := [("person", 20)]) rfl Sc.nd (blkOk_by (by rfl)) iok_lst (fi_lst (fe_v 4)) (tgb_name (i := 20)) (fun _ _ _ _ _ => (pg_name (i := 20) Sc.nd rfl (by first | exact Or.inl rfl | exact Or.inr rfl))) (fun _ _ _ _ _ => ftn) (fun _ _ _ _ _ => (fe_tup (fa_cons (fe_str) (fa_cons (fe_v 20) (fa_cons (fe_tup (fa_cons (fe_str) fa_nil)) fa_nil))))))))))
      (wss_cons (ws_if (wt_not (wt_val (we_call (has__law_told_right W) hr (by first | decide | omega) rfl (wa_cons (fe_v 5) (wa_cons (fe_v 10) (wa_cons (fe_v 4) (wa_cons (fe_v 3) (wa_cons (we_call (has__law_spread W) hr (by first | decide | omega) rfl (fa_cons (fe_v 5) (fa_cons (fe_v 6) fa_nil))) wa_nil)))))))) (wss_one (ws_ret (fe_bl))) wss_nil)
      (wss_cons (ws_asg (we_rd (we_lc (own := [("k", 7)]) rfl Sc.nd (blkOk_by (by rfl)) (wi_rng rfl W.f_range (fa_cons (fe_int) fa_nil)) (tgb_name (i := 7)) (fun _ _ _ _ _ => (pg_name (i := 7) Sc.nd rfl (by first | exact Or.inl rfl | exact Or.inr rfl))) (fun _ _ _ _ _ => wif_nil) (fun _ _ _ _ _ => (we_ix (fe_v 3) (we_call (has__law_pick W) hr (by first | decide | omega) rfl (fa_cons (fe_v 2) (fa_cons (fe_len rfl W.f_len (fe_v 3)) fa_nil))))))) (wg_lst rfl (wgs_cons (wg_name (i := 8) Sc.nd) (wgs_cons (wg_name (i := 9) Sc.nd) (wgs_cons (wg_name (i := 11) Sc.nd) (wgs_cons (wg_name (i := 12) Sc.nd) wgs_nil))))))
      (wss_cons (ws_set (i := 13) Sc.nd (we_ix (wl_lcS (own := [("word", 21)]) rfl Sc.nd (blkOk_by (by rfl)) iok_lst (fi_lst (fe_lst (fa_cons (fe_str) (fa_cons (fe_str) (fa_cons (fe_str) (fa_cons (fe_str) (fa_cons (fe_str) fa_nil))))))) (tgb_name (i := 21)) (fun _ _ _ _ _ => (pg_name (i := 21) Sc.nd rfl (by first | exact Or.inl rfl | exact Or.inr rfl))) (fun _ _ _ _ _ => (ft1 (ft_nin hu (fe_v 21) (fe_v 3)))) (fun _ _ _ _ _ => (fe_v 21))) (fe_int)))
      (wss_cons (ws_set (i := 14) Sc.nd (fe_addT (fe_v 5) (fe_tup (fa_cons (fe_tup (fa_cons (fe_str) (fa_cons (fe_v 8) (fa_cons (fe_v 9) (fa_cons (fe_v 13) fa_nil))))) (fa_cons (fe_tup (fa_cons (fe_str) (fa_cons (fe_v 13) (fa_cons (fe_v 11) (fa_cons (fe_v 12) fa_nil))))) fa_nil)))))
      (wss_cons (ws_set (i := 15) Sc.nd (we_call (has__law_spread W) hr (by first | decide | omega) rfl (fa_cons (fe_v 14) (fa_cons (fe_v 6) fa_nil))))
      (wss_cons (ws_if (wt_not (wt_val (we_call (has__law_told_right W) hr (by first | decide | omega) rfl (fa_cons (fe_v 14) (fa_cons (fe_v 10) (fa_cons (fe_v 4) (fa_cons (fe_sliceL (fe_v 3) fo_none (fo_some (fe_int))) (fa_cons (fe_v 15) fa_nil)))))))) (wss_one (ws_ret (fe_bl))) wss_nil)
      (wss_one (ws_for PassesOwn.never rfl (wi_tup (we_call (has__law_role_book W) hr (by first | decide | omega) rfl (fa_cons (fe_v 2) (fa_cons (fe_v 3) (fa_cons (fe_int) fa_nil))))) (wg_name (i := 16) Sc.nd) (wss_cons (ws_set (i := 17) Sc.nd (fe_if (ft_eq hu (fe_ix (fe_v 16) (fe_int)) (fe_str)) (fe_lst (fa_cons (fe_tup (fa_cons (fe_str) (fa_cons (fe_ix (fe_v 16) (fe_int)) (fa_cons (fe_str) fa_nil)))) fa_nil)) (fe_lst (fa_cons (fe_tup (fa_cons (fe_str) (fa_cons (fe_ix (fe_v 16) (fe_int)) (fa_cons (fe_str) fa_nil)))) (fa_cons (fe_tup (fa_cons (fe_str) (fa_cons (fe_ix (fe_v 16) (fe_int)) (fa_cons (fe_str) fa_nil)))) fa_nil)))))
      (wss_cons (ws_set (i := 18) Sc.nd (fe_if (ft_eq hu (fe_ix (fe_v 16) (fe_int)) (fe_str)) (fe_tup (fa_cons (fe_str) (fa_cons (fe_ix (fe_v 16) (fe_int)) (fa_cons (fe_str) fa_nil)))) (fe_tup (fa_cons (fe_str) (fa_cons (fe_ix (fe_v 16) (fe_int)) (fa_cons (fe_str) fa_nil))))))
      (wss_one (ws_if (wt_not (wt_val (we_call (has__law_same W 2) hr (by first | decide | omega) rfl (wa_cons (we_call (has_follows W) hr (by first | decide | omega) rfl (fa_cons (fe_v 5) (fa_cons (fe_v 10) (fa_cons (fe_v 16) fa_nil)))) (wa_cons (we_cmp (op_dinQ hu) of_din (fe_v 18) (we_call (has__law_spread W) hr (by first | decide | omega) rfl (fa_cons (fe_v 5) (fa_cons (fe_v 17) fa_nil)))) wa_nil))))) (wss_one (ws_ret (fe_bl))) wss_nil)))))))))))))))))))
      (wss_one (ws_ret (fe_bl))))
  refine ⟨_, hd, fun ds S Q hl hp => ?_⟩
  clear hd
  obtain ⟨ns, rfl, hnl, hnb, q⟩ := hp
  refine ⟨((24494897427831780981972840747058913919 :: ns).take 6).map .int, none, items_go rfl hnl, fun i ρ' S' => ∃ x1 x2 x3 x4 x5 x6 x7 x8 x9 x10 x11 x12 x13 x14 x15 x16 x17 x18 x19 x20 x21, ρ' = [some (.lst (ns.map .int)), x1, x2, x3, x4, x5, x6, x7, x8, x9, x10, x11, x12, x13, x14, x15, x16, x17, x18, x19, x20, x21] ∧ Le S S', ⟨_, _, _, _, _, _, _, _, _, _, _, _, _, _, _, _, _, _, _, _, _, rfl, Le.refl S⟩, fun _ _ _ _ _ => trivial, fun i d ρ' S0 hd hI => ?_, fun ρ' S0 hI => ?_⟩
  · obtain ⟨x1, x2, x3, x4, x5, x6, x7, x8, x9, x10, x11, x12, x13, x14, x15, x16, x17, x18, x19, x20, x21, rfl, hle⟩ := hI
    obtain ⟨cell, hcell, rfl⟩ := map_get hd
    have hcb : Builtin.Int.intBits cell ≤ 60000000 := by
      have hm := List.mem_of_mem_take (List.mem_of_getElem? hcell)
      rcases List.mem_cons.mp hm with rfl | hm
      · decide +kernel
      · exact Nat.le_trans (hnb cell hm) (by decide)
    refine ⟨_, rfl, rfl, cell, rfl, hcb, fun p u v hpn hv0 hv1 => ?_⟩
    have hv : SrcV v := ⟨hv0, hv1⟩
    have hp : put S0 p (.lst [.int u, .int v]) p = some (.lst [.int u, .int v]) := put_same
    have hl0 : Le S (put S0 p (.lst [.int u, .int v])) := Le.trans hle (Le.put hpn)
    have hps : S p = none := by
      cases e : S p with
      | none => rfl
      | some c => rw [hle _ _ e] at hpn; cases hpn
    generalize put S0 p (.lst [.int u, .int v]) = S1 at hp hl0 ⊢
    refine nm_go ?_
    -- roles, persons
    refine dr_words (p := p) (lo := 3) (hi := 5) (fun _ _ _ _ => rfl) (dr_cnt (p := p) (c := 3) (n := 2) (fun _ _ _ _ => rfl) (by decide) (by decide)) (by decide) S1 u v _ hp hv fun y u1 v1 hy hv1 => ?_
    obtain ⟨roles, rfl, hr3, hr5, hrn, hrw⟩ := hy
    refine dr_sortw (p := p) (P := fun ws => 2 ≤ ws.length ∧ ws.length < 6 ∧ ws.Nodup ∧ ∀ x ∈ ws, isW x = true) (dr_words (p := p) (lo := 2) (hi := 6) (fun _ _ _ _ => rfl) (dr_cnt (p := p) (c := 2) (n := 4) (fun _ _ _ _ => rfl) (by decide) (by decide)) (by decide)) (fun ws h => by omega) _ u1 v1 _ drS_at hv1 fun y u2 v2 hy hv2 => ?_
    obtain ⟨ws, rfl, hw2, hw6, hwn, hww⟩ := hy
    rw [drS2]
    refine ⟨by simp, _, rfl, rfl, _, _, rfl, _, _, rfl, rfl, ?_⟩
    have hrk : ∀ r ∈ roles, isW r = true := hrw
    -- the book
    refine dr_book (p := p) (rs := roles) (lo := 1) (hi := 6) (fun _ _ _ _ => rfl) (fun _ _ _ _ => rfl) (dr_cnt (p := p) (c := 1) (n := 5) (fun _ _ _ _ => rfl) (by decide) (by decide)) (by decide) (by omega) (by omega) _ u2 v2 _ drS_at hv2 fun y u3 v3 hy hv3 => ?_
    obtain ⟨bk, rfl, hbl, hbk⟩ := hy
    rw [drS2]
    refine nm_go ?_
    -- the links
    refine ⟨[], rfl, Nat.zero_le _, fun pl hpl => ?_⟩
    have hne : pl ≠ p := fun z => by rw [z, drS_at] at hpl; cases hpl
    have hpl1 : S1 pl = none := by rw [drS_ne hne] at hpl; exact hpl
    refine nm_go ?_
    refine dr_cnt (p := p) (c := 1) (n := 6) (fun _ _ _ _ => rfl) (by decide) (by decide) _ u3 v3 _ (by rw [put_ne (Ne.symm hne)]; exact drS_at) hv3 fun y u4 v4 hy hv4 => ?_
    obtain ⟨m, rfl, hm1, hm7⟩ := hy
    refine ⟨(m : Nat), rfl, by omega, by omega, fun i ρ' S' => ∃ y7 y8 y9 u' v' lks, ρ' = [some (.lst (ns.map .int)), some (.int cell), some (.ref p), some (.lst (roles.map .str)), some (.lst ((sortS ws).map .str)), some (.tup (bk.map Say.d)), some (.ref pl), y7, y8, y9, x10, x11, x12, x13, x14, x15, x16, x17, x18, x19, x20, x21] ∧ lks.length = i ∧ (∀ l ∈ lks, LkIn ws roles l) ∧ SrcV v' ∧ S' = put (drS S1 p u' v') pl (.lst (lks.map lkd)), ⟨_, _, _, u4, v4, [], rfl, rfl, fun _ h => (nomatch h), hv4, by rw [drS_put hne]; rfl⟩, fun _ _ _ _ _ => trivial, fun k dk ρ' S' hdk hI => ?_, fun ρ' S' hI => ?_⟩
    · obtain ⟨y7, y8, y9, u', v', lks, rfl, hlk, hlks, hv', rfl⟩ := hI
      have hk : k < m := by
        rcases Nat.lt_or_ge k (rngD 0 (m : Int).toNat).length with z | z
        · unfold rngD at z
          rw [List.length_map, List.length_range] at z
          omega
        · rw [List.getElem?_eq_none z] at hdk; cases hdk
      refine nm_go ?_
      have hsl : ((sortS ws).map D.str).length = ws.length := by rw [List.length_map]; exact (List.mergeSort_perm ws leS).length_eq
      refine dr_item (p := p) (a := .lst ((sortS ws).map .str)) (ds := (sortS ws).map .str) (fun _ _ _ _ => rfl) (fun _ _ => gIx_lst) (fun _ _ _ _ => rfl) (by omega) (by omega) _ u' v' _ (by rw [put_ne (Ne.symm hne)]; exact drS_at) hv' fun y u5 v5 hy hv5 => ?_
      obtain ⟨one, hone, rfl⟩ := List.mem_map.mp hy
      rw [drS_put hne]
      refine dr_item (p := p) (a := .lst ((sortS ws).map .str)) (ds := (sortS ws).map .str) (fun _ _ _ _ => rfl) (fun _ _ => gIx_lst) (fun _ _ _ _ => rfl) (by omega) (by omega) _ u5 v5 _ (by rw [put_ne (Ne.symm hne)]; exact drS_at) hv5 fun y u6 v6 hy hv6 => ?_
      obtain ⟨two, htwo, rfl⟩ := List.mem_map.mp hy
      rw [drS_put hne]
      refine ⟨_, _, rfl, ?_⟩
      refine ⟨_, rfl, ⟨pl, _, rfl, put_same⟩, _, rfl, ?_⟩
      refine dr_item (p := p) (a := .lst (roles.map .str)) (ds := roles.map .str) (fun _ _ _ _ => rfl) (fun _ _ => gIx_lst) (fun _ _ _ _ => rfl) (by rw [List.length_map]; omega) (by rw [List.length_map]; omega) _ u6 v6 _ (by rw [put_ne (Ne.symm hne)]; exact drS_at) hv6 fun y u7 v7 hy hv7 => ?_
      obtain ⟨rr, hrr, rfl⟩ := List.mem_map.mp hy
      rw [drS_put hne]
      refine ⟨_, rfl, by simp, pl, _, _, _, rfl, put_same, if_pos (by rw [List.length_map]; omega), ?_⟩
      refine ⟨_, _, _, u7, v7, lks ++ [(one, rr, two)], rfl, by simp [hlk], fun l hl => ?_, hv7, by rw [put_put, List.map_append]; rfl⟩
      rcases List.mem_append.mp hl with hl | hl
      · exact hlks l hl
      · rw [List.mem_singleton.mp hl]
        exact ⟨mem_sortS.mp hone, hrr, mem_sortS.mp htwo⟩
    · obtain ⟨y7, y8, y9, u', v', lks, rfl, hlk, hlks, hv', rfl⟩ := hI
      have hlk : lks.length = m := by
        unfold rngD at hlk
        rw [List.length_map, List.length_range] at hlk
        omega
      obtain ⟨sw, hsw⟩ : ∃ sw, sw = sortS ws := ⟨_, rfl⟩
      have hss : sortS sw = sw := by rw [hsw]; exact List.mergeSort_of_pairwise (sortS_pw ws)
      have hswl : sw.length = ws.length := by rw [hsw]; exact (List.mergeSort_perm ws leS).length_eq
      have hswn : sw.Nodup := by rw [hsw]; exact sortS_nodup hwn
      have hsww : ∀ x ∈ sw, isW x = true := fun x hx => by rw [hsw] at hx; exact hww x (mem_sortS.mp hx)
      have hlks : ∀ l ∈ lks, LkIn sw roles l := fun l hl => by
        obtain ⟨a, b, c⟩ := hlks l hl
        rw [hsw]
        exact ⟨mem_sortS.mpr a, b, mem_sortS.mpr c⟩
      rw [← hsw]
      have hps1 : psS (factsW lks sw) = sw := (psS_law hswn hlks).trans hss
      have hset : Setup bk (factsW lks sw) roles sw := setup_law hbk (by omega) hrk (by omega) hlks (by omega) hsww (by omega)
      -- the facts
      refine catLc_go (it1 := lks.map lkd) (it2 := sw.map .str) (k1 := some (pl, .lst (lks.map lkd))) (k2 := none) (out1 := fun d => Fa.d (.to (lkGet d).1 (lkGet d).2.1 (lkGet d).2.2)) (out2 := fun d => Fa.d (.is (txt d) anyD)) (by show (match put (drS S1 p u' v') pl (.lst (lks.map lkd)) pl with | some (.lst ds) => some (ds, some (pl, Cell.lst ds)) | _ => none) = _; rw [put_same]) rfl (by rw [List.length_map, List.length_map]; omega) (fun d hd S' l => ?_) (fun d hd S' l => ?_) ?_
      · obtain ⟨z, hz, rfl⟩ := List.mem_map.mp hd
        exact ⟨_, rfl, rfl, rfl⟩
      · obtain ⟨z, hz, rfl⟩ := List.mem_map.mp hd
        exact ⟨_, rfl, rfl, rfl⟩
      rw [← facts_d]
      -- whether it is told right
      refine ⟨_, rfl, _, rfl, _, rfl, _, rfl, [.tup (bk.map Say.d), .ref pl], rfl, rfl, bk, lks, .ref pl, uniL sw roles, rfl, by simp [lstOf, put_same], by omega, by omega, sp_uni hbk hlks, uniL_len (by omega) (by omega), fun p1 ls1 hp1 hls1 hll1 => ?_⟩
      refine ⟨rfl, bk, factsW lks sw, roles, sw, roles, p1, ls1, by rw [hps1], put_same, hset, fun r hr => hr, by omega, by rw [facts_links]; exact hls1, true, rfl, ?_⟩
      have hne1p : p1 ≠ p := fun z => by rw [z, put_ne (Ne.symm hne), drS_at] at hp1; cases hp1
      have hne1l : p1 ≠ pl := fun z => by rw [z, put_same] at hp1; cases hp1
      have hp3 : put (put (drS S1 p u' v') pl (.lst (lks.map lkd))) p1 (.dT (lkT ls1)) p = some (.lst [.int u', .int v']) := by rw [put_ne (Ne.symm hne1p), put_ne (Ne.symm hne), drS_at]
      have hpl3 : put (put (drS S1 p u' v') pl (.lst (lks.map lkd))) p1 (.dT (lkT ls1)) pl = some (.lst (lks.map lkd)) := by rw [put_ne (Ne.symm hne1l), put_same]
      have hle2 : Le S (put (drS S1 p u' v') pl (.lst (lks.map lkd))) := le_putR (le_putR hl0 hps) (none_le hl0 hpl1)
      have hle3 : Le S (put (put (drS S1 p u' v') pl (.lst (lks.map lkd))) p1 (.dT (lkT ls1))) := le_putR hle2 (none_le hle2 hp1)
      generalize put (put (drS S1 p u' v') pl (.lst (lks.map lkd))) p1 (.dT (lkT ls1)) = S3 at hp3 hpl3 hle3 ⊢
      refine not_go (nx_go ?_)
      -- four roles
      refine sq_go ?_
      dsimp only [dAsg]
      refine dr_lc (p := p) (P := fun y => y ∈ roles.map D.str) (m := 4) (PU := (· = .int 4)) (by decide) (fun S u v R hp hv q => ⟨[.int 4], rfl, by have := q 4 u v rfl hv; rw [drS_self hp] at this; exact this⟩) (fun j hj => by cases hj; decide) (fun k => dr_item (a := .lst (roles.map .str)) (ds := roles.map .str) (fun _ _ _ _ => rfl) (fun _ _ => gIx_lst) (fun _ _ _ _ => rfl) (by rw [List.length_map]; omega) (by rw [List.length_map]; omega)) _ u' v' _ hp3 hv' fun y u5 v5 hy hv5 => ?_
      obtain ⟨ys, rfl, _, ⟨j, hj, hyl⟩, hys⟩ := hy
      cases hj
      have hyl : ys.length = 4 := by omega
      match ys, hyl, hys with
      | [z1, z2, z3, z4], _, hys =>
      obtain ⟨one, hone, rfl⟩ := List.mem_map.mp (hys z1 (by simp))
      obtain ⟨two, htwo, rfl⟩ := List.mem_map.mp (hys z2 (by simp))
      obtain ⟨three, hthree, rfl⟩ := List.mem_map.mp (hys z3 (by simp))
      obtain ⟨last, hlast, rfl⟩ := List.mem_map.mp (hys z4 (by simp))
      refine ⟨_, rfl, rfl, _, _, rfl, _, _, rfl, _, _, rfl, _, _, rfl, rfl, ?_⟩
      -- a fresh role
      obtain ⟨w, r, hwr, hw5, hwn2⟩ := first_new (ws := roles) (by omega)
      refine pj_go (sq_go ?_)
      refine ix0Lc_go (items := five.map .str) (k := none) (keep := fun d => decide (txt d ∉ roles)) (out := id) (w := .str w) (r := r.map .str) rfl (by decide) (fun d hd S' l => ?_) (by rw [List.map_id, filter_strs (keep := fun x => decide (x ∉ roles)), hwr]; rfl) ?_
      · obtain ⟨x, hx, rfl⟩ := List.mem_map.mp hd
        refine ⟨_, rfl, tb_go ((nin_go (x := .str x) (v := .lst (roles.map .str)) (ds := roles.map .str) rfl rfl rfl (inD_str _ _)).trans ?_), fun _ => rfl⟩
        show some (D.bl (!decide (x ∈ roles))) = some (D.bl (decide (x ∉ roles)))
        rw [decide_not]
      -- written out
      have hrs2 : ∀ s ∈ bk ++ [.chain one two w, .chain w three last], s.inn (w :: roles) := fun s hs => by
        rcases List.mem_append.mp hs with hs | hs
        · exact inn_mono (fun r hr => List.mem_cons_of_mem _ hr) (hbk s hs)
        · rcases List.mem_cons.mp hs with rfl | hs
          · exact ⟨List.mem_cons_of_mem _ hone, List.mem_cons_of_mem _ htwo, List.mem_cons_self⟩
          · rw [List.mem_singleton.mp hs]
            exact ⟨List.mem_cons_self, List.mem_cons_of_mem _ hthree, List.mem_cons_of_mem _ hlast⟩
      have hlks2 : ∀ l ∈ lks, LkIn sw (w :: roles) l := fun l hl => by
        obtain ⟨a, b, c⟩ := hlks l hl
        exact ⟨a, List.mem_cons_of_mem _ b, c⟩
      have hbl2 : (bk ++ [Say.chain one two w, .chain w three last]).length < 8 := by rw [List.length_append]; simp; omega
      have hset2 : Setup (bk ++ [.chain one two w, .chain w three last]) (factsW lks sw) (w :: roles) sw := setup_law hrs2 (by omega) (fun r hr => by
        rcases List.mem_cons.mp hr with rfl | hr
        · exact five_isW _ hw5
        · exact hrk r hr) (by simp; omega) hlks2 (by omega) hsww (by omega)
      refine asg_go (d := .tup ((bk ++ [Say.chain one two w, .chain w three last]).map Say.d)) ?_ ?_
      · rw [List.map_append]
        exact addT_go rfl rfl (by rw [List.length_map]; simp; omega)
      have hl5 : drS S3 p u5 v5 pl = some (.lst (lks.map lkd)) := by rw [drS_ne hne]; exact hpl3
      refine ⟨[.tup ((bk ++ [Say.chain one two w, .chain w three last]).map Say.d), .ref pl], rfl, rfl, bk ++ [.chain one two w, .chain w three last], lks, .ref pl, uniL sw (w :: roles), rfl, by simp only [lstOf, hl5], by omega, by omega, sp_uni hrs2 hlks2, uniL_len (by omega) (by simp; omega), fun p2 ls2 hp2 hls2 hll2 => ?_⟩
      refine nm_go (pj_go (sq_go ?_))
      have hne2p : p2 ≠ p := fun z => by rw [z, drS_at] at hp2; cases hp2
      refine ⟨_, acons_go rfl (acons_go rfl (acons_go rfl (acons_go (cut2v_go (ws := roles) rfl) (acons_go rfl rfl)))), rfl, bk ++ [.chain one two w, .chain w three last], factsW lks sw, w :: roles, sw, roles.take 2, p2, ls2, by rw [hps1], put_same, hset2, fun r hr => List.mem_cons_of_mem _ (List.mem_of_mem_take hr), by rw [List.length_take]; omega, by rw [facts_links]; exact hls2, true, rfl, ?_⟩
      have hp5 : put (drS S3 p u5 v5) p2 (.dT (lkT ls2)) p = some (.lst [.int u5, .int v5]) := by rw [put_ne (Ne.symm hne2p), drS_at]
      have hle4 : Le S (drS S3 p u5 v5) := le_putR hle3 hps
      have hle5 : Le S (put (drS S3 p u5 v5) p2 (.dT (lkT ls2))) := le_putR hle4 (none_le hle4 hp2)
      generalize put (drS S3 p u5 v5) p2 (.dT (lkT ls2)) = S5 at hp5 hle5 ⊢
      refine not_go (nx_go (pj_go ?_))
      -- three claims
      refine ⟨[.ref p, .lst (roles.map .str), .int 3], rfl, rfl, p, u5, v5, roles, 3, rfl, hp5, hv5, by omega, by omega, by decide, fun bk3 u6 v6 hbl3 hbk3 hv6 => ⟨_, rfl, ?_⟩⟩
      refine ⟨fun j ρ' S' => ∃ y16 y17 y18, ρ' = [some (.lst (ns.map .int)), some (.int cell), some (.ref p), some (.lst (roles.map .str)), some (.lst (sw.map .str)), some (.tup (bk.map Say.d)), some (.ref pl), y7, some (.str one), some (.str two), some (.tup ((factsW lks sw).map Fa.d)), some (.str three), some (.str last), some (.str w), some (.tup ((bk ++ [Say.chain one two w, .chain w three last]).map Say.d)), some (.ref p2), y16, y17, y18, x19, x20, x21] ∧ Le S S', ⟨_, _, _, rfl, le_putR hle5 hps⟩, fun _ _ _ _ _ => trivial, fun j d3 ρ' S' hd3 hI => ?_, fun ρ' S' hI => ?_⟩
      · obtain ⟨y16, y17, y18, rfl, hle6⟩ := hI
        obtain ⟨cl, hcl, rfl⟩ := map_get hd3
        have hcl := hbk3 cl (List.mem_of_getElem? hcl)
        refine nm_go (sq_go ?_)
        refine asg_go (d := .lst ((askL cl "x" "y" "z").map lkd)) ?_ (pj_go (sq_go ?_))
        · cases cl with
          | role a b => exact dif_go (b := true) ((eqs1 (t := "role") (x := "role") (ix0_go rfl) rfl).trans rfl) (fun _ => lst_go (acons_go (tup_go (acons_go rfl (acons_go (ix1_go rfl) (acons_go rfl rfl)))) rfl) (by simp [askL])) (fun e => nomatch e)
          | chain a b c => exact dif_go (b := false) ((eqs1 (t := "chain") (x := "role") (ix0_go rfl) rfl).trans rfl) (fun e => nomatch e) (fun _ => lst_go (acons_go (tup_go (acons_go rfl (acons_go (ix1_go rfl) (acons_go rfl rfl)))) (acons_go (tup_go (acons_go rfl (acons_go (ix2_go rfl) (acons_go rfl rfl)))) rfl)) (by simp [askL]))
        refine asg_go (d := lkd (goalL cl "x" "y" "z")) ?_ (pj_go ?_)
        · cases cl with
          | role a b => exact dif_go (b := true) ((eqs1 (t := "role") (x := "role") (ix0_go rfl) rfl).trans rfl) (fun _ => tup_go (acons_go rfl (acons_go (ix2_go rfl) (acons_go rfl rfl)))) (fun e => nomatch e)
          | chain a b c => exact dif_go (b := false) ((eqs1 (t := "chain") (x := "role") (ix0_go rfl) rfl).trans rfl) (fun e => nomatch e) (fun _ => tup_go (acons_go rfl (acons_go (ix3_go rfl) (acons_go rfl rfl))))
        obtain ⟨a, b, c, hfr, h1, h2, h3, wa, wb, wc, ha, hb, hc⟩ := fresh_three hset (by omega)
        have hfl : (factsW lks sw).length ≤ 50 := by unfold factsW; rw [List.length_append, List.length_map, List.length_map]; omega
        refine ⟨[.tup (bk.map Say.d), .tup ((factsW lks sw).map Fa.d), cl.d], rfl, rfl, bk, factsW lks sw, cl, world bk (factsW lks sw ++ askF cl a b c) [] roles (sw ++ [a, b, c]), a, b, c, rfl, wfB_d hset, qu_ok hset (by omega) hfl hcl wa wb wc hfr, Nat.le_trans (ps_len (setup_ask hset (by omega) hfl hcl wa wb wc)) (by decide), ans_void (setup_ask hset (by omega) hfl hcl wa wb wc) nil_kl, fun k hk => ?_⟩
        refine ⟨_, rfl, [.tup (bk.map Say.d), .lst ((askL cl "x" "y" "z").map lkd)], rfl, rfl, bk, askL cl "x" "y" "z", .lst ((askL cl "x" "y" "z").map lkd), uniL xyz roles, rfl, rfl, by omega, ?_, sp_uni hbk (ask_in hcl), uniL_len (by decide) (by omega), fun p6 ls6 hp6 hls6 hll6 => ?_⟩
        · cases cl <;> simp [askL]
        have hkd := fol_iff hset (by omega) hfl hcl wa wb wc h1 h2 h3 ha hb hc hls6 hk
        refine ⟨.bl (decide (goalL cl "x" "y" "z" ∈ ls6)), ?_, rfl, .bl true, yes_true ?_, true, rfl, not_go (nx_go ?_)⟩
        · exact gDin_lk put_same
        · rw [hkd]
          show (decide _ == decide _) = true
          exact beq_self_eq_true _
        · exact ⟨_, _, _, rfl, le_putR hle6 (none_le hle6 hp6)⟩
      · obtain ⟨y16, y17, y18, rfl, hle6⟩ := hI
        exact ⟨_, _, _, _, _, _, _, _, _, _, _, _, _, _, _, _, _, _, _, _, _, rfl, hle6⟩
  · obtain ⟨x1, x2, x3, x4, x5, x6, x7, x8, x9, x10, x11, x12, x13, x14, x15, x16, x17, x18, x19, x20, x21, rfl, hle⟩ := hI
    exact ⟨_, rfl, RdQ.le q hle⟩
end
end K62
set_option Elab.async false
set_option linter.all false
set_option maxRecDepth 100000
set_option maxHeartbeats 0
namespace K62
open PySem PySem.Spec PyProof.Rows L2 Evl KD
def dfn (x : Str) (st : Stmt) : He.DefD := ⟨(x, none), x, x, defArgs st, defBody st, defScope st, [], []⟩
def dmt (m qual : Str) (st : Stmt) : He.DefD := ⟨("Saturation", some m), m, qual, defArgs st, defBody st, defScope st, [], []⟩
def fn0 : List He.DefD := [dfn "is_word" (top 12), dfn "check_word" (top 13), dfn "is_kind" (top 17), dfn "check_kind" (top 18), dfn "kinds_within" (top 19), dfn "parts_of" (top 20), dfn "is_saying" (top 22), dfn "is_book" (top 23), dfn "check_book" (top 24), dfn "kinds_of_sayings" (top 25), dfn "is_fact" (top 27), dfn "is_facts" (top 28), dfn "is_claim" (top 29), dfn "check_facts" (top 30), dfn "check_claim" (top 31), dfn "persons_of_claim" (top 32), dfn "persons_in" (top 33), dfn "kinds_in" (top 34), dfn "fresh_persons" (top 35), dfn "asked_facts" (top 36), dfn "goal_of" (top 37), dfn "conclusion_of_fact" (top 39), dfn "asked_of" (top 41), dfn "under" (top 42), dmt "__init__" "Saturation.__init__" (meth 0), dmt "_index_kinds" "Saturation._index_kinds" (meth 1), dmt "_index_sayings" "Saturation._index_sayings" (meth 2), dmt "_begin" "Saturation._begin" (meth 3), dmt "_offer" "Saturation._offer" (meth 4), dmt "_next" "Saturation._next" (meth 5)]
def fn1 : List He.DefD := [dmt "_below" "Saturation._below" (meth 6), dmt "_whole" "Saturation._whole" (meth 7), dmt "_behind" "Saturation._behind" (meth 8), dmt "_link" "Saturation._link" (meth 9), dmt "is_below" "Saturation.is_below" (meth 10), dmt "void_subject" "Saturation.void_subject" (meth 11), dmt "is_void" "Saturation.is_void" (meth 12), dfn "saturated" (top 44), dfn "check_known" (top 46), dfn "members" (top 47), dfn "linked" (top 48), dfn "check_question" (top 50), dfn "question" (top 51), dfn "follows_of" (top 52), dfn "follows" (top 53), dfn "_law_source" (top 55), dfn "_law_pick" (top 56), dfn "_law_same" (top 57), dfn "_law_words" (top 58), dfn "_law_spread" (top 59), dfn "_law_role_book" (top 60), dfn "_law_told_right" (top 61), dfn "law" (top 62)]
def fn : List He.DefD := fn0 ++ fn1
def fa0 : List He.Fa := [.free "len", .free "isinstance", .free "all", .free "any", .free "str", .free "tuple", .free "list", .free "bool", .free "int", .free "dict", .free "sorted", .free "range", .free "enumerate", .str "LETTERS" "abcdefghijklmnopqrstuvwxyz", .glo "ANY", .glo "NONE", .glo "is_word", .glo "check_word", .glo "is_kind", .glo "check_kind", .glo "kinds_within", .glo "parts_of", .glo "is_saying", .glo "is_book", .glo "check_book", .glo "kinds_of_sayings", .glo "is_fact", .glo "is_facts", .glo "is_claim", .glo "check_facts"]
def fa1 : List He.Fa := [.glo "check_claim", .glo "persons_of_claim", .glo "persons_in", .glo "kinds_in", .glo "fresh_persons", .glo "asked_facts", .glo "goal_of", .glo "conclusion_of_fact", .glo "asked_of", .glo "under", .mkr "Saturation", .meth "Saturation" "_index_kinds", .meth "Saturation" "_index_sayings", .meth "Saturation" "_begin", .meth "Saturation" "_offer", .meth "Saturation" "_next", .meth "Saturation" "_below", .meth "Saturation" "_whole", .meth "Saturation" "_behind", .meth "Saturation" "_link", .meth "Saturation" "is_below", .meth "Saturation" "void_subject", .meth "Saturation" "is_void", .glo "saturated", .glo "check_known", .glo "members", .glo "linked", .glo "check_question", .glo "question", .glo "follows_of"]
def fa2 : List He.Fa := [.glo "follows", .glo "_law_source", .glo "_law_pick", .glo "_law_same", .glo "_law_words", .glo "_law_spread", .glo "_law_role_book", .glo "_law_told_right", .glo "law", .glo "Saturation", .cls "Saturation", .noat "Saturation" "kinds", .noat "Saturation" "persons", .noat "Saturation" "least", .noat "Saturation" "steps", .noat "Saturation" "sizes", .noat "Saturation" "waiting", .noat "Saturation" "count", .noat "Saturation" "below", .noat "Saturation" "links_from", .noat "Saturation" "links_to", .noat "Saturation" "wholes", .noat "Saturation" "somes", .noat "Saturation" "sayings", .noat "Saturation" "roles", .noat "Saturation" "firsts", .noat "Saturation" "seconds"]
def fa : List He.Fa := fa0 ++ fa1 ++ fa2
def loose0 : List PySem.Str := ["_wall", "__name__", "LoreError", "InvalidKind", "InvalidWord", "InvalidSaying", "InvalidBook", "InvalidFacts", "Unknown", "LETTERS", "is_word", "check_word", "ANY", "NONE", "is_kind", "check_kind", "kinds_within", "parts_of", "is_saying", "is_book", "check_book", "kinds_of_sayings", "is_fact", "is_facts", "is_claim", "check_facts", "check_claim", "persons_of_claim", "persons_in", "kinds_in"]
def loose1 : List PySem.Str := ["fresh_persons", "asked_facts", "goal_of", "conclusion_of_fact", "asked_of", "under", "Saturation", "saturated", "check_known", "members", "linked", "check_question", "question", "follows_of", "follows", "_law_source", "_law_pick", "_law_same", "_law_words", "_law_spread", "_law_role_book", "_law_told_right"]
def loose : List PySem.Str := loose0 ++ loose1
def imps : List PySem.Str := ["heappop", "heappush"]
def ex (K : PySem.W.Frag) : Bool := He.tupB K "ANY" [.str "any"] && He.tupB K "NONE" [.str "none"]
theorem tup_ANY {K : PySem.W.Frag} (h : ex K = true) : He.tupB K "ANY" [.str "any"] = true := (Bool.and_eq_true_iff.mp h).1
theorem tup_NONE {K : PySem.W.Frag} (h : ex K = true) : He.tupB K "NONE" [.str "none"] = true := (Bool.and_eq_true_iff.mp h).2
theorem wd_of {K : PySem.W.Frag} {h : Heap} {mg : Str → Option Value} (X : K.In h) (G : h.Ns mainGlobals mg) (c : He.SaysD fa fn K) (e : ex K = true) : Wd K mg where
  f_len := He.free_ok X G (c.fact 0 rfl)
  f_isinstance := He.free_ok X G (c.fact 1 rfl)
  f_all := He.free_ok X G (c.fact 2 rfl)
  f_any := He.free_ok X G (c.fact 3 rfl)
  f_str := He.free_ok X G (c.fact 4 rfl)
  f_tuple := He.free_ok X G (c.fact 5 rfl)
  f_list := He.free_ok X G (c.fact 6 rfl)
  f_bool := He.free_ok X G (c.fact 7 rfl)
  f_int := He.free_ok X G (c.fact 8 rfl)
  f_dict := He.free_ok X G (c.fact 9 rfl)
  f_sorted := He.free_ok X G (c.fact 10 rfl)
  f_range := He.free_ok X G (c.fact 11 rfl)
  f_enumerate := He.free_ok X G (c.fact 12 rfl)
  letters := by obtain ⟨t, e⟩ := He.str_ok X G (c.fact 13 rfl); exact ⟨_, .str "abcdefghijklmnopqrstuvwxyz", e, ⟨t, rfl⟩, fun F => .str _⟩
  any := ⟨_, .ref (He.ga K "ANY"), He.glo_ok X G (c.fact 14 rfl), rfl, fun F => .tup (vs := [.str "any"]) (He.tupB_ok (tup_ANY e) F) (.cons (.str _) .nil)⟩
  none := ⟨_, .ref (He.ga K "NONE"), He.glo_ok X G (c.fact 15 rfl), rfl, fun F => .tup (vs := [.str "none"]) (He.tupB_ok (tup_NONE e) F) (.cons (.str _) .nil)⟩
  d_is_word := by obtain ⟨fd, F⟩ := c.def_ 0 rfl; exact ⟨_, fd, F, He.glo_ok X G (c.fact 16 rfl)⟩
  d_check_word := by obtain ⟨fd, F⟩ := c.def_ 1 rfl; exact ⟨_, fd, F, He.glo_ok X G (c.fact 17 rfl)⟩
  d_is_kind := by obtain ⟨fd, F⟩ := c.def_ 2 rfl; exact ⟨_, fd, F, He.glo_ok X G (c.fact 18 rfl)⟩
  d_check_kind := by obtain ⟨fd, F⟩ := c.def_ 3 rfl; exact ⟨_, fd, F, He.glo_ok X G (c.fact 19 rfl)⟩
  d_kinds_within := by obtain ⟨fd, F⟩ := c.def_ 4 rfl; exact ⟨_, fd, F, He.glo_ok X G (c.fact 20 rfl)⟩
  d_parts_of := by obtain ⟨fd, F⟩ := c.def_ 5 rfl; exact ⟨_, fd, F, He.glo_ok X G (c.fact 21 rfl)⟩
  d_is_saying := by obtain ⟨fd, F⟩ := c.def_ 6 rfl; exact ⟨_, fd, F, He.glo_ok X G (c.fact 22 rfl)⟩
  d_is_book := by obtain ⟨fd, F⟩ := c.def_ 7 rfl; exact ⟨_, fd, F, He.glo_ok X G (c.fact 23 rfl)⟩
  d_check_book := by obtain ⟨fd, F⟩ := c.def_ 8 rfl; exact ⟨_, fd, F, He.glo_ok X G (c.fact 24 rfl)⟩
  d_kinds_of_sayings := by obtain ⟨fd, F⟩ := c.def_ 9 rfl; exact ⟨_, fd, F, He.glo_ok X G (c.fact 25 rfl)⟩
  d_is_fact := by obtain ⟨fd, F⟩ := c.def_ 10 rfl; exact ⟨_, fd, F, He.glo_ok X G (c.fact 26 rfl)⟩
  d_is_facts := by obtain ⟨fd, F⟩ := c.def_ 11 rfl; exact ⟨_, fd, F, He.glo_ok X G (c.fact 27 rfl)⟩
  d_is_claim := by obtain ⟨fd, F⟩ := c.def_ 12 rfl; exact ⟨_, fd, F, He.glo_ok X G (c.fact 28 rfl)⟩
  d_check_facts := by obtain ⟨fd, F⟩ := c.def_ 13 rfl; exact ⟨_, fd, F, He.glo_ok X G (c.fact 29 rfl)⟩
  d_check_claim := by obtain ⟨fd, F⟩ := c.def_ 14 rfl; exact ⟨_, fd, F, He.glo_ok X G (c.fact 30 rfl)⟩
  d_persons_of_claim := by obtain ⟨fd, F⟩ := c.def_ 15 rfl; exact ⟨_, fd, F, He.glo_ok X G (c.fact 31 rfl)⟩
  d_persons_in := by obtain ⟨fd, F⟩ := c.def_ 16 rfl; exact ⟨_, fd, F, He.glo_ok X G (c.fact 32 rfl)⟩
  d_kinds_in := by obtain ⟨fd, F⟩ := c.def_ 17 rfl; exact ⟨_, fd, F, He.glo_ok X G (c.fact 33 rfl)⟩
  d_fresh_persons := by obtain ⟨fd, F⟩ := c.def_ 18 rfl; exact ⟨_, fd, F, He.glo_ok X G (c.fact 34 rfl)⟩
  d_asked_facts := by obtain ⟨fd, F⟩ := c.def_ 19 rfl; exact ⟨_, fd, F, He.glo_ok X G (c.fact 35 rfl)⟩
  d_goal_of := by obtain ⟨fd, F⟩ := c.def_ 20 rfl; exact ⟨_, fd, F, He.glo_ok X G (c.fact 36 rfl)⟩
  d_conclusion_of_fact := by obtain ⟨fd, F⟩ := c.def_ 21 rfl; exact ⟨_, fd, F, He.glo_ok X G (c.fact 37 rfl)⟩
  d_asked_of := by obtain ⟨fd, F⟩ := c.def_ 22 rfl; exact ⟨_, fd, F, He.glo_ok X G (c.fact 38 rfl)⟩
  d_under := by obtain ⟨fd, F⟩ := c.def_ 23 rfl; exact ⟨_, fd, F, He.glo_ok X G (c.fact 39 rfl)⟩
  m___init__ := by obtain ⟨fd, F⟩ := c.def_ 24 rfl; exact ⟨_, fd, F, He.mkr_ok (c.fact 40 rfl)⟩
  m__index_kinds := by obtain ⟨fd, F⟩ := c.def_ 25 rfl; exact ⟨_, fd, F, He.meth_ok (c.fact 41 rfl)⟩
  m__index_sayings := by obtain ⟨fd, F⟩ := c.def_ 26 rfl; exact ⟨_, fd, F, He.meth_ok (c.fact 42 rfl)⟩
  m__begin := by obtain ⟨fd, F⟩ := c.def_ 27 rfl; exact ⟨_, fd, F, He.meth_ok (c.fact 43 rfl)⟩
  m__offer := by obtain ⟨fd, F⟩ := c.def_ 28 rfl; exact ⟨_, fd, F, He.meth_ok (c.fact 44 rfl)⟩
  m__next := by obtain ⟨fd, F⟩ := c.def_ 29 rfl; exact ⟨_, fd, F, He.meth_ok (c.fact 45 rfl)⟩
  m__below := by obtain ⟨fd, F⟩ := c.def_ 30 rfl; exact ⟨_, fd, F, He.meth_ok (c.fact 46 rfl)⟩
  m__whole := by obtain ⟨fd, F⟩ := c.def_ 31 rfl; exact ⟨_, fd, F, He.meth_ok (c.fact 47 rfl)⟩
  m__behind := by obtain ⟨fd, F⟩ := c.def_ 32 rfl; exact ⟨_, fd, F, He.meth_ok (c.fact 48 rfl)⟩
  m__link := by obtain ⟨fd, F⟩ := c.def_ 33 rfl; exact ⟨_, fd, F, He.meth_ok (c.fact 49 rfl)⟩
  m_is_below := by obtain ⟨fd, F⟩ := c.def_ 34 rfl; exact ⟨_, fd, F, He.meth_ok (c.fact 50 rfl)⟩
  m_void_subject := by obtain ⟨fd, F⟩ := c.def_ 35 rfl; exact ⟨_, fd, F, He.meth_ok (c.fact 51 rfl)⟩
  m_is_void := by obtain ⟨fd, F⟩ := c.def_ 36 rfl; exact ⟨_, fd, F, He.meth_ok (c.fact 52 rfl)⟩
  d_saturated := by obtain ⟨fd, F⟩ := c.def_ 37 rfl; exact ⟨_, fd, F, He.glo_ok X G (c.fact 53 rfl)⟩
  d_check_known := by obtain ⟨fd, F⟩ := c.def_ 38 rfl; exact ⟨_, fd, F, He.glo_ok X G (c.fact 54 rfl)⟩
  d_members := by obtain ⟨fd, F⟩ := c.def_ 39 rfl; exact ⟨_, fd, F, He.glo_ok X G (c.fact 55 rfl)⟩
  d_linked := by obtain ⟨fd, F⟩ := c.def_ 40 rfl; exact ⟨_, fd, F, He.glo_ok X G (c.fact 56 rfl)⟩
  d_check_question := by obtain ⟨fd, F⟩ := c.def_ 41 rfl; exact ⟨_, fd, F, He.glo_ok X G (c.fact 57 rfl)⟩
  d_question := by obtain ⟨fd, F⟩ := c.def_ 42 rfl; exact ⟨_, fd, F, He.glo_ok X G (c.fact 58 rfl)⟩
  d_follows_of := by obtain ⟨fd, F⟩ := c.def_ 43 rfl; exact ⟨_, fd, F, He.glo_ok X G (c.fact 59 rfl)⟩
  d_follows := by obtain ⟨fd, F⟩ := c.def_ 44 rfl; exact ⟨_, fd, F, He.glo_ok X G (c.fact 60 rfl)⟩
  d__law_source := by obtain ⟨fd, F⟩ := c.def_ 45 rfl; exact ⟨_, fd, F, He.glo_ok X G (c.fact 61 rfl)⟩
  d__law_pick := by obtain ⟨fd, F⟩ := c.def_ 46 rfl; exact ⟨_, fd, F, He.glo_ok X G (c.fact 62 rfl)⟩
  d__law_same := by obtain ⟨fd, F⟩ := c.def_ 47 rfl; exact ⟨_, fd, F, He.glo_ok X G (c.fact 63 rfl)⟩
  d__law_words := by obtain ⟨fd, F⟩ := c.def_ 48 rfl; exact ⟨_, fd, F, He.glo_ok X G (c.fact 64 rfl)⟩
  d__law_spread := by obtain ⟨fd, F⟩ := c.def_ 49 rfl; exact ⟨_, fd, F, He.glo_ok X G (c.fact 65 rfl)⟩
  d__law_role_book := by obtain ⟨fd, F⟩ := c.def_ 50 rfl; exact ⟨_, fd, F, He.glo_ok X G (c.fact 66 rfl)⟩
  d__law_told_right := by obtain ⟨fd, F⟩ := c.def_ 51 rfl; exact ⟨_, fd, F, He.glo_ok X G (c.fact 67 rfl)⟩
  d_law := by obtain ⟨fd, F⟩ := c.def_ 52 rfl; exact ⟨_, fd, F, He.glo_ok X G (c.fact 68 rfl)⟩
  g_cls := He.glo_ok X G (c.fact 69 rfl)
  cls := He.cls_ok (c.fact 70 rfl)
  n_kinds := He.noat_ok (c.fact 71 rfl)
  n_persons := He.noat_ok (c.fact 72 rfl)
  n_least := He.noat_ok (c.fact 73 rfl)
  n_steps := He.noat_ok (c.fact 74 rfl)
  n_sizes := He.noat_ok (c.fact 75 rfl)
  n_waiting := He.noat_ok (c.fact 76 rfl)
  n_count := He.noat_ok (c.fact 77 rfl)
  n_below := He.noat_ok (c.fact 78 rfl)
  n_links_from := He.noat_ok (c.fact 79 rfl)
  n_links_to := He.noat_ok (c.fact 80 rfl)
  n_wholes := He.noat_ok (c.fact 81 rfl)
  n_somes := He.noat_ok (c.fact 82 rfl)
  n_sayings := He.noat_ok (c.fact 83 rfl)
  n_roles := He.noat_ok (c.fact 84 rfl)
  n_firsts := He.noat_ok (c.fact 85 rfl)
  n_seconds := He.noat_ok (c.fact 86 rfl)
end K62
set_option Elab.async false
set_option linter.all false
set_option maxRecDepth 100000
set_option maxHeartbeats 0
namespace K62
open PySem PySem.Spec PyProof.Rows L2 Evl KD
abbrev R : PySem.W.OpenRow := PySem.W.OpenLaw.row PySem.Challenge.rw_kindlore_k62_whole_chains_and_roles
abbrev AlK : Type := He.AlD × Bool
def obsG (g : Addr → Option Obj) : AlK := (He.obsD fa fn (He.frG g (He.asD g 6)), ex (He.frG g (He.asD g 6)))
def hk : PySem.W.Hook where
  α := AlK
  obs := fun s => obsG s.heap.get?
  val := fun _ => (He.valD fn, true)
  says := fun _ h => ∃ K : PySem.W.Frag, K.In h ∧ He.SaysD fa fn K ∧ ex K = true
  of := fun _ _ e => ⟨_, He.frG_in, congrArg (fun z : AlK => z.1) e, congrArg (fun z : AlK => z.2) e⟩
  keeps := fun _ _ _ ⟨K, hK, c⟩ k => ⟨K, PySem.W.Frag.In.keeps hK k, c⟩
def ob (s : PySem.W.SharedT) : AlK := obsG (HandSHeadRun.getT s)
theorem ob_eq (s : PySem.W.SharedT) : ob s = hk.obs s.abs := by
  have e : HandSHeadRun.getT s = s.abs.heap.get? := funext (HandSHeadRun.getT_eq s)
  show obsG _ = obsG _
  rw [e]
theorem run (w : World) : HandSHeadRun.RunEqI R (PySem.W.view R.prog [0, 62]) hk ob 20000 loose w := by
  unfold HandSHeadRun.RunEqI
  kernel_rfl
end K62
set_option Elab.async false
set_option linter.all false
set_option maxRecDepth 100000
set_option maxHeartbeats 4000000
namespace K62
open PySem PySem.Spec PyProof.Rows L2 Evl KD
theorem walk_bits {l : PySem.W.OpenLaw} {n k : Nat} {q : Program} {loose : List Str} {XP : (Str → Option Value) → Heap → Prop} {YP : World → Heap → Prop} {d : DefRec} {CX : CXT} {x : Str}
    (hn : l.most = some n) (hn2 : n ≤ sizeLine) (hdf : d.params.defaults = []) (hr : Room k callerA)
    (F : ∀ (w : World) (mg : Str → Option Value) (fa : Addr) (h : Heap), YP w h → h.Ns mainGlobals mg → mg d.name = some (.ref fa) →
      ∃ (K : PySem.W.Frag) (fd : FuncData) (sp : Sp), K.In h ∧ (∀ (s : Shared) (u : Value), BindsTo s fd ⟨[u], []⟩ [(x, u)]) ∧
        (∀ (H : Hp) (a : Addr) (ns : List Int), ns.length ≤ n → (∀ z ∈ ns, Builtin.Int.intBits z ≤ 1048576) → Only H → SqL K H a (ns.map V.int) → sp [.ref a] H (fun v _ => v = .bl true) fun _ _ _ => False) ∧
        ∀ base : Heap, K.In base → base.Ns mainGlobals mg → FnOk l.prog w K mg base CX k fa fd [x] sp)
    (hCX : ∀ (H : Hp) (s : Shared) (e : Value) (s' : Shared), CX [] H s (fun _ _ _ => False) e s' → False) :
    PySem.W.WalkO q loose XP YP l.row.toRowW d [] (fun f vs => PySem.call f vs) := by
  refine Att.attach_callB hn hdf fun w s₀ s₁ mg mb fa o pm cd doc a vs ns G Y ho hd hcd hmg hobj hints hlen hbits hg => ?_
  obtain ⟨K, fd, sp, KX, hb, hsp, hF⟩ := F w mg fa _ Y G.T.g hmg
  exact law_call KX G.T.g G.T.b G.T.builtins G.T.nolimit hg hobj hints (Nat.le_trans hlen hn2) hr hF hb (fun H hO hS => hsp H a ns hlen hbits hO hS) fun H e s' => hCX H s₁ e s'
theorem rpl_ints {K : PySem.W.Frag} {F : Hp} : ∀ ns : List Int, RpL K F (ns.map V.int) (ns.map D.int)
  | [] => .nil
  | n :: ns => .cons (.int n) (rpl_ints ns)
theorem sp_law {P : Program} {w : World} {K : PySem.W.Frag} {H : Hp} {a : Addr} {ns : List Int} {E : XK} (hl : ns.length ≤ 63) (hb : ∀ z ∈ ns, Builtin.Int.intBits z ≤ 1048576) (hS : SqL K H a (ns.map V.int)) : spOf P w K 1 dspLaw [.ref a] H (fun v _ => v = .bl true) E := by
  refine ⟨H, [.lst (ns.map .int)], fun _ => none, fun d _ => d = .bl true, .cons (.lst hS (rpl_ints ns)) .nil, ⟨cxOf C8.CX0 P w K (fun _ => none) (PySem.start P).1.heap [] "" (defScope (top 62)) 0 .none callerA [] (PySem.start P).1 H (fun _ _ _ => False), rfl, rfl, rfl, ⟨fun b o h => h, fun b c h => (nomatch h)⟩⟩, rfl, ⟨ns, rfl, by omega, hb, rfl⟩, fun v H' F' S' d _ _ r e => ?_⟩
  subst e
  cases r
  rfl
theorem law_name : (HandSHeadRun.topDef R.prog 62).name = ("law" : PySem.Str) := by kernel_rfl
theorem facts {w : World} {K : PySem.W.Frag} {h : Heap} {mg : Str → Option Value} {f : Addr} (X : K.In h) (G : h.Ns mainGlobals mg) (hfa : mg ("law" : Str) = some (.ref f)) (c : He.SaysD fa fn K) (e : ex K = true) :
    ∃ fd : FuncData, (∀ (s : Shared) (v : Value), BindsTo s fd ⟨[v], []⟩ [("script", v)]) ∧ ∀ base : Heap, K.In base → base.Ns mainGlobals mg → FnOk (PySem.Challenge.rw_kindlore_k62_whole_chains_and_roles).prog w K mg base C8.CX0 19 f fd ["script"] (spOf (PySem.Challenge.rw_kindlore_k62_whole_chains_and_roles).prog w K 1 dspLaw) := by
  have W := wd_of X G c e
  obtain ⟨f2, fd, F, hm⟩ := W.d_law
  have e2 := hfa.symm.trans hm
  cases e2
  have b := FunD.bindsA (ps := ["script"]) F fun _ _ _ _ _ _ us hl => match us, hl with | [_], _ => rfl
  exact ⟨fd, fun s v => b s [v] rfl, fun base _ _ => law_fn W F⟩
end K62
open PySem PySem.W PySem.Calls PyProof.Rows
set_option maxRecDepth 100000 in
set_option maxHeartbeats 8000000 in
theorem PySem.Challenge.cw_kindlore_k62_whole_chains_and_roles_holds : PySem.Challenge.rw_kindlore_k62_whole_chains_and_roles.Holds := by
  w_on; o_law
  refine HandSHeadRun.head_imp (r := OpenLaw.row PySem.Challenge.rw_kindlore_k62_whole_chains_and_roles) (q := view (OpenLaw.row PySem.Challenge.rw_kindlore_k62_whole_chains_and_roles).prog [0, 62]) (H := K62.hk) (ob := K62.ob) (M := 20000) (loose := K62.loose) (d := HandSHeadRun.topDef (OpenLaw.row PySem.Challenge.rw_kindlore_k62_whole_chains_and_roles).prog 62) (kwd := []) K62.ob_eq K62.run
    (by kernel_rfl) (by kernel_rfl) (by kernel_rfl) (by rfl) (by first | assumption | decide +kernel) (by decide +kernel) ⟨rfl, rfl, rfl, rfl, rfl, by decide +kernel⟩ ?hw ?hc
  case hw => w_witness2
  case hc =>
    refine K62.walk_bits (l := PySem.Challenge.rw_kindlore_k62_whole_chains_and_roles) (n := 63) (k := 19) (x := "script") (CX := C8.CX0) rfl (by decide) (by kernel_rfl) ⟨rfl, by decide, by decide⟩ ?F (fun _ _ _ _ z => z)
    intro w mg fa h Y G hmg0
    obtain ⟨K, KX, c, e⟩ := Y
    have hmg : mg ("law" : PySem.Str) = some (.ref fa) := by
      rw [← K62.law_name]
      exact hmg0
    obtain ⟨fd, hb, hF⟩ := K62.facts (w := w) KX G hmg c e
    exact ⟨K, fd, KD.spOf _ w K 1 KD.dspLaw, KX, hb, fun H a ns hl hbits _ hS => K62.sp_law hl hbits hS, hF⟩
#print axioms PySem.Challenge.cw_kindlore_k62_whole_chains_and_roles_holds
