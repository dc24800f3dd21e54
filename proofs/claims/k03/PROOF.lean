import PyProof.Rows.All
import Wide.All
import OpenK.AllK
import Wide.FinOn
import HandS.ForMost
import HandS.Deep
import HandS.IsInst
import HandS.WordsExc
import KE.KeyNested
import KE.KDictKeyed
import HandS.TupMul
import HandS.TupAny
import HandS.Wide
import KE.KTupSum
import KE.GoesZip
import KE.GoesMore
import HandS.Defaults
import HandS.Style
import KE.KDictDisplayH
import KE.DatumOrd
import KE.KStateDown
import Lean
import HandS.Head0
import HandS.Head1
import HandS.Head2
import HandS.HeadEnd
import HandS.HeadHook1
import HandS.HeadHook2
import PySem.Challenge.RW_tantalcups_k03_whole_water_of_thirty_fig
set_option Elab.async false
set_option linter.all false
set_option maxRecDepth 100000
namespace DL
open PySem PySem.Spec L2
open PyProof.Rows hiding St

/-! ### data: what never changes -/
inductive D where
  | non | bl (b : Bool) | int (i : Int) | str (x : Str) | ref (a : Addr) | ty (n : String)
  | tup (ds : List D) | lst (ds : List D) | scr (ns : List Int)
instance : Inhabited D := ⟨.non⟩

/-- a list of the written part, or one that nobody writes any more -/
def SqS (K : PySem.W.Frag) (H : Hp) (a : Addr) (xs : List V) : Prop := (∃ o, H a = some (.frz o (.lst xs))) ∨
    ∃ (o : Obj) (its : Array Value) (n : Nat), K.lookup a = some o ∧ o.cls = .type "list" ∧ o.dict = none ∧ o.data = .seq its n ∧ its.size ≤ sizeLine ∧ Vals xs its.toList
/-- a list that nobody writes any more -/
def SqF (H : Hp) (a : Addr) (xs : List V) : Prop := ∃ o, H a = some (.frz o (.lst xs))

mutual
def Rp (K : PySem.W.Frag) (H : Hp) : D → V → Prop
  | .non, v => v = .non
  | .bl b, v => v = .bl b
  | .int i, v => v = .int i
  | .str x, v => v = .str x
  | .ref a, v => v = .ref a
  | .ty n, v => v = .ty n
  | .tup ds, v => ∃ a xs, v = .ref a ∧ SqT K H a xs ∧ RpL K H ds xs
  | .lst ds, v => ∃ a xs, v = .ref a ∧ SqF H a xs ∧ RpL K H ds xs
  | .scr ns, v => ∃ a, v = .ref a ∧ SqS K H a (ns.map V.int)
def RpL (K : PySem.W.Frag) (H : Hp) : List D → List V → Prop
  | [], vs => vs = []
  | d :: ds, vs => ∃ v r, vs = v :: r ∧ Rp K H d v ∧ RpL K H ds r
end

/-- what data lean on stays -/
structure Imm (H H' : Hp) : Prop where
  tup : ∀ b xs, H b = some (.tup xs) → H' b = some (.tup xs)
  frz : ∀ b o u, H b = some (.frz o u) → H' b = some (.frz o u)
theorem Imm.refl (H : Hp) : Imm H H := ⟨fun _ _ h => h, fun _ _ _ h => h⟩
theorem Imm.trans {H H1 H2 : Hp} (a : Imm H H1) (b : Imm H1 H2) : Imm H H2 := ⟨fun c x h => b.tup c x (a.tup c x h), fun c x u h => b.frz c x u (a.frz c x u h)⟩
theorem Imm.of_same {H H' : Hp} (s : Same H H') : Imm H H' := ⟨fun b _ h => s b _ h, fun b _ _ h => s b _ h⟩
theorem SqT.imm {K : PySem.W.Frag} {H H' : Hp} (m : Imm H H') {a : Addr} {xs : List V} (h : SqT K H a xs) : SqT K H' a xs := by
  rcases h with (h | ⟨o, h⟩) | h
  · exact .inl (.inl (m.tup _ _ h))
  · exact .inl (.inr ⟨o, m.frz _ _ _ h⟩)
  · exact .inr h
theorem SqF.imm {H H' : Hp} (m : Imm H H') {a : Addr} {xs : List V} (h : SqF H a xs) : SqF H' a xs := by
  obtain ⟨o, h⟩ := h
  exact ⟨o, m.frz _ _ _ h⟩
theorem SqS.imm {K : PySem.W.Frag} {H H' : Hp} (m : Imm H H') {a : Addr} {xs : List V} (h : SqS K H a xs) : SqS K H' a xs := by
  rcases h with ⟨o, h⟩ | h
  · exact .inl ⟨o, m.frz _ _ _ h⟩
  · exact .inr h
theorem SqS.seq {K : PySem.W.Frag} {H : Hp} {a : Addr} {xs : List V} (h : SqS K H a xs) : SqL K H a xs := by
  rcases h with ⟨o, h⟩ | h
  · exact .inl (.inr ⟨o, h⟩)
  · exact .inr h
theorem SqF.seq {K : PySem.W.Frag} {H : Hp} {a : Addr} {xs : List V} (h : SqF H a xs) : SqL K H a xs := by
  obtain ⟨o, h⟩ := h
  exact .inl (.inr ⟨o, h⟩)
mutual
theorem Rp.imm {K : PySem.W.Frag} {H H' : Hp} (m : Imm H H') : ∀ {d : D} {v : V}, Rp K H d v → Rp K H' d v
  | .non, _, h => h
  | .bl _, _, h => h
  | .int _, _, h => h
  | .str _, _, h => h
  | .ref _, _, h => h
  | .ty _, _, h => h
  | .tup ds, v, h => by
    simp only [Rp] at h ⊢
    obtain ⟨a, xs, e, s, r⟩ := h
    exact ⟨a, xs, e, SqT.imm m s, RpL.imm m r⟩
  | .lst ds, v, h => by
    simp only [Rp] at h ⊢
    obtain ⟨a, xs, e, s, r⟩ := h
    exact ⟨a, xs, e, SqF.imm m s, RpL.imm m r⟩
  | .scr ns, v, h => by
    simp only [Rp] at h ⊢
    obtain ⟨a, e, s⟩ := h
    exact ⟨a, e, SqS.imm m s⟩
theorem RpL.imm {K : PySem.W.Frag} {H H' : Hp} (m : Imm H H') : ∀ {ds : List D} {vs : List V}, RpL K H ds vs → RpL K H' ds vs
  | [], _, h => h
  | d :: ds, vs, h => by
    simp only [RpL] at h ⊢
    obtain ⟨v, r, e, h1, h2⟩ := h
    exact ⟨v, r, e, Rp.imm m h1, RpL.imm m h2⟩
end
section
variable {K : PySem.W.Frag} {H : Hp}
theorem RpL.length : ∀ {ds : List D} {vs : List V}, RpL K H ds vs → ds.length = vs.length
  | [], _, h => by simp only [RpL] at h; subst h; rfl
  | d :: ds, vs, h => by
    simp only [RpL] at h
    obtain ⟨v, r, e, _, h2⟩ := h
    subst e
    simp [RpL.length h2]
theorem RpL.nil : RpL K H [] [] := by simp [RpL]
theorem RpL.cons {d : D} {ds : List D} {v : V} {vs : List V} (h : Rp K H d v) (t : RpL K H ds vs) : RpL K H (d :: ds) (v :: vs) := by
  simp only [RpL]
  exact ⟨v, vs, rfl, h, t⟩
theorem RpL.append : ∀ {ds es : List D} {vs ws : List V}, RpL K H ds vs → RpL K H es ws → RpL K H (ds ++ es) (vs ++ ws)
  | [], _, _, _, h, k => by simp only [RpL] at h; subst h; exact k
  | d :: ds, _, _, _, h, k => by
    simp only [RpL] at h
    obtain ⟨v, r, e, h1, h2⟩ := h
    subst e
    exact RpL.cons h1 (RpL.append h2 k)
theorem RpL.get : ∀ {ds : List D} {vs : List V} {i : Nat} {v : V}, RpL K H ds vs → vs[i]? = some v → ∃ d, ds[i]? = some d ∧ Rp K H d v
  | [], _, _, _, h, e => by simp only [RpL] at h; subst h; simp at e
  | d :: ds, _, i, v, h, e => by
    simp only [RpL] at h
    obtain ⟨w, r, q, h1, h2⟩ := h
    subst q
    cases i with
    | zero => simp at e; subst e; exact ⟨d, rfl, h1⟩
    | succ i => simp at e; simpa using RpL.get h2 e
theorem RpL.get' : ∀ {ds : List D} {vs : List V} {i : Nat} {d : D}, RpL K H ds vs → ds[i]? = some d → ∃ v, vs[i]? = some v ∧ Rp K H d v
  | [], _, _, _, h, e => by simp at e
  | d :: ds, _, i, v, h, e => by
    simp only [RpL] at h
    obtain ⟨w, r, q, h1, h2⟩ := h
    subst q
    cases i with
    | zero => simp at e; subst e; exact ⟨w, rfl, h1⟩
    | succ i => simp at e; simpa using RpL.get' h2 e
theorem RpL.take : ∀ {ds : List D} {vs : List V} (n : Nat), RpL K H ds vs → RpL K H (ds.take n) (vs.take n)
  | [], _, _, h => by simp only [RpL] at h; subst h; simp [RpL]
  | d :: ds, _, 0, h => by simp [RpL]
  | d :: ds, _, n + 1, h => by
    simp only [RpL] at h
    obtain ⟨w, r, q, h1, h2⟩ := h
    subst q
    exact RpL.cons h1 (RpL.take n h2)
theorem RpL.drop : ∀ {ds : List D} {vs : List V} (n : Nat), RpL K H ds vs → RpL K H (ds.drop n) (vs.drop n)
  | _, _, 0, h => h
  | [], _, _ + 1, h => by simp only [RpL] at h; subst h; simp [RpL]
  | d :: ds, _, n + 1, h => by
    simp only [RpL] at h
    obtain ⟨w, r, q, h1, h2⟩ := h
    subst q
    exact RpL.drop n h2
theorem RpL.set : ∀ {ds : List D} {vs : List V} (n : Nat) {d : D} {v : V}, RpL K H ds vs → Rp K H d v → RpL K H (ds.set n d) (vs.set n v)
  | [], _, _, _, _, h, _ => by simp only [RpL] at h; subst h; simp [RpL]
  | e :: ds, _, n, d, v, h, k => by
    simp only [RpL] at h
    obtain ⟨w, r, q, h1, h2⟩ := h
    subst q
    cases n with
    | zero => exact RpL.cons k h2
    | succ n => exact RpL.cons h1 (RpL.set n h2 k)
theorem RpL.reverse : ∀ {ds : List D} {vs : List V}, RpL K H ds vs → RpL K H ds.reverse vs.reverse
  | [], _, h => by simp only [RpL] at h; subst h; simp [RpL]
  | d :: ds, _, h => by
    simp only [RpL] at h
    obtain ⟨w, r, q, h1, h2⟩ := h
    subst q
    simp only [List.reverse_cons]
    exact RpL.append (RpL.reverse h2) (RpL.cons h1 RpL.nil)
end

/-! ### keys of dicts -/
mutual
def kD : NestedKey → D
  | .none => .non
  | .num i => .int i
  | .text x => .str x
  | .tup ks => .tup (kDs ks)
def kDs : List NestedKey → List D
  | [] => []
  | k :: ks => kD k :: kDs ks
end

/-! ### owned objects -/
inductive OV where
  | lst (ds : List D)
  | dk (kvs : List (Key × D))
  | dn (kvs : List (NestedKey × D))
inductive SV where
  | un | d (x : D) | ow (o : OV)
inductive RV where
  | d (x : D) | ow (o : OV) | al (i : Nat)

/-- a def's frame: the written part, the heap at its entry, the list that it may write (in slot 0) -/
structure Fr where
  P : Program
  w : World
  K : PySem.W.Frag
  H0 : Hp
  b : Option Addr

/-- a dict with keys of tuples -/
def DAt (P : Program) (w : World) (a : Addr) (xs : List (NestedKey × Addr × Value)) : HO :=
  .ext fun h => ∃ o es ep, h.get? a = some o ∧ o.ExactDict ∧ o.data = .dict es ep ∧ es.toList = xs.map (entryOfKey (nestedKind P w))
def OVok (C : Fr) (H : Hp) (a : Addr) : OV → Prop
  | .lst ds => ∃ xs, H a = some (.lst xs) ∧ RpL C.K H ds xs
  | .dk kvs => ∃ xs : List (Key × V), H a = some (.dK xs) ∧ Paired (fun (p : Key × D) (q : Key × V) => p.1 = q.1 ∧ Rp C.K H p.2 q.2) kvs xs
  | .dn kvs => ∃ xs : List (NestedKey × Addr × Value), H a = some (DAt C.P C.w a xs) ∧ (a == sysModules) = false ∧ (xs.map (·.1)).Nodup ∧
      Paired (fun (p : NestedKey × D) (q : NestedKey × Addr × Value) => p.1 = q.1 ∧ Rp C.K H (kD p.1) (.ref q.2.1) ∧ ∃ v, Rp C.K H p.2 v ∧ RelV v q.2.2 ∧ p.1.depth ≤ 8) kvs xs

theorem Paired.imp {α β : Type} {F G : α → β → Prop} : ∀ {l₁ : List α} {l₂ : List β}, Paired F l₁ l₂ → (∀ a b, F a b → G a b) → Paired G l₁ l₂
  | _, _, .nil, _ => .nil
  | _, _, .cons r t, f => .cons (f _ _ r) (Paired.imp t f)
/-- an owned object stands while it is not written, and the data stand -/
theorem OVok.imm {C : Fr} {H H' : Hp} {a : Addr} (m : Imm H H') (e : H' a = H a) : ∀ {o : OV}, OVok C H a o → OVok C H' a o
  | .lst ds, h => by
    obtain ⟨xs, h1, h2⟩ := h
    exact ⟨xs, e.trans h1, h2.imm m⟩
  | .dk kvs, h => by
    obtain ⟨xs, h1, h2⟩ := h
    exact ⟨xs, e.trans h1, Paired.imp h2 fun p q z => ⟨z.1, z.2.imm m⟩⟩
  | .dn kvs, h => by
    obtain ⟨xs, h1, h2, h3, h4⟩ := h
    refine ⟨xs, e.trans h1, h2, h3, Paired.imp h4 fun p q z => ?_⟩
    obtain ⟨z1, z2, v, z3, z4⟩ := z
    exact ⟨z1, z2.imm m, v, z3.imm m, z4⟩
theorem OVok.there {C : Fr} {H : Hp} {a : Addr} : ∀ {o : OV}, OVok C H a o → ∃ u, H a = some u ∧ Mut (some u)
  | .lst ds, h => by obtain ⟨xs, h1, _⟩ := h; exact ⟨_, h1, trivial⟩
  | .dk kvs, h => by obtain ⟨xs, h1, _⟩ := h; exact ⟨_, h1, trivial⟩
  | .dn kvs, h => by obtain ⟨xs, h1, _⟩ := h; exact ⟨_, h1, trivial⟩
theorem OVok.same {C : Fr} {H H' : Hp} {a : Addr} (s : Same H H') {o : OV} (h : OVok C H a o) : OVok C H' a o := by
  obtain ⟨u, hu, _⟩ := h.there
  exact h.imm (Imm.of_same s) ((s a u hu).trans hu.symm)
/-- writing at a changes no data -/
theorem imm_upd {H : Hp} {a : Addr} {u u' : HO} (h : H a = some u) (m : Mut (some u)) : Imm H (upd H a u') := by
  refine ⟨fun b xs e => ?_, fun b o x e => ?_⟩
  · rw [upd_ne (fun z => ?_)]; exact e
    rw [z, h] at e; cases e; exact m
  · rw [upd_ne (fun z => ?_)]; exact e
    rw [z, h] at e; cases e; exact m
theorem same_new {H : Hp} {p : Addr} {o : HO} (h : H p = none) : Same H (upd H p o) := fun b x e => by
  rw [upd_ne (ne_of_none e h)]
  exact e

def SlotOk (C : Fr) (H : Hp) : SV → Option V → Prop
  | .un, _ => True
  | .d x, ov => ∃ v, ov = some v ∧ Rp C.K H x v
  | .ow o, ov => ∃ a, ov = some (.ref a) ∧ OVok C H a o
abbrev Pend := List (RV × V)
def PendOk (C : Fr) (H : Hp) (ρ : List SV) (σ : St) : RV → V → Prop
  | .d x, v => Rp C.K H x v
  | .ow o, v => ∃ a, v = .ref a ∧ OVok C H a o
  | .al i, v => σ[i]? = some (some v) ∧ ∃ sv, ρ[i]? = some sv ∧ sv ≠ .un
def adrS : SV × Option V → Option Addr
  | (.ow _, some (.ref a)) => some a
  | _ => none
def adrP : RV × V → Option Addr
  | (.ow _, .ref a) => some a
  | _ => none
def adrs (ρ : List SV) (σ : St) (p : Pend) : List Addr := p.filterMap adrP ++ (ρ.zip σ).filterMap adrS

structure SR (C : Fr) (ρ : List SV) (σ : St) (p : Pend) (H : Hp) : Prop where
  len : ρ.length = σ.length
  keep : ∀ c o, C.b ≠ some c → C.H0 c = some o → H c = some o
  slot : ∀ (i : Nat) sv ov, ρ[i]? = some sv → σ[i]? = some ov → SlotOk C H sv ov
  pend : ∀ q ∈ p, PendOk C H ρ σ q.1 q.2
  sep : (adrs ρ σ p).Nodup
  new : ∀ a ∈ adrs ρ σ p, C.b = some a ∨ C.H0 a = none
  jar : ∀ j, C.b = some j → σ[0]? = some (some (.ref j))

section
variable {C : Fr} {ρ : List SV} {σ : St} {p : Pend} {H H' : Hp}
theorem SlotOk.imm (m : Imm H H') : ∀ {sv : SV} {ov : Option V}, SlotOk C H sv ov → (∀ a, adrS (sv, ov) = some a → H' a = H a) → SlotOk C H' sv ov
  | .un, _, _, _ => trivial
  | .d x, _, h, _ => by obtain ⟨v, e, h⟩ := h; exact ⟨v, e, h.imm m⟩
  | .ow o, _, h, k => by obtain ⟨a, e, h⟩ := h; subst e; exact ⟨a, rfl, h.imm m (k a rfl)⟩
theorem PendOk.imm (m : Imm H H') : ∀ {rv : RV} {v : V}, PendOk C H ρ σ rv v → (∀ a, adrP (rv, v) = some a → H' a = H a) → PendOk C H' ρ σ rv v
  | .d x, _, h, _ => Rp.imm m h
  | .ow o, _, h, k => by obtain ⟨a, e, h⟩ := h; subst e; exact ⟨a, rfl, h.imm m (k a rfl)⟩
  | .al i, _, h, _ => h
theorem mem_slot (h1 : ρ.length = σ.length) {i : Nat} {sv : SV} {ov : Option V} (e : ρ[i]? = some sv) (e2 : σ[i]? = some ov) : (sv, ov) ∈ ρ.zip σ := by
  have : (ρ.zip σ)[i]? = some (sv, ov) := by rw [List.getElem?_zip_eq_some]; exact ⟨e, e2⟩
  exact List.mem_of_getElem? this
theorem adr_slot (h1 : ρ.length = σ.length) {i : Nat} {sv : SV} {ov : Option V} (e : ρ[i]? = some sv) (e2 : σ[i]? = some ov) {a : Addr} (h : adrS (sv, ov) = some a) : a ∈ adrs ρ σ p :=
  List.mem_append_right _ (List.mem_filterMap.mpr ⟨_, mem_slot h1 e e2, h⟩)
theorem adr_pend {q : RV × V} (h : q ∈ p) {a : Addr} (e : adrP q = some a) : a ∈ adrs ρ σ p := List.mem_append_left _ (List.mem_filterMap.mpr ⟨q, h, e⟩)
/-- what owned addresses hold stands -/
theorem SR.move (S : SR C ρ σ p H) (m : Imm H H') (k : ∀ a ∈ adrs ρ σ p, H' a = H a) (kp : ∀ c o, C.b ≠ some c → C.H0 c = some o → H' c = some o) : SR C ρ σ p H' :=
  ⟨S.len, kp, fun i sv ov e e2 => (S.slot i sv ov e e2).imm m fun a h => k a (adr_slot S.len e e2 h), fun q hq => (S.pend q hq).imm m fun a h => k a (adr_pend hq h), S.sep, S.new, S.jar⟩
theorem adr_there (S : SR C ρ σ p H) : ∀ a ∈ adrs ρ σ p, ∃ u, H a = some u ∧ Mut (some u) := fun a ha => by
  rcases List.mem_append.mp ha with h | h
  · obtain ⟨⟨rv, v⟩, hq, e⟩ := List.mem_filterMap.mp h
    have := S.pend _ hq
    cases rv with
    | d x => cases e
    | al i => cases e
    | ow o =>
      obtain ⟨b, eb, ok⟩ := this
      dsimp only at eb ok
      subst eb
      cases e
      exact ok.there
  · obtain ⟨⟨sv, ov⟩, hq, e⟩ := List.mem_filterMap.mp h
    obtain ⟨i, hi⟩ := List.getElem?_of_mem hq
    rw [List.getElem?_zip_eq_some] at hi
    have := S.slot i sv ov hi.1 hi.2
    cases sv with
    | un => cases e
    | d x => cases e
    | ow o =>
      obtain ⟨b, eb, ok⟩ := this
      subst eb
      cases e
      exact ok.there
/-- the heap grows -/
theorem SR.same (S : SR C ρ σ p H) (s : Same H H') : SR C ρ σ p H' :=
  S.move (Imm.of_same s) (fun a ha => by obtain ⟨u, hu, _⟩ := adr_there S a ha; rw [hu]; exact s a u hu) fun c o n e => s c o (S.keep c o n e)
theorem SR.pop {q : RV × V} (S : SR C ρ σ (q :: p) H) : SR C ρ σ p H := by
  have sub : (adrs ρ σ p).Sublist (adrs ρ σ (q :: p)) := by
    unfold adrs
    refine List.Sublist.append ?_ (List.Sublist.refl _)
    rw [List.filterMap_cons]
    split
    · exact List.Sublist.refl _
    · exact List.sublist_cons_self _ _
  exact ⟨S.len, S.keep, S.slot, fun r hr => S.pend r (List.mem_cons_of_mem _ hr), S.sep.sublist sub, fun a ha => S.new a (sub.subset ha), S.jar⟩
theorem SR.push {q : RV × V} (S : SR C ρ σ p H) (h : PendOk C H ρ σ q.1 q.2) (n : ∀ a, adrP q = some a → a ∉ adrs ρ σ p ∧ (C.b = some a ∨ C.H0 a = none)) : SR C ρ σ (q :: p) H := by
  have e : adrs ρ σ (q :: p) = (match adrP q with | none => [] | some a => [a]) ++ adrs ρ σ p := by
    unfold adrs
    rw [List.filterMap_cons]
    cases adrP q <;> rfl
  refine ⟨S.len, S.keep, S.slot, fun r hr => ?_, ?_, fun a ha => ?_, S.jar⟩
  · rcases List.mem_cons.mp hr with z | z
    · rw [z]; exact h
    · exact S.pend r z
  · rw [e]
    cases hq : adrP q with
    | none => exact S.sep
    | some a => exact List.nodup_cons.mpr ⟨(n a hq).1, S.sep⟩
  · rw [e] at ha
    cases hq : adrP q with
    | none => rw [hq] at ha; exact S.new a ha
    | some b =>
      rw [hq] at ha
      rcases List.mem_cons.mp ha with z | z
      · rw [z]; exact (n b hq).2
      · exact S.new a z
theorem SR.pushD {x : D} {v : V} (S : SR C ρ σ p H) (h : Rp C.K H x v) : SR C ρ σ ((.d x, v) :: p) H := S.push h fun a e => by cases e
/-- a new object of our own -/
theorem SR.pushO {o : OV} {a : Addr} (S : SR C ρ σ p H) (n : H a = none) (s : Same H H') (h : OVok C H' a o) : SR C ρ σ ((.ow o, .ref a) :: p) H' := by
  refine (S.same s).push ⟨a, rfl, h⟩ fun b e => ?_
  have eb : a = b := Option.some.inj e
  subst eb
  refine ⟨fun z => ?_, ?_⟩
  · obtain ⟨u, hu, _⟩ := adr_there S _ z
    rw [n] at hu; cases hu
  · by_cases q : C.b = some a
    · exact .inl q
    · refine .inr ?_
      cases h0 : C.H0 a with
      | none => rfl
      | some u => rw [S.keep a u q h0] at n; cases n
end
end DL

set_option Elab.async false
set_option linter.all false
set_option maxRecDepth 100000
namespace DL
open PySem PySem.Spec L2
open PyProof.Rows hiding St

section
variable {C : Fr} {ρ : List SV} {σ : St} {p : Pend} {H H' : Hp}
theorem adrS_some {q : SV × Option V} {a : Addr} (h : adrS q = some a) : ∃ o, q = (.ow o, some (.ref a)) := by
  obtain ⟨sv, ov⟩ := q
  cases sv with
  | un => cases h
  | d x => cases h
  | ow o =>
    cases ov with
    | none => cases h
    | some v => cases v <;> cases h; exact ⟨o, rfl⟩
theorem adrP_some {q : RV × V} {a : Addr} (h : adrP q = some a) : ∃ o, q = (.ow o, .ref a) := by
  obtain ⟨sv, v⟩ := q
  cases sv with
  | d x => cases h
  | al i => cases h
  | ow o => cases v <;> cases h; exact ⟨o, rfl⟩
theorem zip_at {ρ : List SV} {σ : St} {i : Nat} {q : SV × Option V} (h : (ρ.zip σ)[i]? = some q) : ρ[i]? = some q.1 ∧ σ[i]? = some q.2 := by
  rwa [List.getElem?_zip_eq_some] at h
/-- two places with one owned address are one place -/
theorem adr_inj : ∀ {l : List (SV × Option V)} {i j : Nat} {q r : SV × Option V} {a : Addr}, (l.filterMap adrS).Nodup → l[i]? = some q → l[j]? = some r → adrS q = some a → adrS r = some a → i = j
  | [], _, _, _, _, _, _, h, _, _, _ => by simp at h
  | x :: l, 0, 0, _, _, _, _, _, _, _, _ => rfl
  | x :: l, 0, j + 1, q, r, a, nd, h1, h2, e1, e2 => by
    simp at h1 h2; subst h1
    rw [List.filterMap_cons, e1] at nd
    exact absurd (List.mem_filterMap.mpr ⟨r, List.mem_of_getElem? h2, e2⟩) (List.nodup_cons.mp nd).1
  | x :: l, i + 1, 0, q, r, a, nd, h1, h2, e1, e2 => by
    simp at h1 h2; subst h2
    rw [List.filterMap_cons, e2] at nd
    exact absurd (List.mem_filterMap.mpr ⟨q, List.mem_of_getElem? h1, e1⟩) (List.nodup_cons.mp nd).1
  | x :: l, i + 1, j + 1, q, r, a, nd, h1, h2, e1, e2 => by
    simp at h1 h2
    have nd' : (l.filterMap adrS).Nodup := by
      rw [List.filterMap_cons] at nd
      split at nd
      · exact nd
      · exact (List.nodup_cons.mp nd).2
    rw [adr_inj nd' h1 h2 e1 e2]
/-- a place is set: the owned addresses are among the new one's and the old ones -/
theorem adrs_set : ∀ {l : List (SV × Option V)} {i : Nat} {q : SV × Option V} (pre : List Addr), (pre ++ (l.filterMap adrS)).Nodup → (∀ a, adrS q = some a → a ∉ pre ∧ ∀ j r, j ≠ i → l[j]? = some r → adrS r ≠ some a) → (pre ++ ((l.set i q).filterMap adrS)).Nodup
  | [], _, _, _, h, _ => h
  | x :: l, 0, q, pre, h, k => by
    rw [List.set_cons_zero, List.filterMap_cons]
    have h' : (pre ++ l.filterMap adrS).Nodup := by
      rw [List.filterMap_cons] at h
      split at h
      · exact h
      · exact h.sublist (List.Sublist.append (List.Sublist.refl _) (List.sublist_cons_self _ _))
    cases e : adrS q with
    | none => exact h'
    | some a =>
      obtain ⟨k1, k2⟩ := k a e
      rw [List.nodup_append] at h' ⊢
      obtain ⟨n1, n2, n3⟩ := h'
      refine ⟨n1, List.nodup_cons.mpr ⟨fun z => ?_, n2⟩, fun b hb c hc => ?_⟩
      · obtain ⟨r, hr, er⟩ := List.mem_filterMap.mp z
        obtain ⟨j, hj⟩ := List.getElem?_of_mem hr
        exact k2 (j + 1) r (by omega) (by simpa using hj) er
      · rcases List.mem_cons.mp hc with z | z
        · rw [z]; exact fun z2 => k1 (z2 ▸ hb)
        · exact n3 b hb c z
  | x :: l, i + 1, q, pre, h, k => by
    rw [List.set_cons_succ, List.filterMap_cons]
    rw [List.filterMap_cons] at h
    cases e : adrS x with
    | none =>
      rw [e] at h
      exact adrs_set pre h fun a ea => ⟨(k a ea).1, fun j r hj hr => (k a ea).2 (j + 1) r (by omega) (by simpa using hr)⟩
    | some b =>
      rw [e] at h
      have h2 : ((pre ++ [b]) ++ l.filterMap adrS).Nodup := by simpa using h
      have := adrs_set (i := i) (q := q) (pre ++ [b]) h2 fun a ea => ⟨fun z => ?_, fun j r hj hr => (k a ea).2 (j + 1) r (by omega) (by simpa using hr)⟩
      · simpa using this
      · rcases List.mem_append.mp z with z | z
        · exact (k a ea).1 z
        · have : a = b := by simpa using z
          subst this
          exact (k a ea).2 0 x (by omega) rfl e
theorem adrs_set_sub {l : List (SV × Option V)} {i : Nat} {q : SV × Option V} {a : Addr} (h : a ∈ (l.set i q).filterMap adrS) : adrS q = some a ∨ a ∈ l.filterMap adrS := by
  obtain ⟨r, hr, er⟩ := List.mem_filterMap.mp h
  rcases List.mem_or_eq_of_mem_set hr with z | z
  · exact .inr (List.mem_filterMap.mpr ⟨r, z, er⟩)
  · rw [z] at er; exact .inl er
theorem zip_set {ρ : List SV} {σ : St} {i : Nat} {sv : SV} {ov : Option V} : (ρ.set i sv).zip (σ.set i ov) = (ρ.zip σ).set i (sv, ov) := by
  induction ρ generalizing σ i with
  | nil => simp
  | cons x ρ ih =>
    cases σ with
    | nil => simp
    | cons y σ =>
      cases i with
      | zero => simp
      | succ i => simp [ih]
theorem set_self {σ : St} {i : Nat} {ov : Option V} (h : σ[i]? = some ov) : σ.set i ov = σ := by
  apply List.ext_getElem?
  intro j
  rw [List.getElem?_set]
  split
  · rename_i e
    subst e
    obtain ⟨hl, _⟩ := List.getElem?_eq_some_iff.mp h
    rw [if_pos hl, h]
  · rfl
/-- the content of a place is changed: what is owned there stays at its address, or is let go -/
theorem SR.put {i : Nat} {sv sv' : SV} {ov : Option V} (S : SR C ρ σ p H) (e : ρ[i]? = some sv) (e2 : σ[i]? = some ov) (ha : ∀ a, adrS (sv', ov) = some a → adrS (sv, ov) = some a)
    (m : Imm H H') (k : ∀ a ∈ adrs ρ σ p, adrS (sv, ov) ≠ some a → H' a = H a) (kp : ∀ c o, C.b ≠ some c → C.H0 c = some o → H' c = some o) (h : SlotOk C H' sv' ov) (hu : sv' ≠ .un ∨ ∀ q ∈ p, q.1 ≠ .al i) : SR C (ρ.set i sv') σ p H' := by
  have zs : (ρ.set i sv').zip σ = (ρ.zip σ).set i (sv', ov) := by
    have := zip_set (ρ := ρ) (σ := σ) (i := i) (sv := sv') (ov := ov)
    rwa [set_self e2] at this
  have at_i : (ρ.zip σ)[i]? = some (sv, ov) := by rw [List.getElem?_zip_eq_some]; exact ⟨e, e2⟩
  have ndz : ((ρ.zip σ).filterMap adrS).Nodup := S.sep.sublist (List.sublist_append_right _ _)
  refine ⟨by rw [List.length_set]; exact S.len, kp, fun j s o h1 h2 => ?_, fun q hq => ?_, ?_, fun a ha' => ?_, S.jar⟩
  · rw [List.getElem?_set] at h1
    split at h1
    · rename_i hij
      subst hij
      split at h1
      · cases h1
        rw [e2] at h2; cases h2
        exact h
      · cases h1
    · rename_i hij
      refine (S.slot j s o h1 h2).imm m fun a hj => ?_
      refine k a (adr_slot S.len h1 h2 hj) fun hi => hij ?_
      exact adr_inj ndz at_i (by rw [List.getElem?_zip_eq_some]; exact ⟨h1, h2⟩) hi hj
  · have z := S.pend q hq
    obtain ⟨rv, v⟩ := q
    cases rv with
    | d x => exact Rp.imm m z
    | al j =>
      obtain ⟨z1, s, z2, z3⟩ := z
      refine ⟨z1, ?_⟩
      by_cases hij : i = j
      · subst hij
        obtain ⟨hl, _⟩ := List.getElem?_eq_some_iff.mp z2
        rcases hu with hu | hu
        · exact ⟨sv', List.getElem?_set_self hl, hu⟩
        · exact absurd rfl (hu _ hq)
      · exact ⟨s, (List.getElem?_set_ne hij).trans z2, z3⟩
    | ow o =>
      refine PendOk.imm (ρ := ρ.set i sv') (rv := .ow o) m z fun a hj => ?_
      refine k a (adr_pend hq hj) fun hi => ?_
      have d := (List.nodup_append.mp S.sep).2.2 a (List.mem_filterMap.mpr ⟨_, hq, hj⟩) a (List.mem_filterMap.mpr ⟨_, List.mem_of_getElem? at_i, hi⟩)
      exact d rfl
  · unfold adrs
    rw [zs]
    refine adrs_set _ S.sep fun a ea => ⟨fun hp => ?_, fun j r hj hr er => ?_⟩
    · exact (List.nodup_append.mp S.sep).2.2 a hp a (List.mem_filterMap.mpr ⟨_, List.mem_of_getElem? at_i, ha a ea⟩) rfl
    · exact hj (adr_inj ndz hr at_i er (ha a ea))
  · refine S.new a ?_
    unfold adrs at ha' ⊢
    rw [zs] at ha'
    rcases List.mem_append.mp ha' with z | z
    · exact List.mem_append_left _ z
    · rcases adrs_set_sub z with q | q
      · exact List.mem_append_right _ (List.mem_filterMap.mpr ⟨_, List.mem_of_getElem? at_i, ha a q⟩)
      · exact List.mem_append_right _ q
/-- an owned object is written -/
theorem SR.write {i : Nat} {o o' : OV} {a : Addr} {u : HO} (S : SR C ρ σ p H) (e : ρ[i]? = some (.ow o)) (e2 : σ[i]? = some (some (.ref a))) (h : OVok C (upd H a u) a o') : SR C (ρ.set i (.ow o')) σ p (upd H a u) := by
  have ok : OVok C H a o := by
    obtain ⟨b, eb, ok⟩ := S.slot i _ _ e e2
    cases eb
    exact ok
  obtain ⟨v, hv, mv⟩ := ok.there
  have ha : a ∈ adrs ρ σ p := adr_slot S.len e e2 rfl
  refine S.put e e2 (fun b z => z) (imm_upd hv mv) (fun b hb z => upd_ne fun q => z (by rw [q]; rfl)) (fun c w n hc => ?_) ⟨a, rfl, h⟩ (.inl fun z => by cases z)
  rw [upd_ne fun z => ?_]
  · exact S.keep c w n hc
  · subst z
    rcases S.new _ ha with q | q
    · exact n q
    · rw [q] at hc; cases hc
/-- an owned list of a place is written no more -/
theorem SR.freeze {i : Nat} {ds : List D} {v : V} (S : SR C ρ σ p H) (e : ρ[i]? = some (.ow (.lst ds))) (e2 : σ[i]? = some (some v)) :
    ∃ a xs, v = .ref a ∧ H a = some (.lst xs) ∧ ∀ od, SR C (ρ.set i (.d (.lst ds))) σ p (upd H a (.frz od (.lst xs))) ∧ Rp C.K (upd H a (.frz od (.lst xs))) (.lst ds) v := by
  obtain ⟨a, ea, xs, hx, hr⟩ := S.slot i _ _ e e2
  cases ea
  have ha : a ∈ adrs ρ σ p := adr_slot S.len e e2 rfl
  refine ⟨a, xs, rfl, hx, fun od => ?_⟩
  have m : Imm H (upd H a (.frz od (.lst xs))) := imm_upd hx trivial
  have rp : Rp C.K (upd H a (.frz od (.lst xs))) (.lst ds) (.ref a) := by
    simp only [Rp]
    exact ⟨a, xs, rfl, ⟨od, upd_same⟩, hr.imm m⟩
  refine ⟨S.put e e2 (fun b z => by cases z) m (fun b hb z => upd_ne fun q => z (by rw [q]; rfl)) (fun c w n hc => ?_) ⟨_, rfl, rp⟩ (.inl fun z => by cases z), rp⟩
  rw [upd_ne fun z => ?_]
  · exact S.keep c w n hc
  · subst z
    rcases S.new _ ha with q | q
    · exact n q
    · rw [q] at hc; cases hc
theorem SR.freezeTop {ds : List D} {v : V} (S : SR C ρ σ ((.ow (.lst ds), v) :: p) H) :
    ∃ a xs, v = .ref a ∧ H a = some (.lst xs) ∧ ∀ od, SR C ρ σ ((.d (.lst ds), v) :: p) (upd H a (.frz od (.lst xs))) := by
  obtain ⟨a, ea, xs, hx, hr⟩ := S.pend _ List.mem_cons_self
  dsimp only at ea
  subst ea
  refine ⟨a, xs, rfl, hx, fun od => ?_⟩
  have m : Imm H (upd H a (.frz od (.lst xs))) := imm_upd hx trivial
  have rp : Rp C.K (upd H a (.frz od (.lst xs))) (.lst ds) (.ref a) := by
    simp only [Rp]
    exact ⟨a, xs, rfl, ⟨od, upd_same⟩, hr.imm m⟩
  have hn : a ∉ adrs ρ σ p := (List.nodup_cons.mp S.sep).1
  refine (S.pop.move m (fun b hb => upd_ne fun q => hn (q ▸ hb)) fun c w n hc => ?_).pushD rp
  rw [upd_ne fun z => ?_]
  · exact S.keep c w n hc
  · subst z
    rcases S.new _ (List.mem_cons_self (a := c) (l := adrs ρ σ p)) with q | q
    · exact n q
    · rw [q] at hc; cases hc
/-- a place is set to what is pending -/
theorem SR.assign {i : Nat} {rv : RV} {v : V} {sv : SV} (S : SR C ρ σ ((rv, v) :: p) H) (hs : (∃ x, rv = .d x ∧ sv = .d x) ∨ (∃ o, rv = .ow o ∧ sv = .ow o)) (hp : ∀ q ∈ p, q.1 ≠ .al i) (hb : C.b = none ∨ i ≠ 0) :
    SR C (ρ.set i sv) (σ.set i (some v)) p H := by
  have P := S.pop
  refine ⟨by rw [List.length_set, List.length_set]; exact S.len, S.keep, fun j s o h1 h2 => ?_, fun q hq => ?_, ?_, fun a ha => ?_, fun j hj => ?_⟩
  · rw [List.getElem?_set] at h1 h2
    split at h1
    · rename_i hij
      subst hij
      split at h1
      · cases h1
        rw [if_pos rfl, if_pos (by have := S.len; omega)] at h2
        cases h2
        have := S.pend _ List.mem_cons_self
        rcases hs with ⟨x, e1, e2⟩ | ⟨o', e1, e2⟩
        · subst e1 e2; exact ⟨v, rfl, this⟩
        · subst e1 e2
          obtain ⟨a, ea, ok⟩ := this
          exact ⟨a, congrArg some ea, ok⟩
      · cases h1
    · rename_i hij
      rw [if_neg hij] at h2
      exact S.slot j s o h1 h2
  · have z := P.pend q hq
    have hne := hp q hq
    obtain ⟨rw_, w⟩ := q
    cases rw_ with
    | d x => exact z
    | ow o => exact z
    | al j =>
      have nij : i ≠ j := fun q => hne (by rw [q])
      obtain ⟨z1, s, z2, z3⟩ := z
      exact ⟨(List.getElem?_set_ne nij).trans z1, s, (List.getElem?_set_ne nij).trans z2, z3⟩
  · unfold adrs
    rw [zip_set]
    refine adrs_set _ P.sep fun a ea => ?_
    obtain ⟨o, eo⟩ := adrS_some ea
    rcases hs with ⟨x, e1, e2⟩ | ⟨o', e1, e2⟩
    · rw [e2] at eo; cases eo
    · subst e1 e2
      cases eo
      have hn : a ∉ adrs ρ σ p := (List.nodup_cons.mp S.sep).1
      exact ⟨fun z => hn (List.mem_append_left _ z), fun j r _ hr er => hn (List.mem_append_right _ (List.mem_filterMap.mpr ⟨r, List.mem_of_getElem? hr, er⟩))⟩
  · unfold adrs at ha
    rw [zip_set] at ha
    rcases List.mem_append.mp ha with z | z
    · exact P.new a (List.mem_append_left _ z)
    · rcases adrs_set_sub z with q | q
      · obtain ⟨o, eo⟩ := adrS_some q
        rcases hs with ⟨x, e1, e2⟩ | ⟨o', e1, e2⟩
        · rw [e2] at eo; cases eo
        · subst e1 e2
          cases eo
          exact S.new a (List.mem_cons_self (a := a) (l := adrs ρ σ p))
      · exact P.new a (List.mem_append_right _ q)
  · rcases hb with q | q
    · rw [q] at hj; cases hj
    · rw [List.getElem?_set_ne q]
      exact S.jar j hj
/-- a place is forgotten -/
theorem SR.forget {i : Nat} {sv : SV} (S : SR C ρ σ p H) (e : ρ[i]? = some sv) (hu : ∀ q ∈ p, q.1 ≠ .al i) : SR C (ρ.set i .un) σ p H := by
  obtain ⟨hl, _⟩ := List.getElem?_eq_some_iff.mp e
  have e2 : σ[i]? = some σ[i]! := by
    have : i < σ.length := by rw [← S.len]; exact hl
    simp [this]
  exact S.put e e2 (fun b z => by cases z) (Imm.refl H) (fun _ _ _ => rfl) S.keep trivial (.inr hu)
end
end DL

set_option Elab.async false
set_option linter.all false
set_option maxRecDepth 100000
namespace DL
open PySem PySem.Spec L2
open PyProof.Rows hiding St

/-! ### readings over data -/
abbrev DT := List SV → (RV → List SV → Prop) → Prop
abbrev DTT := List SV → (Bool → List SV → Prop) → Prop
abbrev DTA := List SV → (List RV → List SV → Prop) → Prop
abbrev DG := RV → List SV → (List SV → Prop) → Prop
abbrev DGs := List D → List SV → (List SV → Prop) → Prop
structure DEnds where
  nx : List SV → Prop
  rt : RV → List SV → Prop
  bk : List SV → Prop := fun _ => False
  ct : List SV → Prop := fun _ => False
abbrev DTS := DEnds → List SV → Prop
def pushAll : List RV → List V → Pend → Pend
  | r :: rs, v :: vs, p => pushAll rs vs ((r, v) :: p)
  | _, _, p => p
/-- only data pending -/
def PD (p : Pend) : Prop := ∀ q ∈ p, ∃ x, q.1 = .d x
theorem PD.nal {p : Pend} (h : PD p) (i : Nat) : ∀ q ∈ p, q.1 ≠ .al i := fun q hq e => by
  obtain ⟨x, e2⟩ := h q hq
  rw [e2] at e; cases e
theorem PD.cons {p : Pend} (h : PD p) (x : D) (v : V) : PD ((.d x, v) :: p) := fun q hq => by
  rcases List.mem_cons.mp hq with e | e
  · rw [e]; exact ⟨x, rfl⟩
  · exact h q e

def lE (C : Fr) (t : DT) : TE := fun σ H Q => ∃ (ρ : List SV) (p : Pend) (R : RV → List SV → Prop), SR C ρ σ p H ∧ t ρ R ∧ ∀ rv ρ' v H', R rv ρ' → SR C ρ' σ ((rv, v) :: p) H' → Q v H'
def lT (C : Fr) (t : DTT) : TT := fun σ H Q => ∃ (ρ : List SV) (p : Pend) (R : Bool → List SV → Prop), SR C ρ σ p H ∧ t ρ R ∧ ∀ b ρ' H', R b ρ' → SR C ρ' σ p H' → Q b H'
def lA (C : Fr) (t : DTA) : TA := fun σ H Q => ∃ (ρ : List SV) (p : Pend) (R : List RV → List SV → Prop), SR C ρ σ p H ∧ t ρ R ∧ ∀ rvs ρ' vs H', R rvs ρ' → rvs.length = vs.length → SR C ρ' σ (pushAll rvs vs p) H' → Q vs H'
/-- all but the places ws are as they were -/
def SOut (ws : List Nat) (σ σ' : St) : Prop := σ'.length = σ.length ∧ ∀ i, i ∉ ws → σ'[i]? = σ[i]?
theorem SOut.refl (ws : List Nat) (σ : St) : SOut ws σ σ := ⟨rfl, fun _ _ => rfl⟩
theorem SOut.set {i : Nat} (σ : St) (v : Option V) : SOut [i] σ (σ.set i v) := ⟨List.length_set, fun j hj => List.getElem?_set_ne fun e => hj (by simp [e])⟩
theorem SOut.app {ws1 ws2 : List Nat} {σ σ1 σ2 : St} (a : SOut ws1 σ σ1) (b : SOut ws2 σ1 σ2) : SOut (ws1 ++ ws2) σ σ2 := ⟨b.1.trans a.1, fun i hi => (b.2 i fun z => hi (List.mem_append_right _ z)).trans (a.2 i fun z => hi (List.mem_append_left _ z))⟩
def lG (C : Fr) (ws : List Nat) (g : DG) : TG := fun v σ H Q => ∃ (ρ : List SV) (p : Pend) (rv : RV) (R : List SV → Prop), (∀ i ∈ ws, ∀ q ∈ p, q.1 ≠ .al i) ∧ ((∃ x, rv = .d x) ∨ PD p) ∧ SR C ρ σ ((rv, v) :: p) H ∧ g rv ρ R ∧ ∀ ρ' σ' H', R ρ' → SR C ρ' σ' p H' → SOut ws σ σ' → Q σ' H'
def lGs (C : Fr) (ws : List Nat) (g : DGs) : TGs := fun vs σ H Q => ∃ (ρ : List SV) (p : Pend) (ds : List D) (R : List SV → Prop), (∀ i ∈ ws, ∀ q ∈ p, q.1 ≠ .al i) ∧ ds.length = vs.length ∧ SR C ρ σ ((ds.map RV.d).zip vs ++ p) H ∧ g ds ρ R ∧ ∀ ρ' σ' H', R ρ' → SR C ρ' σ' p H' → SOut ws σ σ' → Q σ' H'
def lS (C : Fr) (t : DTS) : TS := fun D σ H => ∃ (ρ : List SV) (p : Pend) (R : DEnds), PD p ∧ SR C ρ σ p H ∧ t R ρ ∧ (∀ ρ' σ' H', R.nx ρ' → SR C ρ' σ' p H' → D.nx σ' H') ∧ (∀ rv ρ' σ' v H', R.rt rv ρ' → SR C ρ' σ' ((rv, v) :: p) H' → D.rt v H') ∧
  (∀ ρ' σ' H', R.bk ρ' → SR C ρ' σ' p H' → D.bk σ' H') ∧ ∀ ρ' σ' H', R.ct ρ' → SR C ρ' σ' p H' → D.ct σ' H'

section
variable {X : Cx} {C : Fr} {e a b : Expr} {es : List Expr} {pos : Pos}
theorem _root_.L2.PE.weak {t t' : TE} (h : PE X e t) (k : ∀ σ H Q, t' σ H Q → t σ H Q) : PE X e t' := ⟨fun pins s σ H Q I q => h.run pins s σ H Q I (k σ H Q q)⟩
theorem _root_.L2.PT.weak {t t' : TT} (h : PT X e t) (k : ∀ σ H Q, t' σ H Q → t σ H Q) : PT X e t' := ⟨fun pins s σ H Q I q => h.run pins s σ H Q I (k σ H Q q)⟩
theorem _root_.L2.PW.weak {t t' : TT} (h : PW X e t) (k : ∀ σ H Q, t' σ H Q → t σ H Q) : PW X e t' := ⟨fun wh pins s σ H Q I q => h.run wh pins s σ H Q I (k σ H Q q)⟩
theorem _root_.L2.PA.weak {t t' : TA} (h : PA X es t) (k : ∀ σ H Q, t' σ H Q → t σ H Q) : PA X es t' := ⟨fun pos pins s σ H Q I q => h.run pos pins s σ H Q I (k σ H Q q)⟩
theorem _root_.L2.PS.weak {st : Stmt} {t t' : TS} (h : PS X st t) (k : ∀ D σ H, t' D σ H → t D σ H) : PS X st t' := ⟨fun pins s σ H D I q => h.run pins s σ H D I (k D σ H q)⟩
theorem _root_.L2.PSs.weak {st : List Stmt} {t t' : TS} (h : PSs X st t) (k : ∀ D σ H, t' D σ H → t D σ H) : PSs X st t' := ⟨fun pins s σ H D I q => h.run pins s σ H D I (k D σ H q)⟩
theorem _root_.L2.PG.weak {t t' : TG} (h : PG X e t) (k : ∀ v σ H Q, t' v σ H Q → t v σ H Q) : PG X e t' := ⟨fun pins s σ H v u Q I r q => h.run pins s σ H v u Q I r (k v σ H Q q)⟩
theorem _root_.L2.PGs.weak {t t' : TGs} (h : PGs X es t) (k : ∀ v σ H Q, t' v σ H Q → t v σ H Q) : PGs X es t' := ⟨fun pins s σ H v u Q I r q => h.run pins s σ H v u Q I r (k v σ H Q q)⟩

/-- the lengths that the heap tells -/
def LenOk (K : PySem.W.Frag) (H : Hp) : Prop := (∀ a xs, SqL K H a xs → xs.length ≤ sizeLine) ∧ ∀ a xs, SqT K H a xs → xs.length ≤ sizeLine
theorem lenOk_of {pins : List (Addr × Obj)} {s : Shared} {σ : St} {H : Hp} (I : Inv X pins σ H s) : LenOk X.K H := ⟨fun a xs h => by obtain ⟨_, _, _, z⟩ := I.list h; exact z, fun a xs h => by obtain ⟨_, _, _, z⟩ := I.tuple h; exact z⟩
theorem _root_.L2.PE.lens {t : TE} (h : PE X e t) : PE X e (fun σ H Q => t σ H fun v H1 => LenOk X.K H1 → Q v H1) :=
  ⟨fun pins s σ H Q I q => thn (h.run pins s σ H _ I q) fun u s1 ⟨v, H1, I1, r, q1⟩ => ⟨v, H1, I1, r, q1 (lenOk_of I1)⟩⟩

/-! ### names, constants -/
def dVar (i : Nat) : DT := fun ρ Q => match ρ[i]? with
  | some (.d x) => Q (.d x) ρ
  | some (.ow _) => Q (.al i) ρ
  | _ => False
def dC (x : D) : DT := fun ρ Q => Q (.d x) ρ
theorem de_weak {t0 : TE} {t : DT} (h : PE X e t0) (k : ∀ σ H Q, lE C t σ H Q → t0 σ H Q) : PE X e (lE C t) := PE.weak h k
theorem slot_at {ρ : List SV} {σ : St} {p : Pend} {H : Hp} (S : SR C ρ σ p H) {i : Nat} {sv : SV} (e : ρ[i]? = some sv) (n : sv ≠ .un) : ∃ v, σ[i]? = some (some v) := by
  obtain ⟨hl, _⟩ := List.getElem?_eq_some_iff.mp e
  have hl2 : i < σ.length := by rw [← S.len]; exact hl
  have e2 : σ[i]? = some σ[i] := List.getElem?_eq_getElem hl2
  have := S.slot i sv _ e e2
  cases sv with
  | un => exact absurd rfl n
  | d x => obtain ⟨v, ev, _⟩ := this; exact ⟨v, by rw [e2, ev]⟩
  | ow o => obtain ⟨v, ev, _⟩ := this; exact ⟨_, by rw [e2, ev]⟩
theorem de_var {i : Nat} {x : Str} (h : PE X (.Name x pos) (tVar i)) : PE X (.Name x pos) (lE C (dVar i)) := by
  refine h.weak fun σ H Q ⟨ρ, p, R, S, q, k⟩ => ?_
  unfold dVar at q
  cases e : ρ[i]? with
  | none => rw [e] at q; exact q.elim
  | some sv =>
    rw [e] at q
    cases sv with
    | un => exact q.elim
    | d x =>
      obtain ⟨v, ev⟩ := slot_at S e (fun z => by cases z)
      obtain ⟨v', ev', r⟩ := S.slot i _ _ e ev
      cases ev'
      exact ⟨v, ev, k _ _ _ _ q (S.pushD r)⟩
    | ow o =>
      obtain ⟨v, ev⟩ := slot_at S e (fun z => by cases z)
      exact ⟨v, ev, k _ _ _ _ q (S.push ⟨ev, _, e, fun z => by cases z⟩ fun a ea => by cases ea)⟩
theorem de_c {v : V} {x : D} (h : PE X e (tC v)) (hr : ∀ K H, Rp K H x v) : PE X e (lE C (dC x)) :=
  h.weak fun σ H Q ⟨ρ, p, R, S, q, k⟩ => k _ _ _ _ q (S.pushD (hr _ _))

/-! ### data wanted -/
def toD (rv : RV) (ρ : List SV) (Q : D → List SV → Prop) : Prop := match rv with
  | .d x => Q x ρ
  | .ow (.lst ds) => Q (.lst ds) ρ
  | .al i => (match ρ[i]? with
    | some (.d x) => Q x ρ
    | some (.ow (.lst ds)) => Q (.lst ds) (ρ.set i (.d (.lst ds)))
    | _ => False)
  | _ => False
def dD (t : DT) : DT := fun ρ Q => t ρ fun rv ρ1 => toD rv ρ1 fun x ρ2 => Q (.d x) ρ2
theorem de_data {t : DT} (h : PE X e (lE C t)) : PE X e (lE C (dD t)) := by
  refine ⟨fun pins s σ H Q I ⟨ρ, p, R, S, q, k⟩ => ?_⟩
  refine thn (h.run pins s σ H (fun v H1 => ∃ rv ρ1, toD rv ρ1 (fun x ρ2 => R (.d x) ρ2) ∧ SR C ρ1 σ ((rv, v) :: p) H1) I ⟨ρ, p, _, S, q, fun rv ρ' v H' q1 S1 => ⟨rv, ρ', q1, S1⟩⟩) fun u s1 ⟨v, H1, I1, r1, rv, ρ1, q1, S1⟩ => ?_
  cases rv with
  | d x => exact ⟨v, H1, I1, r1, k _ _ _ _ q1 S1⟩
  | ow o =>
    cases o with
    | lst ds =>
      obtain ⟨a, xs, rfl, hx, st⟩ := S1.freezeTop
      obtain ⟨od, I2⟩ := I1.lock hx trivial
      exact ⟨_, _, I2, r1, k _ _ _ _ q1 (st od)⟩
    | dk _ => exact q1.elim
    | dn _ => exact q1.elim
  | al i =>
    obtain ⟨ev, sv, es, hne⟩ := S1.pend _ List.mem_cons_self
    dsimp only at ev
    unfold toD at q1
    dsimp only at q1
    rw [es] at q1
    cases sv with
    | un => exact q1.elim
    | d x =>
      obtain ⟨v', ev', r⟩ := S1.slot i _ _ es ev
      cases ev'
      exact ⟨v, H1, I1, r1, k _ _ _ _ q1 (S1.pop.pushD r)⟩
    | ow o =>
      cases o with
      | lst ds =>
        obtain ⟨a, xs, rfl, hx, st⟩ := S1.pop.freeze es ev
        obtain ⟨od, I2⟩ := I1.lock hx trivial
        exact ⟨_, _, I2, r1, k _ _ _ _ q1 ((st od).1.pushD (st od).2)⟩
      | dk _ => exact q1.elim
      | dn _ => exact q1.elim

/-! ### arguments -/
def dNil : DTA := fun ρ Q => Q [] ρ
def dCons (t : DT) (u : DTA) : DTA := fun ρ Q => t ρ fun x ρ1 => u ρ1 fun xs ρ2 => Q (x :: xs) ρ2
theorem da_nil : PA X [] (lA C dNil) := pa_nil.weak fun σ H Q ⟨ρ, p, R, S, q, k⟩ => k [] ρ [] H q rfl S
theorem da_cons {t : DT} {u : DTA} (h : PE X e (lE C t)) (h2 : PA X es (lA C u)) (hs : starEach (e :: es) X.env = (false, eval e X.env) :: starEach es X.env := by rfl) : PA X (e :: es) (lA C (dCons t u)) :=
  (pa_cons h h2 hs).weak fun σ H Q ⟨ρ, p, R, S, q, k⟩ => ⟨ρ, p, _, S, q, fun rv ρ1 v H1 q1 S1 => ⟨ρ1, _, _, S1, q1, fun rvs ρ2 vs H2 q2 hl S2 => k (rv :: rvs) ρ2 (v :: vs) H2 q2 (by simp [hl]) S2⟩⟩
/-- the arguments as data -/
def allD : List RV → Option (List D)
  | [] => some []
  | .d x :: r => (allD r).map (x :: ·)
  | _ :: _ => none
theorem allD_map : ∀ ds : List D, allD (ds.map .d) = some ds
  | [] => rfl
  | d :: ds => by simp [allD, allD_map ds]
theorem allD_some : ∀ {rvs : List RV} {ds : List D}, allD rvs = some ds → rvs = ds.map .d
  | [], ds, h => by cases h; rfl
  | .d x :: r, ds, h => by
    simp only [allD, Option.map_eq_some_iff] at h
    obtain ⟨xs, h1, h2⟩ := h
    subst h2
    simp [allD_some h1]
  | .ow _ :: r, ds, h => by cases h
  | .al _ :: r, ds, h => by cases h
theorem SR.popAll {ρ : List SV} {σ : St} {H : Hp} : ∀ {rvs : List RV} {vs : List V} {p : Pend}, SR C ρ σ (pushAll rvs vs p) H → SR C ρ σ p H
  | [], _, _, S => S
  | _ :: _, [], _, S => S
  | r :: rs, v :: vs, p, S => (SR.popAll (rvs := rs) (vs := vs) S).pop
theorem SR.popD {ρ : List SV} {σ : St} {H : Hp} : ∀ {ds : List D} {vs : List V} {p : Pend}, SR C ρ σ (pushAll (ds.map .d) vs p) H → ds.length = vs.length → RpL C.K H ds vs
  | [], [], _, _, _ => RpL.nil
  | [], _ :: _, _, _, h => by simp at h
  | _ :: _, [], _, _, h => by simp at h
  | d :: ds, v :: vs, p, S, h => by
    have S' : SR C ρ σ (pushAll (ds.map .d) vs ((.d d, v) :: p)) H := S
    exact RpL.cons (S'.popAll.pend _ List.mem_cons_self) (SR.popD S' (by simpa using h))
end
end DL

set_option Elab.async false
set_option linter.all false
set_option maxRecDepth 100000
namespace DL
open PySem PySem.Spec L2
open PyProof.Rows hiding St

/-- what an operation brings: data over the heap, or a new object -/
def RNew (C : Fr) (H H' : Hp) (rv : RV) (v : V) : Prop := match rv with
  | .d x => Rp C.K H' x v
  | .ow o => ∃ a, v = .ref a ∧ H a = none ∧ OVok C H' a o
  | .al _ => False
section
variable {X : Cx} {C : Fr} {e a b : Expr} {es : List Expr} {pos : Pos}
theorem SR.pushNew {ρ : List SV} {σ : St} {p : Pend} {H H' : Hp} {rv : RV} {v : V} (S : SR C ρ σ p H) (s : Same H H') (h : RNew C H H' rv v) : SR C ρ σ ((rv, v) :: p) H' := by
  cases rv with
  | d x => exact (S.same s).pushD h
  | ow o =>
    obtain ⟨a, rfl, n, ok⟩ := h
    exact S.pushO n s ok
  | al i => exact h.elim

/-! ### operations of two -/
abbrev DO2 := D → D → (RV → Prop) → Prop
def d2 (f : DO2) (t u : DT) : DT := fun ρ Q => t ρ fun x ρ1 => u ρ1 fun y ρ2 => match x, y with
  | .d x, .d y => f x y fun z => Q z ρ2
  | _, _ => False
def Snd2 (C : Fr) (r : R2) (f : DO2) : Prop := ∀ (H : Hp) (x y : D) (vx vy : V) (R : RV → Prop) (Q : VK), Rp C.K H x vx → Rp C.K H y vy → f x y R → (∀ rv v H', R rv → Same H H' → RNew C H H' rv v → Q v H') → r vx vy H Q
theorem de_2 {r : R2} {f : DO2} {t u : DT} (h : PE X e (tOp r (lE C (dD t)) (lE C (dD u)))) (hf : Snd2 C r f) : PE X e (lE C (d2 f (dD t) (dD u))) := by
  refine h.weak fun σ H Q ⟨ρ, p, R, S, q, k⟩ => ⟨ρ, p, _, S, q, fun x ρ1 v H1 q1 S1 => ⟨ρ1, _, _, S1, q1, fun y ρ2 w H2 q2 S2 => ?_⟩⟩
  cases x with
  | d x =>
    cases y with
    | d y =>
      refine hf H2 x y v w _ Q (S2.pop.pend _ List.mem_cons_self) (S2.pend _ List.mem_cons_self) q2 fun rv z H' hr s hn => ?_
      exact k rv ρ2 z H' hr (S2.pop.pop.pushNew s hn)
    | ow _ => exact q2.elim
    | al _ => exact q2.elim
  | ow _ => exact q2.elim
  | al _ => exact q2.elim
theorem Snd2.or {r r' : R2} {f f' : DO2} (h : Snd2 C r f) (h' : Snd2 C r' f') : Snd2 C (fun x y H Q => r x y H Q ∨ r' x y H Q) (fun x y R => f x y R ∨ f' x y R) := fun H x y vx vy R Q rx ry q k => by
  rcases q with q | q
  · exact .inl (h H x y vx vy R Q rx ry q k)
  · exact .inr (h' H x y vx vy R Q rx ry q k)
theorem Snd2.imp {r : R2} {f f' : DO2} (h : Snd2 C r f) (k : ∀ x y R, f' x y R → f x y R) : Snd2 C r f' := fun H x y vx vy R Q rx ry q => h H x y vx vy R Q rx ry (k _ _ _ q)
/-- two ints -/
theorem snd_int {c : Int → Int → Prop} {g : Int → Int → D} {g' : Int → Int → V} (hg : ∀ K H i j, Rp K H (g i j) (g' i j)) :
    Snd2 C (rI c g') (fun x y R => ∃ i j, x = .int i ∧ y = .int j ∧ c i j ∧ R (.d (g i j))) := fun H x y vx vy R Q rx ry q k => by
  obtain ⟨i, j, rfl, rfl, hc, hr⟩ := q
  exact ⟨i, j, rx, ry, hc, k _ _ H hr (Same.refl H) (hg _ _ _ _)⟩
theorem snd_int0 {g : Int → Int → D} {g' : Int → Int → V} (hg : ∀ K H i j, Rp K H (g i j) (g' i j)) :
    Snd2 C (rI0 g') (fun x y R => ∃ i j, x = .int i ∧ y = .int j ∧ R (.d (g i j))) := fun H x y vx vy R Q rx ry q k => by
  obtain ⟨i, j, rfl, rfl, hr⟩ := q
  exact ⟨i, j, rx, ry, k _ _ H hr (Same.refl H) (hg _ _ _ _)⟩

/-! #### + -/
/-- list + list, written or not -/
def rCatL : R2 := fun x y H Q => ∃ l b xs zs, x = .ref l ∧ y = .ref b ∧ Rd H l (.lst xs) ∧ Rd H b (.lst zs) ∧ xs.length + zs.length ≤ sizeLine ∧ ∀ p, H p = none → Q (.ref p) (upd H p (.lst (xs ++ zs)))
theorem op_catL : OpR X (binaryOp .Add) rCatL := by
  intro pins s σ H x y v u Q I rx ry h
  obtain ⟨l, b, xs, zs, rfl, rfl, hH, hB, hz, q⟩ := h
  cases rx
  cases ry
  obtain ⟨z, its, n, r, e⟩ := hH.ok I.hok
  obtain ⟨z2, its2, n2, r2, e2⟩ := hB.ok I.hok
  have l1 := r.length
  have l2 := r2.length
  refine PySem.P.add_list e e2 ?_ (by rw [List.size_toArray, List.size_toArray]; omega)
  have ea : its.toArray ++ its2.toArray = (its ++ its2).toArray := by simp
  rw [ea]
  exact ⟨.ref _, _, I.lnew (t' := s.toks) (r.append r2) (by rw [List.length_append]; omega), rfl, q _ I.fresh⟩
/-- list * int, written or not -/
def rRepL : R2 := fun x y H Q => ∃ l k xs, x = .ref l ∧ y = .int k ∧ H l = some (.lst xs) ∧ -(2 ^ 63) ≤ k ∧ k < 2 ^ 63 ∧ xs.length * k.toNat ≤ sizeLine ∧
  ∀ p, H p = none → Q (.ref p) (upd H p (.lst (List.replicate k.toNat xs).flatten))
def fAdd : DO2 := fun x y R => match x, y with
  | .int i, .int j => R (.d (.int (i + j)))
  | .str i, .str j => i.length + j.length ≤ sizeLine ∧ R (.d (.str (i ++ j)))
  | .tup i, .tup j => i.length + j.length ≤ sizeLine ∧ R (.d (.tup (i ++ j)))
  | .lst i, .lst j => i.length + j.length ≤ sizeLine ∧ R (.ow (.lst (i ++ j)))
  | _, _ => False
def rAddD (K : PySem.W.Frag) : R2 := fun x y H Q => (rI0 fun i j => .int (i + j)) x y H Q ∨ (∃ i j, x = .str i ∧ y = .str j ∧ i.length + j.length ≤ sizeLine ∧ Q (.str (i ++ j)) H) ∨ rCatA K x y H Q ∨ rCatL x y H Q
theorem op_addD : OpR X (binaryOp .Add) (rAddD X.K) := op_add.or (op_add_str.or (op_catA.or op_catL))
theorem snd_add : Snd2 C (rAddD C.K) fAdd := fun H x y vx vy R Q rx ry q k => by
  unfold fAdd at q
  split at q
  · exact .inl ⟨_, _, rx, ry, k _ _ H q (Same.refl H) rfl⟩
  · exact .inr (.inl ⟨_, _, rx, ry, q.1, k _ _ H q.2 (Same.refl H) rfl⟩)
  · simp only [Rp] at rx ry
    obtain ⟨a, xs, rfl, hx, lx⟩ := rx
    obtain ⟨b, ys, rfl, hy, ly⟩ := ry
    have l1 := lx.length
    have l2 := ly.length
    refine .inr (.inr (.inl ⟨a, b, xs, ys, rfl, rfl, hx, hy, by omega, fun e => ?_, fun _ e => ?_, fun _ _ p hp => ?_⟩))
    · subst e
      have e0 := List.eq_nil_of_length_eq_zero l1
      refine k _ _ H q.2 (Same.refl H) ?_
      show Rp C.K H _ _
      rw [e0]
      simp only [List.nil_append, Rp]
      exact ⟨b, ys, rfl, hy, ly⟩
    · subst e
      have e0 := List.eq_nil_of_length_eq_zero l2
      refine k _ _ H q.2 (Same.refl H) ?_
      show Rp C.K H _ _
      rw [e0]
      simp only [List.append_nil, Rp]
      exact ⟨a, xs, rfl, hx, lx⟩
    · have s := same_new (o := .tup (xs ++ ys)) hp
      refine k _ _ _ q.2 s ?_
      show Rp C.K _ _ _
      simp only [Rp]
      exact ⟨p, _, rfl, SqT.of upd_same, (lx.append ly).imm (Imm.of_same s)⟩
  · simp only [Rp] at rx ry
    obtain ⟨a, xs, rfl, ⟨o, hx⟩, lx⟩ := rx
    obtain ⟨b, ys, rfl, ⟨o2, hy⟩, ly⟩ := ry
    have l1 := lx.length
    have l2 := ly.length
    refine .inr (.inr (.inr ⟨a, b, xs, ys, rfl, rfl, .inr ⟨o, hx⟩, .inr ⟨o2, hy⟩, by omega, fun p hp => ?_⟩))
    have s := same_new (o := .lst (xs ++ ys)) hp
    exact k _ _ _ q.2 s ⟨p, rfl, hp, _, upd_same, (lx.append ly).imm (Imm.of_same s)⟩
  · exact q.elim
theorem de_add {t u : DT} (ha : PE X a (lE C t)) (hb : PE X b (lE C u)) (hK : C.K = X.K := by rfl) : PE X (.BinOp a .Add b pos) (lE C (d2 fAdd (dD t) (dD u))) :=
  de_2 (pe_op op_addD (de_data ha) (de_data hb)) (hK ▸ snd_add)
/-! #### -, *, //, %, ** -/
def fSub : DO2 := fun x y R => match x, y with
  | .int i, .int j => R (.d (.int (i - j)))
  | _, _ => False
theorem de_sub {t u : DT} (ha : PE X a (lE C t)) (hb : PE X b (lE C u)) : PE X (.BinOp a .Sub b pos) (lE C (d2 fSub (dD t) (dD u))) :=
  de_2 (pe_op op_sub (de_data ha) (de_data hb)) fun H x y vx vy R Q rx ry q k => by
    unfold fSub at q
    split at q
    · exact ⟨_, _, rx, ry, k _ _ H q (Same.refl H) rfl⟩
    · exact q.elim
/-- a product: one factor below 2 ^ 64, or together below a million bits -/
def MulOk (i j : Int) : Prop := CMul i j ∨ CMulW i j
/-- a tuple a number of times -/
def fMul : DO2 := fun x y R => match x, y with
  | .int i, .int j => MulOk i j ∧ R (.d (.int (i * j)))
  | .tup xs, .int k => xs ≠ [] ∧ 2 ≤ k ∧ k ≤ 1000 ∧ xs.length ≤ 1000 ∧ R (.d (.tup (List.replicate k.toNat xs).flatten))
  | _, _ => False
theorem op_mulD : OpR X (binaryOp .Mult) (fun x y H Q => rI CMul (fun i j => .int (i * j)) x y H Q ∨ rI CMulW (fun i j => .int (i * j)) x y H Q ∨ rRepT X.K x y H Q) := op_mul.or (op_mulW.or op_repT)
theorem RpL.rep {K : PySem.W.Frag} {H : Hp} {ds : List D} {vs : List V} (h : RpL K H ds vs) : ∀ n, RpL K H (List.replicate n ds).flatten (List.replicate n vs).flatten
  | 0 => by simp [RpL]
  | n + 1 => by
    rw [List.replicate_succ, List.replicate_succ, List.flatten_cons, List.flatten_cons]
    exact h.append (RpL.rep h n)
theorem de_mul {t u : DT} (ha : PE X a (lE C t)) (hb : PE X b (lE C u)) (hK : C.K = X.K := by rfl) : PE X (.BinOp a .Mult b pos) (lE C (d2 fMul (dD t) (dD u))) :=
  de_2 (pe_op op_mulD (de_data ha) (de_data hb)) fun H x y vx vy R Q rx ry q k => by
    unfold fMul at q
    split at q
    · rcases q.1 with z | z
      · exact .inl ⟨_, _, rx, ry, z, k _ _ H q.2 (Same.refl H) rfl⟩
      · exact .inr (.inl ⟨_, _, rx, ry, z, k _ _ H q.2 (Same.refl H) rfl⟩)
    · simp only [Rp] at rx
      obtain ⟨a, xs, rfl, hx, lx⟩ := rx
      obtain ⟨q0, q1, q2, q3, q4⟩ := q
      have l1 := lx.length
      refine .inr (.inr ⟨a, _, xs, rfl, ry, hK ▸ hx, fun z => q0 (List.eq_nil_of_length_eq_zero (by rw [l1, z]; rfl)), q1, q2, by omega, fun p hp => ?_⟩)
      refine k _ _ _ q4 (same_new hp) ?_
      show Rp C.K _ _ _
      simp only [Rp]
      exact ⟨p, _, rfl, SqT.of upd_same, (lx.rep _).imm (Imm.of_same (same_new hp))⟩
    · exact q.elim
/-- a divisor above 0, of less than 9000 bits -/
def fDiv : DO2 := fun x y R => match x, y with
  | .int i, .int j => CDivW i j ∧ R (.d (.int (i / j)))
  | _, _ => False
theorem de_div {t u : DT} (ha : PE X a (lE C t)) (hb : PE X b (lE C u)) : PE X (.BinOp a .FloorDiv b pos) (lE C (d2 fDiv (dD t) (dD u))) :=
  de_2 (pe_op op_fdivW (de_data ha) (de_data hb)) fun H x y vx vy R Q rx ry q k => by
    unfold fDiv at q
    split at q
    · exact ⟨_, _, rx, ry, q.1, k _ _ H q.2 (Same.refl H) rfl⟩
    · exact q.elim
def fMod : DO2 := fun x y R => match x, y with
  | .int i, .int j => 0 < j ∧ R (.d (.int (i % j)))
  | _, _ => False
theorem de_mod {t u : DT} (ha : PE X a (lE C t)) (hb : PE X b (lE C u)) : PE X (.BinOp a .Mod b pos) (lE C (d2 fMod (dD t) (dD u))) :=
  de_2 (pe_op op_mod (de_data ha) (de_data hb)) fun H x y vx vy R Q rx ry q k => by
    unfold fMod at q
    split at q
    · exact ⟨_, _, rx, ry, q.1, k _ _ H q.2 (Same.refl H) rfl⟩
    · exact q.elim
def fPow : DO2 := fun x y R => match x, y with
  | .int i, .int j => CPow i j ∧ R (.d (.int (i ^ j.toNat)))
  | _, _ => False
theorem de_pow {t u : DT} (ha : PE X a (lE C t)) (hb : PE X b (lE C u)) : PE X (.BinOp a .Pow b pos) (lE C (d2 fPow (dD t) (dD u))) :=
  de_2 (pe_op op_pow (de_data ha) (de_data hb)) fun H x y vx vy R Q rx ry q k => by
    unfold fPow at q
    split at q
    · exact ⟨_, _, rx, ry, q.1, k _ _ H q.2 (Same.refl H) rfl⟩
    · exact q.elim
def dNeg (t : DT) : DT := fun ρ Q => t ρ fun x ρ1 => match x with
  | .d (.int i) => Q (.d (.int (-i))) ρ1
  | _ => False
theorem de_neg {t : DT} (ha : PE X a (lE C t)) : PE X (.UnaryOp .USub a pos) (lE C (dNeg t)) :=
  (pe_un un_neg ha).weak fun σ H Q ⟨ρ, p, R, S, q, k⟩ => ⟨ρ, p, _, S, q, fun x ρ1 v H1 q1 S1 => by
    split at q1
    · exact ⟨_, S1.pend _ List.mem_cons_self, k _ _ _ _ q1 (S1.pop.pushD rfl)⟩
    · exact q1.elim⟩

/-! ### comparisons -/
def cLt : DO2 := fun x y R => match x, y with
  | .int i, .int j => R (.d (.bl (decide (i < j))))
  | _, _ => False
def cLe : DO2 := fun x y R => match x, y with
  | .int i, .int j => R (.d (.bl (decide (i ≤ j))))
  | _, _ => False
def cGt : DO2 := fun x y R => match x, y with
  | .int i, .int j => R (.d (.bl (decide (j < i))))
  | _, _ => False
def cGe : DO2 := fun x y R => match x, y with
  | .int i, .int j => R (.d (.bl (decide (j ≤ i))))
  | _, _ => False
theorem snd_lt : Snd2 C (rI0 fun i j => .bl (decide (i < j))) cLt := fun H x y vx vy R Q rx ry q k => by
  unfold cLt at q
  split at q
  · exact ⟨_, _, rx, ry, k _ _ H q (Same.refl H) rfl⟩
  · exact q.elim
theorem snd_le : Snd2 C (rI0 fun i j => .bl (decide (i ≤ j))) cLe := fun H x y vx vy R Q rx ry q k => by
  unfold cLe at q
  split at q
  · exact ⟨_, _, rx, ry, k _ _ H q (Same.refl H) rfl⟩
  · exact q.elim
theorem snd_gt : Snd2 C (rI0 fun i j => .bl (decide (j < i))) cGt := fun H x y vx vy R Q rx ry q k => by
  unfold cGt at q
  split at q
  · exact ⟨_, _, rx, ry, k _ _ H q (Same.refl H) rfl⟩
  · exact q.elim
theorem snd_ge : Snd2 C (rI0 fun i j => .bl (decide (j ≤ i))) cGe := fun H x y vx vy R Q rx ry q k => by
  unfold cGe at q
  split at q
  · exact ⟨_, _, rx, ry, k _ _ H q (Same.refl H) rfl⟩
  · exact q.elim
theorem de_lt {t u : DT} (ha : PE X a (lE C t)) (hb : PE X b (lE C u)) : PE X (.Compare a [.Lt] [b] pos) (lE C (d2 cLt (dD t) (dD u))) := de_2 (pe_cmpR op_lt (de_data ha) (de_data hb) (nomark _)) snd_lt
theorem de_le {t u : DT} (ha : PE X a (lE C t)) (hb : PE X b (lE C u)) : PE X (.Compare a [.LtE] [b] pos) (lE C (d2 cLe (dD t) (dD u))) := de_2 (pe_cmpR op_le (de_data ha) (de_data hb) (nomark _)) snd_le
theorem de_gt {t u : DT} (ha : PE X a (lE C t)) (hb : PE X b (lE C u)) : PE X (.Compare a [.Gt] [b] pos) (lE C (d2 cGt (dD t) (dD u))) := de_2 (pe_cmpR op_gt (de_data ha) (de_data hb) (nomark _)) snd_gt
theorem de_ge {t u : DT} (ha : PE X a (lE C t)) (hb : PE X b (lE C u)) : PE X (.Compare a [.GtE] [b] pos) (lE C (d2 cGe (dD t) (dD u))) := de_2 (pe_cmpR op_ge (de_data ha) (de_data hb) (nomark _)) snd_ge
end

/-! #### ==, != -/
mutual
def D.toP : D → PyData
  | .non => .none
  | .bl b => .bool b
  | .int i => .int i
  | .str x => .str x
  | .ref _ => .none
  | .ty _ => .none
  | .tup ds => .tuple (D.toPs ds)
  | .lst ds => .list (D.toPs ds)
  | .scr _ => .none
def D.toPs : List D → List PyData
  | [] => []
  | d :: ds => D.toP d :: D.toPs ds
end
mutual
def D.plain : D → Bool
  | .non => true
  | .bl _ => true
  | .int _ => true
  | .str _ => true
  | .ref _ => false
  | .ty _ => false
  | .tup ds => D.plains ds
  | .lst ds => D.plains ds
  | .scr _ => false
def D.plains : List D → Bool
  | [] => true
  | d :: ds => D.plain d && D.plains ds
end
/-- may be compared -/
def D.cmp (d : D) : Bool := d.plain && SeqAt.shaped d.toP
mutual
theorem Rp.dp {K : PySem.W.Frag} {H : Hp} : ∀ (d : D) (v : V), d.plain = true → Rp K H d v → Dp K H v d.toP
  | .non, _, _, h => by cases h; exact .non
  | .bl b, _, _, h => by cases h; exact .bl b
  | .int i, _, _, h => by cases h; exact .int i
  | .str x, _, _, h => by cases h; exact .str x
  | .ref _, _, p, _ => by simp [D.plain] at p
  | .ty _, _, p, _ => by simp [D.plain] at p
  | .tup ds, v, p, h => by
    simp only [Rp] at h
    obtain ⟨a, xs, rfl, s, r⟩ := h
    exact .tup s (RpL.dp ds xs (by simpa [D.plain] using p) r)
  | .lst ds, v, p, h => by
    simp only [Rp] at h
    obtain ⟨a, xs, rfl, s, r⟩ := h
    exact .lst s.seq (RpL.dp ds xs (by simpa [D.plain] using p) r)
  | .scr _, _, p, _ => by simp [D.plain] at p
theorem RpL.dp {K : PySem.W.Frag} {H : Hp} : ∀ (ds : List D) (vs : List V), D.plains ds = true → RpL K H ds vs → DpAll K H vs (D.toPs ds)
  | [], _, _, h => by simp only [RpL] at h; subst h; exact .nil
  | d :: ds, vs, p, h => by
    simp only [RpL] at h
    obtain ⟨v, r, rfl, h1, h2⟩ := h
    simp only [D.plains, Bool.and_eq_true] at p
    exact .cons (Rp.dp d v p.1 h1) (RpL.dp ds r p.2 h2)
end
def D.eqv (x y : D) : Bool := PyData.eqv x.toP y.toP
def cEq : DO2 := fun x y R => (x.cmp = true ∧ y.cmp = true) ∧ R (.d (.bl (x.eqv y)))
def cNe : DO2 := fun x y R => (x.cmp = true ∧ y.cmp = true) ∧ R (.d (.bl (!x.eqv y)))
section
variable {X : Cx} {C : Fr} {e a b : Expr} {es : List Expr} {pos : Pos}
theorem cmp_and {x : D} (h : x.cmp = true) : x.plain = true ∧ SeqAt.shaped x.toP = true := by
  unfold D.cmp at h
  exact Bool.and_eq_true_iff.mp h
theorem snd_eq : Snd2 C (rEqD C.K) cEq := fun H x y vx vy R Q rx ry q k => by
  obtain ⟨⟨h1, h2⟩, q⟩ := q
  exact ⟨_, _, Rp.dp x vx (cmp_and h1).1 rx, Rp.dp y vy (cmp_and h2).1 ry, (cmp_and h1).2, (cmp_and h2).2, k _ _ H q (Same.refl H) rfl⟩
theorem snd_ne : Snd2 C (rNeD C.K) cNe := fun H x y vx vy R Q rx ry q k => by
  obtain ⟨⟨h1, h2⟩, q⟩ := q
  exact ⟨_, _, Rp.dp x vx (cmp_and h1).1 rx, Rp.dp y vy (cmp_and h2).1 ry, (cmp_and h1).2, (cmp_and h2).2, k _ _ H q (Same.refl H) rfl⟩
theorem de_eq {t u : DT} (hu : X.A.units + 64 < cLine) (ha : PE X a (lE C t)) (hb : PE X b (lE C u)) (hK : C.K = X.K := by rfl) : PE X (.Compare a [.Eq] [b] pos) (lE C (d2 cEq (dD t) (dD u))) :=
  de_2 (pe_cmpR (op_eqD hu) (de_data ha) (de_data hb) (nomark _)) (hK ▸ snd_eq)
theorem de_ne {t u : DT} (hu : X.A.units + 64 < cLine) (ha : PE X a (lE C t)) (hb : PE X b (lE C u)) (hK : C.K = X.K := by rfl) : PE X (.Compare a [.NotEq] [b] pos) (lE C (d2 cNe (dD t) (dD u))) :=
  de_2 (pe_cmpR (op_neD hu) (de_data ha) (de_data hb) (nomark _)) (hK ▸ snd_ne)
/-- is None -/
def dIsN (neg : Bool) (t : DT) : DT := fun ρ Q => t ρ fun x ρ1 => match x with
  | .d .non => Q (.d (.bl (!neg))) ρ1
  | .d _ => Q (.d (.bl neg)) ρ1
  | _ => False
theorem Rp.isN {K : PySem.W.Frag} {H : Hp} {v : V} : ∀ {d : D}, Rp K H d v → (v = .non ↔ d = .non)
  | .non, h => by cases h; simp
  | .bl _, h => by cases h; simp
  | .int _, h => by cases h; simp
  | .str _, h => by cases h; simp
  | .ref _, h => by cases h; simp
  | .ty _, h => by cases h; simp
  | .tup _, h => by simp only [Rp] at h; obtain ⟨_, _, rfl, _⟩ := h; simp
  | .lst _, h => by simp only [Rp] at h; obtain ⟨_, _, rfl, _⟩ := h; simp
  | .scr _, h => by simp only [Rp] at h; obtain ⟨_, rfl, _⟩ := h; simp
theorem isN_to {t : DT} : ∀ σ H Q, lE C (dIsN false (dD t)) σ H Q → tIsN (lE C (dD t)) σ H Q := fun σ H Q ⟨ρ, p, R, S, q, k⟩ => ⟨ρ, p, _, S, q, fun x ρ1 v H1 q1 S1 => by
    cases x with
    | d x =>
      have r := S1.pend _ List.mem_cons_self
      have i := Rp.isN r
      by_cases z : x = .non
      · subst z; exact (decide_eq_true (i.mpr rfl)) ▸ k _ _ _ _ q1 (S1.pop.pushD rfl)
      · have e : decide (v = V.non) = false := decide_eq_false fun w => z (i.mp w)
        rw [e]
        refine k (.d (.bl false)) ρ1 _ _ ?_ (S1.pop.pushD rfl)
        cases x <;> first | exact absurd rfl z | exact q1
    | ow _ => exact q1.elim
    | al _ => exact q1.elim⟩
theorem de_isN {t : DT} {j : Nat} {p2 : Pos} (ha : PE X a (lE C t)) : PE X (.Compare a [.Is] [.Constant .none j p2] pos) (lE C (dIsN false (dD t))) := (pe_cmp (pc_isN (de_data ha))).weak isN_to
theorem notN_to {t : DT} : ∀ σ H Q, lE C (dIsN true (dD t)) σ H Q → tNotN (lE C (dD t)) σ H Q := fun σ H Q ⟨ρ, p, R, S, q, k⟩ => ⟨ρ, p, _, S, q, fun x ρ1 v H1 q1 S1 => by
    cases x with
    | d x =>
      have r := S1.pend _ List.mem_cons_self
      have i := Rp.isN r
      by_cases z : x = .non
      · subst z
        have e : decide (v = V.non) = true := decide_eq_true (i.mpr rfl)
        rw [e]
        exact k _ _ _ _ q1 (S1.pop.pushD rfl)
      · have e : decide (v = V.non) = false := decide_eq_false fun w => z (i.mp w)
        rw [e]
        refine k (.d (.bl true)) ρ1 _ _ ?_ (S1.pop.pushD rfl)
        cases x <;> first | exact absurd rfl z | exact q1
    | ow _ => exact q1.elim
    | al _ => exact q1.elim⟩
theorem de_notN {t : DT} {j : Nat} {p2 : Pos} (ha : PE X a (lE C t)) : PE X (.Compare a [.IsNot] [.Constant .none j p2] pos) (lE C (dIsN true (dD t))) := (pe_cmp (pc_notN (de_data ha))).weak notN_to
end
end DL

set_option Elab.async false
set_option linter.all false
set_option maxRecDepth 100000
namespace DL
open PySem PySem.Spec L2
open PyProof.Rows hiding St

section
variable {X : Cx} {C : Fr} {e a b c : Expr} {es rest : List Expr} {pos : Pos}
/-! ### tests -/
def dB (t : DT) : DTT := fun ρ Q => t ρ fun x ρ1 => match x with
  | .d (.bl k) => Q k ρ1
  | _ => False
theorem dt_val {t : DT} (h : PE X e (lE C t)) (he : ∀ whole, isTrue e X.env whole = (do let v ← whole; standAt e.pos; holding [v] (truthy v)) := by intro _; rfl) : PT X e (lT C (dB t)) :=
  (pt_val h he).weak fun σ H Q ⟨ρ, p, R, S, q, k⟩ => ⟨ρ, p, _, S, q, fun x ρ1 v H1 q1 S1 => by
    split at q1
    · exact ⟨_, S1.pend _ List.mem_cons_self, k _ _ _ q1 S1.pop⟩
    · exact q1.elim⟩
/-- comparisons as tests -/
theorem tB_of {t : DT} {t0 : TE} (h : PT X e (tTest t0)) (k : ∀ σ H Q, lE C t σ H Q → t0 σ H Q) : PT X e (lT C (dB t)) :=
  h.weak fun σ H Q ⟨ρ, p, R, S, q, k2⟩ => k σ H _ ⟨ρ, p, _, S, q, fun x ρ1 v H1 q1 S1 => by
    split at q1
    · exact ⟨_, S1.pend _ List.mem_cons_self, k2 _ _ _ q1 S1.pop⟩
    · exact q1.elim⟩
theorem d2_to {r : R2} {f : DO2} {t u : DT} (hf : Snd2 C r f) : ∀ σ H Q, lE C (d2 f (dD t) (dD u)) σ H Q → tOp r (lE C (dD t)) (lE C (dD u)) σ H Q := fun σ H Q ⟨ρ, p, R, S, q, k⟩ => ⟨ρ, p, _, S, q, fun x ρ1 v H1 q1 S1 => ⟨ρ1, _, _, S1, q1, fun y ρ2 w H2 q2 S2 => by
  cases x with
  | d x =>
    cases y with
    | d y => exact hf H2 x y v w _ Q (S2.pop.pend _ List.mem_cons_self) (S2.pend _ List.mem_cons_self) q2 fun rv z H' hr s hn => k rv ρ2 z H' hr (S2.pop.pop.pushNew s hn)
    | ow _ => exact q2.elim
    | al _ => exact q2.elim
  | ow _ => exact q2.elim
  | al _ => exact q2.elim⟩⟩
theorem dt_cmp {op : CmpOp} {r : R2} {f : DO2} {t u : DT} (ho : OpR X (compareOp op) r) (hf : Snd2 C r f) (ha : PE X a (lE C t)) (hb : PE X b (lE C u)) (hm : behindInMarks op b = false) : PT X (.Compare a [op] [b] pos) (lT C (dB (d2 f (dD t) (dD u)))) :=
  tB_of (pt_cmpR ho (de_data ha) (de_data hb) hm) (d2_to hf)
theorem dt_lt {t u : DT} (ha : PE X a (lE C t)) (hb : PE X b (lE C u)) : PT X (.Compare a [.Lt] [b] pos) (lT C (dB (d2 cLt (dD t) (dD u)))) := dt_cmp op_lt snd_lt ha hb (nomark _)
theorem dt_le {t u : DT} (ha : PE X a (lE C t)) (hb : PE X b (lE C u)) : PT X (.Compare a [.LtE] [b] pos) (lT C (dB (d2 cLe (dD t) (dD u)))) := dt_cmp op_le snd_le ha hb (nomark _)
theorem dt_gt {t u : DT} (ha : PE X a (lE C t)) (hb : PE X b (lE C u)) : PT X (.Compare a [.Gt] [b] pos) (lT C (dB (d2 cGt (dD t) (dD u)))) := dt_cmp op_gt snd_gt ha hb (nomark _)
theorem dt_ge {t u : DT} (ha : PE X a (lE C t)) (hb : PE X b (lE C u)) : PT X (.Compare a [.GtE] [b] pos) (lT C (dB (d2 cGe (dD t) (dD u)))) := dt_cmp op_ge snd_ge ha hb (nomark _)
theorem dt_eq {t u : DT} (hu : X.A.units + 64 < cLine) (ha : PE X a (lE C t)) (hb : PE X b (lE C u)) (hK : C.K = X.K := by rfl) : PT X (.Compare a [.Eq] [b] pos) (lT C (dB (d2 cEq (dD t) (dD u)))) := dt_cmp (op_eqD hu) (hK ▸ snd_eq) ha hb (nomark _)
theorem dt_ne {t u : DT} (hu : X.A.units + 64 < cLine) (ha : PE X a (lE C t)) (hb : PE X b (lE C u)) (hK : C.K = X.K := by rfl) : PT X (.Compare a [.NotEq] [b] pos) (lT C (dB (d2 cNe (dD t) (dD u)))) := dt_cmp (op_neD hu) (hK ▸ snd_ne) ha hb (nomark _)
theorem dt_isN {t : DT} {j : Nat} {p2 : Pos} (ha : PE X a (lE C t)) : PT X (.Compare a [.Is] [.Constant .none j p2] pos) (lT C (dB (dIsN false (dD t)))) := tB_of (pt_cmp (pc_isN (de_data ha))) isN_to
theorem dt_notN {t : DT} {j : Nat} {p2 : Pos} (ha : PE X a (lE C t)) : PT X (.Compare a [.IsNot] [.Constant .none j p2] pos) (lT C (dB (dIsN true (dD t)))) := tB_of (pt_cmp (pc_notN (de_data ha))) notN_to
def dAnd (t u : DTT) : DTT := fun ρ Q => t ρ fun k ρ1 => if k = true then u ρ1 Q else Q false ρ1
def dOr (t u : DTT) : DTT := fun ρ Q => t ρ fun k ρ1 => if k = true then Q true ρ1 else u ρ1 Q
def dNot (t : DTT) : DTT := fun ρ Q => t ρ fun k ρ1 => Q (!k) ρ1
theorem dw_and1 {t : DTT} (ha : PT X a (lT C t)) : PW X (.BoolOp .And [a] pos) (lT C t) := pw_and1 ha
theorem dw_or1 {t : DTT} (ha : PT X a (lT C t)) : PW X (.BoolOp .Or [a] pos) (lT C t) := pw_or1 ha
theorem dw_and {t u : DTT} (ha : PT X a (lT C t)) (hb : PW X (.BoolOp .And (b :: rest) pos) (lT C u)) : PW X (.BoolOp .And (a :: b :: rest) pos) (lT C (dAnd t u)) :=
  (pw_and ha hb).weak fun σ H Q ⟨ρ, p, R, S, q, k⟩ => ⟨ρ, p, _, S, q, fun d ρ1 H1 q1 S1 => by
    cases d with
    | true => exact iteT ⟨ρ1, p, _, S1, q1, k⟩
    | false => exact iteF (k _ _ _ q1 S1)⟩
theorem dw_or {t u : DTT} (ha : PT X a (lT C t)) (hb : PW X (.BoolOp .Or (b :: rest) pos) (lT C u)) : PW X (.BoolOp .Or (a :: b :: rest) pos) (lT C (dOr t u)) :=
  (pw_or ha hb).weak fun σ H Q ⟨ρ, p, R, S, q, k⟩ => ⟨ρ, p, _, S, q, fun d ρ1 H1 q1 S1 => by
    cases d with
    | true => exact iteT (k _ _ _ q1 S1)
    | false => exact iteF ⟨ρ1, p, _, S1, q1, k⟩⟩
theorem dt_not {t : DTT} (ha : PT X a (lT C t)) : PT X (.UnaryOp .Not a pos) (lT C (dNot t)) :=
  (pt_not ha).weak fun σ H Q ⟨ρ, p, R, S, q, k⟩ => ⟨ρ, p, _, S, q, fun d ρ1 H1 q1 S1 => k _ _ _ q1 S1⟩
/-- and, or, not as values of bools -/
def dAndV (t u : DT) : DT := fun ρ Q => t ρ fun x ρ1 => match x with
  | .d (.bl true) => u ρ1 Q
  | .d (.bl false) => Q (.d (.bl false)) ρ1
  | _ => False
def dOrV (t u : DT) : DT := fun ρ Q => t ρ fun x ρ1 => match x with
  | .d (.bl true) => Q (.d (.bl true)) ρ1
  | .d (.bl false) => u ρ1 Q
  | _ => False
theorem de_one {op : BoolOp} {t : DT} (h : PE X a (lE C t)) : PE X (.BoolOp op [a] pos) (lE C t) := pe_one h
theorem de_and {t u : DT} (ha : PE X a (lE C t)) (hb : PE X (.BoolOp .And (b :: rest) pos) (lE C u)) : PE X (.BoolOp .And (a :: b :: rest) pos) (lE C (dAndV t u)) :=
  (pe_and ha hb).weak fun σ H Q ⟨ρ, p, R, S, q, k⟩ => ⟨ρ, p, _, S, q, fun x ρ1 v H1 q1 S1 => by
    split at q1
    · exact ⟨true, S1.pend _ List.mem_cons_self, iteT ⟨ρ1, p, _, S1.pop, q1, k⟩⟩
    · exact ⟨false, S1.pend _ List.mem_cons_self, iteF (k _ _ _ _ q1 (S1.pop.pushD rfl))⟩
    · exact q1.elim⟩
theorem de_or {t u : DT} (ha : PE X a (lE C t)) (hb : PE X (.BoolOp .Or (b :: rest) pos) (lE C u)) : PE X (.BoolOp .Or (a :: b :: rest) pos) (lE C (dOrV t u)) :=
  (pe_or ha hb).weak fun σ H Q ⟨ρ, p, R, S, q, k⟩ => ⟨ρ, p, _, S, q, fun x ρ1 v H1 q1 S1 => by
    split at q1
    · exact ⟨true, S1.pend _ List.mem_cons_self, iteT (k _ _ _ _ q1 (S1.pop.pushD rfl))⟩
    · exact ⟨false, S1.pend _ List.mem_cons_self, iteF ⟨ρ1, p, _, S1.pop, q1, k⟩⟩
    · exact q1.elim⟩
def dNotV (t : DT) : DT := fun ρ Q => t ρ fun x ρ1 => match x with
  | .d (.bl k) => Q (.d (.bl (!k))) ρ1
  | _ => False
theorem de_not {t : DT} (ha : PE X a (lE C t)) : PE X (.UnaryOp .Not a pos) (lE C (dNotV t)) :=
  (pe_not ha).weak fun σ H Q ⟨ρ, p, R, S, q, k⟩ => ⟨ρ, p, _, S, q, fun x ρ1 v H1 q1 S1 => by
    split at q1
    · exact ⟨_, S1.pend _ List.mem_cons_self, k _ _ _ _ q1 (S1.pop.pushD rfl)⟩
    · exact q1.elim⟩
def dIfE (c : DTT) (t u : DT) : DT := fun ρ Q => c ρ fun k ρ1 => if k = true then t ρ1 Q else u ρ1 Q
theorem de_if {c' : DTT} {t u : DT} (hc : PT X c (lT C c')) (ha : PE X a (lE C t)) (hb : PE X b (lE C u)) : PE X (.IfExp c a b pos) (lE C (dIfE c' t u)) :=
  (pe_ifExp hc ha hb).weak fun σ H Q ⟨ρ, p, R, S, q, k⟩ => ⟨ρ, p, _, S, q, fun d ρ1 H1 q1 S1 => by
    cases d with
    | true => exact iteT ⟨ρ1, p, _, S1, q1, k⟩
    | false => exact iteF ⟨ρ1, p, _, S1, q1, k⟩⟩
/-- a < b < c -/
def dChain (f g : DO2) (t u w : DT) : DT := fun ρ Q => t ρ fun x ρ1 => u ρ1 fun y ρ2 => match x, y with
  | .d x, .d y => f x y fun z => match z with
    | .d (.bl true) => w ρ2 fun z2 ρ3 => (match z2 with
      | .d z2 => g y z2 fun z3 => Q z3 ρ3
      | _ => False)
    | .d (.bl false) => Q (.d (.bl false)) ρ2
    | _ => False
  | _, _ => False
theorem chain_to {r r' : R2} {f g : DO2} {t u w : DT} (hf : Snd2 C r f) (hg : Snd2 C r' g) : ∀ σ H Q, lE C (dChain f g (dD t) (dD u) (dD w)) σ H Q → tChain r r' (lE C (dD t)) (lE C (dD u)) (lE C (dD w)) σ H Q :=
  fun σ H Q ⟨ρ, p, R, S, q, k⟩ => ⟨ρ, p, _, S, q, fun x ρ1 v H1 q1 S1 => ⟨ρ1, _, _, S1, q1, fun y ρ2 vy H2 q2 S2 => by
    cases x with
    | d x =>
      cases y with
      | d y =>
        refine hf H2 x y v vy _ _ (S2.pop.pend _ List.mem_cons_self) (S2.pend _ List.mem_cons_self) q2 fun rv z H' hr s hn => ?_
        split at hr
        · refine ⟨true, hn, iteT ⟨ρ2, _, _, S2.same s, hr, fun z2 ρ3 vz H3 q3 S3 => ?_⟩⟩
          cases z2 with
          | d z2 =>
            refine hg H3 y z2 vy vz _ _ (S3.pop.pend _ List.mem_cons_self) (S3.pend _ List.mem_cons_self) q3 fun rv2 z3 H4 hr2 s2 hn2 => ?_
            exact k rv2 ρ3 z3 H4 hr2 (S3.pop.pop.pop.pushNew s2 hn2)
          | ow _ => exact q3.elim
          | al _ => exact q3.elim
        · exact ⟨false, hn, iteF (k _ _ _ _ hr ((S2.pop.pop.same s).pushD rfl))⟩
        · exact hr.elim
      | ow _ => exact q2.elim
      | al _ => exact q2.elim
    | ow _ => exact q2.elim
    | al _ => exact q2.elim⟩⟩
theorem de_chain {op op' : CmpOp} {r r' : R2} {f g : DO2} {t u w : DT} (ho : OpR X (compareOp op) r) (ho' : OpR X (compareOp op') r') (hf : Snd2 C r f) (hg : Snd2 C r' g) (ha : PE X a (lE C t)) (hb : PE X b (lE C u)) (hc : PE X c (lE C w))
    (hm : lastMarks [op, op'] [b, c] = false := by with_unfolding_all rfl) : PE X (.Compare a [op, op'] [b, c] pos) (lE C (dChain f g (dD t) (dD u) (dD w))) := (pe_chain ho ho' (de_data ha) (de_data hb) (de_data hc) hm).weak (chain_to hf hg)
theorem dt_chain {op op' : CmpOp} {r r' : R2} {f g : DO2} {t u w : DT} (ho : OpR X (compareOp op) r) (ho' : OpR X (compareOp op') r') (hf : Snd2 C r f) (hg : Snd2 C r' g) (ha : PE X a (lE C t)) (hb : PE X b (lE C u)) (hc : PE X c (lE C w))
    (hm : lastMarks [op, op'] [b, c] = false := by with_unfolding_all rfl) : PT X (.Compare a [op, op'] [b, c] pos) (lT C (dB (dChain f g (dD t) (dD u) (dD w)))) := tB_of (pt_chain ho ho' (de_data ha) (de_data hb) (de_data hc) hm) (chain_to hf hg)

/-! ### sequences -/
def seqOf : RV → List SV → Option (List D)
  | .d (.tup ds), _ => some ds
  | .d (.lst ds), _ => some ds
  | .d (.scr ns), _ => some (ns.map .int)
  | .ow (.lst ds), _ => some ds
  | .al i, ρ => (match ρ[i]? with
    | some (.d (.tup ds)) => some ds
    | some (.d (.lst ds)) => some ds
    | some (.ow (.lst ds)) => some ds
    | _ => none)
  | _, _ => none
theorem seq_data {K : PySem.W.Frag} {H : Hp} {d : D} {v : V} (r : Rp K H d v) {ds : List D} (h : d = .tup ds ∨ d = .lst ds) : ∃ a xs, v = .ref a ∧ (SqL K H a xs ∨ SqT K H a xs) ∧ RpL K H ds xs := by
  rcases h with rfl | rfl
  · simp only [Rp] at r
    obtain ⟨a, xs, rfl, s, r⟩ := r
    exact ⟨a, xs, rfl, .inr s, r⟩
  · simp only [Rp] at r
    obtain ⟨a, xs, rfl, s, r⟩ := r
    exact ⟨a, xs, rfl, .inl s.seq, r⟩
theorem RpL.ofInts {K : PySem.W.Frag} {H : Hp} : ∀ ns : List Int, RpL K H (ns.map D.int) (ns.map V.int)
  | [] => RpL.nil
  | n :: ns => RpL.cons rfl (RpL.ofInts ns)
theorem seq_at {ρ : List SV} {σ : St} {p : Pend} {H : Hp} (S : SR C ρ σ p H) {rv : RV} {v : V} (P : PendOk C H ρ σ rv v) {ds : List D} (h : seqOf rv ρ = some ds) : ∃ a xs, v = .ref a ∧ (SqL C.K H a xs ∨ SqT C.K H a xs) ∧ RpL C.K H ds xs := by
  cases rv with
  | d x =>
    have r : Rp C.K H x v := P
    cases x <;> simp only [seqOf] at h <;> cases h
    · exact seq_data r (.inl rfl)
    · exact seq_data r (.inr rfl)
    · simp only [Rp] at r
      obtain ⟨a, rfl, s⟩ := r
      exact ⟨a, _, rfl, .inl s.seq, RpL.ofInts _⟩
  | ow o =>
    obtain ⟨a, rfl, ok⟩ := P
    cases o <;> simp only [seqOf] at h <;> cases h
    obtain ⟨xs, hx, r⟩ := ok
    exact ⟨a, xs, rfl, .inl (.of hx), r⟩
  | al i =>
    obtain ⟨ev, sv, es, _⟩ := P
    simp only [seqOf, es] at h
    split at h
    · rename_i q; cases q; cases h
      obtain ⟨v', e', r⟩ := S.slot i _ _ es ev
      cases e'
      exact seq_data r (.inl rfl)
    · rename_i q; cases q; cases h
      obtain ⟨v', e', r⟩ := S.slot i _ _ es ev
      cases e'
      exact seq_data r (.inr rfl)
    · rename_i q; cases q; cases h
      obtain ⟨a, e', xs, hx, r⟩ := S.slot i _ _ es ev
      cases e'
      exact ⟨a, xs, rfl, .inl (.of hx), r⟩
    · cases h
/-- xs[i] -/
def dIx (t u : DT) : DT := fun ρ Q => t ρ fun x ρ1 => u ρ1 fun y ρ2 => match y, seqOf x ρ2 with
  | .d (.int i), some ds => (match atI ds i with
    | some z => Q (.d z) ρ2
    | none => False)
  | _, _ => False
theorem atI_rp {K : PySem.W.Frag} {H : Hp} {ds : List D} {xs : List V} (r : RpL K H ds xs) {i : Int} {z : D} (h : atI ds i = some z) : ∃ v, atI xs i = some v ∧ Rp K H z v := by
  unfold atI at h ⊢
  rw [← r.length]
  cases e : ixN ds.length i with
  | none => rw [e] at h; cases h
  | some j =>
    rw [e] at h
    exact r.get' h
theorem de_ix {t u : DT} (ha : PE X a (lE C t)) (hb : PE X b (lE C u)) (hK : C.K = X.K := by rfl) (hs : PlainIx b := by exact fun _ _ => rfl) : PE X (.Subscript a b pos) (lE C (dIx t u)) :=
  (pe_ix ix_seq ha hb hs).weak fun σ H Q ⟨ρ, p, R, S, q, k⟩ => ⟨ρ, p, _, S, q, fun x ρ1 v H1 q1 S1 => ⟨ρ1, _, _, S1, q1, fun y ρ2 vy H2 q2 S2 => by
    split at q2
    · rename_i i ds e
      split at q2
      · rename_i z ez
        obtain ⟨a, xs, rfl, hq, r⟩ := seq_at S2.pop (S2.pop.pend _ List.mem_cons_self) e
        obtain ⟨w, ew, rw'⟩ := atI_rp r ez
        have fin := k _ _ w H2 q2 (S2.pop.pop.pushD rw')
        have ey : vy = .int i := S2.pend _ List.mem_cons_self
        rcases hq with hq | hq
        · exact .inl ⟨a, xs, i, w, rfl, ey, hK ▸ hq, ew, fin⟩
        · exact .inr (.inl ⟨a, xs, i, w, rfl, ey, hK ▸ hq, ew, fin⟩)
      · exact q2.elim
    · exact q2.elim⟩⟩
/-! slices -/
abbrev DO := List SV → (Option Int → List SV → Prop) → Prop
def lO (C : Fr) (t : DO) : TO := fun σ H Q => ∃ (ρ : List SV) (p : Pend) (R : Option Int → List SV → Prop), SR C ρ σ p H ∧ t ρ R ∧ ∀ o ρ' H', R o ρ' → SR C ρ' σ p H' → Q o H'
def dNo : DO := fun ρ Q => Q none ρ
def dPart (t : DT) : DO := fun ρ Q => t ρ fun x ρ1 => match x with
  | .d (.int i) => Q (some i) ρ1
  | _ => False
theorem do_none : PO X none (lO C dNo) := ⟨fun pins s σ H Q I ⟨ρ, p, R, S, q, k⟩ => po_none.run pins s σ H Q I (k _ _ _ q S)⟩
theorem do_some {t : DT} (h : PE X e (lE C t)) : PO X (some e) (lO C (dPart t)) := ⟨fun pins s σ H Q I ⟨ρ, p, R, S, q, k⟩ => (po_some h).run pins s σ H Q I ⟨ρ, p, _, S, q, fun x ρ1 v H1 q1 S1 => by
    split at q1
    · exact ⟨_, S1.pend _ List.mem_cons_self, k _ _ _ q1 S1.pop⟩
    · exact q1.elim⟩⟩
def cutD (xs : List D) (lo hi : Option Int) : List D := (xs.drop (HT.sIx xs.length 0 lo)).take (HT.sIx xs.length xs.length hi - HT.sIx xs.length 0 lo)
theorem cut_rp {K : PySem.W.Frag} {H : Hp} {ds : List D} {xs : List V} (r : RpL K H ds xs) (lo hi : Option Int) : RpL K H (cutD ds lo hi) (cutV xs lo hi) := by
  unfold cutD cutV
  rw [r.length]
  exact (r.drop _).take _
/-- a list (true) or a tuple, and its items -/
def kindOf : RV → List SV → Option (Bool × List D)
  | .d (.tup ds), _ => some (false, ds)
  | .d (.lst ds), _ => some (true, ds)
  | .ow (.lst ds), _ => some (true, ds)
  | .al i, ρ => (match ρ[i]? with
    | some (.d (.tup ds)) => some (false, ds)
    | some (.d (.lst ds)) => some (true, ds)
    | some (.ow (.lst ds)) => some (true, ds)
    | _ => none)
  | _, _ => none
theorem kind_at {ρ : List SV} {σ : St} {p : Pend} {H : Hp} (S : SR C ρ σ p H) {rv : RV} {v : V} (P : PendOk C H ρ σ rv v) {k : Bool} {ds : List D} (h : kindOf rv ρ = some (k, ds)) :
    ∃ a xs, v = .ref a ∧ (if k = true then SqL C.K H a xs else SqT C.K H a xs) ∧ RpL C.K H ds xs := by
  have tupC : ∀ {d : D}, Rp C.K H d v → d = .tup ds → k = false → ∃ a xs, v = .ref a ∧ (if k = true then SqL C.K H a xs else SqT C.K H a xs) ∧ RpL C.K H ds xs := fun r e ek => by
    subst e ek
    simp only [Rp] at r
    obtain ⟨a, xs, rfl, s, r⟩ := r
    exact ⟨a, xs, rfl, iteF s, r⟩
  have lstC : ∀ {d : D}, Rp C.K H d v → d = .lst ds → k = true → ∃ a xs, v = .ref a ∧ (if k = true then SqL C.K H a xs else SqT C.K H a xs) ∧ RpL C.K H ds xs := fun r e ek => by
    subst e ek
    simp only [Rp] at r
    obtain ⟨a, xs, rfl, s, r⟩ := r
    exact ⟨a, xs, rfl, iteT s.seq, r⟩
  cases rv with
  | d x =>
    have r : Rp C.K H x v := P
    cases x <;> simp only [kindOf] at h <;> cases h
    · exact tupC r rfl rfl
    · exact lstC r rfl rfl
  | ow o =>
    obtain ⟨a, rfl, ok⟩ := P
    cases o <;> simp only [kindOf] at h <;> cases h
    obtain ⟨xs, hx, r⟩ := ok
    exact ⟨a, xs, rfl, iteT (.of hx), r⟩
  | al i =>
    obtain ⟨ev, sv, es, _⟩ := P
    simp only [kindOf, es] at h
    split at h
    · rename_i q; cases q; cases h
      obtain ⟨v', e', r⟩ := S.slot i _ _ es ev
      cases e'
      exact tupC r rfl rfl
    · rename_i q; cases q; cases h
      obtain ⟨v', e', r⟩ := S.slot i _ _ es ev
      cases e'
      exact lstC r rfl rfl
    · rename_i q; cases q; cases h
      obtain ⟨a, e', xs, hx, r⟩ := S.slot i _ _ es ev
      cases e'
      exact ⟨a, xs, rfl, iteT (.of hx), r⟩
    · cases h
def dSl (t : DT) (lo hi : DO) : DT := fun ρ Q => t ρ fun x ρ1 => lo ρ1 fun l ρ2 => hi ρ2 fun h ρ3 => match kindOf x ρ3 with
  | some (true, ds) => Q (.ow (.lst (cutD ds l h))) ρ3
  | some (false, ds) => Q (.d (.tup (cutD ds l h))) ρ3
  | none => False
theorem cut_all {n : Nat} {xs : List D} {lo hi : Option Int} (hn : xs.length = n) (h : HT.sIx n 0 lo = 0 ∧ HT.sIx n n hi = n) : cutD xs lo hi = xs := by
  unfold cutD
  subst hn
  rw [h.1, h.2]
  simp
theorem de_slice {t : DT} {lo hi : Option Expr} {l h : DO} {p2 : Pos} (ha : PE X a (lE C t)) (hl : PO X lo (lO C l)) (hh : PO X hi (lO C h)) (hK : C.K = X.K := by rfl) : PE X (.Subscript a (.Slice lo hi none p2) pos) (lE C (dSl t l h)) :=
  (pe_slice (sl_list.or sl_tupA) ha hl hh).weak fun σ H Q ⟨ρ, p, R, S, q, k⟩ => ⟨ρ, p, _, S, q, fun x ρ1 v H1 q1 S1 => ⟨ρ1, _, _, S1, q1, fun lo' ρ2 H2 q2 S2 => ⟨ρ2, _, _, S2, q2, fun hi' ρ3 H3 q3 S3 => by
    split at q3
    · rename_i ds e
      obtain ⟨a, xs, rfl, hq, r⟩ := kind_at S3 (S3.pend _ List.mem_cons_self) e
      rw [if_pos rfl] at hq
      refine .inl ⟨a, xs, rfl, hK ▸ hq, fun p' hp => k _ _ _ _ q3 (S3.pop.pushO hp (same_new hp) ⟨_, upd_same, (cut_rp r lo' hi').imm (Imm.of_same (same_new hp))⟩)⟩
    · rename_i ds e
      obtain ⟨a, xs, rfl, hq, r⟩ := kind_at S3 (S3.pend _ List.mem_cons_self) e
      rw [if_neg Bool.false_ne_true] at hq
      refine .inr ⟨a, xs, rfl, hK ▸ hq, fun w => k _ _ _ _ q3 (S3.pop.pushD ?_), fun w p' hp => k _ _ _ _ q3 ((S3.pop.same (same_new hp)).pushD ?_)⟩
      · rw [cut_all r.length w]
        simp only [Rp]
        exact ⟨a, xs, rfl, hq, r⟩
      · simp only [Rp]
        exact ⟨p', _, rfl, SqT.of upd_same, (cut_rp r lo' hi').imm (Imm.of_same (same_new hp))⟩
    · exact q3.elim⟩⟩⟩
/-! displays -/
def dTup (t : DTA) : DT := fun ρ Q => t ρ fun xs ρ1 => match allD xs with
  | some ds => decide (ds.length ≤ 1000) = true ∧ Q (.d (.tup ds)) ρ1
  | none => False
def dLst (t : DTA) : DT := fun ρ Q => t ρ fun xs ρ1 => match allD xs with
  | some ds => decide (ds.length ≤ 1000) = true ∧ Q (.ow (.lst ds)) ρ1
  | none => False
theorem len1000 {n : Nat} (h : decide (n ≤ 1000) = true) : n ≤ sizeLine := Nat.le_trans (of_decide_eq_true h) (by decide)
theorem de_tup {t : DTA} {j : Nat} (h : PA X es (lA C t)) : PE X (.Tuple es j pos) (lE C (dTup t)) :=
  (pe_tup h).weak fun σ H Q ⟨ρ, p, R, S, q, k⟩ => ⟨ρ, p, _, S, q, fun xs ρ1 vs H1 q1 hl S1 => by
    split at q1
    · rename_i ds e
      have e2 := allD_some e
      subst e2
      have r := SR.popD S1 (by simpa using hl)
      exact ⟨by rw [← r.length]; exact len1000 q1.1, fun p' hp => k _ _ _ _ q1.2 ((S1.popAll.same (same_new hp)).pushD (by
        simp only [Rp]
        exact ⟨p', _, rfl, SqT.of upd_same, r.imm (Imm.of_same (same_new hp))⟩))⟩
    · exact q1.elim⟩
theorem de_lst {t : DTA} (h : PA X es (lA C t)) : PE X (.List es pos) (lE C (dLst t)) :=
  (pe_lst h).weak fun σ H Q ⟨ρ, p, R, S, q, k⟩ => ⟨ρ, p, _, S, q, fun xs ρ1 vs H1 q1 hl S1 => by
    split at q1
    · rename_i ds e
      have e2 := allD_some e
      subst e2
      have r := SR.popD S1 (by simpa using hl)
      exact ⟨by rw [← r.length]; exact len1000 q1.1, fun p' hp => k _ _ _ _ q1.2 (S1.popAll.pushO hp (same_new hp) ⟨_, upd_same, r.imm (Imm.of_same (same_new hp))⟩)⟩
    · exact q1.elim⟩
end
end DL

set_option Elab.async false
set_option linter.all false
set_option maxRecDepth 100000
namespace DL
open PySem PySem.Spec L2
open PyProof.Rows hiding St

section
variable {X : Cx} {C : Fr} {e a b c : Expr} {es rest : List Expr} {pos : Pos}
/-! ### built-in functions -/
abbrev DF := List RV → List SV → (RV → List SV → Prop) → Prop
abbrev DFd := List D → (RV → Prop) → Prop
def dCB (f : DF) (t : DTA) : DT := fun ρ Q => t ρ fun xs ρ1 => f xs ρ1 Q
def ofD (g : DFd) : DF := fun xs ρ Q => match allD xs with
  | some ds => g ds fun z => Q z ρ
  | none => False
abbrev RC := List V → Hp → VK → Prop
def SndC (C : Fr) (r : RC) (f : DF) : Prop := ∀ (ρ : List SV) (σ : St) (p : Pend) (H : Hp) (rvs : List RV) (vs : List V) (R : RV → List SV → Prop) (Q : VK), rvs.length = vs.length → SR C ρ σ (pushAll rvs vs p) H → LenOk C.K H → f rvs ρ R →
  (∀ rv ρ' v H', R rv ρ' → SR C ρ' σ ((rv, v) :: p) H' → Q v H') → r vs H Q
def SndD (C : Fr) (r : RC) (g : DFd) : Prop := ∀ (H : Hp) (ds : List D) (vs : List V) (R : RV → Prop) (Q : VK), RpL C.K H ds vs → LenOk C.K H → g ds R → (∀ rv v H', R rv → Same H H' → RNew C H H' rv v → Q v H') → r vs H Q
theorem SndD.toC {r : RC} {g : DFd} (h : SndD C r g) : SndC C r (ofD g) := fun ρ σ p H rvs vs R Q hl S L q k => by
  unfold ofD at q
  split at q
  · rename_i ds e
    have e2 := allD_some e
    subst e2
    exact h H ds vs _ Q (SR.popD S (by simpa using hl)) L q fun rv v H' hr s hn => k rv ρ v H' hr (S.popAll.pushNew s hn)
  · exact q.elim
theorem _root_.L2.PA.lens {t : TA} (h : PA X es t) : PA X es (fun σ H Q => t σ H fun v H1 => LenOk X.K H1 → Q v H1) :=
  ⟨fun pos pins s σ H Q I q => thn (h.run pos pins s σ H _ I q) fun u s1 ⟨v, H1, I1, r, q1⟩ => ⟨v, H1, I1, r, q1 (lenOk_of I1)⟩⟩
theorem cb_to {r : RC} {f : DF} {t : DTA} (hf : SndC C r f) (hK : C.K = X.K) : ∀ σ H Q, lE C (dCB f t) σ H Q → tCB r (fun σ H Q => lA C t σ H fun v H1 => LenOk X.K H1 → Q v H1) σ H Q :=
  fun σ H Q ⟨ρ, p, R, S, q, k⟩ => ⟨ρ, p, _, S, q, fun rvs ρ1 vs H1 q1 hl S1 L => hf ρ1 σ p H1 rvs vs R Q hl S1 (hK ▸ L) q1 k⟩
theorem de_callB {id : String} {r : RC} {f : DF} {x : Str} {p : Pos} {t : DTA} (hc : CallR X (.builtin id) r) (hf : SndC C r f) (hg : Gl X x) (hm : X.mg x = none) (hv : bootBuiltins x = some (.builtin id)) (ha : PA X (a :: es) (lA C t)) (hK : C.K = X.K := by rfl) (hn : x ≠ "__name__" := by decide) (hdb : (x == ("__debug__" : Str)) = false := by decide)
    (he : starEach (a :: es) X.env = (false, eval a X.env) :: starEach es X.env := by rfl) (hpl : (backTo pos (starEach es X.env)).any (·.1) = false := by rfl) : PE X (.Call (.Name x p) (a :: es) [] pos) (lE C (dCB f t)) :=
  (pe_callB hc hg hm hv ha.lens hn hdb he hpl).weak (cb_to hf hK)
theorem de_callTy {T : String} {r : RC} {f : DF} {x : Str} {p : Pos} {t : DTA} (hc : CallR X (.type T) r) (hf : SndC C r f) (hg : Gl X x) (hm : X.mg x = none) (hv : bootBuiltins x = some (.type T)) (ha : PA X (a :: es) (lA C t)) (hK : C.K = X.K := by rfl) (hn : x ≠ "__name__" := by decide) (hdb : (x == ("__debug__" : Str)) = false := by decide)
    (he : starEach (a :: es) X.env = (false, eval a X.env) :: starEach es X.env := by rfl) (hpl : (backTo pos (starEach es X.env)).any (·.1) = false := by rfl) : PE X (.Call (.Name x p) (a :: es) [] pos) (lE C (dCB f t)) :=
  (pe_callTy hc hg hm hv ha.lens hn hdb he hpl).weak (cb_to hf hK)
theorem Rp.ints {K : PySem.W.Frag} {H : Hp} : ∀ {ns : List Int} {xs : List V}, RpL K H (ns.map .int) xs → xs = ns.map .int
  | [], xs, h => by simp only [List.map_nil, RpL] at h; exact h
  | n :: ns, xs, h => by
    simp only [List.map_cons, RpL] at h
    obtain ⟨v, r, rfl, h1, h2⟩ := h
    rw [Rp.ints h2, show v = .int n from h1]
    rfl
theorem Rp.bls {K : PySem.W.Frag} {H : Hp} : ∀ {ns : List Bool} {xs : List V}, RpL K H (ns.map .bl) xs → xs = ns.map .bl
  | [], xs, h => by simp only [List.map_nil, RpL] at h; exact h
  | n :: ns, xs, h => by
    simp only [List.map_cons, RpL] at h
    obtain ⟨v, r, rfl, h1, h2⟩ := h
    rw [Rp.bls h2, show v = .bl n from h1]
    rfl
theorem one_of {H : Hp} {d : D} {vs : List V} (h : RpL C.K H [d] vs) : ∃ v, vs = [v] ∧ Rp C.K H d v := by
  simp only [RpL] at h
  obtain ⟨v, r, rfl, h1, rfl⟩ := h
  exact ⟨v, rfl, h1⟩
theorem two_of {H : Hp} {d d' : D} {vs : List V} (h : RpL C.K H [d, d'] vs) : ∃ v v', vs = [v, v'] ∧ Rp C.K H d v ∧ Rp C.K H d' v' := by
  simp only [RpL] at h
  obtain ⟨v, r, rfl, h1, v', r', rfl, h2, rfl⟩ := h
  exact ⟨v, v', rfl, h1, h2⟩
/-- int(n), int(True) -/
def gInt : DFd := fun ds R => match ds with
  | [.int i] => R (.d (.int i))
  | [.bl k] => R (.d (.int (if k then 1 else 0)))
  | _ => False
theorem snd_int1 : SndD C (fun xs H Q => (∃ i, xs = [.int i] ∧ Q (.int i) H) ∨ ∃ k, xs = [.bl k] ∧ Q (.int (if k then 1 else 0)) H) gInt := fun H ds vs R Q r _ q k => by
  unfold gInt at q
  split at q
  · obtain ⟨v, rfl, h⟩ := one_of r; exact .inl ⟨_, by rw [show v = _ from h], k _ _ H q (Same.refl H) rfl⟩
  · obtain ⟨v, rfl, h⟩ := one_of r; exact .inr ⟨_, by rw [show v = _ from h], k _ _ H q (Same.refl H) rfl⟩
  · exact q.elim
def gAbs : DFd := fun ds R => match ds with
  | [.int i] => R (.d (.int (if i < 0 then -i else i)))
  | _ => False
theorem snd_abs : SndD C (fun xs H Q => ∃ i, xs = [.int i] ∧ Q (.int (if i < 0 then -i else i)) H) gAbs := fun H ds vs R Q r _ q k => by
  unfold gAbs at q
  split at q
  · obtain ⟨v, rfl, h⟩ := one_of r; exact ⟨_, by rw [show v = _ from h], k _ _ H q (Same.refl H) rfl⟩
  · exact q.elim
def gMax2 : DFd := fun ds R => match ds with
  | [.int i, .int j] => R (.d (.int (if j > i then j else i)))
  | _ => False
theorem snd_max2 : SndD C (fun xs H Q => ∃ i j, xs = [.int i, .int j] ∧ Q (.int (if j > i then j else i)) H) gMax2 := fun H ds vs R Q r _ q k => by
  unfold gMax2 at q
  split at q
  · obtain ⟨v, v', rfl, h, h'⟩ := two_of r; exact ⟨_, _, by rw [show v = _ from h, show v' = _ from h'], k _ _ H q (Same.refl H) rfl⟩
  · exact q.elim
def gMin2 : DFd := fun ds R => match ds with
  | [.int i, .int j] => R (.d (.int (if j < i then j else i)))
  | _ => False
theorem snd_min2 : SndD C (fun xs H Q => ∃ i j, xs = [.int i, .int j] ∧ Q (.int (if j < i then j else i)) H) gMin2 := fun H ds vs R Q r _ q k => by
  unfold gMin2 at q
  split at q
  · obtain ⟨v, v', rfl, h, h'⟩ := two_of r; exact ⟨_, _, by rw [show v = _ from h, show v' = _ from h'], k _ _ H q (Same.refl H) rfl⟩
  · exact q.elim
/-- len of a list, a tuple -/
def gLen : DF := fun xs ρ Q => match xs with
  | [x] => (match seqOf x ρ with
    | some ds => Q (.d (.int (ds.length : Nat))) ρ
    | none => False)
  | _ => False
theorem one_len {vs : List V} {x : RV} (h : [x].length = vs.length) : ∃ v, vs = [v] := by
  cases vs with
  | nil => simp at h
  | cons v vs =>
    cases vs with
    | nil => exact ⟨v, rfl⟩
    | cons _ _ => simp at h
theorem snd_len : SndC C (fun xs H Q => ∃ p ys, xs = [.ref p] ∧ (SqL C.K H p ys ∨ SqT C.K H p ys) ∧ Q (.int ys.length) H) gLen := fun ρ σ p H rvs vs R Q hl S _ q k => by
  unfold gLen at q
  split at q
  · rename_i x
    obtain ⟨v, rfl⟩ := one_len hl
    split at q
    · rename_i ds e
      have S' : SR C ρ σ ((x, v) :: p) H := S
      obtain ⟨a, xs, rfl, hq, r⟩ := seq_at S' (S'.pend _ List.mem_cons_self) e
      exact ⟨a, xs, rfl, hq, by rw [← r.length]; exact k _ _ _ _ q (S'.pop.pushD rfl)⟩
    · exact q.elim
  · exact q.elim
/-- ints of a list of data -/
def intsOf : List D → Option (List Int)
  | [] => some []
  | .int i :: r => (intsOf r).map (i :: ·)
  | _ :: _ => none
theorem intsOf_map : ∀ ns : List Int, intsOf (ns.map .int) = some ns
  | [] => rfl
  | n :: ns => by simp [intsOf, intsOf_map ns]
theorem intsOf_some : ∀ {ds : List D} {ns : List Int}, intsOf ds = some ns → ds = ns.map .int
  | [], ns, h => by cases h; rfl
  | .int x :: r, ns, h => by
    simp only [intsOf, Option.map_eq_some_iff] at h
    obtain ⟨xs, h1, h2⟩ := h
    subst h2
    simp [intsOf_some h1]
  | .non :: r, ns, h => by cases h
  | .bl _ :: r, ns, h => by cases h
  | .str _ :: r, ns, h => by cases h
  | .ref _ :: r, ns, h => by cases h
  | .ty _ :: r, ns, h => by cases h
  | .tup _ :: r, ns, h => by cases h
  | .lst _ :: r, ns, h => by cases h
  | .scr _ :: r, ns, h => by cases h
def blsOf : List D → Option (List Bool)
  | [] => some []
  | .bl i :: r => (blsOf r).map (i :: ·)
  | _ :: _ => none
theorem blsOf_map : ∀ ns : List Bool, blsOf (ns.map .bl) = some ns
  | [] => rfl
  | n :: ns => by simp [blsOf, blsOf_map ns]
theorem blsOf_some : ∀ {ds : List D} {ns : List Bool}, blsOf ds = some ns → ds = ns.map .bl
  | [], ns, h => by cases h; rfl
  | .bl x :: r, ns, h => by
    simp only [blsOf, Option.map_eq_some_iff] at h
    obtain ⟨xs, h1, h2⟩ := h
    subst h2
    simp [blsOf_some h1]
  | .non :: r, ns, h => by cases h
  | .int _ :: r, ns, h => by cases h
  | .str _ :: r, ns, h => by cases h
  | .ref _ :: r, ns, h => by cases h
  | .ty _ :: r, ns, h => by cases h
  | .tup _ :: r, ns, h => by cases h
  | .lst _ :: r, ns, h => by cases h
  | .scr _ :: r, ns, h => by cases h
/-- a function of a sequence of ints -/
def gInts (f : List Int → (D → Prop) → Prop) : DF := fun xs ρ Q => match xs with
  | [x] => (match seqOf x ρ with
    | some ds => (match intsOf ds with
      | some ns => f ns fun z => Q (.d z) ρ
      | none => False)
    | none => False)
  | _ => False
theorem gInts_to {f : List Int → (D → Prop) → Prop} {ρ : List SV} {σ : St} {p : Pend} {H : Hp} {rvs : List RV} {vs : List V} {R : RV → List SV → Prop} (hl : rvs.length = vs.length) (S : SR C ρ σ (pushAll rvs vs p) H) (q : gInts f rvs ρ R) :
    ∃ a ns, vs = [.ref a] ∧ (SqL C.K H a (ns.map V.int) ∨ SqT C.K H a (ns.map V.int)) ∧ f ns (fun z => R (.d z) ρ) ∧ SR C ρ σ p H := by
  unfold gInts at q
  split at q
  · rename_i x
    obtain ⟨v, rfl⟩ := one_len hl
    split at q
    · rename_i ds e
      split at q
      · rename_i ns en
        have S' : SR C ρ σ ((x, v) :: p) H := S
        obtain ⟨a, xs, rfl, hq, r⟩ := seq_at S' (S'.pend _ List.mem_cons_self) e
        rw [intsOf_some en] at r
        rw [Rp.ints r] at hq
        exact ⟨a, ns, rfl, hq, q, S'.pop⟩
      · exact q.elim
    · exact q.elim
  · exact q.elim
def fSum : List Int → (D → Prop) → Prop := fun ns Q => Q (.int ns.sum)
theorem cr_sumD (hc : X.calm = true) : CallR X (.builtin "sum") (fun vs H Q => ∃ (a : Addr) (ns : List Int), vs = [V.ref a] ∧ (SqL X.K H a (ns.map V.int) ∨ SqT X.K H a (ns.map V.int)) ∧ Q (.int ns.sum) H) := by
  intro pins s σ H vs us Q I r h
  obtain ⟨a, ns, rfl, hs, q⟩ := h
  rcases hs with hs | hs
  · exact cr_sum hc pins s σ H _ us Q I r ⟨a, ns, rfl, hs, q⟩
  · obtain ⟨its, rv, hl, _⟩ := I.tuple hs
    rw [Vals.ref1 r]
    have hi := rv.ints
    obtain ⟨xs, hx⟩ := hi.allInts.items
    have hn : numsOf its.toArray.toList = ns := by rw [show its.toArray.toList = its from rfl, hi.numsOf]
    have hl' : s.heap.IsTuple a its.toArray := hl
    rw [hx] at hl' hn
    rw [nums_intItems] at hn
    refine PySem.W.ktm_sumG (I.ok.hd hc) hl' fun h' tk t' hk => ?_
    rw [preSum_eq, List.take_of_length_le (by simp), hn]
    exact ⟨.int _, H, I.kept hk, ⟨_, rfl⟩, q⟩
theorem snd_sum : SndC C (fun vs H Q => ∃ (a : Addr) (ns : List Int), vs = [V.ref a] ∧ (SqL C.K H a (ns.map V.int) ∨ SqT C.K H a (ns.map V.int)) ∧ Q (.int ns.sum) H) (gInts fSum) := fun ρ σ p H rvs vs R Q hl S _ q k => by
  obtain ⟨a, ns, rfl, hq, q, S'⟩ := gInts_to hl S q
  exact ⟨a, ns, rfl, hq, k _ _ _ _ q (S'.pushD rfl)⟩
/-- tuple(xs), list(xs) -/
def gTuple : DF := fun xs ρ Q => match xs with
  | [x] => (match seqOf x ρ with
    | some ds => Q (.d (.tup ds)) ρ
    | none => False)
  | _ => False
def gList : DF := fun xs ρ Q => match xs with
  | [x] => (match seqOf x ρ with
    | some ds => Q (.ow (.lst ds)) ρ
    | none => False)
  | _ => False
theorem snd_tuple : SndC C (fun xs H Q => ∃ p ys, xs = [.ref p] ∧ ((SqL C.K H p ys ∧ ∀ l, H l = none → Q (.ref l) (upd H l (.tup ys))) ∨ (SqT C.K H p ys ∧ Q (.ref p) H))) gTuple := fun ρ σ p H rvs vs R Q hl S _ q k => by
  unfold gTuple at q
  split at q
  · rename_i x
    obtain ⟨v, rfl⟩ := one_len hl
    split at q
    · rename_i ds e
      have S' : SR C ρ σ ((x, v) :: p) H := S
      obtain ⟨a, xs, rfl, hq, r⟩ := seq_at S' (S'.pend _ List.mem_cons_self) e
      refine ⟨a, xs, rfl, ?_⟩
      rcases hq with hq | hq
      · refine .inl ⟨hq, fun l hp => k _ _ _ _ q ((S'.pop.same (same_new hp)).pushD ?_)⟩
        simp only [Rp]
        exact ⟨l, _, rfl, SqT.of upd_same, r.imm (Imm.of_same (same_new hp))⟩
      · refine .inr ⟨hq, k _ _ _ _ q (S'.pop.pushD ?_)⟩
        simp only [Rp]
        exact ⟨a, xs, rfl, hq, r⟩
    · exact q.elim
  · exact q.elim
theorem snd_list : SndC C (fun xs H Q => ∃ p ys, xs = [.ref p] ∧ (SqL C.K H p ys ∨ SqT C.K H p ys) ∧ ∀ l, H l = none → Q (.ref l) (upd H l (.lst ys))) gList := fun ρ σ p H rvs vs R Q hl S _ q k => by
  unfold gList at q
  split at q
  · rename_i x
    obtain ⟨v, rfl⟩ := one_len hl
    split at q
    · rename_i ds e
      have S' : SR C ρ σ ((x, v) :: p) H := S
      obtain ⟨a, xs, rfl, hq, r⟩ := seq_at S' (S'.pend _ List.mem_cons_self) e
      exact ⟨a, xs, rfl, hq, fun l hp => k _ _ _ _ q (S'.pop.pushO hp (same_new hp) ⟨_, upd_same, r.imm (Imm.of_same (same_new hp))⟩)⟩
    · exact q.elim
  · exact q.elim
/-- all, any of a list of bools -/
def gBls (f : List Bool → D) : DF := fun xs ρ Q => match xs with
  | [x] => (match kindOf x ρ with
    | some (true, ds) => (match blsOf ds with
      | some ns => Q (.d (f ns)) ρ
      | none => False)
    | _ => False)
  | _ => False
theorem gBls_to {f : List Bool → D} {ρ : List SV} {σ : St} {p : Pend} {H : Hp} {rvs : List RV} {vs : List V} {R : RV → List SV → Prop} (hl : rvs.length = vs.length) (S : SR C ρ σ (pushAll rvs vs p) H) (q : gBls f rvs ρ R) :
    ∃ a ns, vs = [.ref a] ∧ SqL C.K H a (ns.map V.bl) ∧ R (.d (f ns)) ρ ∧ SR C ρ σ p H := by
  unfold gBls at q
  split at q
  · rename_i x
    obtain ⟨v, rfl⟩ := one_len hl
    split at q
    · rename_i ds e
      split at q
      · rename_i ns en
        have S' : SR C ρ σ ((x, v) :: p) H := S
        obtain ⟨a, xs, rfl, hq, r⟩ := kind_at S' (S'.pend _ List.mem_cons_self) e
        rw [if_pos rfl] at hq
        rw [blsOf_some en] at r
        rw [Rp.bls r] at hq
        exact ⟨a, ns, rfl, hq, q, S'.pop⟩
      · exact q.elim
    · exact q.elim
  · exact q.elim
theorem snd_all : SndC C (rAll C.K) (gBls fun bs => .bl (bs.all id)) := fun ρ σ p H rvs vs R Q hl S _ q k => by
  obtain ⟨a, ns, rfl, hq, q, S'⟩ := gBls_to hl S q
  exact ⟨a, ns, rfl, hq, k _ _ _ _ q (S'.pushD rfl)⟩
theorem snd_any : SndC C (rAny C.K) (gBls fun bs => .bl (bs.any id)) := fun ρ σ p H rvs vs R Q hl S _ q k => by
  obtain ⟨a, ns, rfl, hq, q, S'⟩ := gBls_to hl S q
  exact ⟨a, ns, rfl, hq, k _ _ _ _ q (S'.pushD rfl)⟩
/-- isinstance(x, T), T a built-in type by its name -/
def D.tyn : D → Option String
  | .non => some "NoneType"
  | .bl _ => some "bool"
  | .int _ => some "int"
  | .str _ => some "str"
  | .tup _ => some "tuple"
  | .lst _ => some "list"
  | _ => none
def gIs : DFd := fun ds R => match ds with
  | [x, .ty n] => (match x.tyn with
    | some m => (match kitB m n with
      | some k => R (.d (.bl k))
      | none => False)
    | none => False)
  | _ => False
theorem Rp.tyx {K : PySem.W.Frag} {H : Hp} : ∀ {d : D} {v : V} {m : String}, Rp K H d v → d.tyn = some m → TyX K H v (.type m)
  | .non, _, _, h, e => by cases h; cases e; exact .base .non
  | .bl _, _, _, h, e => by cases h; cases e; exact .base (.bl _)
  | .int _, _, _, h, e => by cases h; cases e; exact .base (.int _)
  | .str _, _, _, h, e => by cases h; cases e; exact .base (.str _)
  | .ref _, _, _, _, e => by cases e
  | .ty _, _, _, _, e => by cases e
  | .tup ds, v, _, h, e => by
    cases e
    simp only [Rp] at h
    obtain ⟨a, xs, rfl, s, _⟩ := h
    rcases s with (s | ⟨o, s⟩) | ⟨o, _, _, hk, hc, _⟩
    · exact .base (.tup s)
    · exact .fTuple s
    · exact .kTuple hk hc
  | .lst ds, v, _, h, e => by
    cases e
    simp only [Rp] at h
    obtain ⟨a, xs, rfl, ⟨o, s⟩, _⟩ := h
    exact .base (.frz s)
  | .scr _, _, _, _, e => by cases e
theorem snd_is : SndD C (rIsi C.K) gIs := fun H ds vs R Q r _ q k => by
  unfold gIs at q
  split at q
  · rename_i x n
    obtain ⟨v, v', rfl, h, h'⟩ := two_of r
    split at q
    · rename_i m em
      split at q
      · rename_i b eb
        exact ⟨v, v', .type m, .type n, b, rfl, by rw [show v' = _ from h']; exact .ty n, h.tyx em, kit_ty eb, k _ _ H q (Same.refl H) rfl⟩
      · exact q.elim
    · exact q.elim
  · exact q.elim
/-- a built-in type as a value -/
theorem de_ty {x : Str} {n : String} (hg : Gl X x) (hm : X.mg x = none) (hv : bootBuiltins x = some (.type n)) (hn : x ≠ "__name__" := by decide) (hd : (x == ("__debug__" : Str)) = false := by decide) : PE X (.Name x pos) (lE C (dC (.ty n))) :=
  de_c (pe_bltn hg hm hv (v := .ty n) rfl hn hd) fun _ _ => rfl
theorem de_int {i : Int} {j : Nat} : PE X (.Constant (.int i) j pos) (lE C (dC (.int i))) := de_c pe_int fun _ _ => rfl
theorem de_bl {i : Bool} {j : Nat} : PE X (.Constant (.bool i) j pos) (lE C (dC (.bl i))) := de_c pe_bl fun _ _ => rfl
theorem de_non {j : Nat} : PE X (.Constant .none j pos) (lE C (dC .non)) := de_c pe_non fun _ _ => rfl
theorem de_str {x : Str} {j : Nat} : PE X (.Constant (.str x) j pos) (lE C (dC (.str x))) := de_c pe_str fun _ _ => rfl
theorem de_glob {x : Str} {v : V} {d : D} {u : Value} (hg : Gl X x) (hm : X.mg x = some u) (r : RelV v u) (hr : ∀ K H, Rp K H d v) (hd : (x == ("__debug__" : Str)) = false := by decide) : PE X (.Name x pos) (lE C (dC d)) := de_c (pe_glob hg hm r hd) hr
end
end DL

set_option Elab.async false
set_option linter.all false
set_option maxRecDepth 100000
namespace DL
open PySem PySem.Spec L2
open PyProof.Rows hiding St

/-! ### promises over data -/
def bas (P : Program) (w : World) (K : PySem.W.Frag) : Fr := ⟨P, w, K, fun _ => none, none⟩
theorem OVok.any {C C' : Fr} (h1 : C.P = C'.P) (h2 : C.w = C'.w) (h3 : C.K = C'.K) {H : Hp} {a : Addr} : ∀ {o : OV}, OVok C H a o → OVok C' H a o
  | .lst ds, h => by
    obtain ⟨xs, e, r⟩ := h
    exact ⟨xs, e, h3 ▸ r⟩
  | .dk kvs, h => by
    obtain ⟨xs, e, r⟩ := h
    exact ⟨xs, e, h3 ▸ r⟩
  | .dn kvs, h => by
    obtain ⟨xs, e, r⟩ := h
    exact ⟨xs, by rw [← h1, ← h2]; exact e, by rw [← h3]; exact r⟩
theorem RNew.any {C C' : Fr} (h1 : C.P = C'.P) (h2 : C.w = C'.w) (h3 : C.K = C'.K) {H H' : Hp} {rv : RV} {v : V} (h : RNew C H H' rv v) : RNew C' H H' rv v := by
  cases rv with
  | d x => exact (show Rp C'.K H' x v from h3 ▸ (show Rp C.K H' x v from h))
  | ow o =>
    obtain ⟨a, e, n, ok⟩ := h
    exact ⟨a, e, n, ok.any h1 h2 h3⟩
  | al i => exact h
def SameBut (j : Addr) (H H' : Hp) : Prop := ∀ b o, b ≠ j → H b = some o → H' b = some o
abbrev DJ := OV → List D → (RV → OV → Prop) → Prop
/-- a def of data: nothing that stood is changed -/
def spP (B : Fr) (n : Nat) (t : DFd) : Sp := fun vs H Q _ => ∃ ds R, ds.length = n ∧ RpL B.K H ds vs ∧ t ds R ∧ ∀ rv v H', R rv → Same H H' → RNew B H H' rv v → Q v H'
/-- a def whose first argument is a list that it writes -/
def spJ (B : Fr) (n : Nat) (t : DJ) : Sp := fun vs H Q _ => ∃ j vs' o ds R, vs = .ref j :: vs' ∧ ds.length = n ∧ OVok B H j o ∧ RpL B.K H ds vs' ∧ t o ds R ∧ ∀ rv o' v H', R rv o' → SameBut j H H' → OVok B H' j o' → RNew B H H' rv v → Q v H'
def jOf (t : DJ) : DF := fun xs ρ Q => match xs with
  | .al i :: r => (match ρ[i]?, allD r with
    | some (.ow o), some ds => t o ds fun rv o' => Q rv (ρ.set i (.ow o'))
    | _, _ => False)
  | _ => False
def gN (n : Nat) (t : DFd) : DFd := fun ds R => ds.length = n ∧ t ds R
def jN (n : Nat) (t : DJ) : DJ := fun o ds R => ds.length = n ∧ t o ds R
section
variable {X : Cx} {C : Fr} {e a b c : Expr} {es rest : List Expr} {pos : Pos}
theorem snd_spP {P : Program} {w : World} {K : PySem.W.Frag} {n : Nat} {t : DFd} {E : XK} (h1 : C.P = P) (h2 : C.w = w) (h3 : C.K = K) : SndD C (fun vs H Q => spP (bas P w K) n t (vs ++ []) H Q E) (gN n t) := fun H ds vs R Q r _ q k => by
  show spP (bas P w K) n t (vs ++ []) H Q E
  rw [List.append_nil]
  exact ⟨ds, R, q.1, h3 ▸ r, q.2, fun rv v H' hr s hn => k rv v H' hr s (hn.any h1.symm h2.symm h3.symm)⟩
theorem snd_spJ {P : Program} {w : World} {K : PySem.W.Frag} {n : Nat} {t : DJ} {E : XK} (h1 : C.P = P) (h2 : C.w = w) (h3 : C.K = K) : SndC C (fun vs H Q => spJ (bas P w K) n t (vs ++ []) H Q E) (jOf (jN n t)) := fun ρ σ p H rvs vs R Q hl S _ q k => by
  show spJ (bas P w K) n t (vs ++ []) H Q E
  rw [List.append_nil]
  unfold jOf at q
  split at q
  · rename_i i r
    cases vs with
    | nil => simp at hl
    | cons v vs =>
      split at q
      · rename_i o ds eo ed
        have e2 := allD_some ed
        subst e2
        have S' : SR C ρ σ (pushAll (ds.map .d) vs ((.al i, v) :: p)) H := S
        have rr := SR.popD S' (by simpa using hl)
        have S0 := S'.popAll
        obtain ⟨ev, sv, es, _⟩ := S0.pend _ List.mem_cons_self
        dsimp only at ev es
        rw [eo] at es; cases es
        obtain ⟨j, ej, ok⟩ := S0.slot i _ _ eo ev
        cases ej
        refine ⟨j, vs, o, ds, _, rfl, q.1, ok.any h1 h2 h3, h3 ▸ rr, q.2, fun rv o' v' H' hr sb ok' hn => ?_⟩
        refine k rv _ v' H' hr ?_
        have Sp := S0.pop
        obtain ⟨u, hu, mu⟩ := ok.there
        have m : Imm H H' := ⟨fun b xs hb => sb b _ (fun z => by rw [z, hu] at hb; cases hb; exact mu) hb, fun b o xs hb => sb b _ (fun z => by rw [z, hu] at hb; cases hb; exact mu) hb⟩
        have hj : j ∈ adrs ρ σ p := adr_slot Sp.len eo ev rfl
        have hne : ∀ c o, C.b ≠ some c → C.H0 c = some o → c ≠ j := fun c o n hc z => by
          subst z
          rcases Sp.new _ hj with q | q
          · exact n q
          · rw [q] at hc; cases hc
        have S2 : SR C (ρ.set i (.ow o')) σ p H' := Sp.put eo ev (fun b z => z) m (fun b hb z => by
          obtain ⟨ub, hub, _⟩ := adr_there Sp b hb
          rw [hub]
          exact sb b ub (fun w => z (by rw [w]; rfl)) hub) (fun c w n hc => sb c w (hne c w n hc) (Sp.keep c w n hc)) ⟨j, rfl, ok'.any h1.symm h2.symm h3.symm⟩ (.inl fun z => by cases z)
        have hn := hn.any (C := bas P w K) (C' := C) h1.symm h2.symm h3.symm
        cases rv with
        | d x => exact S2.pushD hn
        | al i => exact hn.elim
        | ow o2 =>
          obtain ⟨a, rfl, na, oka⟩ := hn
          refine S2.push ⟨a, rfl, oka⟩ fun b eb => ?_
          have eab : a = b := Option.some.inj eb
          subst eab
          refine ⟨fun z => ?_, ?_⟩
          · have z2 : a ∈ adrs ρ σ p := by
              unfold adrs at z ⊢
              have zs : (ρ.set i (.ow o')).zip σ = (ρ.zip σ).set i (.ow o', some (.ref j)) := by
                have := zip_set (ρ := ρ) (σ := σ) (i := i) (sv := .ow o') (ov := some (.ref j))
                rwa [set_self ev] at this
              rw [zs] at z
              rcases List.mem_append.mp z with w | w
              · exact List.mem_append_left _ w
              · rcases adrs_set_sub w with w | w
                · cases w
                  rw [hu] at na; cases na
                · exact List.mem_append_right _ w
            obtain ⟨ua, hua, _⟩ := adr_there Sp a z2
            rw [na] at hua; cases hua
          · by_cases q : C.b = some a
            · exact .inl q
            · refine .inr ?_
              cases h0 : C.H0 a with
              | none => rfl
              | some u => rw [Sp.keep a u q h0] at na; cases na
      · exact q.elim
  · exact q.elim
/-- what a call takes: the def, its promise, how deep it goes -/
structure Own (X : Cx) (k : Nat) (x : Str) (f : Addr) (fd : FuncData) (ps : List Str) (sp : Sp) : Prop where
  ok : FnOk X.prog X.w X.K X.mg X.base CX0 k f fd ps sp
  gl : X.mg x = some (.ref f)
  kp : PySem.W.keepIn X.K (.ref f) = true
  bd : Binds X.K fd ps []
theorem de_call {k n : Nat} {x : Str} {f : Addr} {fd : FuncData} {ps : List Str} {t : DFd} {p : Pos} {ta : DTA} (F : Own X k x f fd ps (spP (bas X.prog X.w X.K) n t)) (hr : Room k X.A) (hg : Gl X x) (ha : PA X (a :: es) (lA C ta))
    (h1 : C.P = X.prog := by rfl) (h2 : C.w = X.w := by rfl) (h3 : C.K = X.K := by rfl) (hdb : (x == ("__debug__" : Str)) = false := by decide) (he : starEach (a :: es) X.env = (false, eval a X.env) :: starEach es X.env := by rfl)
    (hpl : (backTo pos (starEach es X.env)).any (·.1) = false := by rfl) : PE X (.Call (.Name x p) (a :: es) [] pos) (lE C (dCB (ofD (gN n t)) ta)) :=
  (pe_call F.ok hr hg F.gl F.kp F.bd .nil pass0 ha.lens hdb he hpl).weak (cb_to (r := fun vs H Q => spP (bas X.prog X.w X.K) n t (vs ++ []) H Q E0) (snd_spP h1 h2 h3).toC h3)
theorem de_callJ {k n : Nat} {x : Str} {f : Addr} {fd : FuncData} {ps : List Str} {t : DJ} {p : Pos} {ta : DTA} (F : Own X k x f fd ps (spJ (bas X.prog X.w X.K) n t)) (hr : Room k X.A) (hg : Gl X x) (ha : PA X (a :: es) (lA C ta))
    (h1 : C.P = X.prog := by rfl) (h2 : C.w = X.w := by rfl) (h3 : C.K = X.K := by rfl) (hdb : (x == ("__debug__" : Str)) = false := by decide) (he : starEach (a :: es) X.env = (false, eval a X.env) :: starEach es X.env := by rfl)
    (hpl : (backTo pos (starEach es X.env)).any (·.1) = false := by rfl) : PE X (.Call (.Name x p) (a :: es) [] pos) (lE C (dCB (jOf (jN n t)) ta)) :=
  (pe_call F.ok hr hg F.gl F.kp F.bd .nil pass0 ha.lens hdb he hpl).weak (cb_to (r := fun vs H Q => spJ (bas X.prog X.w X.K) n t (vs ++ []) H Q E0) (snd_spJ h1 h2 h3) h3)
theorem de_call0 {k : Nat} {x : Str} {f : Addr} {fd : FuncData} {ps : List Str} {t : DFd} {p : Pos} (F : Own X k x f fd ps (spP (bas X.prog X.w X.K) 0 t)) (hr : Room k X.A) (hg : Gl X x)
    (h1 : C.P = X.prog := by rfl) (h2 : C.w = X.w := by rfl) (h3 : C.K = X.K := by rfl) (hdb : (x == ("__debug__" : Str)) = false := by decide) : PE X (.Call (.Name x p) [] [] pos) (lE C (dCB (ofD (gN 0 t)) dNil)) :=
  (pe_call0 (pos := pos) (p := p) F.ok hr hg F.gl F.kp F.bd .nil pass0 hdb).weak fun σ H Q ⟨ρ, p, R, S, q, k⟩ => ⟨[], fun rv => R rv ρ, rfl, RpL.nil, q.2, fun rv v H' hr s hn => k rv ρ v H' hr (S.pushNew s (hn.any h1.symm h2.symm h3.symm))⟩

/-! ### statements -/
def dSeq (t u : DTS) : DTS := fun D ρ => t { D with nx := u D } ρ
def dSkip : DTS := fun D ρ => D.nx ρ
variable {st : Stmt} {sts : List Stmt}
theorem dss_nil : PSs X [] (lS C dSkip) := pss_nil.weak fun D σ H ⟨ρ, p, R, hp, S, q, k1, _⟩ => k1 _ _ _ q S
theorem dss_one {t : DTS} (h : PS X st (lS C t)) : PSs X [st] (lS C t) := pss_one h
theorem dss_cons {t u : DTS} (h1 : PS X st (lS C t)) (h2 : PSs X sts (lS C u)) : PSs X (st :: sts) (lS C (dSeq t u)) :=
  (pss_cons h1 h2).weak fun D σ H ⟨ρ, p, R, hp, S, q, k1, k2, k3, k4⟩ => ⟨ρ, p, _, hp, S, q, fun ρ' σ' H' q' S' => ⟨ρ', p, R, hp, S', q', k1, k2, k3, k4⟩, k2, k3, k4⟩
def dRet (t : DT) : DTS := fun D ρ => t ρ D.rt
theorem ds_ret {t : DT} (h : PE X e (lE C t)) : PS X (.Return (some e) pos) (lS C (dRet t)) :=
  (ps_ret h).weak fun D σ H ⟨ρ, p, R, hp, S, q, k1, k2, k3, k4⟩ => ⟨ρ, p, _, S, q, fun rv ρ' v H' q' S' => k2 rv ρ' σ v H' q' S'⟩
def dDrop (t : DT) : DTS := fun D ρ => t ρ fun _ ρ1 => D.nx ρ1
theorem ds_expr {t : DT} (h : PE X e (lE C t)) (hs : swapsWith e none pos.line X.env = pure false := by rfl) : PS X (.Expr e pos) (lS C (dDrop t)) :=
  (ps_expr h hs).weak fun D σ H ⟨ρ, p, R, hp, S, q, k1, k2, k3, k4⟩ => ⟨ρ, p, _, S, q, fun rv ρ' v H' q' S' => k1 ρ' σ H' q' S'.pop⟩
def dIfS (c : DTT) (t u : DTS) : DTS := fun D ρ => c ρ fun k ρ1 => if k = true then t D ρ1 else u D ρ1
theorem ds_if {c' : DTT} {x y : List Stmt} {t u : DTS} (hc : PT X c (lT C c')) (h1 : PSs X x (lS C t)) (h2 : PSs X y (lS C u)) : PS X (.If c x y pos) (lS C (dIfS c' t u)) :=
  (ps_if hc h1 h2).weak fun D σ H ⟨ρ, p, R, hp, S, q, ks⟩ => ⟨ρ, p, _, S, q, fun k ρ1 H1 q1 S1 => by
    cases k with
    | true => exact iteT ⟨ρ1, p, R, hp, S1, q1, ks⟩
    | false => exact iteF ⟨ρ1, p, R, hp, S1, q1, ks⟩⟩
def dNever : DTS := fun _ _ => False
theorem ds_never : PS X st (lS C dNever) := ps_never.weak fun D σ H ⟨ρ, p, R, hp, S, q, _⟩ => q
theorem dss_never : PSs X sts (lS C dNever) := pss_never.weak fun D σ H ⟨ρ, p, R, hp, S, q, _⟩ => q
theorem ds_pass : PS X (.Pass pos) (lS C dSkip) := ps_pass.weak fun D σ H ⟨ρ, p, R, hp, S, q, k1, _⟩ => k1 _ _ _ q S
/-! targets -/
def gN1 (i : Nat) : DG := fun rv ρ Q => match rv with
  | .d x => Q (ρ.set i (.d x))
  | .ow o => Q (ρ.set i (.ow o))
  | .al j => (match ρ[j]? with
    | some (.d x) => Q (ρ.set i (.d x))
    | some (.ow o) => i ≠ j ∧ Q ((ρ.set j .un).set i (.ow o))
    | _ => False)
/-- a def's first slot is not stored to, where it is written through -/
theorem dg_name {i : Nat} {x : Str} (hN : X.N.Nodup) (hi : X.N[i]? = some x) (hx : Loc X.env.scope x) (hb : C.b = none ∨ i ≠ 0) (hf : X.fn x = true ∨ X.env.scope.names.lookup x = some .local := by first | exact .inl rfl | exact .inr rfl | assumption) :
    PG X (.Name x pos) (lG C [i] (gN1 i)) :=
  (pg_name hN hi hx hf).weak fun v σ H Q ⟨ρ, p, rv, R, hw, hd, S, q, k⟩ => by
    have hp : ∀ q ∈ p, q.1 ≠ .al i := hw i List.mem_cons_self
    cases rv with
    | d x => exact k _ _ _ q (S.assign (.inl ⟨x, rfl, rfl⟩) hp hb) (SOut.set _ _)
    | ow o => exact k _ _ _ q (S.assign (.inr ⟨o, rfl, rfl⟩) hp hb) (SOut.set _ _)
    | al j =>
      obtain ⟨ev, sv, es, hne⟩ := S.pend _ List.mem_cons_self
      dsimp only [gN1] at q ev es
      rw [es] at q
      cases sv with
      | un => exact q.elim
      | d x =>
        obtain ⟨v', e', r⟩ := S.slot j _ _ es ev
        cases e'
        exact k _ _ _ q ((S.pop.pushD r).assign (.inl ⟨x, rfl, rfl⟩) hp hb) (SOut.set _ _)
      | ow o =>
        obtain ⟨hij, q⟩ := q
        refine k _ _ _ q ?_ (SOut.set _ _)
        obtain ⟨a, e', ok⟩ := S.slot j _ _ es ev
        cases e'
        have S0 := S.pop
        -- j lets go, the object is pending
        have ha : a ∈ adrs ρ σ p := adr_slot S0.len es ev rfl
        have zs : (ρ.set j .un).zip σ = (ρ.zip σ).set j (.un, some (.ref a)) := by
          have := zip_set (ρ := ρ) (σ := σ) (i := j) (sv := .un) (ov := some (.ref a))
          rwa [set_self ev] at this
        have at_j : (ρ.zip σ)[j]? = some (.ow o, some (.ref a)) := by rw [List.getElem?_zip_eq_some]; exact ⟨es, ev⟩
        have ndz : ((ρ.zip σ).filterMap adrS).Nodup := S0.sep.sublist (List.sublist_append_right _ _)
        have hal : ∀ q ∈ p, q.1 ≠ .al j := (hd.resolve_left fun ⟨x, e⟩ => by cases e).nal j
        · have S1 : SR C (ρ.set j .un) σ p H := S0.forget es hal
          have na : a ∉ adrs (ρ.set j .un) σ p := fun z => by
            unfold adrs at z
            rw [zs] at z
            rcases List.mem_append.mp z with w | w
            · exact (List.nodup_append.mp S0.sep).2.2 a w a (List.mem_filterMap.mpr ⟨_, List.mem_of_getElem? at_j, rfl⟩) rfl
            · obtain ⟨r, hr, er⟩ := List.mem_filterMap.mp w
              obtain ⟨m, hm⟩ := List.getElem?_of_mem hr
              rw [List.getElem?_set] at hm
              split at hm
              · split at hm
                · cases hm; cases er
                · cases hm
              · rename_i hjm
                exact hjm (adr_inj ndz at_j hm rfl er)
          have S2 : SR C (ρ.set j .un) σ ((.ow o, .ref a) :: p) H := S1.push ⟨a, rfl, ok⟩ fun b eb => by
            cases eb
            exact ⟨na, S0.new a ha⟩
          exact S2.assign (.inr ⟨o, rfl, rfl⟩) hp hb
end
end DL

set_option Elab.async false
set_option linter.all false
set_option maxRecDepth 100000
namespace DL
open PySem PySem.Spec L2
open PyProof.Rows hiding St

section
variable {X : Cx} {C : Fr} {e a b c : Expr} {es rest : List Expr} {pos : Pos} {st : Stmt} {sts : List Stmt}
/-! ### target = value -/
def dAsg (t : DT) (g : DG) : DTS := fun D ρ => t ρ fun rv ρ1 => g rv ρ1 D.nx
theorem ds_asg {tg : Expr} {ws : List Nat} {t : DT} {g : DG} (he : PE X e (lE C t)) (hg : PG X tg (lG C ws g)) (hs : swapsWithSole [tg] e pos.line X.env = pure false := by rfl) (hw : swappedStores [tg] e X.env = pure none := by rfl)
    (h1 : (assignEach [tg] X.env).map (·.2) = [assign tg X.env] := by rfl) : PS X (.Assign [tg] e pos) (lS C (dAsg t g)) :=
  (ps_asg he hg hs hw h1).weak fun D σ H ⟨ρ, p, R, hp, S, q, k1, k2, k3, k4⟩ => ⟨ρ, p, _, S, q, fun rv ρ1 v H1 q1 S1 => ⟨ρ1, p, rv, R.nx, fun i _ => hp.nal i, .inr hp, S1, q1, fun ρ' σ' H' q' S' _ => k1 ρ' σ' H' q' S'⟩⟩
/-! tuples of targets -/
def gsNil : DGs := fun ds ρ Q => match ds with
  | [] => Q ρ
  | _ => False
def gsCons (g : DG) (u : DGs) : DGs := fun ds ρ Q => match ds with
  | d :: r => g (.d d) ρ fun ρ1 => u r ρ1 Q
  | [] => False
theorem dgs_nil {ws : List Nat} : PGs X [] (lGs C ws gsNil) :=
  pgs_nil.weak fun vs σ H Q ⟨ρ, p, ds, R, hw, hl, S, q, k⟩ => by
    cases ds with
    | nil =>
      cases vs with
      | nil => exact ⟨rfl, k _ _ _ q S (SOut.refl _ _)⟩
      | cons _ _ => simp at hl
    | cons _ _ => exact q.elim
theorem dgs_cons {ws ws1 ws2 : List Nat} {g : DG} {u : DGs} (h1 : PG X e (lG C ws1 g)) (h2 : PGs X es (lGs C ws2 u)) (hw : ws = ws1 ++ ws2 := by rfl) (hs : (assignEach (e :: es) X.env).map (·.2) = assign e X.env :: (assignEach es X.env).map (·.2) := by rfl) : PGs X (e :: es) (lGs C ws (gsCons g u)) :=
  (pgs_cons h1 h2 hs).weak fun vs σ H Q ⟨ρ, p, ds, R, hw', hl, S, q, k⟩ => by
    subst hw
    cases ds with
    | nil => exact q.elim
    | cons d ds =>
      cases vs with
      | nil => simp at hl
      | cons v vs =>
        refine ⟨v, vs, rfl, ρ, (ds.map RV.d).zip vs ++ p, .d d, fun ρ1 => u ds ρ1 R, fun i hi q hq => ?_, .inl ⟨d, rfl⟩, S, q, fun ρ1 σ1 H1 q1 S1 o1 => ⟨ρ1, p, ds, R, fun i hi => hw' i (List.mem_append_right _ hi), by simpa using hl, S1, q1, fun ρ2 σ2 H2 q2 S2 o2 => k ρ2 σ2 H2 q2 S2 (o1.app o2)⟩⟩
        rcases List.mem_append.mp hq with z | z
        · obtain ⟨x, hx, ex⟩ := List.mem_map.mp (List.of_mem_zip (a := q.1) (b := q.2) z).1
          rw [← ex]
          exact fun z => by cases z
        · exact hw' i (List.mem_append_left _ hi) q z
def gTupD (n : Nat) (u : DGs) : DG := fun rv ρ Q => match rv with
  | .d (.tup ds) => ds.length = n ∧ u ds ρ Q
  | _ => False
theorem SR.zipD {ρ : List SV} {σ : St} {p : Pend} {H : Hp} (S : SR C ρ σ p H) : ∀ {ds : List D} {vs : List V}, RpL C.K H ds vs → SR C ρ σ ((ds.map RV.d).zip vs ++ p) H
  | [], _, _ => S
  | d :: ds, vs, h => by
    simp only [RpL] at h
    obtain ⟨v, r, rfl, h1, h2⟩ := h
    exact (SR.zipD S h2).pushD h1
theorem dg_tup {ws : List Nat} {j n : Nat} {u : DGs} (hc : X.calm = true) (h : PGs X es (lGs C ws u)) (hK : C.K = X.K := by rfl) (hn : (assignEach es X.env).length = n := by rfl) (hst : (assignEach es X.env).findIdx? (·.1) = none := by rfl) : PG X (.Tuple es j pos) (lG C ws (gTupD n u)) :=
  (pg_tup hc h hn hst).weak fun v σ H Q ⟨ρ, p, rv, R, hw, hd, S, q, k⟩ => by
    unfold gTupD at q
    split at q
    · rename_i ds
      have r := S.pend _ List.mem_cons_self
      have r : Rp C.K H (.tup ds) v := r
      simp only [Rp] at r
      obtain ⟨a, xs, rfl, hq, hr⟩ := r
      exact ⟨a, xs, rfl, hK ▸ hq, hr.length.symm.trans q.1, ρ, p, ds, R, hw, hr.length, S.pop.zipD hr, q.2, k⟩
    · exact q.elim
/-! xs[i] = v, xs an owned list -/
def gStL (t u : DT) : DG := fun rv ρ Q => t ρ fun x ρ1 => u ρ1 fun y ρ2 => match rv, x, y with
  | .d z, .al i, .d (.int k) => (match ρ2[i]? with
    | some (.ow (.lst ds)) => (match ixN ds.length k with
      | some j => Q (ρ2.set i (.ow (.lst (ds.set j z))))
      | none => False)
    | _ => False)
  | _, _, _ => False
theorem dg_stL {t u : DT} (ha : PE X a (lE C t)) (hb : PE X b (lE C u))
    (hs : ∀ v, assign (.Subscript a b pos) X.env v = (do
      let ov ← holding [v] (eval a X.env)
      let iv ← holding [v, ov] (eval b X.env)
      standAt pos
      holding [v, ov, iv] (setItem ov iv v)
      release [v, ov, iv] []) := by intro _; rfl) : PG X (.Subscript a b pos) (lG C [] (gStL t u)) :=
  (pg_sub ha hb set_list hs).weak fun v σ H Q ⟨ρ, p, rv, R, hw, hd, S, q, k⟩ => ⟨ρ, _, _, S, q, fun x ρ1 vx H1 q1 S1 => ⟨ρ1, _, _, S1, q1, fun y ρ2 vy H2 q2 S2 => by
    split at q2
    · rename_i z i kk
      split at q2
      · rename_i ds es
        split at q2
        · rename_i j ej
          have S3 := S2.pop
          obtain ⟨ev, _⟩ := S3.pend _ List.mem_cons_self
          dsimp only at ev
          obtain ⟨a', e', xs, hx, r⟩ := S3.slot i _ _ es ev
          cases e'
          have S4 := S3.pop
          have rz : Rp C.K H2 z v := S4.pend _ List.mem_cons_self
          have m : Imm H2 (upd H2 a' (.lst (xs.set j v))) := imm_upd hx trivial
          refine ⟨a', xs, kk, j, rfl, S2.pend _ List.mem_cons_self, hx, by rw [← r.length]; exact ej, k _ _ _ q2 ?_ (SOut.refl _ _)⟩
          exact S4.pop.write es ev ⟨_, upd_same, (r.set j rz).imm m⟩
        · exact q2.elim
      · exact q2.elim
    · exact q2.elim⟩⟩
/-! xs.append(v), xs an owned list -/
def owL (x : RV) (ρ : List SV) : Prop := match x with
  | .al i => (match ρ[i]? with
    | some (.ow (.lst _)) => True
    | _ => False)
  | _ => False
def dApp (t : DT) (u : DTA) : DT := fun ρ Q => t ρ fun x ρ1 => owL x ρ1 ∧ u ρ1 fun ys ρ2 => match x, allD ys with
  | .al i, some [z] => (match ρ2[i]? with
    | some (.ow (.lst ds)) => ds.length < sizeLine ∧ Q (.d .non) (ρ2.set i (.ow (.lst (ds ++ [z]))))
    | _ => False)
  | _, _ => False
theorem de_append {t : DT} {u : DTA} {apos cpos : Pos} (ho : PE X a (lE C t)) (ha : PA X [e] (lA C u)) (hK : C.K = X.K := by rfl) (hbase : attributeBase a "append" X.env (eval a X.env) = eval a X.env := by rfl)
    (hfew : ((backTo cpos (starEach (e :: []) X.env)).all (fun x => !x.1) && (backToKw cpos (keywordEach [] X.env)).all (fun x => x.1.isSome)
      && decide ((e :: []).length + ([] : List Keyword).length + (if ([] : List Keyword).isEmpty then 0 else 1) < 30)) = true := by rfl)
    (hline : (apos.endLine == cpos.line) = true := by rfl) (hs : starEach (e :: []) X.env = (false, eval e X.env) :: starEach [] X.env := by rfl) (hplain : (backTo cpos (starEach [] X.env)).any (·.1) = false := by rfl) :
    PE X (.Call (.Attribute a "append" apos) [e] [] cpos) (lE C (dApp t u)) :=
  (pe_bm PySem.F.plainAttrs_list PySem.F.slot_list_append PySem.F.type_list_append mt_append ho ha hbase hfew hline hs hplain).weak fun σ H Q ⟨ρ, p, R, S, q, k⟩ => ⟨ρ, p, _, S, q, fun x ρ1 v H1 q1 S1 => by
    obtain ⟨hw, q1⟩ := q1
    cases x with
    | d _ => exact hw.elim
    | ow _ => exact hw.elim
    | al i =>
      have ev0 := S1.pend _ List.mem_cons_self
      obtain ⟨ev, sv, es, hne⟩ := ev0
      dsimp only [owL] at hw ev es
      rw [es] at hw
      cases sv with
      | un => exact hw.elim
      | d _ => exact hw.elim
      | ow o =>
        cases o with
        | dk _ => exact hw.elim
        | dn _ => exact hw.elim
        | lst ds0 =>
          obtain ⟨a', e', xs0, hx0, r0⟩ := S1.slot i _ _ es ev
          cases e'
          refine ⟨.inl ⟨rfl, xs0, .of hx0⟩, ρ1, _, _, S1, q1, fun ys ρ2 vs H2 q2 hl S2 => ?_⟩
          split at q2
          · rename_i i' z ei ez
            cases ei
            have e2 := allD_some ez
            subst e2
            obtain ⟨w, rfl⟩ := one_len (x := .d z) hl
            split at q2
            · rename_i ds es2
              have S3 : SR C ρ2 σ ((.d z, w) :: (.al i, .ref a') :: p) H2 := S2
              have rz : Rp C.K H2 z w := S3.pend _ List.mem_cons_self
              obtain ⟨ev2, _⟩ := S3.pop.pend _ List.mem_cons_self
              dsimp only at ev2
              obtain ⟨a2, e', xs, hx, r⟩ := S3.slot i _ _ es2 ev2
              cases e'
              have m : Imm H2 (upd H2 a' (.lst (xs ++ [w]))) := imm_upd hx trivial
              have ok : OVok C (upd H2 a' (.lst (xs ++ [w]))) a' (.lst (ds ++ [z])) := ⟨_, upd_same, (r.append (RpL.cons rz RpL.nil)).imm m⟩
              exact ⟨a', xs, w, rfl, rfl, hx, by rw [← r.length]; exact q2.1, k _ _ _ _ q2.2 ((S3.pop.pop.write es2 ev2 ok).pushD rfl)⟩
            · exact q2.elim
          · exact q2.elim⟩
end
end DL

set_option Elab.async false
set_option linter.all false
set_option maxRecDepth 100000
namespace DL
open PySem PySem.Spec L2
open PyProof.Rows hiding St

abbrev DI := List SV → (List D → List SV → Prop) → Prop
/-- an iterator gives the items ds, as long as the data at px stand -/
structure Wk (C : Fr) (J : It) (ds : List D) (px : Pend) : Prop where
  go : ∀ i ρ σ p H, i < ds.length → SR C ρ σ (px ++ p) H → J.go i H
  yld : ∀ i ρ σ p H x H', i < ds.length → SR C ρ σ (px ++ p) H → J.yld i H x H' → ∃ d, ds[i]? = some d ∧ Same H H' ∧ Rp C.K H' d x
  stop : ∀ ρ σ p H, SR C ρ σ (px ++ p) H → J.stop ds.length H
def lI (C : Fr) (t : DI) : TI := fun σ H R => ∃ (ρ : List SV) (p : Pend) (Rd : List D → List SV → Prop), SR C ρ σ p H ∧ t ρ Rd ∧ ∀ ds ρ' J H1 px, Rd ds ρ' → PD px → Wk C J ds px → SR C ρ' σ (px ++ p) H1 → ds.length ≤ sizeLine → R J H1
theorem adrs_sub {ρ : List SV} {σ : St} {p p' : Pend} (h : p'.Sublist p) : (adrs ρ σ p').Sublist (adrs ρ σ p) := List.Sublist.append (h.filterMap _) (List.Sublist.refl _)
theorem SR.sub {C : Fr} {ρ : List SV} {σ : St} {p p' : Pend} {H : Hp} (S : SR C ρ σ p H) (h : p'.Sublist p) : SR C ρ σ p' H :=
  ⟨S.len, S.keep, S.slot, fun r hr => S.pend r (h.subset hr), S.sep.sublist (adrs_sub h), fun a ha => S.new a ((adrs_sub h).subset ha), S.jar⟩
theorem PD.app {p q : Pend} (h : PD p) (k : PD q) : PD (p ++ q) := fun r hr => (List.mem_append.mp hr).elim (h r) (k r)
section
variable {X : Cx} {C : Fr} {e a b c : Expr} {es rest : List Expr} {pos : Pos} {st : Stmt} {sts : List Stmt}
/-! ### for -/
def dLoop (g : DG) (tb : DTS) (Z : DEnds) : List D → List SV → Prop
  | [], ρ => Z.nx ρ
  | d :: ds, ρ => g (.d d) ρ fun ρ1 => tb { Z with nx := dLoop g tb Z ds, ct := dLoop g tb Z ds, bk := Z.nx } ρ1
def dFor (ti : DI) (g : DG) (tb : DTS) : DTS := fun D ρ => ti ρ fun ds ρ1 => dLoop g tb D ds ρ1
theorem ds_for {tg iter : Expr} {body : List Stmt} {ws : List Nat} {ti : DI} {g : DG} {tb : DTS} (hp : PassesOwn (model X.prog X.w) X.A X.env X.xe) (hc : X.calm = true) (hi : PI X tg iter (lI C ti)) (hg : PG X tg (lG C ws g)) (hb : PSs X body (lS C tb))
    (hs : ∀ x, foldedSetIterable iter X.env x = pure x := by intro _; rfl) : PS X (.For tg iter body [] pos) (lS C (dFor ti g tb)) :=
  (ps_for hp hc hi hg hb hs).weak fun D σ H ⟨ρ, p, R, hp, S, q, k1, k2, k3, k4⟩ => ⟨ρ, p, _, S, q, fun ds ρ1 J H1 px q1 hpx W S1 _ => by
    refine ⟨fun i m σ H => i ≤ ds.length ∧ m = ds.length - i ∧ ∃ ρ', SR C ρ' σ (px ++ p) H ∧ dLoop g tb R (ds.drop i) ρ', ⟨ds.length, Nat.zero_le _, rfl, ρ1, S1, q1⟩, ?_⟩
    rintro i m σ2 H2 ⟨hi, rfl, ρ2, S2, q2⟩
    by_cases hlt : i < ds.length
    · refine .inr ⟨W.go i ρ2 σ2 p H2 hlt S2, fun σ' H' => ∃ ρ', SR C ρ' σ' (px ++ p) H' ∧ dLoop g tb R (ds.drop (i + 1)) ρ', fun σ' H' ⟨ρ', S', q'⟩ => ⟨ds.length - (i + 1), by omega, hlt, rfl, ρ', S', q'⟩, fun x H' y => ?_⟩
      obtain ⟨d, hd, sm, hr⟩ := W.yld i ρ2 σ2 p H2 x H' hlt S2 y
      have ed : ds.drop i = d :: ds.drop (i + 1) := by
        obtain ⟨h1, h2⟩ := List.getElem?_eq_some_iff.mp hd
        rw [← h2]
        exact List.drop_eq_getElem_cons h1
      rw [ed] at q2
      refine ⟨ρ2, px ++ p, .d d, _, fun j _ => (hpx.app hp).nal j, .inl ⟨d, rfl⟩, (S2.same sm).pushD hr, q2, fun ρ3 σ3 H3 q3 S3 _ => ?_⟩
      exact ⟨ρ3, px ++ p, _, hpx.app hp, S3, q3, fun ρ' σ' H' q' S' => ⟨ρ', S', q'⟩, fun rv ρ' σ' v H' q' S' => k2 rv ρ' σ' v H' q' (S'.sub (List.Sublist.cons_cons _ (List.sublist_append_right _ _))),
        fun ρ' σ' H' q' S' => k1 ρ' σ' H' q' (S'.sub (List.sublist_append_right _ _)), fun ρ' σ' H' q' S' => ⟨ρ', S', q'⟩⟩
    · have e : i = ds.length := by omega
      subst e
      rw [List.drop_length] at q2
      exact .inl ⟨W.stop ρ2 σ2 p H2 S2, k1 ρ2 σ2 H2 q2 (S2.sub (List.sublist_append_right _ _))⟩⟩
/-! ### while -/
def dWhile (c : DTT) (tb : DTS) : DTS := fun D ρ => ∃ W : Nat → List SV → Prop, (∃ m, W m ρ) ∧ ∀ m ρ, W m ρ → c ρ fun k ρ1 => if k = true then tb { D with nx := fun ρ' => ∃ m', m' < m ∧ W m' ρ', ct := fun ρ' => ∃ m', m' < m ∧ W m' ρ', bk := D.nx } ρ1 else D.nx ρ1
theorem ds_while {c' : DTT} {body : List Stmt} {tb : DTS} (hp : PassesOwn (model X.prog X.w) X.A X.env X.xe) (hc : PT X c (lT C c')) (hb : PSs X body (lS C tb)) : PS X (.While c body [] pos) (lS C (dWhile c' tb)) :=
  (ps_while hp hc hb).weak fun D σ H ⟨ρ, p, R, hp, S, ⟨W, ⟨m0, w0⟩, turn⟩, k1, k2, k3, k4⟩ => by
    refine ⟨fun m σ H => ∃ ρ', SR C ρ' σ p H ∧ W m ρ', ⟨m0, ρ, S, w0⟩, ?_⟩
    rintro m σ1 H1 ⟨ρ1, S1, w1⟩
    refine ⟨ρ1, p, _, S1, turn m ρ1 w1, fun k ρ2 H2 q2 S2 => ?_⟩
    cases k with
    | true =>
      refine iteT ⟨fun σ' H' => ∃ ρ', SR C ρ' σ' p H' ∧ ∃ m', m' < m ∧ W m' ρ', fun σ' H' ⟨ρ', S', m', hm, w'⟩ => ⟨m', hm, ρ', S', w'⟩, ?_⟩
      rw [if_pos rfl] at q2
      exact ⟨ρ2, p, _, hp, S2, q2, fun ρ' σ' H' q' S' => ⟨ρ', S', q'⟩, k2, k1, fun ρ' σ' H' q' S' => ⟨ρ', S', q'⟩⟩
    | false =>
      refine iteF ?_
      rw [if_neg Bool.false_ne_true] at q2
      exact k1 ρ2 σ1 H2 q2 S2
theorem ds_break : PS X (.Break pos) (lS C fun D ρ => D.bk ρ) := ps_break.weak fun D σ H ⟨ρ, p, R, hp, S, q, k1, k2, k3, k4⟩ => k3 _ _ _ q S
theorem ds_continue : PS X (.Continue pos) (lS C fun D ρ => D.ct ρ) := ps_continue.weak fun D σ H ⟨ρ, p, R, hp, S, q, k1, k2, k3, k4⟩ => k4 _ _ _ q S

/-! ### what is walked -/
def iSeq (K : PySem.W.Frag) (tl : TE) : TI := fun σ H R => tl σ H fun x H1 => ∃ a, x = .ref a ∧ (((∃ xs, SqL K H1 a xs) ∧ R (Itl K a) H1) ∨ ((∃ xs, SqT K H1 a xs) ∧ R (Itt K a) H1))
theorem pi_seq {tg l : Expr} {tl : TE} (hl : PE X l tl) : PI X tg l (iSeq X.K tl) := by
  refine ⟨fun pins s σ H R I h => ?_⟩
  refine thn (hl.run pins s σ H _ I h) fun v s1 ⟨x, H1, I1, r1, q1⟩ => ?_
  obtain ⟨a, e, q1⟩ := q1
  subst e
  cases r1
  rcases q1 with ⟨⟨xs, hq⟩, q⟩ | ⟨⟨xs, hq⟩, q⟩
  · obtain ⟨its, rv, p, hz⟩ := I1.list hq
    refine wpAny_pyIter_list p.isList ?_
    refine ⟨s1.heap.objs.size, [s1.heap.objs.size], _, _, H1, rfl, I1.kept (t' := s1.toks) fun b o e => Heap.get?_push_of_some _ e, turn_list a _, ⟨_, Heap.get?_push_size _ rfl, rfl, rfl⟩, fun b hb => ?_, q⟩
    have e : b = s1.heap.objs.size := by simpa using hb
    subst e
    exact I1.fpOk (Nat.le_refl _) (I1.hok.fresh (Nat.le_refl _))
  · obtain ⟨its, rv, p, hz⟩ := I1.tuple hq
    refine wpAny_pyIter_tuple (show s1.heap.IsTuple a its.toArray from p) ?_
    refine ⟨s1.heap.objs.size, [s1.heap.objs.size], _, _, H1, rfl, I1.kept (t' := s1.toks) fun b o e => Heap.get?_push_of_some _ e, turn_tuple a _, ⟨_, Heap.get?_push_size _ rfl, rfl, rfl⟩, fun b hb => ?_, q⟩
    have e : b = s1.heap.objs.size := by simpa using hb
    subst e
    exact I1.fpOk (Nat.le_refl _) (I1.hok.fresh (Nat.le_refl _))
theorem _root_.L2.PI.weak {tg l : Expr} {w w' : TI} (h : PI X tg l w) (k : ∀ σ H R, w' σ H R → w σ H R) : PI X tg l w' := ⟨fun pins s σ H R I q => h.run pins s σ H R I (k σ H R q)⟩
def dIter (t : DT) : DI := fun ρ Q => t ρ fun rv ρ1 => match rv with
  | .d (.tup ds) => Q ds ρ1
  | .d (.lst ds) => Q ds ρ1
  | _ => False
theorem rp_tup {K : PySem.W.Frag} {H : Hp} {ds : List D} {v : V} (h : Rp K H (.tup ds) v) : ∃ a xs, v = .ref a ∧ SqT K H a xs ∧ RpL K H ds xs := by simpa only [Rp] using h
theorem rp_lst {K : PySem.W.Frag} {H : Hp} {ds : List D} {v : V} (h : Rp K H (.lst ds) v) : ∃ a xs, v = .ref a ∧ SqF H a xs ∧ RpL K H ds xs := by simpa only [Rp] using h
theorem wk_tup {a : Addr} {ds : List D} : Wk C (Itt C.K a) ds [(.d (.tup ds), .ref a)] where
  go := fun i ρ σ p H hi S => by
    obtain ⟨a', xs, e, hq, r⟩ := rp_tup (S.pend _ List.mem_cons_self)
    cases e
    obtain ⟨x, hx, _⟩ := r.get' (List.getElem?_eq_getElem hi)
    exact ⟨xs, x, hq, hx⟩
  yld := fun i ρ σ p H x H' hi S y => by
    obtain ⟨a', xs, e, hq, r⟩ := rp_tup (S.pend _ List.mem_cons_self)
    cases e
    obtain ⟨rfl, y⟩ := y
    obtain ⟨d, hd, hr⟩ := r.get (y xs hq)
    exact ⟨d, hd, Same.refl _, hr⟩
  stop := fun ρ σ p H S => by
    obtain ⟨a', xs, e, hq, r⟩ := rp_tup (S.pend _ List.mem_cons_self)
    cases e
    exact ⟨xs, hq, by rw [r.length]; exact Nat.le_refl _⟩
theorem wk_lst {a : Addr} {ds : List D} : Wk C (Itl C.K a) ds [(.d (.lst ds), .ref a)] where
  go := fun i ρ σ p H hi S => by
    obtain ⟨a', xs, e, hq, r⟩ := rp_lst (S.pend _ List.mem_cons_self)
    cases e
    obtain ⟨x, hx, _⟩ := r.get' (List.getElem?_eq_getElem hi)
    exact ⟨xs, x, hq.seq, hx⟩
  yld := fun i ρ σ p H x H' hi S y => by
    obtain ⟨a', xs, e, hq, r⟩ := rp_lst (S.pend _ List.mem_cons_self)
    cases e
    obtain ⟨rfl, y⟩ := y
    obtain ⟨d, hd, hr⟩ := r.get (y xs hq.seq)
    exact ⟨d, hd, Same.refl _, hr⟩
  stop := fun ρ σ p H S => by
    obtain ⟨a', xs, e, hq, r⟩ := rp_lst (S.pend _ List.mem_cons_self)
    cases e
    exact ⟨xs, hq.seq, by rw [r.length]; exact Nat.le_refl _⟩
theorem di_seq {tg : Expr} {t : DT} (h : PE X e (lE C t)) (hK : C.K = X.K := by rfl) : PI X tg e (lI C (dIter (dD t))) :=
  (pi_seq (de_data h).lens).weak fun σ H R ⟨ρ, p, Rd, S, q, k⟩ => ⟨ρ, p, _, S, q, fun rv ρ1 v H1 q1 S1 L => by
    split at q1
    · rename_i ds
      obtain ⟨a, xs, rfl, hq, r⟩ := rp_tup (S1.pend _ List.mem_cons_self)
      exact ⟨a, rfl, .inr ⟨⟨xs, hK ▸ hq⟩, hK ▸ k ds ρ1 _ H1 [(.d (.tup ds), .ref a)] q1 (PD.cons (fun _ h => by cases h) _ _) wk_tup S1 (by rw [r.length]; exact L.2 a xs (hK ▸ hq))⟩⟩
    · rename_i ds
      obtain ⟨a, xs, rfl, hq, r⟩ := rp_lst (S1.pend _ List.mem_cons_self)
      exact ⟨a, rfl, .inl ⟨⟨xs, hq.seq⟩, hK ▸ k ds ρ1 _ H1 [(.d (.lst ds), .ref a)] q1 (PD.cons (fun _ h => by cases h) _ _) wk_lst S1 (by rw [r.length]; exact L.1 a xs hq.seq)⟩⟩
    · exact q1.elim⟩
/-! ranges -/
theorem wk_range {lo : Int} {n : Nat} : Wk C (Itr lo n) ((List.range n).map fun (k : Nat) => D.int (lo + k)) [] where
  go := fun i ρ σ p H hi S => by
    show i < n
    simpa using hi
  yld := fun i ρ σ p H x H' hi S y => by
    obtain ⟨rfl, rfl⟩ := y
    have hi : i < n := by simpa using hi
    exact ⟨.int (lo + i), by simp [hi], Same.refl _, rfl⟩
  stop := fun ρ σ p H S => by
    show n ≤ _
    simp
def dRng1 (t : DTA) : DI := fun ρ Q => t ρ fun xs ρ1 => match allD xs with
  | some [.int j] => (-(2 ^ 62) ≤ j ∧ j ≤ 16777216) ∧ Q ((List.range j.toNat).map fun (k : Nat) => D.int (0 + k)) ρ1
  | _ => False
theorem di_range1 {tg : Expr} {t : DTA} {p : Pos} (hg : Gl X "range") (hm : X.mg "range" = none) (ha : PA X [a] (lA C t)) (hs : starEach [a] X.env = [(false, eval a X.env)] := by rfl) : PI X tg (.Call (.Name "range" p) [a] [] pos) (lI C (dRng1 t)) :=
  (pi_range1 hg hm ha hs).weak fun σ H R ⟨ρ, p, Rd, S, q, k⟩ => ⟨ρ, p, _, S, q, fun xs ρ1 vs H1 q1 hl S1 => by
    split at q1
    · rename_i j e
      have e2 := allD_some e
      subst e2
      obtain ⟨v, rfl⟩ := one_len (x := .d (.int j)) hl
      have S2 : SR C ρ1 σ ((.d (.int j), v) :: p) H1 := S1
      have ev : v = .int j := S2.pend _ List.mem_cons_self
      subst ev
      refine ⟨j, rfl, q1.1.1, by omega, k _ ρ1 _ H1 [] q1.2 (fun _ h => by cases h) wk_range S2.pop ?_⟩
      rw [List.length_map, List.length_range, sizeLine_eq]
      omega
    · exact q1.elim⟩
def dRng2 (t : DTA) : DI := fun ρ Q => t ρ fun xs ρ1 => match allD xs with
  | some [.int i, .int j] => ((-(2 ^ 61) ≤ i ∧ i < 2 ^ 61) ∧ (-(2 ^ 61) ≤ j ∧ j < 2 ^ 61) ∧ j - i ≤ 16777216) ∧ Q ((List.range (j - i).toNat).map fun (k : Nat) => D.int (i + k)) ρ1
  | _ => False
theorem two_len {vs : List V} {x y : RV} (h : [x, y].length = vs.length) : ∃ v w, vs = [v, w] := by
  cases vs with
  | nil => simp at h
  | cons v vs =>
    obtain ⟨w, rfl⟩ := one_len (x := y) (vs := vs) (by simp at h; simp [h])
    exact ⟨v, w, rfl⟩
theorem di_range2 {tg : Expr} {t : DTA} {p : Pos} (hg : Gl X "range") (hm : X.mg "range" = none) (ha : PA X [a, b] (lA C t)) (hs : starEach [a, b] X.env = [(false, eval a X.env), (false, eval b X.env)] := by rfl) (hs2 : starEach [b] X.env = [(false, eval b X.env)] := by rfl) : PI X tg (.Call (.Name "range" p) [a, b] [] pos) (lI C (dRng2 t)) :=
  (pi_range2 hg hm ha hs hs2).weak fun σ H R ⟨ρ, p, Rd, S, q, k⟩ => ⟨ρ, p, _, S, q, fun xs ρ1 vs H1 q1 hl S1 => by
    split at q1
    · rename_i i j e
      have e2 := allD_some e
      subst e2
      obtain ⟨v, w, rfl⟩ := two_len (x := .d (.int i)) (y := .d (.int j)) hl
      have S2 : SR C ρ1 σ ((.d (.int j), w) :: (.d (.int i), v) :: p) H1 := S1
      have ew : w = .int j := S2.pend _ List.mem_cons_self
      have ev : v = .int i := S2.pop.pend _ List.mem_cons_self
      subst ev ew
      refine ⟨i, j, rfl, ⟨by omega, by omega, by omega, by omega⟩, k _ ρ1 _ H1 [] q1.2 (fun _ h => by cases h) wk_range S2.pop.pop ?_⟩
      rw [List.length_map, List.length_range, sizeLine_eq]
      omega
    · exact q1.elim⟩
end
end DL

set_option Elab.async false
set_option linter.all false
set_option maxRecDepth 100000
namespace DL
open PySem PySem.Spec L2
open PyProof.Rows hiding St

theorem adrs_hide : ∀ {ρ : List SV} {σ σ' : St}, σ'.length = σ.length → (∀ i : Nat, σ'[i]? = σ[i]? ∨ ρ[i]? = some .un) → (ρ.zip σ').filterMap adrS = (ρ.zip σ).filterMap adrS
  | [], _, _, _, _ => rfl
  | _ :: _, [], [], _, _ => rfl
  | _ :: _, [], _ :: _, h, _ => by simp at h
  | _ :: _, _ :: _, [], h, _ => by simp at h
  | s :: ρ, x :: σ, y :: σ', h, k => by
    have ih := adrs_hide (ρ := ρ) (σ := σ) (σ' := σ') (by simpa using h) fun i => by simpa using k (i + 1)
    have k0 := k 0
    simp only [List.getElem?_cons_zero, Option.some.injEq] at k0
    rw [List.zip_cons_cons, List.zip_cons_cons, List.filterMap_cons, List.filterMap_cons, ih]
    rcases k0 with e | e
    · rw [e]
    · rw [e]
      rfl
theorem SR.hide {C : Fr} {ρ : List SV} {σ σ' : St} {p : Pend} {H : Hp} (S : SR C ρ σ p H) (h : σ'.length = σ.length) (k : ∀ i : Nat, σ'[i]? = σ[i]? ∨ ρ[i]? = some .un) (hb : C.b = none ∨ σ'[0]? = σ[0]?) : SR C ρ σ' p H := by
  have ea : adrs ρ σ' p = adrs ρ σ p := by unfold adrs; rw [adrs_hide h k]
  refine ⟨by rw [h]; exact S.len, S.keep, fun i sv ov e1 e2 => ?_, fun q hq => ?_, by rw [ea]; exact S.sep, fun a ha => S.new a (by rw [← ea]; exact ha), fun j hj => ?_⟩
  · rcases k i with z | z
    · exact S.slot i sv ov e1 (z ▸ e2)
    · rw [z] at e1; cases e1; trivial
  · have z := S.pend q hq
    obtain ⟨rv, v⟩ := q
    cases rv with
    | d x => exact z
    | ow o => exact z
    | al i =>
      obtain ⟨z1, sv, z2, z3⟩ := z
      refine ⟨?_, sv, z2, z3⟩
      rcases k i with w | w
      · rw [w]; exact z1
      · rw [w] at z2; cases z2; exact absurd rfl z3
  · rcases hb with z | z
    · rw [z] at hj; cases hj
    · rw [z]; exact S.jar j hj
theorem wipe_out' {σ : St} : ∀ {vs : List Nat} {i : Nat}, i ∉ vs → (wipe σ vs)[i]? = σ[i]?
  | [], _, _ => rfl
  | v :: vs, i, h => by
    unfold wipe
    rw [List.getElem?_set_ne fun e => h (by simp [e])]
    exact wipe_out' fun z => h (List.mem_cons_of_mem _ z)
theorem wipe_in {σ : St} : ∀ {vs : List Nat} {i : Nat}, i ∈ vs → i < σ.length → (wipe σ vs)[i]? = some none
  | [], _, h, _ => by cases h
  | v :: vs, i, h, hl => by
    unfold wipe
    by_cases e : v = i
    · subst e
      rw [List.getElem?_set_self (by rw [wipe_length]; exact hl)]
    · rw [List.getElem?_set_ne e]
      exact wipe_in ((List.mem_cons.mp h).resolve_left fun z => e z.symm) hl
theorem wipe_eq {ws vs : List Nat} {σ σ' : St} (h : SOut ws σ σ') (k : ∀ i ∈ ws, i ∈ vs) : wipe σ' vs = wipe σ vs := by
  apply List.ext_getElem?
  intro i
  by_cases hi : i ∈ vs
  · by_cases hl : i < σ.length
    · rw [wipe_in hi hl, wipe_in hi (by rw [h.1]; exact hl)]
    · rw [List.getElem?_eq_none (by rw [wipe_length, h.1]; omega), List.getElem?_eq_none (by rw [wipe_length]; omega)]
  · rw [wipe_out' hi, wipe_out' hi, h.2 i fun z => hi (k i z)]
theorem wipe_wipe {σ : St} {vs : List Nat} : wipe (wipe σ vs) vs = wipe σ vs := by
  apply List.ext_getElem?
  intro i
  by_cases hi : i ∈ vs
  · by_cases hl : i < σ.length
    · rw [wipe_in hi hl, wipe_in hi (by rw [wipe_length]; exact hl)]
    · rw [List.getElem?_eq_none (by rw [wipe_length, wipe_length]; omega), List.getElem?_eq_none (by rw [wipe_length]; omega)]
  · rw [wipe_out' hi]
/-- the places vs forgotten -/
def wipeD (ρ : List SV) : List Nat → List SV
  | [] => ρ
  | v :: vs => (wipeD ρ vs).set v .un
theorem wipeD_length (ρ : List SV) : ∀ vs : List Nat, (wipeD ρ vs).length = ρ.length
  | [] => rfl
  | v :: vs => by unfold wipeD; rw [List.length_set, wipeD_length ρ vs]
theorem wipeD_in {ρ : List SV} : ∀ {vs : List Nat} {i : Nat}, i ∈ vs → i < ρ.length → (wipeD ρ vs)[i]? = some .un
  | [], _, h, _ => by cases h
  | v :: vs, i, h, hl => by
    unfold wipeD
    by_cases e : v = i
    · subst e
      rw [List.getElem?_set_self (by rw [wipeD_length]; exact hl)]
    · rw [List.getElem?_set_ne e]
      exact wipeD_in ((List.mem_cons.mp h).resolve_left fun z => e z.symm) hl
theorem SR.wipeD {C : Fr} {ρ : List SV} {σ : St} {p : Pend} {H : Hp} (S : SR C ρ σ p H) : ∀ {vs : List Nat}, (∀ i ∈ vs, i < ρ.length) → (∀ i ∈ vs, ∀ q ∈ p, q.1 ≠ .al i) → SR C (DL.wipeD ρ vs) σ p H
  | [], _, _ => S
  | v :: vs, h, k => by
    have S' := SR.wipeD S (vs := vs) (fun i hi => h i (List.mem_cons_of_mem _ hi)) fun i hi => k i (List.mem_cons_of_mem _ hi)
    have hl : v < (DL.wipeD ρ vs).length := by rw [wipeD_length]; exact h v List.mem_cons_self
    exact S'.forget (List.getElem?_eq_getElem hl) (k v List.mem_cons_self)
/-- an owned list that is pending is written -/
theorem SR.appTop {C : Fr} {ρ : List SV} {σ : St} {p : Pend} {H : Hp} {x : D} {y : V} {acc : List D} {L : Addr} (S : SR C ρ σ ((.d x, y) :: (.ow (.lst acc), .ref L) :: p) H) :
    ∃ xs, H L = some (.lst xs) ∧ xs.length = acc.length ∧ SR C ρ σ ((.ow (.lst (acc ++ [x])), .ref L) :: p) (upd H L (.lst (xs ++ [y]))) := by
  have rx : Rp C.K H x y := S.pend _ List.mem_cons_self
  have S1 := S.pop
  obtain ⟨a, ea, xs, hx, r⟩ := S1.pend _ List.mem_cons_self
  cases ea
  have m : Imm H (upd H L (.lst (xs ++ [y]))) := imm_upd hx trivial
  have hn : L ∉ adrs ρ σ p := (List.nodup_cons.mp S1.sep).1
  have hnew := S1.new L (List.mem_cons_self (a := L) (l := adrs ρ σ p))
  refine ⟨xs, hx, r.length.symm, ?_⟩
  refine (S1.pop.move m (fun b hb => upd_ne fun q => hn (q ▸ hb)) fun c w n hc => ?_).push ⟨L, rfl, _, upd_same, (r.append (RpL.cons rx RpL.nil)).imm m⟩ fun b eb => ?_
  · rw [upd_ne fun z => ?_]
    · exact S.keep c w n hc
    · subst z
      rcases hnew with q | q
      · exact n q
      · rw [q] at hc; cases hc
  · cases eb
    exact ⟨hn, hnew⟩
/-! ### comprehensions -/
def lcL (g : DG) (tt : DTT) (te : DT) (vs : List Nat) (Q : List D → List SV → Prop) : List D → List D → List SV → Prop
  | [], acc, ρ => Q acc ρ
  | d :: ds, acc, ρ => g (.d d) ρ fun ρ1 => tt ρ1 fun b ρ2 => if b = true then te ρ2 fun rv ρ3 => (match rv with
      | .d x => lcL g tt te vs Q ds (acc ++ [x]) (wipeD ρ3 vs)
      | _ => False) else lcL g tt te vs Q ds acc (wipeD ρ2 vs)
def dLc (ti : DI) (g : DG) (tt : DTT) (te : DT) (vs : List Nat) : DT := fun ρ Q => ti ρ fun ds ρ1 => (∀ i ∈ vs, ρ1[i]? = some .un) ∧ lcL g tt te vs (fun acc ρ2 => Q (.ow (.lst acc)) ρ2) ds [] ρ1
def dYes : DTT := fun ρ Q => Q true ρ
section
variable {X : Cx} {C : Fr} {e a b c : Expr} {es rest : List Expr} {pos : Pos} {st : Stmt} {sts : List Stmt}
theorem lc_to {ti : DI} {g : DG} {tt : DTT} {te : DT} {ws vs : List Nat} (hws : ∀ i ∈ ws, i ∈ vs) (hv : C.b = none ∨ 0 ∉ vs) :
    ∀ σ H Q, lE C (dLc ti g tt te vs) σ H Q → tLc (lI C ti) (lG C ws g) (lT C tt) (lE C te) vs σ H Q := fun σ H Q ⟨ρ, p, R, S, q, k⟩ => ⟨ρ, p, _, S, q, fun ds ρ1 J H1 px q1 hpx W S1 hsz => by
  intro D hD
  obtain ⟨hun, q1⟩ := q1
  have hal : ∀ i ∈ vs, ∀ q ∈ px ++ p, q.1 ≠ .al i := fun i hi q hq e => by
    obtain ⟨rv, v⟩ := q
    dsimp only at e
    subst e
    obtain ⟨_, sv, z2, z3⟩ := S1.pend _ hq
    rw [hun i hi] at z2; cases z2; exact z3 rfl
  have hlen : ∀ i ∈ vs, i < σ.length := fun i hi => by
    rw [← S1.len]
    exact (List.getElem?_eq_some_iff.mp (hun i hi)).1
  have hb0 : C.b = none ∨ (wipe σ vs)[0]? = σ[0]? := hv.imp id fun z => wipe_out' z
  have hide : ∀ {ρ' : List SV} {p' : Pend} {H' : Hp}, (∀ i ∈ vs, ρ'[i]? = some .un) → SR C ρ' σ p' H' → SR C ρ' (wipe σ vs) p' H' := fun h S' => S'.hide (wipe_length _ _) (fun i => by
    by_cases hi : i ∈ vs
    · exact .inr (h i hi)
    · exact .inl (wipe_out' hi)) hb0
  have show_ : ∀ {ρ' : List SV} {p' : Pend} {H' : Hp}, (∀ i ∈ vs, ρ'[i]? = some .un) → SR C ρ' (wipe σ vs) p' H' → SR C ρ' σ p' H' := fun h S' => S'.hide (wipe_length _ _).symm (fun i => by
    by_cases hi : i ∈ vs
    · exact .inr (h i hi)
    · exact .inl (wipe_out' hi).symm) (hb0.imp id Eq.symm)
  refine ⟨fun i m H => i ≤ ds.length ∧ m = ds.length - i ∧ ∃ ρ' acc, acc.length ≤ i ∧ (∀ j ∈ vs, ρ'[j]? = some .un) ∧ SR C ρ' (wipe σ vs) ((.ow (.lst acc), .ref D) :: (px ++ p)) H ∧ lcL g tt te vs (fun acc ρ2 => R (.ow (.lst acc)) ρ2) (ds.drop i) acc ρ',
    ⟨ds.length, Nat.zero_le _, rfl, ρ1, [], Nat.le_refl _, hun, (hide hun S1).pushO hD (same_new hD) ⟨_, upd_same, RpL.nil⟩, q1⟩, ?_⟩
  rintro i m H2 ⟨hi, rfl, ρ2, acc, hacc, hun2, S2, q2⟩
  have S2px : ∀ {ρ' : List SV} {σ' : St} {H' : Hp} {z : RV × V}, SR C ρ' σ' (z :: (px ++ p)) H' → SR C ρ' σ' (px ++ p) H' := fun S => S.pop
  by_cases hlt : i < ds.length
  · refine .inr ⟨W.go i ρ2 _ p H2 hlt S2.pop, fun H' => ∃ ρ' acc', acc'.length ≤ i + 1 ∧ (∀ j ∈ vs, ρ'[j]? = some .un) ∧ SR C ρ' (wipe σ vs) ((.ow (.lst acc'), .ref D) :: (px ++ p)) H' ∧ lcL g tt te vs (fun acc ρ2 => R (.ow (.lst acc)) ρ2) (ds.drop (i + 1)) acc' ρ',
      fun H' ⟨ρ', acc', h1, h2, h3, h4⟩ => ⟨ds.length - (i + 1), by omega, hlt, rfl, ρ', acc', h1, h2, h3, h4⟩, fun x H' y => ?_⟩
    obtain ⟨d, hd, sm, hr⟩ := W.yld i ρ2 _ p H2 x H' hlt S2.pop y
    have ed : ds.drop i = d :: ds.drop (i + 1) := by
      obtain ⟨h1, h2⟩ := List.getElem?_eq_some_iff.mp hd
      rw [← h2]
      exact List.drop_eq_getElem_cons h1
    rw [ed] at q2
    have alP : ∀ j ∈ vs, ∀ q ∈ ((RV.ow (.lst acc), V.ref D) :: (px ++ p)), q.1 ≠ .al j := fun j hj q hq => by
      rcases List.mem_cons.mp hq with z | z
      · rw [z]; exact fun w => by cases w
      · exact hal j hj q z
    refine ⟨ρ2, (.ow (.lst acc), .ref D) :: (px ++ p), .d d, _, fun j hj => alP j (hws j hj), .inl ⟨d, rfl⟩, (S2.same sm).pushD hr, q2, fun ρ3 σ3 H3 q3 S3 o3 => ?_⟩
    have ew : wipe σ3 vs = wipe σ vs := (wipe_eq o3 hws).trans wipe_wipe
    have l3 : σ3.length = σ.length := o3.1.trans (wipe_length _ _)
    refine ⟨ew, ρ3, _, _, S3, q3, fun b ρ4 H4 q4 S4 => ?_⟩
    -- the turn's end
    have fin : ∀ {ρ' : List SV} {acc' : List DL.D} {H' : Hp}, SR C ρ' σ3 ((.ow (.lst acc'), .ref D) :: (px ++ p)) H' → SR C (wipeD ρ' vs) (wipe σ vs) ((.ow (.lst acc'), .ref D) :: (px ++ p)) H' ∧ ∀ j ∈ vs, (wipeD ρ' vs)[j]? = some .un := fun {ρ' acc' H'} S' => by
      have hl : ∀ j ∈ vs, j < ρ'.length := fun j hj => by rw [S'.len, l3]; exact hlen j hj
      have hu : ∀ j ∈ vs, (wipeD ρ' vs)[j]? = some .un := fun j hj => wipeD_in hj (hl j hj)
      refine ⟨(S'.wipeD hl fun j hj q hq => ?_).hide (by rw [wipe_length, l3]) (fun j => ?_) ?_, hu⟩
      · rcases List.mem_cons.mp hq with z | z
        · rw [z]; exact fun w => by cases w
        · exact hal j hj q z
      · by_cases hj : j ∈ vs
        · exact .inr (hu j hj)
        · refine .inl ?_
          rw [wipe_out' hj, o3.2 j fun z => hj (hws j z), wipe_out' hj]
      · refine hv.imp id fun z => ?_
        rw [wipe_out' z, o3.2 0 fun w => z (hws 0 w), wipe_out' z]
    cases b with
    | false =>
      rw [if_neg Bool.false_ne_true] at q4
      obtain ⟨f1, f2⟩ := fin S4
      refine iteF ?_
      exact ⟨_, acc, by omega, f2, f1, q4⟩
    | true =>
      rw [if_pos rfl] at q4
      refine iteT ?_
      refine ⟨ρ4, _, _, S4, q4, fun rv ρ5 y H5 q5 S5 => ?_⟩
      cases rv with
      | ow _ => exact q5.elim
      | al _ => exact q5.elim
      | d x =>
        obtain ⟨xs, hx, hl, S6⟩ := S5.appTop
        obtain ⟨f1, f2⟩ := fin S6
        exact ⟨xs, hx, by omega, _, _, by rw [List.length_append]; simp; omega, f2, f1, q5⟩
  · have e : i = ds.length := by omega
    subst e
    rw [List.drop_length] at q2
    exact .inl ⟨W.stop ρ2 _ p H2 S2.pop, k _ _ _ _ q2 ((show_ hun2 S2).sub (List.Sublist.cons_cons _ (List.sublist_append_right _ _)))⟩⟩
theorem dts_nil : PTs X [] (lT C dYes) := ⟨fun pins s σ H Q I ⟨ρ, p, R, S, q, k⟩ => pts_nil.run pins s σ H Q I (k _ _ _ q S)⟩
theorem dts_one {t : DTT} (h : PT X c (lT C t)) : PTs X [c] (lT C t) := pts_one h
theorem de_lc {elt tg iter : Expr} {ifs : List Expr} {scope : Scope} {own : List (Str × Nat)} {ti : DI} {g : DG} {tt : DTT} {te : DT} {ws : List Nat} (hc : X.calm = true) (hN : X.N.Nodup) (hi : PI X tg iter (lI C ti)) (ok : BlkOk X.N X.env.scope scope own)
    (hg : ∀ (s : Shared) (H : Hp) (A : Addr) (cl : List (Str × Addr)) (fp : List Addr), PG (X.blk s H scope (compEnvC scope cl A X.env) fp) tg (lG C ws g)) (ht : ∀ (s : Shared) (H : Hp) (A : Addr) (cl : List (Str × Addr)) (fp : List Addr), PTs (X.blk s H scope (compEnvC scope cl A X.env) fp) ifs (lT C tt))
    (he : ∀ (s : Shared) (H : Hp) (A : Addr) (cl : List (Str × Addr)) (fp : List Addr), PE (X.blk s H scope (compEnvC scope cl A X.env) fp) elt (lE C te)) (hws : ∀ i ∈ ws, i ∈ own.map (·.2) := by decide) (hv : C.b = none ∨ 0 ∉ own.map (·.2) := by first | exact .inl rfl | exact .inr (by decide)) (hs : ∀ x, foldedSetIterable iter X.env x = pure x := by intro _; rfl) :
    PE X (.ListComp elt [⟨tg, iter, ifs, 0⟩] scope pos) (lE C (dLc ti g tt te (own.map (·.2)))) := (pe_lc hc hN hi ok hg ht he hs).weak (lc_to hws hv)
theorem ds_setLc {i : Nat} {y : Str} {py : Pos} {elt tg iter : Expr} {ifs : List Expr} {scope : Scope} {own : List (Str × Nat)} {lpos spos : Pos} {ti : DI} {g : DG} {tt : DTT} {te : DT} {ws : List Nat} (hc : X.calm = true) (hN : X.N.Nodup) (hy : X.N[i]? = some y) (hyl : X.env.scope.names.lookup y = some .local)
    (hsw : swapsWith (.ListComp elt [⟨tg, iter, ifs, 0⟩] scope lpos) (some (.Name y py)) spos.line X.env = pure true) (hi : PI X tg iter (lI C ti)) (ok : BlkOk X.N X.env.scope scope own)
    (hg : ∀ (s : Shared) (H : Hp) (A : Addr) (cl : List (Str × Addr)) (fp : List Addr), PG (X.blk s H scope (compEnvC scope cl A X.env) fp) tg (lG C ws g)) (ht : ∀ (s : Shared) (H : Hp) (A : Addr) (cl : List (Str × Addr)) (fp : List Addr), PTs (X.blk s H scope (compEnvC scope cl A X.env) fp) ifs (lT C tt))
    (he : ∀ (s : Shared) (H : Hp) (A : Addr) (cl : List (Str × Addr)) (fp : List Addr), PE (X.blk s H scope (compEnvC scope cl A X.env) fp) elt (lE C te)) (hb : C.b = none ∨ i ≠ 0) (hws : ∀ i ∈ ws, i ∈ own.map (·.2) := by decide) (hv : C.b = none ∨ 0 ∉ own.map (·.2) := by first | exact .inl rfl | exact .inr (by decide)) (hs : ∀ x, foldedSetIterable iter X.env x = pure x := by intro _; rfl) :
    PS X (.Assign [.Name y py] (.ListComp elt [⟨tg, iter, ifs, 0⟩] scope lpos) spos) (lS C (dAsg (dLc ti g tt te (own.map (·.2))) (gN1 i))) :=
  (ps_setLc hc hN hy hyl hsw hi ok hg ht he hs).weak fun D σ H ⟨ρ, p, R, hp, S, q, k1, k2, k3, k4⟩ => lc_to hws hv σ H _ ⟨ρ, p, (fun rv ρ1 => match rv with
    | .ow o => R.nx (ρ1.set i (.ow o))
    | _ => False), S, q, fun rv ρ1 v H1 q1 S1 => by
    show D.nx (σ.set i (some v)) H1
    cases rv with
    | d x => exact q1.elim
    | al j => exact q1.elim
    | ow o => exact k1 _ _ _ q1 (S1.assign (.inr ⟨o, rfl, rfl⟩) (hp.nal i) hb)⟩
end
end DL

set_option Elab.async false
set_option linter.all false
set_option maxRecDepth 100000
namespace DL
open PySem PySem.Spec L2
open PyProof.Rows hiding St

def SqK (k : Bool) (K : PySem.W.Frag) (H : Hp) (a : Addr) (xs : List V) : Prop := if k = true then SqL K H a xs else SqT K H a xs
def IsSqK (k : Bool) (h : Heap) (a : Addr) (its : Array Value) : Prop := if k = true then h.IsList a its else h.IsTuple a its
def IsItK (k : Bool) (h : Heap) (it a : Addr) (i : Nat) : Prop := if k = true then h.IsListIter it a i else h.IsTupleIter it a i
def itOb (k : Bool) (a : Addr) : Obj := if k = true then { cls := .type "list_iterator", data := .fields #[.ref a, .int 0 0] } else { cls := .type "tuple_iterator", data := .fields #[.ref a, .int 0 0] }
theorem IsItK.obj {k : Bool} {h : Heap} {it a : Addr} {i : Nat} (x : IsItK k h it a i) : ∃ o, h.get? it = some o ∧ ∀ v, o.data ≠ .cell v := by
  cases k with
  | true => obtain ⟨o, e, c, d⟩ := (show h.IsListIter it a i from x); exact ⟨o, e, fun v z => by rw [d] at z; cases z⟩
  | false => obtain ⟨o, e, c, d⟩ := (show h.IsTupleIter it a i from x); exact ⟨o, e, fun v z => by rw [d] at z; cases z⟩
theorem IsItK.at {k : Bool} {h h' : Heap} {it a : Addr} {i : Nat} (x : IsItK k h it a i) (f : ∀ o, h.get? it = some o → h'.get? it = some o) : IsItK k h' it a i := by
  cases k with
  | true => exact (show h.IsListIter it a i from x).at f
  | false => exact (show h.IsTupleIter it a i from x).at f
theorem itK {k : Bool} {h : Heap} {it a : Addr} (e : h.get? it = some (itOb k a)) : IsItK k h it a 0 := by
  cases k with
  | true => exact (show h.IsListIter it a 0 from ⟨_, e, rfl, rfl⟩)
  | false => exact (show h.IsTupleIter it a 0 from ⟨_, e, rfl, rfl⟩)
theorem begK (k : Bool) (a : Addr) (its : Array Value) : Begins (.ref a) (itOb k a) fun h => IsSqK k h a its := by
  cases k with
  | true => exact begins_list a its
  | false => exact begins_tuple a its
theorem drawsK {k : Bool} {prog : Program} {w : World} {A : Around} (hh : A.handled = none) {it a : Addr} (hne : a ≠ it) (its : Array Value) : Draws prog w A.in1 it [it, a] its.size (fun i v => its[i]? = some v) (fun i h => IsItK k h it a i ∧ IsSqK k h a its) := by
  cases k with
  | true => exact Draws.list (A := A.in1) hh it a hne its
  | false => exact Draws.tuple (A := A.in1) hh it a hne its
section
variable {X : Cx} {pins : List (Addr × Obj)} {σ : St} {H : Hp} {s : Shared}
theorem _root_.L2.Inv.sqK (I : Inv X pins σ H s) {k : Bool} {a : Addr} {xs : List V} (h : SqK k X.K H a xs) : ∃ its : List Value, Vals xs its ∧ IsSqK k s.heap a its.toArray ∧ a < s.heap.objs.size ∧ xs.length ≤ sizeLine := by
  cases k with
  | true =>
    obtain ⟨its, r, p, z⟩ := I.list (show SqL X.K H a xs from h)
    exact ⟨its, r, p.isList, p.lt, z⟩
  | false =>
    obtain ⟨its, r, p, z⟩ := I.tuple (show SqT X.K H a xs from h)
    exact ⟨its, r, p, p.lt, z⟩
theorem _root_.L2.Inv.sqK_inj (I : Inv X pins σ H s) {k : Bool} {a : Addr} {xs ys : List V} (h : SqK k X.K H a xs) (h' : SqK k X.K H a ys) : xs = ys := by
  cases k with
  | true => exact I.list_inj (show SqL X.K H a xs from h) h'
  | false => exact I.tuple_inj (show SqT X.K H a xs from h) h'
end
theorem valsBack : ∀ {xs : List V} {us : List Value} {i : Nat} {u : Value}, Vals xs us → us[i]? = some u → ∃ x, xs[i]? = some x ∧ RelV x u
  | _, _, _, _, .nil, e => by simp at e
  | _, _, 0, _, .cons r _, e => by simp at e; subst e; exact ⟨_, rfl, r⟩
  | _, _, i + 1, u, .cons _ t, e => by
    obtain ⟨x, h1, h2⟩ := valsBack (i := i) (u := u) t (by simpa using e)
    exact ⟨x, by simpa using h1, h2⟩
theorem vals3 {x y z : V} {us : List Value} (r : Vals [x, y, z] us) : ∃ u v w, us = [u, v, w] ∧ RelV x u ∧ RelV y v ∧ RelV z w := by
  cases r with
  | cons a r =>
    obtain ⟨v, w, rfl, h1, h2⟩ := vals2 r
    exact ⟨_, v, w, rfl, a, h1, h2⟩
theorem three_len {vs : List V} {x y z : RV} (h : [x, y, z].length = vs.length) : ∃ u v w, vs = [u, v, w] := by
  cases vs with
  | nil => simp at h
  | cons u vs =>
    obtain ⟨v, w, rfl⟩ := two_len (x := y) (y := z) (vs := vs) (by simp at h; simp [h])
    exact ⟨u, v, w, rfl⟩
theorem neA {m n : Nat} (h : m ≠ n) : (m : Addr) ≠ (n : Addr) := h
theorem noA {x m a : Nat} (h1 : x ≠ m) (h2 : x ≠ a) : (x : Addr) ∉ ([m, a] : List Addr) := fun h => by
  rcases List.mem_cons.mp h with e | e
  · exact h1 e
  · exact h2 (List.mem_singleton.mp e)
theorem sep2 (m a b : Nat) (ha : a < m) (hb : b < m) : ZipSep2 (m + 4) (m + 2) (m + 3) m (m + 1) [m, a] [m + 1, b] :=
  ⟨neA (by omega), neA (by omega), neA (by omega), neA (by omega), List.mem_cons_self, noA (by omega) (by omega), noA (by omega) (by omega), neA (by omega), List.mem_cons_self, noA (by omega) (by omega), noA (by omega) (by omega), noA (by omega) (by omega), noA (by omega) (by omega)⟩
theorem sep3 (m a b c : Nat) (ha : a < m) (hb : b < m) (hc : c < m) : ZipSep3 (m + 5) (m + 3) (m + 4) m (m + 1) (m + 2) [m, a] [m + 1, b] [m + 2, c] :=
  ⟨neA (by omega), neA (by omega), neA (by omega), neA (by omega), List.mem_cons_self, noA (by omega) (by omega), noA (by omega) (by omega), neA (by omega), List.mem_cons_self, noA (by omega) (by omega), noA (by omega) (by omega), neA (by omega), List.mem_cons_self, noA (by omega) (by omega), noA (by omega) (by omega), noA (by omega) (by omega), noA (by omega) (by omega), noA (by omega) (by omega), noA (by omega) (by omega), noA (by omega) (by omega), noA (by omega) (by omega)⟩
def seqD : D → Option (List D)
  | .tup ds => some ds
  | .lst ds => some ds
  | _ => none
def isL : D → Bool
  | .lst _ => true
  | _ => false
theorem seqD_at {K : PySem.W.Frag} {H : Hp} {d : D} {ds : List D} {v : V} (h : seqD d = some ds) (r : Rp K H d v) : ∃ a xs, v = .ref a ∧ SqK (isL d) K H a xs ∧ RpL K H ds xs := by
  cases d <;> simp only [seqD] at h <;> cases h
  · obtain ⟨a, xs, rfl, hq, hr⟩ := rp_tup r
    exact ⟨a, xs, rfl, hq, hr⟩
  · obtain ⟨a, xs, rfl, hq, hr⟩ := rp_lst r
    exact ⟨a, xs, rfl, hq.seq, hr⟩
theorem SqK.len {k : Bool} {K : PySem.W.Frag} {H : Hp} {a : Addr} {xs : List V} (h : SqK k K H a xs) (L : LenOk K H) : xs.length ≤ sizeLine := by
  cases k with
  | true => exact L.1 a xs h
  | false => exact L.2 a xs h
def zipD2 : List D → List D → List D
  | x :: xs, y :: ys => .tup [x, y] :: zipD2 xs ys
  | _, _ => []
def zipD3 : List D → List D → List D → List D
  | x :: xs, y :: ys, z :: zs => .tup [x, y, z] :: zipD3 xs ys zs
  | _, _, _ => []
theorem zipD2_length : ∀ xs ys : List D, (zipD2 xs ys).length = min xs.length ys.length
  | [], _ => by simp [zipD2]
  | _ :: _, [] => by simp [zipD2]
  | x :: xs, y :: ys => by simp only [zipD2, List.length_cons, zipD2_length xs ys]; omega
theorem zipD3_length : ∀ xs ys zs : List D, (zipD3 xs ys zs).length = min xs.length (min ys.length zs.length)
  | [], _, _ => by simp [zipD3]
  | _ :: _, [], _ => by simp [zipD3]
  | _ :: _, _ :: _, [] => by simp [zipD3]
  | x :: xs, y :: ys, z :: zs => by simp only [zipD3, List.length_cons, zipD3_length xs ys zs]; omega
theorem zipD2_get : ∀ {xs ys : List D} {i : Nat} {a b : D}, xs[i]? = some a → ys[i]? = some b → (zipD2 xs ys)[i]? = some (.tup [a, b])
  | [], _, _, _, _, h, _ => by simp at h
  | _ :: _, [], _, _, _, _, h => by simp at h
  | x :: xs, y :: ys, 0, a, b, h, h' => by simp at h h'; subst h h'; rfl
  | x :: xs, y :: ys, i + 1, a, b, h, h' => by
    simp at h h'
    simpa [zipD2] using zipD2_get h h'
theorem zipD3_get : ∀ {xs ys zs : List D} {i : Nat} {a b c : D}, xs[i]? = some a → ys[i]? = some b → zs[i]? = some c → (zipD3 xs ys zs)[i]? = some (.tup [a, b, c])
  | [], _, _, _, _, _, _, h, _, _ => by simp at h
  | _ :: _, [], _, _, _, _, _, _, h, _ => by simp at h
  | _ :: _, _ :: _, [], _, _, _, _, _, _, h => by simp at h
  | x :: xs, y :: ys, z :: zs, 0, a, b, c, h, h', h'' => by simp at h h' h''; subst h h' h''; rfl
  | x :: xs, y :: ys, z :: zs, i + 1, a, b, c, h, h', h'' => by
    simp at h h' h''
    simpa [zipD3] using zipD3_get h h' h''
/-- zip of 2: lists and tuples in any mix -/
def ItZ2 (K : PySem.W.Frag) (k1 : Bool) (a1 : Addr) (k2 : Bool) (a2 : Addr) : It :=
  ⟨fun i H => ∃ xs1 xs2 : List V, SqK k1 K H a1 xs1 ∧ SqK k2 K H a2 xs2 ∧ i < xs1.length ∧ i < xs2.length,
    fun i H v H' => ∃ T x1 x2, v = V.ref T ∧ H T = none ∧ H' = upd H T (.tup [x1, x2]) ∧ (∀ xs, SqK k1 K H a1 xs → xs[i]? = some x1) ∧ (∀ xs, SqK k2 K H a2 xs → xs[i]? = some x2),
    fun i H => ∃ xs1 xs2 : List V, SqK k1 K H a1 xs1 ∧ SqK k2 K H a2 xs2 ∧ i ≤ xs1.length ∧ i ≤ xs2.length ∧ (i = xs1.length ∨ i = xs2.length)⟩
theorem turn_zip2 {P : Program} {w : World} {K : PySem.W.Frag} {elts : List Expr} {kk : Nat} {tpos : Pos} {k1 k2 : Bool} {a1 a2 z TI TO i1 i2 : Addr} (Sp : ZipSep2 z TI TO i1 i2 [i1, a1] [i2, a2]) (n1 : a1 ≠ i1) (n2 : a2 ≠ i2) :
    Turn P w K (.Tuple elts kk tpos) (ItZ2 K k1 a1 k2 a2) [z, TI, TO, i1, i2] z (fun i h => IsZip h z TI TO .none ∧ IsTupOf2 h TI (.ref i1) (.ref i2) ∧ (∃ c1 c2, IsTupOf2 h TO c1 c2) ∧ IsItK k1 h i1 a1 i ∧ IsItK k2 h i2 a2 i) where
  mem := by simp
  obj := fun i h st c hc => by
    obtain ⟨hz, hTI, ⟨c1, c2, hTO⟩, h1, h2⟩ := st
    have e' : c = z ∨ c = TI ∨ c = TO ∨ c = i1 ∨ c = i2 := by simpa using hc
    rcases e' with q | q | q | q | q
    · rw [q]; exact ⟨_, hz, fun v q => nomatch q⟩
    · rw [q]; exact ⟨_, hTI, fun v q => nomatch q⟩
    · rw [q]; exact ⟨_, hTO, fun v q => nomatch q⟩
    · rw [q]; exact h1.obj
    · rw [q]; exact h2.obj
  keep := fun i h h' st k => by
    obtain ⟨hz, hTI, ⟨c1, c2, hTO⟩, h1, h2⟩ := st
    exact ⟨k z (by simp) _ hz, k TI (by simp) _ hTI, ⟨c1, c2, k TO (by simp) _ hTO⟩, h1.at fun o q => k i1 (by simp) o q, h2.at fun o q => k i2 (by simp) o q⟩
  item := by
    intro X hP hw hK hc i pins s σ H E I hf st hg
    subst hP hw hK
    obtain ⟨hz, hTI, ⟨c1, c2, hTO⟩, h1, h2⟩ := st
    obtain ⟨xs1, xs2, q1, q2, l1, l2⟩ := hg
    obtain ⟨its1, rv1, p1, _, _⟩ := I.sqK q1
    have e1 := rv1.length
    obtain ⟨its2, rv2, p2, _, _⟩ := I.sqK q2
    have e2 := rv2.length
    have W := WalksT.zipD2 (prog := X.prog) (w := X.w) (A := X.A) Sp (drawsK (k := k1) (I.ok.hd hc) n1 its1.toArray) (drawsK (k := k2) (I.ok.hd hc) n2 its2.toArray)
    refine W.item i s _ E ?_ ⟨hz, hTI, ⟨c1, c2, hTO⟩, ⟨h1, p1⟩, ⟨h2, p2⟩⟩ fun T vals h' tk hP hsz hT hm hk => ⟨.ref T, rfl, W.go elts kk tpos i T _ _ _ hm fun h'' st'' hk'' => ?_⟩
    · simp only [List.size_toArray]
      omega
    obtain ⟨u1, u2, hu1, hu2, ev⟩ := hP
    subst ev
    obtain ⟨x1, hx1, rx1⟩ := valsBack (i := i) (u := u1) rv1 (by simpa using hu1)
    obtain ⟨x2, hx2, rx2⟩ := valsBack (i := i) (u := u2) rv2 (by simpa using hu2)
    have hap := W.apart i T h' hm
    have hT2 : IsTup h'' T [u1, u2].toArray := by
      obtain ⟨o, ho, r⟩ := hT
      exact ⟨o, hk'' T o hap ho, r⟩
    have sub : ∀ c, c ∉ [z, TI, TO, i1, i2] → c ∉ [z, TO, i1, i2] := fun c hc hc' => hc (by simp only [List.mem_cons] at hc' ⊢; rcases hc' with q | q | q; exact .inl q; exact .inr (.inr (.inl q)); exact .inr (.inr (.inr q)))
    have new : ObjOk X.prog X.w (upd H T (.tup [x1, x2])) h'' T (.tup [x1, x2]) :=
      ⟨by show 2 ≤ sizeLine; decide, [u1, u2], .cons rx1 (.cons rx2 (.nil)), hT2⟩
    have I1 := I.turnedNew (t' := tk) (ch := [z, TI, TO, i1, i2]) (fun c o hb q => hk'' c o (sub c hb) (hk c o (sub c hb) q)) hf hsz new
    obtain ⟨z'', hTI'', hTO'', s1, s2⟩ := st''
    refine ⟨.ref T, _, I1, rfl, ⟨T, x1, x2, rfl, I.hok.fresh hsz, rfl, fun l hl => by rw [I.sqK_inj hl q1]; exact hx1, fun l hl => by rw [I.sqK_inj hl q2]; exact hx2⟩, ⟨z'', hTI'', hTO'', s1.1, s2.1⟩, fun c hcm => ?_⟩
    have hlt : c < s.heap.objs.size := by
      have e' : c = z ∨ c = TI ∨ c = TO ∨ c = i1 ∨ c = i2 := by simpa using hcm
      rcases e' with q | q | q | q | q
      · rw [q]; exact Heap.lt_size hz
      · rw [q]; exact Heap.lt_size hTI
      · rw [q]; exact Heap.lt_size hTO
      · rw [q]; obtain ⟨_, e1, _⟩ := h1.obj; exact Heap.lt_size e1
      · rw [q]; obtain ⟨_, e1, _⟩ := h2.obj; exact Heap.lt_size e1
    rw [upd_ne (Nat.ne_of_lt (Nat.lt_of_lt_of_le hlt hsz))]
    exact (hf c hcm).1
  done := by
    intro X hP hw hK hc i pins s σ H E I hf st hg
    subst hP hw hK
    obtain ⟨hz, hTI, ⟨c1, c2, hTO⟩, h1, h2⟩ := st
    obtain ⟨xs1, xs2, q1, q2, l1, l2, hend⟩ := hg
    obtain ⟨its1, rv1, p1, _, _⟩ := I.sqK q1
    have e1 := rv1.length
    obtain ⟨its2, rv2, p2, _, _⟩ := I.sqK q2
    have e2 := rv2.length
    have W := WalksT.zipD2 (prog := X.prog) (w := X.w) (A := X.A) Sp (drawsK (k := k1) (I.ok.hd hc) n1 its1.toArray) (drawsK (k := k2) (I.ok.hd hc) n2 its2.toArray)
    have ei : i = min its1.toArray.size its2.toArray.size := by
      simp only [List.size_toArray]
      omega
    have sub : ∀ c, c ∉ [z, TI, TO, i1, i2] → c ∉ [z, TO, i1, i2] := fun c hc hc' => hc (by simp only [List.mem_cons] at hc' ⊢; rcases hc' with q | q | q; exact .inl q; exact .inr (.inr (.inl q)); exact .inr (.inr (.inr q)))
    subst ei
    exact W.done s _ E ⟨hz, hTI, ⟨c1, c2, hTO⟩, ⟨h1, p1⟩, ⟨h2, p2⟩⟩ fun h' tk hk => ⟨rfl, I.turnedL (t' := tk) (ch := [z, TI, TO, i1, i2]) (fun c o hb q => hk c o (sub c hb) q) hf⟩
  self := fun A i s Q E st h => wpAny_pyIter_zip st.1 h
def iZ2 (K : PySem.W.Frag) (ta : TA) : TI := fun σ H R => ta σ H fun vs H1 => ∃ k1 a1 xs1 k2 a2 xs2, vs = [V.ref a1, V.ref a2] ∧ SqK k1 K H1 a1 xs1 ∧ SqK k2 K H1 a2 xs2 ∧ R (ItZ2 K k1 a1 k2 a2) H1
theorem pi_zip2 {X : Cx} {e1 e2 : Expr} {ta : TA} {p pos tpos : Pos} {elts : List Expr} {kk : Nat} (hg : Gl X "zip") (hm : X.mg "zip" = none) (ha : PA X [e1, e2] ta)
    (hs : starEach [e1, e2] X.env = (false, eval e1 X.env) :: starEach [e2] X.env := by rfl) (hpl : (backTo pos (starEach [e2] X.env)).any (·.1) = false := by rfl) :
    PI X (.Tuple elts kk tpos) (.Call (.Name "zip" p) [e1, e2] [] pos) (iZ2 X.K ta) := by
  refine ⟨fun pins s σ H R I h => ?_⟩
  refine Call_ (ld_blt I hg hm PyProof.Rows.boot_zip (PyProof.Rows.callWith_type1 (thn (ha.run pos pins s σ H _ I h) fun us s1 ⟨vs, H1, I1, r1, q1⟩ => ?_) hs hpl))
  obtain ⟨k1, a1, xs1, k2, a2, xs2, ex, q1, q2, q⟩ := q1
  subst ex

  obtain ⟨v1, v2, rfl, r1, r2⟩ := vals2 r1
  cases r1
  obtain ⟨its1, rv1, p1, l1, _⟩ := I1.sqK q1
  cases r2
  obtain ⟨its2, rv2, p2, l2, _⟩ := I1.sqK q2
  refine zip_begins2 (begK k1 a1 its1.toArray) (begK k2 a2 its2.toArray) p1 p2 fun h' hz hTI hTO h1 h2 hsz hk => wpAny_pyIter_zip hz ?_
  have I2 : Inv X pins σ H1 { s1 with heap := h' } := I1.kept (t' := s1.toks) hk
  refine ⟨s1.heap.objs.size + 4, [s1.heap.objs.size + 4, s1.heap.objs.size + 2, s1.heap.objs.size + 3, s1.heap.objs.size, s1.heap.objs.size + 1], _, _, H1, rfl, I2, turn_zip2 (sep2 s1.heap.objs.size a1 a2 l1 l2) (Nat.ne_of_lt l1) (Nat.ne_of_lt (Nat.lt_add_right 1 l2)), ⟨hz, hTI, ⟨_, _, hTO⟩, itK h1, itK h2⟩, fun c hcm => ?_, q⟩
  have hle : s1.heap.objs.size ≤ c := by
    have e' : c = s1.heap.objs.size + 4 ∨ c = s1.heap.objs.size + 2 ∨ c = s1.heap.objs.size + 3 ∨ c = s1.heap.objs.size ∨ c = s1.heap.objs.size + 1 := by simpa using hcm
    rcases e' with z | z | z | z | z
    · rw [z]; exact Nat.le_add_right _ _
    · rw [z]; exact Nat.le_add_right _ _
    · rw [z]; exact Nat.le_add_right _ _
    · rw [z]; exact Nat.le_refl _
    · rw [z]; exact Nat.le_add_right _ _
  exact I1.fpOk hle (I1.hok.fresh hle)
/-- over data -/
def dZip2 (t : DTA) : DI := fun ρ Q => t ρ fun xs ρ1 => match xs with
  | [.d x1, .d x2] => (match seqD x1, seqD x2 with
    | some ds1, some ds2 => Q (zipD2 ds1 ds2) ρ1
    | _, _ => False)
  | _ => False
theorem di_zip2 {X : Cx} {C : Fr} {e1 e2 : Expr} {ta : DTA} {p pos tpos : Pos} {elts : List Expr} {kk : Nat} (hg : Gl X "zip") (hm : X.mg "zip" = none) (ha : PA X [e1, e2] (lA C ta)) (hK : C.K = X.K := by rfl)
    (hs : starEach [e1, e2] X.env = (false, eval e1 X.env) :: starEach [e2] X.env := by rfl) (hpl : (backTo pos (starEach [e2] X.env)).any (·.1) = false := by rfl) :
    PI X (.Tuple elts kk tpos) (.Call (.Name "zip" p) [e1, e2] [] pos) (lI C (dZip2 ta)) :=
  (pi_zip2 hg hm ha.lens hs hpl).weak fun σ H R ⟨ρ, p, Rd, S, q, k⟩ => ⟨ρ, p, _, S, q, fun xs ρ1 vs H1 q1 hl S1 L => by
    split at q1
    · rename_i x1 x2
      obtain ⟨v1, v2, rfl⟩ := two_len (x := RV.d x1) (y := RV.d x2) hl
      split at q1
      · rename_i ds1 ds2 s1 s2
        have S2 : SR C ρ1 σ ((.d x2, v2) :: (.d x1, v1) :: p) H1 := S1
        obtain ⟨a1, y1, rfl, hq1, rr1⟩ := seqD_at s1 (S2.pop.pend _ List.mem_cons_self)
        obtain ⟨a2, y2, rfl, hq2, rr2⟩ := seqD_at s2 (S2.pend _ List.mem_cons_self)
        refine ⟨_, a1, y1, _, a2, y2, rfl, hK ▸ hq1, hK ▸ hq2, hK ▸ k _ ρ1 _ H1 [(.d x2, .ref a2), (.d x1, .ref a1)] q1 (by
          intro q hq
          simp only [List.mem_cons, List.not_mem_nil, or_false] at hq
          rcases hq with h | h <;> exact ⟨_, by rw [h]⟩) ?_ S2 ?_⟩
        · refine ⟨fun i ρ σ p H hi S => ?_, fun i ρ σ p H x H' hi S y => ?_, fun ρ σ p H S => ?_⟩
          · rw [zipD2_length] at hi
            obtain ⟨b1, w1, eb1, hw1, rw1⟩ := seqD_at s1 (S.pop.pend _ List.mem_cons_self)
            cases eb1
            have g1 := rw1.length
            obtain ⟨b2, w2, eb2, hw2, rw2⟩ := seqD_at s2 (S.pend _ List.mem_cons_self)
            cases eb2
            have g2 := rw2.length
            exact ⟨w1, w2, hw1, hw2, by omega, by omega⟩
          · rw [zipD2_length] at hi
            obtain ⟨b1, w1, eb1, hw1, rw1⟩ := seqD_at s1 (S.pop.pend _ List.mem_cons_self)
            cases eb1
            obtain ⟨b2, w2, eb2, hw2, rw2⟩ := seqD_at s2 (S.pend _ List.mem_cons_self)
            cases eb2
            obtain ⟨T, z1, z2, rfl, nT, rfl, f1, f2⟩ := y
            obtain ⟨d1, hd1, hr1⟩ := rw1.get (f1 _ hw1)
            obtain ⟨d2, hd2, hr2⟩ := rw2.get (f2 _ hw2)
            refine ⟨.tup [d1, d2], zipD2_get hd1 hd2, same_new nT, ?_⟩
            simp only [Rp]
            exact ⟨T, _, rfl, SqT.of upd_same, RpL.imm (Imm.of_same (same_new nT)) (.cons hr1 (.cons hr2 (.nil)))⟩
          · show ∃ xs1 xs2 : List V, _
            obtain ⟨b1, w1, eb1, hw1, rw1⟩ := seqD_at s1 (S.pop.pend _ List.mem_cons_self)
            cases eb1
            have g1 := rw1.length
            obtain ⟨b2, w2, eb2, hw2, rw2⟩ := seqD_at s2 (S.pend _ List.mem_cons_self)
            cases eb2
            have g2 := rw2.length
            refine ⟨w1, w2, hw1, hw2, ?_⟩
            rw [zipD2_length]
            omega
        · rw [zipD2_length]
          have g1 := rr1.length
          have h1 := hq1.len (hK ▸ L)
          omega
      · exact q1.elim
    · exact q1.elim⟩
/-- zip of 3: lists and tuples in any mix -/
def ItZ3 (K : PySem.W.Frag) (k1 : Bool) (a1 : Addr) (k2 : Bool) (a2 : Addr) (k3 : Bool) (a3 : Addr) : It :=
  ⟨fun i H => ∃ xs1 xs2 xs3 : List V, SqK k1 K H a1 xs1 ∧ SqK k2 K H a2 xs2 ∧ SqK k3 K H a3 xs3 ∧ i < xs1.length ∧ i < xs2.length ∧ i < xs3.length,
    fun i H v H' => ∃ T x1 x2 x3, v = V.ref T ∧ H T = none ∧ H' = upd H T (.tup [x1, x2, x3]) ∧ (∀ xs, SqK k1 K H a1 xs → xs[i]? = some x1) ∧ (∀ xs, SqK k2 K H a2 xs → xs[i]? = some x2) ∧ (∀ xs, SqK k3 K H a3 xs → xs[i]? = some x3),
    fun i H => ∃ xs1 xs2 xs3 : List V, SqK k1 K H a1 xs1 ∧ SqK k2 K H a2 xs2 ∧ SqK k3 K H a3 xs3 ∧ i ≤ xs1.length ∧ i ≤ xs2.length ∧ i ≤ xs3.length ∧ (i = xs1.length ∨ i = xs2.length ∨ i = xs3.length)⟩
theorem turn_zip3 {P : Program} {w : World} {K : PySem.W.Frag} {elts : List Expr} {kk : Nat} {tpos : Pos} {k1 k2 k3 : Bool} {a1 a2 a3 z TI TO i1 i2 i3 : Addr} (Sp : ZipSep3 z TI TO i1 i2 i3 [i1, a1] [i2, a2] [i3, a3]) (n1 : a1 ≠ i1) (n2 : a2 ≠ i2) (n3 : a3 ≠ i3) :
    Turn P w K (.Tuple elts kk tpos) (ItZ3 K k1 a1 k2 a2 k3 a3) [z, TI, TO, i1, i2, i3] z (fun i h => IsZip h z TI TO .none ∧ IsTupOf3 h TI (.ref i1) (.ref i2) (.ref i3) ∧ (∃ c1 c2 c3, IsTupOf3 h TO c1 c2 c3) ∧ IsItK k1 h i1 a1 i ∧ IsItK k2 h i2 a2 i ∧ IsItK k3 h i3 a3 i) where
  mem := by simp
  obj := fun i h st c hc => by
    obtain ⟨hz, hTI, ⟨c1, c2, c3, hTO⟩, h1, h2, h3⟩ := st
    have e' : c = z ∨ c = TI ∨ c = TO ∨ c = i1 ∨ c = i2 ∨ c = i3 := by simpa using hc
    rcases e' with q | q | q | q | q | q
    · rw [q]; exact ⟨_, hz, fun v q => nomatch q⟩
    · rw [q]; exact ⟨_, hTI, fun v q => nomatch q⟩
    · rw [q]; exact ⟨_, hTO, fun v q => nomatch q⟩
    · rw [q]; exact h1.obj
    · rw [q]; exact h2.obj
    · rw [q]; exact h3.obj
  keep := fun i h h' st k => by
    obtain ⟨hz, hTI, ⟨c1, c2, c3, hTO⟩, h1, h2, h3⟩ := st
    exact ⟨k z (by simp) _ hz, k TI (by simp) _ hTI, ⟨c1, c2, c3, k TO (by simp) _ hTO⟩, h1.at fun o q => k i1 (by simp) o q, h2.at fun o q => k i2 (by simp) o q, h3.at fun o q => k i3 (by simp) o q⟩
  item := by
    intro X hP hw hK hc i pins s σ H E I hf st hg
    subst hP hw hK
    obtain ⟨hz, hTI, ⟨c1, c2, c3, hTO⟩, h1, h2, h3⟩ := st
    obtain ⟨xs1, xs2, xs3, q1, q2, q3, l1, l2, l3⟩ := hg
    obtain ⟨its1, rv1, p1, _, _⟩ := I.sqK q1
    have e1 := rv1.length
    obtain ⟨its2, rv2, p2, _, _⟩ := I.sqK q2
    have e2 := rv2.length
    obtain ⟨its3, rv3, p3, _, _⟩ := I.sqK q3
    have e3 := rv3.length
    have W := WalksT.zipD3 (prog := X.prog) (w := X.w) (A := X.A) Sp (drawsK (k := k1) (I.ok.hd hc) n1 its1.toArray) (drawsK (k := k2) (I.ok.hd hc) n2 its2.toArray) (drawsK (k := k3) (I.ok.hd hc) n3 its3.toArray)
    refine W.item i s _ E ?_ ⟨hz, hTI, ⟨c1, c2, c3, hTO⟩, ⟨h1, p1⟩, ⟨h2, p2⟩, ⟨h3, p3⟩⟩ fun T vals h' tk hP hsz hT hm hk => ⟨.ref T, rfl, W.go elts kk tpos i T _ _ _ hm fun h'' st'' hk'' => ?_⟩
    · simp only [List.size_toArray]
      omega
    obtain ⟨u1, u2, u3, hu1, hu2, hu3, ev⟩ := hP
    subst ev
    obtain ⟨x1, hx1, rx1⟩ := valsBack (i := i) (u := u1) rv1 (by simpa using hu1)
    obtain ⟨x2, hx2, rx2⟩ := valsBack (i := i) (u := u2) rv2 (by simpa using hu2)
    obtain ⟨x3, hx3, rx3⟩ := valsBack (i := i) (u := u3) rv3 (by simpa using hu3)
    have hap := W.apart i T h' hm
    have hT2 : IsTup h'' T [u1, u2, u3].toArray := by
      obtain ⟨o, ho, r⟩ := hT
      exact ⟨o, hk'' T o hap ho, r⟩
    have sub : ∀ c, c ∉ [z, TI, TO, i1, i2, i3] → c ∉ [z, TO, i1, i2, i3] := fun c hc hc' => hc (by simp only [List.mem_cons] at hc' ⊢; rcases hc' with q | q | q; exact .inl q; exact .inr (.inr (.inl q)); exact .inr (.inr (.inr q)))
    have new : ObjOk X.prog X.w (upd H T (.tup [x1, x2, x3])) h'' T (.tup [x1, x2, x3]) :=
      ⟨by show 3 ≤ sizeLine; decide, [u1, u2, u3], .cons rx1 (.cons rx2 (.cons rx3 (.nil))), hT2⟩
    have I1 := I.turnedNew (t' := tk) (ch := [z, TI, TO, i1, i2, i3]) (fun c o hb q => hk'' c o (sub c hb) (hk c o (sub c hb) q)) hf hsz new
    obtain ⟨z'', hTI'', hTO'', s1, s2, s3⟩ := st''
    refine ⟨.ref T, _, I1, rfl, ⟨T, x1, x2, x3, rfl, I.hok.fresh hsz, rfl, fun l hl => by rw [I.sqK_inj hl q1]; exact hx1, fun l hl => by rw [I.sqK_inj hl q2]; exact hx2, fun l hl => by rw [I.sqK_inj hl q3]; exact hx3⟩, ⟨z'', hTI'', hTO'', s1.1, s2.1, s3.1⟩, fun c hcm => ?_⟩
    have hlt : c < s.heap.objs.size := by
      have e' : c = z ∨ c = TI ∨ c = TO ∨ c = i1 ∨ c = i2 ∨ c = i3 := by simpa using hcm
      rcases e' with q | q | q | q | q | q
      · rw [q]; exact Heap.lt_size hz
      · rw [q]; exact Heap.lt_size hTI
      · rw [q]; exact Heap.lt_size hTO
      · rw [q]; obtain ⟨_, e1, _⟩ := h1.obj; exact Heap.lt_size e1
      · rw [q]; obtain ⟨_, e1, _⟩ := h2.obj; exact Heap.lt_size e1
      · rw [q]; obtain ⟨_, e1, _⟩ := h3.obj; exact Heap.lt_size e1
    rw [upd_ne (Nat.ne_of_lt (Nat.lt_of_lt_of_le hlt hsz))]
    exact (hf c hcm).1
  done := by
    intro X hP hw hK hc i pins s σ H E I hf st hg
    subst hP hw hK
    obtain ⟨hz, hTI, ⟨c1, c2, c3, hTO⟩, h1, h2, h3⟩ := st
    obtain ⟨xs1, xs2, xs3, q1, q2, q3, l1, l2, l3, hend⟩ := hg
    obtain ⟨its1, rv1, p1, _, _⟩ := I.sqK q1
    have e1 := rv1.length
    obtain ⟨its2, rv2, p2, _, _⟩ := I.sqK q2
    have e2 := rv2.length
    obtain ⟨its3, rv3, p3, _, _⟩ := I.sqK q3
    have e3 := rv3.length
    have W := WalksT.zipD3 (prog := X.prog) (w := X.w) (A := X.A) Sp (drawsK (k := k1) (I.ok.hd hc) n1 its1.toArray) (drawsK (k := k2) (I.ok.hd hc) n2 its2.toArray) (drawsK (k := k3) (I.ok.hd hc) n3 its3.toArray)
    have ei : i = min (min its1.toArray.size its2.toArray.size) its3.toArray.size := by
      simp only [List.size_toArray]
      omega
    have sub : ∀ c, c ∉ [z, TI, TO, i1, i2, i3] → c ∉ [z, TO, i1, i2, i3] := fun c hc hc' => hc (by simp only [List.mem_cons] at hc' ⊢; rcases hc' with q | q | q; exact .inl q; exact .inr (.inr (.inl q)); exact .inr (.inr (.inr q)))
    subst ei
    exact W.done s _ E ⟨hz, hTI, ⟨c1, c2, c3, hTO⟩, ⟨h1, p1⟩, ⟨h2, p2⟩, ⟨h3, p3⟩⟩ fun h' tk hk => ⟨rfl, I.turnedL (t' := tk) (ch := [z, TI, TO, i1, i2, i3]) (fun c o hb q => hk c o (sub c hb) q) hf⟩
  self := fun A i s Q E st h => wpAny_pyIter_zip st.1 h
def iZ3 (K : PySem.W.Frag) (ta : TA) : TI := fun σ H R => ta σ H fun vs H1 => ∃ k1 a1 xs1 k2 a2 xs2 k3 a3 xs3, vs = [V.ref a1, V.ref a2, V.ref a3] ∧ SqK k1 K H1 a1 xs1 ∧ SqK k2 K H1 a2 xs2 ∧ SqK k3 K H1 a3 xs3 ∧ R (ItZ3 K k1 a1 k2 a2 k3 a3) H1
theorem pi_zip3 {X : Cx} {e1 e2 e3 : Expr} {ta : TA} {p pos tpos : Pos} {elts : List Expr} {kk : Nat} (hg : Gl X "zip") (hm : X.mg "zip" = none) (ha : PA X [e1, e2, e3] ta)
    (hs : starEach [e1, e2, e3] X.env = (false, eval e1 X.env) :: starEach [e2, e3] X.env := by rfl) (hpl : (backTo pos (starEach [e2, e3] X.env)).any (·.1) = false := by rfl) :
    PI X (.Tuple elts kk tpos) (.Call (.Name "zip" p) [e1, e2, e3] [] pos) (iZ3 X.K ta) := by
  refine ⟨fun pins s σ H R I h => ?_⟩
  refine Call_ (ld_blt I hg hm PyProof.Rows.boot_zip (PyProof.Rows.callWith_type1 (thn (ha.run pos pins s σ H _ I h) fun us s1 ⟨vs, H1, I1, r1, q1⟩ => ?_) hs hpl))
  obtain ⟨k1, a1, xs1, k2, a2, xs2, k3, a3, xs3, ex, q1, q2, q3, q⟩ := q1
  subst ex

  obtain ⟨v1, v2, v3, rfl, r1, r2, r3⟩ := vals3 r1
  cases r1
  obtain ⟨its1, rv1, p1, l1, _⟩ := I1.sqK q1
  cases r2
  obtain ⟨its2, rv2, p2, l2, _⟩ := I1.sqK q2
  cases r3
  obtain ⟨its3, rv3, p3, l3, _⟩ := I1.sqK q3
  refine zip_begins3 (begK k1 a1 its1.toArray) (begK k2 a2 its2.toArray) (begK k3 a3 its3.toArray) p1 p2 p3 fun h' hz hTI hTO h1 h2 h3 hsz hk => wpAny_pyIter_zip hz ?_
  have I2 : Inv X pins σ H1 { s1 with heap := h' } := I1.kept (t' := s1.toks) hk
  refine ⟨s1.heap.objs.size + 5, [s1.heap.objs.size + 5, s1.heap.objs.size + 3, s1.heap.objs.size + 4, s1.heap.objs.size, s1.heap.objs.size + 1, s1.heap.objs.size + 2], _, _, H1, rfl, I2, turn_zip3 (sep3 s1.heap.objs.size a1 a2 a3 l1 l2 l3) (Nat.ne_of_lt l1) (Nat.ne_of_lt (Nat.lt_add_right 1 l2)) (Nat.ne_of_lt (Nat.lt_add_right 2 l3)), ⟨hz, hTI, ⟨_, _, _, hTO⟩, itK h1, itK h2, itK h3⟩, fun c hcm => ?_, q⟩
  have hle : s1.heap.objs.size ≤ c := by
    have e' : c = s1.heap.objs.size + 5 ∨ c = s1.heap.objs.size + 3 ∨ c = s1.heap.objs.size + 4 ∨ c = s1.heap.objs.size ∨ c = s1.heap.objs.size + 1 ∨ c = s1.heap.objs.size + 2 := by simpa using hcm
    rcases e' with z | z | z | z | z | z
    · rw [z]; exact Nat.le_add_right _ _
    · rw [z]; exact Nat.le_add_right _ _
    · rw [z]; exact Nat.le_add_right _ _
    · rw [z]; exact Nat.le_refl _
    · rw [z]; exact Nat.le_add_right _ _
    · rw [z]; exact Nat.le_add_right _ _
  exact I1.fpOk hle (I1.hok.fresh hle)
/-- over data -/
def dZip3 (t : DTA) : DI := fun ρ Q => t ρ fun xs ρ1 => match xs with
  | [.d x1, .d x2, .d x3] => (match seqD x1, seqD x2, seqD x3 with
    | some ds1, some ds2, some ds3 => Q (zipD3 ds1 ds2 ds3) ρ1
    | _, _, _ => False)
  | _ => False
theorem di_zip3 {X : Cx} {C : Fr} {e1 e2 e3 : Expr} {ta : DTA} {p pos tpos : Pos} {elts : List Expr} {kk : Nat} (hg : Gl X "zip") (hm : X.mg "zip" = none) (ha : PA X [e1, e2, e3] (lA C ta)) (hK : C.K = X.K := by rfl)
    (hs : starEach [e1, e2, e3] X.env = (false, eval e1 X.env) :: starEach [e2, e3] X.env := by rfl) (hpl : (backTo pos (starEach [e2, e3] X.env)).any (·.1) = false := by rfl) :
    PI X (.Tuple elts kk tpos) (.Call (.Name "zip" p) [e1, e2, e3] [] pos) (lI C (dZip3 ta)) :=
  (pi_zip3 hg hm ha.lens hs hpl).weak fun σ H R ⟨ρ, p, Rd, S, q, k⟩ => ⟨ρ, p, _, S, q, fun xs ρ1 vs H1 q1 hl S1 L => by
    split at q1
    · rename_i x1 x2 x3
      obtain ⟨v1, v2, v3, rfl⟩ := three_len (x := RV.d x1) (y := RV.d x2) (z := RV.d x3) hl
      split at q1
      · rename_i ds1 ds2 ds3 s1 s2 s3
        have S2 : SR C ρ1 σ ((.d x3, v3) :: (.d x2, v2) :: (.d x1, v1) :: p) H1 := S1
        obtain ⟨a1, y1, rfl, hq1, rr1⟩ := seqD_at s1 (S2.pop.pop.pend _ List.mem_cons_self)
        obtain ⟨a2, y2, rfl, hq2, rr2⟩ := seqD_at s2 (S2.pop.pend _ List.mem_cons_self)
        obtain ⟨a3, y3, rfl, hq3, rr3⟩ := seqD_at s3 (S2.pend _ List.mem_cons_self)
        refine ⟨_, a1, y1, _, a2, y2, _, a3, y3, rfl, hK ▸ hq1, hK ▸ hq2, hK ▸ hq3, hK ▸ k _ ρ1 _ H1 [(.d x3, .ref a3), (.d x2, .ref a2), (.d x1, .ref a1)] q1 (by
          intro q hq
          simp only [List.mem_cons, List.not_mem_nil, or_false] at hq
          rcases hq with h | h | h <;> exact ⟨_, by rw [h]⟩) ?_ S2 ?_⟩
        · refine ⟨fun i ρ σ p H hi S => ?_, fun i ρ σ p H x H' hi S y => ?_, fun ρ σ p H S => ?_⟩
          · rw [zipD3_length] at hi
            obtain ⟨b1, w1, eb1, hw1, rw1⟩ := seqD_at s1 (S.pop.pop.pend _ List.mem_cons_self)
            cases eb1
            have g1 := rw1.length
            obtain ⟨b2, w2, eb2, hw2, rw2⟩ := seqD_at s2 (S.pop.pend _ List.mem_cons_self)
            cases eb2
            have g2 := rw2.length
            obtain ⟨b3, w3, eb3, hw3, rw3⟩ := seqD_at s3 (S.pend _ List.mem_cons_self)
            cases eb3
            have g3 := rw3.length
            exact ⟨w1, w2, w3, hw1, hw2, hw3, by omega, by omega, by omega⟩
          · rw [zipD3_length] at hi
            obtain ⟨b1, w1, eb1, hw1, rw1⟩ := seqD_at s1 (S.pop.pop.pend _ List.mem_cons_self)
            cases eb1
            obtain ⟨b2, w2, eb2, hw2, rw2⟩ := seqD_at s2 (S.pop.pend _ List.mem_cons_self)
            cases eb2
            obtain ⟨b3, w3, eb3, hw3, rw3⟩ := seqD_at s3 (S.pend _ List.mem_cons_self)
            cases eb3
            obtain ⟨T, z1, z2, z3, rfl, nT, rfl, f1, f2, f3⟩ := y
            obtain ⟨d1, hd1, hr1⟩ := rw1.get (f1 _ hw1)
            obtain ⟨d2, hd2, hr2⟩ := rw2.get (f2 _ hw2)
            obtain ⟨d3, hd3, hr3⟩ := rw3.get (f3 _ hw3)
            refine ⟨.tup [d1, d2, d3], zipD3_get hd1 hd2 hd3, same_new nT, ?_⟩
            simp only [Rp]
            exact ⟨T, _, rfl, SqT.of upd_same, RpL.imm (Imm.of_same (same_new nT)) (.cons hr1 (.cons hr2 (.cons hr3 (.nil))))⟩
          · show ∃ xs1 xs2 xs3 : List V, _
            obtain ⟨b1, w1, eb1, hw1, rw1⟩ := seqD_at s1 (S.pop.pop.pend _ List.mem_cons_self)
            cases eb1
            have g1 := rw1.length
            obtain ⟨b2, w2, eb2, hw2, rw2⟩ := seqD_at s2 (S.pop.pend _ List.mem_cons_self)
            cases eb2
            have g2 := rw2.length
            obtain ⟨b3, w3, eb3, hw3, rw3⟩ := seqD_at s3 (S.pend _ List.mem_cons_self)
            cases eb3
            have g3 := rw3.length
            refine ⟨w1, w2, w3, hw1, hw2, hw3, ?_⟩
            rw [zipD3_length]
            omega
        · rw [zipD3_length]
          have g1 := rr1.length
          have h1 := hq1.len (hK ▸ L)
          omega
      · exact q1.elim
    · exact q1.elim⟩
end DL

set_option Elab.async false
set_option linter.all false
set_option maxRecDepth 100000
namespace DL
open PySem PySem.Spec L2
open PyProof.Rows hiding St

/-! ### a def keeps its promise over data -/
def startD (N : List Str) (ds : List D) : List SV := ds.map .d ++ List.replicate (N.length - ds.length) .un
def startJ (N : List Str) (o : OV) (ds : List D) : List SV := .ow o :: (ds.map .d ++ List.replicate (N.length - (ds.length + 1)) .un)
/-- what a def hands out -/
def finP (R : RV → Prop) (rv : RV) (ρ : List SV) : Prop := match rv with
  | .d x => R (.d x)
  | .ow o => R (.ow o)
  | .al i => (match ρ[i]? with
    | some (.d x) => R (.d x)
    | some (.ow o) => R (.ow o)
    | _ => False)
def finJ (R : RV → OV → Prop) (rv : RV) (ρ : List SV) : Prop := match ρ[(0 : Nat)]? with
  | some (.ow o') => (match rv with
    | .d x => R (.d x) o'
    | .ow o => R (.ow o) o'
    | .al i => i ≠ 0 ∧ (match ρ[i]? with
      | some (.d x) => R (.d x) o'
      | some (.ow o) => R (.ow o) o'
      | _ => False))
  | _ => False
theorem start_get {N : List Str} {vs : List V} {ds : List D} (hl : ds.length = vs.length) {i : Nat} {sv : SV} {ov : Option V} (h1 : (startD N ds)[i]? = some sv) (h2 : (start N vs)[i]? = some ov) :
    (∃ d v, ds[i]? = some d ∧ vs[i]? = some v ∧ sv = .d d ∧ ov = some v) ∨ sv = .un := by
  unfold startD at h1
  unfold L2.start at h2
  by_cases hi : i < ds.length
  · rw [List.getElem?_append_left (by simpa using hi), List.getElem?_map] at h1
    rw [List.getElem?_append_left (by rw [List.length_map, ← hl]; exact hi), List.getElem?_map] at h2
    cases e1 : ds[i]? with
    | none => rw [e1] at h1; cases h1
    | some d =>
      cases e2 : vs[i]? with
      | none => rw [e2] at h2; cases h2
      | some v =>
        rw [e1] at h1
        rw [e2] at h2
        exact .inl ⟨d, v, rfl, rfl, (Option.some.inj h1).symm, (Option.some.inj h2).symm⟩
  · rw [List.getElem?_append_right (by simpa using hi), List.getElem?_replicate] at h1
    split at h1
    · exact .inr (Option.some.inj h1).symm
    · cases h1
theorem filter_none {l : List (SV × Option V)} (h : ∀ q ∈ l, adrS q = none) : l.filterMap adrS = [] := by
  induction l with
  | nil => rfl
  | cons x l ih =>
    rw [List.filterMap_cons, h x List.mem_cons_self]
    exact ih fun q hq => h q (List.mem_cons_of_mem _ hq)
theorem sr_start {P : Program} {w : World} {K : PySem.W.Frag} {H : Hp} {N : List Str} {vs : List V} {ds : List D} (r : RpL K H ds vs) : SR ⟨P, w, K, H, none⟩ (startD N ds) (start N vs) [] H := by
  have hl := r.length
  have na : adrs (startD N ds) (start N vs) [] = [] := by
    show [] ++ _ = _
    rw [List.nil_append]
    refine filter_none fun q hq => ?_
    obtain ⟨i, hi⟩ := List.getElem?_of_mem hq
    obtain ⟨h1, h2⟩ := zip_at hi
    rcases start_get hl h1 h2 with ⟨d, v, _, _, e, _⟩ | e <;> (obtain ⟨a, b⟩ := q; dsimp only at e; subst e; rfl)
  refine ⟨?_, fun c o _ e => e, fun i sv ov h1 h2 => ?_, fun q hq => (by cases hq), (by rw [na]; exact List.nodup_nil), fun a ha => (by rw [na] at ha; cases ha), fun j hj => (by cases hj)⟩
  · unfold startD L2.start
    simp [hl]
  · rcases start_get hl h1 h2 with ⟨d, v, e1, e2, rfl, rfl⟩ | rfl
    · obtain ⟨v', e', rr⟩ := r.get' e1
      rw [e2] at e'; cases e'
      exact ⟨v, rfl, rr⟩
    · trivial
theorem sr_startJ {P : Program} {w : World} {K : PySem.W.Frag} {H : Hp} {N : List Str} {j : Addr} {o : OV} {vs : List V} {ds : List D} (ok : OVok (bas P w K) H j o) (r : RpL K H ds vs) :
    SR ⟨P, w, K, H, some j⟩ (startJ N o ds) (start N (.ref j :: vs)) [] H := by
  have hl := r.length
  have es : start N (.ref j :: vs) = some (.ref j) :: (vs.map some ++ List.replicate (N.length - (vs.length + 1)) none) := by
    unfold L2.start
    simp
  have rest : ∀ {i : Nat} {sv : SV} {ov : Option V}, (ds.map SV.d ++ List.replicate (N.length - (ds.length + 1)) SV.un)[i]? = some sv → (vs.map some ++ List.replicate (N.length - (vs.length + 1)) none)[i]? = some ov →
      (∃ d v, ds[i]? = some d ∧ vs[i]? = some v ∧ sv = .d d ∧ ov = some v) ∨ sv = .un := fun {i sv ov} h1 h2 => by
    by_cases hi : i < ds.length
    · rw [List.getElem?_append_left (by simpa using hi), List.getElem?_map] at h1
      rw [List.getElem?_append_left (by rw [List.length_map, ← hl]; exact hi), List.getElem?_map] at h2
      cases e1 : ds[i]? with
      | none => rw [e1] at h1; cases h1
      | some d =>
        cases e2 : vs[i]? with
        | none => rw [e2] at h2; cases h2
        | some v =>
          rw [e1] at h1
          rw [e2] at h2
          exact .inl ⟨d, v, rfl, rfl, (Option.some.inj h1).symm, (Option.some.inj h2).symm⟩
    · rw [List.getElem?_append_right (by simpa using hi), List.getElem?_replicate] at h1
      split at h1
      · exact .inr (Option.some.inj h1).symm
      · cases h1
  have na : adrs (startJ N o ds) (start N (.ref j :: vs)) [] = [j] := by
    rw [es]
    show [] ++ ((SV.ow o, some (V.ref j)) :: (List.zip _ _)).filterMap adrS = _
    rw [List.nil_append, List.filterMap_cons]
    show j :: _ = _
    rw [filter_none]
    intro q hq
    obtain ⟨i, hi⟩ := List.getElem?_of_mem hq
    obtain ⟨h1, h2⟩ := zip_at hi
    rcases rest h1 h2 with ⟨d, v, _, _, e, _⟩ | e <;> (obtain ⟨a, b⟩ := q; dsimp only at e; subst e; rfl)
  refine ⟨?_, fun c o _ e => e, fun i sv ov h1 h2 => ?_, fun q hq => (by cases hq), (by rw [na]; simp), fun a ha => ?_, fun j' hj => ?_⟩
  · rw [es]
    unfold startJ
    simp [hl]
  · rw [es] at h2
    cases i with
    | zero =>
      unfold startJ at h1
      simp only [List.getElem?_cons_zero, Option.some.injEq] at h1 h2
      subst h1 h2
      exact ⟨j, rfl, ok.any rfl rfl rfl⟩
    | succ i =>
      unfold startJ at h1
      simp only [List.getElem?_cons_succ] at h1 h2
      rcases rest h1 h2 with ⟨d, v, e1, e2, rfl, rfl⟩ | rfl
      · obtain ⟨v', e', rr⟩ := r.get' e1
        rw [e2] at e'; cases e'
        exact ⟨v, rfl, rr⟩
      · trivial
  · rw [na] at ha
    have e : a = j := by simpa using ha
    subst e
    exact .inl rfl
  · have e : j = j' := Option.some.inj hj
    subst e
    rw [es]
    rfl
section
variable {P : Program} {w : World} {K : PySem.W.Frag} {mg : Str → Option Value} {base : Heap} {x qual : Str} {params : Arguments} {body : List Stmt} {scope : Scope} {f : Addr} {fd : FuncData} {N ps : List Str} {k : Nat}
/-- what callers take -/
structure Def (P : Program) (w : World) (K : PySem.W.Frag) (mg : Str → Option Value) (base : Heap) (k : Nat) (x : Str) (f : Addr) (fd : FuncData) (ps : List Str) (sp : Sp) : Prop where
  ok : FnOk P w K mg base CX0 k f fd ps sp
  gl : mg x = some (.ref f)
  kp : PySem.W.keepIn K (.ref f) = true
  bd : Binds K fd ps []
theorem Def.own {X : Cx} {sp : Sp} (F : Def X.prog X.w X.K X.mg X.base k x f fd ps sp) : Own X k x f fd ps sp := ⟨F.ok, F.gl, F.kp, F.bd⟩
theorem fin_new {C : Fr} {R : RV → Prop} {rv : RV} {ρ : List SV} {σ : St} {v : V} {H' : Hp} (hb : C.b = none) (q : finP R rv ρ) (S : SR C ρ σ [(rv, v)] H') : ∃ rv', R rv' ∧ RNew C C.H0 H' rv' v := by
  have nw : ∀ a ∈ adrs ρ σ [(rv, v)], C.H0 a = none := fun a ha => (S.new a ha).resolve_left fun z => by rw [hb] at z; cases z
  cases rv with
  | d x => exact ⟨_, q, S.pend _ List.mem_cons_self⟩
  | ow o =>
    obtain ⟨a, ea, ok⟩ := S.pend _ List.mem_cons_self
    dsimp only at ea
    subst ea
    exact ⟨_, q, a, rfl, nw a (adr_pend List.mem_cons_self rfl), ok⟩
  | al i =>
    obtain ⟨ev, sv, es, hne⟩ := S.pend _ List.mem_cons_self
    dsimp only at ev
    unfold finP at q
    dsimp only at q
    rw [es] at q
    cases sv with
    | un => exact q.elim
    | d x =>
      obtain ⟨v', e', r⟩ := S.slot i _ _ es ev
      cases e'
      exact ⟨_, q, r⟩
    | ow o =>
      obtain ⟨a, e', ok⟩ := S.slot i _ _ es ev
      cases e'
      exact ⟨_, q, a, rfl, nw a (adr_slot S.len es ev rfl), ok⟩
theorem okP {tb : DTS} {t : DFd} (F : FunD K x qual params body scope [] [] f fd) (S : FnScope N ps scope)
    (hb : ∀ (cdv : Value) (A : Around) (outer : List Env) (s : Shared) (H : Hp) (E : XK), Room k (A.deeper (envOfC qual scope s.heap.objs.size f cdv)) → PSs (cxOf CX0 P w K mg base N qual scope f cdv A outer s H E).nox body (lS ⟨P, w, K, H, none⟩ tb))
    (hr : ∀ ds R, ds.length = ps.length → t ds R → tb { nx := fun _ => R (.d .non), rt := finP R } (startD N ds)) : FnOk P w K mg base CX0 (k + 1) f fd ps (spP (bas P w K) ps.length t) := by
  refine F.ok S (fun vs H Q E h => ?_) (fun cdv A outer s H vs Q E hroom h => ?_)
  · obtain ⟨ds, R, hl, r, _⟩ := h
    exact r.length.symm.trans hl
  · obtain ⟨ds, R, hl, r, q, kk⟩ := h
    refine ⟨lS ⟨P, w, K, H, none⟩ tb, (hb cdv A outer s H E hroom).nox, startD N ds, [], _, fun _ z => (by cases z), sr_start r, hr ds R hl q, fun ρ' σ' H' q' S' => ?_, fun rv ρ' σ' v H' q' S' => ?_, fun _ _ _ z => z.elim, fun _ _ _ z => z.elim⟩
    · exact kk (.d .non) .non H' q' (fun b o e => S'.keep b o (fun z => by cases z) e) rfl
    · obtain ⟨rv', h1, h2⟩ := fin_new rfl q' S'
      exact kk rv' v H' h1 (fun b o e => S'.keep b o (fun z => by cases z) e) (h2.any rfl rfl rfl)
theorem okJ {tb : DTS} {t : DJ} {p0 : Str} (F : FunD K x qual params body scope [] [] f fd) (S : FnScope N (p0 :: ps) scope)
    (hb : ∀ (cdv : Value) (A : Around) (outer : List Env) (s : Shared) (H : Hp) (E : XK) (j : Addr), Room k (A.deeper (envOfC qual scope s.heap.objs.size f cdv)) → PSs (cxOf CX0 P w K mg base N qual scope f cdv A outer s H E).nox body (lS ⟨P, w, K, H, some j⟩ tb))
    (hr : ∀ o ds R, ds.length = ps.length → t o ds R → tb { nx := fun ρ => finJ R (.d .non) ρ, rt := finJ R } (startJ N o ds)) : FnOk P w K mg base CX0 (k + 1) f fd (p0 :: ps) (spJ (bas P w K) ps.length t) := by
  refine F.ok S (fun vs H Q E h => ?_) (fun cdv A outer s H vs Q E hroom h => ?_)
  · obtain ⟨j, vs', o, ds, R, rfl, hl, ok, r, _⟩ := h
    simp [← r.length, hl]
  · obtain ⟨j, vs', o, ds, R, rfl, hl, ok, r, q, kk⟩ := h
    have fin : ∀ {rv : RV} {ρ' : List SV} {σ' : St} {v : V} {H' : Hp}, finJ R rv ρ' → SR ⟨P, w, K, H, some j⟩ ρ' σ' [(rv, v)] H' → Q v H' := fun {rv ρ' σ' v H'} q' S' => by
      unfold finJ at q'
      cases e0 : ρ'[0]? with
      | none => rw [e0] at q'; exact q'.elim
      | some sv0 =>
        rw [e0] at q'
        cases sv0 with
        | un => exact q'.elim
        | d _ => exact q'.elim
        | ow o' =>
          dsimp only at q'
          have ej := S'.jar j rfl
          obtain ⟨a, ea, ok'⟩ := S'.slot 0 _ _ e0 ej
          cases ea
          have sb : SameBut j H H' := fun b o hb e => S'.keep b o (fun z => hb (Option.some.inj z).symm) e
          have at0 : (ρ'.zip σ')[0]? = some (.ow o', some (.ref j)) := by rw [List.getElem?_zip_eq_some]; exact ⟨e0, ej⟩
          have ndz : ((ρ'.zip σ').filterMap adrS).Nodup := S'.sep.sublist (List.sublist_append_right _ _)
          cases rv with
          | d x => exact kk _ _ _ _ q' sb (ok'.any rfl rfl rfl) (S'.pend _ List.mem_cons_self)
          | ow o2 =>
            obtain ⟨a, ea, ok2⟩ := S'.pend _ List.mem_cons_self
            dsimp only at ea
            subst ea
            refine kk _ _ _ _ q' sb (ok'.any rfl rfl rfl) ⟨a, rfl, ?_, ok2.any rfl rfl rfl⟩
            refine (S'.new a (adr_pend List.mem_cons_self rfl)).resolve_left fun z => ?_
            cases z
            exact (List.nodup_append.mp S'.sep).2.2 j (List.mem_filterMap.mpr ⟨_, List.mem_cons_self, rfl⟩) j (List.mem_filterMap.mpr ⟨_, List.mem_of_getElem? at0, rfl⟩) rfl
          | al i =>
            obtain ⟨hi, q'⟩ := q'
            obtain ⟨ev, sv, es, hne⟩ := S'.pend _ List.mem_cons_self
            dsimp only at ev
            rw [es] at q'
            cases sv with
            | un => exact q'.elim
            | d x =>
              obtain ⟨v', e', r'⟩ := S'.slot i _ _ es ev
              cases e'
              exact kk _ _ _ _ q' sb (ok'.any rfl rfl rfl) r'
            | ow o2 =>
              obtain ⟨a, e', ok2⟩ := S'.slot i _ _ es ev
              cases e'
              refine kk _ _ _ _ q' sb (ok'.any rfl rfl rfl) ⟨a, rfl, ?_, ok2.any rfl rfl rfl⟩
              refine (S'.new a (adr_slot S'.len es ev rfl)).resolve_left fun z => ?_
              cases z
              have ati : (ρ'.zip σ')[i]? = some (.ow o2, some (.ref j)) := by rw [List.getElem?_zip_eq_some]; exact ⟨es, ev⟩
              exact hi (adr_inj ndz ati at0 rfl rfl)
    refine ⟨lS ⟨P, w, K, H, some j⟩ tb, (hb cdv A outer s H E j hroom).nox, startJ N o ds, [], _, fun _ z => (by cases z), sr_startJ ok r, hr o ds R hl q, fun ρ' σ' H' q' S' => ?_, fun rv ρ' σ' v H' q' S' => fin q' S', fun _ _ _ z => z.elim, fun _ _ _ z => z.elim⟩
    exact fin q' (S'.pushD (x := .non) (v := .non) rfl)
end
end DL

set_option Elab.async false
set_option linter.all false
set_option maxRecDepth 100000
namespace DL
open PySem PySem.Spec L2
open PyProof.Rows hiding St

section
variable {X : Cx} {C : Fr} {e a b c : Expr} {es rest : List Expr} {pos : Pos} {st : Stmt} {sts : List Stmt}
/-! ### a, b = x, y; a, b, c = x, y, z -/
def svOf : RV → Option SV
  | .d x => some (.d x)
  | .ow o => some (.ow o)
  | .al _ => none
def dPar2 (i j : Nat) (t : DTA) : DTS := fun D ρ => t ρ fun xs ρ1 => match xs with
  | [x, y] => (match svOf x, svOf y with
    | some a, some b => D.nx ((ρ1.set i a).set j b)
    | _, _ => False)
  | _ => False
def dPar3 (i j l : Nat) (t : DTA) : DTS := fun D ρ => t ρ fun xs ρ1 => match xs with
  | [x, y, z] => (match svOf x, svOf y, svOf z with
    | some a, some b, some c => D.nx (((ρ1.set i a).set j b).set l c)
    | _, _, _ => False)
  | _ => False
theorem svOf_cases {x : RV} {a : SV} (h : svOf x = some a) : (∃ d, x = .d d ∧ a = .d d) ∨ (∃ o, x = .ow o ∧ a = .ow o) := by
  cases x with
  | d d => exact .inl ⟨d, rfl, (Option.some.inj h).symm⟩
  | ow o => exact .inr ⟨o, rfl, (Option.some.inj h).symm⟩
  | al i => cases h
theorem svOf_nal {x : RV} {a : SV} (h : svOf x = some a) (i : Nat) : x ≠ .al i := by
  rcases svOf_cases h with ⟨d, rfl, _⟩ | ⟨o, rfl, _⟩ <;> (intro z; cases z)
theorem ds_par2 {i j : Nat} {x y : Str} {t : DTA} {px py pt : Pos} {kt k2 : Nat} {pt2 : Pos} (hc : X.calm = true) (hN : X.N.Nodup) (hi : X.N[i]? = some x) (hj : X.N[j]? = some y) (hij : i ≠ j)
    (hx : X.env.scope.names.lookup x = some .local) (hy : X.env.scope.names.lookup y = some .local) (ha : PA X [a, b] (lA C t)) (hb : C.b = none ∨ (i ≠ 0 ∧ j ≠ 0))
    (hw : swappedStores [.Tuple [.Name x px, .Name y py] kt pt] (.Tuple [a, b] k2 pt2) X.env = pure (some [x, y]) := by rfl)
    (hs : swapsWithSole [.Tuple [.Name x px, .Name y py] kt pt] (.Tuple [a, b] k2 pt2) pos.line X.env = pure false := by rfl) :
    PS X (.Assign [.Tuple [.Name x px, .Name y py] kt pt] (.Tuple [a, b] k2 pt2) pos) (lS C (dPar2 i j t)) :=
  (ps_par hc hN hi hj hij hx hy ha hw hs).weak fun D σ H ⟨ρ, p, R, hp, S, q, k1, k2, k3, k4⟩ => ⟨ρ, p, _, S, q, fun xs ρ1 vs H1 q1 hl S1 => by
    split at q1
    · rename_i x y
      obtain ⟨v, w, rfl⟩ := two_len (x := x) (y := y) hl
      split at q1
      · rename_i sa sb ex ey
        have S2 : SR C ρ1 σ ((y, w) :: (x, v) :: p) H1 := S1
        have S3 := S2.assign (i := j) (sv := sb) (svOf_cases ey) (fun q hq => by
          rcases List.mem_cons.mp hq with z | z
          · rw [z]; exact svOf_nal ex j
          · exact hp.nal j q z) (hb.imp id (·.2))
        have S4 := S3.assign (i := i) (sv := sa) (svOf_cases ex) (hp.nal i) (hb.imp id (·.1))
        rw [List.set_comm _ _ (Ne.symm hij), List.set_comm _ _ (Ne.symm hij)] at S4
        exact ⟨v, w, rfl, k1 _ _ _ q1 S4⟩
      · exact q1.elim
    · exact q1.elim⟩
theorem ds_par3 {i j l : Nat} {x y z : Str} {t : DTA} {px py pz pt : Pos} {kt k2 : Nat} {pt2 : Pos} (hc : X.calm = true) (hN : X.N.Nodup) (hi : X.N[i]? = some x) (hj : X.N[j]? = some y) (hl : X.N[l]? = some z) (hij : i ≠ j) (hil : i ≠ l) (hjl : j ≠ l)
    (hx : X.env.scope.names.lookup x = some .local) (hy : X.env.scope.names.lookup y = some .local) (hz : X.env.scope.names.lookup z = some .local) (ha : PA X [a, b, c] (lA C t)) (hb : C.b = none ∨ (i ≠ 0 ∧ j ≠ 0 ∧ l ≠ 0))
    (hw : swappedStores [.Tuple [.Name x px, .Name y py, .Name z pz] kt pt] (.Tuple [a, b, c] k2 pt2) X.env = pure (some [x, y, z]) := by rfl)
    (hs : swapsWithSole [.Tuple [.Name x px, .Name y py, .Name z pz] kt pt] (.Tuple [a, b, c] k2 pt2) pos.line X.env = pure false := by rfl) :
    PS X (.Assign [.Tuple [.Name x px, .Name y py, .Name z pz] kt pt] (.Tuple [a, b, c] k2 pt2) pos) (lS C (dPar3 i j l t)) :=
  (ps_par3 hc hN hi hj hl hij hil hjl hx hy hz ha hw hs).weak fun D σ H ⟨ρ, p, R, hp, S, q, k1, k2, k3, k4⟩ => ⟨ρ, p, _, S, q, fun xs ρ1 vs H1 q1 hl S1 => by
    split at q1
    · rename_i x y z
      obtain ⟨u, v, w, rfl⟩ := three_len (x := x) (y := y) (z := z) hl
      split at q1
      · rename_i sa sb sc ex ey ez
        have S2 : SR C ρ1 σ ((z, w) :: (y, v) :: (x, u) :: p) H1 := S1
        have S3 := S2.assign (i := l) (sv := sc) (svOf_cases ez) (fun q hq => by
          rcases List.mem_cons.mp hq with e | e
          · rw [e]; exact svOf_nal ey l
          · rcases List.mem_cons.mp e with e | e
            · rw [e]; exact svOf_nal ex l
            · exact hp.nal l q e) (hb.imp id (·.2.2))
        have S4 := S3.assign (i := j) (sv := sb) (svOf_cases ey) (fun q hq => by
          rcases List.mem_cons.mp hq with z | z
          · rw [z]; exact svOf_nal ex j
          · exact hp.nal j q z) (hb.imp id (·.2.1))
        have S5 := S4.assign (i := i) (sv := sa) (svOf_cases ex) (hp.nal i) (hb.imp id (·.1))
        have e1 : ∀ {α : Type} (l0 : List α) (a b c : α), ((l0.set l c).set j b).set i a = ((l0.set i a).set j b).set l c := fun l0 a b c => by
          rw [List.set_comm _ _ (Ne.symm hjl), List.set_comm _ _ (Ne.symm hil), List.set_comm _ _ (Ne.symm hij)]
        rw [e1, e1] at S5
        exact ⟨u, v, w, rfl, k1 _ _ _ q1 S5⟩
      · exact q1.elim
    · exact q1.elim⟩
/-! constants of the module -/
theorem de_gint {x : Str} {i : Int} (hg : Gl X x) (hm : ∃ t, X.mg x = some (.int i t)) (hd : (x == ("__debug__" : Str)) = false := by decide) : PE X (.Name x pos) (lE C (dC (.int i))) := by
  obtain ⟨t, h⟩ := hm
  exact de_glob hg h (v := .int i) ⟨t, rfl⟩ (fun _ _ => rfl) hd
theorem de_gstr {x : Str} {z : Str} (hg : Gl X x) (hm : ∃ t, X.mg x = some (.str z t)) (hd : (x == ("__debug__" : Str)) = false := by decide) : PE X (.Name x pos) (lE C (dC (.str z))) := by
  obtain ⟨t, h⟩ := hm
  exact de_glob hg h (v := .str z) ⟨t, rfl⟩ (fun _ _ => rfl) hd
end
end DL

set_option Elab.async false
set_option linter.all false
set_option maxRecDepth 100000
namespace DL
open PySem PySem.Spec L2
open PyProof.Rows hiding St

/-! ### dicts whose keys are tuples -/
mutual
theorem kD_is {X : Cx} {pins : List (Addr × Obj)} {σ : St} {H : Hp} {s : Shared} (I : Inv X pins σ H s) : ∀ (k : NestedKey) (v : V) (u : Value), Rp X.K H (kD k) v → RelV v u → NestedIs s.heap k u
  | .none, v, u, h, r => by
    simp only [kD, Rp] at h
    subst h
    cases r
    exact .none
  | .num i, v, u, h, r => by
    simp only [kD, Rp] at h
    subst h
    obtain ⟨t, rfl⟩ := r
    exact .int _ _
  | .text i, v, u, h, r => by
    simp only [kD, Rp] at h
    subst h
    obtain ⟨t, rfl⟩ := r
    exact .text _ _
  | .tup ks, v, u, h, r => by
    simp only [kD, Rp] at h
    obtain ⟨a, xs, rfl, hq, hr⟩ := h
    obtain rfl : u = Value.ref a := r
    obtain ⟨its, rv, ⟨o, ho, hc, ⟨n, hd⟩⟩, _⟩ := I.tuple hq
    exact .tup ho hc hd (by simpa using kDs_is I ks xs its hr rv)
theorem kDs_is {X : Cx} {pins : List (Addr × Obj)} {σ : St} {H : Hp} {s : Shared} (I : Inv X pins σ H s) : ∀ (ks : List NestedKey) (vs : List V) (us : List Value), RpL X.K H (kDs ks) vs → Vals vs us → NestedAll s.heap ks us
  | [], vs, us, h, r => by
    simp only [kDs, RpL] at h
    subst h
    cases r
    exact .nil
  | k :: ks, vs, us, h, r => by
    simp only [kDs, RpL] at h
    obtain ⟨v, vs', rfl, h1, h2⟩ := h
    cases r with
    | cons r1 r2 => exact .cons (kD_is I k v _ h1 r1) (kDs_is I ks vs' _ h2 r2)
end
def dnAt (kvs : List (NestedKey × D)) (k : NestedKey) : Option D := (kvs.find? fun p => decide (p.1 = k)).map (·.2)
def dnPut (kvs : List (NestedKey × D)) (k : NestedKey) (d : D) : List (NestedKey × D) := if (dnAt kvs k).isSome then kvs.map (fun p => if p.1 = k then (p.1, d) else p) else kvs ++ [(k, d)]
abbrev DnR (K : PySem.W.Frag) (H : Hp) : NestedKey × D → NestedKey × Addr × Value → Prop := fun p q => p.1 = q.1 ∧ Rp K H (kD p.1) (.ref q.2.1) ∧ ∃ v, Rp K H p.2 v ∧ RelV v q.2.2 ∧ p.1.depth ≤ 8
theorem dn_at {K : PySem.W.Frag} {H : Hp} {kvs : List (NestedKey × D)} {xs : List (NestedKey × Addr × Value)} (h : Paired (DnR K H) kvs xs) (k : NestedKey) :
    (dnAt kvs k = none ∧ atKey xs k = none) ∨ ∃ d a v u, dnAt kvs k = some d ∧ atKey xs k = some (a, u) ∧ Rp K H d v ∧ RelV v u := by
  induction h with
  | nil => exact .inl ⟨rfl, rfl⟩
  | @cons p q ps qs r t ih =>
    obtain ⟨r1, r2, v, r3, r4, r5⟩ := r
    by_cases e : p.1 = k
    · refine .inr ⟨p.2, q.2.1, v, q.2.2, ?_, ?_, r3, r4⟩
      · simp [dnAt, e]
      · simp [atKey, ← r1, e]
    · have e2 : ¬q.1 = k := by rw [← r1]; exact e
      have a1 : dnAt (p :: ps) k = dnAt ps k := by simp [dnAt, e]
      have a2 : atKey (q :: qs) k = atKey qs k := by simp [atKey, e2]
      rw [a1, a2]
      exact ih
theorem dn_put {K : PySem.W.Frag} {H : Hp} {kvs : List (NestedKey × D)} {xs : List (NestedKey × Addr × Value)} (h : Paired (DnR K H) kvs xs) {k : NestedKey} {a : Addr} {d : D} {v : V} {u : Value}
    (hk : Rp K H (kD k) (.ref a)) (hd : k.depth ≤ 8) (hv : Rp K H d v) (hu : RelV v u) : Paired (DnR K H) (dnPut kvs k d) (storedH xs k a u) := by
  rcases dn_at h k with ⟨e1, e2⟩ | ⟨d0, a0, v0, u0, e1, e2, _, _⟩
  · rw [dnPut, e1, storedH_new e2]
    simp only [Option.isSome_none, Bool.false_eq_true, if_false]
    clear e1 e2
    induction h with
    | nil => exact .cons ⟨rfl, hk, v, hv, hu, hd⟩ .nil
    | cons r t ih => exact .cons r ih
  · rw [dnPut, e1, storedH_old e2]
    simp only [Option.isSome_some, if_true]
    clear e1 e2
    induction h with
    | nil => exact .nil
    | @cons p q ps qs r t ih =>
      refine .cons ?_ ih
      obtain ⟨r1, r2, v1, r3, r4, r5⟩ := r
      show DnR K H _ _
      unfold DnR
      simp only [putAt]
      by_cases e : p.1 = k
      · have e2 : q.1 = k := by rw [← r1]; exact e
        rw [if_pos e, if_pos e2]
        exact ⟨r1, r2, v, hv, hu, r5⟩
      · have e2 : ¬q.1 = k := by rw [← r1]; exact e
        rw [if_neg e, if_neg e2]
        exact ⟨r1, r2, v1, r3, r4, r5⟩
theorem Paired.len {α β : Type} {F : α → β → Prop} : ∀ {l₁ : List α} {l₂ : List β}, Paired F l₁ l₂ → l₁.length = l₂.length
  | _, _, .nil => rfl
  | _, _, .cons _ t => by simp [Paired.len t]
theorem Paired.memR {α β : Type} {F : α → β → Prop} : ∀ {l₁ : List α} {l₂ : List β}, Paired F l₁ l₂ → ∀ y ∈ l₂, ∃ x, F x y
  | _, _, .nil, _, h => by cases h
  | _, _, .cons r t, y, h => by
    rcases List.mem_cons.mp h with rfl | h
    · exact ⟨_, r⟩
    · exact Paired.memR t y h
section
variable {X : Cx} {C : Fr} {e a b c o i : Expr} {es rest : List Expr} {pos : Pos} {st : Stmt} {sts : List Stmt}
theorem dn_dict {pins : List (Addr × Obj)} {σ : St} {H : Hp} {s : Shared} {d : Addr} {kvs : List (NestedKey × D)} {xs : List (NestedKey × Addr × Value)} (I : Inv X pins σ H s) (hH : H d = some (DAt X.prog X.w d xs)) (hn : (xs.map (·.1)).Nodup) (h : Paired (DnR X.K H) kvs xs) :
    s.heap.DictOfH (nestedKind X.prog X.w) d xs := by
  obtain ⟨⟨ob, es, ep, h1, h2, h3, h4⟩, _⟩ := I.hok d _ hH
  refine ⟨ob, es, ep, h1, h2, h3, h4, fun x hx => ?_, hn⟩
  obtain ⟨p, r1, r2, v, r3, r4, r5⟩ := Paired.memR h x hx
  rw [← r1]
  exact ⟨kD_is I _ _ _ r2 rfl, r5⟩
theorem dn_ok {P : Program} {w : World} {H : Hp} {h : Heap} {d : Addr} {xs : List (NestedKey × Addr × Value)} (x : h.DictOfH (nestedKind P w) d xs) : ObjOk P w H h d (DAt P w d xs) := by
  obtain ⟨ob, es, ep, h1, h2, h3, h4, _⟩ := x
  refine ⟨⟨ob, es, ep, h1, h2, h3, h4⟩, ⟨ob, h1⟩, fun g1 g2 ⟨ob, es, ep, h1, h2, h3, h4⟩ k => ⟨ob, es, ep, k _ h1, h2, h3, h4⟩⟩
/-- {} -/
def dDn0 : DT := fun ρ Q => Q (.ow (.dn [])) ρ
theorem de_dn0 (hP : C.P = X.prog := by rfl) (hw : C.w = X.w := by rfl) : PE X (.Dict [] [] pos) (lE C dDn0) := ⟨fun pins s σ H Q I ⟨ρ, p, R, S, q, k⟩ => by
  have hn := I.hok.fresh (Nat.le_refl s.heap.objs.size)
  refine wpAny_Dict_empty ⟨.ref s.heap.objs.size, _, I.laid (a := s.heap.objs.size) (o := DAt C.P C.w s.heap.objs.size []) (t' := s.toks) (fun _ _ q => Heap.get?_push_of_some _ q) (Nat.le_refl _) ?_, rfl, k _ _ _ _ q (S.pushNew (same_new hn) ⟨_, rfl, hn, [], upd_same, beq_eq_false_iff_ne.mpr (Ne.symm (Nat.ne_of_lt I.big)), List.nodup_nil, .nil⟩)⟩
  rw [hP, hw]
  exact dn_ok (Heap.DictOfH.new s.heap)⟩
/-- k in d, k not in d -/
def dDnIn (neg : Bool) (t u : DT) : DT := fun ρ Q => t ρ fun x ρ1 => u ρ1 fun y ρ2 => match x, y with
  | .d x, .al i => (match ρ2[i]? with
    | some (.ow (.dn kvs)) => ∃ k : NestedKey, x = kD k ∧ (∃ ks, k = .tup ks) ∧ k.depth ≤ 8 ∧ Q (.d (.bl (neg != (dnAt kvs k).isSome))) ρ2
    | _ => False)
  | _, _ => False
def rDnIn (C : Fr) (neg : Bool) : R2 := fun x y H Q => ∃ (a d : Addr) (k : NestedKey) (kvs : List (NestedKey × D)), x = .ref a ∧ y = .ref d ∧ Rp C.K H (kD k) (.ref a) ∧ k.depth ≤ 8 ∧ OVok C H d (.dn kvs) ∧ Q (.bl (neg != (dnAt kvs k).isSome)) H
theorem op_dnin (hu : X.A.units + 64 < cLine) (hP : C.P = X.prog) (hw : C.w = X.w) (hK : C.K = X.K) : OpR X (compareOp .In) (rDnIn C false) := by
  rintro pins s σ H x y v u Q I rx ry ⟨a, d, k, kvs, rfl, rfl, hk, h8, ⟨xs, hH, hs, hn, hp⟩, q⟩
  obtain rfl : v = Value.ref a := rx
  obtain rfl : u = Value.ref d := ry
  rw [hP, hw] at hH
  rw [hK] at hp hk
  refine wpAny_in_heap (knd := nestedKind X.prog X.w) (show X.A.in1.units + 8 < cLine by rw [Around.in1_units]; omega) ⟨kD_is I k _ _ hk rfl, h8⟩ hs (dn_dict I hH hn hp) ⟨.bl (atKey xs k).isSome, H, I.tok _, rfl, ?_⟩
  rcases dn_at hp k with ⟨e1, e2⟩ | ⟨d0, a0, v0, u0, e1, e2, _, _⟩ <;> rw [e2] <;> rw [e1] at q <;> exact q
theorem op_dnni (hu : X.A.units + 64 < cLine) (hP : C.P = X.prog) (hw : C.w = X.w) (hK : C.K = X.K) : OpR X (compareOp .NotIn) (rDnIn C true) := by
  rintro pins s σ H x y v u Q I rx ry ⟨a, d, k, kvs, rfl, rfl, hk, h8, ⟨xs, hH, hs, hn, hp⟩, q⟩
  obtain rfl : v = Value.ref a := rx
  obtain rfl : u = Value.ref d := ry
  rw [hP, hw] at hH
  rw [hK] at hp hk
  refine notIn_keyed (knd := nestedKind X.prog X.w) (show X.A.in1.units + 8 < cLine by rw [Around.in1_units]; omega) ⟨kD_is I k _ _ hk rfl, h8⟩ hs ⟨xs, dn_dict I hH hn hp, rfl⟩ ?_
  rw [valueAt_pairsH, Option.isSome_map]
  refine ⟨.bl (!(atKey xs k).isSome), H, I.tok _, rfl, ?_⟩
  rcases dn_at hp k with ⟨e1, e2⟩ | ⟨d0, a0, v0, u0, e1, e2, _, _⟩ <;> rw [e2] <;> rw [e1] at q <;> exact q
theorem rp_key {K : PySem.W.Frag} {H : Hp} {k : NestedKey} {v : V} (h : Rp K H (kD k) v) (e : ∃ ks, k = .tup ks) : ∃ a, v = .ref a := by
  obtain ⟨ks, rfl⟩ := e
  simp only [kD, Rp] at h
  obtain ⟨a, _, e, _⟩ := h
  exact ⟨a, e⟩
theorem dnin_to {neg : Bool} {t u : DT} : ∀ σ H Q, lE C (dDnIn neg (dD t) u) σ H Q → tOp (rDnIn C neg) (lE C (dD t)) (lE C u) σ H Q := fun σ H Q ⟨ρ, p, R, S, q, k⟩ => ⟨ρ, p, _, S, q, fun x ρ1 v H1 q1 S1 => ⟨ρ1, _, _, S1, q1, fun y ρ2 w H2 q2 S2 => by
  split at q2
  · rename_i x i
    split at q2
    · rename_i kvs es
      obtain ⟨key, rfl, ek, h8, q2⟩ := q2
      have rk : Rp C.K H2 (kD key) v := S2.pop.pend _ List.mem_cons_self
      obtain ⟨a, rfl⟩ := rp_key rk ek
      obtain ⟨ev, _⟩ := S2.pend _ List.mem_cons_self
      dsimp only at ev
      obtain ⟨d, ed, ok⟩ := S2.slot i _ _ es ev
      cases ed
      exact ⟨a, d, key, kvs, rfl, rfl, rk, h8, ok, k _ _ _ _ q2 (S2.pop.pop.pushD rfl)⟩
    · exact q2.elim
  · exact q2.elim⟩⟩
theorem de_dnin {t u : DT} (hu : X.A.units + 64 < cLine) (ha : PE X a (lE C t)) (hb : PE X b (lE C u)) (hP : C.P = X.prog := by rfl) (hw : C.w = X.w := by rfl) (hK : C.K = X.K := by rfl) (hm : behindInMarks .In b = false := by rfl) : PE X (.Compare a [.In] [b] pos) (lE C (dDnIn false (dD t) u)) :=
  (pe_cmpR (op_dnin hu hP hw hK) (de_data ha) hb hm).weak dnin_to
theorem de_dnni {t u : DT} (hu : X.A.units + 64 < cLine) (ha : PE X a (lE C t)) (hb : PE X b (lE C u)) (hP : C.P = X.prog := by rfl) (hw : C.w = X.w := by rfl) (hK : C.K = X.K := by rfl) (hm : behindInMarks .NotIn b = false := by rfl) : PE X (.Compare a [.NotIn] [b] pos) (lE C (dDnIn true (dD t) u)) :=
  (pe_cmpR (op_dnni hu hP hw hK) (de_data ha) hb hm).weak dnin_to
theorem dt_dnin {t u : DT} (hu : X.A.units + 64 < cLine) (ha : PE X a (lE C t)) (hb : PE X b (lE C u)) (hP : C.P = X.prog := by rfl) (hw : C.w = X.w := by rfl) (hK : C.K = X.K := by rfl) (hm : behindInMarks .In b = false := by rfl) : PT X (.Compare a [.In] [b] pos) (lT C (dB (dDnIn false (dD t) u))) :=
  tB_of (pt_cmpR (op_dnin hu hP hw hK) (de_data ha) hb hm) dnin_to
theorem dt_dnni {t u : DT} (hu : X.A.units + 64 < cLine) (ha : PE X a (lE C t)) (hb : PE X b (lE C u)) (hP : C.P = X.prog := by rfl) (hw : C.w = X.w := by rfl) (hK : C.K = X.K := by rfl) (hm : behindInMarks .NotIn b = false := by rfl) : PT X (.Compare a [.NotIn] [b] pos) (lT C (dB (dDnIn true (dD t) u))) :=
  tB_of (pt_cmpR (op_dnni hu hP hw hK) (de_data ha) hb hm) dnin_to
/-- d[k] -/
def dnGetF (Q : RV → List SV → Prop) (x y : RV) (ρ2 : List SV) : Prop := match x, y with
  | .al i, .d y => (match ρ2[i]? with
    | some (.ow (.dn kvs)) => ∃ k : NestedKey, y = kD k ∧ (∃ ks, k = .tup ks) ∧ k.depth ≤ 8 ∧ (match dnAt kvs k with
      | some d => Q (.d d) ρ2
      | none => False)
    | _ => False)
  | _, _ => False
def dDnGet (t u : DT) : DT := fun ρ Q => t ρ fun x ρ1 => u ρ1 fun y ρ2 => dnGetF Q x y ρ2
theorem de_dnget {t u : DT} (hu : X.A.units + 64 < cLine) (ha : PE X a (lE C t)) (hb : PE X b (lE C u)) (hP : C.P = X.prog := by rfl) (hw : C.w = X.w := by rfl) (hK : C.K = X.K := by rfl) (hs : NoSl b := by exact fun _ _ => rfl) : PE X (.Subscript a b pos) (lE C (dDnGet t (dD u))) := by
  refine ⟨fun pins s σ H Q I ⟨ρ, p, R, S, q, k⟩ => ?_⟩
  refine subD_of PySem.F.slot_dict_getitem.lookup hs (thn (ha.run pins s σ H (fun vx H1 => ∃ x ρ1, (dD u) ρ1 (fun y ρ2 => dnGetF R x y ρ2) ∧ SR C ρ1 σ ((x, vx) :: p) H1) I ⟨ρ, p, _, S, q, fun x ρ1 v H1 q1 S1 => ⟨x, ρ1, q1, S1⟩⟩) fun ov s1 ⟨vx, H1, I1, rx, x, ρ1, q1, S1⟩ =>
    thn ((de_data hb).run pins s1 σ H1 (fun vy H2 => ∃ y ρ2, dnGetF R x y ρ2 ∧ SR C ρ2 σ ((y, vy) :: (x, vx) :: p) H2) I1 ⟨ρ1, _, _, S1, q1, fun y ρ2 vy H2 q2 S2 => ⟨y, ρ2, q2, S2⟩⟩) fun iv s2 ⟨vy, H2, I2, ry, y, ρ2, q2, S2⟩ => ?_)
  have q3 : ∃ i y0 kvs, x = .al i ∧ y = .d y0 ∧ ρ2[i]? = some (.ow (.dn kvs)) ∧ ∃ k : NestedKey, y0 = kD k ∧ (∃ ks, k = .tup ks) ∧ k.depth ≤ 8 ∧ (match dnAt kvs k with
      | some d => R (.d d) ρ2
      | none => False) := by
    unfold dnGetF at q2
    split at q2
    · split at q2
      · exact ⟨_, _, _, rfl, rfl, by assumption, q2⟩
      · exact q2.elim
    · exact q2.elim
  clear q2
  · obtain ⟨i, y0, kvs, rfl, rfl, es, q2⟩ := q3
    · 
      obtain ⟨key, rfl, ek, h8, q2⟩ := q2
      have rk : Rp C.K H2 (kD key) vy := S2.pend _ List.mem_cons_self
      obtain ⟨a, rfl⟩ := rp_key rk ek
      obtain ⟨ev, _⟩ := S2.pop.pend _ List.mem_cons_self
      dsimp only at ev
      obtain ⟨d, ed, ok⟩ := S2.slot i _ _ es ev
      cases ed
      obtain ⟨xs, hH, hd, hn, hp⟩ := ok
      rw [hP, hw] at hH
      rw [hK] at hp rk
      obtain rfl : ov = Value.ref d := rx
      obtain rfl : iv = Value.ref a := ry
      have dd := dn_dict I2 hH hn hp
      rcases dn_at hp key with ⟨e1, e2⟩ | ⟨d0, a0, v0, u0, e1, e2, r3, r4⟩
      · rw [e1] at q2
        exact q2.elim
      · rw [e1] at q2
        refine ⟨dd.typeIs, wpAny_getItem_heap (knd := nestedKind X.prog X.w) (show X.A.in1.units + 8 < cLine by rw [Around.in1_units]; omega) ⟨kD_is I2 _ _ _ rk rfl, h8⟩ dd e2 ⟨v0, H2, I2.tok _, r4, k _ _ _ _ q2 (S2.pop.pop.pushD ?_)⟩⟩
        rw [hK]
        exact r3
/-- {k: v} -/
def dn1F (Q : RV → List SV → Prop) (x y : RV) (ρ2 : List SV) : Prop := match x, y with
  | .d x, .d y => ∃ k : NestedKey, x = kD k ∧ (∃ ks, k = .tup ks) ∧ k.depth ≤ 8 ∧ Q (.ow (.dn [(k, y)])) ρ2
  | _, _ => False
def dDn1 (t u : DT) : DT := fun ρ Q => t ρ fun x ρ1 => u ρ1 fun y ρ2 => dn1F Q x y ρ2
theorem SR.writeTop {ρ : List SV} {σ : St} {p : Pend} {H : Hp} {o o' : OV} {L : Addr} {u : HO} (S : SR C ρ σ ((.ow o, .ref L) :: p) H) (h : OVok C (upd H L u) L o') : SR C ρ σ ((.ow o', .ref L) :: p) (upd H L u) := by
  obtain ⟨a, ea, ok⟩ := S.pend _ List.mem_cons_self
  cases ea
  obtain ⟨w, hx, mx⟩ := ok.there
  have m : Imm H (upd H L u) := imm_upd hx mx
  have hn : L ∉ adrs ρ σ p := (List.nodup_cons.mp S.sep).1
  have hnew := S.new L (List.mem_cons_self (a := L) (l := adrs ρ σ p))
  refine (S.pop.move m (fun b hb => upd_ne fun q => hn (q ▸ hb)) fun c w n hc => ?_).push ⟨L, rfl, h⟩ fun b eb => ?_
  · rw [upd_ne fun z => ?_]
    · exact S.keep c w n hc
    · subst z
      rcases hnew with q | q
      · exact n q
      · rw [q] at hc; cases hc
  · cases eb
    exact ⟨hn, hnew⟩
theorem de_dn1 {t u : DT} (hu : X.A.units + 64 < cLine) (ha : PE X a (lE C t)) (hb : PE X b (lE C u)) (hP : C.P = X.prog := by rfl) (hw : C.w = X.w := by rfl) (hK : C.K = X.K := by rfl) : PE X (.Dict [some a] [b] pos) (lE C (dDn1 (dD t) (dD u))) := by
  refine ⟨fun pins s σ H Q I ⟨ρ, p, R, S, q, k⟩ => ?_⟩
  have hn := I.hok.fresh (Nat.le_refl s.heap.objs.size)
  have hsm : (s.heap.objs.size == sysModules) = false := beq_eq_false_iff_ne.mpr (Ne.symm (Nat.ne_of_lt I.big))
  have I1 := I.laid (a := s.heap.objs.size) (o := DAt X.prog X.w s.heap.objs.size []) (h' := s.heap.push { cls := .type "dict", data := .dict #[] }) (t' := s.toks) (fun _ _ q => Heap.get?_push_of_some _ q) (Nat.le_refl _) (dn_ok (Heap.DictOfH.new s.heap))
  have S1 := S.pushNew (rv := .ow (.dn [])) (v := .ref s.heap.objs.size) (same_new (o := DAt X.prog X.w s.heap.objs.size []) hn) ⟨_, rfl, hn, [], by rw [hP, hw]; exact upd_same, hsm, List.nodup_nil, .nil⟩
  have h0 : pairTrees [some a] [b] X.env pos ≠ [] := by simp [pairTrees]
  have h1 : (pairTrees [some a] [b] X.env pos).length = 1 := by simp [pairTrees]
  rw [arm_eval_Dict, zip_pairTrees [some a] [b] X.env pos rfl rfl, dictDisplay_pairs _ h0 (by omega)]
  refine wpAny_bind (wpAny_standAt (wpAny_bind (wpAny_subDictH (knd := nestedKind X.prog X.w) (Q := fun d s' => wpAny (model X.prog X.w) X.A (pure (Value.ref d)) (EP X pins σ Q) X.xe s') (show X.A.units + 8 < cLine by omega) (by omega) ?_)))
  refine pairTrees_cons_walk (thn ((de_data ha).run pins _ σ _ (fun vx H1 => ∃ x ρ1, (dD u) ρ1 (fun y ρ2 => dn1F R x y ρ2) ∧ SR C ρ1 σ ((x, vx) :: (.ow (.dn []), .ref s.heap.objs.size) :: p) H1) I1 ⟨ρ, _, _, S1, q, fun x ρ1 v H1 q1 S1 => ⟨x, ρ1, q1, S1⟩⟩) fun iv s1 ⟨vx, H1, I2, rx, x, ρ1, q1, S2⟩ =>
    thn ((de_data hb).run pins s1 σ H1 (fun vy H2 => ∃ y ρ2, dn1F R x y ρ2 ∧ SR C ρ2 σ ((y, vy) :: (x, vx) :: (.ow (.dn []), .ref s.heap.objs.size) :: p) H2) I2 ⟨ρ1, _, _, S2, q1, fun y ρ2 vy H2 q2 S2 => ⟨y, ρ2, q2, S2⟩⟩) fun uv s2 ⟨vy, H2, I3, ry, y, ρ2, q2, S3⟩ => pairTrees_nil_walk ?_)
  have q3 : ∃ x0 y0, x = .d x0 ∧ y = .d y0 ∧ ∃ k : NestedKey, x0 = kD k ∧ (∃ ks, k = .tup ks) ∧ k.depth ≤ 8 ∧ R (.ow (.dn [(k, y0)])) ρ2 := by
    unfold dn1F at q2
    split at q2
    · exact ⟨_, _, rfl, rfl, q2⟩
    · exact q2.elim
  clear q2
  · obtain ⟨x0, y, rfl, rfl, key, rfl, ek, h8, q2⟩ := q3
    have ry' : Rp C.K H2 y vy := S3.pend _ List.mem_cons_self
    have rk : Rp C.K H2 (kD key) vx := S3.pop.pend _ List.mem_cons_self
    obtain ⟨ka, rfl⟩ := rp_key rk ek
    obtain rfl : iv = Value.ref ka := rx
    obtain ⟨d, ed, xs, hH, hd, hnn, hp⟩ := S3.pop.pop.pend _ List.mem_cons_self
    have ed : s.heap.objs.size = d := by
      have : (V.ref s.heap.objs.size) = .ref d := ed
      cases this; rfl
    subst ed
    cases hp
    rw [hP, hw] at hH
    have dd : s2.heap.DictOfH (nestedKind X.prog X.w) s.heap.objs.size [] := dn_dict I3 hH hnn (.nil : Paired (DnR X.K H2) [] [])
    have rk2 : Rp X.K H2 (kD key) (.ref ka) := hK ▸ rk
    refine ⟨[(key, ka, uv)], ⟨rfl, rfl, ⟨kD_is I3 _ _ _ rk2 rfl, h8⟩, trivial⟩, dd, fun h' tk dd' sb => wpAny_pure ?_⟩
    have dd2 : h'.DictOfH (nestedKind X.prog X.w) s.heap.objs.size [(key, ka, uv)] := dd'
    have he : ∃ q, h'.get? s.heap.objs.size = some q := let ⟨q, _, _, hq, _⟩ := dd2; ⟨q, hq⟩
    refine ⟨.ref s.heap.objs.size, _, d_write I3 (ob := DAt X.prog X.w s.heap.objs.size [(key, ka, uv)]) (by rw [hH]; exact True.intro) sb he (dn_ok dd2), rfl, k _ _ _ _ q2 ?_⟩
    have m : Imm H2 (upd H2 s.heap.objs.size (DAt X.prog X.w s.heap.objs.size [(key, ka, uv)])) := imm_upd hH trivial
    exact S3.pop.pop.writeTop ⟨_, by rw [hP, hw]; exact upd_same, hsm, dd2.nodup, .cons ⟨rfl, rk.imm m, vy, ry'.imm m, ry, h8⟩ .nil⟩
/-- d[k] = v -/
def gStDn (t u : DT) : DG := fun rv ρ Q => t ρ fun x ρ1 => u ρ1 fun y ρ2 => match rv, x, y with
  | .d z, .al i, .d y => (match ρ2[i]? with
    | some (.ow (.dn kvs)) => ∃ k : NestedKey, y = kD k ∧ (∃ ks, k = .tup ks) ∧ k.depth ≤ 8 ∧ kvs.length < sizeLine ∧ Q (ρ2.set i (.ow (.dn (dnPut kvs k z))))
    | _ => False)
  | _, _, _ => False
def rSetDn (C : Fr) : TSet := fun o i v H Q => ∃ (d a : Addr) (k : NestedKey) (kvs : List (NestedKey × D)) (z : D), o = .ref d ∧ i = .ref a ∧ Rp C.K H (kD k) (.ref a) ∧ k.depth ≤ 8 ∧ kvs.length < sizeLine ∧ OVok C H d (.dn kvs) ∧ Rp C.K H z v ∧ ∀ u, OVok C (upd H d u) d (.dn (dnPut kvs k z)) → Q (upd H d u)
theorem set_dn (hu : X.A.units + 64 < cLine) (hP : C.P = X.prog) (hw : C.w = X.w) (hK : C.K = X.K) : PSet X (rSetDn C) := by
  rintro pins s σ H o i v ov iv u Q I ro ri rv ⟨d, a, key, kvs, z, rfl, rfl, rk, h8, hz, ⟨xs, hH, hd, hn, hp⟩, rz, k⟩
  obtain rfl : ov = Value.ref d := ro
  obtain rfl : iv = Value.ref a := ri
  rw [hP, hw] at hH
  rw [hK] at hp rk rz
  have dd := dn_dict I hH hn hp
  have hl : xs.length = kvs.length := (Paired.len hp).symm
  refine wpAny_setItem_heap (knd := nestedKind X.prog X.w) (show X.A.in1.units + 8 < cLine by rw [Around.in1_units]; omega) ⟨kD_is I _ _ _ rk rfl, h8⟩ dd (fun h' dd' sb => ?_) (by omega)
  have he : ∃ q, h'.get? d = some q := let ⟨q, _, _, hq, _⟩ := dd'; ⟨q, hq⟩
  refine ⟨_, d_write I (by rw [hH]; exact True.intro) sb he (dn_ok dd'), k _ ⟨_, by rw [hP, hw]; exact upd_same, hd, dd'.nodup, ?_⟩⟩
  rw [hK]
  exact Paired.imp (dn_put hp rk h8 rz rv) fun p q z => by
    have m : Imm H (upd H d (DAt X.prog X.w d (storedH xs key a u))) := imm_upd hH trivial
    obtain ⟨z1, z2, v, z3, z4⟩ := z
    exact ⟨z1, z2.imm m, v, z3.imm m, z4⟩
theorem dg_stDn {t u : DT} (hu : X.A.units + 64 < cLine) (ha : PE X a (lE C t)) (hb : PE X b (lE C u)) (hP : C.P = X.prog := by rfl) (hw : C.w = X.w := by rfl) (hK : C.K = X.K := by rfl)
    (hs : ∀ v, assign (.Subscript a b pos) X.env v = (do
      let ov ← holding [v] (eval a X.env)
      let iv ← holding [v, ov] (eval b X.env)
      standAt pos
      holding [v, ov, iv] (setItem ov iv v)
      release [v, ov, iv] []) := by intro _; rfl) : PG X (.Subscript a b pos) (lG C [] (gStDn t (dD u))) :=
  (pg_sub ha (de_data hb) (set_dn hu hP hw hK) hs).weak fun v σ H Q ⟨ρ, p, rv, R, hwq, hd, S, q, k⟩ => ⟨ρ, _, _, S, q, fun x ρ1 vx H1 q1 S1 => ⟨ρ1, _, _, S1, q1, fun y ρ2 vy H2 q2 S2 => by
    split at q2
    · rename_i z i y
      split at q2
      · rename_i kvs es
        obtain ⟨key, rfl, ek, h8, hz, q2⟩ := q2
        have rk : Rp C.K H2 (kD key) vy := S2.pend _ List.mem_cons_self
        obtain ⟨a, rfl⟩ := rp_key rk ek
        obtain ⟨ev, _⟩ := S2.pop.pend _ List.mem_cons_self
        dsimp only at ev
        obtain ⟨d, ed, ok⟩ := S2.slot i _ _ es ev
        cases ed
        have S4 := S2.pop.pop
        have rz : Rp C.K H2 z v := S4.pend _ List.mem_cons_self
        exact ⟨d, a, key, kvs, z, rfl, rfl, rk, h8, hz, ok, rz, fun u ok' => k _ _ _ q2 (S4.pop.write es ev ok') (SOut.refl _ _)⟩
      · exact q2.elim
    · exact q2.elim⟩⟩
end
end DL

set_option Elab.async false
set_option linter.all false
set_option maxRecDepth 100000
namespace DL
open PySem PySem.Spec L2
open PyProof.Rows hiding St
/-! ### tuple * 1, list * int -/
theorem tuple_mul1 (l : Addr) (items : Array Value) (n : Nat) (dd : Option Addr) (sl : Array (Option Value)) (u : Tok) (c1 : (items.isEmpty || (1 : Int) == 1) = true) :
    Meets (Builtin.«tuple.__mul__» ⟨[.ref l, .int 1 u], []⟩) (fun _ R s => s.heap.get? l = some { cls := .type "tuple", dict := dd, data := .seq items n, slots := sl } ∧
      R (.ok (.ret (Value.ref l))) s) :=
  .of_wp fun prog w A R s h => by
    obtain ⟨hp, g, d, tk, os⟩ := s
    obtain ⟨hl, h⟩ := h
    have f1 := AutoSeq1.idx_int
    wp_walk using wpAny_loadPart' hl
    exact ⟨_, rfl, h⟩
def rRepT1 (K : PySem.W.Frag) : R2 := fun x y H Q => ∃ l xs, x = .ref l ∧ y = .int 1 ∧ SqT K H l xs ∧ Q (.ref l) H
def rRepF : R2 := fun x y H Q => ∃ l k xs, x = .ref l ∧ y = .int k ∧ Rd H l (.lst xs) ∧ -(2 ^ 63) ≤ k ∧ k < 2 ^ 63 ∧ xs.length * k.toNat ≤ sizeLine ∧
  ∀ p, H p = none → Q (.ref p) (upd H p (.lst (List.replicate k.toNat xs).flatten))
section
variable {X : Cx} {C : Fr} {e a b c : Expr} {es rest : List Expr} {pos : Pos}
theorem op_repT1 : OpR X (binaryOp .Mult) (rRepT1 X.K) := by
  intro pins s σ H x y v u Q I rx ry h
  obtain ⟨l, xs, rfl, rfl, hT, q⟩ := h
  cases rx
  obtain ⟨t, rfl⟩ := ry
  obtain ⟨its, r, ⟨⟨cls, dd, data, sl⟩, ho, hc, n, hd⟩, hs⟩ := I.tuple hT
  simp only at hc hd
  subst hc hd
  refine wpAny_binaryOp_repeat_ref (T := "tuple") (U := "int") (by decide) ⟨_, ho, rfl⟩ (fun s' => typeIs_int s' 1 t) noFill_tuple_mul F.fills_int_mul F.slot_int_rmul repeat_tuple F.slot_int_index.lookup
    (call_meets F.slot_int_rmul (typeIs_int s 1 t) F.entry_int_rmul (F.args_int_rmul_2 _ _) (int_rmul_tuple 1 t l its.toArray n dd sl)
      ⟨ho, rfl, ⟨_, ho, rfl⟩, call_meets F.slot_tuple_mul ⟨_, ho, rfl⟩ F.entry_tuple_mul (F.args_tuple_mul_2 _ _) (tuple_mul1 l its.toArray n dd sl t (by simp)) ⟨ho, ?_⟩⟩)
  exact ⟨.ref l, H, I, rfl, q⟩
theorem op_repF : OpR X (binaryOp .Mult) rRepF := by
  intro pins s σ H x y v u Q I rx ry h
  obtain ⟨l, k, xs, rfl, rfl, hH, h1, h2, hz, q⟩ := h
  cases rx
  obtain ⟨t, rfl⟩ := ry
  obtain ⟨z, its, n, r, e⟩ := hH.ok I.hok
  have hl : xs.length = its.length := r.length
  have hlen : its.toArray.size * k.toNat ≤ sizeLine := by rw [List.size_toArray, ← hl]; exact hz
  have hcap : ¬ its.toArray.size * k.toNat > (2 ^ 63 - 1) / 8 := by
    have : (sizeLine : Nat) ≤ (2 ^ 63 - 1) / 8 := by decide
    omega
  have hfit : ¬ (!Builtin.List.listFitsIndex k) = true := by
    rw [fitsIndex_both h1 h2]
    exact Bool.false_ne_true
  have hlong : ¬ Builtin.List.listTooLong (its.toArray.size * k.toNat) = true := by
    rw [notLongL hlen]
    exact Bool.false_ne_true
  have hnew : List.foldl (fun x1 x2 => x1 ++ x2) #[] (List.replicate (if its.toArray.isEmpty = true then 0 else k.toNat) its.toArray) = (List.replicate k.toNat its).flatten.toArray := by
    have f0 : ∀ m : Nat, List.foldl (fun x1 x2 => x1 ++ x2) #[] (List.replicate m its.toArray) = (List.replicate m its).flatten.toArray := fun m => by
      have := foldl_rep its m []
      rw [List.nil_append] at this
      exact this
    rw [f0]
    cases its with
    | nil => simp
    | cons a r' => rw [if_neg (by simp)]
  refine wpAny_binaryOp_repeat_ref (T := "list") (U := "int") (by decide) ⟨_, e, rfl⟩ (fun s' => typeIs_int s' k t) noFill_list_mul F.fills_int_mul F.slot_int_rmul repeat_list F.slot_int_index.lookup
    (call_meets F.slot_int_rmul (typeIs_int s k t) F.entry_int_rmul (F.args_int_rmul_2 _ _) (int___rmul___int_list k t l its.toArray n)
      ⟨e, rfl, ⟨_, e, rfl⟩, call_meets F.slot_list_mul ⟨_, e, rfl⟩ F.entry_list_mul (F.args_list_mul_2 _ _) (AutoListH.list___mul___list_int_3 l its.toArray n k t hfit hcap hlong) ⟨e, ?_⟩⟩)
  rw [hnew]
  exact ⟨.ref _, _, I.lnew (t' := s.toks) (r.rep k.toNat) (by rw [PyProof.Rows.lm_len_rep_flat, Nat.mul_comm]; exact hz), rfl, q _ I.fresh⟩
/-- a tuple, a list a number of times -/
def fMulR : DO2 := fun x y R => match x, y with
  | .int i, .int j => MulOk i j ∧ R (.d (.int (i * j)))
  | .tup xs, .int k => xs ≠ [] ∧ 1 ≤ k ∧ k ≤ 1000 ∧ xs.length ≤ 1000 ∧ R (.d (.tup (List.replicate k.toNat xs).flatten))
  | .lst xs, .int k => k < 2 ^ 60 ∧ -(2 ^ 60) < k ∧ xs.length * k.toNat ≤ sizeLine ∧ R (.ow (.lst (List.replicate k.toNat xs).flatten))
  | _, _ => False
theorem op_mulR : OpR X (binaryOp .Mult) (fun x y H Q => (rI CMul (fun i j => .int (i * j)) x y H Q ∨ rI CMulW (fun i j => .int (i * j)) x y H Q ∨ rRepT X.K x y H Q) ∨ rRepT1 X.K x y H Q ∨ rRepF x y H Q) := op_mulD.or (op_repT1.or op_repF)
theorem de_mulR {t u : DT} (ha : PE X a (lE C t)) (hb : PE X b (lE C u)) (hK : C.K = X.K := by rfl) : PE X (.BinOp a .Mult b pos) (lE C (d2 fMulR (dD t) (dD u))) :=
  de_2 (pe_op op_mulR (de_data ha) (de_data hb)) fun H x y vx vy R Q rx ry q k => by
    unfold fMulR at q
    split at q
    · rcases q.1 with z | z
      · exact .inl (.inl ⟨_, _, rx, ry, z, k _ _ H q.2 (Same.refl H) rfl⟩)
      · exact .inl (.inr (.inl ⟨_, _, rx, ry, z, k _ _ H q.2 (Same.refl H) rfl⟩))
    · rename_i ds n
      have rx0 := rx
      simp only [Rp] at rx
      obtain ⟨a, xs, rfl, hx, lx⟩ := rx
      obtain ⟨q0, q1, q2, q3, q4⟩ := q
      have l1 := lx.length
      by_cases e1 : n = 1
      · subst e1
        refine .inr (.inl ⟨a, xs, rfl, ry, hK ▸ hx, k _ _ H q4 (Same.refl H) ?_⟩)
        have : (List.replicate (1 : Int).toNat ds).flatten = ds := by simp
        rw [this]
        exact rx0
      · refine .inl (.inr (.inr ⟨a, _, xs, rfl, ry, hK ▸ hx, fun z => q0 (List.eq_nil_of_length_eq_zero (by rw [l1, z]; rfl)), by omega, q2, by omega, fun p hp => ?_⟩))
        refine k _ _ _ q4 (same_new hp) ?_
        show Rp C.K _ _ _
        simp only [Rp]
        exact ⟨p, _, rfl, SqT.of upd_same, (lx.rep _).imm (Imm.of_same (same_new hp))⟩
    · obtain ⟨q1, q2, q3, q4⟩ := q
      simp only [Rp] at rx
      obtain ⟨a, xs, rfl, ⟨o, hx⟩, lx⟩ := rx
      have l1 := lx.length
      refine .inr (.inr ⟨a, _, xs, rfl, ry, .inr ⟨o, hx⟩, by omega, by omega, by rw [← l1]; exact q3, fun p hp => ?_⟩)
      exact k _ _ _ q4 (same_new hp) ⟨p, rfl, hp, _, upd_same, (lx.rep _).imm (Imm.of_same (same_new hp))⟩
    · exact q.elim
/-! ### max, min of a sequence of ints -/
theorem ints_reads {h : Heap} : ∀ {its : List Value} {ns : List Int}, Vals (ns.map V.int) its → ∃ as, ReadsAll h its (ns.map PySem.PyData.int) as
  | [], [], _ => ⟨_, .nil⟩
  | [], n :: ns, r => by cases r
  | u :: us, [], r => by cases r
  | u :: us, n :: ns, r => by
    cases r with
    | cons r1 r2 =>
      obtain ⟨t, rfl⟩ := r1
      obtain ⟨as, q⟩ := ints_reads (h := h) (its := us) (ns := ns) r2
      exact ⟨_, .cons (.int _ _) q⟩
theorem maxOf_spec : ∀ (xs : List Int) (x : Int), PySem.W.maxOf x xs ∈ x :: xs ∧ ∀ y ∈ x :: xs, y ≤ PySem.W.maxOf x xs
  | [], x => by simp [PySem.W.maxOf]
  | z :: zs, x => by
    have e : PySem.W.maxOf x (z :: zs) = PySem.W.maxOf (if x < z then z else x) zs := by
      simp [PySem.W.maxOf, PySem.W.DatumOrd.lt]
    rw [e]
    obtain ⟨h1, h2⟩ := maxOf_spec zs (if x < z then z else x)
    refine ⟨?_, fun y hy => ?_⟩
    · rcases List.mem_cons.mp h1 with q | q
      · rw [q]; split <;> simp
      · exact List.mem_cons_of_mem _ (List.mem_cons_of_mem _ q)
    · have h3 := h2 _ List.mem_cons_self
      rcases List.mem_cons.mp hy with rfl | hy
      · split at h3 <;> rename_i q <;> (split <;> omega)
      · rcases List.mem_cons.mp hy with rfl | hy
        · split at h3 <;> rename_i q <;> (split <;> omega)
        · exact h2 _ (List.mem_cons_of_mem _ hy)
theorem minOf_spec : ∀ (xs : List Int) (x : Int), PySem.W.minOf x xs ∈ x :: xs ∧ ∀ y ∈ x :: xs, PySem.W.minOf x xs ≤ y
  | [], x => by simp [PySem.W.minOf]
  | z :: zs, x => by
    have e : PySem.W.minOf x (z :: zs) = PySem.W.minOf (if z < x then z else x) zs := by
      simp [PySem.W.minOf, PySem.W.DatumOrd.lt]
    rw [e]
    obtain ⟨h1, h2⟩ := minOf_spec zs (if z < x then z else x)
    refine ⟨?_, fun y hy => ?_⟩
    · rcases List.mem_cons.mp h1 with q | q
      · rw [q]; split <;> simp
      · exact List.mem_cons_of_mem _ (List.mem_cons_of_mem _ q)
    · have h3 := h2 _ List.mem_cons_self
      rcases List.mem_cons.mp hy with rfl | hy
      · split at h3 <;> rename_i q <;> (split <;> omega)
      · rcases List.mem_cons.mp hy with rfl | hy
        · split at h3 <;> rename_i q <;> (split <;> omega)
        · exact h2 _ (List.mem_cons_of_mem _ hy)
def fMax : List Int → (D → Prop) → Prop := fun ns Q => ns ≠ [] ∧ ∀ m, m ∈ ns → (∀ y, y ∈ ns → y ≤ m) → Q (.int m)
def fMin : List Int → (D → Prop) → Prop := fun ns Q => ns ≠ [] ∧ ∀ m, m ∈ ns → (∀ y, y ∈ ns → m ≤ y) → Q (.int m)
def rMaxB (K : PySem.W.Frag) : RC := fun vs H Q => ∃ (a : Addr) (ns : List Int), vs = [V.ref a] ∧ (SqL K H a (ns.map V.int) ∨ SqT K H a (ns.map V.int)) ∧ ns ≠ [] ∧ ∀ m, m ∈ ns → (∀ y, y ∈ ns → y ≤ m) → Q (.int m) H
def rMinB (K : PySem.W.Frag) : RC := fun vs H Q => ∃ (a : Addr) (ns : List Int), vs = [V.ref a] ∧ (SqL K H a (ns.map V.int) ∨ SqT K H a (ns.map V.int)) ∧ ns ≠ [] ∧ ∀ m, m ∈ ns → (∀ y, y ∈ ns → m ≤ y) → Q (.int m) H
theorem cr_maxB (hc : X.calm = true) (hu : X.A.units + 64 < cLine) : CallR X (.builtin "max") (rMaxB X.K) := by
  intro pins s σ H vs us Q I r h
  obtain ⟨a, ns, rfl, hs, hne, q⟩ := h
  rcases hs with hs | hs
  · exact cr_max hc pins s σ H _ us Q I r ⟨a, ns, rfl, hs, List.length_pos_iff.mpr hne, q⟩
  · obtain ⟨its, rv, hl, _⟩ := I.tuple hs
    rw [Vals.ref1 r]
    have hl' : s.heap.IsTuple a its.toArray := hl
    cases ns with
    | nil => exact absurd rfl hne
    | cons n ns =>
      refine PySem.W.max_tuple_datum (x := n) (xs := ns) (I.ok.hd hc) hl' ?_ (by show X.A.units + 1 + 0 < cLine; omega) fun i v h' tk hi hv hk => ?_
      · exact ints_reads rv
      · obtain ⟨as, hv⟩ := hv
        obtain ⟨h1, h2⟩ := maxOf_spec ns n
        have hv : Reads h' v (.int (PySem.W.maxOf n ns)) as := hv
        cases hv with
        | int _ t => exact ⟨.int _, H, I.kept hk, ⟨t, rfl⟩, q _ h1 h2⟩
theorem cr_minB (hc : X.calm = true) (hu : X.A.units + 64 < cLine) : CallR X (.builtin "min") (rMinB X.K) := by
  intro pins s σ H vs us Q I r h
  obtain ⟨a, ns, rfl, hs, hne, q⟩ := h
  rcases hs with hs | hs
  · exact cr_min hc pins s σ H _ us Q I r ⟨a, ns, rfl, hs, List.length_pos_iff.mpr hne, q⟩
  · obtain ⟨its, rv, hl, _⟩ := I.tuple hs
    rw [Vals.ref1 r]
    have hl' : s.heap.IsTuple a its.toArray := hl
    cases ns with
    | nil => exact absurd rfl hne
    | cons n ns =>
      refine PySem.W.min_tuple_datum (x := n) (xs := ns) (I.ok.hd hc) hl' ?_ (by show X.A.units + 1 + 0 < cLine; omega) fun i v h' tk hi hv hk => ?_
      · exact ints_reads rv
      · obtain ⟨as, hv⟩ := hv
        obtain ⟨h1, h2⟩ := minOf_spec ns n
        have hv : Reads h' v (.int (PySem.W.minOf n ns)) as := hv
        cases hv with
        | int _ t => exact ⟨.int _, H, I.kept hk, ⟨t, rfl⟩, q _ h1 h2⟩
theorem snd_maxB : SndC C (rMaxB C.K) (gInts fMax) := fun ρ σ p H rvs vs R Q hl S _ q k => by
  obtain ⟨a, ns, rfl, hq, q, S'⟩ := gInts_to hl S q
  exact ⟨a, ns, rfl, hq, q.1, fun m h1 h2 => k _ _ _ _ (q.2 m h1 h2) (S'.pushD rfl)⟩
theorem snd_minB : SndC C (rMinB C.K) (gInts fMin) := fun ρ σ p H rvs vs R Q hl S _ q k => by
  obtain ⟨a, ns, rfl, hq, q, S'⟩ := gInts_to hl S q
  exact ⟨a, ns, rfl, hq, q.1, fun m h1 h2 => k _ _ _ _ (q.2 m h1 h2) (S'.pushD rfl)⟩
end
end DL

set_option Elab.async false
set_option linter.all false
set_option maxRecDepth 100000
namespace DL
open PySem PySem.Spec L2
open PyProof.Rows hiding St
/-! ### loops and comprehensions, by an invariant of what is left -/
theorem lcL_rel {α : Type} {g : DG} {te : DT} {tt : DTT} {vs : List Nat} {Q : List D → List SV → Prop} (e : α → D) (I : List α → List D → List SV → Prop)
    (step : ∀ a l acc ρ, I (a :: l) acc ρ → ∀ K : List D → List SV → Prop, (∀ acc' ρ', I l acc' (wipeD ρ' vs) → K acc' (wipeD ρ' vs)) → g (.d (e a)) ρ fun ρ1 => tt ρ1 fun b ρ2 => if b = true then te ρ2 (fun rv ρ3 => (match rv with
      | .d x => K (acc ++ [x]) (wipeD ρ3 vs)
      | _ => False)) else K acc (wipeD ρ2 vs)) (fin : ∀ acc ρ, I [] acc ρ → Q acc ρ) : ∀ l acc ρ, I l acc ρ → lcL g tt te vs Q (l.map e) acc ρ
  | [], acc, ρ, h => fin _ _ h
  | a :: l, acc, ρ, h => by
    rw [List.map_cons]
    unfold lcL
    exact step a l acc ρ h (fun acc' ρ' => lcL g tt te vs Q (l.map e) acc' ρ') fun acc' ρ' h' => lcL_rel e I step fin l acc' _ h'
theorem lcL_maps {α : Type} {g : DG} {te : DT} {vs : List Nat} {Q : List D → List SV → Prop} {ρ : List SV} (e h : α → D) : ∀ (l : List α) (acc : List D),
    (∀ a ∈ l, ∀ K : D → List SV → Prop, (∀ ρ', wipeD ρ' vs = ρ → K (h a) ρ') → g (.d (e a)) ρ fun ρ1 => te ρ1 fun rv ρ3 => (match rv with
      | .d x => K x ρ3
      | _ => False)) → Q (acc ++ l.map h) ρ → lcL g dYes te vs Q (l.map e) acc ρ
  | [], acc, _, q => by simpa [lcL] using q
  | a :: l, acc, step, q => by
    rw [List.map_cons]
    unfold lcL
    show g _ ρ fun ρ1 => te ρ1 _
    refine step a List.mem_cons_self (fun x ρ3 => lcL g dYes te vs Q (l.map e) (acc ++ [x]) (wipeD ρ3 vs)) fun ρ' hρ => ?_
    show lcL g dYes te vs Q (l.map e) (acc ++ [h a]) (wipeD ρ' vs)
    rw [hρ]
    refine lcL_maps e h l _ (fun b hb => step b (List.mem_cons_of_mem _ hb)) ?_
    simpa using q
theorem dLoop_rel {α : Type} {g : DG} {tb : DTS} {Z : DEnds} (e : α → D) (I : List α → List SV → Prop)
    (step : ∀ a l ρ, I (a :: l) ρ → ∀ K : List SV → Prop, (∀ ρ', I l ρ' → K ρ') → g (.d (e a)) ρ fun ρ1 => tb { nx := K, rt := Z.rt, bk := Z.nx, ct := K } ρ1)
    (fin : ∀ ρ, I [] ρ → Z.nx ρ) : ∀ l ρ, I l ρ → dLoop g tb Z (l.map e) ρ
  | [], ρ, h => fin _ h
  | a :: l, ρ, h => by
    rw [List.map_cons]
    unfold dLoop
    exact step a l ρ h _ fun ρ' h' => dLoop_rel e I step fin l ρ' h'
theorem zipD2_maps {α β : Type} (f : α → D) (g : β → D) : ∀ (xs : List α) (ys : List β), zipD2 (xs.map f) (ys.map g) = (xs.zip ys).map fun p => D.tup [f p.1, g p.2]
  | [], _ => by simp [zipD2]
  | _ :: _, [] => by simp [zipD2]
  | x :: xs, y :: ys => by
    simp only [List.map_cons, zipD2, List.zip_cons_cons]
    rw [zipD2_maps f g xs ys]
theorem zipD3_maps {α β γ : Type} (f : α → D) (g : β → D) (k : γ → D) : ∀ (xs : List α) (ys : List β) (zs : List γ), zipD3 (xs.map f) (ys.map g) (zs.map k) = (xs.zip (ys.zip zs)).map fun p => D.tup [f p.1, g p.2.1, k p.2.2]
  | [], _, _ => by simp [zipD3]
  | _ :: _, [], _ => by simp [zipD3]
  | _ :: _, _ :: _, [] => by simp [zipD3]
  | x :: xs, y :: ys, z :: zs => by
    simp only [List.map_cons, zipD3, List.zip_cons_cons]
    rw [zipD3_maps f g k xs ys zs]
theorem atI_nat {α : Type} {xs : List α} {i : Int} {k : Nat} (h : i = (k : Int)) (hk : k < xs.length) : atI xs i = xs[k]? := by
  subst h
  unfold atI
  have : ixN xs.length (k : Int) = some k := by
    unfold ixN
    simp [hk]
  rw [this]
  rfl
theorem MulOk.small {i j : Int} (h : -(2 ^ 64) < i) (k : i < 2 ^ 64) : MulOk i j := .inl (.inl ⟨h, k⟩)
theorem MulOk.small' {i j : Int} (h : -(2 ^ 64) < j) (k : j < 2 ^ 64) : MulOk i j := .inl (.inr ⟨h, k⟩)
end DL

set_option Elab.async false
set_option linter.all false
set_option maxRecDepth 100000
namespace DL
open PySem PySem.Spec L2
open PyProof.Rows hiding St
/-! ### readings, step by step: equations for simp, which never goes ahead into what is done later -/
abbrev Ls := List SV
/-- holds a term fast: simp goes not into what it tells of -/
inductive Tg {α : Sort _} (a : α) : Type where
  | mk
section
variable {ρ : Ls} {Q : RV → Ls → Prop} {QB : Bool → Ls → Prop} {QA : List RV → Ls → Prop} {QS : Ls → Prop} {t u w : DT} {a b c : DTT} {ta ua : DTA} {ts us : DTS} {Z : DEnds}
-- a state, made ready
def appK (ρ : Ls) (Q : Ls → Prop) (_0 : Tg Q := .mk) : Prop := Q ρ
theorem appK_eq : appK ρ QS = QS ρ := propext Iff.rfl
def iteF (k : Bool) (A B : Prop) : Prop := if k = true then A else B
def iteG (k : Bool) (A B : Prop) (_0 : Tg A := .mk) (_1 : Tg B := .mk) : Prop := iteF k A B
theorem iteG_t {A B : Prop} : iteG true A B = A := by unfold iteG iteF; exact if_pos rfl
theorem iteG_f {A B : Prop} : iteG false A B = B := by unfold iteG iteF; exact if_neg Bool.false_ne_true
theorem iteG_d {p : Prop} [Decidable p] {A B : Prop} : iteG (decide p) A B = iteF (decide p) A B := propext Iff.rfl
theorem iteG_n {k : Bool} {A B : Prop} : iteG (!k) A B = iteF (!k) A B := propext Iff.rfl
theorem iteG_a {k l : Bool} {A B : Prop} : iteG (k && l) A B = iteF (k && l) A B := propext Iff.rfl
theorem iteG_o {k l : Bool} {A B : Prop} : iteG (k || l) A B = iteF (k || l) A B := propext Iff.rfl
theorem iteG_x {k l : Bool} {A B : Prop} : iteG (k != l) A B = iteF (k != l) A B := propext Iff.rfl
theorem iteG_e {x y : D} {A B : Prop} : iteG (x.eqv y) A B = iteF (x.eqv y) A B := propext Iff.rfl
theorem iteG_s {α : Type} {o : Option α} {A B : Prop} : iteG o.isSome A B = iteF o.isSome A B := propext Iff.rfl
theorem iteG_l {α : Type} {o : List α} {f : α → Bool} {A B : Prop} : iteG (o.all f) A B = iteF (o.all f) A B := propext Iff.rfl
theorem iteG_y {α : Type} {o : List α} {f : α → Bool} {A B : Prop} : iteG (o.any f) A B = iteF (o.any f) A B := propext Iff.rfl
theorem iteF_t {A B : Prop} : iteF true A B = A := if_pos rfl
theorem iteF_f {A B : Prop} : iteF false A B = B := if_neg Bool.false_ne_true
-- names
def varF (o : Option SV) (i : Nat) (ρ : Ls) (Q : RV → Ls → Prop) (_0 : Tg Q := .mk) : Prop := match o with
  | some (.d x) => Q (.d x) ρ
  | some (.ow _) => Q (.al i) ρ
  | _ => False
theorem e_var {i : Nat} : dVar i ρ Q = varF ρ[i]? i ρ Q := propext Iff.rfl
theorem varF_d {x : D} {i : Nat} : varF (some (.d x)) i ρ Q = Q (.d x) ρ := propext Iff.rfl
theorem varF_o {x : OV} {i : Nat} : varF (some (.ow x)) i ρ Q = Q (.al i) ρ := propext Iff.rfl
theorem e_C {x : D} : dC x ρ Q = Q (.d x) ρ := propext Iff.rfl
-- data
theorem e_dD : dD t ρ Q = t ρ fun rv ρ1 => toD rv ρ1 fun x ρ2 => Q (.d x) ρ2 := propext Iff.rfl
def toDF (o : Option SV) (i : Nat) (ρ : Ls) (Q : D → Ls → Prop) (_0 : Tg Q := .mk) : Prop := match o with
  | some (.d x) => Q x ρ
  | some (.ow (.lst ds)) => Q (.lst ds) (ρ.set i (.d (.lst ds)))
  | _ => False
theorem toD_d {x : D} {Q : D → Ls → Prop} : toD (.d x) ρ Q = Q x ρ := propext Iff.rfl
theorem toD_l {ds : List D} {Q : D → Ls → Prop} : toD (.ow (.lst ds)) ρ Q = Q (.lst ds) ρ := propext Iff.rfl
theorem toD_a {i : Nat} {Q : D → Ls → Prop} : toD (.al i) ρ Q = toDF ρ[i]? i ρ Q := propext Iff.rfl
theorem toDF_d {x : D} {i : Nat} {Q : D → Ls → Prop} : toDF (some (.d x)) i ρ Q = Q x ρ := propext Iff.rfl
theorem toDF_l {ds : List D} {i : Nat} {Q : D → Ls → Prop} : toDF (some (.ow (.lst ds))) i ρ Q = appK (ρ.set i (.d (.lst ds))) (fun r => Q (.lst ds) r) := propext Iff.rfl
-- two operands
def d2F (f : DO2) (x y : RV) (ρ : Ls) (Q : RV → Ls → Prop) : Prop := match x, y with
  | .d x, .d y => f x y fun rv => Q rv ρ
  | _, _ => False
theorem e_d2 {f : DO2} : d2 f t u ρ Q = t ρ fun x ρ1 => u ρ1 fun y ρ2 => d2F f x y ρ2 Q := propext Iff.rfl
theorem d2F_d {f : DO2} {x y : D} : d2F f (.d x) (.d y) ρ Q = f x y fun rv => Q rv ρ := propext Iff.rfl
variable {R : RV → Prop} {i j : Int} {s1 s2 : Str} {l1 l2 : List D}
theorem fAdd_i : fAdd (.int i) (.int j) R = R (.d (.int (i + j))) := propext Iff.rfl
theorem fAdd_s : fAdd (.str s1) (.str s2) R = (s1.length + s2.length ≤ sizeLine ∧ R (.d (.str (s1 ++ s2)))) := propext Iff.rfl
theorem fAdd_t : fAdd (.tup l1) (.tup l2) R = (l1.length + l2.length ≤ sizeLine ∧ R (.d (.tup (l1 ++ l2)))) := propext Iff.rfl
theorem fAdd_l : fAdd (.lst l1) (.lst l2) R = (l1.length + l2.length ≤ sizeLine ∧ R (.ow (.lst (l1 ++ l2)))) := propext Iff.rfl
theorem fSub_i : fSub (.int i) (.int j) R = R (.d (.int (i - j))) := propext Iff.rfl
theorem fMul_i : fMul (.int i) (.int j) R = (MulOk i j ∧ R (.d (.int (i * j)))) := propext Iff.rfl
theorem fMulR_i : fMulR (.int i) (.int j) R = (MulOk i j ∧ R (.d (.int (i * j)))) := propext Iff.rfl
theorem fMulR_t : fMulR (.tup l1) (.int j) R = (l1 ≠ [] ∧ 1 ≤ j ∧ j ≤ 1000 ∧ l1.length ≤ 1000 ∧ R (.d (.tup (List.replicate j.toNat l1).flatten))) := propext Iff.rfl
theorem fMulR_l : fMulR (.lst l1) (.int j) R = (j < 2 ^ 60 ∧ -(2 ^ 60) < j ∧ l1.length * j.toNat ≤ sizeLine ∧ R (.ow (.lst (List.replicate j.toNat l1).flatten))) := propext Iff.rfl
theorem fDiv_i : fDiv (.int i) (.int j) R = (CDivW i j ∧ R (.d (.int (i / j)))) := propext Iff.rfl
theorem fMod_i : fMod (.int i) (.int j) R = (0 < j ∧ R (.d (.int (i % j)))) := propext Iff.rfl
theorem fPow_i : fPow (.int i) (.int j) R = (CPow i j ∧ R (.d (.int (i ^ j.toNat)))) := propext Iff.rfl
def negF (x : RV) (ρ : Ls) (Q : RV → Ls → Prop) : Prop := match x with
  | .d (.int i) => Q (.d (.int (-i))) ρ
  | _ => False
theorem e_neg : dNeg t ρ Q = t ρ fun x ρ1 => negF x ρ1 Q := propext Iff.rfl
theorem negF_i : negF (.d (.int i)) ρ Q = Q (.d (.int (-i))) ρ := propext Iff.rfl
theorem cLt_i : cLt (.int i) (.int j) R = R (.d (.bl (decide (i < j)))) := propext Iff.rfl
theorem cLe_i : cLe (.int i) (.int j) R = R (.d (.bl (decide (i ≤ j)))) := propext Iff.rfl
theorem cGt_i : cGt (.int i) (.int j) R = R (.d (.bl (decide (j < i)))) := propext Iff.rfl
theorem cGe_i : cGe (.int i) (.int j) R = R (.d (.bl (decide (j ≤ i)))) := propext Iff.rfl
theorem cEq_e {x y : D} : cEq x y R = ((x.cmp = true ∧ y.cmp = true) ∧ R (.d (.bl (x.eqv y)))) := propext Iff.rfl
theorem cNe_e {x y : D} : cNe x y R = ((x.cmp = true ∧ y.cmp = true) ∧ R (.d (.bl (!x.eqv y)))) := propext Iff.rfl
def isNF (neg : Bool) (x : RV) (ρ : Ls) (Q : RV → Ls → Prop) : Prop := match x with
  | .d .non => Q (.d (.bl (!neg))) ρ
  | .d _ => Q (.d (.bl neg)) ρ
  | _ => False
theorem e_isN {neg : Bool} : dIsN neg t ρ Q = t ρ fun x ρ1 => isNF neg x ρ1 Q := propext Iff.rfl
theorem isNF_n {neg : Bool} : isNF neg (.d .non) ρ Q = Q (.d (.bl (!neg))) ρ := propext Iff.rfl
theorem isNF_t {neg : Bool} {l : List D} : isNF neg (.d (.tup l)) ρ Q = Q (.d (.bl neg)) ρ := propext Iff.rfl
theorem isNF_i {neg : Bool} {k : Int} : isNF neg (.d (.int k)) ρ Q = Q (.d (.bl neg)) ρ := propext Iff.rfl
-- tests
def dBF (x : RV) (ρ : Ls) (Q : Bool → Ls → Prop) : Prop := match x with
  | .d (.bl k) => Q k ρ
  | _ => False
theorem e_B : dB t ρ QB = t ρ fun x ρ1 => dBF x ρ1 QB := propext Iff.rfl
theorem dBF_b {k : Bool} : dBF (.d (.bl k)) ρ QB = QB k ρ := propext Iff.rfl
theorem e_And : dAnd a b ρ QB = a ρ fun k ρ1 => iteG k (b ρ1 QB) (QB false ρ1) := propext Iff.rfl
theorem e_Or : dOr a b ρ QB = a ρ fun k ρ1 => iteG k (QB true ρ1) (b ρ1 QB) := propext Iff.rfl
theorem e_Not : dNot a ρ QB = a ρ fun k ρ1 => QB (!k) ρ1 := propext Iff.rfl
def boF (x : RV) (A B : Prop) (_0 : Tg A := .mk) (_1 : Tg B := .mk) : Prop := match x with
  | .d (.bl true) => A
  | .d (.bl false) => B
  | _ => False
theorem boF_b {k : Bool} {A B : Prop} : boF (.d (.bl k)) A B = iteG k A B := by cases k <;> rfl
theorem e_AndV : dAndV t u ρ Q = t ρ fun x ρ1 => boF x (u ρ1 Q) (Q (.d (.bl false)) ρ1) := propext Iff.rfl
theorem e_OrV : dOrV t u ρ Q = t ρ fun x ρ1 => boF x (Q (.d (.bl true)) ρ1) (u ρ1 Q) := propext Iff.rfl
def notVF (x : RV) (ρ : Ls) (Q : RV → Ls → Prop) : Prop := match x with
  | .d (.bl k) => Q (.d (.bl (!k))) ρ
  | _ => False
theorem e_NotV : dNotV t ρ Q = t ρ fun x ρ1 => notVF x ρ1 Q := propext Iff.rfl
theorem notVF_b {k : Bool} : notVF (.d (.bl k)) ρ Q = Q (.d (.bl (!k))) ρ := propext Iff.rfl
theorem e_IfE : dIfE a t u ρ Q = a ρ fun k ρ1 => iteG k (t ρ1 Q) (u ρ1 Q) := propext Iff.rfl
def ch2F (g : DO2) (y : D) (z : RV) (ρ : Ls) (Q : RV → Ls → Prop) : Prop := match z with
  | .d z2 => g y z2 fun z3 => Q z3 ρ
  | _ => False
theorem ch2F_d {g : DO2} {y z : D} : ch2F g y (.d z) ρ Q = g y z fun rv => Q rv ρ := propext Iff.rfl
def chF (f g : DO2) (w : DT) (x y : RV) (ρ : Ls) (Q : RV → Ls → Prop) : Prop := match x, y with
  | .d x, .d y => f x y fun z => boF z (w ρ fun z2 ρ3 => ch2F g y z2 ρ3 Q) (Q (.d (.bl false)) ρ)
  | _, _ => False
theorem e_Chain {f g : DO2} : dChain f g t u w ρ Q = t ρ fun x ρ1 => u ρ1 fun y ρ2 => chF f g w x y ρ2 Q := by
  unfold dChain chF boF ch2F
  rfl
theorem chF_d {f g : DO2} {x y : D} : chF f g w (.d x) (.d y) ρ Q = f x y fun z => boF z (w ρ fun z2 ρ3 => ch2F g y z2 ρ3 Q) (Q (.d (.bl false)) ρ) := propext Iff.rfl
-- sequences
def seqF (o : Option SV) : Option (List D) := match o with
  | some (.d (.tup ds)) => some ds
  | some (.d (.lst ds)) => some ds
  | some (.ow (.lst ds)) => some ds
  | _ => none
theorem seqOf_t : seqOf (.d (.tup l1)) ρ = some l1 := rfl
theorem seqOf_l : seqOf (.d (.lst l1)) ρ = some l1 := rfl
theorem seqOf_o : seqOf (.ow (.lst l1)) ρ = some l1 := rfl
theorem seqOf_s {ns : List Int} : seqOf (.d (.scr ns)) ρ = some (ns.map .int) := rfl
theorem seqOf_a {k : Nat} : seqOf (.al k) ρ = seqF ρ[k]? := rfl
theorem seqF_t : seqF (some (.d (.tup l1))) = some l1 := rfl
theorem seqF_l : seqF (some (.d (.lst l1))) = some l1 := rfl
theorem seqF_o : seqF (some (.ow (.lst l1))) = some l1 := rfl
def kindF (o : Option SV) : Option (Bool × List D) := match o with
  | some (.d (.tup ds)) => some (false, ds)
  | some (.d (.lst ds)) => some (true, ds)
  | some (.ow (.lst ds)) => some (true, ds)
  | _ => none
theorem kindOf_t : kindOf (.d (.tup l1)) ρ = some (false, l1) := rfl
theorem kindOf_l : kindOf (.d (.lst l1)) ρ = some (true, l1) := rfl
theorem kindOf_o : kindOf (.ow (.lst l1)) ρ = some (true, l1) := rfl
theorem kindOf_a {k : Nat} : kindOf (.al k) ρ = kindF ρ[k]? := rfl
theorem kindF_t : kindF (some (.d (.tup l1))) = some (false, l1) := rfl
theorem kindF_l : kindF (some (.d (.lst l1))) = some (true, l1) := rfl
theorem kindF_o : kindF (some (.ow (.lst l1))) = some (true, l1) := rfl
def ixF2 (o : Option D) (ρ : Ls) (Q : RV → Ls → Prop) (_0 : Tg Q := .mk) : Prop := match o with
  | some z => Q (.d z) ρ
  | none => False
theorem ixF2_s {z : D} : ixF2 (some z) ρ Q = Q (.d z) ρ := propext Iff.rfl
def ixF (y : RV) (o : Option (List D)) (ρ : Ls) (Q : RV → Ls → Prop) (_0 : Tg Q := .mk) : Prop := match y, o with
  | .d (.int i), some ds => ixF2 (atI ds i) ρ Q
  | _, _ => False
theorem ixF_s : ixF (.d (.int i)) (some l1) ρ Q = ixF2 (atI l1 i) ρ Q := propext Iff.rfl
theorem e_Ix : dIx t u ρ Q = t ρ fun x ρ1 => u ρ1 fun y ρ2 => ixF y (seqOf x ρ2) ρ2 Q := propext Iff.rfl
def slF (o : Option (Bool × List D)) (l h : Option Int) (ρ : Ls) (Q : RV → Ls → Prop) (_0 : Tg Q := .mk) : Prop := match o with
  | some (true, ds) => Q (.ow (.lst (cutD ds l h))) ρ
  | some (false, ds) => Q (.d (.tup (cutD ds l h))) ρ
  | none => False
theorem slF_t {l h : Option Int} : slF (some (true, l1)) l h ρ Q = Q (.ow (.lst (cutD l1 l h))) ρ := propext Iff.rfl
theorem slF_f {l h : Option Int} : slF (some (false, l1)) l h ρ Q = Q (.d (.tup (cutD l1 l h))) ρ := propext Iff.rfl
theorem e_Sl {lo hi : DO} : dSl t lo hi ρ Q = t ρ fun x ρ1 => lo ρ1 fun l ρ2 => hi ρ2 fun h ρ3 => slF (kindOf x ρ3) l h ρ3 Q := by
  unfold dSl slF
  rfl
theorem e_No {Q : Option Int → Ls → Prop} : dNo ρ Q = Q none ρ := propext Iff.rfl
def partF (x : RV) (ρ : Ls) (Q : Option Int → Ls → Prop) : Prop := match x with
  | .d (.int i) => Q (some i) ρ
  | _ => False
theorem e_Part {Q : Option Int → Ls → Prop} : dPart t ρ Q = t ρ fun x ρ1 => partF x ρ1 Q := propext Iff.rfl
theorem partF_i {Q : Option Int → Ls → Prop} : partF (.d (.int i)) ρ Q = Q (some i) ρ := propext Iff.rfl
-- arguments
theorem e_nil : dNil ρ QA = QA [] ρ := propext Iff.rfl
theorem e_cons : dCons t ua ρ QA = t ρ fun x ρ1 => ua ρ1 fun xs ρ2 => QA (x :: xs) ρ2 := propext Iff.rfl
theorem allD_n : allD [] = some [] := rfl
theorem allD_c {x : D} {r : List RV} : allD (.d x :: r) = (allD r).map (x :: ·) := rfl
def tupF (o : Option (List D)) (ρ : Ls) (Q : RV → Ls → Prop) (_0 : Tg Q := .mk) : Prop := match o with
  | some ds => decide (ds.length ≤ 1000) = true ∧ Q (.d (.tup ds)) ρ
  | none => False
theorem tupF_s : tupF (some l1) ρ Q = (decide (l1.length ≤ 1000) = true ∧ Q (.d (.tup l1)) ρ) := propext Iff.rfl
theorem e_Tup : dTup ta ρ Q = ta ρ fun xs ρ1 => tupF (allD xs) ρ1 Q := propext Iff.rfl
def lstF (o : Option (List D)) (ρ : Ls) (Q : RV → Ls → Prop) (_0 : Tg Q := .mk) : Prop := match o with
  | some ds => decide (ds.length ≤ 1000) = true ∧ Q (.ow (.lst ds)) ρ
  | none => False
theorem lstF_s : lstF (some l1) ρ Q = (decide (l1.length ≤ 1000) = true ∧ Q (.ow (.lst l1)) ρ) := propext Iff.rfl
theorem e_Lst : dLst ta ρ Q = ta ρ fun xs ρ1 => lstF (allD xs) ρ1 Q := propext Iff.rfl
theorem e_CB {f : DF} : dCB f ta ρ Q = ta ρ fun xs ρ1 => f xs ρ1 Q := propext Iff.rfl
def ofDF (g : DFd) (o : Option (List D)) (ρ : Ls) (Q : RV → Ls → Prop) (_0 : Tg g := .mk) (_1 : Tg Q := .mk) : Prop := match o with
  | some ds => g ds fun rv => Q rv ρ
  | none => False
theorem ofDF_s {g : DFd} : ofDF g (some l1) ρ Q = g l1 fun rv => Q rv ρ := propext Iff.rfl
theorem e_ofD {g : DFd} {xs : List RV} : ofD g xs ρ Q = ofDF g (allD xs) ρ Q := by
  unfold ofD ofDF
  rfl
theorem gInt_i : gInt [.int i] R = R (.d (.int i)) := propext Iff.rfl
theorem gInt_b {k : Bool} : gInt [.bl k] R = R (.d (.int (if k then 1 else 0))) := propext Iff.rfl
theorem gAbs_i : gAbs [.int i] R = R (.d (.int (if i < 0 then -i else i))) := propext Iff.rfl
theorem gMax2_i : gMax2 [.int i, .int j] R = R (.d (.int (if j > i then j else i))) := propext Iff.rfl
theorem gMin2_i : gMin2 [.int i, .int j] R = R (.d (.int (if j < i then j else i))) := propext Iff.rfl
def callG (f : DFd) (n : Nat) (ds : List D) (R : RV → Prop) (_0 : Tg f := .mk) (_1 : Tg R := .mk) : Prop := ds.length = n ∧ f ds R
theorem gN_e {n : Nat} {f : DFd} {ds : List D} : gN n f ds R = callG f n ds R := propext Iff.rfl
def jF (f : DJ) (n : Nat) (o : Option SV) (i : Nat) (ds : Option (List D)) (ρ : Ls) (Q : RV → Ls → Prop) (_0 : Tg f := .mk) (_1 : Tg Q := .mk) : Prop := match o, ds with
  | some (.ow o), some ds => (ds.length = n ∧ f o ds fun rv o' => Q rv (ρ.set i (.ow o')))
  | _, _ => False
def callJ (f : DJ) (n : Nat) (o : OV) (i : Nat) (ds : List D) (ρ : Ls) (Q : RV → Ls → Prop) (_0 : Tg f := .mk) (_1 : Tg Q := .mk) : Prop := ds.length = n ∧ f o ds fun rv o' => Q rv (ρ.set i (.ow o'))
theorem jF_s {f : DJ} {n k : Nat} {o : OV} : jF f n (some (.ow o)) k (some l1) ρ Q = callJ f n o k l1 ρ Q := propext Iff.rfl
theorem e_jOf {f : DJ} {n k : Nat} {r : List RV} : jOf (jN n f) (.al k :: r) ρ Q = jF f n ρ[k]? k (allD r) ρ Q := by
  unfold jOf jF jN
  rfl
def lenF (o : Option (List D)) (ρ : Ls) (Q : RV → Ls → Prop) (_0 : Tg Q := .mk) : Prop := match o with
  | some ds => Q (.d (.int (ds.length : Nat))) ρ
  | none => False
theorem lenF_s : lenF (some l1) ρ Q = Q (.d (.int (l1.length : Nat))) ρ := propext Iff.rfl
theorem e_Len {x : RV} : gLen [x] ρ Q = lenF (seqOf x ρ) ρ Q := propext Iff.rfl
def intsF2 (f : List Int → (D → Prop) → Prop) (o : Option (List Int)) (ρ : Ls) (Q : RV → Ls → Prop) (_0 : Tg f := .mk) (_1 : Tg Q := .mk) : Prop := match o with
  | some ns => f ns fun z => Q (.d z) ρ
  | none => False
theorem intsF2_s {f : List Int → (D → Prop) → Prop} {ns : List Int} : intsF2 f (some ns) ρ Q = f ns fun z => Q (.d z) ρ := propext Iff.rfl
def intsF (f : List Int → (D → Prop) → Prop) (o : Option (List D)) (ρ : Ls) (Q : RV → Ls → Prop) (_0 : Tg f := .mk) (_1 : Tg Q := .mk) : Prop := match o with
  | some ds => intsF2 f (intsOf ds) ρ Q
  | none => False
theorem intsF_s {f : List Int → (D → Prop) → Prop} : intsF f (some l1) ρ Q = intsF2 f (intsOf l1) ρ Q := propext Iff.rfl
theorem e_Ints {f : List Int → (D → Prop) → Prop} {x : RV} : gInts f [x] ρ Q = intsF f (seqOf x ρ) ρ Q := propext Iff.rfl
theorem fSum_e {ns : List Int} {K : D → Prop} : fSum ns K = K (.int ns.sum) := propext Iff.rfl
def maxF (ns : List Int) (K : D → Prop) (_0 : Tg K := .mk) : Prop := fMax ns K
def minF (ns : List Int) (K : D → Prop) (_0 : Tg K := .mk) : Prop := fMin ns K
theorem e_fMax {ns : List Int} {K : D → Prop} : fMax ns K = maxF ns K := propext Iff.rfl
theorem e_fMin {ns : List Int} {K : D → Prop} : fMin ns K = minF ns K := propext Iff.rfl
def gTF (o : Option (List D)) (ρ : Ls) (Q : RV → Ls → Prop) (_0 : Tg Q := .mk) : Prop := match o with
  | some ds => Q (.d (.tup ds)) ρ
  | none => False
theorem gTF_s : gTF (some l1) ρ Q = Q (.d (.tup l1)) ρ := propext Iff.rfl
theorem e_Tuple {x : RV} : gTuple [x] ρ Q = gTF (seqOf x ρ) ρ Q := propext Iff.rfl
def gLF (o : Option (List D)) (ρ : Ls) (Q : RV → Ls → Prop) (_0 : Tg Q := .mk) : Prop := match o with
  | some ds => Q (.ow (.lst ds)) ρ
  | none => False
theorem gLF_s : gLF (some l1) ρ Q = Q (.ow (.lst l1)) ρ := propext Iff.rfl
theorem e_List {x : RV} : gList [x] ρ Q = gLF (seqOf x ρ) ρ Q := propext Iff.rfl
def blsF (f : List Bool → D) (o : Option (Bool × List D)) (ρ : Ls) (Q : RV → Ls → Prop) (_0 : Tg f := .mk) (_1 : Tg Q := .mk) : Prop := match o with
  | some (true, ds) => (match blsOf ds with
    | some ns => Q (.d (f ns)) ρ
    | none => False)
  | _ => False
def blsF2 (f : List Bool → D) (o : Option (List Bool)) (ρ : Ls) (Q : RV → Ls → Prop) (_0 : Tg f := .mk) (_1 : Tg Q := .mk) : Prop := match o with
  | some ns => Q (.d (f ns)) ρ
  | none => False
theorem blsF_s {f : List Bool → D} : blsF f (some (true, l1)) ρ Q = blsF2 f (blsOf l1) ρ Q := propext Iff.rfl
theorem blsF2_s {f : List Bool → D} {ns : List Bool} : blsF2 f (some ns) ρ Q = Q (.d (f ns)) ρ := propext Iff.rfl
theorem e_Bls {f : List Bool → D} {x : RV} : gBls f [x] ρ Q = blsF f (kindOf x ρ) ρ Q := propext Iff.rfl
def isF2 (o : Option Bool) (R : RV → Prop) (_0 : Tg R := .mk) : Prop := match o with
  | some k => R (.d (.bl k))
  | none => False
def isF (o : Option String) (n : String) (R : RV → Prop) (_0 : Tg R := .mk) : Prop := match o with
  | some m => isF2 (kitB m n) R
  | none => False
theorem isF_s {m n : String} : isF (some m) n R = isF2 (kitB m n) R := propext Iff.rfl
theorem isF2_s {k : Bool} : isF2 (some k) R = R (.d (.bl k)) := propext Iff.rfl
theorem e_Is {x : D} {n : String} : gIs [x, .ty n] R = isF x.tyn n R := propext Iff.rfl
theorem tyn_i : D.tyn (.int i) = some "int" := rfl
theorem tyn_b {k : Bool} : D.tyn (.bl k) = some "bool" := rfl
theorem tyn_t : D.tyn (.tup l1) = some "tuple" := rfl
theorem tyn_l : D.tyn (.lst l1) = some "list" := rfl
theorem tyn_s : D.tyn (.str s1) = some "str" := rfl
theorem tyn_n : D.tyn .non = some "NoneType" := rfl
theorem k_ii : kitB "int" "int" = some true := by decide +kernel
theorem k_ib : kitB "int" "bool" = some false := by decide +kernel
theorem k_tt : kitB "tuple" "tuple" = some true := by decide +kernel
-- statements
theorem e_seq : dSeq ts us Z ρ = ts { nx := us Z, rt := Z.rt, bk := Z.bk, ct := Z.ct } ρ := propext Iff.rfl
theorem e_skip : dSkip Z ρ = Z.nx ρ := propext Iff.rfl
theorem e_ret : dRet t Z ρ = t ρ Z.rt := propext Iff.rfl
theorem e_drop : dDrop t Z ρ = t ρ fun _ ρ1 => Z.nx ρ1 := propext Iff.rfl
theorem e_ifS : dIfS a ts us Z ρ = a ρ fun k ρ1 => iteG k (ts Z ρ1) (us Z ρ1) := propext Iff.rfl
theorem e_never : dNever Z ρ = False := propext Iff.rfl
theorem e_asg {g : DG} : dAsg t g Z ρ = t ρ fun rv ρ1 => g rv ρ1 Z.nx := propext Iff.rfl
theorem gN1_d {k : Nat} {x : D} : gN1 k (.d x) ρ QS = appK (ρ.set k (.d x)) QS := propext Iff.rfl
theorem gN1_o {k : Nat} {x : OV} : gN1 k (.ow x) ρ QS = appK (ρ.set k (.ow x)) QS := propext Iff.rfl
def gaF (o : Option SV) (k l : Nat) (ρ : Ls) (Q : Ls → Prop) (_0 : Tg Q := .mk) : Prop := match o with
  | some (.d x) => Q (ρ.set k (.d x))
  | some (.ow o) => k ≠ l ∧ Q ((ρ.set l .un).set k (.ow o))
  | _ => False
theorem gN1_a {k l : Nat} : gN1 k (.al l) ρ QS = gaF ρ[l]? k l ρ QS := propext Iff.rfl
theorem gaF_d {k l : Nat} {x : D} : gaF (some (.d x)) k l ρ QS = appK (ρ.set k (.d x)) QS := propext Iff.rfl
theorem gaF_o {k l : Nat} {x : OV} : gaF (some (.ow x)) k l ρ QS = (k ≠ l ∧ appK ((ρ.set l .un).set k (.ow x)) QS) := propext Iff.rfl
theorem gTup_e {n : Nat} {u : DGs} : gTupD n u (.d (.tup l1)) ρ QS = (l1.length = n ∧ u l1 ρ QS) := propext Iff.rfl
theorem gs_n : gsNil [] ρ QS = QS ρ := propext Iff.rfl
theorem gs_c {g : DG} {u : DGs} {x : D} : gsCons g u (x :: l1) ρ QS = g (.d x) ρ fun ρ1 => u l1 ρ1 QS := propext Iff.rfl
def par2F (x y : Option SV) (k l : Nat) (ρ : Ls) (Q : Ls → Prop) (_0 : Tg Q := .mk) : Prop := match x, y with
  | some a, some b => Q ((ρ.set k a).set l b)
  | _, _ => False
def par2G (xs : List RV) (k l : Nat) (ρ : Ls) (Q : Ls → Prop) : Prop := match xs with
  | [x, y] => par2F (svOf x) (svOf y) k l ρ Q
  | _ => False
theorem e_par2 {k l : Nat} : dPar2 k l ta Z ρ = ta ρ fun xs ρ1 => par2G xs k l ρ1 Z.nx := by
  unfold dPar2 par2G par2F
  rfl
theorem par2G_e {x y : RV} {k l : Nat} : par2G [x, y] k l ρ QS = par2F (svOf x) (svOf y) k l ρ QS := propext Iff.rfl
theorem par2F_s {x y : SV} {k l : Nat} : par2F (some x) (some y) k l ρ QS = appK ((ρ.set k x).set l y) QS := propext Iff.rfl
theorem svOf_d {x : D} : svOf (.d x) = some (.d x) := rfl
theorem svOf_o {x : OV} : svOf (.ow x) = some (.ow x) := rfl
def par3F (x y z : Option SV) (k l m : Nat) (ρ : Ls) (Q : Ls → Prop) (_0 : Tg Q := .mk) : Prop := match x, y, z with
  | some a, some b, some c => Q (((ρ.set k a).set l b).set m c)
  | _, _, _ => False
def par3G (xs : List RV) (k l m : Nat) (ρ : Ls) (Q : Ls → Prop) : Prop := match xs with
  | [x, y, z] => par3F (svOf x) (svOf y) (svOf z) k l m ρ Q
  | _ => False
theorem e_par3 {k l m : Nat} : dPar3 k l m ta Z ρ = ta ρ fun xs ρ1 => par3G xs k l m ρ1 Z.nx := by
  unfold dPar3 par3G par3F
  rfl
theorem par3G_e {x y z : RV} {k l m : Nat} : par3G [x, y, z] k l m ρ QS = par3F (svOf x) (svOf y) (svOf z) k l m ρ QS := propext Iff.rfl
theorem par3F_s {x y z : SV} {k l m : Nat} : par3F (some x) (some y) (some z) k l m ρ QS = appK (((ρ.set k x).set l y).set m z) QS := propext Iff.rfl
-- xs[i] = v
def stF2 (o : Option Nat) (ds : List D) (k : Nat) (z : D) (ρ : Ls) (Q : Ls → Prop) (_0 : Tg Q := .mk) : Prop := match o with
  | some j => Q (ρ.set k (.ow (.lst (ds.set j z))))
  | none => False
theorem stF2_s {n k : Nat} {z : D} : stF2 (some n) l1 k z ρ QS = appK (ρ.set k (.ow (.lst (l1.set n z)))) QS := propext Iff.rfl
def stF (o : Option SV) (k : Nat) (i : Int) (z : D) (ρ : Ls) (Q : Ls → Prop) (_0 : Tg Q := .mk) : Prop := match o with
  | some (.ow (.lst ds)) => stF2 (ixN ds.length i) ds k z ρ Q
  | _ => False
theorem stF_s {k : Nat} {z : D} : stF (some (.ow (.lst l1))) k i z ρ QS = stF2 (ixN l1.length i) l1 k z ρ QS := propext Iff.rfl
def stG (rv x y : RV) (ρ : Ls) (Q : Ls → Prop) : Prop := match rv, x, y with
  | .d z, .al k, .d (.int i) => stF ρ[k]? k i z ρ Q
  | _, _, _ => False
theorem stG_e {z : D} {k : Nat} : stG (.d z) (.al k) (.d (.int i)) ρ QS = stF ρ[k]? k i z ρ QS := propext Iff.rfl
theorem gStL_e {rv : RV} : gStL t u rv ρ QS = t ρ fun x ρ1 => u ρ1 fun y ρ2 => stG rv x y ρ2 QS := by
  unfold gStL stG stF stF2
  rfl
-- xs.append(v)
def apI (k : Nat) (z : D) (o : Option SV) (ρ : Ls) (Q : RV → Ls → Prop) (_0 : Tg Q := .mk) : Prop := match o with
  | some (.ow (.lst ds)) => ds.length < sizeLine ∧ Q (.d .non) (ρ.set k (.ow (.lst (ds ++ [z]))))
  | _ => False
def apG (x : RV) (ys : Option (List D)) (ρ : Ls) (Q : RV → Ls → Prop) (_0 : Tg Q := .mk) : Prop := match x, ys with
  | .al i, some [z] => apI i z ρ[i]? ρ Q
  | _, _ => False
def gOwn (o : Option SV) : Prop := match o with
  | some (.ow (.lst _)) => True
  | _ => False
theorem gOwn_e : gOwn (some (.ow (.lst l1))) = True := propext Iff.rfl
theorem owL_a {k : Nat} : owL (.al k) ρ = gOwn ρ[k]? := propext Iff.rfl
theorem apG_e {k : Nat} {z : D} : apG (.al k) (some [z]) ρ Q = apI k z ρ[k]? ρ Q := propext Iff.rfl
theorem apI_e {k : Nat} {z : D} : apI k z (some (.ow (.lst l1))) ρ Q = (l1.length < sizeLine ∧ appK (ρ.set k (.ow (.lst (l1 ++ [z])))) (fun r => Q (.d .non) r)) := propext Iff.rfl
theorem e_App : dApp t ua ρ Q = t ρ fun x ρ1 => owL x ρ1 ∧ ua ρ1 fun ys ρ2 => apG x (allD ys) ρ2 Q := by
  unfold dApp apG apI
  rfl
-- loops
def forF (g : DG) (tb : DTS) (Z : DEnds) (ds : List D) (ρ : Ls) (_0 : Tg g := .mk) (_1 : Tg tb := .mk) (_2 : Tg Z := .mk) : Prop := dLoop g tb Z ds ρ
theorem e_For {ti : DI} {g : DG} {tb : DTS} : dFor ti g tb Z ρ = ti ρ fun ds ρ1 => forF g tb Z ds ρ1 := propext Iff.rfl
def whileF (a : DTT) (tb : DTS) (Z : DEnds) (ρ : Ls) (_0 : Tg a := .mk) (_1 : Tg tb := .mk) (_2 : Tg Z := .mk) : Prop := dWhile a tb Z ρ
theorem e_While {tb : DTS} : dWhile a tb Z ρ = whileF a tb Z ρ := propext Iff.rfl
def iterF (x : RV) (ρ : Ls) (Q : List D → Ls → Prop) : Prop := match x with
  | .d (.tup ds) => Q ds ρ
  | .d (.lst ds) => Q ds ρ
  | _ => False
variable {QI : List D → Ls → Prop}
theorem e_Iter : dIter t ρ QI = t ρ fun rv ρ1 => iterF rv ρ1 QI := propext Iff.rfl
theorem iterF_t : iterF (.d (.tup l1)) ρ QI = QI l1 ρ := propext Iff.rfl
theorem iterF_l : iterF (.d (.lst l1)) ρ QI = QI l1 ρ := propext Iff.rfl
def rng1F (o : Option (List D)) (ρ : Ls) (Q : List D → Ls → Prop) (_0 : Tg Q := .mk) : Prop := match o with
  | some [.int j] => (-(2 ^ 62) ≤ j ∧ j ≤ 16777216) ∧ Q ((List.range j.toNat).map fun (k : Nat) => D.int (0 + k)) ρ
  | _ => False
theorem rng1F_e : rng1F (some [.int j]) ρ QI = ((-(2 ^ 62) ≤ j ∧ j ≤ 16777216) ∧ QI ((List.range j.toNat).map fun (k : Nat) => D.int (0 + k)) ρ) := propext Iff.rfl
theorem e_Rng1 : dRng1 ta ρ QI = ta ρ fun xs ρ1 => rng1F (allD xs) ρ1 QI := by
  unfold dRng1 rng1F
  rfl
def rng2F (o : Option (List D)) (ρ : Ls) (Q : List D → Ls → Prop) (_0 : Tg Q := .mk) : Prop := match o with
  | some [.int i, .int j] => ((-(2 ^ 61) ≤ i ∧ i < 2 ^ 61) ∧ (-(2 ^ 61) ≤ j ∧ j < 2 ^ 61) ∧ j - i ≤ 16777216) ∧ Q ((List.range (j - i).toNat).map fun (k : Nat) => D.int (i + k)) ρ
  | _ => False
theorem rng2F_e : rng2F (some [.int i, .int j]) ρ QI = (((-(2 ^ 61) ≤ i ∧ i < 2 ^ 61) ∧ (-(2 ^ 61) ≤ j ∧ j < 2 ^ 61) ∧ j - i ≤ 16777216) ∧ QI ((List.range (j - i).toNat).map fun (k : Nat) => D.int (i + k)) ρ) := propext Iff.rfl
theorem e_Rng2 : dRng2 ta ρ QI = ta ρ fun xs ρ1 => rng2F (allD xs) ρ1 QI := by
  unfold dRng2 rng2F
  rfl
def zip2F (x y : Option (List D)) (ρ : Ls) (Q : List D → Ls → Prop) (_0 : Tg Q := .mk) : Prop := match x, y with
  | some a, some b => Q (zipD2 a b) ρ
  | _, _ => False
theorem zip2F_s : zip2F (some l1) (some l2) ρ QI = QI (zipD2 l1 l2) ρ := propext Iff.rfl
def zip2G (xs : List RV) (ρ : Ls) (Q : List D → Ls → Prop) : Prop := match xs with
  | [.d x, .d y] => zip2F (seqD x) (seqD y) ρ Q
  | _ => False
theorem zip2G_e {x y : D} : zip2G [.d x, .d y] ρ QI = zip2F (seqD x) (seqD y) ρ QI := propext Iff.rfl
theorem e_Zip2 : dZip2 ta ρ QI = ta ρ fun xs ρ1 => zip2G xs ρ1 QI := by
  unfold dZip2 zip2G zip2F
  rfl
def zip3F (x y z : Option (List D)) (ρ : Ls) (Q : List D → Ls → Prop) (_0 : Tg Q := .mk) : Prop := match x, y, z with
  | some a, some b, some c => Q (zipD3 a b c) ρ
  | _, _, _ => False
theorem zip3F_s {l3 : List D} : zip3F (some l1) (some l2) (some l3) ρ QI = QI (zipD3 l1 l2 l3) ρ := propext Iff.rfl
def zip3G (xs : List RV) (ρ : Ls) (Q : List D → Ls → Prop) : Prop := match xs with
  | [.d x, .d y, .d z] => zip3F (seqD x) (seqD y) (seqD z) ρ Q
  | _ => False
theorem zip3G_e {x y z : D} : zip3G [.d x, .d y, .d z] ρ QI = zip3F (seqD x) (seqD y) (seqD z) ρ QI := propext Iff.rfl
theorem e_Zip3 : dZip3 ta ρ QI = ta ρ fun xs ρ1 => zip3G xs ρ1 QI := by
  unfold dZip3 zip3G zip3F
  rfl
theorem seqD_t : seqD (.tup l1) = some l1 := rfl
theorem seqD_l : seqD (.lst l1) = some l1 := rfl
def lcF (g : DG) (tt : DTT) (te : DT) (vs : List Nat) (ds : List D) (ρ : Ls) (Q : RV → Ls → Prop) (_0 : Tg g := .mk) (_1 : Tg tt := .mk) (_2 : Tg te := .mk) (_3 : Tg Q := .mk) : Prop := (∀ i ∈ vs, ρ[i]? = some .un) ∧ lcL g tt te vs (fun acc ρ2 => Q (.ow (.lst acc)) ρ2) ds [] ρ
theorem e_Lc {ti : DI} {g : DG} {tt : DTT} {te : DT} {vs : List Nat} : dLc ti g tt te vs ρ Q = ti ρ fun ds ρ1 => lcF g tt te vs ds ρ1 Q := propext Iff.rfl
theorem e_Yes : dYes ρ QB = QB true ρ := propext Iff.rfl
-- ends
theorem finP_d {x : D} : finP R (.d x) ρ = R (.d x) := propext Iff.rfl
theorem finP_o {x : OV} : finP R (.ow x) ρ = R (.ow x) := propext Iff.rfl
def finF (o : Option SV) (R : RV → Prop) (_0 : Tg R := .mk) : Prop := match o with
  | some (.d x) => R (.d x)
  | some (.ow o) => R (.ow o)
  | _ => False
theorem finP_a {k : Nat} : finP R (.al k) ρ = finF ρ[k]? R := propext Iff.rfl
theorem finF_d {x : D} : finF (some (.d x)) R = R (.d x) := propext Iff.rfl
theorem finF_o {x : OV} : finF (some (.ow x)) R = R (.ow x) := propext Iff.rfl
def finJF (o : Option SV) (rv : RV) (R : RV → OV → Prop) (_0 : Tg R := .mk) : Prop := match o with
  | some (.ow o') => (match rv with
    | .d x => R (.d x) o'
    | .ow x => R (.ow x) o'
    | .al _ => False)
  | _ => False
variable {RJ : RV → OV → Prop}
theorem finJF_d {x : D} {o : OV} : finJF (some (.ow o)) (.d x) RJ = RJ (.d x) o := propext Iff.rfl
theorem finJF_o {x : OV} {o : OV} : finJF (some (.ow o)) (.ow x) RJ = RJ (.ow x) o := propext Iff.rfl
theorem finJ_d {x : D} : finJ RJ (.d x) ρ = finJF ρ[(0 : Nat)]? (.d x) RJ := by
  unfold finJ finJF
  rfl
theorem finJ_o {x : OV} : finJ RJ (.ow x) ρ = finJF ρ[(0 : Nat)]? (.ow x) RJ := by
  unfold finJ finJF
  rfl
theorem startD_e {N : List Str} {ds : List D} : startD N ds = ds.map .d ++ List.replicate (N.length - ds.length) .un := rfl
theorem startJ_e {N : List Str} {o : OV} {ds : List D} : startJ N o ds = .ow o :: (ds.map .d ++ List.replicate (N.length - (ds.length + 1)) .un) := rfl
-- dicts with keys of tuples
theorem e_Dn0 : dDn0 ρ Q = Q (.ow (.dn [])) ρ := propext Iff.rfl
def dnI (neg : Bool) (o : Option SV) (x : D) (ρ : Ls) (Q : RV → Ls → Prop) (_0 : Tg Q := .mk) : Prop := match o with
  | some (.ow (.dn kvs)) => ∃ k : NestedKey, x = kD k ∧ (∃ ks, k = .tup ks) ∧ k.depth ≤ 8 ∧ Q (.d (.bl (neg != (dnAt kvs k).isSome))) ρ
  | _ => False
def dnIG (neg : Bool) (x : D) (kvs : List (NestedKey × D)) (ρ : Ls) (Q : RV → Ls → Prop) (_0 : Tg Q := .mk) : Prop := ∃ k : NestedKey, x = kD k ∧ (∃ ks, k = .tup ks) ∧ k.depth ≤ 8 ∧ Q (.d (.bl (neg != (dnAt kvs k).isSome))) ρ
theorem dnI_e {neg : Bool} {x : D} {kvs : List (NestedKey × D)} : dnI neg (some (.ow (.dn kvs))) x ρ Q = dnIG neg x kvs ρ Q := propext Iff.rfl
def dnIH (neg : Bool) (x y : RV) (ρ : Ls) (Q : RV → Ls → Prop) : Prop := match x, y with
  | .d x, .al k => dnI neg ρ[k]? x ρ Q
  | _, _ => False
theorem dnIH_e {neg : Bool} {x : D} {k : Nat} : dnIH neg (.d x) (.al k) ρ Q = dnI neg ρ[k]? x ρ Q := propext Iff.rfl
theorem e_DnIn {neg : Bool} : dDnIn neg t u ρ Q = t ρ fun x ρ1 => u ρ1 fun y ρ2 => dnIH neg x y ρ2 Q := by
  unfold dDnIn dnIH dnI
  rfl
def dnGG (kvs : List (NestedKey × D)) (y : D) (ρ : Ls) (Q : RV → Ls → Prop) (_0 : Tg Q := .mk) : Prop := ∃ k : NestedKey, y = kD k ∧ (∃ ks, k = .tup ks) ∧ k.depth ≤ 8 ∧ ixF2 (dnAt kvs k) ρ Q
def dnGF (o : Option SV) (y : D) (ρ : Ls) (Q : RV → Ls → Prop) (_0 : Tg Q := .mk) : Prop := match o with
  | some (.ow (.dn kvs)) => dnGG kvs y ρ Q
  | _ => False
theorem dnGF_e {y : D} {kvs : List (NestedKey × D)} : dnGF (some (.ow (.dn kvs))) y ρ Q = dnGG kvs y ρ Q := propext Iff.rfl
theorem dnGetF_e {k : Nat} {y : D} : dnGetF Q (.al k) (.d y) ρ = dnGF ρ[k]? y ρ Q := by
  unfold dnGetF dnGF dnGG ixF2
  rfl
theorem e_DnGet : dDnGet t u ρ Q = t ρ fun x ρ1 => u ρ1 fun y ρ2 => dnGetF Q x y ρ2 := propext Iff.rfl
def dnSG (kvs : List (NestedKey × D)) (y z : D) (i : Nat) (ρ : Ls) (Q : Ls → Prop) (_0 : Tg Q := .mk) : Prop := ∃ k : NestedKey, y = kD k ∧ (∃ ks, k = .tup ks) ∧ k.depth ≤ 8 ∧ kvs.length < sizeLine ∧ Q (ρ.set i (.ow (.dn (dnPut kvs k z))))
def dnSF (o : Option SV) (y z : D) (i : Nat) (ρ : Ls) (Q : Ls → Prop) (_0 : Tg Q := .mk) : Prop := match o with
  | some (.ow (.dn kvs)) => dnSG kvs y z i ρ Q
  | _ => False
theorem dnSF_e {y z : D} {i : Nat} {kvs : List (NestedKey × D)} : dnSF (some (.ow (.dn kvs))) y z i ρ QS = dnSG kvs y z i ρ QS := propext Iff.rfl
def dnSH (rv x y : RV) (ρ : Ls) (Q : Ls → Prop) : Prop := match rv, x, y with
  | .d z, .al i, .d y => dnSF ρ[i]? y z i ρ Q
  | _, _, _ => False
theorem dnSH_e {z y : D} {k : Nat} : dnSH (.d z) (.al k) (.d y) ρ QS = dnSF ρ[k]? y z k ρ QS := propext Iff.rfl
theorem gStDn_e {rv : RV} : gStDn t u rv ρ QS = t ρ fun x ρ1 => u ρ1 fun y ρ2 => dnSH rv x y ρ2 QS := by
  unfold gStDn dnSH dnSF dnSG
  rfl
def dn1G (x y : D) (ρ : Ls) (Q : RV → Ls → Prop) (_0 : Tg Q := .mk) : Prop := ∃ k : NestedKey, x = kD k ∧ (∃ ks, k = .tup ks) ∧ k.depth ≤ 8 ∧ Q (.ow (.dn [(k, y)])) ρ
theorem dn1F_e {x y : D} : dn1F Q (.d x) (.d y) ρ = dn1G x y ρ Q := propext Iff.rfl
theorem e_Dn1 : dDn1 t u ρ Q = t ρ fun x ρ1 => u ρ1 fun y ρ2 => dn1F Q x y ρ2 := propext Iff.rfl
-- indices
theorem atI_0 {α : Type} {a : α} {l : List α} : atI (a :: l) 0 = some a := by
  unfold atI ixN
  simp
theorem atI_1 {α : Type} {a b : α} {l : List α} : atI (a :: b :: l) 1 = some b := by
  unfold atI ixN
  have h : (1 : Int) < (((a :: b :: l).length : Nat) : Int) := by simp only [List.length_cons]; omega
  rw [if_pos (by decide), if_pos h]
  rfl
theorem atI_2 {α : Type} {a b c : α} {l : List α} : atI (a :: b :: c :: l) 2 = some c := by
  unfold atI ixN
  have h : (2 : Int) < (((a :: b :: c :: l).length : Nat) : Int) := by simp only [List.length_cons]; omega
  rw [if_pos (by decide), if_pos h]
  rfl
theorem ixN_2_0 : ixN 2 0 = some 0 := by decide
theorem ixN_2_1 : ixN 2 1 = some 1 := by decide
end
end DL

set_option Elab.async false
set_option linter.all false
set_option maxRecDepth 100000
namespace DL
open PySem PySem.Spec L2
open PyProof.Rows hiding St
/-! ### data that may be compared -/
def okd : Nat → D → Bool
  | _, .non => true
  | _, .bl _ => true
  | _, .int _ => true
  | _, .str x => (PyData.str x).canLay0
  | n + 1, .tup ds => ds.all (okd n)
  | n + 1, .lst ds => ds.all (okd n)
  | _, _ => false
theorem okd_list {n : Nat} (h : ∀ d, okd n d = true → d.plain = true ∧ d.toP.canLay0 = true ∧ d.toP.depth ≤ n) : ∀ ds : List D, ds.all (okd n) = true → D.plains ds = true ∧ PyData.canLayAll0 (D.toPs ds) = true ∧ PyData.depthAll (D.toPs ds) ≤ n
  | [], _ => ⟨rfl, rfl, Nat.zero_le _⟩
  | d :: ds, q => by
    rw [List.all_cons, Bool.and_eq_true] at q
    obtain ⟨a1, a2, a3⟩ := h d q.1
    obtain ⟨b1, b2, b3⟩ := okd_list h ds q.2
    refine ⟨?_, ?_, ?_⟩
    · simp [D.plains, a1, b1]
    · simp [D.toPs, PyData.canLayAll0, a2, b2]
    · simp only [D.toPs, PyData.depthAll]
      omega
theorem okd_ok : ∀ (n : Nat) (d : D), okd n d = true → d.plain = true ∧ d.toP.canLay0 = true ∧ d.toP.depth ≤ n
  | n, .non, _ => ⟨rfl, rfl, Nat.zero_le _⟩
  | n, .bl _, _ => ⟨rfl, rfl, Nat.zero_le _⟩
  | n, .int _, _ => ⟨rfl, rfl, Nat.zero_le _⟩
  | n, .str x, h => ⟨rfl, (by cases n <;> exact h), Nat.zero_le _⟩
  | 0, .tup ds, h => by simp [okd] at h
  | 0, .lst ds, h => by simp [okd] at h
  | n + 1, .tup ds, h => by
    obtain ⟨b1, b2, b3⟩ := okd_list (okd_ok n) ds h
    refine ⟨by simpa [D.plain] using b1, by simpa [D.toP, PyData.canLay0] using b2, ?_⟩
    simp only [D.toP, PyData.depth]
    omega
  | n + 1, .lst ds, h => by
    obtain ⟨b1, b2, b3⟩ := okd_list (okd_ok n) ds h
    refine ⟨by simpa [D.plain] using b1, by simpa [D.toP, PyData.canLay0] using b2, ?_⟩
    simp only [D.toP, PyData.depth]
    omega
  | n, .ref _, h => by cases n <;> simp [okd] at h
  | n, .ty _, h => by cases n <;> simp [okd] at h
  | n, .scr _, h => by cases n <;> simp [okd] at h
theorem cmp_okd {d : D} (h : okd 60 d = true) : d.cmp = true := by
  obtain ⟨h1, h2, h3⟩ := okd_ok _ _ h
  unfold D.cmp SeqAt.shaped
  rw [h1, h2]
  simp only [Bool.true_and]
  exact decide_eq_true (Nat.le_trans h3 (by decide))
theorem eqv_okd {d : D} (h : okd 60 d = true) : d.eqv d = true := by
  obtain ⟨h1, h2, h3⟩ := okd_ok _ _ h
  exact PySem.SeqAt.eqv_refl _ h2
theorem okd_i {n : Nat} {i : Int} : okd n (.int i) = true := by cases n <;> rfl
theorem okd_b {n : Nat} {i : Bool} : okd n (.bl i) = true := by cases n <;> rfl
theorem okd_n {n : Nat} : okd n .non = true := by cases n <;> rfl
theorem okd_t {n : Nat} {ds : List D} : okd (n + 1) (.tup ds) = ds.all (okd n) := rfl
theorem okd_l {n : Nat} {ds : List D} : okd (n + 1) (.lst ds) = ds.all (okd n) := rfl
theorem okd_ints {n : Nat} {ns : List Int} : (ns.map D.int).all (okd n) = true := by
  rw [List.all_map, List.all_eq_true]
  intro x _
  exact okd_i
theorem cmp_i {i : Int} : D.cmp (.int i) = true := cmp_okd okd_i
theorem eqv_ii {i j : Int} : D.eqv (.int i) (.int j) = decide (i = j) := by
  by_cases h : i = j
  · simp [D.eqv, D.toP, PyData.eqv, h]
  · simp [D.eqv, D.toP, PyData.eqv, h]
theorem eqv_nn : D.eqv .non .non = true := rfl
theorem cast3 : ((3 : Nat) : Int) = 3 := rfl
theorem cast2 : ((2 : Nat) : Int) = 2 := rfl
theorem cast1 : ((1 : Nat) : Int) = 1 := rfl
theorem blsOf_maps {α : Type} (f : α → Bool) : ∀ l : List α, blsOf (l.map fun a => D.bl (f a)) = some (l.map f)
  | [] => rfl
  | a :: l => by simp [blsOf, blsOf_maps f l]
theorem all_yes {α : Type} : ∀ l : List α, (l.map fun _ => true).all id = true
  | [] => rfl
  | a :: l => by simp
theorem iteF_d {p : Prop} [Decidable p] {A B : Prop} (h1 : p → A) (h2 : ¬p → B) : iteF (decide p) A B := by
  by_cases h : p
  · rw [decide_eq_true h, iteF_t]; exact h1 h
  · rw [decide_eq_false h, iteF_f]; exact h2 h
theorem iteF_n {p : Prop} [Decidable p] {A B : Prop} (h1 : ¬p → A) (h2 : p → B) : iteF (!decide p) A B := by
  by_cases h : p
  · rw [decide_eq_true h]; exact h2 h
  · rw [decide_eq_false h]; exact h1 h
end DL

set_option Elab.async false
set_option linter.all false
set_option maxRecDepth 100000
set_option maxHeartbeats 0
namespace DL
open PySem PySem.Spec L2
open PyProof.Rows hiding St
def top (i : Nat) : Stmt := PySem.Challenge.pw_tantalcups_k03_whole_water_of_thirty_fig.main.body.getD i (.Pass ⟨0, 0, 0, 0⟩)
abbrev s_is_int : Stmt := top 13
abbrev s_is_cup : Stmt := top 14
abbrev s_is_tap : Stmt := top 15
abbrev s_all_fillings : Stmt := top 16
abbrev s_is_row : Stmt := top 17
abbrev s_is_filling_of : Stmt := top 18
abbrev s_need_row : Stmt := top 19
abbrev s_need_filling : Stmt := top 20
abbrev s_need_number : Stmt := top 21
abbrev s_tap_water : Stmt := top 22
abbrev s_ticked : Stmt := top 24
abbrev s_trail : Stmt := top 25
abbrev s_sums_of : Stmt := top 26
abbrev s_sums_behind : Stmt := top 27
abbrev s_filling_behind : Stmt := top 28
abbrev s_need_all : Stmt := top 29
abbrev s_behind : Stmt := top 30
abbrev s_poured : Stmt := top 31
abbrev s_lost : Stmt := top 32
abbrev s__law_jar : Stmt := top 34
abbrev s__law_drip : Stmt := top 35
abbrev s__law_any : Stmt := top 36
abbrev s__law_cup : Stmt := top 37
abbrev s__law_gift : Stmt := top 38
abbrev s__law_line : Stmt := top 39
abbrev s__law_load : Stmt := top 40
abbrev s__law_beat : Stmt := top 41
abbrev s__law_loop : Stmt := top 42
abbrev s__law_given : Stmt := top 43
abbrev s__law_sum_of : Stmt := top 44
abbrev s_law : Stmt := top 45
structure Mg (mg : Str → Option Value) : Prop where
  f_ValueError : mg "ValueError" = none
  f_abs : mg "abs" = none
  f_all : mg "all" = none
  f_any : mg "any" = none
  f_bool : mg "bool" = none
  f_int : mg "int" = none
  f_isinstance : mg "isinstance" = none
  f_len : mg "len" = none
  f_list : mg "list" = none
  f_max : mg "max" = none
  f_min : mg "min" = none
  f_range : mg "range" = none
  f_sum : mg "sum" = none
  f_tuple : mg "tuple" = none
  f_zip : mg "zip" = none
  c_MOST_PERIOD : ∃ t, mg "MOST_PERIOD" = some (.int 6 t)
  c_MOST_CUPS : ∃ t, mg "MOST_CUPS" = some (.int 3 t)
  c_MOST_KNEE : ∃ t, mg "MOST_KNEE" = some (.int 60 t)
  c_MOST_RIM : ∃ t, mg "MOST_RIM" = some (.int 90 t)
  c_MOST_TAP : ∃ t, mg "MOST_TAP" = some (.int 20 t)
  c_MOST_FILLINGS : ∃ t, mg "MOST_FILLINGS" = some (.int 4000 t)
  c_MOST_TICKS : ∃ t, mg "MOST_TICKS" = some (.int 1000000000000000000000000000000 t)
end DL

set_option Elab.async false
set_option linter.all false
set_option maxRecDepth 100000
set_option maxHeartbeats 0
namespace DL
open PySem PySem.Spec L2
open PyProof.Rows hiding St
/-! ### rows, fillings -/
abbrev Cup := Int × Int × Int
def cupD (c : Cup) : D := .tup [.int c.1, .int c.2.1, .int c.2.2]
def intsD (t : List Int) : D := .tup (t.map .int)
structure Row where
  p : Int
  cups : List Cup
  taps : List (List Int)
def rowD (r : Row) : D := .tup [.int r.p, .tup (r.cups.map cupD), .tup (r.taps.map intsD)]
def CupOk (c : Cup) : Prop := 1 ≤ c.1 ∧ c.1 ≤ 60 ∧ c.1 ≤ c.2.1 ∧ c.2.1 ≤ 90 ∧ 0 ≤ c.2.2 ∧ c.2.2 ≤ c.1 - 1
def TapOk (p : Int) (t : List Int) : Prop := (t.length : Int) = p ∧ ∀ x ∈ t, 0 ≤ x ∧ x ≤ 20
def knees (a : Int) (cs : List Cup) : Int := cs.foldl (fun a c => a * c.1) a
structure Row.Ok (r : Row) : Prop where
  p1 : 1 ≤ r.p
  p6 : r.p ≤ 6
  n1 : 1 ≤ r.cups.length
  n3 : r.cups.length ≤ 3
  cups : ∀ c ∈ r.cups, CupOk c
  same : r.taps.length = r.cups.length
  taps : ∀ t ∈ r.taps, TapOk r.p t
  knee : knees 1 r.cups ≤ 4000
  some : ∃ t ts, r.taps = t :: ts ∧ ∃ x ∈ t, 0 < x
def FillOk : List Cup → List Int → Prop
  | [], [] => True
  | c :: cs, x :: xs => (0 ≤ x ∧ x ≤ c.1 - 1) ∧ FillOk cs xs
  | _, _ => False
theorem FillOk.length : ∀ {cs : List Cup} {f : List Int}, FillOk cs f → f.length = cs.length
  | [], [], _ => rfl
  | c :: cs, x :: xs, h => by simp [FillOk.length h.2]
  | [], _ :: _, h => h.elim
  | _ :: _, [], h => h.elim
theorem FillOk.zip : ∀ {cs : List Cup} {f : List Int}, FillOk cs f → ∀ q ∈ f.zip cs, 0 ≤ q.1 ∧ q.1 ≤ q.2.1 - 1
  | [], [], _, q, hq => by simp at hq
  | c :: cs, x :: xs, h, q, hq => by
    rw [List.zip_cons_cons] at hq
    rcases List.mem_cons.mp hq with rfl | hq
    · exact h.1
    · exact FillOk.zip h.2 q hq
  | [], _ :: _, h, _, _ => h.elim
  | _ :: _, [], h, _, _ => h.elim
theorem knees_bound : ∀ (cs : List Cup) (a : Int), 0 ≤ a → (∀ c ∈ cs, CupOk c) → 0 ≤ knees a cs ∧ knees a cs ≤ a * 60 ^ cs.length
  | [], a, h, _ => by simp [knees, h]
  | c :: cs, a, h, hc => by
    have h1 := hc c List.mem_cons_self
    have h2 : 0 ≤ a * c.1 := Int.mul_nonneg h (by have := h1.1; omega)
    have h3 := knees_bound cs (a * c.1) h2 fun d hd => hc d (List.mem_cons_of_mem _ hd)
    have e : knees a (c :: cs) = knees (a * c.1) cs := rfl
    rw [e]
    refine ⟨h3.1, Int.le_trans h3.2 ?_⟩
    have h4 : a * c.1 ≤ a * 60 := Int.mul_le_mul_of_nonneg_left h1.2.1 h
    have h5 : (0 : Int) ≤ 60 ^ cs.length := Int.pow_nonneg (by decide)
    have h6 : a * c.1 * 60 ^ cs.length ≤ a * 60 * 60 ^ cs.length := Int.mul_le_mul_of_nonneg_right h4 h5
    rw [List.length_cons, Int.pow_succ]
    have e2 : a * (60 ^ cs.length * 60) = a * 60 * 60 ^ cs.length := by rw [Int.mul_assoc, Int.mul_comm (60 : Int)]
    rw [e2]
    exact h6

def N_is_int : List Str := ["value", "low", "high"]
theorem sc_is_int : FnScope N_is_int ["value", "low", "high"] (defScope s_is_int) := ⟨rfl, rfl, rfl, by decide +kernel, rfl, by decide +kernel, by decide +kernel⟩
def t_is_int : DTS :=
    (dRet (dAndV (dCB (ofD gIs) (dCons (dD (dVar 0)) (dCons (dC (.ty "int")) dNil))) (dAndV (dNotV (dCB (ofD gIs) (dCons (dD (dVar 0)) (dCons (dC (.ty "bool")) dNil)))) (dChain cLe cLe (dD (dVar 1)) (dD (dVar 0)) (dD (dVar 2))))))
def sp_is_int : DFd := fun ds R => ∃ i lo hi : Int, ds = [.int i, .int lo, .int hi] ∧ R (.d (.bl (decide (lo ≤ i ∧ i ≤ hi))))
theorem rd_is_int : ∀ ds R, ds.length = 3 → sp_is_int ds R → t_is_int { nx := fun _ => R (.d .non), rt := finP R } (startD N_is_int ds) := by
  rintro ds R - ⟨i, lo, hi, rfl, h⟩
  simp only [↓e_var, ↓e_C, ↓e_dD, ↓e_d2, ↓e_neg, ↓e_isN, ↓e_B, ↓e_And, ↓e_Or, ↓e_Not, ↓e_AndV, ↓e_OrV, ↓e_NotV, ↓e_IfE, ↓e_Chain, ↓e_Ix, ↓e_Sl, ↓e_No, ↓e_Part, ↓e_nil, ↓e_cons, ↓e_Tup, ↓e_Lst, ↓e_CB, ↓e_ofD, ↓e_jOf, ↓e_Len, ↓e_Ints, ↓e_fMax, ↓e_fMin, ↓e_Tuple, ↓e_List, ↓e_Bls, ↓e_Is, ↓e_seq, ↓e_skip, ↓e_ret, ↓e_drop, ↓e_ifS, ↓e_never, ↓e_asg, ↓e_par2, ↓e_par3, ↓e_App, ↓e_For, ↓e_While, ↓e_Iter, ↓e_Rng1, ↓e_Rng2, ↓e_Zip2, ↓e_Zip3, ↓e_Lc, ↓e_Yes, ↓e_Dn0, ↓e_DnIn, ↓e_DnGet, ↓e_Dn1, iteG_t, iteG_f, iteG_d, iteG_n, iteG_a, iteG_o, iteG_x, iteG_e, iteG_s, iteG_l, iteG_y, iteF_t, iteF_f, varF_d, varF_o, toD_d, toD_l, toD_a, toDF_d, toDF_l, d2F_d, fAdd_i, fAdd_s, fAdd_t, fAdd_l, fSub_i, fMul_i, fMulR_i, fMulR_t, fMulR_l, fDiv_i, fMod_i, fPow_i, negF_i, cLt_i, cLe_i, cGt_i, cGe_i, cEq_e, cNe_e, isNF_n, isNF_t, isNF_i, dBF_b, boF_b, notVF_b, ch2F_d, chF_d, seqOf_t, seqOf_l, seqOf_o, seqOf_s, seqOf_a, seqF_t, seqF_l, seqF_o, kindOf_t, kindOf_l, kindOf_o, kindOf_a, kindF_t, kindF_l, kindF_o, ixF2_s, ixF_s, slF_t, slF_f, partF_i, allD_n, allD_c, tupF_s, lstF_s, ofDF_s, gInt_i, gInt_b, gAbs_i, gMax2_i, gMin2_i, gN_e, jF_s, lenF_s, intsF2_s, intsF_s, fSum_e, gTF_s, gLF_s, blsF_s, blsF2_s, isF_s, isF2_s, tyn_i, tyn_b, tyn_t, tyn_l, tyn_s, tyn_n, k_ii, k_ib, k_tt, gN1_d, gN1_o, gN1_a, gaF_d, gaF_o, gTup_e, gs_n, gs_c, par2G_e, par2F_s, svOf_d, svOf_o, par3G_e, par3F_s, stF2_s, stF_s, stG_e, gStL_e, gOwn_e, owL_a, apG_e, apI_e, iterF_t, iterF_l, rng1F_e, rng2F_e, zip2F_s, zip2G_e, zip3F_s, zip3G_e, seqD_t, seqD_l, finP_d, finP_o, finP_a, finF_d, finF_o, finJF_d, finJF_o, finJ_d, finJ_o, startD_e, startJ_e, dnI_e, dnIH_e, dnGF_e, dnGetF_e, dnSF_e, dnSH_e, gStDn_e, dn1F_e, atI_0, atI_1, atI_2, ixN_2_0, ixN_2_1, appK_eq, cmp_i, eqv_ii, eqv_nn, cast1, cast2, cast3, List.map_cons, List.map_nil, List.append_nil, List.nil_append, List.cons_append, List.replicate_succ, List.replicate_zero, List.length_cons, List.length_nil, List.getElem?_cons_zero, List.getElem?_cons_succ, List.set_cons_zero, List.set_cons_succ, Option.map_some, Bool.not_true, Bool.not_false, Nat.reduceAdd, Nat.reduceSub, Nat.zero_add, Nat.add_zero, if_true, if_false, decide_true, decide_false, and_true, true_and, Nat.reduceLeDiff, Nat.sub_zero, Nat.sub_self, t_is_int, N_is_int]
  refine iteF_d (fun h1 => ?_) (fun h1 => ?_)
  · rwa [show (decide (lo ≤ i ∧ i ≤ hi)) = decide (i ≤ hi) by simp [h1]] at h
  · rwa [show (decide (lo ≤ i ∧ i ≤ hi)) = false by simp [h1]] at h
/-- a call of is_int that says yes -/
theorem yes_int {i lo hi : Int} {R : RV → Prop} (h1 : lo ≤ i) (h2 : i ≤ hi) (h : R (.d (.bl true))) : callG sp_is_int 3 [.int i, .int lo, .int hi] R := ⟨rfl, i, lo, hi, rfl, by rw [decide_eq_true (show lo ≤ i ∧ i ≤ hi from ⟨h1, h2⟩)]; exact h⟩
def Dx_is_int (P : Program) (w : World) (K : PySem.W.Frag) (mg : Str → Option Value) (base : Heap) : Prop := ∃ f fd, Def P w K mg base 1 "is_int" f fd ["value", "low", "high"] (spP (bas P w K) 3 sp_is_int)
theorem ok_is_int {P : Program} {w : World} {K : PySem.W.Frag} {mg : Str → Option Value} {base : Heap} (M : Mg mg) {f : Addr} {fd : FuncData} (F : FunD K "is_int" "is_int" (defArgs s_is_int) (defBody s_is_int) (defScope s_is_int) [] [] f fd) : FnOk P w K mg base CX0 1 f fd ["value", "low", "high"] (spP (bas P w K) 3 sp_is_int) := by
  exact okP (tb := t_is_int) F sc_is_int (fun cdv A outer s H E hr =>
    (dss_one (ds_ret (de_and (de_callB (call_isi) (snd_is.toC) (by rfl) M.f_isinstance rfl (da_cons (de_data (de_var (pv 0))) (da_cons (de_ty (by rfl) M.f_int rfl) da_nil))) (de_and (de_not (de_callB (call_isi) (snd_is.toC) (by rfl) M.f_isinstance rfl (da_cons (de_data (de_var (pv 0))) (da_cons (de_ty (by rfl) M.f_bool rfl) da_nil)))) (de_one (de_chain op_le op_le snd_le snd_le (de_var (pv 1)) (de_var (pv 0)) (de_var (pv 2))))))))) rd_is_int
def N_is_cup : List Str := ["value"]
theorem sc_is_cup : FnScope N_is_cup ["value"] (defScope s_is_cup) := ⟨rfl, rfl, rfl, by decide +kernel, rfl, by decide +kernel, by decide +kernel⟩
def t_is_cup : DTS :=
    (dSeq (dIfS (dOr (dNot (dB (dCB (ofD gIs) (dCons (dD (dVar 0)) (dCons (dC (.ty "tuple")) dNil))))) (dOr (dB (d2 cNe (dD (dCB gLen (dCons (dVar 0) dNil))) (dD (dC (.int 3))))) (dNot (dB (dCB (ofD (gN 3 sp_is_int)) (dCons (dD (dIx (dVar 0) (dC (.int 0)))) (dCons (dC (.int 1)) (dCons (dC (.int 60)) dNil)))))))) (dRet (dC (.bl false))) dSkip)
      (dRet (dAndV (dCB (ofD (gN 3 sp_is_int)) (dCons (dD (dIx (dVar 0) (dC (.int 1)))) (dCons (dD (dIx (dVar 0) (dC (.int 0)))) (dCons (dC (.int 90)) dNil)))) (dCB (ofD (gN 3 sp_is_int)) (dCons (dD (dIx (dVar 0) (dC (.int 2)))) (dCons (dC (.int 0)) (dCons (dD (d2 fSub (dD (dIx (dVar 0) (dC (.int 0)))) (dD (dC (.int 1))))) dNil)))))))
def sp_is_cup : DFd := fun ds R => ∃ c, ds = [cupD c] ∧ CupOk c ∧ R (.d (.bl true))
theorem rd_is_cup : ∀ ds R, ds.length = 1 → sp_is_cup ds R → t_is_cup { nx := fun _ => R (.d .non), rt := finP R } (startD N_is_cup ds) := by
  rintro ds R - ⟨c, rfl, ok, h⟩
  obtain ⟨o1, o2, o3, o4, o5, o6⟩ := ok
  simp only [↓e_var, ↓e_C, ↓e_dD, ↓e_d2, ↓e_neg, ↓e_isN, ↓e_B, ↓e_And, ↓e_Or, ↓e_Not, ↓e_AndV, ↓e_OrV, ↓e_NotV, ↓e_IfE, ↓e_Chain, ↓e_Ix, ↓e_Sl, ↓e_No, ↓e_Part, ↓e_nil, ↓e_cons, ↓e_Tup, ↓e_Lst, ↓e_CB, ↓e_ofD, ↓e_jOf, ↓e_Len, ↓e_Ints, ↓e_fMax, ↓e_fMin, ↓e_Tuple, ↓e_List, ↓e_Bls, ↓e_Is, ↓e_seq, ↓e_skip, ↓e_ret, ↓e_drop, ↓e_ifS, ↓e_never, ↓e_asg, ↓e_par2, ↓e_par3, ↓e_App, ↓e_For, ↓e_While, ↓e_Iter, ↓e_Rng1, ↓e_Rng2, ↓e_Zip2, ↓e_Zip3, ↓e_Lc, ↓e_Yes, ↓e_Dn0, ↓e_DnIn, ↓e_DnGet, ↓e_Dn1, iteG_t, iteG_f, iteG_d, iteG_n, iteG_a, iteG_o, iteG_x, iteG_e, iteG_s, iteG_l, iteG_y, iteF_t, iteF_f, varF_d, varF_o, toD_d, toD_l, toD_a, toDF_d, toDF_l, d2F_d, fAdd_i, fAdd_s, fAdd_t, fAdd_l, fSub_i, fMul_i, fMulR_i, fMulR_t, fMulR_l, fDiv_i, fMod_i, fPow_i, negF_i, cLt_i, cLe_i, cGt_i, cGe_i, cEq_e, cNe_e, isNF_n, isNF_t, isNF_i, dBF_b, boF_b, notVF_b, ch2F_d, chF_d, seqOf_t, seqOf_l, seqOf_o, seqOf_s, seqOf_a, seqF_t, seqF_l, seqF_o, kindOf_t, kindOf_l, kindOf_o, kindOf_a, kindF_t, kindF_l, kindF_o, ixF2_s, ixF_s, slF_t, slF_f, partF_i, allD_n, allD_c, tupF_s, lstF_s, ofDF_s, gInt_i, gInt_b, gAbs_i, gMax2_i, gMin2_i, gN_e, jF_s, lenF_s, intsF2_s, intsF_s, fSum_e, gTF_s, gLF_s, blsF_s, blsF2_s, isF_s, isF2_s, tyn_i, tyn_b, tyn_t, tyn_l, tyn_s, tyn_n, k_ii, k_ib, k_tt, gN1_d, gN1_o, gN1_a, gaF_d, gaF_o, gTup_e, gs_n, gs_c, par2G_e, par2F_s, svOf_d, svOf_o, par3G_e, par3F_s, stF2_s, stF_s, stG_e, gStL_e, gOwn_e, owL_a, apG_e, apI_e, iterF_t, iterF_l, rng1F_e, rng2F_e, zip2F_s, zip2G_e, zip3F_s, zip3G_e, seqD_t, seqD_l, finP_d, finP_o, finP_a, finF_d, finF_o, finJF_d, finJF_o, finJ_d, finJ_o, startD_e, startJ_e, dnI_e, dnIH_e, dnGF_e, dnGetF_e, dnSF_e, dnSH_e, gStDn_e, dn1F_e, atI_0, atI_1, atI_2, ixN_2_0, ixN_2_1, appK_eq, cmp_i, eqv_ii, eqv_nn, cast1, cast2, cast3, List.map_cons, List.map_nil, List.append_nil, List.nil_append, List.cons_append, List.replicate_succ, List.replicate_zero, List.length_cons, List.length_nil, List.getElem?_cons_zero, List.getElem?_cons_succ, List.set_cons_zero, List.set_cons_succ, Option.map_some, Bool.not_true, Bool.not_false, Nat.reduceAdd, Nat.reduceSub, Nat.zero_add, Nat.add_zero, if_true, if_false, decide_true, decide_false, and_true, true_and, Nat.reduceLeDiff, Nat.sub_zero, Nat.sub_self, t_is_cup, N_is_cup, cupD]
  refine yes_int o1 o2 ?_
  simp only [↓e_var, ↓e_C, ↓e_dD, ↓e_d2, ↓e_neg, ↓e_isN, ↓e_B, ↓e_And, ↓e_Or, ↓e_Not, ↓e_AndV, ↓e_OrV, ↓e_NotV, ↓e_IfE, ↓e_Chain, ↓e_Ix, ↓e_Sl, ↓e_No, ↓e_Part, ↓e_nil, ↓e_cons, ↓e_Tup, ↓e_Lst, ↓e_CB, ↓e_ofD, ↓e_jOf, ↓e_Len, ↓e_Ints, ↓e_fMax, ↓e_fMin, ↓e_Tuple, ↓e_List, ↓e_Bls, ↓e_Is, ↓e_seq, ↓e_skip, ↓e_ret, ↓e_drop, ↓e_ifS, ↓e_never, ↓e_asg, ↓e_par2, ↓e_par3, ↓e_App, ↓e_For, ↓e_While, ↓e_Iter, ↓e_Rng1, ↓e_Rng2, ↓e_Zip2, ↓e_Zip3, ↓e_Lc, ↓e_Yes, ↓e_Dn0, ↓e_DnIn, ↓e_DnGet, ↓e_Dn1, iteG_t, iteG_f, iteG_d, iteG_n, iteG_a, iteG_o, iteG_x, iteG_e, iteG_s, iteG_l, iteG_y, iteF_t, iteF_f, varF_d, varF_o, toD_d, toD_l, toD_a, toDF_d, toDF_l, d2F_d, fAdd_i, fAdd_s, fAdd_t, fAdd_l, fSub_i, fMul_i, fMulR_i, fMulR_t, fMulR_l, fDiv_i, fMod_i, fPow_i, negF_i, cLt_i, cLe_i, cGt_i, cGe_i, cEq_e, cNe_e, isNF_n, isNF_t, isNF_i, dBF_b, boF_b, notVF_b, ch2F_d, chF_d, seqOf_t, seqOf_l, seqOf_o, seqOf_s, seqOf_a, seqF_t, seqF_l, seqF_o, kindOf_t, kindOf_l, kindOf_o, kindOf_a, kindF_t, kindF_l, kindF_o, ixF2_s, ixF_s, slF_t, slF_f, partF_i, allD_n, allD_c, tupF_s, lstF_s, ofDF_s, gInt_i, gInt_b, gAbs_i, gMax2_i, gMin2_i, gN_e, jF_s, lenF_s, intsF2_s, intsF_s, fSum_e, gTF_s, gLF_s, blsF_s, blsF2_s, isF_s, isF2_s, tyn_i, tyn_b, tyn_t, tyn_l, tyn_s, tyn_n, k_ii, k_ib, k_tt, gN1_d, gN1_o, gN1_a, gaF_d, gaF_o, gTup_e, gs_n, gs_c, par2G_e, par2F_s, svOf_d, svOf_o, par3G_e, par3F_s, stF2_s, stF_s, stG_e, gStL_e, gOwn_e, owL_a, apG_e, apI_e, iterF_t, iterF_l, rng1F_e, rng2F_e, zip2F_s, zip2G_e, zip3F_s, zip3G_e, seqD_t, seqD_l, finP_d, finP_o, finP_a, finF_d, finF_o, finJF_d, finJF_o, finJ_d, finJ_o, startD_e, startJ_e, dnI_e, dnIH_e, dnGF_e, dnGetF_e, dnSF_e, dnSH_e, gStDn_e, dn1F_e, atI_0, atI_1, atI_2, ixN_2_0, ixN_2_1, appK_eq, cmp_i, eqv_ii, eqv_nn, cast1, cast2, cast3, List.map_cons, List.map_nil, List.append_nil, List.nil_append, List.cons_append, List.replicate_succ, List.replicate_zero, List.length_cons, List.length_nil, List.getElem?_cons_zero, List.getElem?_cons_succ, List.set_cons_zero, List.set_cons_succ, Option.map_some, Bool.not_true, Bool.not_false, Nat.reduceAdd, Nat.reduceSub, Nat.zero_add, Nat.add_zero, if_true, if_false, decide_true, decide_false, and_true, true_and, Nat.reduceLeDiff, Nat.sub_zero, Nat.sub_self]
  refine yes_int o3 o4 ?_
  simp only [↓e_var, ↓e_C, ↓e_dD, ↓e_d2, ↓e_neg, ↓e_isN, ↓e_B, ↓e_And, ↓e_Or, ↓e_Not, ↓e_AndV, ↓e_OrV, ↓e_NotV, ↓e_IfE, ↓e_Chain, ↓e_Ix, ↓e_Sl, ↓e_No, ↓e_Part, ↓e_nil, ↓e_cons, ↓e_Tup, ↓e_Lst, ↓e_CB, ↓e_ofD, ↓e_jOf, ↓e_Len, ↓e_Ints, ↓e_fMax, ↓e_fMin, ↓e_Tuple, ↓e_List, ↓e_Bls, ↓e_Is, ↓e_seq, ↓e_skip, ↓e_ret, ↓e_drop, ↓e_ifS, ↓e_never, ↓e_asg, ↓e_par2, ↓e_par3, ↓e_App, ↓e_For, ↓e_While, ↓e_Iter, ↓e_Rng1, ↓e_Rng2, ↓e_Zip2, ↓e_Zip3, ↓e_Lc, ↓e_Yes, ↓e_Dn0, ↓e_DnIn, ↓e_DnGet, ↓e_Dn1, iteG_t, iteG_f, iteG_d, iteG_n, iteG_a, iteG_o, iteG_x, iteG_e, iteG_s, iteG_l, iteG_y, iteF_t, iteF_f, varF_d, varF_o, toD_d, toD_l, toD_a, toDF_d, toDF_l, d2F_d, fAdd_i, fAdd_s, fAdd_t, fAdd_l, fSub_i, fMul_i, fMulR_i, fMulR_t, fMulR_l, fDiv_i, fMod_i, fPow_i, negF_i, cLt_i, cLe_i, cGt_i, cGe_i, cEq_e, cNe_e, isNF_n, isNF_t, isNF_i, dBF_b, boF_b, notVF_b, ch2F_d, chF_d, seqOf_t, seqOf_l, seqOf_o, seqOf_s, seqOf_a, seqF_t, seqF_l, seqF_o, kindOf_t, kindOf_l, kindOf_o, kindOf_a, kindF_t, kindF_l, kindF_o, ixF2_s, ixF_s, slF_t, slF_f, partF_i, allD_n, allD_c, tupF_s, lstF_s, ofDF_s, gInt_i, gInt_b, gAbs_i, gMax2_i, gMin2_i, gN_e, jF_s, lenF_s, intsF2_s, intsF_s, fSum_e, gTF_s, gLF_s, blsF_s, blsF2_s, isF_s, isF2_s, tyn_i, tyn_b, tyn_t, tyn_l, tyn_s, tyn_n, k_ii, k_ib, k_tt, gN1_d, gN1_o, gN1_a, gaF_d, gaF_o, gTup_e, gs_n, gs_c, par2G_e, par2F_s, svOf_d, svOf_o, par3G_e, par3F_s, stF2_s, stF_s, stG_e, gStL_e, gOwn_e, owL_a, apG_e, apI_e, iterF_t, iterF_l, rng1F_e, rng2F_e, zip2F_s, zip2G_e, zip3F_s, zip3G_e, seqD_t, seqD_l, finP_d, finP_o, finP_a, finF_d, finF_o, finJF_d, finJF_o, finJ_d, finJ_o, startD_e, startJ_e, dnI_e, dnIH_e, dnGF_e, dnGetF_e, dnSF_e, dnSH_e, gStDn_e, dn1F_e, atI_0, atI_1, atI_2, ixN_2_0, ixN_2_1, appK_eq, cmp_i, eqv_ii, eqv_nn, cast1, cast2, cast3, List.map_cons, List.map_nil, List.append_nil, List.nil_append, List.cons_append, List.replicate_succ, List.replicate_zero, List.length_cons, List.length_nil, List.getElem?_cons_zero, List.getElem?_cons_succ, List.set_cons_zero, List.set_cons_succ, Option.map_some, Bool.not_true, Bool.not_false, Nat.reduceAdd, Nat.reduceSub, Nat.zero_add, Nat.add_zero, if_true, if_false, decide_true, decide_false, and_true, true_and, Nat.reduceLeDiff, Nat.sub_zero, Nat.sub_self]
  exact yes_int o5 o6 h
def Dx_is_cup (P : Program) (w : World) (K : PySem.W.Frag) (mg : Str → Option Value) (base : Heap) : Prop := ∃ f fd, Def P w K mg base 2 "is_cup" f fd ["value"] (spP (bas P w K) 1 sp_is_cup)
theorem ok_is_cup {P : Program} {w : World} {K : PySem.W.Frag} {mg : Str → Option Value} {base : Heap} (M : Mg mg) (D_is_int : Dx_is_int P w K mg base) {f : Addr} {fd : FuncData} (F : FunD K "is_cup" "is_cup" (defArgs s_is_cup) (defBody s_is_cup) (defScope s_is_cup) [] [] f fd) : FnOk P w K mg base CX0 2 f fd ["value"] (spP (bas P w K) 1 sp_is_cup) := by
  obtain ⟨a_is_int, fd_is_int, D_is_int⟩ := D_is_int
  exact okP (tb := t_is_cup) F sc_is_cup (fun cdv A outer s H E hr =>
    (dss_cons (ds_if ((dw_or (dt_not (dt_val (de_callB (call_isi) (snd_is.toC) (by rfl) M.f_isinstance rfl (da_cons (de_data (de_var (pv 0))) (da_cons (de_ty (by rfl) M.f_tuple rfl) da_nil))))) (dw_or (dt_ne hr.units (de_callB (call_len_seq) (snd_len) (by rfl) M.f_len rfl (da_cons (de_var (pv 0)) da_nil)) de_int) (dw_or1 (dt_not (dt_val (de_call D_is_int.own (hr.mono (by decide)) (by rfl) (da_cons (de_data (de_ix (de_var (pv 0)) de_int)) (da_cons de_int (da_cons (de_gint (by rfl) M.c_MOST_KNEE) da_nil)))))))))).pt (dss_one (ds_ret de_bl)) dss_nil)
      (dss_one (ds_ret (de_and (de_call D_is_int.own (hr.mono (by decide)) (by rfl) (da_cons (de_data (de_ix (de_var (pv 0)) de_int)) (da_cons (de_data (de_ix (de_var (pv 0)) de_int)) (da_cons (de_gint (by rfl) M.c_MOST_RIM) da_nil)))) (de_one (de_call D_is_int.own (hr.mono (by decide)) (by rfl) (da_cons (de_data (de_ix (de_var (pv 0)) de_int)) (da_cons de_int (da_cons (de_data (de_sub (de_ix (de_var (pv 0)) de_int) de_int)) da_nil)))))))))) rd_is_cup
def N_is_tap : List Str := ["period", "value", "amount"]
theorem sc_is_tap : FnScope N_is_tap ["period", "value"] (defScope s_is_tap) := ⟨rfl, rfl, rfl, by decide +kernel, rfl, by decide +kernel, by decide +kernel⟩
def t_is_tap : DTS :=
    (dSeq (dIfS (dOr (dNot (dB (dCB (ofD gIs) (dCons (dD (dVar 1)) (dCons (dC (.ty "tuple")) dNil))))) (dB (d2 cNe (dD (dCB gLen (dCons (dVar 1) dNil))) (dD (dVar 0))))) (dRet (dC (.bl false))) dSkip)
      (dRet (dCB (gBls fun bs => .bl (bs.all id)) (dCons (dLc (dIter (dD (dVar 1))) (gN1 2) dYes (dD (dCB (ofD (gN 3 sp_is_int)) (dCons (dD (dVar 2)) (dCons (dC (.int 0)) (dCons (dC (.int 20)) dNil))))) [2]) dNil))))
def sp_is_tap : DFd := fun ds R => ∃ p t, ds = [.int p, intsD t] ∧ TapOk p t ∧ R (.d (.bl true))
theorem rd_is_tap : ∀ ds R, ds.length = 2 → sp_is_tap ds R → t_is_tap { nx := fun _ => R (.d .non), rt := finP R } (startD N_is_tap ds) := by
  rintro ds R - ⟨p, t, rfl, ok, h⟩
  simp only [↓e_var, ↓e_C, ↓e_dD, ↓e_d2, ↓e_neg, ↓e_isN, ↓e_B, ↓e_And, ↓e_Or, ↓e_Not, ↓e_AndV, ↓e_OrV, ↓e_NotV, ↓e_IfE, ↓e_Chain, ↓e_Ix, ↓e_Sl, ↓e_No, ↓e_Part, ↓e_nil, ↓e_cons, ↓e_Tup, ↓e_Lst, ↓e_CB, ↓e_ofD, ↓e_jOf, ↓e_Len, ↓e_Ints, ↓e_fMax, ↓e_fMin, ↓e_Tuple, ↓e_List, ↓e_Bls, ↓e_Is, ↓e_seq, ↓e_skip, ↓e_ret, ↓e_drop, ↓e_ifS, ↓e_never, ↓e_asg, ↓e_par2, ↓e_par3, ↓e_App, ↓e_For, ↓e_While, ↓e_Iter, ↓e_Rng1, ↓e_Rng2, ↓e_Zip2, ↓e_Zip3, ↓e_Lc, ↓e_Yes, ↓e_Dn0, ↓e_DnIn, ↓e_DnGet, ↓e_Dn1, iteG_t, iteG_f, iteG_d, iteG_n, iteG_a, iteG_o, iteG_x, iteG_e, iteG_s, iteG_l, iteG_y, iteF_t, iteF_f, varF_d, varF_o, toD_d, toD_l, toD_a, toDF_d, toDF_l, d2F_d, fAdd_i, fAdd_s, fAdd_t, fAdd_l, fSub_i, fMul_i, fMulR_i, fMulR_t, fMulR_l, fDiv_i, fMod_i, fPow_i, negF_i, cLt_i, cLe_i, cGt_i, cGe_i, cEq_e, cNe_e, isNF_n, isNF_t, isNF_i, dBF_b, boF_b, notVF_b, ch2F_d, chF_d, seqOf_t, seqOf_l, seqOf_o, seqOf_s, seqOf_a, seqF_t, seqF_l, seqF_o, kindOf_t, kindOf_l, kindOf_o, kindOf_a, kindF_t, kindF_l, kindF_o, ixF2_s, ixF_s, slF_t, slF_f, partF_i, allD_n, allD_c, tupF_s, lstF_s, ofDF_s, gInt_i, gInt_b, gAbs_i, gMax2_i, gMin2_i, gN_e, jF_s, lenF_s, intsF2_s, intsF_s, fSum_e, gTF_s, gLF_s, blsF_s, blsF2_s, isF_s, isF2_s, tyn_i, tyn_b, tyn_t, tyn_l, tyn_s, tyn_n, k_ii, k_ib, k_tt, gN1_d, gN1_o, gN1_a, gaF_d, gaF_o, gTup_e, gs_n, gs_c, par2G_e, par2F_s, svOf_d, svOf_o, par3G_e, par3F_s, stF2_s, stF_s, stG_e, gStL_e, gOwn_e, owL_a, apG_e, apI_e, iterF_t, iterF_l, rng1F_e, rng2F_e, zip2F_s, zip2G_e, zip3F_s, zip3G_e, seqD_t, seqD_l, finP_d, finP_o, finP_a, finF_d, finF_o, finJF_d, finJF_o, finJ_d, finJ_o, startD_e, startJ_e, dnI_e, dnIH_e, dnGF_e, dnGetF_e, dnSF_e, dnSH_e, gStDn_e, dn1F_e, atI_0, atI_1, atI_2, ixN_2_0, ixN_2_1, appK_eq, cmp_i, eqv_ii, eqv_nn, cast1, cast2, cast3, List.map_cons, List.map_nil, List.append_nil, List.nil_append, List.cons_append, List.replicate_succ, List.replicate_zero, List.length_cons, List.length_nil, List.getElem?_cons_zero, List.getElem?_cons_succ, List.set_cons_zero, List.set_cons_succ, Option.map_some, Bool.not_true, Bool.not_false, Nat.reduceAdd, Nat.reduceSub, Nat.zero_add, Nat.add_zero, if_true, if_false, decide_true, decide_false, and_true, true_and, Nat.reduceLeDiff, Nat.sub_zero, Nat.sub_self, t_is_tap, N_is_tap, intsD]
  refine iteF_n (fun q => ?_) (fun q => ?_)
  · exact absurd (by rw [List.length_map]; exact ok.1) q
  · refine ⟨fun i hi => ?_, ?_⟩
    · simp only [List.mem_singleton] at hi
      subst hi
      rfl
    · refine lcL_maps D.int (fun _ => .bl true) t [] (fun a ha K hK => ?_) ?_
      · simp only [↓e_var, ↓e_C, ↓e_dD, ↓e_d2, ↓e_neg, ↓e_isN, ↓e_B, ↓e_And, ↓e_Or, ↓e_Not, ↓e_AndV, ↓e_OrV, ↓e_NotV, ↓e_IfE, ↓e_Chain, ↓e_Ix, ↓e_Sl, ↓e_No, ↓e_Part, ↓e_nil, ↓e_cons, ↓e_Tup, ↓e_Lst, ↓e_CB, ↓e_ofD, ↓e_jOf, ↓e_Len, ↓e_Ints, ↓e_fMax, ↓e_fMin, ↓e_Tuple, ↓e_List, ↓e_Bls, ↓e_Is, ↓e_seq, ↓e_skip, ↓e_ret, ↓e_drop, ↓e_ifS, ↓e_never, ↓e_asg, ↓e_par2, ↓e_par3, ↓e_App, ↓e_For, ↓e_While, ↓e_Iter, ↓e_Rng1, ↓e_Rng2, ↓e_Zip2, ↓e_Zip3, ↓e_Lc, ↓e_Yes, ↓e_Dn0, ↓e_DnIn, ↓e_DnGet, ↓e_Dn1, iteG_t, iteG_f, iteG_d, iteG_n, iteG_a, iteG_o, iteG_x, iteG_e, iteG_s, iteG_l, iteG_y, iteF_t, iteF_f, varF_d, varF_o, toD_d, toD_l, toD_a, toDF_d, toDF_l, d2F_d, fAdd_i, fAdd_s, fAdd_t, fAdd_l, fSub_i, fMul_i, fMulR_i, fMulR_t, fMulR_l, fDiv_i, fMod_i, fPow_i, negF_i, cLt_i, cLe_i, cGt_i, cGe_i, cEq_e, cNe_e, isNF_n, isNF_t, isNF_i, dBF_b, boF_b, notVF_b, ch2F_d, chF_d, seqOf_t, seqOf_l, seqOf_o, seqOf_s, seqOf_a, seqF_t, seqF_l, seqF_o, kindOf_t, kindOf_l, kindOf_o, kindOf_a, kindF_t, kindF_l, kindF_o, ixF2_s, ixF_s, slF_t, slF_f, partF_i, allD_n, allD_c, tupF_s, lstF_s, ofDF_s, gInt_i, gInt_b, gAbs_i, gMax2_i, gMin2_i, gN_e, jF_s, lenF_s, intsF2_s, intsF_s, fSum_e, gTF_s, gLF_s, blsF_s, blsF2_s, isF_s, isF2_s, tyn_i, tyn_b, tyn_t, tyn_l, tyn_s, tyn_n, k_ii, k_ib, k_tt, gN1_d, gN1_o, gN1_a, gaF_d, gaF_o, gTup_e, gs_n, gs_c, par2G_e, par2F_s, svOf_d, svOf_o, par3G_e, par3F_s, stF2_s, stF_s, stG_e, gStL_e, gOwn_e, owL_a, apG_e, apI_e, iterF_t, iterF_l, rng1F_e, rng2F_e, zip2F_s, zip2G_e, zip3F_s, zip3G_e, seqD_t, seqD_l, finP_d, finP_o, finP_a, finF_d, finF_o, finJF_d, finJF_o, finJ_d, finJ_o, startD_e, startJ_e, dnI_e, dnIH_e, dnGF_e, dnGetF_e, dnSF_e, dnSH_e, gStDn_e, dn1F_e, atI_0, atI_1, atI_2, ixN_2_0, ixN_2_1, appK_eq, cmp_i, eqv_ii, eqv_nn, cast1, cast2, cast3, List.map_cons, List.map_nil, List.append_nil, List.nil_append, List.cons_append, List.replicate_succ, List.replicate_zero, List.length_cons, List.length_nil, List.getElem?_cons_zero, List.getElem?_cons_succ, List.set_cons_zero, List.set_cons_succ, Option.map_some, Bool.not_true, Bool.not_false, Nat.reduceAdd, Nat.reduceSub, Nat.zero_add, Nat.add_zero, if_true, if_false, decide_true, decide_false, and_true, true_and, Nat.reduceLeDiff, Nat.sub_zero, Nat.sub_self]
        refine yes_int (ok.2 a ha).1 (ok.2 a ha).2 ?_
        simp only [↓e_var, ↓e_C, ↓e_dD, ↓e_d2, ↓e_neg, ↓e_isN, ↓e_B, ↓e_And, ↓e_Or, ↓e_Not, ↓e_AndV, ↓e_OrV, ↓e_NotV, ↓e_IfE, ↓e_Chain, ↓e_Ix, ↓e_Sl, ↓e_No, ↓e_Part, ↓e_nil, ↓e_cons, ↓e_Tup, ↓e_Lst, ↓e_CB, ↓e_ofD, ↓e_jOf, ↓e_Len, ↓e_Ints, ↓e_fMax, ↓e_fMin, ↓e_Tuple, ↓e_List, ↓e_Bls, ↓e_Is, ↓e_seq, ↓e_skip, ↓e_ret, ↓e_drop, ↓e_ifS, ↓e_never, ↓e_asg, ↓e_par2, ↓e_par3, ↓e_App, ↓e_For, ↓e_While, ↓e_Iter, ↓e_Rng1, ↓e_Rng2, ↓e_Zip2, ↓e_Zip3, ↓e_Lc, ↓e_Yes, ↓e_Dn0, ↓e_DnIn, ↓e_DnGet, ↓e_Dn1, iteG_t, iteG_f, iteG_d, iteG_n, iteG_a, iteG_o, iteG_x, iteG_e, iteG_s, iteG_l, iteG_y, iteF_t, iteF_f, varF_d, varF_o, toD_d, toD_l, toD_a, toDF_d, toDF_l, d2F_d, fAdd_i, fAdd_s, fAdd_t, fAdd_l, fSub_i, fMul_i, fMulR_i, fMulR_t, fMulR_l, fDiv_i, fMod_i, fPow_i, negF_i, cLt_i, cLe_i, cGt_i, cGe_i, cEq_e, cNe_e, isNF_n, isNF_t, isNF_i, dBF_b, boF_b, notVF_b, ch2F_d, chF_d, seqOf_t, seqOf_l, seqOf_o, seqOf_s, seqOf_a, seqF_t, seqF_l, seqF_o, kindOf_t, kindOf_l, kindOf_o, kindOf_a, kindF_t, kindF_l, kindF_o, ixF2_s, ixF_s, slF_t, slF_f, partF_i, allD_n, allD_c, tupF_s, lstF_s, ofDF_s, gInt_i, gInt_b, gAbs_i, gMax2_i, gMin2_i, gN_e, jF_s, lenF_s, intsF2_s, intsF_s, fSum_e, gTF_s, gLF_s, blsF_s, blsF2_s, isF_s, isF2_s, tyn_i, tyn_b, tyn_t, tyn_l, tyn_s, tyn_n, k_ii, k_ib, k_tt, gN1_d, gN1_o, gN1_a, gaF_d, gaF_o, gTup_e, gs_n, gs_c, par2G_e, par2F_s, svOf_d, svOf_o, par3G_e, par3F_s, stF2_s, stF_s, stG_e, gStL_e, gOwn_e, owL_a, apG_e, apI_e, iterF_t, iterF_l, rng1F_e, rng2F_e, zip2F_s, zip2G_e, zip3F_s, zip3G_e, seqD_t, seqD_l, finP_d, finP_o, finP_a, finF_d, finF_o, finJF_d, finJF_o, finJ_d, finJ_o, startD_e, startJ_e, dnI_e, dnIH_e, dnGF_e, dnGetF_e, dnSF_e, dnSH_e, gStDn_e, dn1F_e, atI_0, atI_1, atI_2, ixN_2_0, ixN_2_1, appK_eq, cmp_i, eqv_ii, eqv_nn, cast1, cast2, cast3, List.map_cons, List.map_nil, List.append_nil, List.nil_append, List.cons_append, List.replicate_succ, List.replicate_zero, List.length_cons, List.length_nil, List.getElem?_cons_zero, List.getElem?_cons_succ, List.set_cons_zero, List.set_cons_succ, Option.map_some, Bool.not_true, Bool.not_false, Nat.reduceAdd, Nat.reduceSub, Nat.zero_add, Nat.add_zero, if_true, if_false, decide_true, decide_false, and_true, true_and, Nat.reduceLeDiff, Nat.sub_zero, Nat.sub_self]
        exact hK _ rfl
      · simp only [↓e_var, ↓e_C, ↓e_dD, ↓e_d2, ↓e_neg, ↓e_isN, ↓e_B, ↓e_And, ↓e_Or, ↓e_Not, ↓e_AndV, ↓e_OrV, ↓e_NotV, ↓e_IfE, ↓e_Chain, ↓e_Ix, ↓e_Sl, ↓e_No, ↓e_Part, ↓e_nil, ↓e_cons, ↓e_Tup, ↓e_Lst, ↓e_CB, ↓e_ofD, ↓e_jOf, ↓e_Len, ↓e_Ints, ↓e_fMax, ↓e_fMin, ↓e_Tuple, ↓e_List, ↓e_Bls, ↓e_Is, ↓e_seq, ↓e_skip, ↓e_ret, ↓e_drop, ↓e_ifS, ↓e_never, ↓e_asg, ↓e_par2, ↓e_par3, ↓e_App, ↓e_For, ↓e_While, ↓e_Iter, ↓e_Rng1, ↓e_Rng2, ↓e_Zip2, ↓e_Zip3, ↓e_Lc, ↓e_Yes, ↓e_Dn0, ↓e_DnIn, ↓e_DnGet, ↓e_Dn1, iteG_t, iteG_f, iteG_d, iteG_n, iteG_a, iteG_o, iteG_x, iteG_e, iteG_s, iteG_l, iteG_y, iteF_t, iteF_f, varF_d, varF_o, toD_d, toD_l, toD_a, toDF_d, toDF_l, d2F_d, fAdd_i, fAdd_s, fAdd_t, fAdd_l, fSub_i, fMul_i, fMulR_i, fMulR_t, fMulR_l, fDiv_i, fMod_i, fPow_i, negF_i, cLt_i, cLe_i, cGt_i, cGe_i, cEq_e, cNe_e, isNF_n, isNF_t, isNF_i, dBF_b, boF_b, notVF_b, ch2F_d, chF_d, seqOf_t, seqOf_l, seqOf_o, seqOf_s, seqOf_a, seqF_t, seqF_l, seqF_o, kindOf_t, kindOf_l, kindOf_o, kindOf_a, kindF_t, kindF_l, kindF_o, ixF2_s, ixF_s, slF_t, slF_f, partF_i, allD_n, allD_c, tupF_s, lstF_s, ofDF_s, gInt_i, gInt_b, gAbs_i, gMax2_i, gMin2_i, gN_e, jF_s, lenF_s, intsF2_s, intsF_s, fSum_e, gTF_s, gLF_s, blsF_s, blsF2_s, isF_s, isF2_s, tyn_i, tyn_b, tyn_t, tyn_l, tyn_s, tyn_n, k_ii, k_ib, k_tt, gN1_d, gN1_o, gN1_a, gaF_d, gaF_o, gTup_e, gs_n, gs_c, par2G_e, par2F_s, svOf_d, svOf_o, par3G_e, par3F_s, stF2_s, stF_s, stG_e, gStL_e, gOwn_e, owL_a, apG_e, apI_e, iterF_t, iterF_l, rng1F_e, rng2F_e, zip2F_s, zip2G_e, zip3F_s, zip3G_e, seqD_t, seqD_l, finP_d, finP_o, finP_a, finF_d, finF_o, finJF_d, finJF_o, finJ_d, finJ_o, startD_e, startJ_e, dnI_e, dnIH_e, dnGF_e, dnGetF_e, dnSF_e, dnSH_e, gStDn_e, dn1F_e, atI_0, atI_1, atI_2, ixN_2_0, ixN_2_1, appK_eq, cmp_i, eqv_ii, eqv_nn, cast1, cast2, cast3, List.map_cons, List.map_nil, List.append_nil, List.nil_append, List.cons_append, List.replicate_succ, List.replicate_zero, List.length_cons, List.length_nil, List.getElem?_cons_zero, List.getElem?_cons_succ, List.set_cons_zero, List.set_cons_succ, Option.map_some, Bool.not_true, Bool.not_false, Nat.reduceAdd, Nat.reduceSub, Nat.zero_add, Nat.add_zero, if_true, if_false, decide_true, decide_false, and_true, true_and, Nat.reduceLeDiff, Nat.sub_zero, Nat.sub_self]
        rw [blsOf_maps (fun _ : Int => true)]
        simp only [↓e_var, ↓e_C, ↓e_dD, ↓e_d2, ↓e_neg, ↓e_isN, ↓e_B, ↓e_And, ↓e_Or, ↓e_Not, ↓e_AndV, ↓e_OrV, ↓e_NotV, ↓e_IfE, ↓e_Chain, ↓e_Ix, ↓e_Sl, ↓e_No, ↓e_Part, ↓e_nil, ↓e_cons, ↓e_Tup, ↓e_Lst, ↓e_CB, ↓e_ofD, ↓e_jOf, ↓e_Len, ↓e_Ints, ↓e_fMax, ↓e_fMin, ↓e_Tuple, ↓e_List, ↓e_Bls, ↓e_Is, ↓e_seq, ↓e_skip, ↓e_ret, ↓e_drop, ↓e_ifS, ↓e_never, ↓e_asg, ↓e_par2, ↓e_par3, ↓e_App, ↓e_For, ↓e_While, ↓e_Iter, ↓e_Rng1, ↓e_Rng2, ↓e_Zip2, ↓e_Zip3, ↓e_Lc, ↓e_Yes, ↓e_Dn0, ↓e_DnIn, ↓e_DnGet, ↓e_Dn1, iteG_t, iteG_f, iteG_d, iteG_n, iteG_a, iteG_o, iteG_x, iteG_e, iteG_s, iteG_l, iteG_y, iteF_t, iteF_f, varF_d, varF_o, toD_d, toD_l, toD_a, toDF_d, toDF_l, d2F_d, fAdd_i, fAdd_s, fAdd_t, fAdd_l, fSub_i, fMul_i, fMulR_i, fMulR_t, fMulR_l, fDiv_i, fMod_i, fPow_i, negF_i, cLt_i, cLe_i, cGt_i, cGe_i, cEq_e, cNe_e, isNF_n, isNF_t, isNF_i, dBF_b, boF_b, notVF_b, ch2F_d, chF_d, seqOf_t, seqOf_l, seqOf_o, seqOf_s, seqOf_a, seqF_t, seqF_l, seqF_o, kindOf_t, kindOf_l, kindOf_o, kindOf_a, kindF_t, kindF_l, kindF_o, ixF2_s, ixF_s, slF_t, slF_f, partF_i, allD_n, allD_c, tupF_s, lstF_s, ofDF_s, gInt_i, gInt_b, gAbs_i, gMax2_i, gMin2_i, gN_e, jF_s, lenF_s, intsF2_s, intsF_s, fSum_e, gTF_s, gLF_s, blsF_s, blsF2_s, isF_s, isF2_s, tyn_i, tyn_b, tyn_t, tyn_l, tyn_s, tyn_n, k_ii, k_ib, k_tt, gN1_d, gN1_o, gN1_a, gaF_d, gaF_o, gTup_e, gs_n, gs_c, par2G_e, par2F_s, svOf_d, svOf_o, par3G_e, par3F_s, stF2_s, stF_s, stG_e, gStL_e, gOwn_e, owL_a, apG_e, apI_e, iterF_t, iterF_l, rng1F_e, rng2F_e, zip2F_s, zip2G_e, zip3F_s, zip3G_e, seqD_t, seqD_l, finP_d, finP_o, finP_a, finF_d, finF_o, finJF_d, finJF_o, finJ_d, finJ_o, startD_e, startJ_e, dnI_e, dnIH_e, dnGF_e, dnGetF_e, dnSF_e, dnSH_e, gStDn_e, dn1F_e, atI_0, atI_1, atI_2, ixN_2_0, ixN_2_1, appK_eq, cmp_i, eqv_ii, eqv_nn, cast1, cast2, cast3, List.map_cons, List.map_nil, List.append_nil, List.nil_append, List.cons_append, List.replicate_succ, List.replicate_zero, List.length_cons, List.length_nil, List.getElem?_cons_zero, List.getElem?_cons_succ, List.set_cons_zero, List.set_cons_succ, Option.map_some, Bool.not_true, Bool.not_false, Nat.reduceAdd, Nat.reduceSub, Nat.zero_add, Nat.add_zero, if_true, if_false, decide_true, decide_false, and_true, true_and, Nat.reduceLeDiff, Nat.sub_zero, Nat.sub_self, all_yes]
        exact h
def Dx_is_tap (P : Program) (w : World) (K : PySem.W.Frag) (mg : Str → Option Value) (base : Heap) : Prop := ∃ f fd, Def P w K mg base 2 "is_tap" f fd ["period", "value"] (spP (bas P w K) 2 sp_is_tap)
theorem ok_is_tap {P : Program} {w : World} {K : PySem.W.Frag} {mg : Str → Option Value} {base : Heap} (M : Mg mg) (D_is_int : Dx_is_int P w K mg base) {f : Addr} {fd : FuncData} (F : FunD K "is_tap" "is_tap" (defArgs s_is_tap) (defBody s_is_tap) (defScope s_is_tap) [] [] f fd) : FnOk P w K mg base CX0 2 f fd ["period", "value"] (spP (bas P w K) 2 sp_is_tap) := by
  obtain ⟨a_is_int, fd_is_int, D_is_int⟩ := D_is_int
  exact okP (tb := t_is_tap) F sc_is_tap (fun cdv A outer s H E hr =>
    (dss_cons (ds_if ((dw_or (dt_not (dt_val (de_callB (call_isi) (snd_is.toC) (by rfl) M.f_isinstance rfl (da_cons (de_data (de_var (pv 1))) (da_cons (de_ty (by rfl) M.f_tuple rfl) da_nil))))) (dw_or1 (dt_ne hr.units (de_callB (call_len_seq) (snd_len) (by rfl) M.f_len rfl (da_cons (de_var (pv 1)) da_nil)) (de_var (pv 0)))))).pt (dss_one (ds_ret de_bl)) dss_nil)
      (dss_one (ds_ret (de_callB (cr_all rfl) (snd_all) (by rfl) M.f_all rfl (da_cons (de_lc (own := [("amount", 2)]) rfl sc_is_tap.nd (di_seq (de_var (pv 1))) (blkOk_by (own := [("amount", 2)]) (N := N_is_tap) (sc := defScope s_is_tap) (by decide +kernel)) (fun s H A cl fp => (dg_name sc_is_tap.nd (i := 2) rfl (by first | exact .inl rfl | exact .inr rfl) (by first | exact .inl rfl | exact .inr (by decide)))) (fun s H A cl fp => dts_nil) (fun s H A cl fp => (de_data (de_call D_is_int.own (hr.mono (by decide)) (by rfl) (da_cons (de_data (de_var (pv 2))) (da_cons de_int (da_cons (de_gint (by rfl) M.c_MOST_TAP) da_nil))))))) da_nil)))))) rd_is_tap
def N_all_fillings : List Str := ["cups", "total", "cup"]
theorem sc_all_fillings : FnScope N_all_fillings ["cups"] (defScope s_all_fillings) := ⟨rfl, rfl, rfl, by decide +kernel, rfl, by decide +kernel, by decide +kernel⟩
def t_all_fillings : DTS :=
    (dSeq (dAsg (dC (.int 1)) (gN1 1))
      (dSeq (dFor (dIter (dD (dVar 0))) (gN1 2) (dAsg (d2 fMul (dD (dVar 1)) (dD (dIx (dVar 2) (dC (.int 0))))) (gN1 1)))
      (dRet (dVar 1))))
def sp_all_fillings : DFd := fun ds R => ∃ cs : List Cup, ds = [.tup (cs.map cupD)] ∧ cs.length ≤ 3 ∧ (∀ c ∈ cs, CupOk c) ∧ R (.d (.int (knees 1 cs)))
theorem rd_all_fillings : ∀ ds R, ds.length = 1 → sp_all_fillings ds R → t_all_fillings { nx := fun _ => R (.d .non), rt := finP R } (startD N_all_fillings ds) := by
  rintro ds R - ⟨cs, rfl, hl, hc, h⟩
  simp only [↓e_var, ↓e_C, ↓e_dD, ↓e_d2, ↓e_neg, ↓e_isN, ↓e_B, ↓e_And, ↓e_Or, ↓e_Not, ↓e_AndV, ↓e_OrV, ↓e_NotV, ↓e_IfE, ↓e_Chain, ↓e_Ix, ↓e_Sl, ↓e_No, ↓e_Part, ↓e_nil, ↓e_cons, ↓e_Tup, ↓e_Lst, ↓e_CB, ↓e_ofD, ↓e_jOf, ↓e_Len, ↓e_Ints, ↓e_fMax, ↓e_fMin, ↓e_Tuple, ↓e_List, ↓e_Bls, ↓e_Is, ↓e_seq, ↓e_skip, ↓e_ret, ↓e_drop, ↓e_ifS, ↓e_never, ↓e_asg, ↓e_par2, ↓e_par3, ↓e_App, ↓e_For, ↓e_While, ↓e_Iter, ↓e_Rng1, ↓e_Rng2, ↓e_Zip2, ↓e_Zip3, ↓e_Lc, ↓e_Yes, ↓e_Dn0, ↓e_DnIn, ↓e_DnGet, ↓e_Dn1, iteG_t, iteG_f, iteG_d, iteG_n, iteG_a, iteG_o, iteG_x, iteG_e, iteG_s, iteG_l, iteG_y, iteF_t, iteF_f, varF_d, varF_o, toD_d, toD_l, toD_a, toDF_d, toDF_l, d2F_d, fAdd_i, fAdd_s, fAdd_t, fAdd_l, fSub_i, fMul_i, fMulR_i, fMulR_t, fMulR_l, fDiv_i, fMod_i, fPow_i, negF_i, cLt_i, cLe_i, cGt_i, cGe_i, cEq_e, cNe_e, isNF_n, isNF_t, isNF_i, dBF_b, boF_b, notVF_b, ch2F_d, chF_d, seqOf_t, seqOf_l, seqOf_o, seqOf_s, seqOf_a, seqF_t, seqF_l, seqF_o, kindOf_t, kindOf_l, kindOf_o, kindOf_a, kindF_t, kindF_l, kindF_o, ixF2_s, ixF_s, slF_t, slF_f, partF_i, allD_n, allD_c, tupF_s, lstF_s, ofDF_s, gInt_i, gInt_b, gAbs_i, gMax2_i, gMin2_i, gN_e, jF_s, lenF_s, intsF2_s, intsF_s, fSum_e, gTF_s, gLF_s, blsF_s, blsF2_s, isF_s, isF2_s, tyn_i, tyn_b, tyn_t, tyn_l, tyn_s, tyn_n, k_ii, k_ib, k_tt, gN1_d, gN1_o, gN1_a, gaF_d, gaF_o, gTup_e, gs_n, gs_c, par2G_e, par2F_s, svOf_d, svOf_o, par3G_e, par3F_s, stF2_s, stF_s, stG_e, gStL_e, gOwn_e, owL_a, apG_e, apI_e, iterF_t, iterF_l, rng1F_e, rng2F_e, zip2F_s, zip2G_e, zip3F_s, zip3G_e, seqD_t, seqD_l, finP_d, finP_o, finP_a, finF_d, finF_o, finJF_d, finJF_o, finJ_d, finJ_o, startD_e, startJ_e, dnI_e, dnIH_e, dnGF_e, dnGetF_e, dnSF_e, dnSH_e, gStDn_e, dn1F_e, atI_0, atI_1, atI_2, ixN_2_0, ixN_2_1, appK_eq, cmp_i, eqv_ii, eqv_nn, cast1, cast2, cast3, List.map_cons, List.map_nil, List.append_nil, List.nil_append, List.cons_append, List.replicate_succ, List.replicate_zero, List.length_cons, List.length_nil, List.getElem?_cons_zero, List.getElem?_cons_succ, List.set_cons_zero, List.set_cons_succ, Option.map_some, Bool.not_true, Bool.not_false, Nat.reduceAdd, Nat.reduceSub, Nat.zero_add, Nat.add_zero, if_true, if_false, decide_true, decide_false, and_true, true_and, Nat.reduceLeDiff, Nat.sub_zero, Nat.sub_self, t_all_fillings, N_all_fillings]
  refine dLoop_rel cupD (fun l ρ => ∃ z a, ρ = [SV.d (D.tup (List.map cupD cs)), SV.d (D.int a), z] ∧ knees a l = knees 1 cs ∧ ∀ c ∈ l, CupOk c) ?_ ?_ cs _ ⟨_, _, rfl, rfl, hc⟩
  · rintro c l ρ ⟨z, a, rfl, hk, hl⟩ K hK
    simp only [↓e_var, ↓e_C, ↓e_dD, ↓e_d2, ↓e_neg, ↓e_isN, ↓e_B, ↓e_And, ↓e_Or, ↓e_Not, ↓e_AndV, ↓e_OrV, ↓e_NotV, ↓e_IfE, ↓e_Chain, ↓e_Ix, ↓e_Sl, ↓e_No, ↓e_Part, ↓e_nil, ↓e_cons, ↓e_Tup, ↓e_Lst, ↓e_CB, ↓e_ofD, ↓e_jOf, ↓e_Len, ↓e_Ints, ↓e_fMax, ↓e_fMin, ↓e_Tuple, ↓e_List, ↓e_Bls, ↓e_Is, ↓e_seq, ↓e_skip, ↓e_ret, ↓e_drop, ↓e_ifS, ↓e_never, ↓e_asg, ↓e_par2, ↓e_par3, ↓e_App, ↓e_For, ↓e_While, ↓e_Iter, ↓e_Rng1, ↓e_Rng2, ↓e_Zip2, ↓e_Zip3, ↓e_Lc, ↓e_Yes, ↓e_Dn0, ↓e_DnIn, ↓e_DnGet, ↓e_Dn1, iteG_t, iteG_f, iteG_d, iteG_n, iteG_a, iteG_o, iteG_x, iteG_e, iteG_s, iteG_l, iteG_y, iteF_t, iteF_f, varF_d, varF_o, toD_d, toD_l, toD_a, toDF_d, toDF_l, d2F_d, fAdd_i, fAdd_s, fAdd_t, fAdd_l, fSub_i, fMul_i, fMulR_i, fMulR_t, fMulR_l, fDiv_i, fMod_i, fPow_i, negF_i, cLt_i, cLe_i, cGt_i, cGe_i, cEq_e, cNe_e, isNF_n, isNF_t, isNF_i, dBF_b, boF_b, notVF_b, ch2F_d, chF_d, seqOf_t, seqOf_l, seqOf_o, seqOf_s, seqOf_a, seqF_t, seqF_l, seqF_o, kindOf_t, kindOf_l, kindOf_o, kindOf_a, kindF_t, kindF_l, kindF_o, ixF2_s, ixF_s, slF_t, slF_f, partF_i, allD_n, allD_c, tupF_s, lstF_s, ofDF_s, gInt_i, gInt_b, gAbs_i, gMax2_i, gMin2_i, gN_e, jF_s, lenF_s, intsF2_s, intsF_s, fSum_e, gTF_s, gLF_s, blsF_s, blsF2_s, isF_s, isF2_s, tyn_i, tyn_b, tyn_t, tyn_l, tyn_s, tyn_n, k_ii, k_ib, k_tt, gN1_d, gN1_o, gN1_a, gaF_d, gaF_o, gTup_e, gs_n, gs_c, par2G_e, par2F_s, svOf_d, svOf_o, par3G_e, par3F_s, stF2_s, stF_s, stG_e, gStL_e, gOwn_e, owL_a, apG_e, apI_e, iterF_t, iterF_l, rng1F_e, rng2F_e, zip2F_s, zip2G_e, zip3F_s, zip3G_e, seqD_t, seqD_l, finP_d, finP_o, finP_a, finF_d, finF_o, finJF_d, finJF_o, finJ_d, finJ_o, startD_e, startJ_e, dnI_e, dnIH_e, dnGF_e, dnGetF_e, dnSF_e, dnSH_e, gStDn_e, dn1F_e, atI_0, atI_1, atI_2, ixN_2_0, ixN_2_1, appK_eq, cmp_i, eqv_ii, eqv_nn, cast1, cast2, cast3, List.map_cons, List.map_nil, List.append_nil, List.nil_append, List.cons_append, List.replicate_succ, List.replicate_zero, List.length_cons, List.length_nil, List.getElem?_cons_zero, List.getElem?_cons_succ, List.set_cons_zero, List.set_cons_succ, Option.map_some, Bool.not_true, Bool.not_false, Nat.reduceAdd, Nat.reduceSub, Nat.zero_add, Nat.add_zero, if_true, if_false, decide_true, decide_false, and_true, true_and, Nat.reduceLeDiff, Nat.sub_zero, Nat.sub_self, cupD]
    have hc := hl c List.mem_cons_self
    refine ⟨MulOk.small' (by have := hc.1; omega) (by have := hc.2.1; omega), ?_⟩
    exact hK _ ⟨_, _, rfl, hk, fun d hd => hl d (List.mem_cons_of_mem _ hd)⟩
  · rintro ρ ⟨z, a, rfl, hk, -⟩
    simp only [↓e_var, ↓e_C, ↓e_dD, ↓e_d2, ↓e_neg, ↓e_isN, ↓e_B, ↓e_And, ↓e_Or, ↓e_Not, ↓e_AndV, ↓e_OrV, ↓e_NotV, ↓e_IfE, ↓e_Chain, ↓e_Ix, ↓e_Sl, ↓e_No, ↓e_Part, ↓e_nil, ↓e_cons, ↓e_Tup, ↓e_Lst, ↓e_CB, ↓e_ofD, ↓e_jOf, ↓e_Len, ↓e_Ints, ↓e_fMax, ↓e_fMin, ↓e_Tuple, ↓e_List, ↓e_Bls, ↓e_Is, ↓e_seq, ↓e_skip, ↓e_ret, ↓e_drop, ↓e_ifS, ↓e_never, ↓e_asg, ↓e_par2, ↓e_par3, ↓e_App, ↓e_For, ↓e_While, ↓e_Iter, ↓e_Rng1, ↓e_Rng2, ↓e_Zip2, ↓e_Zip3, ↓e_Lc, ↓e_Yes, ↓e_Dn0, ↓e_DnIn, ↓e_DnGet, ↓e_Dn1, iteG_t, iteG_f, iteG_d, iteG_n, iteG_a, iteG_o, iteG_x, iteG_e, iteG_s, iteG_l, iteG_y, iteF_t, iteF_f, varF_d, varF_o, toD_d, toD_l, toD_a, toDF_d, toDF_l, d2F_d, fAdd_i, fAdd_s, fAdd_t, fAdd_l, fSub_i, fMul_i, fMulR_i, fMulR_t, fMulR_l, fDiv_i, fMod_i, fPow_i, negF_i, cLt_i, cLe_i, cGt_i, cGe_i, cEq_e, cNe_e, isNF_n, isNF_t, isNF_i, dBF_b, boF_b, notVF_b, ch2F_d, chF_d, seqOf_t, seqOf_l, seqOf_o, seqOf_s, seqOf_a, seqF_t, seqF_l, seqF_o, kindOf_t, kindOf_l, kindOf_o, kindOf_a, kindF_t, kindF_l, kindF_o, ixF2_s, ixF_s, slF_t, slF_f, partF_i, allD_n, allD_c, tupF_s, lstF_s, ofDF_s, gInt_i, gInt_b, gAbs_i, gMax2_i, gMin2_i, gN_e, jF_s, lenF_s, intsF2_s, intsF_s, fSum_e, gTF_s, gLF_s, blsF_s, blsF2_s, isF_s, isF2_s, tyn_i, tyn_b, tyn_t, tyn_l, tyn_s, tyn_n, k_ii, k_ib, k_tt, gN1_d, gN1_o, gN1_a, gaF_d, gaF_o, gTup_e, gs_n, gs_c, par2G_e, par2F_s, svOf_d, svOf_o, par3G_e, par3F_s, stF2_s, stF_s, stG_e, gStL_e, gOwn_e, owL_a, apG_e, apI_e, iterF_t, iterF_l, rng1F_e, rng2F_e, zip2F_s, zip2G_e, zip3F_s, zip3G_e, seqD_t, seqD_l, finP_d, finP_o, finP_a, finF_d, finF_o, finJF_d, finJF_o, finJ_d, finJ_o, startD_e, startJ_e, dnI_e, dnIH_e, dnGF_e, dnGetF_e, dnSF_e, dnSH_e, gStDn_e, dn1F_e, atI_0, atI_1, atI_2, ixN_2_0, ixN_2_1, appK_eq, cmp_i, eqv_ii, eqv_nn, cast1, cast2, cast3, List.map_cons, List.map_nil, List.append_nil, List.nil_append, List.cons_append, List.replicate_succ, List.replicate_zero, List.length_cons, List.length_nil, List.getElem?_cons_zero, List.getElem?_cons_succ, List.set_cons_zero, List.set_cons_succ, Option.map_some, Bool.not_true, Bool.not_false, Nat.reduceAdd, Nat.reduceSub, Nat.zero_add, Nat.add_zero, if_true, if_false, decide_true, decide_false, and_true, true_and, Nat.reduceLeDiff, Nat.sub_zero, Nat.sub_self]
    have e : a = knees 1 cs := hk
    rw [e]
    exact h
def Dx_all_fillings (P : Program) (w : World) (K : PySem.W.Frag) (mg : Str → Option Value) (base : Heap) : Prop := ∃ f fd, Def P w K mg base 1 "all_fillings" f fd ["cups"] (spP (bas P w K) 1 sp_all_fillings)
theorem ok_all_fillings {P : Program} {w : World} {K : PySem.W.Frag} {mg : Str → Option Value} {base : Heap} (M : Mg mg) {f : Addr} {fd : FuncData} (F : FunD K "all_fillings" "all_fillings" (defArgs s_all_fillings) (defBody s_all_fillings) (defScope s_all_fillings) [] [] f fd) : FnOk P w K mg base CX0 1 f fd ["cups"] (spP (bas P w K) 1 sp_all_fillings) := by
  exact okP (tb := t_all_fillings) F sc_all_fillings (fun cdv A outer s H E hr =>
    (dss_cons (ds_asg de_int (dg_name sc_all_fillings.nd (i := 1) rfl (by first | exact .inl rfl | exact .inr rfl) (by first | exact .inl rfl | exact .inr (by decide))))
      (dss_cons (ds_for PassesOwn.never rfl (di_seq (de_var (pv 0))) (dg_name sc_all_fillings.nd (i := 2) rfl (by first | exact .inl rfl | exact .inr rfl) (by first | exact .inl rfl | exact .inr (by decide))) (dss_one (ds_asg (de_mul (de_var (pv 1)) (de_ix (de_var (pv 2)) de_int)) (dg_name sc_all_fillings.nd (i := 1) rfl (by first | exact .inl rfl | exact .inr rfl) (by first | exact .inl rfl | exact .inr (by decide))))))
      (dss_one (ds_ret (de_var (pv 1))))))) rd_all_fillings
def N_is_row : List Str := ["value", "period", "cups", "taps", "cup", "tap", "amount"]
theorem sc_is_row : FnScope N_is_row ["value"] (defScope s_is_row) := ⟨rfl, rfl, rfl, by decide +kernel, rfl, by decide +kernel, by decide +kernel⟩
def t_is_row : DTS :=
    (dSeq (dIfS (dOr (dNot (dB (dCB (ofD gIs) (dCons (dD (dVar 0)) (dCons (dC (.ty "tuple")) dNil))))) (dOr (dB (d2 cNe (dD (dCB gLen (dCons (dVar 0) dNil))) (dD (dC (.int 3))))) (dNot (dB (dCB (ofD (gN 3 sp_is_int)) (dCons (dD (dIx (dVar 0) (dC (.int 0)))) (dCons (dC (.int 1)) (dCons (dC (.int 6)) dNil)))))))) (dRet (dC (.bl false))) dSkip)
      (dSeq (dAsg (dVar 0) (gTupD 3 (gsCons (gN1 1) (gsCons (gN1 2) (gsCons (gN1 3) gsNil)))))
      (dSeq (dIfS (dOr (dNot (dB (dCB (ofD gIs) (dCons (dD (dVar 2)) (dCons (dC (.ty "tuple")) dNil))))) (dOr (dNot (dB (dChain cLe cLe (dD (dC (.int 1))) (dD (dCB gLen (dCons (dVar 2) dNil))) (dD (dC (.int 3)))))) (dNot (dB (dCB (gBls fun bs => .bl (bs.all id)) (dCons (dLc (dIter (dD (dVar 2))) (gN1 4) dYes (dD (dCB (ofD (gN 1 sp_is_cup)) (dCons (dD (dVar 4)) dNil))) [4]) dNil)))))) (dRet (dC (.bl false))) dSkip)
      (dSeq (dIfS (dOr (dNot (dB (dCB (ofD gIs) (dCons (dD (dVar 3)) (dCons (dC (.ty "tuple")) dNil))))) (dOr (dB (d2 cNe (dD (dCB gLen (dCons (dVar 3) dNil))) (dD (dCB gLen (dCons (dVar 2) dNil))))) (dNot (dB (dCB (gBls fun bs => .bl (bs.all id)) (dCons (dLc (dIter (dD (dVar 3))) (gN1 5) dYes (dD (dCB (ofD (gN 2 sp_is_tap)) (dCons (dD (dVar 1)) (dCons (dD (dVar 5)) dNil)))) [5]) dNil)))))) (dRet (dC (.bl false))) dSkip)
      (dRet (dAndV (d2 cLe (dD (dCB (ofD (gN 1 sp_all_fillings)) (dCons (dD (dVar 2)) dNil))) (dD (dC (.int 4000)))) (dCB (gBls fun bs => .bl (bs.any id)) (dCons (dLc (dIter (dD (dIx (dVar 3) (dC (.int 0))))) (gN1 6) dYes (dD (d2 cGt (dD (dVar 6)) (dD (dC (.int 0))))) [6]) dNil))))))))
def sp_is_row : DFd := fun ds R => ∃ r, ds = [rowD r] ∧ r.Ok ∧ R (.d (.bl true))
theorem rd_is_row : ∀ ds R, ds.length = 1 → sp_is_row ds R → t_is_row { nx := fun _ => R (.d .non), rt := finP R } (startD N_is_row ds) := by
  rintro ds R - ⟨r, rfl, ok, h⟩
  simp only [↓e_var, ↓e_C, ↓e_dD, ↓e_d2, ↓e_neg, ↓e_isN, ↓e_B, ↓e_And, ↓e_Or, ↓e_Not, ↓e_AndV, ↓e_OrV, ↓e_NotV, ↓e_IfE, ↓e_Chain, ↓e_Ix, ↓e_Sl, ↓e_No, ↓e_Part, ↓e_nil, ↓e_cons, ↓e_Tup, ↓e_Lst, ↓e_CB, ↓e_ofD, ↓e_jOf, ↓e_Len, ↓e_Ints, ↓e_fMax, ↓e_fMin, ↓e_Tuple, ↓e_List, ↓e_Bls, ↓e_Is, ↓e_seq, ↓e_skip, ↓e_ret, ↓e_drop, ↓e_ifS, ↓e_never, ↓e_asg, ↓e_par2, ↓e_par3, ↓e_App, ↓e_For, ↓e_While, ↓e_Iter, ↓e_Rng1, ↓e_Rng2, ↓e_Zip2, ↓e_Zip3, ↓e_Lc, ↓e_Yes, ↓e_Dn0, ↓e_DnIn, ↓e_DnGet, ↓e_Dn1, iteG_t, iteG_f, iteG_d, iteG_n, iteG_a, iteG_o, iteG_x, iteG_e, iteG_s, iteG_l, iteG_y, iteF_t, iteF_f, varF_d, varF_o, toD_d, toD_l, toD_a, toDF_d, toDF_l, d2F_d, fAdd_i, fAdd_s, fAdd_t, fAdd_l, fSub_i, fMul_i, fMulR_i, fMulR_t, fMulR_l, fDiv_i, fMod_i, fPow_i, negF_i, cLt_i, cLe_i, cGt_i, cGe_i, cEq_e, cNe_e, isNF_n, isNF_t, isNF_i, dBF_b, boF_b, notVF_b, ch2F_d, chF_d, seqOf_t, seqOf_l, seqOf_o, seqOf_s, seqOf_a, seqF_t, seqF_l, seqF_o, kindOf_t, kindOf_l, kindOf_o, kindOf_a, kindF_t, kindF_l, kindF_o, ixF2_s, ixF_s, slF_t, slF_f, partF_i, allD_n, allD_c, tupF_s, lstF_s, ofDF_s, gInt_i, gInt_b, gAbs_i, gMax2_i, gMin2_i, gN_e, jF_s, lenF_s, intsF2_s, intsF_s, fSum_e, gTF_s, gLF_s, blsF_s, blsF2_s, isF_s, isF2_s, tyn_i, tyn_b, tyn_t, tyn_l, tyn_s, tyn_n, k_ii, k_ib, k_tt, gN1_d, gN1_o, gN1_a, gaF_d, gaF_o, gTup_e, gs_n, gs_c, par2G_e, par2F_s, svOf_d, svOf_o, par3G_e, par3F_s, stF2_s, stF_s, stG_e, gStL_e, gOwn_e, owL_a, apG_e, apI_e, iterF_t, iterF_l, rng1F_e, rng2F_e, zip2F_s, zip2G_e, zip3F_s, zip3G_e, seqD_t, seqD_l, finP_d, finP_o, finP_a, finF_d, finF_o, finJF_d, finJF_o, finJ_d, finJ_o, startD_e, startJ_e, dnI_e, dnIH_e, dnGF_e, dnGetF_e, dnSF_e, dnSH_e, gStDn_e, dn1F_e, atI_0, atI_1, atI_2, ixN_2_0, ixN_2_1, appK_eq, cmp_i, eqv_ii, eqv_nn, cast1, cast2, cast3, List.map_cons, List.map_nil, List.append_nil, List.nil_append, List.cons_append, List.replicate_succ, List.replicate_zero, List.length_cons, List.length_nil, List.getElem?_cons_zero, List.getElem?_cons_succ, List.set_cons_zero, List.set_cons_succ, Option.map_some, Bool.not_true, Bool.not_false, Nat.reduceAdd, Nat.reduceSub, Nat.zero_add, Nat.add_zero, if_true, if_false, decide_true, decide_false, and_true, true_and, Nat.reduceLeDiff, Nat.sub_zero, Nat.sub_self, t_is_row, N_is_row, rowD]
  refine yes_int ok.p1 ok.p6 ?_
  have n1 := ok.n1
  have n3 := ok.n3
  simp only [↓e_var, ↓e_C, ↓e_dD, ↓e_d2, ↓e_neg, ↓e_isN, ↓e_B, ↓e_And, ↓e_Or, ↓e_Not, ↓e_AndV, ↓e_OrV, ↓e_NotV, ↓e_IfE, ↓e_Chain, ↓e_Ix, ↓e_Sl, ↓e_No, ↓e_Part, ↓e_nil, ↓e_cons, ↓e_Tup, ↓e_Lst, ↓e_CB, ↓e_ofD, ↓e_jOf, ↓e_Len, ↓e_Ints, ↓e_fMax, ↓e_fMin, ↓e_Tuple, ↓e_List, ↓e_Bls, ↓e_Is, ↓e_seq, ↓e_skip, ↓e_ret, ↓e_drop, ↓e_ifS, ↓e_never, ↓e_asg, ↓e_par2, ↓e_par3, ↓e_App, ↓e_For, ↓e_While, ↓e_Iter, ↓e_Rng1, ↓e_Rng2, ↓e_Zip2, ↓e_Zip3, ↓e_Lc, ↓e_Yes, ↓e_Dn0, ↓e_DnIn, ↓e_DnGet, ↓e_Dn1, iteG_t, iteG_f, iteG_d, iteG_n, iteG_a, iteG_o, iteG_x, iteG_e, iteG_s, iteG_l, iteG_y, iteF_t, iteF_f, varF_d, varF_o, toD_d, toD_l, toD_a, toDF_d, toDF_l, d2F_d, fAdd_i, fAdd_s, fAdd_t, fAdd_l, fSub_i, fMul_i, fMulR_i, fMulR_t, fMulR_l, fDiv_i, fMod_i, fPow_i, negF_i, cLt_i, cLe_i, cGt_i, cGe_i, cEq_e, cNe_e, isNF_n, isNF_t, isNF_i, dBF_b, boF_b, notVF_b, ch2F_d, chF_d, seqOf_t, seqOf_l, seqOf_o, seqOf_s, seqOf_a, seqF_t, seqF_l, seqF_o, kindOf_t, kindOf_l, kindOf_o, kindOf_a, kindF_t, kindF_l, kindF_o, ixF2_s, ixF_s, slF_t, slF_f, partF_i, allD_n, allD_c, tupF_s, lstF_s, ofDF_s, gInt_i, gInt_b, gAbs_i, gMax2_i, gMin2_i, gN_e, jF_s, lenF_s, intsF2_s, intsF_s, fSum_e, gTF_s, gLF_s, blsF_s, blsF2_s, isF_s, isF2_s, tyn_i, tyn_b, tyn_t, tyn_l, tyn_s, tyn_n, k_ii, k_ib, k_tt, gN1_d, gN1_o, gN1_a, gaF_d, gaF_o, gTup_e, gs_n, gs_c, par2G_e, par2F_s, svOf_d, svOf_o, par3G_e, par3F_s, stF2_s, stF_s, stG_e, gStL_e, gOwn_e, owL_a, apG_e, apI_e, iterF_t, iterF_l, rng1F_e, rng2F_e, zip2F_s, zip2G_e, zip3F_s, zip3G_e, seqD_t, seqD_l, finP_d, finP_o, finP_a, finF_d, finF_o, finJF_d, finJF_o, finJ_d, finJ_o, startD_e, startJ_e, dnI_e, dnIH_e, dnGF_e, dnGetF_e, dnSF_e, dnSH_e, gStDn_e, dn1F_e, atI_0, atI_1, atI_2, ixN_2_0, ixN_2_1, appK_eq, cmp_i, eqv_ii, eqv_nn, cast1, cast2, cast3, List.map_cons, List.map_nil, List.append_nil, List.nil_append, List.cons_append, List.replicate_succ, List.replicate_zero, List.length_cons, List.length_nil, List.getElem?_cons_zero, List.getElem?_cons_succ, List.set_cons_zero, List.set_cons_succ, Option.map_some, Bool.not_true, Bool.not_false, Nat.reduceAdd, Nat.reduceSub, Nat.zero_add, Nat.add_zero, if_true, if_false, decide_true, decide_false, and_true, true_and, Nat.reduceLeDiff, Nat.sub_zero, Nat.sub_self, List.length_map]
  refine iteF_d (fun _ => ?_) (fun q => absurd (show (1 : Int) ≤ ((r.cups.length : Nat) : Int) by omega) q)
  refine iteF_n (fun q => absurd (show ((r.cups.length : Nat) : Int) ≤ 3 by omega) q) (fun _ => ?_)
  refine ⟨fun i hi => ?_, ?_⟩
  · simp only [List.mem_singleton] at hi
    subst hi
    rfl
  refine lcL_maps cupD (fun _ => .bl true) r.cups [] (fun c hc K hK => ?_) ?_
  · simp only [↓e_var, ↓e_C, ↓e_dD, ↓e_d2, ↓e_neg, ↓e_isN, ↓e_B, ↓e_And, ↓e_Or, ↓e_Not, ↓e_AndV, ↓e_OrV, ↓e_NotV, ↓e_IfE, ↓e_Chain, ↓e_Ix, ↓e_Sl, ↓e_No, ↓e_Part, ↓e_nil, ↓e_cons, ↓e_Tup, ↓e_Lst, ↓e_CB, ↓e_ofD, ↓e_jOf, ↓e_Len, ↓e_Ints, ↓e_fMax, ↓e_fMin, ↓e_Tuple, ↓e_List, ↓e_Bls, ↓e_Is, ↓e_seq, ↓e_skip, ↓e_ret, ↓e_drop, ↓e_ifS, ↓e_never, ↓e_asg, ↓e_par2, ↓e_par3, ↓e_App, ↓e_For, ↓e_While, ↓e_Iter, ↓e_Rng1, ↓e_Rng2, ↓e_Zip2, ↓e_Zip3, ↓e_Lc, ↓e_Yes, ↓e_Dn0, ↓e_DnIn, ↓e_DnGet, ↓e_Dn1, iteG_t, iteG_f, iteG_d, iteG_n, iteG_a, iteG_o, iteG_x, iteG_e, iteG_s, iteG_l, iteG_y, iteF_t, iteF_f, varF_d, varF_o, toD_d, toD_l, toD_a, toDF_d, toDF_l, d2F_d, fAdd_i, fAdd_s, fAdd_t, fAdd_l, fSub_i, fMul_i, fMulR_i, fMulR_t, fMulR_l, fDiv_i, fMod_i, fPow_i, negF_i, cLt_i, cLe_i, cGt_i, cGe_i, cEq_e, cNe_e, isNF_n, isNF_t, isNF_i, dBF_b, boF_b, notVF_b, ch2F_d, chF_d, seqOf_t, seqOf_l, seqOf_o, seqOf_s, seqOf_a, seqF_t, seqF_l, seqF_o, kindOf_t, kindOf_l, kindOf_o, kindOf_a, kindF_t, kindF_l, kindF_o, ixF2_s, ixF_s, slF_t, slF_f, partF_i, allD_n, allD_c, tupF_s, lstF_s, ofDF_s, gInt_i, gInt_b, gAbs_i, gMax2_i, gMin2_i, gN_e, jF_s, lenF_s, intsF2_s, intsF_s, fSum_e, gTF_s, gLF_s, blsF_s, blsF2_s, isF_s, isF2_s, tyn_i, tyn_b, tyn_t, tyn_l, tyn_s, tyn_n, k_ii, k_ib, k_tt, gN1_d, gN1_o, gN1_a, gaF_d, gaF_o, gTup_e, gs_n, gs_c, par2G_e, par2F_s, svOf_d, svOf_o, par3G_e, par3F_s, stF2_s, stF_s, stG_e, gStL_e, gOwn_e, owL_a, apG_e, apI_e, iterF_t, iterF_l, rng1F_e, rng2F_e, zip2F_s, zip2G_e, zip3F_s, zip3G_e, seqD_t, seqD_l, finP_d, finP_o, finP_a, finF_d, finF_o, finJF_d, finJF_o, finJ_d, finJ_o, startD_e, startJ_e, dnI_e, dnIH_e, dnGF_e, dnGetF_e, dnSF_e, dnSH_e, gStDn_e, dn1F_e, atI_0, atI_1, atI_2, ixN_2_0, ixN_2_1, appK_eq, cmp_i, eqv_ii, eqv_nn, cast1, cast2, cast3, List.map_cons, List.map_nil, List.append_nil, List.nil_append, List.cons_append, List.replicate_succ, List.replicate_zero, List.length_cons, List.length_nil, List.getElem?_cons_zero, List.getElem?_cons_succ, List.set_cons_zero, List.set_cons_succ, Option.map_some, Bool.not_true, Bool.not_false, Nat.reduceAdd, Nat.reduceSub, Nat.zero_add, Nat.add_zero, if_true, if_false, decide_true, decide_false, and_true, true_and, Nat.reduceLeDiff, Nat.sub_zero, Nat.sub_self]
    refine ⟨rfl, c, rfl, ok.cups c hc, ?_⟩
    simp only [↓e_var, ↓e_C, ↓e_dD, ↓e_d2, ↓e_neg, ↓e_isN, ↓e_B, ↓e_And, ↓e_Or, ↓e_Not, ↓e_AndV, ↓e_OrV, ↓e_NotV, ↓e_IfE, ↓e_Chain, ↓e_Ix, ↓e_Sl, ↓e_No, ↓e_Part, ↓e_nil, ↓e_cons, ↓e_Tup, ↓e_Lst, ↓e_CB, ↓e_ofD, ↓e_jOf, ↓e_Len, ↓e_Ints, ↓e_fMax, ↓e_fMin, ↓e_Tuple, ↓e_List, ↓e_Bls, ↓e_Is, ↓e_seq, ↓e_skip, ↓e_ret, ↓e_drop, ↓e_ifS, ↓e_never, ↓e_asg, ↓e_par2, ↓e_par3, ↓e_App, ↓e_For, ↓e_While, ↓e_Iter, ↓e_Rng1, ↓e_Rng2, ↓e_Zip2, ↓e_Zip3, ↓e_Lc, ↓e_Yes, ↓e_Dn0, ↓e_DnIn, ↓e_DnGet, ↓e_Dn1, iteG_t, iteG_f, iteG_d, iteG_n, iteG_a, iteG_o, iteG_x, iteG_e, iteG_s, iteG_l, iteG_y, iteF_t, iteF_f, varF_d, varF_o, toD_d, toD_l, toD_a, toDF_d, toDF_l, d2F_d, fAdd_i, fAdd_s, fAdd_t, fAdd_l, fSub_i, fMul_i, fMulR_i, fMulR_t, fMulR_l, fDiv_i, fMod_i, fPow_i, negF_i, cLt_i, cLe_i, cGt_i, cGe_i, cEq_e, cNe_e, isNF_n, isNF_t, isNF_i, dBF_b, boF_b, notVF_b, ch2F_d, chF_d, seqOf_t, seqOf_l, seqOf_o, seqOf_s, seqOf_a, seqF_t, seqF_l, seqF_o, kindOf_t, kindOf_l, kindOf_o, kindOf_a, kindF_t, kindF_l, kindF_o, ixF2_s, ixF_s, slF_t, slF_f, partF_i, allD_n, allD_c, tupF_s, lstF_s, ofDF_s, gInt_i, gInt_b, gAbs_i, gMax2_i, gMin2_i, gN_e, jF_s, lenF_s, intsF2_s, intsF_s, fSum_e, gTF_s, gLF_s, blsF_s, blsF2_s, isF_s, isF2_s, tyn_i, tyn_b, tyn_t, tyn_l, tyn_s, tyn_n, k_ii, k_ib, k_tt, gN1_d, gN1_o, gN1_a, gaF_d, gaF_o, gTup_e, gs_n, gs_c, par2G_e, par2F_s, svOf_d, svOf_o, par3G_e, par3F_s, stF2_s, stF_s, stG_e, gStL_e, gOwn_e, owL_a, apG_e, apI_e, iterF_t, iterF_l, rng1F_e, rng2F_e, zip2F_s, zip2G_e, zip3F_s, zip3G_e, seqD_t, seqD_l, finP_d, finP_o, finP_a, finF_d, finF_o, finJF_d, finJF_o, finJ_d, finJ_o, startD_e, startJ_e, dnI_e, dnIH_e, dnGF_e, dnGetF_e, dnSF_e, dnSH_e, gStDn_e, dn1F_e, atI_0, atI_1, atI_2, ixN_2_0, ixN_2_1, appK_eq, cmp_i, eqv_ii, eqv_nn, cast1, cast2, cast3, List.map_cons, List.map_nil, List.append_nil, List.nil_append, List.cons_append, List.replicate_succ, List.replicate_zero, List.length_cons, List.length_nil, List.getElem?_cons_zero, List.getElem?_cons_succ, List.set_cons_zero, List.set_cons_succ, Option.map_some, Bool.not_true, Bool.not_false, Nat.reduceAdd, Nat.reduceSub, Nat.zero_add, Nat.add_zero, if_true, if_false, decide_true, decide_false, and_true, true_and, Nat.reduceLeDiff, Nat.sub_zero, Nat.sub_self]
    exact hK _ rfl
  simp only [↓e_var, ↓e_C, ↓e_dD, ↓e_d2, ↓e_neg, ↓e_isN, ↓e_B, ↓e_And, ↓e_Or, ↓e_Not, ↓e_AndV, ↓e_OrV, ↓e_NotV, ↓e_IfE, ↓e_Chain, ↓e_Ix, ↓e_Sl, ↓e_No, ↓e_Part, ↓e_nil, ↓e_cons, ↓e_Tup, ↓e_Lst, ↓e_CB, ↓e_ofD, ↓e_jOf, ↓e_Len, ↓e_Ints, ↓e_fMax, ↓e_fMin, ↓e_Tuple, ↓e_List, ↓e_Bls, ↓e_Is, ↓e_seq, ↓e_skip, ↓e_ret, ↓e_drop, ↓e_ifS, ↓e_never, ↓e_asg, ↓e_par2, ↓e_par3, ↓e_App, ↓e_For, ↓e_While, ↓e_Iter, ↓e_Rng1, ↓e_Rng2, ↓e_Zip2, ↓e_Zip3, ↓e_Lc, ↓e_Yes, ↓e_Dn0, ↓e_DnIn, ↓e_DnGet, ↓e_Dn1, iteG_t, iteG_f, iteG_d, iteG_n, iteG_a, iteG_o, iteG_x, iteG_e, iteG_s, iteG_l, iteG_y, iteF_t, iteF_f, varF_d, varF_o, toD_d, toD_l, toD_a, toDF_d, toDF_l, d2F_d, fAdd_i, fAdd_s, fAdd_t, fAdd_l, fSub_i, fMul_i, fMulR_i, fMulR_t, fMulR_l, fDiv_i, fMod_i, fPow_i, negF_i, cLt_i, cLe_i, cGt_i, cGe_i, cEq_e, cNe_e, isNF_n, isNF_t, isNF_i, dBF_b, boF_b, notVF_b, ch2F_d, chF_d, seqOf_t, seqOf_l, seqOf_o, seqOf_s, seqOf_a, seqF_t, seqF_l, seqF_o, kindOf_t, kindOf_l, kindOf_o, kindOf_a, kindF_t, kindF_l, kindF_o, ixF2_s, ixF_s, slF_t, slF_f, partF_i, allD_n, allD_c, tupF_s, lstF_s, ofDF_s, gInt_i, gInt_b, gAbs_i, gMax2_i, gMin2_i, gN_e, jF_s, lenF_s, intsF2_s, intsF_s, fSum_e, gTF_s, gLF_s, blsF_s, blsF2_s, isF_s, isF2_s, tyn_i, tyn_b, tyn_t, tyn_l, tyn_s, tyn_n, k_ii, k_ib, k_tt, gN1_d, gN1_o, gN1_a, gaF_d, gaF_o, gTup_e, gs_n, gs_c, par2G_e, par2F_s, svOf_d, svOf_o, par3G_e, par3F_s, stF2_s, stF_s, stG_e, gStL_e, gOwn_e, owL_a, apG_e, apI_e, iterF_t, iterF_l, rng1F_e, rng2F_e, zip2F_s, zip2G_e, zip3F_s, zip3G_e, seqD_t, seqD_l, finP_d, finP_o, finP_a, finF_d, finF_o, finJF_d, finJF_o, finJ_d, finJ_o, startD_e, startJ_e, dnI_e, dnIH_e, dnGF_e, dnGetF_e, dnSF_e, dnSH_e, gStDn_e, dn1F_e, atI_0, atI_1, atI_2, ixN_2_0, ixN_2_1, appK_eq, cmp_i, eqv_ii, eqv_nn, cast1, cast2, cast3, List.map_cons, List.map_nil, List.append_nil, List.nil_append, List.cons_append, List.replicate_succ, List.replicate_zero, List.length_cons, List.length_nil, List.getElem?_cons_zero, List.getElem?_cons_succ, List.set_cons_zero, List.set_cons_succ, Option.map_some, Bool.not_true, Bool.not_false, Nat.reduceAdd, Nat.reduceSub, Nat.zero_add, Nat.add_zero, if_true, if_false, decide_true, decide_false, and_true, true_and, Nat.reduceLeDiff, Nat.sub_zero, Nat.sub_self, blsOf_maps (fun _ : Cup => true), all_yes]
  refine iteF_n (fun q => absurd (by rw [List.length_map, List.length_map, ok.same]) q) (fun _ => ?_)
  refine ⟨fun i hi => ?_, ?_⟩
  · simp only [List.mem_singleton] at hi
    subst hi
    rfl
  refine lcL_maps intsD (fun _ => .bl true) r.taps [] (fun c hc K hK => ?_) ?_
  · simp only [↓e_var, ↓e_C, ↓e_dD, ↓e_d2, ↓e_neg, ↓e_isN, ↓e_B, ↓e_And, ↓e_Or, ↓e_Not, ↓e_AndV, ↓e_OrV, ↓e_NotV, ↓e_IfE, ↓e_Chain, ↓e_Ix, ↓e_Sl, ↓e_No, ↓e_Part, ↓e_nil, ↓e_cons, ↓e_Tup, ↓e_Lst, ↓e_CB, ↓e_ofD, ↓e_jOf, ↓e_Len, ↓e_Ints, ↓e_fMax, ↓e_fMin, ↓e_Tuple, ↓e_List, ↓e_Bls, ↓e_Is, ↓e_seq, ↓e_skip, ↓e_ret, ↓e_drop, ↓e_ifS, ↓e_never, ↓e_asg, ↓e_par2, ↓e_par3, ↓e_App, ↓e_For, ↓e_While, ↓e_Iter, ↓e_Rng1, ↓e_Rng2, ↓e_Zip2, ↓e_Zip3, ↓e_Lc, ↓e_Yes, ↓e_Dn0, ↓e_DnIn, ↓e_DnGet, ↓e_Dn1, iteG_t, iteG_f, iteG_d, iteG_n, iteG_a, iteG_o, iteG_x, iteG_e, iteG_s, iteG_l, iteG_y, iteF_t, iteF_f, varF_d, varF_o, toD_d, toD_l, toD_a, toDF_d, toDF_l, d2F_d, fAdd_i, fAdd_s, fAdd_t, fAdd_l, fSub_i, fMul_i, fMulR_i, fMulR_t, fMulR_l, fDiv_i, fMod_i, fPow_i, negF_i, cLt_i, cLe_i, cGt_i, cGe_i, cEq_e, cNe_e, isNF_n, isNF_t, isNF_i, dBF_b, boF_b, notVF_b, ch2F_d, chF_d, seqOf_t, seqOf_l, seqOf_o, seqOf_s, seqOf_a, seqF_t, seqF_l, seqF_o, kindOf_t, kindOf_l, kindOf_o, kindOf_a, kindF_t, kindF_l, kindF_o, ixF2_s, ixF_s, slF_t, slF_f, partF_i, allD_n, allD_c, tupF_s, lstF_s, ofDF_s, gInt_i, gInt_b, gAbs_i, gMax2_i, gMin2_i, gN_e, jF_s, lenF_s, intsF2_s, intsF_s, fSum_e, gTF_s, gLF_s, blsF_s, blsF2_s, isF_s, isF2_s, tyn_i, tyn_b, tyn_t, tyn_l, tyn_s, tyn_n, k_ii, k_ib, k_tt, gN1_d, gN1_o, gN1_a, gaF_d, gaF_o, gTup_e, gs_n, gs_c, par2G_e, par2F_s, svOf_d, svOf_o, par3G_e, par3F_s, stF2_s, stF_s, stG_e, gStL_e, gOwn_e, owL_a, apG_e, apI_e, iterF_t, iterF_l, rng1F_e, rng2F_e, zip2F_s, zip2G_e, zip3F_s, zip3G_e, seqD_t, seqD_l, finP_d, finP_o, finP_a, finF_d, finF_o, finJF_d, finJF_o, finJ_d, finJ_o, startD_e, startJ_e, dnI_e, dnIH_e, dnGF_e, dnGetF_e, dnSF_e, dnSH_e, gStDn_e, dn1F_e, atI_0, atI_1, atI_2, ixN_2_0, ixN_2_1, appK_eq, cmp_i, eqv_ii, eqv_nn, cast1, cast2, cast3, List.map_cons, List.map_nil, List.append_nil, List.nil_append, List.cons_append, List.replicate_succ, List.replicate_zero, List.length_cons, List.length_nil, List.getElem?_cons_zero, List.getElem?_cons_succ, List.set_cons_zero, List.set_cons_succ, Option.map_some, Bool.not_true, Bool.not_false, Nat.reduceAdd, Nat.reduceSub, Nat.zero_add, Nat.add_zero, if_true, if_false, decide_true, decide_false, and_true, true_and, Nat.reduceLeDiff, Nat.sub_zero, Nat.sub_self]
    refine ⟨rfl, _, c, rfl, ok.taps c hc, ?_⟩
    simp only [↓e_var, ↓e_C, ↓e_dD, ↓e_d2, ↓e_neg, ↓e_isN, ↓e_B, ↓e_And, ↓e_Or, ↓e_Not, ↓e_AndV, ↓e_OrV, ↓e_NotV, ↓e_IfE, ↓e_Chain, ↓e_Ix, ↓e_Sl, ↓e_No, ↓e_Part, ↓e_nil, ↓e_cons, ↓e_Tup, ↓e_Lst, ↓e_CB, ↓e_ofD, ↓e_jOf, ↓e_Len, ↓e_Ints, ↓e_fMax, ↓e_fMin, ↓e_Tuple, ↓e_List, ↓e_Bls, ↓e_Is, ↓e_seq, ↓e_skip, ↓e_ret, ↓e_drop, ↓e_ifS, ↓e_never, ↓e_asg, ↓e_par2, ↓e_par3, ↓e_App, ↓e_For, ↓e_While, ↓e_Iter, ↓e_Rng1, ↓e_Rng2, ↓e_Zip2, ↓e_Zip3, ↓e_Lc, ↓e_Yes, ↓e_Dn0, ↓e_DnIn, ↓e_DnGet, ↓e_Dn1, iteG_t, iteG_f, iteG_d, iteG_n, iteG_a, iteG_o, iteG_x, iteG_e, iteG_s, iteG_l, iteG_y, iteF_t, iteF_f, varF_d, varF_o, toD_d, toD_l, toD_a, toDF_d, toDF_l, d2F_d, fAdd_i, fAdd_s, fAdd_t, fAdd_l, fSub_i, fMul_i, fMulR_i, fMulR_t, fMulR_l, fDiv_i, fMod_i, fPow_i, negF_i, cLt_i, cLe_i, cGt_i, cGe_i, cEq_e, cNe_e, isNF_n, isNF_t, isNF_i, dBF_b, boF_b, notVF_b, ch2F_d, chF_d, seqOf_t, seqOf_l, seqOf_o, seqOf_s, seqOf_a, seqF_t, seqF_l, seqF_o, kindOf_t, kindOf_l, kindOf_o, kindOf_a, kindF_t, kindF_l, kindF_o, ixF2_s, ixF_s, slF_t, slF_f, partF_i, allD_n, allD_c, tupF_s, lstF_s, ofDF_s, gInt_i, gInt_b, gAbs_i, gMax2_i, gMin2_i, gN_e, jF_s, lenF_s, intsF2_s, intsF_s, fSum_e, gTF_s, gLF_s, blsF_s, blsF2_s, isF_s, isF2_s, tyn_i, tyn_b, tyn_t, tyn_l, tyn_s, tyn_n, k_ii, k_ib, k_tt, gN1_d, gN1_o, gN1_a, gaF_d, gaF_o, gTup_e, gs_n, gs_c, par2G_e, par2F_s, svOf_d, svOf_o, par3G_e, par3F_s, stF2_s, stF_s, stG_e, gStL_e, gOwn_e, owL_a, apG_e, apI_e, iterF_t, iterF_l, rng1F_e, rng2F_e, zip2F_s, zip2G_e, zip3F_s, zip3G_e, seqD_t, seqD_l, finP_d, finP_o, finP_a, finF_d, finF_o, finJF_d, finJF_o, finJ_d, finJ_o, startD_e, startJ_e, dnI_e, dnIH_e, dnGF_e, dnGetF_e, dnSF_e, dnSH_e, gStDn_e, dn1F_e, atI_0, atI_1, atI_2, ixN_2_0, ixN_2_1, appK_eq, cmp_i, eqv_ii, eqv_nn, cast1, cast2, cast3, List.map_cons, List.map_nil, List.append_nil, List.nil_append, List.cons_append, List.replicate_succ, List.replicate_zero, List.length_cons, List.length_nil, List.getElem?_cons_zero, List.getElem?_cons_succ, List.set_cons_zero, List.set_cons_succ, Option.map_some, Bool.not_true, Bool.not_false, Nat.reduceAdd, Nat.reduceSub, Nat.zero_add, Nat.add_zero, if_true, if_false, decide_true, decide_false, and_true, true_and, Nat.reduceLeDiff, Nat.sub_zero, Nat.sub_self]
    exact hK _ rfl
  simp only [↓e_var, ↓e_C, ↓e_dD, ↓e_d2, ↓e_neg, ↓e_isN, ↓e_B, ↓e_And, ↓e_Or, ↓e_Not, ↓e_AndV, ↓e_OrV, ↓e_NotV, ↓e_IfE, ↓e_Chain, ↓e_Ix, ↓e_Sl, ↓e_No, ↓e_Part, ↓e_nil, ↓e_cons, ↓e_Tup, ↓e_Lst, ↓e_CB, ↓e_ofD, ↓e_jOf, ↓e_Len, ↓e_Ints, ↓e_fMax, ↓e_fMin, ↓e_Tuple, ↓e_List, ↓e_Bls, ↓e_Is, ↓e_seq, ↓e_skip, ↓e_ret, ↓e_drop, ↓e_ifS, ↓e_never, ↓e_asg, ↓e_par2, ↓e_par3, ↓e_App, ↓e_For, ↓e_While, ↓e_Iter, ↓e_Rng1, ↓e_Rng2, ↓e_Zip2, ↓e_Zip3, ↓e_Lc, ↓e_Yes, ↓e_Dn0, ↓e_DnIn, ↓e_DnGet, ↓e_Dn1, iteG_t, iteG_f, iteG_d, iteG_n, iteG_a, iteG_o, iteG_x, iteG_e, iteG_s, iteG_l, iteG_y, iteF_t, iteF_f, varF_d, varF_o, toD_d, toD_l, toD_a, toDF_d, toDF_l, d2F_d, fAdd_i, fAdd_s, fAdd_t, fAdd_l, fSub_i, fMul_i, fMulR_i, fMulR_t, fMulR_l, fDiv_i, fMod_i, fPow_i, negF_i, cLt_i, cLe_i, cGt_i, cGe_i, cEq_e, cNe_e, isNF_n, isNF_t, isNF_i, dBF_b, boF_b, notVF_b, ch2F_d, chF_d, seqOf_t, seqOf_l, seqOf_o, seqOf_s, seqOf_a, seqF_t, seqF_l, seqF_o, kindOf_t, kindOf_l, kindOf_o, kindOf_a, kindF_t, kindF_l, kindF_o, ixF2_s, ixF_s, slF_t, slF_f, partF_i, allD_n, allD_c, tupF_s, lstF_s, ofDF_s, gInt_i, gInt_b, gAbs_i, gMax2_i, gMin2_i, gN_e, jF_s, lenF_s, intsF2_s, intsF_s, fSum_e, gTF_s, gLF_s, blsF_s, blsF2_s, isF_s, isF2_s, tyn_i, tyn_b, tyn_t, tyn_l, tyn_s, tyn_n, k_ii, k_ib, k_tt, gN1_d, gN1_o, gN1_a, gaF_d, gaF_o, gTup_e, gs_n, gs_c, par2G_e, par2F_s, svOf_d, svOf_o, par3G_e, par3F_s, stF2_s, stF_s, stG_e, gStL_e, gOwn_e, owL_a, apG_e, apI_e, iterF_t, iterF_l, rng1F_e, rng2F_e, zip2F_s, zip2G_e, zip3F_s, zip3G_e, seqD_t, seqD_l, finP_d, finP_o, finP_a, finF_d, finF_o, finJF_d, finJF_o, finJ_d, finJ_o, startD_e, startJ_e, dnI_e, dnIH_e, dnGF_e, dnGetF_e, dnSF_e, dnSH_e, gStDn_e, dn1F_e, atI_0, atI_1, atI_2, ixN_2_0, ixN_2_1, appK_eq, cmp_i, eqv_ii, eqv_nn, cast1, cast2, cast3, List.map_cons, List.map_nil, List.append_nil, List.nil_append, List.cons_append, List.replicate_succ, List.replicate_zero, List.length_cons, List.length_nil, List.getElem?_cons_zero, List.getElem?_cons_succ, List.set_cons_zero, List.set_cons_succ, Option.map_some, Bool.not_true, Bool.not_false, Nat.reduceAdd, Nat.reduceSub, Nat.zero_add, Nat.add_zero, if_true, if_false, decide_true, decide_false, and_true, true_and, Nat.reduceLeDiff, Nat.sub_zero, Nat.sub_self, blsOf_maps (fun _ : List Int => true), all_yes]
  refine ⟨rfl, r.cups, rfl, n3, ok.cups, ?_⟩
  simp only [↓e_var, ↓e_C, ↓e_dD, ↓e_d2, ↓e_neg, ↓e_isN, ↓e_B, ↓e_And, ↓e_Or, ↓e_Not, ↓e_AndV, ↓e_OrV, ↓e_NotV, ↓e_IfE, ↓e_Chain, ↓e_Ix, ↓e_Sl, ↓e_No, ↓e_Part, ↓e_nil, ↓e_cons, ↓e_Tup, ↓e_Lst, ↓e_CB, ↓e_ofD, ↓e_jOf, ↓e_Len, ↓e_Ints, ↓e_fMax, ↓e_fMin, ↓e_Tuple, ↓e_List, ↓e_Bls, ↓e_Is, ↓e_seq, ↓e_skip, ↓e_ret, ↓e_drop, ↓e_ifS, ↓e_never, ↓e_asg, ↓e_par2, ↓e_par3, ↓e_App, ↓e_For, ↓e_While, ↓e_Iter, ↓e_Rng1, ↓e_Rng2, ↓e_Zip2, ↓e_Zip3, ↓e_Lc, ↓e_Yes, ↓e_Dn0, ↓e_DnIn, ↓e_DnGet, ↓e_Dn1, iteG_t, iteG_f, iteG_d, iteG_n, iteG_a, iteG_o, iteG_x, iteG_e, iteG_s, iteG_l, iteG_y, iteF_t, iteF_f, varF_d, varF_o, toD_d, toD_l, toD_a, toDF_d, toDF_l, d2F_d, fAdd_i, fAdd_s, fAdd_t, fAdd_l, fSub_i, fMul_i, fMulR_i, fMulR_t, fMulR_l, fDiv_i, fMod_i, fPow_i, negF_i, cLt_i, cLe_i, cGt_i, cGe_i, cEq_e, cNe_e, isNF_n, isNF_t, isNF_i, dBF_b, boF_b, notVF_b, ch2F_d, chF_d, seqOf_t, seqOf_l, seqOf_o, seqOf_s, seqOf_a, seqF_t, seqF_l, seqF_o, kindOf_t, kindOf_l, kindOf_o, kindOf_a, kindF_t, kindF_l, kindF_o, ixF2_s, ixF_s, slF_t, slF_f, partF_i, allD_n, allD_c, tupF_s, lstF_s, ofDF_s, gInt_i, gInt_b, gAbs_i, gMax2_i, gMin2_i, gN_e, jF_s, lenF_s, intsF2_s, intsF_s, fSum_e, gTF_s, gLF_s, blsF_s, blsF2_s, isF_s, isF2_s, tyn_i, tyn_b, tyn_t, tyn_l, tyn_s, tyn_n, k_ii, k_ib, k_tt, gN1_d, gN1_o, gN1_a, gaF_d, gaF_o, gTup_e, gs_n, gs_c, par2G_e, par2F_s, svOf_d, svOf_o, par3G_e, par3F_s, stF2_s, stF_s, stG_e, gStL_e, gOwn_e, owL_a, apG_e, apI_e, iterF_t, iterF_l, rng1F_e, rng2F_e, zip2F_s, zip2G_e, zip3F_s, zip3G_e, seqD_t, seqD_l, finP_d, finP_o, finP_a, finF_d, finF_o, finJF_d, finJF_o, finJ_d, finJ_o, startD_e, startJ_e, dnI_e, dnIH_e, dnGF_e, dnGetF_e, dnSF_e, dnSH_e, gStDn_e, dn1F_e, atI_0, atI_1, atI_2, ixN_2_0, ixN_2_1, appK_eq, cmp_i, eqv_ii, eqv_nn, cast1, cast2, cast3, List.map_cons, List.map_nil, List.append_nil, List.nil_append, List.cons_append, List.replicate_succ, List.replicate_zero, List.length_cons, List.length_nil, List.getElem?_cons_zero, List.getElem?_cons_succ, List.set_cons_zero, List.set_cons_succ, Option.map_some, Bool.not_true, Bool.not_false, Nat.reduceAdd, Nat.reduceSub, Nat.zero_add, Nat.add_zero, if_true, if_false, decide_true, decide_false, and_true, true_and, Nat.reduceLeDiff, Nat.sub_zero, Nat.sub_self]
  refine iteF_d (fun _ => ?_) (fun q => absurd ok.knee q)
  obtain ⟨t, ts, et, x, hx, x0⟩ := ok.some
  rw [et]
  simp only [↓e_var, ↓e_C, ↓e_dD, ↓e_d2, ↓e_neg, ↓e_isN, ↓e_B, ↓e_And, ↓e_Or, ↓e_Not, ↓e_AndV, ↓e_OrV, ↓e_NotV, ↓e_IfE, ↓e_Chain, ↓e_Ix, ↓e_Sl, ↓e_No, ↓e_Part, ↓e_nil, ↓e_cons, ↓e_Tup, ↓e_Lst, ↓e_CB, ↓e_ofD, ↓e_jOf, ↓e_Len, ↓e_Ints, ↓e_fMax, ↓e_fMin, ↓e_Tuple, ↓e_List, ↓e_Bls, ↓e_Is, ↓e_seq, ↓e_skip, ↓e_ret, ↓e_drop, ↓e_ifS, ↓e_never, ↓e_asg, ↓e_par2, ↓e_par3, ↓e_App, ↓e_For, ↓e_While, ↓e_Iter, ↓e_Rng1, ↓e_Rng2, ↓e_Zip2, ↓e_Zip3, ↓e_Lc, ↓e_Yes, ↓e_Dn0, ↓e_DnIn, ↓e_DnGet, ↓e_Dn1, iteG_t, iteG_f, iteG_d, iteG_n, iteG_a, iteG_o, iteG_x, iteG_e, iteG_s, iteG_l, iteG_y, iteF_t, iteF_f, varF_d, varF_o, toD_d, toD_l, toD_a, toDF_d, toDF_l, d2F_d, fAdd_i, fAdd_s, fAdd_t, fAdd_l, fSub_i, fMul_i, fMulR_i, fMulR_t, fMulR_l, fDiv_i, fMod_i, fPow_i, negF_i, cLt_i, cLe_i, cGt_i, cGe_i, cEq_e, cNe_e, isNF_n, isNF_t, isNF_i, dBF_b, boF_b, notVF_b, ch2F_d, chF_d, seqOf_t, seqOf_l, seqOf_o, seqOf_s, seqOf_a, seqF_t, seqF_l, seqF_o, kindOf_t, kindOf_l, kindOf_o, kindOf_a, kindF_t, kindF_l, kindF_o, ixF2_s, ixF_s, slF_t, slF_f, partF_i, allD_n, allD_c, tupF_s, lstF_s, ofDF_s, gInt_i, gInt_b, gAbs_i, gMax2_i, gMin2_i, gN_e, jF_s, lenF_s, intsF2_s, intsF_s, fSum_e, gTF_s, gLF_s, blsF_s, blsF2_s, isF_s, isF2_s, tyn_i, tyn_b, tyn_t, tyn_l, tyn_s, tyn_n, k_ii, k_ib, k_tt, gN1_d, gN1_o, gN1_a, gaF_d, gaF_o, gTup_e, gs_n, gs_c, par2G_e, par2F_s, svOf_d, svOf_o, par3G_e, par3F_s, stF2_s, stF_s, stG_e, gStL_e, gOwn_e, owL_a, apG_e, apI_e, iterF_t, iterF_l, rng1F_e, rng2F_e, zip2F_s, zip2G_e, zip3F_s, zip3G_e, seqD_t, seqD_l, finP_d, finP_o, finP_a, finF_d, finF_o, finJF_d, finJF_o, finJ_d, finJ_o, startD_e, startJ_e, dnI_e, dnIH_e, dnGF_e, dnGetF_e, dnSF_e, dnSH_e, gStDn_e, dn1F_e, atI_0, atI_1, atI_2, ixN_2_0, ixN_2_1, appK_eq, cmp_i, eqv_ii, eqv_nn, cast1, cast2, cast3, List.map_cons, List.map_nil, List.append_nil, List.nil_append, List.cons_append, List.replicate_succ, List.replicate_zero, List.length_cons, List.length_nil, List.getElem?_cons_zero, List.getElem?_cons_succ, List.set_cons_zero, List.set_cons_succ, Option.map_some, Bool.not_true, Bool.not_false, Nat.reduceAdd, Nat.reduceSub, Nat.zero_add, Nat.add_zero, if_true, if_false, decide_true, decide_false, and_true, true_and, Nat.reduceLeDiff, Nat.sub_zero, Nat.sub_self, intsD]
  refine ⟨fun i hi => ?_, ?_⟩
  · simp only [List.mem_singleton] at hi
    subst hi
    rfl
  refine lcL_maps D.int (fun x => .bl (decide (0 < x))) t [] (fun c hc K hK => ?_) ?_
  · simp only [↓e_var, ↓e_C, ↓e_dD, ↓e_d2, ↓e_neg, ↓e_isN, ↓e_B, ↓e_And, ↓e_Or, ↓e_Not, ↓e_AndV, ↓e_OrV, ↓e_NotV, ↓e_IfE, ↓e_Chain, ↓e_Ix, ↓e_Sl, ↓e_No, ↓e_Part, ↓e_nil, ↓e_cons, ↓e_Tup, ↓e_Lst, ↓e_CB, ↓e_ofD, ↓e_jOf, ↓e_Len, ↓e_Ints, ↓e_fMax, ↓e_fMin, ↓e_Tuple, ↓e_List, ↓e_Bls, ↓e_Is, ↓e_seq, ↓e_skip, ↓e_ret, ↓e_drop, ↓e_ifS, ↓e_never, ↓e_asg, ↓e_par2, ↓e_par3, ↓e_App, ↓e_For, ↓e_While, ↓e_Iter, ↓e_Rng1, ↓e_Rng2, ↓e_Zip2, ↓e_Zip3, ↓e_Lc, ↓e_Yes, ↓e_Dn0, ↓e_DnIn, ↓e_DnGet, ↓e_Dn1, iteG_t, iteG_f, iteG_d, iteG_n, iteG_a, iteG_o, iteG_x, iteG_e, iteG_s, iteG_l, iteG_y, iteF_t, iteF_f, varF_d, varF_o, toD_d, toD_l, toD_a, toDF_d, toDF_l, d2F_d, fAdd_i, fAdd_s, fAdd_t, fAdd_l, fSub_i, fMul_i, fMulR_i, fMulR_t, fMulR_l, fDiv_i, fMod_i, fPow_i, negF_i, cLt_i, cLe_i, cGt_i, cGe_i, cEq_e, cNe_e, isNF_n, isNF_t, isNF_i, dBF_b, boF_b, notVF_b, ch2F_d, chF_d, seqOf_t, seqOf_l, seqOf_o, seqOf_s, seqOf_a, seqF_t, seqF_l, seqF_o, kindOf_t, kindOf_l, kindOf_o, kindOf_a, kindF_t, kindF_l, kindF_o, ixF2_s, ixF_s, slF_t, slF_f, partF_i, allD_n, allD_c, tupF_s, lstF_s, ofDF_s, gInt_i, gInt_b, gAbs_i, gMax2_i, gMin2_i, gN_e, jF_s, lenF_s, intsF2_s, intsF_s, fSum_e, gTF_s, gLF_s, blsF_s, blsF2_s, isF_s, isF2_s, tyn_i, tyn_b, tyn_t, tyn_l, tyn_s, tyn_n, k_ii, k_ib, k_tt, gN1_d, gN1_o, gN1_a, gaF_d, gaF_o, gTup_e, gs_n, gs_c, par2G_e, par2F_s, svOf_d, svOf_o, par3G_e, par3F_s, stF2_s, stF_s, stG_e, gStL_e, gOwn_e, owL_a, apG_e, apI_e, iterF_t, iterF_l, rng1F_e, rng2F_e, zip2F_s, zip2G_e, zip3F_s, zip3G_e, seqD_t, seqD_l, finP_d, finP_o, finP_a, finF_d, finF_o, finJF_d, finJF_o, finJ_d, finJ_o, startD_e, startJ_e, dnI_e, dnIH_e, dnGF_e, dnGetF_e, dnSF_e, dnSH_e, gStDn_e, dn1F_e, atI_0, atI_1, atI_2, ixN_2_0, ixN_2_1, appK_eq, cmp_i, eqv_ii, eqv_nn, cast1, cast2, cast3, List.map_cons, List.map_nil, List.append_nil, List.nil_append, List.cons_append, List.replicate_succ, List.replicate_zero, List.length_cons, List.length_nil, List.getElem?_cons_zero, List.getElem?_cons_succ, List.set_cons_zero, List.set_cons_succ, Option.map_some, Bool.not_true, Bool.not_false, Nat.reduceAdd, Nat.reduceSub, Nat.zero_add, Nat.add_zero, if_true, if_false, decide_true, decide_false, and_true, true_and, Nat.reduceLeDiff, Nat.sub_zero, Nat.sub_self]
    exact hK _ rfl
  simp only [↓e_var, ↓e_C, ↓e_dD, ↓e_d2, ↓e_neg, ↓e_isN, ↓e_B, ↓e_And, ↓e_Or, ↓e_Not, ↓e_AndV, ↓e_OrV, ↓e_NotV, ↓e_IfE, ↓e_Chain, ↓e_Ix, ↓e_Sl, ↓e_No, ↓e_Part, ↓e_nil, ↓e_cons, ↓e_Tup, ↓e_Lst, ↓e_CB, ↓e_ofD, ↓e_jOf, ↓e_Len, ↓e_Ints, ↓e_fMax, ↓e_fMin, ↓e_Tuple, ↓e_List, ↓e_Bls, ↓e_Is, ↓e_seq, ↓e_skip, ↓e_ret, ↓e_drop, ↓e_ifS, ↓e_never, ↓e_asg, ↓e_par2, ↓e_par3, ↓e_App, ↓e_For, ↓e_While, ↓e_Iter, ↓e_Rng1, ↓e_Rng2, ↓e_Zip2, ↓e_Zip3, ↓e_Lc, ↓e_Yes, ↓e_Dn0, ↓e_DnIn, ↓e_DnGet, ↓e_Dn1, iteG_t, iteG_f, iteG_d, iteG_n, iteG_a, iteG_o, iteG_x, iteG_e, iteG_s, iteG_l, iteG_y, iteF_t, iteF_f, varF_d, varF_o, toD_d, toD_l, toD_a, toDF_d, toDF_l, d2F_d, fAdd_i, fAdd_s, fAdd_t, fAdd_l, fSub_i, fMul_i, fMulR_i, fMulR_t, fMulR_l, fDiv_i, fMod_i, fPow_i, negF_i, cLt_i, cLe_i, cGt_i, cGe_i, cEq_e, cNe_e, isNF_n, isNF_t, isNF_i, dBF_b, boF_b, notVF_b, ch2F_d, chF_d, seqOf_t, seqOf_l, seqOf_o, seqOf_s, seqOf_a, seqF_t, seqF_l, seqF_o, kindOf_t, kindOf_l, kindOf_o, kindOf_a, kindF_t, kindF_l, kindF_o, ixF2_s, ixF_s, slF_t, slF_f, partF_i, allD_n, allD_c, tupF_s, lstF_s, ofDF_s, gInt_i, gInt_b, gAbs_i, gMax2_i, gMin2_i, gN_e, jF_s, lenF_s, intsF2_s, intsF_s, fSum_e, gTF_s, gLF_s, blsF_s, blsF2_s, isF_s, isF2_s, tyn_i, tyn_b, tyn_t, tyn_l, tyn_s, tyn_n, k_ii, k_ib, k_tt, gN1_d, gN1_o, gN1_a, gaF_d, gaF_o, gTup_e, gs_n, gs_c, par2G_e, par2F_s, svOf_d, svOf_o, par3G_e, par3F_s, stF2_s, stF_s, stG_e, gStL_e, gOwn_e, owL_a, apG_e, apI_e, iterF_t, iterF_l, rng1F_e, rng2F_e, zip2F_s, zip2G_e, zip3F_s, zip3G_e, seqD_t, seqD_l, finP_d, finP_o, finP_a, finF_d, finF_o, finJF_d, finJF_o, finJ_d, finJ_o, startD_e, startJ_e, dnI_e, dnIH_e, dnGF_e, dnGetF_e, dnSF_e, dnSH_e, gStDn_e, dn1F_e, atI_0, atI_1, atI_2, ixN_2_0, ixN_2_1, appK_eq, cmp_i, eqv_ii, eqv_nn, cast1, cast2, cast3, List.map_cons, List.map_nil, List.append_nil, List.nil_append, List.cons_append, List.replicate_succ, List.replicate_zero, List.length_cons, List.length_nil, List.getElem?_cons_zero, List.getElem?_cons_succ, List.set_cons_zero, List.set_cons_succ, Option.map_some, Bool.not_true, Bool.not_false, Nat.reduceAdd, Nat.reduceSub, Nat.zero_add, Nat.add_zero, if_true, if_false, decide_true, decide_false, and_true, true_and, Nat.reduceLeDiff, Nat.sub_zero, Nat.sub_self, blsOf_maps (fun x : Int => decide (0 < x))]
  have e : (t.map fun x : Int => decide (0 < x)).any id = true := by
    rw [List.any_map, List.any_eq_true]
    exact ⟨x, hx, by simpa using x0⟩
  rw [e]
  exact h
def Dx_is_row (P : Program) (w : World) (K : PySem.W.Frag) (mg : Str → Option Value) (base : Heap) : Prop := ∃ f fd, Def P w K mg base 3 "is_row" f fd ["value"] (spP (bas P w K) 1 sp_is_row)
theorem ok_is_row {P : Program} {w : World} {K : PySem.W.Frag} {mg : Str → Option Value} {base : Heap} (M : Mg mg) (D_all_fillings : Dx_all_fillings P w K mg base) (D_is_tap : Dx_is_tap P w K mg base) (D_is_cup : Dx_is_cup P w K mg base) (D_is_int : Dx_is_int P w K mg base) {f : Addr} {fd : FuncData} (F : FunD K "is_row" "is_row" (defArgs s_is_row) (defBody s_is_row) (defScope s_is_row) [] [] f fd) : FnOk P w K mg base CX0 3 f fd ["value"] (spP (bas P w K) 1 sp_is_row) := by
  obtain ⟨a_all_fillings, fd_all_fillings, D_all_fillings⟩ := D_all_fillings
  obtain ⟨a_is_tap, fd_is_tap, D_is_tap⟩ := D_is_tap
  obtain ⟨a_is_cup, fd_is_cup, D_is_cup⟩ := D_is_cup
  obtain ⟨a_is_int, fd_is_int, D_is_int⟩ := D_is_int
  exact okP (tb := t_is_row) F sc_is_row (fun cdv A outer s H E hr =>
    (dss_cons (ds_if ((dw_or (dt_not (dt_val (de_callB (call_isi) (snd_is.toC) (by rfl) M.f_isinstance rfl (da_cons (de_data (de_var (pv 0))) (da_cons (de_ty (by rfl) M.f_tuple rfl) da_nil))))) (dw_or (dt_ne hr.units (de_callB (call_len_seq) (snd_len) (by rfl) M.f_len rfl (da_cons (de_var (pv 0)) da_nil)) de_int) (dw_or1 (dt_not (dt_val (de_call D_is_int.own (hr.mono (by decide)) (by rfl) (da_cons (de_data (de_ix (de_var (pv 0)) de_int)) (da_cons de_int (da_cons (de_gint (by rfl) M.c_MOST_PERIOD) da_nil)))))))))).pt (dss_one (ds_ret de_bl)) dss_nil)
      (dss_cons (ds_asg (de_var (pv 0)) (dg_tup rfl (dgs_cons (dg_name sc_is_row.nd (i := 1) rfl (by first | exact .inl rfl | exact .inr rfl) (by first | exact .inl rfl | exact .inr (by decide))) (dgs_cons (dg_name sc_is_row.nd (i := 2) rfl (by first | exact .inl rfl | exact .inr rfl) (by first | exact .inl rfl | exact .inr (by decide))) (dgs_cons (dg_name sc_is_row.nd (i := 3) rfl (by first | exact .inl rfl | exact .inr rfl) (by first | exact .inl rfl | exact .inr (by decide))) (dgs_nil (ws := [])))))))
      (dss_cons (ds_if ((dw_or (dt_not (dt_val (de_callB (call_isi) (snd_is.toC) (by rfl) M.f_isinstance rfl (da_cons (de_data (de_var (pv 2))) (da_cons (de_ty (by rfl) M.f_tuple rfl) da_nil))))) (dw_or (dt_not (dt_chain op_le op_le snd_le snd_le de_int (de_callB (call_len_seq) (snd_len) (by rfl) M.f_len rfl (da_cons (de_var (pv 2)) da_nil)) (de_gint (by rfl) M.c_MOST_CUPS))) (dw_or1 (dt_not (dt_val (de_callB (cr_all rfl) (snd_all) (by rfl) M.f_all rfl (da_cons (de_lc (own := [("cup", 4)]) rfl sc_is_row.nd (di_seq (de_var (pv 2))) (blkOk_by (own := [("cup", 4)]) (N := N_is_row) (sc := defScope s_is_row) (by decide +kernel)) (fun s H A cl fp => (dg_name sc_is_row.nd (i := 4) rfl (by first | exact .inl rfl | exact .inr rfl) (by first | exact .inl rfl | exact .inr (by decide)))) (fun s H A cl fp => dts_nil) (fun s H A cl fp => (de_data (de_call D_is_cup.own (hr.mono (by decide)) (by rfl) (da_cons (de_data (de_var (pv 4))) da_nil))))) da_nil)))))))).pt (dss_one (ds_ret de_bl)) dss_nil)
      (dss_cons (ds_if ((dw_or (dt_not (dt_val (de_callB (call_isi) (snd_is.toC) (by rfl) M.f_isinstance rfl (da_cons (de_data (de_var (pv 3))) (da_cons (de_ty (by rfl) M.f_tuple rfl) da_nil))))) (dw_or (dt_ne hr.units (de_callB (call_len_seq) (snd_len) (by rfl) M.f_len rfl (da_cons (de_var (pv 3)) da_nil)) (de_callB (call_len_seq) (snd_len) (by rfl) M.f_len rfl (da_cons (de_var (pv 2)) da_nil))) (dw_or1 (dt_not (dt_val (de_callB (cr_all rfl) (snd_all) (by rfl) M.f_all rfl (da_cons (de_lc (own := [("tap", 5)]) rfl sc_is_row.nd (di_seq (de_var (pv 3))) (blkOk_by (own := [("tap", 5)]) (N := N_is_row) (sc := defScope s_is_row) (by decide +kernel)) (fun s H A cl fp => (dg_name sc_is_row.nd (i := 5) rfl (by first | exact .inl rfl | exact .inr rfl) (by first | exact .inl rfl | exact .inr (by decide)))) (fun s H A cl fp => dts_nil) (fun s H A cl fp => (de_data (de_call D_is_tap.own (hr.mono (by decide)) (by rfl) (da_cons (de_data (de_var (pv 1))) (da_cons (de_data (de_var (pv 5))) da_nil)))))) da_nil)))))))).pt (dss_one (ds_ret de_bl)) dss_nil)
      (dss_one (ds_ret (de_and (de_le (de_call D_all_fillings.own (hr.mono (by decide)) (by rfl) (da_cons (de_data (de_var (pv 2))) da_nil)) (de_gint (by rfl) M.c_MOST_FILLINGS)) (de_one (de_callB (cr_any rfl) (snd_any) (by rfl) M.f_any rfl (da_cons (de_lc (own := [("amount", 6)]) rfl sc_is_row.nd (di_seq (de_ix (de_var (pv 3)) de_int)) (blkOk_by (own := [("amount", 6)]) (N := N_is_row) (sc := defScope s_is_row) (by decide +kernel)) (fun s H A cl fp => (dg_name sc_is_row.nd (i := 6) rfl (by first | exact .inl rfl | exact .inr rfl) (by first | exact .inl rfl | exact .inr (by decide)))) (fun s H A cl fp => dts_nil) (fun s H A cl fp => (de_data (de_gt (de_var (pv 6)) de_int)))) da_nil))))))))))) rd_is_row
def N_is_filling_of : List Str := ["row", "value", "amount", "cup"]
theorem sc_is_filling_of : FnScope N_is_filling_of ["row", "value"] (defScope s_is_filling_of) := ⟨rfl, rfl, rfl, by decide +kernel, rfl, by decide +kernel, by decide +kernel⟩
def t_is_filling_of : DTS :=
    (dSeq (dIfS (dOr (dNot (dB (dCB (ofD gIs) (dCons (dD (dVar 1)) (dCons (dC (.ty "tuple")) dNil))))) (dB (d2 cNe (dD (dCB gLen (dCons (dVar 1) dNil))) (dD (dCB gLen (dCons (dIx (dVar 0) (dC (.int 1))) dNil)))))) (dRet (dC (.bl false))) dSkip)
      (dRet (dCB (gBls fun bs => .bl (bs.all id)) (dCons (dLc (dZip2 (dCons (dD (dVar 1)) (dCons (dD (dIx (dVar 0) (dC (.int 1)))) dNil))) (gTupD 2 (gsCons (gN1 2) (gsCons (gN1 3) gsNil))) dYes (dD (dCB (ofD (gN 3 sp_is_int)) (dCons (dD (dVar 2)) (dCons (dC (.int 0)) (dCons (dD (d2 fSub (dD (dIx (dVar 3) (dC (.int 0)))) (dD (dC (.int 1))))) dNil))))) [2, 3]) dNil))))
def sp_is_filling_of : DFd := fun ds R => ∃ r f, ds = [rowD r, intsD f] ∧ FillOk r.cups f ∧ R (.d (.bl true))
theorem rd_is_filling_of : ∀ ds R, ds.length = 2 → sp_is_filling_of ds R → t_is_filling_of { nx := fun _ => R (.d .non), rt := finP R } (startD N_is_filling_of ds) := by
  rintro ds R - ⟨r, f, rfl, ok, h⟩
  simp only [↓e_var, ↓e_C, ↓e_dD, ↓e_d2, ↓e_neg, ↓e_isN, ↓e_B, ↓e_And, ↓e_Or, ↓e_Not, ↓e_AndV, ↓e_OrV, ↓e_NotV, ↓e_IfE, ↓e_Chain, ↓e_Ix, ↓e_Sl, ↓e_No, ↓e_Part, ↓e_nil, ↓e_cons, ↓e_Tup, ↓e_Lst, ↓e_CB, ↓e_ofD, ↓e_jOf, ↓e_Len, ↓e_Ints, ↓e_fMax, ↓e_fMin, ↓e_Tuple, ↓e_List, ↓e_Bls, ↓e_Is, ↓e_seq, ↓e_skip, ↓e_ret, ↓e_drop, ↓e_ifS, ↓e_never, ↓e_asg, ↓e_par2, ↓e_par3, ↓e_App, ↓e_For, ↓e_While, ↓e_Iter, ↓e_Rng1, ↓e_Rng2, ↓e_Zip2, ↓e_Zip3, ↓e_Lc, ↓e_Yes, ↓e_Dn0, ↓e_DnIn, ↓e_DnGet, ↓e_Dn1, iteG_t, iteG_f, iteG_d, iteG_n, iteG_a, iteG_o, iteG_x, iteG_e, iteG_s, iteG_l, iteG_y, iteF_t, iteF_f, varF_d, varF_o, toD_d, toD_l, toD_a, toDF_d, toDF_l, d2F_d, fAdd_i, fAdd_s, fAdd_t, fAdd_l, fSub_i, fMul_i, fMulR_i, fMulR_t, fMulR_l, fDiv_i, fMod_i, fPow_i, negF_i, cLt_i, cLe_i, cGt_i, cGe_i, cEq_e, cNe_e, isNF_n, isNF_t, isNF_i, dBF_b, boF_b, notVF_b, ch2F_d, chF_d, seqOf_t, seqOf_l, seqOf_o, seqOf_s, seqOf_a, seqF_t, seqF_l, seqF_o, kindOf_t, kindOf_l, kindOf_o, kindOf_a, kindF_t, kindF_l, kindF_o, ixF2_s, ixF_s, slF_t, slF_f, partF_i, allD_n, allD_c, tupF_s, lstF_s, ofDF_s, gInt_i, gInt_b, gAbs_i, gMax2_i, gMin2_i, gN_e, jF_s, lenF_s, intsF2_s, intsF_s, fSum_e, gTF_s, gLF_s, blsF_s, blsF2_s, isF_s, isF2_s, tyn_i, tyn_b, tyn_t, tyn_l, tyn_s, tyn_n, k_ii, k_ib, k_tt, gN1_d, gN1_o, gN1_a, gaF_d, gaF_o, gTup_e, gs_n, gs_c, par2G_e, par2F_s, svOf_d, svOf_o, par3G_e, par3F_s, stF2_s, stF_s, stG_e, gStL_e, gOwn_e, owL_a, apG_e, apI_e, iterF_t, iterF_l, rng1F_e, rng2F_e, zip2F_s, zip2G_e, zip3F_s, zip3G_e, seqD_t, seqD_l, finP_d, finP_o, finP_a, finF_d, finF_o, finJF_d, finJF_o, finJ_d, finJ_o, startD_e, startJ_e, dnI_e, dnIH_e, dnGF_e, dnGetF_e, dnSF_e, dnSH_e, gStDn_e, dn1F_e, atI_0, atI_1, atI_2, ixN_2_0, ixN_2_1, appK_eq, cmp_i, eqv_ii, eqv_nn, cast1, cast2, cast3, List.map_cons, List.map_nil, List.append_nil, List.nil_append, List.cons_append, List.replicate_succ, List.replicate_zero, List.length_cons, List.length_nil, List.getElem?_cons_zero, List.getElem?_cons_succ, List.set_cons_zero, List.set_cons_succ, Option.map_some, Bool.not_true, Bool.not_false, Nat.reduceAdd, Nat.reduceSub, Nat.zero_add, Nat.add_zero, if_true, if_false, decide_true, decide_false, and_true, true_and, Nat.reduceLeDiff, Nat.sub_zero, Nat.sub_self, t_is_filling_of, N_is_filling_of, rowD, intsD, zipD2_maps]
  refine iteF_n (fun q => absurd (by rw [List.length_map, List.length_map, ok.length]) q) (fun _ => ?_)
  refine ⟨fun i hi => ?_, ?_⟩
  · simp only [List.mem_cons, List.not_mem_nil, or_false] at hi
    rcases hi with rfl | rfl <;> rfl
  refine lcL_maps (fun p : Int × Cup => D.tup [D.int p.1, cupD p.2]) (fun _ => .bl true) _ [] (fun c hc K hK => ?_) ?_
  · have hz := ok.zip c hc
    simp only [↓e_var, ↓e_C, ↓e_dD, ↓e_d2, ↓e_neg, ↓e_isN, ↓e_B, ↓e_And, ↓e_Or, ↓e_Not, ↓e_AndV, ↓e_OrV, ↓e_NotV, ↓e_IfE, ↓e_Chain, ↓e_Ix, ↓e_Sl, ↓e_No, ↓e_Part, ↓e_nil, ↓e_cons, ↓e_Tup, ↓e_Lst, ↓e_CB, ↓e_ofD, ↓e_jOf, ↓e_Len, ↓e_Ints, ↓e_fMax, ↓e_fMin, ↓e_Tuple, ↓e_List, ↓e_Bls, ↓e_Is, ↓e_seq, ↓e_skip, ↓e_ret, ↓e_drop, ↓e_ifS, ↓e_never, ↓e_asg, ↓e_par2, ↓e_par3, ↓e_App, ↓e_For, ↓e_While, ↓e_Iter, ↓e_Rng1, ↓e_Rng2, ↓e_Zip2, ↓e_Zip3, ↓e_Lc, ↓e_Yes, ↓e_Dn0, ↓e_DnIn, ↓e_DnGet, ↓e_Dn1, iteG_t, iteG_f, iteG_d, iteG_n, iteG_a, iteG_o, iteG_x, iteG_e, iteG_s, iteG_l, iteG_y, iteF_t, iteF_f, varF_d, varF_o, toD_d, toD_l, toD_a, toDF_d, toDF_l, d2F_d, fAdd_i, fAdd_s, fAdd_t, fAdd_l, fSub_i, fMul_i, fMulR_i, fMulR_t, fMulR_l, fDiv_i, fMod_i, fPow_i, negF_i, cLt_i, cLe_i, cGt_i, cGe_i, cEq_e, cNe_e, isNF_n, isNF_t, isNF_i, dBF_b, boF_b, notVF_b, ch2F_d, chF_d, seqOf_t, seqOf_l, seqOf_o, seqOf_s, seqOf_a, seqF_t, seqF_l, seqF_o, kindOf_t, kindOf_l, kindOf_o, kindOf_a, kindF_t, kindF_l, kindF_o, ixF2_s, ixF_s, slF_t, slF_f, partF_i, allD_n, allD_c, tupF_s, lstF_s, ofDF_s, gInt_i, gInt_b, gAbs_i, gMax2_i, gMin2_i, gN_e, jF_s, lenF_s, intsF2_s, intsF_s, fSum_e, gTF_s, gLF_s, blsF_s, blsF2_s, isF_s, isF2_s, tyn_i, tyn_b, tyn_t, tyn_l, tyn_s, tyn_n, k_ii, k_ib, k_tt, gN1_d, gN1_o, gN1_a, gaF_d, gaF_o, gTup_e, gs_n, gs_c, par2G_e, par2F_s, svOf_d, svOf_o, par3G_e, par3F_s, stF2_s, stF_s, stG_e, gStL_e, gOwn_e, owL_a, apG_e, apI_e, iterF_t, iterF_l, rng1F_e, rng2F_e, zip2F_s, zip2G_e, zip3F_s, zip3G_e, seqD_t, seqD_l, finP_d, finP_o, finP_a, finF_d, finF_o, finJF_d, finJF_o, finJ_d, finJ_o, startD_e, startJ_e, dnI_e, dnIH_e, dnGF_e, dnGetF_e, dnSF_e, dnSH_e, gStDn_e, dn1F_e, atI_0, atI_1, atI_2, ixN_2_0, ixN_2_1, appK_eq, cmp_i, eqv_ii, eqv_nn, cast1, cast2, cast3, List.map_cons, List.map_nil, List.append_nil, List.nil_append, List.cons_append, List.replicate_succ, List.replicate_zero, List.length_cons, List.length_nil, List.getElem?_cons_zero, List.getElem?_cons_succ, List.set_cons_zero, List.set_cons_succ, Option.map_some, Bool.not_true, Bool.not_false, Nat.reduceAdd, Nat.reduceSub, Nat.zero_add, Nat.add_zero, if_true, if_false, decide_true, decide_false, and_true, true_and, Nat.reduceLeDiff, Nat.sub_zero, Nat.sub_self, cupD]
    refine yes_int hz.1 hz.2 ?_
    simp only [↓e_var, ↓e_C, ↓e_dD, ↓e_d2, ↓e_neg, ↓e_isN, ↓e_B, ↓e_And, ↓e_Or, ↓e_Not, ↓e_AndV, ↓e_OrV, ↓e_NotV, ↓e_IfE, ↓e_Chain, ↓e_Ix, ↓e_Sl, ↓e_No, ↓e_Part, ↓e_nil, ↓e_cons, ↓e_Tup, ↓e_Lst, ↓e_CB, ↓e_ofD, ↓e_jOf, ↓e_Len, ↓e_Ints, ↓e_fMax, ↓e_fMin, ↓e_Tuple, ↓e_List, ↓e_Bls, ↓e_Is, ↓e_seq, ↓e_skip, ↓e_ret, ↓e_drop, ↓e_ifS, ↓e_never, ↓e_asg, ↓e_par2, ↓e_par3, ↓e_App, ↓e_For, ↓e_While, ↓e_Iter, ↓e_Rng1, ↓e_Rng2, ↓e_Zip2, ↓e_Zip3, ↓e_Lc, ↓e_Yes, ↓e_Dn0, ↓e_DnIn, ↓e_DnGet, ↓e_Dn1, iteG_t, iteG_f, iteG_d, iteG_n, iteG_a, iteG_o, iteG_x, iteG_e, iteG_s, iteG_l, iteG_y, iteF_t, iteF_f, varF_d, varF_o, toD_d, toD_l, toD_a, toDF_d, toDF_l, d2F_d, fAdd_i, fAdd_s, fAdd_t, fAdd_l, fSub_i, fMul_i, fMulR_i, fMulR_t, fMulR_l, fDiv_i, fMod_i, fPow_i, negF_i, cLt_i, cLe_i, cGt_i, cGe_i, cEq_e, cNe_e, isNF_n, isNF_t, isNF_i, dBF_b, boF_b, notVF_b, ch2F_d, chF_d, seqOf_t, seqOf_l, seqOf_o, seqOf_s, seqOf_a, seqF_t, seqF_l, seqF_o, kindOf_t, kindOf_l, kindOf_o, kindOf_a, kindF_t, kindF_l, kindF_o, ixF2_s, ixF_s, slF_t, slF_f, partF_i, allD_n, allD_c, tupF_s, lstF_s, ofDF_s, gInt_i, gInt_b, gAbs_i, gMax2_i, gMin2_i, gN_e, jF_s, lenF_s, intsF2_s, intsF_s, fSum_e, gTF_s, gLF_s, blsF_s, blsF2_s, isF_s, isF2_s, tyn_i, tyn_b, tyn_t, tyn_l, tyn_s, tyn_n, k_ii, k_ib, k_tt, gN1_d, gN1_o, gN1_a, gaF_d, gaF_o, gTup_e, gs_n, gs_c, par2G_e, par2F_s, svOf_d, svOf_o, par3G_e, par3F_s, stF2_s, stF_s, stG_e, gStL_e, gOwn_e, owL_a, apG_e, apI_e, iterF_t, iterF_l, rng1F_e, rng2F_e, zip2F_s, zip2G_e, zip3F_s, zip3G_e, seqD_t, seqD_l, finP_d, finP_o, finP_a, finF_d, finF_o, finJF_d, finJF_o, finJ_d, finJ_o, startD_e, startJ_e, dnI_e, dnIH_e, dnGF_e, dnGetF_e, dnSF_e, dnSH_e, gStDn_e, dn1F_e, atI_0, atI_1, atI_2, ixN_2_0, ixN_2_1, appK_eq, cmp_i, eqv_ii, eqv_nn, cast1, cast2, cast3, List.map_cons, List.map_nil, List.append_nil, List.nil_append, List.cons_append, List.replicate_succ, List.replicate_zero, List.length_cons, List.length_nil, List.getElem?_cons_zero, List.getElem?_cons_succ, List.set_cons_zero, List.set_cons_succ, Option.map_some, Bool.not_true, Bool.not_false, Nat.reduceAdd, Nat.reduceSub, Nat.zero_add, Nat.add_zero, if_true, if_false, decide_true, decide_false, and_true, true_and, Nat.reduceLeDiff, Nat.sub_zero, Nat.sub_self]
    exact hK _ rfl
  simp only [↓e_var, ↓e_C, ↓e_dD, ↓e_d2, ↓e_neg, ↓e_isN, ↓e_B, ↓e_And, ↓e_Or, ↓e_Not, ↓e_AndV, ↓e_OrV, ↓e_NotV, ↓e_IfE, ↓e_Chain, ↓e_Ix, ↓e_Sl, ↓e_No, ↓e_Part, ↓e_nil, ↓e_cons, ↓e_Tup, ↓e_Lst, ↓e_CB, ↓e_ofD, ↓e_jOf, ↓e_Len, ↓e_Ints, ↓e_fMax, ↓e_fMin, ↓e_Tuple, ↓e_List, ↓e_Bls, ↓e_Is, ↓e_seq, ↓e_skip, ↓e_ret, ↓e_drop, ↓e_ifS, ↓e_never, ↓e_asg, ↓e_par2, ↓e_par3, ↓e_App, ↓e_For, ↓e_While, ↓e_Iter, ↓e_Rng1, ↓e_Rng2, ↓e_Zip2, ↓e_Zip3, ↓e_Lc, ↓e_Yes, ↓e_Dn0, ↓e_DnIn, ↓e_DnGet, ↓e_Dn1, iteG_t, iteG_f, iteG_d, iteG_n, iteG_a, iteG_o, iteG_x, iteG_e, iteG_s, iteG_l, iteG_y, iteF_t, iteF_f, varF_d, varF_o, toD_d, toD_l, toD_a, toDF_d, toDF_l, d2F_d, fAdd_i, fAdd_s, fAdd_t, fAdd_l, fSub_i, fMul_i, fMulR_i, fMulR_t, fMulR_l, fDiv_i, fMod_i, fPow_i, negF_i, cLt_i, cLe_i, cGt_i, cGe_i, cEq_e, cNe_e, isNF_n, isNF_t, isNF_i, dBF_b, boF_b, notVF_b, ch2F_d, chF_d, seqOf_t, seqOf_l, seqOf_o, seqOf_s, seqOf_a, seqF_t, seqF_l, seqF_o, kindOf_t, kindOf_l, kindOf_o, kindOf_a, kindF_t, kindF_l, kindF_o, ixF2_s, ixF_s, slF_t, slF_f, partF_i, allD_n, allD_c, tupF_s, lstF_s, ofDF_s, gInt_i, gInt_b, gAbs_i, gMax2_i, gMin2_i, gN_e, jF_s, lenF_s, intsF2_s, intsF_s, fSum_e, gTF_s, gLF_s, blsF_s, blsF2_s, isF_s, isF2_s, tyn_i, tyn_b, tyn_t, tyn_l, tyn_s, tyn_n, k_ii, k_ib, k_tt, gN1_d, gN1_o, gN1_a, gaF_d, gaF_o, gTup_e, gs_n, gs_c, par2G_e, par2F_s, svOf_d, svOf_o, par3G_e, par3F_s, stF2_s, stF_s, stG_e, gStL_e, gOwn_e, owL_a, apG_e, apI_e, iterF_t, iterF_l, rng1F_e, rng2F_e, zip2F_s, zip2G_e, zip3F_s, zip3G_e, seqD_t, seqD_l, finP_d, finP_o, finP_a, finF_d, finF_o, finJF_d, finJF_o, finJ_d, finJ_o, startD_e, startJ_e, dnI_e, dnIH_e, dnGF_e, dnGetF_e, dnSF_e, dnSH_e, gStDn_e, dn1F_e, atI_0, atI_1, atI_2, ixN_2_0, ixN_2_1, appK_eq, cmp_i, eqv_ii, eqv_nn, cast1, cast2, cast3, List.map_cons, List.map_nil, List.append_nil, List.nil_append, List.cons_append, List.replicate_succ, List.replicate_zero, List.length_cons, List.length_nil, List.getElem?_cons_zero, List.getElem?_cons_succ, List.set_cons_zero, List.set_cons_succ, Option.map_some, Bool.not_true, Bool.not_false, Nat.reduceAdd, Nat.reduceSub, Nat.zero_add, Nat.add_zero, if_true, if_false, decide_true, decide_false, and_true, true_and, Nat.reduceLeDiff, Nat.sub_zero, Nat.sub_self, blsOf_maps (fun _ : Int × Cup => true), all_yes]
  exact h
def Dx_is_filling_of (P : Program) (w : World) (K : PySem.W.Frag) (mg : Str → Option Value) (base : Heap) : Prop := ∃ f fd, Def P w K mg base 2 "is_filling_of" f fd ["row", "value"] (spP (bas P w K) 2 sp_is_filling_of)
theorem ok_is_filling_of {P : Program} {w : World} {K : PySem.W.Frag} {mg : Str → Option Value} {base : Heap} (M : Mg mg) (D_is_int : Dx_is_int P w K mg base) {f : Addr} {fd : FuncData} (F : FunD K "is_filling_of" "is_filling_of" (defArgs s_is_filling_of) (defBody s_is_filling_of) (defScope s_is_filling_of) [] [] f fd) : FnOk P w K mg base CX0 2 f fd ["row", "value"] (spP (bas P w K) 2 sp_is_filling_of) := by
  obtain ⟨a_is_int, fd_is_int, D_is_int⟩ := D_is_int
  exact okP (tb := t_is_filling_of) F sc_is_filling_of (fun cdv A outer s H E hr =>
    (dss_cons (ds_if ((dw_or (dt_not (dt_val (de_callB (call_isi) (snd_is.toC) (by rfl) M.f_isinstance rfl (da_cons (de_data (de_var (pv 1))) (da_cons (de_ty (by rfl) M.f_tuple rfl) da_nil))))) (dw_or1 (dt_ne hr.units (de_callB (call_len_seq) (snd_len) (by rfl) M.f_len rfl (da_cons (de_var (pv 1)) da_nil)) (de_callB (call_len_seq) (snd_len) (by rfl) M.f_len rfl (da_cons (de_ix (de_var (pv 0)) de_int) da_nil)))))).pt (dss_one (ds_ret de_bl)) dss_nil)
      (dss_one (ds_ret (de_callB (cr_all rfl) (snd_all) (by rfl) M.f_all rfl (da_cons (de_lc (own := [("amount", 2), ("cup", 3)]) rfl sc_is_filling_of.nd (di_zip2 (by rfl) M.f_zip (da_cons (de_data (de_var (pv 1))) (da_cons (de_data (de_ix (de_var (pv 0)) de_int)) da_nil))) (blkOk_by (own := [("amount", 2), ("cup", 3)]) (N := N_is_filling_of) (sc := defScope s_is_filling_of) (by decide +kernel)) (fun s H A cl fp => (dg_tup rfl (dgs_cons (dg_name sc_is_filling_of.nd (i := 2) rfl (by first | exact .inl rfl | exact .inr rfl) (by first | exact .inl rfl | exact .inr (by decide))) (dgs_cons (dg_name sc_is_filling_of.nd (i := 3) rfl (by first | exact .inl rfl | exact .inr rfl) (by first | exact .inl rfl | exact .inr (by decide))) (dgs_nil (ws := [])))))) (fun s H A cl fp => dts_nil) (fun s H A cl fp => (de_data (de_call D_is_int.own (hr.mono (by decide)) (by rfl) (da_cons (de_data (de_var (pv 2))) (da_cons de_int (da_cons (de_data (de_sub (de_ix (de_var (pv 3)) de_int) de_int)) da_nil))))))) da_nil)))))) rd_is_filling_of
def N_need_row : List Str := ["row"]
theorem sc_need_row : FnScope N_need_row ["row"] (defScope s_need_row) := ⟨rfl, rfl, rfl, by decide +kernel, rfl, by decide +kernel, by decide +kernel⟩
def t_need_row : DTS :=
    (dIfS (dNot (dB (dCB (ofD (gN 1 sp_is_row)) (dCons (dD (dVar 0)) dNil)))) dNever dSkip)
def sp_need_row : DFd := fun ds R => ∃ r, ds = [rowD r] ∧ r.Ok ∧ R (.d .non)
theorem rd_need_row : ∀ ds R, ds.length = 1 → sp_need_row ds R → t_need_row { nx := fun _ => R (.d .non), rt := finP R } (startD N_need_row ds) := by
  rintro ds R - ⟨r, rfl, ok, h⟩
  simp only [↓e_var, ↓e_C, ↓e_dD, ↓e_d2, ↓e_neg, ↓e_isN, ↓e_B, ↓e_And, ↓e_Or, ↓e_Not, ↓e_AndV, ↓e_OrV, ↓e_NotV, ↓e_IfE, ↓e_Chain, ↓e_Ix, ↓e_Sl, ↓e_No, ↓e_Part, ↓e_nil, ↓e_cons, ↓e_Tup, ↓e_Lst, ↓e_CB, ↓e_ofD, ↓e_jOf, ↓e_Len, ↓e_Ints, ↓e_fMax, ↓e_fMin, ↓e_Tuple, ↓e_List, ↓e_Bls, ↓e_Is, ↓e_seq, ↓e_skip, ↓e_ret, ↓e_drop, ↓e_ifS, ↓e_never, ↓e_asg, ↓e_par2, ↓e_par3, ↓e_App, ↓e_For, ↓e_While, ↓e_Iter, ↓e_Rng1, ↓e_Rng2, ↓e_Zip2, ↓e_Zip3, ↓e_Lc, ↓e_Yes, ↓e_Dn0, ↓e_DnIn, ↓e_DnGet, ↓e_Dn1, iteG_t, iteG_f, iteG_d, iteG_n, iteG_a, iteG_o, iteG_x, iteG_e, iteG_s, iteG_l, iteG_y, iteF_t, iteF_f, varF_d, varF_o, toD_d, toD_l, toD_a, toDF_d, toDF_l, d2F_d, fAdd_i, fAdd_s, fAdd_t, fAdd_l, fSub_i, fMul_i, fMulR_i, fMulR_t, fMulR_l, fDiv_i, fMod_i, fPow_i, negF_i, cLt_i, cLe_i, cGt_i, cGe_i, cEq_e, cNe_e, isNF_n, isNF_t, isNF_i, dBF_b, boF_b, notVF_b, ch2F_d, chF_d, seqOf_t, seqOf_l, seqOf_o, seqOf_s, seqOf_a, seqF_t, seqF_l, seqF_o, kindOf_t, kindOf_l, kindOf_o, kindOf_a, kindF_t, kindF_l, kindF_o, ixF2_s, ixF_s, slF_t, slF_f, partF_i, allD_n, allD_c, tupF_s, lstF_s, ofDF_s, gInt_i, gInt_b, gAbs_i, gMax2_i, gMin2_i, gN_e, jF_s, lenF_s, intsF2_s, intsF_s, fSum_e, gTF_s, gLF_s, blsF_s, blsF2_s, isF_s, isF2_s, tyn_i, tyn_b, tyn_t, tyn_l, tyn_s, tyn_n, k_ii, k_ib, k_tt, gN1_d, gN1_o, gN1_a, gaF_d, gaF_o, gTup_e, gs_n, gs_c, par2G_e, par2F_s, svOf_d, svOf_o, par3G_e, par3F_s, stF2_s, stF_s, stG_e, gStL_e, gOwn_e, owL_a, apG_e, apI_e, iterF_t, iterF_l, rng1F_e, rng2F_e, zip2F_s, zip2G_e, zip3F_s, zip3G_e, seqD_t, seqD_l, finP_d, finP_o, finP_a, finF_d, finF_o, finJF_d, finJF_o, finJ_d, finJ_o, startD_e, startJ_e, dnI_e, dnIH_e, dnGF_e, dnGetF_e, dnSF_e, dnSH_e, gStDn_e, dn1F_e, atI_0, atI_1, atI_2, ixN_2_0, ixN_2_1, appK_eq, cmp_i, eqv_ii, eqv_nn, cast1, cast2, cast3, List.map_cons, List.map_nil, List.append_nil, List.nil_append, List.cons_append, List.replicate_succ, List.replicate_zero, List.length_cons, List.length_nil, List.getElem?_cons_zero, List.getElem?_cons_succ, List.set_cons_zero, List.set_cons_succ, Option.map_some, Bool.not_true, Bool.not_false, Nat.reduceAdd, Nat.reduceSub, Nat.zero_add, Nat.add_zero, if_true, if_false, decide_true, decide_false, and_true, true_and, Nat.reduceLeDiff, Nat.sub_zero, Nat.sub_self, t_need_row, N_need_row]
  refine ⟨rfl, r, rfl, ok, ?_⟩
  simp only [↓e_var, ↓e_C, ↓e_dD, ↓e_d2, ↓e_neg, ↓e_isN, ↓e_B, ↓e_And, ↓e_Or, ↓e_Not, ↓e_AndV, ↓e_OrV, ↓e_NotV, ↓e_IfE, ↓e_Chain, ↓e_Ix, ↓e_Sl, ↓e_No, ↓e_Part, ↓e_nil, ↓e_cons, ↓e_Tup, ↓e_Lst, ↓e_CB, ↓e_ofD, ↓e_jOf, ↓e_Len, ↓e_Ints, ↓e_fMax, ↓e_fMin, ↓e_Tuple, ↓e_List, ↓e_Bls, ↓e_Is, ↓e_seq, ↓e_skip, ↓e_ret, ↓e_drop, ↓e_ifS, ↓e_never, ↓e_asg, ↓e_par2, ↓e_par3, ↓e_App, ↓e_For, ↓e_While, ↓e_Iter, ↓e_Rng1, ↓e_Rng2, ↓e_Zip2, ↓e_Zip3, ↓e_Lc, ↓e_Yes, ↓e_Dn0, ↓e_DnIn, ↓e_DnGet, ↓e_Dn1, iteG_t, iteG_f, iteG_d, iteG_n, iteG_a, iteG_o, iteG_x, iteG_e, iteG_s, iteG_l, iteG_y, iteF_t, iteF_f, varF_d, varF_o, toD_d, toD_l, toD_a, toDF_d, toDF_l, d2F_d, fAdd_i, fAdd_s, fAdd_t, fAdd_l, fSub_i, fMul_i, fMulR_i, fMulR_t, fMulR_l, fDiv_i, fMod_i, fPow_i, negF_i, cLt_i, cLe_i, cGt_i, cGe_i, cEq_e, cNe_e, isNF_n, isNF_t, isNF_i, dBF_b, boF_b, notVF_b, ch2F_d, chF_d, seqOf_t, seqOf_l, seqOf_o, seqOf_s, seqOf_a, seqF_t, seqF_l, seqF_o, kindOf_t, kindOf_l, kindOf_o, kindOf_a, kindF_t, kindF_l, kindF_o, ixF2_s, ixF_s, slF_t, slF_f, partF_i, allD_n, allD_c, tupF_s, lstF_s, ofDF_s, gInt_i, gInt_b, gAbs_i, gMax2_i, gMin2_i, gN_e, jF_s, lenF_s, intsF2_s, intsF_s, fSum_e, gTF_s, gLF_s, blsF_s, blsF2_s, isF_s, isF2_s, tyn_i, tyn_b, tyn_t, tyn_l, tyn_s, tyn_n, k_ii, k_ib, k_tt, gN1_d, gN1_o, gN1_a, gaF_d, gaF_o, gTup_e, gs_n, gs_c, par2G_e, par2F_s, svOf_d, svOf_o, par3G_e, par3F_s, stF2_s, stF_s, stG_e, gStL_e, gOwn_e, owL_a, apG_e, apI_e, iterF_t, iterF_l, rng1F_e, rng2F_e, zip2F_s, zip2G_e, zip3F_s, zip3G_e, seqD_t, seqD_l, finP_d, finP_o, finP_a, finF_d, finF_o, finJF_d, finJF_o, finJ_d, finJ_o, startD_e, startJ_e, dnI_e, dnIH_e, dnGF_e, dnGetF_e, dnSF_e, dnSH_e, gStDn_e, dn1F_e, atI_0, atI_1, atI_2, ixN_2_0, ixN_2_1, appK_eq, cmp_i, eqv_ii, eqv_nn, cast1, cast2, cast3, List.map_cons, List.map_nil, List.append_nil, List.nil_append, List.cons_append, List.replicate_succ, List.replicate_zero, List.length_cons, List.length_nil, List.getElem?_cons_zero, List.getElem?_cons_succ, List.set_cons_zero, List.set_cons_succ, Option.map_some, Bool.not_true, Bool.not_false, Nat.reduceAdd, Nat.reduceSub, Nat.zero_add, Nat.add_zero, if_true, if_false, decide_true, decide_false, and_true, true_and, Nat.reduceLeDiff, Nat.sub_zero, Nat.sub_self]
  exact h
def Dx_need_row (P : Program) (w : World) (K : PySem.W.Frag) (mg : Str → Option Value) (base : Heap) : Prop := ∃ f fd, Def P w K mg base 4 "need_row" f fd ["row"] (spP (bas P w K) 1 sp_need_row)
theorem ok_need_row {P : Program} {w : World} {K : PySem.W.Frag} {mg : Str → Option Value} {base : Heap} (M : Mg mg) (D_is_row : Dx_is_row P w K mg base) {f : Addr} {fd : FuncData} (F : FunD K "need_row" "need_row" (defArgs s_need_row) (defBody s_need_row) (defScope s_need_row) [] [] f fd) : FnOk P w K mg base CX0 4 f fd ["row"] (spP (bas P w K) 1 sp_need_row) := by
  obtain ⟨a_is_row, fd_is_row, D_is_row⟩ := D_is_row
  exact okP (tb := t_need_row) F sc_need_row (fun cdv A outer s H E hr =>
    (dss_one (ds_if (dt_not (dt_val (de_call D_is_row.own (hr.mono (by decide)) (by rfl) (da_cons (de_data (de_var (pv 0))) da_nil)))) dss_never dss_nil))) rd_need_row
def N_need_filling : List Str := ["row", "filling"]
theorem sc_need_filling : FnScope N_need_filling ["row", "filling"] (defScope s_need_filling) := ⟨rfl, rfl, rfl, by decide +kernel, rfl, by decide +kernel, by decide +kernel⟩
def t_need_filling : DTS :=
    (dIfS (dNot (dB (dCB (ofD (gN 2 sp_is_filling_of)) (dCons (dD (dVar 0)) (dCons (dD (dVar 1)) dNil))))) dNever dSkip)
def sp_need_filling : DFd := fun ds R => ∃ r f, ds = [rowD r, intsD f] ∧ FillOk r.cups f ∧ R (.d .non)
theorem rd_need_filling : ∀ ds R, ds.length = 2 → sp_need_filling ds R → t_need_filling { nx := fun _ => R (.d .non), rt := finP R } (startD N_need_filling ds) := by
  rintro ds R - ⟨r, f, rfl, ok, h⟩
  simp only [↓e_var, ↓e_C, ↓e_dD, ↓e_d2, ↓e_neg, ↓e_isN, ↓e_B, ↓e_And, ↓e_Or, ↓e_Not, ↓e_AndV, ↓e_OrV, ↓e_NotV, ↓e_IfE, ↓e_Chain, ↓e_Ix, ↓e_Sl, ↓e_No, ↓e_Part, ↓e_nil, ↓e_cons, ↓e_Tup, ↓e_Lst, ↓e_CB, ↓e_ofD, ↓e_jOf, ↓e_Len, ↓e_Ints, ↓e_fMax, ↓e_fMin, ↓e_Tuple, ↓e_List, ↓e_Bls, ↓e_Is, ↓e_seq, ↓e_skip, ↓e_ret, ↓e_drop, ↓e_ifS, ↓e_never, ↓e_asg, ↓e_par2, ↓e_par3, ↓e_App, ↓e_For, ↓e_While, ↓e_Iter, ↓e_Rng1, ↓e_Rng2, ↓e_Zip2, ↓e_Zip3, ↓e_Lc, ↓e_Yes, ↓e_Dn0, ↓e_DnIn, ↓e_DnGet, ↓e_Dn1, iteG_t, iteG_f, iteG_d, iteG_n, iteG_a, iteG_o, iteG_x, iteG_e, iteG_s, iteG_l, iteG_y, iteF_t, iteF_f, varF_d, varF_o, toD_d, toD_l, toD_a, toDF_d, toDF_l, d2F_d, fAdd_i, fAdd_s, fAdd_t, fAdd_l, fSub_i, fMul_i, fMulR_i, fMulR_t, fMulR_l, fDiv_i, fMod_i, fPow_i, negF_i, cLt_i, cLe_i, cGt_i, cGe_i, cEq_e, cNe_e, isNF_n, isNF_t, isNF_i, dBF_b, boF_b, notVF_b, ch2F_d, chF_d, seqOf_t, seqOf_l, seqOf_o, seqOf_s, seqOf_a, seqF_t, seqF_l, seqF_o, kindOf_t, kindOf_l, kindOf_o, kindOf_a, kindF_t, kindF_l, kindF_o, ixF2_s, ixF_s, slF_t, slF_f, partF_i, allD_n, allD_c, tupF_s, lstF_s, ofDF_s, gInt_i, gInt_b, gAbs_i, gMax2_i, gMin2_i, gN_e, jF_s, lenF_s, intsF2_s, intsF_s, fSum_e, gTF_s, gLF_s, blsF_s, blsF2_s, isF_s, isF2_s, tyn_i, tyn_b, tyn_t, tyn_l, tyn_s, tyn_n, k_ii, k_ib, k_tt, gN1_d, gN1_o, gN1_a, gaF_d, gaF_o, gTup_e, gs_n, gs_c, par2G_e, par2F_s, svOf_d, svOf_o, par3G_e, par3F_s, stF2_s, stF_s, stG_e, gStL_e, gOwn_e, owL_a, apG_e, apI_e, iterF_t, iterF_l, rng1F_e, rng2F_e, zip2F_s, zip2G_e, zip3F_s, zip3G_e, seqD_t, seqD_l, finP_d, finP_o, finP_a, finF_d, finF_o, finJF_d, finJF_o, finJ_d, finJ_o, startD_e, startJ_e, dnI_e, dnIH_e, dnGF_e, dnGetF_e, dnSF_e, dnSH_e, gStDn_e, dn1F_e, atI_0, atI_1, atI_2, ixN_2_0, ixN_2_1, appK_eq, cmp_i, eqv_ii, eqv_nn, cast1, cast2, cast3, List.map_cons, List.map_nil, List.append_nil, List.nil_append, List.cons_append, List.replicate_succ, List.replicate_zero, List.length_cons, List.length_nil, List.getElem?_cons_zero, List.getElem?_cons_succ, List.set_cons_zero, List.set_cons_succ, Option.map_some, Bool.not_true, Bool.not_false, Nat.reduceAdd, Nat.reduceSub, Nat.zero_add, Nat.add_zero, if_true, if_false, decide_true, decide_false, and_true, true_and, Nat.reduceLeDiff, Nat.sub_zero, Nat.sub_self, t_need_filling, N_need_filling]
  refine ⟨rfl, r, f, rfl, ok, ?_⟩
  simp only [↓e_var, ↓e_C, ↓e_dD, ↓e_d2, ↓e_neg, ↓e_isN, ↓e_B, ↓e_And, ↓e_Or, ↓e_Not, ↓e_AndV, ↓e_OrV, ↓e_NotV, ↓e_IfE, ↓e_Chain, ↓e_Ix, ↓e_Sl, ↓e_No, ↓e_Part, ↓e_nil, ↓e_cons, ↓e_Tup, ↓e_Lst, ↓e_CB, ↓e_ofD, ↓e_jOf, ↓e_Len, ↓e_Ints, ↓e_fMax, ↓e_fMin, ↓e_Tuple, ↓e_List, ↓e_Bls, ↓e_Is, ↓e_seq, ↓e_skip, ↓e_ret, ↓e_drop, ↓e_ifS, ↓e_never, ↓e_asg, ↓e_par2, ↓e_par3, ↓e_App, ↓e_For, ↓e_While, ↓e_Iter, ↓e_Rng1, ↓e_Rng2, ↓e_Zip2, ↓e_Zip3, ↓e_Lc, ↓e_Yes, ↓e_Dn0, ↓e_DnIn, ↓e_DnGet, ↓e_Dn1, iteG_t, iteG_f, iteG_d, iteG_n, iteG_a, iteG_o, iteG_x, iteG_e, iteG_s, iteG_l, iteG_y, iteF_t, iteF_f, varF_d, varF_o, toD_d, toD_l, toD_a, toDF_d, toDF_l, d2F_d, fAdd_i, fAdd_s, fAdd_t, fAdd_l, fSub_i, fMul_i, fMulR_i, fMulR_t, fMulR_l, fDiv_i, fMod_i, fPow_i, negF_i, cLt_i, cLe_i, cGt_i, cGe_i, cEq_e, cNe_e, isNF_n, isNF_t, isNF_i, dBF_b, boF_b, notVF_b, ch2F_d, chF_d, seqOf_t, seqOf_l, seqOf_o, seqOf_s, seqOf_a, seqF_t, seqF_l, seqF_o, kindOf_t, kindOf_l, kindOf_o, kindOf_a, kindF_t, kindF_l, kindF_o, ixF2_s, ixF_s, slF_t, slF_f, partF_i, allD_n, allD_c, tupF_s, lstF_s, ofDF_s, gInt_i, gInt_b, gAbs_i, gMax2_i, gMin2_i, gN_e, jF_s, lenF_s, intsF2_s, intsF_s, fSum_e, gTF_s, gLF_s, blsF_s, blsF2_s, isF_s, isF2_s, tyn_i, tyn_b, tyn_t, tyn_l, tyn_s, tyn_n, k_ii, k_ib, k_tt, gN1_d, gN1_o, gN1_a, gaF_d, gaF_o, gTup_e, gs_n, gs_c, par2G_e, par2F_s, svOf_d, svOf_o, par3G_e, par3F_s, stF2_s, stF_s, stG_e, gStL_e, gOwn_e, owL_a, apG_e, apI_e, iterF_t, iterF_l, rng1F_e, rng2F_e, zip2F_s, zip2G_e, zip3F_s, zip3G_e, seqD_t, seqD_l, finP_d, finP_o, finP_a, finF_d, finF_o, finJF_d, finJF_o, finJ_d, finJ_o, startD_e, startJ_e, dnI_e, dnIH_e, dnGF_e, dnGetF_e, dnSF_e, dnSH_e, gStDn_e, dn1F_e, atI_0, atI_1, atI_2, ixN_2_0, ixN_2_1, appK_eq, cmp_i, eqv_ii, eqv_nn, cast1, cast2, cast3, List.map_cons, List.map_nil, List.append_nil, List.nil_append, List.cons_append, List.replicate_succ, List.replicate_zero, List.length_cons, List.length_nil, List.getElem?_cons_zero, List.getElem?_cons_succ, List.set_cons_zero, List.set_cons_succ, Option.map_some, Bool.not_true, Bool.not_false, Nat.reduceAdd, Nat.reduceSub, Nat.zero_add, Nat.add_zero, if_true, if_false, decide_true, decide_false, and_true, true_and, Nat.reduceLeDiff, Nat.sub_zero, Nat.sub_self]
  exact h
def Dx_need_filling (P : Program) (w : World) (K : PySem.W.Frag) (mg : Str → Option Value) (base : Heap) : Prop := ∃ f fd, Def P w K mg base 3 "need_filling" f fd ["row", "filling"] (spP (bas P w K) 2 sp_need_filling)
theorem ok_need_filling {P : Program} {w : World} {K : PySem.W.Frag} {mg : Str → Option Value} {base : Heap} (M : Mg mg) (D_is_filling_of : Dx_is_filling_of P w K mg base) {f : Addr} {fd : FuncData} (F : FunD K "need_filling" "need_filling" (defArgs s_need_filling) (defBody s_need_filling) (defScope s_need_filling) [] [] f fd) : FnOk P w K mg base CX0 3 f fd ["row", "filling"] (spP (bas P w K) 2 sp_need_filling) := by
  obtain ⟨a_is_filling_of, fd_is_filling_of, D_is_filling_of⟩ := D_is_filling_of
  exact okP (tb := t_need_filling) F sc_need_filling (fun cdv A outer s H E hr =>
    (dss_one (ds_if (dt_not (dt_val (de_call D_is_filling_of.own (hr.mono (by decide)) (by rfl) (da_cons (de_data (de_var (pv 0))) (da_cons (de_data (de_var (pv 1))) da_nil))))) dss_never dss_nil))) rd_need_filling
def N_need_number : List Str := ["number", "low", "high"]
theorem sc_need_number : FnScope N_need_number ["number", "low", "high"] (defScope s_need_number) := ⟨rfl, rfl, rfl, by decide +kernel, rfl, by decide +kernel, by decide +kernel⟩
def t_need_number : DTS :=
    (dIfS (dNot (dB (dCB (ofD (gN 3 sp_is_int)) (dCons (dD (dVar 0)) (dCons (dD (dVar 1)) (dCons (dD (dVar 2)) dNil)))))) dNever dSkip)
def sp_need_number : DFd := fun ds R => ∃ i lo hi : Int, ds = [.int i, .int lo, .int hi] ∧ lo ≤ i ∧ i ≤ hi ∧ R (.d .non)
theorem rd_need_number : ∀ ds R, ds.length = 3 → sp_need_number ds R → t_need_number { nx := fun _ => R (.d .non), rt := finP R } (startD N_need_number ds) := by
  rintro ds R - ⟨i, lo, hi, rfl, h1, h2, h⟩
  simp only [↓e_var, ↓e_C, ↓e_dD, ↓e_d2, ↓e_neg, ↓e_isN, ↓e_B, ↓e_And, ↓e_Or, ↓e_Not, ↓e_AndV, ↓e_OrV, ↓e_NotV, ↓e_IfE, ↓e_Chain, ↓e_Ix, ↓e_Sl, ↓e_No, ↓e_Part, ↓e_nil, ↓e_cons, ↓e_Tup, ↓e_Lst, ↓e_CB, ↓e_ofD, ↓e_jOf, ↓e_Len, ↓e_Ints, ↓e_fMax, ↓e_fMin, ↓e_Tuple, ↓e_List, ↓e_Bls, ↓e_Is, ↓e_seq, ↓e_skip, ↓e_ret, ↓e_drop, ↓e_ifS, ↓e_never, ↓e_asg, ↓e_par2, ↓e_par3, ↓e_App, ↓e_For, ↓e_While, ↓e_Iter, ↓e_Rng1, ↓e_Rng2, ↓e_Zip2, ↓e_Zip3, ↓e_Lc, ↓e_Yes, ↓e_Dn0, ↓e_DnIn, ↓e_DnGet, ↓e_Dn1, iteG_t, iteG_f, iteG_d, iteG_n, iteG_a, iteG_o, iteG_x, iteG_e, iteG_s, iteG_l, iteG_y, iteF_t, iteF_f, varF_d, varF_o, toD_d, toD_l, toD_a, toDF_d, toDF_l, d2F_d, fAdd_i, fAdd_s, fAdd_t, fAdd_l, fSub_i, fMul_i, fMulR_i, fMulR_t, fMulR_l, fDiv_i, fMod_i, fPow_i, negF_i, cLt_i, cLe_i, cGt_i, cGe_i, cEq_e, cNe_e, isNF_n, isNF_t, isNF_i, dBF_b, boF_b, notVF_b, ch2F_d, chF_d, seqOf_t, seqOf_l, seqOf_o, seqOf_s, seqOf_a, seqF_t, seqF_l, seqF_o, kindOf_t, kindOf_l, kindOf_o, kindOf_a, kindF_t, kindF_l, kindF_o, ixF2_s, ixF_s, slF_t, slF_f, partF_i, allD_n, allD_c, tupF_s, lstF_s, ofDF_s, gInt_i, gInt_b, gAbs_i, gMax2_i, gMin2_i, gN_e, jF_s, lenF_s, intsF2_s, intsF_s, fSum_e, gTF_s, gLF_s, blsF_s, blsF2_s, isF_s, isF2_s, tyn_i, tyn_b, tyn_t, tyn_l, tyn_s, tyn_n, k_ii, k_ib, k_tt, gN1_d, gN1_o, gN1_a, gaF_d, gaF_o, gTup_e, gs_n, gs_c, par2G_e, par2F_s, svOf_d, svOf_o, par3G_e, par3F_s, stF2_s, stF_s, stG_e, gStL_e, gOwn_e, owL_a, apG_e, apI_e, iterF_t, iterF_l, rng1F_e, rng2F_e, zip2F_s, zip2G_e, zip3F_s, zip3G_e, seqD_t, seqD_l, finP_d, finP_o, finP_a, finF_d, finF_o, finJF_d, finJF_o, finJ_d, finJ_o, startD_e, startJ_e, dnI_e, dnIH_e, dnGF_e, dnGetF_e, dnSF_e, dnSH_e, gStDn_e, dn1F_e, atI_0, atI_1, atI_2, ixN_2_0, ixN_2_1, appK_eq, cmp_i, eqv_ii, eqv_nn, cast1, cast2, cast3, List.map_cons, List.map_nil, List.append_nil, List.nil_append, List.cons_append, List.replicate_succ, List.replicate_zero, List.length_cons, List.length_nil, List.getElem?_cons_zero, List.getElem?_cons_succ, List.set_cons_zero, List.set_cons_succ, Option.map_some, Bool.not_true, Bool.not_false, Nat.reduceAdd, Nat.reduceSub, Nat.zero_add, Nat.add_zero, if_true, if_false, decide_true, decide_false, and_true, true_and, Nat.reduceLeDiff, Nat.sub_zero, Nat.sub_self, t_need_number, N_need_number]
  refine yes_int h1 h2 ?_
  simp only [↓e_var, ↓e_C, ↓e_dD, ↓e_d2, ↓e_neg, ↓e_isN, ↓e_B, ↓e_And, ↓e_Or, ↓e_Not, ↓e_AndV, ↓e_OrV, ↓e_NotV, ↓e_IfE, ↓e_Chain, ↓e_Ix, ↓e_Sl, ↓e_No, ↓e_Part, ↓e_nil, ↓e_cons, ↓e_Tup, ↓e_Lst, ↓e_CB, ↓e_ofD, ↓e_jOf, ↓e_Len, ↓e_Ints, ↓e_fMax, ↓e_fMin, ↓e_Tuple, ↓e_List, ↓e_Bls, ↓e_Is, ↓e_seq, ↓e_skip, ↓e_ret, ↓e_drop, ↓e_ifS, ↓e_never, ↓e_asg, ↓e_par2, ↓e_par3, ↓e_App, ↓e_For, ↓e_While, ↓e_Iter, ↓e_Rng1, ↓e_Rng2, ↓e_Zip2, ↓e_Zip3, ↓e_Lc, ↓e_Yes, ↓e_Dn0, ↓e_DnIn, ↓e_DnGet, ↓e_Dn1, iteG_t, iteG_f, iteG_d, iteG_n, iteG_a, iteG_o, iteG_x, iteG_e, iteG_s, iteG_l, iteG_y, iteF_t, iteF_f, varF_d, varF_o, toD_d, toD_l, toD_a, toDF_d, toDF_l, d2F_d, fAdd_i, fAdd_s, fAdd_t, fAdd_l, fSub_i, fMul_i, fMulR_i, fMulR_t, fMulR_l, fDiv_i, fMod_i, fPow_i, negF_i, cLt_i, cLe_i, cGt_i, cGe_i, cEq_e, cNe_e, isNF_n, isNF_t, isNF_i, dBF_b, boF_b, notVF_b, ch2F_d, chF_d, seqOf_t, seqOf_l, seqOf_o, seqOf_s, seqOf_a, seqF_t, seqF_l, seqF_o, kindOf_t, kindOf_l, kindOf_o, kindOf_a, kindF_t, kindF_l, kindF_o, ixF2_s, ixF_s, slF_t, slF_f, partF_i, allD_n, allD_c, tupF_s, lstF_s, ofDF_s, gInt_i, gInt_b, gAbs_i, gMax2_i, gMin2_i, gN_e, jF_s, lenF_s, intsF2_s, intsF_s, fSum_e, gTF_s, gLF_s, blsF_s, blsF2_s, isF_s, isF2_s, tyn_i, tyn_b, tyn_t, tyn_l, tyn_s, tyn_n, k_ii, k_ib, k_tt, gN1_d, gN1_o, gN1_a, gaF_d, gaF_o, gTup_e, gs_n, gs_c, par2G_e, par2F_s, svOf_d, svOf_o, par3G_e, par3F_s, stF2_s, stF_s, stG_e, gStL_e, gOwn_e, owL_a, apG_e, apI_e, iterF_t, iterF_l, rng1F_e, rng2F_e, zip2F_s, zip2G_e, zip3F_s, zip3G_e, seqD_t, seqD_l, finP_d, finP_o, finP_a, finF_d, finF_o, finJF_d, finJF_o, finJ_d, finJ_o, startD_e, startJ_e, dnI_e, dnIH_e, dnGF_e, dnGetF_e, dnSF_e, dnSH_e, gStDn_e, dn1F_e, atI_0, atI_1, atI_2, ixN_2_0, ixN_2_1, appK_eq, cmp_i, eqv_ii, eqv_nn, cast1, cast2, cast3, List.map_cons, List.map_nil, List.append_nil, List.nil_append, List.cons_append, List.replicate_succ, List.replicate_zero, List.length_cons, List.length_nil, List.getElem?_cons_zero, List.getElem?_cons_succ, List.set_cons_zero, List.set_cons_succ, Option.map_some, Bool.not_true, Bool.not_false, Nat.reduceAdd, Nat.reduceSub, Nat.zero_add, Nat.add_zero, if_true, if_false, decide_true, decide_false, and_true, true_and, Nat.reduceLeDiff, Nat.sub_zero, Nat.sub_self]
  exact h
def Dx_need_number (P : Program) (w : World) (K : PySem.W.Frag) (mg : Str → Option Value) (base : Heap) : Prop := ∃ f fd, Def P w K mg base 2 "need_number" f fd ["number", "low", "high"] (spP (bas P w K) 3 sp_need_number)
theorem ok_need_number {P : Program} {w : World} {K : PySem.W.Frag} {mg : Str → Option Value} {base : Heap} (M : Mg mg) (D_is_int : Dx_is_int P w K mg base) {f : Addr} {fd : FuncData} (F : FunD K "need_number" "need_number" (defArgs s_need_number) (defBody s_need_number) (defScope s_need_number) [] [] f fd) : FnOk P w K mg base CX0 2 f fd ["number", "low", "high"] (spP (bas P w K) 3 sp_need_number) := by
  obtain ⟨a_is_int, fd_is_int, D_is_int⟩ := D_is_int
  exact okP (tb := t_need_number) F sc_need_number (fun cdv A outer s H E hr =>
    (dss_one (ds_if (dt_not (dt_val (de_call D_is_int.own (hr.mono (by decide)) (by rfl) (da_cons (de_data (de_var (pv 0))) (da_cons (de_data (de_var (pv 1))) (da_cons (de_data (de_var (pv 2))) da_nil)))))) dss_never dss_nil))) rd_need_number
def N_tap_water : List Str := ["row", "tap"]
theorem sc_tap_water : FnScope N_tap_water ["row"] (defScope s_tap_water) := ⟨rfl, rfl, rfl, by decide +kernel, rfl, by decide +kernel, by decide +kernel⟩
def t_tap_water : DTS :=
    (dSeq (dDrop (dCB (ofD (gN 1 sp_need_row)) (dCons (dD (dVar 0)) dNil)))
      (dRet (dCB (gInts fSum) (dCons (dLc (dIter (dD (dIx (dVar 0) (dC (.int 2))))) (gN1 1) dYes (dD (dCB (gInts fSum) (dCons (dVar 1) dNil))) [1]) dNil))))
def sp_tap_water : DFd := fun ds R => ∃ r, ds = [rowD r] ∧ r.Ok ∧ R (.d (.int (r.taps.map List.sum).sum))
theorem rd_tap_water : ∀ ds R, ds.length = 1 → sp_tap_water ds R → t_tap_water { nx := fun _ => R (.d .non), rt := finP R } (startD N_tap_water ds) := by
  rintro ds R - ⟨r, rfl, ok, h⟩
  simp only [↓e_var, ↓e_C, ↓e_dD, ↓e_d2, ↓e_neg, ↓e_isN, ↓e_B, ↓e_And, ↓e_Or, ↓e_Not, ↓e_AndV, ↓e_OrV, ↓e_NotV, ↓e_IfE, ↓e_Chain, ↓e_Ix, ↓e_Sl, ↓e_No, ↓e_Part, ↓e_nil, ↓e_cons, ↓e_Tup, ↓e_Lst, ↓e_CB, ↓e_ofD, ↓e_jOf, ↓e_Len, ↓e_Ints, ↓e_fMax, ↓e_fMin, ↓e_Tuple, ↓e_List, ↓e_Bls, ↓e_Is, ↓e_seq, ↓e_skip, ↓e_ret, ↓e_drop, ↓e_ifS, ↓e_never, ↓e_asg, ↓e_par2, ↓e_par3, ↓e_App, ↓e_For, ↓e_While, ↓e_Iter, ↓e_Rng1, ↓e_Rng2, ↓e_Zip2, ↓e_Zip3, ↓e_Lc, ↓e_Yes, ↓e_Dn0, ↓e_DnIn, ↓e_DnGet, ↓e_Dn1, iteG_t, iteG_f, iteG_d, iteG_n, iteG_a, iteG_o, iteG_x, iteG_e, iteG_s, iteG_l, iteG_y, iteF_t, iteF_f, varF_d, varF_o, toD_d, toD_l, toD_a, toDF_d, toDF_l, d2F_d, fAdd_i, fAdd_s, fAdd_t, fAdd_l, fSub_i, fMul_i, fMulR_i, fMulR_t, fMulR_l, fDiv_i, fMod_i, fPow_i, negF_i, cLt_i, cLe_i, cGt_i, cGe_i, cEq_e, cNe_e, isNF_n, isNF_t, isNF_i, dBF_b, boF_b, notVF_b, ch2F_d, chF_d, seqOf_t, seqOf_l, seqOf_o, seqOf_s, seqOf_a, seqF_t, seqF_l, seqF_o, kindOf_t, kindOf_l, kindOf_o, kindOf_a, kindF_t, kindF_l, kindF_o, ixF2_s, ixF_s, slF_t, slF_f, partF_i, allD_n, allD_c, tupF_s, lstF_s, ofDF_s, gInt_i, gInt_b, gAbs_i, gMax2_i, gMin2_i, gN_e, jF_s, lenF_s, intsF2_s, intsF_s, fSum_e, gTF_s, gLF_s, blsF_s, blsF2_s, isF_s, isF2_s, tyn_i, tyn_b, tyn_t, tyn_l, tyn_s, tyn_n, k_ii, k_ib, k_tt, gN1_d, gN1_o, gN1_a, gaF_d, gaF_o, gTup_e, gs_n, gs_c, par2G_e, par2F_s, svOf_d, svOf_o, par3G_e, par3F_s, stF2_s, stF_s, stG_e, gStL_e, gOwn_e, owL_a, apG_e, apI_e, iterF_t, iterF_l, rng1F_e, rng2F_e, zip2F_s, zip2G_e, zip3F_s, zip3G_e, seqD_t, seqD_l, finP_d, finP_o, finP_a, finF_d, finF_o, finJF_d, finJF_o, finJ_d, finJ_o, startD_e, startJ_e, dnI_e, dnIH_e, dnGF_e, dnGetF_e, dnSF_e, dnSH_e, gStDn_e, dn1F_e, atI_0, atI_1, atI_2, ixN_2_0, ixN_2_1, appK_eq, cmp_i, eqv_ii, eqv_nn, cast1, cast2, cast3, List.map_cons, List.map_nil, List.append_nil, List.nil_append, List.cons_append, List.replicate_succ, List.replicate_zero, List.length_cons, List.length_nil, List.getElem?_cons_zero, List.getElem?_cons_succ, List.set_cons_zero, List.set_cons_succ, Option.map_some, Bool.not_true, Bool.not_false, Nat.reduceAdd, Nat.reduceSub, Nat.zero_add, Nat.add_zero, if_true, if_false, decide_true, decide_false, and_true, true_and, Nat.reduceLeDiff, Nat.sub_zero, Nat.sub_self, t_tap_water, N_tap_water]
  refine ⟨rfl, r, rfl, ok, ?_⟩
  simp only [↓e_var, ↓e_C, ↓e_dD, ↓e_d2, ↓e_neg, ↓e_isN, ↓e_B, ↓e_And, ↓e_Or, ↓e_Not, ↓e_AndV, ↓e_OrV, ↓e_NotV, ↓e_IfE, ↓e_Chain, ↓e_Ix, ↓e_Sl, ↓e_No, ↓e_Part, ↓e_nil, ↓e_cons, ↓e_Tup, ↓e_Lst, ↓e_CB, ↓e_ofD, ↓e_jOf, ↓e_Len, ↓e_Ints, ↓e_fMax, ↓e_fMin, ↓e_Tuple, ↓e_List, ↓e_Bls, ↓e_Is, ↓e_seq, ↓e_skip, ↓e_ret, ↓e_drop, ↓e_ifS, ↓e_never, ↓e_asg, ↓e_par2, ↓e_par3, ↓e_App, ↓e_For, ↓e_While, ↓e_Iter, ↓e_Rng1, ↓e_Rng2, ↓e_Zip2, ↓e_Zip3, ↓e_Lc, ↓e_Yes, ↓e_Dn0, ↓e_DnIn, ↓e_DnGet, ↓e_Dn1, iteG_t, iteG_f, iteG_d, iteG_n, iteG_a, iteG_o, iteG_x, iteG_e, iteG_s, iteG_l, iteG_y, iteF_t, iteF_f, varF_d, varF_o, toD_d, toD_l, toD_a, toDF_d, toDF_l, d2F_d, fAdd_i, fAdd_s, fAdd_t, fAdd_l, fSub_i, fMul_i, fMulR_i, fMulR_t, fMulR_l, fDiv_i, fMod_i, fPow_i, negF_i, cLt_i, cLe_i, cGt_i, cGe_i, cEq_e, cNe_e, isNF_n, isNF_t, isNF_i, dBF_b, boF_b, notVF_b, ch2F_d, chF_d, seqOf_t, seqOf_l, seqOf_o, seqOf_s, seqOf_a, seqF_t, seqF_l, seqF_o, kindOf_t, kindOf_l, kindOf_o, kindOf_a, kindF_t, kindF_l, kindF_o, ixF2_s, ixF_s, slF_t, slF_f, partF_i, allD_n, allD_c, tupF_s, lstF_s, ofDF_s, gInt_i, gInt_b, gAbs_i, gMax2_i, gMin2_i, gN_e, jF_s, lenF_s, intsF2_s, intsF_s, fSum_e, gTF_s, gLF_s, blsF_s, blsF2_s, isF_s, isF2_s, tyn_i, tyn_b, tyn_t, tyn_l, tyn_s, tyn_n, k_ii, k_ib, k_tt, gN1_d, gN1_o, gN1_a, gaF_d, gaF_o, gTup_e, gs_n, gs_c, par2G_e, par2F_s, svOf_d, svOf_o, par3G_e, par3F_s, stF2_s, stF_s, stG_e, gStL_e, gOwn_e, owL_a, apG_e, apI_e, iterF_t, iterF_l, rng1F_e, rng2F_e, zip2F_s, zip2G_e, zip3F_s, zip3G_e, seqD_t, seqD_l, finP_d, finP_o, finP_a, finF_d, finF_o, finJF_d, finJF_o, finJ_d, finJ_o, startD_e, startJ_e, dnI_e, dnIH_e, dnGF_e, dnGetF_e, dnSF_e, dnSH_e, gStDn_e, dn1F_e, atI_0, atI_1, atI_2, ixN_2_0, ixN_2_1, appK_eq, cmp_i, eqv_ii, eqv_nn, cast1, cast2, cast3, List.map_cons, List.map_nil, List.append_nil, List.nil_append, List.cons_append, List.replicate_succ, List.replicate_zero, List.length_cons, List.length_nil, List.getElem?_cons_zero, List.getElem?_cons_succ, List.set_cons_zero, List.set_cons_succ, Option.map_some, Bool.not_true, Bool.not_false, Nat.reduceAdd, Nat.reduceSub, Nat.zero_add, Nat.add_zero, if_true, if_false, decide_true, decide_false, and_true, true_and, Nat.reduceLeDiff, Nat.sub_zero, Nat.sub_self, rowD]
  refine ⟨fun i hi => ?_, ?_⟩
  · simp only [List.mem_singleton] at hi
    subst hi
    rfl
  refine lcL_maps intsD (fun t => .int t.sum) r.taps [] (fun c hc K hK => ?_) ?_
  · simp only [↓e_var, ↓e_C, ↓e_dD, ↓e_d2, ↓e_neg, ↓e_isN, ↓e_B, ↓e_And, ↓e_Or, ↓e_Not, ↓e_AndV, ↓e_OrV, ↓e_NotV, ↓e_IfE, ↓e_Chain, ↓e_Ix, ↓e_Sl, ↓e_No, ↓e_Part, ↓e_nil, ↓e_cons, ↓e_Tup, ↓e_Lst, ↓e_CB, ↓e_ofD, ↓e_jOf, ↓e_Len, ↓e_Ints, ↓e_fMax, ↓e_fMin, ↓e_Tuple, ↓e_List, ↓e_Bls, ↓e_Is, ↓e_seq, ↓e_skip, ↓e_ret, ↓e_drop, ↓e_ifS, ↓e_never, ↓e_asg, ↓e_par2, ↓e_par3, ↓e_App, ↓e_For, ↓e_While, ↓e_Iter, ↓e_Rng1, ↓e_Rng2, ↓e_Zip2, ↓e_Zip3, ↓e_Lc, ↓e_Yes, ↓e_Dn0, ↓e_DnIn, ↓e_DnGet, ↓e_Dn1, iteG_t, iteG_f, iteG_d, iteG_n, iteG_a, iteG_o, iteG_x, iteG_e, iteG_s, iteG_l, iteG_y, iteF_t, iteF_f, varF_d, varF_o, toD_d, toD_l, toD_a, toDF_d, toDF_l, d2F_d, fAdd_i, fAdd_s, fAdd_t, fAdd_l, fSub_i, fMul_i, fMulR_i, fMulR_t, fMulR_l, fDiv_i, fMod_i, fPow_i, negF_i, cLt_i, cLe_i, cGt_i, cGe_i, cEq_e, cNe_e, isNF_n, isNF_t, isNF_i, dBF_b, boF_b, notVF_b, ch2F_d, chF_d, seqOf_t, seqOf_l, seqOf_o, seqOf_s, seqOf_a, seqF_t, seqF_l, seqF_o, kindOf_t, kindOf_l, kindOf_o, kindOf_a, kindF_t, kindF_l, kindF_o, ixF2_s, ixF_s, slF_t, slF_f, partF_i, allD_n, allD_c, tupF_s, lstF_s, ofDF_s, gInt_i, gInt_b, gAbs_i, gMax2_i, gMin2_i, gN_e, jF_s, lenF_s, intsF2_s, intsF_s, fSum_e, gTF_s, gLF_s, blsF_s, blsF2_s, isF_s, isF2_s, tyn_i, tyn_b, tyn_t, tyn_l, tyn_s, tyn_n, k_ii, k_ib, k_tt, gN1_d, gN1_o, gN1_a, gaF_d, gaF_o, gTup_e, gs_n, gs_c, par2G_e, par2F_s, svOf_d, svOf_o, par3G_e, par3F_s, stF2_s, stF_s, stG_e, gStL_e, gOwn_e, owL_a, apG_e, apI_e, iterF_t, iterF_l, rng1F_e, rng2F_e, zip2F_s, zip2G_e, zip3F_s, zip3G_e, seqD_t, seqD_l, finP_d, finP_o, finP_a, finF_d, finF_o, finJF_d, finJF_o, finJ_d, finJ_o, startD_e, startJ_e, dnI_e, dnIH_e, dnGF_e, dnGetF_e, dnSF_e, dnSH_e, gStDn_e, dn1F_e, atI_0, atI_1, atI_2, ixN_2_0, ixN_2_1, appK_eq, cmp_i, eqv_ii, eqv_nn, cast1, cast2, cast3, List.map_cons, List.map_nil, List.append_nil, List.nil_append, List.cons_append, List.replicate_succ, List.replicate_zero, List.length_cons, List.length_nil, List.getElem?_cons_zero, List.getElem?_cons_succ, List.set_cons_zero, List.set_cons_succ, Option.map_some, Bool.not_true, Bool.not_false, Nat.reduceAdd, Nat.reduceSub, Nat.zero_add, Nat.add_zero, if_true, if_false, decide_true, decide_false, and_true, true_and, Nat.reduceLeDiff, Nat.sub_zero, Nat.sub_self, intsD, intsOf_map]
    exact hK _ rfl
  have e : intsOf (r.taps.map fun t => D.int t.sum) = some (r.taps.map List.sum) := by
    rw [← intsOf_map (r.taps.map List.sum), List.map_map]
    rfl
  simp only [↓e_var, ↓e_C, ↓e_dD, ↓e_d2, ↓e_neg, ↓e_isN, ↓e_B, ↓e_And, ↓e_Or, ↓e_Not, ↓e_AndV, ↓e_OrV, ↓e_NotV, ↓e_IfE, ↓e_Chain, ↓e_Ix, ↓e_Sl, ↓e_No, ↓e_Part, ↓e_nil, ↓e_cons, ↓e_Tup, ↓e_Lst, ↓e_CB, ↓e_ofD, ↓e_jOf, ↓e_Len, ↓e_Ints, ↓e_fMax, ↓e_fMin, ↓e_Tuple, ↓e_List, ↓e_Bls, ↓e_Is, ↓e_seq, ↓e_skip, ↓e_ret, ↓e_drop, ↓e_ifS, ↓e_never, ↓e_asg, ↓e_par2, ↓e_par3, ↓e_App, ↓e_For, ↓e_While, ↓e_Iter, ↓e_Rng1, ↓e_Rng2, ↓e_Zip2, ↓e_Zip3, ↓e_Lc, ↓e_Yes, ↓e_Dn0, ↓e_DnIn, ↓e_DnGet, ↓e_Dn1, iteG_t, iteG_f, iteG_d, iteG_n, iteG_a, iteG_o, iteG_x, iteG_e, iteG_s, iteG_l, iteG_y, iteF_t, iteF_f, varF_d, varF_o, toD_d, toD_l, toD_a, toDF_d, toDF_l, d2F_d, fAdd_i, fAdd_s, fAdd_t, fAdd_l, fSub_i, fMul_i, fMulR_i, fMulR_t, fMulR_l, fDiv_i, fMod_i, fPow_i, negF_i, cLt_i, cLe_i, cGt_i, cGe_i, cEq_e, cNe_e, isNF_n, isNF_t, isNF_i, dBF_b, boF_b, notVF_b, ch2F_d, chF_d, seqOf_t, seqOf_l, seqOf_o, seqOf_s, seqOf_a, seqF_t, seqF_l, seqF_o, kindOf_t, kindOf_l, kindOf_o, kindOf_a, kindF_t, kindF_l, kindF_o, ixF2_s, ixF_s, slF_t, slF_f, partF_i, allD_n, allD_c, tupF_s, lstF_s, ofDF_s, gInt_i, gInt_b, gAbs_i, gMax2_i, gMin2_i, gN_e, jF_s, lenF_s, intsF2_s, intsF_s, fSum_e, gTF_s, gLF_s, blsF_s, blsF2_s, isF_s, isF2_s, tyn_i, tyn_b, tyn_t, tyn_l, tyn_s, tyn_n, k_ii, k_ib, k_tt, gN1_d, gN1_o, gN1_a, gaF_d, gaF_o, gTup_e, gs_n, gs_c, par2G_e, par2F_s, svOf_d, svOf_o, par3G_e, par3F_s, stF2_s, stF_s, stG_e, gStL_e, gOwn_e, owL_a, apG_e, apI_e, iterF_t, iterF_l, rng1F_e, rng2F_e, zip2F_s, zip2G_e, zip3F_s, zip3G_e, seqD_t, seqD_l, finP_d, finP_o, finP_a, finF_d, finF_o, finJF_d, finJF_o, finJ_d, finJ_o, startD_e, startJ_e, dnI_e, dnIH_e, dnGF_e, dnGetF_e, dnSF_e, dnSH_e, gStDn_e, dn1F_e, atI_0, atI_1, atI_2, ixN_2_0, ixN_2_1, appK_eq, cmp_i, eqv_ii, eqv_nn, cast1, cast2, cast3, List.map_cons, List.map_nil, List.append_nil, List.nil_append, List.cons_append, List.replicate_succ, List.replicate_zero, List.length_cons, List.length_nil, List.getElem?_cons_zero, List.getElem?_cons_succ, List.set_cons_zero, List.set_cons_succ, Option.map_some, Bool.not_true, Bool.not_false, Nat.reduceAdd, Nat.reduceSub, Nat.zero_add, Nat.add_zero, if_true, if_false, decide_true, decide_false, and_true, true_and, Nat.reduceLeDiff, Nat.sub_zero, Nat.sub_self, e]
  exact h
def Dx_tap_water (P : Program) (w : World) (K : PySem.W.Frag) (mg : Str → Option Value) (base : Heap) : Prop := ∃ f fd, Def P w K mg base 5 "tap_water" f fd ["row"] (spP (bas P w K) 1 sp_tap_water)
theorem ok_tap_water {P : Program} {w : World} {K : PySem.W.Frag} {mg : Str → Option Value} {base : Heap} (M : Mg mg) (D_need_row : Dx_need_row P w K mg base) {f : Addr} {fd : FuncData} (F : FunD K "tap_water" "tap_water" (defArgs s_tap_water) (defBody s_tap_water) (defScope s_tap_water) [] [] f fd) : FnOk P w K mg base CX0 5 f fd ["row"] (spP (bas P w K) 1 sp_tap_water) := by
  obtain ⟨a_need_row, fd_need_row, D_need_row⟩ := D_need_row
  exact okP (tb := t_tap_water) F sc_tap_water (fun cdv A outer s H E hr =>
    (dss_cons (ds_expr (de_call D_need_row.own (hr.mono (by decide)) (by rfl) (da_cons (de_data (de_var (pv 0))) da_nil)))
      (dss_one (ds_ret (de_callB (cr_sumD rfl) (snd_sum) (by rfl) M.f_sum rfl (da_cons (de_lc (own := [("tap", 1)]) rfl sc_tap_water.nd (di_seq (de_ix (de_var (pv 0)) de_int)) (blkOk_by (own := [("tap", 1)]) (N := N_tap_water) (sc := defScope s_tap_water) (by decide +kernel)) (fun s H A cl fp => (dg_name sc_tap_water.nd (i := 1) rfl (by first | exact .inl rfl | exact .inr rfl) (by first | exact .inl rfl | exact .inr (by decide)))) (fun s H A cl fp => dts_nil) (fun s H A cl fp => (de_data (de_callB (cr_sumD rfl) (snd_sum) (by rfl) M.f_sum rfl (da_cons (de_var (pv 1)) da_nil))))) da_nil)))))) rd_tap_water
end DL

set_option Elab.async false
set_option linter.all false
set_option maxRecDepth 100000
set_option maxHeartbeats 0
namespace DL
open PySem PySem.Spec L2
open PyProof.Rows hiding St
/-! ### one tick -/
def tickZ (ph : Nat) : List (Cup × List Int × Int) → Int → List (Int × Int × Int)
  | [], _ => []
  | (c, t, a) :: l, cm =>
    let total := a + t.getD ph 0 + cm
    let level := if c.2.1 < total then c.2.1 else total
    let out := if c.1 ≤ level then level - c.2.2 else 0
    (level - out, out, total - level) :: tickZ ph l out
abbrev Stg := Nat × List Int
def stD (s : Stg) : D := .tup [.int s.1, intsD s.2]
def tick (r : Row) (s : Stg) : List (Int × Int × Int) := tickZ s.1 (r.cups.zip (r.taps.zip s.2)) 0
def outW (w : Int) (r : Row) (s : Stg) : List Int := (tick r s).map fun q => if w = 0 then q.1 else if w = 1 then q.2.1 else q.2.2
def StOk (r : Row) (s : Stg) : Prop := s.1 < r.p.toNat ∧ FillOk r.cups s.2
theorem atI_ints {t : List Int} {k : Nat} (h : k < t.length) : atI (t.map D.int) (k : Int) = some (.int (t.getD k 0)) := by
  rw [atI_nat rfl (by simpa using h), List.getElem?_map, List.getD_eq_getElem?_getD, List.getElem?_eq_getElem h]
  rfl
theorem tickZ_length (ph : Nat) : ∀ (l : List (Cup × List Int × Int)) (cm : Int), (tickZ ph l cm).length = l.length
  | [], _ => rfl
  | (c, t, a) :: l, cm => by simp [tickZ, tickZ_length ph l]
/-- what a row's zip holds -/
theorem zip3_mem {r : Row} {f : List Int} (ok : r.Ok) (hf : FillOk r.cups f) {q : Cup × List Int × Int} (h : q ∈ r.cups.zip (r.taps.zip f)) : CupOk q.1 ∧ TapOk r.p q.2.1 := by
  obtain ⟨c, t, a⟩ := q
  have h1 := List.of_mem_zip h
  have h2 := List.of_mem_zip h1.2
  exact ⟨ok.cups _ h1.1, ok.taps _ h2.1⟩
def N_ticked : List Str := ["row", "phase", "filling", "later", "poured_so", "lost_so", "coming", "knee", "rim", "foot", "tap", "amount", "total", "level"]
theorem sc_ticked : FnScope N_ticked ["row", "phase", "filling"] (defScope s_ticked) := ⟨rfl, rfl, rfl, by decide +kernel, rfl, by decide +kernel, by decide +kernel⟩
def t_ticked : DTS :=
    (dSeq (dAsg (dLst dNil) (gN1 3))
      (dSeq (dAsg (dLst dNil) (gN1 4))
      (dSeq (dAsg (dLst dNil) (gN1 5))
      (dSeq (dAsg (dC (.int 0)) (gN1 6))
      (dSeq (dFor (dZip3 (dCons (dD (dIx (dVar 0) (dC (.int 1)))) (dCons (dD (dIx (dVar 0) (dC (.int 2)))) (dCons (dD (dVar 2)) dNil)))) (gTupD 3 (gsCons (gTupD 3 (gsCons (gN1 7) (gsCons (gN1 8) (gsCons (gN1 9) gsNil)))) (gsCons (gN1 10) (gsCons (gN1 11) gsNil)))) (dSeq (dAsg (d2 fAdd (dD (d2 fAdd (dD (dVar 11)) (dD (dIx (dVar 10) (dVar 1))))) (dD (dVar 6))) (gN1 12))
      (dSeq (dAsg (dCB (ofD gMin2) (dCons (dD (dVar 12)) (dCons (dD (dVar 8)) dNil))) (gN1 13))
      (dSeq (dDrop (dApp (dVar 5) (dCons (dD (d2 fSub (dD (dVar 12)) (dD (dVar 13)))) dNil)))
      (dSeq (dAsg (dIfE (dB (d2 cGe (dD (dVar 13)) (dD (dVar 7)))) (d2 fSub (dD (dVar 13)) (dD (dVar 9))) (dC (.int 0))) (gN1 6))
      (dSeq (dDrop (dApp (dVar 4) (dCons (dD (dVar 6)) dNil)))
      (dDrop (dApp (dVar 3) (dCons (dD (d2 fSub (dD (dVar 13)) (dD (dVar 6)))) dNil)))))))))
      (dRet (dTup (dCons (dD (dCB gTuple (dCons (dVar 3) dNil))) (dCons (dD (dCB gTuple (dCons (dVar 4) dNil))) (dCons (dD (dCB gTuple (dCons (dVar 5) dNil))) dNil))))))))))
def sp_ticked : DFd := fun ds R => ∃ r s, ds = [rowD r, .int (s.1 : Nat), intsD s.2] ∧ r.Ok ∧ StOk r s ∧ R (.d (.tup [intsD (outW 0 r s), intsD (outW 1 r s), intsD (outW 2 r s)]))
theorem rd_ticked : ∀ ds R, ds.length = 3 → sp_ticked ds R → t_ticked { nx := fun _ => R (.d .non), rt := finP R } (startD N_ticked ds) := by
  rintro ds R - ⟨r, ⟨ph, f⟩, rfl, ok, ⟨hp, hf⟩, h⟩
  have hz : (r.cups.zip (r.taps.zip f)).length ≤ 3 := by
    rw [List.length_zip]
    have := ok.n3
    omega
  dsimp only at hp hf h
  simp only [↓e_var, ↓e_C, ↓e_dD, ↓e_d2, ↓e_neg, ↓e_isN, ↓e_B, ↓e_And, ↓e_Or, ↓e_Not, ↓e_AndV, ↓e_OrV, ↓e_NotV, ↓e_IfE, ↓e_Chain, ↓e_Ix, ↓e_Sl, ↓e_No, ↓e_Part, ↓e_nil, ↓e_cons, ↓e_Tup, ↓e_Lst, ↓e_CB, ↓e_ofD, ↓e_jOf, ↓e_Len, ↓e_Ints, ↓e_fMax, ↓e_fMin, ↓e_Tuple, ↓e_List, ↓e_Bls, ↓e_Is, ↓e_seq, ↓e_skip, ↓e_ret, ↓e_drop, ↓e_ifS, ↓e_never, ↓e_asg, ↓e_par2, ↓e_par3, ↓e_App, ↓e_For, ↓e_While, ↓e_Iter, ↓e_Rng1, ↓e_Rng2, ↓e_Zip2, ↓e_Zip3, ↓e_Lc, ↓e_Yes, ↓e_Dn0, ↓e_DnIn, ↓e_DnGet, ↓e_Dn1, iteG_t, iteG_f, iteG_d, iteG_n, iteG_a, iteG_o, iteG_x, iteG_e, iteG_s, iteG_l, iteG_y, iteF_t, iteF_f, varF_d, varF_o, toD_d, toD_l, toD_a, toDF_d, toDF_l, d2F_d, fAdd_i, fAdd_s, fAdd_t, fAdd_l, fSub_i, fMul_i, fMulR_i, fMulR_t, fMulR_l, fDiv_i, fMod_i, fPow_i, negF_i, cLt_i, cLe_i, cGt_i, cGe_i, cEq_e, cNe_e, isNF_n, isNF_t, isNF_i, dBF_b, boF_b, notVF_b, ch2F_d, chF_d, seqOf_t, seqOf_l, seqOf_o, seqOf_s, seqOf_a, seqF_t, seqF_l, seqF_o, kindOf_t, kindOf_l, kindOf_o, kindOf_a, kindF_t, kindF_l, kindF_o, ixF2_s, ixF_s, slF_t, slF_f, partF_i, allD_n, allD_c, tupF_s, lstF_s, ofDF_s, gInt_i, gInt_b, gAbs_i, gMax2_i, gMin2_i, gN_e, jF_s, lenF_s, intsF2_s, intsF_s, fSum_e, gTF_s, gLF_s, blsF_s, blsF2_s, isF_s, isF2_s, tyn_i, tyn_b, tyn_t, tyn_l, tyn_s, tyn_n, k_ii, k_ib, k_tt, gN1_d, gN1_o, gN1_a, gaF_d, gaF_o, gTup_e, gs_n, gs_c, par2G_e, par2F_s, svOf_d, svOf_o, par3G_e, par3F_s, stF2_s, stF_s, stG_e, gStL_e, gOwn_e, owL_a, apG_e, apI_e, iterF_t, iterF_l, rng1F_e, rng2F_e, zip2F_s, zip2G_e, zip3F_s, zip3G_e, seqD_t, seqD_l, finP_d, finP_o, finP_a, finF_d, finF_o, finJF_d, finJF_o, finJ_d, finJ_o, startD_e, startJ_e, dnI_e, dnIH_e, dnGF_e, dnGetF_e, dnSF_e, dnSH_e, gStDn_e, dn1F_e, atI_0, atI_1, atI_2, ixN_2_0, ixN_2_1, appK_eq, cmp_i, eqv_ii, eqv_nn, cast1, cast2, cast3, List.map_cons, List.map_nil, List.append_nil, List.nil_append, List.cons_append, List.replicate_succ, List.replicate_zero, List.length_cons, List.length_nil, List.getElem?_cons_zero, List.getElem?_cons_succ, List.set_cons_zero, List.set_cons_succ, Option.map_some, Bool.not_true, Bool.not_false, Nat.reduceAdd, Nat.reduceSub, Nat.zero_add, Nat.add_zero, if_true, if_false, decide_true, decide_false, and_true, true_and, Nat.reduceLeDiff, Nat.sub_zero, Nat.sub_self, t_ticked, N_ticked, rowD, intsD, zipD3_maps]
  refine dLoop_rel (fun p : Cup × List Int × Int => D.tup [cupD p.1, intsD p.2.1, .int p.2.2]) (fun l ρ => ∃ (A B C : List Int) (cm : Int) (z : List SV), z.length = 7 ∧
    ρ = [SV.d (.tup [.int r.p, .tup (r.cups.map cupD), .tup (r.taps.map intsD)]), .d (.int (ph : Nat)), .d (.tup (f.map .int)), .ow (.lst (A.map .int)), .ow (.lst (B.map .int)), .ow (.lst (C.map .int)), .d (.int cm)] ++ z ∧
    A.length + l.length ≤ 3 ∧ B.length = A.length ∧ C.length = A.length ∧ (∀ q ∈ l, CupOk q.1 ∧ TapOk r.p q.2.1) ∧
    A ++ (tickZ ph l cm).map (fun q => q.1) = outW 0 r (ph, f) ∧ B ++ (tickZ ph l cm).map (fun q => q.2.1) = outW 1 r (ph, f) ∧ C ++ (tickZ ph l cm).map (fun q => q.2.2) = outW 2 r (ph, f)) ?_ ?_ _ _ ?_
  · rintro ⟨c, t, a⟩ l ρ ⟨A, B, C, cm, z, hz, rfl, hA, hB, hC, hq, e1, e2, e3⟩ K hK
    match z, hz with
    | [z1, z2, z3, z4, z5, z6, z7], _ => ?_
    obtain ⟨hc, ht⟩ := hq _ List.mem_cons_self
    dsimp only at hc ht
    have hpt : ph < t.length := by have := ht.1; omega
    simp only [↓e_var, ↓e_C, ↓e_dD, ↓e_d2, ↓e_neg, ↓e_isN, ↓e_B, ↓e_And, ↓e_Or, ↓e_Not, ↓e_AndV, ↓e_OrV, ↓e_NotV, ↓e_IfE, ↓e_Chain, ↓e_Ix, ↓e_Sl, ↓e_No, ↓e_Part, ↓e_nil, ↓e_cons, ↓e_Tup, ↓e_Lst, ↓e_CB, ↓e_ofD, ↓e_jOf, ↓e_Len, ↓e_Ints, ↓e_fMax, ↓e_fMin, ↓e_Tuple, ↓e_List, ↓e_Bls, ↓e_Is, ↓e_seq, ↓e_skip, ↓e_ret, ↓e_drop, ↓e_ifS, ↓e_never, ↓e_asg, ↓e_par2, ↓e_par3, ↓e_App, ↓e_For, ↓e_While, ↓e_Iter, ↓e_Rng1, ↓e_Rng2, ↓e_Zip2, ↓e_Zip3, ↓e_Lc, ↓e_Yes, ↓e_Dn0, ↓e_DnIn, ↓e_DnGet, ↓e_Dn1, iteG_t, iteG_f, iteG_d, iteG_n, iteG_a, iteG_o, iteG_x, iteG_e, iteG_s, iteG_l, iteG_y, iteF_t, iteF_f, varF_d, varF_o, toD_d, toD_l, toD_a, toDF_d, toDF_l, d2F_d, fAdd_i, fAdd_s, fAdd_t, fAdd_l, fSub_i, fMul_i, fMulR_i, fMulR_t, fMulR_l, fDiv_i, fMod_i, fPow_i, negF_i, cLt_i, cLe_i, cGt_i, cGe_i, cEq_e, cNe_e, isNF_n, isNF_t, isNF_i, dBF_b, boF_b, notVF_b, ch2F_d, chF_d, seqOf_t, seqOf_l, seqOf_o, seqOf_s, seqOf_a, seqF_t, seqF_l, seqF_o, kindOf_t, kindOf_l, kindOf_o, kindOf_a, kindF_t, kindF_l, kindF_o, ixF2_s, ixF_s, slF_t, slF_f, partF_i, allD_n, allD_c, tupF_s, lstF_s, ofDF_s, gInt_i, gInt_b, gAbs_i, gMax2_i, gMin2_i, gN_e, jF_s, lenF_s, intsF2_s, intsF_s, fSum_e, gTF_s, gLF_s, blsF_s, blsF2_s, isF_s, isF2_s, tyn_i, tyn_b, tyn_t, tyn_l, tyn_s, tyn_n, k_ii, k_ib, k_tt, gN1_d, gN1_o, gN1_a, gaF_d, gaF_o, gTup_e, gs_n, gs_c, par2G_e, par2F_s, svOf_d, svOf_o, par3G_e, par3F_s, stF2_s, stF_s, stG_e, gStL_e, gOwn_e, owL_a, apG_e, apI_e, iterF_t, iterF_l, rng1F_e, rng2F_e, zip2F_s, zip2G_e, zip3F_s, zip3G_e, seqD_t, seqD_l, finP_d, finP_o, finP_a, finF_d, finF_o, finJF_d, finJF_o, finJ_d, finJ_o, startD_e, startJ_e, dnI_e, dnIH_e, dnGF_e, dnGetF_e, dnSF_e, dnSH_e, gStDn_e, dn1F_e, atI_0, atI_1, atI_2, ixN_2_0, ixN_2_1, appK_eq, cmp_i, eqv_ii, eqv_nn, cast1, cast2, cast3, List.map_cons, List.map_nil, List.append_nil, List.nil_append, List.cons_append, List.replicate_succ, List.replicate_zero, List.length_cons, List.length_nil, List.getElem?_cons_zero, List.getElem?_cons_succ, List.set_cons_zero, List.set_cons_succ, Option.map_some, Bool.not_true, Bool.not_false, Nat.reduceAdd, Nat.reduceSub, Nat.zero_add, Nat.add_zero, if_true, if_false, decide_true, decide_false, and_true, true_and, Nat.reduceLeDiff, Nat.sub_zero, Nat.sub_self, cupD, intsD, atI_ints hpt]
    have sz : ∀ X : List Int, X.length = A.length → (X.map D.int).length < sizeLine := fun X hX => by
      rw [List.length_map, sizeLine_eq]
      omega
    simp only [tickZ, List.map_cons] at e1 e2 e3
    rw [List.length_cons] at hA
    refine ⟨sz C hC, iteF_d (fun q => ?_) (fun q => ?_)⟩
    · rw [if_pos q] at e1 e2 e3
      refine ⟨sz B hB, sz A rfl, hK _ ⟨A ++ [_], B ++ [_], C ++ [_], _, [_, _, _, _, _, _, _], rfl, by simp only [List.map_append, List.map_cons, List.map_nil, List.cons_append, List.nil_append]; rfl, by simp; omega, by simp [hB], by simp [hC], fun q hq' => hq q (List.mem_cons_of_mem _ hq'), ?_, ?_, ?_⟩⟩
      · rw [← e1, List.append_assoc]; rfl
      · rw [← e2, List.append_assoc]; rfl
      · rw [← e3, List.append_assoc]; rfl
    · rw [if_neg q] at e1 e2 e3
      refine ⟨sz B hB, sz A rfl, hK _ ⟨A ++ [_], B ++ [_], C ++ [_], _, [_, _, _, _, _, _, _], rfl, by simp only [List.map_append, List.map_cons, List.map_nil, List.cons_append, List.nil_append]; rfl, by simp; omega, by simp [hB], by simp [hC], fun q hq' => hq q (List.mem_cons_of_mem _ hq'), ?_, ?_, ?_⟩⟩
      · rw [← e1, List.append_assoc]; rfl
      · rw [← e2, List.append_assoc]; rfl
      · rw [← e3, List.append_assoc]; rfl
  · rintro ρ ⟨A, B, C, cm, z, hz, rfl, hA, hB, hC, hq, e1, e2, e3⟩
    match z, hz with
    | [z1, z2, z3, z4, z5, z6, z7], _ => ?_
    simp only [tickZ, List.map_nil, List.append_nil] at e1 e2 e3
    subst e1 e2 e3
    simp only [↓e_var, ↓e_C, ↓e_dD, ↓e_d2, ↓e_neg, ↓e_isN, ↓e_B, ↓e_And, ↓e_Or, ↓e_Not, ↓e_AndV, ↓e_OrV, ↓e_NotV, ↓e_IfE, ↓e_Chain, ↓e_Ix, ↓e_Sl, ↓e_No, ↓e_Part, ↓e_nil, ↓e_cons, ↓e_Tup, ↓e_Lst, ↓e_CB, ↓e_ofD, ↓e_jOf, ↓e_Len, ↓e_Ints, ↓e_fMax, ↓e_fMin, ↓e_Tuple, ↓e_List, ↓e_Bls, ↓e_Is, ↓e_seq, ↓e_skip, ↓e_ret, ↓e_drop, ↓e_ifS, ↓e_never, ↓e_asg, ↓e_par2, ↓e_par3, ↓e_App, ↓e_For, ↓e_While, ↓e_Iter, ↓e_Rng1, ↓e_Rng2, ↓e_Zip2, ↓e_Zip3, ↓e_Lc, ↓e_Yes, ↓e_Dn0, ↓e_DnIn, ↓e_DnGet, ↓e_Dn1, iteG_t, iteG_f, iteG_d, iteG_n, iteG_a, iteG_o, iteG_x, iteG_e, iteG_s, iteG_l, iteG_y, iteF_t, iteF_f, varF_d, varF_o, toD_d, toD_l, toD_a, toDF_d, toDF_l, d2F_d, fAdd_i, fAdd_s, fAdd_t, fAdd_l, fSub_i, fMul_i, fMulR_i, fMulR_t, fMulR_l, fDiv_i, fMod_i, fPow_i, negF_i, cLt_i, cLe_i, cGt_i, cGe_i, cEq_e, cNe_e, isNF_n, isNF_t, isNF_i, dBF_b, boF_b, notVF_b, ch2F_d, chF_d, seqOf_t, seqOf_l, seqOf_o, seqOf_s, seqOf_a, seqF_t, seqF_l, seqF_o, kindOf_t, kindOf_l, kindOf_o, kindOf_a, kindF_t, kindF_l, kindF_o, ixF2_s, ixF_s, slF_t, slF_f, partF_i, allD_n, allD_c, tupF_s, lstF_s, ofDF_s, gInt_i, gInt_b, gAbs_i, gMax2_i, gMin2_i, gN_e, jF_s, lenF_s, intsF2_s, intsF_s, fSum_e, gTF_s, gLF_s, blsF_s, blsF2_s, isF_s, isF2_s, tyn_i, tyn_b, tyn_t, tyn_l, tyn_s, tyn_n, k_ii, k_ib, k_tt, gN1_d, gN1_o, gN1_a, gaF_d, gaF_o, gTup_e, gs_n, gs_c, par2G_e, par2F_s, svOf_d, svOf_o, par3G_e, par3F_s, stF2_s, stF_s, stG_e, gStL_e, gOwn_e, owL_a, apG_e, apI_e, iterF_t, iterF_l, rng1F_e, rng2F_e, zip2F_s, zip2G_e, zip3F_s, zip3G_e, seqD_t, seqD_l, finP_d, finP_o, finP_a, finF_d, finF_o, finJF_d, finJF_o, finJ_d, finJ_o, startD_e, startJ_e, dnI_e, dnIH_e, dnGF_e, dnGetF_e, dnSF_e, dnSH_e, gStDn_e, dn1F_e, atI_0, atI_1, atI_2, ixN_2_0, ixN_2_1, appK_eq, cmp_i, eqv_ii, eqv_nn, cast1, cast2, cast3, List.map_cons, List.map_nil, List.append_nil, List.nil_append, List.cons_append, List.replicate_succ, List.replicate_zero, List.length_cons, List.length_nil, List.getElem?_cons_zero, List.getElem?_cons_succ, List.set_cons_zero, List.set_cons_succ, Option.map_some, Bool.not_true, Bool.not_false, Nat.reduceAdd, Nat.reduceSub, Nat.zero_add, Nat.add_zero, if_true, if_false, decide_true, decide_false, and_true, true_and, Nat.reduceLeDiff, Nat.sub_zero, Nat.sub_self]
    exact h
  · exact ⟨[], [], [], 0, _, rfl, rfl, by simpa using hz, rfl, rfl, fun q hq => zip3_mem ok hf hq, rfl, rfl, rfl⟩

/-! ### the run -/
def nxt (r : Row) (s : Stg) : Stg := ((s.1 + 1) % r.p.toNat, outW 0 r s)
def orb (r : Row) (s : Stg) : Nat → Stg
  | 0 => s
  | n + 1 => nxt r (orb r s n)
theorem tickZ_fill (ph : Nat) : ∀ (cs : List Cup) (ts : List (List Int)) (f : List Int) (cm : Int), ts.length = cs.length → (∀ c ∈ cs, CupOk c) → (∀ t ∈ ts, ph < t.length ∧ ∀ x ∈ t, 0 ≤ x) → FillOk cs f → 0 ≤ cm →
    FillOk cs ((tickZ ph (cs.zip (ts.zip f)) cm).map fun q => q.1)
  | [], _, [], _, _, _, _, _, _ => by simp [tickZ, FillOk]
  | [], _, _ :: _, _, _, _, _, h, _ => h.elim
  | _ :: _, _, [], _, _, _, _, h, _ => h.elim
  | _ :: _, [], _ :: _, _, h, _, _, _, _ => by simp at h
  | c :: cs, t :: ts, a :: f, cm, hl, hc, ht, hf, hcm => by
    have h1 := hc c List.mem_cons_self
    have h2 := ht t List.mem_cons_self
    have h3 : 0 ≤ t.getD ph 0 := by
      rw [List.getD_eq_getElem?_getD, List.getElem?_eq_getElem h2.1]
      exact h2.2 _ (List.getElem_mem h2.1)
    obtain ⟨c1, c2, c3, c4, c5, c6⟩ := h1
    obtain ⟨⟨f1, f2⟩, hf⟩ := hf
    simp only [List.zip_cons_cons, tickZ, List.map_cons, FillOk]
    have ih := fun cm' h => tickZ_fill ph cs ts f cm' (by simpa using hl) (fun d hd => hc d (List.mem_cons_of_mem _ hd)) (fun d hd => ht d (List.mem_cons_of_mem _ hd)) hf h
    generalize t.getD ph 0 = g at *
    split <;> (try split) <;> exact ⟨⟨by omega, by omega⟩, ih _ (by omega)⟩
theorem nxt_ok {r : Row} {s : Stg} (ok : r.Ok) (h : StOk r s) : StOk r (nxt r s) := by
  have p1 := ok.p1
  refine ⟨Nat.mod_lt _ (by omega), ?_⟩
  have := tickZ_fill s.1 r.cups r.taps s.2 0 ok.same ok.cups (fun t ht => ⟨by have := (ok.taps t ht).1; have := h.1; omega, fun x hx => ((ok.taps t ht).2 x hx).1⟩) h.2 (by decide)
  exact this
theorem orb_ok {r : Row} {s : Stg} (ok : r.Ok) (h : StOk r s) : ∀ n, StOk r (orb r s n)
  | 0 => h
  | n + 1 => nxt_ok ok (orb_ok ok h n)
theorem start_ok {r : Row} {f : List Int} (ok : r.Ok) (h : FillOk r.cups f) : StOk r (0, f) := ⟨by have := ok.p1; show 0 < r.p.toNat; omega, h⟩
/-- all fillings, all standings -/
def fills : List Cup → List (List Int)
  | [] => [[]]
  | c :: cs => (List.range c.1.toNat).flatMap fun (x : Nat) => (fills cs).map fun f => (x : Int) :: f
theorem mem_fills : ∀ {cs : List Cup} {f : List Int}, FillOk cs f → f ∈ fills cs
  | [], [], _ => by simp [fills]
  | [], _ :: _, h => h.elim
  | _ :: _, [], h => h.elim
  | c :: cs, x :: f, h => by
    have h1 : 0 ≤ x ∧ x ≤ c.1 - 1 := h.1
    simp only [fills, List.mem_flatMap, List.mem_range, List.mem_map]
    exact ⟨x.toNat, by omega, f, mem_fills h.2, by rw [Int.toNat_of_nonneg h1.1]⟩
theorem length_fills : ∀ (cs : List Cup), (∀ c ∈ cs, CupOk c) → (fills cs).length ≤ 60 ^ cs.length
  | [], _ => by simp [fills]
  | c :: cs, h => by
    have h1 := length_fills cs fun d hd => h d (List.mem_cons_of_mem _ hd)
    have h2 := h c List.mem_cons_self
    simp only [fills, List.length_flatMap, List.length_map]
    have e : ((List.range c.1.toNat).map fun _ => (fills cs).length).sum = c.1.toNat * (fills cs).length := by
      generalize c.1.toNat = n
      induction n with
      | zero => simp
      | succ n ih => rw [List.range_succ, List.map_append, List.sum_append, ih]; simp [Nat.succ_mul]
    rw [e, List.length_cons, Nat.pow_succ]
    have h3 : c.1.toNat ≤ 60 := by have := h2.2.1; omega
    calc c.1.toNat * (fills cs).length ≤ 60 * 60 ^ cs.length := Nat.mul_le_mul h3 h1
      _ = _ := Nat.mul_comm _ _
def allSt (r : Row) : List Stg := (List.range r.p.toNat).flatMap fun ph => (fills r.cups).map fun f => (ph, f)
theorem mem_allSt {r : Row} {s : Stg} (h : StOk r s) : s ∈ allSt r := by
  simp only [allSt, List.mem_flatMap, List.mem_range, List.mem_map]
  exact ⟨s.1, h.1, s.2, mem_fills h.2, rfl⟩
theorem length_allSt {r : Row} (ok : r.Ok) : (allSt r).length ≤ 1296000 := by
  have h1 := length_fills r.cups ok.cups
  simp only [allSt, List.length_flatMap, List.length_map]
  have e : ((List.range r.p.toNat).map fun _ => (fills r.cups).length).sum = r.p.toNat * (fills r.cups).length := by
    generalize r.p.toNat = n
    induction n with
    | zero => simp
    | succ n ih => rw [List.range_succ, List.map_append, List.sum_append, ih]; simp [Nat.succ_mul]
  rw [e]
  have h2 : r.p.toNat ≤ 6 := by have := ok.p6; omega
  have h3 : (60 : Nat) ^ r.cups.length ≤ 60 ^ 3 := Nat.pow_le_pow_right (by decide) ok.n3
  calc r.p.toNat * (fills r.cups).length ≤ 6 * 60 ^ 3 := Nat.mul_le_mul h2 (Nat.le_trans h1 h3)
    _ = 1296000 := by decide
theorem nodup_le {α : Type} [DecidableEq α] : ∀ {l l' : List α}, l.Nodup → (∀ x ∈ l, x ∈ l') → l.length ≤ l'.length
  | [], _, _, _ => Nat.zero_le _
  | x :: l, l', hn, h => by
    obtain ⟨h1, h2⟩ := List.nodup_cons.mp hn
    have hx := h x List.mem_cons_self
    have := nodup_le (l := l) (l' := l'.erase x) h2 fun y hy => by
      have : y ≠ x := fun e => h1 (e ▸ hy)
      exact (List.mem_erase_of_ne this).mpr (h y (List.mem_cons_of_mem _ hy))
    rw [List.length_erase_of_mem hx] at this
    have : 0 < l'.length := List.length_pos_of_mem hx
    rw [List.length_cons]
    omega
/-- no standing twice: no more than there are -/
theorem orb_bound {r : Row} {s : Stg} (ok : r.Ok) (h : StOk r s) {n : Nat} (inj : ∀ i j, i < n → j < n → orb r s i = orb r s j → i = j) : n ≤ (allSt r).length := by
  have h1 : ((List.range n).map (orb r s)).Nodup := by
    rw [List.nodup_iff_pairwise_ne, List.pairwise_map]
    exact List.Pairwise.imp_of_mem (fun {a b} ha hb hab e => hab (inj a b (List.mem_range.mp ha) (List.mem_range.mp hb) e)) (List.nodup_iff_pairwise_ne.mp List.nodup_range)
  have := nodup_le h1 (l' := allSt r) fun x hx => by
    obtain ⟨i, _, rfl⟩ := List.mem_map.mp hx
    exact mem_allSt (orb_ok ok h i)
  simpa using this
def Dx_ticked (P : Program) (w : World) (K : PySem.W.Frag) (mg : Str → Option Value) (base : Heap) : Prop := ∃ f fd, Def P w K mg base 1 "ticked" f fd ["row", "phase", "filling"] (spP (bas P w K) 3 sp_ticked)
theorem ok_ticked {P : Program} {w : World} {K : PySem.W.Frag} {mg : Str → Option Value} {base : Heap} (M : Mg mg) {f : Addr} {fd : FuncData} (F : FunD K "ticked" "ticked" (defArgs s_ticked) (defBody s_ticked) (defScope s_ticked) [] [] f fd) : FnOk P w K mg base CX0 1 f fd ["row", "phase", "filling"] (spP (bas P w K) 3 sp_ticked) := by
  exact okP (tb := t_ticked) F sc_ticked (fun cdv A outer s H E hr =>
    (dss_cons (ds_asg (de_lst da_nil) (dg_name sc_ticked.nd (i := 3) rfl (by first | exact .inl rfl | exact .inr rfl) (by first | exact .inl rfl | exact .inr (by decide))))
      (dss_cons (ds_asg (de_lst da_nil) (dg_name sc_ticked.nd (i := 4) rfl (by first | exact .inl rfl | exact .inr rfl) (by first | exact .inl rfl | exact .inr (by decide))))
      (dss_cons (ds_asg (de_lst da_nil) (dg_name sc_ticked.nd (i := 5) rfl (by first | exact .inl rfl | exact .inr rfl) (by first | exact .inl rfl | exact .inr (by decide))))
      (dss_cons (ds_asg de_int (dg_name sc_ticked.nd (i := 6) rfl (by first | exact .inl rfl | exact .inr rfl) (by first | exact .inl rfl | exact .inr (by decide))))
      (dss_cons (ds_for PassesOwn.never rfl (di_zip3 (by rfl) M.f_zip (da_cons (de_data (de_ix (de_var (pv 0)) de_int)) (da_cons (de_data (de_ix (de_var (pv 0)) de_int)) (da_cons (de_data (de_var (pv 2))) da_nil)))) (dg_tup rfl (dgs_cons (dg_tup rfl (dgs_cons (dg_name sc_ticked.nd (i := 7) rfl (by first | exact .inl rfl | exact .inr rfl) (by first | exact .inl rfl | exact .inr (by decide))) (dgs_cons (dg_name sc_ticked.nd (i := 8) rfl (by first | exact .inl rfl | exact .inr rfl) (by first | exact .inl rfl | exact .inr (by decide))) (dgs_cons (dg_name sc_ticked.nd (i := 9) rfl (by first | exact .inl rfl | exact .inr rfl) (by first | exact .inl rfl | exact .inr (by decide))) (dgs_nil (ws := [])))))) (dgs_cons (dg_name sc_ticked.nd (i := 10) rfl (by first | exact .inl rfl | exact .inr rfl) (by first | exact .inl rfl | exact .inr (by decide))) (dgs_cons (dg_name sc_ticked.nd (i := 11) rfl (by first | exact .inl rfl | exact .inr rfl) (by first | exact .inl rfl | exact .inr (by decide))) (dgs_nil (ws := [])))))) (dss_cons (ds_asg (de_add (de_add (de_var (pv 11)) (de_ix (de_var (pv 10)) (de_var (pv 1)))) (de_var (pv 6))) (dg_name sc_ticked.nd (i := 12) rfl (by first | exact .inl rfl | exact .inr rfl) (by first | exact .inl rfl | exact .inr (by decide))))
      (dss_cons (ds_asg (de_callB (call_min2 rfl) (snd_min2.toC) (by rfl) M.f_min rfl (da_cons (de_data (de_var (pv 12))) (da_cons (de_data (de_var (pv 8))) da_nil))) (dg_name sc_ticked.nd (i := 13) rfl (by first | exact .inl rfl | exact .inr rfl) (by first | exact .inl rfl | exact .inr (by decide))))
      (dss_cons (ds_expr (de_append (de_var (pv 5)) (da_cons (de_data (de_sub (de_var (pv 12)) (de_var (pv 13)))) da_nil)))
      (dss_cons (ds_asg (de_if (dt_ge (de_var (pv 13)) (de_var (pv 7))) (de_sub (de_var (pv 13)) (de_var (pv 9))) de_int) (dg_name sc_ticked.nd (i := 6) rfl (by first | exact .inl rfl | exact .inr rfl) (by first | exact .inl rfl | exact .inr (by decide))))
      (dss_cons (ds_expr (de_append (de_var (pv 4)) (da_cons (de_data (de_var (pv 6))) da_nil)))
      (dss_one (ds_expr (de_append (de_var (pv 3)) (da_cons (de_data (de_sub (de_var (pv 13)) (de_var (pv 6)))) da_nil))))))))))
      (dss_one (ds_ret (de_tup (da_cons (de_data (de_callTy (call_tuple_of) (snd_tuple) (by rfl) M.f_tuple rfl (da_cons (de_var (pv 3)) da_nil))) (da_cons (de_data (de_callTy (call_tuple_of) (snd_tuple) (by rfl) M.f_tuple rfl (da_cons (de_var (pv 4)) da_nil))) (da_cons (de_data (de_callTy (call_tuple_of) (snd_tuple) (by rfl) M.f_tuple rfl (da_cons (de_var (pv 5)) da_nil))) da_nil)))))))))))) rd_ticked
end DL

set_option Elab.async false
set_option linter.all false
set_option maxRecDepth 100000
set_option maxHeartbeats 0
namespace DL
open PySem PySem.Spec L2
open PyProof.Rows hiding St
def keyOf (s : Stg) : NestedKey := .tup [.num s.1, .tup (s.2.map .num)]
theorem kDs_num : ∀ l : List Int, kDs (l.map NestedKey.num) = l.map D.int
  | [] => rfl
  | x :: l => by simp [kDs, kD, kDs_num l]
theorem kD_key (s : Stg) : kD (keyOf s) = stD s := by
  simp [keyOf, kD, kDs, stD, intsD, kDs_num]
theorem depth_num : ∀ l : List Int, NestedKey.depthAll (l.map NestedKey.num) = 0
  | [] => rfl
  | x :: l => by simp [NestedKey.depthAll, NestedKey.depth, depth_num l]
theorem depth_key (s : Stg) : (keyOf s).depth ≤ 8 := by
  simp [keyOf, NestedKey.depth, NestedKey.depthAll, depth_num]
theorem key_inj {s t : Stg} (h : keyOf s = keyOf t) : s = t := by
  unfold keyOf at h
  injection h with h
  injection h with h1 h2
  injection h1 with h1
  injection h2 with h2 _
  injection h2 with h2
  have h3 : s.1 = t.1 := by omega
  have h4 : s.2 = t.2 := by
    have := congrArg (List.map fun k => match k with | NestedKey.num i => i | _ => 0) h2
    simpa [List.map_map, Function.comp_def] using this
  exact Prod.ext h3 h4
/-- places of the standings met -/
def plc (o : Nat → Stg) (n : Nat) : List (NestedKey × D) := (List.range n).map fun i => (keyOf (o i), .int (i : Nat))
theorem plc_none {o : Nat → Stg} {n : Nat} {s : Stg} (h : ∀ i, i < n → o i ≠ s) : dnAt (plc o n) (keyOf s) = none := by
  unfold dnAt plc
  rw [Option.map_eq_none_iff, List.find?_eq_none]
  intro p hp
  obtain ⟨i, hi, rfl⟩ := List.mem_map.mp hp
  simp only [decide_eq_true_eq]
  intro e
  exact h i (List.mem_range.mp hi) (key_inj e)
theorem plc_some {o : Nat → Stg} {n i : Nat} {s : Stg} (hi : i < n) (e : o i = s) (inj : ∀ i j, i < n → j < n → o i = o j → i = j) : dnAt (plc o n) (keyOf s) = some (.int (i : Nat)) := by
  unfold dnAt plc
  have : ((List.range n).map fun i => (keyOf (o i), D.int ((i : Nat) : Int))).find? (fun p => decide (p.1 = keyOf s)) = some (keyOf (o i), .int ((i : Nat) : Int)) := by
    rw [List.find?_map, Option.map_eq_some_iff]
    refine ⟨i, ?_, rfl⟩
    rw [List.find?_range_eq_some]
    refine ⟨by simp [e], List.mem_range.mpr hi, fun j hj => ?_⟩
    simp only [Function.comp_apply, Bool.not_eq_eq_eq_not, Bool.not_true, decide_eq_false_iff_not]
    intro q
    have := inj j i (by omega) hi ((key_inj q).trans e.symm)
    omega
  rw [this]
  rfl
theorem plc_put {o : Nat → Stg} {n : Nat} (h : ∀ i, i < n → o i ≠ o n) : dnPut (plc o n) (keyOf (o n)) (.int (n : Nat)) = plc o (n + 1) := by
  unfold dnPut
  rw [plc_none h]
  simp [plc, List.range_succ]
theorem inj_more {o : Nat → Stg} {n : Nat} (inj : ∀ i j, i < n → j < n → o i = o j → i = j) (h : ∀ i, i < n → o i ≠ o n) : ∀ i j, i < n + 1 → j < n + 1 → o i = o j → i = j := fun i j hi hj e => by
  by_cases a : i = n
  · by_cases b : j = n
    · omega
    · subst a
      exact absurd e.symm (h j (by omega))
  · by_cases b : j = n
    · subst b
      exact absurd e (h i (by omega))
    · exact inj i j (by omega) (by omega) e
def N_trail : List Str := ["row", "filling", "found", "places", "here"]
theorem sc_trail : FnScope N_trail ["row", "filling"] (defScope s_trail) := ⟨rfl, rfl, rfl, by decide +kernel, rfl, by decide +kernel, by decide +kernel⟩
def t_trail : DTS :=
    (dSeq (dPar3 2 3 4 (dCons (dLst dNil) (dCons dDn0 (dCons (dTup (dCons (dC (.int 0)) (dCons (dD (dVar 1)) dNil))) dNil))))
      (dSeq (dWhile (dB (dDnIn true (dD (dVar 4)) (dVar 3))) (dSeq (dAsg (dCB gLen (dCons (dVar 2) dNil)) (gStDn (dVar 3) (dD (dVar 4))))
      (dSeq (dDrop (dApp (dVar 2) (dCons (dD (dVar 4)) dNil)))
      (dAsg (dTup (dCons (dD (d2 fMod (dD (d2 fAdd (dD (dIx (dVar 4) (dC (.int 0)))) (dD (dC (.int 1))))) (dD (dIx (dVar 0) (dC (.int 0)))))) (dCons (dD (dIx (dCB (ofD (gN 3 sp_ticked)) (dCons (dD (dVar 0)) (dCons (dD (dIx (dVar 4) (dC (.int 0)))) (dCons (dD (dIx (dVar 4) (dC (.int 1)))) dNil)))) (dC (.int 0)))) dNil))) (gN1 4)))))
      (dRet (dTup (dCons (dD (dVar 2)) (dCons (dD (dDnGet (dVar 3) (dD (dVar 4)))) dNil))))))
def sp_trail : DFd := fun ds R => ∃ r f, ds = [rowD r, intsD f] ∧ r.Ok ∧ FillOk r.cups f ∧ ∀ m first, m ≤ 1296000 → first < m → orb r (0, f) m = orb r (0, f) first → R (.d (.tup [.lst ((List.range m).map fun i => stD (orb r (0, f) i)), .int (first : Nat)]))
theorem rd_trail : ∀ ds R, ds.length = 2 → sp_trail ds R → t_trail { nx := fun _ => R (.d .non), rt := finP R } (startD N_trail ds) := by
  rintro ds R - ⟨r, f, rfl, ok, hf, h⟩
  have st := start_ok ok hf
  have p1 := ok.p1
  have fin : ∀ n, (∀ i j, i < n → j < n → orb r (0, f) i = orb r (0, f) j → i = j) → n ≤ 1296000 := fun n inj => Nat.le_trans (orb_bound ok st inj) (length_allSt ok)
  simp only [↓e_var, ↓e_C, ↓e_dD, ↓e_d2, ↓e_neg, ↓e_isN, ↓e_B, ↓e_And, ↓e_Or, ↓e_Not, ↓e_AndV, ↓e_OrV, ↓e_NotV, ↓e_IfE, ↓e_Chain, ↓e_Ix, ↓e_Sl, ↓e_No, ↓e_Part, ↓e_nil, ↓e_cons, ↓e_Tup, ↓e_Lst, ↓e_CB, ↓e_ofD, ↓e_jOf, ↓e_Len, ↓e_Ints, ↓e_fMax, ↓e_fMin, ↓e_Tuple, ↓e_List, ↓e_Bls, ↓e_Is, ↓e_seq, ↓e_skip, ↓e_ret, ↓e_drop, ↓e_ifS, ↓e_never, ↓e_asg, ↓e_par2, ↓e_par3, ↓e_App, ↓e_For, ↓e_While, ↓e_Iter, ↓e_Rng1, ↓e_Rng2, ↓e_Zip2, ↓e_Zip3, ↓e_Lc, ↓e_Yes, ↓e_Dn0, ↓e_DnIn, ↓e_DnGet, ↓e_Dn1, iteG_t, iteG_f, iteG_d, iteG_n, iteG_a, iteG_o, iteG_x, iteG_e, iteG_s, iteG_l, iteG_y, iteF_t, iteF_f, varF_d, varF_o, toD_d, toD_l, toD_a, toDF_d, toDF_l, d2F_d, fAdd_i, fAdd_s, fAdd_t, fAdd_l, fSub_i, fMul_i, fMulR_i, fMulR_t, fMulR_l, fDiv_i, fMod_i, fPow_i, negF_i, cLt_i, cLe_i, cGt_i, cGe_i, cEq_e, cNe_e, isNF_n, isNF_t, isNF_i, dBF_b, boF_b, notVF_b, ch2F_d, chF_d, seqOf_t, seqOf_l, seqOf_o, seqOf_s, seqOf_a, seqF_t, seqF_l, seqF_o, kindOf_t, kindOf_l, kindOf_o, kindOf_a, kindF_t, kindF_l, kindF_o, ixF2_s, ixF_s, slF_t, slF_f, partF_i, allD_n, allD_c, tupF_s, lstF_s, ofDF_s, gInt_i, gInt_b, gAbs_i, gMax2_i, gMin2_i, gN_e, jF_s, lenF_s, intsF2_s, intsF_s, fSum_e, gTF_s, gLF_s, blsF_s, blsF2_s, isF_s, isF2_s, tyn_i, tyn_b, tyn_t, tyn_l, tyn_s, tyn_n, k_ii, k_ib, k_tt, gN1_d, gN1_o, gN1_a, gaF_d, gaF_o, gTup_e, gs_n, gs_c, par2G_e, par2F_s, svOf_d, svOf_o, par3G_e, par3F_s, stF2_s, stF_s, stG_e, gStL_e, gOwn_e, owL_a, apG_e, apI_e, iterF_t, iterF_l, rng1F_e, rng2F_e, zip2F_s, zip2G_e, zip3F_s, zip3G_e, seqD_t, seqD_l, finP_d, finP_o, finP_a, finF_d, finF_o, finJF_d, finJF_o, finJ_d, finJ_o, startD_e, startJ_e, dnI_e, dnIH_e, dnGF_e, dnGetF_e, dnSF_e, dnSH_e, gStDn_e, dn1F_e, atI_0, atI_1, atI_2, ixN_2_0, ixN_2_1, appK_eq, cmp_i, eqv_ii, eqv_nn, cast1, cast2, cast3, List.map_cons, List.map_nil, List.append_nil, List.nil_append, List.cons_append, List.replicate_succ, List.replicate_zero, List.length_cons, List.length_nil, List.getElem?_cons_zero, List.getElem?_cons_succ, List.set_cons_zero, List.set_cons_succ, Option.map_some, Bool.not_true, Bool.not_false, Nat.reduceAdd, Nat.reduceSub, Nat.zero_add, Nat.add_zero, if_true, if_false, decide_true, decide_false, and_true, true_and, Nat.reduceLeDiff, Nat.sub_zero, Nat.sub_self, t_trail, N_trail, intsD]
  refine ⟨fun m ρ => ∃ n, m = 1296001 - n ∧ (∀ i j, i < n → j < n → orb r (0, f) i = orb r (0, f) j → i = j) ∧
    ρ = [SV.d (rowD r), .d (intsD f), .ow (.lst ((List.range n).map fun i => stD (orb r (0, f) i))), .ow (.dn (plc (orb r (0, f)) n)), .d (stD (orb r (0, f) n))], ⟨_, 0, rfl, fun i j hi => by omega, rfl⟩, ?_⟩
  rintro m ρ ⟨n, rfl, inj, rfl⟩
  have hn := fin n inj
  simp only [↓e_var, ↓e_C, ↓e_dD, ↓e_d2, ↓e_neg, ↓e_isN, ↓e_B, ↓e_And, ↓e_Or, ↓e_Not, ↓e_AndV, ↓e_OrV, ↓e_NotV, ↓e_IfE, ↓e_Chain, ↓e_Ix, ↓e_Sl, ↓e_No, ↓e_Part, ↓e_nil, ↓e_cons, ↓e_Tup, ↓e_Lst, ↓e_CB, ↓e_ofD, ↓e_jOf, ↓e_Len, ↓e_Ints, ↓e_fMax, ↓e_fMin, ↓e_Tuple, ↓e_List, ↓e_Bls, ↓e_Is, ↓e_seq, ↓e_skip, ↓e_ret, ↓e_drop, ↓e_ifS, ↓e_never, ↓e_asg, ↓e_par2, ↓e_par3, ↓e_App, ↓e_For, ↓e_While, ↓e_Iter, ↓e_Rng1, ↓e_Rng2, ↓e_Zip2, ↓e_Zip3, ↓e_Lc, ↓e_Yes, ↓e_Dn0, ↓e_DnIn, ↓e_DnGet, ↓e_Dn1, iteG_t, iteG_f, iteG_d, iteG_n, iteG_a, iteG_o, iteG_x, iteG_e, iteG_s, iteG_l, iteG_y, iteF_t, iteF_f, varF_d, varF_o, toD_d, toD_l, toD_a, toDF_d, toDF_l, d2F_d, fAdd_i, fAdd_s, fAdd_t, fAdd_l, fSub_i, fMul_i, fMulR_i, fMulR_t, fMulR_l, fDiv_i, fMod_i, fPow_i, negF_i, cLt_i, cLe_i, cGt_i, cGe_i, cEq_e, cNe_e, isNF_n, isNF_t, isNF_i, dBF_b, boF_b, notVF_b, ch2F_d, chF_d, seqOf_t, seqOf_l, seqOf_o, seqOf_s, seqOf_a, seqF_t, seqF_l, seqF_o, kindOf_t, kindOf_l, kindOf_o, kindOf_a, kindF_t, kindF_l, kindF_o, ixF2_s, ixF_s, slF_t, slF_f, partF_i, allD_n, allD_c, tupF_s, lstF_s, ofDF_s, gInt_i, gInt_b, gAbs_i, gMax2_i, gMin2_i, gN_e, jF_s, lenF_s, intsF2_s, intsF_s, fSum_e, gTF_s, gLF_s, blsF_s, blsF2_s, isF_s, isF2_s, tyn_i, tyn_b, tyn_t, tyn_l, tyn_s, tyn_n, k_ii, k_ib, k_tt, gN1_d, gN1_o, gN1_a, gaF_d, gaF_o, gTup_e, gs_n, gs_c, par2G_e, par2F_s, svOf_d, svOf_o, par3G_e, par3F_s, stF2_s, stF_s, stG_e, gStL_e, gOwn_e, owL_a, apG_e, apI_e, iterF_t, iterF_l, rng1F_e, rng2F_e, zip2F_s, zip2G_e, zip3F_s, zip3G_e, seqD_t, seqD_l, finP_d, finP_o, finP_a, finF_d, finF_o, finJF_d, finJF_o, finJ_d, finJ_o, startD_e, startJ_e, dnI_e, dnIH_e, dnGF_e, dnGetF_e, dnSF_e, dnSH_e, gStDn_e, dn1F_e, atI_0, atI_1, atI_2, ixN_2_0, ixN_2_1, appK_eq, cmp_i, eqv_ii, eqv_nn, cast1, cast2, cast3, List.map_cons, List.map_nil, List.append_nil, List.nil_append, List.cons_append, List.replicate_succ, List.replicate_zero, List.length_cons, List.length_nil, List.getElem?_cons_zero, List.getElem?_cons_succ, List.set_cons_zero, List.set_cons_succ, Option.map_some, Bool.not_true, Bool.not_false, Nat.reduceAdd, Nat.reduceSub, Nat.zero_add, Nat.add_zero, if_true, if_false, decide_true, decide_false, and_true, true_and, Nat.reduceLeDiff, Nat.sub_zero, Nat.sub_self]
  by_cases hx : ∃ i, i < n ∧ orb r (0, f) i = orb r (0, f) n
  · obtain ⟨i, hi, e⟩ := hx
    have pe := plc_some hi e inj
    have e1 : (true != (dnAt (plc (orb r (0, f)) n) (keyOf (orb r (0, f) n))).isSome) = false := by rw [pe]; rfl
    refine ⟨keyOf (orb r (0, f) n), (kD_key _).symm, ⟨_, rfl⟩, depth_key _, ?_⟩
    simp only [↓e_var, ↓e_C, ↓e_dD, ↓e_d2, ↓e_neg, ↓e_isN, ↓e_B, ↓e_And, ↓e_Or, ↓e_Not, ↓e_AndV, ↓e_OrV, ↓e_NotV, ↓e_IfE, ↓e_Chain, ↓e_Ix, ↓e_Sl, ↓e_No, ↓e_Part, ↓e_nil, ↓e_cons, ↓e_Tup, ↓e_Lst, ↓e_CB, ↓e_ofD, ↓e_jOf, ↓e_Len, ↓e_Ints, ↓e_fMax, ↓e_fMin, ↓e_Tuple, ↓e_List, ↓e_Bls, ↓e_Is, ↓e_seq, ↓e_skip, ↓e_ret, ↓e_drop, ↓e_ifS, ↓e_never, ↓e_asg, ↓e_par2, ↓e_par3, ↓e_App, ↓e_For, ↓e_While, ↓e_Iter, ↓e_Rng1, ↓e_Rng2, ↓e_Zip2, ↓e_Zip3, ↓e_Lc, ↓e_Yes, ↓e_Dn0, ↓e_DnIn, ↓e_DnGet, ↓e_Dn1, iteG_t, iteG_f, iteG_d, iteG_n, iteG_a, iteG_o, iteG_x, iteG_e, iteG_s, iteG_l, iteG_y, iteF_t, iteF_f, varF_d, varF_o, toD_d, toD_l, toD_a, toDF_d, toDF_l, d2F_d, fAdd_i, fAdd_s, fAdd_t, fAdd_l, fSub_i, fMul_i, fMulR_i, fMulR_t, fMulR_l, fDiv_i, fMod_i, fPow_i, negF_i, cLt_i, cLe_i, cGt_i, cGe_i, cEq_e, cNe_e, isNF_n, isNF_t, isNF_i, dBF_b, boF_b, notVF_b, ch2F_d, chF_d, seqOf_t, seqOf_l, seqOf_o, seqOf_s, seqOf_a, seqF_t, seqF_l, seqF_o, kindOf_t, kindOf_l, kindOf_o, kindOf_a, kindF_t, kindF_l, kindF_o, ixF2_s, ixF_s, slF_t, slF_f, partF_i, allD_n, allD_c, tupF_s, lstF_s, ofDF_s, gInt_i, gInt_b, gAbs_i, gMax2_i, gMin2_i, gN_e, jF_s, lenF_s, intsF2_s, intsF_s, fSum_e, gTF_s, gLF_s, blsF_s, blsF2_s, isF_s, isF2_s, tyn_i, tyn_b, tyn_t, tyn_l, tyn_s, tyn_n, k_ii, k_ib, k_tt, gN1_d, gN1_o, gN1_a, gaF_d, gaF_o, gTup_e, gs_n, gs_c, par2G_e, par2F_s, svOf_d, svOf_o, par3G_e, par3F_s, stF2_s, stF_s, stG_e, gStL_e, gOwn_e, owL_a, apG_e, apI_e, iterF_t, iterF_l, rng1F_e, rng2F_e, zip2F_s, zip2G_e, zip3F_s, zip3G_e, seqD_t, seqD_l, finP_d, finP_o, finP_a, finF_d, finF_o, finJF_d, finJF_o, finJ_d, finJ_o, startD_e, startJ_e, dnI_e, dnIH_e, dnGF_e, dnGetF_e, dnSF_e, dnSH_e, gStDn_e, dn1F_e, atI_0, atI_1, atI_2, ixN_2_0, ixN_2_1, appK_eq, cmp_i, eqv_ii, eqv_nn, cast1, cast2, cast3, List.map_cons, List.map_nil, List.append_nil, List.nil_append, List.cons_append, List.replicate_succ, List.replicate_zero, List.length_cons, List.length_nil, List.getElem?_cons_zero, List.getElem?_cons_succ, List.set_cons_zero, List.set_cons_succ, Option.map_some, Bool.not_true, Bool.not_false, Nat.reduceAdd, Nat.reduceSub, Nat.zero_add, Nat.add_zero, if_true, if_false, decide_true, decide_false, and_true, true_and, Nat.reduceLeDiff, Nat.sub_zero, Nat.sub_self, e1, Bool.false_eq_true]
    refine ⟨keyOf (orb r (0, f) n), (kD_key _).symm, ⟨_, rfl⟩, depth_key _, ?_⟩
    simp only [↓e_var, ↓e_C, ↓e_dD, ↓e_d2, ↓e_neg, ↓e_isN, ↓e_B, ↓e_And, ↓e_Or, ↓e_Not, ↓e_AndV, ↓e_OrV, ↓e_NotV, ↓e_IfE, ↓e_Chain, ↓e_Ix, ↓e_Sl, ↓e_No, ↓e_Part, ↓e_nil, ↓e_cons, ↓e_Tup, ↓e_Lst, ↓e_CB, ↓e_ofD, ↓e_jOf, ↓e_Len, ↓e_Ints, ↓e_fMax, ↓e_fMin, ↓e_Tuple, ↓e_List, ↓e_Bls, ↓e_Is, ↓e_seq, ↓e_skip, ↓e_ret, ↓e_drop, ↓e_ifS, ↓e_never, ↓e_asg, ↓e_par2, ↓e_par3, ↓e_App, ↓e_For, ↓e_While, ↓e_Iter, ↓e_Rng1, ↓e_Rng2, ↓e_Zip2, ↓e_Zip3, ↓e_Lc, ↓e_Yes, ↓e_Dn0, ↓e_DnIn, ↓e_DnGet, ↓e_Dn1, iteG_t, iteG_f, iteG_d, iteG_n, iteG_a, iteG_o, iteG_x, iteG_e, iteG_s, iteG_l, iteG_y, iteF_t, iteF_f, varF_d, varF_o, toD_d, toD_l, toD_a, toDF_d, toDF_l, d2F_d, fAdd_i, fAdd_s, fAdd_t, fAdd_l, fSub_i, fMul_i, fMulR_i, fMulR_t, fMulR_l, fDiv_i, fMod_i, fPow_i, negF_i, cLt_i, cLe_i, cGt_i, cGe_i, cEq_e, cNe_e, isNF_n, isNF_t, isNF_i, dBF_b, boF_b, notVF_b, ch2F_d, chF_d, seqOf_t, seqOf_l, seqOf_o, seqOf_s, seqOf_a, seqF_t, seqF_l, seqF_o, kindOf_t, kindOf_l, kindOf_o, kindOf_a, kindF_t, kindF_l, kindF_o, ixF2_s, ixF_s, slF_t, slF_f, partF_i, allD_n, allD_c, tupF_s, lstF_s, ofDF_s, gInt_i, gInt_b, gAbs_i, gMax2_i, gMin2_i, gN_e, jF_s, lenF_s, intsF2_s, intsF_s, fSum_e, gTF_s, gLF_s, blsF_s, blsF2_s, isF_s, isF2_s, tyn_i, tyn_b, tyn_t, tyn_l, tyn_s, tyn_n, k_ii, k_ib, k_tt, gN1_d, gN1_o, gN1_a, gaF_d, gaF_o, gTup_e, gs_n, gs_c, par2G_e, par2F_s, svOf_d, svOf_o, par3G_e, par3F_s, stF2_s, stF_s, stG_e, gStL_e, gOwn_e, owL_a, apG_e, apI_e, iterF_t, iterF_l, rng1F_e, rng2F_e, zip2F_s, zip2G_e, zip3F_s, zip3G_e, seqD_t, seqD_l, finP_d, finP_o, finP_a, finF_d, finF_o, finJF_d, finJF_o, finJ_d, finJ_o, startD_e, startJ_e, dnI_e, dnIH_e, dnGF_e, dnGetF_e, dnSF_e, dnSH_e, gStDn_e, dn1F_e, atI_0, atI_1, atI_2, ixN_2_0, ixN_2_1, appK_eq, cmp_i, eqv_ii, eqv_nn, cast1, cast2, cast3, List.map_cons, List.map_nil, List.append_nil, List.nil_append, List.cons_append, List.replicate_succ, List.replicate_zero, List.length_cons, List.length_nil, List.getElem?_cons_zero, List.getElem?_cons_succ, List.set_cons_zero, List.set_cons_succ, Option.map_some, Bool.not_true, Bool.not_false, Nat.reduceAdd, Nat.reduceSub, Nat.zero_add, Nat.add_zero, if_true, if_false, decide_true, decide_false, and_true, true_and, Nat.reduceLeDiff, Nat.sub_zero, Nat.sub_self, pe]
    exact h n i hn hi e.symm
  · have hne : ∀ i, i < n → orb r (0, f) i ≠ orb r (0, f) n := fun i hi e => hx ⟨i, hi, e⟩
    have pn := plc_none hne
    have e1 : (true != (dnAt (plc (orb r (0, f)) n) (keyOf (orb r (0, f) n))).isSome) = true := by rw [pn]; rfl
    have inj' := inj_more inj hne
    have hn' := fin _ inj'
    have lp : (plc (orb r (0, f)) n).length = n := by simp [plc]
    have so := orb_ok ok st n
    refine ⟨keyOf (orb r (0, f) n), (kD_key _).symm, ⟨_, rfl⟩, depth_key _, ?_⟩
    simp only [↓e_var, ↓e_C, ↓e_dD, ↓e_d2, ↓e_neg, ↓e_isN, ↓e_B, ↓e_And, ↓e_Or, ↓e_Not, ↓e_AndV, ↓e_OrV, ↓e_NotV, ↓e_IfE, ↓e_Chain, ↓e_Ix, ↓e_Sl, ↓e_No, ↓e_Part, ↓e_nil, ↓e_cons, ↓e_Tup, ↓e_Lst, ↓e_CB, ↓e_ofD, ↓e_jOf, ↓e_Len, ↓e_Ints, ↓e_fMax, ↓e_fMin, ↓e_Tuple, ↓e_List, ↓e_Bls, ↓e_Is, ↓e_seq, ↓e_skip, ↓e_ret, ↓e_drop, ↓e_ifS, ↓e_never, ↓e_asg, ↓e_par2, ↓e_par3, ↓e_App, ↓e_For, ↓e_While, ↓e_Iter, ↓e_Rng1, ↓e_Rng2, ↓e_Zip2, ↓e_Zip3, ↓e_Lc, ↓e_Yes, ↓e_Dn0, ↓e_DnIn, ↓e_DnGet, ↓e_Dn1, iteG_t, iteG_f, iteG_d, iteG_n, iteG_a, iteG_o, iteG_x, iteG_e, iteG_s, iteG_l, iteG_y, iteF_t, iteF_f, varF_d, varF_o, toD_d, toD_l, toD_a, toDF_d, toDF_l, d2F_d, fAdd_i, fAdd_s, fAdd_t, fAdd_l, fSub_i, fMul_i, fMulR_i, fMulR_t, fMulR_l, fDiv_i, fMod_i, fPow_i, negF_i, cLt_i, cLe_i, cGt_i, cGe_i, cEq_e, cNe_e, isNF_n, isNF_t, isNF_i, dBF_b, boF_b, notVF_b, ch2F_d, chF_d, seqOf_t, seqOf_l, seqOf_o, seqOf_s, seqOf_a, seqF_t, seqF_l, seqF_o, kindOf_t, kindOf_l, kindOf_o, kindOf_a, kindF_t, kindF_l, kindF_o, ixF2_s, ixF_s, slF_t, slF_f, partF_i, allD_n, allD_c, tupF_s, lstF_s, ofDF_s, gInt_i, gInt_b, gAbs_i, gMax2_i, gMin2_i, gN_e, jF_s, lenF_s, intsF2_s, intsF_s, fSum_e, gTF_s, gLF_s, blsF_s, blsF2_s, isF_s, isF2_s, tyn_i, tyn_b, tyn_t, tyn_l, tyn_s, tyn_n, k_ii, k_ib, k_tt, gN1_d, gN1_o, gN1_a, gaF_d, gaF_o, gTup_e, gs_n, gs_c, par2G_e, par2F_s, svOf_d, svOf_o, par3G_e, par3F_s, stF2_s, stF_s, stG_e, gStL_e, gOwn_e, owL_a, apG_e, apI_e, iterF_t, iterF_l, rng1F_e, rng2F_e, zip2F_s, zip2G_e, zip3F_s, zip3G_e, seqD_t, seqD_l, finP_d, finP_o, finP_a, finF_d, finF_o, finJF_d, finJF_o, finJ_d, finJ_o, startD_e, startJ_e, dnI_e, dnIH_e, dnGF_e, dnGetF_e, dnSF_e, dnSH_e, gStDn_e, dn1F_e, atI_0, atI_1, atI_2, ixN_2_0, ixN_2_1, appK_eq, cmp_i, eqv_ii, eqv_nn, cast1, cast2, cast3, List.map_cons, List.map_nil, List.append_nil, List.nil_append, List.cons_append, List.replicate_succ, List.replicate_zero, List.length_cons, List.length_nil, List.getElem?_cons_zero, List.getElem?_cons_succ, List.set_cons_zero, List.set_cons_succ, Option.map_some, Bool.not_true, Bool.not_false, Nat.reduceAdd, Nat.reduceSub, Nat.zero_add, Nat.add_zero, if_true, if_false, decide_true, decide_false, and_true, true_and, Nat.reduceLeDiff, Nat.sub_zero, Nat.sub_self, e1]
    refine ⟨keyOf (orb r (0, f) n), (kD_key _).symm, ⟨_, rfl⟩, depth_key _, by rw [lp, sizeLine_eq]; omega, ?_⟩
    have el : ((((List.range n).map fun i => stD (orb r (0, f) i)).length : Nat) : Int) = (n : Nat) := by simp
    simp only [↓e_var, ↓e_C, ↓e_dD, ↓e_d2, ↓e_neg, ↓e_isN, ↓e_B, ↓e_And, ↓e_Or, ↓e_Not, ↓e_AndV, ↓e_OrV, ↓e_NotV, ↓e_IfE, ↓e_Chain, ↓e_Ix, ↓e_Sl, ↓e_No, ↓e_Part, ↓e_nil, ↓e_cons, ↓e_Tup, ↓e_Lst, ↓e_CB, ↓e_ofD, ↓e_jOf, ↓e_Len, ↓e_Ints, ↓e_fMax, ↓e_fMin, ↓e_Tuple, ↓e_List, ↓e_Bls, ↓e_Is, ↓e_seq, ↓e_skip, ↓e_ret, ↓e_drop, ↓e_ifS, ↓e_never, ↓e_asg, ↓e_par2, ↓e_par3, ↓e_App, ↓e_For, ↓e_While, ↓e_Iter, ↓e_Rng1, ↓e_Rng2, ↓e_Zip2, ↓e_Zip3, ↓e_Lc, ↓e_Yes, ↓e_Dn0, ↓e_DnIn, ↓e_DnGet, ↓e_Dn1, iteG_t, iteG_f, iteG_d, iteG_n, iteG_a, iteG_o, iteG_x, iteG_e, iteG_s, iteG_l, iteG_y, iteF_t, iteF_f, varF_d, varF_o, toD_d, toD_l, toD_a, toDF_d, toDF_l, d2F_d, fAdd_i, fAdd_s, fAdd_t, fAdd_l, fSub_i, fMul_i, fMulR_i, fMulR_t, fMulR_l, fDiv_i, fMod_i, fPow_i, negF_i, cLt_i, cLe_i, cGt_i, cGe_i, cEq_e, cNe_e, isNF_n, isNF_t, isNF_i, dBF_b, boF_b, notVF_b, ch2F_d, chF_d, seqOf_t, seqOf_l, seqOf_o, seqOf_s, seqOf_a, seqF_t, seqF_l, seqF_o, kindOf_t, kindOf_l, kindOf_o, kindOf_a, kindF_t, kindF_l, kindF_o, ixF2_s, ixF_s, slF_t, slF_f, partF_i, allD_n, allD_c, tupF_s, lstF_s, ofDF_s, gInt_i, gInt_b, gAbs_i, gMax2_i, gMin2_i, gN_e, jF_s, lenF_s, intsF2_s, intsF_s, fSum_e, gTF_s, gLF_s, blsF_s, blsF2_s, isF_s, isF2_s, tyn_i, tyn_b, tyn_t, tyn_l, tyn_s, tyn_n, k_ii, k_ib, k_tt, gN1_d, gN1_o, gN1_a, gaF_d, gaF_o, gTup_e, gs_n, gs_c, par2G_e, par2F_s, svOf_d, svOf_o, par3G_e, par3F_s, stF2_s, stF_s, stG_e, gStL_e, gOwn_e, owL_a, apG_e, apI_e, iterF_t, iterF_l, rng1F_e, rng2F_e, zip2F_s, zip2G_e, zip3F_s, zip3G_e, seqD_t, seqD_l, finP_d, finP_o, finP_a, finF_d, finF_o, finJF_d, finJF_o, finJ_d, finJ_o, startD_e, startJ_e, dnI_e, dnIH_e, dnGF_e, dnGetF_e, dnSF_e, dnSH_e, gStDn_e, dn1F_e, atI_0, atI_1, atI_2, ixN_2_0, ixN_2_1, appK_eq, cmp_i, eqv_ii, eqv_nn, cast1, cast2, cast3, List.map_cons, List.map_nil, List.append_nil, List.nil_append, List.cons_append, List.replicate_succ, List.replicate_zero, List.length_cons, List.length_nil, List.getElem?_cons_zero, List.getElem?_cons_succ, List.set_cons_zero, List.set_cons_succ, Option.map_some, Bool.not_true, Bool.not_false, Nat.reduceAdd, Nat.reduceSub, Nat.zero_add, Nat.add_zero, if_true, if_false, decide_true, decide_false, and_true, true_and, Nat.reduceLeDiff, Nat.sub_zero, Nat.sub_self, el, plc_put hne]
    refine ⟨by rw [List.length_map, List.length_range, sizeLine_eq]; omega, ?_⟩
    simp only [↓e_var, ↓e_C, ↓e_dD, ↓e_d2, ↓e_neg, ↓e_isN, ↓e_B, ↓e_And, ↓e_Or, ↓e_Not, ↓e_AndV, ↓e_OrV, ↓e_NotV, ↓e_IfE, ↓e_Chain, ↓e_Ix, ↓e_Sl, ↓e_No, ↓e_Part, ↓e_nil, ↓e_cons, ↓e_Tup, ↓e_Lst, ↓e_CB, ↓e_ofD, ↓e_jOf, ↓e_Len, ↓e_Ints, ↓e_fMax, ↓e_fMin, ↓e_Tuple, ↓e_List, ↓e_Bls, ↓e_Is, ↓e_seq, ↓e_skip, ↓e_ret, ↓e_drop, ↓e_ifS, ↓e_never, ↓e_asg, ↓e_par2, ↓e_par3, ↓e_App, ↓e_For, ↓e_While, ↓e_Iter, ↓e_Rng1, ↓e_Rng2, ↓e_Zip2, ↓e_Zip3, ↓e_Lc, ↓e_Yes, ↓e_Dn0, ↓e_DnIn, ↓e_DnGet, ↓e_Dn1, iteG_t, iteG_f, iteG_d, iteG_n, iteG_a, iteG_o, iteG_x, iteG_e, iteG_s, iteG_l, iteG_y, iteF_t, iteF_f, varF_d, varF_o, toD_d, toD_l, toD_a, toDF_d, toDF_l, d2F_d, fAdd_i, fAdd_s, fAdd_t, fAdd_l, fSub_i, fMul_i, fMulR_i, fMulR_t, fMulR_l, fDiv_i, fMod_i, fPow_i, negF_i, cLt_i, cLe_i, cGt_i, cGe_i, cEq_e, cNe_e, isNF_n, isNF_t, isNF_i, dBF_b, boF_b, notVF_b, ch2F_d, chF_d, seqOf_t, seqOf_l, seqOf_o, seqOf_s, seqOf_a, seqF_t, seqF_l, seqF_o, kindOf_t, kindOf_l, kindOf_o, kindOf_a, kindF_t, kindF_l, kindF_o, ixF2_s, ixF_s, slF_t, slF_f, partF_i, allD_n, allD_c, tupF_s, lstF_s, ofDF_s, gInt_i, gInt_b, gAbs_i, gMax2_i, gMin2_i, gN_e, jF_s, lenF_s, intsF2_s, intsF_s, fSum_e, gTF_s, gLF_s, blsF_s, blsF2_s, isF_s, isF2_s, tyn_i, tyn_b, tyn_t, tyn_l, tyn_s, tyn_n, k_ii, k_ib, k_tt, gN1_d, gN1_o, gN1_a, gaF_d, gaF_o, gTup_e, gs_n, gs_c, par2G_e, par2F_s, svOf_d, svOf_o, par3G_e, par3F_s, stF2_s, stF_s, stG_e, gStL_e, gOwn_e, owL_a, apG_e, apI_e, iterF_t, iterF_l, rng1F_e, rng2F_e, zip2F_s, zip2G_e, zip3F_s, zip3G_e, seqD_t, seqD_l, finP_d, finP_o, finP_a, finF_d, finF_o, finJF_d, finJF_o, finJ_d, finJ_o, startD_e, startJ_e, dnI_e, dnIH_e, dnGF_e, dnGetF_e, dnSF_e, dnSH_e, gStDn_e, dn1F_e, atI_0, atI_1, atI_2, ixN_2_0, ixN_2_1, appK_eq, cmp_i, eqv_ii, eqv_nn, cast1, cast2, cast3, List.map_cons, List.map_nil, List.append_nil, List.nil_append, List.cons_append, List.replicate_succ, List.replicate_zero, List.length_cons, List.length_nil, List.getElem?_cons_zero, List.getElem?_cons_succ, List.set_cons_zero, List.set_cons_succ, Option.map_some, Bool.not_true, Bool.not_false, Nat.reduceAdd, Nat.reduceSub, Nat.zero_add, Nat.add_zero, if_true, if_false, decide_true, decide_false, and_true, true_and, Nat.reduceLeDiff, Nat.sub_zero, Nat.sub_self, stD, rowD]
    refine ⟨by omega, rfl, r, orb r (0, f) n, rfl, ok, so, ?_⟩
    simp only [↓e_var, ↓e_C, ↓e_dD, ↓e_d2, ↓e_neg, ↓e_isN, ↓e_B, ↓e_And, ↓e_Or, ↓e_Not, ↓e_AndV, ↓e_OrV, ↓e_NotV, ↓e_IfE, ↓e_Chain, ↓e_Ix, ↓e_Sl, ↓e_No, ↓e_Part, ↓e_nil, ↓e_cons, ↓e_Tup, ↓e_Lst, ↓e_CB, ↓e_ofD, ↓e_jOf, ↓e_Len, ↓e_Ints, ↓e_fMax, ↓e_fMin, ↓e_Tuple, ↓e_List, ↓e_Bls, ↓e_Is, ↓e_seq, ↓e_skip, ↓e_ret, ↓e_drop, ↓e_ifS, ↓e_never, ↓e_asg, ↓e_par2, ↓e_par3, ↓e_App, ↓e_For, ↓e_While, ↓e_Iter, ↓e_Rng1, ↓e_Rng2, ↓e_Zip2, ↓e_Zip3, ↓e_Lc, ↓e_Yes, ↓e_Dn0, ↓e_DnIn, ↓e_DnGet, ↓e_Dn1, iteG_t, iteG_f, iteG_d, iteG_n, iteG_a, iteG_o, iteG_x, iteG_e, iteG_s, iteG_l, iteG_y, iteF_t, iteF_f, varF_d, varF_o, toD_d, toD_l, toD_a, toDF_d, toDF_l, d2F_d, fAdd_i, fAdd_s, fAdd_t, fAdd_l, fSub_i, fMul_i, fMulR_i, fMulR_t, fMulR_l, fDiv_i, fMod_i, fPow_i, negF_i, cLt_i, cLe_i, cGt_i, cGe_i, cEq_e, cNe_e, isNF_n, isNF_t, isNF_i, dBF_b, boF_b, notVF_b, ch2F_d, chF_d, seqOf_t, seqOf_l, seqOf_o, seqOf_s, seqOf_a, seqF_t, seqF_l, seqF_o, kindOf_t, kindOf_l, kindOf_o, kindOf_a, kindF_t, kindF_l, kindF_o, ixF2_s, ixF_s, slF_t, slF_f, partF_i, allD_n, allD_c, tupF_s, lstF_s, ofDF_s, gInt_i, gInt_b, gAbs_i, gMax2_i, gMin2_i, gN_e, jF_s, lenF_s, intsF2_s, intsF_s, fSum_e, gTF_s, gLF_s, blsF_s, blsF2_s, isF_s, isF2_s, tyn_i, tyn_b, tyn_t, tyn_l, tyn_s, tyn_n, k_ii, k_ib, k_tt, gN1_d, gN1_o, gN1_a, gaF_d, gaF_o, gTup_e, gs_n, gs_c, par2G_e, par2F_s, svOf_d, svOf_o, par3G_e, par3F_s, stF2_s, stF_s, stG_e, gStL_e, gOwn_e, owL_a, apG_e, apI_e, iterF_t, iterF_l, rng1F_e, rng2F_e, zip2F_s, zip2G_e, zip3F_s, zip3G_e, seqD_t, seqD_l, finP_d, finP_o, finP_a, finF_d, finF_o, finJF_d, finJF_o, finJ_d, finJ_o, startD_e, startJ_e, dnI_e, dnIH_e, dnGF_e, dnGetF_e, dnSF_e, dnSH_e, gStDn_e, dn1F_e, atI_0, atI_1, atI_2, ixN_2_0, ixN_2_1, appK_eq, cmp_i, eqv_ii, eqv_nn, cast1, cast2, cast3, List.map_cons, List.map_nil, List.append_nil, List.nil_append, List.cons_append, List.replicate_succ, List.replicate_zero, List.length_cons, List.length_nil, List.getElem?_cons_zero, List.getElem?_cons_succ, List.set_cons_zero, List.set_cons_succ, Option.map_some, Bool.not_true, Bool.not_false, Nat.reduceAdd, Nat.reduceSub, Nat.zero_add, Nat.add_zero, if_true, if_false, decide_true, decide_false, and_true, true_and, Nat.reduceLeDiff, Nat.sub_zero, Nat.sub_self]
    refine ⟨1296001 - (n + 1), by omega, n + 1, rfl, inj', ?_⟩
    have em : (((orb r (0, f) n).1 : Int) + 1) % r.p = (((((orb r (0, f) n).1 + 1) % r.p.toNat : Nat)) : Int) := by
      rw [Int.natCast_emod, Int.toNat_of_nonneg (by omega)]
      rfl
    simp only [List.range_succ, List.map_append, List.map_cons, List.map_nil, em, stD]
    rfl
def Dx_trail (P : Program) (w : World) (K : PySem.W.Frag) (mg : Str → Option Value) (base : Heap) : Prop := ∃ f fd, Def P w K mg base 2 "trail" f fd ["row", "filling"] (spP (bas P w K) 2 sp_trail)
theorem ok_trail {P : Program} {w : World} {K : PySem.W.Frag} {mg : Str → Option Value} {base : Heap} (M : Mg mg) (D_ticked : Dx_ticked P w K mg base) {f : Addr} {fd : FuncData} (F : FunD K "trail" "trail" (defArgs s_trail) (defBody s_trail) (defScope s_trail) [] [] f fd) : FnOk P w K mg base CX0 2 f fd ["row", "filling"] (spP (bas P w K) 2 sp_trail) := by
  obtain ⟨a_ticked, fd_ticked, D_ticked⟩ := D_ticked
  exact okP (tb := t_trail) F sc_trail (fun cdv A outer s H E hr =>
    (dss_cons (ds_par3 rfl sc_trail.nd (i := 2) (j := 3) (l := 4) rfl rfl rfl (by decide) (by decide) (by decide) rfl rfl rfl (da_cons (de_lst da_nil) (da_cons de_dn0 (da_cons (de_tup (da_cons de_int (da_cons (de_data (de_var (pv 1))) da_nil))) da_nil))) (by first | exact .inl rfl | exact .inr (by decide)) (hw := by first | rfl | kernel_rfl))
      (dss_cons (ds_while PassesOwn.never (dt_dnni hr.units (de_var (pv 4)) (de_var (pv 3))) (dss_cons (ds_asg (de_callB (call_len_seq) (snd_len) (by rfl) M.f_len rfl (da_cons (de_var (pv 2)) da_nil)) (dg_stDn hr.units (de_var (pv 3)) (de_var (pv 4))))
      (dss_cons (ds_expr (de_append (de_var (pv 2)) (da_cons (de_data (de_var (pv 4))) da_nil)))
      (dss_one (ds_asg (de_tup (da_cons (de_data (de_mod (de_add (de_ix (de_var (pv 4)) de_int) de_int) (de_ix (de_var (pv 0)) de_int))) (da_cons (de_data (de_ix (de_call D_ticked.own (hr.mono (by decide)) (by rfl) (da_cons (de_data (de_var (pv 0))) (da_cons (de_data (de_ix (de_var (pv 4)) de_int)) (da_cons (de_data (de_ix (de_var (pv 4)) de_int)) da_nil)))) de_int)) da_nil))) (dg_name sc_trail.nd (i := 4) rfl (by first | exact .inl rfl | exact .inr rfl) (by first | exact .inl rfl | exact .inr (by decide))))))))
      (dss_one (ds_ret (de_tup (da_cons (de_data (de_var (pv 2))) (da_cons (de_data (de_dnget hr.units (de_var (pv 3)) (de_var (pv 4)))) da_nil)))))))) rd_trail
end DL

set_option Elab.async false
set_option linter.all false
set_option maxRecDepth 100000
set_option maxHeartbeats 0
namespace DL
open PySem PySem.Spec L2
open PyProof.Rows hiding St
/-! ### slices, columns, sums -/
theorem cut_to {α : Type} (f : α → D) (l : List α) (k : Nat) : cutD (l.map f) none (some (k : Int)) = (l.take k).map f := by
  unfold cutD HT.sIx
  simp only [List.length_map]
  have h : ¬((k : Int) < 0) := by omega
  rw [if_neg h, List.drop_zero, Nat.sub_zero, List.map_take]
  by_cases q : k ≤ l.length
  · rw [show min ((k : Int).toNat) l.length = k by omega]
  · rw [show min ((k : Int).toNat) l.length = l.length by omega, List.take_of_length_le (by simp), List.take_of_length_le (by simp; omega)]
theorem cut_from {α : Type} (f : α → D) (l : List α) (k : Nat) : cutD (l.map f) (some (k : Int)) none = (l.drop k).map f := by
  unfold cutD HT.sIx
  simp only [List.length_map]
  have h : ¬((k : Int) < 0) := by omega
  rw [if_neg h, List.map_drop]
  by_cases q : k ≤ l.length
  · rw [show min ((k : Int).toNat) l.length = k by omega, List.take_of_length_le (by simp)]
  · rw [show min ((k : Int).toNat) l.length = l.length by omega, List.drop_of_length_le (by simp), List.drop_of_length_le (by simp; omega)]
    simp
theorem range_drop (m k : Nat) : (List.range m).drop k = (List.range (m - k)).map fun i => k + i := by
  apply List.ext_getElem
  · simp
  · intro i h1 h2
    simp
theorem range_take (m k : Nat) (h : k ≤ m) : (List.range m).take k = List.range k := by
  apply List.ext_getElem
  · simp; omega
  · intro i h1 h2
    simp
theorem list_cols {l : List Int} {k : Nat} (h : l.length = k) : l = (List.range k).map fun j => l.getD j 0 := by
  apply List.ext_getElem
  · simp [h]
  · intro i h1 h2
    simp only [List.getElem_map, List.getElem_range]
    rw [List.getD_eq_getElem?_getD, List.getElem?_eq_getElem h1]
    rfl
theorem zip_cols {α β γ : Type} (k : Nat) (g : Nat → α) (h : Nat → β) (q : α × β → γ) : (((List.range k).map g).zip ((List.range k).map h)).map q = (List.range k).map fun j => q (g j, h j) := by
  rw [List.zip_map', List.map_map]
  rfl
theorem zip3_cols {α β γ δ : Type} (k : Nat) (g : Nat → α) (h : Nat → β) (l : Nat → γ) (q : α × β × γ → δ) : (((List.range k).map g).zip (((List.range k).map h).zip ((List.range k).map l))).map q = (List.range k).map fun j => q (g j, h j, l j) := by
  rw [List.zip_map', List.zip_map', List.map_map]
  rfl
theorem CDivW.small {i j : Int} (h : 0 < j) (k : j < 2 ^ 64) : CDivW i j := by
  refine ⟨h, ?_⟩
  have : j.natAbs.log2 < 64 := (Nat.log2_lt (by omega)).mpr (by omega)
  omega
def colS (w : Int) (r : Row) (sts : List Stg) (j : Nat) : Int := (sts.map fun s => (outW w r s).getD j 0).sum
def sumsF (w : Int) (r : Row) (sts : List Stg) : List Int := (List.range r.cups.length).map (colS w r sts)
theorem outW_length {r : Row} {s : Stg} (ok : r.Ok) (h : StOk r s) (w : Int) : (outW w r s).length = r.cups.length := by
  unfold outW tick
  rw [List.length_map, tickZ_length, List.length_zip, List.length_zip, ok.same, h.2.length]
  omega
theorem colS_snoc (w : Int) (r : Row) (sts : List Stg) (s : Stg) (j : Nat) : colS w r (sts ++ [s]) j = colS w r sts j + (outW w r s).getD j 0 := by
  simp [colS]
def gsum (g : Nat → Int) (n : Nat) : Int := ((List.range n).map g).sum
theorem gsum_succ (g : Nat → Int) (n : Nat) : gsum g (n + 1) = gsum g n + g n := by simp [gsum, List.range_succ]
theorem gsum_add (g : Nat → Int) (a : Nat) : ∀ b, gsum g (a + b) = gsum g a + gsum (fun i => g (a + i)) b
  | 0 => by simp [gsum]
  | b + 1 => by
    rw [← Nat.add_assoc, gsum_succ, gsum_add g a b, gsum_succ]
    omega
theorem gsum_per (h : Nat → Int) (L : Nat) (hp : ∀ i, h (L + i) = h i) (e : Nat) : ∀ q : Nat, gsum h (q * L + e) = (q : Int) * gsum h L + gsum h e
  | 0 => by simp
  | q + 1 => by
    have e1 : (q + 1) * L + e = L + (q * L + e) := by rw [Nat.succ_mul]; omega
    have e2 : (fun i => h (L + i)) = h := funext hp
    rw [e1, gsum_add, e2, gsum_per h L hp e q]
    have e3 : ((q + 1 : Nat) : Int) * gsum h L = (q : Int) * gsum h L + gsum h L := by
      rw [Int.natCast_add, Int.add_mul]
      simp
    omega
theorem gsum_bound (g : Nat → Int) (B : Int) (h : ∀ i, 0 ≤ g i ∧ g i ≤ B) : ∀ n, 0 ≤ gsum g n ∧ gsum g n ≤ n * B
  | 0 => by simp [gsum]
  | n + 1 => by
    have h1 := gsum_bound g B h n
    have h2 := h n
    rw [gsum_succ]
    have e3 : ((n + 1 : Nat) : Int) * B = (n : Int) * B + B := by
      rw [Int.natCast_add, Int.add_mul]
      simp
    omega
theorem tickZ_bound (ph : Nat) : ∀ (l : List (Cup × List Int × Int)) (cm : Int), (∀ q ∈ l, CupOk q.1 ∧ (0 ≤ q.2.1.getD ph 0 ∧ q.2.1.getD ph 0 ≤ 20) ∧ 0 ≤ q.2.2 ∧ q.2.2 ≤ 60) → 0 ≤ cm → cm ≤ 90 →
    ∀ q ∈ tickZ ph l cm, (0 ≤ q.1 ∧ q.1 ≤ 90) ∧ (0 ≤ q.2.1 ∧ q.2.1 ≤ 90) ∧ 0 ≤ q.2.2 ∧ q.2.2 ≤ 200
  | [], _, _, _, _, q, hq => by simp [tickZ] at hq
  | (c, t, a) :: l, cm, h, h0, h1, q, hq => by
    have hc := h _ List.mem_cons_self
    obtain ⟨⟨c1, c2, c3, c4, c5, c6⟩, ⟨t1, t2⟩, a1, a2⟩ := hc
    dsimp only at c1 c2 c3 c4 c5 c6 t1 t2 a1 a2
    have ih := fun cm' h0 h1 => tickZ_bound ph l cm' (fun d hd => h d (List.mem_cons_of_mem _ hd)) h0 h1
    simp only [tickZ] at hq
    generalize t.getD ph 0 = g at *
    rcases List.mem_cons.mp hq with rfl | hq
    · dsimp only
      (repeat' split) <;> omega
    · refine ih _ ?_ ?_ q hq
      · (repeat' split) <;> omega
      · (repeat' split) <;> omega
theorem FillOk.mem : ∀ {cs : List Cup} {f : List Int}, FillOk cs f → (∀ c ∈ cs, CupOk c) → ∀ x ∈ f, 0 ≤ x ∧ x ≤ 60
  | [], [], _, _, x, hx => by simp at hx
  | [], _ :: _, h, _, _, _ => h.elim
  | _ :: _, [], h, _, _, _ => h.elim
  | c :: cs, y :: f, h, hc, x, hx => by
    rcases List.mem_cons.mp hx with rfl | hx
    · have h1 := (hc c List.mem_cons_self).2.1
      have h2 : 0 ≤ x ∧ x ≤ c.1 - 1 := h.1
      omega
    · exact FillOk.mem h.2 (fun d hd => hc d (List.mem_cons_of_mem _ hd)) x hx
theorem tick_bound {r : Row} {s : Stg} (ok : r.Ok) (h : StOk r s) : ∀ q ∈ tick r s, (0 ≤ q.1 ∧ q.1 ≤ 90) ∧ (0 ≤ q.2.1 ∧ q.2.1 ≤ 90) ∧ 0 ≤ q.2.2 ∧ q.2.2 ≤ 200 := by
  refine tickZ_bound s.1 _ 0 (fun q hq => ?_) (by decide) (by decide)
  obtain ⟨c, t, a⟩ := q
  have h1 := List.of_mem_zip hq
  have h2 := List.of_mem_zip h1.2
  have h3 := ok.taps _ h2.1
  have h4 : s.1 < t.length := by have := h3.1; have := h.1; omega
  refine ⟨ok.cups _ h1.1, ?_, h.2.mem ok.cups _ h2.2⟩
  show 0 ≤ t.getD s.1 0 ∧ t.getD s.1 0 ≤ 20
  rw [List.getD_eq_getElem?_getD, List.getElem?_eq_getElem h4]
  exact h3.2 _ (List.getElem_mem h4)
theorem outW_bound {r : Row} {s : Stg} (ok : r.Ok) (h : StOk r s) (w : Int) (j : Nat) : 0 ≤ (outW w r s).getD j 0 ∧ (outW w r s).getD j 0 ≤ 200 := by
  rw [List.getD_eq_getElem?_getD]
  cases e : (outW w r s)[j]? with
  | none => simp
  | some x =>
    have hx := List.mem_of_getElem? e
    obtain ⟨q, hq, rfl⟩ := List.mem_map.mp hx
    have := tick_bound ok h q hq
    simp only [Option.getD_some]
    (repeat' split) <;> omega
/-- what w tells of the first n ticks, in all -/
def tot (w : Int) (r : Row) (f : List Int) (n : Nat) : List Int := sumsF w r ((List.range n).map (orb r (0, f)))
theorem orb_add (r : Row) (s : Stg) (a : Nat) : ∀ b, orb r s (a + b) = orb r (orb r s a) b
  | 0 => rfl
  | b + 1 => by
    rw [← Nat.add_assoc]
    show nxt r _ = nxt r _
    rw [orb_add r s a b]
theorem orb_per {r : Row} {s : Stg} {m k : Nat} (h : k < m) (e : orb r s m = orb r s k) (i : Nat) : orb r s (k + ((m - k) + i)) = orb r s (k + i) := by
  have e1 : k + ((m - k) + i) = m + i := by omega
  rw [e1, orb_add r s m, e, ← orb_add]
theorem orb_mod {r : Row} {s : Stg} {m k : Nat} (h : k < m) (e : orb r s m = orb r s k) : ∀ i, orb r s (k + i) = orb r s (k + i % (m - k)) := fun i => by
  have hq : ∀ q e' : Nat, orb r s (k + (q * (m - k) + e')) = orb r s (k + e') := fun q e' => by
    induction q with
    | zero => simp
    | succ q ih =>
      rw [show (q + 1) * (m - k) + e' = (m - k) + (q * (m - k) + e') by rw [Nat.succ_mul]; omega, orb_per h e, ih]
  have := hq (i / (m - k)) (i % (m - k))
  rw [← this]
  congr 2
  rw [Nat.mul_comm]
  exact (Nat.div_add_mod i (m - k)).symm
theorem colS_gsum (w : Int) (r : Row) (o : Nat → Stg) (n j : Nat) : colS w r ((List.range n).map o) j = gsum (fun i => (outW w r (o i)).getD j 0) n := by
  unfold colS gsum
  rw [List.map_map]
  rfl
/-- whole rounds and a rest -/
theorem tot_rounds {w : Int} {r : Row} {f : List Int} {m k : Nat} (h : k < m) (e : orb r (0, f) m = orb r (0, f) k) (q c j : Nat) :
    colS w r ((List.range (k + (q * (m - k) + c))).map (orb r (0, f))) j = colS w r ((List.range k).map (orb r (0, f))) j + (q : Int) * colS w r ((List.range (m - k)).map fun i => orb r (0, f) (k + i)) j + colS w r ((List.range c).map fun i => orb r (0, f) (k + i)) j := by
  rw [colS_gsum, colS_gsum, colS_gsum w r (fun i => orb r (0, f) (k + i)), colS_gsum w r (fun i => orb r (0, f) (k + i)), gsum_add, gsum_per (fun i => (outW w r (orb r (0, f) (k + i))).getD j 0) (m - k) (fun i => by rw [orb_per h e])]
  omega
end DL

set_option Elab.async false
set_option linter.all false
set_option maxRecDepth 100000
set_option maxHeartbeats 0
namespace DL
open PySem PySem.Spec L2
open PyProof.Rows hiding St
def N_sums_of : List Str := ["row", "standings", "which", "total", "phase", "filling", "some", "one", "other"]
theorem sc_sums_of : FnScope N_sums_of ["row", "standings", "which"] (defScope s_sums_of) := ⟨rfl, rfl, rfl, by decide +kernel, rfl, by decide +kernel, by decide +kernel⟩
def t_sums_of : DTS :=
    (dSeq (dAsg (d2 fMulR (dD (dTup (dCons (dC (.int 0)) dNil))) (dD (dCB gLen (dCons (dIx (dVar 0) (dC (.int 1))) dNil)))) (gN1 3))
      (dSeq (dFor (dIter (dD (dVar 1))) (gTupD 2 (gsCons (gN1 4) (gsCons (gN1 5) gsNil))) (dSeq (dAsg (dIx (dCB (ofD (gN 3 sp_ticked)) (dCons (dD (dVar 0)) (dCons (dD (dVar 4)) (dCons (dD (dVar 5)) dNil)))) (dVar 2)) (gN1 6))
      (dAsg (dCB gTuple (dCons (dLc (dZip2 (dCons (dD (dVar 3)) (dCons (dD (dVar 6)) dNil))) (gTupD 2 (gsCons (gN1 7) (gsCons (gN1 8) gsNil))) dYes (dD (d2 fAdd (dD (dVar 7)) (dD (dVar 8)))) [7, 8]) dNil)) (gN1 3))))
      (dRet (dVar 3))))
def sp_sums_of : DFd := fun ds R => ∃ (r : Row) (sts : List Stg) (w : Int), ds = [rowD r, .lst (sts.map stD), .int w] ∧ r.Ok ∧ (∀ s ∈ sts, StOk r s) ∧ (w = 1 ∨ w = 2) ∧ R (.d (intsD (sumsF w r sts)))
theorem rd_sums_of : ∀ ds R, ds.length = 3 → sp_sums_of ds R → t_sums_of { nx := fun _ => R (.d .non), rt := finP R } (startD N_sums_of ds) := by
  rintro ds R - ⟨r, sts, w, rfl, ok, hs, hw, h⟩
  simp only [↓e_var, ↓e_C, ↓e_dD, ↓e_d2, ↓e_neg, ↓e_isN, ↓e_B, ↓e_And, ↓e_Or, ↓e_Not, ↓e_AndV, ↓e_OrV, ↓e_NotV, ↓e_IfE, ↓e_Chain, ↓e_Ix, ↓e_Sl, ↓e_No, ↓e_Part, ↓e_nil, ↓e_cons, ↓e_Tup, ↓e_Lst, ↓e_CB, ↓e_ofD, ↓e_jOf, ↓e_Len, ↓e_Ints, ↓e_fMax, ↓e_fMin, ↓e_Tuple, ↓e_List, ↓e_Bls, ↓e_Is, ↓e_seq, ↓e_skip, ↓e_ret, ↓e_drop, ↓e_ifS, ↓e_never, ↓e_asg, ↓e_par2, ↓e_par3, ↓e_App, ↓e_For, ↓e_While, ↓e_Iter, ↓e_Rng1, ↓e_Rng2, ↓e_Zip2, ↓e_Zip3, ↓e_Lc, ↓e_Yes, ↓e_Dn0, ↓e_DnIn, ↓e_DnGet, ↓e_Dn1, iteG_t, iteG_f, iteG_d, iteG_n, iteG_a, iteG_o, iteG_x, iteG_e, iteG_s, iteG_l, iteG_y, iteF_t, iteF_f, varF_d, varF_o, toD_d, toD_l, toD_a, toDF_d, toDF_l, d2F_d, fAdd_i, fAdd_s, fAdd_t, fAdd_l, fSub_i, fMul_i, fMulR_i, fMulR_t, fMulR_l, fDiv_i, fMod_i, fPow_i, negF_i, cLt_i, cLe_i, cGt_i, cGe_i, cEq_e, cNe_e, isNF_n, isNF_t, isNF_i, dBF_b, boF_b, notVF_b, ch2F_d, chF_d, seqOf_t, seqOf_l, seqOf_o, seqOf_s, seqOf_a, seqF_t, seqF_l, seqF_o, kindOf_t, kindOf_l, kindOf_o, kindOf_a, kindF_t, kindF_l, kindF_o, ixF2_s, ixF_s, slF_t, slF_f, partF_i, allD_n, allD_c, tupF_s, lstF_s, ofDF_s, gInt_i, gInt_b, gAbs_i, gMax2_i, gMin2_i, gN_e, jF_s, lenF_s, intsF2_s, intsF_s, fSum_e, gTF_s, gLF_s, blsF_s, blsF2_s, isF_s, isF2_s, tyn_i, tyn_b, tyn_t, tyn_l, tyn_s, tyn_n, k_ii, k_ib, k_tt, gN1_d, gN1_o, gN1_a, gaF_d, gaF_o, gTup_e, gs_n, gs_c, par2G_e, par2F_s, svOf_d, svOf_o, par3G_e, par3F_s, stF2_s, stF_s, stG_e, gStL_e, gOwn_e, owL_a, apG_e, apI_e, iterF_t, iterF_l, rng1F_e, rng2F_e, zip2F_s, zip2G_e, zip3F_s, zip3G_e, seqD_t, seqD_l, finP_d, finP_o, finP_a, finF_d, finF_o, finJF_d, finJF_o, finJ_d, finJ_o, startD_e, startJ_e, dnI_e, dnIH_e, dnGF_e, dnGetF_e, dnSF_e, dnSH_e, gStDn_e, dn1F_e, atI_0, atI_1, atI_2, ixN_2_0, ixN_2_1, appK_eq, cmp_i, eqv_ii, eqv_nn, cast1, cast2, cast3, List.map_cons, List.map_nil, List.append_nil, List.nil_append, List.cons_append, List.replicate_succ, List.replicate_zero, List.length_cons, List.length_nil, List.getElem?_cons_zero, List.getElem?_cons_succ, List.set_cons_zero, List.set_cons_succ, Option.map_some, Bool.not_true, Bool.not_false, Nat.reduceAdd, Nat.reduceSub, Nat.zero_add, Nat.add_zero, if_true, if_false, decide_true, decide_false, and_true, true_and, Nat.reduceLeDiff, Nat.sub_zero, Nat.sub_self, t_sums_of, N_sums_of, rowD]
  refine ⟨by simp, by rw [List.length_map]; have := ok.n1; omega, by rw [List.length_map]; have := ok.n3; omega, ?_⟩
  have e0 : D.tup (List.replicate (((r.cups.map cupD).length : Nat) : Int).toNat [D.int 0]).flatten = intsD (sumsF w r []) := by
    rw [List.length_map, Int.toNat_natCast]
    unfold intsD sumsF colS
    congr 1
    apply List.ext_getElem <;> simp
  rw [e0]
  refine dLoop_rel stD (fun l ρ => ∃ (done : List Stg) (z1 z2 z3 : SV), sts = done ++ l ∧ ρ = [SV.d (rowD r), .d (.lst (sts.map stD)), .d (.int w), .d (intsD (sumsF w r done)), z1, z2, z3, .un, .un]) ?_ ?_ sts _ ⟨[], _, _, _, rfl, rfl⟩
  · rintro s l ρ ⟨done, z1, z2, z3, e, rfl⟩ K hK
    have so := hs s (by rw [e]; simp)
    simp only [↓e_var, ↓e_C, ↓e_dD, ↓e_d2, ↓e_neg, ↓e_isN, ↓e_B, ↓e_And, ↓e_Or, ↓e_Not, ↓e_AndV, ↓e_OrV, ↓e_NotV, ↓e_IfE, ↓e_Chain, ↓e_Ix, ↓e_Sl, ↓e_No, ↓e_Part, ↓e_nil, ↓e_cons, ↓e_Tup, ↓e_Lst, ↓e_CB, ↓e_ofD, ↓e_jOf, ↓e_Len, ↓e_Ints, ↓e_fMax, ↓e_fMin, ↓e_Tuple, ↓e_List, ↓e_Bls, ↓e_Is, ↓e_seq, ↓e_skip, ↓e_ret, ↓e_drop, ↓e_ifS, ↓e_never, ↓e_asg, ↓e_par2, ↓e_par3, ↓e_App, ↓e_For, ↓e_While, ↓e_Iter, ↓e_Rng1, ↓e_Rng2, ↓e_Zip2, ↓e_Zip3, ↓e_Lc, ↓e_Yes, ↓e_Dn0, ↓e_DnIn, ↓e_DnGet, ↓e_Dn1, iteG_t, iteG_f, iteG_d, iteG_n, iteG_a, iteG_o, iteG_x, iteG_e, iteG_s, iteG_l, iteG_y, iteF_t, iteF_f, varF_d, varF_o, toD_d, toD_l, toD_a, toDF_d, toDF_l, d2F_d, fAdd_i, fAdd_s, fAdd_t, fAdd_l, fSub_i, fMul_i, fMulR_i, fMulR_t, fMulR_l, fDiv_i, fMod_i, fPow_i, negF_i, cLt_i, cLe_i, cGt_i, cGe_i, cEq_e, cNe_e, isNF_n, isNF_t, isNF_i, dBF_b, boF_b, notVF_b, ch2F_d, chF_d, seqOf_t, seqOf_l, seqOf_o, seqOf_s, seqOf_a, seqF_t, seqF_l, seqF_o, kindOf_t, kindOf_l, kindOf_o, kindOf_a, kindF_t, kindF_l, kindF_o, ixF2_s, ixF_s, slF_t, slF_f, partF_i, allD_n, allD_c, tupF_s, lstF_s, ofDF_s, gInt_i, gInt_b, gAbs_i, gMax2_i, gMin2_i, gN_e, jF_s, lenF_s, intsF2_s, intsF_s, fSum_e, gTF_s, gLF_s, blsF_s, blsF2_s, isF_s, isF2_s, tyn_i, tyn_b, tyn_t, tyn_l, tyn_s, tyn_n, k_ii, k_ib, k_tt, gN1_d, gN1_o, gN1_a, gaF_d, gaF_o, gTup_e, gs_n, gs_c, par2G_e, par2F_s, svOf_d, svOf_o, par3G_e, par3F_s, stF2_s, stF_s, stG_e, gStL_e, gOwn_e, owL_a, apG_e, apI_e, iterF_t, iterF_l, rng1F_e, rng2F_e, zip2F_s, zip2G_e, zip3F_s, zip3G_e, seqD_t, seqD_l, finP_d, finP_o, finP_a, finF_d, finF_o, finJF_d, finJF_o, finJ_d, finJ_o, startD_e, startJ_e, dnI_e, dnIH_e, dnGF_e, dnGetF_e, dnSF_e, dnSH_e, gStDn_e, dn1F_e, atI_0, atI_1, atI_2, ixN_2_0, ixN_2_1, appK_eq, cmp_i, eqv_ii, eqv_nn, cast1, cast2, cast3, List.map_cons, List.map_nil, List.append_nil, List.nil_append, List.cons_append, List.replicate_succ, List.replicate_zero, List.length_cons, List.length_nil, List.getElem?_cons_zero, List.getElem?_cons_succ, List.set_cons_zero, List.set_cons_succ, Option.map_some, Bool.not_true, Bool.not_false, Nat.reduceAdd, Nat.reduceSub, Nat.zero_add, Nat.add_zero, if_true, if_false, decide_true, decide_false, and_true, true_and, Nat.reduceLeDiff, Nat.sub_zero, Nat.sub_self, stD, rowD]
    refine ⟨rfl, r, s, rfl, ok, so, ?_⟩
    have e1 : atI [intsD (outW 0 r s), intsD (outW 1 r s), intsD (outW 2 r s)] w = some (intsD (outW w r s)) := by
      rcases hw with rfl | rfl
      · exact atI_1
      · exact atI_2
    simp only [intsD] at e1
    simp only [↓e_var, ↓e_C, ↓e_dD, ↓e_d2, ↓e_neg, ↓e_isN, ↓e_B, ↓e_And, ↓e_Or, ↓e_Not, ↓e_AndV, ↓e_OrV, ↓e_NotV, ↓e_IfE, ↓e_Chain, ↓e_Ix, ↓e_Sl, ↓e_No, ↓e_Part, ↓e_nil, ↓e_cons, ↓e_Tup, ↓e_Lst, ↓e_CB, ↓e_ofD, ↓e_jOf, ↓e_Len, ↓e_Ints, ↓e_fMax, ↓e_fMin, ↓e_Tuple, ↓e_List, ↓e_Bls, ↓e_Is, ↓e_seq, ↓e_skip, ↓e_ret, ↓e_drop, ↓e_ifS, ↓e_never, ↓e_asg, ↓e_par2, ↓e_par3, ↓e_App, ↓e_For, ↓e_While, ↓e_Iter, ↓e_Rng1, ↓e_Rng2, ↓e_Zip2, ↓e_Zip3, ↓e_Lc, ↓e_Yes, ↓e_Dn0, ↓e_DnIn, ↓e_DnGet, ↓e_Dn1, iteG_t, iteG_f, iteG_d, iteG_n, iteG_a, iteG_o, iteG_x, iteG_e, iteG_s, iteG_l, iteG_y, iteF_t, iteF_f, varF_d, varF_o, toD_d, toD_l, toD_a, toDF_d, toDF_l, d2F_d, fAdd_i, fAdd_s, fAdd_t, fAdd_l, fSub_i, fMul_i, fMulR_i, fMulR_t, fMulR_l, fDiv_i, fMod_i, fPow_i, negF_i, cLt_i, cLe_i, cGt_i, cGe_i, cEq_e, cNe_e, isNF_n, isNF_t, isNF_i, dBF_b, boF_b, notVF_b, ch2F_d, chF_d, seqOf_t, seqOf_l, seqOf_o, seqOf_s, seqOf_a, seqF_t, seqF_l, seqF_o, kindOf_t, kindOf_l, kindOf_o, kindOf_a, kindF_t, kindF_l, kindF_o, ixF2_s, ixF_s, slF_t, slF_f, partF_i, allD_n, allD_c, tupF_s, lstF_s, ofDF_s, gInt_i, gInt_b, gAbs_i, gMax2_i, gMin2_i, gN_e, jF_s, lenF_s, intsF2_s, intsF_s, fSum_e, gTF_s, gLF_s, blsF_s, blsF2_s, isF_s, isF2_s, tyn_i, tyn_b, tyn_t, tyn_l, tyn_s, tyn_n, k_ii, k_ib, k_tt, gN1_d, gN1_o, gN1_a, gaF_d, gaF_o, gTup_e, gs_n, gs_c, par2G_e, par2F_s, svOf_d, svOf_o, par3G_e, par3F_s, stF2_s, stF_s, stG_e, gStL_e, gOwn_e, owL_a, apG_e, apI_e, iterF_t, iterF_l, rng1F_e, rng2F_e, zip2F_s, zip2G_e, zip3F_s, zip3G_e, seqD_t, seqD_l, finP_d, finP_o, finP_a, finF_d, finF_o, finJF_d, finJF_o, finJ_d, finJ_o, startD_e, startJ_e, dnI_e, dnIH_e, dnGF_e, dnGetF_e, dnSF_e, dnSH_e, gStDn_e, dn1F_e, atI_0, atI_1, atI_2, ixN_2_0, ixN_2_1, appK_eq, cmp_i, eqv_ii, eqv_nn, cast1, cast2, cast3, List.map_cons, List.map_nil, List.append_nil, List.nil_append, List.cons_append, List.replicate_succ, List.replicate_zero, List.length_cons, List.length_nil, List.getElem?_cons_zero, List.getElem?_cons_succ, List.set_cons_zero, List.set_cons_succ, Option.map_some, Bool.not_true, Bool.not_false, Nat.reduceAdd, Nat.reduceSub, Nat.zero_add, Nat.add_zero, if_true, if_false, decide_true, decide_false, and_true, true_and, Nat.reduceLeDiff, Nat.sub_zero, Nat.sub_self, e1, intsD, zipD2_maps]
    refine ⟨fun i hi => ?_, ?_⟩
    · simp only [List.mem_cons, List.not_mem_nil, or_false] at hi
      rcases hi with rfl | rfl <;> rfl
    refine lcL_maps (fun p : Int × Int => D.tup [.int p.1, .int p.2]) (fun p => .int (p.1 + p.2)) _ [] (fun c hc K hK => ?_) ?_
    · simp only [↓e_var, ↓e_C, ↓e_dD, ↓e_d2, ↓e_neg, ↓e_isN, ↓e_B, ↓e_And, ↓e_Or, ↓e_Not, ↓e_AndV, ↓e_OrV, ↓e_NotV, ↓e_IfE, ↓e_Chain, ↓e_Ix, ↓e_Sl, ↓e_No, ↓e_Part, ↓e_nil, ↓e_cons, ↓e_Tup, ↓e_Lst, ↓e_CB, ↓e_ofD, ↓e_jOf, ↓e_Len, ↓e_Ints, ↓e_fMax, ↓e_fMin, ↓e_Tuple, ↓e_List, ↓e_Bls, ↓e_Is, ↓e_seq, ↓e_skip, ↓e_ret, ↓e_drop, ↓e_ifS, ↓e_never, ↓e_asg, ↓e_par2, ↓e_par3, ↓e_App, ↓e_For, ↓e_While, ↓e_Iter, ↓e_Rng1, ↓e_Rng2, ↓e_Zip2, ↓e_Zip3, ↓e_Lc, ↓e_Yes, ↓e_Dn0, ↓e_DnIn, ↓e_DnGet, ↓e_Dn1, iteG_t, iteG_f, iteG_d, iteG_n, iteG_a, iteG_o, iteG_x, iteG_e, iteG_s, iteG_l, iteG_y, iteF_t, iteF_f, varF_d, varF_o, toD_d, toD_l, toD_a, toDF_d, toDF_l, d2F_d, fAdd_i, fAdd_s, fAdd_t, fAdd_l, fSub_i, fMul_i, fMulR_i, fMulR_t, fMulR_l, fDiv_i, fMod_i, fPow_i, negF_i, cLt_i, cLe_i, cGt_i, cGe_i, cEq_e, cNe_e, isNF_n, isNF_t, isNF_i, dBF_b, boF_b, notVF_b, ch2F_d, chF_d, seqOf_t, seqOf_l, seqOf_o, seqOf_s, seqOf_a, seqF_t, seqF_l, seqF_o, kindOf_t, kindOf_l, kindOf_o, kindOf_a, kindF_t, kindF_l, kindF_o, ixF2_s, ixF_s, slF_t, slF_f, partF_i, allD_n, allD_c, tupF_s, lstF_s, ofDF_s, gInt_i, gInt_b, gAbs_i, gMax2_i, gMin2_i, gN_e, jF_s, lenF_s, intsF2_s, intsF_s, fSum_e, gTF_s, gLF_s, blsF_s, blsF2_s, isF_s, isF2_s, tyn_i, tyn_b, tyn_t, tyn_l, tyn_s, tyn_n, k_ii, k_ib, k_tt, gN1_d, gN1_o, gN1_a, gaF_d, gaF_o, gTup_e, gs_n, gs_c, par2G_e, par2F_s, svOf_d, svOf_o, par3G_e, par3F_s, stF2_s, stF_s, stG_e, gStL_e, gOwn_e, owL_a, apG_e, apI_e, iterF_t, iterF_l, rng1F_e, rng2F_e, zip2F_s, zip2G_e, zip3F_s, zip3G_e, seqD_t, seqD_l, finP_d, finP_o, finP_a, finF_d, finF_o, finJF_d, finJF_o, finJ_d, finJ_o, startD_e, startJ_e, dnI_e, dnIH_e, dnGF_e, dnGetF_e, dnSF_e, dnSH_e, gStDn_e, dn1F_e, atI_0, atI_1, atI_2, ixN_2_0, ixN_2_1, appK_eq, cmp_i, eqv_ii, eqv_nn, cast1, cast2, cast3, List.map_cons, List.map_nil, List.append_nil, List.nil_append, List.cons_append, List.replicate_succ, List.replicate_zero, List.length_cons, List.length_nil, List.getElem?_cons_zero, List.getElem?_cons_succ, List.set_cons_zero, List.set_cons_succ, Option.map_some, Bool.not_true, Bool.not_false, Nat.reduceAdd, Nat.reduceSub, Nat.zero_add, Nat.add_zero, if_true, if_false, decide_true, decide_false, and_true, true_and, Nat.reduceLeDiff, Nat.sub_zero, Nat.sub_self]
      exact hK _ rfl
    · simp only [↓e_var, ↓e_C, ↓e_dD, ↓e_d2, ↓e_neg, ↓e_isN, ↓e_B, ↓e_And, ↓e_Or, ↓e_Not, ↓e_AndV, ↓e_OrV, ↓e_NotV, ↓e_IfE, ↓e_Chain, ↓e_Ix, ↓e_Sl, ↓e_No, ↓e_Part, ↓e_nil, ↓e_cons, ↓e_Tup, ↓e_Lst, ↓e_CB, ↓e_ofD, ↓e_jOf, ↓e_Len, ↓e_Ints, ↓e_fMax, ↓e_fMin, ↓e_Tuple, ↓e_List, ↓e_Bls, ↓e_Is, ↓e_seq, ↓e_skip, ↓e_ret, ↓e_drop, ↓e_ifS, ↓e_never, ↓e_asg, ↓e_par2, ↓e_par3, ↓e_App, ↓e_For, ↓e_While, ↓e_Iter, ↓e_Rng1, ↓e_Rng2, ↓e_Zip2, ↓e_Zip3, ↓e_Lc, ↓e_Yes, ↓e_Dn0, ↓e_DnIn, ↓e_DnGet, ↓e_Dn1, iteG_t, iteG_f, iteG_d, iteG_n, iteG_a, iteG_o, iteG_x, iteG_e, iteG_s, iteG_l, iteG_y, iteF_t, iteF_f, varF_d, varF_o, toD_d, toD_l, toD_a, toDF_d, toDF_l, d2F_d, fAdd_i, fAdd_s, fAdd_t, fAdd_l, fSub_i, fMul_i, fMulR_i, fMulR_t, fMulR_l, fDiv_i, fMod_i, fPow_i, negF_i, cLt_i, cLe_i, cGt_i, cGe_i, cEq_e, cNe_e, isNF_n, isNF_t, isNF_i, dBF_b, boF_b, notVF_b, ch2F_d, chF_d, seqOf_t, seqOf_l, seqOf_o, seqOf_s, seqOf_a, seqF_t, seqF_l, seqF_o, kindOf_t, kindOf_l, kindOf_o, kindOf_a, kindF_t, kindF_l, kindF_o, ixF2_s, ixF_s, slF_t, slF_f, partF_i, allD_n, allD_c, tupF_s, lstF_s, ofDF_s, gInt_i, gInt_b, gAbs_i, gMax2_i, gMin2_i, gN_e, jF_s, lenF_s, intsF2_s, intsF_s, fSum_e, gTF_s, gLF_s, blsF_s, blsF2_s, isF_s, isF2_s, tyn_i, tyn_b, tyn_t, tyn_l, tyn_s, tyn_n, k_ii, k_ib, k_tt, gN1_d, gN1_o, gN1_a, gaF_d, gaF_o, gTup_e, gs_n, gs_c, par2G_e, par2F_s, svOf_d, svOf_o, par3G_e, par3F_s, stF2_s, stF_s, stG_e, gStL_e, gOwn_e, owL_a, apG_e, apI_e, iterF_t, iterF_l, rng1F_e, rng2F_e, zip2F_s, zip2G_e, zip3F_s, zip3G_e, seqD_t, seqD_l, finP_d, finP_o, finP_a, finF_d, finF_o, finJF_d, finJF_o, finJ_d, finJ_o, startD_e, startJ_e, dnI_e, dnIH_e, dnGF_e, dnGetF_e, dnSF_e, dnSH_e, gStDn_e, dn1F_e, atI_0, atI_1, atI_2, ixN_2_0, ixN_2_1, appK_eq, cmp_i, eqv_ii, eqv_nn, cast1, cast2, cast3, List.map_cons, List.map_nil, List.append_nil, List.nil_append, List.cons_append, List.replicate_succ, List.replicate_zero, List.length_cons, List.length_nil, List.getElem?_cons_zero, List.getElem?_cons_succ, List.set_cons_zero, List.set_cons_succ, Option.map_some, Bool.not_true, Bool.not_false, Nat.reduceAdd, Nat.reduceSub, Nat.zero_add, Nat.add_zero, if_true, if_false, decide_true, decide_false, and_true, true_and, Nat.reduceLeDiff, Nat.sub_zero, Nat.sub_self]
      refine hK _ ⟨done ++ [s], .d (.int (s.1 : Nat)), .d (intsD s.2), .d (intsD (outW w r s)), by rw [e]; simp, ?_⟩
      have e2 : D.tup (((sumsF w r done).zip (outW w r s)).map fun p => D.int (p.1 + p.2)) = intsD (sumsF w r (done ++ [s])) := by
        unfold intsD sumsF
        conv => lhs; rw [list_cols (outW_length ok so w)]
        rw [zip_cols, List.map_map]
        congr 1
        apply List.map_congr_left
        intro j hj
        show D.int _ = D.int _
        rw [colS_snoc]
      rw [e2]
      rfl
  · rintro ρ ⟨done, z1, z2, z3, e, rfl⟩
    rw [List.append_nil] at e
    subst e
    simp only [↓e_var, ↓e_C, ↓e_dD, ↓e_d2, ↓e_neg, ↓e_isN, ↓e_B, ↓e_And, ↓e_Or, ↓e_Not, ↓e_AndV, ↓e_OrV, ↓e_NotV, ↓e_IfE, ↓e_Chain, ↓e_Ix, ↓e_Sl, ↓e_No, ↓e_Part, ↓e_nil, ↓e_cons, ↓e_Tup, ↓e_Lst, ↓e_CB, ↓e_ofD, ↓e_jOf, ↓e_Len, ↓e_Ints, ↓e_fMax, ↓e_fMin, ↓e_Tuple, ↓e_List, ↓e_Bls, ↓e_Is, ↓e_seq, ↓e_skip, ↓e_ret, ↓e_drop, ↓e_ifS, ↓e_never, ↓e_asg, ↓e_par2, ↓e_par3, ↓e_App, ↓e_For, ↓e_While, ↓e_Iter, ↓e_Rng1, ↓e_Rng2, ↓e_Zip2, ↓e_Zip3, ↓e_Lc, ↓e_Yes, ↓e_Dn0, ↓e_DnIn, ↓e_DnGet, ↓e_Dn1, iteG_t, iteG_f, iteG_d, iteG_n, iteG_a, iteG_o, iteG_x, iteG_e, iteG_s, iteG_l, iteG_y, iteF_t, iteF_f, varF_d, varF_o, toD_d, toD_l, toD_a, toDF_d, toDF_l, d2F_d, fAdd_i, fAdd_s, fAdd_t, fAdd_l, fSub_i, fMul_i, fMulR_i, fMulR_t, fMulR_l, fDiv_i, fMod_i, fPow_i, negF_i, cLt_i, cLe_i, cGt_i, cGe_i, cEq_e, cNe_e, isNF_n, isNF_t, isNF_i, dBF_b, boF_b, notVF_b, ch2F_d, chF_d, seqOf_t, seqOf_l, seqOf_o, seqOf_s, seqOf_a, seqF_t, seqF_l, seqF_o, kindOf_t, kindOf_l, kindOf_o, kindOf_a, kindF_t, kindF_l, kindF_o, ixF2_s, ixF_s, slF_t, slF_f, partF_i, allD_n, allD_c, tupF_s, lstF_s, ofDF_s, gInt_i, gInt_b, gAbs_i, gMax2_i, gMin2_i, gN_e, jF_s, lenF_s, intsF2_s, intsF_s, fSum_e, gTF_s, gLF_s, blsF_s, blsF2_s, isF_s, isF2_s, tyn_i, tyn_b, tyn_t, tyn_l, tyn_s, tyn_n, k_ii, k_ib, k_tt, gN1_d, gN1_o, gN1_a, gaF_d, gaF_o, gTup_e, gs_n, gs_c, par2G_e, par2F_s, svOf_d, svOf_o, par3G_e, par3F_s, stF2_s, stF_s, stG_e, gStL_e, gOwn_e, owL_a, apG_e, apI_e, iterF_t, iterF_l, rng1F_e, rng2F_e, zip2F_s, zip2G_e, zip3F_s, zip3G_e, seqD_t, seqD_l, finP_d, finP_o, finP_a, finF_d, finF_o, finJF_d, finJF_o, finJ_d, finJ_o, startD_e, startJ_e, dnI_e, dnIH_e, dnGF_e, dnGetF_e, dnSF_e, dnSH_e, gStDn_e, dn1F_e, atI_0, atI_1, atI_2, ixN_2_0, ixN_2_1, appK_eq, cmp_i, eqv_ii, eqv_nn, cast1, cast2, cast3, List.map_cons, List.map_nil, List.append_nil, List.nil_append, List.cons_append, List.replicate_succ, List.replicate_zero, List.length_cons, List.length_nil, List.getElem?_cons_zero, List.getElem?_cons_succ, List.set_cons_zero, List.set_cons_succ, Option.map_some, Bool.not_true, Bool.not_false, Nat.reduceAdd, Nat.reduceSub, Nat.zero_add, Nat.add_zero, if_true, if_false, decide_true, decide_false, and_true, true_and, Nat.reduceLeDiff, Nat.sub_zero, Nat.sub_self]
    exact h
def Dx_sums_of (P : Program) (w : World) (K : PySem.W.Frag) (mg : Str → Option Value) (base : Heap) : Prop := ∃ f fd, Def P w K mg base 2 "sums_of" f fd ["row", "standings", "which"] (spP (bas P w K) 3 sp_sums_of)
theorem ok_sums_of {P : Program} {w : World} {K : PySem.W.Frag} {mg : Str → Option Value} {base : Heap} (M : Mg mg) (D_ticked : Dx_ticked P w K mg base) {f : Addr} {fd : FuncData} (F : FunD K "sums_of" "sums_of" (defArgs s_sums_of) (defBody s_sums_of) (defScope s_sums_of) [] [] f fd) : FnOk P w K mg base CX0 2 f fd ["row", "standings", "which"] (spP (bas P w K) 3 sp_sums_of) := by
  obtain ⟨a_ticked, fd_ticked, D_ticked⟩ := D_ticked
  exact okP (tb := t_sums_of) F sc_sums_of (fun cdv A outer s H E hr =>
    (dss_cons (ds_asg (de_mulR (de_tup (da_cons de_int da_nil)) (de_callB (call_len_seq) (snd_len) (by rfl) M.f_len rfl (da_cons (de_ix (de_var (pv 0)) de_int) da_nil))) (dg_name sc_sums_of.nd (i := 3) rfl (by first | exact .inl rfl | exact .inr rfl) (by first | exact .inl rfl | exact .inr (by decide))))
      (dss_cons (ds_for PassesOwn.never rfl (di_seq (de_var (pv 1))) (dg_tup rfl (dgs_cons (dg_name sc_sums_of.nd (i := 4) rfl (by first | exact .inl rfl | exact .inr rfl) (by first | exact .inl rfl | exact .inr (by decide))) (dgs_cons (dg_name sc_sums_of.nd (i := 5) rfl (by first | exact .inl rfl | exact .inr rfl) (by first | exact .inl rfl | exact .inr (by decide))) (dgs_nil (ws := []))))) (dss_cons (ds_asg (de_ix (de_call D_ticked.own (hr.mono (by decide)) (by rfl) (da_cons (de_data (de_var (pv 0))) (da_cons (de_data (de_var (pv 4))) (da_cons (de_data (de_var (pv 5))) da_nil)))) (de_var (pv 2))) (dg_name sc_sums_of.nd (i := 6) rfl (by first | exact .inl rfl | exact .inr rfl) (by first | exact .inl rfl | exact .inr (by decide))))
      (dss_one (ds_asg (de_callTy (call_tuple_of) (snd_tuple) (by rfl) M.f_tuple rfl (da_cons (de_lc (own := [("one", 7), ("other", 8)]) rfl sc_sums_of.nd (di_zip2 (by rfl) M.f_zip (da_cons (de_data (de_var (pv 3))) (da_cons (de_data (de_var (pv 6))) da_nil))) (blkOk_by (own := [("one", 7), ("other", 8)]) (N := N_sums_of) (sc := defScope s_sums_of) (by decide +kernel)) (fun s H A cl fp => (dg_tup rfl (dgs_cons (dg_name sc_sums_of.nd (i := 7) rfl (by first | exact .inl rfl | exact .inr rfl) (by first | exact .inl rfl | exact .inr (by decide))) (dgs_cons (dg_name sc_sums_of.nd (i := 8) rfl (by first | exact .inl rfl | exact .inr rfl) (by first | exact .inl rfl | exact .inr (by decide))) (dgs_nil (ws := [])))))) (fun s H A cl fp => dts_nil) (fun s H A cl fp => (de_data (de_add (de_var (pv 7)) (de_var (pv 8)))))) da_nil)) (dg_name sc_sums_of.nd (i := 3) rfl (by first | exact .inl rfl | exact .inr rfl) (by first | exact .inl rfl | exact .inr (by decide)))))))
      (dss_one (ds_ret (de_var (pv 3))))))) rd_sums_of
def N_sums_behind : List Str := ["row", "filling", "ticks", "which", "found", "first", "ring", "many", "rest", "ahead", "whole", "part", "one", "two", "three"]
theorem sc_sums_behind : FnScope N_sums_behind ["row", "filling", "ticks", "which"] (defScope s_sums_behind) := ⟨rfl, rfl, rfl, by decide +kernel, rfl, by decide +kernel, by decide +kernel⟩
def t_sums_behind : DTS :=
    (dSeq (dAsg (dCB (ofD (gN 2 sp_trail)) (dCons (dD (dVar 0)) (dCons (dD (dVar 1)) dNil))) (gTupD 2 (gsCons (gN1 4) (gsCons (gN1 5) gsNil))))
      (dSeq (dIfS (dB (d2 cLe (dD (dVar 2)) (dD (dCB gLen (dCons (dVar 4) dNil))))) (dRet (dCB (ofD (gN 3 sp_sums_of)) (dCons (dD (dVar 0)) (dCons (dD (dSl (dVar 4) dNo (dPart (dVar 2)))) (dCons (dD (dVar 3)) dNil))))) dSkip)
      (dSeq (dAsg (dSl (dVar 4) (dPart (dVar 5)) dNo) (gN1 6))
      (dSeq (dAsg (dTup (dCons (dD (d2 fDiv (dD (d2 fSub (dD (dVar 2)) (dD (dVar 5)))) (dD (dCB gLen (dCons (dVar 6) dNil))))) (dCons (dD (d2 fMod (dD (d2 fSub (dD (dVar 2)) (dD (dVar 5)))) (dD (dCB gLen (dCons (dVar 6) dNil))))) dNil))) (gTupD 2 (gsCons (gN1 7) (gsCons (gN1 8) gsNil))))
      (dSeq (dAsg (dCB (ofD (gN 3 sp_sums_of)) (dCons (dD (dVar 0)) (dCons (dD (dSl (dVar 4) dNo (dPart (dVar 5)))) (dCons (dD (dVar 3)) dNil)))) (gN1 9))
      (dSeq (dPar2 10 11 (dCons (dCB (ofD (gN 3 sp_sums_of)) (dCons (dD (dVar 0)) (dCons (dD (dVar 6)) (dCons (dD (dVar 3)) dNil)))) (dCons (dCB (ofD (gN 3 sp_sums_of)) (dCons (dD (dVar 0)) (dCons (dD (dSl (dVar 6) dNo (dPart (dVar 8)))) (dCons (dD (dVar 3)) dNil)))) dNil)))
      (dRet (dCB gTuple (dCons (dLc (dZip3 (dCons (dD (dVar 9)) (dCons (dD (dVar 10)) (dCons (dD (dVar 11)) dNil)))) (gTupD 3 (gsCons (gN1 12) (gsCons (gN1 13) (gsCons (gN1 14) gsNil)))) dYes (dD (d2 fAdd (dD (d2 fAdd (dD (dVar 12)) (dD (d2 fMul (dD (dVar 7)) (dD (dVar 13)))))) (dD (dVar 14)))) [12, 13, 14]) dNil)))))))))
def sp_sums_behind : DFd := fun ds R => ∃ (r : Row) (f : List Int) (n : Nat) (w : Int), ds = [rowD r, intsD f, .int (n : Nat), .int w] ∧ r.Ok ∧ FillOk r.cups f ∧ (w = 1 ∨ w = 2) ∧ R (.d (intsD (tot w r f n)))
theorem map_stD (o : Nat → Stg) (l : List Nat) : (l.map fun i => stD (o i)) = (l.map o).map stD := by
  rw [List.map_map]
  rfl
theorem rd_sums_behind : ∀ ds R, ds.length = 4 → sp_sums_behind ds R → t_sums_behind { nx := fun _ => R (.d .non), rt := finP R } (startD N_sums_behind ds) := by
  rintro ds R - ⟨r, f, n, w, rfl, ok, hf, hw, h⟩
  have st := start_ok ok hf
  simp only [↓e_var, ↓e_C, ↓e_dD, ↓e_d2, ↓e_neg, ↓e_isN, ↓e_B, ↓e_And, ↓e_Or, ↓e_Not, ↓e_AndV, ↓e_OrV, ↓e_NotV, ↓e_IfE, ↓e_Chain, ↓e_Ix, ↓e_Sl, ↓e_No, ↓e_Part, ↓e_nil, ↓e_cons, ↓e_Tup, ↓e_Lst, ↓e_CB, ↓e_ofD, ↓e_jOf, ↓e_Len, ↓e_Ints, ↓e_fMax, ↓e_fMin, ↓e_Tuple, ↓e_List, ↓e_Bls, ↓e_Is, ↓e_seq, ↓e_skip, ↓e_ret, ↓e_drop, ↓e_ifS, ↓e_never, ↓e_asg, ↓e_par2, ↓e_par3, ↓e_App, ↓e_For, ↓e_While, ↓e_Iter, ↓e_Rng1, ↓e_Rng2, ↓e_Zip2, ↓e_Zip3, ↓e_Lc, ↓e_Yes, ↓e_Dn0, ↓e_DnIn, ↓e_DnGet, ↓e_Dn1, iteG_t, iteG_f, iteG_d, iteG_n, iteG_a, iteG_o, iteG_x, iteG_e, iteG_s, iteG_l, iteG_y, iteF_t, iteF_f, varF_d, varF_o, toD_d, toD_l, toD_a, toDF_d, toDF_l, d2F_d, fAdd_i, fAdd_s, fAdd_t, fAdd_l, fSub_i, fMul_i, fMulR_i, fMulR_t, fMulR_l, fDiv_i, fMod_i, fPow_i, negF_i, cLt_i, cLe_i, cGt_i, cGe_i, cEq_e, cNe_e, isNF_n, isNF_t, isNF_i, dBF_b, boF_b, notVF_b, ch2F_d, chF_d, seqOf_t, seqOf_l, seqOf_o, seqOf_s, seqOf_a, seqF_t, seqF_l, seqF_o, kindOf_t, kindOf_l, kindOf_o, kindOf_a, kindF_t, kindF_l, kindF_o, ixF2_s, ixF_s, slF_t, slF_f, partF_i, allD_n, allD_c, tupF_s, lstF_s, ofDF_s, gInt_i, gInt_b, gAbs_i, gMax2_i, gMin2_i, gN_e, jF_s, lenF_s, intsF2_s, intsF_s, fSum_e, gTF_s, gLF_s, blsF_s, blsF2_s, isF_s, isF2_s, tyn_i, tyn_b, tyn_t, tyn_l, tyn_s, tyn_n, k_ii, k_ib, k_tt, gN1_d, gN1_o, gN1_a, gaF_d, gaF_o, gTup_e, gs_n, gs_c, par2G_e, par2F_s, svOf_d, svOf_o, par3G_e, par3F_s, stF2_s, stF_s, stG_e, gStL_e, gOwn_e, owL_a, apG_e, apI_e, iterF_t, iterF_l, rng1F_e, rng2F_e, zip2F_s, zip2G_e, zip3F_s, zip3G_e, seqD_t, seqD_l, finP_d, finP_o, finP_a, finF_d, finF_o, finJF_d, finJF_o, finJ_d, finJ_o, startD_e, startJ_e, dnI_e, dnIH_e, dnGF_e, dnGetF_e, dnSF_e, dnSH_e, gStDn_e, dn1F_e, atI_0, atI_1, atI_2, ixN_2_0, ixN_2_1, appK_eq, cmp_i, eqv_ii, eqv_nn, cast1, cast2, cast3, List.map_cons, List.map_nil, List.append_nil, List.nil_append, List.cons_append, List.replicate_succ, List.replicate_zero, List.length_cons, List.length_nil, List.getElem?_cons_zero, List.getElem?_cons_succ, List.set_cons_zero, List.set_cons_succ, Option.map_some, Bool.not_true, Bool.not_false, Nat.reduceAdd, Nat.reduceSub, Nat.zero_add, Nat.add_zero, if_true, if_false, decide_true, decide_false, and_true, true_and, Nat.reduceLeDiff, Nat.sub_zero, Nat.sub_self, t_sums_behind, N_sums_behind]
  refine ⟨rfl, r, f, rfl, ok, hf, fun m k hm hk e => ?_⟩
  have e0 : atI [D.tup []] 0 = some (D.tup []) := atI_0
  simp only [↓e_var, ↓e_C, ↓e_dD, ↓e_d2, ↓e_neg, ↓e_isN, ↓e_B, ↓e_And, ↓e_Or, ↓e_Not, ↓e_AndV, ↓e_OrV, ↓e_NotV, ↓e_IfE, ↓e_Chain, ↓e_Ix, ↓e_Sl, ↓e_No, ↓e_Part, ↓e_nil, ↓e_cons, ↓e_Tup, ↓e_Lst, ↓e_CB, ↓e_ofD, ↓e_jOf, ↓e_Len, ↓e_Ints, ↓e_fMax, ↓e_fMin, ↓e_Tuple, ↓e_List, ↓e_Bls, ↓e_Is, ↓e_seq, ↓e_skip, ↓e_ret, ↓e_drop, ↓e_ifS, ↓e_never, ↓e_asg, ↓e_par2, ↓e_par3, ↓e_App, ↓e_For, ↓e_While, ↓e_Iter, ↓e_Rng1, ↓e_Rng2, ↓e_Zip2, ↓e_Zip3, ↓e_Lc, ↓e_Yes, ↓e_Dn0, ↓e_DnIn, ↓e_DnGet, ↓e_Dn1, iteG_t, iteG_f, iteG_d, iteG_n, iteG_a, iteG_o, iteG_x, iteG_e, iteG_s, iteG_l, iteG_y, iteF_t, iteF_f, varF_d, varF_o, toD_d, toD_l, toD_a, toDF_d, toDF_l, d2F_d, fAdd_i, fAdd_s, fAdd_t, fAdd_l, fSub_i, fMul_i, fMulR_i, fMulR_t, fMulR_l, fDiv_i, fMod_i, fPow_i, negF_i, cLt_i, cLe_i, cGt_i, cGe_i, cEq_e, cNe_e, isNF_n, isNF_t, isNF_i, dBF_b, boF_b, notVF_b, ch2F_d, chF_d, seqOf_t, seqOf_l, seqOf_o, seqOf_s, seqOf_a, seqF_t, seqF_l, seqF_o, kindOf_t, kindOf_l, kindOf_o, kindOf_a, kindF_t, kindF_l, kindF_o, ixF2_s, ixF_s, slF_t, slF_f, partF_i, allD_n, allD_c, tupF_s, lstF_s, ofDF_s, gInt_i, gInt_b, gAbs_i, gMax2_i, gMin2_i, gN_e, jF_s, lenF_s, intsF2_s, intsF_s, fSum_e, gTF_s, gLF_s, blsF_s, blsF2_s, isF_s, isF2_s, tyn_i, tyn_b, tyn_t, tyn_l, tyn_s, tyn_n, k_ii, k_ib, k_tt, gN1_d, gN1_o, gN1_a, gaF_d, gaF_o, gTup_e, gs_n, gs_c, par2G_e, par2F_s, svOf_d, svOf_o, par3G_e, par3F_s, stF2_s, stF_s, stG_e, gStL_e, gOwn_e, owL_a, apG_e, apI_e, iterF_t, iterF_l, rng1F_e, rng2F_e, zip2F_s, zip2G_e, zip3F_s, zip3G_e, seqD_t, seqD_l, finP_d, finP_o, finP_a, finF_d, finF_o, finJF_d, finJF_o, finJ_d, finJ_o, startD_e, startJ_e, dnI_e, dnIH_e, dnGF_e, dnGetF_e, dnSF_e, dnSH_e, gStDn_e, dn1F_e, atI_0, atI_1, atI_2, ixN_2_0, ixN_2_1, appK_eq, cmp_i, eqv_ii, eqv_nn, cast1, cast2, cast3, List.map_cons, List.map_nil, List.append_nil, List.nil_append, List.cons_append, List.replicate_succ, List.replicate_zero, List.length_cons, List.length_nil, List.getElem?_cons_zero, List.getElem?_cons_succ, List.set_cons_zero, List.set_cons_succ, Option.map_some, Bool.not_true, Bool.not_false, Nat.reduceAdd, Nat.reduceSub, Nat.zero_add, Nat.add_zero, if_true, if_false, decide_true, decide_false, and_true, true_and, Nat.reduceLeDiff, Nat.sub_zero, Nat.sub_self, List.length_map, List.length_range]
  refine iteF_d (fun q => ?_) (fun q => ?_)
  · have e1 : cutD ((List.range m).map fun i => stD (orb r (0, f) i)) none (some (n : Int)) = ((List.range n).map (orb r (0, f))).map stD := by
      rw [cut_to, range_take _ _ (by omega), map_stD]
    simp only [↓e_var, ↓e_C, ↓e_dD, ↓e_d2, ↓e_neg, ↓e_isN, ↓e_B, ↓e_And, ↓e_Or, ↓e_Not, ↓e_AndV, ↓e_OrV, ↓e_NotV, ↓e_IfE, ↓e_Chain, ↓e_Ix, ↓e_Sl, ↓e_No, ↓e_Part, ↓e_nil, ↓e_cons, ↓e_Tup, ↓e_Lst, ↓e_CB, ↓e_ofD, ↓e_jOf, ↓e_Len, ↓e_Ints, ↓e_fMax, ↓e_fMin, ↓e_Tuple, ↓e_List, ↓e_Bls, ↓e_Is, ↓e_seq, ↓e_skip, ↓e_ret, ↓e_drop, ↓e_ifS, ↓e_never, ↓e_asg, ↓e_par2, ↓e_par3, ↓e_App, ↓e_For, ↓e_While, ↓e_Iter, ↓e_Rng1, ↓e_Rng2, ↓e_Zip2, ↓e_Zip3, ↓e_Lc, ↓e_Yes, ↓e_Dn0, ↓e_DnIn, ↓e_DnGet, ↓e_Dn1, iteG_t, iteG_f, iteG_d, iteG_n, iteG_a, iteG_o, iteG_x, iteG_e, iteG_s, iteG_l, iteG_y, iteF_t, iteF_f, varF_d, varF_o, toD_d, toD_l, toD_a, toDF_d, toDF_l, d2F_d, fAdd_i, fAdd_s, fAdd_t, fAdd_l, fSub_i, fMul_i, fMulR_i, fMulR_t, fMulR_l, fDiv_i, fMod_i, fPow_i, negF_i, cLt_i, cLe_i, cGt_i, cGe_i, cEq_e, cNe_e, isNF_n, isNF_t, isNF_i, dBF_b, boF_b, notVF_b, ch2F_d, chF_d, seqOf_t, seqOf_l, seqOf_o, seqOf_s, seqOf_a, seqF_t, seqF_l, seqF_o, kindOf_t, kindOf_l, kindOf_o, kindOf_a, kindF_t, kindF_l, kindF_o, ixF2_s, ixF_s, slF_t, slF_f, partF_i, allD_n, allD_c, tupF_s, lstF_s, ofDF_s, gInt_i, gInt_b, gAbs_i, gMax2_i, gMin2_i, gN_e, jF_s, lenF_s, intsF2_s, intsF_s, fSum_e, gTF_s, gLF_s, blsF_s, blsF2_s, isF_s, isF2_s, tyn_i, tyn_b, tyn_t, tyn_l, tyn_s, tyn_n, k_ii, k_ib, k_tt, gN1_d, gN1_o, gN1_a, gaF_d, gaF_o, gTup_e, gs_n, gs_c, par2G_e, par2F_s, svOf_d, svOf_o, par3G_e, par3F_s, stF2_s, stF_s, stG_e, gStL_e, gOwn_e, owL_a, apG_e, apI_e, iterF_t, iterF_l, rng1F_e, rng2F_e, zip2F_s, zip2G_e, zip3F_s, zip3G_e, seqD_t, seqD_l, finP_d, finP_o, finP_a, finF_d, finF_o, finJF_d, finJF_o, finJ_d, finJ_o, startD_e, startJ_e, dnI_e, dnIH_e, dnGF_e, dnGetF_e, dnSF_e, dnSH_e, gStDn_e, dn1F_e, atI_0, atI_1, atI_2, ixN_2_0, ixN_2_1, appK_eq, cmp_i, eqv_ii, eqv_nn, cast1, cast2, cast3, List.map_cons, List.map_nil, List.append_nil, List.nil_append, List.cons_append, List.replicate_succ, List.replicate_zero, List.length_cons, List.length_nil, List.getElem?_cons_zero, List.getElem?_cons_succ, List.set_cons_zero, List.set_cons_succ, Option.map_some, Bool.not_true, Bool.not_false, Nat.reduceAdd, Nat.reduceSub, Nat.zero_add, Nat.add_zero, if_true, if_false, decide_true, decide_false, and_true, true_and, Nat.reduceLeDiff, Nat.sub_zero, Nat.sub_self, e1]
    refine ⟨rfl, r, _, w, rfl, ok, fun s hs => ?_, hw, ?_⟩
    · obtain ⟨i, _, rfl⟩ := List.mem_map.mp hs
      exact orb_ok ok st i
    · simp only [↓e_var, ↓e_C, ↓e_dD, ↓e_d2, ↓e_neg, ↓e_isN, ↓e_B, ↓e_And, ↓e_Or, ↓e_Not, ↓e_AndV, ↓e_OrV, ↓e_NotV, ↓e_IfE, ↓e_Chain, ↓e_Ix, ↓e_Sl, ↓e_No, ↓e_Part, ↓e_nil, ↓e_cons, ↓e_Tup, ↓e_Lst, ↓e_CB, ↓e_ofD, ↓e_jOf, ↓e_Len, ↓e_Ints, ↓e_fMax, ↓e_fMin, ↓e_Tuple, ↓e_List, ↓e_Bls, ↓e_Is, ↓e_seq, ↓e_skip, ↓e_ret, ↓e_drop, ↓e_ifS, ↓e_never, ↓e_asg, ↓e_par2, ↓e_par3, ↓e_App, ↓e_For, ↓e_While, ↓e_Iter, ↓e_Rng1, ↓e_Rng2, ↓e_Zip2, ↓e_Zip3, ↓e_Lc, ↓e_Yes, ↓e_Dn0, ↓e_DnIn, ↓e_DnGet, ↓e_Dn1, iteG_t, iteG_f, iteG_d, iteG_n, iteG_a, iteG_o, iteG_x, iteG_e, iteG_s, iteG_l, iteG_y, iteF_t, iteF_f, varF_d, varF_o, toD_d, toD_l, toD_a, toDF_d, toDF_l, d2F_d, fAdd_i, fAdd_s, fAdd_t, fAdd_l, fSub_i, fMul_i, fMulR_i, fMulR_t, fMulR_l, fDiv_i, fMod_i, fPow_i, negF_i, cLt_i, cLe_i, cGt_i, cGe_i, cEq_e, cNe_e, isNF_n, isNF_t, isNF_i, dBF_b, boF_b, notVF_b, ch2F_d, chF_d, seqOf_t, seqOf_l, seqOf_o, seqOf_s, seqOf_a, seqF_t, seqF_l, seqF_o, kindOf_t, kindOf_l, kindOf_o, kindOf_a, kindF_t, kindF_l, kindF_o, ixF2_s, ixF_s, slF_t, slF_f, partF_i, allD_n, allD_c, tupF_s, lstF_s, ofDF_s, gInt_i, gInt_b, gAbs_i, gMax2_i, gMin2_i, gN_e, jF_s, lenF_s, intsF2_s, intsF_s, fSum_e, gTF_s, gLF_s, blsF_s, blsF2_s, isF_s, isF2_s, tyn_i, tyn_b, tyn_t, tyn_l, tyn_s, tyn_n, k_ii, k_ib, k_tt, gN1_d, gN1_o, gN1_a, gaF_d, gaF_o, gTup_e, gs_n, gs_c, par2G_e, par2F_s, svOf_d, svOf_o, par3G_e, par3F_s, stF2_s, stF_s, stG_e, gStL_e, gOwn_e, owL_a, apG_e, apI_e, iterF_t, iterF_l, rng1F_e, rng2F_e, zip2F_s, zip2G_e, zip3F_s, zip3G_e, seqD_t, seqD_l, finP_d, finP_o, finP_a, finF_d, finF_o, finJF_d, finJF_o, finJ_d, finJ_o, startD_e, startJ_e, dnI_e, dnIH_e, dnGF_e, dnGetF_e, dnSF_e, dnSH_e, gStDn_e, dn1F_e, atI_0, atI_1, atI_2, ixN_2_0, ixN_2_1, appK_eq, cmp_i, eqv_ii, eqv_nn, cast1, cast2, cast3, List.map_cons, List.map_nil, List.append_nil, List.nil_append, List.cons_append, List.replicate_succ, List.replicate_zero, List.length_cons, List.length_nil, List.getElem?_cons_zero, List.getElem?_cons_succ, List.set_cons_zero, List.set_cons_succ, Option.map_some, Bool.not_true, Bool.not_false, Nat.reduceAdd, Nat.reduceSub, Nat.zero_add, Nat.add_zero, if_true, if_false, decide_true, decide_false, and_true, true_and, Nat.reduceLeDiff, Nat.sub_zero, Nat.sub_self]
      exact h
  · have e1 : cutD ((List.range m).map fun i => stD (orb r (0, f) i)) (some (k : Int)) none = ((List.range (m - k)).map fun i => orb r (0, f) (k + i)).map stD := by
      rw [cut_from, range_drop, List.map_map, List.map_map]
      rfl
    simp only [↓e_var, ↓e_C, ↓e_dD, ↓e_d2, ↓e_neg, ↓e_isN, ↓e_B, ↓e_And, ↓e_Or, ↓e_Not, ↓e_AndV, ↓e_OrV, ↓e_NotV, ↓e_IfE, ↓e_Chain, ↓e_Ix, ↓e_Sl, ↓e_No, ↓e_Part, ↓e_nil, ↓e_cons, ↓e_Tup, ↓e_Lst, ↓e_CB, ↓e_ofD, ↓e_jOf, ↓e_Len, ↓e_Ints, ↓e_fMax, ↓e_fMin, ↓e_Tuple, ↓e_List, ↓e_Bls, ↓e_Is, ↓e_seq, ↓e_skip, ↓e_ret, ↓e_drop, ↓e_ifS, ↓e_never, ↓e_asg, ↓e_par2, ↓e_par3, ↓e_App, ↓e_For, ↓e_While, ↓e_Iter, ↓e_Rng1, ↓e_Rng2, ↓e_Zip2, ↓e_Zip3, ↓e_Lc, ↓e_Yes, ↓e_Dn0, ↓e_DnIn, ↓e_DnGet, ↓e_Dn1, iteG_t, iteG_f, iteG_d, iteG_n, iteG_a, iteG_o, iteG_x, iteG_e, iteG_s, iteG_l, iteG_y, iteF_t, iteF_f, varF_d, varF_o, toD_d, toD_l, toD_a, toDF_d, toDF_l, d2F_d, fAdd_i, fAdd_s, fAdd_t, fAdd_l, fSub_i, fMul_i, fMulR_i, fMulR_t, fMulR_l, fDiv_i, fMod_i, fPow_i, negF_i, cLt_i, cLe_i, cGt_i, cGe_i, cEq_e, cNe_e, isNF_n, isNF_t, isNF_i, dBF_b, boF_b, notVF_b, ch2F_d, chF_d, seqOf_t, seqOf_l, seqOf_o, seqOf_s, seqOf_a, seqF_t, seqF_l, seqF_o, kindOf_t, kindOf_l, kindOf_o, kindOf_a, kindF_t, kindF_l, kindF_o, ixF2_s, ixF_s, slF_t, slF_f, partF_i, allD_n, allD_c, tupF_s, lstF_s, ofDF_s, gInt_i, gInt_b, gAbs_i, gMax2_i, gMin2_i, gN_e, jF_s, lenF_s, intsF2_s, intsF_s, fSum_e, gTF_s, gLF_s, blsF_s, blsF2_s, isF_s, isF2_s, tyn_i, tyn_b, tyn_t, tyn_l, tyn_s, tyn_n, k_ii, k_ib, k_tt, gN1_d, gN1_o, gN1_a, gaF_d, gaF_o, gTup_e, gs_n, gs_c, par2G_e, par2F_s, svOf_d, svOf_o, par3G_e, par3F_s, stF2_s, stF_s, stG_e, gStL_e, gOwn_e, owL_a, apG_e, apI_e, iterF_t, iterF_l, rng1F_e, rng2F_e, zip2F_s, zip2G_e, zip3F_s, zip3G_e, seqD_t, seqD_l, finP_d, finP_o, finP_a, finF_d, finF_o, finJF_d, finJF_o, finJ_d, finJ_o, startD_e, startJ_e, dnI_e, dnIH_e, dnGF_e, dnGetF_e, dnSF_e, dnSH_e, gStDn_e, dn1F_e, atI_0, atI_1, atI_2, ixN_2_0, ixN_2_1, appK_eq, cmp_i, eqv_ii, eqv_nn, cast1, cast2, cast3, List.map_cons, List.map_nil, List.append_nil, List.nil_append, List.cons_append, List.replicate_succ, List.replicate_zero, List.length_cons, List.length_nil, List.getElem?_cons_zero, List.getElem?_cons_succ, List.set_cons_zero, List.set_cons_succ, Option.map_some, Bool.not_true, Bool.not_false, Nat.reduceAdd, Nat.reduceSub, Nat.zero_add, Nat.add_zero, if_true, if_false, decide_true, decide_false, and_true, true_and, Nat.reduceLeDiff, Nat.sub_zero, Nat.sub_self, e1, List.length_map, List.length_range]
    have hkn : k ≤ n := by omega
    have hL : 0 < m - k := by omega
    have dq : ((n : Int) - (k : Int)) / (((m - k : Nat)) : Int) = (((n - k) / (m - k) : Nat) : Int) := by
      rw [← Int.natCast_sub hkn, ← Int.natCast_ediv]
    have dc : ((n : Int) - (k : Int)) % (((m - k : Nat)) : Int) = (((n - k) % (m - k) : Nat) : Int) := by
      rw [← Int.natCast_sub hkn, ← Int.natCast_emod]
    rw [e1, List.length_map, List.length_map, List.length_range, dq, dc]
    have hcl : (n - k) % (m - k) < m - k := Nat.mod_lt _ hL
    have hn : n = k + ((n - k) / (m - k) * (m - k) + (n - k) % (m - k)) := by
      have := Nat.div_add_mod (n - k) (m - k)
      rw [Nat.mul_comm] at this
      omega
    generalize (n - k) / (m - k) = q0 at *
    generalize (n - k) % (m - k) = c0 at *
    refine ⟨CDivW.small (by omega) (by omega), by omega, ?_⟩
    rw [show cutD ((List.range m).map fun i => stD (orb r (0, f) i)) none (some (k : Int)) = ((List.range k).map (orb r (0, f))).map stD by
      rw [cut_to, range_take _ _ (by omega), map_stD]]
    have oks : ∀ (g : Nat → Nat) (a : Nat), ∀ s ∈ (List.range a).map fun i => orb r (0, f) (g i), StOk r s := fun g a s hs => by
      obtain ⟨i, _, rfl⟩ := List.mem_map.mp hs
      exact orb_ok ok st _
    refine ⟨rfl, r, _, w, rfl, ok, oks (fun i => i) k, hw, ?_⟩
    simp only [↓e_var, ↓e_C, ↓e_dD, ↓e_d2, ↓e_neg, ↓e_isN, ↓e_B, ↓e_And, ↓e_Or, ↓e_Not, ↓e_AndV, ↓e_OrV, ↓e_NotV, ↓e_IfE, ↓e_Chain, ↓e_Ix, ↓e_Sl, ↓e_No, ↓e_Part, ↓e_nil, ↓e_cons, ↓e_Tup, ↓e_Lst, ↓e_CB, ↓e_ofD, ↓e_jOf, ↓e_Len, ↓e_Ints, ↓e_fMax, ↓e_fMin, ↓e_Tuple, ↓e_List, ↓e_Bls, ↓e_Is, ↓e_seq, ↓e_skip, ↓e_ret, ↓e_drop, ↓e_ifS, ↓e_never, ↓e_asg, ↓e_par2, ↓e_par3, ↓e_App, ↓e_For, ↓e_While, ↓e_Iter, ↓e_Rng1, ↓e_Rng2, ↓e_Zip2, ↓e_Zip3, ↓e_Lc, ↓e_Yes, ↓e_Dn0, ↓e_DnIn, ↓e_DnGet, ↓e_Dn1, iteG_t, iteG_f, iteG_d, iteG_n, iteG_a, iteG_o, iteG_x, iteG_e, iteG_s, iteG_l, iteG_y, iteF_t, iteF_f, varF_d, varF_o, toD_d, toD_l, toD_a, toDF_d, toDF_l, d2F_d, fAdd_i, fAdd_s, fAdd_t, fAdd_l, fSub_i, fMul_i, fMulR_i, fMulR_t, fMulR_l, fDiv_i, fMod_i, fPow_i, negF_i, cLt_i, cLe_i, cGt_i, cGe_i, cEq_e, cNe_e, isNF_n, isNF_t, isNF_i, dBF_b, boF_b, notVF_b, ch2F_d, chF_d, seqOf_t, seqOf_l, seqOf_o, seqOf_s, seqOf_a, seqF_t, seqF_l, seqF_o, kindOf_t, kindOf_l, kindOf_o, kindOf_a, kindF_t, kindF_l, kindF_o, ixF2_s, ixF_s, slF_t, slF_f, partF_i, allD_n, allD_c, tupF_s, lstF_s, ofDF_s, gInt_i, gInt_b, gAbs_i, gMax2_i, gMin2_i, gN_e, jF_s, lenF_s, intsF2_s, intsF_s, fSum_e, gTF_s, gLF_s, blsF_s, blsF2_s, isF_s, isF2_s, tyn_i, tyn_b, tyn_t, tyn_l, tyn_s, tyn_n, k_ii, k_ib, k_tt, gN1_d, gN1_o, gN1_a, gaF_d, gaF_o, gTup_e, gs_n, gs_c, par2G_e, par2F_s, svOf_d, svOf_o, par3G_e, par3F_s, stF2_s, stF_s, stG_e, gStL_e, gOwn_e, owL_a, apG_e, apI_e, iterF_t, iterF_l, rng1F_e, rng2F_e, zip2F_s, zip2G_e, zip3F_s, zip3G_e, seqD_t, seqD_l, finP_d, finP_o, finP_a, finF_d, finF_o, finJF_d, finJF_o, finJ_d, finJ_o, startD_e, startJ_e, dnI_e, dnIH_e, dnGF_e, dnGetF_e, dnSF_e, dnSH_e, gStDn_e, dn1F_e, atI_0, atI_1, atI_2, ixN_2_0, ixN_2_1, appK_eq, cmp_i, eqv_ii, eqv_nn, cast1, cast2, cast3, List.map_cons, List.map_nil, List.append_nil, List.nil_append, List.cons_append, List.replicate_succ, List.replicate_zero, List.length_cons, List.length_nil, List.getElem?_cons_zero, List.getElem?_cons_succ, List.set_cons_zero, List.set_cons_succ, Option.map_some, Bool.not_true, Bool.not_false, Nat.reduceAdd, Nat.reduceSub, Nat.zero_add, Nat.add_zero, if_true, if_false, decide_true, decide_false, and_true, true_and, Nat.reduceLeDiff, Nat.sub_zero, Nat.sub_self]
    refine ⟨rfl, r, _, w, rfl, ok, oks (fun i => k + i) (m - k), hw, ?_⟩
    simp only [↓e_var, ↓e_C, ↓e_dD, ↓e_d2, ↓e_neg, ↓e_isN, ↓e_B, ↓e_And, ↓e_Or, ↓e_Not, ↓e_AndV, ↓e_OrV, ↓e_NotV, ↓e_IfE, ↓e_Chain, ↓e_Ix, ↓e_Sl, ↓e_No, ↓e_Part, ↓e_nil, ↓e_cons, ↓e_Tup, ↓e_Lst, ↓e_CB, ↓e_ofD, ↓e_jOf, ↓e_Len, ↓e_Ints, ↓e_fMax, ↓e_fMin, ↓e_Tuple, ↓e_List, ↓e_Bls, ↓e_Is, ↓e_seq, ↓e_skip, ↓e_ret, ↓e_drop, ↓e_ifS, ↓e_never, ↓e_asg, ↓e_par2, ↓e_par3, ↓e_App, ↓e_For, ↓e_While, ↓e_Iter, ↓e_Rng1, ↓e_Rng2, ↓e_Zip2, ↓e_Zip3, ↓e_Lc, ↓e_Yes, ↓e_Dn0, ↓e_DnIn, ↓e_DnGet, ↓e_Dn1, iteG_t, iteG_f, iteG_d, iteG_n, iteG_a, iteG_o, iteG_x, iteG_e, iteG_s, iteG_l, iteG_y, iteF_t, iteF_f, varF_d, varF_o, toD_d, toD_l, toD_a, toDF_d, toDF_l, d2F_d, fAdd_i, fAdd_s, fAdd_t, fAdd_l, fSub_i, fMul_i, fMulR_i, fMulR_t, fMulR_l, fDiv_i, fMod_i, fPow_i, negF_i, cLt_i, cLe_i, cGt_i, cGe_i, cEq_e, cNe_e, isNF_n, isNF_t, isNF_i, dBF_b, boF_b, notVF_b, ch2F_d, chF_d, seqOf_t, seqOf_l, seqOf_o, seqOf_s, seqOf_a, seqF_t, seqF_l, seqF_o, kindOf_t, kindOf_l, kindOf_o, kindOf_a, kindF_t, kindF_l, kindF_o, ixF2_s, ixF_s, slF_t, slF_f, partF_i, allD_n, allD_c, tupF_s, lstF_s, ofDF_s, gInt_i, gInt_b, gAbs_i, gMax2_i, gMin2_i, gN_e, jF_s, lenF_s, intsF2_s, intsF_s, fSum_e, gTF_s, gLF_s, blsF_s, blsF2_s, isF_s, isF2_s, tyn_i, tyn_b, tyn_t, tyn_l, tyn_s, tyn_n, k_ii, k_ib, k_tt, gN1_d, gN1_o, gN1_a, gaF_d, gaF_o, gTup_e, gs_n, gs_c, par2G_e, par2F_s, svOf_d, svOf_o, par3G_e, par3F_s, stF2_s, stF_s, stG_e, gStL_e, gOwn_e, owL_a, apG_e, apI_e, iterF_t, iterF_l, rng1F_e, rng2F_e, zip2F_s, zip2G_e, zip3F_s, zip3G_e, seqD_t, seqD_l, finP_d, finP_o, finP_a, finF_d, finF_o, finJF_d, finJF_o, finJ_d, finJ_o, startD_e, startJ_e, dnI_e, dnIH_e, dnGF_e, dnGetF_e, dnSF_e, dnSH_e, gStDn_e, dn1F_e, atI_0, atI_1, atI_2, ixN_2_0, ixN_2_1, appK_eq, cmp_i, eqv_ii, eqv_nn, cast1, cast2, cast3, List.map_cons, List.map_nil, List.append_nil, List.nil_append, List.cons_append, List.replicate_succ, List.replicate_zero, List.length_cons, List.length_nil, List.getElem?_cons_zero, List.getElem?_cons_succ, List.set_cons_zero, List.set_cons_succ, Option.map_some, Bool.not_true, Bool.not_false, Nat.reduceAdd, Nat.reduceSub, Nat.zero_add, Nat.add_zero, if_true, if_false, decide_true, decide_false, and_true, true_and, Nat.reduceLeDiff, Nat.sub_zero, Nat.sub_self]
    have e2 : cutD (((List.range (m - k)).map fun i => orb r (0, f) (k + i)).map stD) none (some (c0 : Int)) = ((List.range c0).map fun i => orb r (0, f) (k + i)).map stD := by
      rw [cut_to, ← List.map_take, range_take _ _ (by omega)]
    rw [e2]
    refine ⟨rfl, r, _, w, rfl, ok, oks (fun i => k + i) c0, hw, ?_⟩
    simp only [↓e_var, ↓e_C, ↓e_dD, ↓e_d2, ↓e_neg, ↓e_isN, ↓e_B, ↓e_And, ↓e_Or, ↓e_Not, ↓e_AndV, ↓e_OrV, ↓e_NotV, ↓e_IfE, ↓e_Chain, ↓e_Ix, ↓e_Sl, ↓e_No, ↓e_Part, ↓e_nil, ↓e_cons, ↓e_Tup, ↓e_Lst, ↓e_CB, ↓e_ofD, ↓e_jOf, ↓e_Len, ↓e_Ints, ↓e_fMax, ↓e_fMin, ↓e_Tuple, ↓e_List, ↓e_Bls, ↓e_Is, ↓e_seq, ↓e_skip, ↓e_ret, ↓e_drop, ↓e_ifS, ↓e_never, ↓e_asg, ↓e_par2, ↓e_par3, ↓e_App, ↓e_For, ↓e_While, ↓e_Iter, ↓e_Rng1, ↓e_Rng2, ↓e_Zip2, ↓e_Zip3, ↓e_Lc, ↓e_Yes, ↓e_Dn0, ↓e_DnIn, ↓e_DnGet, ↓e_Dn1, iteG_t, iteG_f, iteG_d, iteG_n, iteG_a, iteG_o, iteG_x, iteG_e, iteG_s, iteG_l, iteG_y, iteF_t, iteF_f, varF_d, varF_o, toD_d, toD_l, toD_a, toDF_d, toDF_l, d2F_d, fAdd_i, fAdd_s, fAdd_t, fAdd_l, fSub_i, fMul_i, fMulR_i, fMulR_t, fMulR_l, fDiv_i, fMod_i, fPow_i, negF_i, cLt_i, cLe_i, cGt_i, cGe_i, cEq_e, cNe_e, isNF_n, isNF_t, isNF_i, dBF_b, boF_b, notVF_b, ch2F_d, chF_d, seqOf_t, seqOf_l, seqOf_o, seqOf_s, seqOf_a, seqF_t, seqF_l, seqF_o, kindOf_t, kindOf_l, kindOf_o, kindOf_a, kindF_t, kindF_l, kindF_o, ixF2_s, ixF_s, slF_t, slF_f, partF_i, allD_n, allD_c, tupF_s, lstF_s, ofDF_s, gInt_i, gInt_b, gAbs_i, gMax2_i, gMin2_i, gN_e, jF_s, lenF_s, intsF2_s, intsF_s, fSum_e, gTF_s, gLF_s, blsF_s, blsF2_s, isF_s, isF2_s, tyn_i, tyn_b, tyn_t, tyn_l, tyn_s, tyn_n, k_ii, k_ib, k_tt, gN1_d, gN1_o, gN1_a, gaF_d, gaF_o, gTup_e, gs_n, gs_c, par2G_e, par2F_s, svOf_d, svOf_o, par3G_e, par3F_s, stF2_s, stF_s, stG_e, gStL_e, gOwn_e, owL_a, apG_e, apI_e, iterF_t, iterF_l, rng1F_e, rng2F_e, zip2F_s, zip2G_e, zip3F_s, zip3G_e, seqD_t, seqD_l, finP_d, finP_o, finP_a, finF_d, finF_o, finJF_d, finJF_o, finJ_d, finJ_o, startD_e, startJ_e, dnI_e, dnIH_e, dnGF_e, dnGetF_e, dnSF_e, dnSH_e, gStDn_e, dn1F_e, atI_0, atI_1, atI_2, ixN_2_0, ixN_2_1, appK_eq, cmp_i, eqv_ii, eqv_nn, cast1, cast2, cast3, List.map_cons, List.map_nil, List.append_nil, List.nil_append, List.cons_append, List.replicate_succ, List.replicate_zero, List.length_cons, List.length_nil, List.getElem?_cons_zero, List.getElem?_cons_succ, List.set_cons_zero, List.set_cons_succ, Option.map_some, Bool.not_true, Bool.not_false, Nat.reduceAdd, Nat.reduceSub, Nat.zero_add, Nat.add_zero, if_true, if_false, decide_true, decide_false, and_true, true_and, Nat.reduceLeDiff, Nat.sub_zero, Nat.sub_self, intsD, zipD3_maps]
    refine ⟨fun i hi => ?_, ?_⟩
    · simp only [List.mem_cons, List.not_mem_nil, or_false] at hi
      rcases hi with rfl | rfl | rfl <;> rfl
    refine lcL_maps (fun p : Int × Int × Int => D.tup [.int p.1, .int p.2.1, .int p.2.2]) (fun p => .int (p.1 + (q0 : Int) * p.2.1 + p.2.2)) _ [] (fun p hp K hK => ?_) ?_
    · simp only [↓e_var, ↓e_C, ↓e_dD, ↓e_d2, ↓e_neg, ↓e_isN, ↓e_B, ↓e_And, ↓e_Or, ↓e_Not, ↓e_AndV, ↓e_OrV, ↓e_NotV, ↓e_IfE, ↓e_Chain, ↓e_Ix, ↓e_Sl, ↓e_No, ↓e_Part, ↓e_nil, ↓e_cons, ↓e_Tup, ↓e_Lst, ↓e_CB, ↓e_ofD, ↓e_jOf, ↓e_Len, ↓e_Ints, ↓e_fMax, ↓e_fMin, ↓e_Tuple, ↓e_List, ↓e_Bls, ↓e_Is, ↓e_seq, ↓e_skip, ↓e_ret, ↓e_drop, ↓e_ifS, ↓e_never, ↓e_asg, ↓e_par2, ↓e_par3, ↓e_App, ↓e_For, ↓e_While, ↓e_Iter, ↓e_Rng1, ↓e_Rng2, ↓e_Zip2, ↓e_Zip3, ↓e_Lc, ↓e_Yes, ↓e_Dn0, ↓e_DnIn, ↓e_DnGet, ↓e_Dn1, iteG_t, iteG_f, iteG_d, iteG_n, iteG_a, iteG_o, iteG_x, iteG_e, iteG_s, iteG_l, iteG_y, iteF_t, iteF_f, varF_d, varF_o, toD_d, toD_l, toD_a, toDF_d, toDF_l, d2F_d, fAdd_i, fAdd_s, fAdd_t, fAdd_l, fSub_i, fMul_i, fMulR_i, fMulR_t, fMulR_l, fDiv_i, fMod_i, fPow_i, negF_i, cLt_i, cLe_i, cGt_i, cGe_i, cEq_e, cNe_e, isNF_n, isNF_t, isNF_i, dBF_b, boF_b, notVF_b, ch2F_d, chF_d, seqOf_t, seqOf_l, seqOf_o, seqOf_s, seqOf_a, seqF_t, seqF_l, seqF_o, kindOf_t, kindOf_l, kindOf_o, kindOf_a, kindF_t, kindF_l, kindF_o, ixF2_s, ixF_s, slF_t, slF_f, partF_i, allD_n, allD_c, tupF_s, lstF_s, ofDF_s, gInt_i, gInt_b, gAbs_i, gMax2_i, gMin2_i, gN_e, jF_s, lenF_s, intsF2_s, intsF_s, fSum_e, gTF_s, gLF_s, blsF_s, blsF2_s, isF_s, isF2_s, tyn_i, tyn_b, tyn_t, tyn_l, tyn_s, tyn_n, k_ii, k_ib, k_tt, gN1_d, gN1_o, gN1_a, gaF_d, gaF_o, gTup_e, gs_n, gs_c, par2G_e, par2F_s, svOf_d, svOf_o, par3G_e, par3F_s, stF2_s, stF_s, stG_e, gStL_e, gOwn_e, owL_a, apG_e, apI_e, iterF_t, iterF_l, rng1F_e, rng2F_e, zip2F_s, zip2G_e, zip3F_s, zip3G_e, seqD_t, seqD_l, finP_d, finP_o, finP_a, finF_d, finF_o, finJF_d, finJF_o, finJ_d, finJ_o, startD_e, startJ_e, dnI_e, dnIH_e, dnGF_e, dnGetF_e, dnSF_e, dnSH_e, gStDn_e, dn1F_e, atI_0, atI_1, atI_2, ixN_2_0, ixN_2_1, appK_eq, cmp_i, eqv_ii, eqv_nn, cast1, cast2, cast3, List.map_cons, List.map_nil, List.append_nil, List.nil_append, List.cons_append, List.replicate_succ, List.replicate_zero, List.length_cons, List.length_nil, List.getElem?_cons_zero, List.getElem?_cons_succ, List.set_cons_zero, List.set_cons_succ, Option.map_some, Bool.not_true, Bool.not_false, Nat.reduceAdd, Nat.reduceSub, Nat.zero_add, Nat.add_zero, if_true, if_false, decide_true, decide_false, and_true, true_and, Nat.reduceLeDiff, Nat.sub_zero, Nat.sub_self]
      obtain ⟨x, y, z⟩ := p
      have h1 := (List.of_mem_zip (List.of_mem_zip hp).2).1
      obtain ⟨j, _, rfl⟩ := List.mem_map.mp h1
      have hb := gsum_bound (fun i => (outW w r (orb r (0, f) (k + i))).getD j 0) 200 (fun i => outW_bound ok (orb_ok ok st _) w j) (m - k)
      rw [← colS_gsum] at hb
      refine ⟨MulOk.small' (by dsimp only; omega) (by dsimp only; omega), hK _ rfl⟩
    · simp only [↓e_var, ↓e_C, ↓e_dD, ↓e_d2, ↓e_neg, ↓e_isN, ↓e_B, ↓e_And, ↓e_Or, ↓e_Not, ↓e_AndV, ↓e_OrV, ↓e_NotV, ↓e_IfE, ↓e_Chain, ↓e_Ix, ↓e_Sl, ↓e_No, ↓e_Part, ↓e_nil, ↓e_cons, ↓e_Tup, ↓e_Lst, ↓e_CB, ↓e_ofD, ↓e_jOf, ↓e_Len, ↓e_Ints, ↓e_fMax, ↓e_fMin, ↓e_Tuple, ↓e_List, ↓e_Bls, ↓e_Is, ↓e_seq, ↓e_skip, ↓e_ret, ↓e_drop, ↓e_ifS, ↓e_never, ↓e_asg, ↓e_par2, ↓e_par3, ↓e_App, ↓e_For, ↓e_While, ↓e_Iter, ↓e_Rng1, ↓e_Rng2, ↓e_Zip2, ↓e_Zip3, ↓e_Lc, ↓e_Yes, ↓e_Dn0, ↓e_DnIn, ↓e_DnGet, ↓e_Dn1, iteG_t, iteG_f, iteG_d, iteG_n, iteG_a, iteG_o, iteG_x, iteG_e, iteG_s, iteG_l, iteG_y, iteF_t, iteF_f, varF_d, varF_o, toD_d, toD_l, toD_a, toDF_d, toDF_l, d2F_d, fAdd_i, fAdd_s, fAdd_t, fAdd_l, fSub_i, fMul_i, fMulR_i, fMulR_t, fMulR_l, fDiv_i, fMod_i, fPow_i, negF_i, cLt_i, cLe_i, cGt_i, cGe_i, cEq_e, cNe_e, isNF_n, isNF_t, isNF_i, dBF_b, boF_b, notVF_b, ch2F_d, chF_d, seqOf_t, seqOf_l, seqOf_o, seqOf_s, seqOf_a, seqF_t, seqF_l, seqF_o, kindOf_t, kindOf_l, kindOf_o, kindOf_a, kindF_t, kindF_l, kindF_o, ixF2_s, ixF_s, slF_t, slF_f, partF_i, allD_n, allD_c, tupF_s, lstF_s, ofDF_s, gInt_i, gInt_b, gAbs_i, gMax2_i, gMin2_i, gN_e, jF_s, lenF_s, intsF2_s, intsF_s, fSum_e, gTF_s, gLF_s, blsF_s, blsF2_s, isF_s, isF2_s, tyn_i, tyn_b, tyn_t, tyn_l, tyn_s, tyn_n, k_ii, k_ib, k_tt, gN1_d, gN1_o, gN1_a, gaF_d, gaF_o, gTup_e, gs_n, gs_c, par2G_e, par2F_s, svOf_d, svOf_o, par3G_e, par3F_s, stF2_s, stF_s, stG_e, gStL_e, gOwn_e, owL_a, apG_e, apI_e, iterF_t, iterF_l, rng1F_e, rng2F_e, zip2F_s, zip2G_e, zip3F_s, zip3G_e, seqD_t, seqD_l, finP_d, finP_o, finP_a, finF_d, finF_o, finJF_d, finJF_o, finJ_d, finJ_o, startD_e, startJ_e, dnI_e, dnIH_e, dnGF_e, dnGetF_e, dnSF_e, dnSH_e, gStDn_e, dn1F_e, atI_0, atI_1, atI_2, ixN_2_0, ixN_2_1, appK_eq, cmp_i, eqv_ii, eqv_nn, cast1, cast2, cast3, List.map_cons, List.map_nil, List.append_nil, List.nil_append, List.cons_append, List.replicate_succ, List.replicate_zero, List.length_cons, List.length_nil, List.getElem?_cons_zero, List.getElem?_cons_succ, List.set_cons_zero, List.set_cons_succ, Option.map_some, Bool.not_true, Bool.not_false, Nat.reduceAdd, Nat.reduceSub, Nat.zero_add, Nat.add_zero, if_true, if_false, decide_true, decide_false, and_true, true_and, Nat.reduceLeDiff, Nat.sub_zero, Nat.sub_self]
      have e3 : D.tup (((sumsF w r ((List.range k).map (orb r (0, f)))).zip ((sumsF w r ((List.range (m - k)).map fun i => orb r (0, f) (k + i))).zip (sumsF w r ((List.range c0).map fun i => orb r (0, f) (k + i))))).map fun p => D.int (p.1 + (q0 : Int) * p.2.1 + p.2.2)) = intsD (tot w r f n) := by
        unfold intsD tot sumsF
        rw [zip3_cols, List.map_map]
        congr 1
        apply List.map_congr_left
        intro j hj
        show D.int _ = D.int _
        congr 1
        conv => rhs; rw [hn]
        exact (tot_rounds hk e q0 c0 j).symm
      have h' : R (RV.d (D.tup (((sumsF w r ((List.range k).map (orb r (0, f)))).zip ((sumsF w r ((List.range (m - k)).map fun i => orb r (0, f) (k + i))).zip (sumsF w r ((List.range c0).map fun i => orb r (0, f) (k + i))))).map fun p => D.int (p.1 + (q0 : Int) * p.2.1 + p.2.2)))) := by rw [e3]; exact h
      exact h'
def Dx_sums_behind (P : Program) (w : World) (K : PySem.W.Frag) (mg : Str → Option Value) (base : Heap) : Prop := ∃ f fd, Def P w K mg base 3 "sums_behind" f fd ["row", "filling", "ticks", "which"] (spP (bas P w K) 4 sp_sums_behind)
theorem ok_sums_behind {P : Program} {w : World} {K : PySem.W.Frag} {mg : Str → Option Value} {base : Heap} (M : Mg mg) (D_sums_of : Dx_sums_of P w K mg base) (D_trail : Dx_trail P w K mg base) {f : Addr} {fd : FuncData} (F : FunD K "sums_behind" "sums_behind" (defArgs s_sums_behind) (defBody s_sums_behind) (defScope s_sums_behind) [] [] f fd) : FnOk P w K mg base CX0 3 f fd ["row", "filling", "ticks", "which"] (spP (bas P w K) 4 sp_sums_behind) := by
  obtain ⟨a_sums_of, fd_sums_of, D_sums_of⟩ := D_sums_of
  obtain ⟨a_trail, fd_trail, D_trail⟩ := D_trail
  exact okP (tb := t_sums_behind) F sc_sums_behind (fun cdv A outer s H E hr =>
    (dss_cons (ds_asg (de_call D_trail.own (hr.mono (by decide)) (by rfl) (da_cons (de_data (de_var (pv 0))) (da_cons (de_data (de_var (pv 1))) da_nil))) (dg_tup rfl (dgs_cons (dg_name sc_sums_behind.nd (i := 4) rfl (by first | exact .inl rfl | exact .inr rfl) (by first | exact .inl rfl | exact .inr (by decide))) (dgs_cons (dg_name sc_sums_behind.nd (i := 5) rfl (by first | exact .inl rfl | exact .inr rfl) (by first | exact .inl rfl | exact .inr (by decide))) (dgs_nil (ws := []))))))
      (dss_cons (ds_if (dt_le (de_var (pv 2)) (de_callB (call_len_seq) (snd_len) (by rfl) M.f_len rfl (da_cons (de_var (pv 4)) da_nil))) (dss_one (ds_ret (de_call D_sums_of.own (hr.mono (by decide)) (by rfl) (da_cons (de_data (de_var (pv 0))) (da_cons (de_data (de_slice (de_var (pv 4)) do_none (do_some (de_var (pv 2))))) (da_cons (de_data (de_var (pv 3))) da_nil)))))) dss_nil)
      (dss_cons (ds_asg (de_slice (de_var (pv 4)) (do_some (de_var (pv 5))) do_none) (dg_name sc_sums_behind.nd (i := 6) rfl (by first | exact .inl rfl | exact .inr rfl) (by first | exact .inl rfl | exact .inr (by decide))))
      (dss_cons (ds_asg (de_tup (da_cons (de_data (de_div (de_sub (de_var (pv 2)) (de_var (pv 5))) (de_callB (call_len_seq) (snd_len) (by rfl) M.f_len rfl (da_cons (de_var (pv 6)) da_nil)))) (da_cons (de_data (de_mod (de_sub (de_var (pv 2)) (de_var (pv 5))) (de_callB (call_len_seq) (snd_len) (by rfl) M.f_len rfl (da_cons (de_var (pv 6)) da_nil)))) da_nil))) (dg_tup rfl (dgs_cons (dg_name sc_sums_behind.nd (i := 7) rfl (by first | exact .inl rfl | exact .inr rfl) (by first | exact .inl rfl | exact .inr (by decide))) (dgs_cons (dg_name sc_sums_behind.nd (i := 8) rfl (by first | exact .inl rfl | exact .inr rfl) (by first | exact .inl rfl | exact .inr (by decide))) (dgs_nil (ws := []))))))
      (dss_cons (ds_asg (de_call D_sums_of.own (hr.mono (by decide)) (by rfl) (da_cons (de_data (de_var (pv 0))) (da_cons (de_data (de_slice (de_var (pv 4)) do_none (do_some (de_var (pv 5))))) (da_cons (de_data (de_var (pv 3))) da_nil)))) (dg_name sc_sums_behind.nd (i := 9) rfl (by first | exact .inl rfl | exact .inr rfl) (by first | exact .inl rfl | exact .inr (by decide))))
      (dss_cons (ds_par2 rfl sc_sums_behind.nd (i := 10) (j := 11) rfl rfl (by decide) rfl rfl (da_cons (de_call D_sums_of.own (hr.mono (by decide)) (by rfl) (da_cons (de_data (de_var (pv 0))) (da_cons (de_data (de_var (pv 6))) (da_cons (de_data (de_var (pv 3))) da_nil)))) (da_cons (de_call D_sums_of.own (hr.mono (by decide)) (by rfl) (da_cons (de_data (de_var (pv 0))) (da_cons (de_data (de_slice (de_var (pv 6)) do_none (do_some (de_var (pv 8))))) (da_cons (de_data (de_var (pv 3))) da_nil)))) da_nil)) (by first | exact .inl rfl | exact .inr (by decide)) (hw := by first | rfl | kernel_rfl))
      (dss_one (ds_ret (de_callTy (call_tuple_of) (snd_tuple) (by rfl) M.f_tuple rfl (da_cons (de_lc (own := [("one", 12), ("two", 13), ("three", 14)]) rfl sc_sums_behind.nd (di_zip3 (by rfl) M.f_zip (da_cons (de_data (de_var (pv 9))) (da_cons (de_data (de_var (pv 10))) (da_cons (de_data (de_var (pv 11))) da_nil)))) (blkOk_by (own := [("one", 12), ("two", 13), ("three", 14)]) (N := N_sums_behind) (sc := defScope s_sums_behind) (by decide +kernel)) (fun s H A cl fp => (dg_tup rfl (dgs_cons (dg_name sc_sums_behind.nd (i := 12) rfl (by first | exact .inl rfl | exact .inr rfl) (by first | exact .inl rfl | exact .inr (by decide))) (dgs_cons (dg_name sc_sums_behind.nd (i := 13) rfl (by first | exact .inl rfl | exact .inr rfl) (by first | exact .inl rfl | exact .inr (by decide))) (dgs_cons (dg_name sc_sums_behind.nd (i := 14) rfl (by first | exact .inl rfl | exact .inr rfl) (by first | exact .inl rfl | exact .inr (by decide))) (dgs_nil (ws := []))))))) (fun s H A cl fp => dts_nil) (fun s H A cl fp => (de_data (de_add (de_add (de_var (pv 12)) (de_mul (de_var (pv 7)) (de_var (pv 13)))) (de_var (pv 14)))))) da_nil))))))))))) rd_sums_behind
def N_filling_behind : List Str := ["row", "filling", "ticks", "found", "first", "at"]
theorem sc_filling_behind : FnScope N_filling_behind ["row", "filling", "ticks"] (defScope s_filling_behind) := ⟨rfl, rfl, rfl, by decide +kernel, rfl, by decide +kernel, by decide +kernel⟩
def t_filling_behind : DTS :=
    (dSeq (dAsg (dCB (ofD (gN 2 sp_trail)) (dCons (dD (dVar 0)) (dCons (dD (dVar 1)) dNil))) (gTupD 2 (gsCons (gN1 3) (gsCons (gN1 4) gsNil))))
      (dSeq (dAsg (dIfE (dB (d2 cLt (dD (dVar 2)) (dD (dCB gLen (dCons (dVar 3) dNil))))) (dVar 2) (d2 fAdd (dD (dVar 4)) (dD (d2 fMod (dD (d2 fSub (dD (dVar 2)) (dD (dVar 4)))) (dD (d2 fSub (dD (dCB gLen (dCons (dVar 3) dNil))) (dD (dVar 4)))))))) (gN1 5))
      (dRet (dIx (dIx (dVar 3) (dVar 5)) (dC (.int 1))))))
def sp_filling_behind : DFd := fun ds R => ∃ (r : Row) (f : List Int) (n : Nat), ds = [rowD r, intsD f, .int (n : Nat)] ∧ r.Ok ∧ FillOk r.cups f ∧ R (.d (intsD (orb r (0, f) n).2))
theorem rd_filling_behind : ∀ ds R, ds.length = 3 → sp_filling_behind ds R → t_filling_behind { nx := fun _ => R (.d .non), rt := finP R } (startD N_filling_behind ds) := by
  rintro ds R - ⟨r, f, n, rfl, ok, hf, h⟩
  have st := start_ok ok hf
  simp only [↓e_var, ↓e_C, ↓e_dD, ↓e_d2, ↓e_neg, ↓e_isN, ↓e_B, ↓e_And, ↓e_Or, ↓e_Not, ↓e_AndV, ↓e_OrV, ↓e_NotV, ↓e_IfE, ↓e_Chain, ↓e_Ix, ↓e_Sl, ↓e_No, ↓e_Part, ↓e_nil, ↓e_cons, ↓e_Tup, ↓e_Lst, ↓e_CB, ↓e_ofD, ↓e_jOf, ↓e_Len, ↓e_Ints, ↓e_fMax, ↓e_fMin, ↓e_Tuple, ↓e_List, ↓e_Bls, ↓e_Is, ↓e_seq, ↓e_skip, ↓e_ret, ↓e_drop, ↓e_ifS, ↓e_never, ↓e_asg, ↓e_par2, ↓e_par3, ↓e_App, ↓e_For, ↓e_While, ↓e_Iter, ↓e_Rng1, ↓e_Rng2, ↓e_Zip2, ↓e_Zip3, ↓e_Lc, ↓e_Yes, ↓e_Dn0, ↓e_DnIn, ↓e_DnGet, ↓e_Dn1, iteG_t, iteG_f, iteG_d, iteG_n, iteG_a, iteG_o, iteG_x, iteG_e, iteG_s, iteG_l, iteG_y, iteF_t, iteF_f, varF_d, varF_o, toD_d, toD_l, toD_a, toDF_d, toDF_l, d2F_d, fAdd_i, fAdd_s, fAdd_t, fAdd_l, fSub_i, fMul_i, fMulR_i, fMulR_t, fMulR_l, fDiv_i, fMod_i, fPow_i, negF_i, cLt_i, cLe_i, cGt_i, cGe_i, cEq_e, cNe_e, isNF_n, isNF_t, isNF_i, dBF_b, boF_b, notVF_b, ch2F_d, chF_d, seqOf_t, seqOf_l, seqOf_o, seqOf_s, seqOf_a, seqF_t, seqF_l, seqF_o, kindOf_t, kindOf_l, kindOf_o, kindOf_a, kindF_t, kindF_l, kindF_o, ixF2_s, ixF_s, slF_t, slF_f, partF_i, allD_n, allD_c, tupF_s, lstF_s, ofDF_s, gInt_i, gInt_b, gAbs_i, gMax2_i, gMin2_i, gN_e, jF_s, lenF_s, intsF2_s, intsF_s, fSum_e, gTF_s, gLF_s, blsF_s, blsF2_s, isF_s, isF2_s, tyn_i, tyn_b, tyn_t, tyn_l, tyn_s, tyn_n, k_ii, k_ib, k_tt, gN1_d, gN1_o, gN1_a, gaF_d, gaF_o, gTup_e, gs_n, gs_c, par2G_e, par2F_s, svOf_d, svOf_o, par3G_e, par3F_s, stF2_s, stF_s, stG_e, gStL_e, gOwn_e, owL_a, apG_e, apI_e, iterF_t, iterF_l, rng1F_e, rng2F_e, zip2F_s, zip2G_e, zip3F_s, zip3G_e, seqD_t, seqD_l, finP_d, finP_o, finP_a, finF_d, finF_o, finJF_d, finJF_o, finJ_d, finJ_o, startD_e, startJ_e, dnI_e, dnIH_e, dnGF_e, dnGetF_e, dnSF_e, dnSH_e, gStDn_e, dn1F_e, atI_0, atI_1, atI_2, ixN_2_0, ixN_2_1, appK_eq, cmp_i, eqv_ii, eqv_nn, cast1, cast2, cast3, List.map_cons, List.map_nil, List.append_nil, List.nil_append, List.cons_append, List.replicate_succ, List.replicate_zero, List.length_cons, List.length_nil, List.getElem?_cons_zero, List.getElem?_cons_succ, List.set_cons_zero, List.set_cons_succ, Option.map_some, Bool.not_true, Bool.not_false, Nat.reduceAdd, Nat.reduceSub, Nat.zero_add, Nat.add_zero, if_true, if_false, decide_true, decide_false, and_true, true_and, Nat.reduceLeDiff, Nat.sub_zero, Nat.sub_self, t_filling_behind, N_filling_behind]
  refine ⟨rfl, r, f, rfl, ok, hf, fun m k hm hk e => ?_⟩
  simp only [↓e_var, ↓e_C, ↓e_dD, ↓e_d2, ↓e_neg, ↓e_isN, ↓e_B, ↓e_And, ↓e_Or, ↓e_Not, ↓e_AndV, ↓e_OrV, ↓e_NotV, ↓e_IfE, ↓e_Chain, ↓e_Ix, ↓e_Sl, ↓e_No, ↓e_Part, ↓e_nil, ↓e_cons, ↓e_Tup, ↓e_Lst, ↓e_CB, ↓e_ofD, ↓e_jOf, ↓e_Len, ↓e_Ints, ↓e_fMax, ↓e_fMin, ↓e_Tuple, ↓e_List, ↓e_Bls, ↓e_Is, ↓e_seq, ↓e_skip, ↓e_ret, ↓e_drop, ↓e_ifS, ↓e_never, ↓e_asg, ↓e_par2, ↓e_par3, ↓e_App, ↓e_For, ↓e_While, ↓e_Iter, ↓e_Rng1, ↓e_Rng2, ↓e_Zip2, ↓e_Zip3, ↓e_Lc, ↓e_Yes, ↓e_Dn0, ↓e_DnIn, ↓e_DnGet, ↓e_Dn1, iteG_t, iteG_f, iteG_d, iteG_n, iteG_a, iteG_o, iteG_x, iteG_e, iteG_s, iteG_l, iteG_y, iteF_t, iteF_f, varF_d, varF_o, toD_d, toD_l, toD_a, toDF_d, toDF_l, d2F_d, fAdd_i, fAdd_s, fAdd_t, fAdd_l, fSub_i, fMul_i, fMulR_i, fMulR_t, fMulR_l, fDiv_i, fMod_i, fPow_i, negF_i, cLt_i, cLe_i, cGt_i, cGe_i, cEq_e, cNe_e, isNF_n, isNF_t, isNF_i, dBF_b, boF_b, notVF_b, ch2F_d, chF_d, seqOf_t, seqOf_l, seqOf_o, seqOf_s, seqOf_a, seqF_t, seqF_l, seqF_o, kindOf_t, kindOf_l, kindOf_o, kindOf_a, kindF_t, kindF_l, kindF_o, ixF2_s, ixF_s, slF_t, slF_f, partF_i, allD_n, allD_c, tupF_s, lstF_s, ofDF_s, gInt_i, gInt_b, gAbs_i, gMax2_i, gMin2_i, gN_e, jF_s, lenF_s, intsF2_s, intsF_s, fSum_e, gTF_s, gLF_s, blsF_s, blsF2_s, isF_s, isF2_s, tyn_i, tyn_b, tyn_t, tyn_l, tyn_s, tyn_n, k_ii, k_ib, k_tt, gN1_d, gN1_o, gN1_a, gaF_d, gaF_o, gTup_e, gs_n, gs_c, par2G_e, par2F_s, svOf_d, svOf_o, par3G_e, par3F_s, stF2_s, stF_s, stG_e, gStL_e, gOwn_e, owL_a, apG_e, apI_e, iterF_t, iterF_l, rng1F_e, rng2F_e, zip2F_s, zip2G_e, zip3F_s, zip3G_e, seqD_t, seqD_l, finP_d, finP_o, finP_a, finF_d, finF_o, finJF_d, finJF_o, finJ_d, finJ_o, startD_e, startJ_e, dnI_e, dnIH_e, dnGF_e, dnGetF_e, dnSF_e, dnSH_e, gStDn_e, dn1F_e, atI_0, atI_1, atI_2, ixN_2_0, ixN_2_1, appK_eq, cmp_i, eqv_ii, eqv_nn, cast1, cast2, cast3, List.map_cons, List.map_nil, List.append_nil, List.nil_append, List.cons_append, List.replicate_succ, List.replicate_zero, List.length_cons, List.length_nil, List.getElem?_cons_zero, List.getElem?_cons_succ, List.set_cons_zero, List.set_cons_succ, Option.map_some, Bool.not_true, Bool.not_false, Nat.reduceAdd, Nat.reduceSub, Nat.zero_add, Nat.add_zero, if_true, if_false, decide_true, decide_false, and_true, true_and, Nat.reduceLeDiff, Nat.sub_zero, Nat.sub_self, List.length_map, List.length_range]
  have at_ : ∀ i, i < m → atI ((List.range m).map fun i => stD (orb r (0, f) i)) (i : Int) = some (stD (orb r (0, f) i)) := fun i hi => by
    rw [atI_nat rfl (by simpa using hi), List.getElem?_map, List.getElem?_range hi]
    rfl
  refine iteF_d (fun q => ?_) (fun q => ?_)
  · simp only [↓e_var, ↓e_C, ↓e_dD, ↓e_d2, ↓e_neg, ↓e_isN, ↓e_B, ↓e_And, ↓e_Or, ↓e_Not, ↓e_AndV, ↓e_OrV, ↓e_NotV, ↓e_IfE, ↓e_Chain, ↓e_Ix, ↓e_Sl, ↓e_No, ↓e_Part, ↓e_nil, ↓e_cons, ↓e_Tup, ↓e_Lst, ↓e_CB, ↓e_ofD, ↓e_jOf, ↓e_Len, ↓e_Ints, ↓e_fMax, ↓e_fMin, ↓e_Tuple, ↓e_List, ↓e_Bls, ↓e_Is, ↓e_seq, ↓e_skip, ↓e_ret, ↓e_drop, ↓e_ifS, ↓e_never, ↓e_asg, ↓e_par2, ↓e_par3, ↓e_App, ↓e_For, ↓e_While, ↓e_Iter, ↓e_Rng1, ↓e_Rng2, ↓e_Zip2, ↓e_Zip3, ↓e_Lc, ↓e_Yes, ↓e_Dn0, ↓e_DnIn, ↓e_DnGet, ↓e_Dn1, iteG_t, iteG_f, iteG_d, iteG_n, iteG_a, iteG_o, iteG_x, iteG_e, iteG_s, iteG_l, iteG_y, iteF_t, iteF_f, varF_d, varF_o, toD_d, toD_l, toD_a, toDF_d, toDF_l, d2F_d, fAdd_i, fAdd_s, fAdd_t, fAdd_l, fSub_i, fMul_i, fMulR_i, fMulR_t, fMulR_l, fDiv_i, fMod_i, fPow_i, negF_i, cLt_i, cLe_i, cGt_i, cGe_i, cEq_e, cNe_e, isNF_n, isNF_t, isNF_i, dBF_b, boF_b, notVF_b, ch2F_d, chF_d, seqOf_t, seqOf_l, seqOf_o, seqOf_s, seqOf_a, seqF_t, seqF_l, seqF_o, kindOf_t, kindOf_l, kindOf_o, kindOf_a, kindF_t, kindF_l, kindF_o, ixF2_s, ixF_s, slF_t, slF_f, partF_i, allD_n, allD_c, tupF_s, lstF_s, ofDF_s, gInt_i, gInt_b, gAbs_i, gMax2_i, gMin2_i, gN_e, jF_s, lenF_s, intsF2_s, intsF_s, fSum_e, gTF_s, gLF_s, blsF_s, blsF2_s, isF_s, isF2_s, tyn_i, tyn_b, tyn_t, tyn_l, tyn_s, tyn_n, k_ii, k_ib, k_tt, gN1_d, gN1_o, gN1_a, gaF_d, gaF_o, gTup_e, gs_n, gs_c, par2G_e, par2F_s, svOf_d, svOf_o, par3G_e, par3F_s, stF2_s, stF_s, stG_e, gStL_e, gOwn_e, owL_a, apG_e, apI_e, iterF_t, iterF_l, rng1F_e, rng2F_e, zip2F_s, zip2G_e, zip3F_s, zip3G_e, seqD_t, seqD_l, finP_d, finP_o, finP_a, finF_d, finF_o, finJF_d, finJF_o, finJ_d, finJ_o, startD_e, startJ_e, dnI_e, dnIH_e, dnGF_e, dnGetF_e, dnSF_e, dnSH_e, gStDn_e, dn1F_e, atI_0, atI_1, atI_2, ixN_2_0, ixN_2_1, appK_eq, cmp_i, eqv_ii, eqv_nn, cast1, cast2, cast3, List.map_cons, List.map_nil, List.append_nil, List.nil_append, List.cons_append, List.replicate_succ, List.replicate_zero, List.length_cons, List.length_nil, List.getElem?_cons_zero, List.getElem?_cons_succ, List.set_cons_zero, List.set_cons_succ, Option.map_some, Bool.not_true, Bool.not_false, Nat.reduceAdd, Nat.reduceSub, Nat.zero_add, Nat.add_zero, if_true, if_false, decide_true, decide_false, and_true, true_and, Nat.reduceLeDiff, Nat.sub_zero, Nat.sub_self, at_ n (by omega)]
    simp only [↓e_var, ↓e_C, ↓e_dD, ↓e_d2, ↓e_neg, ↓e_isN, ↓e_B, ↓e_And, ↓e_Or, ↓e_Not, ↓e_AndV, ↓e_OrV, ↓e_NotV, ↓e_IfE, ↓e_Chain, ↓e_Ix, ↓e_Sl, ↓e_No, ↓e_Part, ↓e_nil, ↓e_cons, ↓e_Tup, ↓e_Lst, ↓e_CB, ↓e_ofD, ↓e_jOf, ↓e_Len, ↓e_Ints, ↓e_fMax, ↓e_fMin, ↓e_Tuple, ↓e_List, ↓e_Bls, ↓e_Is, ↓e_seq, ↓e_skip, ↓e_ret, ↓e_drop, ↓e_ifS, ↓e_never, ↓e_asg, ↓e_par2, ↓e_par3, ↓e_App, ↓e_For, ↓e_While, ↓e_Iter, ↓e_Rng1, ↓e_Rng2, ↓e_Zip2, ↓e_Zip3, ↓e_Lc, ↓e_Yes, ↓e_Dn0, ↓e_DnIn, ↓e_DnGet, ↓e_Dn1, iteG_t, iteG_f, iteG_d, iteG_n, iteG_a, iteG_o, iteG_x, iteG_e, iteG_s, iteG_l, iteG_y, iteF_t, iteF_f, varF_d, varF_o, toD_d, toD_l, toD_a, toDF_d, toDF_l, d2F_d, fAdd_i, fAdd_s, fAdd_t, fAdd_l, fSub_i, fMul_i, fMulR_i, fMulR_t, fMulR_l, fDiv_i, fMod_i, fPow_i, negF_i, cLt_i, cLe_i, cGt_i, cGe_i, cEq_e, cNe_e, isNF_n, isNF_t, isNF_i, dBF_b, boF_b, notVF_b, ch2F_d, chF_d, seqOf_t, seqOf_l, seqOf_o, seqOf_s, seqOf_a, seqF_t, seqF_l, seqF_o, kindOf_t, kindOf_l, kindOf_o, kindOf_a, kindF_t, kindF_l, kindF_o, ixF2_s, ixF_s, slF_t, slF_f, partF_i, allD_n, allD_c, tupF_s, lstF_s, ofDF_s, gInt_i, gInt_b, gAbs_i, gMax2_i, gMin2_i, gN_e, jF_s, lenF_s, intsF2_s, intsF_s, fSum_e, gTF_s, gLF_s, blsF_s, blsF2_s, isF_s, isF2_s, tyn_i, tyn_b, tyn_t, tyn_l, tyn_s, tyn_n, k_ii, k_ib, k_tt, gN1_d, gN1_o, gN1_a, gaF_d, gaF_o, gTup_e, gs_n, gs_c, par2G_e, par2F_s, svOf_d, svOf_o, par3G_e, par3F_s, stF2_s, stF_s, stG_e, gStL_e, gOwn_e, owL_a, apG_e, apI_e, iterF_t, iterF_l, rng1F_e, rng2F_e, zip2F_s, zip2G_e, zip3F_s, zip3G_e, seqD_t, seqD_l, finP_d, finP_o, finP_a, finF_d, finF_o, finJF_d, finJF_o, finJ_d, finJ_o, startD_e, startJ_e, dnI_e, dnIH_e, dnGF_e, dnGetF_e, dnSF_e, dnSH_e, gStDn_e, dn1F_e, atI_0, atI_1, atI_2, ixN_2_0, ixN_2_1, appK_eq, cmp_i, eqv_ii, eqv_nn, cast1, cast2, cast3, List.map_cons, List.map_nil, List.append_nil, List.nil_append, List.cons_append, List.replicate_succ, List.replicate_zero, List.length_cons, List.length_nil, List.getElem?_cons_zero, List.getElem?_cons_succ, List.set_cons_zero, List.set_cons_succ, Option.map_some, Bool.not_true, Bool.not_false, Nat.reduceAdd, Nat.reduceSub, Nat.zero_add, Nat.add_zero, if_true, if_false, decide_true, decide_false, and_true, true_and, Nat.reduceLeDiff, Nat.sub_zero, Nat.sub_self, stD]
    exact h
  · refine ⟨by omega, ?_⟩
    have dc : (k : Int) + ((n : Int) - (k : Int)) % ((m : Int) - (k : Int)) = ((k + (n - k) % (m - k) : Nat) : Int) := by
      rw [Int.natCast_add, Int.natCast_emod, Int.natCast_sub (by omega), Int.natCast_sub (by omega)]
    have hcl : (n - k) % (m - k) < m - k := Nat.mod_lt _ (by omega)
    have e2 : orb r (0, f) n = orb r (0, f) (k + (n - k) % (m - k)) := by
      rw [← orb_mod hk e]
      congr 1
      omega
    rw [e2] at h
    simp only [↓e_var, ↓e_C, ↓e_dD, ↓e_d2, ↓e_neg, ↓e_isN, ↓e_B, ↓e_And, ↓e_Or, ↓e_Not, ↓e_AndV, ↓e_OrV, ↓e_NotV, ↓e_IfE, ↓e_Chain, ↓e_Ix, ↓e_Sl, ↓e_No, ↓e_Part, ↓e_nil, ↓e_cons, ↓e_Tup, ↓e_Lst, ↓e_CB, ↓e_ofD, ↓e_jOf, ↓e_Len, ↓e_Ints, ↓e_fMax, ↓e_fMin, ↓e_Tuple, ↓e_List, ↓e_Bls, ↓e_Is, ↓e_seq, ↓e_skip, ↓e_ret, ↓e_drop, ↓e_ifS, ↓e_never, ↓e_asg, ↓e_par2, ↓e_par3, ↓e_App, ↓e_For, ↓e_While, ↓e_Iter, ↓e_Rng1, ↓e_Rng2, ↓e_Zip2, ↓e_Zip3, ↓e_Lc, ↓e_Yes, ↓e_Dn0, ↓e_DnIn, ↓e_DnGet, ↓e_Dn1, iteG_t, iteG_f, iteG_d, iteG_n, iteG_a, iteG_o, iteG_x, iteG_e, iteG_s, iteG_l, iteG_y, iteF_t, iteF_f, varF_d, varF_o, toD_d, toD_l, toD_a, toDF_d, toDF_l, d2F_d, fAdd_i, fAdd_s, fAdd_t, fAdd_l, fSub_i, fMul_i, fMulR_i, fMulR_t, fMulR_l, fDiv_i, fMod_i, fPow_i, negF_i, cLt_i, cLe_i, cGt_i, cGe_i, cEq_e, cNe_e, isNF_n, isNF_t, isNF_i, dBF_b, boF_b, notVF_b, ch2F_d, chF_d, seqOf_t, seqOf_l, seqOf_o, seqOf_s, seqOf_a, seqF_t, seqF_l, seqF_o, kindOf_t, kindOf_l, kindOf_o, kindOf_a, kindF_t, kindF_l, kindF_o, ixF2_s, ixF_s, slF_t, slF_f, partF_i, allD_n, allD_c, tupF_s, lstF_s, ofDF_s, gInt_i, gInt_b, gAbs_i, gMax2_i, gMin2_i, gN_e, jF_s, lenF_s, intsF2_s, intsF_s, fSum_e, gTF_s, gLF_s, blsF_s, blsF2_s, isF_s, isF2_s, tyn_i, tyn_b, tyn_t, tyn_l, tyn_s, tyn_n, k_ii, k_ib, k_tt, gN1_d, gN1_o, gN1_a, gaF_d, gaF_o, gTup_e, gs_n, gs_c, par2G_e, par2F_s, svOf_d, svOf_o, par3G_e, par3F_s, stF2_s, stF_s, stG_e, gStL_e, gOwn_e, owL_a, apG_e, apI_e, iterF_t, iterF_l, rng1F_e, rng2F_e, zip2F_s, zip2G_e, zip3F_s, zip3G_e, seqD_t, seqD_l, finP_d, finP_o, finP_a, finF_d, finF_o, finJF_d, finJF_o, finJ_d, finJ_o, startD_e, startJ_e, dnI_e, dnIH_e, dnGF_e, dnGetF_e, dnSF_e, dnSH_e, gStDn_e, dn1F_e, atI_0, atI_1, atI_2, ixN_2_0, ixN_2_1, appK_eq, cmp_i, eqv_ii, eqv_nn, cast1, cast2, cast3, List.map_cons, List.map_nil, List.append_nil, List.nil_append, List.cons_append, List.replicate_succ, List.replicate_zero, List.length_cons, List.length_nil, List.getElem?_cons_zero, List.getElem?_cons_succ, List.set_cons_zero, List.set_cons_succ, Option.map_some, Bool.not_true, Bool.not_false, Nat.reduceAdd, Nat.reduceSub, Nat.zero_add, Nat.add_zero, if_true, if_false, decide_true, decide_false, and_true, true_and, Nat.reduceLeDiff, Nat.sub_zero, Nat.sub_self, dc, at_ _ (show k + (n - k) % (m - k) < m by omega)]
    simp only [↓e_var, ↓e_C, ↓e_dD, ↓e_d2, ↓e_neg, ↓e_isN, ↓e_B, ↓e_And, ↓e_Or, ↓e_Not, ↓e_AndV, ↓e_OrV, ↓e_NotV, ↓e_IfE, ↓e_Chain, ↓e_Ix, ↓e_Sl, ↓e_No, ↓e_Part, ↓e_nil, ↓e_cons, ↓e_Tup, ↓e_Lst, ↓e_CB, ↓e_ofD, ↓e_jOf, ↓e_Len, ↓e_Ints, ↓e_fMax, ↓e_fMin, ↓e_Tuple, ↓e_List, ↓e_Bls, ↓e_Is, ↓e_seq, ↓e_skip, ↓e_ret, ↓e_drop, ↓e_ifS, ↓e_never, ↓e_asg, ↓e_par2, ↓e_par3, ↓e_App, ↓e_For, ↓e_While, ↓e_Iter, ↓e_Rng1, ↓e_Rng2, ↓e_Zip2, ↓e_Zip3, ↓e_Lc, ↓e_Yes, ↓e_Dn0, ↓e_DnIn, ↓e_DnGet, ↓e_Dn1, iteG_t, iteG_f, iteG_d, iteG_n, iteG_a, iteG_o, iteG_x, iteG_e, iteG_s, iteG_l, iteG_y, iteF_t, iteF_f, varF_d, varF_o, toD_d, toD_l, toD_a, toDF_d, toDF_l, d2F_d, fAdd_i, fAdd_s, fAdd_t, fAdd_l, fSub_i, fMul_i, fMulR_i, fMulR_t, fMulR_l, fDiv_i, fMod_i, fPow_i, negF_i, cLt_i, cLe_i, cGt_i, cGe_i, cEq_e, cNe_e, isNF_n, isNF_t, isNF_i, dBF_b, boF_b, notVF_b, ch2F_d, chF_d, seqOf_t, seqOf_l, seqOf_o, seqOf_s, seqOf_a, seqF_t, seqF_l, seqF_o, kindOf_t, kindOf_l, kindOf_o, kindOf_a, kindF_t, kindF_l, kindF_o, ixF2_s, ixF_s, slF_t, slF_f, partF_i, allD_n, allD_c, tupF_s, lstF_s, ofDF_s, gInt_i, gInt_b, gAbs_i, gMax2_i, gMin2_i, gN_e, jF_s, lenF_s, intsF2_s, intsF_s, fSum_e, gTF_s, gLF_s, blsF_s, blsF2_s, isF_s, isF2_s, tyn_i, tyn_b, tyn_t, tyn_l, tyn_s, tyn_n, k_ii, k_ib, k_tt, gN1_d, gN1_o, gN1_a, gaF_d, gaF_o, gTup_e, gs_n, gs_c, par2G_e, par2F_s, svOf_d, svOf_o, par3G_e, par3F_s, stF2_s, stF_s, stG_e, gStL_e, gOwn_e, owL_a, apG_e, apI_e, iterF_t, iterF_l, rng1F_e, rng2F_e, zip2F_s, zip2G_e, zip3F_s, zip3G_e, seqD_t, seqD_l, finP_d, finP_o, finP_a, finF_d, finF_o, finJF_d, finJF_o, finJ_d, finJ_o, startD_e, startJ_e, dnI_e, dnIH_e, dnGF_e, dnGetF_e, dnSF_e, dnSH_e, gStDn_e, dn1F_e, atI_0, atI_1, atI_2, ixN_2_0, ixN_2_1, appK_eq, cmp_i, eqv_ii, eqv_nn, cast1, cast2, cast3, List.map_cons, List.map_nil, List.append_nil, List.nil_append, List.cons_append, List.replicate_succ, List.replicate_zero, List.length_cons, List.length_nil, List.getElem?_cons_zero, List.getElem?_cons_succ, List.set_cons_zero, List.set_cons_succ, Option.map_some, Bool.not_true, Bool.not_false, Nat.reduceAdd, Nat.reduceSub, Nat.zero_add, Nat.add_zero, if_true, if_false, decide_true, decide_false, and_true, true_and, Nat.reduceLeDiff, Nat.sub_zero, Nat.sub_self, stD]
    exact h
def Dx_filling_behind (P : Program) (w : World) (K : PySem.W.Frag) (mg : Str → Option Value) (base : Heap) : Prop := ∃ f fd, Def P w K mg base 3 "filling_behind" f fd ["row", "filling", "ticks"] (spP (bas P w K) 3 sp_filling_behind)
theorem ok_filling_behind {P : Program} {w : World} {K : PySem.W.Frag} {mg : Str → Option Value} {base : Heap} (M : Mg mg) (D_trail : Dx_trail P w K mg base) {f : Addr} {fd : FuncData} (F : FunD K "filling_behind" "filling_behind" (defArgs s_filling_behind) (defBody s_filling_behind) (defScope s_filling_behind) [] [] f fd) : FnOk P w K mg base CX0 3 f fd ["row", "filling", "ticks"] (spP (bas P w K) 3 sp_filling_behind) := by
  obtain ⟨a_trail, fd_trail, D_trail⟩ := D_trail
  exact okP (tb := t_filling_behind) F sc_filling_behind (fun cdv A outer s H E hr =>
    (dss_cons (ds_asg (de_call D_trail.own (hr.mono (by decide)) (by rfl) (da_cons (de_data (de_var (pv 0))) (da_cons (de_data (de_var (pv 1))) da_nil))) (dg_tup rfl (dgs_cons (dg_name sc_filling_behind.nd (i := 3) rfl (by first | exact .inl rfl | exact .inr rfl) (by first | exact .inl rfl | exact .inr (by decide))) (dgs_cons (dg_name sc_filling_behind.nd (i := 4) rfl (by first | exact .inl rfl | exact .inr rfl) (by first | exact .inl rfl | exact .inr (by decide))) (dgs_nil (ws := []))))))
      (dss_cons (ds_asg (de_if (dt_lt (de_var (pv 2)) (de_callB (call_len_seq) (snd_len) (by rfl) M.f_len rfl (da_cons (de_var (pv 3)) da_nil))) (de_var (pv 2)) (de_add (de_var (pv 4)) (de_mod (de_sub (de_var (pv 2)) (de_var (pv 4))) (de_sub (de_callB (call_len_seq) (snd_len) (by rfl) M.f_len rfl (da_cons (de_var (pv 3)) da_nil)) (de_var (pv 4)))))) (dg_name sc_filling_behind.nd (i := 5) rfl (by first | exact .inl rfl | exact .inr rfl) (by first | exact .inl rfl | exact .inr (by decide))))
      (dss_one (ds_ret (de_ix (de_ix (de_var (pv 3)) (de_var (pv 5))) de_int)))))) rd_filling_behind
def N_need_all : List Str := ["row", "filling", "ticks", "most"]
theorem sc_need_all : FnScope N_need_all ["row", "filling", "ticks", "most"] (defScope s_need_all) := ⟨rfl, rfl, rfl, by decide +kernel, rfl, by decide +kernel, by decide +kernel⟩
def t_need_all : DTS :=
    (dSeq (dDrop (dCB (ofD (gN 1 sp_need_row)) (dCons (dD (dVar 0)) dNil)))
      (dSeq (dDrop (dCB (ofD (gN 2 sp_need_filling)) (dCons (dD (dVar 0)) (dCons (dD (dVar 1)) dNil))))
      (dDrop (dCB (ofD (gN 3 sp_need_number)) (dCons (dD (dVar 2)) (dCons (dC (.int 0)) (dCons (dD (dVar 3)) dNil)))))))
def sp_need_all : DFd := fun ds R => ∃ (r : Row) (f : List Int) (n : Nat) (most : Int), ds = [rowD r, intsD f, .int (n : Nat), .int most] ∧ r.Ok ∧ FillOk r.cups f ∧ (n : Int) ≤ most ∧ R (.d .non)
theorem rd_need_all : ∀ ds R, ds.length = 4 → sp_need_all ds R → t_need_all { nx := fun _ => R (.d .non), rt := finP R } (startD N_need_all ds) := by
  rintro ds R - ⟨r, f, n, most, rfl, ok, hf, hn, h⟩
  simp only [↓e_var, ↓e_C, ↓e_dD, ↓e_d2, ↓e_neg, ↓e_isN, ↓e_B, ↓e_And, ↓e_Or, ↓e_Not, ↓e_AndV, ↓e_OrV, ↓e_NotV, ↓e_IfE, ↓e_Chain, ↓e_Ix, ↓e_Sl, ↓e_No, ↓e_Part, ↓e_nil, ↓e_cons, ↓e_Tup, ↓e_Lst, ↓e_CB, ↓e_ofD, ↓e_jOf, ↓e_Len, ↓e_Ints, ↓e_fMax, ↓e_fMin, ↓e_Tuple, ↓e_List, ↓e_Bls, ↓e_Is, ↓e_seq, ↓e_skip, ↓e_ret, ↓e_drop, ↓e_ifS, ↓e_never, ↓e_asg, ↓e_par2, ↓e_par3, ↓e_App, ↓e_For, ↓e_While, ↓e_Iter, ↓e_Rng1, ↓e_Rng2, ↓e_Zip2, ↓e_Zip3, ↓e_Lc, ↓e_Yes, ↓e_Dn0, ↓e_DnIn, ↓e_DnGet, ↓e_Dn1, iteG_t, iteG_f, iteG_d, iteG_n, iteG_a, iteG_o, iteG_x, iteG_e, iteG_s, iteG_l, iteG_y, iteF_t, iteF_f, varF_d, varF_o, toD_d, toD_l, toD_a, toDF_d, toDF_l, d2F_d, fAdd_i, fAdd_s, fAdd_t, fAdd_l, fSub_i, fMul_i, fMulR_i, fMulR_t, fMulR_l, fDiv_i, fMod_i, fPow_i, negF_i, cLt_i, cLe_i, cGt_i, cGe_i, cEq_e, cNe_e, isNF_n, isNF_t, isNF_i, dBF_b, boF_b, notVF_b, ch2F_d, chF_d, seqOf_t, seqOf_l, seqOf_o, seqOf_s, seqOf_a, seqF_t, seqF_l, seqF_o, kindOf_t, kindOf_l, kindOf_o, kindOf_a, kindF_t, kindF_l, kindF_o, ixF2_s, ixF_s, slF_t, slF_f, partF_i, allD_n, allD_c, tupF_s, lstF_s, ofDF_s, gInt_i, gInt_b, gAbs_i, gMax2_i, gMin2_i, gN_e, jF_s, lenF_s, intsF2_s, intsF_s, fSum_e, gTF_s, gLF_s, blsF_s, blsF2_s, isF_s, isF2_s, tyn_i, tyn_b, tyn_t, tyn_l, tyn_s, tyn_n, k_ii, k_ib, k_tt, gN1_d, gN1_o, gN1_a, gaF_d, gaF_o, gTup_e, gs_n, gs_c, par2G_e, par2F_s, svOf_d, svOf_o, par3G_e, par3F_s, stF2_s, stF_s, stG_e, gStL_e, gOwn_e, owL_a, apG_e, apI_e, iterF_t, iterF_l, rng1F_e, rng2F_e, zip2F_s, zip2G_e, zip3F_s, zip3G_e, seqD_t, seqD_l, finP_d, finP_o, finP_a, finF_d, finF_o, finJF_d, finJF_o, finJ_d, finJ_o, startD_e, startJ_e, dnI_e, dnIH_e, dnGF_e, dnGetF_e, dnSF_e, dnSH_e, gStDn_e, dn1F_e, atI_0, atI_1, atI_2, ixN_2_0, ixN_2_1, appK_eq, cmp_i, eqv_ii, eqv_nn, cast1, cast2, cast3, List.map_cons, List.map_nil, List.append_nil, List.nil_append, List.cons_append, List.replicate_succ, List.replicate_zero, List.length_cons, List.length_nil, List.getElem?_cons_zero, List.getElem?_cons_succ, List.set_cons_zero, List.set_cons_succ, Option.map_some, Bool.not_true, Bool.not_false, Nat.reduceAdd, Nat.reduceSub, Nat.zero_add, Nat.add_zero, if_true, if_false, decide_true, decide_false, and_true, true_and, Nat.reduceLeDiff, Nat.sub_zero, Nat.sub_self, t_need_all, N_need_all]
  refine ⟨rfl, r, rfl, ok, rfl, r, f, rfl, hf, rfl, _, _, _, rfl, by omega, hn, h⟩
def Dx_need_all (P : Program) (w : World) (K : PySem.W.Frag) (mg : Str → Option Value) (base : Heap) : Prop := ∃ f fd, Def P w K mg base 5 "need_all" f fd ["row", "filling", "ticks", "most"] (spP (bas P w K) 4 sp_need_all)
theorem ok_need_all {P : Program} {w : World} {K : PySem.W.Frag} {mg : Str → Option Value} {base : Heap} (M : Mg mg) (D_need_number : Dx_need_number P w K mg base) (D_need_filling : Dx_need_filling P w K mg base) (D_need_row : Dx_need_row P w K mg base) {f : Addr} {fd : FuncData} (F : FunD K "need_all" "need_all" (defArgs s_need_all) (defBody s_need_all) (defScope s_need_all) [] [] f fd) : FnOk P w K mg base CX0 5 f fd ["row", "filling", "ticks", "most"] (spP (bas P w K) 4 sp_need_all) := by
  obtain ⟨a_need_number, fd_need_number, D_need_number⟩ := D_need_number
  obtain ⟨a_need_filling, fd_need_filling, D_need_filling⟩ := D_need_filling
  obtain ⟨a_need_row, fd_need_row, D_need_row⟩ := D_need_row
  exact okP (tb := t_need_all) F sc_need_all (fun cdv A outer s H E hr =>
    (dss_cons (ds_expr (de_call D_need_row.own (hr.mono (by decide)) (by rfl) (da_cons (de_data (de_var (pv 0))) da_nil)))
      (dss_cons (ds_expr (de_call D_need_filling.own (hr.mono (by decide)) (by rfl) (da_cons (de_data (de_var (pv 0))) (da_cons (de_data (de_var (pv 1))) da_nil))))
      (dss_one (ds_expr (de_call D_need_number.own (hr.mono (by decide)) (by rfl) (da_cons (de_data (de_var (pv 2))) (da_cons de_int (da_cons (de_data (de_var (pv 3))) da_nil))))))))) rd_need_all
def N_behind : List Str := ["row", "filling", "ticks"]
theorem sc_behind : FnScope N_behind ["row", "filling", "ticks"] (defScope s_behind) := ⟨rfl, rfl, rfl, by decide +kernel, rfl, by decide +kernel, by decide +kernel⟩
def t_behind : DTS :=
    (dSeq (dDrop (dCB (ofD (gN 4 sp_need_all)) (dCons (dD (dVar 0)) (dCons (dD (dVar 1)) (dCons (dD (dVar 2)) (dCons (dC (.int 1000000000000000000000000000000)) dNil))))))
      (dRet (dCB (ofD (gN 3 sp_filling_behind)) (dCons (dD (dVar 0)) (dCons (dD (dVar 1)) (dCons (dD (dVar 2)) dNil))))))
def sp_behind : DFd := fun ds R => ∃ (r : Row) (f : List Int) (n : Nat), ds = [rowD r, intsD f, .int (n : Nat)] ∧ r.Ok ∧ FillOk r.cups f ∧ n ≤ 10 ^ 30 ∧ R (.d (intsD (orb r (0, f) n).2))
theorem rd_behind : ∀ ds R, ds.length = 3 → sp_behind ds R → t_behind { nx := fun _ => R (.d .non), rt := finP R } (startD N_behind ds) := by
  rintro ds R - ⟨r, f, n, rfl, ok, hf, hn, h⟩
  simp only [↓e_var, ↓e_C, ↓e_dD, ↓e_d2, ↓e_neg, ↓e_isN, ↓e_B, ↓e_And, ↓e_Or, ↓e_Not, ↓e_AndV, ↓e_OrV, ↓e_NotV, ↓e_IfE, ↓e_Chain, ↓e_Ix, ↓e_Sl, ↓e_No, ↓e_Part, ↓e_nil, ↓e_cons, ↓e_Tup, ↓e_Lst, ↓e_CB, ↓e_ofD, ↓e_jOf, ↓e_Len, ↓e_Ints, ↓e_fMax, ↓e_fMin, ↓e_Tuple, ↓e_List, ↓e_Bls, ↓e_Is, ↓e_seq, ↓e_skip, ↓e_ret, ↓e_drop, ↓e_ifS, ↓e_never, ↓e_asg, ↓e_par2, ↓e_par3, ↓e_App, ↓e_For, ↓e_While, ↓e_Iter, ↓e_Rng1, ↓e_Rng2, ↓e_Zip2, ↓e_Zip3, ↓e_Lc, ↓e_Yes, ↓e_Dn0, ↓e_DnIn, ↓e_DnGet, ↓e_Dn1, iteG_t, iteG_f, iteG_d, iteG_n, iteG_a, iteG_o, iteG_x, iteG_e, iteG_s, iteG_l, iteG_y, iteF_t, iteF_f, varF_d, varF_o, toD_d, toD_l, toD_a, toDF_d, toDF_l, d2F_d, fAdd_i, fAdd_s, fAdd_t, fAdd_l, fSub_i, fMul_i, fMulR_i, fMulR_t, fMulR_l, fDiv_i, fMod_i, fPow_i, negF_i, cLt_i, cLe_i, cGt_i, cGe_i, cEq_e, cNe_e, isNF_n, isNF_t, isNF_i, dBF_b, boF_b, notVF_b, ch2F_d, chF_d, seqOf_t, seqOf_l, seqOf_o, seqOf_s, seqOf_a, seqF_t, seqF_l, seqF_o, kindOf_t, kindOf_l, kindOf_o, kindOf_a, kindF_t, kindF_l, kindF_o, ixF2_s, ixF_s, slF_t, slF_f, partF_i, allD_n, allD_c, tupF_s, lstF_s, ofDF_s, gInt_i, gInt_b, gAbs_i, gMax2_i, gMin2_i, gN_e, jF_s, lenF_s, intsF2_s, intsF_s, fSum_e, gTF_s, gLF_s, blsF_s, blsF2_s, isF_s, isF2_s, tyn_i, tyn_b, tyn_t, tyn_l, tyn_s, tyn_n, k_ii, k_ib, k_tt, gN1_d, gN1_o, gN1_a, gaF_d, gaF_o, gTup_e, gs_n, gs_c, par2G_e, par2F_s, svOf_d, svOf_o, par3G_e, par3F_s, stF2_s, stF_s, stG_e, gStL_e, gOwn_e, owL_a, apG_e, apI_e, iterF_t, iterF_l, rng1F_e, rng2F_e, zip2F_s, zip2G_e, zip3F_s, zip3G_e, seqD_t, seqD_l, finP_d, finP_o, finP_a, finF_d, finF_o, finJF_d, finJF_o, finJ_d, finJ_o, startD_e, startJ_e, dnI_e, dnIH_e, dnGF_e, dnGetF_e, dnSF_e, dnSH_e, gStDn_e, dn1F_e, atI_0, atI_1, atI_2, ixN_2_0, ixN_2_1, appK_eq, cmp_i, eqv_ii, eqv_nn, cast1, cast2, cast3, List.map_cons, List.map_nil, List.append_nil, List.nil_append, List.cons_append, List.replicate_succ, List.replicate_zero, List.length_cons, List.length_nil, List.getElem?_cons_zero, List.getElem?_cons_succ, List.set_cons_zero, List.set_cons_succ, Option.map_some, Bool.not_true, Bool.not_false, Nat.reduceAdd, Nat.reduceSub, Nat.zero_add, Nat.add_zero, if_true, if_false, decide_true, decide_false, and_true, true_and, Nat.reduceLeDiff, Nat.sub_zero, Nat.sub_self, t_behind, N_behind]
  refine ⟨rfl, r, f, n, _, rfl, ok, hf, by omega, ?_⟩
  simp only [↓e_var, ↓e_C, ↓e_dD, ↓e_d2, ↓e_neg, ↓e_isN, ↓e_B, ↓e_And, ↓e_Or, ↓e_Not, ↓e_AndV, ↓e_OrV, ↓e_NotV, ↓e_IfE, ↓e_Chain, ↓e_Ix, ↓e_Sl, ↓e_No, ↓e_Part, ↓e_nil, ↓e_cons, ↓e_Tup, ↓e_Lst, ↓e_CB, ↓e_ofD, ↓e_jOf, ↓e_Len, ↓e_Ints, ↓e_fMax, ↓e_fMin, ↓e_Tuple, ↓e_List, ↓e_Bls, ↓e_Is, ↓e_seq, ↓e_skip, ↓e_ret, ↓e_drop, ↓e_ifS, ↓e_never, ↓e_asg, ↓e_par2, ↓e_par3, ↓e_App, ↓e_For, ↓e_While, ↓e_Iter, ↓e_Rng1, ↓e_Rng2, ↓e_Zip2, ↓e_Zip3, ↓e_Lc, ↓e_Yes, ↓e_Dn0, ↓e_DnIn, ↓e_DnGet, ↓e_Dn1, iteG_t, iteG_f, iteG_d, iteG_n, iteG_a, iteG_o, iteG_x, iteG_e, iteG_s, iteG_l, iteG_y, iteF_t, iteF_f, varF_d, varF_o, toD_d, toD_l, toD_a, toDF_d, toDF_l, d2F_d, fAdd_i, fAdd_s, fAdd_t, fAdd_l, fSub_i, fMul_i, fMulR_i, fMulR_t, fMulR_l, fDiv_i, fMod_i, fPow_i, negF_i, cLt_i, cLe_i, cGt_i, cGe_i, cEq_e, cNe_e, isNF_n, isNF_t, isNF_i, dBF_b, boF_b, notVF_b, ch2F_d, chF_d, seqOf_t, seqOf_l, seqOf_o, seqOf_s, seqOf_a, seqF_t, seqF_l, seqF_o, kindOf_t, kindOf_l, kindOf_o, kindOf_a, kindF_t, kindF_l, kindF_o, ixF2_s, ixF_s, slF_t, slF_f, partF_i, allD_n, allD_c, tupF_s, lstF_s, ofDF_s, gInt_i, gInt_b, gAbs_i, gMax2_i, gMin2_i, gN_e, jF_s, lenF_s, intsF2_s, intsF_s, fSum_e, gTF_s, gLF_s, blsF_s, blsF2_s, isF_s, isF2_s, tyn_i, tyn_b, tyn_t, tyn_l, tyn_s, tyn_n, k_ii, k_ib, k_tt, gN1_d, gN1_o, gN1_a, gaF_d, gaF_o, gTup_e, gs_n, gs_c, par2G_e, par2F_s, svOf_d, svOf_o, par3G_e, par3F_s, stF2_s, stF_s, stG_e, gStL_e, gOwn_e, owL_a, apG_e, apI_e, iterF_t, iterF_l, rng1F_e, rng2F_e, zip2F_s, zip2G_e, zip3F_s, zip3G_e, seqD_t, seqD_l, finP_d, finP_o, finP_a, finF_d, finF_o, finJF_d, finJF_o, finJ_d, finJ_o, startD_e, startJ_e, dnI_e, dnIH_e, dnGF_e, dnGetF_e, dnSF_e, dnSH_e, gStDn_e, dn1F_e, atI_0, atI_1, atI_2, ixN_2_0, ixN_2_1, appK_eq, cmp_i, eqv_ii, eqv_nn, cast1, cast2, cast3, List.map_cons, List.map_nil, List.append_nil, List.nil_append, List.cons_append, List.replicate_succ, List.replicate_zero, List.length_cons, List.length_nil, List.getElem?_cons_zero, List.getElem?_cons_succ, List.set_cons_zero, List.set_cons_succ, Option.map_some, Bool.not_true, Bool.not_false, Nat.reduceAdd, Nat.reduceSub, Nat.zero_add, Nat.add_zero, if_true, if_false, decide_true, decide_false, and_true, true_and, Nat.reduceLeDiff, Nat.sub_zero, Nat.sub_self]
  exact ⟨rfl, r, f, n, rfl, ok, hf, h⟩
def Dx_behind (P : Program) (w : World) (K : PySem.W.Frag) (mg : Str → Option Value) (base : Heap) : Prop := ∃ f fd, Def P w K mg base 6 "behind" f fd ["row", "filling", "ticks"] (spP (bas P w K) 3 sp_behind)
theorem ok_behind {P : Program} {w : World} {K : PySem.W.Frag} {mg : Str → Option Value} {base : Heap} (M : Mg mg) (D_filling_behind : Dx_filling_behind P w K mg base) (D_need_all : Dx_need_all P w K mg base) {f : Addr} {fd : FuncData} (F : FunD K "behind" "behind" (defArgs s_behind) (defBody s_behind) (defScope s_behind) [] [] f fd) : FnOk P w K mg base CX0 6 f fd ["row", "filling", "ticks"] (spP (bas P w K) 3 sp_behind) := by
  obtain ⟨a_filling_behind, fd_filling_behind, D_filling_behind⟩ := D_filling_behind
  obtain ⟨a_need_all, fd_need_all, D_need_all⟩ := D_need_all
  exact okP (tb := t_behind) F sc_behind (fun cdv A outer s H E hr =>
    (dss_cons (ds_expr (de_call D_need_all.own (hr.mono (by decide)) (by rfl) (da_cons (de_data (de_var (pv 0))) (da_cons (de_data (de_var (pv 1))) (da_cons (de_data (de_var (pv 2))) (da_cons (de_gint (by rfl) M.c_MOST_TICKS) da_nil))))))
      (dss_one (ds_ret (de_call D_filling_behind.own (hr.mono (by decide)) (by rfl) (da_cons (de_data (de_var (pv 0))) (da_cons (de_data (de_var (pv 1))) (da_cons (de_data (de_var (pv 2))) da_nil)))))))) rd_behind
def N_poured : List Str := ["row", "filling", "ticks"]
theorem sc_poured : FnScope N_poured ["row", "filling", "ticks"] (defScope s_poured) := ⟨rfl, rfl, rfl, by decide +kernel, rfl, by decide +kernel, by decide +kernel⟩
def t_poured : DTS :=
    (dSeq (dDrop (dCB (ofD (gN 4 sp_need_all)) (dCons (dD (dVar 0)) (dCons (dD (dVar 1)) (dCons (dD (dVar 2)) (dCons (dC (.int 1000000000000000000000000000000)) dNil))))))
      (dRet (dCB (ofD (gN 4 sp_sums_behind)) (dCons (dD (dVar 0)) (dCons (dD (dVar 1)) (dCons (dD (dVar 2)) (dCons (dC (.int 1)) dNil)))))))
def sp_poured : DFd := fun ds R => ∃ (r : Row) (f : List Int) (n : Nat), ds = [rowD r, intsD f, .int (n : Nat)] ∧ r.Ok ∧ FillOk r.cups f ∧ n ≤ 10 ^ 30 ∧ R (.d (intsD (tot 1 r f n)))
theorem rd_poured : ∀ ds R, ds.length = 3 → sp_poured ds R → t_poured { nx := fun _ => R (.d .non), rt := finP R } (startD N_poured ds) := by
  rintro ds R - ⟨r, f, n, rfl, ok, hf, hn, h⟩
  simp only [↓e_var, ↓e_C, ↓e_dD, ↓e_d2, ↓e_neg, ↓e_isN, ↓e_B, ↓e_And, ↓e_Or, ↓e_Not, ↓e_AndV, ↓e_OrV, ↓e_NotV, ↓e_IfE, ↓e_Chain, ↓e_Ix, ↓e_Sl, ↓e_No, ↓e_Part, ↓e_nil, ↓e_cons, ↓e_Tup, ↓e_Lst, ↓e_CB, ↓e_ofD, ↓e_jOf, ↓e_Len, ↓e_Ints, ↓e_fMax, ↓e_fMin, ↓e_Tuple, ↓e_List, ↓e_Bls, ↓e_Is, ↓e_seq, ↓e_skip, ↓e_ret, ↓e_drop, ↓e_ifS, ↓e_never, ↓e_asg, ↓e_par2, ↓e_par3, ↓e_App, ↓e_For, ↓e_While, ↓e_Iter, ↓e_Rng1, ↓e_Rng2, ↓e_Zip2, ↓e_Zip3, ↓e_Lc, ↓e_Yes, ↓e_Dn0, ↓e_DnIn, ↓e_DnGet, ↓e_Dn1, iteG_t, iteG_f, iteG_d, iteG_n, iteG_a, iteG_o, iteG_x, iteG_e, iteG_s, iteG_l, iteG_y, iteF_t, iteF_f, varF_d, varF_o, toD_d, toD_l, toD_a, toDF_d, toDF_l, d2F_d, fAdd_i, fAdd_s, fAdd_t, fAdd_l, fSub_i, fMul_i, fMulR_i, fMulR_t, fMulR_l, fDiv_i, fMod_i, fPow_i, negF_i, cLt_i, cLe_i, cGt_i, cGe_i, cEq_e, cNe_e, isNF_n, isNF_t, isNF_i, dBF_b, boF_b, notVF_b, ch2F_d, chF_d, seqOf_t, seqOf_l, seqOf_o, seqOf_s, seqOf_a, seqF_t, seqF_l, seqF_o, kindOf_t, kindOf_l, kindOf_o, kindOf_a, kindF_t, kindF_l, kindF_o, ixF2_s, ixF_s, slF_t, slF_f, partF_i, allD_n, allD_c, tupF_s, lstF_s, ofDF_s, gInt_i, gInt_b, gAbs_i, gMax2_i, gMin2_i, gN_e, jF_s, lenF_s, intsF2_s, intsF_s, fSum_e, gTF_s, gLF_s, blsF_s, blsF2_s, isF_s, isF2_s, tyn_i, tyn_b, tyn_t, tyn_l, tyn_s, tyn_n, k_ii, k_ib, k_tt, gN1_d, gN1_o, gN1_a, gaF_d, gaF_o, gTup_e, gs_n, gs_c, par2G_e, par2F_s, svOf_d, svOf_o, par3G_e, par3F_s, stF2_s, stF_s, stG_e, gStL_e, gOwn_e, owL_a, apG_e, apI_e, iterF_t, iterF_l, rng1F_e, rng2F_e, zip2F_s, zip2G_e, zip3F_s, zip3G_e, seqD_t, seqD_l, finP_d, finP_o, finP_a, finF_d, finF_o, finJF_d, finJF_o, finJ_d, finJ_o, startD_e, startJ_e, dnI_e, dnIH_e, dnGF_e, dnGetF_e, dnSF_e, dnSH_e, gStDn_e, dn1F_e, atI_0, atI_1, atI_2, ixN_2_0, ixN_2_1, appK_eq, cmp_i, eqv_ii, eqv_nn, cast1, cast2, cast3, List.map_cons, List.map_nil, List.append_nil, List.nil_append, List.cons_append, List.replicate_succ, List.replicate_zero, List.length_cons, List.length_nil, List.getElem?_cons_zero, List.getElem?_cons_succ, List.set_cons_zero, List.set_cons_succ, Option.map_some, Bool.not_true, Bool.not_false, Nat.reduceAdd, Nat.reduceSub, Nat.zero_add, Nat.add_zero, if_true, if_false, decide_true, decide_false, and_true, true_and, Nat.reduceLeDiff, Nat.sub_zero, Nat.sub_self, t_poured, N_poured]
  refine ⟨rfl, r, f, n, _, rfl, ok, hf, by omega, ?_⟩
  simp only [↓e_var, ↓e_C, ↓e_dD, ↓e_d2, ↓e_neg, ↓e_isN, ↓e_B, ↓e_And, ↓e_Or, ↓e_Not, ↓e_AndV, ↓e_OrV, ↓e_NotV, ↓e_IfE, ↓e_Chain, ↓e_Ix, ↓e_Sl, ↓e_No, ↓e_Part, ↓e_nil, ↓e_cons, ↓e_Tup, ↓e_Lst, ↓e_CB, ↓e_ofD, ↓e_jOf, ↓e_Len, ↓e_Ints, ↓e_fMax, ↓e_fMin, ↓e_Tuple, ↓e_List, ↓e_Bls, ↓e_Is, ↓e_seq, ↓e_skip, ↓e_ret, ↓e_drop, ↓e_ifS, ↓e_never, ↓e_asg, ↓e_par2, ↓e_par3, ↓e_App, ↓e_For, ↓e_While, ↓e_Iter, ↓e_Rng1, ↓e_Rng2, ↓e_Zip2, ↓e_Zip3, ↓e_Lc, ↓e_Yes, ↓e_Dn0, ↓e_DnIn, ↓e_DnGet, ↓e_Dn1, iteG_t, iteG_f, iteG_d, iteG_n, iteG_a, iteG_o, iteG_x, iteG_e, iteG_s, iteG_l, iteG_y, iteF_t, iteF_f, varF_d, varF_o, toD_d, toD_l, toD_a, toDF_d, toDF_l, d2F_d, fAdd_i, fAdd_s, fAdd_t, fAdd_l, fSub_i, fMul_i, fMulR_i, fMulR_t, fMulR_l, fDiv_i, fMod_i, fPow_i, negF_i, cLt_i, cLe_i, cGt_i, cGe_i, cEq_e, cNe_e, isNF_n, isNF_t, isNF_i, dBF_b, boF_b, notVF_b, ch2F_d, chF_d, seqOf_t, seqOf_l, seqOf_o, seqOf_s, seqOf_a, seqF_t, seqF_l, seqF_o, kindOf_t, kindOf_l, kindOf_o, kindOf_a, kindF_t, kindF_l, kindF_o, ixF2_s, ixF_s, slF_t, slF_f, partF_i, allD_n, allD_c, tupF_s, lstF_s, ofDF_s, gInt_i, gInt_b, gAbs_i, gMax2_i, gMin2_i, gN_e, jF_s, lenF_s, intsF2_s, intsF_s, fSum_e, gTF_s, gLF_s, blsF_s, blsF2_s, isF_s, isF2_s, tyn_i, tyn_b, tyn_t, tyn_l, tyn_s, tyn_n, k_ii, k_ib, k_tt, gN1_d, gN1_o, gN1_a, gaF_d, gaF_o, gTup_e, gs_n, gs_c, par2G_e, par2F_s, svOf_d, svOf_o, par3G_e, par3F_s, stF2_s, stF_s, stG_e, gStL_e, gOwn_e, owL_a, apG_e, apI_e, iterF_t, iterF_l, rng1F_e, rng2F_e, zip2F_s, zip2G_e, zip3F_s, zip3G_e, seqD_t, seqD_l, finP_d, finP_o, finP_a, finF_d, finF_o, finJF_d, finJF_o, finJ_d, finJ_o, startD_e, startJ_e, dnI_e, dnIH_e, dnGF_e, dnGetF_e, dnSF_e, dnSH_e, gStDn_e, dn1F_e, atI_0, atI_1, atI_2, ixN_2_0, ixN_2_1, appK_eq, cmp_i, eqv_ii, eqv_nn, cast1, cast2, cast3, List.map_cons, List.map_nil, List.append_nil, List.nil_append, List.cons_append, List.replicate_succ, List.replicate_zero, List.length_cons, List.length_nil, List.getElem?_cons_zero, List.getElem?_cons_succ, List.set_cons_zero, List.set_cons_succ, Option.map_some, Bool.not_true, Bool.not_false, Nat.reduceAdd, Nat.reduceSub, Nat.zero_add, Nat.add_zero, if_true, if_false, decide_true, decide_false, and_true, true_and, Nat.reduceLeDiff, Nat.sub_zero, Nat.sub_self]
  exact ⟨rfl, r, f, n, 1, rfl, ok, hf, .inl rfl, h⟩
def Dx_poured (P : Program) (w : World) (K : PySem.W.Frag) (mg : Str → Option Value) (base : Heap) : Prop := ∃ f fd, Def P w K mg base 6 "poured" f fd ["row", "filling", "ticks"] (spP (bas P w K) 3 sp_poured)
theorem ok_poured {P : Program} {w : World} {K : PySem.W.Frag} {mg : Str → Option Value} {base : Heap} (M : Mg mg) (D_sums_behind : Dx_sums_behind P w K mg base) (D_need_all : Dx_need_all P w K mg base) {f : Addr} {fd : FuncData} (F : FunD K "poured" "poured" (defArgs s_poured) (defBody s_poured) (defScope s_poured) [] [] f fd) : FnOk P w K mg base CX0 6 f fd ["row", "filling", "ticks"] (spP (bas P w K) 3 sp_poured) := by
  obtain ⟨a_sums_behind, fd_sums_behind, D_sums_behind⟩ := D_sums_behind
  obtain ⟨a_need_all, fd_need_all, D_need_all⟩ := D_need_all
  exact okP (tb := t_poured) F sc_poured (fun cdv A outer s H E hr =>
    (dss_cons (ds_expr (de_call D_need_all.own (hr.mono (by decide)) (by rfl) (da_cons (de_data (de_var (pv 0))) (da_cons (de_data (de_var (pv 1))) (da_cons (de_data (de_var (pv 2))) (da_cons (de_gint (by rfl) M.c_MOST_TICKS) da_nil))))))
      (dss_one (ds_ret (de_call D_sums_behind.own (hr.mono (by decide)) (by rfl) (da_cons (de_data (de_var (pv 0))) (da_cons (de_data (de_var (pv 1))) (da_cons (de_data (de_var (pv 2))) (da_cons de_int da_nil))))))))) rd_poured
def N_lost : List Str := ["row", "filling", "ticks"]
theorem sc_lost : FnScope N_lost ["row", "filling", "ticks"] (defScope s_lost) := ⟨rfl, rfl, rfl, by decide +kernel, rfl, by decide +kernel, by decide +kernel⟩
def t_lost : DTS :=
    (dSeq (dDrop (dCB (ofD (gN 4 sp_need_all)) (dCons (dD (dVar 0)) (dCons (dD (dVar 1)) (dCons (dD (dVar 2)) (dCons (dC (.int 1000000000000000000000000000000)) dNil))))))
      (dRet (dCB (ofD (gN 4 sp_sums_behind)) (dCons (dD (dVar 0)) (dCons (dD (dVar 1)) (dCons (dD (dVar 2)) (dCons (dC (.int 2)) dNil)))))))
def sp_lost : DFd := fun ds R => ∃ (r : Row) (f : List Int) (n : Nat), ds = [rowD r, intsD f, .int (n : Nat)] ∧ r.Ok ∧ FillOk r.cups f ∧ n ≤ 10 ^ 30 ∧ R (.d (intsD (tot 2 r f n)))
theorem rd_lost : ∀ ds R, ds.length = 3 → sp_lost ds R → t_lost { nx := fun _ => R (.d .non), rt := finP R } (startD N_lost ds) := by
  rintro ds R - ⟨r, f, n, rfl, ok, hf, hn, h⟩
  simp only [↓e_var, ↓e_C, ↓e_dD, ↓e_d2, ↓e_neg, ↓e_isN, ↓e_B, ↓e_And, ↓e_Or, ↓e_Not, ↓e_AndV, ↓e_OrV, ↓e_NotV, ↓e_IfE, ↓e_Chain, ↓e_Ix, ↓e_Sl, ↓e_No, ↓e_Part, ↓e_nil, ↓e_cons, ↓e_Tup, ↓e_Lst, ↓e_CB, ↓e_ofD, ↓e_jOf, ↓e_Len, ↓e_Ints, ↓e_fMax, ↓e_fMin, ↓e_Tuple, ↓e_List, ↓e_Bls, ↓e_Is, ↓e_seq, ↓e_skip, ↓e_ret, ↓e_drop, ↓e_ifS, ↓e_never, ↓e_asg, ↓e_par2, ↓e_par3, ↓e_App, ↓e_For, ↓e_While, ↓e_Iter, ↓e_Rng1, ↓e_Rng2, ↓e_Zip2, ↓e_Zip3, ↓e_Lc, ↓e_Yes, ↓e_Dn0, ↓e_DnIn, ↓e_DnGet, ↓e_Dn1, iteG_t, iteG_f, iteG_d, iteG_n, iteG_a, iteG_o, iteG_x, iteG_e, iteG_s, iteG_l, iteG_y, iteF_t, iteF_f, varF_d, varF_o, toD_d, toD_l, toD_a, toDF_d, toDF_l, d2F_d, fAdd_i, fAdd_s, fAdd_t, fAdd_l, fSub_i, fMul_i, fMulR_i, fMulR_t, fMulR_l, fDiv_i, fMod_i, fPow_i, negF_i, cLt_i, cLe_i, cGt_i, cGe_i, cEq_e, cNe_e, isNF_n, isNF_t, isNF_i, dBF_b, boF_b, notVF_b, ch2F_d, chF_d, seqOf_t, seqOf_l, seqOf_o, seqOf_s, seqOf_a, seqF_t, seqF_l, seqF_o, kindOf_t, kindOf_l, kindOf_o, kindOf_a, kindF_t, kindF_l, kindF_o, ixF2_s, ixF_s, slF_t, slF_f, partF_i, allD_n, allD_c, tupF_s, lstF_s, ofDF_s, gInt_i, gInt_b, gAbs_i, gMax2_i, gMin2_i, gN_e, jF_s, lenF_s, intsF2_s, intsF_s, fSum_e, gTF_s, gLF_s, blsF_s, blsF2_s, isF_s, isF2_s, tyn_i, tyn_b, tyn_t, tyn_l, tyn_s, tyn_n, k_ii, k_ib, k_tt, gN1_d, gN1_o, gN1_a, gaF_d, gaF_o, gTup_e, gs_n, gs_c, par2G_e, par2F_s, svOf_d, svOf_o, par3G_e, par3F_s, stF2_s, stF_s, stG_e, gStL_e, gOwn_e, owL_a, apG_e, apI_e, iterF_t, iterF_l, rng1F_e, rng2F_e, zip2F_s, zip2G_e, zip3F_s, zip3G_e, seqD_t, seqD_l, finP_d, finP_o, finP_a, finF_d, finF_o, finJF_d, finJF_o, finJ_d, finJ_o, startD_e, startJ_e, dnI_e, dnIH_e, dnGF_e, dnGetF_e, dnSF_e, dnSH_e, gStDn_e, dn1F_e, atI_0, atI_1, atI_2, ixN_2_0, ixN_2_1, appK_eq, cmp_i, eqv_ii, eqv_nn, cast1, cast2, cast3, List.map_cons, List.map_nil, List.append_nil, List.nil_append, List.cons_append, List.replicate_succ, List.replicate_zero, List.length_cons, List.length_nil, List.getElem?_cons_zero, List.getElem?_cons_succ, List.set_cons_zero, List.set_cons_succ, Option.map_some, Bool.not_true, Bool.not_false, Nat.reduceAdd, Nat.reduceSub, Nat.zero_add, Nat.add_zero, if_true, if_false, decide_true, decide_false, and_true, true_and, Nat.reduceLeDiff, Nat.sub_zero, Nat.sub_self, t_lost, N_lost]
  refine ⟨rfl, r, f, n, _, rfl, ok, hf, by omega, ?_⟩
  simp only [↓e_var, ↓e_C, ↓e_dD, ↓e_d2, ↓e_neg, ↓e_isN, ↓e_B, ↓e_And, ↓e_Or, ↓e_Not, ↓e_AndV, ↓e_OrV, ↓e_NotV, ↓e_IfE, ↓e_Chain, ↓e_Ix, ↓e_Sl, ↓e_No, ↓e_Part, ↓e_nil, ↓e_cons, ↓e_Tup, ↓e_Lst, ↓e_CB, ↓e_ofD, ↓e_jOf, ↓e_Len, ↓e_Ints, ↓e_fMax, ↓e_fMin, ↓e_Tuple, ↓e_List, ↓e_Bls, ↓e_Is, ↓e_seq, ↓e_skip, ↓e_ret, ↓e_drop, ↓e_ifS, ↓e_never, ↓e_asg, ↓e_par2, ↓e_par3, ↓e_App, ↓e_For, ↓e_While, ↓e_Iter, ↓e_Rng1, ↓e_Rng2, ↓e_Zip2, ↓e_Zip3, ↓e_Lc, ↓e_Yes, ↓e_Dn0, ↓e_DnIn, ↓e_DnGet, ↓e_Dn1, iteG_t, iteG_f, iteG_d, iteG_n, iteG_a, iteG_o, iteG_x, iteG_e, iteG_s, iteG_l, iteG_y, iteF_t, iteF_f, varF_d, varF_o, toD_d, toD_l, toD_a, toDF_d, toDF_l, d2F_d, fAdd_i, fAdd_s, fAdd_t, fAdd_l, fSub_i, fMul_i, fMulR_i, fMulR_t, fMulR_l, fDiv_i, fMod_i, fPow_i, negF_i, cLt_i, cLe_i, cGt_i, cGe_i, cEq_e, cNe_e, isNF_n, isNF_t, isNF_i, dBF_b, boF_b, notVF_b, ch2F_d, chF_d, seqOf_t, seqOf_l, seqOf_o, seqOf_s, seqOf_a, seqF_t, seqF_l, seqF_o, kindOf_t, kindOf_l, kindOf_o, kindOf_a, kindF_t, kindF_l, kindF_o, ixF2_s, ixF_s, slF_t, slF_f, partF_i, allD_n, allD_c, tupF_s, lstF_s, ofDF_s, gInt_i, gInt_b, gAbs_i, gMax2_i, gMin2_i, gN_e, jF_s, lenF_s, intsF2_s, intsF_s, fSum_e, gTF_s, gLF_s, blsF_s, blsF2_s, isF_s, isF2_s, tyn_i, tyn_b, tyn_t, tyn_l, tyn_s, tyn_n, k_ii, k_ib, k_tt, gN1_d, gN1_o, gN1_a, gaF_d, gaF_o, gTup_e, gs_n, gs_c, par2G_e, par2F_s, svOf_d, svOf_o, par3G_e, par3F_s, stF2_s, stF_s, stG_e, gStL_e, gOwn_e, owL_a, apG_e, apI_e, iterF_t, iterF_l, rng1F_e, rng2F_e, zip2F_s, zip2G_e, zip3F_s, zip3G_e, seqD_t, seqD_l, finP_d, finP_o, finP_a, finF_d, finF_o, finJF_d, finJF_o, finJ_d, finJ_o, startD_e, startJ_e, dnI_e, dnIH_e, dnGF_e, dnGetF_e, dnSF_e, dnSH_e, gStDn_e, dn1F_e, atI_0, atI_1, atI_2, ixN_2_0, ixN_2_1, appK_eq, cmp_i, eqv_ii, eqv_nn, cast1, cast2, cast3, List.map_cons, List.map_nil, List.append_nil, List.nil_append, List.cons_append, List.replicate_succ, List.replicate_zero, List.length_cons, List.length_nil, List.getElem?_cons_zero, List.getElem?_cons_succ, List.set_cons_zero, List.set_cons_succ, Option.map_some, Bool.not_true, Bool.not_false, Nat.reduceAdd, Nat.reduceSub, Nat.zero_add, Nat.add_zero, if_true, if_false, decide_true, decide_false, and_true, true_and, Nat.reduceLeDiff, Nat.sub_zero, Nat.sub_self]
  exact ⟨rfl, r, f, n, 2, rfl, ok, hf, .inr rfl, h⟩
def Dx_lost (P : Program) (w : World) (K : PySem.W.Frag) (mg : Str → Option Value) (base : Heap) : Prop := ∃ f fd, Def P w K mg base 6 "lost" f fd ["row", "filling", "ticks"] (spP (bas P w K) 3 sp_lost)
theorem ok_lost {P : Program} {w : World} {K : PySem.W.Frag} {mg : Str → Option Value} {base : Heap} (M : Mg mg) (D_sums_behind : Dx_sums_behind P w K mg base) (D_need_all : Dx_need_all P w K mg base) {f : Addr} {fd : FuncData} (F : FunD K "lost" "lost" (defArgs s_lost) (defBody s_lost) (defScope s_lost) [] [] f fd) : FnOk P w K mg base CX0 6 f fd ["row", "filling", "ticks"] (spP (bas P w K) 3 sp_lost) := by
  obtain ⟨a_sums_behind, fd_sums_behind, D_sums_behind⟩ := D_sums_behind
  obtain ⟨a_need_all, fd_need_all, D_need_all⟩ := D_need_all
  exact okP (tb := t_lost) F sc_lost (fun cdv A outer s H E hr =>
    (dss_cons (ds_expr (de_call D_need_all.own (hr.mono (by decide)) (by rfl) (da_cons (de_data (de_var (pv 0))) (da_cons (de_data (de_var (pv 1))) (da_cons (de_data (de_var (pv 2))) (da_cons (de_gint (by rfl) M.c_MOST_TICKS) da_nil))))))
      (dss_one (ds_ret (de_call D_sums_behind.own (hr.mono (by decide)) (by rfl) (da_cons (de_data (de_var (pv 0))) (da_cons (de_data (de_var (pv 1))) (da_cons (de_data (de_var (pv 2))) (da_cons de_int da_nil))))))))) rd_lost
end DL

set_option Elab.async false
set_option linter.all false
set_option maxRecDepth 100000
set_option maxHeartbeats 0
namespace DL
open PySem PySem.Spec L2
open PyProof.Rows hiding St
/-! ### the law's own draws -/
def JarOk (a b : Int) : Prop := 0 ≤ a ∧ a < 10 ^ 240 ∧ 0 ≤ b ∧ b ≤ 2147483179
def jarO (a b : Int) : OV := .lst [.int a, .int b]
theorem MulOk.wide {i j : Int} {n m : Nat} (h : i.natAbs < 2 ^ n) (k : j.natAbs < 2 ^ m) (q : n + m < 1000000) (n0 : 0 < n) (m0 : 0 < m) : MulOk i j := by
  have lg : ∀ x n : Nat, x < 2 ^ n → 0 < n → x.log2 < n := fun x n h h0 => by
    by_cases e : x = 0
    · subst e; exact h0
    · exact (Nat.log2_lt e).mpr h
  refine .inr ?_
  have h1 := lg _ _ h n0
  have h2 := lg _ _ k m0
  unfold CMulW
  omega
theorem CPow.small {i j : Int} (h : 0 ≤ j) (k : j ≤ 1000) (h1 : i.natAbs < 2 ^ 64) : CPow i j := ⟨h, by omega, h1⟩
def N__law_jar : List Str := ["script", "k", "cell"]
theorem sc__law_jar : FnScope N__law_jar ["script", "k"] (defScope s__law_jar) := ⟨rfl, rfl, rfl, by decide +kernel, rfl, by decide +kernel, by decide +kernel⟩
def t__law_jar : DTS :=
    (dSeq (dAsg (d2 fAdd (dD (d2 fMul (dD (dC (.int 33347))) (dD (dVar 1)))) (dD (dC (.int 83)))) (gN1 2))
      (dSeq (dIfS (dB (d2 cLt (dD (dVar 1)) (dD (dCB gLen (dCons (dVar 0) dNil))))) (dAsg (d2 fMod (dD (dCB (ofD gAbs) (dCons (dD (dCB (ofD gInt) (dCons (dD (dIx (dVar 0) (dVar 1))) dNil))) dNil))) (dD (d2 fMul (dD (d2 fMul (dD (d2 fMul (dD (d2 fPow (dD (dC (.int 10))) (dD (dC (.int 60))))) (dD (d2 fPow (dD (dC (.int 10))) (dD (dC (.int 60))))))) (dD (d2 fPow (dD (dC (.int 10))) (dD (dC (.int 60))))))) (dD (d2 fPow (dD (dC (.int 10))) (dD (dC (.int 60)))))))) (gN1 2)) (dIfS (dB (d2 cGt (dD (dCB gLen (dCons (dVar 0) dNil))) (dD (dC (.int 0))))) (dAsg (d2 fAdd (dD (dVar 2)) (dD (d2 fMod (dD (dCB (ofD gAbs) (dCons (dD (dCB (ofD gInt) (dCons (dD (dIx (dVar 0) (dC (.int 0)))) dNil))) dNil))) (dD (dC (.int 1000289)))))) (gN1 2)) dSkip))
      (dRet (dLst (dCons (dD (dIfE (dB (d2 cGe (dD (dVar 2)) (dD (d2 fPow (dD (dC (.int 10))) (dD (dC (.int 18))))))) (dVar 2) (dC (.int 0)))) (dCons (dD (d2 fAdd (dD (d2 fMod (dD (dCB (ofD gInt) (dCons (dD (d2 fAdd (dD (d2 fAdd (dD (d2 fMul (dD (d2 fMod (dD (dVar 2)) (dD (dC (.int 2147483179))))) (dD (dC (.int 9))))) (dD (d2 fMul (dD (dC (.int 61))) (dD (dVar 1)))))) (dD (dC (.int 19))))) dNil))) (dD (dC (.int 2147483179))))) (dD (dC (.int 1))))) dNil))))))
def sp__law_jar : DFd := fun ds R => ∃ (ns : List Int) (k : Int), ds = [.scr ns, .int k] ∧ 0 ≤ k ∧ k ≤ 100 ∧ ∀ a b, JarOk a b → R (.ow (jarO a b))
theorem rd__law_jar : ∀ ds R, ds.length = 2 → sp__law_jar ds R → t__law_jar { nx := fun _ => R (.d .non), rt := finP R } (startD N__law_jar ds) := by
  rintro ds R - ⟨ns, k, rfl, h0, h1, h⟩
  have fin : ∀ c : Int, 0 ≤ c → c < 10 ^ 240 → ∀ x y : Int, x = (if 10 ^ 18 ≤ c then c else 0) → R (.ow (.lst [.int x, .int ((c % 2147483179 * 9 + 61 * k + 19) % 2147483179 + 1)])) := fun c h0 h1 x y e => by
    refine h _ _ ?_
    subst e
    have := Int.emod_lt_of_pos (c % 2147483179 * 9 + 61 * k + 19) (show (0 : Int) < 2147483179 by decide)
    have := Int.emod_nonneg (c % 2147483179 * 9 + 61 * k + 19) (show (2147483179 : Int) ≠ 0 by decide)
    unfold JarOk
    split <;> omega
  have p60 : (10 : Int) ^ Int.toNat 60 = 10 ^ 60 := rfl
  have p18 : (10 : Int) ^ Int.toNat 18 = 10 ^ 18 := rfl
  have cp : ∀ j : Int, 0 ≤ j → j ≤ 1000 → CPow 10 j := fun j a b => CPow.small a b (by decide)
  have big : (10 : Int) ^ 60 * 10 ^ 60 * 10 ^ 60 * 10 ^ 60 = 10 ^ 240 := by decide +kernel
  have m1 : MulOk (10 ^ 60) (10 ^ 60) := MulOk.wide (n := 900) (m := 900) (by decide +kernel) (by decide +kernel) (by decide) (by decide) (by decide)
  have m2 : MulOk (10 ^ 60 * 10 ^ 60) (10 ^ 60) := MulOk.wide (n := 900) (m := 900) (by decide +kernel) (by decide +kernel) (by decide) (by decide) (by decide)
  have m3 : MulOk (10 ^ 60 * 10 ^ 60 * 10 ^ 60) (10 ^ 60) := MulOk.wide (n := 900) (m := 900) (by decide +kernel) (by decide +kernel) (by decide) (by decide) (by decide)
  have m4 : MulOk 61 k := MulOk.small (by decide) (by decide)
  have m5 : ∀ c : Int, MulOk c 9 := fun c => MulOk.small' (by decide) (by decide)
  have q18 : CPow 10 18 := cp 18 (by decide) (by decide)
  have q60 : CPow 10 60 := cp 60 (by decide) (by decide)
  have z1 : (0 : Int) < 2147483179 := by decide
  simp only [↓e_var, ↓e_C, ↓e_dD, ↓e_d2, ↓e_neg, ↓e_isN, ↓e_B, ↓e_And, ↓e_Or, ↓e_Not, ↓e_AndV, ↓e_OrV, ↓e_NotV, ↓e_IfE, ↓e_Chain, ↓e_Ix, ↓e_Sl, ↓e_No, ↓e_Part, ↓e_nil, ↓e_cons, ↓e_Tup, ↓e_Lst, ↓e_CB, ↓e_ofD, ↓e_jOf, ↓e_Len, ↓e_Ints, ↓e_fMax, ↓e_fMin, ↓e_Tuple, ↓e_List, ↓e_Bls, ↓e_Is, ↓e_seq, ↓e_skip, ↓e_ret, ↓e_drop, ↓e_ifS, ↓e_never, ↓e_asg, ↓e_par2, ↓e_par3, ↓e_App, ↓e_For, ↓e_While, ↓e_Iter, ↓e_Rng1, ↓e_Rng2, ↓e_Zip2, ↓e_Zip3, ↓e_Lc, ↓e_Yes, ↓e_Dn0, ↓e_DnIn, ↓e_DnGet, ↓e_Dn1, iteG_t, iteG_f, iteG_d, iteG_n, iteG_a, iteG_o, iteG_x, iteG_e, iteG_s, iteG_l, iteG_y, iteF_t, iteF_f, varF_d, varF_o, toD_d, toD_l, toD_a, toDF_d, toDF_l, d2F_d, fAdd_i, fAdd_s, fAdd_t, fAdd_l, fSub_i, fMul_i, fMulR_i, fMulR_t, fMulR_l, fDiv_i, fMod_i, fPow_i, negF_i, cLt_i, cLe_i, cGt_i, cGe_i, cEq_e, cNe_e, isNF_n, isNF_t, isNF_i, dBF_b, boF_b, notVF_b, ch2F_d, chF_d, seqOf_t, seqOf_l, seqOf_o, seqOf_s, seqOf_a, seqF_t, seqF_l, seqF_o, kindOf_t, kindOf_l, kindOf_o, kindOf_a, kindF_t, kindF_l, kindF_o, ixF2_s, ixF_s, slF_t, slF_f, partF_i, allD_n, allD_c, tupF_s, lstF_s, ofDF_s, gInt_i, gInt_b, gAbs_i, gMax2_i, gMin2_i, gN_e, jF_s, lenF_s, intsF2_s, intsF_s, fSum_e, gTF_s, gLF_s, blsF_s, blsF2_s, isF_s, isF2_s, tyn_i, tyn_b, tyn_t, tyn_l, tyn_s, tyn_n, k_ii, k_ib, k_tt, gN1_d, gN1_o, gN1_a, gaF_d, gaF_o, gTup_e, gs_n, gs_c, par2G_e, par2F_s, svOf_d, svOf_o, par3G_e, par3F_s, stF2_s, stF_s, stG_e, gStL_e, gOwn_e, owL_a, apG_e, apI_e, iterF_t, iterF_l, rng1F_e, rng2F_e, zip2F_s, zip2G_e, zip3F_s, zip3G_e, seqD_t, seqD_l, finP_d, finP_o, finP_a, finF_d, finF_o, finJF_d, finJF_o, finJ_d, finJ_o, startD_e, startJ_e, dnI_e, dnIH_e, dnGF_e, dnGetF_e, dnSF_e, dnSH_e, gStDn_e, dn1F_e, atI_0, atI_1, atI_2, ixN_2_0, ixN_2_1, appK_eq, cmp_i, eqv_ii, eqv_nn, cast1, cast2, cast3, List.map_cons, List.map_nil, List.append_nil, List.nil_append, List.cons_append, List.replicate_succ, List.replicate_zero, List.length_cons, List.length_nil, List.getElem?_cons_zero, List.getElem?_cons_succ, List.set_cons_zero, List.set_cons_succ, Option.map_some, Bool.not_true, Bool.not_false, Nat.reduceAdd, Nat.reduceSub, Nat.zero_add, Nat.add_zero, if_true, if_false, decide_true, decide_false, and_true, true_and, Nat.reduceLeDiff, Nat.sub_zero, Nat.sub_self, t__law_jar, N__law_jar, p60, p18]
  refine ⟨MulOk.small (by decide) (by decide), iteF_d (fun q => ?_) (fun q => iteF_d (fun q => ?_) (fun q => ?_))⟩
  · have e : atI (ns.map D.int) k = some (.int (ns.getD k.toNat 0)) := by
      have := atI_ints (t := ns) (k := k.toNat) (by rw [List.length_map] at q; omega)
      rwa [Int.toNat_of_nonneg h0] at this
    simp only [↓e_var, ↓e_C, ↓e_dD, ↓e_d2, ↓e_neg, ↓e_isN, ↓e_B, ↓e_And, ↓e_Or, ↓e_Not, ↓e_AndV, ↓e_OrV, ↓e_NotV, ↓e_IfE, ↓e_Chain, ↓e_Ix, ↓e_Sl, ↓e_No, ↓e_Part, ↓e_nil, ↓e_cons, ↓e_Tup, ↓e_Lst, ↓e_CB, ↓e_ofD, ↓e_jOf, ↓e_Len, ↓e_Ints, ↓e_fMax, ↓e_fMin, ↓e_Tuple, ↓e_List, ↓e_Bls, ↓e_Is, ↓e_seq, ↓e_skip, ↓e_ret, ↓e_drop, ↓e_ifS, ↓e_never, ↓e_asg, ↓e_par2, ↓e_par3, ↓e_App, ↓e_For, ↓e_While, ↓e_Iter, ↓e_Rng1, ↓e_Rng2, ↓e_Zip2, ↓e_Zip3, ↓e_Lc, ↓e_Yes, ↓e_Dn0, ↓e_DnIn, ↓e_DnGet, ↓e_Dn1, iteG_t, iteG_f, iteG_d, iteG_n, iteG_a, iteG_o, iteG_x, iteG_e, iteG_s, iteG_l, iteG_y, iteF_t, iteF_f, varF_d, varF_o, toD_d, toD_l, toD_a, toDF_d, toDF_l, d2F_d, fAdd_i, fAdd_s, fAdd_t, fAdd_l, fSub_i, fMul_i, fMulR_i, fMulR_t, fMulR_l, fDiv_i, fMod_i, fPow_i, negF_i, cLt_i, cLe_i, cGt_i, cGe_i, cEq_e, cNe_e, isNF_n, isNF_t, isNF_i, dBF_b, boF_b, notVF_b, ch2F_d, chF_d, seqOf_t, seqOf_l, seqOf_o, seqOf_s, seqOf_a, seqF_t, seqF_l, seqF_o, kindOf_t, kindOf_l, kindOf_o, kindOf_a, kindF_t, kindF_l, kindF_o, ixF2_s, ixF_s, slF_t, slF_f, partF_i, allD_n, allD_c, tupF_s, lstF_s, ofDF_s, gInt_i, gInt_b, gAbs_i, gMax2_i, gMin2_i, gN_e, jF_s, lenF_s, intsF2_s, intsF_s, fSum_e, gTF_s, gLF_s, blsF_s, blsF2_s, isF_s, isF2_s, tyn_i, tyn_b, tyn_t, tyn_l, tyn_s, tyn_n, k_ii, k_ib, k_tt, gN1_d, gN1_o, gN1_a, gaF_d, gaF_o, gTup_e, gs_n, gs_c, par2G_e, par2F_s, svOf_d, svOf_o, par3G_e, par3F_s, stF2_s, stF_s, stG_e, gStL_e, gOwn_e, owL_a, apG_e, apI_e, iterF_t, iterF_l, rng1F_e, rng2F_e, zip2F_s, zip2G_e, zip3F_s, zip3G_e, seqD_t, seqD_l, finP_d, finP_o, finP_a, finF_d, finF_o, finJF_d, finJF_o, finJ_d, finJ_o, startD_e, startJ_e, dnI_e, dnIH_e, dnGF_e, dnGetF_e, dnSF_e, dnSH_e, gStDn_e, dn1F_e, atI_0, atI_1, atI_2, ixN_2_0, ixN_2_1, appK_eq, cmp_i, eqv_ii, eqv_nn, cast1, cast2, cast3, List.map_cons, List.map_nil, List.append_nil, List.nil_append, List.cons_append, List.replicate_succ, List.replicate_zero, List.length_cons, List.length_nil, List.getElem?_cons_zero, List.getElem?_cons_succ, List.set_cons_zero, List.set_cons_succ, Option.map_some, Bool.not_true, Bool.not_false, Nat.reduceAdd, Nat.reduceSub, Nat.zero_add, Nat.add_zero, if_true, if_false, decide_true, decide_false, and_true, true_and, Nat.reduceLeDiff, Nat.sub_zero, Nat.sub_self, e, p60, p18, m1, m2, m3, q18, q60, m4, m5, z1]
    generalize (if ns.getD k.toNat 0 < 0 then -ns.getD k.toNat 0 else ns.getD k.toNat 0) = y
    rw [big]
    have b0 : (0 : Int) < 10 ^ 240 := by decide +kernel
    have c0 := Int.emod_nonneg y (show (10 : Int) ^ 240 ≠ 0 by omega)
    have c1 := Int.emod_lt_of_pos y b0
    refine ⟨b0, ?_⟩
    generalize y % 10 ^ 240 = c at *
    have f := fin c c0 c1 _ 0 rfl
    refine iteF_d (fun q => ?_) (fun q => ?_)
    · rwa [if_pos q] at f
    · rwa [if_neg q] at f
  · have e : atI (ns.map D.int) 0 = some (.int (ns.getD 0 0)) := atI_ints (t := ns) (k := 0) (by rw [List.length_map] at q; omega)
    simp only [↓e_var, ↓e_C, ↓e_dD, ↓e_d2, ↓e_neg, ↓e_isN, ↓e_B, ↓e_And, ↓e_Or, ↓e_Not, ↓e_AndV, ↓e_OrV, ↓e_NotV, ↓e_IfE, ↓e_Chain, ↓e_Ix, ↓e_Sl, ↓e_No, ↓e_Part, ↓e_nil, ↓e_cons, ↓e_Tup, ↓e_Lst, ↓e_CB, ↓e_ofD, ↓e_jOf, ↓e_Len, ↓e_Ints, ↓e_fMax, ↓e_fMin, ↓e_Tuple, ↓e_List, ↓e_Bls, ↓e_Is, ↓e_seq, ↓e_skip, ↓e_ret, ↓e_drop, ↓e_ifS, ↓e_never, ↓e_asg, ↓e_par2, ↓e_par3, ↓e_App, ↓e_For, ↓e_While, ↓e_Iter, ↓e_Rng1, ↓e_Rng2, ↓e_Zip2, ↓e_Zip3, ↓e_Lc, ↓e_Yes, ↓e_Dn0, ↓e_DnIn, ↓e_DnGet, ↓e_Dn1, iteG_t, iteG_f, iteG_d, iteG_n, iteG_a, iteG_o, iteG_x, iteG_e, iteG_s, iteG_l, iteG_y, iteF_t, iteF_f, varF_d, varF_o, toD_d, toD_l, toD_a, toDF_d, toDF_l, d2F_d, fAdd_i, fAdd_s, fAdd_t, fAdd_l, fSub_i, fMul_i, fMulR_i, fMulR_t, fMulR_l, fDiv_i, fMod_i, fPow_i, negF_i, cLt_i, cLe_i, cGt_i, cGe_i, cEq_e, cNe_e, isNF_n, isNF_t, isNF_i, dBF_b, boF_b, notVF_b, ch2F_d, chF_d, seqOf_t, seqOf_l, seqOf_o, seqOf_s, seqOf_a, seqF_t, seqF_l, seqF_o, kindOf_t, kindOf_l, kindOf_o, kindOf_a, kindF_t, kindF_l, kindF_o, ixF2_s, ixF_s, slF_t, slF_f, partF_i, allD_n, allD_c, tupF_s, lstF_s, ofDF_s, gInt_i, gInt_b, gAbs_i, gMax2_i, gMin2_i, gN_e, jF_s, lenF_s, intsF2_s, intsF_s, fSum_e, gTF_s, gLF_s, blsF_s, blsF2_s, isF_s, isF2_s, tyn_i, tyn_b, tyn_t, tyn_l, tyn_s, tyn_n, k_ii, k_ib, k_tt, gN1_d, gN1_o, gN1_a, gaF_d, gaF_o, gTup_e, gs_n, gs_c, par2G_e, par2F_s, svOf_d, svOf_o, par3G_e, par3F_s, stF2_s, stF_s, stG_e, gStL_e, gOwn_e, owL_a, apG_e, apI_e, iterF_t, iterF_l, rng1F_e, rng2F_e, zip2F_s, zip2G_e, zip3F_s, zip3G_e, seqD_t, seqD_l, finP_d, finP_o, finP_a, finF_d, finF_o, finJF_d, finJF_o, finJ_d, finJ_o, startD_e, startJ_e, dnI_e, dnIH_e, dnGF_e, dnGetF_e, dnSF_e, dnSH_e, gStDn_e, dn1F_e, atI_0, atI_1, atI_2, ixN_2_0, ixN_2_1, appK_eq, cmp_i, eqv_ii, eqv_nn, cast1, cast2, cast3, List.map_cons, List.map_nil, List.append_nil, List.nil_append, List.cons_append, List.replicate_succ, List.replicate_zero, List.length_cons, List.length_nil, List.getElem?_cons_zero, List.getElem?_cons_succ, List.set_cons_zero, List.set_cons_succ, Option.map_some, Bool.not_true, Bool.not_false, Nat.reduceAdd, Nat.reduceSub, Nat.zero_add, Nat.add_zero, if_true, if_false, decide_true, decide_false, and_true, true_and, Nat.reduceLeDiff, Nat.sub_zero, Nat.sub_self, e, p60, p18, m1, m2, m3, q18, q60, m4, m5, z1]
    generalize (if ns.getD 0 0 < 0 then -ns.getD 0 0 else ns.getD 0 0) = y
    have c0 := Int.emod_nonneg y (show (1000289 : Int) ≠ 0 by decide)
    have c1 := Int.emod_lt_of_pos y (show (0 : Int) < 1000289 by decide)
    refine ⟨by decide, ?_⟩
    have b1 : (10 : Int) ^ 10 < 10 ^ 240 := by decide +kernel
    generalize y % 1000289 = c at *
    have f := fin (33347 * k + 83 + c) (by omega) (by omega) _ 0 rfl
    refine iteF_d (fun q => ?_) (fun q => ?_)
    · rwa [if_pos q] at f
    · rwa [if_neg q] at f
  · simp only [↓e_var, ↓e_C, ↓e_dD, ↓e_d2, ↓e_neg, ↓e_isN, ↓e_B, ↓e_And, ↓e_Or, ↓e_Not, ↓e_AndV, ↓e_OrV, ↓e_NotV, ↓e_IfE, ↓e_Chain, ↓e_Ix, ↓e_Sl, ↓e_No, ↓e_Part, ↓e_nil, ↓e_cons, ↓e_Tup, ↓e_Lst, ↓e_CB, ↓e_ofD, ↓e_jOf, ↓e_Len, ↓e_Ints, ↓e_fMax, ↓e_fMin, ↓e_Tuple, ↓e_List, ↓e_Bls, ↓e_Is, ↓e_seq, ↓e_skip, ↓e_ret, ↓e_drop, ↓e_ifS, ↓e_never, ↓e_asg, ↓e_par2, ↓e_par3, ↓e_App, ↓e_For, ↓e_While, ↓e_Iter, ↓e_Rng1, ↓e_Rng2, ↓e_Zip2, ↓e_Zip3, ↓e_Lc, ↓e_Yes, ↓e_Dn0, ↓e_DnIn, ↓e_DnGet, ↓e_Dn1, iteG_t, iteG_f, iteG_d, iteG_n, iteG_a, iteG_o, iteG_x, iteG_e, iteG_s, iteG_l, iteG_y, iteF_t, iteF_f, varF_d, varF_o, toD_d, toD_l, toD_a, toDF_d, toDF_l, d2F_d, fAdd_i, fAdd_s, fAdd_t, fAdd_l, fSub_i, fMul_i, fMulR_i, fMulR_t, fMulR_l, fDiv_i, fMod_i, fPow_i, negF_i, cLt_i, cLe_i, cGt_i, cGe_i, cEq_e, cNe_e, isNF_n, isNF_t, isNF_i, dBF_b, boF_b, notVF_b, ch2F_d, chF_d, seqOf_t, seqOf_l, seqOf_o, seqOf_s, seqOf_a, seqF_t, seqF_l, seqF_o, kindOf_t, kindOf_l, kindOf_o, kindOf_a, kindF_t, kindF_l, kindF_o, ixF2_s, ixF_s, slF_t, slF_f, partF_i, allD_n, allD_c, tupF_s, lstF_s, ofDF_s, gInt_i, gInt_b, gAbs_i, gMax2_i, gMin2_i, gN_e, jF_s, lenF_s, intsF2_s, intsF_s, fSum_e, gTF_s, gLF_s, blsF_s, blsF2_s, isF_s, isF2_s, tyn_i, tyn_b, tyn_t, tyn_l, tyn_s, tyn_n, k_ii, k_ib, k_tt, gN1_d, gN1_o, gN1_a, gaF_d, gaF_o, gTup_e, gs_n, gs_c, par2G_e, par2F_s, svOf_d, svOf_o, par3G_e, par3F_s, stF2_s, stF_s, stG_e, gStL_e, gOwn_e, owL_a, apG_e, apI_e, iterF_t, iterF_l, rng1F_e, rng2F_e, zip2F_s, zip2G_e, zip3F_s, zip3G_e, seqD_t, seqD_l, finP_d, finP_o, finP_a, finF_d, finF_o, finJF_d, finJF_o, finJ_d, finJ_o, startD_e, startJ_e, dnI_e, dnIH_e, dnGF_e, dnGetF_e, dnSF_e, dnSH_e, gStDn_e, dn1F_e, atI_0, atI_1, atI_2, ixN_2_0, ixN_2_1, appK_eq, cmp_i, eqv_ii, eqv_nn, cast1, cast2, cast3, List.map_cons, List.map_nil, List.append_nil, List.nil_append, List.cons_append, List.replicate_succ, List.replicate_zero, List.length_cons, List.length_nil, List.getElem?_cons_zero, List.getElem?_cons_succ, List.set_cons_zero, List.set_cons_succ, Option.map_some, Bool.not_true, Bool.not_false, Nat.reduceAdd, Nat.reduceSub, Nat.zero_add, Nat.add_zero, if_true, if_false, decide_true, decide_false, and_true, true_and, Nat.reduceLeDiff, Nat.sub_zero, Nat.sub_self, p60, p18, m1, m2, m3, q18, q60, m4, m5, z1]
    have b1 : (10 : Int) ^ 10 < 10 ^ 240 := by decide +kernel
    have f := fin (33347 * k + 83) (by omega) (by omega) _ 0 rfl
    refine iteF_d (fun q => ?_) (fun q => ?_)
    · rwa [if_pos q] at f
    · rwa [if_neg q] at f
def Dx__law_jar (P : Program) (w : World) (K : PySem.W.Frag) (mg : Str → Option Value) (base : Heap) : Prop := ∃ f fd, Def P w K mg base 1 "_law_jar" f fd ["script", "k"] (spP (bas P w K) 2 sp__law_jar)
theorem ok__law_jar {P : Program} {w : World} {K : PySem.W.Frag} {mg : Str → Option Value} {base : Heap} (M : Mg mg) {f : Addr} {fd : FuncData} (F : FunD K "_law_jar" "_law_jar" (defArgs s__law_jar) (defBody s__law_jar) (defScope s__law_jar) [] [] f fd) : FnOk P w K mg base CX0 1 f fd ["script", "k"] (spP (bas P w K) 2 sp__law_jar) := by
  exact okP (tb := t__law_jar) F sc__law_jar (fun cdv A outer s H E hr =>
    (dss_cons (ds_asg (de_add (de_mul de_int (de_var (pv 1))) de_int) (dg_name sc__law_jar.nd (i := 2) rfl (by first | exact .inl rfl | exact .inr rfl) (by first | exact .inl rfl | exact .inr (by decide))))
      (dss_cons (ds_if (dt_lt (de_var (pv 1)) (de_callB (call_len_seq) (snd_len) (by rfl) M.f_len rfl (da_cons (de_var (pv 0)) da_nil))) (dss_one (ds_asg (de_mod (de_callB (call_abs) (snd_abs.toC) (by rfl) M.f_abs rfl (da_cons (de_data (de_callTy (call_int1) (snd_int1.toC) (by rfl) M.f_int rfl (da_cons (de_data (de_ix (de_var (pv 0)) (de_var (pv 1)))) da_nil))) da_nil)) (de_mul (de_mul (de_mul (de_pow de_int de_int) (de_pow de_int de_int)) (de_pow de_int de_int)) (de_pow de_int de_int))) (dg_name sc__law_jar.nd (i := 2) rfl (by first | exact .inl rfl | exact .inr rfl) (by first | exact .inl rfl | exact .inr (by decide))))) (dss_one (ds_if (dt_gt (de_callB (call_len_seq) (snd_len) (by rfl) M.f_len rfl (da_cons (de_var (pv 0)) da_nil)) de_int) (dss_one (ds_asg (de_add (de_var (pv 2)) (de_mod (de_callB (call_abs) (snd_abs.toC) (by rfl) M.f_abs rfl (da_cons (de_data (de_callTy (call_int1) (snd_int1.toC) (by rfl) M.f_int rfl (da_cons (de_data (de_ix (de_var (pv 0)) de_int)) da_nil))) da_nil)) de_int)) (dg_name sc__law_jar.nd (i := 2) rfl (by first | exact .inl rfl | exact .inr rfl) (by first | exact .inl rfl | exact .inr (by decide))))) dss_nil)))
      (dss_one (ds_ret (de_lst (da_cons (de_data (de_if (dt_ge (de_var (pv 2)) (de_pow de_int de_int)) (de_var (pv 2)) de_int)) (da_cons (de_data (de_add (de_mod (de_callTy (call_int1) (snd_int1.toC) (by rfl) M.f_int rfl (da_cons (de_data (de_add (de_add (de_mul (de_mod (de_var (pv 2)) de_int) de_int) (de_mul de_int (de_var (pv 1)))) de_int)) da_nil)) de_int) de_int)) da_nil)))))))) rd__law_jar
def N__law_drip : List Str := ["jar", "many", "found", "wide"]
theorem sc__law_drip : FnScope N__law_drip ["jar", "many"] (defScope s__law_drip) := ⟨rfl, rfl, rfl, by decide +kernel, rfl, by decide +kernel, by decide +kernel⟩
def t__law_drip : DTS :=
    (dSeq (dIfS (dB (d2 cGt (dD (dIx (dVar 0) (dC (.int 0)))) (dD (dC (.int 0))))) (dSeq (dAsg (d2 fMod (dD (dCB (ofD gInt) (dCons (dD (dIx (dVar 0) (dC (.int 0)))) dNil))) (dD (dVar 1))) (gN1 2))
      (dSeq (dAsg (d2 fDiv (dD (dIx (dVar 0) (dC (.int 0)))) (dD (dVar 1))) (gStL (dVar 0) (dC (.int 0))))
      (dRet (dVar 2)))) dSkip)
      (dSeq (dAsg (dTup (dCons (dC (.int 0)) (dCons (dC (.int 1)) dNil))) (gTupD 2 (gsCons (gN1 2) (gsCons (gN1 3) gsNil))))
      (dSeq (dWhile (dOr (dB (d2 cLt (dD (dVar 3)) (dD (dVar 1)))) (dB (d2 cEq (dD (dVar 3)) (dD (dC (.int 1)))))) (dSeq (dAsg (d2 fMod (dD (dCB (ofD gInt) (dCons (dD (d2 fAdd (dD (d2 fMul (dD (dIx (dVar 0) (dC (.int 1)))) (dD (dC (.int 29761))))) (dD (dC (.int 71))))) dNil))) (dD (dC (.int 2147483179)))) (gStL (dVar 0) (dC (.int 1))))
      (dSeq (dAsg (d2 fAdd (dD (d2 fMul (dD (dVar 2)) (dD (dC (.int 8192))))) (dD (d2 fMod (dD (dCB (ofD gInt) (dCons (dD (d2 fDiv (dD (dIx (dVar 0) (dC (.int 1)))) (dD (dC (.int 65587))))) dNil))) (dD (dC (.int 8192)))))) (gN1 2))
      (dAsg (d2 fMul (dD (dVar 3)) (dD (dC (.int 8192)))) (gN1 3)))))
      (dRet (d2 fMod (dD (dCB (ofD gInt) (dCons (dD (dVar 2)) dNil))) (dD (dVar 1)))))))
def sp__law_drip : DJ := fun o ds R => ∃ a b many : Int, o = jarO a b ∧ ds = [.int many] ∧ JarOk a b ∧ 1 ≤ many ∧ many ≤ 10 ^ 40 ∧ ∀ v a' b', 0 ≤ v → v < many → JarOk a' b' → R (.d (.int v)) (jarO a' b')
theorem rd__law_drip : ∀ o ds R, ds.length = 1 → sp__law_drip o ds R → t__law_drip { nx := fun ρ => finJ R (.d .non) ρ, rt := finJ R } (startJ N__law_drip o ds) := by
  rintro o ds R - ⟨a, b, many, rfl, rfl, jo, h1, h2, h⟩
  obtain ⟨j1, j2, j3, j4⟩ := jo
  have lg : many.natAbs.log2 < 9000 := by
    have e : (10 : Int) ^ 40 < 2 ^ 200 := by decide +kernel
    have : many.natAbs.log2 < 200 := (Nat.log2_lt (by omega)).mpr (by
      have e2 : ((many.natAbs : Nat) : Int) < ((2 ^ 200 : Nat) : Int) := by
        have e3 : ((2 ^ 200 : Nat) : Int) = 2 ^ 200 := by decide +kernel
        omega
      exact Int.ofNat_lt.mp e2)
    omega
  simp only [↓e_var, ↓e_C, ↓e_dD, ↓e_d2, ↓e_neg, ↓e_isN, ↓e_B, ↓e_And, ↓e_Or, ↓e_Not, ↓e_AndV, ↓e_OrV, ↓e_NotV, ↓e_IfE, ↓e_Chain, ↓e_Ix, ↓e_Sl, ↓e_No, ↓e_Part, ↓e_nil, ↓e_cons, ↓e_Tup, ↓e_Lst, ↓e_CB, ↓e_ofD, ↓e_jOf, ↓e_Len, ↓e_Ints, ↓e_fMax, ↓e_fMin, ↓e_Tuple, ↓e_List, ↓e_Bls, ↓e_Is, ↓e_seq, ↓e_skip, ↓e_ret, ↓e_drop, ↓e_ifS, ↓e_never, ↓e_asg, ↓e_par2, ↓e_par3, ↓e_App, ↓e_For, ↓e_While, ↓e_Iter, ↓e_Rng1, ↓e_Rng2, ↓e_Zip2, ↓e_Zip3, ↓e_Lc, ↓e_Yes, ↓e_Dn0, ↓e_DnIn, ↓e_DnGet, ↓e_Dn1, iteG_t, iteG_f, iteG_d, iteG_n, iteG_a, iteG_o, iteG_x, iteG_e, iteG_s, iteG_l, iteG_y, iteF_t, iteF_f, varF_d, varF_o, toD_d, toD_l, toD_a, toDF_d, toDF_l, d2F_d, fAdd_i, fAdd_s, fAdd_t, fAdd_l, fSub_i, fMul_i, fMulR_i, fMulR_t, fMulR_l, fDiv_i, fMod_i, fPow_i, negF_i, cLt_i, cLe_i, cGt_i, cGe_i, cEq_e, cNe_e, isNF_n, isNF_t, isNF_i, dBF_b, boF_b, notVF_b, ch2F_d, chF_d, seqOf_t, seqOf_l, seqOf_o, seqOf_s, seqOf_a, seqF_t, seqF_l, seqF_o, kindOf_t, kindOf_l, kindOf_o, kindOf_a, kindF_t, kindF_l, kindF_o, ixF2_s, ixF_s, slF_t, slF_f, partF_i, allD_n, allD_c, tupF_s, lstF_s, ofDF_s, gInt_i, gInt_b, gAbs_i, gMax2_i, gMin2_i, gN_e, jF_s, lenF_s, intsF2_s, intsF_s, fSum_e, gTF_s, gLF_s, blsF_s, blsF2_s, isF_s, isF2_s, tyn_i, tyn_b, tyn_t, tyn_l, tyn_s, tyn_n, k_ii, k_ib, k_tt, gN1_d, gN1_o, gN1_a, gaF_d, gaF_o, gTup_e, gs_n, gs_c, par2G_e, par2F_s, svOf_d, svOf_o, par3G_e, par3F_s, stF2_s, stF_s, stG_e, gStL_e, gOwn_e, owL_a, apG_e, apI_e, iterF_t, iterF_l, rng1F_e, rng2F_e, zip2F_s, zip2G_e, zip3F_s, zip3G_e, seqD_t, seqD_l, finP_d, finP_o, finP_a, finF_d, finF_o, finJF_d, finJF_o, finJ_d, finJ_o, startD_e, startJ_e, dnI_e, dnIH_e, dnGF_e, dnGetF_e, dnSF_e, dnSH_e, gStDn_e, dn1F_e, atI_0, atI_1, atI_2, ixN_2_0, ixN_2_1, appK_eq, cmp_i, eqv_ii, eqv_nn, cast1, cast2, cast3, List.map_cons, List.map_nil, List.append_nil, List.nil_append, List.cons_append, List.replicate_succ, List.replicate_zero, List.length_cons, List.length_nil, List.getElem?_cons_zero, List.getElem?_cons_succ, List.set_cons_zero, List.set_cons_succ, Option.map_some, Bool.not_true, Bool.not_false, Nat.reduceAdd, Nat.reduceSub, Nat.zero_add, Nat.add_zero, if_true, if_false, decide_true, decide_false, and_true, true_and, Nat.reduceLeDiff, Nat.sub_zero, Nat.sub_self, t__law_drip, N__law_drip, jarO]
  refine iteF_d (fun q => ?_) (fun q => ?_)
  · refine ⟨by omega, ⟨by omega, lg⟩, h _ _ _ (Int.emod_nonneg _ (by omega)) (Int.emod_lt_of_pos _ (by omega)) ⟨Int.ediv_nonneg j1 (by omega), ?_, j3, j4⟩⟩
    exact Int.lt_of_le_of_lt (Int.ediv_le_self _ j1) j2
  · refine ⟨fun m ρ => ∃ b' found wide : Int, m = (many + 2 - wide).toNat ∧ 1 ≤ wide ∧ 0 ≤ b' ∧ b' ≤ 2147483179 ∧ ρ = [.ow (.lst [.int a, .int b']), .d (.int many), .d (.int found), .d (.int wide)], ⟨_, b, 0, 1, rfl, by decide, j3, j4, rfl⟩, ?_⟩
    rintro m ρ ⟨b', found, wide, rfl, w1, b0, b1, rfl⟩
    have body : wide < many ∨ wide = 1 → (MulOk b' 29761 ∧ (0 : Int) < 2147483179 ∧ MulOk found 8192 ∧ CDivW ((b' * 29761 + 71) % 2147483179) 65587 ∧ (0 : Int) < 8192 ∧ MulOk wide 8192) ∧ ∃ m', m' < (many + 2 - wide).toNat ∧ ∃ b2 f2 w2 : Int, m' = (many + 2 - w2).toNat ∧ 1 ≤ w2 ∧ 0 ≤ b2 ∧ b2 ≤ 2147483179 ∧
        ([SV.ow (.lst [.int a, .int ((b' * 29761 + 71) % 2147483179)]), .d (.int many), .d (.int (found * 8192 + (b' * 29761 + 71) % 2147483179 / 65587 % 8192)), .d (.int (wide * 8192))] = [SV.ow (.lst [.int a, .int b2]), .d (.int many), .d (.int f2), .d (.int w2)]) := fun q => by
      have e1 := Int.emod_nonneg (b' * 29761 + 71) (show (2147483179 : Int) ≠ 0 by decide)
      have e2 := Int.emod_lt_of_pos (b' * 29761 + 71) (show (0 : Int) < 2147483179 by decide)
      exact ⟨⟨MulOk.small' (by decide) (by decide), by decide, MulOk.small' (by decide) (by decide), CDivW.small (by decide) (by decide), by decide, MulOk.small' (by decide) (by decide)⟩, _, by omega, _, _, _, rfl, by omega, e1, by omega, rfl⟩
    simp only [↓e_var, ↓e_C, ↓e_dD, ↓e_d2, ↓e_neg, ↓e_isN, ↓e_B, ↓e_And, ↓e_Or, ↓e_Not, ↓e_AndV, ↓e_OrV, ↓e_NotV, ↓e_IfE, ↓e_Chain, ↓e_Ix, ↓e_Sl, ↓e_No, ↓e_Part, ↓e_nil, ↓e_cons, ↓e_Tup, ↓e_Lst, ↓e_CB, ↓e_ofD, ↓e_jOf, ↓e_Len, ↓e_Ints, ↓e_fMax, ↓e_fMin, ↓e_Tuple, ↓e_List, ↓e_Bls, ↓e_Is, ↓e_seq, ↓e_skip, ↓e_ret, ↓e_drop, ↓e_ifS, ↓e_never, ↓e_asg, ↓e_par2, ↓e_par3, ↓e_App, ↓e_For, ↓e_While, ↓e_Iter, ↓e_Rng1, ↓e_Rng2, ↓e_Zip2, ↓e_Zip3, ↓e_Lc, ↓e_Yes, ↓e_Dn0, ↓e_DnIn, ↓e_DnGet, ↓e_Dn1, iteG_t, iteG_f, iteG_d, iteG_n, iteG_a, iteG_o, iteG_x, iteG_e, iteG_s, iteG_l, iteG_y, iteF_t, iteF_f, varF_d, varF_o, toD_d, toD_l, toD_a, toDF_d, toDF_l, d2F_d, fAdd_i, fAdd_s, fAdd_t, fAdd_l, fSub_i, fMul_i, fMulR_i, fMulR_t, fMulR_l, fDiv_i, fMod_i, fPow_i, negF_i, cLt_i, cLe_i, cGt_i, cGe_i, cEq_e, cNe_e, isNF_n, isNF_t, isNF_i, dBF_b, boF_b, notVF_b, ch2F_d, chF_d, seqOf_t, seqOf_l, seqOf_o, seqOf_s, seqOf_a, seqF_t, seqF_l, seqF_o, kindOf_t, kindOf_l, kindOf_o, kindOf_a, kindF_t, kindF_l, kindF_o, ixF2_s, ixF_s, slF_t, slF_f, partF_i, allD_n, allD_c, tupF_s, lstF_s, ofDF_s, gInt_i, gInt_b, gAbs_i, gMax2_i, gMin2_i, gN_e, jF_s, lenF_s, intsF2_s, intsF_s, fSum_e, gTF_s, gLF_s, blsF_s, blsF2_s, isF_s, isF2_s, tyn_i, tyn_b, tyn_t, tyn_l, tyn_s, tyn_n, k_ii, k_ib, k_tt, gN1_d, gN1_o, gN1_a, gaF_d, gaF_o, gTup_e, gs_n, gs_c, par2G_e, par2F_s, svOf_d, svOf_o, par3G_e, par3F_s, stF2_s, stF_s, stG_e, gStL_e, gOwn_e, owL_a, apG_e, apI_e, iterF_t, iterF_l, rng1F_e, rng2F_e, zip2F_s, zip2G_e, zip3F_s, zip3G_e, seqD_t, seqD_l, finP_d, finP_o, finP_a, finF_d, finF_o, finJF_d, finJF_o, finJ_d, finJ_o, startD_e, startJ_e, dnI_e, dnIH_e, dnGF_e, dnGetF_e, dnSF_e, dnSH_e, gStDn_e, dn1F_e, atI_0, atI_1, atI_2, ixN_2_0, ixN_2_1, appK_eq, cmp_i, eqv_ii, eqv_nn, cast1, cast2, cast3, List.map_cons, List.map_nil, List.append_nil, List.nil_append, List.cons_append, List.replicate_succ, List.replicate_zero, List.length_cons, List.length_nil, List.getElem?_cons_zero, List.getElem?_cons_succ, List.set_cons_zero, List.set_cons_succ, Option.map_some, Bool.not_true, Bool.not_false, Nat.reduceAdd, Nat.reduceSub, Nat.zero_add, Nat.add_zero, if_true, if_false, decide_true, decide_false, and_true, true_and, Nat.reduceLeDiff, Nat.sub_zero, Nat.sub_self]
    refine iteF_d (fun q => ?_) (fun q => ?_)
    · obtain ⟨⟨x1, x2, x3, x4, x5, x6⟩, y⟩ := body (.inl q)
      exact ⟨x1, x2, x3, x4, x5, x6, y⟩
    · by_cases q1 : wide = 1
      · rw [if_pos (decide_eq_true q1)]
        obtain ⟨⟨x1, x2, x3, x4, x5, x6⟩, y⟩ := body (.inr q1)
        exact ⟨x1, x2, x3, x4, x5, x6, y⟩
      · rw [if_neg (by simpa using q1)]
        exact ⟨by omega, h _ _ _ (Int.emod_nonneg _ (by omega)) (Int.emod_lt_of_pos _ (by omega)) ⟨j1, j2, b0, b1⟩⟩
/-- a drawn number -/
theorem draw {a b many : Int} {i : Nat} {ρ : List SV} {Q : RV → List SV → Prop} (jo : JarOk a b) (h1 : 1 ≤ many) (h2 : many ≤ 10 ^ 40) (h : ∀ v a' b', 0 ≤ v → v < many → JarOk a' b' → Q (.d (.int v)) (ρ.set i (.ow (jarO a' b')))) : callJ sp__law_drip 1 (.lst [.int a, .int b]) i [.int many] ρ Q :=
  ⟨rfl, a, b, many, rfl, rfl, jo, h1, h2, h⟩
def Dx__law_drip (P : Program) (w : World) (K : PySem.W.Frag) (mg : Str → Option Value) (base : Heap) : Prop := ∃ f fd, Def P w K mg base 1 "_law_drip" f fd ["jar", "many"] (spJ (bas P w K) 1 sp__law_drip)
theorem ok__law_drip {P : Program} {w : World} {K : PySem.W.Frag} {mg : Str → Option Value} {base : Heap} (M : Mg mg) {f : Addr} {fd : FuncData} (F : FunD K "_law_drip" "_law_drip" (defArgs s__law_drip) (defBody s__law_drip) (defScope s__law_drip) [] [] f fd) : FnOk P w K mg base CX0 1 f fd ["jar", "many"] (spJ (bas P w K) 1 sp__law_drip) := by
  exact okJ (tb := t__law_drip) F sc__law_drip (fun cdv A outer s H E j hr =>
    (dss_cons (ds_if (dt_gt (de_ix (de_var (pv 0)) de_int) de_int) (dss_cons (ds_asg (de_mod (de_callTy (call_int1) (snd_int1.toC) (by rfl) M.f_int rfl (da_cons (de_data (de_ix (de_var (pv 0)) de_int)) da_nil)) (de_var (pv 1))) (dg_name sc__law_drip.nd (i := 2) rfl (by first | exact .inl rfl | exact .inr rfl) (by first | exact .inl rfl | exact .inr (by decide))))
      (dss_cons (ds_asg (de_div (de_ix (de_var (pv 0)) de_int) (de_var (pv 1))) (dg_stL (de_var (pv 0)) de_int))
      (dss_one (ds_ret (de_var (pv 2)))))) dss_nil)
      (dss_cons (ds_asg (de_tup (da_cons de_int (da_cons de_int da_nil))) (dg_tup rfl (dgs_cons (dg_name sc__law_drip.nd (i := 2) rfl (by first | exact .inl rfl | exact .inr rfl) (by first | exact .inl rfl | exact .inr (by decide))) (dgs_cons (dg_name sc__law_drip.nd (i := 3) rfl (by first | exact .inl rfl | exact .inr rfl) (by first | exact .inl rfl | exact .inr (by decide))) (dgs_nil (ws := []))))))
      (dss_cons (ds_while PassesOwn.never ((dw_or (dt_lt (de_var (pv 3)) (de_var (pv 1))) (dw_or1 (dt_eq hr.units (de_var (pv 3)) de_int)))).pt (dss_cons (ds_asg (de_mod (de_callTy (call_int1) (snd_int1.toC) (by rfl) M.f_int rfl (da_cons (de_data (de_add (de_mul (de_ix (de_var (pv 0)) de_int) de_int) de_int)) da_nil)) de_int) (dg_stL (de_var (pv 0)) de_int))
      (dss_cons (ds_asg (de_add (de_mul (de_var (pv 2)) de_int) (de_mod (de_callTy (call_int1) (snd_int1.toC) (by rfl) M.f_int rfl (da_cons (de_data (de_div (de_ix (de_var (pv 0)) de_int) de_int)) da_nil)) de_int)) (dg_name sc__law_drip.nd (i := 2) rfl (by first | exact .inl rfl | exact .inr rfl) (by first | exact .inl rfl | exact .inr (by decide))))
      (dss_one (ds_asg (de_mul (de_var (pv 3)) de_int) (dg_name sc__law_drip.nd (i := 3) rfl (by first | exact .inl rfl | exact .inr rfl) (by first | exact .inl rfl | exact .inr (by decide))))))))
      (dss_one (ds_ret (de_mod (de_callTy (call_int1) (snd_int1.toC) (by rfl) M.f_int rfl (da_cons (de_data (de_var (pv 2))) da_nil)) (de_var (pv 1))))))))) rd__law_drip
def N__law_any : List Str := ["jar", "things"]
theorem sc__law_any : FnScope N__law_any ["jar", "things"] (defScope s__law_any) := ⟨rfl, rfl, rfl, by decide +kernel, rfl, by decide +kernel, by decide +kernel⟩
def t__law_any : DTS :=
    (dRet (dIx (dVar 1) (dCB (jOf (jN 1 sp__law_drip)) (dCons (dVar 0) (dCons (dD (dCB gLen (dCons (dVar 1) dNil))) dNil)))))
def sp__law_any : DJ := fun o ds R => ∃ (a b : Int) (x : D) (xs : List D), o = jarO a b ∧ ds = [x] ∧ seqD x = some xs ∧ JarOk a b ∧ 1 ≤ xs.length ∧ xs.length ≤ 1000000 ∧ ∀ v ∈ xs, ∀ a' b', JarOk a' b' → R (.d v) (jarO a' b')
theorem rd__law_any : ∀ o ds R, ds.length = 1 → sp__law_any o ds R → t__law_any { nx := fun ρ => finJ R (.d .non) ρ, rt := finJ R } (startJ N__law_any o ds) := by
  rintro o ds R - ⟨a, b, x, xs, rfl, rfl, hx, jo, h1, h2, h⟩
  have key : ∀ v : Int, 0 ≤ v → v < (xs.length : Nat) → ∃ z, atI xs v = some z ∧ z ∈ xs := fun v v0 v1 => by
    have hk : v.toNat < xs.length := by omega
    refine ⟨xs[v.toNat], ?_, List.getElem_mem hk⟩
    rw [atI_nat (Int.toNat_of_nonneg v0).symm hk, List.getElem?_eq_getElem hk]
  have b40 : (1000000 : Int) < 10 ^ 40 := by decide +kernel
  cases x <;> simp only [seqD] at hx <;> cases hx
  all_goals
    simp only [↓e_var, ↓e_C, ↓e_dD, ↓e_d2, ↓e_neg, ↓e_isN, ↓e_B, ↓e_And, ↓e_Or, ↓e_Not, ↓e_AndV, ↓e_OrV, ↓e_NotV, ↓e_IfE, ↓e_Chain, ↓e_Ix, ↓e_Sl, ↓e_No, ↓e_Part, ↓e_nil, ↓e_cons, ↓e_Tup, ↓e_Lst, ↓e_CB, ↓e_ofD, ↓e_jOf, ↓e_Len, ↓e_Ints, ↓e_fMax, ↓e_fMin, ↓e_Tuple, ↓e_List, ↓e_Bls, ↓e_Is, ↓e_seq, ↓e_skip, ↓e_ret, ↓e_drop, ↓e_ifS, ↓e_never, ↓e_asg, ↓e_par2, ↓e_par3, ↓e_App, ↓e_For, ↓e_While, ↓e_Iter, ↓e_Rng1, ↓e_Rng2, ↓e_Zip2, ↓e_Zip3, ↓e_Lc, ↓e_Yes, ↓e_Dn0, ↓e_DnIn, ↓e_DnGet, ↓e_Dn1, iteG_t, iteG_f, iteG_d, iteG_n, iteG_a, iteG_o, iteG_x, iteG_e, iteG_s, iteG_l, iteG_y, iteF_t, iteF_f, varF_d, varF_o, toD_d, toD_l, toD_a, toDF_d, toDF_l, d2F_d, fAdd_i, fAdd_s, fAdd_t, fAdd_l, fSub_i, fMul_i, fMulR_i, fMulR_t, fMulR_l, fDiv_i, fMod_i, fPow_i, negF_i, cLt_i, cLe_i, cGt_i, cGe_i, cEq_e, cNe_e, isNF_n, isNF_t, isNF_i, dBF_b, boF_b, notVF_b, ch2F_d, chF_d, seqOf_t, seqOf_l, seqOf_o, seqOf_s, seqOf_a, seqF_t, seqF_l, seqF_o, kindOf_t, kindOf_l, kindOf_o, kindOf_a, kindF_t, kindF_l, kindF_o, ixF2_s, ixF_s, slF_t, slF_f, partF_i, allD_n, allD_c, tupF_s, lstF_s, ofDF_s, gInt_i, gInt_b, gAbs_i, gMax2_i, gMin2_i, gN_e, jF_s, lenF_s, intsF2_s, intsF_s, fSum_e, gTF_s, gLF_s, blsF_s, blsF2_s, isF_s, isF2_s, tyn_i, tyn_b, tyn_t, tyn_l, tyn_s, tyn_n, k_ii, k_ib, k_tt, gN1_d, gN1_o, gN1_a, gaF_d, gaF_o, gTup_e, gs_n, gs_c, par2G_e, par2F_s, svOf_d, svOf_o, par3G_e, par3F_s, stF2_s, stF_s, stG_e, gStL_e, gOwn_e, owL_a, apG_e, apI_e, iterF_t, iterF_l, rng1F_e, rng2F_e, zip2F_s, zip2G_e, zip3F_s, zip3G_e, seqD_t, seqD_l, finP_d, finP_o, finP_a, finF_d, finF_o, finJF_d, finJF_o, finJ_d, finJ_o, startD_e, startJ_e, dnI_e, dnIH_e, dnGF_e, dnGetF_e, dnSF_e, dnSH_e, gStDn_e, dn1F_e, atI_0, atI_1, atI_2, ixN_2_0, ixN_2_1, appK_eq, cmp_i, eqv_ii, eqv_nn, cast1, cast2, cast3, List.map_cons, List.map_nil, List.append_nil, List.nil_append, List.cons_append, List.replicate_succ, List.replicate_zero, List.length_cons, List.length_nil, List.getElem?_cons_zero, List.getElem?_cons_succ, List.set_cons_zero, List.set_cons_succ, Option.map_some, Bool.not_true, Bool.not_false, Nat.reduceAdd, Nat.reduceSub, Nat.zero_add, Nat.add_zero, if_true, if_false, decide_true, decide_false, and_true, true_and, Nat.reduceLeDiff, Nat.sub_zero, Nat.sub_self, t__law_any, N__law_any, jarO]
    refine draw jo (by omega) (by omega) (fun v a' b' v0 v1 jo' => ?_)
    obtain ⟨z, ez, hz⟩ := key v v0 v1
    simp only [↓e_var, ↓e_C, ↓e_dD, ↓e_d2, ↓e_neg, ↓e_isN, ↓e_B, ↓e_And, ↓e_Or, ↓e_Not, ↓e_AndV, ↓e_OrV, ↓e_NotV, ↓e_IfE, ↓e_Chain, ↓e_Ix, ↓e_Sl, ↓e_No, ↓e_Part, ↓e_nil, ↓e_cons, ↓e_Tup, ↓e_Lst, ↓e_CB, ↓e_ofD, ↓e_jOf, ↓e_Len, ↓e_Ints, ↓e_fMax, ↓e_fMin, ↓e_Tuple, ↓e_List, ↓e_Bls, ↓e_Is, ↓e_seq, ↓e_skip, ↓e_ret, ↓e_drop, ↓e_ifS, ↓e_never, ↓e_asg, ↓e_par2, ↓e_par3, ↓e_App, ↓e_For, ↓e_While, ↓e_Iter, ↓e_Rng1, ↓e_Rng2, ↓e_Zip2, ↓e_Zip3, ↓e_Lc, ↓e_Yes, ↓e_Dn0, ↓e_DnIn, ↓e_DnGet, ↓e_Dn1, iteG_t, iteG_f, iteG_d, iteG_n, iteG_a, iteG_o, iteG_x, iteG_e, iteG_s, iteG_l, iteG_y, iteF_t, iteF_f, varF_d, varF_o, toD_d, toD_l, toD_a, toDF_d, toDF_l, d2F_d, fAdd_i, fAdd_s, fAdd_t, fAdd_l, fSub_i, fMul_i, fMulR_i, fMulR_t, fMulR_l, fDiv_i, fMod_i, fPow_i, negF_i, cLt_i, cLe_i, cGt_i, cGe_i, cEq_e, cNe_e, isNF_n, isNF_t, isNF_i, dBF_b, boF_b, notVF_b, ch2F_d, chF_d, seqOf_t, seqOf_l, seqOf_o, seqOf_s, seqOf_a, seqF_t, seqF_l, seqF_o, kindOf_t, kindOf_l, kindOf_o, kindOf_a, kindF_t, kindF_l, kindF_o, ixF2_s, ixF_s, slF_t, slF_f, partF_i, allD_n, allD_c, tupF_s, lstF_s, ofDF_s, gInt_i, gInt_b, gAbs_i, gMax2_i, gMin2_i, gN_e, jF_s, lenF_s, intsF2_s, intsF_s, fSum_e, gTF_s, gLF_s, blsF_s, blsF2_s, isF_s, isF2_s, tyn_i, tyn_b, tyn_t, tyn_l, tyn_s, tyn_n, k_ii, k_ib, k_tt, gN1_d, gN1_o, gN1_a, gaF_d, gaF_o, gTup_e, gs_n, gs_c, par2G_e, par2F_s, svOf_d, svOf_o, par3G_e, par3F_s, stF2_s, stF_s, stG_e, gStL_e, gOwn_e, owL_a, apG_e, apI_e, iterF_t, iterF_l, rng1F_e, rng2F_e, zip2F_s, zip2G_e, zip3F_s, zip3G_e, seqD_t, seqD_l, finP_d, finP_o, finP_a, finF_d, finF_o, finJF_d, finJF_o, finJ_d, finJ_o, startD_e, startJ_e, dnI_e, dnIH_e, dnGF_e, dnGetF_e, dnSF_e, dnSH_e, gStDn_e, dn1F_e, atI_0, atI_1, atI_2, ixN_2_0, ixN_2_1, appK_eq, cmp_i, eqv_ii, eqv_nn, cast1, cast2, cast3, List.map_cons, List.map_nil, List.append_nil, List.nil_append, List.cons_append, List.replicate_succ, List.replicate_zero, List.length_cons, List.length_nil, List.getElem?_cons_zero, List.getElem?_cons_succ, List.set_cons_zero, List.set_cons_succ, Option.map_some, Bool.not_true, Bool.not_false, Nat.reduceAdd, Nat.reduceSub, Nat.zero_add, Nat.add_zero, if_true, if_false, decide_true, decide_false, and_true, true_and, Nat.reduceLeDiff, Nat.sub_zero, Nat.sub_self, ez, jarO]
    exact h z hz a' b' jo'
/-- a drawn thing -/
theorem drawAny {a b : Int} {x : D} {xs : List D} {i : Nat} {ρ : List SV} {Q : RV → List SV → Prop} (hx : seqD x = some xs) (jo : JarOk a b) (h1 : 1 ≤ xs.length) (h2 : xs.length ≤ 1000000) (h : ∀ v ∈ xs, ∀ a' b', JarOk a' b' → Q (.d v) (ρ.set i (.ow (jarO a' b')))) : callJ sp__law_any 1 (.lst [.int a, .int b]) i [x] ρ Q :=
  ⟨rfl, a, b, x, xs, rfl, rfl, hx, jo, h1, h2, h⟩
def Dx__law_any (P : Program) (w : World) (K : PySem.W.Frag) (mg : Str → Option Value) (base : Heap) : Prop := ∃ f fd, Def P w K mg base 2 "_law_any" f fd ["jar", "things"] (spJ (bas P w K) 1 sp__law_any)
theorem ok__law_any {P : Program} {w : World} {K : PySem.W.Frag} {mg : Str → Option Value} {base : Heap} (M : Mg mg) (D__law_drip : Dx__law_drip P w K mg base) {f : Addr} {fd : FuncData} (F : FunD K "_law_any" "_law_any" (defArgs s__law_any) (defBody s__law_any) (defScope s__law_any) [] [] f fd) : FnOk P w K mg base CX0 2 f fd ["jar", "things"] (spJ (bas P w K) 1 sp__law_any) := by
  obtain ⟨a__law_drip, fd__law_drip, D__law_drip⟩ := D__law_drip
  exact okJ (tb := t__law_any) F sc__law_any (fun cdv A outer s H E j hr =>
    (dss_one (ds_ret (de_ix (de_var (pv 1)) (de_callJ D__law_drip.own (hr.mono (by decide)) (by rfl) (da_cons (de_var (pv 0)) (da_cons (de_data (de_callB (call_len_seq) (snd_len) (by rfl) M.f_len rfl (da_cons (de_var (pv 1)) da_nil))) da_nil))))))) rd__law_any
end DL

set_option Elab.async false
set_option linter.all false
set_option maxRecDepth 100000
set_option maxHeartbeats 0
namespace DL
open PySem PySem.Spec L2
open PyProof.Rows hiding St
def N__law_cup : List Str := ["jar", "most", "edge", "brim"]
theorem sc__law_cup : FnScope N__law_cup ["jar", "most"] (defScope s__law_cup) := ⟨rfl, rfl, rfl, by decide +kernel, rfl, by decide +kernel, by decide +kernel⟩
def t__law_cup : DTS :=
    (dSeq (dAsg (d2 fAdd (dD (dC (.int 1))) (dD (dCB (jOf (jN 1 sp__law_drip)) (dCons (dVar 0) (dCons (dD (dVar 1)) dNil))))) (gN1 2))
      (dSeq (dAsg (d2 fAdd (dD (dVar 2)) (dD (dCB (jOf (jN 1 sp__law_any)) (dCons (dVar 0) (dCons (dD (dLst (dCons (dC (.int 0)) (dCons (dC (.int 0)) (dCons (dD (dCB (jOf (jN 1 sp__law_drip)) (dCons (dVar 0) (dCons (dD (d2 fSub (dD (dC (.int 91))) (dD (dVar 2)))) dNil)))) (dCons (dD (d2 fSub (dD (dC (.int 90))) (dD (dVar 2)))) dNil)))))) dNil))))) (gN1 3))
      (dRet (dTup (dCons (dD (dVar 2)) (dCons (dD (dVar 3)) (dCons (dD (dCB (jOf (jN 1 sp__law_any)) (dCons (dVar 0) (dCons (dD (dLst (dCons (dC (.int 0)) (dCons (dC (.int 0)) (dCons (dD (dCB (jOf (jN 1 sp__law_drip)) (dCons (dVar 0) (dCons (dD (dVar 2)) dNil)))) dNil))))) dNil)))) dNil)))))))
def sp__law_cup : DJ := fun o ds R => ∃ a b most : Int, o = jarO a b ∧ ds = [.int most] ∧ JarOk a b ∧ 1 ≤ most ∧ most ≤ 60 ∧ ∀ c : Cup, CupOk c → c.1 ≤ most → ∀ a' b', JarOk a' b' → R (.d (cupD c)) (jarO a' b')
theorem rd__law_cup : ∀ o ds R, ds.length = 1 → sp__law_cup o ds R → t__law_cup { nx := fun ρ => finJ R (.d .non) ρ, rt := finJ R } (startJ N__law_cup o ds) := by
  rintro o ds R - ⟨a, b, most, rfl, rfl, jo, h1, h2, h⟩
  have b40 : (1000000 : Int) < 10 ^ 40 := by decide +kernel
  simp only [↓e_var, ↓e_C, ↓e_dD, ↓e_d2, ↓e_neg, ↓e_isN, ↓e_B, ↓e_And, ↓e_Or, ↓e_Not, ↓e_AndV, ↓e_OrV, ↓e_NotV, ↓e_IfE, ↓e_Chain, ↓e_Ix, ↓e_Sl, ↓e_No, ↓e_Part, ↓e_nil, ↓e_cons, ↓e_Tup, ↓e_Lst, ↓e_CB, ↓e_ofD, ↓e_jOf, ↓e_Len, ↓e_Ints, ↓e_fMax, ↓e_fMin, ↓e_Tuple, ↓e_List, ↓e_Bls, ↓e_Is, ↓e_seq, ↓e_skip, ↓e_ret, ↓e_drop, ↓e_ifS, ↓e_never, ↓e_asg, ↓e_par2, ↓e_par3, ↓e_App, ↓e_For, ↓e_While, ↓e_Iter, ↓e_Rng1, ↓e_Rng2, ↓e_Zip2, ↓e_Zip3, ↓e_Lc, ↓e_Yes, ↓e_Dn0, ↓e_DnIn, ↓e_DnGet, ↓e_Dn1, iteG_t, iteG_f, iteG_d, iteG_n, iteG_a, iteG_o, iteG_x, iteG_e, iteG_s, iteG_l, iteG_y, iteF_t, iteF_f, varF_d, varF_o, toD_d, toD_l, toD_a, toDF_d, toDF_l, d2F_d, fAdd_i, fAdd_s, fAdd_t, fAdd_l, fSub_i, fMul_i, fMulR_i, fMulR_t, fMulR_l, fDiv_i, fMod_i, fPow_i, negF_i, cLt_i, cLe_i, cGt_i, cGe_i, cEq_e, cNe_e, isNF_n, isNF_t, isNF_i, dBF_b, boF_b, notVF_b, ch2F_d, chF_d, seqOf_t, seqOf_l, seqOf_o, seqOf_s, seqOf_a, seqF_t, seqF_l, seqF_o, kindOf_t, kindOf_l, kindOf_o, kindOf_a, kindF_t, kindF_l, kindF_o, ixF2_s, ixF_s, slF_t, slF_f, partF_i, allD_n, allD_c, tupF_s, lstF_s, ofDF_s, gInt_i, gInt_b, gAbs_i, gMax2_i, gMin2_i, gN_e, jF_s, lenF_s, intsF2_s, intsF_s, fSum_e, gTF_s, gLF_s, blsF_s, blsF2_s, isF_s, isF2_s, tyn_i, tyn_b, tyn_t, tyn_l, tyn_s, tyn_n, k_ii, k_ib, k_tt, gN1_d, gN1_o, gN1_a, gaF_d, gaF_o, gTup_e, gs_n, gs_c, par2G_e, par2F_s, svOf_d, svOf_o, par3G_e, par3F_s, stF2_s, stF_s, stG_e, gStL_e, gOwn_e, owL_a, apG_e, apI_e, iterF_t, iterF_l, rng1F_e, rng2F_e, zip2F_s, zip2G_e, zip3F_s, zip3G_e, seqD_t, seqD_l, finP_d, finP_o, finP_a, finF_d, finF_o, finJF_d, finJF_o, finJ_d, finJ_o, startD_e, startJ_e, dnI_e, dnIH_e, dnGF_e, dnGetF_e, dnSF_e, dnSH_e, gStDn_e, dn1F_e, atI_0, atI_1, atI_2, ixN_2_0, ixN_2_1, appK_eq, cmp_i, eqv_ii, eqv_nn, cast1, cast2, cast3, List.map_cons, List.map_nil, List.append_nil, List.nil_append, List.cons_append, List.replicate_succ, List.replicate_zero, List.length_cons, List.length_nil, List.getElem?_cons_zero, List.getElem?_cons_succ, List.set_cons_zero, List.set_cons_succ, Option.map_some, Bool.not_true, Bool.not_false, Nat.reduceAdd, Nat.reduceSub, Nat.zero_add, Nat.add_zero, if_true, if_false, decide_true, decide_false, and_true, true_and, Nat.reduceLeDiff, Nat.sub_zero, Nat.sub_self, t__law_cup, N__law_cup, jarO]
  refine draw jo h1 (by omega) (fun e a b e0 e1 jo => ?_)
  simp only [↓e_var, ↓e_C, ↓e_dD, ↓e_d2, ↓e_neg, ↓e_isN, ↓e_B, ↓e_And, ↓e_Or, ↓e_Not, ↓e_AndV, ↓e_OrV, ↓e_NotV, ↓e_IfE, ↓e_Chain, ↓e_Ix, ↓e_Sl, ↓e_No, ↓e_Part, ↓e_nil, ↓e_cons, ↓e_Tup, ↓e_Lst, ↓e_CB, ↓e_ofD, ↓e_jOf, ↓e_Len, ↓e_Ints, ↓e_fMax, ↓e_fMin, ↓e_Tuple, ↓e_List, ↓e_Bls, ↓e_Is, ↓e_seq, ↓e_skip, ↓e_ret, ↓e_drop, ↓e_ifS, ↓e_never, ↓e_asg, ↓e_par2, ↓e_par3, ↓e_App, ↓e_For, ↓e_While, ↓e_Iter, ↓e_Rng1, ↓e_Rng2, ↓e_Zip2, ↓e_Zip3, ↓e_Lc, ↓e_Yes, ↓e_Dn0, ↓e_DnIn, ↓e_DnGet, ↓e_Dn1, iteG_t, iteG_f, iteG_d, iteG_n, iteG_a, iteG_o, iteG_x, iteG_e, iteG_s, iteG_l, iteG_y, iteF_t, iteF_f, varF_d, varF_o, toD_d, toD_l, toD_a, toDF_d, toDF_l, d2F_d, fAdd_i, fAdd_s, fAdd_t, fAdd_l, fSub_i, fMul_i, fMulR_i, fMulR_t, fMulR_l, fDiv_i, fMod_i, fPow_i, negF_i, cLt_i, cLe_i, cGt_i, cGe_i, cEq_e, cNe_e, isNF_n, isNF_t, isNF_i, dBF_b, boF_b, notVF_b, ch2F_d, chF_d, seqOf_t, seqOf_l, seqOf_o, seqOf_s, seqOf_a, seqF_t, seqF_l, seqF_o, kindOf_t, kindOf_l, kindOf_o, kindOf_a, kindF_t, kindF_l, kindF_o, ixF2_s, ixF_s, slF_t, slF_f, partF_i, allD_n, allD_c, tupF_s, lstF_s, ofDF_s, gInt_i, gInt_b, gAbs_i, gMax2_i, gMin2_i, gN_e, jF_s, lenF_s, intsF2_s, intsF_s, fSum_e, gTF_s, gLF_s, blsF_s, blsF2_s, isF_s, isF2_s, tyn_i, tyn_b, tyn_t, tyn_l, tyn_s, tyn_n, k_ii, k_ib, k_tt, gN1_d, gN1_o, gN1_a, gaF_d, gaF_o, gTup_e, gs_n, gs_c, par2G_e, par2F_s, svOf_d, svOf_o, par3G_e, par3F_s, stF2_s, stF_s, stG_e, gStL_e, gOwn_e, owL_a, apG_e, apI_e, iterF_t, iterF_l, rng1F_e, rng2F_e, zip2F_s, zip2G_e, zip3F_s, zip3G_e, seqD_t, seqD_l, finP_d, finP_o, finP_a, finF_d, finF_o, finJF_d, finJF_o, finJ_d, finJ_o, startD_e, startJ_e, dnI_e, dnIH_e, dnGF_e, dnGetF_e, dnSF_e, dnSH_e, gStDn_e, dn1F_e, atI_0, atI_1, atI_2, ixN_2_0, ixN_2_1, appK_eq, cmp_i, eqv_ii, eqv_nn, cast1, cast2, cast3, List.map_cons, List.map_nil, List.append_nil, List.nil_append, List.cons_append, List.replicate_succ, List.replicate_zero, List.length_cons, List.length_nil, List.getElem?_cons_zero, List.getElem?_cons_succ, List.set_cons_zero, List.set_cons_succ, Option.map_some, Bool.not_true, Bool.not_false, Nat.reduceAdd, Nat.reduceSub, Nat.zero_add, Nat.add_zero, if_true, if_false, decide_true, decide_false, and_true, true_and, Nat.reduceLeDiff, Nat.sub_zero, Nat.sub_self, jarO]
  refine draw jo (by omega) (by omega) (fun x a b x0 x1 jo => ?_)
  simp only [↓e_var, ↓e_C, ↓e_dD, ↓e_d2, ↓e_neg, ↓e_isN, ↓e_B, ↓e_And, ↓e_Or, ↓e_Not, ↓e_AndV, ↓e_OrV, ↓e_NotV, ↓e_IfE, ↓e_Chain, ↓e_Ix, ↓e_Sl, ↓e_No, ↓e_Part, ↓e_nil, ↓e_cons, ↓e_Tup, ↓e_Lst, ↓e_CB, ↓e_ofD, ↓e_jOf, ↓e_Len, ↓e_Ints, ↓e_fMax, ↓e_fMin, ↓e_Tuple, ↓e_List, ↓e_Bls, ↓e_Is, ↓e_seq, ↓e_skip, ↓e_ret, ↓e_drop, ↓e_ifS, ↓e_never, ↓e_asg, ↓e_par2, ↓e_par3, ↓e_App, ↓e_For, ↓e_While, ↓e_Iter, ↓e_Rng1, ↓e_Rng2, ↓e_Zip2, ↓e_Zip3, ↓e_Lc, ↓e_Yes, ↓e_Dn0, ↓e_DnIn, ↓e_DnGet, ↓e_Dn1, iteG_t, iteG_f, iteG_d, iteG_n, iteG_a, iteG_o, iteG_x, iteG_e, iteG_s, iteG_l, iteG_y, iteF_t, iteF_f, varF_d, varF_o, toD_d, toD_l, toD_a, toDF_d, toDF_l, d2F_d, fAdd_i, fAdd_s, fAdd_t, fAdd_l, fSub_i, fMul_i, fMulR_i, fMulR_t, fMulR_l, fDiv_i, fMod_i, fPow_i, negF_i, cLt_i, cLe_i, cGt_i, cGe_i, cEq_e, cNe_e, isNF_n, isNF_t, isNF_i, dBF_b, boF_b, notVF_b, ch2F_d, chF_d, seqOf_t, seqOf_l, seqOf_o, seqOf_s, seqOf_a, seqF_t, seqF_l, seqF_o, kindOf_t, kindOf_l, kindOf_o, kindOf_a, kindF_t, kindF_l, kindF_o, ixF2_s, ixF_s, slF_t, slF_f, partF_i, allD_n, allD_c, tupF_s, lstF_s, ofDF_s, gInt_i, gInt_b, gAbs_i, gMax2_i, gMin2_i, gN_e, jF_s, lenF_s, intsF2_s, intsF_s, fSum_e, gTF_s, gLF_s, blsF_s, blsF2_s, isF_s, isF2_s, tyn_i, tyn_b, tyn_t, tyn_l, tyn_s, tyn_n, k_ii, k_ib, k_tt, gN1_d, gN1_o, gN1_a, gaF_d, gaF_o, gTup_e, gs_n, gs_c, par2G_e, par2F_s, svOf_d, svOf_o, par3G_e, par3F_s, stF2_s, stF_s, stG_e, gStL_e, gOwn_e, owL_a, apG_e, apI_e, iterF_t, iterF_l, rng1F_e, rng2F_e, zip2F_s, zip2G_e, zip3F_s, zip3G_e, seqD_t, seqD_l, finP_d, finP_o, finP_a, finF_d, finF_o, finJF_d, finJF_o, finJ_d, finJ_o, startD_e, startJ_e, dnI_e, dnIH_e, dnGF_e, dnGetF_e, dnSF_e, dnSH_e, gStDn_e, dn1F_e, atI_0, atI_1, atI_2, ixN_2_0, ixN_2_1, appK_eq, cmp_i, eqv_ii, eqv_nn, cast1, cast2, cast3, List.map_cons, List.map_nil, List.append_nil, List.nil_append, List.cons_append, List.replicate_succ, List.replicate_zero, List.length_cons, List.length_nil, List.getElem?_cons_zero, List.getElem?_cons_succ, List.set_cons_zero, List.set_cons_succ, Option.map_some, Bool.not_true, Bool.not_false, Nat.reduceAdd, Nat.reduceSub, Nat.zero_add, Nat.add_zero, if_true, if_false, decide_true, decide_false, and_true, true_and, Nat.reduceLeDiff, Nat.sub_zero, Nat.sub_self, jarO]
  refine drawAny rfl jo (by simp) (by simp) (fun v hv a b jo => ?_)
  have hv' : ∃ m : Int, v = .int m ∧ 0 ≤ m ∧ m ≤ 90 - (1 + e) := by
    simp only [List.mem_cons, List.not_mem_nil, or_false] at hv
    rcases hv with rfl | rfl | rfl | rfl
    · exact ⟨_, rfl, by omega, by omega⟩
    · exact ⟨_, rfl, by omega, by omega⟩
    · exact ⟨_, rfl, by omega, by omega⟩
    · exact ⟨_, rfl, by omega, by omega⟩
  obtain ⟨m, rfl, m0, m1⟩ := hv'
  simp only [↓e_var, ↓e_C, ↓e_dD, ↓e_d2, ↓e_neg, ↓e_isN, ↓e_B, ↓e_And, ↓e_Or, ↓e_Not, ↓e_AndV, ↓e_OrV, ↓e_NotV, ↓e_IfE, ↓e_Chain, ↓e_Ix, ↓e_Sl, ↓e_No, ↓e_Part, ↓e_nil, ↓e_cons, ↓e_Tup, ↓e_Lst, ↓e_CB, ↓e_ofD, ↓e_jOf, ↓e_Len, ↓e_Ints, ↓e_fMax, ↓e_fMin, ↓e_Tuple, ↓e_List, ↓e_Bls, ↓e_Is, ↓e_seq, ↓e_skip, ↓e_ret, ↓e_drop, ↓e_ifS, ↓e_never, ↓e_asg, ↓e_par2, ↓e_par3, ↓e_App, ↓e_For, ↓e_While, ↓e_Iter, ↓e_Rng1, ↓e_Rng2, ↓e_Zip2, ↓e_Zip3, ↓e_Lc, ↓e_Yes, ↓e_Dn0, ↓e_DnIn, ↓e_DnGet, ↓e_Dn1, iteG_t, iteG_f, iteG_d, iteG_n, iteG_a, iteG_o, iteG_x, iteG_e, iteG_s, iteG_l, iteG_y, iteF_t, iteF_f, varF_d, varF_o, toD_d, toD_l, toD_a, toDF_d, toDF_l, d2F_d, fAdd_i, fAdd_s, fAdd_t, fAdd_l, fSub_i, fMul_i, fMulR_i, fMulR_t, fMulR_l, fDiv_i, fMod_i, fPow_i, negF_i, cLt_i, cLe_i, cGt_i, cGe_i, cEq_e, cNe_e, isNF_n, isNF_t, isNF_i, dBF_b, boF_b, notVF_b, ch2F_d, chF_d, seqOf_t, seqOf_l, seqOf_o, seqOf_s, seqOf_a, seqF_t, seqF_l, seqF_o, kindOf_t, kindOf_l, kindOf_o, kindOf_a, kindF_t, kindF_l, kindF_o, ixF2_s, ixF_s, slF_t, slF_f, partF_i, allD_n, allD_c, tupF_s, lstF_s, ofDF_s, gInt_i, gInt_b, gAbs_i, gMax2_i, gMin2_i, gN_e, jF_s, lenF_s, intsF2_s, intsF_s, fSum_e, gTF_s, gLF_s, blsF_s, blsF2_s, isF_s, isF2_s, tyn_i, tyn_b, tyn_t, tyn_l, tyn_s, tyn_n, k_ii, k_ib, k_tt, gN1_d, gN1_o, gN1_a, gaF_d, gaF_o, gTup_e, gs_n, gs_c, par2G_e, par2F_s, svOf_d, svOf_o, par3G_e, par3F_s, stF2_s, stF_s, stG_e, gStL_e, gOwn_e, owL_a, apG_e, apI_e, iterF_t, iterF_l, rng1F_e, rng2F_e, zip2F_s, zip2G_e, zip3F_s, zip3G_e, seqD_t, seqD_l, finP_d, finP_o, finP_a, finF_d, finF_o, finJF_d, finJF_o, finJ_d, finJ_o, startD_e, startJ_e, dnI_e, dnIH_e, dnGF_e, dnGetF_e, dnSF_e, dnSH_e, gStDn_e, dn1F_e, atI_0, atI_1, atI_2, ixN_2_0, ixN_2_1, appK_eq, cmp_i, eqv_ii, eqv_nn, cast1, cast2, cast3, List.map_cons, List.map_nil, List.append_nil, List.nil_append, List.cons_append, List.replicate_succ, List.replicate_zero, List.length_cons, List.length_nil, List.getElem?_cons_zero, List.getElem?_cons_succ, List.set_cons_zero, List.set_cons_succ, Option.map_some, Bool.not_true, Bool.not_false, Nat.reduceAdd, Nat.reduceSub, Nat.zero_add, Nat.add_zero, if_true, if_false, decide_true, decide_false, and_true, true_and, Nat.reduceLeDiff, Nat.sub_zero, Nat.sub_self, jarO]
  refine draw jo (by omega) (by omega) (fun y a b y0 y1 jo => ?_)
  simp only [↓e_var, ↓e_C, ↓e_dD, ↓e_d2, ↓e_neg, ↓e_isN, ↓e_B, ↓e_And, ↓e_Or, ↓e_Not, ↓e_AndV, ↓e_OrV, ↓e_NotV, ↓e_IfE, ↓e_Chain, ↓e_Ix, ↓e_Sl, ↓e_No, ↓e_Part, ↓e_nil, ↓e_cons, ↓e_Tup, ↓e_Lst, ↓e_CB, ↓e_ofD, ↓e_jOf, ↓e_Len, ↓e_Ints, ↓e_fMax, ↓e_fMin, ↓e_Tuple, ↓e_List, ↓e_Bls, ↓e_Is, ↓e_seq, ↓e_skip, ↓e_ret, ↓e_drop, ↓e_ifS, ↓e_never, ↓e_asg, ↓e_par2, ↓e_par3, ↓e_App, ↓e_For, ↓e_While, ↓e_Iter, ↓e_Rng1, ↓e_Rng2, ↓e_Zip2, ↓e_Zip3, ↓e_Lc, ↓e_Yes, ↓e_Dn0, ↓e_DnIn, ↓e_DnGet, ↓e_Dn1, iteG_t, iteG_f, iteG_d, iteG_n, iteG_a, iteG_o, iteG_x, iteG_e, iteG_s, iteG_l, iteG_y, iteF_t, iteF_f, varF_d, varF_o, toD_d, toD_l, toD_a, toDF_d, toDF_l, d2F_d, fAdd_i, fAdd_s, fAdd_t, fAdd_l, fSub_i, fMul_i, fMulR_i, fMulR_t, fMulR_l, fDiv_i, fMod_i, fPow_i, negF_i, cLt_i, cLe_i, cGt_i, cGe_i, cEq_e, cNe_e, isNF_n, isNF_t, isNF_i, dBF_b, boF_b, notVF_b, ch2F_d, chF_d, seqOf_t, seqOf_l, seqOf_o, seqOf_s, seqOf_a, seqF_t, seqF_l, seqF_o, kindOf_t, kindOf_l, kindOf_o, kindOf_a, kindF_t, kindF_l, kindF_o, ixF2_s, ixF_s, slF_t, slF_f, partF_i, allD_n, allD_c, tupF_s, lstF_s, ofDF_s, gInt_i, gInt_b, gAbs_i, gMax2_i, gMin2_i, gN_e, jF_s, lenF_s, intsF2_s, intsF_s, fSum_e, gTF_s, gLF_s, blsF_s, blsF2_s, isF_s, isF2_s, tyn_i, tyn_b, tyn_t, tyn_l, tyn_s, tyn_n, k_ii, k_ib, k_tt, gN1_d, gN1_o, gN1_a, gaF_d, gaF_o, gTup_e, gs_n, gs_c, par2G_e, par2F_s, svOf_d, svOf_o, par3G_e, par3F_s, stF2_s, stF_s, stG_e, gStL_e, gOwn_e, owL_a, apG_e, apI_e, iterF_t, iterF_l, rng1F_e, rng2F_e, zip2F_s, zip2G_e, zip3F_s, zip3G_e, seqD_t, seqD_l, finP_d, finP_o, finP_a, finF_d, finF_o, finJF_d, finJF_o, finJ_d, finJ_o, startD_e, startJ_e, dnI_e, dnIH_e, dnGF_e, dnGetF_e, dnSF_e, dnSH_e, gStDn_e, dn1F_e, atI_0, atI_1, atI_2, ixN_2_0, ixN_2_1, appK_eq, cmp_i, eqv_ii, eqv_nn, cast1, cast2, cast3, List.map_cons, List.map_nil, List.append_nil, List.nil_append, List.cons_append, List.replicate_succ, List.replicate_zero, List.length_cons, List.length_nil, List.getElem?_cons_zero, List.getElem?_cons_succ, List.set_cons_zero, List.set_cons_succ, Option.map_some, Bool.not_true, Bool.not_false, Nat.reduceAdd, Nat.reduceSub, Nat.zero_add, Nat.add_zero, if_true, if_false, decide_true, decide_false, and_true, true_and, Nat.reduceLeDiff, Nat.sub_zero, Nat.sub_self, jarO]
  refine drawAny rfl jo (by simp) (by simp) (fun v hv a b jo => ?_)
  have hv' : ∃ k : Int, v = .int k ∧ 0 ≤ k ∧ k ≤ e := by
    simp only [List.mem_cons, List.not_mem_nil, or_false] at hv
    rcases hv with rfl | rfl | rfl
    · exact ⟨_, rfl, by omega, by omega⟩
    · exact ⟨_, rfl, by omega, by omega⟩
    · exact ⟨_, rfl, by omega, by omega⟩
  obtain ⟨k, rfl, k0, k1⟩ := hv'
  simp only [↓e_var, ↓e_C, ↓e_dD, ↓e_d2, ↓e_neg, ↓e_isN, ↓e_B, ↓e_And, ↓e_Or, ↓e_Not, ↓e_AndV, ↓e_OrV, ↓e_NotV, ↓e_IfE, ↓e_Chain, ↓e_Ix, ↓e_Sl, ↓e_No, ↓e_Part, ↓e_nil, ↓e_cons, ↓e_Tup, ↓e_Lst, ↓e_CB, ↓e_ofD, ↓e_jOf, ↓e_Len, ↓e_Ints, ↓e_fMax, ↓e_fMin, ↓e_Tuple, ↓e_List, ↓e_Bls, ↓e_Is, ↓e_seq, ↓e_skip, ↓e_ret, ↓e_drop, ↓e_ifS, ↓e_never, ↓e_asg, ↓e_par2, ↓e_par3, ↓e_App, ↓e_For, ↓e_While, ↓e_Iter, ↓e_Rng1, ↓e_Rng2, ↓e_Zip2, ↓e_Zip3, ↓e_Lc, ↓e_Yes, ↓e_Dn0, ↓e_DnIn, ↓e_DnGet, ↓e_Dn1, iteG_t, iteG_f, iteG_d, iteG_n, iteG_a, iteG_o, iteG_x, iteG_e, iteG_s, iteG_l, iteG_y, iteF_t, iteF_f, varF_d, varF_o, toD_d, toD_l, toD_a, toDF_d, toDF_l, d2F_d, fAdd_i, fAdd_s, fAdd_t, fAdd_l, fSub_i, fMul_i, fMulR_i, fMulR_t, fMulR_l, fDiv_i, fMod_i, fPow_i, negF_i, cLt_i, cLe_i, cGt_i, cGe_i, cEq_e, cNe_e, isNF_n, isNF_t, isNF_i, dBF_b, boF_b, notVF_b, ch2F_d, chF_d, seqOf_t, seqOf_l, seqOf_o, seqOf_s, seqOf_a, seqF_t, seqF_l, seqF_o, kindOf_t, kindOf_l, kindOf_o, kindOf_a, kindF_t, kindF_l, kindF_o, ixF2_s, ixF_s, slF_t, slF_f, partF_i, allD_n, allD_c, tupF_s, lstF_s, ofDF_s, gInt_i, gInt_b, gAbs_i, gMax2_i, gMin2_i, gN_e, jF_s, lenF_s, intsF2_s, intsF_s, fSum_e, gTF_s, gLF_s, blsF_s, blsF2_s, isF_s, isF2_s, tyn_i, tyn_b, tyn_t, tyn_l, tyn_s, tyn_n, k_ii, k_ib, k_tt, gN1_d, gN1_o, gN1_a, gaF_d, gaF_o, gTup_e, gs_n, gs_c, par2G_e, par2F_s, svOf_d, svOf_o, par3G_e, par3F_s, stF2_s, stF_s, stG_e, gStL_e, gOwn_e, owL_a, apG_e, apI_e, iterF_t, iterF_l, rng1F_e, rng2F_e, zip2F_s, zip2G_e, zip3F_s, zip3G_e, seqD_t, seqD_l, finP_d, finP_o, finP_a, finF_d, finF_o, finJF_d, finJF_o, finJ_d, finJ_o, startD_e, startJ_e, dnI_e, dnIH_e, dnGF_e, dnGetF_e, dnSF_e, dnSH_e, gStDn_e, dn1F_e, atI_0, atI_1, atI_2, ixN_2_0, ixN_2_1, appK_eq, cmp_i, eqv_ii, eqv_nn, cast1, cast2, cast3, List.map_cons, List.map_nil, List.append_nil, List.nil_append, List.cons_append, List.replicate_succ, List.replicate_zero, List.length_cons, List.length_nil, List.getElem?_cons_zero, List.getElem?_cons_succ, List.set_cons_zero, List.set_cons_succ, Option.map_some, Bool.not_true, Bool.not_false, Nat.reduceAdd, Nat.reduceSub, Nat.zero_add, Nat.add_zero, if_true, if_false, decide_true, decide_false, and_true, true_and, Nat.reduceLeDiff, Nat.sub_zero, Nat.sub_self, jarO]
  exact h (1 + e, 1 + e + m, k) ⟨by dsimp only; omega, by dsimp only; omega, by dsimp only; omega, by dsimp only; omega, k0, by dsimp only; omega⟩ (by dsimp only; omega) a b jo
def Dx__law_cup (P : Program) (w : World) (K : PySem.W.Frag) (mg : Str → Option Value) (base : Heap) : Prop := ∃ f fd, Def P w K mg base 3 "_law_cup" f fd ["jar", "most"] (spJ (bas P w K) 1 sp__law_cup)
theorem ok__law_cup {P : Program} {w : World} {K : PySem.W.Frag} {mg : Str → Option Value} {base : Heap} (M : Mg mg) (D__law_any : Dx__law_any P w K mg base) (D__law_drip : Dx__law_drip P w K mg base) {f : Addr} {fd : FuncData} (F : FunD K "_law_cup" "_law_cup" (defArgs s__law_cup) (defBody s__law_cup) (defScope s__law_cup) [] [] f fd) : FnOk P w K mg base CX0 3 f fd ["jar", "most"] (spJ (bas P w K) 1 sp__law_cup) := by
  obtain ⟨a__law_any, fd__law_any, D__law_any⟩ := D__law_any
  obtain ⟨a__law_drip, fd__law_drip, D__law_drip⟩ := D__law_drip
  exact okJ (tb := t__law_cup) F sc__law_cup (fun cdv A outer s H E j hr =>
    (dss_cons (ds_asg (de_add de_int (de_callJ D__law_drip.own (hr.mono (by decide)) (by rfl) (da_cons (de_var (pv 0)) (da_cons (de_data (de_var (pv 1))) da_nil)))) (dg_name sc__law_cup.nd (i := 2) rfl (by first | exact .inl rfl | exact .inr rfl) (by first | exact .inl rfl | exact .inr (by decide))))
      (dss_cons (ds_asg (de_add (de_var (pv 2)) (de_callJ D__law_any.own (hr.mono (by decide)) (by rfl) (da_cons (de_var (pv 0)) (da_cons (de_data (de_lst (da_cons de_int (da_cons de_int (da_cons (de_data (de_callJ D__law_drip.own (hr.mono (by decide)) (by rfl) (da_cons (de_var (pv 0)) (da_cons (de_data (de_sub de_int (de_var (pv 2)))) da_nil)))) (da_cons (de_data (de_sub de_int (de_var (pv 2)))) da_nil)))))) da_nil)))) (dg_name sc__law_cup.nd (i := 3) rfl (by first | exact .inl rfl | exact .inr rfl) (by first | exact .inl rfl | exact .inr (by decide))))
      (dss_one (ds_ret (de_tup (da_cons (de_data (de_var (pv 2))) (da_cons (de_data (de_var (pv 3))) (da_cons (de_data (de_callJ D__law_any.own (hr.mono (by decide)) (by rfl) (da_cons (de_var (pv 0)) (da_cons (de_data (de_lst (da_cons de_int (da_cons de_int (da_cons (de_data (de_callJ D__law_drip.own (hr.mono (by decide)) (by rfl) (da_cons (de_var (pv 0)) (da_cons (de_data (de_var (pv 2))) da_nil)))) da_nil))))) da_nil)))) da_nil))))))))) rd__law_cup
end DL

set_option Elab.async false
set_option linter.all false
set_option maxRecDepth 100000
set_option maxHeartbeats 0
namespace DL
open PySem PySem.Spec L2
open PyProof.Rows hiding St
theorem cut_from1 {α : Type} (f : α → D) (l : List α) : cutD (l.map f) (some 1) none = (l.drop 1).map f := cut_from f l 1
theorem cut_cons1 (x : D) (l : List D) : cutD (x :: l) (some 1) none = l := by
  have := cut_from1 id (x :: l)
  simpa using this
def N__law_gift : List Str := ["jar", "spell", "most", "found", "turn"]
theorem sc__law_gift : FnScope N__law_gift ["jar", "spell", "most"] (defScope s__law_gift) := ⟨rfl, rfl, rfl, by decide +kernel, rfl, by decide +kernel, by decide +kernel⟩
def t__law_gift : DTS :=
    (dSeq (dAsg (dTup dNil) (gN1 3))
      (dSeq (dFor (dRng1 (dCons (dD (dVar 1)) dNil)) (gN1 4) (dAsg (d2 fAdd (dD (dVar 3)) (dD (dTup (dCons (dD (dCB (jOf (jN 1 sp__law_any)) (dCons (dVar 0) (dCons (dD (dLst (dCons (dC (.int 0)) (dCons (dC (.int 0)) (dCons (dD (dCB (jOf (jN 1 sp__law_drip)) (dCons (dVar 0) (dCons (dD (d2 fAdd (dD (dVar 2)) (dD (dC (.int 1))))) dNil)))) dNil))))) dNil)))) dNil)))) (gN1 3)))
      (dRet (dVar 3))))
def sp__law_gift : DJ := fun o ds R => ∃ a b spell most : Int, o = jarO a b ∧ ds = [.int spell, .int most] ∧ JarOk a b ∧ 1 ≤ spell ∧ spell ≤ 6 ∧ 0 ≤ most ∧ most ≤ 20 ∧ ∀ t : List Int, TapOk spell t → ∀ a' b', JarOk a' b' → R (.d (intsD t)) (jarO a' b')
theorem rd__law_gift : ∀ o ds R, ds.length = 2 → sp__law_gift o ds R → t__law_gift { nx := fun ρ => finJ R (.d .non) ρ, rt := finJ R } (startJ N__law_gift o ds) := by
  rintro o ds R - ⟨a, b, spell, most, rfl, rfl, jo, h1, h2, h3, h4, h⟩
  have b40 : (1000000 : Int) < 10 ^ 40 := by decide +kernel
  simp only [↓e_var, ↓e_C, ↓e_dD, ↓e_d2, ↓e_neg, ↓e_isN, ↓e_B, ↓e_And, ↓e_Or, ↓e_Not, ↓e_AndV, ↓e_OrV, ↓e_NotV, ↓e_IfE, ↓e_Chain, ↓e_Ix, ↓e_Sl, ↓e_No, ↓e_Part, ↓e_nil, ↓e_cons, ↓e_Tup, ↓e_Lst, ↓e_CB, ↓e_ofD, ↓e_jOf, ↓e_Len, ↓e_Ints, ↓e_fMax, ↓e_fMin, ↓e_Tuple, ↓e_List, ↓e_Bls, ↓e_Is, ↓e_seq, ↓e_skip, ↓e_ret, ↓e_drop, ↓e_ifS, ↓e_never, ↓e_asg, ↓e_par2, ↓e_par3, ↓e_App, ↓e_For, ↓e_While, ↓e_Iter, ↓e_Rng1, ↓e_Rng2, ↓e_Zip2, ↓e_Zip3, ↓e_Lc, ↓e_Yes, ↓e_Dn0, ↓e_DnIn, ↓e_DnGet, ↓e_Dn1, iteG_t, iteG_f, iteG_d, iteG_n, iteG_a, iteG_o, iteG_x, iteG_e, iteG_s, iteG_l, iteG_y, iteF_t, iteF_f, varF_d, varF_o, toD_d, toD_l, toD_a, toDF_d, toDF_l, d2F_d, fAdd_i, fAdd_s, fAdd_t, fAdd_l, fSub_i, fMul_i, fMulR_i, fMulR_t, fMulR_l, fDiv_i, fMod_i, fPow_i, negF_i, cLt_i, cLe_i, cGt_i, cGe_i, cEq_e, cNe_e, isNF_n, isNF_t, isNF_i, dBF_b, boF_b, notVF_b, ch2F_d, chF_d, seqOf_t, seqOf_l, seqOf_o, seqOf_s, seqOf_a, seqF_t, seqF_l, seqF_o, kindOf_t, kindOf_l, kindOf_o, kindOf_a, kindF_t, kindF_l, kindF_o, ixF2_s, ixF_s, slF_t, slF_f, partF_i, allD_n, allD_c, tupF_s, lstF_s, ofDF_s, gInt_i, gInt_b, gAbs_i, gMax2_i, gMin2_i, gN_e, jF_s, lenF_s, intsF2_s, intsF_s, fSum_e, gTF_s, gLF_s, blsF_s, blsF2_s, isF_s, isF2_s, tyn_i, tyn_b, tyn_t, tyn_l, tyn_s, tyn_n, k_ii, k_ib, k_tt, gN1_d, gN1_o, gN1_a, gaF_d, gaF_o, gTup_e, gs_n, gs_c, par2G_e, par2F_s, svOf_d, svOf_o, par3G_e, par3F_s, stF2_s, stF_s, stG_e, gStL_e, gOwn_e, owL_a, apG_e, apI_e, iterF_t, iterF_l, rng1F_e, rng2F_e, zip2F_s, zip2G_e, zip3F_s, zip3G_e, seqD_t, seqD_l, finP_d, finP_o, finP_a, finF_d, finF_o, finJF_d, finJF_o, finJ_d, finJ_o, startD_e, startJ_e, dnI_e, dnIH_e, dnGF_e, dnGetF_e, dnSF_e, dnSH_e, gStDn_e, dn1F_e, atI_0, atI_1, atI_2, ixN_2_0, ixN_2_1, appK_eq, cmp_i, eqv_ii, eqv_nn, cast1, cast2, cast3, List.map_cons, List.map_nil, List.append_nil, List.nil_append, List.cons_append, List.replicate_succ, List.replicate_zero, List.length_cons, List.length_nil, List.getElem?_cons_zero, List.getElem?_cons_succ, List.set_cons_zero, List.set_cons_succ, Option.map_some, Bool.not_true, Bool.not_false, Nat.reduceAdd, Nat.reduceSub, Nat.zero_add, Nat.add_zero, if_true, if_false, decide_true, decide_false, and_true, true_and, Nat.reduceLeDiff, Nat.sub_zero, Nat.sub_self, t__law_gift, N__law_gift, jarO]
  refine ⟨by omega, ?_⟩
  refine dLoop_rel (fun k : Nat => D.int (0 + (k : Int))) (fun l ρ => ∃ (a b : Int) (t : List Int) (z : SV), JarOk a b ∧ ρ = [SV.ow (.lst [.int a, .int b]), .d (.int spell), .d (.int most), .d (.tup (t.map .int)), z] ∧ t.length + l.length = spell.toNat ∧ ∀ x ∈ t, 0 ≤ x ∧ x ≤ 20) ?_ ?_ _ _ ⟨a, b, [], _, jo, rfl, by simp, by simp⟩
  · rintro k l ρ ⟨a, b, t, z, jo, rfl, hl, ht⟩ K hK
    rw [List.length_cons] at hl
    simp only [↓e_var, ↓e_C, ↓e_dD, ↓e_d2, ↓e_neg, ↓e_isN, ↓e_B, ↓e_And, ↓e_Or, ↓e_Not, ↓e_AndV, ↓e_OrV, ↓e_NotV, ↓e_IfE, ↓e_Chain, ↓e_Ix, ↓e_Sl, ↓e_No, ↓e_Part, ↓e_nil, ↓e_cons, ↓e_Tup, ↓e_Lst, ↓e_CB, ↓e_ofD, ↓e_jOf, ↓e_Len, ↓e_Ints, ↓e_fMax, ↓e_fMin, ↓e_Tuple, ↓e_List, ↓e_Bls, ↓e_Is, ↓e_seq, ↓e_skip, ↓e_ret, ↓e_drop, ↓e_ifS, ↓e_never, ↓e_asg, ↓e_par2, ↓e_par3, ↓e_App, ↓e_For, ↓e_While, ↓e_Iter, ↓e_Rng1, ↓e_Rng2, ↓e_Zip2, ↓e_Zip3, ↓e_Lc, ↓e_Yes, ↓e_Dn0, ↓e_DnIn, ↓e_DnGet, ↓e_Dn1, iteG_t, iteG_f, iteG_d, iteG_n, iteG_a, iteG_o, iteG_x, iteG_e, iteG_s, iteG_l, iteG_y, iteF_t, iteF_f, varF_d, varF_o, toD_d, toD_l, toD_a, toDF_d, toDF_l, d2F_d, fAdd_i, fAdd_s, fAdd_t, fAdd_l, fSub_i, fMul_i, fMulR_i, fMulR_t, fMulR_l, fDiv_i, fMod_i, fPow_i, negF_i, cLt_i, cLe_i, cGt_i, cGe_i, cEq_e, cNe_e, isNF_n, isNF_t, isNF_i, dBF_b, boF_b, notVF_b, ch2F_d, chF_d, seqOf_t, seqOf_l, seqOf_o, seqOf_s, seqOf_a, seqF_t, seqF_l, seqF_o, kindOf_t, kindOf_l, kindOf_o, kindOf_a, kindF_t, kindF_l, kindF_o, ixF2_s, ixF_s, slF_t, slF_f, partF_i, allD_n, allD_c, tupF_s, lstF_s, ofDF_s, gInt_i, gInt_b, gAbs_i, gMax2_i, gMin2_i, gN_e, jF_s, lenF_s, intsF2_s, intsF_s, fSum_e, gTF_s, gLF_s, blsF_s, blsF2_s, isF_s, isF2_s, tyn_i, tyn_b, tyn_t, tyn_l, tyn_s, tyn_n, k_ii, k_ib, k_tt, gN1_d, gN1_o, gN1_a, gaF_d, gaF_o, gTup_e, gs_n, gs_c, par2G_e, par2F_s, svOf_d, svOf_o, par3G_e, par3F_s, stF2_s, stF_s, stG_e, gStL_e, gOwn_e, owL_a, apG_e, apI_e, iterF_t, iterF_l, rng1F_e, rng2F_e, zip2F_s, zip2G_e, zip3F_s, zip3G_e, seqD_t, seqD_l, finP_d, finP_o, finP_a, finF_d, finF_o, finJF_d, finJF_o, finJ_d, finJ_o, startD_e, startJ_e, dnI_e, dnIH_e, dnGF_e, dnGetF_e, dnSF_e, dnSH_e, gStDn_e, dn1F_e, atI_0, atI_1, atI_2, ixN_2_0, ixN_2_1, appK_eq, cmp_i, eqv_ii, eqv_nn, cast1, cast2, cast3, List.map_cons, List.map_nil, List.append_nil, List.nil_append, List.cons_append, List.replicate_succ, List.replicate_zero, List.length_cons, List.length_nil, List.getElem?_cons_zero, List.getElem?_cons_succ, List.set_cons_zero, List.set_cons_succ, Option.map_some, Bool.not_true, Bool.not_false, Nat.reduceAdd, Nat.reduceSub, Nat.zero_add, Nat.add_zero, if_true, if_false, decide_true, decide_false, and_true, true_and, Nat.reduceLeDiff, Nat.sub_zero, Nat.sub_self]
    refine draw jo (by omega) (by omega) (fun v a b v0 v1 jo => ?_)
    simp only [↓e_var, ↓e_C, ↓e_dD, ↓e_d2, ↓e_neg, ↓e_isN, ↓e_B, ↓e_And, ↓e_Or, ↓e_Not, ↓e_AndV, ↓e_OrV, ↓e_NotV, ↓e_IfE, ↓e_Chain, ↓e_Ix, ↓e_Sl, ↓e_No, ↓e_Part, ↓e_nil, ↓e_cons, ↓e_Tup, ↓e_Lst, ↓e_CB, ↓e_ofD, ↓e_jOf, ↓e_Len, ↓e_Ints, ↓e_fMax, ↓e_fMin, ↓e_Tuple, ↓e_List, ↓e_Bls, ↓e_Is, ↓e_seq, ↓e_skip, ↓e_ret, ↓e_drop, ↓e_ifS, ↓e_never, ↓e_asg, ↓e_par2, ↓e_par3, ↓e_App, ↓e_For, ↓e_While, ↓e_Iter, ↓e_Rng1, ↓e_Rng2, ↓e_Zip2, ↓e_Zip3, ↓e_Lc, ↓e_Yes, ↓e_Dn0, ↓e_DnIn, ↓e_DnGet, ↓e_Dn1, iteG_t, iteG_f, iteG_d, iteG_n, iteG_a, iteG_o, iteG_x, iteG_e, iteG_s, iteG_l, iteG_y, iteF_t, iteF_f, varF_d, varF_o, toD_d, toD_l, toD_a, toDF_d, toDF_l, d2F_d, fAdd_i, fAdd_s, fAdd_t, fAdd_l, fSub_i, fMul_i, fMulR_i, fMulR_t, fMulR_l, fDiv_i, fMod_i, fPow_i, negF_i, cLt_i, cLe_i, cGt_i, cGe_i, cEq_e, cNe_e, isNF_n, isNF_t, isNF_i, dBF_b, boF_b, notVF_b, ch2F_d, chF_d, seqOf_t, seqOf_l, seqOf_o, seqOf_s, seqOf_a, seqF_t, seqF_l, seqF_o, kindOf_t, kindOf_l, kindOf_o, kindOf_a, kindF_t, kindF_l, kindF_o, ixF2_s, ixF_s, slF_t, slF_f, partF_i, allD_n, allD_c, tupF_s, lstF_s, ofDF_s, gInt_i, gInt_b, gAbs_i, gMax2_i, gMin2_i, gN_e, jF_s, lenF_s, intsF2_s, intsF_s, fSum_e, gTF_s, gLF_s, blsF_s, blsF2_s, isF_s, isF2_s, tyn_i, tyn_b, tyn_t, tyn_l, tyn_s, tyn_n, k_ii, k_ib, k_tt, gN1_d, gN1_o, gN1_a, gaF_d, gaF_o, gTup_e, gs_n, gs_c, par2G_e, par2F_s, svOf_d, svOf_o, par3G_e, par3F_s, stF2_s, stF_s, stG_e, gStL_e, gOwn_e, owL_a, apG_e, apI_e, iterF_t, iterF_l, rng1F_e, rng2F_e, zip2F_s, zip2G_e, zip3F_s, zip3G_e, seqD_t, seqD_l, finP_d, finP_o, finP_a, finF_d, finF_o, finJF_d, finJF_o, finJ_d, finJ_o, startD_e, startJ_e, dnI_e, dnIH_e, dnGF_e, dnGetF_e, dnSF_e, dnSH_e, gStDn_e, dn1F_e, atI_0, atI_1, atI_2, ixN_2_0, ixN_2_1, appK_eq, cmp_i, eqv_ii, eqv_nn, cast1, cast2, cast3, List.map_cons, List.map_nil, List.append_nil, List.nil_append, List.cons_append, List.replicate_succ, List.replicate_zero, List.length_cons, List.length_nil, List.getElem?_cons_zero, List.getElem?_cons_succ, List.set_cons_zero, List.set_cons_succ, Option.map_some, Bool.not_true, Bool.not_false, Nat.reduceAdd, Nat.reduceSub, Nat.zero_add, Nat.add_zero, if_true, if_false, decide_true, decide_false, and_true, true_and, Nat.reduceLeDiff, Nat.sub_zero, Nat.sub_self, jarO]
    refine drawAny rfl jo (by simp) (by simp) (fun w hw a b jo => ?_)
    have hw' : ∃ m : Int, w = .int m ∧ 0 ≤ m ∧ m ≤ 20 := by
      simp only [List.mem_cons, List.not_mem_nil, or_false] at hw
      rcases hw with rfl | rfl | rfl
      · exact ⟨_, rfl, by omega, by omega⟩
      · exact ⟨_, rfl, by omega, by omega⟩
      · exact ⟨_, rfl, by omega, by omega⟩
    obtain ⟨m, rfl, m0, m1⟩ := hw'
    simp only [↓e_var, ↓e_C, ↓e_dD, ↓e_d2, ↓e_neg, ↓e_isN, ↓e_B, ↓e_And, ↓e_Or, ↓e_Not, ↓e_AndV, ↓e_OrV, ↓e_NotV, ↓e_IfE, ↓e_Chain, ↓e_Ix, ↓e_Sl, ↓e_No, ↓e_Part, ↓e_nil, ↓e_cons, ↓e_Tup, ↓e_Lst, ↓e_CB, ↓e_ofD, ↓e_jOf, ↓e_Len, ↓e_Ints, ↓e_fMax, ↓e_fMin, ↓e_Tuple, ↓e_List, ↓e_Bls, ↓e_Is, ↓e_seq, ↓e_skip, ↓e_ret, ↓e_drop, ↓e_ifS, ↓e_never, ↓e_asg, ↓e_par2, ↓e_par3, ↓e_App, ↓e_For, ↓e_While, ↓e_Iter, ↓e_Rng1, ↓e_Rng2, ↓e_Zip2, ↓e_Zip3, ↓e_Lc, ↓e_Yes, ↓e_Dn0, ↓e_DnIn, ↓e_DnGet, ↓e_Dn1, iteG_t, iteG_f, iteG_d, iteG_n, iteG_a, iteG_o, iteG_x, iteG_e, iteG_s, iteG_l, iteG_y, iteF_t, iteF_f, varF_d, varF_o, toD_d, toD_l, toD_a, toDF_d, toDF_l, d2F_d, fAdd_i, fAdd_s, fAdd_t, fAdd_l, fSub_i, fMul_i, fMulR_i, fMulR_t, fMulR_l, fDiv_i, fMod_i, fPow_i, negF_i, cLt_i, cLe_i, cGt_i, cGe_i, cEq_e, cNe_e, isNF_n, isNF_t, isNF_i, dBF_b, boF_b, notVF_b, ch2F_d, chF_d, seqOf_t, seqOf_l, seqOf_o, seqOf_s, seqOf_a, seqF_t, seqF_l, seqF_o, kindOf_t, kindOf_l, kindOf_o, kindOf_a, kindF_t, kindF_l, kindF_o, ixF2_s, ixF_s, slF_t, slF_f, partF_i, allD_n, allD_c, tupF_s, lstF_s, ofDF_s, gInt_i, gInt_b, gAbs_i, gMax2_i, gMin2_i, gN_e, jF_s, lenF_s, intsF2_s, intsF_s, fSum_e, gTF_s, gLF_s, blsF_s, blsF2_s, isF_s, isF2_s, tyn_i, tyn_b, tyn_t, tyn_l, tyn_s, tyn_n, k_ii, k_ib, k_tt, gN1_d, gN1_o, gN1_a, gaF_d, gaF_o, gTup_e, gs_n, gs_c, par2G_e, par2F_s, svOf_d, svOf_o, par3G_e, par3F_s, stF2_s, stF_s, stG_e, gStL_e, gOwn_e, owL_a, apG_e, apI_e, iterF_t, iterF_l, rng1F_e, rng2F_e, zip2F_s, zip2G_e, zip3F_s, zip3G_e, seqD_t, seqD_l, finP_d, finP_o, finP_a, finF_d, finF_o, finJF_d, finJF_o, finJ_d, finJ_o, startD_e, startJ_e, dnI_e, dnIH_e, dnGF_e, dnGetF_e, dnSF_e, dnSH_e, gStDn_e, dn1F_e, atI_0, atI_1, atI_2, ixN_2_0, ixN_2_1, appK_eq, cmp_i, eqv_ii, eqv_nn, cast1, cast2, cast3, List.map_cons, List.map_nil, List.append_nil, List.nil_append, List.cons_append, List.replicate_succ, List.replicate_zero, List.length_cons, List.length_nil, List.getElem?_cons_zero, List.getElem?_cons_succ, List.set_cons_zero, List.set_cons_succ, Option.map_some, Bool.not_true, Bool.not_false, Nat.reduceAdd, Nat.reduceSub, Nat.zero_add, Nat.add_zero, if_true, if_false, decide_true, decide_false, and_true, true_and, Nat.reduceLeDiff, Nat.sub_zero, Nat.sub_self, jarO]
    refine ⟨by rw [List.length_map, sizeLine_eq]; omega, hK _ ⟨a, b, t ++ [m], _, jo, by simp only [List.map_append, List.map_cons, List.map_nil]; rfl, by simp; omega, fun x hx => ?_⟩⟩
    rcases List.mem_append.mp hx with hx | hx
    · exact ht x hx
    · rw [List.mem_singleton.mp hx]; exact ⟨m0, m1⟩
  · rintro ρ ⟨a, b, t, z, jo, rfl, hl, ht⟩
    simp only [↓e_var, ↓e_C, ↓e_dD, ↓e_d2, ↓e_neg, ↓e_isN, ↓e_B, ↓e_And, ↓e_Or, ↓e_Not, ↓e_AndV, ↓e_OrV, ↓e_NotV, ↓e_IfE, ↓e_Chain, ↓e_Ix, ↓e_Sl, ↓e_No, ↓e_Part, ↓e_nil, ↓e_cons, ↓e_Tup, ↓e_Lst, ↓e_CB, ↓e_ofD, ↓e_jOf, ↓e_Len, ↓e_Ints, ↓e_fMax, ↓e_fMin, ↓e_Tuple, ↓e_List, ↓e_Bls, ↓e_Is, ↓e_seq, ↓e_skip, ↓e_ret, ↓e_drop, ↓e_ifS, ↓e_never, ↓e_asg, ↓e_par2, ↓e_par3, ↓e_App, ↓e_For, ↓e_While, ↓e_Iter, ↓e_Rng1, ↓e_Rng2, ↓e_Zip2, ↓e_Zip3, ↓e_Lc, ↓e_Yes, ↓e_Dn0, ↓e_DnIn, ↓e_DnGet, ↓e_Dn1, iteG_t, iteG_f, iteG_d, iteG_n, iteG_a, iteG_o, iteG_x, iteG_e, iteG_s, iteG_l, iteG_y, iteF_t, iteF_f, varF_d, varF_o, toD_d, toD_l, toD_a, toDF_d, toDF_l, d2F_d, fAdd_i, fAdd_s, fAdd_t, fAdd_l, fSub_i, fMul_i, fMulR_i, fMulR_t, fMulR_l, fDiv_i, fMod_i, fPow_i, negF_i, cLt_i, cLe_i, cGt_i, cGe_i, cEq_e, cNe_e, isNF_n, isNF_t, isNF_i, dBF_b, boF_b, notVF_b, ch2F_d, chF_d, seqOf_t, seqOf_l, seqOf_o, seqOf_s, seqOf_a, seqF_t, seqF_l, seqF_o, kindOf_t, kindOf_l, kindOf_o, kindOf_a, kindF_t, kindF_l, kindF_o, ixF2_s, ixF_s, slF_t, slF_f, partF_i, allD_n, allD_c, tupF_s, lstF_s, ofDF_s, gInt_i, gInt_b, gAbs_i, gMax2_i, gMin2_i, gN_e, jF_s, lenF_s, intsF2_s, intsF_s, fSum_e, gTF_s, gLF_s, blsF_s, blsF2_s, isF_s, isF2_s, tyn_i, tyn_b, tyn_t, tyn_l, tyn_s, tyn_n, k_ii, k_ib, k_tt, gN1_d, gN1_o, gN1_a, gaF_d, gaF_o, gTup_e, gs_n, gs_c, par2G_e, par2F_s, svOf_d, svOf_o, par3G_e, par3F_s, stF2_s, stF_s, stG_e, gStL_e, gOwn_e, owL_a, apG_e, apI_e, iterF_t, iterF_l, rng1F_e, rng2F_e, zip2F_s, zip2G_e, zip3F_s, zip3G_e, seqD_t, seqD_l, finP_d, finP_o, finP_a, finF_d, finF_o, finJF_d, finJF_o, finJ_d, finJ_o, startD_e, startJ_e, dnI_e, dnIH_e, dnGF_e, dnGetF_e, dnSF_e, dnSH_e, gStDn_e, dn1F_e, atI_0, atI_1, atI_2, ixN_2_0, ixN_2_1, appK_eq, cmp_i, eqv_ii, eqv_nn, cast1, cast2, cast3, List.map_cons, List.map_nil, List.append_nil, List.nil_append, List.cons_append, List.replicate_succ, List.replicate_zero, List.length_cons, List.length_nil, List.getElem?_cons_zero, List.getElem?_cons_succ, List.set_cons_zero, List.set_cons_succ, Option.map_some, Bool.not_true, Bool.not_false, Nat.reduceAdd, Nat.reduceSub, Nat.zero_add, Nat.add_zero, if_true, if_false, decide_true, decide_false, and_true, true_and, Nat.reduceLeDiff, Nat.sub_zero, Nat.sub_self]
    rw [List.length_nil] at hl
    exact h t ⟨by omega, ht⟩ a b jo
def Dx__law_gift (P : Program) (w : World) (K : PySem.W.Frag) (mg : Str → Option Value) (base : Heap) : Prop := ∃ f fd, Def P w K mg base 3 "_law_gift" f fd ["jar", "spell", "most"] (spJ (bas P w K) 2 sp__law_gift)
theorem ok__law_gift {P : Program} {w : World} {K : PySem.W.Frag} {mg : Str → Option Value} {base : Heap} (M : Mg mg) (D__law_any : Dx__law_any P w K mg base) (D__law_drip : Dx__law_drip P w K mg base) {f : Addr} {fd : FuncData} (F : FunD K "_law_gift" "_law_gift" (defArgs s__law_gift) (defBody s__law_gift) (defScope s__law_gift) [] [] f fd) : FnOk P w K mg base CX0 3 f fd ["jar", "spell", "most"] (spJ (bas P w K) 2 sp__law_gift) := by
  obtain ⟨a__law_any, fd__law_any, D__law_any⟩ := D__law_any
  obtain ⟨a__law_drip, fd__law_drip, D__law_drip⟩ := D__law_drip
  exact okJ (tb := t__law_gift) F sc__law_gift (fun cdv A outer s H E j hr =>
    (dss_cons (ds_asg (de_tup da_nil) (dg_name sc__law_gift.nd (i := 3) rfl (by first | exact .inl rfl | exact .inr rfl) (by first | exact .inl rfl | exact .inr (by decide))))
      (dss_cons (ds_for PassesOwn.never rfl (di_range1 (by rfl) M.f_range (da_cons (de_data (de_var (pv 1))) da_nil)) (dg_name sc__law_gift.nd (i := 4) rfl (by first | exact .inl rfl | exact .inr rfl) (by first | exact .inl rfl | exact .inr (by decide))) (dss_one (ds_asg (de_add (de_var (pv 3)) (de_tup (da_cons (de_data (de_callJ D__law_any.own (hr.mono (by decide)) (by rfl) (da_cons (de_var (pv 0)) (da_cons (de_data (de_lst (da_cons de_int (da_cons de_int (da_cons (de_data (de_callJ D__law_drip.own (hr.mono (by decide)) (by rfl) (da_cons (de_var (pv 0)) (da_cons (de_data (de_add (de_var (pv 2)) de_int)) da_nil)))) da_nil))))) da_nil)))) da_nil))) (dg_name sc__law_gift.nd (i := 3) rfl (by first | exact .inl rfl | exact .inr rfl) (by first | exact .inl rfl | exact .inr (by decide))))))
      (dss_one (ds_ret (de_var (pv 3))))))) rd__law_gift
def N__law_line : List Str := ["jar", "most", "wide", "spell", "cups", "gifts", "total", "turn", "cup", "first"]
theorem sc__law_line : FnScope N__law_line ["jar", "most", "wide"] (defScope s__law_line) := ⟨rfl, rfl, rfl, by decide +kernel, rfl, by decide +kernel, by decide +kernel⟩
def t__law_line : DTS :=
    (dSeq (dAsg (dTup (dCons (dD (d2 fAdd (dD (dC (.int 1))) (dD (dCB (jOf (jN 1 sp__law_drip)) (dCons (dVar 0) (dCons (dC (.int 6)) dNil)))))) (dCons (dD (dTup dNil)) (dCons (dD (dTup dNil)) (dCons (dC (.int 1)) dNil))))) (gTupD 4 (gsCons (gN1 3) (gsCons (gN1 4) (gsCons (gN1 5) (gsCons (gN1 6) gsNil))))))
      (dSeq (dFor (dRng1 (dCons (dD (d2 fAdd (dD (dC (.int 1))) (dD (dCB (jOf (jN 1 sp__law_drip)) (dCons (dVar 0) (dCons (dD (dVar 2)) dNil)))))) dNil)) (gN1 7) (dSeq (dAsg (dCB (jOf (jN 1 sp__law_cup)) (dCons (dVar 0) (dCons (dD (dCB (ofD gMin2) (dCons (dC (.int 60)) (dCons (dD (dCB (ofD gMax2) (dCons (dC (.int 1)) (dCons (dD (d2 fDiv (dD (dVar 1)) (dD (dVar 6)))) dNil)))) dNil)))) dNil))) (gN1 8))
      (dIfS (dB (d2 cLe (dD (d2 fMul (dD (dVar 6)) (dD (dIx (dVar 8) (dC (.int 0)))))) (dD (dVar 1)))) (dSeq (dPar2 4 6 (dCons (d2 fAdd (dD (dVar 4)) (dD (dTup (dCons (dD (dVar 8)) dNil)))) (dCons (d2 fMul (dD (dVar 6)) (dD (dIx (dVar 8) (dC (.int 0))))) dNil)))
      (dAsg (d2 fAdd (dD (dVar 5)) (dD (dTup (dCons (dD (dCB (jOf (jN 2 sp__law_gift)) (dCons (dVar 0) (dCons (dD (dVar 3)) (dCons (dD (dCB (jOf (jN 1 sp__law_any)) (dCons (dVar 0) (dCons (dD (dLst (dCons (dC (.int 3)) (dCons (dC (.int 9)) (dCons (dC (.int 20)) dNil))))) dNil)))) dNil))))) dNil)))) (gN1 5))) dSkip)))
      (dSeq (dAsg (dIx (dVar 5) (dC (.int 0))) (gN1 9))
      (dSeq (dIfS (dB (d2 cEq (dD (dCB (gInts fMax) (dCons (dVar 9) dNil))) (dD (dC (.int 0))))) (dAsg (d2 fAdd (dD (dTup (dCons (dD (d2 fAdd (dD (dC (.int 1))) (dD (dCB (jOf (jN 1 sp__law_drip)) (dCons (dVar 0) (dCons (dC (.int 20)) dNil)))))) dNil))) (dD (dSl (dVar 9) (dPart (dC (.int 1))) dNo))) (gN1 9)) dSkip)
      (dRet (dTup (dCons (dD (dVar 3)) (dCons (dD (dVar 4)) (dCons (dD (d2 fAdd (dD (dTup (dCons (dD (dVar 9)) dNil))) (dD (dSl (dVar 5) (dPart (dC (.int 1))) dNo)))) dNil)))))))))
def sp__law_line : DJ := fun o ds R => ∃ a b most wide : Int, o = jarO a b ∧ ds = [.int most, .int wide] ∧ JarOk a b ∧ 1 ≤ most ∧ most ≤ 4000 ∧ 1 ≤ wide ∧ wide ≤ 3 ∧ ∀ r : Row, r.Ok → knees 1 r.cups ≤ most → ∀ a' b', JarOk a' b' → R (.d (rowD r)) (jarO a' b')
theorem rd__law_line : ∀ o ds R, ds.length = 2 → sp__law_line o ds R → t__law_line { nx := fun ρ => finJ R (.d .non) ρ, rt := finJ R } (startJ N__law_line o ds) := by
  rintro o ds R - ⟨a, b, most, wide, rfl, rfl, jo, h1, h2, h3, h4, h⟩
  have b40 : (1000000 : Int) < 10 ^ 40 := by decide +kernel
  simp only [↓e_var, ↓e_C, ↓e_dD, ↓e_d2, ↓e_neg, ↓e_isN, ↓e_B, ↓e_And, ↓e_Or, ↓e_Not, ↓e_AndV, ↓e_OrV, ↓e_NotV, ↓e_IfE, ↓e_Chain, ↓e_Ix, ↓e_Sl, ↓e_No, ↓e_Part, ↓e_nil, ↓e_cons, ↓e_Tup, ↓e_Lst, ↓e_CB, ↓e_ofD, ↓e_jOf, ↓e_Len, ↓e_Ints, ↓e_fMax, ↓e_fMin, ↓e_Tuple, ↓e_List, ↓e_Bls, ↓e_Is, ↓e_seq, ↓e_skip, ↓e_ret, ↓e_drop, ↓e_ifS, ↓e_never, ↓e_asg, ↓e_par2, ↓e_par3, ↓e_App, ↓e_For, ↓e_While, ↓e_Iter, ↓e_Rng1, ↓e_Rng2, ↓e_Zip2, ↓e_Zip3, ↓e_Lc, ↓e_Yes, ↓e_Dn0, ↓e_DnIn, ↓e_DnGet, ↓e_Dn1, iteG_t, iteG_f, iteG_d, iteG_n, iteG_a, iteG_o, iteG_x, iteG_e, iteG_s, iteG_l, iteG_y, iteF_t, iteF_f, varF_d, varF_o, toD_d, toD_l, toD_a, toDF_d, toDF_l, d2F_d, fAdd_i, fAdd_s, fAdd_t, fAdd_l, fSub_i, fMul_i, fMulR_i, fMulR_t, fMulR_l, fDiv_i, fMod_i, fPow_i, negF_i, cLt_i, cLe_i, cGt_i, cGe_i, cEq_e, cNe_e, isNF_n, isNF_t, isNF_i, dBF_b, boF_b, notVF_b, ch2F_d, chF_d, seqOf_t, seqOf_l, seqOf_o, seqOf_s, seqOf_a, seqF_t, seqF_l, seqF_o, kindOf_t, kindOf_l, kindOf_o, kindOf_a, kindF_t, kindF_l, kindF_o, ixF2_s, ixF_s, slF_t, slF_f, partF_i, allD_n, allD_c, tupF_s, lstF_s, ofDF_s, gInt_i, gInt_b, gAbs_i, gMax2_i, gMin2_i, gN_e, jF_s, lenF_s, intsF2_s, intsF_s, fSum_e, gTF_s, gLF_s, blsF_s, blsF2_s, isF_s, isF2_s, tyn_i, tyn_b, tyn_t, tyn_l, tyn_s, tyn_n, k_ii, k_ib, k_tt, gN1_d, gN1_o, gN1_a, gaF_d, gaF_o, gTup_e, gs_n, gs_c, par2G_e, par2F_s, svOf_d, svOf_o, par3G_e, par3F_s, stF2_s, stF_s, stG_e, gStL_e, gOwn_e, owL_a, apG_e, apI_e, iterF_t, iterF_l, rng1F_e, rng2F_e, zip2F_s, zip2G_e, zip3F_s, zip3G_e, seqD_t, seqD_l, finP_d, finP_o, finP_a, finF_d, finF_o, finJF_d, finJF_o, finJ_d, finJ_o, startD_e, startJ_e, dnI_e, dnIH_e, dnGF_e, dnGetF_e, dnSF_e, dnSH_e, gStDn_e, dn1F_e, atI_0, atI_1, atI_2, ixN_2_0, ixN_2_1, appK_eq, cmp_i, eqv_ii, eqv_nn, cast1, cast2, cast3, List.map_cons, List.map_nil, List.append_nil, List.nil_append, List.cons_append, List.replicate_succ, List.replicate_zero, List.length_cons, List.length_nil, List.getElem?_cons_zero, List.getElem?_cons_succ, List.set_cons_zero, List.set_cons_succ, Option.map_some, Bool.not_true, Bool.not_false, Nat.reduceAdd, Nat.reduceSub, Nat.zero_add, Nat.add_zero, if_true, if_false, decide_true, decide_false, and_true, true_and, Nat.reduceLeDiff, Nat.sub_zero, Nat.sub_self, t__law_line, N__law_line, jarO]
  refine draw jo (by omega) (by omega) (fun sp a b sp0 sp1 jo => ?_)
  simp only [↓e_var, ↓e_C, ↓e_dD, ↓e_d2, ↓e_neg, ↓e_isN, ↓e_B, ↓e_And, ↓e_Or, ↓e_Not, ↓e_AndV, ↓e_OrV, ↓e_NotV, ↓e_IfE, ↓e_Chain, ↓e_Ix, ↓e_Sl, ↓e_No, ↓e_Part, ↓e_nil, ↓e_cons, ↓e_Tup, ↓e_Lst, ↓e_CB, ↓e_ofD, ↓e_jOf, ↓e_Len, ↓e_Ints, ↓e_fMax, ↓e_fMin, ↓e_Tuple, ↓e_List, ↓e_Bls, ↓e_Is, ↓e_seq, ↓e_skip, ↓e_ret, ↓e_drop, ↓e_ifS, ↓e_never, ↓e_asg, ↓e_par2, ↓e_par3, ↓e_App, ↓e_For, ↓e_While, ↓e_Iter, ↓e_Rng1, ↓e_Rng2, ↓e_Zip2, ↓e_Zip3, ↓e_Lc, ↓e_Yes, ↓e_Dn0, ↓e_DnIn, ↓e_DnGet, ↓e_Dn1, iteG_t, iteG_f, iteG_d, iteG_n, iteG_a, iteG_o, iteG_x, iteG_e, iteG_s, iteG_l, iteG_y, iteF_t, iteF_f, varF_d, varF_o, toD_d, toD_l, toD_a, toDF_d, toDF_l, d2F_d, fAdd_i, fAdd_s, fAdd_t, fAdd_l, fSub_i, fMul_i, fMulR_i, fMulR_t, fMulR_l, fDiv_i, fMod_i, fPow_i, negF_i, cLt_i, cLe_i, cGt_i, cGe_i, cEq_e, cNe_e, isNF_n, isNF_t, isNF_i, dBF_b, boF_b, notVF_b, ch2F_d, chF_d, seqOf_t, seqOf_l, seqOf_o, seqOf_s, seqOf_a, seqF_t, seqF_l, seqF_o, kindOf_t, kindOf_l, kindOf_o, kindOf_a, kindF_t, kindF_l, kindF_o, ixF2_s, ixF_s, slF_t, slF_f, partF_i, allD_n, allD_c, tupF_s, lstF_s, ofDF_s, gInt_i, gInt_b, gAbs_i, gMax2_i, gMin2_i, gN_e, jF_s, lenF_s, intsF2_s, intsF_s, fSum_e, gTF_s, gLF_s, blsF_s, blsF2_s, isF_s, isF2_s, tyn_i, tyn_b, tyn_t, tyn_l, tyn_s, tyn_n, k_ii, k_ib, k_tt, gN1_d, gN1_o, gN1_a, gaF_d, gaF_o, gTup_e, gs_n, gs_c, par2G_e, par2F_s, svOf_d, svOf_o, par3G_e, par3F_s, stF2_s, stF_s, stG_e, gStL_e, gOwn_e, owL_a, apG_e, apI_e, iterF_t, iterF_l, rng1F_e, rng2F_e, zip2F_s, zip2G_e, zip3F_s, zip3G_e, seqD_t, seqD_l, finP_d, finP_o, finP_a, finF_d, finF_o, finJF_d, finJF_o, finJ_d, finJ_o, startD_e, startJ_e, dnI_e, dnIH_e, dnGF_e, dnGetF_e, dnSF_e, dnSH_e, gStDn_e, dn1F_e, atI_0, atI_1, atI_2, ixN_2_0, ixN_2_1, appK_eq, cmp_i, eqv_ii, eqv_nn, cast1, cast2, cast3, List.map_cons, List.map_nil, List.append_nil, List.nil_append, List.cons_append, List.replicate_succ, List.replicate_zero, List.length_cons, List.length_nil, List.getElem?_cons_zero, List.getElem?_cons_succ, List.set_cons_zero, List.set_cons_succ, Option.map_some, Bool.not_true, Bool.not_false, Nat.reduceAdd, Nat.reduceSub, Nat.zero_add, Nat.add_zero, if_true, if_false, decide_true, decide_false, and_true, true_and, Nat.reduceLeDiff, Nat.sub_zero, Nat.sub_self, jarO]
  refine draw jo (by omega) (by omega) (fun wd a b wd0 wd1 jo => ?_)
  simp only [↓e_var, ↓e_C, ↓e_dD, ↓e_d2, ↓e_neg, ↓e_isN, ↓e_B, ↓e_And, ↓e_Or, ↓e_Not, ↓e_AndV, ↓e_OrV, ↓e_NotV, ↓e_IfE, ↓e_Chain, ↓e_Ix, ↓e_Sl, ↓e_No, ↓e_Part, ↓e_nil, ↓e_cons, ↓e_Tup, ↓e_Lst, ↓e_CB, ↓e_ofD, ↓e_jOf, ↓e_Len, ↓e_Ints, ↓e_fMax, ↓e_fMin, ↓e_Tuple, ↓e_List, ↓e_Bls, ↓e_Is, ↓e_seq, ↓e_skip, ↓e_ret, ↓e_drop, ↓e_ifS, ↓e_never, ↓e_asg, ↓e_par2, ↓e_par3, ↓e_App, ↓e_For, ↓e_While, ↓e_Iter, ↓e_Rng1, ↓e_Rng2, ↓e_Zip2, ↓e_Zip3, ↓e_Lc, ↓e_Yes, ↓e_Dn0, ↓e_DnIn, ↓e_DnGet, ↓e_Dn1, iteG_t, iteG_f, iteG_d, iteG_n, iteG_a, iteG_o, iteG_x, iteG_e, iteG_s, iteG_l, iteG_y, iteF_t, iteF_f, varF_d, varF_o, toD_d, toD_l, toD_a, toDF_d, toDF_l, d2F_d, fAdd_i, fAdd_s, fAdd_t, fAdd_l, fSub_i, fMul_i, fMulR_i, fMulR_t, fMulR_l, fDiv_i, fMod_i, fPow_i, negF_i, cLt_i, cLe_i, cGt_i, cGe_i, cEq_e, cNe_e, isNF_n, isNF_t, isNF_i, dBF_b, boF_b, notVF_b, ch2F_d, chF_d, seqOf_t, seqOf_l, seqOf_o, seqOf_s, seqOf_a, seqF_t, seqF_l, seqF_o, kindOf_t, kindOf_l, kindOf_o, kindOf_a, kindF_t, kindF_l, kindF_o, ixF2_s, ixF_s, slF_t, slF_f, partF_i, allD_n, allD_c, tupF_s, lstF_s, ofDF_s, gInt_i, gInt_b, gAbs_i, gMax2_i, gMin2_i, gN_e, jF_s, lenF_s, intsF2_s, intsF_s, fSum_e, gTF_s, gLF_s, blsF_s, blsF2_s, isF_s, isF2_s, tyn_i, tyn_b, tyn_t, tyn_l, tyn_s, tyn_n, k_ii, k_ib, k_tt, gN1_d, gN1_o, gN1_a, gaF_d, gaF_o, gTup_e, gs_n, gs_c, par2G_e, par2F_s, svOf_d, svOf_o, par3G_e, par3F_s, stF2_s, stF_s, stG_e, gStL_e, gOwn_e, owL_a, apG_e, apI_e, iterF_t, iterF_l, rng1F_e, rng2F_e, zip2F_s, zip2G_e, zip3F_s, zip3G_e, seqD_t, seqD_l, finP_d, finP_o, finP_a, finF_d, finF_o, finJF_d, finJF_o, finJ_d, finJ_o, startD_e, startJ_e, dnI_e, dnIH_e, dnGF_e, dnGetF_e, dnSF_e, dnSH_e, gStDn_e, dn1F_e, atI_0, atI_1, atI_2, ixN_2_0, ixN_2_1, appK_eq, cmp_i, eqv_ii, eqv_nn, cast1, cast2, cast3, List.map_cons, List.map_nil, List.append_nil, List.nil_append, List.cons_append, List.replicate_succ, List.replicate_zero, List.length_cons, List.length_nil, List.getElem?_cons_zero, List.getElem?_cons_succ, List.set_cons_zero, List.set_cons_succ, Option.map_some, Bool.not_true, Bool.not_false, Nat.reduceAdd, Nat.reduceSub, Nat.zero_add, Nat.add_zero, if_true, if_false, decide_true, decide_false, and_true, true_and, Nat.reduceLeDiff, Nat.sub_zero, Nat.sub_self, jarO]
  refine ⟨by omega, ?_⟩
  refine dLoop_rel (fun k : Nat => D.int (0 + (k : Int))) (fun l ρ => ∃ (a b total : Int) (cs : List Cup) (ts : List (List Int)) (z1 z2 : SV), JarOk a b ∧
    ρ = [SV.ow (.lst [.int a, .int b]), .d (.int most), .d (.int wide), .d (.int (1 + sp)), .d (.tup (cs.map cupD)), .d (.tup (ts.map intsD)), .d (.int total), z1, z2, .un] ∧
    cs.length + l.length ≤ 3 ∧ ts.length = cs.length ∧ (∀ c ∈ cs, CupOk c) ∧ (∀ t ∈ ts, TapOk (1 + sp) t) ∧ total = knees 1 cs ∧ 1 ≤ total ∧ total ≤ most ∧ (cs = [] → l ≠ [])) ?_ ?_ _ _ ⟨a, b, 1, [], [], _, _, jo, rfl, by simp; omega, rfl, by simp, by simp, rfl, by decide, h1, fun _ => ?_⟩
  · rintro k l ρ ⟨a, b, total, cs, ts, z1, z2, jo, rfl, hl, hts, hcs, htt, hk, k1, k2, hne⟩ K hK
    rw [List.length_cons] at hl
    have d1 : most / total ≤ most := Int.ediv_le_self _ (by omega)
    have d2 : 0 ≤ most / total := Int.ediv_nonneg (by omega) (by omega)
    simp only [↓e_var, ↓e_C, ↓e_dD, ↓e_d2, ↓e_neg, ↓e_isN, ↓e_B, ↓e_And, ↓e_Or, ↓e_Not, ↓e_AndV, ↓e_OrV, ↓e_NotV, ↓e_IfE, ↓e_Chain, ↓e_Ix, ↓e_Sl, ↓e_No, ↓e_Part, ↓e_nil, ↓e_cons, ↓e_Tup, ↓e_Lst, ↓e_CB, ↓e_ofD, ↓e_jOf, ↓e_Len, ↓e_Ints, ↓e_fMax, ↓e_fMin, ↓e_Tuple, ↓e_List, ↓e_Bls, ↓e_Is, ↓e_seq, ↓e_skip, ↓e_ret, ↓e_drop, ↓e_ifS, ↓e_never, ↓e_asg, ↓e_par2, ↓e_par3, ↓e_App, ↓e_For, ↓e_While, ↓e_Iter, ↓e_Rng1, ↓e_Rng2, ↓e_Zip2, ↓e_Zip3, ↓e_Lc, ↓e_Yes, ↓e_Dn0, ↓e_DnIn, ↓e_DnGet, ↓e_Dn1, iteG_t, iteG_f, iteG_d, iteG_n, iteG_a, iteG_o, iteG_x, iteG_e, iteG_s, iteG_l, iteG_y, iteF_t, iteF_f, varF_d, varF_o, toD_d, toD_l, toD_a, toDF_d, toDF_l, d2F_d, fAdd_i, fAdd_s, fAdd_t, fAdd_l, fSub_i, fMul_i, fMulR_i, fMulR_t, fMulR_l, fDiv_i, fMod_i, fPow_i, negF_i, cLt_i, cLe_i, cGt_i, cGe_i, cEq_e, cNe_e, isNF_n, isNF_t, isNF_i, dBF_b, boF_b, notVF_b, ch2F_d, chF_d, seqOf_t, seqOf_l, seqOf_o, seqOf_s, seqOf_a, seqF_t, seqF_l, seqF_o, kindOf_t, kindOf_l, kindOf_o, kindOf_a, kindF_t, kindF_l, kindF_o, ixF2_s, ixF_s, slF_t, slF_f, partF_i, allD_n, allD_c, tupF_s, lstF_s, ofDF_s, gInt_i, gInt_b, gAbs_i, gMax2_i, gMin2_i, gN_e, jF_s, lenF_s, intsF2_s, intsF_s, fSum_e, gTF_s, gLF_s, blsF_s, blsF2_s, isF_s, isF2_s, tyn_i, tyn_b, tyn_t, tyn_l, tyn_s, tyn_n, k_ii, k_ib, k_tt, gN1_d, gN1_o, gN1_a, gaF_d, gaF_o, gTup_e, gs_n, gs_c, par2G_e, par2F_s, svOf_d, svOf_o, par3G_e, par3F_s, stF2_s, stF_s, stG_e, gStL_e, gOwn_e, owL_a, apG_e, apI_e, iterF_t, iterF_l, rng1F_e, rng2F_e, zip2F_s, zip2G_e, zip3F_s, zip3G_e, seqD_t, seqD_l, finP_d, finP_o, finP_a, finF_d, finF_o, finJF_d, finJF_o, finJ_d, finJ_o, startD_e, startJ_e, dnI_e, dnIH_e, dnGF_e, dnGetF_e, dnSF_e, dnSH_e, gStDn_e, dn1F_e, atI_0, atI_1, atI_2, ixN_2_0, ixN_2_1, appK_eq, cmp_i, eqv_ii, eqv_nn, cast1, cast2, cast3, List.map_cons, List.map_nil, List.append_nil, List.nil_append, List.cons_append, List.replicate_succ, List.replicate_zero, List.length_cons, List.length_nil, List.getElem?_cons_zero, List.getElem?_cons_succ, List.set_cons_zero, List.set_cons_succ, Option.map_some, Bool.not_true, Bool.not_false, Nat.reduceAdd, Nat.reduceSub, Nat.zero_add, Nat.add_zero, if_true, if_false, decide_true, decide_false, and_true, true_and, Nat.reduceLeDiff, Nat.sub_zero, Nat.sub_self]
    refine ⟨CDivW.small (by omega) (by omega), ?_⟩
    have lo : 1 ≤ (if (if 1 < most / total then most / total else 1) < 60 then (if 1 < most / total then most / total else 1) else 60) := by (repeat' split) <;> omega
    have hi : (if (if 1 < most / total then most / total else 1) < 60 then (if 1 < most / total then most / total else 1) else 60) ≤ 60 := by (repeat' split) <;> omega
    have him : (if (if 1 < most / total then most / total else 1) < 60 then (if 1 < most / total then most / total else 1) else 60) ≤ most := by (repeat' split) <;> omega
    refine ⟨rfl, a, b, _, rfl, rfl, jo, lo, hi, fun c hc hcm a b jo => ?_⟩
    have hc1 := hc.1
    have hc2 := hc.2.1
    simp only [↓e_var, ↓e_C, ↓e_dD, ↓e_d2, ↓e_neg, ↓e_isN, ↓e_B, ↓e_And, ↓e_Or, ↓e_Not, ↓e_AndV, ↓e_OrV, ↓e_NotV, ↓e_IfE, ↓e_Chain, ↓e_Ix, ↓e_Sl, ↓e_No, ↓e_Part, ↓e_nil, ↓e_cons, ↓e_Tup, ↓e_Lst, ↓e_CB, ↓e_ofD, ↓e_jOf, ↓e_Len, ↓e_Ints, ↓e_fMax, ↓e_fMin, ↓e_Tuple, ↓e_List, ↓e_Bls, ↓e_Is, ↓e_seq, ↓e_skip, ↓e_ret, ↓e_drop, ↓e_ifS, ↓e_never, ↓e_asg, ↓e_par2, ↓e_par3, ↓e_App, ↓e_For, ↓e_While, ↓e_Iter, ↓e_Rng1, ↓e_Rng2, ↓e_Zip2, ↓e_Zip3, ↓e_Lc, ↓e_Yes, ↓e_Dn0, ↓e_DnIn, ↓e_DnGet, ↓e_Dn1, iteG_t, iteG_f, iteG_d, iteG_n, iteG_a, iteG_o, iteG_x, iteG_e, iteG_s, iteG_l, iteG_y, iteF_t, iteF_f, varF_d, varF_o, toD_d, toD_l, toD_a, toDF_d, toDF_l, d2F_d, fAdd_i, fAdd_s, fAdd_t, fAdd_l, fSub_i, fMul_i, fMulR_i, fMulR_t, fMulR_l, fDiv_i, fMod_i, fPow_i, negF_i, cLt_i, cLe_i, cGt_i, cGe_i, cEq_e, cNe_e, isNF_n, isNF_t, isNF_i, dBF_b, boF_b, notVF_b, ch2F_d, chF_d, seqOf_t, seqOf_l, seqOf_o, seqOf_s, seqOf_a, seqF_t, seqF_l, seqF_o, kindOf_t, kindOf_l, kindOf_o, kindOf_a, kindF_t, kindF_l, kindF_o, ixF2_s, ixF_s, slF_t, slF_f, partF_i, allD_n, allD_c, tupF_s, lstF_s, ofDF_s, gInt_i, gInt_b, gAbs_i, gMax2_i, gMin2_i, gN_e, jF_s, lenF_s, intsF2_s, intsF_s, fSum_e, gTF_s, gLF_s, blsF_s, blsF2_s, isF_s, isF2_s, tyn_i, tyn_b, tyn_t, tyn_l, tyn_s, tyn_n, k_ii, k_ib, k_tt, gN1_d, gN1_o, gN1_a, gaF_d, gaF_o, gTup_e, gs_n, gs_c, par2G_e, par2F_s, svOf_d, svOf_o, par3G_e, par3F_s, stF2_s, stF_s, stG_e, gStL_e, gOwn_e, owL_a, apG_e, apI_e, iterF_t, iterF_l, rng1F_e, rng2F_e, zip2F_s, zip2G_e, zip3F_s, zip3G_e, seqD_t, seqD_l, finP_d, finP_o, finP_a, finF_d, finF_o, finJF_d, finJF_o, finJ_d, finJ_o, startD_e, startJ_e, dnI_e, dnIH_e, dnGF_e, dnGetF_e, dnSF_e, dnSH_e, gStDn_e, dn1F_e, atI_0, atI_1, atI_2, ixN_2_0, ixN_2_1, appK_eq, cmp_i, eqv_ii, eqv_nn, cast1, cast2, cast3, List.map_cons, List.map_nil, List.append_nil, List.nil_append, List.cons_append, List.replicate_succ, List.replicate_zero, List.length_cons, List.length_nil, List.getElem?_cons_zero, List.getElem?_cons_succ, List.set_cons_zero, List.set_cons_succ, Option.map_some, Bool.not_true, Bool.not_false, Nat.reduceAdd, Nat.reduceSub, Nat.zero_add, Nat.add_zero, if_true, if_false, decide_true, decide_false, and_true, true_and, Nat.reduceLeDiff, Nat.sub_zero, Nat.sub_self, jarO, cupD]
    refine ⟨MulOk.small' (by omega) (by omega), iteF_d (fun q => ?_) (fun q => ?_)⟩
    · have kk : knees 1 (cs ++ [c]) = total * c.1 := by rw [hk]; simp [knees]
      have k3 : 1 ≤ total * c.1 := Int.mul_le_mul k1 hc1 (by decide) (by omega)
      refine ⟨by rw [List.length_map, sizeLine_eq]; omega, MulOk.small' (by omega) (by omega), drawAny rfl jo (by simp) (by simp) (fun w hw a b jo => ?_)⟩
      have hw' : ∃ m : Int, w = .int m ∧ 0 ≤ m ∧ m ≤ 20 := by
        simp only [List.mem_cons, List.not_mem_nil, or_false] at hw
        rcases hw with rfl | rfl | rfl
        · exact ⟨_, rfl, by omega, by omega⟩
        · exact ⟨_, rfl, by omega, by omega⟩
        · exact ⟨_, rfl, by omega, by omega⟩
      obtain ⟨m, rfl, m0, m1⟩ := hw'
      simp only [↓e_var, ↓e_C, ↓e_dD, ↓e_d2, ↓e_neg, ↓e_isN, ↓e_B, ↓e_And, ↓e_Or, ↓e_Not, ↓e_AndV, ↓e_OrV, ↓e_NotV, ↓e_IfE, ↓e_Chain, ↓e_Ix, ↓e_Sl, ↓e_No, ↓e_Part, ↓e_nil, ↓e_cons, ↓e_Tup, ↓e_Lst, ↓e_CB, ↓e_ofD, ↓e_jOf, ↓e_Len, ↓e_Ints, ↓e_fMax, ↓e_fMin, ↓e_Tuple, ↓e_List, ↓e_Bls, ↓e_Is, ↓e_seq, ↓e_skip, ↓e_ret, ↓e_drop, ↓e_ifS, ↓e_never, ↓e_asg, ↓e_par2, ↓e_par3, ↓e_App, ↓e_For, ↓e_While, ↓e_Iter, ↓e_Rng1, ↓e_Rng2, ↓e_Zip2, ↓e_Zip3, ↓e_Lc, ↓e_Yes, ↓e_Dn0, ↓e_DnIn, ↓e_DnGet, ↓e_Dn1, iteG_t, iteG_f, iteG_d, iteG_n, iteG_a, iteG_o, iteG_x, iteG_e, iteG_s, iteG_l, iteG_y, iteF_t, iteF_f, varF_d, varF_o, toD_d, toD_l, toD_a, toDF_d, toDF_l, d2F_d, fAdd_i, fAdd_s, fAdd_t, fAdd_l, fSub_i, fMul_i, fMulR_i, fMulR_t, fMulR_l, fDiv_i, fMod_i, fPow_i, negF_i, cLt_i, cLe_i, cGt_i, cGe_i, cEq_e, cNe_e, isNF_n, isNF_t, isNF_i, dBF_b, boF_b, notVF_b, ch2F_d, chF_d, seqOf_t, seqOf_l, seqOf_o, seqOf_s, seqOf_a, seqF_t, seqF_l, seqF_o, kindOf_t, kindOf_l, kindOf_o, kindOf_a, kindF_t, kindF_l, kindF_o, ixF2_s, ixF_s, slF_t, slF_f, partF_i, allD_n, allD_c, tupF_s, lstF_s, ofDF_s, gInt_i, gInt_b, gAbs_i, gMax2_i, gMin2_i, gN_e, jF_s, lenF_s, intsF2_s, intsF_s, fSum_e, gTF_s, gLF_s, blsF_s, blsF2_s, isF_s, isF2_s, tyn_i, tyn_b, tyn_t, tyn_l, tyn_s, tyn_n, k_ii, k_ib, k_tt, gN1_d, gN1_o, gN1_a, gaF_d, gaF_o, gTup_e, gs_n, gs_c, par2G_e, par2F_s, svOf_d, svOf_o, par3G_e, par3F_s, stF2_s, stF_s, stG_e, gStL_e, gOwn_e, owL_a, apG_e, apI_e, iterF_t, iterF_l, rng1F_e, rng2F_e, zip2F_s, zip2G_e, zip3F_s, zip3G_e, seqD_t, seqD_l, finP_d, finP_o, finP_a, finF_d, finF_o, finJF_d, finJF_o, finJ_d, finJ_o, startD_e, startJ_e, dnI_e, dnIH_e, dnGF_e, dnGetF_e, dnSF_e, dnSH_e, gStDn_e, dn1F_e, atI_0, atI_1, atI_2, ixN_2_0, ixN_2_1, appK_eq, cmp_i, eqv_ii, eqv_nn, cast1, cast2, cast3, List.map_cons, List.map_nil, List.append_nil, List.nil_append, List.cons_append, List.replicate_succ, List.replicate_zero, List.length_cons, List.length_nil, List.getElem?_cons_zero, List.getElem?_cons_succ, List.set_cons_zero, List.set_cons_succ, Option.map_some, Bool.not_true, Bool.not_false, Nat.reduceAdd, Nat.reduceSub, Nat.zero_add, Nat.add_zero, if_true, if_false, decide_true, decide_false, and_true, true_and, Nat.reduceLeDiff, Nat.sub_zero, Nat.sub_self, jarO]
      refine ⟨rfl, a, b, _, m, rfl, rfl, jo, by omega, by omega, m0, m1, fun t ht a b jo => ?_⟩
      simp only [↓e_var, ↓e_C, ↓e_dD, ↓e_d2, ↓e_neg, ↓e_isN, ↓e_B, ↓e_And, ↓e_Or, ↓e_Not, ↓e_AndV, ↓e_OrV, ↓e_NotV, ↓e_IfE, ↓e_Chain, ↓e_Ix, ↓e_Sl, ↓e_No, ↓e_Part, ↓e_nil, ↓e_cons, ↓e_Tup, ↓e_Lst, ↓e_CB, ↓e_ofD, ↓e_jOf, ↓e_Len, ↓e_Ints, ↓e_fMax, ↓e_fMin, ↓e_Tuple, ↓e_List, ↓e_Bls, ↓e_Is, ↓e_seq, ↓e_skip, ↓e_ret, ↓e_drop, ↓e_ifS, ↓e_never, ↓e_asg, ↓e_par2, ↓e_par3, ↓e_App, ↓e_For, ↓e_While, ↓e_Iter, ↓e_Rng1, ↓e_Rng2, ↓e_Zip2, ↓e_Zip3, ↓e_Lc, ↓e_Yes, ↓e_Dn0, ↓e_DnIn, ↓e_DnGet, ↓e_Dn1, iteG_t, iteG_f, iteG_d, iteG_n, iteG_a, iteG_o, iteG_x, iteG_e, iteG_s, iteG_l, iteG_y, iteF_t, iteF_f, varF_d, varF_o, toD_d, toD_l, toD_a, toDF_d, toDF_l, d2F_d, fAdd_i, fAdd_s, fAdd_t, fAdd_l, fSub_i, fMul_i, fMulR_i, fMulR_t, fMulR_l, fDiv_i, fMod_i, fPow_i, negF_i, cLt_i, cLe_i, cGt_i, cGe_i, cEq_e, cNe_e, isNF_n, isNF_t, isNF_i, dBF_b, boF_b, notVF_b, ch2F_d, chF_d, seqOf_t, seqOf_l, seqOf_o, seqOf_s, seqOf_a, seqF_t, seqF_l, seqF_o, kindOf_t, kindOf_l, kindOf_o, kindOf_a, kindF_t, kindF_l, kindF_o, ixF2_s, ixF_s, slF_t, slF_f, partF_i, allD_n, allD_c, tupF_s, lstF_s, ofDF_s, gInt_i, gInt_b, gAbs_i, gMax2_i, gMin2_i, gN_e, jF_s, lenF_s, intsF2_s, intsF_s, fSum_e, gTF_s, gLF_s, blsF_s, blsF2_s, isF_s, isF2_s, tyn_i, tyn_b, tyn_t, tyn_l, tyn_s, tyn_n, k_ii, k_ib, k_tt, gN1_d, gN1_o, gN1_a, gaF_d, gaF_o, gTup_e, gs_n, gs_c, par2G_e, par2F_s, svOf_d, svOf_o, par3G_e, par3F_s, stF2_s, stF_s, stG_e, gStL_e, gOwn_e, owL_a, apG_e, apI_e, iterF_t, iterF_l, rng1F_e, rng2F_e, zip2F_s, zip2G_e, zip3F_s, zip3G_e, seqD_t, seqD_l, finP_d, finP_o, finP_a, finF_d, finF_o, finJF_d, finJF_o, finJ_d, finJ_o, startD_e, startJ_e, dnI_e, dnIH_e, dnGF_e, dnGetF_e, dnSF_e, dnSH_e, gStDn_e, dn1F_e, atI_0, atI_1, atI_2, ixN_2_0, ixN_2_1, appK_eq, cmp_i, eqv_ii, eqv_nn, cast1, cast2, cast3, List.map_cons, List.map_nil, List.append_nil, List.nil_append, List.cons_append, List.replicate_succ, List.replicate_zero, List.length_cons, List.length_nil, List.getElem?_cons_zero, List.getElem?_cons_succ, List.set_cons_zero, List.set_cons_succ, Option.map_some, Bool.not_true, Bool.not_false, Nat.reduceAdd, Nat.reduceSub, Nat.zero_add, Nat.add_zero, if_true, if_false, decide_true, decide_false, and_true, true_and, Nat.reduceLeDiff, Nat.sub_zero, Nat.sub_self, jarO]
      refine ⟨by rw [List.length_map, sizeLine_eq]; omega, hK _ ⟨a, b, total * c.1, cs ++ [c], ts ++ [t], _, _, jo, by simp only [List.map_append, List.map_cons, List.map_nil, cupD]; rfl, by simp; omega, by simp [hts], ?_, ?_, kk.symm, k3, q, fun e => by simp at e⟩⟩
      · intro d hd
        rcases List.mem_append.mp hd with hd | hd
        · exact hcs d hd
        · rw [List.mem_singleton.mp hd]; exact hc
      · intro d hd
        rcases List.mem_append.mp hd with hd | hd
        · exact htt d hd
        · rw [List.mem_singleton.mp hd]; exact ht
    · refine hK _ ⟨a, b, total, cs, ts, _, _, jo, rfl, by omega, hts, hcs, htt, hk, k1, k2, fun e => ?_⟩
      subst e
      have : total = 1 := hk
      subst this
      exfalso
      apply q
      rw [Int.one_mul]
      omega
  · rintro ρ ⟨a, b, total, cs, ts, z1, z2, jo, rfl, hl, hts, hcs, htt, hk, k1, k2, hne⟩
    have hcs0 : cs ≠ [] := fun e => hne e rfl
    cases ts with
    | nil => exact absurd (List.eq_nil_of_length_eq_zero hts.symm) hcs0
    | cons t ts =>
      have ht := htt t List.mem_cons_self
      have hcl : 1 ≤ cs.length := List.length_pos_iff.mpr hcs0
      rw [List.length_nil] at hl
      have good : ∀ t' : List Int, TapOk (1 + sp) t' → (∃ x ∈ t', 0 < x) → ∀ a b, JarOk a b → R (.d (.tup [.int (1 + sp), .tup (cs.map cupD), .tup ([.tup (t'.map .int)] ++ ts.map intsD)])) (.lst [.int a, .int b]) := fun t' ht' hx a b jo => by
        exact h ⟨1 + sp, cs, t' :: ts⟩ ⟨by dsimp only; omega, by dsimp only; omega, hcl, by dsimp only; omega, hcs, by simpa using hts, fun d hd => by
          rcases List.mem_cons.mp hd with rfl | hd
          · exact ht'
          · exact htt d (List.mem_cons_of_mem _ hd), by dsimp only; omega, ⟨t', ts, rfl, hx⟩⟩ (by dsimp only; omega) a b jo
      simp only [↓e_var, ↓e_C, ↓e_dD, ↓e_d2, ↓e_neg, ↓e_isN, ↓e_B, ↓e_And, ↓e_Or, ↓e_Not, ↓e_AndV, ↓e_OrV, ↓e_NotV, ↓e_IfE, ↓e_Chain, ↓e_Ix, ↓e_Sl, ↓e_No, ↓e_Part, ↓e_nil, ↓e_cons, ↓e_Tup, ↓e_Lst, ↓e_CB, ↓e_ofD, ↓e_jOf, ↓e_Len, ↓e_Ints, ↓e_fMax, ↓e_fMin, ↓e_Tuple, ↓e_List, ↓e_Bls, ↓e_Is, ↓e_seq, ↓e_skip, ↓e_ret, ↓e_drop, ↓e_ifS, ↓e_never, ↓e_asg, ↓e_par2, ↓e_par3, ↓e_App, ↓e_For, ↓e_While, ↓e_Iter, ↓e_Rng1, ↓e_Rng2, ↓e_Zip2, ↓e_Zip3, ↓e_Lc, ↓e_Yes, ↓e_Dn0, ↓e_DnIn, ↓e_DnGet, ↓e_Dn1, iteG_t, iteG_f, iteG_d, iteG_n, iteG_a, iteG_o, iteG_x, iteG_e, iteG_s, iteG_l, iteG_y, iteF_t, iteF_f, varF_d, varF_o, toD_d, toD_l, toD_a, toDF_d, toDF_l, d2F_d, fAdd_i, fAdd_s, fAdd_t, fAdd_l, fSub_i, fMul_i, fMulR_i, fMulR_t, fMulR_l, fDiv_i, fMod_i, fPow_i, negF_i, cLt_i, cLe_i, cGt_i, cGe_i, cEq_e, cNe_e, isNF_n, isNF_t, isNF_i, dBF_b, boF_b, notVF_b, ch2F_d, chF_d, seqOf_t, seqOf_l, seqOf_o, seqOf_s, seqOf_a, seqF_t, seqF_l, seqF_o, kindOf_t, kindOf_l, kindOf_o, kindOf_a, kindF_t, kindF_l, kindF_o, ixF2_s, ixF_s, slF_t, slF_f, partF_i, allD_n, allD_c, tupF_s, lstF_s, ofDF_s, gInt_i, gInt_b, gAbs_i, gMax2_i, gMin2_i, gN_e, jF_s, lenF_s, intsF2_s, intsF_s, fSum_e, gTF_s, gLF_s, blsF_s, blsF2_s, isF_s, isF2_s, tyn_i, tyn_b, tyn_t, tyn_l, tyn_s, tyn_n, k_ii, k_ib, k_tt, gN1_d, gN1_o, gN1_a, gaF_d, gaF_o, gTup_e, gs_n, gs_c, par2G_e, par2F_s, svOf_d, svOf_o, par3G_e, par3F_s, stF2_s, stF_s, stG_e, gStL_e, gOwn_e, owL_a, apG_e, apI_e, iterF_t, iterF_l, rng1F_e, rng2F_e, zip2F_s, zip2G_e, zip3F_s, zip3G_e, seqD_t, seqD_l, finP_d, finP_o, finP_a, finF_d, finF_o, finJF_d, finJF_o, finJ_d, finJ_o, startD_e, startJ_e, dnI_e, dnIH_e, dnGF_e, dnGetF_e, dnSF_e, dnSH_e, gStDn_e, dn1F_e, atI_0, atI_1, atI_2, ixN_2_0, ixN_2_1, appK_eq, cmp_i, eqv_ii, eqv_nn, cast1, cast2, cast3, List.map_cons, List.map_nil, List.append_nil, List.nil_append, List.cons_append, List.replicate_succ, List.replicate_zero, List.length_cons, List.length_nil, List.getElem?_cons_zero, List.getElem?_cons_succ, List.set_cons_zero, List.set_cons_succ, Option.map_some, Bool.not_true, Bool.not_false, Nat.reduceAdd, Nat.reduceSub, Nat.zero_add, Nat.add_zero, if_true, if_false, decide_true, decide_false, and_true, true_and, Nat.reduceLeDiff, Nat.sub_zero, Nat.sub_self, atI_0, intsD, intsOf_map]
      have htne : t ≠ [] := fun e => by have := ht.1; rw [e] at this; simp at this; omega
      refine ⟨htne, fun m hm hmax => ?_⟩
      simp only [↓e_var, ↓e_C, ↓e_dD, ↓e_d2, ↓e_neg, ↓e_isN, ↓e_B, ↓e_And, ↓e_Or, ↓e_Not, ↓e_AndV, ↓e_OrV, ↓e_NotV, ↓e_IfE, ↓e_Chain, ↓e_Ix, ↓e_Sl, ↓e_No, ↓e_Part, ↓e_nil, ↓e_cons, ↓e_Tup, ↓e_Lst, ↓e_CB, ↓e_ofD, ↓e_jOf, ↓e_Len, ↓e_Ints, ↓e_fMax, ↓e_fMin, ↓e_Tuple, ↓e_List, ↓e_Bls, ↓e_Is, ↓e_seq, ↓e_skip, ↓e_ret, ↓e_drop, ↓e_ifS, ↓e_never, ↓e_asg, ↓e_par2, ↓e_par3, ↓e_App, ↓e_For, ↓e_While, ↓e_Iter, ↓e_Rng1, ↓e_Rng2, ↓e_Zip2, ↓e_Zip3, ↓e_Lc, ↓e_Yes, ↓e_Dn0, ↓e_DnIn, ↓e_DnGet, ↓e_Dn1, iteG_t, iteG_f, iteG_d, iteG_n, iteG_a, iteG_o, iteG_x, iteG_e, iteG_s, iteG_l, iteG_y, iteF_t, iteF_f, varF_d, varF_o, toD_d, toD_l, toD_a, toDF_d, toDF_l, d2F_d, fAdd_i, fAdd_s, fAdd_t, fAdd_l, fSub_i, fMul_i, fMulR_i, fMulR_t, fMulR_l, fDiv_i, fMod_i, fPow_i, negF_i, cLt_i, cLe_i, cGt_i, cGe_i, cEq_e, cNe_e, isNF_n, isNF_t, isNF_i, dBF_b, boF_b, notVF_b, ch2F_d, chF_d, seqOf_t, seqOf_l, seqOf_o, seqOf_s, seqOf_a, seqF_t, seqF_l, seqF_o, kindOf_t, kindOf_l, kindOf_o, kindOf_a, kindF_t, kindF_l, kindF_o, ixF2_s, ixF_s, slF_t, slF_f, partF_i, allD_n, allD_c, tupF_s, lstF_s, ofDF_s, gInt_i, gInt_b, gAbs_i, gMax2_i, gMin2_i, gN_e, jF_s, lenF_s, intsF2_s, intsF_s, fSum_e, gTF_s, gLF_s, blsF_s, blsF2_s, isF_s, isF2_s, tyn_i, tyn_b, tyn_t, tyn_l, tyn_s, tyn_n, k_ii, k_ib, k_tt, gN1_d, gN1_o, gN1_a, gaF_d, gaF_o, gTup_e, gs_n, gs_c, par2G_e, par2F_s, svOf_d, svOf_o, par3G_e, par3F_s, stF2_s, stF_s, stG_e, gStL_e, gOwn_e, owL_a, apG_e, apI_e, iterF_t, iterF_l, rng1F_e, rng2F_e, zip2F_s, zip2G_e, zip3F_s, zip3G_e, seqD_t, seqD_l, finP_d, finP_o, finP_a, finF_d, finF_o, finJF_d, finJF_o, finJ_d, finJ_o, startD_e, startJ_e, dnI_e, dnIH_e, dnGF_e, dnGetF_e, dnSF_e, dnSH_e, gStDn_e, dn1F_e, atI_0, atI_1, atI_2, ixN_2_0, ixN_2_1, appK_eq, cmp_i, eqv_ii, eqv_nn, cast1, cast2, cast3, List.map_cons, List.map_nil, List.append_nil, List.nil_append, List.cons_append, List.replicate_succ, List.replicate_zero, List.length_cons, List.length_nil, List.getElem?_cons_zero, List.getElem?_cons_succ, List.set_cons_zero, List.set_cons_succ, Option.map_some, Bool.not_true, Bool.not_false, Nat.reduceAdd, Nat.reduceSub, Nat.zero_add, Nat.add_zero, if_true, if_false, decide_true, decide_false, and_true, true_and, Nat.reduceLeDiff, Nat.sub_zero, Nat.sub_self]
      have m0 := ht.2 m hm
      refine iteF_d (fun q => ?_) (fun q => ?_)
      · refine draw jo (by omega) (by omega) (fun v a b v0 v1 jo => ?_)
        simp only [↓e_var, ↓e_C, ↓e_dD, ↓e_d2, ↓e_neg, ↓e_isN, ↓e_B, ↓e_And, ↓e_Or, ↓e_Not, ↓e_AndV, ↓e_OrV, ↓e_NotV, ↓e_IfE, ↓e_Chain, ↓e_Ix, ↓e_Sl, ↓e_No, ↓e_Part, ↓e_nil, ↓e_cons, ↓e_Tup, ↓e_Lst, ↓e_CB, ↓e_ofD, ↓e_jOf, ↓e_Len, ↓e_Ints, ↓e_fMax, ↓e_fMin, ↓e_Tuple, ↓e_List, ↓e_Bls, ↓e_Is, ↓e_seq, ↓e_skip, ↓e_ret, ↓e_drop, ↓e_ifS, ↓e_never, ↓e_asg, ↓e_par2, ↓e_par3, ↓e_App, ↓e_For, ↓e_While, ↓e_Iter, ↓e_Rng1, ↓e_Rng2, ↓e_Zip2, ↓e_Zip3, ↓e_Lc, ↓e_Yes, ↓e_Dn0, ↓e_DnIn, ↓e_DnGet, ↓e_Dn1, iteG_t, iteG_f, iteG_d, iteG_n, iteG_a, iteG_o, iteG_x, iteG_e, iteG_s, iteG_l, iteG_y, iteF_t, iteF_f, varF_d, varF_o, toD_d, toD_l, toD_a, toDF_d, toDF_l, d2F_d, fAdd_i, fAdd_s, fAdd_t, fAdd_l, fSub_i, fMul_i, fMulR_i, fMulR_t, fMulR_l, fDiv_i, fMod_i, fPow_i, negF_i, cLt_i, cLe_i, cGt_i, cGe_i, cEq_e, cNe_e, isNF_n, isNF_t, isNF_i, dBF_b, boF_b, notVF_b, ch2F_d, chF_d, seqOf_t, seqOf_l, seqOf_o, seqOf_s, seqOf_a, seqF_t, seqF_l, seqF_o, kindOf_t, kindOf_l, kindOf_o, kindOf_a, kindF_t, kindF_l, kindF_o, ixF2_s, ixF_s, slF_t, slF_f, partF_i, allD_n, allD_c, tupF_s, lstF_s, ofDF_s, gInt_i, gInt_b, gAbs_i, gMax2_i, gMin2_i, gN_e, jF_s, lenF_s, intsF2_s, intsF_s, fSum_e, gTF_s, gLF_s, blsF_s, blsF2_s, isF_s, isF2_s, tyn_i, tyn_b, tyn_t, tyn_l, tyn_s, tyn_n, k_ii, k_ib, k_tt, gN1_d, gN1_o, gN1_a, gaF_d, gaF_o, gTup_e, gs_n, gs_c, par2G_e, par2F_s, svOf_d, svOf_o, par3G_e, par3F_s, stF2_s, stF_s, stG_e, gStL_e, gOwn_e, owL_a, apG_e, apI_e, iterF_t, iterF_l, rng1F_e, rng2F_e, zip2F_s, zip2G_e, zip3F_s, zip3G_e, seqD_t, seqD_l, finP_d, finP_o, finP_a, finF_d, finF_o, finJF_d, finJF_o, finJ_d, finJ_o, startD_e, startJ_e, dnI_e, dnIH_e, dnGF_e, dnGetF_e, dnSF_e, dnSH_e, gStDn_e, dn1F_e, atI_0, atI_1, atI_2, ixN_2_0, ixN_2_1, appK_eq, cmp_i, eqv_ii, eqv_nn, cast1, cast2, cast3, List.map_cons, List.map_nil, List.append_nil, List.nil_append, List.cons_append, List.replicate_succ, List.replicate_zero, List.length_cons, List.length_nil, List.getElem?_cons_zero, List.getElem?_cons_succ, List.set_cons_zero, List.set_cons_succ, Option.map_some, Bool.not_true, Bool.not_false, Nat.reduceAdd, Nat.reduceSub, Nat.zero_add, Nat.add_zero, if_true, if_false, decide_true, decide_false, and_true, true_and, Nat.reduceLeDiff, Nat.sub_zero, Nat.sub_self, jarO, cut_from1, cut_cons1]
        have ht1 := ht.1
        have htsl : ts.length ≤ 2 := by rw [List.length_cons] at hts; omega
        refine ⟨by rw [List.length_map, List.length_drop, sizeLine_eq]; omega, by rw [List.length_map, sizeLine_eq]; omega, ?_⟩
        refine good ((1 + v) :: t.drop 1) ⟨?_, fun x hx => ?_⟩ ⟨1 + v, List.mem_cons_self, by omega⟩ a b jo
        · rw [List.length_cons, List.length_drop]; omega
        · rcases List.mem_cons.mp hx with rfl | hx
          · omega
          · exact ht.2 x (List.mem_of_mem_drop hx)
      · have htsl : ts.length ≤ 2 := by rw [List.length_cons] at hts; omega
        rw [cut_cons1]
        refine ⟨by rw [List.length_map, sizeLine_eq]; omega, ?_⟩
        exact good t ht ⟨m, hm, by omega⟩ _ _ jo
  · intro e
    have := congrArg List.length e
    simp at this
    omega
def Dx__law_line (P : Program) (w : World) (K : PySem.W.Frag) (mg : Str → Option Value) (base : Heap) : Prop := ∃ f fd, Def P w K mg base 4 "_law_line" f fd ["jar", "most", "wide"] (spJ (bas P w K) 2 sp__law_line)
theorem ok__law_line {P : Program} {w : World} {K : PySem.W.Frag} {mg : Str → Option Value} {base : Heap} (M : Mg mg) (D__law_drip : Dx__law_drip P w K mg base) (D__law_gift : Dx__law_gift P w K mg base) (D__law_any : Dx__law_any P w K mg base) (D__law_cup : Dx__law_cup P w K mg base) {f : Addr} {fd : FuncData} (F : FunD K "_law_line" "_law_line" (defArgs s__law_line) (defBody s__law_line) (defScope s__law_line) [] [] f fd) : FnOk P w K mg base CX0 4 f fd ["jar", "most", "wide"] (spJ (bas P w K) 2 sp__law_line) := by
  obtain ⟨a__law_drip, fd__law_drip, D__law_drip⟩ := D__law_drip
  obtain ⟨a__law_gift, fd__law_gift, D__law_gift⟩ := D__law_gift
  obtain ⟨a__law_any, fd__law_any, D__law_any⟩ := D__law_any
  obtain ⟨a__law_cup, fd__law_cup, D__law_cup⟩ := D__law_cup
  exact okJ (tb := t__law_line) F sc__law_line (fun cdv A outer s H E j hr =>
    (dss_cons (ds_asg (de_tup (da_cons (de_data (de_add de_int (de_callJ D__law_drip.own (hr.mono (by decide)) (by rfl) (da_cons (de_var (pv 0)) (da_cons de_int da_nil))))) (da_cons (de_data (de_tup da_nil)) (da_cons (de_data (de_tup da_nil)) (da_cons de_int da_nil))))) (dg_tup rfl (dgs_cons (dg_name sc__law_line.nd (i := 3) rfl (by first | exact .inl rfl | exact .inr rfl) (by first | exact .inl rfl | exact .inr (by decide))) (dgs_cons (dg_name sc__law_line.nd (i := 4) rfl (by first | exact .inl rfl | exact .inr rfl) (by first | exact .inl rfl | exact .inr (by decide))) (dgs_cons (dg_name sc__law_line.nd (i := 5) rfl (by first | exact .inl rfl | exact .inr rfl) (by first | exact .inl rfl | exact .inr (by decide))) (dgs_cons (dg_name sc__law_line.nd (i := 6) rfl (by first | exact .inl rfl | exact .inr rfl) (by first | exact .inl rfl | exact .inr (by decide))) (dgs_nil (ws := []))))))))
      (dss_cons (ds_for PassesOwn.never rfl (di_range1 (by rfl) M.f_range (da_cons (de_data (de_add de_int (de_callJ D__law_drip.own (hr.mono (by decide)) (by rfl) (da_cons (de_var (pv 0)) (da_cons (de_data (de_var (pv 2))) da_nil))))) da_nil)) (dg_name sc__law_line.nd (i := 7) rfl (by first | exact .inl rfl | exact .inr rfl) (by first | exact .inl rfl | exact .inr (by decide))) (dss_cons (ds_asg (de_callJ D__law_cup.own (hr.mono (by decide)) (by rfl) (da_cons (de_var (pv 0)) (da_cons (de_data (de_callB (call_min2 rfl) (snd_min2.toC) (by rfl) M.f_min rfl (da_cons de_int (da_cons (de_data (de_callB (call_max2 rfl) (snd_max2.toC) (by rfl) M.f_max rfl (da_cons de_int (da_cons (de_data (de_div (de_var (pv 1)) (de_var (pv 6)))) da_nil)))) da_nil)))) da_nil))) (dg_name sc__law_line.nd (i := 8) rfl (by first | exact .inl rfl | exact .inr rfl) (by first | exact .inl rfl | exact .inr (by decide))))
      (dss_one (ds_if (dt_le (de_mul (de_var (pv 6)) (de_ix (de_var (pv 8)) de_int)) (de_var (pv 1))) (dss_cons (ds_par2 rfl sc__law_line.nd (i := 4) (j := 6) rfl rfl (by decide) rfl rfl (da_cons (de_add (de_var (pv 4)) (de_tup (da_cons (de_data (de_var (pv 8))) da_nil))) (da_cons (de_mul (de_var (pv 6)) (de_ix (de_var (pv 8)) de_int)) da_nil)) (by first | exact .inl rfl | exact .inr (by decide)) (hw := by first | rfl | kernel_rfl))
      (dss_one (ds_asg (de_add (de_var (pv 5)) (de_tup (da_cons (de_data (de_callJ D__law_gift.own (hr.mono (by decide)) (by rfl) (da_cons (de_var (pv 0)) (da_cons (de_data (de_var (pv 3))) (da_cons (de_data (de_callJ D__law_any.own (hr.mono (by decide)) (by rfl) (da_cons (de_var (pv 0)) (da_cons (de_data (de_lst (da_cons de_int (da_cons de_int (da_cons de_int da_nil))))) da_nil)))) da_nil))))) da_nil))) (dg_name sc__law_line.nd (i := 5) rfl (by first | exact .inl rfl | exact .inr rfl) (by first | exact .inl rfl | exact .inr (by decide)))))) dss_nil))))
      (dss_cons (ds_asg (de_ix (de_var (pv 5)) de_int) (dg_name sc__law_line.nd (i := 9) rfl (by first | exact .inl rfl | exact .inr rfl) (by first | exact .inl rfl | exact .inr (by decide))))
      (dss_cons (ds_if (dt_eq hr.units (de_callB (cr_maxB rfl hr.units) (snd_maxB) (by rfl) M.f_max rfl (da_cons (de_var (pv 9)) da_nil)) de_int) (dss_one (ds_asg (de_add (de_tup (da_cons (de_data (de_add de_int (de_callJ D__law_drip.own (hr.mono (by decide)) (by rfl) (da_cons (de_var (pv 0)) (da_cons de_int da_nil))))) da_nil)) (de_slice (de_var (pv 9)) (do_some de_int) do_none)) (dg_name sc__law_line.nd (i := 9) rfl (by first | exact .inl rfl | exact .inr rfl) (by first | exact .inl rfl | exact .inr (by decide))))) dss_nil)
      (dss_one (ds_ret (de_tup (da_cons (de_data (de_var (pv 3))) (da_cons (de_data (de_var (pv 4))) (da_cons (de_data (de_add (de_tup (da_cons (de_data (de_var (pv 9))) da_nil)) (de_slice (de_var (pv 5)) (do_some de_int) do_none))) da_nil))))))))))) rd__law_line
end DL

set_option Elab.async false
set_option linter.all false
set_option maxRecDepth 100000
set_option maxHeartbeats 0
namespace DL
open PySem PySem.Spec L2
open PyProof.Rows hiding St
theorem FillOk.snoc : ∀ {cs : List Cup} {f : List Int} {c : Cup} {x : Int}, FillOk cs f → 0 ≤ x → x ≤ c.1 - 1 → FillOk (cs ++ [c]) (f ++ [x])
  | [], [], c, x, _, h0, h1 => ⟨⟨h0, h1⟩, trivial⟩
  | [], _ :: _, _, _, h, _, _ => h.elim
  | _ :: _, [], _, _, h, _, _ => h.elim
  | d :: cs, y :: f, c, x, h, h0, h1 => ⟨h.1, FillOk.snoc h.2 h0 h1⟩
def N__law_load : List Str := ["jar", "line", "cup"]
theorem sc__law_load : FnScope N__law_load ["jar", "line"] (defScope s__law_load) := ⟨rfl, rfl, rfl, by decide +kernel, rfl, by decide +kernel, by decide +kernel⟩
def t__law_load : DTS :=
    (dRet (dCB gTuple (dCons (dLc (dIter (dD (dIx (dVar 1) (dC (.int 1))))) (gN1 2) dYes (dD (dCB (jOf (jN 1 sp__law_drip)) (dCons (dVar 0) (dCons (dD (dIx (dVar 2) (dC (.int 0)))) dNil)))) [2]) dNil)))
def sp__law_load : DJ := fun o ds R => ∃ (a b : Int) (r : Row), o = jarO a b ∧ ds = [rowD r] ∧ JarOk a b ∧ r.Ok ∧ ∀ f : List Int, FillOk r.cups f → ∀ a' b', JarOk a' b' → R (.d (intsD f)) (jarO a' b')
theorem rd__law_load : ∀ o ds R, ds.length = 1 → sp__law_load o ds R → t__law_load { nx := fun ρ => finJ R (.d .non) ρ, rt := finJ R } (startJ N__law_load o ds) := by
  rintro o ds R - ⟨a, b, r, rfl, rfl, jo, ok, h⟩
  have b40 : (1000000 : Int) < 10 ^ 40 := by decide +kernel
  simp only [↓e_var, ↓e_C, ↓e_dD, ↓e_d2, ↓e_neg, ↓e_isN, ↓e_B, ↓e_And, ↓e_Or, ↓e_Not, ↓e_AndV, ↓e_OrV, ↓e_NotV, ↓e_IfE, ↓e_Chain, ↓e_Ix, ↓e_Sl, ↓e_No, ↓e_Part, ↓e_nil, ↓e_cons, ↓e_Tup, ↓e_Lst, ↓e_CB, ↓e_ofD, ↓e_jOf, ↓e_Len, ↓e_Ints, ↓e_fMax, ↓e_fMin, ↓e_Tuple, ↓e_List, ↓e_Bls, ↓e_Is, ↓e_seq, ↓e_skip, ↓e_ret, ↓e_drop, ↓e_ifS, ↓e_never, ↓e_asg, ↓e_par2, ↓e_par3, ↓e_App, ↓e_For, ↓e_While, ↓e_Iter, ↓e_Rng1, ↓e_Rng2, ↓e_Zip2, ↓e_Zip3, ↓e_Lc, ↓e_Yes, ↓e_Dn0, ↓e_DnIn, ↓e_DnGet, ↓e_Dn1, iteG_t, iteG_f, iteG_d, iteG_n, iteG_a, iteG_o, iteG_x, iteG_e, iteG_s, iteG_l, iteG_y, iteF_t, iteF_f, varF_d, varF_o, toD_d, toD_l, toD_a, toDF_d, toDF_l, d2F_d, fAdd_i, fAdd_s, fAdd_t, fAdd_l, fSub_i, fMul_i, fMulR_i, fMulR_t, fMulR_l, fDiv_i, fMod_i, fPow_i, negF_i, cLt_i, cLe_i, cGt_i, cGe_i, cEq_e, cNe_e, isNF_n, isNF_t, isNF_i, dBF_b, boF_b, notVF_b, ch2F_d, chF_d, seqOf_t, seqOf_l, seqOf_o, seqOf_s, seqOf_a, seqF_t, seqF_l, seqF_o, kindOf_t, kindOf_l, kindOf_o, kindOf_a, kindF_t, kindF_l, kindF_o, ixF2_s, ixF_s, slF_t, slF_f, partF_i, allD_n, allD_c, tupF_s, lstF_s, ofDF_s, gInt_i, gInt_b, gAbs_i, gMax2_i, gMin2_i, gN_e, jF_s, lenF_s, intsF2_s, intsF_s, fSum_e, gTF_s, gLF_s, blsF_s, blsF2_s, isF_s, isF2_s, tyn_i, tyn_b, tyn_t, tyn_l, tyn_s, tyn_n, k_ii, k_ib, k_tt, gN1_d, gN1_o, gN1_a, gaF_d, gaF_o, gTup_e, gs_n, gs_c, par2G_e, par2F_s, svOf_d, svOf_o, par3G_e, par3F_s, stF2_s, stF_s, stG_e, gStL_e, gOwn_e, owL_a, apG_e, apI_e, iterF_t, iterF_l, rng1F_e, rng2F_e, zip2F_s, zip2G_e, zip3F_s, zip3G_e, seqD_t, seqD_l, finP_d, finP_o, finP_a, finF_d, finF_o, finJF_d, finJF_o, finJ_d, finJ_o, startD_e, startJ_e, dnI_e, dnIH_e, dnGF_e, dnGetF_e, dnSF_e, dnSH_e, gStDn_e, dn1F_e, atI_0, atI_1, atI_2, ixN_2_0, ixN_2_1, appK_eq, cmp_i, eqv_ii, eqv_nn, cast1, cast2, cast3, List.map_cons, List.map_nil, List.append_nil, List.nil_append, List.cons_append, List.replicate_succ, List.replicate_zero, List.length_cons, List.length_nil, List.getElem?_cons_zero, List.getElem?_cons_succ, List.set_cons_zero, List.set_cons_succ, Option.map_some, Bool.not_true, Bool.not_false, Nat.reduceAdd, Nat.reduceSub, Nat.zero_add, Nat.add_zero, if_true, if_false, decide_true, decide_false, and_true, true_and, Nat.reduceLeDiff, Nat.sub_zero, Nat.sub_self, t__law_load, N__law_load, jarO, rowD]
  refine ⟨fun i hi => ?_, ?_⟩
  · simp only [List.mem_singleton] at hi
    subst hi
    rfl
  refine lcL_rel cupD (fun l acc ρ => ∃ (a b : Int) (done : List Cup) (f : List Int), JarOk a b ∧ ρ = [SV.ow (.lst [.int a, .int b]), .d (.tup [.int r.p, .tup (r.cups.map cupD), .tup (r.taps.map intsD)]), .un] ∧ acc = f.map .int ∧ r.cups = done ++ l ∧ FillOk done f) ?_ ?_ r.cups _ _ ⟨a, b, [], [], jo, rfl, rfl, rfl, trivial⟩
  · rintro c l acc ρ ⟨a, b, done, f, jo, rfl, rfl, e, hf⟩ K hK
    have hc := ok.cups c (by rw [e]; simp)
    have hc1 := hc.1
    have hc2 := hc.2.1
    simp only [↓e_var, ↓e_C, ↓e_dD, ↓e_d2, ↓e_neg, ↓e_isN, ↓e_B, ↓e_And, ↓e_Or, ↓e_Not, ↓e_AndV, ↓e_OrV, ↓e_NotV, ↓e_IfE, ↓e_Chain, ↓e_Ix, ↓e_Sl, ↓e_No, ↓e_Part, ↓e_nil, ↓e_cons, ↓e_Tup, ↓e_Lst, ↓e_CB, ↓e_ofD, ↓e_jOf, ↓e_Len, ↓e_Ints, ↓e_fMax, ↓e_fMin, ↓e_Tuple, ↓e_List, ↓e_Bls, ↓e_Is, ↓e_seq, ↓e_skip, ↓e_ret, ↓e_drop, ↓e_ifS, ↓e_never, ↓e_asg, ↓e_par2, ↓e_par3, ↓e_App, ↓e_For, ↓e_While, ↓e_Iter, ↓e_Rng1, ↓e_Rng2, ↓e_Zip2, ↓e_Zip3, ↓e_Lc, ↓e_Yes, ↓e_Dn0, ↓e_DnIn, ↓e_DnGet, ↓e_Dn1, iteG_t, iteG_f, iteG_d, iteG_n, iteG_a, iteG_o, iteG_x, iteG_e, iteG_s, iteG_l, iteG_y, iteF_t, iteF_f, varF_d, varF_o, toD_d, toD_l, toD_a, toDF_d, toDF_l, d2F_d, fAdd_i, fAdd_s, fAdd_t, fAdd_l, fSub_i, fMul_i, fMulR_i, fMulR_t, fMulR_l, fDiv_i, fMod_i, fPow_i, negF_i, cLt_i, cLe_i, cGt_i, cGe_i, cEq_e, cNe_e, isNF_n, isNF_t, isNF_i, dBF_b, boF_b, notVF_b, ch2F_d, chF_d, seqOf_t, seqOf_l, seqOf_o, seqOf_s, seqOf_a, seqF_t, seqF_l, seqF_o, kindOf_t, kindOf_l, kindOf_o, kindOf_a, kindF_t, kindF_l, kindF_o, ixF2_s, ixF_s, slF_t, slF_f, partF_i, allD_n, allD_c, tupF_s, lstF_s, ofDF_s, gInt_i, gInt_b, gAbs_i, gMax2_i, gMin2_i, gN_e, jF_s, lenF_s, intsF2_s, intsF_s, fSum_e, gTF_s, gLF_s, blsF_s, blsF2_s, isF_s, isF2_s, tyn_i, tyn_b, tyn_t, tyn_l, tyn_s, tyn_n, k_ii, k_ib, k_tt, gN1_d, gN1_o, gN1_a, gaF_d, gaF_o, gTup_e, gs_n, gs_c, par2G_e, par2F_s, svOf_d, svOf_o, par3G_e, par3F_s, stF2_s, stF_s, stG_e, gStL_e, gOwn_e, owL_a, apG_e, apI_e, iterF_t, iterF_l, rng1F_e, rng2F_e, zip2F_s, zip2G_e, zip3F_s, zip3G_e, seqD_t, seqD_l, finP_d, finP_o, finP_a, finF_d, finF_o, finJF_d, finJF_o, finJ_d, finJ_o, startD_e, startJ_e, dnI_e, dnIH_e, dnGF_e, dnGetF_e, dnSF_e, dnSH_e, gStDn_e, dn1F_e, atI_0, atI_1, atI_2, ixN_2_0, ixN_2_1, appK_eq, cmp_i, eqv_ii, eqv_nn, cast1, cast2, cast3, List.map_cons, List.map_nil, List.append_nil, List.nil_append, List.cons_append, List.replicate_succ, List.replicate_zero, List.length_cons, List.length_nil, List.getElem?_cons_zero, List.getElem?_cons_succ, List.set_cons_zero, List.set_cons_succ, Option.map_some, Bool.not_true, Bool.not_false, Nat.reduceAdd, Nat.reduceSub, Nat.zero_add, Nat.add_zero, if_true, if_false, decide_true, decide_false, and_true, true_and, Nat.reduceLeDiff, Nat.sub_zero, Nat.sub_self, cupD]
    refine draw jo hc1 (by omega) (fun v a b v0 v1 jo => ?_)
    simp only [↓e_var, ↓e_C, ↓e_dD, ↓e_d2, ↓e_neg, ↓e_isN, ↓e_B, ↓e_And, ↓e_Or, ↓e_Not, ↓e_AndV, ↓e_OrV, ↓e_NotV, ↓e_IfE, ↓e_Chain, ↓e_Ix, ↓e_Sl, ↓e_No, ↓e_Part, ↓e_nil, ↓e_cons, ↓e_Tup, ↓e_Lst, ↓e_CB, ↓e_ofD, ↓e_jOf, ↓e_Len, ↓e_Ints, ↓e_fMax, ↓e_fMin, ↓e_Tuple, ↓e_List, ↓e_Bls, ↓e_Is, ↓e_seq, ↓e_skip, ↓e_ret, ↓e_drop, ↓e_ifS, ↓e_never, ↓e_asg, ↓e_par2, ↓e_par3, ↓e_App, ↓e_For, ↓e_While, ↓e_Iter, ↓e_Rng1, ↓e_Rng2, ↓e_Zip2, ↓e_Zip3, ↓e_Lc, ↓e_Yes, ↓e_Dn0, ↓e_DnIn, ↓e_DnGet, ↓e_Dn1, iteG_t, iteG_f, iteG_d, iteG_n, iteG_a, iteG_o, iteG_x, iteG_e, iteG_s, iteG_l, iteG_y, iteF_t, iteF_f, varF_d, varF_o, toD_d, toD_l, toD_a, toDF_d, toDF_l, d2F_d, fAdd_i, fAdd_s, fAdd_t, fAdd_l, fSub_i, fMul_i, fMulR_i, fMulR_t, fMulR_l, fDiv_i, fMod_i, fPow_i, negF_i, cLt_i, cLe_i, cGt_i, cGe_i, cEq_e, cNe_e, isNF_n, isNF_t, isNF_i, dBF_b, boF_b, notVF_b, ch2F_d, chF_d, seqOf_t, seqOf_l, seqOf_o, seqOf_s, seqOf_a, seqF_t, seqF_l, seqF_o, kindOf_t, kindOf_l, kindOf_o, kindOf_a, kindF_t, kindF_l, kindF_o, ixF2_s, ixF_s, slF_t, slF_f, partF_i, allD_n, allD_c, tupF_s, lstF_s, ofDF_s, gInt_i, gInt_b, gAbs_i, gMax2_i, gMin2_i, gN_e, jF_s, lenF_s, intsF2_s, intsF_s, fSum_e, gTF_s, gLF_s, blsF_s, blsF2_s, isF_s, isF2_s, tyn_i, tyn_b, tyn_t, tyn_l, tyn_s, tyn_n, k_ii, k_ib, k_tt, gN1_d, gN1_o, gN1_a, gaF_d, gaF_o, gTup_e, gs_n, gs_c, par2G_e, par2F_s, svOf_d, svOf_o, par3G_e, par3F_s, stF2_s, stF_s, stG_e, gStL_e, gOwn_e, owL_a, apG_e, apI_e, iterF_t, iterF_l, rng1F_e, rng2F_e, zip2F_s, zip2G_e, zip3F_s, zip3G_e, seqD_t, seqD_l, finP_d, finP_o, finP_a, finF_d, finF_o, finJF_d, finJF_o, finJ_d, finJ_o, startD_e, startJ_e, dnI_e, dnIH_e, dnGF_e, dnGetF_e, dnSF_e, dnSH_e, gStDn_e, dn1F_e, atI_0, atI_1, atI_2, ixN_2_0, ixN_2_1, appK_eq, cmp_i, eqv_ii, eqv_nn, cast1, cast2, cast3, List.map_cons, List.map_nil, List.append_nil, List.nil_append, List.cons_append, List.replicate_succ, List.replicate_zero, List.length_cons, List.length_nil, List.getElem?_cons_zero, List.getElem?_cons_succ, List.set_cons_zero, List.set_cons_succ, Option.map_some, Bool.not_true, Bool.not_false, Nat.reduceAdd, Nat.reduceSub, Nat.zero_add, Nat.add_zero, if_true, if_false, decide_true, decide_false, and_true, true_and, Nat.reduceLeDiff, Nat.sub_zero, Nat.sub_self, jarO]
    exact hK _ [SV.ow (.lst [.int a, .int b]), .d (.tup [.int r.p, .tup (r.cups.map cupD), .tup (r.taps.map intsD)]), .d (cupD c)] ⟨a, b, done ++ [c], f ++ [v], jo, rfl, by simp, by rw [e]; simp, hf.snoc v0 (by omega)⟩
  · rintro acc ρ ⟨a, b, done, f, jo, rfl, rfl, e, hf⟩
    rw [List.append_nil] at e
    simp only [↓e_var, ↓e_C, ↓e_dD, ↓e_d2, ↓e_neg, ↓e_isN, ↓e_B, ↓e_And, ↓e_Or, ↓e_Not, ↓e_AndV, ↓e_OrV, ↓e_NotV, ↓e_IfE, ↓e_Chain, ↓e_Ix, ↓e_Sl, ↓e_No, ↓e_Part, ↓e_nil, ↓e_cons, ↓e_Tup, ↓e_Lst, ↓e_CB, ↓e_ofD, ↓e_jOf, ↓e_Len, ↓e_Ints, ↓e_fMax, ↓e_fMin, ↓e_Tuple, ↓e_List, ↓e_Bls, ↓e_Is, ↓e_seq, ↓e_skip, ↓e_ret, ↓e_drop, ↓e_ifS, ↓e_never, ↓e_asg, ↓e_par2, ↓e_par3, ↓e_App, ↓e_For, ↓e_While, ↓e_Iter, ↓e_Rng1, ↓e_Rng2, ↓e_Zip2, ↓e_Zip3, ↓e_Lc, ↓e_Yes, ↓e_Dn0, ↓e_DnIn, ↓e_DnGet, ↓e_Dn1, iteG_t, iteG_f, iteG_d, iteG_n, iteG_a, iteG_o, iteG_x, iteG_e, iteG_s, iteG_l, iteG_y, iteF_t, iteF_f, varF_d, varF_o, toD_d, toD_l, toD_a, toDF_d, toDF_l, d2F_d, fAdd_i, fAdd_s, fAdd_t, fAdd_l, fSub_i, fMul_i, fMulR_i, fMulR_t, fMulR_l, fDiv_i, fMod_i, fPow_i, negF_i, cLt_i, cLe_i, cGt_i, cGe_i, cEq_e, cNe_e, isNF_n, isNF_t, isNF_i, dBF_b, boF_b, notVF_b, ch2F_d, chF_d, seqOf_t, seqOf_l, seqOf_o, seqOf_s, seqOf_a, seqF_t, seqF_l, seqF_o, kindOf_t, kindOf_l, kindOf_o, kindOf_a, kindF_t, kindF_l, kindF_o, ixF2_s, ixF_s, slF_t, slF_f, partF_i, allD_n, allD_c, tupF_s, lstF_s, ofDF_s, gInt_i, gInt_b, gAbs_i, gMax2_i, gMin2_i, gN_e, jF_s, lenF_s, intsF2_s, intsF_s, fSum_e, gTF_s, gLF_s, blsF_s, blsF2_s, isF_s, isF2_s, tyn_i, tyn_b, tyn_t, tyn_l, tyn_s, tyn_n, k_ii, k_ib, k_tt, gN1_d, gN1_o, gN1_a, gaF_d, gaF_o, gTup_e, gs_n, gs_c, par2G_e, par2F_s, svOf_d, svOf_o, par3G_e, par3F_s, stF2_s, stF_s, stG_e, gStL_e, gOwn_e, owL_a, apG_e, apI_e, iterF_t, iterF_l, rng1F_e, rng2F_e, zip2F_s, zip2G_e, zip3F_s, zip3G_e, seqD_t, seqD_l, finP_d, finP_o, finP_a, finF_d, finF_o, finJF_d, finJF_o, finJ_d, finJ_o, startD_e, startJ_e, dnI_e, dnIH_e, dnGF_e, dnGetF_e, dnSF_e, dnSH_e, gStDn_e, dn1F_e, atI_0, atI_1, atI_2, ixN_2_0, ixN_2_1, appK_eq, cmp_i, eqv_ii, eqv_nn, cast1, cast2, cast3, List.map_cons, List.map_nil, List.append_nil, List.nil_append, List.cons_append, List.replicate_succ, List.replicate_zero, List.length_cons, List.length_nil, List.getElem?_cons_zero, List.getElem?_cons_succ, List.set_cons_zero, List.set_cons_succ, Option.map_some, Bool.not_true, Bool.not_false, Nat.reduceAdd, Nat.reduceSub, Nat.zero_add, Nat.add_zero, if_true, if_false, decide_true, decide_false, and_true, true_and, Nat.reduceLeDiff, Nat.sub_zero, Nat.sub_self]
    exact h f (by rw [e]; exact hf) a b jo
def Dx__law_load (P : Program) (w : World) (K : PySem.W.Frag) (mg : Str → Option Value) (base : Heap) : Prop := ∃ f fd, Def P w K mg base 2 "_law_load" f fd ["jar", "line"] (spJ (bas P w K) 1 sp__law_load)
theorem ok__law_load {P : Program} {w : World} {K : PySem.W.Frag} {mg : Str → Option Value} {base : Heap} (M : Mg mg) (D__law_drip : Dx__law_drip P w K mg base) {f : Addr} {fd : FuncData} (F : FunD K "_law_load" "_law_load" (defArgs s__law_load) (defBody s__law_load) (defScope s__law_load) [] [] f fd) : FnOk P w K mg base CX0 2 f fd ["jar", "line"] (spJ (bas P w K) 1 sp__law_load) := by
  obtain ⟨a__law_drip, fd__law_drip, D__law_drip⟩ := D__law_drip
  exact okJ (tb := t__law_load) F sc__law_load (fun cdv A outer s H E j hr =>
    (dss_one (ds_ret (de_callTy (call_tuple_of) (snd_tuple) (by rfl) M.f_tuple rfl (da_cons (de_lc (own := [("cup", 2)]) rfl sc__law_load.nd (di_seq (de_ix (de_var (pv 1)) de_int)) (blkOk_by (own := [("cup", 2)]) (N := N__law_load) (sc := defScope s__law_load) (by decide +kernel)) (fun s H A cl fp => (dg_name sc__law_load.nd (i := 2) rfl (by first | exact .inl rfl | exact .inr rfl) (by first | exact .inl rfl | exact .inr (by decide)))) (fun s H A cl fp => dts_nil) (fun s H A cl fp => (de_data (de_callJ D__law_drip.own (hr.mono (by decide)) (by rfl) (da_cons (de_var (pv 0)) (da_cons (de_data (de_ix (de_var (pv 2)) de_int)) da_nil)))))) da_nil))))) rd__law_load
def N__law_beat : List Str := ["line", "spot", "load", "here", "given", "gone", "coming", "at", "edge", "brim", "foot", "total", "over", "level"]
theorem sc__law_beat : FnScope N__law_beat ["line", "spot", "load"] (defScope s__law_beat) := ⟨rfl, rfl, rfl, by decide +kernel, rfl, by decide +kernel, by decide +kernel⟩
def t__law_beat : DTS :=
    (dSeq (dAsg (dTup (dCons (dD (dTup dNil)) (dCons (dD (dTup dNil)) (dCons (dD (dTup dNil)) (dCons (dC (.int 0)) dNil))))) (gTupD 4 (gsCons (gN1 3) (gsCons (gN1 4) (gsCons (gN1 5) (gsCons (gN1 6) gsNil))))))
      (dSeq (dFor (dRng1 (dCons (dD (dCB gLen (dCons (dVar 2) dNil))) dNil)) (gN1 7) (dSeq (dAsg (dIx (dIx (dVar 0) (dC (.int 1))) (dVar 7)) (gTupD 3 (gsCons (gN1 8) (gsCons (gN1 9) (gsCons (gN1 10) gsNil)))))
      (dSeq (dAsg (d2 fAdd (dD (d2 fAdd (dD (dIx (dVar 2) (dVar 7))) (dD (dIx (dIx (dIx (dVar 0) (dC (.int 2))) (dVar 7)) (dVar 1))))) (dD (dVar 6))) (gN1 11))
      (dSeq (dAsg (dCB (ofD gMax2) (dCons (dC (.int 0)) (dCons (dD (d2 fSub (dD (dVar 11)) (dD (dVar 9)))) dNil))) (gN1 12))
      (dSeq (dAsg (d2 fSub (dD (dVar 11)) (dD (dVar 12))) (gN1 13))
      (dSeq (dAsg (dIfE (dB (d2 cGe (dD (dVar 13)) (dD (dVar 8)))) (d2 fSub (dD (dVar 13)) (dD (dVar 10))) (dC (.int 0))) (gN1 6))
      (dSeq (dAsg (d2 fAdd (dD (dVar 3)) (dD (dTup (dCons (dD (d2 fSub (dD (dVar 13)) (dD (dVar 6)))) dNil)))) (gN1 3))
      (dSeq (dAsg (d2 fAdd (dD (dVar 4)) (dD (dTup (dCons (dD (dVar 6)) dNil)))) (gN1 4))
      (dAsg (d2 fAdd (dD (dVar 5)) (dD (dTup (dCons (dD (dVar 12)) dNil)))) (gN1 5))))))))))
      (dRet (dTup (dCons (dD (dVar 3)) (dCons (dD (dVar 4)) (dCons (dD (dVar 5)) dNil)))))))
def sp__law_beat : DFd := fun ds R => ∃ r s, ds = [rowD r, .int (s.1 : Nat), intsD s.2] ∧ r.Ok ∧ StOk r s ∧ R (.d (.tup [intsD (outW 0 r s), intsD (outW 1 r s), intsD (outW 2 r s)]))
theorem rd__law_beat : ∀ ds R, ds.length = 3 → sp__law_beat ds R → t__law_beat { nx := fun _ => R (.d .non), rt := finP R } (startD N__law_beat ds) := by
  rintro ds R - ⟨r, ⟨ph, f⟩, rfl, ok, ⟨hp, hf⟩, h⟩
  dsimp only at hp hf h
  have n3 := ok.n3
  have fl := hf.length
  have tl := ok.same
  simp only [↓e_var, ↓e_C, ↓e_dD, ↓e_d2, ↓e_neg, ↓e_isN, ↓e_B, ↓e_And, ↓e_Or, ↓e_Not, ↓e_AndV, ↓e_OrV, ↓e_NotV, ↓e_IfE, ↓e_Chain, ↓e_Ix, ↓e_Sl, ↓e_No, ↓e_Part, ↓e_nil, ↓e_cons, ↓e_Tup, ↓e_Lst, ↓e_CB, ↓e_ofD, ↓e_jOf, ↓e_Len, ↓e_Ints, ↓e_fMax, ↓e_fMin, ↓e_Tuple, ↓e_List, ↓e_Bls, ↓e_Is, ↓e_seq, ↓e_skip, ↓e_ret, ↓e_drop, ↓e_ifS, ↓e_never, ↓e_asg, ↓e_par2, ↓e_par3, ↓e_App, ↓e_For, ↓e_While, ↓e_Iter, ↓e_Rng1, ↓e_Rng2, ↓e_Zip2, ↓e_Zip3, ↓e_Lc, ↓e_Yes, ↓e_Dn0, ↓e_DnIn, ↓e_DnGet, ↓e_Dn1, iteG_t, iteG_f, iteG_d, iteG_n, iteG_a, iteG_o, iteG_x, iteG_e, iteG_s, iteG_l, iteG_y, iteF_t, iteF_f, varF_d, varF_o, toD_d, toD_l, toD_a, toDF_d, toDF_l, d2F_d, fAdd_i, fAdd_s, fAdd_t, fAdd_l, fSub_i, fMul_i, fMulR_i, fMulR_t, fMulR_l, fDiv_i, fMod_i, fPow_i, negF_i, cLt_i, cLe_i, cGt_i, cGe_i, cEq_e, cNe_e, isNF_n, isNF_t, isNF_i, dBF_b, boF_b, notVF_b, ch2F_d, chF_d, seqOf_t, seqOf_l, seqOf_o, seqOf_s, seqOf_a, seqF_t, seqF_l, seqF_o, kindOf_t, kindOf_l, kindOf_o, kindOf_a, kindF_t, kindF_l, kindF_o, ixF2_s, ixF_s, slF_t, slF_f, partF_i, allD_n, allD_c, tupF_s, lstF_s, ofDF_s, gInt_i, gInt_b, gAbs_i, gMax2_i, gMin2_i, gN_e, jF_s, lenF_s, intsF2_s, intsF_s, fSum_e, gTF_s, gLF_s, blsF_s, blsF2_s, isF_s, isF2_s, tyn_i, tyn_b, tyn_t, tyn_l, tyn_s, tyn_n, k_ii, k_ib, k_tt, gN1_d, gN1_o, gN1_a, gaF_d, gaF_o, gTup_e, gs_n, gs_c, par2G_e, par2F_s, svOf_d, svOf_o, par3G_e, par3F_s, stF2_s, stF_s, stG_e, gStL_e, gOwn_e, owL_a, apG_e, apI_e, iterF_t, iterF_l, rng1F_e, rng2F_e, zip2F_s, zip2G_e, zip3F_s, zip3G_e, seqD_t, seqD_l, finP_d, finP_o, finP_a, finF_d, finF_o, finJF_d, finJF_o, finJ_d, finJ_o, startD_e, startJ_e, dnI_e, dnIH_e, dnGF_e, dnGetF_e, dnSF_e, dnSH_e, gStDn_e, dn1F_e, atI_0, atI_1, atI_2, ixN_2_0, ixN_2_1, appK_eq, cmp_i, eqv_ii, eqv_nn, cast1, cast2, cast3, List.map_cons, List.map_nil, List.append_nil, List.nil_append, List.cons_append, List.replicate_succ, List.replicate_zero, List.length_cons, List.length_nil, List.getElem?_cons_zero, List.getElem?_cons_succ, List.set_cons_zero, List.set_cons_succ, Option.map_some, Bool.not_true, Bool.not_false, Nat.reduceAdd, Nat.reduceSub, Nat.zero_add, Nat.add_zero, if_true, if_false, decide_true, decide_false, and_true, true_and, Nat.reduceLeDiff, Nat.sub_zero, Nat.sub_self, t__law_beat, N__law_beat, rowD, intsD]
  refine ⟨by rw [List.length_map]; omega, ?_⟩
  rw [List.length_map, Int.toNat_natCast]
  have zl : (r.cups.zip (r.taps.zip f)).length = f.length := by
    rw [List.length_zip, List.length_zip]
    omega
  refine dLoop_rel (fun k : Nat => D.int (0 + (k : Int))) (fun l ρ => ∃ (k : Nat) (A B C : List Int) (cm : Int) (z : List SV), z.length = 7 ∧ l = (List.range f.length).drop k ∧
    ρ = [SV.d (.tup [.int r.p, .tup (r.cups.map cupD), .tup (r.taps.map intsD)]), .d (.int (ph : Nat)), .d (.tup (f.map .int)), .d (.tup (A.map .int)), .d (.tup (B.map .int)), .d (.tup (C.map .int)), .d (.int cm)] ++ z ∧
    A.length = k ∧ B.length = k ∧ C.length = k ∧ k ≤ f.length ∧
    A ++ (tickZ ph ((r.cups.zip (r.taps.zip f)).drop k) cm).map (fun q => q.1) = outW 0 r (ph, f) ∧ B ++ (tickZ ph ((r.cups.zip (r.taps.zip f)).drop k) cm).map (fun q => q.2.1) = outW 1 r (ph, f) ∧ C ++ (tickZ ph ((r.cups.zip (r.taps.zip f)).drop k) cm).map (fun q => q.2.2) = outW 2 r (ph, f)) ?_ ?_ _ _ ?_
  · rintro k0 l ρ ⟨k, A, B, C, cm, z, hz, el, rfl, hA, hB, hC, hk, e1, e2, e3⟩ K hK
    match z, hz with
    | [z1, z2, z3, z4, z5, z6, z7], _ => ?_
    have hk2 : k < f.length := by
      have := congrArg List.length el
      simp at this
      omega
    have ek : k0 = k ∧ l = (List.range f.length).drop (k + 1) := by
      rw [List.drop_eq_getElem_cons (by simpa using hk2)] at el
      injection el with x1 x2
      exact ⟨by simpa using x1, x2⟩
    obtain ⟨rfl, rfl⟩ := ek
    have hkz : k0 < (r.cups.zip (r.taps.zip f)).length := by omega
    have ez := List.drop_eq_getElem_cons hkz
    have g0 : (r.cups.zip (r.taps.zip f))[k0] = (r.cups[k0], r.taps[k0], f[k0]) := by simp
    rw [g0] at ez
    have ht := ok.taps _ (List.getElem_mem (show k0 < r.taps.length by omega))
    have hpt : ph < (r.taps[k0]).length := by have := ht.1; omega
    rw [ez] at e1 e2 e3
    have a1 : atI (r.cups.map cupD) (0 + (k0 : Int)) = some (cupD r.cups[k0]) := by
      rw [atI_nat (k := k0) (by omega) (by simp; omega), List.getElem?_map, List.getElem?_eq_getElem (by omega)]
      rfl
    have a2 : atI (r.taps.map intsD) (0 + (k0 : Int)) = some (intsD r.taps[k0]) := by
      rw [atI_nat (k := k0) (by omega) (by simp; omega), List.getElem?_map, List.getElem?_eq_getElem (by omega)]
      rfl
    have a3 : atI (f.map D.int) (0 + (k0 : Int)) = some (.int f[k0]) := by
      rw [atI_nat (k := k0) (by omega) (by simp; omega), List.getElem?_map, List.getElem?_eq_getElem hk2]
      rfl
    simp only [↓e_var, ↓e_C, ↓e_dD, ↓e_d2, ↓e_neg, ↓e_isN, ↓e_B, ↓e_And, ↓e_Or, ↓e_Not, ↓e_AndV, ↓e_OrV, ↓e_NotV, ↓e_IfE, ↓e_Chain, ↓e_Ix, ↓e_Sl, ↓e_No, ↓e_Part, ↓e_nil, ↓e_cons, ↓e_Tup, ↓e_Lst, ↓e_CB, ↓e_ofD, ↓e_jOf, ↓e_Len, ↓e_Ints, ↓e_fMax, ↓e_fMin, ↓e_Tuple, ↓e_List, ↓e_Bls, ↓e_Is, ↓e_seq, ↓e_skip, ↓e_ret, ↓e_drop, ↓e_ifS, ↓e_never, ↓e_asg, ↓e_par2, ↓e_par3, ↓e_App, ↓e_For, ↓e_While, ↓e_Iter, ↓e_Rng1, ↓e_Rng2, ↓e_Zip2, ↓e_Zip3, ↓e_Lc, ↓e_Yes, ↓e_Dn0, ↓e_DnIn, ↓e_DnGet, ↓e_Dn1, iteG_t, iteG_f, iteG_d, iteG_n, iteG_a, iteG_o, iteG_x, iteG_e, iteG_s, iteG_l, iteG_y, iteF_t, iteF_f, varF_d, varF_o, toD_d, toD_l, toD_a, toDF_d, toDF_l, d2F_d, fAdd_i, fAdd_s, fAdd_t, fAdd_l, fSub_i, fMul_i, fMulR_i, fMulR_t, fMulR_l, fDiv_i, fMod_i, fPow_i, negF_i, cLt_i, cLe_i, cGt_i, cGe_i, cEq_e, cNe_e, isNF_n, isNF_t, isNF_i, dBF_b, boF_b, notVF_b, ch2F_d, chF_d, seqOf_t, seqOf_l, seqOf_o, seqOf_s, seqOf_a, seqF_t, seqF_l, seqF_o, kindOf_t, kindOf_l, kindOf_o, kindOf_a, kindF_t, kindF_l, kindF_o, ixF2_s, ixF_s, slF_t, slF_f, partF_i, allD_n, allD_c, tupF_s, lstF_s, ofDF_s, gInt_i, gInt_b, gAbs_i, gMax2_i, gMin2_i, gN_e, jF_s, lenF_s, intsF2_s, intsF_s, fSum_e, gTF_s, gLF_s, blsF_s, blsF2_s, isF_s, isF2_s, tyn_i, tyn_b, tyn_t, tyn_l, tyn_s, tyn_n, k_ii, k_ib, k_tt, gN1_d, gN1_o, gN1_a, gaF_d, gaF_o, gTup_e, gs_n, gs_c, par2G_e, par2F_s, svOf_d, svOf_o, par3G_e, par3F_s, stF2_s, stF_s, stG_e, gStL_e, gOwn_e, owL_a, apG_e, apI_e, iterF_t, iterF_l, rng1F_e, rng2F_e, zip2F_s, zip2G_e, zip3F_s, zip3G_e, seqD_t, seqD_l, finP_d, finP_o, finP_a, finF_d, finF_o, finJF_d, finJF_o, finJ_d, finJ_o, startD_e, startJ_e, dnI_e, dnIH_e, dnGF_e, dnGetF_e, dnSF_e, dnSH_e, gStDn_e, dn1F_e, atI_0, atI_1, atI_2, ixN_2_0, ixN_2_1, appK_eq, cmp_i, eqv_ii, eqv_nn, cast1, cast2, cast3, List.map_cons, List.map_nil, List.append_nil, List.nil_append, List.cons_append, List.replicate_succ, List.replicate_zero, List.length_cons, List.length_nil, List.getElem?_cons_zero, List.getElem?_cons_succ, List.set_cons_zero, List.set_cons_succ, Option.map_some, Bool.not_true, Bool.not_false, Nat.reduceAdd, Nat.reduceSub, Nat.zero_add, Nat.add_zero, if_true, if_false, decide_true, decide_false, and_true, true_and, Nat.reduceLeDiff, Nat.sub_zero, Nat.sub_self, a1]
    simp only [↓e_var, ↓e_C, ↓e_dD, ↓e_d2, ↓e_neg, ↓e_isN, ↓e_B, ↓e_And, ↓e_Or, ↓e_Not, ↓e_AndV, ↓e_OrV, ↓e_NotV, ↓e_IfE, ↓e_Chain, ↓e_Ix, ↓e_Sl, ↓e_No, ↓e_Part, ↓e_nil, ↓e_cons, ↓e_Tup, ↓e_Lst, ↓e_CB, ↓e_ofD, ↓e_jOf, ↓e_Len, ↓e_Ints, ↓e_fMax, ↓e_fMin, ↓e_Tuple, ↓e_List, ↓e_Bls, ↓e_Is, ↓e_seq, ↓e_skip, ↓e_ret, ↓e_drop, ↓e_ifS, ↓e_never, ↓e_asg, ↓e_par2, ↓e_par3, ↓e_App, ↓e_For, ↓e_While, ↓e_Iter, ↓e_Rng1, ↓e_Rng2, ↓e_Zip2, ↓e_Zip3, ↓e_Lc, ↓e_Yes, ↓e_Dn0, ↓e_DnIn, ↓e_DnGet, ↓e_Dn1, iteG_t, iteG_f, iteG_d, iteG_n, iteG_a, iteG_o, iteG_x, iteG_e, iteG_s, iteG_l, iteG_y, iteF_t, iteF_f, varF_d, varF_o, toD_d, toD_l, toD_a, toDF_d, toDF_l, d2F_d, fAdd_i, fAdd_s, fAdd_t, fAdd_l, fSub_i, fMul_i, fMulR_i, fMulR_t, fMulR_l, fDiv_i, fMod_i, fPow_i, negF_i, cLt_i, cLe_i, cGt_i, cGe_i, cEq_e, cNe_e, isNF_n, isNF_t, isNF_i, dBF_b, boF_b, notVF_b, ch2F_d, chF_d, seqOf_t, seqOf_l, seqOf_o, seqOf_s, seqOf_a, seqF_t, seqF_l, seqF_o, kindOf_t, kindOf_l, kindOf_o, kindOf_a, kindF_t, kindF_l, kindF_o, ixF2_s, ixF_s, slF_t, slF_f, partF_i, allD_n, allD_c, tupF_s, lstF_s, ofDF_s, gInt_i, gInt_b, gAbs_i, gMax2_i, gMin2_i, gN_e, jF_s, lenF_s, intsF2_s, intsF_s, fSum_e, gTF_s, gLF_s, blsF_s, blsF2_s, isF_s, isF2_s, tyn_i, tyn_b, tyn_t, tyn_l, tyn_s, tyn_n, k_ii, k_ib, k_tt, gN1_d, gN1_o, gN1_a, gaF_d, gaF_o, gTup_e, gs_n, gs_c, par2G_e, par2F_s, svOf_d, svOf_o, par3G_e, par3F_s, stF2_s, stF_s, stG_e, gStL_e, gOwn_e, owL_a, apG_e, apI_e, iterF_t, iterF_l, rng1F_e, rng2F_e, zip2F_s, zip2G_e, zip3F_s, zip3G_e, seqD_t, seqD_l, finP_d, finP_o, finP_a, finF_d, finF_o, finJF_d, finJF_o, finJ_d, finJ_o, startD_e, startJ_e, dnI_e, dnIH_e, dnGF_e, dnGetF_e, dnSF_e, dnSH_e, gStDn_e, dn1F_e, atI_0, atI_1, atI_2, ixN_2_0, ixN_2_1, appK_eq, cmp_i, eqv_ii, eqv_nn, cast1, cast2, cast3, List.map_cons, List.map_nil, List.append_nil, List.nil_append, List.cons_append, List.replicate_succ, List.replicate_zero, List.length_cons, List.length_nil, List.getElem?_cons_zero, List.getElem?_cons_succ, List.set_cons_zero, List.set_cons_succ, Option.map_some, Bool.not_true, Bool.not_false, Nat.reduceAdd, Nat.reduceSub, Nat.zero_add, Nat.add_zero, if_true, if_false, decide_true, decide_false, and_true, true_and, Nat.reduceLeDiff, Nat.sub_zero, Nat.sub_self, cupD]
    simp only [↓e_var, ↓e_C, ↓e_dD, ↓e_d2, ↓e_neg, ↓e_isN, ↓e_B, ↓e_And, ↓e_Or, ↓e_Not, ↓e_AndV, ↓e_OrV, ↓e_NotV, ↓e_IfE, ↓e_Chain, ↓e_Ix, ↓e_Sl, ↓e_No, ↓e_Part, ↓e_nil, ↓e_cons, ↓e_Tup, ↓e_Lst, ↓e_CB, ↓e_ofD, ↓e_jOf, ↓e_Len, ↓e_Ints, ↓e_fMax, ↓e_fMin, ↓e_Tuple, ↓e_List, ↓e_Bls, ↓e_Is, ↓e_seq, ↓e_skip, ↓e_ret, ↓e_drop, ↓e_ifS, ↓e_never, ↓e_asg, ↓e_par2, ↓e_par3, ↓e_App, ↓e_For, ↓e_While, ↓e_Iter, ↓e_Rng1, ↓e_Rng2, ↓e_Zip2, ↓e_Zip3, ↓e_Lc, ↓e_Yes, ↓e_Dn0, ↓e_DnIn, ↓e_DnGet, ↓e_Dn1, iteG_t, iteG_f, iteG_d, iteG_n, iteG_a, iteG_o, iteG_x, iteG_e, iteG_s, iteG_l, iteG_y, iteF_t, iteF_f, varF_d, varF_o, toD_d, toD_l, toD_a, toDF_d, toDF_l, d2F_d, fAdd_i, fAdd_s, fAdd_t, fAdd_l, fSub_i, fMul_i, fMulR_i, fMulR_t, fMulR_l, fDiv_i, fMod_i, fPow_i, negF_i, cLt_i, cLe_i, cGt_i, cGe_i, cEq_e, cNe_e, isNF_n, isNF_t, isNF_i, dBF_b, boF_b, notVF_b, ch2F_d, chF_d, seqOf_t, seqOf_l, seqOf_o, seqOf_s, seqOf_a, seqF_t, seqF_l, seqF_o, kindOf_t, kindOf_l, kindOf_o, kindOf_a, kindF_t, kindF_l, kindF_o, ixF2_s, ixF_s, slF_t, slF_f, partF_i, allD_n, allD_c, tupF_s, lstF_s, ofDF_s, gInt_i, gInt_b, gAbs_i, gMax2_i, gMin2_i, gN_e, jF_s, lenF_s, intsF2_s, intsF_s, fSum_e, gTF_s, gLF_s, blsF_s, blsF2_s, isF_s, isF2_s, tyn_i, tyn_b, tyn_t, tyn_l, tyn_s, tyn_n, k_ii, k_ib, k_tt, gN1_d, gN1_o, gN1_a, gaF_d, gaF_o, gTup_e, gs_n, gs_c, par2G_e, par2F_s, svOf_d, svOf_o, par3G_e, par3F_s, stF2_s, stF_s, stG_e, gStL_e, gOwn_e, owL_a, apG_e, apI_e, iterF_t, iterF_l, rng1F_e, rng2F_e, zip2F_s, zip2G_e, zip3F_s, zip3G_e, seqD_t, seqD_l, finP_d, finP_o, finP_a, finF_d, finF_o, finJF_d, finJF_o, finJ_d, finJ_o, startD_e, startJ_e, dnI_e, dnIH_e, dnGF_e, dnGetF_e, dnSF_e, dnSH_e, gStDn_e, dn1F_e, atI_0, atI_1, atI_2, ixN_2_0, ixN_2_1, appK_eq, cmp_i, eqv_ii, eqv_nn, cast1, cast2, cast3, List.map_cons, List.map_nil, List.append_nil, List.nil_append, List.cons_append, List.replicate_succ, List.replicate_zero, List.length_cons, List.length_nil, List.getElem?_cons_zero, List.getElem?_cons_succ, List.set_cons_zero, List.set_cons_succ, Option.map_some, Bool.not_true, Bool.not_false, Nat.reduceAdd, Nat.reduceSub, Nat.zero_add, Nat.add_zero, if_true, if_false, decide_true, decide_false, and_true, true_and, Nat.reduceLeDiff, Nat.sub_zero, Nat.sub_self, a2, a3]
    simp only [↓e_var, ↓e_C, ↓e_dD, ↓e_d2, ↓e_neg, ↓e_isN, ↓e_B, ↓e_And, ↓e_Or, ↓e_Not, ↓e_AndV, ↓e_OrV, ↓e_NotV, ↓e_IfE, ↓e_Chain, ↓e_Ix, ↓e_Sl, ↓e_No, ↓e_Part, ↓e_nil, ↓e_cons, ↓e_Tup, ↓e_Lst, ↓e_CB, ↓e_ofD, ↓e_jOf, ↓e_Len, ↓e_Ints, ↓e_fMax, ↓e_fMin, ↓e_Tuple, ↓e_List, ↓e_Bls, ↓e_Is, ↓e_seq, ↓e_skip, ↓e_ret, ↓e_drop, ↓e_ifS, ↓e_never, ↓e_asg, ↓e_par2, ↓e_par3, ↓e_App, ↓e_For, ↓e_While, ↓e_Iter, ↓e_Rng1, ↓e_Rng2, ↓e_Zip2, ↓e_Zip3, ↓e_Lc, ↓e_Yes, ↓e_Dn0, ↓e_DnIn, ↓e_DnGet, ↓e_Dn1, iteG_t, iteG_f, iteG_d, iteG_n, iteG_a, iteG_o, iteG_x, iteG_e, iteG_s, iteG_l, iteG_y, iteF_t, iteF_f, varF_d, varF_o, toD_d, toD_l, toD_a, toDF_d, toDF_l, d2F_d, fAdd_i, fAdd_s, fAdd_t, fAdd_l, fSub_i, fMul_i, fMulR_i, fMulR_t, fMulR_l, fDiv_i, fMod_i, fPow_i, negF_i, cLt_i, cLe_i, cGt_i, cGe_i, cEq_e, cNe_e, isNF_n, isNF_t, isNF_i, dBF_b, boF_b, notVF_b, ch2F_d, chF_d, seqOf_t, seqOf_l, seqOf_o, seqOf_s, seqOf_a, seqF_t, seqF_l, seqF_o, kindOf_t, kindOf_l, kindOf_o, kindOf_a, kindF_t, kindF_l, kindF_o, ixF2_s, ixF_s, slF_t, slF_f, partF_i, allD_n, allD_c, tupF_s, lstF_s, ofDF_s, gInt_i, gInt_b, gAbs_i, gMax2_i, gMin2_i, gN_e, jF_s, lenF_s, intsF2_s, intsF_s, fSum_e, gTF_s, gLF_s, blsF_s, blsF2_s, isF_s, isF2_s, tyn_i, tyn_b, tyn_t, tyn_l, tyn_s, tyn_n, k_ii, k_ib, k_tt, gN1_d, gN1_o, gN1_a, gaF_d, gaF_o, gTup_e, gs_n, gs_c, par2G_e, par2F_s, svOf_d, svOf_o, par3G_e, par3F_s, stF2_s, stF_s, stG_e, gStL_e, gOwn_e, owL_a, apG_e, apI_e, iterF_t, iterF_l, rng1F_e, rng2F_e, zip2F_s, zip2G_e, zip3F_s, zip3G_e, seqD_t, seqD_l, finP_d, finP_o, finP_a, finF_d, finF_o, finJF_d, finJF_o, finJ_d, finJ_o, startD_e, startJ_e, dnI_e, dnIH_e, dnGF_e, dnGetF_e, dnSF_e, dnSH_e, gStDn_e, dn1F_e, atI_0, atI_1, atI_2, ixN_2_0, ixN_2_1, appK_eq, cmp_i, eqv_ii, eqv_nn, cast1, cast2, cast3, List.map_cons, List.map_nil, List.append_nil, List.nil_append, List.cons_append, List.replicate_succ, List.replicate_zero, List.length_cons, List.length_nil, List.getElem?_cons_zero, List.getElem?_cons_succ, List.set_cons_zero, List.set_cons_succ, Option.map_some, Bool.not_true, Bool.not_false, Nat.reduceAdd, Nat.reduceSub, Nat.zero_add, Nat.add_zero, if_true, if_false, decide_true, decide_false, and_true, true_and, Nat.reduceLeDiff, Nat.sub_zero, Nat.sub_self, intsD, atI_ints hpt]
    simp only [tickZ, List.map_cons] at e1 e2 e3
    clear a1 a2 a3 ez g0 hkz
    generalize (r.taps[k0]).getD ph 0 = g at *
    generalize f[k0] = a0 at *
    generalize r.cups[k0] = c at *
    have hlv : a0 + g + cm - (if a0 + g + cm - c.2.1 > 0 then a0 + g + cm - c.2.1 else 0) = (if c.2.1 < a0 + g + cm then c.2.1 else a0 + g + cm) := by split <;> split <;> omega
    have hov : (if a0 + g + cm - c.2.1 > 0 then a0 + g + cm - c.2.1 else 0) = a0 + g + cm - (if c.2.1 < a0 + g + cm then c.2.1 else a0 + g + cm) := by split <;> split <;> omega
    simp only [hlv]
    simp only [hov]
    have sz : ∀ X : List Int, X.length = k0 → (X.map D.int).length + 1 ≤ sizeLine := fun X hX => by
      rw [List.length_map, sizeLine_eq]
      omega
    refine iteF_d (fun q => ?_) (fun q => ?_)
    · rw [if_pos q] at e1 e2 e3
      refine ⟨sz A hA, sz B hB, sz C hC, hK _ ⟨k0 + 1, A ++ [_], B ++ [_], C ++ [_], _, [_, _, _, _, _, _, _], rfl, rfl, by simp only [List.map_append, List.map_cons, List.map_nil, List.cons_append, List.nil_append]; rfl, by simp [hA], by simp [hB], by simp [hC], by omega, ?_, ?_, ?_⟩⟩
      · rw [← e1, List.append_assoc]; rfl
      · rw [← e2, List.append_assoc]; rfl
      · rw [← e3, List.append_assoc]; rfl
    · rw [if_neg q] at e1 e2 e3
      refine ⟨sz A hA, sz B hB, sz C hC, hK _ ⟨k0 + 1, A ++ [_], B ++ [_], C ++ [_], _, [_, _, _, _, _, _, _], rfl, rfl, by simp only [List.map_append, List.map_cons, List.map_nil, List.cons_append, List.nil_append]; rfl, by simp [hA], by simp [hB], by simp [hC], by omega, ?_, ?_, ?_⟩⟩
      · rw [← e1, List.append_assoc]; rfl
      · rw [← e2, List.append_assoc]; rfl
      · rw [← e3, List.append_assoc]; rfl
  · rintro ρ ⟨k, A, B, C, cm, z, hz, el, rfl, hA, hB, hC, hk, e1, e2, e3⟩
    match z, hz with
    | [z1, z2, z3, z4, z5, z6, z7], _ => ?_
    have hk2 : k = f.length := by
      have := congrArg List.length el
      simp at this
      omega
    rw [List.drop_of_length_le (by omega)] at e1 e2 e3
    simp only [tickZ, List.map_nil, List.append_nil] at e1 e2 e3
    subst e1 e2 e3
    simp only [↓e_var, ↓e_C, ↓e_dD, ↓e_d2, ↓e_neg, ↓e_isN, ↓e_B, ↓e_And, ↓e_Or, ↓e_Not, ↓e_AndV, ↓e_OrV, ↓e_NotV, ↓e_IfE, ↓e_Chain, ↓e_Ix, ↓e_Sl, ↓e_No, ↓e_Part, ↓e_nil, ↓e_cons, ↓e_Tup, ↓e_Lst, ↓e_CB, ↓e_ofD, ↓e_jOf, ↓e_Len, ↓e_Ints, ↓e_fMax, ↓e_fMin, ↓e_Tuple, ↓e_List, ↓e_Bls, ↓e_Is, ↓e_seq, ↓e_skip, ↓e_ret, ↓e_drop, ↓e_ifS, ↓e_never, ↓e_asg, ↓e_par2, ↓e_par3, ↓e_App, ↓e_For, ↓e_While, ↓e_Iter, ↓e_Rng1, ↓e_Rng2, ↓e_Zip2, ↓e_Zip3, ↓e_Lc, ↓e_Yes, ↓e_Dn0, ↓e_DnIn, ↓e_DnGet, ↓e_Dn1, iteG_t, iteG_f, iteG_d, iteG_n, iteG_a, iteG_o, iteG_x, iteG_e, iteG_s, iteG_l, iteG_y, iteF_t, iteF_f, varF_d, varF_o, toD_d, toD_l, toD_a, toDF_d, toDF_l, d2F_d, fAdd_i, fAdd_s, fAdd_t, fAdd_l, fSub_i, fMul_i, fMulR_i, fMulR_t, fMulR_l, fDiv_i, fMod_i, fPow_i, negF_i, cLt_i, cLe_i, cGt_i, cGe_i, cEq_e, cNe_e, isNF_n, isNF_t, isNF_i, dBF_b, boF_b, notVF_b, ch2F_d, chF_d, seqOf_t, seqOf_l, seqOf_o, seqOf_s, seqOf_a, seqF_t, seqF_l, seqF_o, kindOf_t, kindOf_l, kindOf_o, kindOf_a, kindF_t, kindF_l, kindF_o, ixF2_s, ixF_s, slF_t, slF_f, partF_i, allD_n, allD_c, tupF_s, lstF_s, ofDF_s, gInt_i, gInt_b, gAbs_i, gMax2_i, gMin2_i, gN_e, jF_s, lenF_s, intsF2_s, intsF_s, fSum_e, gTF_s, gLF_s, blsF_s, blsF2_s, isF_s, isF2_s, tyn_i, tyn_b, tyn_t, tyn_l, tyn_s, tyn_n, k_ii, k_ib, k_tt, gN1_d, gN1_o, gN1_a, gaF_d, gaF_o, gTup_e, gs_n, gs_c, par2G_e, par2F_s, svOf_d, svOf_o, par3G_e, par3F_s, stF2_s, stF_s, stG_e, gStL_e, gOwn_e, owL_a, apG_e, apI_e, iterF_t, iterF_l, rng1F_e, rng2F_e, zip2F_s, zip2G_e, zip3F_s, zip3G_e, seqD_t, seqD_l, finP_d, finP_o, finP_a, finF_d, finF_o, finJF_d, finJF_o, finJ_d, finJ_o, startD_e, startJ_e, dnI_e, dnIH_e, dnGF_e, dnGetF_e, dnSF_e, dnSH_e, gStDn_e, dn1F_e, atI_0, atI_1, atI_2, ixN_2_0, ixN_2_1, appK_eq, cmp_i, eqv_ii, eqv_nn, cast1, cast2, cast3, List.map_cons, List.map_nil, List.append_nil, List.nil_append, List.cons_append, List.replicate_succ, List.replicate_zero, List.length_cons, List.length_nil, List.getElem?_cons_zero, List.getElem?_cons_succ, List.set_cons_zero, List.set_cons_succ, Option.map_some, Bool.not_true, Bool.not_false, Nat.reduceAdd, Nat.reduceSub, Nat.zero_add, Nat.add_zero, if_true, if_false, decide_true, decide_false, and_true, true_and, Nat.reduceLeDiff, Nat.sub_zero, Nat.sub_self]
    exact h
  · exact ⟨0, [], [], [], 0, _, rfl, rfl, rfl, rfl, rfl, rfl, Nat.zero_le _, rfl, rfl, rfl⟩
def Dx__law_beat (P : Program) (w : World) (K : PySem.W.Frag) (mg : Str → Option Value) (base : Heap) : Prop := ∃ f fd, Def P w K mg base 1 "_law_beat" f fd ["line", "spot", "load"] (spP (bas P w K) 3 sp__law_beat)
theorem ok__law_beat {P : Program} {w : World} {K : PySem.W.Frag} {mg : Str → Option Value} {base : Heap} (M : Mg mg) {f : Addr} {fd : FuncData} (F : FunD K "_law_beat" "_law_beat" (defArgs s__law_beat) (defBody s__law_beat) (defScope s__law_beat) [] [] f fd) : FnOk P w K mg base CX0 1 f fd ["line", "spot", "load"] (spP (bas P w K) 3 sp__law_beat) := by
  exact okP (tb := t__law_beat) F sc__law_beat (fun cdv A outer s H E hr =>
    (dss_cons (ds_asg (de_tup (da_cons (de_data (de_tup da_nil)) (da_cons (de_data (de_tup da_nil)) (da_cons (de_data (de_tup da_nil)) (da_cons de_int da_nil))))) (dg_tup rfl (dgs_cons (dg_name sc__law_beat.nd (i := 3) rfl (by first | exact .inl rfl | exact .inr rfl) (by first | exact .inl rfl | exact .inr (by decide))) (dgs_cons (dg_name sc__law_beat.nd (i := 4) rfl (by first | exact .inl rfl | exact .inr rfl) (by first | exact .inl rfl | exact .inr (by decide))) (dgs_cons (dg_name sc__law_beat.nd (i := 5) rfl (by first | exact .inl rfl | exact .inr rfl) (by first | exact .inl rfl | exact .inr (by decide))) (dgs_cons (dg_name sc__law_beat.nd (i := 6) rfl (by first | exact .inl rfl | exact .inr rfl) (by first | exact .inl rfl | exact .inr (by decide))) (dgs_nil (ws := []))))))))
      (dss_cons (ds_for PassesOwn.never rfl (di_range1 (by rfl) M.f_range (da_cons (de_data (de_callB (call_len_seq) (snd_len) (by rfl) M.f_len rfl (da_cons (de_var (pv 2)) da_nil))) da_nil)) (dg_name sc__law_beat.nd (i := 7) rfl (by first | exact .inl rfl | exact .inr rfl) (by first | exact .inl rfl | exact .inr (by decide))) (dss_cons (ds_asg (de_ix (de_ix (de_var (pv 0)) de_int) (de_var (pv 7))) (dg_tup rfl (dgs_cons (dg_name sc__law_beat.nd (i := 8) rfl (by first | exact .inl rfl | exact .inr rfl) (by first | exact .inl rfl | exact .inr (by decide))) (dgs_cons (dg_name sc__law_beat.nd (i := 9) rfl (by first | exact .inl rfl | exact .inr rfl) (by first | exact .inl rfl | exact .inr (by decide))) (dgs_cons (dg_name sc__law_beat.nd (i := 10) rfl (by first | exact .inl rfl | exact .inr rfl) (by first | exact .inl rfl | exact .inr (by decide))) (dgs_nil (ws := [])))))))
      (dss_cons (ds_asg (de_add (de_add (de_ix (de_var (pv 2)) (de_var (pv 7))) (de_ix (de_ix (de_ix (de_var (pv 0)) de_int) (de_var (pv 7))) (de_var (pv 1)))) (de_var (pv 6))) (dg_name sc__law_beat.nd (i := 11) rfl (by first | exact .inl rfl | exact .inr rfl) (by first | exact .inl rfl | exact .inr (by decide))))
      (dss_cons (ds_asg (de_callB (call_max2 rfl) (snd_max2.toC) (by rfl) M.f_max rfl (da_cons de_int (da_cons (de_data (de_sub (de_var (pv 11)) (de_var (pv 9)))) da_nil))) (dg_name sc__law_beat.nd (i := 12) rfl (by first | exact .inl rfl | exact .inr rfl) (by first | exact .inl rfl | exact .inr (by decide))))
      (dss_cons (ds_asg (de_sub (de_var (pv 11)) (de_var (pv 12))) (dg_name sc__law_beat.nd (i := 13) rfl (by first | exact .inl rfl | exact .inr rfl) (by first | exact .inl rfl | exact .inr (by decide))))
      (dss_cons (ds_asg (de_if (dt_ge (de_var (pv 13)) (de_var (pv 8))) (de_sub (de_var (pv 13)) (de_var (pv 10))) de_int) (dg_name sc__law_beat.nd (i := 6) rfl (by first | exact .inl rfl | exact .inr rfl) (by first | exact .inl rfl | exact .inr (by decide))))
      (dss_cons (ds_asg (de_add (de_var (pv 3)) (de_tup (da_cons (de_data (de_sub (de_var (pv 13)) (de_var (pv 6)))) da_nil))) (dg_name sc__law_beat.nd (i := 3) rfl (by first | exact .inl rfl | exact .inr rfl) (by first | exact .inl rfl | exact .inr (by decide))))
      (dss_cons (ds_asg (de_add (de_var (pv 4)) (de_tup (da_cons (de_data (de_var (pv 6))) da_nil))) (dg_name sc__law_beat.nd (i := 4) rfl (by first | exact .inl rfl | exact .inr rfl) (by first | exact .inl rfl | exact .inr (by decide))))
      (dss_one (ds_asg (de_add (de_var (pv 5)) (de_tup (da_cons (de_data (de_var (pv 12))) da_nil))) (dg_name sc__law_beat.nd (i := 5) rfl (by first | exact .inl rfl | exact .inr rfl) (by first | exact .inl rfl | exact .inr (by decide)))))))))))))
      (dss_one (ds_ret (de_tup (da_cons (de_data (de_var (pv 3))) (da_cons (de_data (de_var (pv 4))) (da_cons (de_data (de_var (pv 5))) da_nil))))))))) rd__law_beat
end DL

set_option Elab.async false
set_option linter.all false
set_option maxRecDepth 100000
set_option maxHeartbeats 0
namespace DL
open PySem PySem.Spec L2
open PyProof.Rows hiding St
theorem atI_last {α : Type} {l : List α} {a : α} : atI (l ++ [a]) (-1) = some a := by
  unfold atI ixN
  rw [if_neg (by decide), if_pos (by rw [List.length_append, List.length_singleton]; omega), List.length_append, List.length_singleton]
  have : ((-1 : Int) + ((l.length + 1 : Nat) : Int)).toNat = l.length := by omega
  rw [this]
  simp
def N__law_loop : List Str := ["line", "load", "found", "seen", "spot", "here", "later"]
theorem sc__law_loop : FnScope N__law_loop ["line", "load"] (defScope s__law_loop) := ⟨rfl, rfl, rfl, by decide +kernel, rfl, by decide +kernel, by decide +kernel⟩
def t__law_loop : DTS :=
    (dSeq (dPar2 2 3 (dCons (dLst (dCons (dD (dTup (dCons (dC (.int 0)) (dCons (dD (dVar 1)) dNil)))) dNil)) (dCons (dDn1 (dD (dTup (dCons (dC (.int 0)) (dCons (dD (dVar 1)) dNil)))) (dD (dC (.int 0)))) dNil)))
      (dWhile (dB (dC (.bl true))) (dSeq (dAsg (dIx (dVar 2) (dNeg (dC (.int 1)))) (gTupD 2 (gsCons (gN1 4) (gsCons (gN1 5) gsNil))))
      (dSeq (dAsg (dTup (dCons (dD (d2 fMod (dD (d2 fAdd (dD (dVar 4)) (dD (dC (.int 1))))) (dD (dIx (dVar 0) (dC (.int 0)))))) (dCons (dD (dIx (dCB (ofD (gN 3 sp__law_beat)) (dCons (dD (dVar 0)) (dCons (dD (dVar 4)) (dCons (dD (dVar 5)) dNil)))) (dC (.int 0)))) dNil))) (gN1 6))
      (dSeq (dIfS (dB (dDnIn false (dD (dVar 6)) (dVar 3))) (dRet (dTup (dCons (dD (dDnGet (dVar 3) (dD (dVar 6)))) (dCons (dD (dSl (dVar 2) (dPart (dDnGet (dVar 3) (dD (dVar 6)))) dNo)) dNil)))) dSkip)
      (dSeq (dAsg (dCB gLen (dCons (dVar 2) dNil)) (gStDn (dVar 3) (dD (dVar 6))))
      (dDrop (dApp (dVar 2) (dCons (dD (dVar 6)) dNil)))))))))
def sp__law_loop : DFd := fun ds R => ∃ r f, ds = [rowD r, intsD f] ∧ r.Ok ∧ FillOk r.cups f ∧ ∀ m first, m ≤ 1296000 → first < m → orb r (0, f) m = orb r (0, f) first → R (.d (.tup [.int (first : Nat), .lst ((List.range (m - first)).map fun i => stD (orb r (0, f) (first + i)))]))
theorem rd__law_loop : ∀ ds R, ds.length = 2 → sp__law_loop ds R → t__law_loop { nx := fun _ => R (.d .non), rt := finP R } (startD N__law_loop ds) := by
  rintro ds R - ⟨r, f, rfl, ok, hf, h⟩
  have st := start_ok ok hf
  have p1 := ok.p1
  have fin : ∀ n, (∀ i j, i < n → j < n → orb r (0, f) i = orb r (0, f) j → i = j) → n ≤ 1296000 := fun n inj => Nat.le_trans (orb_bound ok st inj) (length_allSt ok)
  simp only [↓e_var, ↓e_C, ↓e_dD, ↓e_d2, ↓e_neg, ↓e_isN, ↓e_B, ↓e_And, ↓e_Or, ↓e_Not, ↓e_AndV, ↓e_OrV, ↓e_NotV, ↓e_IfE, ↓e_Chain, ↓e_Ix, ↓e_Sl, ↓e_No, ↓e_Part, ↓e_nil, ↓e_cons, ↓e_Tup, ↓e_Lst, ↓e_CB, ↓e_ofD, ↓e_jOf, ↓e_Len, ↓e_Ints, ↓e_fMax, ↓e_fMin, ↓e_Tuple, ↓e_List, ↓e_Bls, ↓e_Is, ↓e_seq, ↓e_skip, ↓e_ret, ↓e_drop, ↓e_ifS, ↓e_never, ↓e_asg, ↓e_par2, ↓e_par3, ↓e_App, ↓e_For, ↓e_While, ↓e_Iter, ↓e_Rng1, ↓e_Rng2, ↓e_Zip2, ↓e_Zip3, ↓e_Lc, ↓e_Yes, ↓e_Dn0, ↓e_DnIn, ↓e_DnGet, ↓e_Dn1, iteG_t, iteG_f, iteG_d, iteG_n, iteG_a, iteG_o, iteG_x, iteG_e, iteG_s, iteG_l, iteG_y, iteF_t, iteF_f, varF_d, varF_o, toD_d, toD_l, toD_a, toDF_d, toDF_l, d2F_d, fAdd_i, fAdd_s, fAdd_t, fAdd_l, fSub_i, fMul_i, fMulR_i, fMulR_t, fMulR_l, fDiv_i, fMod_i, fPow_i, negF_i, cLt_i, cLe_i, cGt_i, cGe_i, cEq_e, cNe_e, isNF_n, isNF_t, isNF_i, dBF_b, boF_b, notVF_b, ch2F_d, chF_d, seqOf_t, seqOf_l, seqOf_o, seqOf_s, seqOf_a, seqF_t, seqF_l, seqF_o, kindOf_t, kindOf_l, kindOf_o, kindOf_a, kindF_t, kindF_l, kindF_o, ixF2_s, ixF_s, slF_t, slF_f, partF_i, allD_n, allD_c, tupF_s, lstF_s, ofDF_s, gInt_i, gInt_b, gAbs_i, gMax2_i, gMin2_i, gN_e, jF_s, lenF_s, intsF2_s, intsF_s, fSum_e, gTF_s, gLF_s, blsF_s, blsF2_s, isF_s, isF2_s, tyn_i, tyn_b, tyn_t, tyn_l, tyn_s, tyn_n, k_ii, k_ib, k_tt, gN1_d, gN1_o, gN1_a, gaF_d, gaF_o, gTup_e, gs_n, gs_c, par2G_e, par2F_s, svOf_d, svOf_o, par3G_e, par3F_s, stF2_s, stF_s, stG_e, gStL_e, gOwn_e, owL_a, apG_e, apI_e, iterF_t, iterF_l, rng1F_e, rng2F_e, zip2F_s, zip2G_e, zip3F_s, zip3G_e, seqD_t, seqD_l, finP_d, finP_o, finP_a, finF_d, finF_o, finJF_d, finJF_o, finJ_d, finJ_o, startD_e, startJ_e, dnI_e, dnIH_e, dnGF_e, dnGetF_e, dnSF_e, dnSH_e, gStDn_e, dn1F_e, atI_0, atI_1, atI_2, ixN_2_0, ixN_2_1, appK_eq, cmp_i, eqv_ii, eqv_nn, cast1, cast2, cast3, List.map_cons, List.map_nil, List.append_nil, List.nil_append, List.cons_append, List.replicate_succ, List.replicate_zero, List.length_cons, List.length_nil, List.getElem?_cons_zero, List.getElem?_cons_succ, List.set_cons_zero, List.set_cons_succ, Option.map_some, Bool.not_true, Bool.not_false, Nat.reduceAdd, Nat.reduceSub, Nat.zero_add, Nat.add_zero, if_true, if_false, decide_true, decide_false, and_true, true_and, Nat.reduceLeDiff, Nat.sub_zero, Nat.sub_self, t__law_loop, N__law_loop]
  refine ⟨keyOf (0, f), (by rw [kD_key]; rfl), ⟨_, rfl⟩, depth_key _, ?_⟩
  simp only [↓e_var, ↓e_C, ↓e_dD, ↓e_d2, ↓e_neg, ↓e_isN, ↓e_B, ↓e_And, ↓e_Or, ↓e_Not, ↓e_AndV, ↓e_OrV, ↓e_NotV, ↓e_IfE, ↓e_Chain, ↓e_Ix, ↓e_Sl, ↓e_No, ↓e_Part, ↓e_nil, ↓e_cons, ↓e_Tup, ↓e_Lst, ↓e_CB, ↓e_ofD, ↓e_jOf, ↓e_Len, ↓e_Ints, ↓e_fMax, ↓e_fMin, ↓e_Tuple, ↓e_List, ↓e_Bls, ↓e_Is, ↓e_seq, ↓e_skip, ↓e_ret, ↓e_drop, ↓e_ifS, ↓e_never, ↓e_asg, ↓e_par2, ↓e_par3, ↓e_App, ↓e_For, ↓e_While, ↓e_Iter, ↓e_Rng1, ↓e_Rng2, ↓e_Zip2, ↓e_Zip3, ↓e_Lc, ↓e_Yes, ↓e_Dn0, ↓e_DnIn, ↓e_DnGet, ↓e_Dn1, iteG_t, iteG_f, iteG_d, iteG_n, iteG_a, iteG_o, iteG_x, iteG_e, iteG_s, iteG_l, iteG_y, iteF_t, iteF_f, varF_d, varF_o, toD_d, toD_l, toD_a, toDF_d, toDF_l, d2F_d, fAdd_i, fAdd_s, fAdd_t, fAdd_l, fSub_i, fMul_i, fMulR_i, fMulR_t, fMulR_l, fDiv_i, fMod_i, fPow_i, negF_i, cLt_i, cLe_i, cGt_i, cGe_i, cEq_e, cNe_e, isNF_n, isNF_t, isNF_i, dBF_b, boF_b, notVF_b, ch2F_d, chF_d, seqOf_t, seqOf_l, seqOf_o, seqOf_s, seqOf_a, seqF_t, seqF_l, seqF_o, kindOf_t, kindOf_l, kindOf_o, kindOf_a, kindF_t, kindF_l, kindF_o, ixF2_s, ixF_s, slF_t, slF_f, partF_i, allD_n, allD_c, tupF_s, lstF_s, ofDF_s, gInt_i, gInt_b, gAbs_i, gMax2_i, gMin2_i, gN_e, jF_s, lenF_s, intsF2_s, intsF_s, fSum_e, gTF_s, gLF_s, blsF_s, blsF2_s, isF_s, isF2_s, tyn_i, tyn_b, tyn_t, tyn_l, tyn_s, tyn_n, k_ii, k_ib, k_tt, gN1_d, gN1_o, gN1_a, gaF_d, gaF_o, gTup_e, gs_n, gs_c, par2G_e, par2F_s, svOf_d, svOf_o, par3G_e, par3F_s, stF2_s, stF_s, stG_e, gStL_e, gOwn_e, owL_a, apG_e, apI_e, iterF_t, iterF_l, rng1F_e, rng2F_e, zip2F_s, zip2G_e, zip3F_s, zip3G_e, seqD_t, seqD_l, finP_d, finP_o, finP_a, finF_d, finF_o, finJF_d, finJF_o, finJ_d, finJ_o, startD_e, startJ_e, dnI_e, dnIH_e, dnGF_e, dnGetF_e, dnSF_e, dnSH_e, gStDn_e, dn1F_e, atI_0, atI_1, atI_2, ixN_2_0, ixN_2_1, appK_eq, cmp_i, eqv_ii, eqv_nn, cast1, cast2, cast3, List.map_cons, List.map_nil, List.append_nil, List.nil_append, List.cons_append, List.replicate_succ, List.replicate_zero, List.length_cons, List.length_nil, List.getElem?_cons_zero, List.getElem?_cons_succ, List.set_cons_zero, List.set_cons_succ, Option.map_some, Bool.not_true, Bool.not_false, Nat.reduceAdd, Nat.reduceSub, Nat.zero_add, Nat.add_zero, if_true, if_false, decide_true, decide_false, and_true, true_and, Nat.reduceLeDiff, Nat.sub_zero, Nat.sub_self]
  refine ⟨fun m ρ => ∃ (n : Nat) (z1 z2 z3 : SV), m = 1296001 - n ∧ 0 < n ∧ (∀ i j, i < n → j < n → orb r (0, f) i = orb r (0, f) j → i = j) ∧
    ρ = [SV.d (rowD r), .d (intsD f), .ow (.lst ((List.range n).map fun i => stD (orb r (0, f) i))), .ow (.dn (plc (orb r (0, f)) n)), z1, z2, z3], ⟨_, 1, _, _, _, rfl, by decide, fun i j hi hj _ => by omega, rfl⟩, ?_⟩
  rintro m ρ ⟨n, z1, z2, z3, rfl, n0, inj, rfl⟩
  have hn := fin n inj
  obtain ⟨k, rfl⟩ : ∃ k, n = k + 1 := ⟨n - 1, by omega⟩
  have el : (List.range (k + 1)).map (fun i => stD (orb r (0, f) i)) = (List.range k).map (fun i => stD (orb r (0, f) i)) ++ [stD (orb r (0, f) k)] := by simp [List.range_succ]
  have so := orb_ok ok st k
  have la : atI ((List.range (k + 1)).map fun i => stD (orb r (0, f) i)) (-1) = some (.tup [.int ((orb r (0, f) k).1 : Nat), intsD (orb r (0, f) k).2]) := by
    rw [el]
    exact atI_last
  simp only [↓e_var, ↓e_C, ↓e_dD, ↓e_d2, ↓e_neg, ↓e_isN, ↓e_B, ↓e_And, ↓e_Or, ↓e_Not, ↓e_AndV, ↓e_OrV, ↓e_NotV, ↓e_IfE, ↓e_Chain, ↓e_Ix, ↓e_Sl, ↓e_No, ↓e_Part, ↓e_nil, ↓e_cons, ↓e_Tup, ↓e_Lst, ↓e_CB, ↓e_ofD, ↓e_jOf, ↓e_Len, ↓e_Ints, ↓e_fMax, ↓e_fMin, ↓e_Tuple, ↓e_List, ↓e_Bls, ↓e_Is, ↓e_seq, ↓e_skip, ↓e_ret, ↓e_drop, ↓e_ifS, ↓e_never, ↓e_asg, ↓e_par2, ↓e_par3, ↓e_App, ↓e_For, ↓e_While, ↓e_Iter, ↓e_Rng1, ↓e_Rng2, ↓e_Zip2, ↓e_Zip3, ↓e_Lc, ↓e_Yes, ↓e_Dn0, ↓e_DnIn, ↓e_DnGet, ↓e_Dn1, iteG_t, iteG_f, iteG_d, iteG_n, iteG_a, iteG_o, iteG_x, iteG_e, iteG_s, iteG_l, iteG_y, iteF_t, iteF_f, varF_d, varF_o, toD_d, toD_l, toD_a, toDF_d, toDF_l, d2F_d, fAdd_i, fAdd_s, fAdd_t, fAdd_l, fSub_i, fMul_i, fMulR_i, fMulR_t, fMulR_l, fDiv_i, fMod_i, fPow_i, negF_i, cLt_i, cLe_i, cGt_i, cGe_i, cEq_e, cNe_e, isNF_n, isNF_t, isNF_i, dBF_b, boF_b, notVF_b, ch2F_d, chF_d, seqOf_t, seqOf_l, seqOf_o, seqOf_s, seqOf_a, seqF_t, seqF_l, seqF_o, kindOf_t, kindOf_l, kindOf_o, kindOf_a, kindF_t, kindF_l, kindF_o, ixF2_s, ixF_s, slF_t, slF_f, partF_i, allD_n, allD_c, tupF_s, lstF_s, ofDF_s, gInt_i, gInt_b, gAbs_i, gMax2_i, gMin2_i, gN_e, jF_s, lenF_s, intsF2_s, intsF_s, fSum_e, gTF_s, gLF_s, blsF_s, blsF2_s, isF_s, isF2_s, tyn_i, tyn_b, tyn_t, tyn_l, tyn_s, tyn_n, k_ii, k_ib, k_tt, gN1_d, gN1_o, gN1_a, gaF_d, gaF_o, gTup_e, gs_n, gs_c, par2G_e, par2F_s, svOf_d, svOf_o, par3G_e, par3F_s, stF2_s, stF_s, stG_e, gStL_e, gOwn_e, owL_a, apG_e, apI_e, iterF_t, iterF_l, rng1F_e, rng2F_e, zip2F_s, zip2G_e, zip3F_s, zip3G_e, seqD_t, seqD_l, finP_d, finP_o, finP_a, finF_d, finF_o, finJF_d, finJF_o, finJ_d, finJ_o, startD_e, startJ_e, dnI_e, dnIH_e, dnGF_e, dnGetF_e, dnSF_e, dnSH_e, gStDn_e, dn1F_e, atI_0, atI_1, atI_2, ixN_2_0, ixN_2_1, appK_eq, cmp_i, eqv_ii, eqv_nn, cast1, cast2, cast3, List.map_cons, List.map_nil, List.append_nil, List.nil_append, List.cons_append, List.replicate_succ, List.replicate_zero, List.length_cons, List.length_nil, List.getElem?_cons_zero, List.getElem?_cons_succ, List.set_cons_zero, List.set_cons_succ, Option.map_some, Bool.not_true, Bool.not_false, Nat.reduceAdd, Nat.reduceSub, Nat.zero_add, Nat.add_zero, if_true, if_false, decide_true, decide_false, and_true, true_and, Nat.reduceLeDiff, Nat.sub_zero, Nat.sub_self, la, rowD]
  refine ⟨by omega, rfl, r, orb r (0, f) k, rfl, ok, so, ?_⟩
  have es : D.tup [.int ((((orb r (0, f) k).1 : Nat) + 1 : Int) % r.p), intsD (outW 0 r (orb r (0, f) k))] = stD (orb r (0, f) (k + 1)) := by
    have em : (((orb r (0, f) k).1 : Int) + 1) % r.p = (((((orb r (0, f) k).1 + 1) % r.p.toNat : Nat)) : Int) := by
      rw [Int.natCast_emod, Int.toNat_of_nonneg (by omega)]
      rfl
    rw [em]
    rfl
  simp only [↓e_var, ↓e_C, ↓e_dD, ↓e_d2, ↓e_neg, ↓e_isN, ↓e_B, ↓e_And, ↓e_Or, ↓e_Not, ↓e_AndV, ↓e_OrV, ↓e_NotV, ↓e_IfE, ↓e_Chain, ↓e_Ix, ↓e_Sl, ↓e_No, ↓e_Part, ↓e_nil, ↓e_cons, ↓e_Tup, ↓e_Lst, ↓e_CB, ↓e_ofD, ↓e_jOf, ↓e_Len, ↓e_Ints, ↓e_fMax, ↓e_fMin, ↓e_Tuple, ↓e_List, ↓e_Bls, ↓e_Is, ↓e_seq, ↓e_skip, ↓e_ret, ↓e_drop, ↓e_ifS, ↓e_never, ↓e_asg, ↓e_par2, ↓e_par3, ↓e_App, ↓e_For, ↓e_While, ↓e_Iter, ↓e_Rng1, ↓e_Rng2, ↓e_Zip2, ↓e_Zip3, ↓e_Lc, ↓e_Yes, ↓e_Dn0, ↓e_DnIn, ↓e_DnGet, ↓e_Dn1, iteG_t, iteG_f, iteG_d, iteG_n, iteG_a, iteG_o, iteG_x, iteG_e, iteG_s, iteG_l, iteG_y, iteF_t, iteF_f, varF_d, varF_o, toD_d, toD_l, toD_a, toDF_d, toDF_l, d2F_d, fAdd_i, fAdd_s, fAdd_t, fAdd_l, fSub_i, fMul_i, fMulR_i, fMulR_t, fMulR_l, fDiv_i, fMod_i, fPow_i, negF_i, cLt_i, cLe_i, cGt_i, cGe_i, cEq_e, cNe_e, isNF_n, isNF_t, isNF_i, dBF_b, boF_b, notVF_b, ch2F_d, chF_d, seqOf_t, seqOf_l, seqOf_o, seqOf_s, seqOf_a, seqF_t, seqF_l, seqF_o, kindOf_t, kindOf_l, kindOf_o, kindOf_a, kindF_t, kindF_l, kindF_o, ixF2_s, ixF_s, slF_t, slF_f, partF_i, allD_n, allD_c, tupF_s, lstF_s, ofDF_s, gInt_i, gInt_b, gAbs_i, gMax2_i, gMin2_i, gN_e, jF_s, lenF_s, intsF2_s, intsF_s, fSum_e, gTF_s, gLF_s, blsF_s, blsF2_s, isF_s, isF2_s, tyn_i, tyn_b, tyn_t, tyn_l, tyn_s, tyn_n, k_ii, k_ib, k_tt, gN1_d, gN1_o, gN1_a, gaF_d, gaF_o, gTup_e, gs_n, gs_c, par2G_e, par2F_s, svOf_d, svOf_o, par3G_e, par3F_s, stF2_s, stF_s, stG_e, gStL_e, gOwn_e, owL_a, apG_e, apI_e, iterF_t, iterF_l, rng1F_e, rng2F_e, zip2F_s, zip2G_e, zip3F_s, zip3G_e, seqD_t, seqD_l, finP_d, finP_o, finP_a, finF_d, finF_o, finJF_d, finJF_o, finJ_d, finJ_o, startD_e, startJ_e, dnI_e, dnIH_e, dnGF_e, dnGetF_e, dnSF_e, dnSH_e, gStDn_e, dn1F_e, atI_0, atI_1, atI_2, ixN_2_0, ixN_2_1, appK_eq, cmp_i, eqv_ii, eqv_nn, cast1, cast2, cast3, List.map_cons, List.map_nil, List.append_nil, List.nil_append, List.cons_append, List.replicate_succ, List.replicate_zero, List.length_cons, List.length_nil, List.getElem?_cons_zero, List.getElem?_cons_succ, List.set_cons_zero, List.set_cons_succ, Option.map_some, Bool.not_true, Bool.not_false, Nat.reduceAdd, Nat.reduceSub, Nat.zero_add, Nat.add_zero, if_true, if_false, decide_true, decide_false, and_true, true_and, Nat.reduceLeDiff, Nat.sub_zero, Nat.sub_self, es]
  by_cases hx : ∃ i, i < k + 1 ∧ orb r (0, f) i = orb r (0, f) (k + 1)
  · obtain ⟨i, hi, e⟩ := hx
    have pe := plc_some hi e inj
    have e1 : (false != (dnAt (plc (orb r (0, f)) (k + 1)) (keyOf (orb r (0, f) (k + 1)))).isSome) = true := by rw [pe]; rfl
    refine ⟨keyOf (orb r (0, f) (k + 1)), (kD_key _).symm, ⟨_, rfl⟩, depth_key _, ?_⟩
    simp only [↓e_var, ↓e_C, ↓e_dD, ↓e_d2, ↓e_neg, ↓e_isN, ↓e_B, ↓e_And, ↓e_Or, ↓e_Not, ↓e_AndV, ↓e_OrV, ↓e_NotV, ↓e_IfE, ↓e_Chain, ↓e_Ix, ↓e_Sl, ↓e_No, ↓e_Part, ↓e_nil, ↓e_cons, ↓e_Tup, ↓e_Lst, ↓e_CB, ↓e_ofD, ↓e_jOf, ↓e_Len, ↓e_Ints, ↓e_fMax, ↓e_fMin, ↓e_Tuple, ↓e_List, ↓e_Bls, ↓e_Is, ↓e_seq, ↓e_skip, ↓e_ret, ↓e_drop, ↓e_ifS, ↓e_never, ↓e_asg, ↓e_par2, ↓e_par3, ↓e_App, ↓e_For, ↓e_While, ↓e_Iter, ↓e_Rng1, ↓e_Rng2, ↓e_Zip2, ↓e_Zip3, ↓e_Lc, ↓e_Yes, ↓e_Dn0, ↓e_DnIn, ↓e_DnGet, ↓e_Dn1, iteG_t, iteG_f, iteG_d, iteG_n, iteG_a, iteG_o, iteG_x, iteG_e, iteG_s, iteG_l, iteG_y, iteF_t, iteF_f, varF_d, varF_o, toD_d, toD_l, toD_a, toDF_d, toDF_l, d2F_d, fAdd_i, fAdd_s, fAdd_t, fAdd_l, fSub_i, fMul_i, fMulR_i, fMulR_t, fMulR_l, fDiv_i, fMod_i, fPow_i, negF_i, cLt_i, cLe_i, cGt_i, cGe_i, cEq_e, cNe_e, isNF_n, isNF_t, isNF_i, dBF_b, boF_b, notVF_b, ch2F_d, chF_d, seqOf_t, seqOf_l, seqOf_o, seqOf_s, seqOf_a, seqF_t, seqF_l, seqF_o, kindOf_t, kindOf_l, kindOf_o, kindOf_a, kindF_t, kindF_l, kindF_o, ixF2_s, ixF_s, slF_t, slF_f, partF_i, allD_n, allD_c, tupF_s, lstF_s, ofDF_s, gInt_i, gInt_b, gAbs_i, gMax2_i, gMin2_i, gN_e, jF_s, lenF_s, intsF2_s, intsF_s, fSum_e, gTF_s, gLF_s, blsF_s, blsF2_s, isF_s, isF2_s, tyn_i, tyn_b, tyn_t, tyn_l, tyn_s, tyn_n, k_ii, k_ib, k_tt, gN1_d, gN1_o, gN1_a, gaF_d, gaF_o, gTup_e, gs_n, gs_c, par2G_e, par2F_s, svOf_d, svOf_o, par3G_e, par3F_s, stF2_s, stF_s, stG_e, gStL_e, gOwn_e, owL_a, apG_e, apI_e, iterF_t, iterF_l, rng1F_e, rng2F_e, zip2F_s, zip2G_e, zip3F_s, zip3G_e, seqD_t, seqD_l, finP_d, finP_o, finP_a, finF_d, finF_o, finJF_d, finJF_o, finJ_d, finJ_o, startD_e, startJ_e, dnI_e, dnIH_e, dnGF_e, dnGetF_e, dnSF_e, dnSH_e, gStDn_e, dn1F_e, atI_0, atI_1, atI_2, ixN_2_0, ixN_2_1, appK_eq, cmp_i, eqv_ii, eqv_nn, cast1, cast2, cast3, List.map_cons, List.map_nil, List.append_nil, List.nil_append, List.cons_append, List.replicate_succ, List.replicate_zero, List.length_cons, List.length_nil, List.getElem?_cons_zero, List.getElem?_cons_succ, List.set_cons_zero, List.set_cons_succ, Option.map_some, Bool.not_true, Bool.not_false, Nat.reduceAdd, Nat.reduceSub, Nat.zero_add, Nat.add_zero, if_true, if_false, decide_true, decide_false, and_true, true_and, Nat.reduceLeDiff, Nat.sub_zero, Nat.sub_self, e1]
    refine ⟨keyOf (orb r (0, f) (k + 1)), (kD_key _).symm, ⟨_, rfl⟩, depth_key _, ?_⟩
    simp only [↓e_var, ↓e_C, ↓e_dD, ↓e_d2, ↓e_neg, ↓e_isN, ↓e_B, ↓e_And, ↓e_Or, ↓e_Not, ↓e_AndV, ↓e_OrV, ↓e_NotV, ↓e_IfE, ↓e_Chain, ↓e_Ix, ↓e_Sl, ↓e_No, ↓e_Part, ↓e_nil, ↓e_cons, ↓e_Tup, ↓e_Lst, ↓e_CB, ↓e_ofD, ↓e_jOf, ↓e_Len, ↓e_Ints, ↓e_fMax, ↓e_fMin, ↓e_Tuple, ↓e_List, ↓e_Bls, ↓e_Is, ↓e_seq, ↓e_skip, ↓e_ret, ↓e_drop, ↓e_ifS, ↓e_never, ↓e_asg, ↓e_par2, ↓e_par3, ↓e_App, ↓e_For, ↓e_While, ↓e_Iter, ↓e_Rng1, ↓e_Rng2, ↓e_Zip2, ↓e_Zip3, ↓e_Lc, ↓e_Yes, ↓e_Dn0, ↓e_DnIn, ↓e_DnGet, ↓e_Dn1, iteG_t, iteG_f, iteG_d, iteG_n, iteG_a, iteG_o, iteG_x, iteG_e, iteG_s, iteG_l, iteG_y, iteF_t, iteF_f, varF_d, varF_o, toD_d, toD_l, toD_a, toDF_d, toDF_l, d2F_d, fAdd_i, fAdd_s, fAdd_t, fAdd_l, fSub_i, fMul_i, fMulR_i, fMulR_t, fMulR_l, fDiv_i, fMod_i, fPow_i, negF_i, cLt_i, cLe_i, cGt_i, cGe_i, cEq_e, cNe_e, isNF_n, isNF_t, isNF_i, dBF_b, boF_b, notVF_b, ch2F_d, chF_d, seqOf_t, seqOf_l, seqOf_o, seqOf_s, seqOf_a, seqF_t, seqF_l, seqF_o, kindOf_t, kindOf_l, kindOf_o, kindOf_a, kindF_t, kindF_l, kindF_o, ixF2_s, ixF_s, slF_t, slF_f, partF_i, allD_n, allD_c, tupF_s, lstF_s, ofDF_s, gInt_i, gInt_b, gAbs_i, gMax2_i, gMin2_i, gN_e, jF_s, lenF_s, intsF2_s, intsF_s, fSum_e, gTF_s, gLF_s, blsF_s, blsF2_s, isF_s, isF2_s, tyn_i, tyn_b, tyn_t, tyn_l, tyn_s, tyn_n, k_ii, k_ib, k_tt, gN1_d, gN1_o, gN1_a, gaF_d, gaF_o, gTup_e, gs_n, gs_c, par2G_e, par2F_s, svOf_d, svOf_o, par3G_e, par3F_s, stF2_s, stF_s, stG_e, gStL_e, gOwn_e, owL_a, apG_e, apI_e, iterF_t, iterF_l, rng1F_e, rng2F_e, zip2F_s, zip2G_e, zip3F_s, zip3G_e, seqD_t, seqD_l, finP_d, finP_o, finP_a, finF_d, finF_o, finJF_d, finJF_o, finJ_d, finJ_o, startD_e, startJ_e, dnI_e, dnIH_e, dnGF_e, dnGetF_e, dnSF_e, dnSH_e, gStDn_e, dn1F_e, atI_0, atI_1, atI_2, ixN_2_0, ixN_2_1, appK_eq, cmp_i, eqv_ii, eqv_nn, cast1, cast2, cast3, List.map_cons, List.map_nil, List.append_nil, List.nil_append, List.cons_append, List.replicate_succ, List.replicate_zero, List.length_cons, List.length_nil, List.getElem?_cons_zero, List.getElem?_cons_succ, List.set_cons_zero, List.set_cons_succ, Option.map_some, Bool.not_true, Bool.not_false, Nat.reduceAdd, Nat.reduceSub, Nat.zero_add, Nat.add_zero, if_true, if_false, decide_true, decide_false, and_true, true_and, Nat.reduceLeDiff, Nat.sub_zero, Nat.sub_self, pe]
    refine ⟨keyOf (orb r (0, f) (k + 1)), (kD_key _).symm, ⟨_, rfl⟩, depth_key _, ?_⟩
    simp only [↓e_var, ↓e_C, ↓e_dD, ↓e_d2, ↓e_neg, ↓e_isN, ↓e_B, ↓e_And, ↓e_Or, ↓e_Not, ↓e_AndV, ↓e_OrV, ↓e_NotV, ↓e_IfE, ↓e_Chain, ↓e_Ix, ↓e_Sl, ↓e_No, ↓e_Part, ↓e_nil, ↓e_cons, ↓e_Tup, ↓e_Lst, ↓e_CB, ↓e_ofD, ↓e_jOf, ↓e_Len, ↓e_Ints, ↓e_fMax, ↓e_fMin, ↓e_Tuple, ↓e_List, ↓e_Bls, ↓e_Is, ↓e_seq, ↓e_skip, ↓e_ret, ↓e_drop, ↓e_ifS, ↓e_never, ↓e_asg, ↓e_par2, ↓e_par3, ↓e_App, ↓e_For, ↓e_While, ↓e_Iter, ↓e_Rng1, ↓e_Rng2, ↓e_Zip2, ↓e_Zip3, ↓e_Lc, ↓e_Yes, ↓e_Dn0, ↓e_DnIn, ↓e_DnGet, ↓e_Dn1, iteG_t, iteG_f, iteG_d, iteG_n, iteG_a, iteG_o, iteG_x, iteG_e, iteG_s, iteG_l, iteG_y, iteF_t, iteF_f, varF_d, varF_o, toD_d, toD_l, toD_a, toDF_d, toDF_l, d2F_d, fAdd_i, fAdd_s, fAdd_t, fAdd_l, fSub_i, fMul_i, fMulR_i, fMulR_t, fMulR_l, fDiv_i, fMod_i, fPow_i, negF_i, cLt_i, cLe_i, cGt_i, cGe_i, cEq_e, cNe_e, isNF_n, isNF_t, isNF_i, dBF_b, boF_b, notVF_b, ch2F_d, chF_d, seqOf_t, seqOf_l, seqOf_o, seqOf_s, seqOf_a, seqF_t, seqF_l, seqF_o, kindOf_t, kindOf_l, kindOf_o, kindOf_a, kindF_t, kindF_l, kindF_o, ixF2_s, ixF_s, slF_t, slF_f, partF_i, allD_n, allD_c, tupF_s, lstF_s, ofDF_s, gInt_i, gInt_b, gAbs_i, gMax2_i, gMin2_i, gN_e, jF_s, lenF_s, intsF2_s, intsF_s, fSum_e, gTF_s, gLF_s, blsF_s, blsF2_s, isF_s, isF2_s, tyn_i, tyn_b, tyn_t, tyn_l, tyn_s, tyn_n, k_ii, k_ib, k_tt, gN1_d, gN1_o, gN1_a, gaF_d, gaF_o, gTup_e, gs_n, gs_c, par2G_e, par2F_s, svOf_d, svOf_o, par3G_e, par3F_s, stF2_s, stF_s, stG_e, gStL_e, gOwn_e, owL_a, apG_e, apI_e, iterF_t, iterF_l, rng1F_e, rng2F_e, zip2F_s, zip2G_e, zip3F_s, zip3G_e, seqD_t, seqD_l, finP_d, finP_o, finP_a, finF_d, finF_o, finJF_d, finJF_o, finJ_d, finJ_o, startD_e, startJ_e, dnI_e, dnIH_e, dnGF_e, dnGetF_e, dnSF_e, dnSH_e, gStDn_e, dn1F_e, atI_0, atI_1, atI_2, ixN_2_0, ixN_2_1, appK_eq, cmp_i, eqv_ii, eqv_nn, cast1, cast2, cast3, List.map_cons, List.map_nil, List.append_nil, List.nil_append, List.cons_append, List.replicate_succ, List.replicate_zero, List.length_cons, List.length_nil, List.getElem?_cons_zero, List.getElem?_cons_succ, List.set_cons_zero, List.set_cons_succ, Option.map_some, Bool.not_true, Bool.not_false, Nat.reduceAdd, Nat.reduceSub, Nat.zero_add, Nat.add_zero, if_true, if_false, decide_true, decide_false, and_true, true_and, Nat.reduceLeDiff, Nat.sub_zero, Nat.sub_self, pe]
    have ec : cutD ((List.range (k + 1)).map fun i => stD (orb r (0, f) i)) (some (i : Int)) none = (List.range (k + 1 - i)).map fun j => stD (orb r (0, f) (i + j)) := by
      rw [cut_from, range_drop, List.map_map]
      rfl
    rw [ec]
    exact h (k + 1) i hn hi e.symm
  · have hne : ∀ i, i < k + 1 → orb r (0, f) i ≠ orb r (0, f) (k + 1) := fun i hi e => hx ⟨i, hi, e⟩
    have pn := plc_none hne
    have e1 : (false != (dnAt (plc (orb r (0, f)) (k + 1)) (keyOf (orb r (0, f) (k + 1)))).isSome) = false := by rw [pn]; rfl
    have inj' := inj_more inj hne
    have hn' := fin _ inj'
    have lp : (plc (orb r (0, f)) (k + 1)).length = k + 1 := by simp [plc]
    refine ⟨keyOf (orb r (0, f) (k + 1)), (kD_key _).symm, ⟨_, rfl⟩, depth_key _, ?_⟩
    simp only [↓e_var, ↓e_C, ↓e_dD, ↓e_d2, ↓e_neg, ↓e_isN, ↓e_B, ↓e_And, ↓e_Or, ↓e_Not, ↓e_AndV, ↓e_OrV, ↓e_NotV, ↓e_IfE, ↓e_Chain, ↓e_Ix, ↓e_Sl, ↓e_No, ↓e_Part, ↓e_nil, ↓e_cons, ↓e_Tup, ↓e_Lst, ↓e_CB, ↓e_ofD, ↓e_jOf, ↓e_Len, ↓e_Ints, ↓e_fMax, ↓e_fMin, ↓e_Tuple, ↓e_List, ↓e_Bls, ↓e_Is, ↓e_seq, ↓e_skip, ↓e_ret, ↓e_drop, ↓e_ifS, ↓e_never, ↓e_asg, ↓e_par2, ↓e_par3, ↓e_App, ↓e_For, ↓e_While, ↓e_Iter, ↓e_Rng1, ↓e_Rng2, ↓e_Zip2, ↓e_Zip3, ↓e_Lc, ↓e_Yes, ↓e_Dn0, ↓e_DnIn, ↓e_DnGet, ↓e_Dn1, iteG_t, iteG_f, iteG_d, iteG_n, iteG_a, iteG_o, iteG_x, iteG_e, iteG_s, iteG_l, iteG_y, iteF_t, iteF_f, varF_d, varF_o, toD_d, toD_l, toD_a, toDF_d, toDF_l, d2F_d, fAdd_i, fAdd_s, fAdd_t, fAdd_l, fSub_i, fMul_i, fMulR_i, fMulR_t, fMulR_l, fDiv_i, fMod_i, fPow_i, negF_i, cLt_i, cLe_i, cGt_i, cGe_i, cEq_e, cNe_e, isNF_n, isNF_t, isNF_i, dBF_b, boF_b, notVF_b, ch2F_d, chF_d, seqOf_t, seqOf_l, seqOf_o, seqOf_s, seqOf_a, seqF_t, seqF_l, seqF_o, kindOf_t, kindOf_l, kindOf_o, kindOf_a, kindF_t, kindF_l, kindF_o, ixF2_s, ixF_s, slF_t, slF_f, partF_i, allD_n, allD_c, tupF_s, lstF_s, ofDF_s, gInt_i, gInt_b, gAbs_i, gMax2_i, gMin2_i, gN_e, jF_s, lenF_s, intsF2_s, intsF_s, fSum_e, gTF_s, gLF_s, blsF_s, blsF2_s, isF_s, isF2_s, tyn_i, tyn_b, tyn_t, tyn_l, tyn_s, tyn_n, k_ii, k_ib, k_tt, gN1_d, gN1_o, gN1_a, gaF_d, gaF_o, gTup_e, gs_n, gs_c, par2G_e, par2F_s, svOf_d, svOf_o, par3G_e, par3F_s, stF2_s, stF_s, stG_e, gStL_e, gOwn_e, owL_a, apG_e, apI_e, iterF_t, iterF_l, rng1F_e, rng2F_e, zip2F_s, zip2G_e, zip3F_s, zip3G_e, seqD_t, seqD_l, finP_d, finP_o, finP_a, finF_d, finF_o, finJF_d, finJF_o, finJ_d, finJ_o, startD_e, startJ_e, dnI_e, dnIH_e, dnGF_e, dnGetF_e, dnSF_e, dnSH_e, gStDn_e, dn1F_e, atI_0, atI_1, atI_2, ixN_2_0, ixN_2_1, appK_eq, cmp_i, eqv_ii, eqv_nn, cast1, cast2, cast3, List.map_cons, List.map_nil, List.append_nil, List.nil_append, List.cons_append, List.replicate_succ, List.replicate_zero, List.length_cons, List.length_nil, List.getElem?_cons_zero, List.getElem?_cons_succ, List.set_cons_zero, List.set_cons_succ, Option.map_some, Bool.not_true, Bool.not_false, Nat.reduceAdd, Nat.reduceSub, Nat.zero_add, Nat.add_zero, if_true, if_false, decide_true, decide_false, and_true, true_and, Nat.reduceLeDiff, Nat.sub_zero, Nat.sub_self, e1]
    refine ⟨keyOf (orb r (0, f) (k + 1)), (kD_key _).symm, ⟨_, rfl⟩, depth_key _, by rw [lp, sizeLine_eq]; omega, ?_⟩
    have ell : ((((List.range (k + 1)).map fun i => stD (orb r (0, f) i)).length : Nat) : Int) = ((k + 1 : Nat) : Int) := by simp
    simp only [↓e_var, ↓e_C, ↓e_dD, ↓e_d2, ↓e_neg, ↓e_isN, ↓e_B, ↓e_And, ↓e_Or, ↓e_Not, ↓e_AndV, ↓e_OrV, ↓e_NotV, ↓e_IfE, ↓e_Chain, ↓e_Ix, ↓e_Sl, ↓e_No, ↓e_Part, ↓e_nil, ↓e_cons, ↓e_Tup, ↓e_Lst, ↓e_CB, ↓e_ofD, ↓e_jOf, ↓e_Len, ↓e_Ints, ↓e_fMax, ↓e_fMin, ↓e_Tuple, ↓e_List, ↓e_Bls, ↓e_Is, ↓e_seq, ↓e_skip, ↓e_ret, ↓e_drop, ↓e_ifS, ↓e_never, ↓e_asg, ↓e_par2, ↓e_par3, ↓e_App, ↓e_For, ↓e_While, ↓e_Iter, ↓e_Rng1, ↓e_Rng2, ↓e_Zip2, ↓e_Zip3, ↓e_Lc, ↓e_Yes, ↓e_Dn0, ↓e_DnIn, ↓e_DnGet, ↓e_Dn1, iteG_t, iteG_f, iteG_d, iteG_n, iteG_a, iteG_o, iteG_x, iteG_e, iteG_s, iteG_l, iteG_y, iteF_t, iteF_f, varF_d, varF_o, toD_d, toD_l, toD_a, toDF_d, toDF_l, d2F_d, fAdd_i, fAdd_s, fAdd_t, fAdd_l, fSub_i, fMul_i, fMulR_i, fMulR_t, fMulR_l, fDiv_i, fMod_i, fPow_i, negF_i, cLt_i, cLe_i, cGt_i, cGe_i, cEq_e, cNe_e, isNF_n, isNF_t, isNF_i, dBF_b, boF_b, notVF_b, ch2F_d, chF_d, seqOf_t, seqOf_l, seqOf_o, seqOf_s, seqOf_a, seqF_t, seqF_l, seqF_o, kindOf_t, kindOf_l, kindOf_o, kindOf_a, kindF_t, kindF_l, kindF_o, ixF2_s, ixF_s, slF_t, slF_f, partF_i, allD_n, allD_c, tupF_s, lstF_s, ofDF_s, gInt_i, gInt_b, gAbs_i, gMax2_i, gMin2_i, gN_e, jF_s, lenF_s, intsF2_s, intsF_s, fSum_e, gTF_s, gLF_s, blsF_s, blsF2_s, isF_s, isF2_s, tyn_i, tyn_b, tyn_t, tyn_l, tyn_s, tyn_n, k_ii, k_ib, k_tt, gN1_d, gN1_o, gN1_a, gaF_d, gaF_o, gTup_e, gs_n, gs_c, par2G_e, par2F_s, svOf_d, svOf_o, par3G_e, par3F_s, stF2_s, stF_s, stG_e, gStL_e, gOwn_e, owL_a, apG_e, apI_e, iterF_t, iterF_l, rng1F_e, rng2F_e, zip2F_s, zip2G_e, zip3F_s, zip3G_e, seqD_t, seqD_l, finP_d, finP_o, finP_a, finF_d, finF_o, finJF_d, finJF_o, finJ_d, finJ_o, startD_e, startJ_e, dnI_e, dnIH_e, dnGF_e, dnGetF_e, dnSF_e, dnSH_e, gStDn_e, dn1F_e, atI_0, atI_1, atI_2, ixN_2_0, ixN_2_1, appK_eq, cmp_i, eqv_ii, eqv_nn, cast1, cast2, cast3, List.map_cons, List.map_nil, List.append_nil, List.nil_append, List.cons_append, List.replicate_succ, List.replicate_zero, List.length_cons, List.length_nil, List.getElem?_cons_zero, List.getElem?_cons_succ, List.set_cons_zero, List.set_cons_succ, Option.map_some, Bool.not_true, Bool.not_false, Nat.reduceAdd, Nat.reduceSub, Nat.zero_add, Nat.add_zero, if_true, if_false, decide_true, decide_false, and_true, true_and, Nat.reduceLeDiff, Nat.sub_zero, Nat.sub_self, ell, plc_put hne]
    refine ⟨by rw [List.length_map, List.length_range, sizeLine_eq]; omega, 1296001 - (k + 1 + 1), by omega, k + 1 + 1, .d (.int ((orb r (0, f) k).1 : Nat)), .d (intsD (orb r (0, f) k).2), .d (stD (orb r (0, f) (k + 1))), rfl, by omega, inj', ?_⟩
    rw [List.range_succ (n := k + 1), List.map_append]
    rfl
def Dx__law_loop (P : Program) (w : World) (K : PySem.W.Frag) (mg : Str → Option Value) (base : Heap) : Prop := ∃ f fd, Def P w K mg base 2 "_law_loop" f fd ["line", "load"] (spP (bas P w K) 2 sp__law_loop)
theorem ok__law_loop {P : Program} {w : World} {K : PySem.W.Frag} {mg : Str → Option Value} {base : Heap} (M : Mg mg) (D__law_beat : Dx__law_beat P w K mg base) {f : Addr} {fd : FuncData} (F : FunD K "_law_loop" "_law_loop" (defArgs s__law_loop) (defBody s__law_loop) (defScope s__law_loop) [] [] f fd) : FnOk P w K mg base CX0 2 f fd ["line", "load"] (spP (bas P w K) 2 sp__law_loop) := by
  obtain ⟨a__law_beat, fd__law_beat, D__law_beat⟩ := D__law_beat
  exact okP (tb := t__law_loop) F sc__law_loop (fun cdv A outer s H E hr =>
    (dss_cons (ds_par2 rfl sc__law_loop.nd (i := 2) (j := 3) rfl rfl (by decide) rfl rfl (da_cons (de_lst (da_cons (de_data (de_tup (da_cons de_int (da_cons (de_data (de_var (pv 1))) da_nil)))) da_nil)) (da_cons (de_dn1 hr.units (de_tup (da_cons de_int (da_cons (de_data (de_var (pv 1))) da_nil))) de_int) da_nil)) (by first | exact .inl rfl | exact .inr (by decide)) (hw := by first | rfl | kernel_rfl))
      (dss_one (ds_while PassesOwn.never (dt_val de_bl) (dss_cons (ds_asg (de_ix (de_var (pv 2)) (de_neg de_int)) (dg_tup rfl (dgs_cons (dg_name sc__law_loop.nd (i := 4) rfl (by first | exact .inl rfl | exact .inr rfl) (by first | exact .inl rfl | exact .inr (by decide))) (dgs_cons (dg_name sc__law_loop.nd (i := 5) rfl (by first | exact .inl rfl | exact .inr rfl) (by first | exact .inl rfl | exact .inr (by decide))) (dgs_nil (ws := []))))))
      (dss_cons (ds_asg (de_tup (da_cons (de_data (de_mod (de_add (de_var (pv 4)) de_int) (de_ix (de_var (pv 0)) de_int))) (da_cons (de_data (de_ix (de_call D__law_beat.own (hr.mono (by decide)) (by rfl) (da_cons (de_data (de_var (pv 0))) (da_cons (de_data (de_var (pv 4))) (da_cons (de_data (de_var (pv 5))) da_nil)))) de_int)) da_nil))) (dg_name sc__law_loop.nd (i := 6) rfl (by first | exact .inl rfl | exact .inr rfl) (by first | exact .inl rfl | exact .inr (by decide))))
      (dss_cons (ds_if (dt_dnin hr.units (de_var (pv 6)) (de_var (pv 3))) (dss_one (ds_ret (de_tup (da_cons (de_data (de_dnget hr.units (de_var (pv 3)) (de_var (pv 6)))) (da_cons (de_data (de_slice (de_var (pv 2)) (do_some (de_dnget hr.units (de_var (pv 3)) (de_var (pv 6)))) do_none)) da_nil))))) dss_nil)
      (dss_cons (ds_asg (de_callB (call_len_seq) (snd_len) (by rfl) M.f_len rfl (da_cons (de_var (pv 2)) da_nil)) (dg_stDn hr.units (de_var (pv 3)) (de_var (pv 6))))
      (dss_one (ds_expr (de_append (de_var (pv 2)) (da_cons (de_data (de_var (pv 6))) da_nil)))))))))))) rd__law_loop
end DL

set_option Elab.async false
set_option linter.all false
set_option maxRecDepth 100000
set_option maxHeartbeats 0
namespace DL
open PySem PySem.Spec L2
open PyProof.Rows hiding St
theorem sum_bound (B : Int) : ∀ l : List Int, (∀ x ∈ l, 0 ≤ x ∧ x ≤ B) → 0 ≤ l.sum ∧ l.sum ≤ l.length * B
  | [], _ => by simp
  | x :: l, h => by
    have h1 := sum_bound B l fun y hy => h y (List.mem_cons_of_mem _ hy)
    have h2 := h x List.mem_cons_self
    rw [List.sum_cons, List.length_cons]
    have e3 : ((l.length + 1 : Nat) : Int) * B = (l.length : Int) * B + B := by
      rw [Int.natCast_add, Int.add_mul]
      simp
    omega
theorem water_bound {r : Row} (ok : r.Ok) : 0 ≤ (r.taps.map List.sum).sum ∧ (r.taps.map List.sum).sum ≤ 3 * 120 := by
  have h := sum_bound 120 (r.taps.map List.sum) fun x hx => by
    obtain ⟨t, ht, rfl⟩ := List.mem_map.mp hx
    have h1 := ok.taps t ht
    have h2 := sum_bound 20 t h1.2
    have h3 := h1.1
    have h4 := ok.p6
    omega
  rw [List.length_map, ok.same] at h
  have := ok.n3
  omega
/-- the water that comes in n ticks -/
def givenF (r : Row) (n : Nat) : Int := ((n / r.p.toNat : Nat) : Int) * (r.taps.map List.sum).sum + (r.taps.map fun t => (t.take (n % r.p.toNat)).sum).sum
def N__law_given : List Str := ["line", "many", "total", "gift"]
theorem sc__law_given : FnScope N__law_given ["line", "many"] (defScope s__law_given) := ⟨rfl, rfl, rfl, by decide +kernel, rfl, by decide +kernel, by decide +kernel⟩
def t__law_given : DTS :=
    (dSeq (dAsg (d2 fMul (dD (d2 fDiv (dD (dVar 1)) (dD (dIx (dVar 0) (dC (.int 0)))))) (dD (dCB (gInts fSum) (dCons (dLc (dIter (dD (dIx (dVar 0) (dC (.int 2))))) (gN1 3) dYes (dD (dCB (gInts fSum) (dCons (dVar 3) dNil))) [3]) dNil)))) (gN1 2))
      (dRet (d2 fAdd (dD (dVar 2)) (dD (dCB (gInts fSum) (dCons (dLc (dIter (dD (dIx (dVar 0) (dC (.int 2))))) (gN1 3) dYes (dD (dCB (gInts fSum) (dCons (dSl (dVar 3) dNo (dPart (d2 fMod (dD (dVar 1)) (dD (dIx (dVar 0) (dC (.int 0))))))) dNil))) [3]) dNil))))))
def sp__law_given : DFd := fun ds R => ∃ (r : Row) (n : Nat), ds = [rowD r, .int (n : Nat)] ∧ r.Ok ∧ R (.d (.int (givenF r n)))
theorem rd__law_given : ∀ ds R, ds.length = 2 → sp__law_given ds R → t__law_given { nx := fun _ => R (.d .non), rt := finP R } (startD N__law_given ds) := by
  rintro ds R - ⟨r, n, rfl, ok, h⟩
  have p1 := ok.p1
  have p6 := ok.p6
  have wb := water_bound ok
  have ei : ∀ g : List Int → Int, intsOf (r.taps.map fun t => D.int (g t)) = some (r.taps.map g) := fun g => by
    rw [← intsOf_map (r.taps.map g), List.map_map]
    rfl
  have dq : (n : Int) / r.p = ((n / r.p.toNat : Nat) : Int) := by rw [Int.natCast_ediv, Int.toNat_of_nonneg (by omega)]
  have dm : (n : Int) % r.p = ((n % r.p.toNat : Nat) : Int) := by rw [Int.natCast_emod, Int.toNat_of_nonneg (by omega)]
  simp only [↓e_var, ↓e_C, ↓e_dD, ↓e_d2, ↓e_neg, ↓e_isN, ↓e_B, ↓e_And, ↓e_Or, ↓e_Not, ↓e_AndV, ↓e_OrV, ↓e_NotV, ↓e_IfE, ↓e_Chain, ↓e_Ix, ↓e_Sl, ↓e_No, ↓e_Part, ↓e_nil, ↓e_cons, ↓e_Tup, ↓e_Lst, ↓e_CB, ↓e_ofD, ↓e_jOf, ↓e_Len, ↓e_Ints, ↓e_fMax, ↓e_fMin, ↓e_Tuple, ↓e_List, ↓e_Bls, ↓e_Is, ↓e_seq, ↓e_skip, ↓e_ret, ↓e_drop, ↓e_ifS, ↓e_never, ↓e_asg, ↓e_par2, ↓e_par3, ↓e_App, ↓e_For, ↓e_While, ↓e_Iter, ↓e_Rng1, ↓e_Rng2, ↓e_Zip2, ↓e_Zip3, ↓e_Lc, ↓e_Yes, ↓e_Dn0, ↓e_DnIn, ↓e_DnGet, ↓e_Dn1, iteG_t, iteG_f, iteG_d, iteG_n, iteG_a, iteG_o, iteG_x, iteG_e, iteG_s, iteG_l, iteG_y, iteF_t, iteF_f, varF_d, varF_o, toD_d, toD_l, toD_a, toDF_d, toDF_l, d2F_d, fAdd_i, fAdd_s, fAdd_t, fAdd_l, fSub_i, fMul_i, fMulR_i, fMulR_t, fMulR_l, fDiv_i, fMod_i, fPow_i, negF_i, cLt_i, cLe_i, cGt_i, cGe_i, cEq_e, cNe_e, isNF_n, isNF_t, isNF_i, dBF_b, boF_b, notVF_b, ch2F_d, chF_d, seqOf_t, seqOf_l, seqOf_o, seqOf_s, seqOf_a, seqF_t, seqF_l, seqF_o, kindOf_t, kindOf_l, kindOf_o, kindOf_a, kindF_t, kindF_l, kindF_o, ixF2_s, ixF_s, slF_t, slF_f, partF_i, allD_n, allD_c, tupF_s, lstF_s, ofDF_s, gInt_i, gInt_b, gAbs_i, gMax2_i, gMin2_i, gN_e, jF_s, lenF_s, intsF2_s, intsF_s, fSum_e, gTF_s, gLF_s, blsF_s, blsF2_s, isF_s, isF2_s, tyn_i, tyn_b, tyn_t, tyn_l, tyn_s, tyn_n, k_ii, k_ib, k_tt, gN1_d, gN1_o, gN1_a, gaF_d, gaF_o, gTup_e, gs_n, gs_c, par2G_e, par2F_s, svOf_d, svOf_o, par3G_e, par3F_s, stF2_s, stF_s, stG_e, gStL_e, gOwn_e, owL_a, apG_e, apI_e, iterF_t, iterF_l, rng1F_e, rng2F_e, zip2F_s, zip2G_e, zip3F_s, zip3G_e, seqD_t, seqD_l, finP_d, finP_o, finP_a, finF_d, finF_o, finJF_d, finJF_o, finJ_d, finJ_o, startD_e, startJ_e, dnI_e, dnIH_e, dnGF_e, dnGetF_e, dnSF_e, dnSH_e, gStDn_e, dn1F_e, atI_0, atI_1, atI_2, ixN_2_0, ixN_2_1, appK_eq, cmp_i, eqv_ii, eqv_nn, cast1, cast2, cast3, List.map_cons, List.map_nil, List.append_nil, List.nil_append, List.cons_append, List.replicate_succ, List.replicate_zero, List.length_cons, List.length_nil, List.getElem?_cons_zero, List.getElem?_cons_succ, List.set_cons_zero, List.set_cons_succ, Option.map_some, Bool.not_true, Bool.not_false, Nat.reduceAdd, Nat.reduceSub, Nat.zero_add, Nat.add_zero, if_true, if_false, decide_true, decide_false, and_true, true_and, Nat.reduceLeDiff, Nat.sub_zero, Nat.sub_self, t__law_given, N__law_given, rowD]
  refine ⟨CDivW.small (by omega) (by omega), fun i hi => ?_, ?_⟩
  · simp only [List.mem_singleton] at hi
    subst hi
    rfl
  refine lcL_maps intsD (fun t => .int t.sum) r.taps [] (fun c hc K hK => ?_) ?_
  · simp only [↓e_var, ↓e_C, ↓e_dD, ↓e_d2, ↓e_neg, ↓e_isN, ↓e_B, ↓e_And, ↓e_Or, ↓e_Not, ↓e_AndV, ↓e_OrV, ↓e_NotV, ↓e_IfE, ↓e_Chain, ↓e_Ix, ↓e_Sl, ↓e_No, ↓e_Part, ↓e_nil, ↓e_cons, ↓e_Tup, ↓e_Lst, ↓e_CB, ↓e_ofD, ↓e_jOf, ↓e_Len, ↓e_Ints, ↓e_fMax, ↓e_fMin, ↓e_Tuple, ↓e_List, ↓e_Bls, ↓e_Is, ↓e_seq, ↓e_skip, ↓e_ret, ↓e_drop, ↓e_ifS, ↓e_never, ↓e_asg, ↓e_par2, ↓e_par3, ↓e_App, ↓e_For, ↓e_While, ↓e_Iter, ↓e_Rng1, ↓e_Rng2, ↓e_Zip2, ↓e_Zip3, ↓e_Lc, ↓e_Yes, ↓e_Dn0, ↓e_DnIn, ↓e_DnGet, ↓e_Dn1, iteG_t, iteG_f, iteG_d, iteG_n, iteG_a, iteG_o, iteG_x, iteG_e, iteG_s, iteG_l, iteG_y, iteF_t, iteF_f, varF_d, varF_o, toD_d, toD_l, toD_a, toDF_d, toDF_l, d2F_d, fAdd_i, fAdd_s, fAdd_t, fAdd_l, fSub_i, fMul_i, fMulR_i, fMulR_t, fMulR_l, fDiv_i, fMod_i, fPow_i, negF_i, cLt_i, cLe_i, cGt_i, cGe_i, cEq_e, cNe_e, isNF_n, isNF_t, isNF_i, dBF_b, boF_b, notVF_b, ch2F_d, chF_d, seqOf_t, seqOf_l, seqOf_o, seqOf_s, seqOf_a, seqF_t, seqF_l, seqF_o, kindOf_t, kindOf_l, kindOf_o, kindOf_a, kindF_t, kindF_l, kindF_o, ixF2_s, ixF_s, slF_t, slF_f, partF_i, allD_n, allD_c, tupF_s, lstF_s, ofDF_s, gInt_i, gInt_b, gAbs_i, gMax2_i, gMin2_i, gN_e, jF_s, lenF_s, intsF2_s, intsF_s, fSum_e, gTF_s, gLF_s, blsF_s, blsF2_s, isF_s, isF2_s, tyn_i, tyn_b, tyn_t, tyn_l, tyn_s, tyn_n, k_ii, k_ib, k_tt, gN1_d, gN1_o, gN1_a, gaF_d, gaF_o, gTup_e, gs_n, gs_c, par2G_e, par2F_s, svOf_d, svOf_o, par3G_e, par3F_s, stF2_s, stF_s, stG_e, gStL_e, gOwn_e, owL_a, apG_e, apI_e, iterF_t, iterF_l, rng1F_e, rng2F_e, zip2F_s, zip2G_e, zip3F_s, zip3G_e, seqD_t, seqD_l, finP_d, finP_o, finP_a, finF_d, finF_o, finJF_d, finJF_o, finJ_d, finJ_o, startD_e, startJ_e, dnI_e, dnIH_e, dnGF_e, dnGetF_e, dnSF_e, dnSH_e, gStDn_e, dn1F_e, atI_0, atI_1, atI_2, ixN_2_0, ixN_2_1, appK_eq, cmp_i, eqv_ii, eqv_nn, cast1, cast2, cast3, List.map_cons, List.map_nil, List.append_nil, List.nil_append, List.cons_append, List.replicate_succ, List.replicate_zero, List.length_cons, List.length_nil, List.getElem?_cons_zero, List.getElem?_cons_succ, List.set_cons_zero, List.set_cons_succ, Option.map_some, Bool.not_true, Bool.not_false, Nat.reduceAdd, Nat.reduceSub, Nat.zero_add, Nat.add_zero, if_true, if_false, decide_true, decide_false, and_true, true_and, Nat.reduceLeDiff, Nat.sub_zero, Nat.sub_self, intsD, intsOf_map]
    exact hK _ rfl
  simp only [↓e_var, ↓e_C, ↓e_dD, ↓e_d2, ↓e_neg, ↓e_isN, ↓e_B, ↓e_And, ↓e_Or, ↓e_Not, ↓e_AndV, ↓e_OrV, ↓e_NotV, ↓e_IfE, ↓e_Chain, ↓e_Ix, ↓e_Sl, ↓e_No, ↓e_Part, ↓e_nil, ↓e_cons, ↓e_Tup, ↓e_Lst, ↓e_CB, ↓e_ofD, ↓e_jOf, ↓e_Len, ↓e_Ints, ↓e_fMax, ↓e_fMin, ↓e_Tuple, ↓e_List, ↓e_Bls, ↓e_Is, ↓e_seq, ↓e_skip, ↓e_ret, ↓e_drop, ↓e_ifS, ↓e_never, ↓e_asg, ↓e_par2, ↓e_par3, ↓e_App, ↓e_For, ↓e_While, ↓e_Iter, ↓e_Rng1, ↓e_Rng2, ↓e_Zip2, ↓e_Zip3, ↓e_Lc, ↓e_Yes, ↓e_Dn0, ↓e_DnIn, ↓e_DnGet, ↓e_Dn1, iteG_t, iteG_f, iteG_d, iteG_n, iteG_a, iteG_o, iteG_x, iteG_e, iteG_s, iteG_l, iteG_y, iteF_t, iteF_f, varF_d, varF_o, toD_d, toD_l, toD_a, toDF_d, toDF_l, d2F_d, fAdd_i, fAdd_s, fAdd_t, fAdd_l, fSub_i, fMul_i, fMulR_i, fMulR_t, fMulR_l, fDiv_i, fMod_i, fPow_i, negF_i, cLt_i, cLe_i, cGt_i, cGe_i, cEq_e, cNe_e, isNF_n, isNF_t, isNF_i, dBF_b, boF_b, notVF_b, ch2F_d, chF_d, seqOf_t, seqOf_l, seqOf_o, seqOf_s, seqOf_a, seqF_t, seqF_l, seqF_o, kindOf_t, kindOf_l, kindOf_o, kindOf_a, kindF_t, kindF_l, kindF_o, ixF2_s, ixF_s, slF_t, slF_f, partF_i, allD_n, allD_c, tupF_s, lstF_s, ofDF_s, gInt_i, gInt_b, gAbs_i, gMax2_i, gMin2_i, gN_e, jF_s, lenF_s, intsF2_s, intsF_s, fSum_e, gTF_s, gLF_s, blsF_s, blsF2_s, isF_s, isF2_s, tyn_i, tyn_b, tyn_t, tyn_l, tyn_s, tyn_n, k_ii, k_ib, k_tt, gN1_d, gN1_o, gN1_a, gaF_d, gaF_o, gTup_e, gs_n, gs_c, par2G_e, par2F_s, svOf_d, svOf_o, par3G_e, par3F_s, stF2_s, stF_s, stG_e, gStL_e, gOwn_e, owL_a, apG_e, apI_e, iterF_t, iterF_l, rng1F_e, rng2F_e, zip2F_s, zip2G_e, zip3F_s, zip3G_e, seqD_t, seqD_l, finP_d, finP_o, finP_a, finF_d, finF_o, finJF_d, finJF_o, finJ_d, finJ_o, startD_e, startJ_e, dnI_e, dnIH_e, dnGF_e, dnGetF_e, dnSF_e, dnSH_e, gStDn_e, dn1F_e, atI_0, atI_1, atI_2, ixN_2_0, ixN_2_1, appK_eq, cmp_i, eqv_ii, eqv_nn, cast1, cast2, cast3, List.map_cons, List.map_nil, List.append_nil, List.nil_append, List.cons_append, List.replicate_succ, List.replicate_zero, List.length_cons, List.length_nil, List.getElem?_cons_zero, List.getElem?_cons_succ, List.set_cons_zero, List.set_cons_succ, Option.map_some, Bool.not_true, Bool.not_false, Nat.reduceAdd, Nat.reduceSub, Nat.zero_add, Nat.add_zero, if_true, if_false, decide_true, decide_false, and_true, true_and, Nat.reduceLeDiff, Nat.sub_zero, Nat.sub_self, ei]
  refine ⟨MulOk.small' (by omega) (by omega), fun i hi => ?_, ?_⟩
  · simp only [List.mem_singleton] at hi
    subst hi
    rfl
  refine lcL_maps intsD (fun t => .int (t.take (n % r.p.toNat)).sum) r.taps [] (fun c hc K hK => ?_) ?_
  · simp only [↓e_var, ↓e_C, ↓e_dD, ↓e_d2, ↓e_neg, ↓e_isN, ↓e_B, ↓e_And, ↓e_Or, ↓e_Not, ↓e_AndV, ↓e_OrV, ↓e_NotV, ↓e_IfE, ↓e_Chain, ↓e_Ix, ↓e_Sl, ↓e_No, ↓e_Part, ↓e_nil, ↓e_cons, ↓e_Tup, ↓e_Lst, ↓e_CB, ↓e_ofD, ↓e_jOf, ↓e_Len, ↓e_Ints, ↓e_fMax, ↓e_fMin, ↓e_Tuple, ↓e_List, ↓e_Bls, ↓e_Is, ↓e_seq, ↓e_skip, ↓e_ret, ↓e_drop, ↓e_ifS, ↓e_never, ↓e_asg, ↓e_par2, ↓e_par3, ↓e_App, ↓e_For, ↓e_While, ↓e_Iter, ↓e_Rng1, ↓e_Rng2, ↓e_Zip2, ↓e_Zip3, ↓e_Lc, ↓e_Yes, ↓e_Dn0, ↓e_DnIn, ↓e_DnGet, ↓e_Dn1, iteG_t, iteG_f, iteG_d, iteG_n, iteG_a, iteG_o, iteG_x, iteG_e, iteG_s, iteG_l, iteG_y, iteF_t, iteF_f, varF_d, varF_o, toD_d, toD_l, toD_a, toDF_d, toDF_l, d2F_d, fAdd_i, fAdd_s, fAdd_t, fAdd_l, fSub_i, fMul_i, fMulR_i, fMulR_t, fMulR_l, fDiv_i, fMod_i, fPow_i, negF_i, cLt_i, cLe_i, cGt_i, cGe_i, cEq_e, cNe_e, isNF_n, isNF_t, isNF_i, dBF_b, boF_b, notVF_b, ch2F_d, chF_d, seqOf_t, seqOf_l, seqOf_o, seqOf_s, seqOf_a, seqF_t, seqF_l, seqF_o, kindOf_t, kindOf_l, kindOf_o, kindOf_a, kindF_t, kindF_l, kindF_o, ixF2_s, ixF_s, slF_t, slF_f, partF_i, allD_n, allD_c, tupF_s, lstF_s, ofDF_s, gInt_i, gInt_b, gAbs_i, gMax2_i, gMin2_i, gN_e, jF_s, lenF_s, intsF2_s, intsF_s, fSum_e, gTF_s, gLF_s, blsF_s, blsF2_s, isF_s, isF2_s, tyn_i, tyn_b, tyn_t, tyn_l, tyn_s, tyn_n, k_ii, k_ib, k_tt, gN1_d, gN1_o, gN1_a, gaF_d, gaF_o, gTup_e, gs_n, gs_c, par2G_e, par2F_s, svOf_d, svOf_o, par3G_e, par3F_s, stF2_s, stF_s, stG_e, gStL_e, gOwn_e, owL_a, apG_e, apI_e, iterF_t, iterF_l, rng1F_e, rng2F_e, zip2F_s, zip2G_e, zip3F_s, zip3G_e, seqD_t, seqD_l, finP_d, finP_o, finP_a, finF_d, finF_o, finJF_d, finJF_o, finJ_d, finJ_o, startD_e, startJ_e, dnI_e, dnIH_e, dnGF_e, dnGetF_e, dnSF_e, dnSH_e, gStDn_e, dn1F_e, atI_0, atI_1, atI_2, ixN_2_0, ixN_2_1, appK_eq, cmp_i, eqv_ii, eqv_nn, cast1, cast2, cast3, List.map_cons, List.map_nil, List.append_nil, List.nil_append, List.cons_append, List.replicate_succ, List.replicate_zero, List.length_cons, List.length_nil, List.getElem?_cons_zero, List.getElem?_cons_succ, List.set_cons_zero, List.set_cons_succ, Option.map_some, Bool.not_true, Bool.not_false, Nat.reduceAdd, Nat.reduceSub, Nat.zero_add, Nat.add_zero, if_true, if_false, decide_true, decide_false, and_true, true_and, Nat.reduceLeDiff, Nat.sub_zero, Nat.sub_self, intsD, dm, cut_to, intsOf_map]
    exact ⟨by omega, hK _ rfl⟩
  simp only [↓e_var, ↓e_C, ↓e_dD, ↓e_d2, ↓e_neg, ↓e_isN, ↓e_B, ↓e_And, ↓e_Or, ↓e_Not, ↓e_AndV, ↓e_OrV, ↓e_NotV, ↓e_IfE, ↓e_Chain, ↓e_Ix, ↓e_Sl, ↓e_No, ↓e_Part, ↓e_nil, ↓e_cons, ↓e_Tup, ↓e_Lst, ↓e_CB, ↓e_ofD, ↓e_jOf, ↓e_Len, ↓e_Ints, ↓e_fMax, ↓e_fMin, ↓e_Tuple, ↓e_List, ↓e_Bls, ↓e_Is, ↓e_seq, ↓e_skip, ↓e_ret, ↓e_drop, ↓e_ifS, ↓e_never, ↓e_asg, ↓e_par2, ↓e_par3, ↓e_App, ↓e_For, ↓e_While, ↓e_Iter, ↓e_Rng1, ↓e_Rng2, ↓e_Zip2, ↓e_Zip3, ↓e_Lc, ↓e_Yes, ↓e_Dn0, ↓e_DnIn, ↓e_DnGet, ↓e_Dn1, iteG_t, iteG_f, iteG_d, iteG_n, iteG_a, iteG_o, iteG_x, iteG_e, iteG_s, iteG_l, iteG_y, iteF_t, iteF_f, varF_d, varF_o, toD_d, toD_l, toD_a, toDF_d, toDF_l, d2F_d, fAdd_i, fAdd_s, fAdd_t, fAdd_l, fSub_i, fMul_i, fMulR_i, fMulR_t, fMulR_l, fDiv_i, fMod_i, fPow_i, negF_i, cLt_i, cLe_i, cGt_i, cGe_i, cEq_e, cNe_e, isNF_n, isNF_t, isNF_i, dBF_b, boF_b, notVF_b, ch2F_d, chF_d, seqOf_t, seqOf_l, seqOf_o, seqOf_s, seqOf_a, seqF_t, seqF_l, seqF_o, kindOf_t, kindOf_l, kindOf_o, kindOf_a, kindF_t, kindF_l, kindF_o, ixF2_s, ixF_s, slF_t, slF_f, partF_i, allD_n, allD_c, tupF_s, lstF_s, ofDF_s, gInt_i, gInt_b, gAbs_i, gMax2_i, gMin2_i, gN_e, jF_s, lenF_s, intsF2_s, intsF_s, fSum_e, gTF_s, gLF_s, blsF_s, blsF2_s, isF_s, isF2_s, tyn_i, tyn_b, tyn_t, tyn_l, tyn_s, tyn_n, k_ii, k_ib, k_tt, gN1_d, gN1_o, gN1_a, gaF_d, gaF_o, gTup_e, gs_n, gs_c, par2G_e, par2F_s, svOf_d, svOf_o, par3G_e, par3F_s, stF2_s, stF_s, stG_e, gStL_e, gOwn_e, owL_a, apG_e, apI_e, iterF_t, iterF_l, rng1F_e, rng2F_e, zip2F_s, zip2G_e, zip3F_s, zip3G_e, seqD_t, seqD_l, finP_d, finP_o, finP_a, finF_d, finF_o, finJF_d, finJF_o, finJ_d, finJ_o, startD_e, startJ_e, dnI_e, dnIH_e, dnGF_e, dnGetF_e, dnSF_e, dnSH_e, gStDn_e, dn1F_e, atI_0, atI_1, atI_2, ixN_2_0, ixN_2_1, appK_eq, cmp_i, eqv_ii, eqv_nn, cast1, cast2, cast3, List.map_cons, List.map_nil, List.append_nil, List.nil_append, List.cons_append, List.replicate_succ, List.replicate_zero, List.length_cons, List.length_nil, List.getElem?_cons_zero, List.getElem?_cons_succ, List.set_cons_zero, List.set_cons_succ, Option.map_some, Bool.not_true, Bool.not_false, Nat.reduceAdd, Nat.reduceSub, Nat.zero_add, Nat.add_zero, if_true, if_false, decide_true, decide_false, and_true, true_and, Nat.reduceLeDiff, Nat.sub_zero, Nat.sub_self, ei]
  rw [dq]
  exact h
def Dx__law_given (P : Program) (w : World) (K : PySem.W.Frag) (mg : Str → Option Value) (base : Heap) : Prop := ∃ f fd, Def P w K mg base 1 "_law_given" f fd ["line", "many"] (spP (bas P w K) 2 sp__law_given)
theorem ok__law_given {P : Program} {w : World} {K : PySem.W.Frag} {mg : Str → Option Value} {base : Heap} (M : Mg mg) {f : Addr} {fd : FuncData} (F : FunD K "_law_given" "_law_given" (defArgs s__law_given) (defBody s__law_given) (defScope s__law_given) [] [] f fd) : FnOk P w K mg base CX0 1 f fd ["line", "many"] (spP (bas P w K) 2 sp__law_given) := by
  exact okP (tb := t__law_given) F sc__law_given (fun cdv A outer s H E hr =>
    (dss_cons (ds_asg (de_mul (de_div (de_var (pv 1)) (de_ix (de_var (pv 0)) de_int)) (de_callB (cr_sumD rfl) (snd_sum) (by rfl) M.f_sum rfl (da_cons (de_lc (own := [("gift", 3)]) rfl sc__law_given.nd (di_seq (de_ix (de_var (pv 0)) de_int)) (blkOk_by (own := [("gift", 3)]) (N := N__law_given) (sc := defScope s__law_given) (by decide +kernel)) (fun s H A cl fp => (dg_name sc__law_given.nd (i := 3) rfl (by first | exact .inl rfl | exact .inr rfl) (by first | exact .inl rfl | exact .inr (by decide)))) (fun s H A cl fp => dts_nil) (fun s H A cl fp => (de_data (de_callB (cr_sumD rfl) (snd_sum) (by rfl) M.f_sum rfl (da_cons (de_var (pv 3)) da_nil))))) da_nil))) (dg_name sc__law_given.nd (i := 2) rfl (by first | exact .inl rfl | exact .inr rfl) (by first | exact .inl rfl | exact .inr (by decide))))
      (dss_one (ds_ret (de_add (de_var (pv 2)) (de_callB (cr_sumD rfl) (snd_sum) (by rfl) M.f_sum rfl (da_cons (de_lc (own := [("gift", 3)]) rfl sc__law_given.nd (di_seq (de_ix (de_var (pv 0)) de_int)) (blkOk_by (own := [("gift", 3)]) (N := N__law_given) (sc := defScope s__law_given) (by decide +kernel)) (fun s H A cl fp => (dg_name sc__law_given.nd (i := 3) rfl (by first | exact .inl rfl | exact .inr rfl) (by first | exact .inl rfl | exact .inr (by decide)))) (fun s H A cl fp => dts_nil) (fun s H A cl fp => (de_data (de_callB (cr_sumD rfl) (snd_sum) (by rfl) M.f_sum rfl (da_cons (de_slice (de_var (pv 3)) do_none (do_some (de_mod (de_var (pv 1)) (de_ix (de_var (pv 0)) de_int)))) da_nil))))) da_nil))))))) rd__law_given
def N__law_sum_of : List Str := ["line", "ring", "total", "spot", "load", "one", "two"]
theorem sc__law_sum_of : FnScope N__law_sum_of ["line", "ring"] (defScope s__law_sum_of) := ⟨rfl, rfl, rfl, by decide +kernel, rfl, by decide +kernel, by decide +kernel⟩
def t__law_sum_of : DTS :=
    (dSeq (dAsg (d2 fMulR (dD (dLst (dCons (dC (.int 0)) dNil))) (dD (dCB gLen (dCons (dIx (dVar 0) (dC (.int 1))) dNil)))) (gN1 2))
      (dSeq (dFor (dIter (dD (dVar 1))) (gTupD 2 (gsCons (gN1 3) (gsCons (gN1 4) gsNil))) (dAsg (dLc (dZip2 (dCons (dD (dVar 2)) (dCons (dD (dIx (dCB (ofD (gN 3 sp__law_beat)) (dCons (dD (dVar 0)) (dCons (dD (dVar 3)) (dCons (dD (dVar 4)) dNil)))) (dC (.int 1)))) dNil))) (gTupD 2 (gsCons (gN1 5) (gsCons (gN1 6) gsNil))) dYes (dD (d2 fAdd (dD (dVar 5)) (dD (dVar 6)))) [5, 6]) (gN1 2)))
      (dRet (dVar 2))))
def sp__law_sum_of : DFd := fun ds R => ∃ (r : Row) (sts : List Stg), ds = [rowD r, .lst (sts.map stD)] ∧ r.Ok ∧ (∀ s ∈ sts, StOk r s) ∧ R (.ow (.lst ((sumsF 1 r sts).map .int)))
theorem rd__law_sum_of : ∀ ds R, ds.length = 2 → sp__law_sum_of ds R → t__law_sum_of { nx := fun _ => R (.d .non), rt := finP R } (startD N__law_sum_of ds) := by
  rintro ds R - ⟨r, sts, rfl, ok, hs, h⟩
  have n1 := ok.n1
  have n3 := ok.n3
  simp only [↓e_var, ↓e_C, ↓e_dD, ↓e_d2, ↓e_neg, ↓e_isN, ↓e_B, ↓e_And, ↓e_Or, ↓e_Not, ↓e_AndV, ↓e_OrV, ↓e_NotV, ↓e_IfE, ↓e_Chain, ↓e_Ix, ↓e_Sl, ↓e_No, ↓e_Part, ↓e_nil, ↓e_cons, ↓e_Tup, ↓e_Lst, ↓e_CB, ↓e_ofD, ↓e_jOf, ↓e_Len, ↓e_Ints, ↓e_fMax, ↓e_fMin, ↓e_Tuple, ↓e_List, ↓e_Bls, ↓e_Is, ↓e_seq, ↓e_skip, ↓e_ret, ↓e_drop, ↓e_ifS, ↓e_never, ↓e_asg, ↓e_par2, ↓e_par3, ↓e_App, ↓e_For, ↓e_While, ↓e_Iter, ↓e_Rng1, ↓e_Rng2, ↓e_Zip2, ↓e_Zip3, ↓e_Lc, ↓e_Yes, ↓e_Dn0, ↓e_DnIn, ↓e_DnGet, ↓e_Dn1, iteG_t, iteG_f, iteG_d, iteG_n, iteG_a, iteG_o, iteG_x, iteG_e, iteG_s, iteG_l, iteG_y, iteF_t, iteF_f, varF_d, varF_o, toD_d, toD_l, toD_a, toDF_d, toDF_l, d2F_d, fAdd_i, fAdd_s, fAdd_t, fAdd_l, fSub_i, fMul_i, fMulR_i, fMulR_t, fMulR_l, fDiv_i, fMod_i, fPow_i, negF_i, cLt_i, cLe_i, cGt_i, cGe_i, cEq_e, cNe_e, isNF_n, isNF_t, isNF_i, dBF_b, boF_b, notVF_b, ch2F_d, chF_d, seqOf_t, seqOf_l, seqOf_o, seqOf_s, seqOf_a, seqF_t, seqF_l, seqF_o, kindOf_t, kindOf_l, kindOf_o, kindOf_a, kindF_t, kindF_l, kindF_o, ixF2_s, ixF_s, slF_t, slF_f, partF_i, allD_n, allD_c, tupF_s, lstF_s, ofDF_s, gInt_i, gInt_b, gAbs_i, gMax2_i, gMin2_i, gN_e, jF_s, lenF_s, intsF2_s, intsF_s, fSum_e, gTF_s, gLF_s, blsF_s, blsF2_s, isF_s, isF2_s, tyn_i, tyn_b, tyn_t, tyn_l, tyn_s, tyn_n, k_ii, k_ib, k_tt, gN1_d, gN1_o, gN1_a, gaF_d, gaF_o, gTup_e, gs_n, gs_c, par2G_e, par2F_s, svOf_d, svOf_o, par3G_e, par3F_s, stF2_s, stF_s, stG_e, gStL_e, gOwn_e, owL_a, apG_e, apI_e, iterF_t, iterF_l, rng1F_e, rng2F_e, zip2F_s, zip2G_e, zip3F_s, zip3G_e, seqD_t, seqD_l, finP_d, finP_o, finP_a, finF_d, finF_o, finJF_d, finJF_o, finJ_d, finJ_o, startD_e, startJ_e, dnI_e, dnIH_e, dnGF_e, dnGetF_e, dnSF_e, dnSH_e, gStDn_e, dn1F_e, atI_0, atI_1, atI_2, ixN_2_0, ixN_2_1, appK_eq, cmp_i, eqv_ii, eqv_nn, cast1, cast2, cast3, List.map_cons, List.map_nil, List.append_nil, List.nil_append, List.cons_append, List.replicate_succ, List.replicate_zero, List.length_cons, List.length_nil, List.getElem?_cons_zero, List.getElem?_cons_succ, List.set_cons_zero, List.set_cons_succ, Option.map_some, Bool.not_true, Bool.not_false, Nat.reduceAdd, Nat.reduceSub, Nat.zero_add, Nat.add_zero, if_true, if_false, decide_true, decide_false, and_true, true_and, Nat.reduceLeDiff, Nat.sub_zero, Nat.sub_self, t__law_sum_of, N__law_sum_of, rowD]
  have e0 : (List.replicate (((r.cups.map cupD).length : Nat) : Int).toNat [D.int 0]).flatten = (sumsF 1 r []).map D.int := by
    rw [List.length_map, Int.toNat_natCast]
    unfold sumsF colS
    apply List.ext_getElem <;> simp
  rw [e0, List.length_map]
  refine ⟨by omega, by omega, by rw [sizeLine_eq]; omega, ?_⟩
  refine dLoop_rel stD (fun l ρ => ∃ (done : List Stg) (z1 z2 : SV), sts = done ++ l ∧ ρ = [SV.d (rowD r), .d (.lst (sts.map stD)), .ow (.lst ((sumsF 1 r done).map .int)), z1, z2, .un, .un]) ?_ ?_ sts _ ⟨[], _, _, rfl, rfl⟩
  · rintro s l ρ ⟨done, z1, z2, e, rfl⟩ K hK
    have so := hs s (by rw [e]; simp)
    simp only [↓e_var, ↓e_C, ↓e_dD, ↓e_d2, ↓e_neg, ↓e_isN, ↓e_B, ↓e_And, ↓e_Or, ↓e_Not, ↓e_AndV, ↓e_OrV, ↓e_NotV, ↓e_IfE, ↓e_Chain, ↓e_Ix, ↓e_Sl, ↓e_No, ↓e_Part, ↓e_nil, ↓e_cons, ↓e_Tup, ↓e_Lst, ↓e_CB, ↓e_ofD, ↓e_jOf, ↓e_Len, ↓e_Ints, ↓e_fMax, ↓e_fMin, ↓e_Tuple, ↓e_List, ↓e_Bls, ↓e_Is, ↓e_seq, ↓e_skip, ↓e_ret, ↓e_drop, ↓e_ifS, ↓e_never, ↓e_asg, ↓e_par2, ↓e_par3, ↓e_App, ↓e_For, ↓e_While, ↓e_Iter, ↓e_Rng1, ↓e_Rng2, ↓e_Zip2, ↓e_Zip3, ↓e_Lc, ↓e_Yes, ↓e_Dn0, ↓e_DnIn, ↓e_DnGet, ↓e_Dn1, iteG_t, iteG_f, iteG_d, iteG_n, iteG_a, iteG_o, iteG_x, iteG_e, iteG_s, iteG_l, iteG_y, iteF_t, iteF_f, varF_d, varF_o, toD_d, toD_l, toD_a, toDF_d, toDF_l, d2F_d, fAdd_i, fAdd_s, fAdd_t, fAdd_l, fSub_i, fMul_i, fMulR_i, fMulR_t, fMulR_l, fDiv_i, fMod_i, fPow_i, negF_i, cLt_i, cLe_i, cGt_i, cGe_i, cEq_e, cNe_e, isNF_n, isNF_t, isNF_i, dBF_b, boF_b, notVF_b, ch2F_d, chF_d, seqOf_t, seqOf_l, seqOf_o, seqOf_s, seqOf_a, seqF_t, seqF_l, seqF_o, kindOf_t, kindOf_l, kindOf_o, kindOf_a, kindF_t, kindF_l, kindF_o, ixF2_s, ixF_s, slF_t, slF_f, partF_i, allD_n, allD_c, tupF_s, lstF_s, ofDF_s, gInt_i, gInt_b, gAbs_i, gMax2_i, gMin2_i, gN_e, jF_s, lenF_s, intsF2_s, intsF_s, fSum_e, gTF_s, gLF_s, blsF_s, blsF2_s, isF_s, isF2_s, tyn_i, tyn_b, tyn_t, tyn_l, tyn_s, tyn_n, k_ii, k_ib, k_tt, gN1_d, gN1_o, gN1_a, gaF_d, gaF_o, gTup_e, gs_n, gs_c, par2G_e, par2F_s, svOf_d, svOf_o, par3G_e, par3F_s, stF2_s, stF_s, stG_e, gStL_e, gOwn_e, owL_a, apG_e, apI_e, iterF_t, iterF_l, rng1F_e, rng2F_e, zip2F_s, zip2G_e, zip3F_s, zip3G_e, seqD_t, seqD_l, finP_d, finP_o, finP_a, finF_d, finF_o, finJF_d, finJF_o, finJ_d, finJ_o, startD_e, startJ_e, dnI_e, dnIH_e, dnGF_e, dnGetF_e, dnSF_e, dnSH_e, gStDn_e, dn1F_e, atI_0, atI_1, atI_2, ixN_2_0, ixN_2_1, appK_eq, cmp_i, eqv_ii, eqv_nn, cast1, cast2, cast3, List.map_cons, List.map_nil, List.append_nil, List.nil_append, List.cons_append, List.replicate_succ, List.replicate_zero, List.length_cons, List.length_nil, List.getElem?_cons_zero, List.getElem?_cons_succ, List.set_cons_zero, List.set_cons_succ, Option.map_some, Bool.not_true, Bool.not_false, Nat.reduceAdd, Nat.reduceSub, Nat.zero_add, Nat.add_zero, if_true, if_false, decide_true, decide_false, and_true, true_and, Nat.reduceLeDiff, Nat.sub_zero, Nat.sub_self, stD, rowD]
    refine ⟨rfl, r, s, rfl, ok, so, ?_⟩
    simp only [↓e_var, ↓e_C, ↓e_dD, ↓e_d2, ↓e_neg, ↓e_isN, ↓e_B, ↓e_And, ↓e_Or, ↓e_Not, ↓e_AndV, ↓e_OrV, ↓e_NotV, ↓e_IfE, ↓e_Chain, ↓e_Ix, ↓e_Sl, ↓e_No, ↓e_Part, ↓e_nil, ↓e_cons, ↓e_Tup, ↓e_Lst, ↓e_CB, ↓e_ofD, ↓e_jOf, ↓e_Len, ↓e_Ints, ↓e_fMax, ↓e_fMin, ↓e_Tuple, ↓e_List, ↓e_Bls, ↓e_Is, ↓e_seq, ↓e_skip, ↓e_ret, ↓e_drop, ↓e_ifS, ↓e_never, ↓e_asg, ↓e_par2, ↓e_par3, ↓e_App, ↓e_For, ↓e_While, ↓e_Iter, ↓e_Rng1, ↓e_Rng2, ↓e_Zip2, ↓e_Zip3, ↓e_Lc, ↓e_Yes, ↓e_Dn0, ↓e_DnIn, ↓e_DnGet, ↓e_Dn1, iteG_t, iteG_f, iteG_d, iteG_n, iteG_a, iteG_o, iteG_x, iteG_e, iteG_s, iteG_l, iteG_y, iteF_t, iteF_f, varF_d, varF_o, toD_d, toD_l, toD_a, toDF_d, toDF_l, d2F_d, fAdd_i, fAdd_s, fAdd_t, fAdd_l, fSub_i, fMul_i, fMulR_i, fMulR_t, fMulR_l, fDiv_i, fMod_i, fPow_i, negF_i, cLt_i, cLe_i, cGt_i, cGe_i, cEq_e, cNe_e, isNF_n, isNF_t, isNF_i, dBF_b, boF_b, notVF_b, ch2F_d, chF_d, seqOf_t, seqOf_l, seqOf_o, seqOf_s, seqOf_a, seqF_t, seqF_l, seqF_o, kindOf_t, kindOf_l, kindOf_o, kindOf_a, kindF_t, kindF_l, kindF_o, ixF2_s, ixF_s, slF_t, slF_f, partF_i, allD_n, allD_c, tupF_s, lstF_s, ofDF_s, gInt_i, gInt_b, gAbs_i, gMax2_i, gMin2_i, gN_e, jF_s, lenF_s, intsF2_s, intsF_s, fSum_e, gTF_s, gLF_s, blsF_s, blsF2_s, isF_s, isF2_s, tyn_i, tyn_b, tyn_t, tyn_l, tyn_s, tyn_n, k_ii, k_ib, k_tt, gN1_d, gN1_o, gN1_a, gaF_d, gaF_o, gTup_e, gs_n, gs_c, par2G_e, par2F_s, svOf_d, svOf_o, par3G_e, par3F_s, stF2_s, stF_s, stG_e, gStL_e, gOwn_e, owL_a, apG_e, apI_e, iterF_t, iterF_l, rng1F_e, rng2F_e, zip2F_s, zip2G_e, zip3F_s, zip3G_e, seqD_t, seqD_l, finP_d, finP_o, finP_a, finF_d, finF_o, finJF_d, finJF_o, finJ_d, finJ_o, startD_e, startJ_e, dnI_e, dnIH_e, dnGF_e, dnGetF_e, dnSF_e, dnSH_e, gStDn_e, dn1F_e, atI_0, atI_1, atI_2, ixN_2_0, ixN_2_1, appK_eq, cmp_i, eqv_ii, eqv_nn, cast1, cast2, cast3, List.map_cons, List.map_nil, List.append_nil, List.nil_append, List.cons_append, List.replicate_succ, List.replicate_zero, List.length_cons, List.length_nil, List.getElem?_cons_zero, List.getElem?_cons_succ, List.set_cons_zero, List.set_cons_succ, Option.map_some, Bool.not_true, Bool.not_false, Nat.reduceAdd, Nat.reduceSub, Nat.zero_add, Nat.add_zero, if_true, if_false, decide_true, decide_false, and_true, true_and, Nat.reduceLeDiff, Nat.sub_zero, Nat.sub_self, intsD, zipD2_maps]
    refine ⟨fun i hi => ?_, ?_⟩
    · simp only [List.mem_cons, List.not_mem_nil, or_false] at hi
      rcases hi with rfl | rfl <;> rfl
    refine lcL_maps (fun p : Int × Int => D.tup [.int p.1, .int p.2]) (fun p => .int (p.1 + p.2)) _ [] (fun c hc K hK => ?_) ?_
    · simp only [↓e_var, ↓e_C, ↓e_dD, ↓e_d2, ↓e_neg, ↓e_isN, ↓e_B, ↓e_And, ↓e_Or, ↓e_Not, ↓e_AndV, ↓e_OrV, ↓e_NotV, ↓e_IfE, ↓e_Chain, ↓e_Ix, ↓e_Sl, ↓e_No, ↓e_Part, ↓e_nil, ↓e_cons, ↓e_Tup, ↓e_Lst, ↓e_CB, ↓e_ofD, ↓e_jOf, ↓e_Len, ↓e_Ints, ↓e_fMax, ↓e_fMin, ↓e_Tuple, ↓e_List, ↓e_Bls, ↓e_Is, ↓e_seq, ↓e_skip, ↓e_ret, ↓e_drop, ↓e_ifS, ↓e_never, ↓e_asg, ↓e_par2, ↓e_par3, ↓e_App, ↓e_For, ↓e_While, ↓e_Iter, ↓e_Rng1, ↓e_Rng2, ↓e_Zip2, ↓e_Zip3, ↓e_Lc, ↓e_Yes, ↓e_Dn0, ↓e_DnIn, ↓e_DnGet, ↓e_Dn1, iteG_t, iteG_f, iteG_d, iteG_n, iteG_a, iteG_o, iteG_x, iteG_e, iteG_s, iteG_l, iteG_y, iteF_t, iteF_f, varF_d, varF_o, toD_d, toD_l, toD_a, toDF_d, toDF_l, d2F_d, fAdd_i, fAdd_s, fAdd_t, fAdd_l, fSub_i, fMul_i, fMulR_i, fMulR_t, fMulR_l, fDiv_i, fMod_i, fPow_i, negF_i, cLt_i, cLe_i, cGt_i, cGe_i, cEq_e, cNe_e, isNF_n, isNF_t, isNF_i, dBF_b, boF_b, notVF_b, ch2F_d, chF_d, seqOf_t, seqOf_l, seqOf_o, seqOf_s, seqOf_a, seqF_t, seqF_l, seqF_o, kindOf_t, kindOf_l, kindOf_o, kindOf_a, kindF_t, kindF_l, kindF_o, ixF2_s, ixF_s, slF_t, slF_f, partF_i, allD_n, allD_c, tupF_s, lstF_s, ofDF_s, gInt_i, gInt_b, gAbs_i, gMax2_i, gMin2_i, gN_e, jF_s, lenF_s, intsF2_s, intsF_s, fSum_e, gTF_s, gLF_s, blsF_s, blsF2_s, isF_s, isF2_s, tyn_i, tyn_b, tyn_t, tyn_l, tyn_s, tyn_n, k_ii, k_ib, k_tt, gN1_d, gN1_o, gN1_a, gaF_d, gaF_o, gTup_e, gs_n, gs_c, par2G_e, par2F_s, svOf_d, svOf_o, par3G_e, par3F_s, stF2_s, stF_s, stG_e, gStL_e, gOwn_e, owL_a, apG_e, apI_e, iterF_t, iterF_l, rng1F_e, rng2F_e, zip2F_s, zip2G_e, zip3F_s, zip3G_e, seqD_t, seqD_l, finP_d, finP_o, finP_a, finF_d, finF_o, finJF_d, finJF_o, finJ_d, finJ_o, startD_e, startJ_e, dnI_e, dnIH_e, dnGF_e, dnGetF_e, dnSF_e, dnSH_e, gStDn_e, dn1F_e, atI_0, atI_1, atI_2, ixN_2_0, ixN_2_1, appK_eq, cmp_i, eqv_ii, eqv_nn, cast1, cast2, cast3, List.map_cons, List.map_nil, List.append_nil, List.nil_append, List.cons_append, List.replicate_succ, List.replicate_zero, List.length_cons, List.length_nil, List.getElem?_cons_zero, List.getElem?_cons_succ, List.set_cons_zero, List.set_cons_succ, Option.map_some, Bool.not_true, Bool.not_false, Nat.reduceAdd, Nat.reduceSub, Nat.zero_add, Nat.add_zero, if_true, if_false, decide_true, decide_false, and_true, true_and, Nat.reduceLeDiff, Nat.sub_zero, Nat.sub_self]
      exact hK _ rfl
    · simp only [↓e_var, ↓e_C, ↓e_dD, ↓e_d2, ↓e_neg, ↓e_isN, ↓e_B, ↓e_And, ↓e_Or, ↓e_Not, ↓e_AndV, ↓e_OrV, ↓e_NotV, ↓e_IfE, ↓e_Chain, ↓e_Ix, ↓e_Sl, ↓e_No, ↓e_Part, ↓e_nil, ↓e_cons, ↓e_Tup, ↓e_Lst, ↓e_CB, ↓e_ofD, ↓e_jOf, ↓e_Len, ↓e_Ints, ↓e_fMax, ↓e_fMin, ↓e_Tuple, ↓e_List, ↓e_Bls, ↓e_Is, ↓e_seq, ↓e_skip, ↓e_ret, ↓e_drop, ↓e_ifS, ↓e_never, ↓e_asg, ↓e_par2, ↓e_par3, ↓e_App, ↓e_For, ↓e_While, ↓e_Iter, ↓e_Rng1, ↓e_Rng2, ↓e_Zip2, ↓e_Zip3, ↓e_Lc, ↓e_Yes, ↓e_Dn0, ↓e_DnIn, ↓e_DnGet, ↓e_Dn1, iteG_t, iteG_f, iteG_d, iteG_n, iteG_a, iteG_o, iteG_x, iteG_e, iteG_s, iteG_l, iteG_y, iteF_t, iteF_f, varF_d, varF_o, toD_d, toD_l, toD_a, toDF_d, toDF_l, d2F_d, fAdd_i, fAdd_s, fAdd_t, fAdd_l, fSub_i, fMul_i, fMulR_i, fMulR_t, fMulR_l, fDiv_i, fMod_i, fPow_i, negF_i, cLt_i, cLe_i, cGt_i, cGe_i, cEq_e, cNe_e, isNF_n, isNF_t, isNF_i, dBF_b, boF_b, notVF_b, ch2F_d, chF_d, seqOf_t, seqOf_l, seqOf_o, seqOf_s, seqOf_a, seqF_t, seqF_l, seqF_o, kindOf_t, kindOf_l, kindOf_o, kindOf_a, kindF_t, kindF_l, kindF_o, ixF2_s, ixF_s, slF_t, slF_f, partF_i, allD_n, allD_c, tupF_s, lstF_s, ofDF_s, gInt_i, gInt_b, gAbs_i, gMax2_i, gMin2_i, gN_e, jF_s, lenF_s, intsF2_s, intsF_s, fSum_e, gTF_s, gLF_s, blsF_s, blsF2_s, isF_s, isF2_s, tyn_i, tyn_b, tyn_t, tyn_l, tyn_s, tyn_n, k_ii, k_ib, k_tt, gN1_d, gN1_o, gN1_a, gaF_d, gaF_o, gTup_e, gs_n, gs_c, par2G_e, par2F_s, svOf_d, svOf_o, par3G_e, par3F_s, stF2_s, stF_s, stG_e, gStL_e, gOwn_e, owL_a, apG_e, apI_e, iterF_t, iterF_l, rng1F_e, rng2F_e, zip2F_s, zip2G_e, zip3F_s, zip3G_e, seqD_t, seqD_l, finP_d, finP_o, finP_a, finF_d, finF_o, finJF_d, finJF_o, finJ_d, finJ_o, startD_e, startJ_e, dnI_e, dnIH_e, dnGF_e, dnGetF_e, dnSF_e, dnSH_e, gStDn_e, dn1F_e, atI_0, atI_1, atI_2, ixN_2_0, ixN_2_1, appK_eq, cmp_i, eqv_ii, eqv_nn, cast1, cast2, cast3, List.map_cons, List.map_nil, List.append_nil, List.nil_append, List.cons_append, List.replicate_succ, List.replicate_zero, List.length_cons, List.length_nil, List.getElem?_cons_zero, List.getElem?_cons_succ, List.set_cons_zero, List.set_cons_succ, Option.map_some, Bool.not_true, Bool.not_false, Nat.reduceAdd, Nat.reduceSub, Nat.zero_add, Nat.add_zero, if_true, if_false, decide_true, decide_false, and_true, true_and, Nat.reduceLeDiff, Nat.sub_zero, Nat.sub_self]
      refine hK _ ⟨done ++ [s], .d (.int (s.1 : Nat)), .d (intsD s.2), by rw [e]; simp, ?_⟩
      have e2 : ((sumsF 1 r done).zip (outW 1 r s)).map (fun p => D.int (p.1 + p.2)) = (sumsF 1 r (done ++ [s])).map D.int := by
        unfold sumsF
        conv => lhs; rw [list_cols (outW_length ok so 1)]
        rw [zip_cols, List.map_map]
        apply List.map_congr_left
        intro j hj
        show D.int _ = D.int _
        rw [colS_snoc]
      rw [e2]
      rfl
  · rintro ρ ⟨done, z1, z2, e, rfl⟩
    rw [List.append_nil] at e
    subst e
    simp only [↓e_var, ↓e_C, ↓e_dD, ↓e_d2, ↓e_neg, ↓e_isN, ↓e_B, ↓e_And, ↓e_Or, ↓e_Not, ↓e_AndV, ↓e_OrV, ↓e_NotV, ↓e_IfE, ↓e_Chain, ↓e_Ix, ↓e_Sl, ↓e_No, ↓e_Part, ↓e_nil, ↓e_cons, ↓e_Tup, ↓e_Lst, ↓e_CB, ↓e_ofD, ↓e_jOf, ↓e_Len, ↓e_Ints, ↓e_fMax, ↓e_fMin, ↓e_Tuple, ↓e_List, ↓e_Bls, ↓e_Is, ↓e_seq, ↓e_skip, ↓e_ret, ↓e_drop, ↓e_ifS, ↓e_never, ↓e_asg, ↓e_par2, ↓e_par3, ↓e_App, ↓e_For, ↓e_While, ↓e_Iter, ↓e_Rng1, ↓e_Rng2, ↓e_Zip2, ↓e_Zip3, ↓e_Lc, ↓e_Yes, ↓e_Dn0, ↓e_DnIn, ↓e_DnGet, ↓e_Dn1, iteG_t, iteG_f, iteG_d, iteG_n, iteG_a, iteG_o, iteG_x, iteG_e, iteG_s, iteG_l, iteG_y, iteF_t, iteF_f, varF_d, varF_o, toD_d, toD_l, toD_a, toDF_d, toDF_l, d2F_d, fAdd_i, fAdd_s, fAdd_t, fAdd_l, fSub_i, fMul_i, fMulR_i, fMulR_t, fMulR_l, fDiv_i, fMod_i, fPow_i, negF_i, cLt_i, cLe_i, cGt_i, cGe_i, cEq_e, cNe_e, isNF_n, isNF_t, isNF_i, dBF_b, boF_b, notVF_b, ch2F_d, chF_d, seqOf_t, seqOf_l, seqOf_o, seqOf_s, seqOf_a, seqF_t, seqF_l, seqF_o, kindOf_t, kindOf_l, kindOf_o, kindOf_a, kindF_t, kindF_l, kindF_o, ixF2_s, ixF_s, slF_t, slF_f, partF_i, allD_n, allD_c, tupF_s, lstF_s, ofDF_s, gInt_i, gInt_b, gAbs_i, gMax2_i, gMin2_i, gN_e, jF_s, lenF_s, intsF2_s, intsF_s, fSum_e, gTF_s, gLF_s, blsF_s, blsF2_s, isF_s, isF2_s, tyn_i, tyn_b, tyn_t, tyn_l, tyn_s, tyn_n, k_ii, k_ib, k_tt, gN1_d, gN1_o, gN1_a, gaF_d, gaF_o, gTup_e, gs_n, gs_c, par2G_e, par2F_s, svOf_d, svOf_o, par3G_e, par3F_s, stF2_s, stF_s, stG_e, gStL_e, gOwn_e, owL_a, apG_e, apI_e, iterF_t, iterF_l, rng1F_e, rng2F_e, zip2F_s, zip2G_e, zip3F_s, zip3G_e, seqD_t, seqD_l, finP_d, finP_o, finP_a, finF_d, finF_o, finJF_d, finJF_o, finJ_d, finJ_o, startD_e, startJ_e, dnI_e, dnIH_e, dnGF_e, dnGetF_e, dnSF_e, dnSH_e, gStDn_e, dn1F_e, atI_0, atI_1, atI_2, ixN_2_0, ixN_2_1, appK_eq, cmp_i, eqv_ii, eqv_nn, cast1, cast2, cast3, List.map_cons, List.map_nil, List.append_nil, List.nil_append, List.cons_append, List.replicate_succ, List.replicate_zero, List.length_cons, List.length_nil, List.getElem?_cons_zero, List.getElem?_cons_succ, List.set_cons_zero, List.set_cons_succ, Option.map_some, Bool.not_true, Bool.not_false, Nat.reduceAdd, Nat.reduceSub, Nat.zero_add, Nat.add_zero, if_true, if_false, decide_true, decide_false, and_true, true_and, Nat.reduceLeDiff, Nat.sub_zero, Nat.sub_self]
    exact h
def Dx__law_sum_of (P : Program) (w : World) (K : PySem.W.Frag) (mg : Str → Option Value) (base : Heap) : Prop := ∃ f fd, Def P w K mg base 2 "_law_sum_of" f fd ["line", "ring"] (spP (bas P w K) 2 sp__law_sum_of)
theorem ok__law_sum_of {P : Program} {w : World} {K : PySem.W.Frag} {mg : Str → Option Value} {base : Heap} (M : Mg mg) (D__law_beat : Dx__law_beat P w K mg base) {f : Addr} {fd : FuncData} (F : FunD K "_law_sum_of" "_law_sum_of" (defArgs s__law_sum_of) (defBody s__law_sum_of) (defScope s__law_sum_of) [] [] f fd) : FnOk P w K mg base CX0 2 f fd ["line", "ring"] (spP (bas P w K) 2 sp__law_sum_of) := by
  obtain ⟨a__law_beat, fd__law_beat, D__law_beat⟩ := D__law_beat
  exact okP (tb := t__law_sum_of) F sc__law_sum_of (fun cdv A outer s H E hr =>
    (dss_cons (ds_asg (de_mulR (de_lst (da_cons de_int da_nil)) (de_callB (call_len_seq) (snd_len) (by rfl) M.f_len rfl (da_cons (de_ix (de_var (pv 0)) de_int) da_nil))) (dg_name sc__law_sum_of.nd (i := 2) rfl (by first | exact .inl rfl | exact .inr rfl) (by first | exact .inl rfl | exact .inr (by decide))))
      (dss_cons (ds_for PassesOwn.never rfl (di_seq (de_var (pv 1))) (dg_tup rfl (dgs_cons (dg_name sc__law_sum_of.nd (i := 3) rfl (by first | exact .inl rfl | exact .inr rfl) (by first | exact .inl rfl | exact .inr (by decide))) (dgs_cons (dg_name sc__law_sum_of.nd (i := 4) rfl (by first | exact .inl rfl | exact .inr rfl) (by first | exact .inl rfl | exact .inr (by decide))) (dgs_nil (ws := []))))) (dss_one (ds_setLc (own := [("one", 5), ("two", 6)]) (i := 2) rfl sc__law_sum_of.nd rfl rfl (sw_true rfl rfl rfl (by decide +kernel)) (di_zip2 (by rfl) M.f_zip (da_cons (de_data (de_var (pv 2))) (da_cons (de_data (de_ix (de_call D__law_beat.own (hr.mono (by decide)) (by rfl) (da_cons (de_data (de_var (pv 0))) (da_cons (de_data (de_var (pv 3))) (da_cons (de_data (de_var (pv 4))) da_nil)))) de_int)) da_nil))) (blkOk_by (own := [("one", 5), ("two", 6)]) (N := N__law_sum_of) (sc := defScope s__law_sum_of) (by decide +kernel)) (fun s H A cl fp => (dg_tup rfl (dgs_cons (dg_name sc__law_sum_of.nd (i := 5) rfl (by first | exact .inl rfl | exact .inr rfl) (by first | exact .inl rfl | exact .inr (by decide))) (dgs_cons (dg_name sc__law_sum_of.nd (i := 6) rfl (by first | exact .inl rfl | exact .inr rfl) (by first | exact .inl rfl | exact .inr (by decide))) (dgs_nil (ws := [])))))) (fun s H A cl fp => dts_nil) (fun s H A cl fp => (de_data (de_add (de_var (pv 5)) (de_var (pv 6))))) (by first | exact .inl rfl | exact .inr (by decide)))))
      (dss_one (ds_ret (de_var (pv 2))))))) rd__law_sum_of
end DL

set_option Elab.async false
set_option linter.all false
set_option maxRecDepth 100000
set_option maxHeartbeats 0
namespace DL
open PySem PySem.Spec L2
open PyProof.Rows hiding St
/-! ### the plain law: what comes in and what goes out -/
theorem tickZ_cons (ph : Nat) : ∀ (l : List (Cup × List Int × Int)) (cm : Int), (l.map fun q => q.2.2).sum + (l.map fun q => q.2.1.getD ph 0).sum + cm =
    ((tickZ ph l cm).map fun q => q.1).sum + ((tickZ ph l cm).map fun q => q.2.2).sum + ((tickZ ph l cm).map fun q => q.2.1).getLastD cm
  | [], cm => by simp [tickZ]
  | (c, t, a) :: l, cm => by
    simp only [tickZ, List.map_cons, List.sum_cons, List.getLastD_cons]
    generalize hL : (if c.2.1 < a + t.getD ph 0 + cm then c.2.1 else a + t.getD ph 0 + cm) = level
    generalize hO : (if c.1 ≤ level then level - c.2.2 else 0) = out
    have := tickZ_cons ph l out
    omega
theorem sum_map_add (f g : Nat → Int) : ∀ l : List Nat, (l.map fun j => f j + g j).sum = (l.map f).sum + (l.map g).sum
  | [] => rfl
  | x :: l => by
    have := sum_map_add f g l
    simp only [List.map_cons, List.sum_cons]
    omega
def sumW (w : Int) (r : Row) (s : Stg) : Int := (outW w r s).sum
theorem sum_tot {w : Int} {r : Row} {f : List Int} (ok : r.Ok) (hf : FillOk r.cups f) : ∀ n, (tot w r f n).sum = gsum (fun i => sumW w r (orb r (0, f) i)) n
  | 0 => by
    simp only [tot, sumsF, gsum, List.range_zero, List.map_nil, List.sum_nil]
    generalize r.cups.length = k
    have : ∀ l : List Nat, (l.map (colS w r [])).sum = 0 := fun l => by
      induction l with
      | nil => rfl
      | cons x l ih => rw [List.map_cons, List.sum_cons, ih]; rfl
    exact this _
  | n + 1 => by
    have so := orb_ok ok (start_ok ok hf) n
    have ih := sum_tot (w := w) ok hf n
    rw [gsum_succ, ← ih]
    unfold tot sumsF sumW
    conv => rhs; rw [list_cols (outW_length ok so w)]
    rw [← sum_map_add]
    congr 1
    apply List.map_congr_left
    intro j hj
    rw [List.range_succ, List.map_append]
    exact colS_snoc _ _ _ _ _
def waterAt (r : Row) (ph : Nat) : Int := (r.taps.map fun t => t.getD ph 0).sum
theorem zip_taps {r : Row} {f : List Int} (ok : r.Ok) (hf : FillOk r.cups f) (g : List Int → Int) : ((r.cups.zip (r.taps.zip f)).map fun q => g q.2.1) = r.taps.map g := by
  have h1 := ok.same
  have h2 := hf.length
  apply List.ext_getElem
  · simp; omega
  · intro i a b
    simp
theorem zip_fill {r : Row} {f : List Int} (ok : r.Ok) (hf : FillOk r.cups f) : ((r.cups.zip (r.taps.zip f)).map fun q => q.2.2) = f := by
  have h1 := ok.same
  have h2 := hf.length
  apply List.ext_getElem
  · simp; omega
  · intro i a b
    simp
def lastP (r : Row) (s : Stg) : Int := (outW 1 r s).getD (r.cups.length - 1) 0
theorem getLastD_getD : ∀ (l : List Int) (k : Nat) (d : Int), l.length = k + 1 → l.getLastD d = l.getD k 0
  | [], k, d, h => by simp at h
  | [x], k, d, h => by
    have : k = 0 := by simpa using h.symm
    subst this
    rfl
  | x :: y :: l, k, d, h => by
    obtain ⟨j, rfl⟩ : ∃ j, k = j + 1 := ⟨k - 1, by simp at h; omega⟩
    rw [List.getLastD_cons, getLastD_getD (y :: l) j x (by simpa using h)]
    rfl
theorem one_tick {r : Row} {s : Stg} (ok : r.Ok) (h : StOk r s) : s.2.sum + waterAt r s.1 = (nxt r s).2.sum + sumW 2 r s + lastP r s := by
  have h1 := tickZ_cons s.1 (r.cups.zip (r.taps.zip s.2)) 0
  rw [zip_fill ok h.2, zip_taps ok h.2 fun t => t.getD s.1 0] at h1
  have e : lastP r s = ((tickZ s.1 (r.cups.zip (r.taps.zip s.2)) 0).map fun q => q.2.1).getLastD 0 := by
    have hl := outW_length ok h 1
    have n1 := ok.n1
    unfold lastP
    exact (getLastD_getD _ _ _ (by show (outW 1 r s).length = _; omega)).symm
  have e1 : (nxt r s).2.sum = ((tickZ s.1 (r.cups.zip (r.taps.zip s.2)) 0).map fun q => q.1).sum := rfl
  have e2 : sumW 2 r s = ((tickZ s.1 (r.cups.zip (r.taps.zip s.2)) 0).map fun q => q.2.2).sum := rfl
  rw [e, e1, e2]
  unfold waterAt
  omega
theorem all_ticks {r : Row} {f : List Int} (ok : r.Ok) (hf : FillOk r.cups f) : ∀ n, f.sum + gsum (fun i => waterAt r (orb r (0, f) i).1) n = (orb r (0, f) n).2.sum + gsum (fun i => sumW 2 r (orb r (0, f) i)) n + gsum (fun i => lastP r (orb r (0, f) i)) n
  | 0 => by simp [gsum, orb]
  | n + 1 => by
    have h1 := all_ticks ok hf n
    have h2 := one_tick ok (orb_ok ok (start_ok ok hf) n)
    rw [gsum_succ, gsum_succ, gsum_succ]
    show _ = (nxt r (orb r (0, f) n)).2.sum + _ + _
    omega
theorem orb_phase (r : Row) (f : List Int) (h : 0 < r.p.toNat) : ∀ n, (orb r (0, f) n).1 = n % r.p.toNat
  | 0 => by simp [orb]
  | n + 1 => by
    show ((orb r (0, f) n).1 + 1) % r.p.toNat = _
    rw [orb_phase r f h n, Nat.mod_add_mod]
theorem water_take {r : Row} (ok : r.Ok) : ∀ e, e ≤ r.p.toNat → gsum (fun i => waterAt r (i % r.p.toNat)) e = (r.taps.map fun t => (t.take e).sum).sum
  | 0, _ => by
    simp only [gsum, List.range_zero, List.map_nil, List.sum_nil, List.take_zero]
    generalize r.taps = l
    induction l with
    | nil => rfl
    | cons x l ih => rw [List.map_cons, List.sum_cons, ← ih]; rfl
  | e + 1, h => by
    rw [gsum_succ, water_take ok e (by omega), Nat.mod_eq_of_lt (by omega)]
    unfold waterAt
    have ht : ∀ t ∈ r.taps, e < t.length := fun t ht => by have := (ok.taps t ht).1; omega
    generalize r.taps = l at ht
    induction l with
    | nil => rfl
    | cons t l ih =>
      have h1 := ih fun u hu => ht u (List.mem_cons_of_mem _ hu)
      have h2 := ht t List.mem_cons_self
      simp only [List.map_cons, List.sum_cons]
      have e1 : (t.take (e + 1)).sum = (t.take e).sum + t.getD e 0 := by
        rw [List.take_succ_eq_append_getElem h2, List.sum_append, List.getD_eq_getElem?_getD, List.getElem?_eq_getElem h2]
        simp
      omega
theorem given_sum {r : Row} {f : List Int} (ok : r.Ok) (n : Nat) : gsum (fun i => waterAt r (orb r (0, f) i).1) n = givenF r n := by
  have p0 : 0 < r.p.toNat := by have := ok.p1; omega
  have e1 : (fun i => waterAt r (orb r (0, f) i).1) = fun i => waterAt r (i % r.p.toNat) := funext fun i => by rw [orb_phase r f p0]
  rw [e1]
  have h := gsum_per (fun i => waterAt r (i % r.p.toNat)) r.p.toNat (fun i => by simp) (n % r.p.toNat) (n / r.p.toNat)
  have e2 : n / r.p.toNat * r.p.toNat + n % r.p.toNat = n := by
    rw [Nat.mul_comm]
    exact Nat.div_add_mod n r.p.toNat
  rw [e2] at h
  rw [h, water_take ok _ (Nat.le_refl _), water_take ok _ (Nat.le_of_lt (Nat.mod_lt _ p0))]
  unfold givenF
  congr 2
  congr 1
  apply List.map_congr_left
  intro t ht
  rw [List.take_of_length_le (by have := (ok.taps t ht).1; omega)]
end DL

set_option Elab.async false
set_option linter.all false
set_option maxRecDepth 100000
set_option maxHeartbeats 0
namespace DL
open PySem PySem.Spec L2
open PyProof.Rows hiding St
theorem last_col {r : Row} {f : List Int} (ok : r.Ok) (n : Nat) : atI ((tot 1 r f n).map D.int) (-1) = some (.int (gsum (fun i => lastP r (orb r (0, f) i)) n)) := by
  have n1 := ok.n1
  obtain ⟨k, hk⟩ : ∃ k, r.cups.length = k + 1 := ⟨r.cups.length - 1, by omega⟩
  unfold tot sumsF
  rw [hk, List.range_succ, List.map_append, List.map_append]
  simp only [List.map_cons, List.map_nil]
  rw [atI_last, colS_gsum]
  have e : (fun i => lastP r (orb r (0, f) i)) = fun i => (outW 1 r (orb r (0, f) i)).getD k 0 := funext fun i => by
    unfold lastP
    rw [hk]
    rfl
  rw [e]
theorem conserve {r : Row} {f : List Int} (ok : r.Ok) (hf : FillOk r.cups f) (n : Nat) : f.sum + givenF r n = (orb r (0, f) n).2.sum + (tot 2 r f n).sum + gsum (fun i => lastP r (orb r (0, f) i)) n := by
  have h := all_ticks ok hf n
  rw [given_sum ok] at h
  rw [sum_tot ok hf]
  exact h
theorem tot_more {w : Int} {r : Row} {f : List Int} {m k x : Nat} (h : k < m) (e : orb r (0, f) m = orb r (0, f) k) (hx : k ≤ x) (q j : Nat) :
    colS w r ((List.range (x + q * (m - k))).map (orb r (0, f))) j = colS w r ((List.range x).map (orb r (0, f))) j + (q : Int) * colS w r ((List.range (m - k)).map fun i => orb r (0, f) (k + i)) j := by
  obtain ⟨y, rfl⟩ : ∃ y, x = k + y := ⟨x - k, by omega⟩
  have e1 : k + y + q * (m - k) = k + (q * (m - k) + y) := by omega
  have e2 := tot_rounds (w := w) h e 0 y j
  rw [show k + (0 * (m - k) + y) = k + y by omega] at e2
  rw [e1, tot_rounds h e q y j, e2]
  simp
  omega
/-- whole periods lead to phase 0 -/
theorem orb_zero {r : Row} {f : List Int} (h : 0 < r.p.toNat) (c : Nat) : orb r (0, f) (c * r.p.toNat) = (0, (orb r (0, f) (c * r.p.toNat)).2) := by
  have := orb_phase r f h (c * r.p.toNat)
  rw [Nat.mul_mod_left] at this
  exact Prod.ext this rfl
theorem okd_intsD {n : Nat} (t : List Int) : okd (n + 1) (intsD t) = true := okd_ints
theorem cmp_intsD (t : List Int) : D.cmp (intsD t) = true := cmp_okd (okd_intsD t)
theorem eqv_intsD (t : List Int) : D.eqv (intsD t) (intsD t) = true := eqv_okd (okd_intsD t)
theorem cmp_intsL (t : List Int) : D.cmp (.lst (t.map .int)) = true := cmp_okd (d := .lst (t.map .int)) okd_ints
theorem eqv_intsL (t : List Int) : D.eqv (.lst (t.map .int)) (.lst (t.map .int)) = true := eqv_okd (d := .lst (t.map .int)) okd_ints
theorem seqOf_ints {t : List Int} {ρ : Ls} : seqOf (.d (intsD t)) ρ = some (t.map .int) := rfl
theorem seqOf_row {r : Row} {ρ : Ls} : seqOf (.d (rowD r)) ρ = some [.int r.p, .tup (r.cups.map cupD), .tup (r.taps.map intsD)] := rfl
theorem seqD_ints {t : List Int} : seqD (intsD t) = some (t.map .int) := rfl
theorem iteF_keep {p : Prop} [Decidable p] {A B : Prop} (hB : B) (hA : p → B → A) : iteF (decide p) A B := iteF_d (fun q => hA q hB) (fun _ => hB)
end DL

set_option Elab.async false
set_option linter.all false
set_option maxRecDepth 100000
set_option maxHeartbeats 0
namespace DL
open PySem PySem.Spec L2
open PyProof.Rows hiding St
def N_law : List Str := ["script", "k", "jar", "turn", "line", "load", "many", "there", "given", "gone", "lead", "ring", "more", "turns_so", "part", "base", "later", "due", "one", "two", "less"]
theorem sc_law : FnScope N_law ["script"] (defScope s_law) := ⟨rfl, rfl, rfl, by decide +kernel, rfl, by decide +kernel, by decide +kernel⟩
def t_law : DTS :=
    (dSeq (dFor (dRng1 (dCons (dD (dCB (ofD gMax2) (dCons (dC (.int 1)) (dCons (dD (dCB (ofD gMin2) (dCons (dC (.int 8)) (dCons (dD (dCB gLen (dCons (dVar 0) dNil))) dNil)))) dNil)))) dNil)) (gN1 1) (dSeq (dAsg (dCB (ofD (gN 2 sp__law_jar)) (dCons (dD (dVar 0)) (dCons (dD (dVar 1)) dNil))) (gN1 2))
      (dFor (dRng1 (dCons (dC (.int 2)) dNil)) (gN1 3) (dSeq (dAsg (dCB (jOf (jN 2 sp__law_line)) (dCons (dVar 2) (dCons (dC (.int 1000)) (dCons (dC (.int 3)) dNil)))) (gN1 4))
      (dSeq (dAsg (dCB (jOf (jN 1 sp__law_load)) (dCons (dVar 2) (dCons (dD (dVar 4)) dNil))) (gN1 5))
      (dSeq (dAsg (dCB (jOf (jN 1 sp__law_any)) (dCons (dVar 2) (dCons (dD (dLst (dCons (dD (dCB (jOf (jN 1 sp__law_drip)) (dCons (dVar 2) (dCons (dD (d2 fAdd (dD (d2 fPow (dD (dC (.int 10))) (dD (dC (.int 30))))) (dD (dC (.int 1))))) dNil)))) (dCons (dD (d2 fPow (dD (dC (.int 10))) (dD (dC (.int 30))))) dNil)))) dNil))) (gN1 6))
      (dSeq (dPar2 7 8 (dCons (dCB (ofD (gN 3 sp_behind)) (dCons (dD (dVar 4)) (dCons (dD (dVar 5)) (dCons (dD (dVar 6)) dNil)))) (dCons (dCB (ofD (gN 3 sp_poured)) (dCons (dD (dVar 4)) (dCons (dD (dVar 5)) (dCons (dD (dVar 6)) dNil)))) dNil)))
      (dSeq (dAsg (dCB (ofD (gN 3 sp_lost)) (dCons (dD (dVar 4)) (dCons (dD (dVar 5)) (dCons (dD (dVar 6)) dNil)))) (gN1 9))
      (dSeq (dIfS (dB (d2 cNe (dD (d2 fAdd (dD (dCB (gInts fSum) (dCons (dVar 5) dNil))) (dD (dCB (ofD (gN 2 sp__law_given)) (dCons (dD (dVar 4)) (dCons (dD (dVar 6)) dNil)))))) (dD (d2 fAdd (dD (d2 fAdd (dD (dCB (gInts fSum) (dCons (dVar 7) dNil))) (dD (dCB (gInts fSum) (dCons (dVar 9) dNil))))) (dD (dIx (dVar 8) (dNeg (dC (.int 1))))))))) (dRet (dC (.bl false))) dSkip)
      (dSeq (dAsg (dCB (ofD (gN 2 sp__law_loop)) (dCons (dD (dVar 4)) (dCons (dD (dVar 5)) dNil))) (gTupD 2 (gsCons (gN1 10) (gsCons (gN1 11) gsNil))))
      (dSeq (dIfS (dB (d2 cGe (dD (dVar 6)) (dD (dVar 10)))) (dIfS (dB (d2 cNe (dD (dVar 7)) (dD (dIx (dIx (dVar 11) (d2 fMod (dD (dCB (ofD gInt) (dCons (dD (d2 fSub (dD (dVar 6)) (dD (dVar 10)))) dNil))) (dD (dCB gLen (dCons (dVar 11) dNil))))) (dC (.int 1)))))) (dRet (dC (.bl false))) dSkip) dSkip)
      (dSeq (dAsg (d2 fMul (dD (dCB gLen (dCons (dVar 11) dNil))) (dD (dCB (jOf (jN 1 sp__law_drip)) (dCons (dVar 2) (dCons (dD (d2 fPow (dD (dC (.int 10))) (dD (dC (.int 6))))) dNil))))) (gN1 12))
      (dSeq (dAsg (dTup (dCons (dD (d2 fDiv (dD (dVar 12)) (dD (dCB gLen (dCons (dVar 11) dNil))))) (dCons (dD (d2 fMul (dD (d2 fMul (dD (dC (.int 60))) (dD (dIx (dVar 4) (dC (.int 0)))))) (dD (d2 fAdd (dD (dVar 10)) (dD (dC (.int 1))))))) dNil))) (gTupD 2 (gsCons (gN1 13) (gsCons (gN1 14) gsNil))))
      (dSeq (dPar2 15 16 (dCons (dCB (ofD (gN 3 sp_poured)) (dCons (dD (dVar 4)) (dCons (dD (dVar 5)) (dCons (dD (dVar 14)) dNil)))) (dCons (dCB (ofD (gN 3 sp_poured)) (dCons (dD (dVar 4)) (dCons (dD (dVar 5)) (dCons (dD (d2 fAdd (dD (dVar 14)) (dD (dVar 12)))) dNil)))) dNil)))
      (dSeq (dAsg (dLc (dZip2 (dCons (dD (dVar 15)) (dCons (dD (dCB (ofD (gN 2 sp__law_sum_of)) (dCons (dD (dVar 4)) (dCons (dD (dVar 11)) dNil)))) dNil))) (gTupD 2 (gsCons (gN1 18) (gsCons (gN1 19) gsNil))) dYes (dD (d2 fAdd (dD (dVar 18)) (dD (d2 fMul (dD (dVar 13)) (dD (dVar 19)))))) [18, 19]) (gN1 17))
      (dSeq (dIfS (dB (d2 cNe (dD (dCB gList (dCons (dVar 16) dNil))) (dD (dVar 17)))) (dRet (dC (.bl false))) dSkip)
      (dSeq (dAsg (d2 fDiv (dD (dVar 6)) (dD (dC (.int 2)))) (gN1 20))
      (dIfS (dB (d2 cNe (dD (dCB (ofD (gN 3 sp_behind)) (dCons (dD (dVar 4)) (dCons (dD (dCB (ofD (gN 3 sp_behind)) (dCons (dD (dVar 4)) (dCons (dD (dVar 5)) (dCons (dD (dVar 14)) dNil))))) (dCons (dD (dVar 20)) dNil))))) (dD (dCB (ofD (gN 3 sp_behind)) (dCons (dD (dVar 4)) (dCons (dD (dVar 5)) (dCons (dD (d2 fAdd (dD (dVar 20)) (dD (dVar 14)))) dNil))))))) (dRet (dC (.bl false))) dSkip))))))))))))))))))
      (dRet (d2 cEq (dD (dCB (ofD (gN 1 sp_tap_water)) (dCons (dD (dTup (dCons (dC (.int 2)) (dCons (dD (dTup (dCons (dD (dTup (dCons (dC (.int 4)) (dCons (dC (.int 4)) (dCons (dC (.int 0)) dNil))))) dNil))) (dCons (dD (dTup (dCons (dD (dTup (dCons (dC (.int 4)) (dCons (dC (.int 1)) dNil)))) dNil))) dNil))))) dNil))) (dD (dC (.int 5))))))
def sp_law : DFd := fun ds R => ∃ ns : List Int, ds = [.scr ns] ∧ ns.length ≤ 16777216 ∧ R (.d (.bl true))
theorem rd_law : ∀ ds R, ds.length = 1 → sp_law ds R → t_law { nx := fun _ => R (.d .non), rt := finP R } (startD N_law ds) := by
  rintro ds R - ⟨ns, rfl, hn, h⟩
  have b40 : (1000000 : Int) < 10 ^ 40 := by decide +kernel
  simp only [↓e_var, ↓e_C, ↓e_dD, ↓e_d2, ↓e_neg, ↓e_isN, ↓e_B, ↓e_And, ↓e_Or, ↓e_Not, ↓e_AndV, ↓e_OrV, ↓e_NotV, ↓e_IfE, ↓e_Chain, ↓e_Ix, ↓e_Sl, ↓e_No, ↓e_Part, ↓e_nil, ↓e_cons, ↓e_Tup, ↓e_Lst, ↓e_CB, ↓e_ofD, ↓e_jOf, ↓e_Len, ↓e_Ints, ↓e_fMax, ↓e_fMin, ↓e_Tuple, ↓e_List, ↓e_Bls, ↓e_Is, ↓e_seq, ↓e_skip, ↓e_ret, ↓e_drop, ↓e_ifS, ↓e_never, ↓e_asg, ↓e_par2, ↓e_par3, ↓e_App, ↓e_For, ↓e_While, ↓e_Iter, ↓e_Rng1, ↓e_Rng2, ↓e_Zip2, ↓e_Zip3, ↓e_Lc, ↓e_Yes, ↓e_Dn0, ↓e_DnIn, ↓e_DnGet, ↓e_Dn1, iteG_t, iteG_f, iteG_d, iteG_n, iteG_a, iteG_o, iteG_x, iteG_e, iteG_s, iteG_l, iteG_y, iteF_t, iteF_f, varF_d, varF_o, toD_d, toD_l, toD_a, toDF_d, toDF_l, d2F_d, fAdd_i, fAdd_s, fAdd_t, fAdd_l, fSub_i, fMul_i, fMulR_i, fMulR_t, fMulR_l, fDiv_i, fMod_i, fPow_i, negF_i, cLt_i, cLe_i, cGt_i, cGe_i, cEq_e, cNe_e, isNF_n, isNF_t, isNF_i, dBF_b, boF_b, notVF_b, ch2F_d, chF_d, seqOf_t, seqOf_l, seqOf_o, seqOf_s, seqOf_a, seqF_t, seqF_l, seqF_o, kindOf_t, kindOf_l, kindOf_o, kindOf_a, kindF_t, kindF_l, kindF_o, ixF2_s, ixF_s, slF_t, slF_f, partF_i, allD_n, allD_c, tupF_s, lstF_s, ofDF_s, gInt_i, gInt_b, gAbs_i, gMax2_i, gMin2_i, gN_e, jF_s, lenF_s, intsF2_s, intsF_s, fSum_e, gTF_s, gLF_s, blsF_s, blsF2_s, isF_s, isF2_s, tyn_i, tyn_b, tyn_t, tyn_l, tyn_s, tyn_n, k_ii, k_ib, k_tt, gN1_d, gN1_o, gN1_a, gaF_d, gaF_o, gTup_e, gs_n, gs_c, par2G_e, par2F_s, svOf_d, svOf_o, par3G_e, par3F_s, stF2_s, stF_s, stG_e, gStL_e, gOwn_e, owL_a, apG_e, apI_e, iterF_t, iterF_l, rng1F_e, rng2F_e, zip2F_s, zip2G_e, zip3F_s, zip3G_e, seqD_t, seqD_l, finP_d, finP_o, finP_a, finF_d, finF_o, finJF_d, finJF_o, finJ_d, finJ_o, startD_e, startJ_e, dnI_e, dnIH_e, dnGF_e, dnGetF_e, dnSF_e, dnSH_e, gStDn_e, dn1F_e, atI_0, atI_1, atI_2, ixN_2_0, ixN_2_1, appK_eq, cmp_i, eqv_ii, eqv_nn, cast1, cast2, cast3, List.map_cons, List.map_nil, List.append_nil, List.nil_append, List.cons_append, List.replicate_succ, List.replicate_zero, List.length_cons, List.length_nil, List.getElem?_cons_zero, List.getElem?_cons_succ, List.set_cons_zero, List.set_cons_succ, Option.map_some, Bool.not_true, Bool.not_false, Nat.reduceAdd, Nat.reduceSub, Nat.zero_add, Nat.add_zero, if_true, if_false, decide_true, decide_false, and_true, true_and, Nat.reduceLeDiff, Nat.sub_zero, Nat.sub_self, t_law, N_law]
  refine ⟨by rw [List.length_map]; (repeat' split) <;> omega, ?_⟩
  refine dLoop_rel (fun k : Nat => D.int (0 + (k : Int))) (fun l ρ => ∃ (z : List SV) (y : SV), z.length = 17 ∧ ρ = [SV.d (.scr ns)] ++ z ++ [.un, .un, y] ∧ ∀ k ∈ l, k ≤ 8) ?_ ?_ _ _ ⟨List.replicate 17 .un, .un, rfl, rfl, fun k hk => ?_⟩
  · rintro k l ρ ⟨z, y, hz, rfl, hk⟩ K hK
    match z, hz with
    | [z1, z2, z3, z4, z5, z6, z7, z8, z9, z10, z11, z12, z13, z14, z15, z16, z17], _ => ?_
    have hk8 := hk k List.mem_cons_self
    simp only [↓e_var, ↓e_C, ↓e_dD, ↓e_d2, ↓e_neg, ↓e_isN, ↓e_B, ↓e_And, ↓e_Or, ↓e_Not, ↓e_AndV, ↓e_OrV, ↓e_NotV, ↓e_IfE, ↓e_Chain, ↓e_Ix, ↓e_Sl, ↓e_No, ↓e_Part, ↓e_nil, ↓e_cons, ↓e_Tup, ↓e_Lst, ↓e_CB, ↓e_ofD, ↓e_jOf, ↓e_Len, ↓e_Ints, ↓e_fMax, ↓e_fMin, ↓e_Tuple, ↓e_List, ↓e_Bls, ↓e_Is, ↓e_seq, ↓e_skip, ↓e_ret, ↓e_drop, ↓e_ifS, ↓e_never, ↓e_asg, ↓e_par2, ↓e_par3, ↓e_App, ↓e_For, ↓e_While, ↓e_Iter, ↓e_Rng1, ↓e_Rng2, ↓e_Zip2, ↓e_Zip3, ↓e_Lc, ↓e_Yes, ↓e_Dn0, ↓e_DnIn, ↓e_DnGet, ↓e_Dn1, iteG_t, iteG_f, iteG_d, iteG_n, iteG_a, iteG_o, iteG_x, iteG_e, iteG_s, iteG_l, iteG_y, iteF_t, iteF_f, varF_d, varF_o, toD_d, toD_l, toD_a, toDF_d, toDF_l, d2F_d, fAdd_i, fAdd_s, fAdd_t, fAdd_l, fSub_i, fMul_i, fMulR_i, fMulR_t, fMulR_l, fDiv_i, fMod_i, fPow_i, negF_i, cLt_i, cLe_i, cGt_i, cGe_i, cEq_e, cNe_e, isNF_n, isNF_t, isNF_i, dBF_b, boF_b, notVF_b, ch2F_d, chF_d, seqOf_t, seqOf_l, seqOf_o, seqOf_s, seqOf_a, seqF_t, seqF_l, seqF_o, kindOf_t, kindOf_l, kindOf_o, kindOf_a, kindF_t, kindF_l, kindF_o, ixF2_s, ixF_s, slF_t, slF_f, partF_i, allD_n, allD_c, tupF_s, lstF_s, ofDF_s, gInt_i, gInt_b, gAbs_i, gMax2_i, gMin2_i, gN_e, jF_s, lenF_s, intsF2_s, intsF_s, fSum_e, gTF_s, gLF_s, blsF_s, blsF2_s, isF_s, isF2_s, tyn_i, tyn_b, tyn_t, tyn_l, tyn_s, tyn_n, k_ii, k_ib, k_tt, gN1_d, gN1_o, gN1_a, gaF_d, gaF_o, gTup_e, gs_n, gs_c, par2G_e, par2F_s, svOf_d, svOf_o, par3G_e, par3F_s, stF2_s, stF_s, stG_e, gStL_e, gOwn_e, owL_a, apG_e, apI_e, iterF_t, iterF_l, rng1F_e, rng2F_e, zip2F_s, zip2G_e, zip3F_s, zip3G_e, seqD_t, seqD_l, finP_d, finP_o, finP_a, finF_d, finF_o, finJF_d, finJF_o, finJ_d, finJ_o, startD_e, startJ_e, dnI_e, dnIH_e, dnGF_e, dnGetF_e, dnSF_e, dnSH_e, gStDn_e, dn1F_e, atI_0, atI_1, atI_2, ixN_2_0, ixN_2_1, appK_eq, cmp_i, eqv_ii, eqv_nn, cast1, cast2, cast3, List.map_cons, List.map_nil, List.append_nil, List.nil_append, List.cons_append, List.replicate_succ, List.replicate_zero, List.length_cons, List.length_nil, List.getElem?_cons_zero, List.getElem?_cons_succ, List.set_cons_zero, List.set_cons_succ, Option.map_some, Bool.not_true, Bool.not_false, Nat.reduceAdd, Nat.reduceSub, Nat.zero_add, Nat.add_zero, if_true, if_false, decide_true, decide_false, and_true, true_and, Nat.reduceLeDiff, Nat.sub_zero, Nat.sub_self]
    refine ⟨rfl, ns, _, rfl, by omega, by omega, fun a b jo => ?_⟩
    simp only [↓e_var, ↓e_C, ↓e_dD, ↓e_d2, ↓e_neg, ↓e_isN, ↓e_B, ↓e_And, ↓e_Or, ↓e_Not, ↓e_AndV, ↓e_OrV, ↓e_NotV, ↓e_IfE, ↓e_Chain, ↓e_Ix, ↓e_Sl, ↓e_No, ↓e_Part, ↓e_nil, ↓e_cons, ↓e_Tup, ↓e_Lst, ↓e_CB, ↓e_ofD, ↓e_jOf, ↓e_Len, ↓e_Ints, ↓e_fMax, ↓e_fMin, ↓e_Tuple, ↓e_List, ↓e_Bls, ↓e_Is, ↓e_seq, ↓e_skip, ↓e_ret, ↓e_drop, ↓e_ifS, ↓e_never, ↓e_asg, ↓e_par2, ↓e_par3, ↓e_App, ↓e_For, ↓e_While, ↓e_Iter, ↓e_Rng1, ↓e_Rng2, ↓e_Zip2, ↓e_Zip3, ↓e_Lc, ↓e_Yes, ↓e_Dn0, ↓e_DnIn, ↓e_DnGet, ↓e_Dn1, iteG_t, iteG_f, iteG_d, iteG_n, iteG_a, iteG_o, iteG_x, iteG_e, iteG_s, iteG_l, iteG_y, iteF_t, iteF_f, varF_d, varF_o, toD_d, toD_l, toD_a, toDF_d, toDF_l, d2F_d, fAdd_i, fAdd_s, fAdd_t, fAdd_l, fSub_i, fMul_i, fMulR_i, fMulR_t, fMulR_l, fDiv_i, fMod_i, fPow_i, negF_i, cLt_i, cLe_i, cGt_i, cGe_i, cEq_e, cNe_e, isNF_n, isNF_t, isNF_i, dBF_b, boF_b, notVF_b, ch2F_d, chF_d, seqOf_t, seqOf_l, seqOf_o, seqOf_s, seqOf_a, seqF_t, seqF_l, seqF_o, kindOf_t, kindOf_l, kindOf_o, kindOf_a, kindF_t, kindF_l, kindF_o, ixF2_s, ixF_s, slF_t, slF_f, partF_i, allD_n, allD_c, tupF_s, lstF_s, ofDF_s, gInt_i, gInt_b, gAbs_i, gMax2_i, gMin2_i, gN_e, jF_s, lenF_s, intsF2_s, intsF_s, fSum_e, gTF_s, gLF_s, blsF_s, blsF2_s, isF_s, isF2_s, tyn_i, tyn_b, tyn_t, tyn_l, tyn_s, tyn_n, k_ii, k_ib, k_tt, gN1_d, gN1_o, gN1_a, gaF_d, gaF_o, gTup_e, gs_n, gs_c, par2G_e, par2F_s, svOf_d, svOf_o, par3G_e, par3F_s, stF2_s, stF_s, stG_e, gStL_e, gOwn_e, owL_a, apG_e, apI_e, iterF_t, iterF_l, rng1F_e, rng2F_e, zip2F_s, zip2G_e, zip3F_s, zip3G_e, seqD_t, seqD_l, finP_d, finP_o, finP_a, finF_d, finF_o, finJF_d, finJF_o, finJ_d, finJ_o, startD_e, startJ_e, dnI_e, dnIH_e, dnGF_e, dnGetF_e, dnSF_e, dnSH_e, gStDn_e, dn1F_e, atI_0, atI_1, atI_2, ixN_2_0, ixN_2_1, appK_eq, cmp_i, eqv_ii, eqv_nn, cast1, cast2, cast3, List.map_cons, List.map_nil, List.append_nil, List.nil_append, List.cons_append, List.replicate_succ, List.replicate_zero, List.length_cons, List.length_nil, List.getElem?_cons_zero, List.getElem?_cons_succ, List.set_cons_zero, List.set_cons_succ, Option.map_some, Bool.not_true, Bool.not_false, Nat.reduceAdd, Nat.reduceSub, Nat.zero_add, Nat.add_zero, if_true, if_false, decide_true, decide_false, and_true, true_and, Nat.reduceLeDiff, Nat.sub_zero, Nat.sub_self, jarO]
    refine ⟨by decide, ?_⟩
    refine dLoop_rel (fun k : Nat => D.int (0 + (k : Int))) (fun l' ρ => ∃ (a b : Int) (z : List SV) (y : SV), JarOk a b ∧ z.length = 15 ∧ ρ = [SV.d (.scr ns), .d (.int (0 + (k : Int))), .ow (.lst [.int a, .int b])] ++ z ++ [.un, .un, y]) ?_ ?_ _ _ ⟨a, b, [z3, z4, z5, z6, z7, z8, z9, z10, z11, z12, z13, z14, z15, z16, z17], y, jo, rfl, rfl⟩
    · rintro k' l' ρ ⟨a, b, z, y, jo, hz, rfl⟩ K' hK'
      match z, hz with
      | [z3, z4, z5, z6, z7, z8, z9, z10, z11, z12, z13, z14, z15, z16, z17], _ => ?_
      simp only [↓e_var, ↓e_C, ↓e_dD, ↓e_d2, ↓e_neg, ↓e_isN, ↓e_B, ↓e_And, ↓e_Or, ↓e_Not, ↓e_AndV, ↓e_OrV, ↓e_NotV, ↓e_IfE, ↓e_Chain, ↓e_Ix, ↓e_Sl, ↓e_No, ↓e_Part, ↓e_nil, ↓e_cons, ↓e_Tup, ↓e_Lst, ↓e_CB, ↓e_ofD, ↓e_jOf, ↓e_Len, ↓e_Ints, ↓e_fMax, ↓e_fMin, ↓e_Tuple, ↓e_List, ↓e_Bls, ↓e_Is, ↓e_seq, ↓e_skip, ↓e_ret, ↓e_drop, ↓e_ifS, ↓e_never, ↓e_asg, ↓e_par2, ↓e_par3, ↓e_App, ↓e_For, ↓e_While, ↓e_Iter, ↓e_Rng1, ↓e_Rng2, ↓e_Zip2, ↓e_Zip3, ↓e_Lc, ↓e_Yes, ↓e_Dn0, ↓e_DnIn, ↓e_DnGet, ↓e_Dn1, iteG_t, iteG_f, iteG_d, iteG_n, iteG_a, iteG_o, iteG_x, iteG_e, iteG_s, iteG_l, iteG_y, iteF_t, iteF_f, varF_d, varF_o, toD_d, toD_l, toD_a, toDF_d, toDF_l, d2F_d, fAdd_i, fAdd_s, fAdd_t, fAdd_l, fSub_i, fMul_i, fMulR_i, fMulR_t, fMulR_l, fDiv_i, fMod_i, fPow_i, negF_i, cLt_i, cLe_i, cGt_i, cGe_i, cEq_e, cNe_e, isNF_n, isNF_t, isNF_i, dBF_b, boF_b, notVF_b, ch2F_d, chF_d, seqOf_t, seqOf_l, seqOf_o, seqOf_s, seqOf_a, seqF_t, seqF_l, seqF_o, kindOf_t, kindOf_l, kindOf_o, kindOf_a, kindF_t, kindF_l, kindF_o, ixF2_s, ixF_s, slF_t, slF_f, partF_i, allD_n, allD_c, tupF_s, lstF_s, ofDF_s, gInt_i, gInt_b, gAbs_i, gMax2_i, gMin2_i, gN_e, jF_s, lenF_s, intsF2_s, intsF_s, fSum_e, gTF_s, gLF_s, blsF_s, blsF2_s, isF_s, isF2_s, tyn_i, tyn_b, tyn_t, tyn_l, tyn_s, tyn_n, k_ii, k_ib, k_tt, gN1_d, gN1_o, gN1_a, gaF_d, gaF_o, gTup_e, gs_n, gs_c, par2G_e, par2F_s, svOf_d, svOf_o, par3G_e, par3F_s, stF2_s, stF_s, stG_e, gStL_e, gOwn_e, owL_a, apG_e, apI_e, iterF_t, iterF_l, rng1F_e, rng2F_e, zip2F_s, zip2G_e, zip3F_s, zip3G_e, seqD_t, seqD_l, finP_d, finP_o, finP_a, finF_d, finF_o, finJF_d, finJF_o, finJ_d, finJ_o, startD_e, startJ_e, dnI_e, dnIH_e, dnGF_e, dnGetF_e, dnSF_e, dnSH_e, gStDn_e, dn1F_e, atI_0, atI_1, atI_2, ixN_2_0, ixN_2_1, appK_eq, cmp_i, eqv_ii, eqv_nn, cast1, cast2, cast3, List.map_cons, List.map_nil, List.append_nil, List.nil_append, List.cons_append, List.replicate_succ, List.replicate_zero, List.length_cons, List.length_nil, List.getElem?_cons_zero, List.getElem?_cons_succ, List.set_cons_zero, List.set_cons_succ, Option.map_some, Bool.not_true, Bool.not_false, Nat.reduceAdd, Nat.reduceSub, Nat.zero_add, Nat.add_zero, if_true, if_false, decide_true, decide_false, and_true, true_and, Nat.reduceLeDiff, Nat.sub_zero, Nat.sub_self]
      refine ⟨rfl, a, b, _, _, rfl, rfl, jo, by decide, by decide, by decide, by decide, fun r ok hkn a b jo => ?_⟩
      simp only [↓e_var, ↓e_C, ↓e_dD, ↓e_d2, ↓e_neg, ↓e_isN, ↓e_B, ↓e_And, ↓e_Or, ↓e_Not, ↓e_AndV, ↓e_OrV, ↓e_NotV, ↓e_IfE, ↓e_Chain, ↓e_Ix, ↓e_Sl, ↓e_No, ↓e_Part, ↓e_nil, ↓e_cons, ↓e_Tup, ↓e_Lst, ↓e_CB, ↓e_ofD, ↓e_jOf, ↓e_Len, ↓e_Ints, ↓e_fMax, ↓e_fMin, ↓e_Tuple, ↓e_List, ↓e_Bls, ↓e_Is, ↓e_seq, ↓e_skip, ↓e_ret, ↓e_drop, ↓e_ifS, ↓e_never, ↓e_asg, ↓e_par2, ↓e_par3, ↓e_App, ↓e_For, ↓e_While, ↓e_Iter, ↓e_Rng1, ↓e_Rng2, ↓e_Zip2, ↓e_Zip3, ↓e_Lc, ↓e_Yes, ↓e_Dn0, ↓e_DnIn, ↓e_DnGet, ↓e_Dn1, iteG_t, iteG_f, iteG_d, iteG_n, iteG_a, iteG_o, iteG_x, iteG_e, iteG_s, iteG_l, iteG_y, iteF_t, iteF_f, varF_d, varF_o, toD_d, toD_l, toD_a, toDF_d, toDF_l, d2F_d, fAdd_i, fAdd_s, fAdd_t, fAdd_l, fSub_i, fMul_i, fMulR_i, fMulR_t, fMulR_l, fDiv_i, fMod_i, fPow_i, negF_i, cLt_i, cLe_i, cGt_i, cGe_i, cEq_e, cNe_e, isNF_n, isNF_t, isNF_i, dBF_b, boF_b, notVF_b, ch2F_d, chF_d, seqOf_t, seqOf_l, seqOf_o, seqOf_s, seqOf_a, seqF_t, seqF_l, seqF_o, kindOf_t, kindOf_l, kindOf_o, kindOf_a, kindF_t, kindF_l, kindF_o, ixF2_s, ixF_s, slF_t, slF_f, partF_i, allD_n, allD_c, tupF_s, lstF_s, ofDF_s, gInt_i, gInt_b, gAbs_i, gMax2_i, gMin2_i, gN_e, jF_s, lenF_s, intsF2_s, intsF_s, fSum_e, gTF_s, gLF_s, blsF_s, blsF2_s, isF_s, isF2_s, tyn_i, tyn_b, tyn_t, tyn_l, tyn_s, tyn_n, k_ii, k_ib, k_tt, gN1_d, gN1_o, gN1_a, gaF_d, gaF_o, gTup_e, gs_n, gs_c, par2G_e, par2F_s, svOf_d, svOf_o, par3G_e, par3F_s, stF2_s, stF_s, stG_e, gStL_e, gOwn_e, owL_a, apG_e, apI_e, iterF_t, iterF_l, rng1F_e, rng2F_e, zip2F_s, zip2G_e, zip3F_s, zip3G_e, seqD_t, seqD_l, finP_d, finP_o, finP_a, finF_d, finF_o, finJF_d, finJF_o, finJ_d, finJ_o, startD_e, startJ_e, dnI_e, dnIH_e, dnGF_e, dnGetF_e, dnSF_e, dnSH_e, gStDn_e, dn1F_e, atI_0, atI_1, atI_2, ixN_2_0, ixN_2_1, appK_eq, cmp_i, eqv_ii, eqv_nn, cast1, cast2, cast3, List.map_cons, List.map_nil, List.append_nil, List.nil_append, List.cons_append, List.replicate_succ, List.replicate_zero, List.length_cons, List.length_nil, List.getElem?_cons_zero, List.getElem?_cons_succ, List.set_cons_zero, List.set_cons_succ, Option.map_some, Bool.not_true, Bool.not_false, Nat.reduceAdd, Nat.reduceSub, Nat.zero_add, Nat.add_zero, if_true, if_false, decide_true, decide_false, and_true, true_and, Nat.reduceLeDiff, Nat.sub_zero, Nat.sub_self, jarO]
      refine ⟨rfl, a, b, r, rfl, rfl, jo, ok, fun f hf a b jo => ?_⟩
      simp only [↓e_var, ↓e_C, ↓e_dD, ↓e_d2, ↓e_neg, ↓e_isN, ↓e_B, ↓e_And, ↓e_Or, ↓e_Not, ↓e_AndV, ↓e_OrV, ↓e_NotV, ↓e_IfE, ↓e_Chain, ↓e_Ix, ↓e_Sl, ↓e_No, ↓e_Part, ↓e_nil, ↓e_cons, ↓e_Tup, ↓e_Lst, ↓e_CB, ↓e_ofD, ↓e_jOf, ↓e_Len, ↓e_Ints, ↓e_fMax, ↓e_fMin, ↓e_Tuple, ↓e_List, ↓e_Bls, ↓e_Is, ↓e_seq, ↓e_skip, ↓e_ret, ↓e_drop, ↓e_ifS, ↓e_never, ↓e_asg, ↓e_par2, ↓e_par3, ↓e_App, ↓e_For, ↓e_While, ↓e_Iter, ↓e_Rng1, ↓e_Rng2, ↓e_Zip2, ↓e_Zip3, ↓e_Lc, ↓e_Yes, ↓e_Dn0, ↓e_DnIn, ↓e_DnGet, ↓e_Dn1, iteG_t, iteG_f, iteG_d, iteG_n, iteG_a, iteG_o, iteG_x, iteG_e, iteG_s, iteG_l, iteG_y, iteF_t, iteF_f, varF_d, varF_o, toD_d, toD_l, toD_a, toDF_d, toDF_l, d2F_d, fAdd_i, fAdd_s, fAdd_t, fAdd_l, fSub_i, fMul_i, fMulR_i, fMulR_t, fMulR_l, fDiv_i, fMod_i, fPow_i, negF_i, cLt_i, cLe_i, cGt_i, cGe_i, cEq_e, cNe_e, isNF_n, isNF_t, isNF_i, dBF_b, boF_b, notVF_b, ch2F_d, chF_d, seqOf_t, seqOf_l, seqOf_o, seqOf_s, seqOf_a, seqF_t, seqF_l, seqF_o, kindOf_t, kindOf_l, kindOf_o, kindOf_a, kindF_t, kindF_l, kindF_o, ixF2_s, ixF_s, slF_t, slF_f, partF_i, allD_n, allD_c, tupF_s, lstF_s, ofDF_s, gInt_i, gInt_b, gAbs_i, gMax2_i, gMin2_i, gN_e, jF_s, lenF_s, intsF2_s, intsF_s, fSum_e, gTF_s, gLF_s, blsF_s, blsF2_s, isF_s, isF2_s, tyn_i, tyn_b, tyn_t, tyn_l, tyn_s, tyn_n, k_ii, k_ib, k_tt, gN1_d, gN1_o, gN1_a, gaF_d, gaF_o, gTup_e, gs_n, gs_c, par2G_e, par2F_s, svOf_d, svOf_o, par3G_e, par3F_s, stF2_s, stF_s, stG_e, gStL_e, gOwn_e, owL_a, apG_e, apI_e, iterF_t, iterF_l, rng1F_e, rng2F_e, zip2F_s, zip2G_e, zip3F_s, zip3G_e, seqD_t, seqD_l, finP_d, finP_o, finP_a, finF_d, finF_o, finJF_d, finJF_o, finJ_d, finJ_o, startD_e, startJ_e, dnI_e, dnIH_e, dnGF_e, dnGetF_e, dnSF_e, dnSH_e, gStDn_e, dn1F_e, atI_0, atI_1, atI_2, ixN_2_0, ixN_2_1, appK_eq, cmp_i, eqv_ii, eqv_nn, cast1, cast2, cast3, List.map_cons, List.map_nil, List.append_nil, List.nil_append, List.cons_append, List.replicate_succ, List.replicate_zero, List.length_cons, List.length_nil, List.getElem?_cons_zero, List.getElem?_cons_succ, List.set_cons_zero, List.set_cons_succ, Option.map_some, Bool.not_true, Bool.not_false, Nat.reduceAdd, Nat.reduceSub, Nat.zero_add, Nat.add_zero, if_true, if_false, decide_true, decide_false, and_true, true_and, Nat.reduceLeDiff, Nat.sub_zero, Nat.sub_self, jarO]
      have c30 : CPow 10 30 := CPow.small (by decide) (by decide) (by decide)
      have c6 : CPow 10 6 := CPow.small (by decide) (by decide) (by decide)
      have p30 : (10 : Int) ^ Int.toNat 30 = 10 ^ 30 := rfl
      have p6 : (10 : Int) ^ Int.toNat 6 = 1000000 := rfl
      have b30 : (10 : Int) ^ 30 + 1 ≤ 10 ^ 40 := by decide +kernel
      have b30p : (1000000 : Int) < 10 ^ 30 := by decide +kernel
      have n30 : ((10 ^ 30 : Nat) : Int) = 10 ^ 30 := by decide +kernel
      rw [p30]
      refine ⟨c30, draw jo (by omega) b30 (fun v a b v0 v1 jo => ?_)⟩
      simp only [↓e_var, ↓e_C, ↓e_dD, ↓e_d2, ↓e_neg, ↓e_isN, ↓e_B, ↓e_And, ↓e_Or, ↓e_Not, ↓e_AndV, ↓e_OrV, ↓e_NotV, ↓e_IfE, ↓e_Chain, ↓e_Ix, ↓e_Sl, ↓e_No, ↓e_Part, ↓e_nil, ↓e_cons, ↓e_Tup, ↓e_Lst, ↓e_CB, ↓e_ofD, ↓e_jOf, ↓e_Len, ↓e_Ints, ↓e_fMax, ↓e_fMin, ↓e_Tuple, ↓e_List, ↓e_Bls, ↓e_Is, ↓e_seq, ↓e_skip, ↓e_ret, ↓e_drop, ↓e_ifS, ↓e_never, ↓e_asg, ↓e_par2, ↓e_par3, ↓e_App, ↓e_For, ↓e_While, ↓e_Iter, ↓e_Rng1, ↓e_Rng2, ↓e_Zip2, ↓e_Zip3, ↓e_Lc, ↓e_Yes, ↓e_Dn0, ↓e_DnIn, ↓e_DnGet, ↓e_Dn1, iteG_t, iteG_f, iteG_d, iteG_n, iteG_a, iteG_o, iteG_x, iteG_e, iteG_s, iteG_l, iteG_y, iteF_t, iteF_f, varF_d, varF_o, toD_d, toD_l, toD_a, toDF_d, toDF_l, d2F_d, fAdd_i, fAdd_s, fAdd_t, fAdd_l, fSub_i, fMul_i, fMulR_i, fMulR_t, fMulR_l, fDiv_i, fMod_i, fPow_i, negF_i, cLt_i, cLe_i, cGt_i, cGe_i, cEq_e, cNe_e, isNF_n, isNF_t, isNF_i, dBF_b, boF_b, notVF_b, ch2F_d, chF_d, seqOf_t, seqOf_l, seqOf_o, seqOf_s, seqOf_a, seqF_t, seqF_l, seqF_o, kindOf_t, kindOf_l, kindOf_o, kindOf_a, kindF_t, kindF_l, kindF_o, ixF2_s, ixF_s, slF_t, slF_f, partF_i, allD_n, allD_c, tupF_s, lstF_s, ofDF_s, gInt_i, gInt_b, gAbs_i, gMax2_i, gMin2_i, gN_e, jF_s, lenF_s, intsF2_s, intsF_s, fSum_e, gTF_s, gLF_s, blsF_s, blsF2_s, isF_s, isF2_s, tyn_i, tyn_b, tyn_t, tyn_l, tyn_s, tyn_n, k_ii, k_ib, k_tt, gN1_d, gN1_o, gN1_a, gaF_d, gaF_o, gTup_e, gs_n, gs_c, par2G_e, par2F_s, svOf_d, svOf_o, par3G_e, par3F_s, stF2_s, stF_s, stG_e, gStL_e, gOwn_e, owL_a, apG_e, apI_e, iterF_t, iterF_l, rng1F_e, rng2F_e, zip2F_s, zip2G_e, zip3F_s, zip3G_e, seqD_t, seqD_l, finP_d, finP_o, finP_a, finF_d, finF_o, finJF_d, finJF_o, finJ_d, finJ_o, startD_e, startJ_e, dnI_e, dnIH_e, dnGF_e, dnGetF_e, dnSF_e, dnSH_e, gStDn_e, dn1F_e, atI_0, atI_1, atI_2, ixN_2_0, ixN_2_1, appK_eq, cmp_i, eqv_ii, eqv_nn, cast1, cast2, cast3, List.map_cons, List.map_nil, List.append_nil, List.nil_append, List.cons_append, List.replicate_succ, List.replicate_zero, List.length_cons, List.length_nil, List.getElem?_cons_zero, List.getElem?_cons_succ, List.set_cons_zero, List.set_cons_succ, Option.map_some, Bool.not_true, Bool.not_false, Nat.reduceAdd, Nat.reduceSub, Nat.zero_add, Nat.add_zero, if_true, if_false, decide_true, decide_false, and_true, true_and, Nat.reduceLeDiff, Nat.sub_zero, Nat.sub_self, jarO, p30]
      refine ⟨c30, drawAny rfl jo (by simp) (by simp) (fun w hw a b jo => ?_)⟩
      have hw' : ∃ n : Nat, w = .int (n : Nat) ∧ n ≤ 10 ^ 30 := by
        simp only [List.mem_cons, List.not_mem_nil, or_false] at hw
        rcases hw with rfl | rfl
        · exact ⟨v.toNat, by rw [Int.toNat_of_nonneg v0], by omega⟩
        · exact ⟨10 ^ 30, by rw [n30], Nat.le_refl _⟩
      obtain ⟨n, rfl, hn30⟩ := hw'
      simp only [↓e_var, ↓e_C, ↓e_dD, ↓e_d2, ↓e_neg, ↓e_isN, ↓e_B, ↓e_And, ↓e_Or, ↓e_Not, ↓e_AndV, ↓e_OrV, ↓e_NotV, ↓e_IfE, ↓e_Chain, ↓e_Ix, ↓e_Sl, ↓e_No, ↓e_Part, ↓e_nil, ↓e_cons, ↓e_Tup, ↓e_Lst, ↓e_CB, ↓e_ofD, ↓e_jOf, ↓e_Len, ↓e_Ints, ↓e_fMax, ↓e_fMin, ↓e_Tuple, ↓e_List, ↓e_Bls, ↓e_Is, ↓e_seq, ↓e_skip, ↓e_ret, ↓e_drop, ↓e_ifS, ↓e_never, ↓e_asg, ↓e_par2, ↓e_par3, ↓e_App, ↓e_For, ↓e_While, ↓e_Iter, ↓e_Rng1, ↓e_Rng2, ↓e_Zip2, ↓e_Zip3, ↓e_Lc, ↓e_Yes, ↓e_Dn0, ↓e_DnIn, ↓e_DnGet, ↓e_Dn1, iteG_t, iteG_f, iteG_d, iteG_n, iteG_a, iteG_o, iteG_x, iteG_e, iteG_s, iteG_l, iteG_y, iteF_t, iteF_f, varF_d, varF_o, toD_d, toD_l, toD_a, toDF_d, toDF_l, d2F_d, fAdd_i, fAdd_s, fAdd_t, fAdd_l, fSub_i, fMul_i, fMulR_i, fMulR_t, fMulR_l, fDiv_i, fMod_i, fPow_i, negF_i, cLt_i, cLe_i, cGt_i, cGe_i, cEq_e, cNe_e, isNF_n, isNF_t, isNF_i, dBF_b, boF_b, notVF_b, ch2F_d, chF_d, seqOf_t, seqOf_l, seqOf_o, seqOf_s, seqOf_a, seqF_t, seqF_l, seqF_o, kindOf_t, kindOf_l, kindOf_o, kindOf_a, kindF_t, kindF_l, kindF_o, ixF2_s, ixF_s, slF_t, slF_f, partF_i, allD_n, allD_c, tupF_s, lstF_s, ofDF_s, gInt_i, gInt_b, gAbs_i, gMax2_i, gMin2_i, gN_e, jF_s, lenF_s, intsF2_s, intsF_s, fSum_e, gTF_s, gLF_s, blsF_s, blsF2_s, isF_s, isF2_s, tyn_i, tyn_b, tyn_t, tyn_l, tyn_s, tyn_n, k_ii, k_ib, k_tt, gN1_d, gN1_o, gN1_a, gaF_d, gaF_o, gTup_e, gs_n, gs_c, par2G_e, par2F_s, svOf_d, svOf_o, par3G_e, par3F_s, stF2_s, stF_s, stG_e, gStL_e, gOwn_e, owL_a, apG_e, apI_e, iterF_t, iterF_l, rng1F_e, rng2F_e, zip2F_s, zip2G_e, zip3F_s, zip3G_e, seqD_t, seqD_l, finP_d, finP_o, finP_a, finF_d, finF_o, finJF_d, finJF_o, finJ_d, finJ_o, startD_e, startJ_e, dnI_e, dnIH_e, dnGF_e, dnGetF_e, dnSF_e, dnSH_e, gStDn_e, dn1F_e, atI_0, atI_1, atI_2, ixN_2_0, ixN_2_1, appK_eq, cmp_i, eqv_ii, eqv_nn, cast1, cast2, cast3, List.map_cons, List.map_nil, List.append_nil, List.nil_append, List.cons_append, List.replicate_succ, List.replicate_zero, List.length_cons, List.length_nil, List.getElem?_cons_zero, List.getElem?_cons_succ, List.set_cons_zero, List.set_cons_succ, Option.map_some, Bool.not_true, Bool.not_false, Nat.reduceAdd, Nat.reduceSub, Nat.zero_add, Nat.add_zero, if_true, if_false, decide_true, decide_false, and_true, true_and, Nat.reduceLeDiff, Nat.sub_zero, Nat.sub_self, jarO]
      refine ⟨rfl, r, f, n, rfl, ok, hf, hn30, ?_⟩
      simp only [↓e_var, ↓e_C, ↓e_dD, ↓e_d2, ↓e_neg, ↓e_isN, ↓e_B, ↓e_And, ↓e_Or, ↓e_Not, ↓e_AndV, ↓e_OrV, ↓e_NotV, ↓e_IfE, ↓e_Chain, ↓e_Ix, ↓e_Sl, ↓e_No, ↓e_Part, ↓e_nil, ↓e_cons, ↓e_Tup, ↓e_Lst, ↓e_CB, ↓e_ofD, ↓e_jOf, ↓e_Len, ↓e_Ints, ↓e_fMax, ↓e_fMin, ↓e_Tuple, ↓e_List, ↓e_Bls, ↓e_Is, ↓e_seq, ↓e_skip, ↓e_ret, ↓e_drop, ↓e_ifS, ↓e_never, ↓e_asg, ↓e_par2, ↓e_par3, ↓e_App, ↓e_For, ↓e_While, ↓e_Iter, ↓e_Rng1, ↓e_Rng2, ↓e_Zip2, ↓e_Zip3, ↓e_Lc, ↓e_Yes, ↓e_Dn0, ↓e_DnIn, ↓e_DnGet, ↓e_Dn1, iteG_t, iteG_f, iteG_d, iteG_n, iteG_a, iteG_o, iteG_x, iteG_e, iteG_s, iteG_l, iteG_y, iteF_t, iteF_f, varF_d, varF_o, toD_d, toD_l, toD_a, toDF_d, toDF_l, d2F_d, fAdd_i, fAdd_s, fAdd_t, fAdd_l, fSub_i, fMul_i, fMulR_i, fMulR_t, fMulR_l, fDiv_i, fMod_i, fPow_i, negF_i, cLt_i, cLe_i, cGt_i, cGe_i, cEq_e, cNe_e, isNF_n, isNF_t, isNF_i, dBF_b, boF_b, notVF_b, ch2F_d, chF_d, seqOf_t, seqOf_l, seqOf_o, seqOf_s, seqOf_a, seqF_t, seqF_l, seqF_o, kindOf_t, kindOf_l, kindOf_o, kindOf_a, kindF_t, kindF_l, kindF_o, ixF2_s, ixF_s, slF_t, slF_f, partF_i, allD_n, allD_c, tupF_s, lstF_s, ofDF_s, gInt_i, gInt_b, gAbs_i, gMax2_i, gMin2_i, gN_e, jF_s, lenF_s, intsF2_s, intsF_s, fSum_e, gTF_s, gLF_s, blsF_s, blsF2_s, isF_s, isF2_s, tyn_i, tyn_b, tyn_t, tyn_l, tyn_s, tyn_n, k_ii, k_ib, k_tt, gN1_d, gN1_o, gN1_a, gaF_d, gaF_o, gTup_e, gs_n, gs_c, par2G_e, par2F_s, svOf_d, svOf_o, par3G_e, par3F_s, stF2_s, stF_s, stG_e, gStL_e, gOwn_e, owL_a, apG_e, apI_e, iterF_t, iterF_l, rng1F_e, rng2F_e, zip2F_s, zip2G_e, zip3F_s, zip3G_e, seqD_t, seqD_l, finP_d, finP_o, finP_a, finF_d, finF_o, finJF_d, finJF_o, finJ_d, finJ_o, startD_e, startJ_e, dnI_e, dnIH_e, dnGF_e, dnGetF_e, dnSF_e, dnSH_e, gStDn_e, dn1F_e, atI_0, atI_1, atI_2, ixN_2_0, ixN_2_1, appK_eq, cmp_i, eqv_ii, eqv_nn, cast1, cast2, cast3, List.map_cons, List.map_nil, List.append_nil, List.nil_append, List.cons_append, List.replicate_succ, List.replicate_zero, List.length_cons, List.length_nil, List.getElem?_cons_zero, List.getElem?_cons_succ, List.set_cons_zero, List.set_cons_succ, Option.map_some, Bool.not_true, Bool.not_false, Nat.reduceAdd, Nat.reduceSub, Nat.zero_add, Nat.add_zero, if_true, if_false, decide_true, decide_false, and_true, true_and, Nat.reduceLeDiff, Nat.sub_zero, Nat.sub_self]
      refine ⟨rfl, r, f, n, rfl, ok, hf, hn30, ?_⟩
      simp only [↓e_var, ↓e_C, ↓e_dD, ↓e_d2, ↓e_neg, ↓e_isN, ↓e_B, ↓e_And, ↓e_Or, ↓e_Not, ↓e_AndV, ↓e_OrV, ↓e_NotV, ↓e_IfE, ↓e_Chain, ↓e_Ix, ↓e_Sl, ↓e_No, ↓e_Part, ↓e_nil, ↓e_cons, ↓e_Tup, ↓e_Lst, ↓e_CB, ↓e_ofD, ↓e_jOf, ↓e_Len, ↓e_Ints, ↓e_fMax, ↓e_fMin, ↓e_Tuple, ↓e_List, ↓e_Bls, ↓e_Is, ↓e_seq, ↓e_skip, ↓e_ret, ↓e_drop, ↓e_ifS, ↓e_never, ↓e_asg, ↓e_par2, ↓e_par3, ↓e_App, ↓e_For, ↓e_While, ↓e_Iter, ↓e_Rng1, ↓e_Rng2, ↓e_Zip2, ↓e_Zip3, ↓e_Lc, ↓e_Yes, ↓e_Dn0, ↓e_DnIn, ↓e_DnGet, ↓e_Dn1, iteG_t, iteG_f, iteG_d, iteG_n, iteG_a, iteG_o, iteG_x, iteG_e, iteG_s, iteG_l, iteG_y, iteF_t, iteF_f, varF_d, varF_o, toD_d, toD_l, toD_a, toDF_d, toDF_l, d2F_d, fAdd_i, fAdd_s, fAdd_t, fAdd_l, fSub_i, fMul_i, fMulR_i, fMulR_t, fMulR_l, fDiv_i, fMod_i, fPow_i, negF_i, cLt_i, cLe_i, cGt_i, cGe_i, cEq_e, cNe_e, isNF_n, isNF_t, isNF_i, dBF_b, boF_b, notVF_b, ch2F_d, chF_d, seqOf_t, seqOf_l, seqOf_o, seqOf_s, seqOf_a, seqF_t, seqF_l, seqF_o, kindOf_t, kindOf_l, kindOf_o, kindOf_a, kindF_t, kindF_l, kindF_o, ixF2_s, ixF_s, slF_t, slF_f, partF_i, allD_n, allD_c, tupF_s, lstF_s, ofDF_s, gInt_i, gInt_b, gAbs_i, gMax2_i, gMin2_i, gN_e, jF_s, lenF_s, intsF2_s, intsF_s, fSum_e, gTF_s, gLF_s, blsF_s, blsF2_s, isF_s, isF2_s, tyn_i, tyn_b, tyn_t, tyn_l, tyn_s, tyn_n, k_ii, k_ib, k_tt, gN1_d, gN1_o, gN1_a, gaF_d, gaF_o, gTup_e, gs_n, gs_c, par2G_e, par2F_s, svOf_d, svOf_o, par3G_e, par3F_s, stF2_s, stF_s, stG_e, gStL_e, gOwn_e, owL_a, apG_e, apI_e, iterF_t, iterF_l, rng1F_e, rng2F_e, zip2F_s, zip2G_e, zip3F_s, zip3G_e, seqD_t, seqD_l, finP_d, finP_o, finP_a, finF_d, finF_o, finJF_d, finJF_o, finJ_d, finJ_o, startD_e, startJ_e, dnI_e, dnIH_e, dnGF_e, dnGetF_e, dnSF_e, dnSH_e, gStDn_e, dn1F_e, atI_0, atI_1, atI_2, ixN_2_0, ixN_2_1, appK_eq, cmp_i, eqv_ii, eqv_nn, cast1, cast2, cast3, List.map_cons, List.map_nil, List.append_nil, List.nil_append, List.cons_append, List.replicate_succ, List.replicate_zero, List.length_cons, List.length_nil, List.getElem?_cons_zero, List.getElem?_cons_succ, List.set_cons_zero, List.set_cons_succ, Option.map_some, Bool.not_true, Bool.not_false, Nat.reduceAdd, Nat.reduceSub, Nat.zero_add, Nat.add_zero, if_true, if_false, decide_true, decide_false, and_true, true_and, Nat.reduceLeDiff, Nat.sub_zero, Nat.sub_self]
      refine ⟨rfl, r, f, n, rfl, ok, hf, hn30, ?_⟩
      simp only [↓e_var, ↓e_C, ↓e_dD, ↓e_d2, ↓e_neg, ↓e_isN, ↓e_B, ↓e_And, ↓e_Or, ↓e_Not, ↓e_AndV, ↓e_OrV, ↓e_NotV, ↓e_IfE, ↓e_Chain, ↓e_Ix, ↓e_Sl, ↓e_No, ↓e_Part, ↓e_nil, ↓e_cons, ↓e_Tup, ↓e_Lst, ↓e_CB, ↓e_ofD, ↓e_jOf, ↓e_Len, ↓e_Ints, ↓e_fMax, ↓e_fMin, ↓e_Tuple, ↓e_List, ↓e_Bls, ↓e_Is, ↓e_seq, ↓e_skip, ↓e_ret, ↓e_drop, ↓e_ifS, ↓e_never, ↓e_asg, ↓e_par2, ↓e_par3, ↓e_App, ↓e_For, ↓e_While, ↓e_Iter, ↓e_Rng1, ↓e_Rng2, ↓e_Zip2, ↓e_Zip3, ↓e_Lc, ↓e_Yes, ↓e_Dn0, ↓e_DnIn, ↓e_DnGet, ↓e_Dn1, iteG_t, iteG_f, iteG_d, iteG_n, iteG_a, iteG_o, iteG_x, iteG_e, iteG_s, iteG_l, iteG_y, iteF_t, iteF_f, varF_d, varF_o, toD_d, toD_l, toD_a, toDF_d, toDF_l, d2F_d, fAdd_i, fAdd_s, fAdd_t, fAdd_l, fSub_i, fMul_i, fMulR_i, fMulR_t, fMulR_l, fDiv_i, fMod_i, fPow_i, negF_i, cLt_i, cLe_i, cGt_i, cGe_i, cEq_e, cNe_e, isNF_n, isNF_t, isNF_i, dBF_b, boF_b, notVF_b, ch2F_d, chF_d, seqOf_t, seqOf_l, seqOf_o, seqOf_s, seqOf_a, seqF_t, seqF_l, seqF_o, kindOf_t, kindOf_l, kindOf_o, kindOf_a, kindF_t, kindF_l, kindF_o, ixF2_s, ixF_s, slF_t, slF_f, partF_i, allD_n, allD_c, tupF_s, lstF_s, ofDF_s, gInt_i, gInt_b, gAbs_i, gMax2_i, gMin2_i, gN_e, jF_s, lenF_s, intsF2_s, intsF_s, fSum_e, gTF_s, gLF_s, blsF_s, blsF2_s, isF_s, isF2_s, tyn_i, tyn_b, tyn_t, tyn_l, tyn_s, tyn_n, k_ii, k_ib, k_tt, gN1_d, gN1_o, gN1_a, gaF_d, gaF_o, gTup_e, gs_n, gs_c, par2G_e, par2F_s, svOf_d, svOf_o, par3G_e, par3F_s, stF2_s, stF_s, stG_e, gStL_e, gOwn_e, owL_a, apG_e, apI_e, iterF_t, iterF_l, rng1F_e, rng2F_e, zip2F_s, zip2G_e, zip3F_s, zip3G_e, seqD_t, seqD_l, finP_d, finP_o, finP_a, finF_d, finF_o, finJF_d, finJF_o, finJ_d, finJ_o, startD_e, startJ_e, dnI_e, dnIH_e, dnGF_e, dnGetF_e, dnSF_e, dnSH_e, gStDn_e, dn1F_e, atI_0, atI_1, atI_2, ixN_2_0, ixN_2_1, appK_eq, cmp_i, eqv_ii, eqv_nn, cast1, cast2, cast3, List.map_cons, List.map_nil, List.append_nil, List.nil_append, List.cons_append, List.replicate_succ, List.replicate_zero, List.length_cons, List.length_nil, List.getElem?_cons_zero, List.getElem?_cons_succ, List.set_cons_zero, List.set_cons_succ, Option.map_some, Bool.not_true, Bool.not_false, Nat.reduceAdd, Nat.reduceSub, Nat.zero_add, Nat.add_zero, if_true, if_false, decide_true, decide_false, and_true, true_and, Nat.reduceLeDiff, Nat.sub_zero, Nat.sub_self, seqOf_ints, intsOf_map]
      refine ⟨rfl, r, n, rfl, ok, ?_⟩
      simp only [↓e_var, ↓e_C, ↓e_dD, ↓e_d2, ↓e_neg, ↓e_isN, ↓e_B, ↓e_And, ↓e_Or, ↓e_Not, ↓e_AndV, ↓e_OrV, ↓e_NotV, ↓e_IfE, ↓e_Chain, ↓e_Ix, ↓e_Sl, ↓e_No, ↓e_Part, ↓e_nil, ↓e_cons, ↓e_Tup, ↓e_Lst, ↓e_CB, ↓e_ofD, ↓e_jOf, ↓e_Len, ↓e_Ints, ↓e_fMax, ↓e_fMin, ↓e_Tuple, ↓e_List, ↓e_Bls, ↓e_Is, ↓e_seq, ↓e_skip, ↓e_ret, ↓e_drop, ↓e_ifS, ↓e_never, ↓e_asg, ↓e_par2, ↓e_par3, ↓e_App, ↓e_For, ↓e_While, ↓e_Iter, ↓e_Rng1, ↓e_Rng2, ↓e_Zip2, ↓e_Zip3, ↓e_Lc, ↓e_Yes, ↓e_Dn0, ↓e_DnIn, ↓e_DnGet, ↓e_Dn1, iteG_t, iteG_f, iteG_d, iteG_n, iteG_a, iteG_o, iteG_x, iteG_e, iteG_s, iteG_l, iteG_y, iteF_t, iteF_f, varF_d, varF_o, toD_d, toD_l, toD_a, toDF_d, toDF_l, d2F_d, fAdd_i, fAdd_s, fAdd_t, fAdd_l, fSub_i, fMul_i, fMulR_i, fMulR_t, fMulR_l, fDiv_i, fMod_i, fPow_i, negF_i, cLt_i, cLe_i, cGt_i, cGe_i, cEq_e, cNe_e, isNF_n, isNF_t, isNF_i, dBF_b, boF_b, notVF_b, ch2F_d, chF_d, seqOf_t, seqOf_l, seqOf_o, seqOf_s, seqOf_a, seqF_t, seqF_l, seqF_o, kindOf_t, kindOf_l, kindOf_o, kindOf_a, kindF_t, kindF_l, kindF_o, ixF2_s, ixF_s, slF_t, slF_f, partF_i, allD_n, allD_c, tupF_s, lstF_s, ofDF_s, gInt_i, gInt_b, gAbs_i, gMax2_i, gMin2_i, gN_e, jF_s, lenF_s, intsF2_s, intsF_s, fSum_e, gTF_s, gLF_s, blsF_s, blsF2_s, isF_s, isF2_s, tyn_i, tyn_b, tyn_t, tyn_l, tyn_s, tyn_n, k_ii, k_ib, k_tt, gN1_d, gN1_o, gN1_a, gaF_d, gaF_o, gTup_e, gs_n, gs_c, par2G_e, par2F_s, svOf_d, svOf_o, par3G_e, par3F_s, stF2_s, stF_s, stG_e, gStL_e, gOwn_e, owL_a, apG_e, apI_e, iterF_t, iterF_l, rng1F_e, rng2F_e, zip2F_s, zip2G_e, zip3F_s, zip3G_e, seqD_t, seqD_l, finP_d, finP_o, finP_a, finF_d, finF_o, finJF_d, finJF_o, finJ_d, finJ_o, startD_e, startJ_e, dnI_e, dnIH_e, dnGF_e, dnGetF_e, dnSF_e, dnSH_e, gStDn_e, dn1F_e, atI_0, atI_1, atI_2, ixN_2_0, ixN_2_1, appK_eq, cmp_i, eqv_ii, eqv_nn, cast1, cast2, cast3, List.map_cons, List.map_nil, List.append_nil, List.nil_append, List.cons_append, List.replicate_succ, List.replicate_zero, List.length_cons, List.length_nil, List.getElem?_cons_zero, List.getElem?_cons_succ, List.set_cons_zero, List.set_cons_succ, Option.map_some, Bool.not_true, Bool.not_false, Nat.reduceAdd, Nat.reduceSub, Nat.zero_add, Nat.add_zero, if_true, if_false, decide_true, decide_false, and_true, true_and, Nat.reduceLeDiff, Nat.sub_zero, Nat.sub_self, seqOf_ints, intsOf_map, last_col ok]
      refine iteF_n (fun q => absurd (conserve ok hf n) q) (fun _ => ?_)
      refine ⟨rfl, r, f, rfl, ok, hf, fun m first hm hfm e => ?_⟩
      have hL : 0 < m - first := by omega
      simp only [↓e_var, ↓e_C, ↓e_dD, ↓e_d2, ↓e_neg, ↓e_isN, ↓e_B, ↓e_And, ↓e_Or, ↓e_Not, ↓e_AndV, ↓e_OrV, ↓e_NotV, ↓e_IfE, ↓e_Chain, ↓e_Ix, ↓e_Sl, ↓e_No, ↓e_Part, ↓e_nil, ↓e_cons, ↓e_Tup, ↓e_Lst, ↓e_CB, ↓e_ofD, ↓e_jOf, ↓e_Len, ↓e_Ints, ↓e_fMax, ↓e_fMin, ↓e_Tuple, ↓e_List, ↓e_Bls, ↓e_Is, ↓e_seq, ↓e_skip, ↓e_ret, ↓e_drop, ↓e_ifS, ↓e_never, ↓e_asg, ↓e_par2, ↓e_par3, ↓e_App, ↓e_For, ↓e_While, ↓e_Iter, ↓e_Rng1, ↓e_Rng2, ↓e_Zip2, ↓e_Zip3, ↓e_Lc, ↓e_Yes, ↓e_Dn0, ↓e_DnIn, ↓e_DnGet, ↓e_Dn1, iteG_t, iteG_f, iteG_d, iteG_n, iteG_a, iteG_o, iteG_x, iteG_e, iteG_s, iteG_l, iteG_y, iteF_t, iteF_f, varF_d, varF_o, toD_d, toD_l, toD_a, toDF_d, toDF_l, d2F_d, fAdd_i, fAdd_s, fAdd_t, fAdd_l, fSub_i, fMul_i, fMulR_i, fMulR_t, fMulR_l, fDiv_i, fMod_i, fPow_i, negF_i, cLt_i, cLe_i, cGt_i, cGe_i, cEq_e, cNe_e, isNF_n, isNF_t, isNF_i, dBF_b, boF_b, notVF_b, ch2F_d, chF_d, seqOf_t, seqOf_l, seqOf_o, seqOf_s, seqOf_a, seqF_t, seqF_l, seqF_o, kindOf_t, kindOf_l, kindOf_o, kindOf_a, kindF_t, kindF_l, kindF_o, ixF2_s, ixF_s, slF_t, slF_f, partF_i, allD_n, allD_c, tupF_s, lstF_s, ofDF_s, gInt_i, gInt_b, gAbs_i, gMax2_i, gMin2_i, gN_e, jF_s, lenF_s, intsF2_s, intsF_s, fSum_e, gTF_s, gLF_s, blsF_s, blsF2_s, isF_s, isF2_s, tyn_i, tyn_b, tyn_t, tyn_l, tyn_s, tyn_n, k_ii, k_ib, k_tt, gN1_d, gN1_o, gN1_a, gaF_d, gaF_o, gTup_e, gs_n, gs_c, par2G_e, par2F_s, svOf_d, svOf_o, par3G_e, par3F_s, stF2_s, stF_s, stG_e, gStL_e, gOwn_e, owL_a, apG_e, apI_e, iterF_t, iterF_l, rng1F_e, rng2F_e, zip2F_s, zip2G_e, zip3F_s, zip3G_e, seqD_t, seqD_l, finP_d, finP_o, finP_a, finF_d, finF_o, finJF_d, finJF_o, finJ_d, finJ_o, startD_e, startJ_e, dnI_e, dnIH_e, dnGF_e, dnGetF_e, dnSF_e, dnSH_e, gStDn_e, dn1F_e, atI_0, atI_1, atI_2, ixN_2_0, ixN_2_1, appK_eq, cmp_i, eqv_ii, eqv_nn, cast1, cast2, cast3, List.map_cons, List.map_nil, List.append_nil, List.nil_append, List.cons_append, List.replicate_succ, List.replicate_zero, List.length_cons, List.length_nil, List.getElem?_cons_zero, List.getElem?_cons_succ, List.set_cons_zero, List.set_cons_succ, Option.map_some, Bool.not_true, Bool.not_false, Nat.reduceAdd, Nat.reduceSub, Nat.zero_add, Nat.add_zero, if_true, if_false, decide_true, decide_false, and_true, true_and, Nat.reduceLeDiff, Nat.sub_zero, Nat.sub_self, List.length_map, List.length_range]
      refine iteF_keep ?_ (fun q hB => ?_)
      rotate_left
      · have qn : first ≤ n := by omega
        have hcl : (n - first) % (m - first) < m - first := Nat.mod_lt _ hL
        have dc : ((n : Int) - (first : Int)) % (((m - first : Nat)) : Int) = (((n - first) % (m - first) : Nat) : Int) := by
          rw [← Int.natCast_sub qn, ← Int.natCast_emod]
        have e2 : orb r (0, f) (first + (n - first) % (m - first)) = orb r (0, f) n := by
          rw [← orb_mod hfm e]
          congr 1
          omega
        have ea : atI ((List.range (m - first)).map fun i => stD (orb r (0, f) (first + i))) (((n : Int) - (first : Int)) % (((m - first : Nat)) : Int)) = some (.tup [.int ((orb r (0, f) n).1 : Nat), intsD (orb r (0, f) n).2]) := by
          rw [dc, atI_nat rfl (by simpa using hcl), List.getElem?_map, List.getElem?_range hcl]
          show some (stD (orb r (0, f) (first + (n - first) % (m - first)))) = _
          rw [e2]
          rfl
        refine ⟨by omega, ?_⟩
        simp only [↓e_var, ↓e_C, ↓e_dD, ↓e_d2, ↓e_neg, ↓e_isN, ↓e_B, ↓e_And, ↓e_Or, ↓e_Not, ↓e_AndV, ↓e_OrV, ↓e_NotV, ↓e_IfE, ↓e_Chain, ↓e_Ix, ↓e_Sl, ↓e_No, ↓e_Part, ↓e_nil, ↓e_cons, ↓e_Tup, ↓e_Lst, ↓e_CB, ↓e_ofD, ↓e_jOf, ↓e_Len, ↓e_Ints, ↓e_fMax, ↓e_fMin, ↓e_Tuple, ↓e_List, ↓e_Bls, ↓e_Is, ↓e_seq, ↓e_skip, ↓e_ret, ↓e_drop, ↓e_ifS, ↓e_never, ↓e_asg, ↓e_par2, ↓e_par3, ↓e_App, ↓e_For, ↓e_While, ↓e_Iter, ↓e_Rng1, ↓e_Rng2, ↓e_Zip2, ↓e_Zip3, ↓e_Lc, ↓e_Yes, ↓e_Dn0, ↓e_DnIn, ↓e_DnGet, ↓e_Dn1, iteG_t, iteG_f, iteG_d, iteG_n, iteG_a, iteG_o, iteG_x, iteG_e, iteG_s, iteG_l, iteG_y, iteF_t, iteF_f, varF_d, varF_o, toD_d, toD_l, toD_a, toDF_d, toDF_l, d2F_d, fAdd_i, fAdd_s, fAdd_t, fAdd_l, fSub_i, fMul_i, fMulR_i, fMulR_t, fMulR_l, fDiv_i, fMod_i, fPow_i, negF_i, cLt_i, cLe_i, cGt_i, cGe_i, cEq_e, cNe_e, isNF_n, isNF_t, isNF_i, dBF_b, boF_b, notVF_b, ch2F_d, chF_d, seqOf_t, seqOf_l, seqOf_o, seqOf_s, seqOf_a, seqF_t, seqF_l, seqF_o, kindOf_t, kindOf_l, kindOf_o, kindOf_a, kindF_t, kindF_l, kindF_o, ixF2_s, ixF_s, slF_t, slF_f, partF_i, allD_n, allD_c, tupF_s, lstF_s, ofDF_s, gInt_i, gInt_b, gAbs_i, gMax2_i, gMin2_i, gN_e, jF_s, lenF_s, intsF2_s, intsF_s, fSum_e, gTF_s, gLF_s, blsF_s, blsF2_s, isF_s, isF2_s, tyn_i, tyn_b, tyn_t, tyn_l, tyn_s, tyn_n, k_ii, k_ib, k_tt, gN1_d, gN1_o, gN1_a, gaF_d, gaF_o, gTup_e, gs_n, gs_c, par2G_e, par2F_s, svOf_d, svOf_o, par3G_e, par3F_s, stF2_s, stF_s, stG_e, gStL_e, gOwn_e, owL_a, apG_e, apI_e, iterF_t, iterF_l, rng1F_e, rng2F_e, zip2F_s, zip2G_e, zip3F_s, zip3G_e, seqD_t, seqD_l, finP_d, finP_o, finP_a, finF_d, finF_o, finJF_d, finJF_o, finJ_d, finJ_o, startD_e, startJ_e, dnI_e, dnIH_e, dnGF_e, dnGetF_e, dnSF_e, dnSH_e, gStDn_e, dn1F_e, atI_0, atI_1, atI_2, ixN_2_0, ixN_2_1, appK_eq, cmp_i, eqv_ii, eqv_nn, cast1, cast2, cast3, List.map_cons, List.map_nil, List.append_nil, List.nil_append, List.cons_append, List.replicate_succ, List.replicate_zero, List.length_cons, List.length_nil, List.getElem?_cons_zero, List.getElem?_cons_succ, List.set_cons_zero, List.set_cons_succ, Option.map_some, Bool.not_true, Bool.not_false, Nat.reduceAdd, Nat.reduceSub, Nat.zero_add, Nat.add_zero, if_true, if_false, decide_true, decide_false, and_true, true_and, Nat.reduceLeDiff, Nat.sub_zero, Nat.sub_self, ea, cmp_intsD, eqv_intsD, List.length_map, List.length_range]
        exact hB
      · rw [p6]
        refine ⟨c6, draw jo (by decide) (by omega) (fun qd a b qd0 qd1 jo => ?_)⟩
        simp only [↓e_var, ↓e_C, ↓e_dD, ↓e_d2, ↓e_neg, ↓e_isN, ↓e_B, ↓e_And, ↓e_Or, ↓e_Not, ↓e_AndV, ↓e_OrV, ↓e_NotV, ↓e_IfE, ↓e_Chain, ↓e_Ix, ↓e_Sl, ↓e_No, ↓e_Part, ↓e_nil, ↓e_cons, ↓e_Tup, ↓e_Lst, ↓e_CB, ↓e_ofD, ↓e_jOf, ↓e_Len, ↓e_Ints, ↓e_fMax, ↓e_fMin, ↓e_Tuple, ↓e_List, ↓e_Bls, ↓e_Is, ↓e_seq, ↓e_skip, ↓e_ret, ↓e_drop, ↓e_ifS, ↓e_never, ↓e_asg, ↓e_par2, ↓e_par3, ↓e_App, ↓e_For, ↓e_While, ↓e_Iter, ↓e_Rng1, ↓e_Rng2, ↓e_Zip2, ↓e_Zip3, ↓e_Lc, ↓e_Yes, ↓e_Dn0, ↓e_DnIn, ↓e_DnGet, ↓e_Dn1, iteG_t, iteG_f, iteG_d, iteG_n, iteG_a, iteG_o, iteG_x, iteG_e, iteG_s, iteG_l, iteG_y, iteF_t, iteF_f, varF_d, varF_o, toD_d, toD_l, toD_a, toDF_d, toDF_l, d2F_d, fAdd_i, fAdd_s, fAdd_t, fAdd_l, fSub_i, fMul_i, fMulR_i, fMulR_t, fMulR_l, fDiv_i, fMod_i, fPow_i, negF_i, cLt_i, cLe_i, cGt_i, cGe_i, cEq_e, cNe_e, isNF_n, isNF_t, isNF_i, dBF_b, boF_b, notVF_b, ch2F_d, chF_d, seqOf_t, seqOf_l, seqOf_o, seqOf_s, seqOf_a, seqF_t, seqF_l, seqF_o, kindOf_t, kindOf_l, kindOf_o, kindOf_a, kindF_t, kindF_l, kindF_o, ixF2_s, ixF_s, slF_t, slF_f, partF_i, allD_n, allD_c, tupF_s, lstF_s, ofDF_s, gInt_i, gInt_b, gAbs_i, gMax2_i, gMin2_i, gN_e, jF_s, lenF_s, intsF2_s, intsF_s, fSum_e, gTF_s, gLF_s, blsF_s, blsF2_s, isF_s, isF2_s, tyn_i, tyn_b, tyn_t, tyn_l, tyn_s, tyn_n, k_ii, k_ib, k_tt, gN1_d, gN1_o, gN1_a, gaF_d, gaF_o, gTup_e, gs_n, gs_c, par2G_e, par2F_s, svOf_d, svOf_o, par3G_e, par3F_s, stF2_s, stF_s, stG_e, gStL_e, gOwn_e, owL_a, apG_e, apI_e, iterF_t, iterF_l, rng1F_e, rng2F_e, zip2F_s, zip2G_e, zip3F_s, zip3G_e, seqD_t, seqD_l, finP_d, finP_o, finP_a, finF_d, finF_o, finJF_d, finJF_o, finJ_d, finJ_o, startD_e, startJ_e, dnI_e, dnIH_e, dnGF_e, dnGetF_e, dnSF_e, dnSH_e, gStDn_e, dn1F_e, atI_0, atI_1, atI_2, ixN_2_0, ixN_2_1, appK_eq, cmp_i, eqv_ii, eqv_nn, cast1, cast2, cast3, List.map_cons, List.map_nil, List.append_nil, List.nil_append, List.cons_append, List.replicate_succ, List.replicate_zero, List.length_cons, List.length_nil, List.getElem?_cons_zero, List.getElem?_cons_succ, List.set_cons_zero, List.set_cons_succ, Option.map_some, Bool.not_true, Bool.not_false, Nat.reduceAdd, Nat.reduceSub, Nat.zero_add, Nat.add_zero, if_true, if_false, decide_true, decide_false, and_true, true_and, Nat.reduceLeDiff, Nat.sub_zero, Nat.sub_self, jarO, seqOf_row, List.length_map, List.length_range]
        have pp : r.p = ((r.p.toNat : Nat) : Int) := by have := ok.p1; omega
        have pl : r.p.toNat ≤ 6 := by have := ok.p6; omega
        have p0 : 0 < r.p.toNat := by have := ok.p1; omega
        have hX : 60 * (first + 1) * r.p.toNat ≤ 10 ^ 9 := by
          calc 60 * (first + 1) * r.p.toNat ≤ 60 * 1296001 * 6 := Nat.mul_le_mul (by omega) pl
            _ ≤ 10 ^ 9 := by decide
        have ex : 60 * r.p * ((first : Int) + 1) = ((60 * (first + 1) * r.p.toNat : Nat) : Int) := by
          rw [pp]
          push_cast
          rw [Int.mul_right_comm]
          simp
        have eqd : qd = ((qd.toNat : Nat) : Int) := (Int.toNat_of_nonneg qd0).symm
        have ed : (((m - first : Nat)) : Int) * qd / (((m - first : Nat)) : Int) = qd := Int.mul_ediv_cancel_left _ (by omega)
        have hq : qd.toNat * (m - first) ≤ 10 ^ 13 := by
          calc qd.toNat * (m - first) ≤ 1000000 * 1296000 := Nat.mul_le_mul (by omega) (by omega)
            _ ≤ 10 ^ 13 := by decide
        have ey : 60 * r.p * ((first : Int) + 1) + (((m - first : Nat)) : Int) * qd = ((60 * (first + 1) * r.p.toNat + qd.toNat * (m - first) : Nat) : Int) := by
          rw [ex, eqd]
          push_cast
          rw [Int.toNat_natCast, Int.mul_comm (((m - first : Nat)) : Int)]
        have b9 : (10 : Nat) ^ 9 + 10 ^ 13 ≤ 10 ^ 30 := by decide +kernel
        have er : ((List.range (m - first)).map fun i => stD (orb r (0, f) (first + i))) = ((List.range (m - first)).map fun i => orb r (0, f) (first + i)).map stD := by
          rw [List.map_map]
          rfl
        rw [ex, ed, er]
        refine ⟨MulOk.small (by omega) (by omega), CDivW.small (by omega) (by omega), MulOk.small (by decide) (by decide), MulOk.small' (by omega) (by omega), rfl, r, f, _, rfl, ok, hf, by omega, ?_⟩
        simp only [↓e_var, ↓e_C, ↓e_dD, ↓e_d2, ↓e_neg, ↓e_isN, ↓e_B, ↓e_And, ↓e_Or, ↓e_Not, ↓e_AndV, ↓e_OrV, ↓e_NotV, ↓e_IfE, ↓e_Chain, ↓e_Ix, ↓e_Sl, ↓e_No, ↓e_Part, ↓e_nil, ↓e_cons, ↓e_Tup, ↓e_Lst, ↓e_CB, ↓e_ofD, ↓e_jOf, ↓e_Len, ↓e_Ints, ↓e_fMax, ↓e_fMin, ↓e_Tuple, ↓e_List, ↓e_Bls, ↓e_Is, ↓e_seq, ↓e_skip, ↓e_ret, ↓e_drop, ↓e_ifS, ↓e_never, ↓e_asg, ↓e_par2, ↓e_par3, ↓e_App, ↓e_For, ↓e_While, ↓e_Iter, ↓e_Rng1, ↓e_Rng2, ↓e_Zip2, ↓e_Zip3, ↓e_Lc, ↓e_Yes, ↓e_Dn0, ↓e_DnIn, ↓e_DnGet, ↓e_Dn1, iteG_t, iteG_f, iteG_d, iteG_n, iteG_a, iteG_o, iteG_x, iteG_e, iteG_s, iteG_l, iteG_y, iteF_t, iteF_f, varF_d, varF_o, toD_d, toD_l, toD_a, toDF_d, toDF_l, d2F_d, fAdd_i, fAdd_s, fAdd_t, fAdd_l, fSub_i, fMul_i, fMulR_i, fMulR_t, fMulR_l, fDiv_i, fMod_i, fPow_i, negF_i, cLt_i, cLe_i, cGt_i, cGe_i, cEq_e, cNe_e, isNF_n, isNF_t, isNF_i, dBF_b, boF_b, notVF_b, ch2F_d, chF_d, seqOf_t, seqOf_l, seqOf_o, seqOf_s, seqOf_a, seqF_t, seqF_l, seqF_o, kindOf_t, kindOf_l, kindOf_o, kindOf_a, kindF_t, kindF_l, kindF_o, ixF2_s, ixF_s, slF_t, slF_f, partF_i, allD_n, allD_c, tupF_s, lstF_s, ofDF_s, gInt_i, gInt_b, gAbs_i, gMax2_i, gMin2_i, gN_e, jF_s, lenF_s, intsF2_s, intsF_s, fSum_e, gTF_s, gLF_s, blsF_s, blsF2_s, isF_s, isF2_s, tyn_i, tyn_b, tyn_t, tyn_l, tyn_s, tyn_n, k_ii, k_ib, k_tt, gN1_d, gN1_o, gN1_a, gaF_d, gaF_o, gTup_e, gs_n, gs_c, par2G_e, par2F_s, svOf_d, svOf_o, par3G_e, par3F_s, stF2_s, stF_s, stG_e, gStL_e, gOwn_e, owL_a, apG_e, apI_e, iterF_t, iterF_l, rng1F_e, rng2F_e, zip2F_s, zip2G_e, zip3F_s, zip3G_e, seqD_t, seqD_l, finP_d, finP_o, finP_a, finF_d, finF_o, finJF_d, finJF_o, finJ_d, finJ_o, startD_e, startJ_e, dnI_e, dnIH_e, dnGF_e, dnGetF_e, dnSF_e, dnSH_e, gStDn_e, dn1F_e, atI_0, atI_1, atI_2, ixN_2_0, ixN_2_1, appK_eq, cmp_i, eqv_ii, eqv_nn, cast1, cast2, cast3, List.map_cons, List.map_nil, List.append_nil, List.nil_append, List.cons_append, List.replicate_succ, List.replicate_zero, List.length_cons, List.length_nil, List.getElem?_cons_zero, List.getElem?_cons_succ, List.set_cons_zero, List.set_cons_succ, Option.map_some, Bool.not_true, Bool.not_false, Nat.reduceAdd, Nat.reduceSub, Nat.zero_add, Nat.add_zero, if_true, if_false, decide_true, decide_false, and_true, true_and, Nat.reduceLeDiff, Nat.sub_zero, Nat.sub_self]
        rw [← ex, ey]
        try rw [ex]
        refine ⟨rfl, r, f, _, rfl, ok, hf, by omega, ?_⟩
        simp only [↓e_var, ↓e_C, ↓e_dD, ↓e_d2, ↓e_neg, ↓e_isN, ↓e_B, ↓e_And, ↓e_Or, ↓e_Not, ↓e_AndV, ↓e_OrV, ↓e_NotV, ↓e_IfE, ↓e_Chain, ↓e_Ix, ↓e_Sl, ↓e_No, ↓e_Part, ↓e_nil, ↓e_cons, ↓e_Tup, ↓e_Lst, ↓e_CB, ↓e_ofD, ↓e_jOf, ↓e_Len, ↓e_Ints, ↓e_fMax, ↓e_fMin, ↓e_Tuple, ↓e_List, ↓e_Bls, ↓e_Is, ↓e_seq, ↓e_skip, ↓e_ret, ↓e_drop, ↓e_ifS, ↓e_never, ↓e_asg, ↓e_par2, ↓e_par3, ↓e_App, ↓e_For, ↓e_While, ↓e_Iter, ↓e_Rng1, ↓e_Rng2, ↓e_Zip2, ↓e_Zip3, ↓e_Lc, ↓e_Yes, ↓e_Dn0, ↓e_DnIn, ↓e_DnGet, ↓e_Dn1, iteG_t, iteG_f, iteG_d, iteG_n, iteG_a, iteG_o, iteG_x, iteG_e, iteG_s, iteG_l, iteG_y, iteF_t, iteF_f, varF_d, varF_o, toD_d, toD_l, toD_a, toDF_d, toDF_l, d2F_d, fAdd_i, fAdd_s, fAdd_t, fAdd_l, fSub_i, fMul_i, fMulR_i, fMulR_t, fMulR_l, fDiv_i, fMod_i, fPow_i, negF_i, cLt_i, cLe_i, cGt_i, cGe_i, cEq_e, cNe_e, isNF_n, isNF_t, isNF_i, dBF_b, boF_b, notVF_b, ch2F_d, chF_d, seqOf_t, seqOf_l, seqOf_o, seqOf_s, seqOf_a, seqF_t, seqF_l, seqF_o, kindOf_t, kindOf_l, kindOf_o, kindOf_a, kindF_t, kindF_l, kindF_o, ixF2_s, ixF_s, slF_t, slF_f, partF_i, allD_n, allD_c, tupF_s, lstF_s, ofDF_s, gInt_i, gInt_b, gAbs_i, gMax2_i, gMin2_i, gN_e, jF_s, lenF_s, intsF2_s, intsF_s, fSum_e, gTF_s, gLF_s, blsF_s, blsF2_s, isF_s, isF2_s, tyn_i, tyn_b, tyn_t, tyn_l, tyn_s, tyn_n, k_ii, k_ib, k_tt, gN1_d, gN1_o, gN1_a, gaF_d, gaF_o, gTup_e, gs_n, gs_c, par2G_e, par2F_s, svOf_d, svOf_o, par3G_e, par3F_s, stF2_s, stF_s, stG_e, gStL_e, gOwn_e, owL_a, apG_e, apI_e, iterF_t, iterF_l, rng1F_e, rng2F_e, zip2F_s, zip2G_e, zip3F_s, zip3G_e, seqD_t, seqD_l, finP_d, finP_o, finP_a, finF_d, finF_o, finJF_d, finJF_o, finJ_d, finJ_o, startD_e, startJ_e, dnI_e, dnIH_e, dnGF_e, dnGetF_e, dnSF_e, dnSH_e, gStDn_e, dn1F_e, atI_0, atI_1, atI_2, ixN_2_0, ixN_2_1, appK_eq, cmp_i, eqv_ii, eqv_nn, cast1, cast2, cast3, List.map_cons, List.map_nil, List.append_nil, List.nil_append, List.cons_append, List.replicate_succ, List.replicate_zero, List.length_cons, List.length_nil, List.getElem?_cons_zero, List.getElem?_cons_succ, List.set_cons_zero, List.set_cons_succ, Option.map_some, Bool.not_true, Bool.not_false, Nat.reduceAdd, Nat.reduceSub, Nat.zero_add, Nat.add_zero, if_true, if_false, decide_true, decide_false, and_true, true_and, Nat.reduceLeDiff, Nat.sub_zero, Nat.sub_self]
        have hXf : first ≤ 60 * (first + 1) * r.p.toNat := by
          calc first ≤ 60 * (first + 1) * 1 := by omega
            _ ≤ 60 * (first + 1) * r.p.toNat := Nat.mul_le_mul_left _ p0
        have oz := orb_zero (f := f) p0 (60 * (first + 1))
        generalize 60 * (first + 1) * r.p.toNat = X at *
        refine ⟨rfl, r, _, rfl, ok, fun s hs => ?_, ?_⟩
        · obtain ⟨i, _, rfl⟩ := List.mem_map.mp hs
          exact orb_ok ok (start_ok ok hf) _
        simp only [↓e_var, ↓e_C, ↓e_dD, ↓e_d2, ↓e_neg, ↓e_isN, ↓e_B, ↓e_And, ↓e_Or, ↓e_Not, ↓e_AndV, ↓e_OrV, ↓e_NotV, ↓e_IfE, ↓e_Chain, ↓e_Ix, ↓e_Sl, ↓e_No, ↓e_Part, ↓e_nil, ↓e_cons, ↓e_Tup, ↓e_Lst, ↓e_CB, ↓e_ofD, ↓e_jOf, ↓e_Len, ↓e_Ints, ↓e_fMax, ↓e_fMin, ↓e_Tuple, ↓e_List, ↓e_Bls, ↓e_Is, ↓e_seq, ↓e_skip, ↓e_ret, ↓e_drop, ↓e_ifS, ↓e_never, ↓e_asg, ↓e_par2, ↓e_par3, ↓e_App, ↓e_For, ↓e_While, ↓e_Iter, ↓e_Rng1, ↓e_Rng2, ↓e_Zip2, ↓e_Zip3, ↓e_Lc, ↓e_Yes, ↓e_Dn0, ↓e_DnIn, ↓e_DnGet, ↓e_Dn1, iteG_t, iteG_f, iteG_d, iteG_n, iteG_a, iteG_o, iteG_x, iteG_e, iteG_s, iteG_l, iteG_y, iteF_t, iteF_f, varF_d, varF_o, toD_d, toD_l, toD_a, toDF_d, toDF_l, d2F_d, fAdd_i, fAdd_s, fAdd_t, fAdd_l, fSub_i, fMul_i, fMulR_i, fMulR_t, fMulR_l, fDiv_i, fMod_i, fPow_i, negF_i, cLt_i, cLe_i, cGt_i, cGe_i, cEq_e, cNe_e, isNF_n, isNF_t, isNF_i, dBF_b, boF_b, notVF_b, ch2F_d, chF_d, seqOf_t, seqOf_l, seqOf_o, seqOf_s, seqOf_a, seqF_t, seqF_l, seqF_o, kindOf_t, kindOf_l, kindOf_o, kindOf_a, kindF_t, kindF_l, kindF_o, ixF2_s, ixF_s, slF_t, slF_f, partF_i, allD_n, allD_c, tupF_s, lstF_s, ofDF_s, gInt_i, gInt_b, gAbs_i, gMax2_i, gMin2_i, gN_e, jF_s, lenF_s, intsF2_s, intsF_s, fSum_e, gTF_s, gLF_s, blsF_s, blsF2_s, isF_s, isF2_s, tyn_i, tyn_b, tyn_t, tyn_l, tyn_s, tyn_n, k_ii, k_ib, k_tt, gN1_d, gN1_o, gN1_a, gaF_d, gaF_o, gTup_e, gs_n, gs_c, par2G_e, par2F_s, svOf_d, svOf_o, par3G_e, par3F_s, stF2_s, stF_s, stG_e, gStL_e, gOwn_e, owL_a, apG_e, apI_e, iterF_t, iterF_l, rng1F_e, rng2F_e, zip2F_s, zip2G_e, zip3F_s, zip3G_e, seqD_t, seqD_l, finP_d, finP_o, finP_a, finF_d, finF_o, finJF_d, finJF_o, finJ_d, finJ_o, startD_e, startJ_e, dnI_e, dnIH_e, dnGF_e, dnGetF_e, dnSF_e, dnSH_e, gStDn_e, dn1F_e, atI_0, atI_1, atI_2, ixN_2_0, ixN_2_1, appK_eq, cmp_i, eqv_ii, eqv_nn, cast1, cast2, cast3, List.map_cons, List.map_nil, List.append_nil, List.nil_append, List.cons_append, List.replicate_succ, List.replicate_zero, List.length_cons, List.length_nil, List.getElem?_cons_zero, List.getElem?_cons_succ, List.set_cons_zero, List.set_cons_succ, Option.map_some, Bool.not_true, Bool.not_false, Nat.reduceAdd, Nat.reduceSub, Nat.zero_add, Nat.add_zero, if_true, if_false, decide_true, decide_false, and_true, true_and, Nat.reduceLeDiff, Nat.sub_zero, Nat.sub_self, seqD_ints, zipD2_maps]
        refine ⟨fun i hi => ?_, ?_⟩
        · simp only [List.mem_cons, List.not_mem_nil, or_false] at hi
          rcases hi with rfl | rfl <;> rfl
        refine lcL_maps (fun p : Int × Int => D.tup [.int p.1, .int p.2]) (fun p => .int (p.1 + qd * p.2)) _ [] (fun c hc K hK => ?_) ?_
        · simp only [↓e_var, ↓e_C, ↓e_dD, ↓e_d2, ↓e_neg, ↓e_isN, ↓e_B, ↓e_And, ↓e_Or, ↓e_Not, ↓e_AndV, ↓e_OrV, ↓e_NotV, ↓e_IfE, ↓e_Chain, ↓e_Ix, ↓e_Sl, ↓e_No, ↓e_Part, ↓e_nil, ↓e_cons, ↓e_Tup, ↓e_Lst, ↓e_CB, ↓e_ofD, ↓e_jOf, ↓e_Len, ↓e_Ints, ↓e_fMax, ↓e_fMin, ↓e_Tuple, ↓e_List, ↓e_Bls, ↓e_Is, ↓e_seq, ↓e_skip, ↓e_ret, ↓e_drop, ↓e_ifS, ↓e_never, ↓e_asg, ↓e_par2, ↓e_par3, ↓e_App, ↓e_For, ↓e_While, ↓e_Iter, ↓e_Rng1, ↓e_Rng2, ↓e_Zip2, ↓e_Zip3, ↓e_Lc, ↓e_Yes, ↓e_Dn0, ↓e_DnIn, ↓e_DnGet, ↓e_Dn1, iteG_t, iteG_f, iteG_d, iteG_n, iteG_a, iteG_o, iteG_x, iteG_e, iteG_s, iteG_l, iteG_y, iteF_t, iteF_f, varF_d, varF_o, toD_d, toD_l, toD_a, toDF_d, toDF_l, d2F_d, fAdd_i, fAdd_s, fAdd_t, fAdd_l, fSub_i, fMul_i, fMulR_i, fMulR_t, fMulR_l, fDiv_i, fMod_i, fPow_i, negF_i, cLt_i, cLe_i, cGt_i, cGe_i, cEq_e, cNe_e, isNF_n, isNF_t, isNF_i, dBF_b, boF_b, notVF_b, ch2F_d, chF_d, seqOf_t, seqOf_l, seqOf_o, seqOf_s, seqOf_a, seqF_t, seqF_l, seqF_o, kindOf_t, kindOf_l, kindOf_o, kindOf_a, kindF_t, kindF_l, kindF_o, ixF2_s, ixF_s, slF_t, slF_f, partF_i, allD_n, allD_c, tupF_s, lstF_s, ofDF_s, gInt_i, gInt_b, gAbs_i, gMax2_i, gMin2_i, gN_e, jF_s, lenF_s, intsF2_s, intsF_s, fSum_e, gTF_s, gLF_s, blsF_s, blsF2_s, isF_s, isF2_s, tyn_i, tyn_b, tyn_t, tyn_l, tyn_s, tyn_n, k_ii, k_ib, k_tt, gN1_d, gN1_o, gN1_a, gaF_d, gaF_o, gTup_e, gs_n, gs_c, par2G_e, par2F_s, svOf_d, svOf_o, par3G_e, par3F_s, stF2_s, stF_s, stG_e, gStL_e, gOwn_e, owL_a, apG_e, apI_e, iterF_t, iterF_l, rng1F_e, rng2F_e, zip2F_s, zip2G_e, zip3F_s, zip3G_e, seqD_t, seqD_l, finP_d, finP_o, finP_a, finF_d, finF_o, finJF_d, finJF_o, finJ_d, finJ_o, startD_e, startJ_e, dnI_e, dnIH_e, dnGF_e, dnGetF_e, dnSF_e, dnSH_e, gStDn_e, dn1F_e, atI_0, atI_1, atI_2, ixN_2_0, ixN_2_1, appK_eq, cmp_i, eqv_ii, eqv_nn, cast1, cast2, cast3, List.map_cons, List.map_nil, List.append_nil, List.nil_append, List.cons_append, List.replicate_succ, List.replicate_zero, List.length_cons, List.length_nil, List.getElem?_cons_zero, List.getElem?_cons_succ, List.set_cons_zero, List.set_cons_succ, Option.map_some, Bool.not_true, Bool.not_false, Nat.reduceAdd, Nat.reduceSub, Nat.zero_add, Nat.add_zero, if_true, if_false, decide_true, decide_false, and_true, true_and, Nat.reduceLeDiff, Nat.sub_zero, Nat.sub_self]
          exact ⟨MulOk.small (by omega) (by omega), hK _ rfl⟩
        have e3 : (((tot 1 r f X).zip (sumsF 1 r ((List.range (m - first)).map fun i => orb r (0, f) (first + i)))).map fun p => D.int (p.1 + qd * p.2)) = (tot 1 r f (X + qd.toNat * (m - first))).map D.int := by
          unfold tot sumsF
          rw [zip_cols, List.map_map]
          apply List.map_congr_left
          intro j hj
          show D.int _ = D.int _
          rw [tot_more hfm e hXf, ← eqd]
        simp only [↓e_var, ↓e_C, ↓e_dD, ↓e_d2, ↓e_neg, ↓e_isN, ↓e_B, ↓e_And, ↓e_Or, ↓e_Not, ↓e_AndV, ↓e_OrV, ↓e_NotV, ↓e_IfE, ↓e_Chain, ↓e_Ix, ↓e_Sl, ↓e_No, ↓e_Part, ↓e_nil, ↓e_cons, ↓e_Tup, ↓e_Lst, ↓e_CB, ↓e_ofD, ↓e_jOf, ↓e_Len, ↓e_Ints, ↓e_fMax, ↓e_fMin, ↓e_Tuple, ↓e_List, ↓e_Bls, ↓e_Is, ↓e_seq, ↓e_skip, ↓e_ret, ↓e_drop, ↓e_ifS, ↓e_never, ↓e_asg, ↓e_par2, ↓e_par3, ↓e_App, ↓e_For, ↓e_While, ↓e_Iter, ↓e_Rng1, ↓e_Rng2, ↓e_Zip2, ↓e_Zip3, ↓e_Lc, ↓e_Yes, ↓e_Dn0, ↓e_DnIn, ↓e_DnGet, ↓e_Dn1, iteG_t, iteG_f, iteG_d, iteG_n, iteG_a, iteG_o, iteG_x, iteG_e, iteG_s, iteG_l, iteG_y, iteF_t, iteF_f, varF_d, varF_o, toD_d, toD_l, toD_a, toDF_d, toDF_l, d2F_d, fAdd_i, fAdd_s, fAdd_t, fAdd_l, fSub_i, fMul_i, fMulR_i, fMulR_t, fMulR_l, fDiv_i, fMod_i, fPow_i, negF_i, cLt_i, cLe_i, cGt_i, cGe_i, cEq_e, cNe_e, isNF_n, isNF_t, isNF_i, dBF_b, boF_b, notVF_b, ch2F_d, chF_d, seqOf_t, seqOf_l, seqOf_o, seqOf_s, seqOf_a, seqF_t, seqF_l, seqF_o, kindOf_t, kindOf_l, kindOf_o, kindOf_a, kindF_t, kindF_l, kindF_o, ixF2_s, ixF_s, slF_t, slF_f, partF_i, allD_n, allD_c, tupF_s, lstF_s, ofDF_s, gInt_i, gInt_b, gAbs_i, gMax2_i, gMin2_i, gN_e, jF_s, lenF_s, intsF2_s, intsF_s, fSum_e, gTF_s, gLF_s, blsF_s, blsF2_s, isF_s, isF2_s, tyn_i, tyn_b, tyn_t, tyn_l, tyn_s, tyn_n, k_ii, k_ib, k_tt, gN1_d, gN1_o, gN1_a, gaF_d, gaF_o, gTup_e, gs_n, gs_c, par2G_e, par2F_s, svOf_d, svOf_o, par3G_e, par3F_s, stF2_s, stF_s, stG_e, gStL_e, gOwn_e, owL_a, apG_e, apI_e, iterF_t, iterF_l, rng1F_e, rng2F_e, zip2F_s, zip2G_e, zip3F_s, zip3G_e, seqD_t, seqD_l, finP_d, finP_o, finP_a, finF_d, finF_o, finJF_d, finJF_o, finJ_d, finJ_o, startD_e, startJ_e, dnI_e, dnIH_e, dnGF_e, dnGetF_e, dnSF_e, dnSH_e, gStDn_e, dn1F_e, atI_0, atI_1, atI_2, ixN_2_0, ixN_2_1, appK_eq, cmp_i, eqv_ii, eqv_nn, cast1, cast2, cast3, List.map_cons, List.map_nil, List.append_nil, List.nil_append, List.cons_append, List.replicate_succ, List.replicate_zero, List.length_cons, List.length_nil, List.getElem?_cons_zero, List.getElem?_cons_succ, List.set_cons_zero, List.set_cons_succ, Option.map_some, Bool.not_true, Bool.not_false, Nat.reduceAdd, Nat.reduceSub, Nat.zero_add, Nat.add_zero, if_true, if_false, decide_true, decide_false, and_true, true_and, Nat.reduceLeDiff, Nat.sub_zero, Nat.sub_self, e3, seqOf_ints, cmp_intsL, eqv_intsL]
        have dl : (n : Int) / 2 = ((n / 2 : Nat) : Int) := by omega
        have e5 : (orb r (0, (orb r (0, f) X).2) (n / 2)).2 = (orb r (0, f) (n / 2 + X)).2 := by
          rw [← oz, ← orb_add, Nat.add_comm]
        rw [dl]
        refine ⟨CDivW.small (by decide) (by decide), rfl, r, f, X, rfl, ok, hf, by omega, ?_⟩
        simp only [↓e_var, ↓e_C, ↓e_dD, ↓e_d2, ↓e_neg, ↓e_isN, ↓e_B, ↓e_And, ↓e_Or, ↓e_Not, ↓e_AndV, ↓e_OrV, ↓e_NotV, ↓e_IfE, ↓e_Chain, ↓e_Ix, ↓e_Sl, ↓e_No, ↓e_Part, ↓e_nil, ↓e_cons, ↓e_Tup, ↓e_Lst, ↓e_CB, ↓e_ofD, ↓e_jOf, ↓e_Len, ↓e_Ints, ↓e_fMax, ↓e_fMin, ↓e_Tuple, ↓e_List, ↓e_Bls, ↓e_Is, ↓e_seq, ↓e_skip, ↓e_ret, ↓e_drop, ↓e_ifS, ↓e_never, ↓e_asg, ↓e_par2, ↓e_par3, ↓e_App, ↓e_For, ↓e_While, ↓e_Iter, ↓e_Rng1, ↓e_Rng2, ↓e_Zip2, ↓e_Zip3, ↓e_Lc, ↓e_Yes, ↓e_Dn0, ↓e_DnIn, ↓e_DnGet, ↓e_Dn1, iteG_t, iteG_f, iteG_d, iteG_n, iteG_a, iteG_o, iteG_x, iteG_e, iteG_s, iteG_l, iteG_y, iteF_t, iteF_f, varF_d, varF_o, toD_d, toD_l, toD_a, toDF_d, toDF_l, d2F_d, fAdd_i, fAdd_s, fAdd_t, fAdd_l, fSub_i, fMul_i, fMulR_i, fMulR_t, fMulR_l, fDiv_i, fMod_i, fPow_i, negF_i, cLt_i, cLe_i, cGt_i, cGe_i, cEq_e, cNe_e, isNF_n, isNF_t, isNF_i, dBF_b, boF_b, notVF_b, ch2F_d, chF_d, seqOf_t, seqOf_l, seqOf_o, seqOf_s, seqOf_a, seqF_t, seqF_l, seqF_o, kindOf_t, kindOf_l, kindOf_o, kindOf_a, kindF_t, kindF_l, kindF_o, ixF2_s, ixF_s, slF_t, slF_f, partF_i, allD_n, allD_c, tupF_s, lstF_s, ofDF_s, gInt_i, gInt_b, gAbs_i, gMax2_i, gMin2_i, gN_e, jF_s, lenF_s, intsF2_s, intsF_s, fSum_e, gTF_s, gLF_s, blsF_s, blsF2_s, isF_s, isF2_s, tyn_i, tyn_b, tyn_t, tyn_l, tyn_s, tyn_n, k_ii, k_ib, k_tt, gN1_d, gN1_o, gN1_a, gaF_d, gaF_o, gTup_e, gs_n, gs_c, par2G_e, par2F_s, svOf_d, svOf_o, par3G_e, par3F_s, stF2_s, stF_s, stG_e, gStL_e, gOwn_e, owL_a, apG_e, apI_e, iterF_t, iterF_l, rng1F_e, rng2F_e, zip2F_s, zip2G_e, zip3F_s, zip3G_e, seqD_t, seqD_l, finP_d, finP_o, finP_a, finF_d, finF_o, finJF_d, finJF_o, finJ_d, finJ_o, startD_e, startJ_e, dnI_e, dnIH_e, dnGF_e, dnGetF_e, dnSF_e, dnSH_e, gStDn_e, dn1F_e, atI_0, atI_1, atI_2, ixN_2_0, ixN_2_1, appK_eq, cmp_i, eqv_ii, eqv_nn, cast1, cast2, cast3, List.map_cons, List.map_nil, List.append_nil, List.nil_append, List.cons_append, List.replicate_succ, List.replicate_zero, List.length_cons, List.length_nil, List.getElem?_cons_zero, List.getElem?_cons_succ, List.set_cons_zero, List.set_cons_succ, Option.map_some, Bool.not_true, Bool.not_false, Nat.reduceAdd, Nat.reduceSub, Nat.zero_add, Nat.add_zero, if_true, if_false, decide_true, decide_false, and_true, true_and, Nat.reduceLeDiff, Nat.sub_zero, Nat.sub_self]
        refine ⟨rfl, r, (orb r (0, f) X).2, n / 2, rfl, ok, (orb_ok ok (start_ok ok hf) X).2, by omega, ?_⟩
        simp only [↓e_var, ↓e_C, ↓e_dD, ↓e_d2, ↓e_neg, ↓e_isN, ↓e_B, ↓e_And, ↓e_Or, ↓e_Not, ↓e_AndV, ↓e_OrV, ↓e_NotV, ↓e_IfE, ↓e_Chain, ↓e_Ix, ↓e_Sl, ↓e_No, ↓e_Part, ↓e_nil, ↓e_cons, ↓e_Tup, ↓e_Lst, ↓e_CB, ↓e_ofD, ↓e_jOf, ↓e_Len, ↓e_Ints, ↓e_fMax, ↓e_fMin, ↓e_Tuple, ↓e_List, ↓e_Bls, ↓e_Is, ↓e_seq, ↓e_skip, ↓e_ret, ↓e_drop, ↓e_ifS, ↓e_never, ↓e_asg, ↓e_par2, ↓e_par3, ↓e_App, ↓e_For, ↓e_While, ↓e_Iter, ↓e_Rng1, ↓e_Rng2, ↓e_Zip2, ↓e_Zip3, ↓e_Lc, ↓e_Yes, ↓e_Dn0, ↓e_DnIn, ↓e_DnGet, ↓e_Dn1, iteG_t, iteG_f, iteG_d, iteG_n, iteG_a, iteG_o, iteG_x, iteG_e, iteG_s, iteG_l, iteG_y, iteF_t, iteF_f, varF_d, varF_o, toD_d, toD_l, toD_a, toDF_d, toDF_l, d2F_d, fAdd_i, fAdd_s, fAdd_t, fAdd_l, fSub_i, fMul_i, fMulR_i, fMulR_t, fMulR_l, fDiv_i, fMod_i, fPow_i, negF_i, cLt_i, cLe_i, cGt_i, cGe_i, cEq_e, cNe_e, isNF_n, isNF_t, isNF_i, dBF_b, boF_b, notVF_b, ch2F_d, chF_d, seqOf_t, seqOf_l, seqOf_o, seqOf_s, seqOf_a, seqF_t, seqF_l, seqF_o, kindOf_t, kindOf_l, kindOf_o, kindOf_a, kindF_t, kindF_l, kindF_o, ixF2_s, ixF_s, slF_t, slF_f, partF_i, allD_n, allD_c, tupF_s, lstF_s, ofDF_s, gInt_i, gInt_b, gAbs_i, gMax2_i, gMin2_i, gN_e, jF_s, lenF_s, intsF2_s, intsF_s, fSum_e, gTF_s, gLF_s, blsF_s, blsF2_s, isF_s, isF2_s, tyn_i, tyn_b, tyn_t, tyn_l, tyn_s, tyn_n, k_ii, k_ib, k_tt, gN1_d, gN1_o, gN1_a, gaF_d, gaF_o, gTup_e, gs_n, gs_c, par2G_e, par2F_s, svOf_d, svOf_o, par3G_e, par3F_s, stF2_s, stF_s, stG_e, gStL_e, gOwn_e, owL_a, apG_e, apI_e, iterF_t, iterF_l, rng1F_e, rng2F_e, zip2F_s, zip2G_e, zip3F_s, zip3G_e, seqD_t, seqD_l, finP_d, finP_o, finP_a, finF_d, finF_o, finJF_d, finJF_o, finJ_d, finJ_o, startD_e, startJ_e, dnI_e, dnIH_e, dnGF_e, dnGetF_e, dnSF_e, dnSH_e, gStDn_e, dn1F_e, atI_0, atI_1, atI_2, ixN_2_0, ixN_2_1, appK_eq, cmp_i, eqv_ii, eqv_nn, cast1, cast2, cast3, List.map_cons, List.map_nil, List.append_nil, List.nil_append, List.cons_append, List.replicate_succ, List.replicate_zero, List.length_cons, List.length_nil, List.getElem?_cons_zero, List.getElem?_cons_succ, List.set_cons_zero, List.set_cons_succ, Option.map_some, Bool.not_true, Bool.not_false, Nat.reduceAdd, Nat.reduceSub, Nat.zero_add, Nat.add_zero, if_true, if_false, decide_true, decide_false, and_true, true_and, Nat.reduceLeDiff, Nat.sub_zero, Nat.sub_self]
        refine ⟨rfl, r, f, n / 2 + X, rfl, ok, hf, by omega, ?_⟩
        rw [e5]
        simp only [↓e_var, ↓e_C, ↓e_dD, ↓e_d2, ↓e_neg, ↓e_isN, ↓e_B, ↓e_And, ↓e_Or, ↓e_Not, ↓e_AndV, ↓e_OrV, ↓e_NotV, ↓e_IfE, ↓e_Chain, ↓e_Ix, ↓e_Sl, ↓e_No, ↓e_Part, ↓e_nil, ↓e_cons, ↓e_Tup, ↓e_Lst, ↓e_CB, ↓e_ofD, ↓e_jOf, ↓e_Len, ↓e_Ints, ↓e_fMax, ↓e_fMin, ↓e_Tuple, ↓e_List, ↓e_Bls, ↓e_Is, ↓e_seq, ↓e_skip, ↓e_ret, ↓e_drop, ↓e_ifS, ↓e_never, ↓e_asg, ↓e_par2, ↓e_par3, ↓e_App, ↓e_For, ↓e_While, ↓e_Iter, ↓e_Rng1, ↓e_Rng2, ↓e_Zip2, ↓e_Zip3, ↓e_Lc, ↓e_Yes, ↓e_Dn0, ↓e_DnIn, ↓e_DnGet, ↓e_Dn1, iteG_t, iteG_f, iteG_d, iteG_n, iteG_a, iteG_o, iteG_x, iteG_e, iteG_s, iteG_l, iteG_y, iteF_t, iteF_f, varF_d, varF_o, toD_d, toD_l, toD_a, toDF_d, toDF_l, d2F_d, fAdd_i, fAdd_s, fAdd_t, fAdd_l, fSub_i, fMul_i, fMulR_i, fMulR_t, fMulR_l, fDiv_i, fMod_i, fPow_i, negF_i, cLt_i, cLe_i, cGt_i, cGe_i, cEq_e, cNe_e, isNF_n, isNF_t, isNF_i, dBF_b, boF_b, notVF_b, ch2F_d, chF_d, seqOf_t, seqOf_l, seqOf_o, seqOf_s, seqOf_a, seqF_t, seqF_l, seqF_o, kindOf_t, kindOf_l, kindOf_o, kindOf_a, kindF_t, kindF_l, kindF_o, ixF2_s, ixF_s, slF_t, slF_f, partF_i, allD_n, allD_c, tupF_s, lstF_s, ofDF_s, gInt_i, gInt_b, gAbs_i, gMax2_i, gMin2_i, gN_e, jF_s, lenF_s, intsF2_s, intsF_s, fSum_e, gTF_s, gLF_s, blsF_s, blsF2_s, isF_s, isF2_s, tyn_i, tyn_b, tyn_t, tyn_l, tyn_s, tyn_n, k_ii, k_ib, k_tt, gN1_d, gN1_o, gN1_a, gaF_d, gaF_o, gTup_e, gs_n, gs_c, par2G_e, par2F_s, svOf_d, svOf_o, par3G_e, par3F_s, stF2_s, stF_s, stG_e, gStL_e, gOwn_e, owL_a, apG_e, apI_e, iterF_t, iterF_l, rng1F_e, rng2F_e, zip2F_s, zip2G_e, zip3F_s, zip3G_e, seqD_t, seqD_l, finP_d, finP_o, finP_a, finF_d, finF_o, finJF_d, finJF_o, finJ_d, finJ_o, startD_e, startJ_e, dnI_e, dnIH_e, dnGF_e, dnGetF_e, dnSF_e, dnSH_e, gStDn_e, dn1F_e, atI_0, atI_1, atI_2, ixN_2_0, ixN_2_1, appK_eq, cmp_i, eqv_ii, eqv_nn, cast1, cast2, cast3, List.map_cons, List.map_nil, List.append_nil, List.nil_append, List.cons_append, List.replicate_succ, List.replicate_zero, List.length_cons, List.length_nil, List.getElem?_cons_zero, List.getElem?_cons_succ, List.set_cons_zero, List.set_cons_succ, Option.map_some, Bool.not_true, Bool.not_false, Nat.reduceAdd, Nat.reduceSub, Nat.zero_add, Nat.add_zero, if_true, if_false, decide_true, decide_false, and_true, true_and, Nat.reduceLeDiff, Nat.sub_zero, Nat.sub_self, cmp_intsD, eqv_intsD]
        exact hK' _ ⟨a, b, [_, _, _, _, _, _, _, _, _, _, _, _, _, _, _], _, jo, rfl, rfl⟩
    · rintro ρ ⟨a, b, z, y, jo, hz, rfl⟩
      match z, hz with
      | [z3, z4, z5, z6, z7, z8, z9, z10, z11, z12, z13, z14, z15, z16, z17], _ => ?_
      simp only [↓e_var, ↓e_C, ↓e_dD, ↓e_d2, ↓e_neg, ↓e_isN, ↓e_B, ↓e_And, ↓e_Or, ↓e_Not, ↓e_AndV, ↓e_OrV, ↓e_NotV, ↓e_IfE, ↓e_Chain, ↓e_Ix, ↓e_Sl, ↓e_No, ↓e_Part, ↓e_nil, ↓e_cons, ↓e_Tup, ↓e_Lst, ↓e_CB, ↓e_ofD, ↓e_jOf, ↓e_Len, ↓e_Ints, ↓e_fMax, ↓e_fMin, ↓e_Tuple, ↓e_List, ↓e_Bls, ↓e_Is, ↓e_seq, ↓e_skip, ↓e_ret, ↓e_drop, ↓e_ifS, ↓e_never, ↓e_asg, ↓e_par2, ↓e_par3, ↓e_App, ↓e_For, ↓e_While, ↓e_Iter, ↓e_Rng1, ↓e_Rng2, ↓e_Zip2, ↓e_Zip3, ↓e_Lc, ↓e_Yes, ↓e_Dn0, ↓e_DnIn, ↓e_DnGet, ↓e_Dn1, iteG_t, iteG_f, iteG_d, iteG_n, iteG_a, iteG_o, iteG_x, iteG_e, iteG_s, iteG_l, iteG_y, iteF_t, iteF_f, varF_d, varF_o, toD_d, toD_l, toD_a, toDF_d, toDF_l, d2F_d, fAdd_i, fAdd_s, fAdd_t, fAdd_l, fSub_i, fMul_i, fMulR_i, fMulR_t, fMulR_l, fDiv_i, fMod_i, fPow_i, negF_i, cLt_i, cLe_i, cGt_i, cGe_i, cEq_e, cNe_e, isNF_n, isNF_t, isNF_i, dBF_b, boF_b, notVF_b, ch2F_d, chF_d, seqOf_t, seqOf_l, seqOf_o, seqOf_s, seqOf_a, seqF_t, seqF_l, seqF_o, kindOf_t, kindOf_l, kindOf_o, kindOf_a, kindF_t, kindF_l, kindF_o, ixF2_s, ixF_s, slF_t, slF_f, partF_i, allD_n, allD_c, tupF_s, lstF_s, ofDF_s, gInt_i, gInt_b, gAbs_i, gMax2_i, gMin2_i, gN_e, jF_s, lenF_s, intsF2_s, intsF_s, fSum_e, gTF_s, gLF_s, blsF_s, blsF2_s, isF_s, isF2_s, tyn_i, tyn_b, tyn_t, tyn_l, tyn_s, tyn_n, k_ii, k_ib, k_tt, gN1_d, gN1_o, gN1_a, gaF_d, gaF_o, gTup_e, gs_n, gs_c, par2G_e, par2F_s, svOf_d, svOf_o, par3G_e, par3F_s, stF2_s, stF_s, stG_e, gStL_e, gOwn_e, owL_a, apG_e, apI_e, iterF_t, iterF_l, rng1F_e, rng2F_e, zip2F_s, zip2G_e, zip3F_s, zip3G_e, seqD_t, seqD_l, finP_d, finP_o, finP_a, finF_d, finF_o, finJF_d, finJF_o, finJ_d, finJ_o, startD_e, startJ_e, dnI_e, dnIH_e, dnGF_e, dnGetF_e, dnSF_e, dnSH_e, gStDn_e, dn1F_e, atI_0, atI_1, atI_2, ixN_2_0, ixN_2_1, appK_eq, cmp_i, eqv_ii, eqv_nn, cast1, cast2, cast3, List.map_cons, List.map_nil, List.append_nil, List.nil_append, List.cons_append, List.replicate_succ, List.replicate_zero, List.length_cons, List.length_nil, List.getElem?_cons_zero, List.getElem?_cons_succ, List.set_cons_zero, List.set_cons_succ, Option.map_some, Bool.not_true, Bool.not_false, Nat.reduceAdd, Nat.reduceSub, Nat.zero_add, Nat.add_zero, if_true, if_false, decide_true, decide_false, and_true, true_and, Nat.reduceLeDiff, Nat.sub_zero, Nat.sub_self]
      exact hK _ ⟨[_, _, z3, z4, z5, z6, z7, z8, z9, z10, z11, z12, z13, z14, z15, z16, z17], y, rfl, rfl, fun k hk' => hk k (List.mem_cons_of_mem _ hk')⟩
  · rintro ρ ⟨z, y, hz, rfl, hk⟩
    match z, hz with
    | [z1, z2, z3, z4, z5, z6, z7, z8, z9, z10, z11, z12, z13, z14, z15, z16, z17], _ => ?_
    simp only [↓e_var, ↓e_C, ↓e_dD, ↓e_d2, ↓e_neg, ↓e_isN, ↓e_B, ↓e_And, ↓e_Or, ↓e_Not, ↓e_AndV, ↓e_OrV, ↓e_NotV, ↓e_IfE, ↓e_Chain, ↓e_Ix, ↓e_Sl, ↓e_No, ↓e_Part, ↓e_nil, ↓e_cons, ↓e_Tup, ↓e_Lst, ↓e_CB, ↓e_ofD, ↓e_jOf, ↓e_Len, ↓e_Ints, ↓e_fMax, ↓e_fMin, ↓e_Tuple, ↓e_List, ↓e_Bls, ↓e_Is, ↓e_seq, ↓e_skip, ↓e_ret, ↓e_drop, ↓e_ifS, ↓e_never, ↓e_asg, ↓e_par2, ↓e_par3, ↓e_App, ↓e_For, ↓e_While, ↓e_Iter, ↓e_Rng1, ↓e_Rng2, ↓e_Zip2, ↓e_Zip3, ↓e_Lc, ↓e_Yes, ↓e_Dn0, ↓e_DnIn, ↓e_DnGet, ↓e_Dn1, iteG_t, iteG_f, iteG_d, iteG_n, iteG_a, iteG_o, iteG_x, iteG_e, iteG_s, iteG_l, iteG_y, iteF_t, iteF_f, varF_d, varF_o, toD_d, toD_l, toD_a, toDF_d, toDF_l, d2F_d, fAdd_i, fAdd_s, fAdd_t, fAdd_l, fSub_i, fMul_i, fMulR_i, fMulR_t, fMulR_l, fDiv_i, fMod_i, fPow_i, negF_i, cLt_i, cLe_i, cGt_i, cGe_i, cEq_e, cNe_e, isNF_n, isNF_t, isNF_i, dBF_b, boF_b, notVF_b, ch2F_d, chF_d, seqOf_t, seqOf_l, seqOf_o, seqOf_s, seqOf_a, seqF_t, seqF_l, seqF_o, kindOf_t, kindOf_l, kindOf_o, kindOf_a, kindF_t, kindF_l, kindF_o, ixF2_s, ixF_s, slF_t, slF_f, partF_i, allD_n, allD_c, tupF_s, lstF_s, ofDF_s, gInt_i, gInt_b, gAbs_i, gMax2_i, gMin2_i, gN_e, jF_s, lenF_s, intsF2_s, intsF_s, fSum_e, gTF_s, gLF_s, blsF_s, blsF2_s, isF_s, isF2_s, tyn_i, tyn_b, tyn_t, tyn_l, tyn_s, tyn_n, k_ii, k_ib, k_tt, gN1_d, gN1_o, gN1_a, gaF_d, gaF_o, gTup_e, gs_n, gs_c, par2G_e, par2F_s, svOf_d, svOf_o, par3G_e, par3F_s, stF2_s, stF_s, stG_e, gStL_e, gOwn_e, owL_a, apG_e, apI_e, iterF_t, iterF_l, rng1F_e, rng2F_e, zip2F_s, zip2G_e, zip3F_s, zip3G_e, seqD_t, seqD_l, finP_d, finP_o, finP_a, finF_d, finF_o, finJF_d, finJF_o, finJ_d, finJ_o, startD_e, startJ_e, dnI_e, dnIH_e, dnGF_e, dnGetF_e, dnSF_e, dnSH_e, gStDn_e, dn1F_e, atI_0, atI_1, atI_2, ixN_2_0, ixN_2_1, appK_eq, cmp_i, eqv_ii, eqv_nn, cast1, cast2, cast3, List.map_cons, List.map_nil, List.append_nil, List.nil_append, List.cons_append, List.replicate_succ, List.replicate_zero, List.length_cons, List.length_nil, List.getElem?_cons_zero, List.getElem?_cons_succ, List.set_cons_zero, List.set_cons_succ, Option.map_some, Bool.not_true, Bool.not_false, Nat.reduceAdd, Nat.reduceSub, Nat.zero_add, Nat.add_zero, if_true, if_false, decide_true, decide_false, and_true, true_and, Nat.reduceLeDiff, Nat.sub_zero, Nat.sub_self]
    refine ⟨rfl, ⟨2, [(4, 4, 0)], [[4, 1]]⟩, rfl, ⟨by decide, by decide, by decide, by decide, fun c hc => ?_, rfl, fun t ht => ?_, by decide, ⟨_, _, rfl, 4, by simp, by decide⟩⟩, ?_⟩
    · rw [List.mem_singleton.mp hc]
      exact ⟨by decide, by decide, by decide, by decide, by decide, by decide⟩
    · rw [List.mem_singleton.mp ht]
      refine ⟨rfl, fun x hx => ?_⟩
      simp only [List.mem_cons, List.not_mem_nil, or_false] at hx
      rcases hx with rfl | rfl <;> decide
    · simp only [↓e_var, ↓e_C, ↓e_dD, ↓e_d2, ↓e_neg, ↓e_isN, ↓e_B, ↓e_And, ↓e_Or, ↓e_Not, ↓e_AndV, ↓e_OrV, ↓e_NotV, ↓e_IfE, ↓e_Chain, ↓e_Ix, ↓e_Sl, ↓e_No, ↓e_Part, ↓e_nil, ↓e_cons, ↓e_Tup, ↓e_Lst, ↓e_CB, ↓e_ofD, ↓e_jOf, ↓e_Len, ↓e_Ints, ↓e_fMax, ↓e_fMin, ↓e_Tuple, ↓e_List, ↓e_Bls, ↓e_Is, ↓e_seq, ↓e_skip, ↓e_ret, ↓e_drop, ↓e_ifS, ↓e_never, ↓e_asg, ↓e_par2, ↓e_par3, ↓e_App, ↓e_For, ↓e_While, ↓e_Iter, ↓e_Rng1, ↓e_Rng2, ↓e_Zip2, ↓e_Zip3, ↓e_Lc, ↓e_Yes, ↓e_Dn0, ↓e_DnIn, ↓e_DnGet, ↓e_Dn1, iteG_t, iteG_f, iteG_d, iteG_n, iteG_a, iteG_o, iteG_x, iteG_e, iteG_s, iteG_l, iteG_y, iteF_t, iteF_f, varF_d, varF_o, toD_d, toD_l, toD_a, toDF_d, toDF_l, d2F_d, fAdd_i, fAdd_s, fAdd_t, fAdd_l, fSub_i, fMul_i, fMulR_i, fMulR_t, fMulR_l, fDiv_i, fMod_i, fPow_i, negF_i, cLt_i, cLe_i, cGt_i, cGe_i, cEq_e, cNe_e, isNF_n, isNF_t, isNF_i, dBF_b, boF_b, notVF_b, ch2F_d, chF_d, seqOf_t, seqOf_l, seqOf_o, seqOf_s, seqOf_a, seqF_t, seqF_l, seqF_o, kindOf_t, kindOf_l, kindOf_o, kindOf_a, kindF_t, kindF_l, kindF_o, ixF2_s, ixF_s, slF_t, slF_f, partF_i, allD_n, allD_c, tupF_s, lstF_s, ofDF_s, gInt_i, gInt_b, gAbs_i, gMax2_i, gMin2_i, gN_e, jF_s, lenF_s, intsF2_s, intsF_s, fSum_e, gTF_s, gLF_s, blsF_s, blsF2_s, isF_s, isF2_s, tyn_i, tyn_b, tyn_t, tyn_l, tyn_s, tyn_n, k_ii, k_ib, k_tt, gN1_d, gN1_o, gN1_a, gaF_d, gaF_o, gTup_e, gs_n, gs_c, par2G_e, par2F_s, svOf_d, svOf_o, par3G_e, par3F_s, stF2_s, stF_s, stG_e, gStL_e, gOwn_e, owL_a, apG_e, apI_e, iterF_t, iterF_l, rng1F_e, rng2F_e, zip2F_s, zip2G_e, zip3F_s, zip3G_e, seqD_t, seqD_l, finP_d, finP_o, finP_a, finF_d, finF_o, finJF_d, finJF_o, finJ_d, finJ_o, startD_e, startJ_e, dnI_e, dnIH_e, dnGF_e, dnGetF_e, dnSF_e, dnSH_e, gStDn_e, dn1F_e, atI_0, atI_1, atI_2, ixN_2_0, ixN_2_1, appK_eq, cmp_i, eqv_ii, eqv_nn, cast1, cast2, cast3, List.map_cons, List.map_nil, List.append_nil, List.nil_append, List.cons_append, List.replicate_succ, List.replicate_zero, List.length_cons, List.length_nil, List.getElem?_cons_zero, List.getElem?_cons_succ, List.set_cons_zero, List.set_cons_succ, Option.map_some, Bool.not_true, Bool.not_false, Nat.reduceAdd, Nat.reduceSub, Nat.zero_add, Nat.add_zero, if_true, if_false, decide_true, decide_false, and_true, true_and, Nat.reduceLeDiff, Nat.sub_zero, Nat.sub_self]
      exact h
  · rw [List.mem_range, List.length_map] at hk
    revert hk
    (repeat' split) <;> omega
def Dx_law (P : Program) (w : World) (K : PySem.W.Frag) (mg : Str → Option Value) (base : Heap) : Prop := ∃ f fd, Def P w K mg base 7 "law" f fd ["script"] (spP (bas P w K) 1 sp_law)
theorem ok_law {P : Program} {w : World} {K : PySem.W.Frag} {mg : Str → Option Value} {base : Heap} (M : Mg mg) (D_tap_water : Dx_tap_water P w K mg base) (D_behind : Dx_behind P w K mg base) (D__law_sum_of : Dx__law_sum_of P w K mg base) (D_poured : Dx_poured P w K mg base) (D__law_drip : Dx__law_drip P w K mg base) (D__law_loop : Dx__law_loop P w K mg base) (D__law_given : Dx__law_given P w K mg base) (D_lost : Dx_lost P w K mg base) (D__law_any : Dx__law_any P w K mg base) (D__law_load : Dx__law_load P w K mg base) (D__law_line : Dx__law_line P w K mg base) (D__law_jar : Dx__law_jar P w K mg base) {f : Addr} {fd : FuncData} (F : FunD K "law" "law" (defArgs s_law) (defBody s_law) (defScope s_law) [] [] f fd) : FnOk P w K mg base CX0 7 f fd ["script"] (spP (bas P w K) 1 sp_law) := by
  obtain ⟨a_tap_water, fd_tap_water, D_tap_water⟩ := D_tap_water
  obtain ⟨a_behind, fd_behind, D_behind⟩ := D_behind
  obtain ⟨a__law_sum_of, fd__law_sum_of, D__law_sum_of⟩ := D__law_sum_of
  obtain ⟨a_poured, fd_poured, D_poured⟩ := D_poured
  obtain ⟨a__law_drip, fd__law_drip, D__law_drip⟩ := D__law_drip
  obtain ⟨a__law_loop, fd__law_loop, D__law_loop⟩ := D__law_loop
  obtain ⟨a__law_given, fd__law_given, D__law_given⟩ := D__law_given
  obtain ⟨a_lost, fd_lost, D_lost⟩ := D_lost
  obtain ⟨a__law_any, fd__law_any, D__law_any⟩ := D__law_any
  obtain ⟨a__law_load, fd__law_load, D__law_load⟩ := D__law_load
  obtain ⟨a__law_line, fd__law_line, D__law_line⟩ := D__law_line
  obtain ⟨a__law_jar, fd__law_jar, D__law_jar⟩ := D__law_jar
  exact okP (tb := t_law) F sc_law (fun cdv A outer s H E hr =>
    (dss_cons (ds_for PassesOwn.never rfl (di_range1 (by rfl) M.f_range (da_cons (de_data (de_callB (call_max2 rfl) (snd_max2.toC) (by rfl) M.f_max rfl (da_cons de_int (da_cons (de_data (de_callB (call_min2 rfl) (snd_min2.toC) (by rfl) M.f_min rfl (da_cons de_int (da_cons (de_data (de_callB (call_len_seq) (snd_len) (by rfl) M.f_len rfl (da_cons (de_var (pv 0)) da_nil))) da_nil)))) da_nil)))) da_nil)) (dg_name sc_law.nd (i := 1) rfl (by first | exact .inl rfl | exact .inr rfl) (by first | exact .inl rfl | exact .inr (by decide))) (dss_cons (ds_asg (de_call D__law_jar.own (hr.mono (by decide)) (by rfl) (da_cons (de_data (de_var (pv 0))) (da_cons (de_data (de_var (pv 1))) da_nil))) (dg_name sc_law.nd (i := 2) rfl (by first | exact .inl rfl | exact .inr rfl) (by first | exact .inl rfl | exact .inr (by decide))))
      (dss_one (ds_for PassesOwn.never rfl (di_range1 (by rfl) M.f_range (da_cons de_int da_nil)) (dg_name sc_law.nd (i := 3) rfl (by first | exact .inl rfl | exact .inr rfl) (by first | exact .inl rfl | exact .inr (by decide))) (dss_cons (ds_asg (de_callJ D__law_line.own (hr.mono (by decide)) (by rfl) (da_cons (de_var (pv 2)) (da_cons de_int (da_cons de_int da_nil)))) (dg_name sc_law.nd (i := 4) rfl (by first | exact .inl rfl | exact .inr rfl) (by first | exact .inl rfl | exact .inr (by decide))))
      (dss_cons (ds_asg (de_callJ D__law_load.own (hr.mono (by decide)) (by rfl) (da_cons (de_var (pv 2)) (da_cons (de_data (de_var (pv 4))) da_nil))) (dg_name sc_law.nd (i := 5) rfl (by first | exact .inl rfl | exact .inr rfl) (by first | exact .inl rfl | exact .inr (by decide))))
      (dss_cons (ds_asg (de_callJ D__law_any.own (hr.mono (by decide)) (by rfl) (da_cons (de_var (pv 2)) (da_cons (de_data (de_lst (da_cons (de_data (de_callJ D__law_drip.own (hr.mono (by decide)) (by rfl) (da_cons (de_var (pv 2)) (da_cons (de_data (de_add (de_pow de_int de_int) de_int)) da_nil)))) (da_cons (de_data (de_pow de_int de_int)) da_nil)))) da_nil))) (dg_name sc_law.nd (i := 6) rfl (by first | exact .inl rfl | exact .inr rfl) (by first | exact .inl rfl | exact .inr (by decide))))
      (dss_cons (ds_par2 rfl sc_law.nd (i := 7) (j := 8) rfl rfl (by decide) rfl rfl (da_cons (de_call D_behind.own (hr.mono (by decide)) (by rfl) (da_cons (de_data (de_var (pv 4))) (da_cons (de_data (de_var (pv 5))) (da_cons (de_data (de_var (pv 6))) da_nil)))) (da_cons (de_call D_poured.own (hr.mono (by decide)) (by rfl) (da_cons (de_data (de_var (pv 4))) (da_cons (de_data (de_var (pv 5))) (da_cons (de_data (de_var (pv 6))) da_nil)))) da_nil)) (by first | exact .inl rfl | exact .inr (by decide)) (hw := by first | rfl | kernel_rfl))
      (dss_cons (ds_asg (de_call D_lost.own (hr.mono (by decide)) (by rfl) (da_cons (de_data (de_var (pv 4))) (da_cons (de_data (de_var (pv 5))) (da_cons (de_data (de_var (pv 6))) da_nil)))) (dg_name sc_law.nd (i := 9) rfl (by first | exact .inl rfl | exact .inr rfl) (by first | exact .inl rfl | exact .inr (by decide))))
      (dss_cons (ds_if (dt_ne hr.units (de_add (de_callB (cr_sumD rfl) (snd_sum) (by rfl) M.f_sum rfl (da_cons (de_var (pv 5)) da_nil)) (de_call D__law_given.own (hr.mono (by decide)) (by rfl) (da_cons (de_data (de_var (pv 4))) (da_cons (de_data (de_var (pv 6))) da_nil)))) (de_add (de_add (de_callB (cr_sumD rfl) (snd_sum) (by rfl) M.f_sum rfl (da_cons (de_var (pv 7)) da_nil)) (de_callB (cr_sumD rfl) (snd_sum) (by rfl) M.f_sum rfl (da_cons (de_var (pv 9)) da_nil))) (de_ix (de_var (pv 8)) (de_neg de_int)))) (dss_one (ds_ret de_bl)) dss_nil)
      (dss_cons (ds_asg (de_call D__law_loop.own (hr.mono (by decide)) (by rfl) (da_cons (de_data (de_var (pv 4))) (da_cons (de_data (de_var (pv 5))) da_nil))) (dg_tup rfl (dgs_cons (dg_name sc_law.nd (i := 10) rfl (by first | exact .inl rfl | exact .inr rfl) (by first | exact .inl rfl | exact .inr (by decide))) (dgs_cons (dg_name sc_law.nd (i := 11) rfl (by first | exact .inl rfl | exact .inr rfl) (by first | exact .inl rfl | exact .inr (by decide))) (dgs_nil (ws := []))))))
      (dss_cons (ds_if (dt_ge (de_var (pv 6)) (de_var (pv 10))) (dss_one (ds_if (dt_ne hr.units (de_var (pv 7)) (de_ix (de_ix (de_var (pv 11)) (de_mod (de_callTy (call_int1) (snd_int1.toC) (by rfl) M.f_int rfl (da_cons (de_data (de_sub (de_var (pv 6)) (de_var (pv 10)))) da_nil)) (de_callB (call_len_seq) (snd_len) (by rfl) M.f_len rfl (da_cons (de_var (pv 11)) da_nil)))) de_int)) (dss_one (ds_ret de_bl)) dss_nil)) dss_nil)
      (dss_cons (ds_asg (de_mul (de_callB (call_len_seq) (snd_len) (by rfl) M.f_len rfl (da_cons (de_var (pv 11)) da_nil)) (de_callJ D__law_drip.own (hr.mono (by decide)) (by rfl) (da_cons (de_var (pv 2)) (da_cons (de_data (de_pow de_int de_int)) da_nil)))) (dg_name sc_law.nd (i := 12) rfl (by first | exact .inl rfl | exact .inr rfl) (by first | exact .inl rfl | exact .inr (by decide))))
      (dss_cons (ds_asg (de_tup (da_cons (de_data (de_div (de_var (pv 12)) (de_callB (call_len_seq) (snd_len) (by rfl) M.f_len rfl (da_cons (de_var (pv 11)) da_nil)))) (da_cons (de_data (de_mul (de_mul de_int (de_ix (de_var (pv 4)) de_int)) (de_add (de_var (pv 10)) de_int))) da_nil))) (dg_tup rfl (dgs_cons (dg_name sc_law.nd (i := 13) rfl (by first | exact .inl rfl | exact .inr rfl) (by first | exact .inl rfl | exact .inr (by decide))) (dgs_cons (dg_name sc_law.nd (i := 14) rfl (by first | exact .inl rfl | exact .inr rfl) (by first | exact .inl rfl | exact .inr (by decide))) (dgs_nil (ws := []))))))
      (dss_cons (ds_par2 rfl sc_law.nd (i := 15) (j := 16) rfl rfl (by decide) rfl rfl (da_cons (de_call D_poured.own (hr.mono (by decide)) (by rfl) (da_cons (de_data (de_var (pv 4))) (da_cons (de_data (de_var (pv 5))) (da_cons (de_data (de_var (pv 14))) da_nil)))) (da_cons (de_call D_poured.own (hr.mono (by decide)) (by rfl) (da_cons (de_data (de_var (pv 4))) (da_cons (de_data (de_var (pv 5))) (da_cons (de_data (de_add (de_var (pv 14)) (de_var (pv 12)))) da_nil)))) da_nil)) (by first | exact .inl rfl | exact .inr (by decide)) (hw := by first | rfl | kernel_rfl))
      (dss_cons (ds_setLc (own := [("one", 18), ("two", 19)]) (i := 17) rfl sc_law.nd rfl rfl (sw_true rfl rfl rfl (by decide +kernel)) (di_zip2 (by rfl) M.f_zip (da_cons (de_data (de_var (pv 15))) (da_cons (de_data (de_call D__law_sum_of.own (hr.mono (by decide)) (by rfl) (da_cons (de_data (de_var (pv 4))) (da_cons (de_data (de_var (pv 11))) da_nil)))) da_nil))) (blkOk_by (own := [("one", 18), ("two", 19)]) (N := N_law) (sc := defScope s_law) (by decide +kernel)) (fun s H A cl fp => (dg_tup rfl (dgs_cons (dg_name sc_law.nd (i := 18) rfl (by first | exact .inl rfl | exact .inr rfl) (by first | exact .inl rfl | exact .inr (by decide))) (dgs_cons (dg_name sc_law.nd (i := 19) rfl (by first | exact .inl rfl | exact .inr rfl) (by first | exact .inl rfl | exact .inr (by decide))) (dgs_nil (ws := [])))))) (fun s H A cl fp => dts_nil) (fun s H A cl fp => (de_data (de_add (de_var (pv 18)) (de_mul (de_var (pv 13)) (de_var (pv 19)))))) (by first | exact .inl rfl | exact .inr (by decide)))
      (dss_cons (ds_if (dt_ne hr.units (de_callTy (call_list_of) (snd_list) (by rfl) M.f_list rfl (da_cons (de_var (pv 16)) da_nil)) (de_var (pv 17))) (dss_one (ds_ret de_bl)) dss_nil)
      (dss_cons (ds_asg (de_div (de_var (pv 6)) de_int) (dg_name sc_law.nd (i := 20) rfl (by first | exact .inl rfl | exact .inr rfl) (by first | exact .inl rfl | exact .inr (by decide))))
      (dss_one (ds_if (dt_ne hr.units (de_call D_behind.own (hr.mono (by decide)) (by rfl) (da_cons (de_data (de_var (pv 4))) (da_cons (de_data (de_call D_behind.own (hr.mono (by decide)) (by rfl) (da_cons (de_data (de_var (pv 4))) (da_cons (de_data (de_var (pv 5))) (da_cons (de_data (de_var (pv 14))) da_nil))))) (da_cons (de_data (de_var (pv 20))) da_nil)))) (de_call D_behind.own (hr.mono (by decide)) (by rfl) (da_cons (de_data (de_var (pv 4))) (da_cons (de_data (de_var (pv 5))) (da_cons (de_data (de_add (de_var (pv 20)) (de_var (pv 14)))) da_nil))))) (dss_one (ds_ret de_bl)) dss_nil))))))))))))))))))))
      (dss_one (ds_ret (de_eq hr.units (de_call D_tap_water.own (hr.mono (by decide)) (by rfl) (da_cons (de_data (de_tup (da_cons de_int (da_cons (de_data (de_tup (da_cons (de_data (de_tup (da_cons de_int (da_cons de_int (da_cons de_int da_nil))))) da_nil))) (da_cons (de_data (de_tup (da_cons (de_data (de_tup (da_cons de_int (da_cons de_int da_nil)))) da_nil))) da_nil))))) da_nil)) de_int))))) rd_law
end DL

set_option Elab.async false
set_option linter.all false
set_option maxRecDepth 100000
set_option maxHeartbeats 0
namespace DL
open PySem PySem.Spec L2
open PyProof.Rows hiding St
/-! ### the head -/
def d_is_int : He.DefD := ⟨("is_int", none), "is_int", "is_int", defArgs s_is_int, defBody s_is_int, defScope s_is_int, [], []⟩
def d_is_cup : He.DefD := ⟨("is_cup", none), "is_cup", "is_cup", defArgs s_is_cup, defBody s_is_cup, defScope s_is_cup, [], []⟩
def d_is_tap : He.DefD := ⟨("is_tap", none), "is_tap", "is_tap", defArgs s_is_tap, defBody s_is_tap, defScope s_is_tap, [], []⟩
def d_all_fillings : He.DefD := ⟨("all_fillings", none), "all_fillings", "all_fillings", defArgs s_all_fillings, defBody s_all_fillings, defScope s_all_fillings, [], []⟩
def d_is_row : He.DefD := ⟨("is_row", none), "is_row", "is_row", defArgs s_is_row, defBody s_is_row, defScope s_is_row, [], []⟩
def d_is_filling_of : He.DefD := ⟨("is_filling_of", none), "is_filling_of", "is_filling_of", defArgs s_is_filling_of, defBody s_is_filling_of, defScope s_is_filling_of, [], []⟩
def d_need_row : He.DefD := ⟨("need_row", none), "need_row", "need_row", defArgs s_need_row, defBody s_need_row, defScope s_need_row, [], []⟩
def d_need_filling : He.DefD := ⟨("need_filling", none), "need_filling", "need_filling", defArgs s_need_filling, defBody s_need_filling, defScope s_need_filling, [], []⟩
def d_need_number : He.DefD := ⟨("need_number", none), "need_number", "need_number", defArgs s_need_number, defBody s_need_number, defScope s_need_number, [], []⟩
def d_tap_water : He.DefD := ⟨("tap_water", none), "tap_water", "tap_water", defArgs s_tap_water, defBody s_tap_water, defScope s_tap_water, [], []⟩
def d_ticked : He.DefD := ⟨("ticked", none), "ticked", "ticked", defArgs s_ticked, defBody s_ticked, defScope s_ticked, [], []⟩
def d_trail : He.DefD := ⟨("trail", none), "trail", "trail", defArgs s_trail, defBody s_trail, defScope s_trail, [], []⟩
def d_sums_of : He.DefD := ⟨("sums_of", none), "sums_of", "sums_of", defArgs s_sums_of, defBody s_sums_of, defScope s_sums_of, [], []⟩
def d_sums_behind : He.DefD := ⟨("sums_behind", none), "sums_behind", "sums_behind", defArgs s_sums_behind, defBody s_sums_behind, defScope s_sums_behind, [], []⟩
def d_filling_behind : He.DefD := ⟨("filling_behind", none), "filling_behind", "filling_behind", defArgs s_filling_behind, defBody s_filling_behind, defScope s_filling_behind, [], []⟩
def d_need_all : He.DefD := ⟨("need_all", none), "need_all", "need_all", defArgs s_need_all, defBody s_need_all, defScope s_need_all, [], []⟩
def d_behind : He.DefD := ⟨("behind", none), "behind", "behind", defArgs s_behind, defBody s_behind, defScope s_behind, [], []⟩
def d_poured : He.DefD := ⟨("poured", none), "poured", "poured", defArgs s_poured, defBody s_poured, defScope s_poured, [], []⟩
def d_lost : He.DefD := ⟨("lost", none), "lost", "lost", defArgs s_lost, defBody s_lost, defScope s_lost, [], []⟩
def d__law_jar : He.DefD := ⟨("_law_jar", none), "_law_jar", "_law_jar", defArgs s__law_jar, defBody s__law_jar, defScope s__law_jar, [], []⟩
def d__law_drip : He.DefD := ⟨("_law_drip", none), "_law_drip", "_law_drip", defArgs s__law_drip, defBody s__law_drip, defScope s__law_drip, [], []⟩
def d__law_any : He.DefD := ⟨("_law_any", none), "_law_any", "_law_any", defArgs s__law_any, defBody s__law_any, defScope s__law_any, [], []⟩
def d__law_cup : He.DefD := ⟨("_law_cup", none), "_law_cup", "_law_cup", defArgs s__law_cup, defBody s__law_cup, defScope s__law_cup, [], []⟩
def d__law_gift : He.DefD := ⟨("_law_gift", none), "_law_gift", "_law_gift", defArgs s__law_gift, defBody s__law_gift, defScope s__law_gift, [], []⟩
def d__law_line : He.DefD := ⟨("_law_line", none), "_law_line", "_law_line", defArgs s__law_line, defBody s__law_line, defScope s__law_line, [], []⟩
def d__law_load : He.DefD := ⟨("_law_load", none), "_law_load", "_law_load", defArgs s__law_load, defBody s__law_load, defScope s__law_load, [], []⟩
def d__law_beat : He.DefD := ⟨("_law_beat", none), "_law_beat", "_law_beat", defArgs s__law_beat, defBody s__law_beat, defScope s__law_beat, [], []⟩
def d__law_loop : He.DefD := ⟨("_law_loop", none), "_law_loop", "_law_loop", defArgs s__law_loop, defBody s__law_loop, defScope s__law_loop, [], []⟩
def d__law_given : He.DefD := ⟨("_law_given", none), "_law_given", "_law_given", defArgs s__law_given, defBody s__law_given, defScope s__law_given, [], []⟩
def d__law_sum_of : He.DefD := ⟨("_law_sum_of", none), "_law_sum_of", "_law_sum_of", defArgs s__law_sum_of, defBody s__law_sum_of, defScope s__law_sum_of, [], []⟩
def d_law : He.DefD := ⟨("law", none), "law", "law", defArgs s_law, defBody s_law, defScope s_law, [], []⟩
def fns : List He.DefD := [d_is_int, d_is_cup, d_is_tap, d_all_fillings, d_is_row, d_is_filling_of, d_need_row, d_need_filling, d_need_number, d_tap_water, d_ticked, d_trail, d_sums_of, d_sums_behind, d_filling_behind, d_need_all, d_behind, d_poured, d_lost, d__law_jar, d__law_drip, d__law_any, d__law_cup, d__law_gift, d__law_line, d__law_load, d__law_beat, d__law_loop, d__law_given, d__law_sum_of, d_law]
def fas : List He.Fa := [.glo "is_int", .glo "is_cup", .glo "is_tap", .glo "all_fillings", .glo "is_row", .glo "is_filling_of", .glo "need_row", .glo "need_filling", .glo "need_number", .glo "tap_water", .glo "ticked", .glo "trail", .glo "sums_of", .glo "sums_behind", .glo "filling_behind", .glo "need_all", .glo "behind", .glo "poured", .glo "lost", .glo "_law_jar", .glo "_law_drip", .glo "_law_any", .glo "_law_cup", .glo "_law_gift", .glo "_law_line", .glo "_law_load", .glo "_law_beat", .glo "_law_loop", .glo "_law_given", .glo "_law_sum_of", .glo "law", .int "MOST_PERIOD" 6, .int "MOST_CUPS" 3, .int "MOST_KNEE" 60, .int "MOST_RIM" 90, .int "MOST_TAP" 20, .int "MOST_FILLINGS" 4000, .int "MOST_TICKS" 1000000000000000000000000000000, .free "ValueError", .free "abs", .free "all", .free "any", .free "bool", .free "int", .free "isinstance", .free "len", .free "list", .free "max", .free "min", .free "range", .free "sum", .free "tuple", .free "zip", .glo "CupError", .glo "InvalidRow", .glo "InvalidFilling", .glo "InvalidNumber"]
abbrev Rw : PySem.W.OpenRow := PySem.W.OpenLaw.row PySem.Challenge.rw_tantalcups_k03_whole_water_of_thirty_fig
abbrev hk : PySem.W.Hook := He.hookD 4 fas fns
def ob (s : PySem.W.SharedT) : He.AlD := He.obsDG 4 fas fns (HandSHeadRun.getT s)
theorem ob_eq (s : PySem.W.SharedT) : ob s = hk.obs s.abs := He.obsDG_eq (HandSHeadRun.getT_eq s)
def names0 : List PySem.Str := ["__name__", "CupError", "InvalidRow", "InvalidFilling", "InvalidNumber", "MOST_PERIOD", "MOST_CUPS", "MOST_KNEE", "MOST_RIM", "MOST_TAP", "MOST_FILLINGS", "MOST_TICKS"]
def names1 : List PySem.Str := ["is_int", "is_cup", "is_tap", "all_fillings", "is_row", "is_filling_of", "need_row", "need_filling", "need_number", "tap_water", "ticked", "trail"]
def names2 : List PySem.Str := ["sums_of", "sums_behind", "filling_behind", "need_all", "behind", "poured", "lost", "_law_jar", "_law_drip", "_law_any", "_law_cup", "_law_gift"]
def names3 : List PySem.Str := ["_law_line", "_law_load", "_law_beat", "_law_loop", "_law_given", "_law_sum_of"]
abbrev names : List PySem.Str := names0 ++ names1 ++ names2 ++ names3
theorem run (w : World) : HandSHeadRun.RunEq Rw (PySem.W.view Rw.prog [45]) hk ob 9000 names w := by
  intro os
  kernel_rfl
theorem mg_ok {K : PySem.W.Frag} {h : Heap} {mg : Str → Option Value} (X : K.In h) (G : h.Ns mainGlobals mg) (c : He.SaysD fas fns K) : Mg mg := ⟨He.free_ok X G (c.fact 38 (f := .free "ValueError") rfl), He.free_ok X G (c.fact 39 (f := .free "abs") rfl), He.free_ok X G (c.fact 40 (f := .free "all") rfl), He.free_ok X G (c.fact 41 (f := .free "any") rfl), He.free_ok X G (c.fact 42 (f := .free "bool") rfl), He.free_ok X G (c.fact 43 (f := .free "int") rfl), He.free_ok X G (c.fact 44 (f := .free "isinstance") rfl), He.free_ok X G (c.fact 45 (f := .free "len") rfl), He.free_ok X G (c.fact 46 (f := .free "list") rfl), He.free_ok X G (c.fact 47 (f := .free "max") rfl), He.free_ok X G (c.fact 48 (f := .free "min") rfl), He.free_ok X G (c.fact 49 (f := .free "range") rfl), He.free_ok X G (c.fact 50 (f := .free "sum") rfl), He.free_ok X G (c.fact 51 (f := .free "tuple") rfl), He.free_ok X G (c.fact 52 (f := .free "zip") rfl), He.int_ok X G (c.fact 31 (f := .int "MOST_PERIOD" 6) rfl), He.int_ok X G (c.fact 32 (f := .int "MOST_CUPS" 3) rfl), He.int_ok X G (c.fact 33 (f := .int "MOST_KNEE" 60) rfl), He.int_ok X G (c.fact 34 (f := .int "MOST_RIM" 90) rfl), He.int_ok X G (c.fact 35 (f := .int "MOST_TAP" 20) rfl), He.int_ok X G (c.fact 36 (f := .int "MOST_FILLINGS" 4000) rfl), He.int_ok X G (c.fact 37 (f := .int "MOST_TICKS" 1000000000000000000000000000000) rfl)⟩
theorem facts {P : Program} {w : World} {K : PySem.W.Frag} {h : Heap} {mg : Str → Option Value} {f : Addr} (X : K.In h) (G : h.Ns mainGlobals mg) (hfa : mg ("law" : Str) = some (.ref f)) (c : He.SaysD fas fns K) :
    ∃ fd : FuncData, (∀ (s : Shared) (v : Value), BindsTo s fd ⟨[v], []⟩ [("script", v)]) ∧ ∀ base : Heap, K.In base → base.Ns mainGlobals mg → FnOk P w K mg base CX0 7 f fd ["script"] (spP (bas P w K) 1 sp_law) := by
  have M := mg_ok X G c
  obtain ⟨fd_is_int, F_is_int⟩ := c.def_ 0 (d := d_is_int) rfl
  obtain ⟨fd_is_cup, F_is_cup⟩ := c.def_ 1 (d := d_is_cup) rfl
  obtain ⟨fd_is_tap, F_is_tap⟩ := c.def_ 2 (d := d_is_tap) rfl
  obtain ⟨fd_all_fillings, F_all_fillings⟩ := c.def_ 3 (d := d_all_fillings) rfl
  obtain ⟨fd_is_row, F_is_row⟩ := c.def_ 4 (d := d_is_row) rfl
  obtain ⟨fd_is_filling_of, F_is_filling_of⟩ := c.def_ 5 (d := d_is_filling_of) rfl
  obtain ⟨fd_need_row, F_need_row⟩ := c.def_ 6 (d := d_need_row) rfl
  obtain ⟨fd_need_filling, F_need_filling⟩ := c.def_ 7 (d := d_need_filling) rfl
  obtain ⟨fd_need_number, F_need_number⟩ := c.def_ 8 (d := d_need_number) rfl
  obtain ⟨fd_tap_water, F_tap_water⟩ := c.def_ 9 (d := d_tap_water) rfl
  obtain ⟨fd_ticked, F_ticked⟩ := c.def_ 10 (d := d_ticked) rfl
  obtain ⟨fd_trail, F_trail⟩ := c.def_ 11 (d := d_trail) rfl
  obtain ⟨fd_sums_of, F_sums_of⟩ := c.def_ 12 (d := d_sums_of) rfl
  obtain ⟨fd_sums_behind, F_sums_behind⟩ := c.def_ 13 (d := d_sums_behind) rfl
  obtain ⟨fd_filling_behind, F_filling_behind⟩ := c.def_ 14 (d := d_filling_behind) rfl
  obtain ⟨fd_need_all, F_need_all⟩ := c.def_ 15 (d := d_need_all) rfl
  obtain ⟨fd_behind, F_behind⟩ := c.def_ 16 (d := d_behind) rfl
  obtain ⟨fd_poured, F_poured⟩ := c.def_ 17 (d := d_poured) rfl
  obtain ⟨fd_lost, F_lost⟩ := c.def_ 18 (d := d_lost) rfl
  obtain ⟨fd__law_jar, F__law_jar⟩ := c.def_ 19 (d := d__law_jar) rfl
  obtain ⟨fd__law_drip, F__law_drip⟩ := c.def_ 20 (d := d__law_drip) rfl
  obtain ⟨fd__law_any, F__law_any⟩ := c.def_ 21 (d := d__law_any) rfl
  obtain ⟨fd__law_cup, F__law_cup⟩ := c.def_ 22 (d := d__law_cup) rfl
  obtain ⟨fd__law_gift, F__law_gift⟩ := c.def_ 23 (d := d__law_gift) rfl
  obtain ⟨fd__law_line, F__law_line⟩ := c.def_ 24 (d := d__law_line) rfl
  obtain ⟨fd__law_load, F__law_load⟩ := c.def_ 25 (d := d__law_load) rfl
  obtain ⟨fd__law_beat, F__law_beat⟩ := c.def_ 26 (d := d__law_beat) rfl
  obtain ⟨fd__law_loop, F__law_loop⟩ := c.def_ 27 (d := d__law_loop) rfl
  obtain ⟨fd__law_given, F__law_given⟩ := c.def_ 28 (d := d__law_given) rfl
  obtain ⟨fd__law_sum_of, F__law_sum_of⟩ := c.def_ 29 (d := d__law_sum_of) rfl
  obtain ⟨fd_law, F_law⟩ := c.def_ 30 (d := d_law) rfl
  have e := hfa.symm.trans (He.glo_ok X G (c.fact 30 (f := .glo "law") rfl))
  cases e
  have b := FunD.bindsA (ps := ["script"]) F_law fun _ _ _ _ _ _ us hl => match us, hl with | [_], _ => rfl
  refine ⟨fd_law, fun s v => b s [v] rfl, fun base _ _ => ?_⟩
  have D_is_int : Dx_is_int P w K mg base := ⟨_, _, ok_is_int M  F_is_int, He.glo_ok X G (c.fact 0 (f := .glo "is_int") rfl), F_is_int.kp, F_is_int.bindsN fun _ _ _ _ _ _ us hl => match us, hl with | [_, _, _], _ => rfl⟩
  have D_is_cup : Dx_is_cup P w K mg base := ⟨_, _, ok_is_cup M D_is_int F_is_cup, He.glo_ok X G (c.fact 1 (f := .glo "is_cup") rfl), F_is_cup.kp, F_is_cup.bindsN fun _ _ _ _ _ _ us hl => match us, hl with | [_], _ => rfl⟩
  have D_is_tap : Dx_is_tap P w K mg base := ⟨_, _, ok_is_tap M D_is_int F_is_tap, He.glo_ok X G (c.fact 2 (f := .glo "is_tap") rfl), F_is_tap.kp, F_is_tap.bindsN fun _ _ _ _ _ _ us hl => match us, hl with | [_, _], _ => rfl⟩
  have D_all_fillings : Dx_all_fillings P w K mg base := ⟨_, _, ok_all_fillings M  F_all_fillings, He.glo_ok X G (c.fact 3 (f := .glo "all_fillings") rfl), F_all_fillings.kp, F_all_fillings.bindsN fun _ _ _ _ _ _ us hl => match us, hl with | [_], _ => rfl⟩
  have D_is_row : Dx_is_row P w K mg base := ⟨_, _, ok_is_row M D_all_fillings D_is_tap D_is_cup D_is_int F_is_row, He.glo_ok X G (c.fact 4 (f := .glo "is_row") rfl), F_is_row.kp, F_is_row.bindsN fun _ _ _ _ _ _ us hl => match us, hl with | [_], _ => rfl⟩
  have D_is_filling_of : Dx_is_filling_of P w K mg base := ⟨_, _, ok_is_filling_of M D_is_int F_is_filling_of, He.glo_ok X G (c.fact 5 (f := .glo "is_filling_of") rfl), F_is_filling_of.kp, F_is_filling_of.bindsN fun _ _ _ _ _ _ us hl => match us, hl with | [_, _], _ => rfl⟩
  have D_need_row : Dx_need_row P w K mg base := ⟨_, _, ok_need_row M D_is_row F_need_row, He.glo_ok X G (c.fact 6 (f := .glo "need_row") rfl), F_need_row.kp, F_need_row.bindsN fun _ _ _ _ _ _ us hl => match us, hl with | [_], _ => rfl⟩
  have D_need_filling : Dx_need_filling P w K mg base := ⟨_, _, ok_need_filling M D_is_filling_of F_need_filling, He.glo_ok X G (c.fact 7 (f := .glo "need_filling") rfl), F_need_filling.kp, F_need_filling.bindsN fun _ _ _ _ _ _ us hl => match us, hl with | [_, _], _ => rfl⟩
  have D_need_number : Dx_need_number P w K mg base := ⟨_, _, ok_need_number M D_is_int F_need_number, He.glo_ok X G (c.fact 8 (f := .glo "need_number") rfl), F_need_number.kp, F_need_number.bindsN fun _ _ _ _ _ _ us hl => match us, hl with | [_, _, _], _ => rfl⟩
  have D_tap_water : Dx_tap_water P w K mg base := ⟨_, _, ok_tap_water M D_need_row F_tap_water, He.glo_ok X G (c.fact 9 (f := .glo "tap_water") rfl), F_tap_water.kp, F_tap_water.bindsN fun _ _ _ _ _ _ us hl => match us, hl with | [_], _ => rfl⟩
  have D_ticked : Dx_ticked P w K mg base := ⟨_, _, ok_ticked M  F_ticked, He.glo_ok X G (c.fact 10 (f := .glo "ticked") rfl), F_ticked.kp, F_ticked.bindsN fun _ _ _ _ _ _ us hl => match us, hl with | [_, _, _], _ => rfl⟩
  have D_trail : Dx_trail P w K mg base := ⟨_, _, ok_trail M D_ticked F_trail, He.glo_ok X G (c.fact 11 (f := .glo "trail") rfl), F_trail.kp, F_trail.bindsN fun _ _ _ _ _ _ us hl => match us, hl with | [_, _], _ => rfl⟩
  have D_sums_of : Dx_sums_of P w K mg base := ⟨_, _, ok_sums_of M D_ticked F_sums_of, He.glo_ok X G (c.fact 12 (f := .glo "sums_of") rfl), F_sums_of.kp, F_sums_of.bindsN fun _ _ _ _ _ _ us hl => match us, hl with | [_, _, _], _ => rfl⟩
  have D_sums_behind : Dx_sums_behind P w K mg base := ⟨_, _, ok_sums_behind M D_sums_of D_trail F_sums_behind, He.glo_ok X G (c.fact 13 (f := .glo "sums_behind") rfl), F_sums_behind.kp, F_sums_behind.bindsN fun _ _ _ _ _ _ us hl => match us, hl with | [_, _, _, _], _ => rfl⟩
  have D_filling_behind : Dx_filling_behind P w K mg base := ⟨_, _, ok_filling_behind M D_trail F_filling_behind, He.glo_ok X G (c.fact 14 (f := .glo "filling_behind") rfl), F_filling_behind.kp, F_filling_behind.bindsN fun _ _ _ _ _ _ us hl => match us, hl with | [_, _, _], _ => rfl⟩
  have D_need_all : Dx_need_all P w K mg base := ⟨_, _, ok_need_all M D_need_number D_need_filling D_need_row F_need_all, He.glo_ok X G (c.fact 15 (f := .glo "need_all") rfl), F_need_all.kp, F_need_all.bindsN fun _ _ _ _ _ _ us hl => match us, hl with | [_, _, _, _], _ => rfl⟩
  have D_behind : Dx_behind P w K mg base := ⟨_, _, ok_behind M D_filling_behind D_need_all F_behind, He.glo_ok X G (c.fact 16 (f := .glo "behind") rfl), F_behind.kp, F_behind.bindsN fun _ _ _ _ _ _ us hl => match us, hl with | [_, _, _], _ => rfl⟩
  have D_poured : Dx_poured P w K mg base := ⟨_, _, ok_poured M D_sums_behind D_need_all F_poured, He.glo_ok X G (c.fact 17 (f := .glo "poured") rfl), F_poured.kp, F_poured.bindsN fun _ _ _ _ _ _ us hl => match us, hl with | [_, _, _], _ => rfl⟩
  have D_lost : Dx_lost P w K mg base := ⟨_, _, ok_lost M D_sums_behind D_need_all F_lost, He.glo_ok X G (c.fact 18 (f := .glo "lost") rfl), F_lost.kp, F_lost.bindsN fun _ _ _ _ _ _ us hl => match us, hl with | [_, _, _], _ => rfl⟩
  have D__law_jar : Dx__law_jar P w K mg base := ⟨_, _, ok__law_jar M  F__law_jar, He.glo_ok X G (c.fact 19 (f := .glo "_law_jar") rfl), F__law_jar.kp, F__law_jar.bindsN fun _ _ _ _ _ _ us hl => match us, hl with | [_, _], _ => rfl⟩
  have D__law_drip : Dx__law_drip P w K mg base := ⟨_, _, ok__law_drip M  F__law_drip, He.glo_ok X G (c.fact 20 (f := .glo "_law_drip") rfl), F__law_drip.kp, F__law_drip.bindsN fun _ _ _ _ _ _ us hl => match us, hl with | [_, _], _ => rfl⟩
  have D__law_any : Dx__law_any P w K mg base := ⟨_, _, ok__law_any M D__law_drip F__law_any, He.glo_ok X G (c.fact 21 (f := .glo "_law_any") rfl), F__law_any.kp, F__law_any.bindsN fun _ _ _ _ _ _ us hl => match us, hl with | [_, _], _ => rfl⟩
  have D__law_cup : Dx__law_cup P w K mg base := ⟨_, _, ok__law_cup M D__law_any D__law_drip F__law_cup, He.glo_ok X G (c.fact 22 (f := .glo "_law_cup") rfl), F__law_cup.kp, F__law_cup.bindsN fun _ _ _ _ _ _ us hl => match us, hl with | [_, _], _ => rfl⟩
  have D__law_gift : Dx__law_gift P w K mg base := ⟨_, _, ok__law_gift M D__law_any D__law_drip F__law_gift, He.glo_ok X G (c.fact 23 (f := .glo "_law_gift") rfl), F__law_gift.kp, F__law_gift.bindsN fun _ _ _ _ _ _ us hl => match us, hl with | [_, _, _], _ => rfl⟩
  have D__law_line : Dx__law_line P w K mg base := ⟨_, _, ok__law_line M D__law_drip D__law_gift D__law_any D__law_cup F__law_line, He.glo_ok X G (c.fact 24 (f := .glo "_law_line") rfl), F__law_line.kp, F__law_line.bindsN fun _ _ _ _ _ _ us hl => match us, hl with | [_, _, _], _ => rfl⟩
  have D__law_load : Dx__law_load P w K mg base := ⟨_, _, ok__law_load M D__law_drip F__law_load, He.glo_ok X G (c.fact 25 (f := .glo "_law_load") rfl), F__law_load.kp, F__law_load.bindsN fun _ _ _ _ _ _ us hl => match us, hl with | [_, _], _ => rfl⟩
  have D__law_beat : Dx__law_beat P w K mg base := ⟨_, _, ok__law_beat M  F__law_beat, He.glo_ok X G (c.fact 26 (f := .glo "_law_beat") rfl), F__law_beat.kp, F__law_beat.bindsN fun _ _ _ _ _ _ us hl => match us, hl with | [_, _, _], _ => rfl⟩
  have D__law_loop : Dx__law_loop P w K mg base := ⟨_, _, ok__law_loop M D__law_beat F__law_loop, He.glo_ok X G (c.fact 27 (f := .glo "_law_loop") rfl), F__law_loop.kp, F__law_loop.bindsN fun _ _ _ _ _ _ us hl => match us, hl with | [_, _], _ => rfl⟩
  have D__law_given : Dx__law_given P w K mg base := ⟨_, _, ok__law_given M  F__law_given, He.glo_ok X G (c.fact 28 (f := .glo "_law_given") rfl), F__law_given.kp, F__law_given.bindsN fun _ _ _ _ _ _ us hl => match us, hl with | [_, _], _ => rfl⟩
  have D__law_sum_of : Dx__law_sum_of P w K mg base := ⟨_, _, ok__law_sum_of M D__law_beat F__law_sum_of, He.glo_ok X G (c.fact 29 (f := .glo "_law_sum_of") rfl), F__law_sum_of.kp, F__law_sum_of.bindsN fun _ _ _ _ _ _ us hl => match us, hl with | [_, _], _ => rfl⟩
  exact ok_law M D_tap_water D_behind D__law_sum_of D_poured D__law_drip D__law_loop D__law_given D_lost D__law_any D__law_load D__law_line D__law_jar F_law
theorem sp_of {P : Program} {w : World} {K : PySem.W.Frag} {H : Hp} {a : Addr} {ns : List Int} (hl : ns.length ≤ 63) (hO : Only H) (hS : SqL K H a (ns.map V.int)) : spP (bas P w K) 1 sp_law [.ref a] H (fun v _ => v = .bl true) fun _ _ _ => False := by
  refine ⟨[.scr ns], fun rv => rv = .d (.bl true), rfl, RpL.cons ?_ RpL.nil, ⟨ns, rfl, by omega, rfl⟩, fun rv v H' hr _ hn => ?_⟩
  · simp only [Rp]
    refine ⟨a, rfl, ?_⟩
    rcases hS with (h | h) | h
    · rcases hO a with q | ⟨o, xs, q⟩ <;> (rw [q] at h; cases h)
    · exact .inl h
    · exact .inr h
  · subst hr
    exact hn
end DL
open PySem PySem.W PySem.Calls PyProof.Rows
theorem PySem.Challenge.cw_tantalcups_k03_whole_water_of_thirty_fig_holds : PySem.Challenge.rw_tantalcups_k03_whole_water_of_thirty_fig.Holds := by
  w_on; o_law
  refine HandSHeadRun.head_any (r := OpenLaw.row PySem.Challenge.rw_tantalcups_k03_whole_water_of_thirty_fig) (q := view (OpenLaw.row PySem.Challenge.rw_tantalcups_k03_whole_water_of_thirty_fig).prog [45]) (H := DL.hk) (ob := DL.ob) (M := 9000) (loose := DL.names) (d := HandSHeadRun.topDef (OpenLaw.row PySem.Challenge.rw_tantalcups_k03_whole_water_of_thirty_fig).prog 45) (kwd := []) DL.ob_eq
    (by kernel_rfl) (fun s => by kernel_rfl) DL.run (by kernel_rfl) (by kernel_rfl) (by kernel_rfl) (by rfl) (by first | assumption | decide +kernel) (by decide +kernel) ⟨rfl, rfl, rfl, rfl, rfl, by decide +kernel⟩ ?hw ?hc
  case hw => w_witness2
  case hc =>
    refine L2.walk_ofE (l := PySem.Challenge.rw_tantalcups_k03_whole_water_of_thirty_fig) (n := 63) (k := 7) (x := "script") (CX := L2.CX0) rfl (by decide) (by kernel_rfl) ⟨rfl, by decide, by decide⟩ ?F (fun _ _ _ _ z => z)
    intro w mg fa h Y G hmg0
    obtain ⟨K, KX, c⟩ := Y
    have hmg : mg ("law" : PySem.Str) = some (.ref fa) := by
      have e : (HandSHeadRun.topDef (OpenLaw.row PySem.Challenge.rw_tantalcups_k03_whole_water_of_thirty_fig).prog 45).name = ("law" : PySem.Str) := by kernel_rfl
      rw [← e]
      exact hmg0
    obtain ⟨fd, hb, hF⟩ := DL.facts (P := (PySem.Challenge.rw_tantalcups_k03_whole_water_of_thirty_fig).prog) (w := w) KX G hmg c
    exact ⟨K, fd, DL.spP (DL.bas (PySem.Challenge.rw_tantalcups_k03_whole_water_of_thirty_fig).prog w K) 1 DL.sp_law, KX, hb, fun H a ns hl hO hS => DL.sp_of hl hO hS, hF⟩

