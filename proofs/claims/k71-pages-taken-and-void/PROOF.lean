import PyProof.Rows.All
import Wide.All
import OpenK.AllK
import Wide.FinOn
import HandS.ForMost
import KE.KDictKeyed
import KE.KeyNested
import HandS.Wide
import HandS.TupAny
import HandS.Deep
import HandS.IsInst
import HandS.Zip
import HandS.Iter
import HandS.TupLen
import KE.GoesEnum
import HandS.TupSets
import KE.SortData
import HandS.More
import KE.KDictCopyH
import HandS.Style
import HandS.Dict
import PyProof.ReprRoads
import KE.KDictPairs
import HandS.Ends
import HandS.EndBits
import PySem.Challenge.RW_ticketracks_k71_pages_taken_and_void
set_option Elab.async false
set_option linter.all false
set_option maxRecDepth 100000
namespace DL
open PySem PySem.Spec PyProof.Rows L2

/-! data: what a value is, its tuples and settled lists by their items; ref: an object that may change, a def, a class -/
inductive D where
  | non | bl (b : Bool) | int (i : Int) | str (x : Str) | tup (xs : List D) | lst (xs : List D) | fz (xs : List D) | ref (a : Addr) | ty (n : String)
/-- a dict's entries over values: the key, the key's own tuple, the value -/
abbrev DEnt := NestedKey × Addr × V
/-- an object that may change; fN: a dict that is locked while it is walked -/
inductive MO where
  | lst (xs : List D) | dK (kvs : List (Key × D)) | dN (kvs : List (NestedKey × D)) | fN (od : Obj) (xs : List DEnt) (kvs : List (NestedKey × D)) | ins (C dx : Addr) (ns : List Str) (ds : List D)
/-- the program, the world, the written part -/
structure Gk where
  P : Program
  w : World
  K : PySem.W.Frag
abbrev _root_.L2.Cx.gk (X : Cx) : Gk := ⟨X.prog, X.w, X.K⟩
abbrev DM := Addr → Option MO
def um (M : DM) (a : Addr) (o : MO) : DM := fun b => if b = a then some o else M b
theorem um_same {M : DM} {a : Addr} {o : MO} : um M a o a = some o := by unfold um; rw [if_pos rfl]
theorem um_ne {M : DM} {a b : Addr} {o : MO} (h : b ≠ a) : um M a o b = M b := by unfold um; rw [if_neg h]
theorem um_um {M : DM} {a : Addr} {o u : MO} : um (um M a o) a u = um M a u := by
  funext b; unfold um; split <;> rfl
theorem mne {M : DM} {a b : Addr} {o : MO} (h : M a = some o) (h' : M b = none) : a ≠ b := by
  intro e; subst e; rw [h] at h'; cases h'

def KT (K : PySem.W.Frag) (a : Addr) (xs : List V) : Prop :=
  ∃ (o : Obj) (its : Array Value) (n : Nat), K.lookup a = some o ∧ o.cls = .type "tuple" ∧ o.data = .seq its n ∧ its.size ≤ sizeLine ∧ Vals xs its.toList
def KL (K : PySem.W.Frag) (a : Addr) (xs : List V) : Prop :=
  ∃ (o : Obj) (its : Array Value) (n : Nat), K.lookup a = some o ∧ o.cls = .type "list" ∧ o.dict = none ∧ o.data = .seq its n ∧ its.size ≤ sizeLine ∧ Vals xs its.toList

mutual
def RD (K : Gk) (H : Hp) (M : DM) : D → V → Prop
  | .non, v => v = .non
  | .bl b, v => v = .bl b
  | .int i, v => v = .int i
  | .str x, v => v = .str x
  | .ref a, v => v = .ref a
  | .ty n, v => v = .ty n
  | .tup xs, v => ∃ a vs, v = .ref a ∧ ((Rd H a (.tup vs) ∧ M a = none) ∨ KT K.K a vs) ∧ RDs K H M xs vs
  | .lst xs, v => ∃ a vs, v = .ref a ∧ H a = some (.lst vs) ∧ M a = none ∧ RDs K H M xs vs
  | .fz xs, v => ∃ a vs, v = .ref a ∧ ((Rd H a (.lst vs) ∧ M a = none) ∨ KL K.K a vs) ∧ RDs K H M xs vs
def RDs (K : Gk) (H : Hp) (M : DM) : List D → List V → Prop
  | [], vs => vs = []
  | d :: ds, vs => ∃ v r, vs = v :: r ∧ RD K H M d v ∧ RDs K H M ds r
end

mutual
/-- a key as data -/
def nkD : NestedKey → D
  | .none => .non
  | .num i => .int i
  | .text x => .str x
  | .tup ks => .tup (nkDs ks)
def nkDs : List NestedKey → List D
  | [] => []
  | k :: ks => nkD k :: nkDs ks
end
/-- a dict with tuples as keys, by its entries -/
def dnO (K : Gk) (a : Addr) (xs : List DEnt) : HO := .ext fun h => (a == sysModules) = false ∧ xs.length ≤ sizeLine ∧ ∃ ys : List (NestedKey × Addr × Value),
  Paired (fun (x : DEnt) (y : NestedKey × Addr × Value) => x.1 = y.1 ∧ x.2.1 = y.2.1 ∧ RelV x.2.2 y.2.2) xs ys ∧ ∃ o es ep, h.get? a = some o ∧ o.ExactDict ∧ o.data = .dict es ep ∧ es.toList = ys.map (entryOfKey (nestedKind K.P K.w)) ∧ (ys.map (·.1)).Nodup
/-- the entries as data -/
def EntR (K : Gk) (H : Hp) (M : DM) : List (NestedKey × D) → List DEnt → Prop := Paired fun kv x => kv.1 = x.1 ∧ x.1.depth ≤ 8 ∧ RD K H M (nkD x.1) (.ref x.2.1) ∧ RD K H M kv.2 x.2.2
def ROk (K : Gk) (H : Hp) (M : DM) (a : Addr) : MO → Prop
  | .lst xs => ∃ vs, H a = some (.lst vs) ∧ RDs K H M xs vs
  | .dK kvs => ∃ vs : List V, H a = some (.dK ((kvs.map (·.1)).zip vs)) ∧ RDs K H M (kvs.map (·.2)) vs
  | .dN kvs => ∃ xs : List DEnt, H a = some (dnO K a xs) ∧ EntR K H M kvs xs
  | .fN od xs kvs => H a = some (.frz od (dnO K a xs)) ∧ EntR K H M kvs xs
  | .ins C dx ns ds => ∃ vs : List V, H a = some (.ins C dx (ns.zip vs)) ∧ ds.length = ns.length ∧ RDs K H M ds vs
def MOk (K : Gk) (H : Hp) (M : DM) : Prop := ∀ a mo, M a = some mo → ROk K H M a mo
abbrev DS := List (Option D)
def Slots (K : Gk) (H : Hp) (M : DM) (σ' : L2.St) (σ : DS) : Prop :=
  σ'.length = σ.length ∧ ∀ (i : Nat) (d : D), σ[i]? = some (some d) → ∃ v, σ'[i]? = some (some v) ∧ RD K H M d v
/-- what is not among the tracked objects stays -/
def Kp (H : Hp) (M : DM) (H' : Hp) (M' : DM) : Prop := ∀ a o, H a = some o → M a = none → H' a = some o ∧ M' a = none

theorem Kp.refl {H : Hp} {M : DM} : Kp H M H M := fun _ _ h n => ⟨h, n⟩
theorem Kp.trans {H H1 H2 : Hp} {M M1 M2 : DM} (a : Kp H M H1 M1) (b : Kp H1 M1 H2 M2) : Kp H M H2 M2 := fun c o h n =>
  let ⟨h1, n1⟩ := a c o h n
  b c o h1 n1

section
variable {K : Gk} {H H' : Hp} {M M' : DM}
theorem Rd.kp {a : Addr} {u : HO} (k : Kp H M H' M') (h : Rd H a u) (n : M a = none) : Rd H' a u ∧ M' a = none := by
  rcases h with h | ⟨o, h⟩
  · exact ⟨.inl (k _ _ h n).1, (k _ _ h n).2⟩
  · exact ⟨.inr ⟨o, (k _ _ h n).1⟩, (k _ _ h n).2⟩
mutual
theorem RD.kp (k : Kp H M H' M') : ∀ (d : D) (v : V), RD K H M d v → RD K H' M' d v
  | .non, _, h => by simpa [RD] using h
  | .bl _, _, h => by simpa [RD] using h
  | .int _, _, h => by simpa [RD] using h
  | .str _, _, h => by simpa [RD] using h
  | .ref _, _, h => by simpa [RD] using h
  | .ty _, _, h => by simpa [RD] using h
  | .tup xs, v, h => by
    rw [RD] at h ⊢
    obtain ⟨a, vs, e, c, r⟩ := h
    refine ⟨a, vs, e, ?_, RDs.kp k xs vs r⟩
    rcases c with ⟨c, n⟩ | c
    · exact .inl (Rd.kp k c n)
    · exact .inr c
  | .lst xs, v, h => by
    rw [RD] at h ⊢
    obtain ⟨a, vs, e, c, n, r⟩ := h
    exact ⟨a, vs, e, (k _ _ c n).1, (k _ _ c n).2, RDs.kp k xs vs r⟩
  | .fz xs, v, h => by
    rw [RD] at h ⊢
    obtain ⟨a, vs, e, c, r⟩ := h
    refine ⟨a, vs, e, ?_, RDs.kp k xs vs r⟩
    rcases c with ⟨c, n⟩ | c
    · exact .inl (Rd.kp k c n)
    · exact .inr c
theorem RDs.kp (k : Kp H M H' M') : ∀ (ds : List D) (vs : List V), RDs K H M ds vs → RDs K H' M' ds vs
  | [], _, h => by simpa [RDs] using h
  | d :: ds, vs, h => by
    rw [RDs] at h ⊢
    obtain ⟨v, r, e, h1, h2⟩ := h
    exact ⟨v, r, e, RD.kp k d v h1, RDs.kp k ds r h2⟩
end
theorem RDs.nil : RDs K H M [] [] := by rw [RDs]
theorem RDs.cons {d : D} {v : V} {ds : List D} {vs : List V} (h : RD K H M d v) (t : RDs K H M ds vs) : RDs K H M (d :: ds) (v :: vs) := by
  rw [RDs]; exact ⟨v, vs, rfl, h, t⟩
theorem RDs.len : ∀ {ds : List D} {vs : List V}, RDs K H M ds vs → vs.length = ds.length
  | [], _, h => by rw [RDs] at h; subst h; rfl
  | d :: ds, vs, h => by
    rw [RDs] at h
    obtain ⟨v, r, e, _, h2⟩ := h
    subst e
    simp [RDs.len h2]
theorem RDs.get : ∀ {ds : List D} {vs : List V} {i : Nat} {d : D}, RDs K H M ds vs → ds[i]? = some d → ∃ v, vs[i]? = some v ∧ RD K H M d v
  | [], _, _, _, _, e => by simp at e
  | d :: ds, vs, i, x, h, e => by
    rw [RDs] at h
    obtain ⟨v, r, e1, h1, h2⟩ := h
    subst e1
    cases i with
    | zero => simp at e; subst e; exact ⟨v, rfl, h1⟩
    | succ i => simpa using RDs.get (i := i) h2 (by simpa using e)
theorem RDs.append : ∀ {ds es : List D} {vs ws : List V}, RDs K H M ds vs → RDs K H M es ws → RDs K H M (ds ++ es) (vs ++ ws)
  | [], _, _, _, h, t => by rw [RDs] at h; subst h; exact t
  | d :: ds, es, vs, ws, h, t => by
    rw [RDs] at h
    obtain ⟨v, r, e1, h1, h2⟩ := h
    subst e1
    exact RDs.cons h1 (RDs.append h2 t)
theorem RDs.take : ∀ {ds : List D} {vs : List V} (n : Nat), RDs K H M ds vs → RDs K H M (ds.take n) (vs.take n)
  | _, _, 0, _ => by simp [RDs]
  | [], _, n + 1, h => by rw [RDs] at h; subst h; simp [RDs]
  | d :: ds, vs, n + 1, h => by
    rw [RDs] at h
    obtain ⟨v, r, e1, h1, h2⟩ := h
    subst e1
    exact RDs.cons h1 (RDs.take n h2)
theorem RDs.drop : ∀ {ds : List D} {vs : List V} (n : Nat), RDs K H M ds vs → RDs K H M (ds.drop n) (vs.drop n)
  | _, _, 0, h => h
  | [], _, n + 1, h => by rw [RDs] at h; subst h; simp [RDs]
  | d :: ds, vs, n + 1, h => by
    rw [RDs] at h
    obtain ⟨v, r, e1, h1, h2⟩ := h
    subst e1
    exact RDs.drop n h2
theorem RDs.set : ∀ {ds : List D} {vs : List V} {d : D} {v : V} (n : Nat), RDs K H M ds vs → RD K H M d v → RDs K H M (ds.set n d) (vs.set n v)
  | [], _, _, _, n, h, _ => by rw [RDs] at h; subst h; simp [RDs]
  | e :: ds, vs, d, v, n, h, hd => by
    rw [RDs] at h
    obtain ⟨w, r, e1, h1, h2⟩ := h
    subst e1
    cases n with
    | zero => exact RDs.cons hd h2
    | succ n => exact RDs.cons h1 (RDs.set n h2 hd)
theorem ROk.kp (k : Kp H M H' M') {a : Addr} {mo : MO} (e : H' a = H a) (h : ROk K H M a mo) : ROk K H' M' a mo := by
  cases mo with
  | lst xs => obtain ⟨vs, h1, h2⟩ := h; exact ⟨vs, e.trans h1, h2.kp k⟩
  | dK xs => obtain ⟨vs, h1, h2⟩ := h; exact ⟨vs, e.trans h1, h2.kp k⟩
  | dN xs => obtain ⟨vs, h1, h2⟩ := h; exact ⟨vs, e.trans h1, Paired.mapP h2 fun _ _ ⟨p, q, r, t⟩ => ⟨p, q, RD.kp k _ _ r, RD.kp k _ _ t⟩⟩
  | fN od ys xs => obtain ⟨h1, h2⟩ := h; exact ⟨e.trans h1, Paired.mapP h2 fun _ _ ⟨p, q, r, t⟩ => ⟨p, q, RD.kp k _ _ r, RD.kp k _ _ t⟩⟩
  | ins C dx ns xs => obtain ⟨vs, h1, hl, h2⟩ := h; exact ⟨vs, e.trans h1, hl, h2.kp k⟩
theorem ROk.isThere {a : Addr} {mo : MO} (h : ROk K H M a mo) : ∃ o, H a = some o := by
  cases mo <;> first | (obtain ⟨vs, h1, _⟩ := h; exact ⟨_, h1⟩) | exact ⟨_, h.1⟩
theorem MOk.noneAt (m : MOk K H M) {p : Addr} (h : H p = none) : M p = none := by
  cases e : M p with
  | none => rfl
  | some mo =>
    obtain ⟨o, q⟩ := (m p mo e).isThere
    rw [h] at q; cases q
theorem Slots.kp (k : Kp H M H' M') {σ' : L2.St} {σ : DS} (h : Slots K H M σ' σ) : Slots K H' M' σ' σ :=
  ⟨h.1, fun i d e => let ⟨v, h1, h2⟩ := h.2 i d e; ⟨v, h1, h2.kp k⟩⟩
theorem Slots.set {σ' : L2.St} {σ : DS} {d : D} {v : V} (h : Slots K H M σ' σ) (i : Nat) (hd : RD K H M d v) : Slots K H M (σ'.set i (.some v)) (σ.set i (.some d)) := by
  refine ⟨by simp [h.1], fun j e he => ?_⟩
  by_cases hj : i = j
  · subst hj
    have hi : i < σ.length := by
      rw [List.getElem?_eq_some_iff] at he
      simpa using he.1
    rw [List.getElem?_set_self hi] at he
    cases he
    exact ⟨v, List.getElem?_set_self (by rw [h.1]; exact hi), hd⟩
  · rw [List.getElem?_set_ne hj] at he
    obtain ⟨w, h1, h2⟩ := h.2 j e he
    exact ⟨w, by rw [List.getElem?_set_ne hj]; exact h1, h2⟩
/-- a new object that is not tracked -/
theorem Kp.laid {p : Addr} {o : HO} (h : H p = none) : Kp H M (upd H p o) M := fun a u e n => ⟨by rw [upd_ne (ne_of_none e h)]; exact e, n⟩
theorem MOk.laid {p : Addr} {o : HO} (m : MOk K H M) (h : H p = none) : MOk K (upd H p o) M := fun a mo e =>
  (m a mo e).kp (Kp.laid h) (upd_ne (mne e (m.noneAt h)))
theorem RD.tupNew {p : Addr} {vs : List V} {ds : List D} (m : MOk K H M) (h : H p = none) (r : RDs K H M ds vs) : RD K (upd H p (.tup vs)) M (.tup ds) (.ref p) := by
  rw [RD]; exact ⟨p, vs, rfl, .inl ⟨.inl upd_same, m.noneAt h⟩, r.kp (Kp.laid h)⟩
theorem RD.lstNew {p : Addr} {vs : List V} {ds : List D} (m : MOk K H M) (h : H p = none) (r : RDs K H M ds vs) : RD K (upd H p (.lst vs)) M (.lst ds) (.ref p) := by
  rw [RD]; exact ⟨p, vs, rfl, upd_same, m.noneAt h, r.kp (Kp.laid h)⟩
/-- a new object that is tracked -/
theorem Kp.made {p : Addr} {o : HO} {mo : MO} (h : H p = none) : Kp H M (upd H p o) (um M p mo) := fun a u e n =>
  ⟨by rw [upd_ne (ne_of_none e h)]; exact e, by rw [um_ne (ne_of_none e h)]; exact n⟩
theorem MOk.made {p : Addr} {o : HO} {mo : MO} (m : MOk K H M) (h : H p = none) (r : ROk K (upd H p o) (um M p mo) p mo) : MOk K (upd H p o) (um M p mo) := fun a u e => by
  by_cases q : a = p
  · subst q; rw [um_same] at e; cases e; exact r
  · rw [um_ne q] at e; exact (m a u e).kp (Kp.made h) (upd_ne q)
/-- a tracked object is written -/
theorem Kp.wrote {p : Addr} {o : HO} {mo mo' : MO} (h : M p = .some mo) : Kp H M (upd H p o) (um M p mo') := fun a u e n =>
  ⟨by rw [upd_ne (mne h n).symm]; exact e, by rw [um_ne (mne h n).symm]; exact n⟩
theorem MOk.wrote {p : Addr} {o : HO} {mo mo' : MO} (m : MOk K H M) (h : M p = .some mo) (r : ROk K (upd H p o) (um M p mo') p mo') : MOk K (upd H p o) (um M p mo') := fun a u e => by
  by_cases q : a = p
  · subst q; rw [um_same] at e; cases e; exact r
  · rw [um_ne q] at e; exact (m a u e).kp (Kp.wrote h) (upd_ne q)
end

/-! ### readings over data, and what they are as readings over values -/
abbrev DK := D → DM → Prop
abbrev DT := DS → DM → DK → Prop
abbrev DTT := DS → DM → (Bool → DM → Prop) → Prop
abbrev DTA := DS → DM → (List D → DM → Prop) → Prop
/-- what is wanted at data, of values -/
def Get (K : Gk) (H : Hp) (M : DM) (Q : DK) (R : VK) : Prop := ∀ v H' d M', Kp H M H' M' → MOk K H' M' → RD K H' M' d v → Q d M' → R v H'
def GetB (K : Gk) (H : Hp) (M : DM) (Q : Bool → DM → Prop) (R : Bool → Hp → Prop) : Prop := ∀ b H' M', Kp H M H' M' → MOk K H' M' → Q b M' → R b H'
def GetA (K : Gk) (H : Hp) (M : DM) (Q : List D → DM → Prop) (R : List V → Hp → Prop) : Prop := ∀ vs H' ds M', Kp H M H' M' → MOk K H' M' → RDs K H' M' ds vs → Q ds M' → R vs H'
def up (K : Gk) (t : DT) : TE := fun σ' H R => ∃ σ M Q, Slots K H M σ' σ ∧ MOk K H M ∧ t σ M Q ∧ Get K H M Q R
def upB (K : Gk) (t : DTT) : TT := fun σ' H R => ∃ σ M Q, Slots K H M σ' σ ∧ MOk K H M ∧ t σ M Q ∧ GetB K H M Q R
def upA (K : Gk) (t : DTA) : TA := fun σ' H R => ∃ σ M Q, Slots K H M σ' σ ∧ MOk K H M ∧ t σ M Q ∧ GetA K H M Q R
theorem Get.of {K : Gk} {H : Hp} {M : DM} {Q : DK} {R : VK} (h : Get K H M Q R) {H1 : Hp} {M1 : DM} (k : Kp H M H1 M1) : Get K H1 M1 Q R := fun v H' d M' k' => h v H' d M' (k.trans k')
theorem GetB.of {K : Gk} {H : Hp} {M : DM} {Q : Bool → DM → Prop} {R : Bool → Hp → Prop} (h : GetB K H M Q R) {H1 : Hp} {M1 : DM} (k : Kp H M H1 M1) : GetB K H1 M1 Q R := fun v H' M' k' => h v H' M' (k.trans k')
theorem GetA.of {K : Gk} {H : Hp} {M : DM} {Q : List D → DM → Prop} {R : List V → Hp → Prop} (h : GetA K H M Q R) {H1 : Hp} {M1 : DM} (k : Kp H M H1 M1) : GetA K H1 M1 Q R := fun v H' d M' k' => h v H' d M' (k.trans k')

abbrev DE (X : Cx) (e : Expr) (t : DT) : Prop := PE X e (up X.gk t)
abbrev DB (X : Cx) (e : Expr) (t : DTT) : Prop := PT X e (upB X.gk t)
abbrev DA (X : Cx) (es : List Expr) (t : DTA) : Prop := PA X es (upA X.gk t)
theorem _root_.L2.PE.imp {X : Cx} {e : Expr} {t u : TE} (h : PE X e t) (q : ∀ σ H Q, u σ H Q → t σ H Q) : PE X e u := ⟨fun pins s σ H Q I hu => h.run pins s σ H Q I (q σ H Q hu)⟩
theorem _root_.L2.PT.imp {X : Cx} {e : Expr} {t u : TT} (h : PT X e t) (q : ∀ σ H Q, u σ H Q → t σ H Q) : PT X e u := ⟨fun pins s σ H Q I hu => h.run pins s σ H Q I (q σ H Q hu)⟩
theorem _root_.L2.PW.imp {X : Cx} {e : Expr} {t u : TT} (h : PW X e t) (q : ∀ σ H Q, u σ H Q → t σ H Q) : PW X e u := ⟨fun wh pins s σ H Q I hu => h.run wh pins s σ H Q I (q σ H Q hu)⟩
theorem _root_.L2.PA.imp {X : Cx} {e : List Expr} {t u : TA} (h : PA X e t) (q : ∀ σ H Q, u σ H Q → t σ H Q) : PA X e u := ⟨fun pos pins s σ H Q I hu => h.run pos pins s σ H Q I (q σ H Q hu)⟩
theorem _root_.L2.PS.imp {X : Cx} {e : Stmt} {t u : TS} (h : PS X e t) (q : ∀ D σ H, u D σ H → t D σ H) : PS X e u := ⟨fun pins s σ H D I hu => h.run pins s σ H D I (q D σ H hu)⟩
theorem _root_.L2.PSs.imp {X : Cx} {e : List Stmt} {t u : TS} (h : PSs X e t) (q : ∀ D σ H, u D σ H → t D σ H) : PSs X e u := ⟨fun pins s σ H D I hu => h.run pins s σ H D I (q D σ H hu)⟩
theorem _root_.L2.PG.imp {X : Cx} {e : Expr} {t u : TG} (h : PG X e t) (q : ∀ v σ H Q, u v σ H Q → t v σ H Q) : PG X e u := ⟨fun pins s σ H v w Q I r hu => h.run pins s σ H v w Q I r (q v σ H Q hu)⟩
theorem _root_.L2.PI.imp {X : Cx} {tg e : Expr} {t u : TI} (h : PI X tg e t) (q : ∀ σ H Q, u σ H Q → t σ H Q) : PI X tg e u := ⟨fun pins s σ H Q I hu => h.run pins s σ H Q I (q σ H Q hu)⟩

/-! ### names, constants -/
def dVar (i : Nat) : DT := fun σ M Q => match σ[i]? with
  | some (some d) => Q d M
  | _ => False
def dC (d : D) : DT := fun _ M Q => Q d M
section
variable {X : Cx}
theorem de_var {e : Expr} {i : Nat} (h : PE X e (tVar i)) : DE X e (dVar i) := h.imp fun σ' H R ⟨σ, M, Q, S, m, q, g⟩ => by
  unfold dVar at q
  split at q
  · rename_i d e
    obtain ⟨v, h1, h2⟩ := S.2 i d e
    exact ⟨v, h1, g v H d M .refl m h2 q⟩
  · exact q.elim
theorem dv (i : Nat) {x : Str} {pos : Pos} (hN : X.N[i]? = some x := by rfl) (hv : Vis X.env.scope x := by first | exact Or.inl rfl | exact Or.inr (Or.inl rfl) | exact Or.inr (Or.inr rfl)) (hd : (x == ("__debug__" : Str)) = false := by decide)
    (hcd : (x == ("__classdict__" : Str)) = false := by decide) : DE X (.Name x pos) (dVar i) := de_var (pe_var hN hv hd hcd)
theorem de_c {e : Expr} {v : V} {d : D} (h : PE X e (tC v)) (r : ∀ K H M, RD K H M d v) : DE X e (dC d) := h.imp fun σ' H R ⟨σ, M, Q, S, m, q, g⟩ => g v H d M .refl m (r _ _ _) q
theorem de_int {i j pos} : DE X (.Constant (.int i) j pos) (dC (.int i)) := de_c pe_int fun _ _ _ => by rw [RD]
theorem de_bl {b j pos} : DE X (.Constant (.bool b) j pos) (dC (.bl b)) := de_c pe_bl fun _ _ _ => by rw [RD]
theorem de_non {j pos} : DE X (.Constant .none j pos) (dC .non) := de_c pe_non fun _ _ _ => by rw [RD]
theorem de_str {x j pos} : DE X (.Constant (.str x) j pos) (dC (.str x)) := de_c pe_str fun _ _ _ => by rw [RD]
end

/-! ### argument lists, displays -/
def dNil : DTA := fun _ M Q => Q [] M
def dCons (t : DT) (r : DTA) : DTA := fun σ M Q => t σ M fun d M1 => r σ M1 fun ds M2 => Q (d :: ds) M2
section
variable {X : Cx} {e : Expr} {es : List Expr} {t : DT} {r : DTA} {pos : Pos}
theorem da_nil : DA X [] dNil := pa_nil.imp fun σ' H R ⟨σ, M, Q, S, m, q, g⟩ => g [] H [] M .refl m .nil q
theorem da_cons (ha : DE X e t) (hr : DA X es r) (hs : starEach (e :: es) X.env = (false, eval e X.env) :: starEach es X.env := by rfl) : DA X (e :: es) (dCons t r) :=
  (pa_cons ha hr hs).imp fun σ' H R ⟨σ, M, Q, S, m, q, g⟩ => ⟨σ, M, _, S, m, q, fun v H1 d M1 k1 m1 r1 q1 =>
    ⟨σ, M1, _, S.kp k1, m1, q1, fun vs H2 ds M2 k2 m2 r2 q2 => g _ H2 _ M2 (k1.trans k2) m2 (.cons (r1.kp k2) r2) q2⟩⟩
def dTup (t : DTA) : DT := fun σ M Q => t σ M fun ds M1 => ds.length ≤ sizeLine ∧ Q (.tup ds) M1
/-- [..], settled; [..] that may change -/
def dLst (t : DTA) : DT := fun σ M Q => t σ M fun ds M1 => ds.length ≤ sizeLine ∧ Q (.lst ds) M1
def dLstM (t : DTA) : DT := fun σ M Q => t σ M fun ds M1 => ds.length ≤ sizeLine ∧ ∀ p, M1 p = none → Q (.ref p) (um M1 p (.lst ds))
theorem de_tup {x1} (h : DA X es r) : DE X (.Tuple es x1 pos) (dTup r) := (pe_tup h).imp fun σ' H R ⟨σ, M, Q, S, m, q, g⟩ =>
  ⟨σ, M, _, S, m, q, fun vs H1 ds M1 k1 m1 r1 ⟨z, q1⟩ => ⟨by rw [r1.len]; exact z, fun p hp => g _ _ _ _ (k1.trans (.laid hp)) (m1.laid hp) (.tupNew m1 hp r1) q1⟩⟩
theorem de_lst (h : DA X es r) : DE X (.List es pos) (dLst r) := (pe_lst h).imp fun σ' H R ⟨σ, M, Q, S, m, q, g⟩ =>
  ⟨σ, M, _, S, m, q, fun vs H1 ds M1 k1 m1 r1 ⟨z, q1⟩ => ⟨by rw [r1.len]; exact z, fun p hp => g _ _ _ _ (k1.trans (.laid hp)) (m1.laid hp) (.lstNew m1 hp r1) q1⟩⟩
theorem lstMade {K : Gk} {H : Hp} {M : DM} {ds : List D} {vs : List V} {p : Addr} (hp : H p = none) (r : RDs K H M ds vs) : ROk K (upd H p (.lst vs)) (um M p (.lst ds)) p (.lst ds) := ⟨vs, upd_same, r.kp (.made hp)⟩
theorem de_lstM (h : DA X es r) : DE X (.List es pos) (dLstM r) := (pe_lst h).imp fun σ' H R ⟨σ, M, Q, S, m, q, g⟩ =>
  ⟨σ, M, _, S, m, q, fun vs H1 ds M1 k1 m1 r1 ⟨z, q1⟩ => ⟨by rw [r1.len]; exact z, fun p hp => g _ _ _ _ (k1.trans (.made hp)) (m1.made hp (lstMade hp r1)) (by rw [RD]) (q1 p (m1.noneAt hp))⟩⟩
end
end DL

namespace DL
open PySem PySem.Spec PyProof.Rows L2

/-! ### data as the library's data -/
mutual
def D.py : D → PyData
  | .non => .none
  | .bl b => .bool b
  | .int i => .int i
  | .str x => .str x
  | .tup xs => .tuple (D.pys xs)
  | .lst xs => .list (D.pys xs)
  | .fz xs => .list (D.pys xs)
  | .ref _ => .none
  | .ty _ => .none
def D.pys : List D → List PyData
  | [] => []
  | d :: ds => d.py :: D.pys ds
end
mutual
/-- no object within -/
def D.dat : D → Bool
  | .tup xs => D.dats xs
  | .lst xs => D.dats xs
  | .fz xs => D.dats xs
  | .ref _ => false
  | .ty _ => false
  | .str x => PyData.strOk x
  | _ => true
def D.dats : List D → Bool
  | [] => true
  | d :: ds => d.dat && D.dats ds
end
mutual
def D.dep : D → Nat
  | .tup xs => D.deps xs + 1
  | .lst xs => D.deps xs + 1
  | .fz xs => D.deps xs + 1
  | _ => 0
def D.deps : List D → Nat
  | [] => 0
  | d :: ds => max d.dep (D.deps ds)
end
section
variable {K : Gk} {H : Hp} {M : DM}
theorem sqT_of {a : Addr} {vs : List V} (c : (Rd H a (.tup vs) ∧ M a = none) ∨ KT K.K a vs) : SqT K.K H a vs := by
  rcases c with ⟨c, _⟩ | c
  · exact .inl c
  · exact .inr c
theorem sqL_of {a : Addr} {vs : List V} (c : (Rd H a (.lst vs) ∧ M a = none) ∨ KL K.K a vs) : SqL K.K H a vs := by
  rcases c with ⟨c, _⟩ | c
  · exact .inl c
  · exact .inr c
mutual
theorem RD.dp : ∀ (d : D) (v : V), d.dat = true → RD K H M d v → Dp K.K H v d.py
  | .non, _, _, h => by rw [RD] at h; subst h; exact .non
  | .bl _, _, _, h => by rw [RD] at h; subst h; exact .bl _
  | .int _, _, _, h => by rw [RD] at h; subst h; exact .int _
  | .str _, _, _, h => by rw [RD] at h; subst h; exact .str _
  | .tup xs, _, e, h => by
    rw [RD] at h
    obtain ⟨a, vs, rfl, c, r⟩ := h
    exact .tup (sqT_of c) (RDs.dp xs vs (by simpa [D.dat] using e) r)
  | .lst xs, _, e, h => by
    rw [RD] at h
    obtain ⟨a, vs, rfl, c, n, r⟩ := h
    exact .lst (.of c) (RDs.dp xs vs (by simpa [D.dat] using e) r)
  | .fz xs, _, e, h => by
    rw [RD] at h
    obtain ⟨a, vs, rfl, c, r⟩ := h
    exact .lst (sqL_of c) (RDs.dp xs vs (by simpa [D.dat] using e) r)
  | .ref _, _, e, _ => by simp [D.dat] at e
  | .ty _, _, e, _ => by simp [D.dat] at e
theorem RDs.dp : ∀ (ds : List D) (vs : List V), D.dats ds = true → RDs K H M ds vs → DpAll K.K H vs (D.pys ds)
  | [], _, _, h => by rw [RDs] at h; subst h; exact .nil
  | d :: ds, _, e, h => by
    rw [RDs] at h
    obtain ⟨v, r, rfl, h1, h2⟩ := h
    have e' : d.dat = true ∧ D.dats ds = true := by simpa [D.dats] using e
    exact .cons (RD.dp d v e'.1 h1) (RDs.dp ds r e'.2 h2)
end
end
mutual
theorem D.canLay : ∀ d : D, d.dat = true → d.py.canLay0 = true
  | .non, _ | .bl _, _ | .int _, _ | .ref _, _ | .ty _, _ => by simp [D.py, PyData.canLay0]
  | .str x, h => by simpa [D.py, PyData.canLay0, D.dat] using h
  | .tup xs, h => by
    have h := D.canLays xs (by simpa [D.dat] using h)
    simp [D.py, PyData.canLay0, h]
  | .lst xs, h => by
    have h := D.canLays xs (by simpa [D.dat] using h)
    simp [D.py, PyData.canLay0, h]
  | .fz xs, h => by
    have h := D.canLays xs (by simpa [D.dat] using h)
    simp [D.py, PyData.canLay0, h]
theorem D.canLays : ∀ ds : List D, D.dats ds = true → PyData.canLayAll0 (D.pys ds) = true
  | [], _ => by simp [D.pys, PyData.canLayAll0]
  | d :: ds, h => by
    have h' : d.dat = true ∧ D.dats ds = true := by simpa [D.dats] using h
    simp [D.pys, PyData.canLayAll0, D.canLay d h'.1, D.canLays ds h'.2]
end
mutual
theorem D.py_dep : ∀ d : D, d.py.depth = d.dep
  | .non | .bl _ | .int _ | .str _ | .ref _ | .ty _ => by simp [D.py, PyData.depth, D.dep]
  | .tup xs => by simp [D.py, PyData.depth, D.dep, D.pys_dep xs]
  | .lst xs => by simp [D.py, PyData.depth, D.dep, D.pys_dep xs]
  | .fz xs => by simp [D.py, PyData.depth, D.dep, D.pys_dep xs]
theorem D.pys_dep : ∀ ds : List D, PyData.depthAll (D.pys ds) = D.deps ds
  | [] => by simp [D.pys, PyData.depthAll, D.deps]
  | d :: ds => by simp [D.pys, PyData.depthAll, D.deps, D.py_dep d, D.pys_dep ds]
end
theorem D.shaped {d : D} (hd : d.dat = true) (h : d.dep ≤ 64) : SeqAt.shaped d.py = true := by
  show (d.py.canLay0 && decide (d.py.depth ≤ 64)) = true
  rw [D.canLay d hd, D.py_dep, decide_eq_true h]; rfl
theorem D.pys_map (ds : List D) : D.pys ds = ds.map D.py := by
  induction ds with
  | nil => rfl
  | cons d ds ih => simp [D.pys, ih]
theorem D.dats_all (ds : List D) : D.dats ds = ds.all D.dat := by
  induction ds with
  | nil => rfl
  | cons d ds ih => simp [D.dats, ih]

/-! ### operators -/
abbrev DR2 := D → D → DM → DK → Prop
def upR (K : Gk) (r : DR2) : R2 := fun x y H R => ∃ d1 d2 M Q, RD K H M d1 x ∧ RD K H M d2 y ∧ MOk K H M ∧ r d1 d2 M Q ∧ Get K H M Q R
abbrev DOp (X : Cx) (f : Value → Value → Sem Value) (r : DR2) : Prop := OpR X f (upR X.gk r)
def dOp (r : DR2) (ta tb : DT) : DT := fun σ M Q => ta σ M fun x M1 => tb σ M1 fun y M2 => r x y M2 Q
section
variable {K : Gk} {H : Hp} {M : DM}
theorem RD.eq_int {i : Int} {v : V} (h : RD K H M (.int i) v) : v = .int i := by rw [RD] at h; exact h
theorem RD.eq_bl {b : Bool} {v : V} (h : RD K H M (.bl b) v) : v = .bl b := by rw [RD] at h; exact h
theorem RD.eq_str {x : Str} {v : V} (h : RD K H M (.str x) v) : v = .str x := by rw [RD] at h; exact h
theorem RD.eq_non {v : V} (h : RD K H M .non v) : v = .non := by rw [RD] at h; exact h
theorem RD.eq_ref {a : Addr} {v : V} (h : RD K H M (.ref a) v) : v = .ref a := by rw [RD] at h; exact h
theorem RD.int (i : Int) : RD K H M (.int i) (.int i) := by rw [RD]
theorem RD.bl (b : Bool) : RD K H M (.bl b) (.bl b) := by rw [RD]
theorem RD.str (x : Str) : RD K H M (.str x) (.str x) := by rw [RD]
theorem RD.non : RD K H M .non .non := by rw [RD]
theorem RD.ref (a : Addr) : RD K H M (.ref a) (.ref a) := by rw [RD]
theorem RD.tupAt {xs : List D} {v : V} (h : RD K H M (.tup xs) v) : ∃ a vs, v = .ref a ∧ SqT K.K H a vs ∧ RDs K H M xs vs := by
  rw [RD] at h
  obtain ⟨a, vs, e, c, r⟩ := h
  exact ⟨a, vs, e, sqT_of c, r⟩
theorem RD.lstAt {xs : List D} {v : V} (h : RD K H M (.lst xs) v) : ∃ a vs, v = .ref a ∧ H a = some (.lst vs) ∧ RDs K H M xs vs := by
  rw [RD] at h
  obtain ⟨a, vs, e, c, _, r⟩ := h
  exact ⟨a, vs, e, c, r⟩
theorem RD.fzAt {xs : List D} {v : V} (h : RD K H M (.fz xs) v) : ∃ a vs, v = .ref a ∧ SqL K.K H a vs ∧ RDs K H M xs vs := by
  rw [RD] at h
  obtain ⟨a, vs, e, c, r⟩ := h
  exact ⟨a, vs, e, sqL_of c, r⟩
theorem MOk.lstAt (m : MOk K H M) {p : Addr} {xs : List D} (h : M p = some (.lst xs)) : ∃ vs, H p = some (.lst vs) ∧ RDs K H M xs vs := m p _ h
theorem RDs.one {d : D} {vs : List V} (h : RDs K H M [d] vs) : ∃ v, vs = [v] ∧ RD K H M d v := by
  rw [RDs] at h
  obtain ⟨v, r, e, h1, h2⟩ := h
  rw [RDs] at h2
  exact ⟨v, by rw [e, h2], h1⟩
theorem RDs.two {d e : D} {vs : List V} (h : RDs K H M [d, e] vs) : ∃ v w, vs = [v, w] ∧ RD K H M d v ∧ RD K H M e w := by
  rw [RDs] at h
  obtain ⟨v, r, e, h1, h2⟩ := h
  obtain ⟨w, e2, h3⟩ := h2.one
  exact ⟨v, w, by rw [e, e2], h1, h3⟩
theorem RDs.none {vs : List V} (h : RDs K H M [] vs) : vs = [] := by rw [RDs] at h; exact h
theorem RDs.map_int {xs : List Int} : ∀ {vs : List V}, RDs K H M (xs.map .int) vs → vs = xs.map V.int := by
  induction xs with
  | nil => intro vs h; exact h.none
  | cons x xs ih =>
    intro vs h
    rw [List.map_cons, RDs] at h
    obtain ⟨v, r, e, h1, h2⟩ := h
    rw [e, h1.eq_int, ih h2]; rfl
theorem RDs.of_int (xs : List Int) : RDs K H M (xs.map .int) (xs.map V.int) := by
  induction xs with
  | nil => exact .nil
  | cons x xs ih => exact .cons (.int x) ih
end
section
variable {X : Cx} {a b : Expr} {ta tb : DT} {pos : Pos} {r : DR2}
theorem op2 {r' : R2} {σ' : L2.St} {H : Hp} {R : VK} {ra rb : TE} (e1 : ra = up X.gk ta) (e2 : rb = up X.gk tb) (e : r' = upR X.gk r) (h : up X.gk (dOp r ta tb) σ' H R) : tOp r' ra rb σ' H R := by
  subst e1 e2 e
  obtain ⟨σ, M, Q, S, m, q, g⟩ := h
  exact ⟨σ, M, _, S, m, q, fun v H1 d M1 k1 m1 r1 q1 => ⟨σ, M1, _, S.kp k1, m1, q1, fun w H2 e M2 k2 m2 r2 q2 => ⟨d, e, M2, Q, r1.kp k2, r2, m2, q2, g.of (k1.trans k2)⟩⟩⟩
theorem de_op {op : Operator} (ho : DOp X (binaryOp op) r) (ha : DE X a ta) (hb : DE X b tb) : DE X (.BinOp a op b pos) (dOp r ta tb) :=
  (pe_op ho ha hb).imp fun _ _ _ h => op2 rfl rfl rfl h
theorem de_cmp {op : CmpOp} (ho : DOp X (compareOp op) r) (ha : DE X a ta) (hb : DE X b tb) (hm : behindInMarks op b = false := by first | exact nobehind _ (by decide) (by decide) | rfl) : DE X (.Compare a [op] [b] pos) (dOp r ta tb) :=
  (pe_cmpR ho ha hb hm).imp fun _ _ _ h => op2 rfl rfl rfl h
theorem de_ix (ho : IxR X (upR X.gk r)) (ha : DE X a ta) (hb : DE X b tb) (hs : PlainIx b := by exact fun _ _ => rfl) : DE X (.Subscript a b pos) (dOp r ta tb) :=
  (pe_ix ho ha hb hs).imp fun _ _ _ h => op2 rfl rfl rfl h

def rAdd : DR2
  | .int i, .int j, M, Q => Q (.int (i + j)) M
  | .str a, .str b, M, Q => a.length + b.length ≤ sizeLine ∧ Q (.str (a ++ b)) M
  | .tup a, .tup b, M, Q => a.length + b.length ≤ sizeLine ∧ Q (.tup (a ++ b)) M
  | .lst a, .lst b, M, Q => a.length + b.length ≤ sizeLine ∧ Q (.lst (a ++ b)) M
  | .ref p, .lst b, M, Q => ∃ a, M p = some (.lst a) ∧ a.length + b.length ≤ sizeLine ∧ Q (.lst (a ++ b)) M
  | _, _, _, _ => False
theorem catL {H : Hp} {M : DM} {Q : DK} {R : VK} {p1 p2 : Addr} {vs ws : List V} {xs ys : List D} (m : MOk X.gk H M) (g : Get X.gk H M Q R) (h1 : H p1 = some (.lst vs)) (h2 : H p2 = some (.lst ws)) (r1 : RDs X.gk H M xs vs) (r2 : RDs X.gk H M ys ws)
    (hz : xs.length + ys.length ≤ sizeLine) (q : Q (.lst (xs ++ ys)) M) : rCat (.ref p1) (.ref p2) H R :=
  ⟨p1, p2, vs, ws, rfl, rfl, h1, h2, by rw [r1.len, r2.len]; exact hz, fun p hp => g _ _ _ _ (.laid hp) (m.laid hp) (.lstNew m hp (r1.append r2)) q⟩
theorem o_add : DOp X (binaryOp .Add) rAdd := by
  intro pins s σ' H x y v u R I rx ry h
  obtain ⟨d1, d2, M, Q, h1, h2, m, q, g⟩ := h
  unfold rAdd at q
  split at q
  · obtain rfl := h1.eq_int
    obtain rfl := h2.eq_int
    exact op_add pins s σ' H _ _ v u R I rx ry ⟨_, _, rfl, rfl, g _ _ _ _ .refl m (.int _) q⟩
  · obtain rfl := h1.eq_str
    obtain rfl := h2.eq_str
    exact op_add_str pins s σ' H _ _ v u R I rx ry ⟨_, _, rfl, rfl, q.1, g _ _ _ _ .refl m (.str _) q.2⟩
  · rename_i xs ys
    have h1' := h1
    have h2' := h2
    rw [RD] at h1' h2'
    obtain ⟨a, vs, rfl, c1, r1⟩ := h1'
    obtain ⟨b, ws, rfl, c2, r2⟩ := h2'
    have e1 := r1.len
    have e2 := r2.len
    refine op_catA pins s σ' H _ _ v u R I rx ry ⟨a, b, vs, ws, rfl, rfl, sqT_of c1, sqT_of c2, by rw [e1, e2]; exact q.1, fun e => ?_, fun _ e => ?_, fun _ _ p hp => g _ _ _ _ (.laid hp) (m.laid hp) (.tupNew m hp (r1.append r2)) q.2⟩
    · subst e
      have : xs = [] := List.length_eq_zero_iff.mp (by simpa using e1.symm)
      subst this
      exact g _ _ _ _ .refl m h2 q.2
    · subst e
      have : ys = [] := List.length_eq_zero_iff.mp (by simpa using e2.symm)
      subst this
      rw [List.append_nil] at q
      exact g _ _ _ _ .refl m h1 q.2
  · obtain ⟨a, vs, rfl, c1, r1⟩ := h1.lstAt
    obtain ⟨b, ws, rfl, c2, r2⟩ := h2.lstAt
    exact op_cat pins s σ' H _ _ v u R I rx ry (catL m g c1 c2 r1 r2 q.1 q.2)
  · obtain ⟨xs, hp, hz, q⟩ := q
    obtain rfl := h1.eq_ref
    obtain ⟨vs, c1, r1⟩ := m.lstAt hp
    obtain ⟨b, ws, rfl, c2, r2⟩ := h2.lstAt
    exact op_cat pins s σ' H _ _ v u R I rx ry (catL m g c1 c2 r1 r2 hz q)
  · exact q.elim
/-- two ints -/
def rII (C : Int → Int → Prop) (f : Int → Int → D) : DR2
  | .int i, .int j, M, Q => C i j ∧ Q (f i j) M
  | _, _, _, _ => False
theorem o_ii {f : Value → Value → Sem Value} {C : Int → Int → Prop} {fv : Int → Int → V} {fd : Int → Int → D} (h0 : OpR X f (rI C fv)) (hf : ∀ i j K H M, RD K H M (fd i j) (fv i j)) : DOp X f (rII C fd) := by
  intro pins s σ' H x y v u R I rx ry h
  obtain ⟨d1, d2, M, Q, h1, h2, m, q, g⟩ := h
  unfold rII at q
  split at q
  · obtain rfl := h1.eq_int
    obtain rfl := h2.eq_int
    exact h0 pins s σ' H _ _ v u R I rx ry ⟨_, _, rfl, rfl, q.1, g _ _ _ _ .refl m (hf _ _ _ _ _) q.2⟩
  · exact q.elim
def rI2 (f : Int → Int → D) : DR2
  | .int i, .int j, M, Q => Q (f i j) M
  | _, _, _, _ => False
theorem o_i2 {f : Value → Value → Sem Value} {fv : Int → Int → V} {fd : Int → Int → D} (h0 : OpR X f (rI0 fv)) (hf : ∀ i j K H M, RD K H M (fd i j) (fv i j)) : DOp X f (rI2 fd) := by
  intro pins s σ' H x y v u R I rx ry h
  obtain ⟨d1, d2, M, Q, h1, h2, m, q, g⟩ := h
  unfold rI2 at q
  split at q
  · obtain rfl := h1.eq_int
    obtain rfl := h2.eq_int
    exact h0 pins s σ' H _ _ v u R I rx ry ⟨_, _, rfl, rfl, g _ _ _ _ .refl m (hf _ _ _ _ _) q⟩
  · exact q.elim
abbrev rSub : DR2 := rI2 fun i j => .int (i - j)
abbrev rMul : DR2 := rII CMulW fun i j => .int (i * j)
abbrev rMod : DR2 := rII (fun _ j => 0 < j) fun i j => .int (i % j)
abbrev rDiv : DR2 := rII CDivW fun i j => .int (i / j)
theorem o_sub : DOp X (binaryOp .Sub) rSub := o_i2 op_sub fun _ _ _ _ _ => .int _
theorem o_mul : DOp X (binaryOp .Mult) rMul := o_ii op_mulW fun _ _ _ _ _ => .int _
theorem o_mod : DOp X (binaryOp .Mod) rMod := o_ii op_mod fun _ _ _ _ _ => .int _
theorem o_div : DOp X (binaryOp .FloorDiv) rDiv := o_ii op_fdivW fun _ _ _ _ _ => .int _
abbrev rPow : DR2 := rII CPow fun i j => .int (i ^ j.toNat)
theorem o_pow : DOp X (binaryOp .Pow) rPow := o_ii op_pow fun _ _ _ _ _ => .int _
abbrev rLtI : DR2 := rI2 fun i j => .bl (decide (i < j))
abbrev rLeI : DR2 := rI2 fun i j => .bl (decide (i ≤ j))
abbrev rGtI : DR2 := rI2 fun i j => .bl (decide (j < i))
abbrev rGeI : DR2 := rI2 fun i j => .bl (decide (j ≤ i))
theorem o_lt : DOp X (compareOp .Lt) rLtI := o_i2 op_lt fun _ _ _ _ _ => .bl _
theorem o_le : DOp X (compareOp .LtE) rLeI := o_i2 op_le fun _ _ _ _ _ => .bl _
theorem o_gt : DOp X (compareOp .Gt) rGtI := o_i2 op_gt fun _ _ _ _ _ => .bl _
theorem o_ge : DOp X (compareOp .GtE) rGeI := o_i2 op_ge fun _ _ _ _ _ => .bl _
/-- == -/
def eqD : D → D → Bool
  | .int i, .int j => decide (i = j)
  | .str i, .str j => decide (i = j)
  | d, e => PyData.eqv d.py e.py
/-- two data that may be held against each other; a tracked list stands for its items -/
def seen (M : DM) (d e : D) : Prop := (d = e ∧ d.dat = true) ∨ ∃ p xs, d = .ref p ∧ M p = some (.lst xs) ∧ e = .lst xs ∧ D.dats xs = true
def rEq (neg : Bool) : DR2
  | .int i, .int j, M, Q => Q (.bl (xor neg (decide (i = j)))) M
  | .str i, .str j, M, Q => Q (.bl (xor neg (decide (i = j)))) M
  | d, e, M, Q => ∃ d' e', seen M d d' ∧ seen M e e' ∧ d'.dep ≤ 64 ∧ e'.dep ≤ 64 ∧ Q (.bl (xor neg (PyData.eqv d'.py e'.py))) M
theorem seen.dat {M : DM} {d e : D} (h : seen M d e) : e.dat = true := by
  rcases h with ⟨rfl, h⟩ | ⟨p, xs, rfl, hp, rfl, hd⟩
  · exact h
  · simpa [D.dat] using hd
theorem seen.dp {K : Gk} {H : Hp} {M : DM} {d e : D} {v : V} (m : MOk K H M) (h : seen M d e) (r : RD K H M d v) : Dp K.K H v e.py := by
  rcases h with ⟨rfl, h⟩ | ⟨p, xs, rfl, hp, rfl, hd⟩
  · exact r.dp _ _ h
  · rw [r.eq_ref]
    obtain ⟨vs, h1, h2⟩ := m.lstAt hp
    exact .lst (.of h1) (h2.dp _ _ hd)
theorem o_eq (hu : X.A.units + 64 < cLine) : DOp X (compareOp .Eq) (rEq false) := by
  intro pins s σ' H x y v u R I rx ry h
  obtain ⟨d1, d2, M, Q, h1, h2, m, q, g⟩ := h
  unfold rEq at q
  split at q
  · rename_i i j
    obtain rfl := h1.eq_int
    obtain rfl := h2.eq_int
    refine L2.op_eq pins s σ' H _ _ v u R I rx ry ⟨rfl, g _ _ _ _ .refl m (.bl _) ?_⟩
    simpa using q
  · obtain rfl := h1.eq_str
    obtain rfl := h2.eq_str
    refine L2.op_eq pins s σ' H _ _ v u R I rx ry ⟨rfl, g _ _ _ _ .refl m (.bl _) ?_⟩
    simpa using q
  · obtain ⟨d', e', s1, s2, z1, z2, q⟩ := q
    exact op_eqD hu pins s σ' H _ _ v u R I rx ry ⟨_, _, s1.dp m h1, s2.dp m h2, D.shaped s1.dat z1, D.shaped s2.dat z2, g _ _ _ _ .refl m (.bl _) (by simpa using q)⟩
theorem o_ne (hu : X.A.units + 64 < cLine) : DOp X (compareOp .NotEq) (rEq true) := by
  intro pins s σ' H x y v u R I rx ry h
  obtain ⟨d1, d2, M, Q, h1, h2, m, q, g⟩ := h
  unfold rEq at q
  split at q
  · rename_i i j
    obtain rfl := h1.eq_int
    obtain rfl := h2.eq_int
    refine L2.op_ne pins s σ' H _ _ v u R I rx ry ⟨rfl, g _ _ _ _ .refl m (.bl _) ?_⟩
    simpa using q
  · obtain rfl := h1.eq_str
    obtain rfl := h2.eq_str
    refine L2.op_ne pins s σ' H _ _ v u R I rx ry ⟨rfl, g _ _ _ _ .refl m (.bl _) ?_⟩
    simpa using q
  · obtain ⟨d', e', s1, s2, z1, z2, q⟩ := q
    exact op_neD hu pins s σ' H _ _ v u R I rx ry ⟨_, _, s1.dp m h1, s2.dp m h2, D.shaped s1.dat z1, D.shaped s2.dat z2, g _ _ _ _ .refl m (.bl _) (by simpa using q)⟩
/-- is None -/
def isNon : D → Bool
  | .non => true
  | _ => false
def rIsN (neg : Bool) : DR2
  | d, .non, M, Q => Q (.bl (xor neg (isNon d))) M
  | _, _, _, _ => False
theorem RD.isNon {K : Gk} {H : Hp} {M : DM} {d : D} {v : V} (h : RD K H M d v) : decide (v = .non) = isNon d := by
  cases d with
  | non => rw [h.eq_non]; rfl
  | bl _ => rw [h.eq_bl]; rfl
  | int _ => rw [h.eq_int]; rfl
  | str _ => rw [h.eq_str]; rfl
  | tup _ => obtain ⟨a, vs, rfl, _⟩ := h.tupAt; rfl
  | lst _ => obtain ⟨a, vs, rfl, _⟩ := h.lstAt; rfl
  | fz _ => obtain ⟨a, vs, rfl, _⟩ := h.fzAt; rfl
  | ref _ => rw [h.eq_ref]; rfl
  | ty _ => rw [RD] at h; rw [h]; rfl
theorem o_is : DOp X (compareOp .Is) (rIsN false) := by
  intro pins s σ' H x y v u R I rx ry h
  obtain ⟨d1, d2, M, Q, h1, h2, m, q, g⟩ := h
  unfold rIsN at q
  split at q
  · have e := h1.isNon
    refine op_isN pins s σ' H _ _ v u R I rx ry ⟨h2.eq_non, g _ _ _ _ .refl m (.bl _) ?_⟩
    rw [e]; simpa using q
  · exact q.elim
theorem o_isnot : DOp X (compareOp .IsNot) (rIsN true) := by
  intro pins s σ' H x y v u R I rx ry h
  obtain ⟨d1, d2, M, Q, h1, h2, m, q, g⟩ := h
  unfold rIsN at q
  split at q
  · have e := h1.isNon
    refine op_notN pins s σ' H _ _ v u R I rx ry ⟨h2.eq_non, g _ _ _ _ .refl m (.bl _) ?_⟩
    rw [e]; simpa using q
  · exact q.elim
/-- < of tuples of ints -/
def rLtT : DR2
  | .tup a, .tup b, M, Q => ∃ ns ms, a = ns.map .int ∧ b = ms.map .int ∧ Q (.bl (HT.lexLt ns ms)) M
  | _, _, _, _ => False
theorem o_ltT (hu : X.A.units < cLine) : DOp X (compareOp .Lt) rLtT := by
  intro pins s σ' H x y v u R I rx ry h
  obtain ⟨d1, d2, M, Q, h1, h2, m, q, g⟩ := h
  unfold rLtT at q
  split at q
  · obtain ⟨ns, ms, rfl, rfl, q⟩ := q
    obtain ⟨a, vs, rfl, c1, r1⟩ := h1.tupAt
    obtain ⟨b, ws, rfl, c2, r2⟩ := h2.tupAt
    rw [r1.map_int] at c1
    rw [r2.map_int] at c2
    exact op_ltT hu pins s σ' H _ _ v u R I rx ry ⟨a, b, ns, ms, rfl, rfl, c1, c2, g _ _ _ _ .refl m (.bl _) q⟩
  · exact q.elim
/-- x in xs, a list of data -/
def rIn (neg : Bool) : DR2 := fun d e M Q => ∃ xs, seen M e (.lst xs) ∧ d.dat = true ∧ d.dep ≤ 64 ∧ D.deps xs + 1 ≤ 64 ∧ Q (.bl (xor neg (xs.any fun z => PyData.eqv z.py d.py))) M
theorem o_in (hu : X.A.units + 65 < cLine) : DOp X (compareOp .In) (rIn false) := by
  intro pins s σ' H x y v u R I rx ry h
  obtain ⟨d1, d2, M, Q, h1, h2, m, ⟨xs, s2, hd, z1, z2, q⟩, g⟩ := h
  refine op_inD hu pins s σ' H _ _ v u R I rx ry ⟨_, _, h1.dp _ _ hd, s2.dp m h2, D.shaped hd z1, D.shaped (d := .lst xs) s2.dat (by simpa [D.dep] using z2), g _ _ _ _ .refl m (.bl _) ?_⟩
  rw [D.pys_map, List.any_map]
  simpa [Function.comp_def] using q
theorem o_notin (hu : X.A.units + 65 < cLine) : DOp X (compareOp .NotIn) (rIn true) := by
  intro pins s σ' H x y v u R I rx ry h
  obtain ⟨d1, d2, M, Q, h1, h2, m, ⟨xs, s2, hd, z1, z2, q⟩, g⟩ := h
  refine op_notInD hu pins s σ' H _ _ v u R I rx ry ⟨_, _, h1.dp _ _ hd, s2.dp m h2, D.shaped hd z1, D.shaped (d := .lst xs) s2.dat (by simpa [D.dep] using z2), g _ _ _ _ .refl m (.bl _) ?_⟩
  rw [D.pys_map, List.any_map]
  simpa [Function.comp_def] using q

/-! ### subscripts -/
def rIx : DR2
  | .tup xs, .int i, M, Q => ∃ d, atI xs i = some d ∧ Q d M
  | .lst xs, .int i, M, Q => ∃ d, atI xs i = some d ∧ Q d M
  | .fz xs, .int i, M, Q => ∃ d, atI xs i = some d ∧ Q d M
  | .ref p, .int i, M, Q => ∃ xs d, M p = some (.lst xs) ∧ atI xs i = some d ∧ Q d M
  | .str z, .int i, M, Q => z.length ≤ sizeLine ∧ ∃ c, atI z.cps.toList i = some c ∧ Q (.str ⟨#[c]⟩) M
  | _, _, _, _ => False
theorem RDs.atI {K : Gk} {H : Hp} {M : DM} {xs : List D} {vs : List V} {i : Int} {d : D} (r : RDs K H M xs vs) (h : L2.atI xs i = some d) : ∃ v, L2.atI vs i = some v ∧ RD K H M d v := by
  unfold L2.atI at h ⊢
  rw [r.len]
  cases e : ixN xs.length i with
  | none => rw [e] at h; cases h
  | some j =>
    rw [e] at h
    exact r.get h
theorem i_ix : IxR X (upR X.gk rIx) := by
  intro va sl pins s σ' H x y v u R I rx ry h
  obtain ⟨d1, d2, M, Q, h1, h2, m, q, g⟩ := h
  unfold rIx at q
  split at q
  · obtain ⟨d, hd, q⟩ := q
    obtain ⟨a, vs, rfl, c1, r1⟩ := h1.tupAt
    obtain ⟨w, hw, rw'⟩ := r1.atI hd
    exact ix_tup va sl pins s σ' H _ _ v u R I rx ry ⟨a, vs, _, w, rfl, h2.eq_int, c1, hw, g _ _ _ _ .refl m rw' q⟩
  · obtain ⟨d, hd, q⟩ := q
    obtain ⟨a, vs, rfl, c1, r1⟩ := h1.lstAt
    obtain ⟨w, hw, rw'⟩ := r1.atI hd
    exact ix_list va sl pins s σ' H _ _ v u R I rx ry ⟨a, vs, _, w, rfl, h2.eq_int, .of c1, hw, g _ _ _ _ .refl m rw' q⟩
  · obtain ⟨d, hd, q⟩ := q
    obtain ⟨a, vs, rfl, c1, r1⟩ := h1.fzAt
    obtain ⟨w, hw, rw'⟩ := r1.atI hd
    exact ix_list va sl pins s σ' H _ _ v u R I rx ry ⟨a, vs, _, w, rfl, h2.eq_int, c1, hw, g _ _ _ _ .refl m rw' q⟩
  · obtain ⟨xs, d, hp, hd, q⟩ := q
    obtain rfl := h1.eq_ref
    obtain ⟨vs, c1, r1⟩ := m.lstAt hp
    obtain ⟨w, hw, rw'⟩ := r1.atI hd
    exact ix_list va sl pins s σ' H _ _ v u R I rx ry ⟨_, vs, _, w, rfl, h2.eq_int, .of c1, hw, g _ _ _ _ .refl m rw' q⟩
  · obtain ⟨z, c, hc, q⟩ := q
    obtain rfl := h1.eq_str
    exact ix_str va sl pins s σ' H _ _ v u R I rx ry ⟨_, _, c, rfl, h2.eq_int, z, hc, g _ _ _ _ .refl m (.str _) q⟩
  · exact q.elim
end
end DL

namespace DL
open PySem PySem.Spec PyProof.Rows L2

/-! ### tests -/
def dTest (t : DT) : DTT := fun σ M Q => t σ M fun d M1 => match d with
  | .bl b => Q b M1
  | _ => False
section
variable {X : Cx} {a b c e : Expr} {ta tb tc t : DT} {tA tB : DTT} {pos : Pos} {r r' : DR2} {rest : List Expr}
theorem getTest {K : Gk} {H : Hp} {M : DM} {Q : Bool → DM → Prop} {R : Bool → Hp → Prop} (g : GetB K H M Q R) :
    Get K H M (fun d M1 => match d with | .bl b => Q b M1 | _ => False) (fun x H1 => ∃ k, x = .bl k ∧ R k H1) := fun v H' d M' k m r q => by
  dsimp only at q
  split at q
  · exact ⟨_, r.eq_bl, g _ _ _ k m q⟩
  · exact q.elim
theorem db_val (h : DE X e t) (he : ∀ whole, isTrue e X.env whole = (do let v ← whole; standAt e.pos; holding [v] (truthy v)) := by intro _; rfl) : DB X e (dTest t) :=
  (pt_val h he).imp fun σ' H R ⟨σ, M, Q, S, m, q, g⟩ => ⟨σ, M, _, S, m, q, getTest g⟩
theorem db_cmp {op : CmpOp} (ho : DOp X (compareOp op) r) (ha : DE X a ta) (hb : DE X b tb) (hm : behindInMarks op b = false := by first | exact nobehind _ (by decide) (by decide) | rfl) : DB X (.Compare a [op] [b] pos) (dTest (dOp r ta tb)) :=
  (pt_cmpR ho ha hb hm).imp fun σ' H R ⟨σ, M, Q, S, m, q, g⟩ => op2 rfl rfl rfl ⟨σ, M, _, S, m, q, getTest g⟩
def dChain (r r' : DR2) (ta tb tc : DT) : DT := fun σ M Q => ta σ M fun x M1 => tb σ M1 fun y M2 => r x y M2 fun z M3 => match z with
  | .bl k => (k = true → tc σ M3 fun w M4 => r' y w M4 Q) ∧ (k = false → Q (.bl false) M3)
  | _ => False
theorem chain2 {σ' : L2.St} {H : Hp} {R : VK} (h : up X.gk (dChain r r' ta tb tc) σ' H R) : tChain (upR X.gk r) (upR X.gk r') (up X.gk ta) (up X.gk tb) (up X.gk tc) σ' H R := by
  obtain ⟨σ, M, Q, S, m, q, g⟩ := h
  refine ⟨σ, M, _, S, m, q, fun v H1 d M1 k1 m1 r1 q1 => ⟨σ, M1, _, S.kp k1, m1, q1, fun w H2 e M2 k2 m2 r2 q2 => ⟨d, e, M2, _, r1.kp k2, r2, m2, q2, fun z H3 f M3 k3 m3 r3 q3 => ?_⟩⟩⟩
  split at q3
  · rename_i k
    refine ⟨k, r3.eq_bl, ?_⟩
    cases k with
    | true => exact iteT ⟨σ, M3, _, ((S.kp k1).kp k2).kp k3, m3, q3.1 rfl, fun w' H4 f' M4 k4 m4 r4 q4 => ⟨e, f', M4, Q, (r2.kp k3).kp k4, r4, m4, q4, g.of (k1.trans (k2.trans (k3.trans k4)))⟩⟩
    | false => exact iteF (g _ _ _ _ (k1.trans (k2.trans k3)) m3 (.bl _) (q3.2 rfl))
  · exact q3.elim
theorem de_chain {op op' : CmpOp} (ho : DOp X (compareOp op) r) (ho' : DOp X (compareOp op') r') (ha : DE X a ta) (hb : DE X b tb) (hc : DE X c tc) (hm : lastMarks [op, op'] [b, c] = false := by with_unfolding_all rfl) :
    DE X (.Compare a [op, op'] [b, c] pos) (dChain r r' ta tb tc) := (pe_chain ho ho' ha hb hc hm).imp fun _ _ _ h => chain2 h
theorem db_chain {op op' : CmpOp} (ho : DOp X (compareOp op) r) (ho' : DOp X (compareOp op') r') (ha : DE X a ta) (hb : DE X b tb) (hc : DE X c tc) (hm : lastMarks [op, op'] [b, c] = false := by with_unfolding_all rfl) :
    DB X (.Compare a [op, op'] [b, c] pos) (dTest (dChain r r' ta tb tc)) := (pt_chain ho ho' ha hb hc hm).imp fun σ' H R ⟨σ, M, Q, S, m, q, g⟩ => chain2 ⟨σ, M, _, S, m, q, getTest g⟩

abbrev DW (X : Cx) (e : Expr) (t : DTT) : Prop := PW X e (upB X.gk t)
def dAnd (t u : DTT) : DTT := fun σ M Q => t σ M fun b M1 => (b = true → u σ M1 Q) ∧ (b = false → Q false M1)
def dOr (t u : DTT) : DTT := fun σ M Q => t σ M fun b M1 => (b = false → u σ M1 Q) ∧ (b = true → Q true M1)
def dNot (t : DTT) : DTT := fun σ M Q => t σ M fun b M1 => Q (!b) M1
theorem dw_and1 (ha : DB X a tA) : DW X (.BoolOp .And [a] pos) tA := pw_and1 ha
theorem dw_or1 (ha : DB X a tA) : DW X (.BoolOp .Or [a] pos) tA := pw_or1 ha
theorem dw_and (ha : DB X a tA) (hb : DW X (.BoolOp .And (b :: rest) pos) tB) : DW X (.BoolOp .And (a :: b :: rest) pos) (dAnd tA tB) :=
  (pw_and ha hb).imp fun σ' H R ⟨σ, M, Q, S, m, q, g⟩ => ⟨σ, M, _, S, m, q, fun c H1 M1 k1 m1 q1 => by
    cases c with
    | true => exact iteT ⟨σ, M1, Q, S.kp k1, m1, q1.1 rfl, g.of k1⟩
    | false => exact iteF (g _ _ _ k1 m1 (q1.2 rfl))⟩
theorem dw_or (ha : DB X a tA) (hb : DW X (.BoolOp .Or (b :: rest) pos) tB) : DW X (.BoolOp .Or (a :: b :: rest) pos) (dOr tA tB) :=
  (pw_or ha hb).imp fun σ' H R ⟨σ, M, Q, S, m, q, g⟩ => ⟨σ, M, _, S, m, q, fun c H1 M1 k1 m1 q1 => by
    cases c with
    | true => exact iteT (g _ _ _ k1 m1 (q1.2 rfl))
    | false => exact iteF ⟨σ, M1, Q, S.kp k1, m1, q1.1 rfl, g.of k1⟩⟩
theorem db_w (h : DW X e tA) : DB X e tA := h.pt
theorem db_not (ha : DB X a tA) : DB X (.UnaryOp .Not a pos) (dNot tA) :=
  (pt_not ha).imp fun σ' H R ⟨σ, M, Q, S, m, q, g⟩ => ⟨σ, M, _, S, m, q, fun c H1 M1 k1 m1 q1 => g _ _ _ k1 m1 q1⟩
/-- as values: bools -/
def dAndV (ta tb : DT) : DT := fun σ M Q => ta σ M fun d M1 => match d with
  | .bl k => (k = true → tb σ M1 Q) ∧ (k = false → Q (.bl false) M1)
  | _ => False
def dOrV (ta tb : DT) : DT := fun σ M Q => ta σ M fun d M1 => match d with
  | .bl k => (k = false → tb σ M1 Q) ∧ (k = true → Q (.bl true) M1)
  | _ => False
def dNotV (ta : DT) : DT := fun σ M Q => ta σ M fun d M1 => match d with
  | .bl k => Q (.bl (!k)) M1
  | _ => False
theorem de_one {op} (h : DE X a t) : DE X (.BoolOp op [a] pos) t := pe_one h
theorem de_and (ha : DE X a ta) (hb : DE X (.BoolOp .And (b :: rest) pos) tb) : DE X (.BoolOp .And (a :: b :: rest) pos) (dAndV ta tb) :=
  (pe_and ha hb).imp fun σ' H R ⟨σ, M, Q, S, m, q, g⟩ => ⟨σ, M, _, S, m, q, fun v H1 d M1 k1 m1 r1 q1 => by
    split at q1
    · rename_i k
      refine ⟨k, r1.eq_bl, ?_⟩
      cases k with
      | true => exact iteT ⟨σ, M1, Q, S.kp k1, m1, q1.1 rfl, g.of k1⟩
      | false => exact iteF (g _ _ _ _ k1 m1 (.bl _) (q1.2 rfl))
    · exact q1.elim⟩
theorem de_or (ha : DE X a ta) (hb : DE X (.BoolOp .Or (b :: rest) pos) tb) : DE X (.BoolOp .Or (a :: b :: rest) pos) (dOrV ta tb) :=
  (pe_or ha hb).imp fun σ' H R ⟨σ, M, Q, S, m, q, g⟩ => ⟨σ, M, _, S, m, q, fun v H1 d M1 k1 m1 r1 q1 => by
    split at q1
    · rename_i k
      refine ⟨k, r1.eq_bl, ?_⟩
      cases k with
      | true => exact iteT (g _ _ _ _ k1 m1 (.bl _) (q1.2 rfl))
      | false => exact iteF ⟨σ, M1, Q, S.kp k1, m1, q1.1 rfl, g.of k1⟩
    · exact q1.elim⟩
theorem de_not (ha : DE X a ta) : DE X (.UnaryOp .Not a pos) (dNotV ta) :=
  (pe_not ha).imp fun σ' H R ⟨σ, M, Q, S, m, q, g⟩ => ⟨σ, M, _, S, m, q, fun v H1 d M1 k1 m1 r1 q1 => by
    split at q1
    · exact ⟨_, r1.eq_bl, g _ _ _ _ k1 m1 (.bl _) q1⟩
    · exact q1.elim⟩
def dIf (tA : DTT) (ta tb : DT) : DT := fun σ M Q => tA σ M fun k M1 => (k = true → ta σ M1 Q) ∧ (k = false → tb σ M1 Q)
theorem de_if (hc : DB X c tA) (ha : DE X a ta) (hb : DE X b tb) : DE X (.IfExp c a b pos) (dIf tA ta tb) :=
  (pe_ifExp hc ha hb).imp fun σ' H R ⟨σ, M, Q, S, m, q, g⟩ => ⟨σ, M, _, S, m, q, fun k H1 M1 k1 m1 q1 => by
    cases k with
    | true => exact iteT ⟨σ, M1, Q, S.kp k1, m1, q1.1 rfl, g.of k1⟩
    | false => exact iteF ⟨σ, M1, Q, S.kp k1, m1, q1.2 rfl, g.of k1⟩⟩
end

/-! ### statements -/
structure DEnds where
  nx : DS → DM → Prop
  rt : DK
  bk : DS → DM → Prop := fun _ _ => False
  ct : DS → DM → Prop := fun _ _ => False
abbrev DTS := DEnds → DS → DM → Prop
def GetS (K : Gk) (H : Hp) (M : DM) (Q : DS → DM → Prop) (R : L2.St → Hp → Prop) : Prop := ∀ σ' H' σ M', Kp H M H' M' → MOk K H' M' → Slots K H' M' σ' σ → Q σ M' → R σ' H'
theorem GetS.of {K : Gk} {H : Hp} {M : DM} {Q : DS → DM → Prop} {R : L2.St → Hp → Prop} (h : GetS K H M Q R) {H1 : Hp} {M1 : DM} (k : Kp H M H1 M1) : GetS K H1 M1 Q R := fun v H' d M' k' => h v H' d M' (k.trans k')
structure GetE (K : Gk) (H : Hp) (M : DM) (D : DEnds) (E : Ends) : Prop where
  nx : GetS K H M D.nx E.nx
  rt : Get K H M D.rt E.rt
  bk : GetS K H M D.bk E.bk
  ct : GetS K H M D.ct E.ct
theorem GetE.of {K : Gk} {H : Hp} {M : DM} {D : DEnds} {E : Ends} (h : GetE K H M D E) {H1 : Hp} {M1 : DM} (k : Kp H M H1 M1) : GetE K H1 M1 D E := ⟨h.nx.of k, h.rt.of k, h.bk.of k, h.ct.of k⟩
def upS (K : Gk) (t : DTS) : TS := fun E σ' H => ∃ σ M D, Slots K H M σ' σ ∧ MOk K H M ∧ t D σ M ∧ GetE K H M D E
abbrev DStm (X : Cx) (st : Stmt) (t : DTS) : Prop := PS X st (upS X.gk t)
abbrev DStms (X : Cx) (st : List Stmt) (t : DTS) : Prop := PSs X st (upS X.gk t)
def dNext : DTS := fun D σ M => D.nx σ M
def dSeq (t u : DTS) : DTS := fun D σ M => t { D with nx := u D } σ M
section
variable {X : Cx} {st : Stmt} {rest sa sb : List Stmt} {t u : DTS} {e c : Expr} {te : DT} {tc : DTT} {pos : Pos}
theorem dss_nil : DStms X [] dNext := pss_nil.imp fun E σ' H ⟨σ, M, D, S, m, q, g⟩ => g.nx _ _ _ _ .refl m S q
theorem dss_cons (h1 : DStm X st t) (h2 : DStms X rest u) : DStms X (st :: rest) (dSeq t u) := (pss_cons h1 h2).imp fun E σ' H ⟨σ, M, D, S, m, q, g⟩ =>
  ⟨σ, M, _, S, m, q, ⟨fun σ1' H1 σ1 M1 k1 m1 S1 q1 => ⟨σ1, M1, D, S1, m1, q1, g.of k1⟩, g.rt, g.bk, g.ct⟩⟩
theorem dss_one (h1 : DStm X st t) : DStms X [st] t := pss_one h1
theorem ds_pass : DStm X (.Pass pos) dNext := ps_pass.imp fun E σ' H ⟨σ, M, D, S, m, q, g⟩ => g.nx _ _ _ _ .refl m S q
def dBreak : DTS := fun D σ M => D.bk σ M
def dCont : DTS := fun D σ M => D.ct σ M
theorem ds_break : DStm X (.Break pos) dBreak := ps_break.imp fun E σ' H ⟨σ, M, D, S, m, q, g⟩ => g.bk _ _ _ _ .refl m S q
theorem ds_cont : DStm X (.Continue pos) dCont := ps_continue.imp fun E σ' H ⟨σ, M, D, S, m, q, g⟩ => g.ct _ _ _ _ .refl m S q
def dDrop (te : DT) : DTS := fun D σ M => te σ M fun _ M1 => D.nx σ M1
theorem ds_expr (he : DE X e te) (hs : swapsWith e none pos.line X.env = pure false := by rfl) : DStm X (.Expr e pos) (dDrop te) := (ps_expr he hs).imp fun E σ' H ⟨σ, M, D, S, m, q, g⟩ =>
  ⟨σ, M, _, S, m, q, fun v H1 d M1 k1 m1 r1 q1 => g.nx _ _ _ _ k1 m1 (S.kp k1) q1⟩
def dRet (te : DT) : DTS := fun D σ M => te σ M D.rt
theorem ds_ret (he : DE X e te) : DStm X (.Return (some e) pos) (dRet te) := (ps_ret he).imp fun E σ' H ⟨σ, M, D, S, m, q, g⟩ => ⟨σ, M, _, S, m, q, g.rt⟩
def dRetN : DTS := fun D _ M => D.rt .non M
theorem ds_retN : DStm X (.Return none pos) dRetN := ps_retN.imp fun E σ' H ⟨σ, M, D, S, m, q, g⟩ => g.rt _ _ _ _ .refl m .non q
def dIfS (tc : DTT) (t u : DTS) : DTS := fun D σ M => tc σ M fun b M1 => (b = true → t D σ M1) ∧ (b = false → u D σ M1)
theorem ds_if (hc : DB X c tc) (ha : DStms X sa t) (hb : DStms X sb u) : DStm X (.If c sa sb pos) (dIfS tc t u) := (ps_if hc ha hb).imp fun E σ' H ⟨σ, M, D, S, m, q, g⟩ =>
  ⟨σ, M, _, S, m, q, fun b H1 M1 k1 m1 q1 => by
    cases b with
    | true => exact iteT ⟨σ, M1, D, S.kp k1, m1, q1.1 rfl, g.of k1⟩
    | false => exact iteF ⟨σ, M1, D, S.kp k1, m1, q1.2 rfl, g.of k1⟩⟩
def dNever : DTS := fun _ _ _ => False
theorem ds_never : DStm X st dNever := ps_never.imp fun E σ' H ⟨σ, M, D, S, m, q, g⟩ => q
end

/-! ### targets -/
abbrev DTG := D → DS → DM → (DS → DM → Prop) → Prop
abbrev DTGs := List D → DS → DM → (DS → DM → Prop) → Prop
def upG (K : Gk) (t : DTG) : TG := fun v σ' H R => ∃ d σ M Q, RD K H M d v ∧ Slots K H M σ' σ ∧ MOk K H M ∧ t d σ M Q ∧ GetS K H M Q R
def upGs (K : Gk) (t : DTGs) : TGs := fun vs σ' H R => ∃ ds σ M Q, RDs K H M ds vs ∧ Slots K H M σ' σ ∧ MOk K H M ∧ t ds σ M Q ∧ GetS K H M Q R
abbrev DG (X : Cx) (e : Expr) (t : DTG) : Prop := PG X e (upG X.gk t)
structure DGs (X : Cx) (es : List Expr) (t : DTGs) : Prop where
  h : PGs X es (upGs X.gk t)
theorem _root_.L2.PGs.imp {X : Cx} {e : List Expr} {t u : TGs} (h : PGs X e t) (q : ∀ v σ H Q, u v σ H Q → t v σ H Q) : PGs X e u := ⟨fun pins s σ H v w Q I r hu => h.run pins s σ H v w Q I r (q v σ H Q hu)⟩
theorem lstWrote {K : Gk} {H : Hp} {M : DM} {ds : List D} {vs : List V} {p : Addr} {mo : MO} (hp : M p = some mo) (r : RDs K H M ds vs) : ROk K (upd H p (.lst vs)) (um M p (.lst ds)) p (.lst ds) := ⟨vs, upd_same, r.kp (.wrote hp)⟩
section
variable {X : Cx} {pos : Pos} {e : Expr} {es : List Expr} {g : DTG} {gs : DTGs}
def dName (i : Nat) : DTG := fun d σ M Q => Q (σ.set i (some d)) M
theorem dg_name {i : Nat} {x : Str} (hN : X.N.Nodup) (hi : X.N[i]? = some x) (hx : Loc X.env.scope x) (hf : X.fn x = true ∨ X.env.scope.names.lookup x = some .local := by first | exact .inl rfl | exact .inr rfl | assumption) : DG X (.Name x pos) (dName i) :=
  (pg_name hN hi hx hf).imp fun v σ' H R ⟨d, σ, M, Q, r, S, m, q, g⟩ => g _ _ _ _ .refl m (S.set i r) q
def dgNil : DTGs := fun ds σ M Q => ds = [] ∧ Q σ M
def dgCons (t : DTG) (u : DTGs) : DTGs := fun ds σ M Q => match ds with
  | d :: r => t d σ M fun σ1 M1 => u r σ1 M1 Q
  | [] => False
theorem dgs_nil : DGs X [] dgNil := ⟨pgs_nil.imp fun v σ' H R ⟨ds, σ, M, Q, r, S, m, q, g⟩ => by
  obtain ⟨rfl, q⟩ := q
  exact ⟨r.none, g _ _ _ _ .refl m S q⟩⟩
theorem dgs_cons (h1 : DG X e g) (h2 : DGs X es gs) (hs : (assignEach (e :: es) X.env).map (·.2) = assign e X.env :: (assignEach es X.env).map (·.2) := by rfl) : DGs X (e :: es) (dgCons g gs) :=
  ⟨(pgs_cons h1 h2.h hs).imp fun v σ' H R ⟨ds, σ, M, Q, r, S, m, q, g⟩ => by
    cases ds with
    | nil => exact q.elim
    | cons d ds =>
      rw [RDs] at r
      obtain ⟨w, ws, rfl, r1, r2⟩ := r
      exact ⟨w, ws, rfl, d, σ, M, _, r1, S, m, q, fun σ1' H1 σ1 M1 k1 m1 S1 q1 => ⟨ds, σ1, M1, Q, r2.kp k1, S1, m1, q1, g.of k1⟩⟩⟩
def dgTup (n : Nat) (t : DTGs) : DTG := fun d σ M Q => match d with
  | .tup ds => ds.length = n ∧ t ds σ M Q
  | _ => False
theorem dg_tup {k : Nat} {n : Nat} (hc : X.calm = true) (h : DGs X es gs) (hn : (assignEach es X.env).length = n := by rfl) (hst : (assignEach es X.env).findIdx? (·.1) = none := by rfl) : DG X (.Tuple es k pos) (dgTup n gs) :=
  (pg_tup hc h.h hn hst).imp fun v σ' H R ⟨d, σ, M, Q, r, S, m, q, g⟩ => by
    unfold dgTup at q
    split at q
    · obtain ⟨a, vs, rfl, c, rs⟩ := r.tupAt
      exact ⟨a, vs, rfl, c, by rw [rs.len]; exact q.1, _, σ, M, Q, rs, S, m, q.2, g⟩
    · exact q.elim
/-- o[i] = e -/
abbrev DSet := D → D → D → DM → (DM → Prop) → Prop
def upSet (K : Gk) (r : DSet) : TSet := fun o i v H R => ∃ d1 d2 d3 M Q, RD K H M d1 o ∧ RD K H M d2 i ∧ RD K H M d3 v ∧ MOk K H M ∧ r d1 d2 d3 M Q ∧ ∀ H' M', Kp H M H' M' → MOk K H' M' → Q M' → R H'
def dSub (to ti : DT) (r : DSet) : DTG := fun d σ M Q => to σ M fun o M1 => ti σ M1 fun i M2 => r o i d M2 fun M3 => Q σ M3
theorem dg_sub {o i : Expr} {to ti : DT} {r : DSet} (ho : DE X o to) (hi : DE X i ti) (hs : PSet X (upSet X.gk r))
    (ha : ∀ v, assign (.Subscript o i pos) X.env v = (do
      let ov ← holding [v] (eval o X.env)
      let iv ← holding [v, ov] (eval i X.env)
      standAt pos
      holding [v, ov, iv] (setItem ov iv v)
      release [v, ov, iv] []) := by intro _; rfl) : DG X (.Subscript o i pos) (dSub to ti r) :=
  (pg_sub ho hi hs ha).imp fun v σ' H R ⟨d, σ, M, Q, r, S, m, q, g⟩ => ⟨σ, M, _, S, m, q, fun w1 H1 o1 M1 k1 m1 r1 q1 => ⟨σ, M1, _, S.kp k1, m1, q1, fun w2 H2 i2 M2 k2 m2 r2 q2 =>
    ⟨o1, i2, d, M2, _, r1.kp k2, r2, (r.kp k1).kp k2, m2, q2, fun H3 M3 k3 m3 q3 => g _ _ _ _ (k1.trans (k2.trans k3)) m3 (((S.kp k1).kp k2).kp k3) q3⟩⟩⟩
def rSet : DSet := fun o i d M Q => match o, i with
  | .ref p, .int k => ∃ xs j, M p = some (.lst xs) ∧ ixN xs.length k = some j ∧ Q (um M p (.lst (xs.set j d)))
  | _, _ => False
theorem s_list : PSet X (upSet X.gk rSet) := by
  intro pins s σ' H o i v ov iv u R I ro ri rv h
  obtain ⟨d1, d2, d3, M, Q, h1, h2, h3, m, q, g⟩ := h
  unfold rSet at q
  split at q
  · obtain ⟨xs, j, hp, hj, q⟩ := q
    obtain rfl := h1.eq_ref
    obtain ⟨vs, c, r⟩ := m.lstAt hp
    exact set_list pins s σ' H _ _ _ ov iv u R I ro ri rv ⟨_, vs, _, j, rfl, h2.eq_int, c, by rw [r.len]; exact hj, g _ _ (.wrote hp) (m.wrote hp (lstWrote hp (r.set j h3))) q⟩
  · exact q.elim
end
def dAsg (te : DT) (g : DTG) : DTS := fun D σ M => te σ M fun d M1 => g d σ M1 D.nx
section
variable {X : Cx} {tg e : Expr} {te : DT} {g : DTG} {pos : Pos}
theorem asg2 {E : Ends} {σ' : L2.St} {H : Hp} (h : upS X.gk (dAsg te g) E σ' H) : tAsg (up X.gk te) (upG X.gk g) E σ' H := by
  obtain ⟨σ, M, D, S, m, q, gg⟩ := h
  exact ⟨σ, M, _, S, m, q, fun v H1 d M1 k1 m1 r1 q1 => ⟨d, σ, M1, _, r1, S.kp k1, m1, q1, gg.nx.of k1⟩⟩
theorem ds_asg (he : DE X e te) (hg : DG X tg g) (hs : swapsWithSole [tg] e pos.line X.env = pure false := by rfl) (hw : swappedStores [tg] e X.env = pure none := by rfl)
    (h1 : (assignEach [tg] X.env).map (·.2) = [assign tg X.env] := by rfl) : DStm X (.Assign [tg] e pos) (dAsg te g) := (ps_asg he hg hs hw h1).imp fun _ _ _ h => asg2 h
theorem ds_set {i : Nat} {x : Str} {pos' : Pos} (hN : X.N.Nodup) (hi : X.N[i]? = some x) (hx : Loc X.env.scope x) (he : DE X e te) (hs : swapsWith e (some (.Name x pos')) pos.line X.env = pure false := by rfl)
    (hf : X.fn x = true ∨ X.env.scope.names.lookup x = some .local := by first | exact .inl rfl | exact .inr rfl | assumption) : DStm X (.Assign [.Name x pos'] e pos) (dAsg te (dName i)) :=
  (ps_set hN hi hx he hs hf).imp fun E σ' H ⟨σ, M, D, S, m, q, gg⟩ => ⟨σ, M, _, S, m, q, fun v H1 d M1 k1 m1 r1 q1 => gg.nx _ _ _ _ k1 m1 ((S.kp k1).set i r1) q1⟩
/-- a, b = x, y with plain local names -/
def dPar (i j : Nat) (ta : DTA) : DTS := fun D σ M => ta σ M fun ds M1 => match ds with
  | [d, e] => D.nx ((σ.set i (some d)).set j (some e)) M1
  | _ => False
theorem ds_par {i j : Nat} {x y : Str} {a b : Expr} {ta : DTA} {px py pt : Pos} {kt k2 pt2} (hc : X.calm = true) (hN : X.N.Nodup) (hi : X.N[i]? = some x) (hj : X.N[j]? = some y) (hij : i ≠ j)
    (hx : X.env.scope.names.lookup x = some .local) (hy : X.env.scope.names.lookup y = some .local) (ha : DA X [a, b] ta)
    (hw : swappedStores [.Tuple [.Name x px, .Name y py] kt pt] (.Tuple [a, b] k2 pt2) X.env = pure (some [x, y]))
    (hs : swapsWithSole [.Tuple [.Name x px, .Name y py] kt pt] (.Tuple [a, b] k2 pt2) pos.line X.env = pure false := by rfl) :
    DStm X (.Assign [.Tuple [.Name x px, .Name y py] kt pt] (.Tuple [a, b] k2 pt2) pos) (dPar i j ta) :=
  (ps_par hc hN hi hj hij hx hy ha hw hs).imp fun E σ' H ⟨σ, M, D, S, m, q, gg⟩ => ⟨σ, M, _, S, m, q, fun vs H1 ds M1 k1 m1 r1 q1 => by
    split at q1
    · obtain ⟨v, w, rfl, r2, r3⟩ := r1.two
      exact ⟨v, w, rfl, gg.nx _ _ _ _ k1 m1 (((S.kp k1).set i r2).set j r3) q1⟩
    · exact q1.elim⟩
/-- name += e and the like, of two ints -/
def dAug (i : Nat) (te : DT) (r : DR2) : DTS := fun D σ M => match σ[i]? with
  | some (some d) => te σ M fun e M1 => r d e M1 fun z M2 => D.nx (σ.set i (some z)) M2
  | _ => False
theorem ds_aug {i : Nat} {x : Str} {op : Operator} {r : DR2} {pos' : Pos} (hN : X.N.Nodup) (hi : X.N[i]? = some x) (hx : Loc X.env.scope x) (he : DE X e te) (ho : PIp X op (upR X.gk r))
    (hf : X.fn x = true ∨ X.env.scope.names.lookup x = some .local := by first | exact .inl rfl | exact .inr rfl | assumption) : DStm X (.AugAssign (.Name x pos') op e pos) (dAug i te r) :=
  (ps_aug hN hi hx he ho hf).imp fun E σ' H ⟨σ, M, D, S, m, q, gg⟩ => by
    unfold dAug at q
    split at q
    · rename_i d e
      obtain ⟨v, h1, h2⟩ := S.2 i d e
      exact ⟨v, h1, σ, M, _, S, m, q, fun w H1 f M1 k1 m1 r1 q1 => ⟨d, f, M1, _, h2.kp k1, r1, m1, q1, fun z H2 f2 M2 k2 m2 r2 q2 => gg.nx _ _ _ _ (k1.trans k2) m2 (((S.kp k1).kp k2).set i r2) q2⟩⟩
    · exact q.elim
theorem a_ii {op : Operator} {fv : Int → Int → Int} (h0 : PIp X op (ipI fv)) : PIp X op (upR X.gk (rI2 fun i j => .int (fv i j))) := by
  intro pins s σ' H x y v u R I rx ry h
  obtain ⟨d1, d2, M, Q, h1, h2, m, q, g⟩ := h
  unfold rI2 at q
  split at q
  · obtain rfl := h1.eq_int
    obtain rfl := h2.eq_int
    exact h0 pins s σ' H _ _ v u R I rx ry ⟨_, _, rfl, rfl, g _ _ _ _ .refl m (.int _) q⟩
  · exact q.elim
theorem a_add : PIp X .Add (upR X.gk (rI2 fun i j => .int (i + j))) := a_ii ip_add
theorem a_sub : PIp X .Sub (upR X.gk (rI2 fun i j => .int (i - j))) := a_ii ip_sub
end

/-! ### what a loop walks: its items; ok: what must stand still meanwhile -/
structure DIt where
  items : List D
  ok : DM → Prop
abbrev DI := DS → DM → (DIt → DM → Prop) → Prop
/-- J walks as DJ says, from (H0, M0) on -/
structure Sim (K : Gk) (J : It) (DJ : DIt) (H0 : Hp) (M0 : DM) : Prop where
  stop : ∀ H M, Kp H0 M0 H M → MOk K H M → DJ.ok M → J.stop DJ.items.length H
  go : ∀ i d H M, Kp H0 M0 H M → MOk K H M → DJ.ok M → DJ.items[i]? = some d → J.go i H ∧ ∀ x H', J.yld i H x H' → Kp H M H' M ∧ MOk K H' M ∧ RD K H' M d x
theorem Sim.of {K : Gk} {J : It} {DJ : DIt} {H0 H1 : Hp} {M0 M1 : DM} (h : Sim K J DJ H0 M0) (k : Kp H0 M0 H1 M1) : Sim K J DJ H1 M1 :=
  ⟨fun H M k' => h.stop H M (k.trans k'), fun i d H M k' => h.go i d H M (k.trans k')⟩
def upI (K : Gk) (wi : DI) : TI := fun σ' H R => ∃ σ M Q, Slots K H M σ' σ ∧ MOk K H M ∧ wi σ M Q ∧ ∀ J H1 DJ M1, Kp H M H1 M1 → MOk K H1 M1 → Sim K J DJ H1 M1 → Q DJ M1 → R J H1
abbrev DIr (X : Cx) (tg e : Expr) (wi : DI) : Prop := PI X tg e (upI X.gk wi)
/-- over a tuple, a list -/
def iSeq (te : DT) : DI := fun σ M Q => te σ M fun d M1 => match d with
  | .tup xs => Q ⟨xs, fun _ => True⟩ M1
  | .lst xs => Q ⟨xs, fun _ => True⟩ M1
  | .ref p => ∃ xs, M1 p = some (.lst xs) ∧ Q ⟨xs, fun M => M p = some (.lst xs)⟩ M1
  | _ => False
theorem _root_.L2.Inv.sq {X : Cx} {pins : List (Addr × Obj)} {σ : L2.St} {H : Hp} {s : Shared} (I : Inv X pins σ H s) : True := trivial
/-- a list or a tuple, whichever it is -/
theorem pi_any {X : Cx} {tg l : Expr} {tl : TE} (hl : PE X l tl) : PI X tg l (fun σ H R => tl σ H fun x H1 => ∃ a, x = .ref a ∧ (((∃ xs, SqL X.K H1 a xs) ∧ R (Itl X.K a) H1) ∨ ((∃ xs, SqT X.K H1 a xs) ∧ R (Itt X.K a) H1))) := by
  refine ⟨fun pins s σ H R I h => ?_⟩
  refine thn (hl.run pins s σ H _ I h) fun v s1 ⟨x, H1, I1, r1, q1⟩ => ?_
  obtain ⟨a, e, ⟨⟨xs, hq⟩, q⟩ | ⟨⟨xs, hq⟩, q⟩⟩ := q1
  · subst e
    cases r1
    obtain ⟨its, rv, p, hz⟩ := I1.list hq
    refine wpAny_pyIter_list p.isList ?_
    refine ⟨s1.heap.objs.size, [s1.heap.objs.size], _, _, H1, rfl, I1.kept (t' := s1.toks) fun b o e => Heap.get?_push_of_some _ e, turn_list a _, ⟨_, Heap.get?_push_size _ rfl, rfl, rfl⟩, fun b hb => ?_, q⟩
    have e : b = s1.heap.objs.size := by simpa using hb
    subst e
    exact I1.fpOk (Nat.le_refl _) (I1.hok.fresh (Nat.le_refl _))
  · subst e
    cases r1
    obtain ⟨its, rv, p, hz⟩ := I1.tuple hq
    refine wpAny_pyIter_tuple (show s1.heap.IsTuple a its.toArray from p) ?_
    refine ⟨s1.heap.objs.size, [s1.heap.objs.size], _, _, H1, rfl, I1.kept (t' := s1.toks) fun b o e => Heap.get?_push_of_some _ e, turn_tuple a _, ⟨_, Heap.get?_push_size _ rfl, rfl, rfl⟩, fun b hb => ?_, q⟩
    have e : b = s1.heap.objs.size := by simpa using hb
    subst e
    exact I1.fpOk (Nat.le_refl _) (I1.hok.fresh (Nat.le_refl _))
section
variable {K : Gk} {H : Hp} {M : DM}
theorem yldT {a : Addr} {vs : List V} {xs : List D} {i : Nat} {d : D} (c : SqT K.K H a vs) (m : MOk K H M) (r : RDs K H M xs vs) (e : xs[i]? = some d) :
    (Itt K.K a).go i H ∧ ∀ x H', (Itt K.K a).yld i H x H' → Kp H M H' M ∧ MOk K H' M ∧ RD K H' M d x := by
  obtain ⟨v, hv, rv⟩ := r.get e
  refine ⟨⟨vs, v, c, hv⟩, fun x H' y => ?_⟩
  obtain ⟨rfl, y⟩ := y
  have e2 := (y vs c).symm.trans hv
  cases e2
  exact ⟨.refl, m, rv⟩
theorem yldL {a : Addr} {vs : List V} {xs : List D} {i : Nat} {d : D} (c : SqL K.K H a vs) (m : MOk K H M) (r : RDs K H M xs vs) (e : xs[i]? = some d) :
    (Itl K.K a).go i H ∧ ∀ x H', (Itl K.K a).yld i H x H' → Kp H M H' M ∧ MOk K H' M ∧ RD K H' M d x := by
  obtain ⟨v, hv, rv⟩ := r.get e
  refine ⟨⟨vs, v, c, hv⟩, fun x H' y => ?_⟩
  obtain ⟨rfl, y⟩ := y
  have e2 := (y vs c).symm.trans hv
  cases e2
  exact ⟨.refl, m, rv⟩
theorem SqT.kp {a : Addr} {vs : List V} {H' : Hp} {M' : DM} (c : (Rd H a (.tup vs) ∧ M a = none) ∨ KT K.K a vs) (k : Kp H M H' M') : SqT K.K H' a vs := by
  rcases c with ⟨c, n⟩ | c
  · exact .inl (Rd.kp k c n).1
  · exact .inr c
end
theorem di_seq {X : Cx} {tg e : Expr} {te : DT} (he : DE X e te) : DIr X tg e (iSeq te) :=
  (pi_any he).imp fun σ' H R ⟨σ, M, Q, S, m, q, g⟩ => ⟨σ, M, _, S, m, q, fun v H1 d M1 k1 m1 r1 q1 => by
    split at q1
    · rename_i xs
      rw [RD] at r1
      obtain ⟨a, vs, rfl, c, r⟩ := r1
      refine ⟨a, rfl, .inr ⟨⟨vs, sqT_of c⟩, g _ _ _ _ k1 m1 ⟨fun H2 M2 k2 m2 _ => ⟨vs, SqT.kp c k2, by rw [r.len]; exact Nat.le_refl _⟩, fun i d H2 M2 k2 m2 _ e => yldT (SqT.kp c k2) m2 (r.kp k2) e⟩ q1⟩⟩
    · rename_i xs
      rw [RD] at r1
      obtain ⟨a, vs, rfl, c, n, r⟩ := r1
      refine ⟨a, rfl, .inl ⟨⟨vs, .of c⟩, g _ _ _ _ k1 m1 ⟨fun H2 M2 k2 m2 _ => ⟨vs, .of (k2 _ _ c n).1, by rw [r.len]; exact Nat.le_refl _⟩, fun i d H2 M2 k2 m2 _ e => yldL (.of (k2 _ _ c n).1) m2 (r.kp k2) e⟩ q1⟩⟩
    · obtain ⟨xs, hp, q1⟩ := q1
      obtain rfl := r1.eq_ref
      obtain ⟨vs, c, r⟩ := m1.lstAt hp
      refine ⟨_, rfl, .inl ⟨⟨vs, .of c⟩, g _ _ _ _ k1 m1 ⟨fun H2 M2 k2 m2 ok => ?_, fun i d H2 M2 k2 m2 ok e => ?_⟩ q1⟩⟩
      · obtain ⟨vs2, c2, r2⟩ := m2.lstAt ok
        exact ⟨vs2, .of c2, by rw [r2.len]; exact Nat.le_refl _⟩
      · obtain ⟨vs2, c2, r2⟩ := m2.lstAt ok
        exact yldL (.of c2) m2 r2 e
    · exact q1.elim⟩
/-- range(n), range(a, b) -/
def iRange (ta : DTA) : DI := fun σ M Q => ta σ M fun ds M1 => match ds with
  | [.int j] => -(2 ^ 62) ≤ j ∧ j < 2 ^ 62 ∧ Q ⟨(List.range j.toNat).map fun (i : Nat) => .int i, fun _ => True⟩ M1
  | _ => False
def iRange2 (ta : DTA) : DI := fun σ M Q => ta σ M fun ds M1 => match ds with
  | [.int i, .int j] => (-(2 ^ 62) ≤ i ∧ i < 2 ^ 62 ∧ -(2 ^ 62) ≤ j ∧ j < 2 ^ 62) ∧ Q ⟨(List.range (j - i).toNat).map fun (k : Nat) => .int (i + k), fun _ => True⟩ M1
  | _ => False
theorem simRange {K : Gk} {H : Hp} {M : DM} {lo : Int} {n : Nat} : Sim K (Itr lo n) ⟨(List.range n).map fun (k : Nat) => .int (lo + k), fun _ => True⟩ H M :=
  ⟨fun H M _ _ _ => by show n ≤ _; simp, fun i d H M _ m _ e => by
    rw [List.getElem?_map] at e
    cases q : (List.range n)[i]? with
    | none => rw [q] at e; cases e
    | some j =>
      rw [q] at e
      obtain ⟨h1, h2⟩ := List.getElem?_eq_some_iff.mp q
      simp at h1 h2
      subst h2
      cases e
      refine ⟨h1, fun x H' y => ?_⟩
      obtain ⟨rfl, rfl⟩ := y
      exact ⟨.refl, m, .int _⟩⟩
theorem simRange0 {K : Gk} {H : Hp} {M : DM} {n : Nat} : Sim K (Itr 0 n) ⟨(List.range n).map fun (k : Nat) => .int k, fun _ => True⟩ H M := by
  have h := simRange (K := K) (H := H) (M := M) (lo := 0) (n := n)
  simpa using h
theorem di_range {X : Cx} {tg a : Expr} {ta : DTA} {p pos : Pos} (hg : Gl X "range") (hm : X.mg "range" = none) (ha : DA X [a] ta) (hs : starEach [a] X.env = [(false, eval a X.env)] := by rfl) : DIr X tg (.Call (.Name "range" p) [a] [] pos) (iRange ta) :=
  (pi_range1 hg hm ha hs).imp fun σ' H R ⟨σ, M, Q, S, m, q, g⟩ => ⟨σ, M, _, S, m, q, fun vs H1 ds M1 k1 m1 r1 q1 => by
    split at q1
    · obtain ⟨v, rfl, r⟩ := r1.one
      obtain rfl := r.eq_int
      exact ⟨_, rfl, q1.1, q1.2.1, g _ _ _ _ k1 m1 simRange0 q1.2.2⟩
    · exact q1.elim⟩
theorem di_range2 {X : Cx} {tg a b : Expr} {ta : DTA} {p pos : Pos} (hg : Gl X "range") (hm : X.mg "range" = none) (ha : DA X [a, b] ta) (hs : starEach [a, b] X.env = [(false, eval a X.env), (false, eval b X.env)] := by rfl) (hs2 : starEach [b] X.env = [(false, eval b X.env)] := by rfl) :
    DIr X tg (.Call (.Name "range" p) [a, b] [] pos) (iRange2 ta) :=
  (pi_range2 hg hm ha hs hs2).imp fun σ' H R ⟨σ, M, Q, S, m, q, g⟩ => ⟨σ, M, _, S, m, q, fun vs H1 ds M1 k1 m1 r1 q1 => by
    split at q1
    · obtain ⟨v, w, rfl, r, r'⟩ := r1.two
      obtain rfl := r.eq_int
      obtain rfl := r'.eq_int
      exact ⟨_, _, rfl, q1.1, g _ _ _ _ k1 m1 simRange q1.2⟩
    · exact q1.elim⟩

/-! ### for -/
def dFor (wi : DI) (g : DTG) (tb : DTS) : DTS := fun D σ M => wi σ M fun J M1 => ∃ I : Nat → DS → DM → Prop, I 0 σ M1 ∧ (∀ i σ M, i ≤ J.items.length → I i σ M → J.ok M) ∧
  (∀ i d σ M, J.items[i]? = some d → I i σ M → g d σ M fun σ2 M2 => tb { D with nx := I (i + 1), ct := I (i + 1), bk := D.nx } σ2 M2) ∧ ∀ σ M, I J.items.length σ M → D.nx σ M
theorem ds_for {X : Cx} {tg iter : Expr} {body : List Stmt} {wi : DI} {g : DTG} {tb : DTS} {pos : Pos} (hp : PassesOwn (model X.prog X.w) X.A X.env X.xe) (hc : X.calm = true) (hi : DIr X tg iter wi) (hg : DG X tg g) (hb : DStms X body tb)
    (hs : ∀ x, foldedSetIterable iter X.env x = pure x := by intro _; rfl) : DStm X (.For tg iter body [] pos) (dFor wi g tb) :=
  (ps_for hp hc hi hg hb hs).imp fun E σ' H ⟨σ, M, D, S, m, q, gg⟩ => ⟨σ, M, _, S, m, q, fun J H1 DJ M1 k1 m1 sim ⟨I, h0, hok, hst, hd⟩ => by
    refine ⟨fun i n σ2' H2 => n = DJ.items.length - i ∧ i ≤ DJ.items.length ∧ ∃ σ2 M2, Kp H1 M1 H2 M2 ∧ MOk X.gk H2 M2 ∧ Slots X.gk H2 M2 σ2' σ2 ∧ I i σ2 M2, ⟨_, rfl, Nat.zero_le _, σ, M1, .refl, m1, S.kp k1, h0⟩, ?_⟩
    rintro i n σ2' H2 ⟨rfl, hi, σ2, M2, k2, m2, S2, h2⟩
    have ok := hok i σ2 M2 hi h2
    by_cases hlt : i < DJ.items.length
    · refine .inr ?_
      obtain ⟨go, yl⟩ := sim.go i DJ.items[i] H2 M2 k2 m2 ok (List.getElem?_eq_getElem hlt)
      refine ⟨go, fun σ3' H3 => ∃ σ3 M3, Kp H1 M1 H3 M3 ∧ MOk X.gk H3 M3 ∧ Slots X.gk H3 M3 σ3' σ3 ∧ I (i + 1) σ3 M3, fun σ3' H3 h3 => ⟨DJ.items.length - (i + 1), by omega, rfl, hlt, h3⟩, fun x H3 y3 => ?_⟩
      obtain ⟨k3, m3, r3⟩ := yl x H3 y3
      have nxt : ∀ {H4 : Hp} {M4 : DM}, Kp H3 M2 H4 M4 → GetS X.gk H4 M4 (I (i + 1)) (fun σ3' H3 => ∃ σ3 M3, Kp H1 M1 H3 M3 ∧ MOk X.gk H3 M3 ∧ Slots X.gk H3 M3 σ3' σ3 ∧ I (i + 1) σ3 M3) := fun {H4 M4} k4 σ6' H6 σ6 M6 k6 m6 S6 h6 =>
        ⟨σ6, M6, k2.trans (k3.trans (k4.trans k6)), m6, S6, h6⟩
      refine ⟨_, σ2, M2, _, r3, S2.kp k3, m3, hst i _ σ2 M2 (List.getElem?_eq_getElem hlt) h2, fun σ5' H5 σ5 M5 k5 m5 S5 q5 => ⟨σ5, M5, _, S5, m5, q5, ⟨nxt k5, gg.rt.of (k1.trans (k2.trans (k3.trans k5))), gg.nx.of (k1.trans (k2.trans (k3.trans k5))), nxt k5⟩⟩⟩
    · have e : i = DJ.items.length := by omega
      subst e
      exact .inl ⟨sim.stop H2 M2 k2 m2 ok, gg.nx _ _ _ _ (k1.trans k2) m2 S2 (hd _ _ h2)⟩⟩

/-! ### while -/
def dWhile (c : DTT) (tb : DTS) : DTS := fun D σ M => ∃ I : Nat → DS → DM → Prop, (∃ n, I n σ M) ∧ ∀ n σ M, I n σ M →
  c σ M fun b M1 => (b = true → ∃ N : DS → DM → Prop, (∀ σ M, N σ M → ∃ k, k < n ∧ I k σ M) ∧ tb { D with nx := N, ct := N, bk := D.nx } σ M1) ∧ (b = false → D.nx σ M1)
theorem ds_while {X : Cx} {c : Expr} {body : List Stmt} {tc : DTT} {tb : DTS} {pos : Pos} (hp : PassesOwn (model X.prog X.w) X.A X.env X.xe) (hc : DB X c tc) (hb : DStms X body tb) : DStm X (.While c body [] pos) (dWhile tc tb) :=
  (ps_while hp hc hb).imp fun E σ' H ⟨σ, M, D, S, m, ⟨I, ⟨n0, h0⟩, turn⟩, gg⟩ => by
    refine ⟨fun n σ2' H2 => ∃ σ2 M2, Kp H M H2 M2 ∧ MOk X.gk H2 M2 ∧ Slots X.gk H2 M2 σ2' σ2 ∧ I n σ2 M2, ⟨n0, σ, M, .refl, m, S, h0⟩, ?_⟩
    rintro n σ2' H2 ⟨σ2, M2, k2, m2, S2, h2⟩
    refine ⟨σ2, M2, _, S2, m2, turn n σ2 M2 h2, fun b H3 M3 k3 m3 q3 => ?_⟩
    cases b with
    | true =>
      obtain ⟨N, hN, q⟩ := q3.1 rfl
      have nxt : GetS X.gk H3 M3 N (fun σ4' H4 => ∃ σ4 M4, Kp H M H4 M4 ∧ MOk X.gk H4 M4 ∧ Slots X.gk H4 M4 σ4' σ4 ∧ N σ4 M4) := fun σ4' H4 σ4 M4 k4 m4 S4 q4 => ⟨σ4, M4, k2.trans (k3.trans k4), m4, S4, q4⟩
      refine iteT ⟨_, fun σ4' H4 ⟨σ4, M4, k4, m4, S4, q4⟩ => ?_, σ2, M3, _, S2.kp k3, m3, q, ⟨nxt, gg.rt.of (k2.trans k3), gg.nx.of (k2.trans k3), nxt⟩⟩
      obtain ⟨k, hk, h⟩ := hN σ4 M4 q4
      exact ⟨k, hk, σ4, M4, k4, m4, S4, h⟩
    | false => exact iteF (gg.nx _ _ _ _ (k2.trans k3) m3 (S2.kp k3) (q3.2 rfl))

end DL

namespace DL
open PySem PySem.Spec PyProof.Rows L2
/-! ### an object that changes no more: settled -/
def em (M : DM) (a : Addr) : DM := fun b => if b = a then none else M b
theorem em_same {M : DM} {a : Addr} : em M a a = none := by unfold em; rw [if_pos rfl]
theorem em_ne {M : DM} {a b : Addr} (h : b ≠ a) : em M a b = M b := by unfold em; rw [if_neg h]
theorem em_um {M : DM} {a : Addr} {o : MO} (h : M a = none) : em (um M a o) a = M := by
  funext b; unfold em um; split
  · rename_i e; rw [e, h]
  · rfl
theorem em_um' {M : DM} {a : Addr} {o : MO} : em (um M a o) a = em M a := by
  funext b; unfold em um; split <;> rfl
/-- less is tracked -/
def Les (M' M : DM) : Prop := ∀ a o, M' a = some o → M a = some o
theorem Les.refl {M : DM} : Les M M := fun _ _ h => h
theorem Les.trans {M M1 M2 : DM} (a : Les M M1) (b : Les M1 M2) : Les M M2 := fun c o h => b c o (a c o h)
theorem Les.none {M' M : DM} (l : Les M' M) {a : Addr} (h : M a = .none) : M' a = .none := by
  cases e : M' a with
  | none => rfl
  | some o => rw [l a o e] at h; cases h
theorem Les.em {M : DM} {a : Addr} : Les (em M a) M := fun b o h => by
  unfold DL.em at h; split at h
  · cases h
  · exact h
theorem Les.um {M : DM} {a : Addr} {o : MO} (h : M a = .none) : Les M (um M a o) := fun b u e => by rw [um_ne (mne e h)]; exact e
section
variable {K : Gk} {H : Hp} {M M' : DM}
mutual
theorem RD.les (l : ∀ a, M a = none → M' a = none) : ∀ (d : D) (v : V), RD K H M d v → RD K H M' d v
  | .non, _, h => by simpa [RD] using h
  | .bl _, _, h => by simpa [RD] using h
  | .int _, _, h => by simpa [RD] using h
  | .str _, _, h => by simpa [RD] using h
  | .ref _, _, h => by simpa [RD] using h
  | .ty _, _, h => by simpa [RD] using h
  | .tup xs, v, h => by
    rw [RD] at h ⊢
    obtain ⟨a, vs, e, c, r⟩ := h
    refine ⟨a, vs, e, ?_, RDs.les l xs vs r⟩
    rcases c with ⟨c, n⟩ | c
    · exact .inl ⟨c, l a n⟩
    · exact .inr c
  | .lst xs, v, h => by
    rw [RD] at h ⊢
    obtain ⟨a, vs, e, c, n, r⟩ := h
    exact ⟨a, vs, e, c, l a n, RDs.les l xs vs r⟩
  | .fz xs, v, h => by
    rw [RD] at h ⊢
    obtain ⟨a, vs, e, c, r⟩ := h
    refine ⟨a, vs, e, ?_, RDs.les l xs vs r⟩
    rcases c with ⟨c, n⟩ | c
    · exact .inl ⟨c, l a n⟩
    · exact .inr c
theorem RDs.les (l : ∀ a, M a = none → M' a = none) : ∀ (ds : List D) (vs : List V), RDs K H M ds vs → RDs K H M' ds vs
  | [], _, h => by simpa [RDs] using h
  | d :: ds, vs, h => by
    rw [RDs] at h ⊢
    obtain ⟨v, r, e, h1, h2⟩ := h
    exact ⟨v, r, e, RD.les l d v h1, RDs.les l ds r h2⟩
end
theorem ROk.les (l : ∀ a, M a = none → M' a = none) {a : Addr} {mo : MO} (h : ROk K H M a mo) : ROk K H M' a mo := by
  cases mo with
  | lst xs => obtain ⟨vs, h1, h2⟩ := h; exact ⟨vs, h1, h2.les l⟩
  | dK xs => obtain ⟨vs, h1, h2⟩ := h; exact ⟨vs, h1, h2.les l⟩
  | dN xs => obtain ⟨vs, h1, h2⟩ := h; exact ⟨vs, h1, Paired.mapP h2 fun _ _ ⟨p, q, r, t⟩ => ⟨p, q, RD.les l _ _ r, RD.les l _ _ t⟩⟩
  | fN od ys xs => exact ⟨h.1, Paired.mapP h.2 fun _ _ ⟨p, q, r, t⟩ => ⟨p, q, RD.les l _ _ r, RD.les l _ _ t⟩⟩
  | ins C dx ns xs => obtain ⟨vs, h1, hl, h2⟩ := h; exact ⟨vs, h1, hl, h2.les l⟩
theorem MOk.les (m : MOk K H M) (l : Les M' M) : MOk K H M' := fun a mo e => (m a mo (l a mo e)).les fun b => l.none
theorem Kp.les {H1 : Hp} {M1 : DM} (k : Kp H M H1 M1) {M2 : DM} (l : Les M2 M1) : Kp H M H1 M2 := fun a o h n => ⟨(k a o h n).1, l.none (k a o h n).2⟩
/-- a tracked list is settled -/
theorem RD.settle {p : Addr} {xs : List D} (m : MOk K H M) (h : M p = some (.lst xs)) : RD K H (em M p) (.lst xs) (.ref p) := by
  obtain ⟨vs, c, r⟩ := m.lstAt h
  rw [RD]
  exact ⟨p, vs, rfl, c, em_same, r.les fun a => Les.em.none⟩
end

/-! ### list comprehensions -/
def dWipe (σ : DS) : List Nat → DS
  | [] => σ
  | i :: r => (dWipe σ r).set i none
/-- [elt for target in iter if ..]: the new list at A grows -/
def dLcAny (wi : DI) (g : DTG) (tt : DTT) (te : DT) (vs : List Nat) (σ : DS) (M : DM) (Q : Addr → List D → DM → Prop) : Prop := wi σ M fun J M1 => ∀ A, M1 A = none → ∃ I : Nat → List D → DM → Prop, I 0 [] (um M1 A (.lst [])) ∧
  (∀ i acc M, i ≤ J.items.length → I i acc M → J.ok M ∧ M A = some (.lst acc)) ∧
  (∀ i d acc M, J.items[i]? = some d → I i acc M → g d (dWipe σ vs) M fun σ2 M2 => tt σ2 M2 fun b M3 =>
    (b = true → te σ2 M3 fun y M4 => acc.length < sizeLine ∧ M4 A = some (.lst acc) ∧ I (i + 1) (acc ++ [y]) (um M4 A (.lst (acc ++ [y])))) ∧ (b = false → I (i + 1) acc M3)) ∧ ∀ acc M, I J.items.length acc M → Q A acc M
/-- settled -/
def dLc (wi : DI) (g : DTG) (tt : DTT) (te : DT) (vs : List Nat) : DT := fun σ M Q => dLcAny wi g tt te vs σ M fun A acc M1 => Q (.lst acc) (em M1 A)
/-- to be changed -/
def dLcM (wi : DI) (g : DTG) (tt : DTT) (te : DT) (vs : List Nat) : DT := fun σ M Q => dLcAny wi g tt te vs σ M fun A _ M1 => Q (.ref A) M1
abbrev DTs (X : Cx) (ifs : List Expr) (t : DTT) : Prop := PTs X ifs (upB X.gk t)
def dYes : DTT := fun _ M Q => Q true M
theorem _root_.L2.PTs.imp {X : Cx} {e : List Expr} {t u : TT} (h : PTs X e t) (q : ∀ σ H Q, u σ H Q → t σ H Q) : PTs X e u := ⟨fun pins s σ H Q I hu => h.run pins s σ H Q I (q σ H Q hu)⟩
theorem dts_nil {X : Cx} : DTs X [] dYes := pts_nil.imp fun σ' H R ⟨σ, M, Q, S, m, q, g⟩ => g _ _ _ .refl m q
theorem dts_one {X : Cx} {c : Expr} {t : DTT} (h : DB X c t) : DTs X [c] t := pts_one h
theorem wipe_set : ∀ (vs : List Nat) (σ : L2.St) (i : Nat) (v : Option V), i ∈ vs → wipe (σ.set i v) vs = wipe σ vs
  | j :: r, σ, i, v, h => by
    unfold wipe
    by_cases hr : i ∈ r
    · rw [wipe_set r σ i v hr]
    · rcases List.mem_cons.mp h with e | h
      · subst e
        have e : ∀ (r : List Nat) (σ : L2.St), i ∉ r → wipe (σ.set i v) r = (wipe σ r).set i v := by
          intro r
          induction r with
          | nil => intro σ _; rfl
          | cons k r ih =>
            intro σ hk
            rw [List.mem_cons, not_or] at hk
            unfold wipe
            rw [ih σ hk.2, List.set_comm _ _ (hk.1)]
        rw [e r σ hr, List.set_set]
      · exact absurd h hr
theorem wipe_get : ∀ (vs : List Nat) (σ : L2.St) (i : Nat), i ∉ vs → (wipe σ vs)[i]? = σ[i]?
  | [], _, _, _ => rfl
  | j :: r, σ, i, h => by
    rw [List.mem_cons, not_or] at h
    unfold wipe
    rw [List.getElem?_set_ne (Ne.symm h.1), wipe_get r σ i h.2]
theorem dWipe_len : ∀ (vs : List Nat) (σ : DS), (dWipe σ vs).length = σ.length
  | [], _ => rfl
  | i :: r, σ => by simp [dWipe, dWipe_len r σ]
theorem dWipe_in : ∀ (vs : List Nat) (σ : DS) (i : Nat) (d : D), (dWipe σ vs)[i]? = some (some d) → i ∉ vs ∧ σ[i]? = some (some d)
  | [], _, _, _, h => ⟨by simp, h⟩
  | j :: r, σ, i, d, h => by
    by_cases e : j = i
    · subst e
      unfold dWipe at h
      rw [List.getElem?_set] at h
      split at h
      · split at h <;> cases h
      · contradiction
    · unfold dWipe at h
      rw [List.getElem?_set_ne e] at h
      obtain ⟨h1, h2⟩ := dWipe_in r σ i d h
      exact ⟨by rw [List.mem_cons, not_or]; exact ⟨Ne.symm e, h1⟩, h2⟩
theorem Slots.wipe {K : Gk} {H : Hp} {M : DM} {σ' : L2.St} {σ : DS} (S : Slots K H M σ' σ) (vs : List Nat) : Slots K H M (L2.wipe σ' vs) (dWipe σ vs) :=
  ⟨by rw [wipe_length, dWipe_len, S.1], fun i d e => by
    obtain ⟨h1, h2⟩ := dWipe_in vs σ i d e
    rw [wipe_get vs σ' i h1]
    exact S.2 i d h2⟩
theorem wipe_sub : ∀ (ws vs : List Nat) (σ : L2.St), (∀ i ∈ ws, i ∈ vs) → wipe (wipe σ ws) vs = wipe σ vs
  | [], _, _, _ => rfl
  | w :: ws, vs, σ, h => by
    show wipe ((wipe σ ws).set w none) vs = _
    rw [wipe_set vs _ w _ (h w List.mem_cons_self), wipe_sub ws vs σ fun i hi => h i (List.mem_cons_of_mem _ hi)]
/-- a target that stores to names of vs alone -/
structure TgO (K : Gk) (vs : List Nat) (t : TG) (g : DTG) : Prop where
  own : ∀ v σ H Q Q', (∀ σ2 H2, wipe σ2 vs = wipe σ vs → Q σ2 H2 → Q' σ2 H2) → t v σ H Q → t v σ H Q'
  imp : ∀ v σ' H R, upG K g v σ' H R → t v σ' H R
structure TgsO (K : Gk) (vs : List Nat) (t : TGs) (g : DTGs) : Prop where
  own : ∀ v σ H Q Q', (∀ σ2 H2, wipe σ2 vs = wipe σ vs → Q σ2 H2 → Q' σ2 H2) → t v σ H Q → t v σ H Q'
  imp : ∀ v σ' H R, upGs K g v σ' H R → t v σ' H R
section
variable {K : Gk} {vs : List Nat} {t : TG} {g : DTG} {ts : TGs} {gs : DTGs}
theorem tgo_name (i : Nat) (h : i ∈ vs := by decide) : TgO K vs (gName i) (dName i) :=
  ⟨fun v σ H Q Q' k q => k _ _ (wipe_set vs σ i _ h) q, fun v σ' H R ⟨d, σ, M, Q, r, S, m, q, gg⟩ => gg _ _ _ _ .refl m (S.set i r) q⟩
theorem tgo_nil : TgsO K vs gNil dgNil :=
  ⟨fun v σ H Q Q' k q => ⟨q.1, k _ _ rfl q.2⟩, fun v σ' H R ⟨ds, σ, M, Q, r, S, m, q, gg⟩ => by
    obtain ⟨rfl, q⟩ := q
    exact ⟨r.none, gg _ _ _ _ .refl m S q⟩⟩
theorem tgo_cons (a : TgO K vs t g) (b : TgsO K vs ts gs) : TgsO K vs (gCons t ts) (dgCons g gs) :=
  ⟨fun ws σ H Q Q' k ⟨v, r, e, q⟩ => ⟨v, r, e, a.own _ _ _ _ _ (fun σ1 H1 w1 q1 => b.own _ _ _ _ _ (fun σ2 H2 w2 q2 => k _ _ (w2.trans w1) q2) q1) q⟩,
   fun ws σ' H R ⟨ds, σ, M, Q, r, S, m, q, gg⟩ => by
    cases ds with
    | nil => exact q.elim
    | cons d ds =>
      rw [RDs] at r
      obtain ⟨w, ws, rfl, r1, r2⟩ := r
      refine ⟨w, ws, rfl, a.imp _ _ _ _ ⟨d, σ, M, _, r1, S, m, q, fun σ1' H1 σ1 M1 k1 m1 S1 q1 => b.imp _ _ _ _ ⟨ds, σ1, M1, Q, r2.kp k1, S1, m1, q1, gg.of k1⟩⟩⟩⟩
theorem tgo_tup {n : Nat} (b : TgsO K vs ts gs) : TgO K vs (gTup K.K n ts) (dgTup n gs) :=
  ⟨fun v σ H Q Q' k ⟨a, xs, e, c, l, q⟩ => ⟨a, xs, e, c, l, b.own _ _ _ _ _ k q⟩, fun v σ' H R ⟨d, σ, M, Q, r, S, m, q, gg⟩ => by
    unfold dgTup at q
    split at q
    · obtain ⟨a, ws, rfl, c, rs⟩ := r.tupAt
      exact ⟨a, ws, rfl, c, by rw [rs.len]; exact q.1, b.imp _ _ _ _ ⟨_, σ, M, Q, rs, S, m, q.2, gg⟩⟩
    · exact q.elim⟩
end
theorem kq {H1 H2 H3 : Hp} {M1 M2 M3 : DM} {A : Addr} (hA : H1 A = none) (k : Kp H1 M1 H2 (em M2 A)) (k2 : Kp H2 M2 H3 M3) : Kp H1 M1 H3 (em M3 A) := fun a o e n => by
  have ne : a ≠ A := ne_of_none e hA
  obtain ⟨h1, n1⟩ := k a o e n
  rw [em_ne ne] at n1 ⊢
  exact k2 a o h1 n1
theorem kq0 {K : Gk} {H1 : Hp} {M1 : DM} {A : Addr} {u : HO} {mo : MO} (m : MOk K H1 M1) (hA : H1 A = none) : Kp H1 M1 (upd H1 A u) (em (um M1 A mo) A) := by
  rw [em_um (m.noneAt hA)]
  exact .laid hA
theorem kqw {H1 H2 : Hp} {M1 M2 : DM} {A : Addr} {u : HO} {mo : MO} (hA : H1 A = none) (k : Kp H1 M1 H2 (em M2 A)) : Kp H1 M1 (upd H2 A u) (em (um M2 A mo) A) := fun a o e n => by
  have ne : a ≠ A := ne_of_none e hA
  obtain ⟨h1, n1⟩ := k a o e n
  rw [em_um', upd_ne ne]
  exact ⟨h1, n1⟩
section
variable {X : Cx} {wi : DI} {t : TG} {g : DTG} {tt : DTT} {te : DT}
theorem lc2 {vs : List Nat} {σ' : L2.St} {H : Hp} {R : VK} {σ : DS} {M : DM} {Q : Addr → List D → DM → Prop} (o : TgO X.gk vs t g) (S : Slots X.gk H M σ' σ) (m : MOk X.gk H M) (q : dLcAny wi g tt te vs σ M Q)
    (fin : ∀ A acc H' M', Kp H M H' M' → MOk X.gk H' M' → M' A = some (.lst acc) → Q A acc M' → R (.ref A) H') : tLc (upI X.gk wi) t (upB X.gk tt) (up X.gk te) vs σ' H R := by
  refine ⟨σ, M, _, S, m, q, fun J H1 DJ M1 k1 m1 sim q1 A hA => ?_⟩
  obtain ⟨I, h0, hok, hst, hd⟩ := q1 A (m1.noneAt hA)
  have S1 : Slots X.gk H1 M1 (L2.wipe σ' vs) (dWipe σ vs) := (S.kp k1).wipe vs
  have simA : ∀ {H2 : Hp} {M2 : DM}, Kp H1 M1 H2 (em M2 A) → Slots X.gk H2 M2 (L2.wipe σ' vs) (dWipe σ vs) → True := fun _ _ => trivial
  refine ⟨fun i n H2 => n = DJ.items.length - i ∧ i ≤ DJ.items.length ∧ ∃ acc M2, Kp H1 M1 H2 (em M2 A) ∧ Slots X.gk H2 M2 (L2.wipe σ' vs) (dWipe σ vs) ∧ Sim X.gk J DJ H2 M2 ∧ MOk X.gk H2 M2 ∧ I i acc M2, ⟨_, rfl, Nat.zero_le _, [], um M1 A (.lst []), kq0 m1 hA, S1.kp (.made hA), sim.of (.made hA), m1.made hA ⟨[], upd_same, .nil⟩, h0⟩, ?_⟩
  rintro i n H2 ⟨rfl, hi, acc, M2, k2, S2, sim2, m2, h2⟩
  obtain ⟨ok, hA2⟩ := hok i acc M2 hi h2
  by_cases hlt : i < DJ.items.length
  · refine .inr ?_
    obtain ⟨go, yl⟩ := sim2.go i DJ.items[i] H2 M2 .refl m2 ok (List.getElem?_eq_getElem hlt)
    refine ⟨go, fun H3 => ∃ acc M3, Kp H1 M1 H3 (em M3 A) ∧ Slots X.gk H3 M3 (L2.wipe σ' vs) (dWipe σ vs) ∧ Sim X.gk J DJ H3 M3 ∧ MOk X.gk H3 M3 ∧ I (i + 1) acc M3, fun H3 h3 => ⟨DJ.items.length - (i + 1), by omega, rfl, hlt, h3⟩, fun x H3 y3 => ?_⟩
    obtain ⟨k3, m3, r3⟩ := yl x H3 y3
    have t3 := o.imp x (L2.wipe σ' vs) H3 _ ⟨_, dWipe σ vs, M2, _, r3, S2.kp k3, m3, hst i _ acc M2 (List.getElem?_eq_getElem hlt) h2, fun σ5' H5 σ5 M5 k5 m5 S5 q5 => (show (fun σ5' H5 => ∃ σ5 M5, Kp H3 M2 H5 M5 ∧ MOk X.gk H5 M5 ∧ Slots X.gk H5 M5 σ5' σ5 ∧
      tt σ5 M5 fun b M3 => (b = true → te σ5 M3 fun y M4 => acc.length < sizeLine ∧ M4 A = some (.lst acc) ∧ I (i + 1) (acc ++ [y]) (um M4 A (.lst (acc ++ [y])))) ∧ (b = false → I (i + 1) acc M3)) σ5' H5 from ⟨σ5, M5, k5, m5, S5, q5⟩)⟩
    refine o.own _ _ _ _ _ (fun σ5' H5 w5 q5 => ⟨by rw [w5]; exact wipe_sub vs vs σ' fun _ h => h, ?_⟩) t3
    obtain ⟨σ5, M5, k5, m5, S5, q5⟩ := q5
    refine ⟨σ5, M5, _, S5, m5, q5, fun b H6 M6 k6 m6 q6 => ?_⟩
    have k26 : Kp H2 M2 H6 M6 := k3.trans (k5.trans k6)
    cases b with
    | false => exact iteF ⟨acc, M6, kq hA k2 k26, S2.kp k26, sim2.of k26, m6, q6.2 rfl⟩
    | true =>
      refine iteT ⟨σ5, M6, _, S5.kp k6, m6, q6.1 rfl, fun y H7 d M7 k7 m7 r7 ⟨hz, hA7, h7⟩ => ?_⟩
      obtain ⟨ws, c7, rs7⟩ := m7.lstAt hA7
      have k27 : Kp H2 M2 H7 M7 := k26.trans k7
      have kw : Kp H7 M7 (upd H7 A (.lst (ws ++ [y]))) (um M7 A (.lst (acc ++ [d]))) := .wrote hA7
      exact ⟨ws, c7, by rw [rs7.len]; exact hz, acc ++ [d], um M7 A (.lst (acc ++ [d])), kqw hA (kq hA k2 k27), (S2.kp k27).kp kw, (sim2.of k27).of kw, m7.wrote hA7 (lstWrote hA7 (rs7.append (.cons r7 .nil))), h7⟩
  · have e : i = DJ.items.length := by omega
    subst e
    refine .inl ⟨sim2.stop H2 M2 .refl m2 ok, fin A acc H2 M2 (fun a o e n => ?_) m2 hA2 (hd _ _ h2)⟩
    obtain ⟨h1, n1⟩ := k1 a o e n
    have ne : a ≠ A := ne_of_none h1 hA
    obtain ⟨h2, n2⟩ := k2 a o h1 n1
    rw [em_ne ne] at n2
    exact ⟨h2, n2⟩
theorem de_lc {elt tg iter : Expr} {ifs : List Expr} {scope : Scope} {own : List (Str × Nat)} {pos : Pos} (hc : X.calm = true) (hN : X.N.Nodup) (hi : DIr X tg iter wi) (ok : BlkOk X.N X.env.scope scope own)
    (hg : ∀ (s : Shared) (H : Hp) (C : Addr) (cl : List (Str × Addr)) (fp : List Addr), PG (X.blk s H scope (compEnvC scope cl C X.env) fp) tg t) (o : TgO X.gk (own.map (·.2)) t g)
    (ht : ∀ (s : Shared) (H : Hp) (C : Addr) (cl : List (Str × Addr)) (fp : List Addr), DTs (X.blk s H scope (compEnvC scope cl C X.env) fp) ifs tt)
    (he : ∀ (s : Shared) (H : Hp) (C : Addr) (cl : List (Str × Addr)) (fp : List Addr), DE (X.blk s H scope (compEnvC scope cl C X.env) fp) elt te) (hs : ∀ x, foldedSetIterable iter X.env x = pure x := by intro _; rfl) :
    DE X (.ListComp elt [⟨tg, iter, ifs, 0⟩] scope pos) (dLc wi g tt te (own.map (·.2))) :=
  (pe_lc hc hN hi ok hg ht he hs).imp fun σ' H R ⟨σ, M, Q, S, m, q, gg⟩ => lc2 o S m q fun A acc H' M' k' m' hA q' => gg _ _ _ _ (k'.les .em) (m'.les .em) (.settle m' hA) q'
theorem de_lcM {elt tg iter : Expr} {ifs : List Expr} {scope : Scope} {own : List (Str × Nat)} {pos : Pos} (hc : X.calm = true) (hN : X.N.Nodup) (hi : DIr X tg iter wi) (ok : BlkOk X.N X.env.scope scope own)
    (hg : ∀ (s : Shared) (H : Hp) (C : Addr) (cl : List (Str × Addr)) (fp : List Addr), PG (X.blk s H scope (compEnvC scope cl C X.env) fp) tg t) (o : TgO X.gk (own.map (·.2)) t g)
    (ht : ∀ (s : Shared) (H : Hp) (C : Addr) (cl : List (Str × Addr)) (fp : List Addr), DTs (X.blk s H scope (compEnvC scope cl C X.env) fp) ifs tt)
    (he : ∀ (s : Shared) (H : Hp) (C : Addr) (cl : List (Str × Addr)) (fp : List Addr), DE (X.blk s H scope (compEnvC scope cl C X.env) fp) elt te) (hs : ∀ x, foldedSetIterable iter X.env x = pure x := by intro _; rfl) :
    DE X (.ListComp elt [⟨tg, iter, ifs, 0⟩] scope pos) (dLcM wi g tt te (own.map (·.2))) :=
  (pe_lc hc hN hi ok hg ht he hs).imp fun σ' H R ⟨σ, M, Q, S, m, q, gg⟩ => lc2 o S m q fun A acc H' M' k' m' hA q' => gg _ _ _ _ k' m' (.ref A) q'
theorem ds_lc {i : Nat} {y : Str} {py : Pos} {elt tg iter : Expr} {ifs : List Expr} {scope : Scope} {own : List (Str × Nat)} {pos spos : Pos} (hc : X.calm = true) (hN : X.N.Nodup) (hy : X.N[i]? = some y) (hyl : X.env.scope.names.lookup y = some .local)
    (hsw : swapsWith (.ListComp elt [⟨tg, iter, ifs, 0⟩] scope pos) (some (.Name y py)) spos.line X.env = pure true) (hi : DIr X tg iter wi) (ok : BlkOk X.N X.env.scope scope own)
    (hg : ∀ (s : Shared) (H : Hp) (C : Addr) (cl : List (Str × Addr)) (fp : List Addr), PG (X.blk s H scope (compEnvC scope cl C X.env) fp) tg t) (o : TgO X.gk (own.map (·.2)) t g)
    (ht : ∀ (s : Shared) (H : Hp) (C : Addr) (cl : List (Str × Addr)) (fp : List Addr), DTs (X.blk s H scope (compEnvC scope cl C X.env) fp) ifs tt)
    (he : ∀ (s : Shared) (H : Hp) (C : Addr) (cl : List (Str × Addr)) (fp : List Addr), DE (X.blk s H scope (compEnvC scope cl C X.env) fp) elt te) (hs : ∀ x, foldedSetIterable iter X.env x = pure x := by intro _; rfl) :
    DStm X (.Assign [.Name y py] (.ListComp elt [⟨tg, iter, ifs, 0⟩] scope pos) spos) (dAsg (dLc wi g tt te (own.map (·.2))) (dName i)) :=
  (ps_setLc hc hN hy hyl hsw hi ok hg ht he hs).imp fun E σ' H ⟨σ, M, D, S, m, q, gg⟩ => lc2 (R := fun x H1 => gName i x σ' H1 E.nx) o S m q fun A acc H' M' k' m' hA q' => gg.nx _ _ _ _ (k'.les .em) (m'.les .em) ((S.kp (k'.les .em)).set i (.settle m' hA)) q'
theorem ds_lcM {i : Nat} {y : Str} {py : Pos} {elt tg iter : Expr} {ifs : List Expr} {scope : Scope} {own : List (Str × Nat)} {pos spos : Pos} (hc : X.calm = true) (hN : X.N.Nodup) (hy : X.N[i]? = some y) (hyl : X.env.scope.names.lookup y = some .local)
    (hsw : swapsWith (.ListComp elt [⟨tg, iter, ifs, 0⟩] scope pos) (some (.Name y py)) spos.line X.env = pure true) (hi : DIr X tg iter wi) (ok : BlkOk X.N X.env.scope scope own)
    (hg : ∀ (s : Shared) (H : Hp) (C : Addr) (cl : List (Str × Addr)) (fp : List Addr), PG (X.blk s H scope (compEnvC scope cl C X.env) fp) tg t) (o : TgO X.gk (own.map (·.2)) t g)
    (ht : ∀ (s : Shared) (H : Hp) (C : Addr) (cl : List (Str × Addr)) (fp : List Addr), DTs (X.blk s H scope (compEnvC scope cl C X.env) fp) ifs tt)
    (he : ∀ (s : Shared) (H : Hp) (C : Addr) (cl : List (Str × Addr)) (fp : List Addr), DE (X.blk s H scope (compEnvC scope cl C X.env) fp) elt te) (hs : ∀ x, foldedSetIterable iter X.env x = pure x := by intro _; rfl) :
    DStm X (.Assign [.Name y py] (.ListComp elt [⟨tg, iter, ifs, 0⟩] scope pos) spos) (dAsg (dLcM wi g tt te (own.map (·.2))) (dName i)) :=
  (ps_setLc hc hN hy hyl hsw hi ok hg ht he hs).imp fun E σ' H ⟨σ, M, D, S, m, q, gg⟩ => lc2 (R := fun x H1 => gName i x σ' H1 E.nx) o S m q fun A acc H' M' k' m' hA q' => gg.nx _ _ _ _ k' m' ((S.kp k').set i (.ref A)) q'
end
end DL

namespace DL
open PySem PySem.Spec PyProof.Rows L2

/-! ### a def's promise over data -/
abbrev DSp := List D → DM → DK → Prop
def upSp (K : Gk) (sp : DSp) : Sp := fun vs H R _ => ∃ ds M Q, RDs K H M ds vs ∧ MOk K H M ∧ sp ds M Q ∧ Get K H M Q R
abbrev DFn (P : Program) (w : World) (K : PySem.W.Frag) (mg : Str → Option Value) (base : Heap) (k : Nat) (f : Addr) (fd : FuncData) (ps : List Str) (sp : DSp) : Prop := FnOk P w K mg base CX0 k f fd ps (upSp ⟨P, w, K⟩ sp)
/-- what is handed back, with what is tracked no more left out, or settled -/
def Dr (Q : DK) : DK := fun d M => (∃ M', Les M' M ∧ Q d M') ∨ ∃ p xs M', d = .ref p ∧ M p = some (.lst xs) ∧ Les M' (em M p) ∧ Q (.lst xs) M'
theorem Get.dr {K : Gk} {H : Hp} {M : DM} {Q : DK} {R : VK} (g : Get K H M Q R) : Get K H M (Dr Q) R := fun v H' d M' k m r q => by
  rcases q with ⟨M2, l, q⟩ | ⟨p, xs, M2, rfl, hp, l, q⟩
  · exact g v H' d M2 (k.les l) (m.les l) (r.les (fun a => l.none) _ _) q
  · have l2 := l.trans Les.em
    refine g v H' _ M2 (k.les l2) (m.les l2) ?_ q
    obtain rfl := r.eq_ref
    exact (RD.settle m hp).les (fun a => l.none) _ _
def dstart (N : List Str) (ds : List D) : DS := ds.map some ++ List.replicate (N.length - ds.length) none
theorem slots_start {K : Gk} {H : Hp} {M : DM} {N : List Str} {ds : List D} {vs : List V} (r : RDs K H M ds vs) : Slots K H M (L2.start N vs) (dstart N ds) := by
  have e := r.len
  refine ⟨by simp [L2.start, dstart, e], fun i d h => ?_⟩
  unfold dstart at h
  by_cases hi : i < ds.length
  · rw [List.getElem?_append_left (by simpa using hi), List.getElem?_map] at h
    cases q : ds[i]? with
    | none => rw [q] at h; cases h
    | some d' =>
      rw [q] at h; cases h
      obtain ⟨v, hv, rv⟩ := r.get q
      refine ⟨v, ?_, rv⟩
      unfold L2.start
      rw [List.getElem?_append_left (by simp; omega), List.getElem?_map, hv]; rfl
  · rw [List.getElem?_append_right (by simpa using hi), List.getElem?_replicate] at h
    split at h <;> cases h
section
variable {P : Program} {w : World} {K : PySem.W.Frag} {mg : Str → Option Value} {base : Heap}
theorem dfn_ok {x qual : Str} {st : Stmt} {f : Addr} {fd : FuncData} {N ps : List Str} {k : Nat} {sp : DSp} (F : Fun K x qual st f fd) (S : FnScope N ps (defScope st)) (len : ∀ ds M Q, sp ds M Q → ds.length = ps.length)
    (hbody : ∀ (cdv : Value) (A : Around) (outer : List Env) (s : Shared) (H : Hp) (E : XK), Room k (A.deeper (envOfC qual (defScope st) s.heap.objs.size f cdv)) →
      ∃ t, DStms (cxOf CX0 P w K mg base N qual (defScope st) f cdv A outer s H E).nox (defBody st) t ∧ ∀ ds M Q, sp ds M Q → t { nx := fun _ M' => Dr Q .non M', rt := Dr Q } (dstart N ds) M) : DFn P w K mg base (k + 1) f fd ps sp := by
  refine F.ok S (fun vs H Q E ⟨ds, M, Q', r, m, h, g⟩ => by rw [r.len]; exact len ds M Q' h) (fun cdv A outer s H vs Q E hr h => ?_)
  obtain ⟨ds, M, Q', r, m, h, g⟩ := h
  obtain ⟨t, ht, hq⟩ := hbody cdv A outer s H E hr
  refine ⟨_, ht, dstart N ds, M, _, slots_start r, m, hq ds M Q' h, ⟨fun σ1' H1 σ1 M1 k1 m1 _ q1 => g.dr _ _ _ _ k1 m1 .non q1, g.dr, fun _ _ _ _ _ _ _ q => q.elim, fun _ _ _ _ _ _ _ q => q.elim⟩⟩
end
section
variable {X : Cx} {k : Nat} {f C : Addr} {fd : FuncData} {ps : List Str} {sp : DSp} {x m : Str} {p pos apos : Pos} {e o : Expr} {es : List Expr} {ta : DT} {t : DTA}
def dCall (sp : DSp) (t : DTA) : DT := fun σ M Q => t σ M fun ds M1 => sp ds M1 Q
theorem de_call (F : DFn X.prog X.w X.K X.mg X.base k f fd ps sp) (hr : Room k X.A) (hg : Gl X x) (hm : X.mg x = some (.ref f)) (hk : PySem.W.keepIn X.K (.ref f) = true) (hb : Binds X.K fd ps [])
    (ha : DA X (e :: es) t) (hdb : (x == ("__debug__" : Str)) = false := by decide) (he : starEach (e :: es) X.env = (false, eval e X.env) :: starEach es X.env := by rfl) (hpl : (backTo pos (starEach es X.env)).any (·.1) = false := by rfl) :
    DE X (.Call (.Name x p) (e :: es) [] pos) (dCall sp t) :=
  (pe_call F hr hg hm hk hb .nil pass0 ha hdb he hpl).imp fun σ' H R ⟨σ, M, Q, S, m, q, g⟩ => ⟨σ, M, _, S, m, q, fun vs H1 ds M1 k1 m1 r1 q1 => ⟨ds, M1, Q, by rw [List.append_nil]; exact r1, m1, q1, g.of k1⟩⟩
/-- the names of an instance's fields: f stands at i -/
def FldAt (ns : List Str) (f : Str) (i : Nat) : Prop := ns[i]? = some f ∧ ∀ j < i, ns[j]? ≠ some f
instance {ns : List Str} {f : Str} {i : Nat} : Decidable (FldAt ns f i) := by unfold FldAt; exact inferInstance
theorem lookup_zip {f : Str} : ∀ {ns : List Str} {vs : List V} {i : Nat} {v : V}, FldAt ns f i → vs[i]? = some v → (ns.zip vs).lookup f = some v
  | [], _, i, _, h, _ => by simp [FldAt] at h
  | n :: ns, [], _, _, _, e => by simp at e
  | n :: ns, w :: vs, 0, v, h, e => by
    have h1 : n = f := by simpa using h.1
    subst h1
    simpa [List.lookup] using e
  | n :: ns, w :: vs, i + 1, v, h, e => by
    have h0 : n ≠ f := by simpa using h.2 0 (Nat.succ_pos _)
    have hb : (f == n) = false := beq_eq_false_iff_ne.mpr (Ne.symm h0)
    show List.lookup f ((n, w) :: ns.zip vs) = _
    rw [List.lookup_cons, hb]
    exact lookup_zip ⟨by simpa using h.1, fun j hj => by simpa using h.2 (j + 1) (Nat.succ_lt_succ hj)⟩ (by simpa using e)
theorem lookup_zip_none {f : Str} : ∀ {ns : List Str} {vs : List V}, f ∉ ns → (ns.zip vs).lookup f = none
  | [], _, _ => rfl
  | n :: ns, [], _ => rfl
  | n :: ns, w :: vs, h => by
    rw [List.mem_cons, not_or] at h
    have hb : (f == n) = false := beq_eq_false_iff_ne.mpr h.1
    show List.lookup f ((n, w) :: ns.zip vs) = _
    rw [List.lookup_cons, hb]
    exact lookup_zip_none h.2
theorem putF_zip {f : Str} {y : V} : ∀ {ns : List Str} {vs : List V} {i : Nat}, FldAt ns f i → vs.length = ns.length → putF f y (ns.zip vs) = ns.zip (vs.set i y)
  | [], _, i, h, _ => by simp [FldAt] at h
  | n :: ns, [], _, _, e => by simp at e
  | n :: ns, w :: vs, 0, h, e => by
    have h1 : n = f := by simpa using h.1
    subst h1
    show (if n = n then _ else _) = _
    rw [if_pos rfl]; rfl
  | n :: ns, w :: vs, i + 1, h, e => by
    have h0 : n ≠ f := by simpa using h.2 0 (Nat.succ_pos _)
    show (if n = f then _ else (n, w) :: putF f y (ns.zip vs)) = _
    rw [if_neg h0, putF_zip (i := i) ⟨by simpa using h.1, fun j hj => by simpa using h.2 (j + 1) (Nat.succ_lt_succ hj)⟩ (by simpa using e)]
    rfl
theorem putF_zip_new {f : Str} {y : V} : ∀ {ns : List Str} {vs : List V}, f ∉ ns → vs.length = ns.length → putF f y (ns.zip vs) = (ns ++ [f]).zip (vs ++ [y])
  | [], [], _, _ => rfl
  | n :: ns, [], _, e => by simp at e
  | [], _ :: _, _, e => by simp at e
  | n :: ns, w :: vs, h, e => by
    rw [List.mem_cons, not_or] at h
    show (if n = f then _ else (n, w) :: putF f y (ns.zip vs)) = _
    rw [if_neg (Ne.symm h.1), putF_zip_new h.2 (by simpa using e)]
    rfl
/-- o.m(..) of an instance whose fields are named ns -/
def dMeth (C : Addr) (ns : List Str) (sp : DSp) (ta : DT) (t : DTA) : DT := fun σ M Q => ta σ M fun d M1 => match d with
  | .ref a => (∃ dx ds, M1 a = some (.ins C dx ns ds)) ∧ t σ M1 fun ds M2 => sp (.ref a :: ds) M2 Q
  | _ => False
theorem meth2 {ns : List Str} {σ' : L2.St} {H : Hp} {R : VK} (hn : m ∉ ns) (h : up X.gk (dMeth C ns sp ta t) σ' H R) : tMeth C m (upSp X.gk sp) [] E0 (up X.gk ta) (upA X.gk t) σ' H R := by
  obtain ⟨σ, M, Q, S, m, q, g⟩ := h
  refine ⟨σ, M, _, S, m, q, fun v H1 d M1 k1 m1 r1 q1 => ?_⟩
  split at q1
  · obtain ⟨⟨dx, ds, hi⟩, q1⟩ := q1
    obtain rfl := r1.eq_ref
    obtain ⟨vs, c, _, r⟩ := m1 _ _ hi
    exact ⟨_, dx, _, rfl, c, lookup_zip_none hn, σ, M1, _, S.kp k1, m1, q1, fun ws H2 es M2 k2 m2 r2 q2 => ⟨_, M2, Q, .cons (.ref _) (by rw [List.append_nil]; exact r2), m2, q2, g.of (k1.trans k2)⟩⟩
  · exact q1.elim
theorem de_meth {ns : List Str} {pl : Sem Bool} (he : DE X o ta) (c : Cls X.K C) (hm : Meth X.K C m f) (F : DFn X.prog X.w X.K X.mg X.base k f fd ps sp) (hr : Room k X.A) (hb : Binds X.K fd ps []) (hn : m ∉ ns) (ha : DA X (e :: es) t)
    (hst : starEach (e :: es) X.env = (false, eval e X.env) :: starEach es X.env := by rfl) (hpl : (backTo pos (starEach es X.env)).any (·.1) = false := by rfl)
    (ht : eval (.Call (.Attribute o m apos) (e :: es) [] pos) X.env = (do
      let ov ← eval o X.env
      standAt apos.atName
      let (f, first) ← holding [ov] (getMethod ov m pl)
      callWith pos f first (backTo pos (starEach (e :: es) X.env)) (backToKw pos (keywordEach [] X.env))) := by rfl) :
    DE X (.Call (.Attribute o m apos) (e :: es) [] pos) (dMeth C ns sp ta t) := (pe_meth he c hm F hr hb .nil pass0 ha hst hpl ht).imp fun _ _ _ h => meth2 hn h
theorem da_none {σ' : L2.St} {H : Hp} {R : List V → Hp → Prop} (h : upA X.gk dNil σ' H R) : tNil σ' H R := by
  obtain ⟨σ, M, Q, S, m, q, g⟩ := h
  exact g [] H [] M .refl m .nil q
theorem tMeth_nil {ns : List Str} {σ' : L2.St} {H : Hp} {R : VK} (h : up X.gk (dMeth C ns sp ta dNil) σ' H R) (hn : m ∉ ns) : tMeth C m (upSp X.gk sp) [] E0 (up X.gk ta) tNil σ' H R := by
  obtain ⟨σ, M, Q, S, m, q, g⟩ := h
  refine ⟨σ, M, _, S, m, q, fun v H1 d M1 k1 m1 r1 q1 => ?_⟩
  split at q1
  · obtain ⟨⟨dx, ds, hi⟩, q1⟩ := q1
    obtain rfl := r1.eq_ref
    obtain ⟨vs, c, _, r⟩ := m1 _ _ hi
    exact ⟨_, dx, _, rfl, c, lookup_zip_none hn, ⟨_, M1, Q, .cons (.ref _) .nil, m1, q1, g.of k1⟩⟩
  · exact q1.elim
theorem de_meth0 {ns : List Str} {pl : Sem Bool} (he : DE X o ta) (c : Cls X.K C) (hm : Meth X.K C m f) (F : DFn X.prog X.w X.K X.mg X.base k f fd ps sp) (hr : Room k X.A) (hb : Binds X.K fd ps []) (hn : m ∉ ns)
    (ht : eval (.Call (.Attribute o m apos) [] [] pos) X.env = (do
      let ov ← eval o X.env
      standAt apos.atName
      let (f, first) ← holding [ov] (getMethod ov m pl)
      callWith pos f first (backTo pos (starEach [] X.env)) (backToKw pos (keywordEach [] X.env))) := by rfl) :
    DE X (.Call (.Attribute o m apos) [] [] pos) (dMeth C ns sp ta dNil) := (pe_meth0 he c hm F hr hb .nil pass0 ht).imp fun _ _ _ h => tMeth_nil h hn
/-- C(..) -/
def dMake (C : Addr) (sp : DSp) (t : DTA) : DT := fun σ M Q => t σ M fun ds M1 => ∀ a dx, M1 a = none → sp (.ref a :: ds) (um M1 a (.ins C dx [] [])) fun d M2 => d = .non ∧ Q (.ref a) M2
theorem make2 {σ' : L2.St} {H : Hp} {R : VK} {tA : TA} (e : tA = upA X.gk t) (h : up X.gk (dMake C sp t) σ' H R) : tMake C (upSp X.gk sp) [] E0 tA σ' H R := by
  subst e
  obtain ⟨σ, M, Q, S, m, q, g⟩ := h
  refine ⟨σ, M, _, S, m, q, fun vs H1 ds M1 k1 m1 r1 q1 => fun a dx ha hdx ne => ?_⟩
  have q2 := q1 a dx (m1.noneAt ha)
  have k2 : Kp H1 M1 (upd H1 dx (.own a)) M1 := .laid hdx
  have ha' : upd H1 dx (.own a) a = none := by rw [upd_ne (Ne.symm ne)]; exact ha
  have k3 : Kp (upd H1 dx (.own a)) M1 (upd (upd H1 dx (.own a)) a (.ins C dx [])) (um M1 a (.ins C dx [] [])) := .made ha'
  refine ⟨_, _, _, .cons (.ref a) (by rw [List.append_nil]; exact (r1.kp k2).kp k3), (m1.laid hdx).made (mo := .ins C dx [] []) ha' ⟨[], upd_same, rfl, .nil⟩, q2, fun v H4 d M4 k4 m4 r4 ⟨e4, q4⟩ => ⟨?_, g _ _ _ _ (k1.trans (k2.trans (k3.trans k4))) m4 (.ref a) q4⟩⟩
  subst e4
  exact r4.eq_non
theorem de_make {fI : Addr} (M : Mk X.K C fI) (F : DFn X.prog X.w X.K X.mg X.base k fI fd ps sp) (hr : Room (k + 1) X.A) (hg : Gl X x) (hm : X.mg x = some (.ref C)) (hb : Binds X.K fd ps [])
    (ha : DA X (e :: es) t) (hdb : (x == ("__debug__" : Str)) = false := by decide) (he : starEach (e :: es) X.env = (false, eval e X.env) :: starEach es X.env := by rfl) (hpl : (backTo pos (starEach es X.env)).any (·.1) = false := by rfl) :
    DE X (.Call (.Name x p) (e :: es) [] pos) (dMake C sp t) := (pe_make M F hr hg hm hb .nil pass0 ha hdb he hpl).imp fun _ _ _ h => make2 rfl h
theorem insWrote {K : Gk} {H : Hp} {M : DM} {ds : List D} {vs : List V} {a C dx : Addr} {ns : List Str} {mo : MO} (hp : M a = some mo) (hl : ds.length = ns.length) (r : RDs K H M ds vs) :
    ROk K (upd H a (.ins C dx (ns.zip vs))) (um M a (.ins C dx ns ds)) a (.ins C dx ns ds) := ⟨vs, upd_same, hl, r.kp (.wrote hp)⟩
/-- e.f -/
def dFld (C : Addr) (ns : List Str) (i : Nat) (ta : DT) : DT := fun σ M Q => ta σ M fun d M1 => match d with
  | .ref a => ∃ dx ds e, M1 a = some (.ins C dx ns ds) ∧ ds[i]? = some e ∧ Q e M1
  | _ => False
theorem de_fld {ns : List Str} {i : Nat} {fl : Str} (he : DE X e ta) (c : Cls X.K C) (n : NoAttr X.K C fl) (hf : FldAt ns fl i) (hb : attributeBase e fl X.env (eval e X.env) = eval e X.env := by rfl) : DE X (.Attribute e fl pos) (dFld C ns i ta) :=
  (pe_fld he hb).imp fun σ' H R ⟨σ, M, Q, S, m, q, g⟩ => ⟨σ, M, _, S, m, q, fun v H1 d M1 k1 m1 r1 q1 => by
    split at q1
    · obtain ⟨dx, ds, e, hi, he, q1⟩ := q1
      obtain rfl := r1.eq_ref
      obtain ⟨vs, hc, _, r⟩ := m1 _ _ hi
      obtain ⟨v, hv, rv⟩ := r.get he
      exact ⟨_, C, dx, _, v, rfl, hc, c, n, lookup_zip hf hv, g _ _ _ _ k1 m1 rv q1⟩
    · exact q1.elim⟩
/-- e.f = v, f there (at i); f new -/
def dFldSet (C : Addr) (ns : List Str) (i : Nat) (ta tv : DT) : DTS := fun D σ M => tv σ M fun y M1 => ta σ M1 fun d M2 => match d with
  | .ref a => ∃ dx ds, M2 a = some (.ins C dx ns ds) ∧ D.nx σ (um M2 a (.ins C dx ns (ds.set i y)))
  | _ => False
def dFldNew (C : Addr) (ns : List Str) (f : Str) (ta tv : DT) : DTS := fun D σ M => tv σ M fun y M1 => ta σ M1 fun d M2 => match d with
  | .ref a => ∃ dx ds, M2 a = some (.ins C dx ns ds) ∧ D.nx σ (um M2 a (.ins C dx (ns ++ [f]) (ds ++ [y])))
  | _ => False
theorem ds_fld {ns : List Str} {i : Nat} {fl : Str} {o value : Expr} {tv : DT} {pos' : Pos} (ha : DE X o ta) (hv : DE X value tv) (c : Cls X.K C) (n : NoAttr X.K C fl) (hf : FldAt ns fl i) (hz : ns.length < 1000)
    (hs : swapsWith value (some (.Attribute o fl pos')) pos.line X.env = pure false := by rfl) : DStm X (.Assign [.Attribute o fl pos'] value pos) (dFldSet C ns i ta tv) :=
  (ps_fld ha hv hs).imp fun E σ' H ⟨σ, M, D, S, m, q, gg⟩ => ⟨σ, M, _, S, m, q, fun v H1 y M1 k1 m1 r1 q1 => ⟨σ, M1, _, S.kp k1, m1, q1, fun w H2 d M2 k2 m2 r2 q2 => by
    split at q2
    · obtain ⟨dx, ds, hi, q2⟩ := q2
      obtain rfl := r2.eq_ref
      obtain ⟨vs, hc, hl, r⟩ := m2 _ _ hi
      refine ⟨_, C, dx, _, rfl, hc, c, n, by rw [List.length_zip]; omega, ?_⟩
      rw [putF_zip hf (by rw [r.len, hl])]
      exact gg.nx _ _ _ _ (k1.trans (k2.trans (.wrote hi))) (m2.wrote hi (insWrote hi (by rw [List.length_set]; exact hl) (r.set i (r1.kp k2)))) (((S.kp k1).kp k2).kp (.wrote hi)) q2
    · exact q2.elim⟩⟩
theorem ds_fldNew {ns : List Str} {fl : Str} {o value : Expr} {tv : DT} {pos' : Pos} (ha : DE X o ta) (hv : DE X value tv) (c : Cls X.K C) (n : NoAttr X.K C fl) (hf : fl ∉ ns) (hz : ns.length < 1000)
    (hs : swapsWith value (some (.Attribute o fl pos')) pos.line X.env = pure false := by rfl) : DStm X (.Assign [.Attribute o fl pos'] value pos) (dFldNew C ns fl ta tv) :=
  (ps_fld ha hv hs).imp fun E σ' H ⟨σ, M, D, S, m, q, gg⟩ => ⟨σ, M, _, S, m, q, fun v H1 y M1 k1 m1 r1 q1 => ⟨σ, M1, _, S.kp k1, m1, q1, fun w H2 d M2 k2 m2 r2 q2 => by
    split at q2
    · obtain ⟨dx, ds, hi, q2⟩ := q2
      obtain rfl := r2.eq_ref
      obtain ⟨vs, hc, hl, r⟩ := m2 _ _ hi
      refine ⟨_, C, dx, _, rfl, hc, c, n, by rw [List.length_zip]; omega, ?_⟩
      rw [putF_zip_new hf (by rw [r.len, hl])]
      exact gg.nx _ _ _ _ (k1.trans (k2.trans (.wrote hi))) (m2.wrote hi (insWrote hi (by simp [hl]) (r.append (.cons (r1.kp k2) .nil)))) (((S.kp k1).kp k2).kp (.wrote hi)) q2
    · exact q2.elim⟩⟩
/-- e.f op= v -/
def dFldAug (C : Addr) (ns : List Str) (i : Nat) (ta tv : DT) (r : DR2) : DTS := fun D σ M => ta σ M fun d M1 => match d with
  | .ref a => ∃ dx ds e, M1 a = some (.ins C dx ns ds) ∧ ds[i]? = some e ∧ tv σ M1 fun y M2 => r e y M2 fun z M3 => ∃ dx' ds', M3 a = some (.ins C dx' ns ds') ∧ D.nx σ (um M3 a (.ins C dx' ns (ds'.set i z)))
  | _ => False
theorem ds_fldAug {ns : List Str} {i : Nat} {fl : Str} {o value : Expr} {tv : DT} {r : DR2} {op : Operator} {tpos : Pos} (ha : DE X o ta) (hv : DE X value tv) (hop : InOp X op (upR X.gk r)) (c : Cls X.K C) (n : NoAttr X.K C fl) (hf : FldAt ns fl i) (hz : ns.length < 1000) :
    DStm X (.AugAssign (.Attribute o fl tpos) op value pos) (dFldAug C ns i ta tv r) :=
  (ps_fldaug ha hv hop).imp fun E σ' H ⟨σ, M, D, S, m, q, gg⟩ => ⟨σ, M, _, S, m, q, fun v H1 d M1 k1 m1 r1 q1 => by
    split at q1
    · obtain ⟨dx, ds, e, hi, he, q1⟩ := q1
      obtain rfl := r1.eq_ref
      obtain ⟨vs, hc, hl, r⟩ := m1 _ _ hi
      obtain ⟨v, hv, rv⟩ := r.get he
      refine ⟨_, C, dx, _, v, rfl, hc, c, n, lookup_zip hf hv, σ, M1, _, S.kp k1, m1, q1, fun w H2 y M2 k2 m2 r2 q2 => ⟨e, y, M2, _, rv.kp k2, r2, m2, q2, fun z H3 dz M3 k3 m3 r3 ⟨dx', ds', hi', q3⟩ => ?_⟩⟩
      obtain ⟨vs', hc', hl', r'⟩ := m3 _ _ hi'
      refine ⟨dx', _, hc', by rw [List.length_zip]; omega, ?_⟩
      rw [putF_zip hf (by rw [r'.len, hl'])]
      exact gg.nx _ _ _ _ (k1.trans (k2.trans (k3.trans (.wrote hi')))) (m3.wrote hi' (insWrote hi' (by rw [List.length_set]; exact hl') (r'.set i r3))) ((((S.kp k1).kp k2).kp k3).kp (.wrote hi')) q3
    · exact q1.elim⟩
end
end DL

namespace DL
open PySem PySem.Spec PyProof.Rows L2

/-! ### dicts with tuples as keys -/
abbrev NK := NestedKey
mutual
def nkOf : D → Option NK
  | .non => some .none
  | .int i => some (.num i)
  | .str x => some (.text x)
  | .tup xs => (nksOf xs).map .tup
  | _ => none
def nksOf : List D → Option (List NK)
  | [] => some []
  | d :: ds => match nkOf d, nksOf ds with
    | some k, some ks => some (k :: ks)
    | _, _ => none
end
mutual
theorem nkD_of : ∀ (d : D) (k : NK), nkOf d = some k → nkD k = d
  | .non, _, h => by simp [nkOf] at h; subst h; simp [nkD]
  | .int _, _, h => by simp [nkOf] at h; subst h; simp [nkD]
  | .str _, _, h => by simp [nkOf] at h; subst h; simp [nkD]
  | .bl _, _, h => by simp [nkOf] at h
  | .lst _, _, h => by simp [nkOf] at h
  | .fz _, _, h => by simp [nkOf] at h
  | .ref _, _, h => by simp [nkOf] at h
  | .ty _, _, h => by simp [nkOf] at h
  | .tup xs, k, h => by
    rw [nkOf, Option.map_eq_some_iff] at h
    obtain ⟨ks, h1, rfl⟩ := h
    rw [nkD, nkDs_of xs ks h1]
theorem nkDs_of : ∀ (ds : List D) (ks : List NK), nksOf ds = some ks → nkDs ks = ds
  | [], _, h => by simp [nksOf] at h; subst h; simp [nkDs]
  | d :: ds, ks, h => by
    rw [nksOf] at h
    split at h
    · rename_i k ks' h1 h2
      cases h
      rw [nkDs, nkD_of d k h1, nkDs_of ds ks' h2]
    · cases h
end
mutual
theorem nkOf_D : ∀ k : NK, nkOf (nkD k) = some k
  | .none | .num _ | .text _ => by simp [nkD, nkOf]
  | .tup ks => by rw [nkD, nkOf, nksOf_D ks]; rfl
theorem nksOf_D : ∀ ks : List NK, nksOf (nkDs ks) = some ks
  | [] => by simp [nkDs, nksOf]
  | k :: ks => by rw [nkDs, nksOf, nkOf_D k, nksOf_D ks]
end
mutual
theorem nk_dep : ∀ k : NK, (nkD k).dep = k.depth
  | .none | .num _ | .text _ => by simp [nkD, D.dep, NestedKey.depth]
  | .tup ks => by rw [nkD, D.dep, NestedKey.depth, nks_dep ks]
theorem nks_dep : ∀ ks : List NK, D.deps (nkDs ks) = NestedKey.depthAll ks
  | [] => by simp [nkDs, D.deps, NestedKey.depthAll]
  | k :: ks => by rw [nkDs, D.deps, NestedKey.depthAll, nk_dep k, nks_dep ks]
end
section
variable {X : Cx} {pins : List (Addr × Obj)} {σ : L2.St} {H : Hp} {M : DM} {s : Shared}
mutual
theorem nk_is (I : Inv X pins σ H s) : ∀ (k : NK) (v : V) (u : Value), RD X.gk H M (nkD k) v → RelV v u → NestedIs s.heap k u
  | .none, v, u, h, r => by
    rw [nkD] at h
    obtain rfl := h.eq_non
    cases r; exact .none
  | .num i, v, u, h, r => by
    rw [nkD] at h
    obtain rfl := h.eq_int
    obtain ⟨t, rfl⟩ := r; exact .int i t
  | .text x, v, u, h, r => by
    rw [nkD] at h
    obtain rfl := h.eq_str
    obtain ⟨t, rfl⟩ := r; exact .text x t
  | .tup ks, v, u, h, r => by
    rw [nkD] at h
    obtain ⟨a, vs, rfl, c, rs⟩ := h.tupAt
    cases r
    obtain ⟨its, rv, ⟨o, ho, hc, n, hd⟩, _⟩ := I.tuple c
    exact .tup ho hc hd (nks_is I ks vs its rs rv)
theorem nks_is (I : Inv X pins σ H s) : ∀ (ks : List NK) (vs : List V) (us : List Value), RDs X.gk H M (nkDs ks) vs → Vals vs us → NestedAll s.heap ks us
  | [], vs, us, h, r => by
    rw [nkDs] at h
    obtain rfl := h.none
    cases r; exact .nil
  | k :: ks, vs, us, h, r => by
    rw [nkDs, RDs] at h
    obtain ⟨v, ws, rfl, h1, h2⟩ := h
    cases r with
    | cons r1 r2 => exact .cons (nk_is I k v _ h1 r1) (nks_is I ks ws _ h2 r2)
end
end
/-! tables with any values -/
section
variable {κ ν : Type} [DecidableEq κ]
def getT (kvs : List (κ × ν)) (k : κ) : Option ν := (kvs.find? fun kv => decide (kv.1 = k)).map (·.2)
def putT (kvs : List (κ × ν)) (k : κ) (v : ν) : List (κ × ν) := if (getT kvs k).isSome then kvs.map (fun kv => if kv.1 = k then (kv.1, v) else kv) else kvs ++ [(k, v)]
end
section
variable {κ ν μ α β : Type} [DecidableEq κ] {R : ν → μ → Prop}
theorem find_rel {ka : α → κ} {kb : β → κ} {F : α → β → Prop} (hk : ∀ a b, F a b → ka a = kb b) (k : κ) : ∀ {xs : List α} {ys : List β}, Paired F xs ys →
    (xs.find? (fun a => decide (ka a = k)) = none ∧ ys.find? (fun b => decide (kb b = k)) = none) ∨ ∃ a b, xs.find? (fun a => decide (ka a = k)) = some a ∧ ys.find? (fun b => decide (kb b = k)) = some b ∧ F a b
  | _, _, .nil => .inl ⟨rfl, rfl⟩
  | a :: xs, b :: ys, .cons r t => by
    have e := hk a b r
    by_cases h : ka a = k
    · have h' : kb b = k := e ▸ h
      exact .inr ⟨a, b, by simp [List.find?_cons, h], by simp [List.find?_cons, h'], r⟩
    · have h' : ¬ kb b = k := fun z => h (e.trans z)
      rcases find_rel hk k t with ⟨h1, h2⟩ | ⟨a', b', h1, h2, r'⟩
      · exact .inl ⟨by simp [List.find?_cons, h, h1], by simp [List.find?_cons, h', h2]⟩
      · exact .inr ⟨a', b', by simp [List.find?_cons, h, h1], by simp [List.find?_cons, h', h2], r'⟩
theorem paired_map {F : α → β → Prop} {α' β' : Type} {G : α' → β' → Prop} {f : α → α'} {g : β → β'} (h : ∀ a b, F a b → G (f a) (g b)) : ∀ {xs : List α} {ys : List β}, Paired F xs ys → Paired G (xs.map f) (ys.map g)
  | _, _, .nil => .nil
  | _, _, .cons r t => .cons (h _ _ r) (paired_map h t)
theorem paired_snoc {F : α → β → Prop} : ∀ {xs : List α} {ys : List β} {a : α} {b : β}, Paired F xs ys → F a b → Paired F (xs ++ [a]) (ys ++ [b])
  | _, _, _, _, .nil, h => .cons h .nil
  | _, _, _, _, .cons r t, h => .cons r (paired_snoc t h)
end
def EntV : List DEnt → List (NK × Addr × Value) → Prop := Paired fun x y => x.1 = y.1 ∧ x.2.1 = y.2.1 ∧ RelV x.2.2 y.2.2
/-- the entries over values behind a store -/
def putX (xs : List DEnt) (k : NK) (a : Addr) (v : V) : List DEnt := if (xs.find? fun x => decide (x.1 = k)).isSome then xs.map (fun x => if x.1 = k then (x.1, x.2.1, v) else x) else xs ++ [(k, a, v)]
theorem entV_put {xs : List DEnt} {ys : List (NK × Addr × Value)} {k : NK} {a : Addr} {v : V} {u : Value} (h : EntV xs ys) (r : RelV v u) : EntV (putX xs k a v) (storedH ys k a u) := by
  unfold putX storedH atKey
  rcases find_rel (ka := fun x : DEnt => x.1) (kb := fun y : NK × Addr × Value => y.1) (fun a b e => e.1) k h with ⟨h1, h2⟩ | ⟨x, y, h1, h2, _⟩
  · rw [h1, h2]
    exact paired_snoc h ⟨rfl, rfl, r⟩
  · rw [h1, h2]
    refine paired_map (fun x y e => ?_) h
    obtain ⟨e1, e2, e3⟩ := e
    unfold putAt
    by_cases q : x.1 = k
    · rw [if_pos q, if_pos (e1 ▸ q)]; exact ⟨e1, e2, r⟩
    · rw [if_neg q, if_neg (fun z => q (e1.trans z))]; exact ⟨e1, e2, e3⟩
section
variable {K : Gk} {H H' : Hp} {M M' : DM}
theorem entR_put {kvs : List (NK × D)} {xs : List DEnt} {k : NK} {a : Addr} {v : V} {d : D} (h : EntR K H M kvs xs) (hk : k.depth ≤ 8) (ha : RD K H M (nkD k) (.ref a)) (hd : RD K H M d v) : EntR K H M (putT kvs k d) (putX xs k a v) := by
  unfold putX putT getT
  rcases find_rel (ka := fun x : NK × D => x.1) (kb := fun y : DEnt => y.1) (fun a b e => e.1) k h with ⟨h1, h2⟩ | ⟨x, y, h1, h2, _⟩
  · rw [h1, h2]
    exact paired_snoc h ⟨rfl, hk, ha, hd⟩
  · rw [h1, h2]
    refine paired_map (fun x y e => ?_) h
    obtain ⟨e1, e2, e3, e4⟩ := e
    by_cases q : x.1 = k
    · rw [if_pos q, if_pos (e1 ▸ q)]; exact ⟨e1, e2, e3, hd⟩
    · rw [if_neg q, if_neg (fun z => q (e1.trans z))]; exact ⟨e1, e2, e3, e4⟩
theorem entR_get {kvs : List (NK × D)} {xs : List DEnt} (h : EntR K H M kvs xs) (k : NK) : (getT kvs k = none ∧ xs.find? (fun x => decide (x.1 = k)) = none) ∨ ∃ d x, getT kvs k = some d ∧ xs.find? (fun x => decide (x.1 = k)) = some x ∧ RD K H M d x.2.2 := by
  unfold getT
  rcases find_rel (ka := fun x : NK × D => x.1) (kb := fun y : DEnt => y.1) (fun a b e => e.1) k h with ⟨h1, h2⟩ | ⟨x, y, h1, h2, e⟩
  · exact .inl ⟨by rw [h1]; rfl, h2⟩
  · exact .inr ⟨x.2, y, by rw [h1]; rfl, h2, e.2.2.2⟩
theorem entV_get {xs : List DEnt} {ys : List (NK × Addr × Value)} (h : EntV xs ys) (k : NK) : (xs.find? (fun x => decide (x.1 = k)) = none ∧ atKey ys k = none) ∨ ∃ x p, xs.find? (fun x => decide (x.1 = k)) = some x ∧ atKey ys k = some p ∧ RelV x.2.2 p.2 := by
  unfold atKey
  rcases find_rel (ka := fun x : DEnt => x.1) (kb := fun y : NK × Addr × Value => y.1) (fun a b e => e.1) k h with ⟨h1, h2⟩ | ⟨x, y, h1, h2, e⟩
  · exact .inl ⟨h1, by rw [h2]; rfl⟩
  · exact .inr ⟨x, y.2, h1, by rw [h2]; rfl, e.2.2⟩
end
section
variable {X : Cx} {pins : List (Addr × Obj)} {σ' : L2.St} {H : Hp} {M : DM} {s : Shared}
/-- the dict at p, in the heap -/
theorem dn_heap {p : Addr} {kvs : List (NK × D)} (I : Inv X pins σ' H s) (m : MOk X.gk H M) (h : M p = some (.dN kvs)) :
    ∃ xs ys, H p = some (dnO X.gk p xs) ∧ EntR X.gk H M kvs xs ∧ EntV xs ys ∧ s.heap.DictOfH (nestedKind X.prog X.w) p ys ∧ (p == sysModules) = false ∧ ys.length ≤ sizeLine := by
  obtain ⟨xs, h1, h2⟩ := m p _ h
  obtain ⟨⟨hs, hz, ys, hv, o, es, ep, ho, hx, hd, he, hn⟩, _, _⟩ := I.hok p _ h1
  refine ⟨xs, ys, h1, h2, hv, ⟨o, es, ep, ho, hx, hd, he, fun y hy => ?_, hn⟩, hs, by rw [← Paired.length hv]; exact hz⟩
  -- each key stands
  have key : ∀ {xs : List DEnt} {ys : List (NK × Addr × Value)} {kvs : List (NK × D)}, EntR X.gk H M kvs xs → EntV xs ys → ∀ y ∈ ys, (nestedKind X.prog X.w).is s.heap y.1 y.2.1 := by
    intro xs ys kvs a
    induction a generalizing ys with
    | nil => intro b y hy; cases b; cases hy
    | cons r t ih =>
      intro b y hy
      cases b with
      | cons r' t' =>
        rcases List.mem_cons.mp hy with e | hy
        · subst e
          obtain ⟨e1, e2, e3, e4⟩ := r
          obtain ⟨f1, f2, f3⟩ := r'
          rw [← f1, ← f2]
          exact ⟨nk_is I _ _ _ e3 rfl, e2⟩
        · exact ih t' y hy
  exact key h2 hv y hy
theorem dnO_ok {P : Program} {w : World} {K : PySem.W.Frag} {H' : Hp} {h' : Heap} {p : Addr} {xs : List DEnt} {ys : List (NK × Addr × Value)} (hs : (p == sysModules) = false) (hz : xs.length ≤ sizeLine) (hv : EntV xs ys) (hd : h'.DictOfH (nestedKind P w) p ys) :
    ObjOk P w H' h' p (dnO ⟨P, w, K⟩ p xs) := by
  obtain ⟨o, es, ep, ho, hx, hdt, he, _, hn⟩ := hd
  exact ⟨⟨hs, hz, ys, hv, o, es, ep, ho, hx, hdt, he, hn⟩, ⟨o, ho⟩, fun h1 h2 ⟨a, b, ys, c, o, es, ep, ho, r⟩ k => ⟨a, b, ys, c, o, es, ep, k o ho, r⟩⟩
/-- {} -/
def dNewN : DT := fun _ M Q => ∀ p, M p = none → Q (.ref p) (um M p (.dN []))
theorem de_newN {pos : Pos} : DE X (.Dict [] [] pos) dNewN := by
  refine ⟨fun pins s σ' H R I h => ?_⟩
  obtain ⟨σ, M, Q, S, m, q, g⟩ := h
  refine wpAny_Dict_empty ?_
  have hf : H s.heap.objs.size = none := I.hok.fresh (Nat.le_refl _)
  have hd : (s.heap.push { cls := .type "dict", data := .dict #[] }).DictOfH (nestedKind X.prog X.w) s.heap.objs.size [] := Heap.DictOfH.new s.heap
  have I' : Inv X pins σ' (upd H s.heap.objs.size (dnO X.gk s.heap.objs.size [])) { s with heap := s.heap.push { cls := .type "dict", data := .dict #[] } } :=
    I.laid (t' := s.toks) (fun b u e => Heap.get?_push_of_some _ e) (Nat.le_refl _) (dnO_ok (beq_eq_false_iff_ne.mpr (Ne.symm (Nat.ne_of_lt I.big))) (Nat.zero_le _) .nil hd)
  exact ⟨.ref s.heap.objs.size, _, I', rfl, g _ _ _ _ (.made hf) (m.made (mo := .dN []) hf ⟨[], upd_same, .nil⟩) (.ref _) (q _ (m.noneAt hf))⟩

/-! ### what is done with such a dict -/
abbrev rmD (X : Cx) : Prop := X.A.units + 16 < cLine
theorem tailOf {T id : String} {value slice : Expr} {ov iv : Value} {A : Around} {E : Value → Shared → Prop} {prog : Program} {w : World} {s : Shared} {Q : Value → Shared → Prop} (hT : s.TypeIs ov T) (hl : typeLookup (.type T) "__getitem__" = pure (some (.builtin id)))
    (hs : subscripted slice false ov iv = operate [ov, iv] (getItem ov iv)) (h : wpAny (model prog w) A (getItem ov iv) Q E s) : wpAny (model prog w) A (subscriptTail value slice ov iv) Q E s := by
  unfold subscriptTail
  refine wpAny_bind ?_
  rw [getitemInPython_of_ne hT.not_modules]
  refine wpAny_bind (wpAny_specialOf hT hl ?_)
  have fin : wpAny (model prog w) A (subscripted slice false ov iv) (fun r s₃ => wpAny (model prog w) A (letTemporaryGo value ov r >>= fun _ => pure r) Q E s₃) E s := by
    rw [hs]
    exact wpAny_operating (wpAny_mono h (fun r s₃ h₃ => wpAny_bind (wpAny_letTemporaryGo (wpAny_pure h₃))) fun _ _ x => x)
  first
    | exact wpAny_pure (wpAny_bind fin)
    | exact wpAny_bind (wpAny_pure (wpAny_bind fin))
    | exact wpAny_bind fin
theorem key_at {d : D} {k : NK} {v : V} {u : Value} {xs : List D} (I : Inv X pins σ' H s) (h : RD X.gk H M d v) (e : d = .tup xs) (hk : nkOf d = some k) (hz : d.dep ≤ 8) (r : RelV v u) : ∃ a, v = .ref a ∧ u = .ref a ∧ (nestedKind X.prog X.w).is s.heap k a ∧ k.depth ≤ 8 ∧ RD X.gk H M (nkD k) (.ref a) := by
  have e2 := nkD_of d k hk
  have hz' : k.depth ≤ 8 := by rw [← nk_dep, e2]; exact hz
  rw [← e2] at h
  have h' := h
  rw [e2, e] at h'
  obtain ⟨a, vs, rfl, _⟩ := h'.tupAt
  cases r
  exact ⟨a, rfl, rfl, ⟨nk_is I k _ _ h rfl, hz'⟩, hz', h⟩
theorem rdRoom {A : Around} (h : A.units + 16 < cLine) : (nestedKind X.prog X.w).room A.in1 := by
  show A.units + 1 + 8 < cLine
  omega
/-- k in d -/
def rInN (neg : Bool) : DR2 := fun d e M Q => match e with
  | .ref p => ∃ kvs k xs, M p = some (.dN kvs) ∧ d = .tup xs ∧ nkOf d = some k ∧ d.dep ≤ 8 ∧ Q (.bl (xor neg (getT kvs k).isSome)) M
  | _ => False
theorem inN {neg : Bool} {x y : V} {R : VK} {Q : Bool → Prop} {v u : Value} (I : Inv X pins σ' H s) (rx : RelV x v) (ry : RelV y u) (h : upR X.gk (rInN neg) x y H R) :
    ∃ a p ys k, v = .ref a ∧ u = .ref p ∧ (nestedKind X.prog X.w).is s.heap k a ∧ (p == sysModules) = false ∧ s.heap.DictOfH (nestedKind X.prog X.w) p ys ∧ R (.bl (xor neg (atKey ys k).isSome)) H := by
  obtain ⟨d1, d2, M, Q, h1, h2, m, q, g⟩ := h
  unfold rInN at q
  split at q
  · obtain ⟨kvs, k, xs, hp, e, hk, hz, q⟩ := q
    obtain rfl := h2.eq_ref
    cases ry
    obtain ⟨a, rfl, rfl, his, _⟩ := key_at I h1 e hk hz rx
    obtain ⟨xs, ys, hH, hE, hV, hD, hs, hl⟩ := dn_heap I m hp
    refine ⟨a, _, ys, k, rfl, rfl, his, hs, hD, ?_⟩
    have e : (atKey ys k).isSome = (getT kvs k).isSome := by
      rcases entR_get hE k with ⟨a1, a2⟩ | ⟨d, x, a1, a2, _⟩
      · rcases entV_get hV k with ⟨b1, b2⟩ | ⟨x', p', b1, b2, _⟩
        · rw [a1, b2]; rfl
        · rw [a2] at b1; cases b1
      · rcases entV_get hV k with ⟨b1, b2⟩ | ⟨x', p', b1, b2, _⟩
        · rw [a2] at b1; cases b1
        · rw [a1, b2]; rfl
    rw [e]
    exact g _ _ _ _ .refl m (.bl _) q
  · exact q.elim
theorem o_inN (hu : rmD X) : DOp X (compareOp .In) (rInN false) := by
  intro pins s σ' H x y v u R I rx ry h
  obtain ⟨a, p, ys, k, rfl, rfl, his, hs, hD, q⟩ := inN (Q := fun _ => True) I rx ry h
  exact wpAny_in_heap (rdRoom hu) his hs hD ⟨.bl _, H, I.tok _, rfl, by simpa using q⟩
theorem o_notinN (hu : rmD X) : DOp X (compareOp .NotIn) (rInN true) := by
  intro pins s σ' H x y v u R I rx ry h
  obtain ⟨a, p, ys, k, rfl, rfl, his, hs, hD, q⟩ := inN (Q := fun _ => True) I rx ry h
  show wpAny (model X.prog X.w) X.A (do return Value.bool (!(← contains (.ref p) (.ref a)))) (EP X pins σ' R) X.xe s
  exact wpAny_bind (wpAny_contains_heap (rdRoom hu) his hs hD (wpAny_pure ⟨.bl _, H, I.tok _, rfl, by simpa using q⟩))
/-- d[k] -/
def rGetN : DR2 := fun e d M Q => match e with
  | .ref p => ∃ kvs k xs z, M p = some (.dN kvs) ∧ d = .tup xs ∧ nkOf d = some k ∧ d.dep ≤ 8 ∧ getT kvs k = some z ∧ Q z M
  | _ => False
theorem getN {x y : V} {R : VK} {v u : Value} (I : Inv X pins σ' H s) (rx : RelV x v) (ry : RelV y u) (h : upR X.gk rGetN x y H R) :
    ∃ a p ys k q z, u = .ref a ∧ v = .ref p ∧ (nestedKind X.prog X.w).is s.heap k a ∧ s.heap.DictOfH (nestedKind X.prog X.w) p ys ∧ atKey ys k = some q ∧ RelV z q.2 ∧ R z H := by
  obtain ⟨d1, d2, M, Q, h1, h2, m, q, g⟩ := h
  unfold rGetN at q
  split at q
  · obtain ⟨kvs, k, xs, z, hp, e, hk, hz, hg, q⟩ := q
    obtain rfl := h1.eq_ref
    cases rx
    obtain ⟨a, rfl, rfl, his, _⟩ := key_at I h2 e hk hz ry
    obtain ⟨xs, ys, hH, hE, hV, hD, hs, hl⟩ := dn_heap I m hp
    rcases entR_get hE k with ⟨a1, a2⟩ | ⟨d, x, a1, a2, rd⟩
    · rw [hg] at a1; cases a1
    · rw [hg] at a1; cases a1
      rcases entV_get hV k with ⟨b1, b2⟩ | ⟨x', p', b1, b2, rv⟩
      · rw [a2] at b1; cases b1
      · rw [a2] at b1; cases b1
        exact ⟨a, _, ys, k, p', _, rfl, rfl, his, hD, b2, rv, g _ _ _ _ .refl m rd q⟩
  · exact q.elim
theorem i_getN (hu : rmD X) : IxR X (upR X.gk rGetN) := by
  intro va sl pins s σ' H x y v u R I rx ry h hs
  obtain ⟨a, p, ys, k, q, z, rfl, rfl, his, hD, hk, rv, hR⟩ := getN I rx ry h
  exact tailOf hD.typeIs PySem.F.slot_dict_getitem.lookup hs (wpAny_getItem_heap (rdRoom hu) his hD hk ⟨z, H, I.tok _, rv, hR⟩)
/-- d[k] = v -/
def rPutN : DSet := fun o i v M Q => match o with
  | .ref p => ∃ kvs k xs, M p = some (.dN kvs) ∧ i = .tup xs ∧ nkOf i = some k ∧ i.dep ≤ 8 ∧ kvs.length < sizeLine ∧ Q (um M p (.dN (putT kvs k v)))
  | _ => False
theorem putX_len {xs : List DEnt} {k : NK} {a : Addr} {v : V} : (putX xs k a v).length ≤ xs.length + 1 := by
  unfold putX; split <;> simp
theorem putN_inv {p a : Addr} {kvs : List (NK × D)} {k : NK} {xs : List DEnt} {ys : List (NK × Addr × Value)} {d : D} {v : V} {u : Value} {h' : Heap} {t' : Nat} (I : Inv X pins σ' H s) (m : MOk X.gk H M) (hp : M p = some (.dN kvs)) (hH : H p = some (dnO X.gk p xs)) (hE : EntR X.gk H M kvs xs) (hV : EntV xs ys)
    (hs : (p == sysModules) = false) (hz : kvs.length < sizeLine) (hk : k.depth ≤ 8) (ra : RD X.gk H M (nkD k) (.ref a)) (rd : RD X.gk H M d v) (rv : RelV v u) (hD : h'.DictOfH (nestedKind X.prog X.w) p (storedH ys k a u)) (sb : Heap.SameBut p s.heap h') :
    Inv X pins σ' (upd H p (dnO X.gk p (putX xs k a v))) { s with heap := h', toks := t' } ∧ Kp H M (upd H p (dnO X.gk p (putX xs k a v))) (um M p (.dN (putT kvs k d))) ∧ MOk X.gk (upd H p (dnO X.gk p (putX xs k a v))) (um M p (.dN (putT kvs k d))) := by
  have hlen : (putX xs k a v).length ≤ sizeLine := by
    have := putX_len (xs := xs) (k := k) (a := a) (v := v)
    have e := Paired.length hE
    omega
  have kp : Kp H M (upd H p (dnO X.gk p (putX xs k a v))) (um M p (.dN (putT kvs k d))) := .wrote hp
  refine ⟨?_, kp, m.wrote (mo' := .dN (putT kvs k d)) hp ⟨_, upd_same, Paired.mapP (entR_put hE hk ra rd) fun _ _ ⟨p1, p2, p3, p4⟩ => ⟨p1, p2, p3.kp kp _ _, p4.kp kp _ _⟩⟩⟩
  obtain ⟨ob, _, _, hob, _⟩ := id hD
  exact I.write (x := p) (e := p) (by rw [hH]; exact True.intro) (.inl rfl) (fun b q hb z => (sb.2 b hb).trans z) ⟨ob, hob⟩ (dnO_ok hs hlen (entV_put hV rv) hD)
theorem s_putN (hu : rmD X) : PSet X (upSet X.gk rPutN) := by
  intro pins s σ' H o i v ov iv u R I ro ri rv h
  obtain ⟨d1, d2, d3, M, Q, h1, h2, h3, m, q, g⟩ := h
  unfold rPutN at q
  split at q
  · obtain ⟨kvs, k, xs, hp, e, hk, hz, hl, q⟩ := q
    obtain rfl := h1.eq_ref
    cases ro
    obtain ⟨a, rfl, rfl, his, hdp, ra⟩ := key_at I h2 e hk hz ri
    obtain ⟨xs, ys, hH, hE, hV, hD, hs, hys⟩ := dn_heap I m hp
    refine wpAny_setItem_heap (hsz := hys) (rdRoom hu) his hD fun h' hD' sb => ?_
    obtain ⟨I', kp, m'⟩ := putN_inv (t' := s.toks + (nestedKind X.prog X.w).draws k) I m hp hH hE hV hs hl hdp ra h3 rv hD' sb
    exact ⟨_, I', g _ _ kp m' q⟩
  · exact q.elim
/-- len(d) -/
theorem len_dN {p : Addr} {kvs : List (NK × D)} {Q : Value → Shared → Prop} (I : Inv X pins σ' H s) (m : MOk X.gk H M) (hp : M p = some (.dN kvs)) {A : Around} {E : Value → Shared → Prop} (h : ∀ t s', Inv X pins σ' H s' → Q (.int kvs.length t) s') : wpAny (model X.prog X.w) A (call (.builtin "len") [.ref p]) Q E s := by
  obtain ⟨xs, ys, hH, hE, hV, hD, hs, hys⟩ := dn_heap I m hp
  have e : kvs.length = ys.length := (Paired.length hE).trans (Paired.length hV)
  refine call_len_dictH hs hD (by rw [sizeLine_eq] at hys; omega) ?_
  rw [← e]
  exact h _ _ (I.tok _)
end
end DL

namespace PySem
open Sem (wp)
set_option maxHeartbeats 1000000 in
theorem meets_enumerate_newB1 {v : Value} {o : Obj} {H : Heap → Prop} (B : Begins v o H) :
    Meets (Builtin.«enumerate.__new__» ⟨[.type "enumerate", v], []⟩) (fun _ R s => H s.heap ∧
      R (.ok (.ret (.ref (s.heap.push o).objs.size))) { s with heap := (s.heap.push o).push { cls := .type "enumerate", data := .fields #[.none, .bool false, .ref s.heap.objs.size, rawInt 0, .none, .none] } }) :=
  .of_wp fun prog w A R s h => by
    obtain ⟨hp, g, d, tk, os⟩ := s; obtain ⟨h1, h⟩ := h
    have hsub := sub_enumerate
    have q1 : ∀ {A' : Around} {E : Value → Shared → Prop} {Q : Value → Shared → Prop}, Q (.ref hp.objs.size) ⟨hp.push o, g, d, tk, os⟩ → wpAny (model prog w) A' (pyIter v) Q E ⟨hp, g, d, tk, os⟩ :=
      fun q => B.iter prog w _ _ ⟨hp, g, d, tk, os⟩ _ h1 q
    wp_walk using q1
    refine wpAny_stack_any fun st => wpAny_pure ?_
    split
    · rename_i c _ _ _ _ _
      cases (c == Value.type "enumerate")
      · wp_walk using q1
        exact ⟨_, rfl, h⟩
      · wp_walk using q1
        exact ⟨_, rfl, h⟩
    · wp_walk using q1
      exact ⟨_, rfl, h⟩
section
variable {prog : Program} {w : World} {A : Around} {E : Value → Shared → Prop} {s : Shared}
theorem enum_begins1 {v : Value} {o : Obj} {H : Heap → Prop} {Q : Value → Shared → Prop} (B : Begins v o H) (h1 : H s.heap)
    (h : ∀ h', IsEnum h' (s.heap.objs.size + 1) s.heap.objs.size 0 .none → h'.get? s.heap.objs.size = some o → h'.objs.size = s.heap.objs.size + 2 →
      (∀ b o, s.heap.get? b = some o → h'.get? b = some o) → Q (.ref (s.heap.objs.size + 1)) { s with heap := h' }) :
    wpAny (model prog w) A (call (.type "enumerate") [v]) Q E s := by
  refine callType_new F.called_enumerate (by decide) (F.typeCall_enumerate_1 _) (F.newCall_enumerate_1 _) (fun obj => F.args_object_init_2 obj _) F.entry_enumerate_new
    (meets_enumerate_newB1 B) ⟨h1, ?_⟩
  have hz : (s.heap.push o).objs.size = s.heap.objs.size + 1 := Heap.size_push ..
  show _ ∧ _
  rw [hz]
  have he : IsEnum ((s.heap.push o).push { cls := .type "enumerate", data := .fields #[.none, .bool false, .ref s.heap.objs.size, rawInt 0, .none, .none] }) (s.heap.objs.size + 1) s.heap.objs.size 0 .none := by
    have := Heap.get?_push_size (s.heap.push o) (o := { cls := .type "enumerate", data := .fields #[.none, .bool false, .ref s.heap.objs.size, rawInt 0, .none, .none] }) rfl
    rw [hz] at this; exact this
  refine ⟨⟨_, he, rfl⟩, h _ he (Heap.get?_push_of_some _ (Heap.get?_push_size _ B.free)) (by rw [Heap.size_push, hz]) fun b o x => Heap.get?_push_of_some _ (Heap.get?_push_of_some _ x)⟩
theorem enum_endT {e it t : Addr} {i : Nat} {k : Int} {items : Array Value} {old : Value} {Q : Option Value → Shared → Prop} (hh : A.handled = none) (he : IsEnum s.heap e it k old) (hit : s.heap.IsTupleIter it t i) (ht : s.heap.IsTuple t items) (hx : items[i]? = none)
    (hQ : ∀ h', Heap.ExtBut it s.heap h' → Q none { s with heap := h' }) : wpAny (model prog w) A (pyNext (.ref e)) Q E s := by
  have hT : s.TypeIs (.ref e) "enumerate" := ⟨_, he, rfl⟩
  unfold pyNext
  refine wpAny_bind (wpAny_attempt (wpAny_callSpecial?_slot (name := Str.ofString "__next__") hT F.slot_enumerate_next
    (wpAny_call_entry F.slot_enumerate_next hT F.entry_enumerate_next ?_ (F.args_enumerate_next_1 _))))
  show wpAny _ _ (field (.ref e) 2 >>= _) _ _ _
  refine wpAny_bind (wpAny_field he rfl (x := .ref it) rfl ?_)
  refine wpAny_bind (wpAny_nextOf_tuple_end hh hit ht hx fun h' x he' hx' => ?_)
  obtain ⟨o, ho, hc⟩ := hx'
  refine wpAny_bind (wpAny_isInstance (T := "StopIteration") (b := true) ⟨o, ho, hc⟩ isSubtype_stop ?_)
  exact wpAny_pure (hQ _ he')
end
end PySem
namespace DL
open PySem PySem.Spec PyProof.Rows L2
/-- enumerate of a tuple -/
def IteT (K : PySem.W.Frag) (a : Addr) : It :=
  ⟨fun i H => ∃ (xs : List V) (x : V), SqT K H a xs ∧ xs[i]? = some x, fun i H v H' => ∃ T x, v = .ref T ∧ H T = none ∧ H' = upd H T (.tup [.int (i : Nat), x]) ∧ ∀ xs, SqT K H a xs → xs[i]? = some x, fun i H => ∃ xs : List V, SqT K H a xs ∧ xs.length ≤ i⟩
theorem turn_enumT {P : Program} {w : World} {K : PySem.W.Frag} {elts : List Expr} {kk : Nat} {tpos : Pos} (a e it : Addr) (hai : a ≠ it) :
    Turn P w K (.Tuple elts kk tpos) (IteT K a) [e, it] e (fun i h => (∃ old, IsEnum h e it ((i : Nat) : Int) old) ∧ h.IsTupleIter it a i ∧ e ≠ it) where
  mem := by simp
  obj := fun i h st b hb => by
    obtain ⟨⟨old, he⟩, ⟨o, ho, hc, hd⟩, _⟩ := st
    have e' : b = e ∨ b = it := by simpa using hb
    rcases e' with z | z
    · rw [z]; exact ⟨_, he, fun v q => nomatch q⟩
    · rw [z]; exact ⟨o, ho, fun v q => by rw [hd] at q; cases q⟩
  keep := fun i h h' st k => let ⟨⟨old, he⟩, hi, hne⟩ := st; ⟨⟨old, k e (by simp) _ he⟩, hi.at fun o q => k it (by simp) o q, hne⟩
  item := by
    intro X hP hw hK hc i pins s σ H E I hf st hg
    subst hP hw hK
    obtain ⟨⟨old, he⟩, hit, hne⟩ := st
    obtain ⟨xs, x, hq, hx⟩ := hg
    obtain ⟨its, rv, p, hz⟩ := I.tuple hq
    obtain ⟨u, hu, ru⟩ := rv.get hx
    have hel : e < s.heap.objs.size := Heap.lt_size he
    have hil : it < s.heap.objs.size := by obtain ⟨_, q, _⟩ := hit; exact Heap.lt_size q
    have hii : i < its.toArray.size := by
      have := (List.getElem?_eq_some_iff.mp hu).1
      simpa using this
    have pa : e ∉ [it, a] := by
      intro hm
      rcases List.mem_cons.mp hm with z | hm
      · exact hne z
      · have z := List.mem_singleton.mp hm
        have h0 : H e = none := (hf e (by simp)).1
        obtain ⟨o, ho, hcc, n, hd⟩ := p
        rw [← z, he] at ho
        cases ho
        exact absurd (Value.type.inj hcc) (by decide)
    refine wpAny_pyNext_enum_itemD (Draws.tuple (A := X.A.in1) (I.ok.hd hc) it a hai its.toArray) he ⟨hit, show s.heap.IsTuple a its.toArray from p⟩ hii hne pa fun y h' tk hP ho hs' hT hsz hk => ?_
    obtain ⟨hit', htup'⟩ := hs'
    have hy : y = u := by
      have e1 : its.toArray[i]? = some u := by simpa using hu
      rw [e1] at hP
      exact (Option.some.inj hP).symm
    subst hy
    refine ⟨_, rfl, wpAny_letOwnedTupleGo_enum (s := { s with heap := h', toks := tk + 1 }) ho fun h'' he' sb => ?_⟩
    have hT2 : h''.get? s.heap.objs.size = some { cls := .type "tuple", data := .seq #[.int i tk, y] } := (sb.2 _ (Nat.ne_of_gt hel)).trans hT
    have new : ObjOk X.prog X.w (upd H s.heap.objs.size (.tup [.int (i : Nat), x])) h'' s.heap.objs.size (.tup [.int (i : Nat), x]) :=
      ⟨by show 2 ≤ sizeLine; decide, [.int i tk, y], .cons ⟨_, rfl⟩ (.cons ru .nil), ⟨_, hT2, rfl, _, rfl⟩⟩
    have I1 : Inv X pins σ (upd H s.heap.objs.size (.tup [.int (i : Nat), x])) { s with heap := h'', toks := tk + 1 } :=
      I.turnedNew (ch := [e, it]) (fun b ob hb q => (sb.2 b (fun z => hb (by simp [z]))).trans (hk b ob (fun z => hb (by simp [z])) (fun z => hb (by simp [z])) q)) hf (Nat.le_refl _) new
    refine ⟨.ref s.heap.objs.size, _, I1, rfl, ⟨_, x, rfl, I.hok.fresh (Nat.le_refl _), rfl, fun ys hy => by rw [I.tuple_inj hy hq]; exact hx⟩, ⟨⟨y, ?_⟩, hit'.at fun o q => (sb.2 it (Ne.symm hne)).trans q, hne⟩, fun b hb => ?_⟩
    · have e1 : ((i + 1 : Nat) : Int) = (i : Int) + 1 := by omega
      rw [e1]; exact he'
    · have hb' : b < s.heap.objs.size := by
        have e' : b = e ∨ b = it := by simpa using hb
        rcases e' with z | z
        · rw [z]; exact hel
        · rw [z]; exact hil
      rw [upd_ne (Nat.ne_of_lt hb')]
      exact (hf b hb).1
  done := by
    intro X hP hw hK hc i pins s σ H E I hf st hg
    subst hP hw hK
    obtain ⟨⟨old, he⟩, hit, hne⟩ := st
    obtain ⟨xs, hq, hx⟩ := hg
    obtain ⟨its, rv, p, hz⟩ := I.tuple hq
    obtain ⟨f0, f1, f2, f3, f4, f5⟩ := hf it (by simp)
    have hl := rv.length
    exact enum_endT (I.ok.hd hc) he hit (show s.heap.IsTuple a its.toArray from p) (by simp; omega) fun h' eb => ⟨rfl, I.turned (t' := s.toks) (fun b o hb q => eb b o hb q) f0 f1 f3 f4 f5⟩
  self := fun A i s Q E st h => let ⟨⟨_, he⟩, _⟩ := st; wpAny_pyIter_enum he h
theorem pi_enumT {X : Cx} {e : Expr} {ta : TA} {p pos tpos : Pos} {elts : List Expr} {kk : Nat} (hg : Gl X "enumerate") (hm : X.mg "enumerate" = none) (ha : PA X [e] ta) (hs : starEach [e] X.env = [(false, eval e X.env)] := by rfl) :
    PI X (.Tuple elts kk tpos) (.Call (.Name "enumerate" p) [e] [] pos) (fun σ H R => ta σ H fun vs H1 => ∃ a xs, vs = [.ref a] ∧ ((SqL X.K H1 a xs ∧ R (Ite X.K a) H1) ∨ (SqT X.K H1 a xs ∧ R (IteT X.K a) H1))) := by
  refine ⟨fun pins s σ H R I h => ?_⟩
  refine Call_ (ld_blt I hg hm boot_enumerate (PyProof.Rows.callWith_type1 (thn (ha.run pos pins s σ H _ I h) fun us s1 ⟨vs, H1, I1, r1, q1⟩ => ?_) hs rfl))
  obtain ⟨a, xs, ex, q1⟩ := q1
  subst ex
  cases r1 with
  | cons r rr =>
    cases rr
    cases r
    have fp : ∀ b, b ∈ [s1.heap.objs.size + 1, s1.heap.objs.size] → FpOk X pins H1 b := fun b hb => by
      have e' : b = s1.heap.objs.size + 1 ∨ b = s1.heap.objs.size := by simpa using hb
      have hle : s1.heap.objs.size ≤ b := by
        rcases e' with z | z
        · rw [z]; exact Nat.le_add_right _ _
        · rw [z]; exact Nat.le_refl _
      exact I1.fpOk hle (I1.hok.fresh hle)
    rcases q1 with ⟨hq, q⟩ | ⟨hq, q⟩
    · obtain ⟨its, rv, p', hz⟩ := I1.list hq
      refine call_enumerate_list p'.isList fun h' he hit hsz hk => wpAny_pyIter_enum he ?_
      exact ⟨s1.heap.objs.size + 1, [s1.heap.objs.size + 1, s1.heap.objs.size], _, _, H1, rfl, I1.kept (t' := s1.toks) hk, turn_enum a (s1.heap.objs.size + 1) s1.heap.objs.size, ⟨⟨.none, he⟩, hit, Nat.succ_ne_self _⟩, fp, q⟩
    · obtain ⟨its, rv, p', hz⟩ := I1.tuple hq
      have hlt : a < s1.heap.objs.size := by obtain ⟨o, ho, _⟩ := p'; exact Heap.lt_size ho
      refine enum_begins1 (begins_tuple a its.toArray) (show s1.heap.IsTuple a its.toArray from p') fun h' he hit hsz hk => wpAny_pyIter_enum he ?_
      exact ⟨s1.heap.objs.size + 1, [s1.heap.objs.size + 1, s1.heap.objs.size], _, _, H1, rfl, I1.kept (t' := s1.toks) hk, turn_enumT a (s1.heap.objs.size + 1) s1.heap.objs.size (Nat.ne_of_lt hlt), ⟨⟨.none, he⟩, ⟨_, hit, rfl, rfl⟩, Nat.succ_ne_self _⟩, fp, q⟩
/-! enumerate, zip over data -/
def enumD : Nat → List D → List D
  | _, [] => []
  | i, d :: ds => .tup [.int (i : Nat), d] :: enumD (i + 1) ds
theorem enumD_get : ∀ (ds : List D) (k i : Nat), (enumD k ds)[i]? = (ds[i]?).map fun d => .tup [.int ((k + i : Nat) : Int), d]
  | [], _, _ => by simp [enumD]
  | d :: ds, k, 0 => by simp [enumD]
  | d :: ds, k, i + 1 => by
    simp only [enumD, List.getElem?_cons_succ]
    rw [enumD_get ds (k + 1) i, show k + 1 + i = k + (i + 1) by omega]
theorem enumD_len : ∀ (ds : List D) (k : Nat), (enumD k ds).length = ds.length
  | [], _ => rfl
  | d :: ds, k => by simp [enumD, enumD_len ds]
def iEnumD (ta : DTA) : DI := fun σ M Q => ta σ M fun ds M1 => match ds with
  | [.tup xs] => Q ⟨enumD 0 xs, fun _ => True⟩ M1
  | [.lst xs] => Q ⟨enumD 0 xs, fun _ => True⟩ M1
  | [.ref p] => ∃ xs, M1 p = some (.lst xs) ∧ Q ⟨enumD 0 xs, fun M => M p = some (.lst xs)⟩ M1
  | _ => False
section
variable {K : Gk} {H : Hp} {M : DM}
theorem pairNew {T : Addr} {x : V} {d : D} {i : Int} (m : MOk K H M) (hT : H T = none) (r : RD K H M d x) : Kp H M (upd H T (.tup [.int i, x])) M ∧ MOk K (upd H T (.tup [.int i, x])) M ∧ RD K (upd H T (.tup [.int i, x])) M (.tup [.int i, d]) (.ref T) :=
  ⟨.laid hT, m.laid hT, .tupNew m hT (.cons (.int i) (.cons r .nil))⟩
theorem enumGoT {a : Addr} {vs : List V} {xs : List D} {i : Nat} {d : D} (c : SqT K.K H a vs) (m : MOk K H M) (r : RDs K H M xs vs) (e : (enumD 0 xs)[i]? = some d) :
    (IteT K.K a).go i H ∧ ∀ x H', (IteT K.K a).yld i H x H' → Kp H M H' M ∧ MOk K H' M ∧ RD K H' M d x := by
  rw [enumD_get, Option.map_eq_some_iff] at e
  obtain ⟨d', e', rfl⟩ := e
  obtain ⟨v, hv, rv⟩ := r.get e'
  refine ⟨⟨vs, v, c, hv⟩, fun x H' ⟨T, x', hx, hT, hH, y⟩ => ?_⟩
  subst hx hH
  have e2 := (y vs c).symm.trans hv
  cases e2
  rw [Nat.zero_add]
  exact pairNew m hT rv
theorem enumGoL {a : Addr} {vs : List V} {xs : List D} {i : Nat} {d : D} (c : SqL K.K H a vs) (m : MOk K H M) (r : RDs K H M xs vs) (e : (enumD 0 xs)[i]? = some d) :
    (Ite K.K a).go i H ∧ ∀ x H', (Ite K.K a).yld i H x H' → Kp H M H' M ∧ MOk K H' M ∧ RD K H' M d x := by
  rw [enumD_get, Option.map_eq_some_iff] at e
  obtain ⟨d', e', rfl⟩ := e
  obtain ⟨v, hv, rv⟩ := r.get e'
  refine ⟨⟨vs, v, c, hv⟩, fun x H' ⟨T, x', hx, hT, hH, y⟩ => ?_⟩
  subst hx hH
  have e2 := (y vs c).symm.trans hv
  cases e2
  rw [Nat.zero_add]
  exact pairNew m hT rv
end
theorem di_enum {X : Cx} {e : Expr} {ta : DTA} {p pos tpos : Pos} {elts : List Expr} {kk : Nat} (hg : Gl X "enumerate") (hm : X.mg "enumerate" = none) (ha : DA X [e] ta) (hs : starEach [e] X.env = [(false, eval e X.env)] := by rfl) :
    DIr X (.Tuple elts kk tpos) (.Call (.Name "enumerate" p) [e] [] pos) (iEnumD ta) :=
  (pi_enumT hg hm ha hs).imp fun σ' H R ⟨σ, M, Q, S, m, q, g⟩ => ⟨σ, M, _, S, m, q, fun vs H1 ds M1 k1 m1 r1 q1 => by
    split at q1
    · rename_i xs
      obtain ⟨v, rfl, r⟩ := r1.one
      rw [RD] at r
      obtain ⟨a, vs, rfl, c, r⟩ := r
      refine ⟨a, vs, rfl, .inr ⟨sqT_of c, g _ _ _ _ k1 m1 ⟨fun H2 M2 k2 m2 _ => ⟨vs, SqT.kp c k2, by rw [r.len, enumD_len]; exact Nat.le_refl _⟩, fun i d H2 M2 k2 m2 _ e => enumGoT (SqT.kp c k2) m2 (r.kp k2) e⟩ q1⟩⟩
    · rename_i xs
      obtain ⟨v, rfl, r⟩ := r1.one
      rw [RD] at r
      obtain ⟨a, vs, rfl, c, n, r⟩ := r
      refine ⟨a, vs, rfl, .inl ⟨.of c, g _ _ _ _ k1 m1 ⟨fun H2 M2 k2 m2 _ => ⟨vs, .of (k2 _ _ c n).1, by rw [r.len, enumD_len]; exact Nat.le_refl _⟩, fun i d H2 M2 k2 m2 _ e => enumGoL (.of (k2 _ _ c n).1) m2 (r.kp k2) e⟩ q1⟩⟩
    · obtain ⟨xs, hp, q1⟩ := q1
      obtain ⟨v, rfl, r⟩ := r1.one
      obtain rfl := r.eq_ref
      obtain ⟨vs, c, r⟩ := m1.lstAt hp
      refine ⟨_, vs, rfl, .inl ⟨.of c, g _ _ _ _ k1 m1 ⟨fun H2 M2 k2 m2 ok => ?_, fun i d H2 M2 k2 m2 ok e => ?_⟩ q1⟩⟩
      · obtain ⟨vs2, c2, r2⟩ := m2.lstAt ok
        exact ⟨vs2, .of c2, by rw [r2.len, enumD_len]; exact Nat.le_refl _⟩
      · obtain ⟨vs2, c2, r2⟩ := m2.lstAt ok
        exact enumGoL (.of c2) m2 r2 e
    · exact q1.elim⟩
def zipD : List D → List D → List D
  | x :: xs, y :: ys => .tup [x, y] :: zipD xs ys
  | _, _ => []
theorem zipD_get : ∀ (xs ys : List D) (i : Nat) (d : D), (zipD xs ys)[i]? = some d → ∃ x y, xs[i]? = some x ∧ ys[i]? = some y ∧ d = .tup [x, y]
  | [], _, _, _, h => by simp [zipD] at h
  | _ :: _, [], _, _, h => by simp [zipD] at h
  | x :: xs, y :: ys, 0, d, h => by simp [zipD] at h; exact ⟨x, y, rfl, rfl, h.symm⟩
  | x :: xs, y :: ys, i + 1, d, h => by
    have h' : (zipD xs ys)[i]? = some d := by simpa [zipD] using h
    simpa using zipD_get xs ys i d h'
theorem zipD_len : ∀ (xs ys : List D), (zipD xs ys).length = min xs.length ys.length
  | [], _ => by simp [zipD]
  | _ :: _, [] => by simp [zipD]
  | x :: xs, y :: ys => by simp [zipD, zipD_len xs ys]
def iZipD (ta : DTA) : DI := fun σ M Q => ta σ M fun ds M1 => match ds with
  | [.tup xs, .tup ys] => Q ⟨zipD xs ys, fun _ => True⟩ M1
  | [.lst xs, .lst ys] => Q ⟨zipD xs ys, fun _ => True⟩ M1
  | _ => False
section
variable {K : Gk} {H : Hp} {M : DM}
theorem zipGoT {a b : Addr} {vs ws : List V} {xs ys : List D} {i : Nat} {d : D} (c1 : SqT K.K H a vs) (c2 : SqT K.K H b ws) (m : MOk K H M) (r1 : RDs K H M xs vs) (r2 : RDs K H M ys ws) (e : (zipD xs ys)[i]? = some d) :
    (RZ.ItzT K.K a b).go i H ∧ ∀ x H', (RZ.ItzT K.K a b).yld i H x H' → Kp H M H' M ∧ MOk K H' M ∧ RD K H' M d x := by
  obtain ⟨x, y, ex, ey, rfl⟩ := zipD_get xs ys i d e
  obtain ⟨v, hv, rv⟩ := r1.get ex
  obtain ⟨w, hw, rw'⟩ := r2.get ey
  refine ⟨⟨vs, ws, v, w, c1, c2, hv, hw⟩, fun x H' ⟨T, x', y', hx, hT, hH, f1, f2⟩ => ?_⟩
  subst hx hH
  have e2 := (f1 vs c1).symm.trans hv
  cases e2
  have e3 := (f2 ws c2).symm.trans hw
  cases e3
  exact ⟨.laid hT, m.laid hT, .tupNew m hT (.cons rv (.cons rw' .nil))⟩
theorem zipGoL {a b : Addr} {vs ws : List V} {xs ys : List D} {i : Nat} {d : D} (c1 : SqL K.K H a vs) (c2 : SqL K.K H b ws) (m : MOk K H M) (r1 : RDs K H M xs vs) (r2 : RDs K H M ys ws) (e : (zipD xs ys)[i]? = some d) :
    (Itz K.K a b).go i H ∧ ∀ x H', (Itz K.K a b).yld i H x H' → Kp H M H' M ∧ MOk K H' M ∧ RD K H' M d x := by
  obtain ⟨x, y, ex, ey, rfl⟩ := zipD_get xs ys i d e
  obtain ⟨v, hv, rv⟩ := r1.get ex
  obtain ⟨w, hw, rw'⟩ := r2.get ey
  refine ⟨⟨vs, ws, v, w, c1, c2, hv, hw⟩, fun x H' ⟨T, x', y', hx, hT, hH, f1, f2⟩ => ?_⟩
  subst hx hH
  have e2 := (f1 vs c1).symm.trans hv
  cases e2
  have e3 := (f2 ws c2).symm.trans hw
  cases e3
  exact ⟨.laid hT, m.laid hT, .tupNew m hT (.cons rv (.cons rw' .nil))⟩
end
theorem di_zip {X : Cx} {e e2 : Expr} {ta : DTA} {p pos tpos : Pos} {elts : List Expr} {kk : Nat} (hg : Gl X "zip") (hm : X.mg "zip" = none) (ha : DA X [e, e2] ta)
    (hs : starEach [e, e2] X.env = (false, eval e X.env) :: starEach [e2] X.env := by rfl) (hpl : (backTo pos (starEach [e2] X.env)).any (·.1) = false := by rfl) :
    DIr X (.Tuple elts kk tpos) (.Call (.Name "zip" p) [e, e2] [] pos) (iZipD ta) :=
  (RZ.pi_zipA hg hm ha hs hpl).imp fun σ' H R ⟨σ, M, Q, S, m, q, g⟩ => ⟨σ, M, _, S, m, q, fun vs H1 ds M1 k1 m1 r1 q1 => by
    split at q1
    · rename_i xs ys
      obtain ⟨v, w, rfl, r, r'⟩ := r1.two
      rw [RD] at r r'
      obtain ⟨a, vs, rfl, c, r⟩ := r
      obtain ⟨b, ws, rfl, c', r'⟩ := r'
      refine ⟨a, b, vs, ws, rfl, .inr ⟨sqT_of c, sqT_of c', g _ _ _ _ k1 m1 ⟨fun H2 M2 k2 m2 _ => ⟨vs, ws, SqT.kp c k2, SqT.kp c' k2, by rw [zipD_len, ← r.len, ← r'.len]; omega⟩, fun i d H2 M2 k2 m2 _ e => zipGoT (SqT.kp c k2) (SqT.kp c' k2) m2 (r.kp k2) (r'.kp k2) e⟩ q1⟩⟩
    · rename_i xs ys
      obtain ⟨v, w, rfl, r, r'⟩ := r1.two
      rw [RD] at r r'
      obtain ⟨a, vs, rfl, c, n, r⟩ := r
      obtain ⟨b, ws, rfl, c', n', r'⟩ := r'
      refine ⟨a, b, vs, ws, rfl, .inl ⟨.of c, .of c', g _ _ _ _ k1 m1 ⟨fun H2 M2 k2 m2 _ => ⟨vs, ws, .of (k2 _ _ c n).1, .of (k2 _ _ c' n').1, by rw [zipD_len, ← r.len, ← r'.len]; omega⟩, fun i d H2 M2 k2 m2 _ e => zipGoL (.of (k2 _ _ c n).1) (.of (k2 _ _ c' n').1) m2 (r.kp k2) (r'.kp k2) e⟩ q1⟩⟩
    · exact q1.elim⟩
end DL

namespace DL
open PySem PySem.Spec PyProof.Rows L2
/-! ### built-ins by name -/
abbrev DR1 := List D → DM → DK → Prop
def upC (K : Gk) (r : DR1) : List V → Hp → VK → Prop := fun vs H R => ∃ ds M Q, RDs K H M ds vs ∧ MOk K H M ∧ r ds M Q ∧ Get K H M Q R
def dB (r : DR1) (t : DTA) : DT := fun σ M Q => t σ M fun ds M1 => r ds M1 Q
section
variable {X : Cx} {x : Str} {p pos : Pos} {e : Expr} {es : List Expr} {t : DTA} {id T : String} {r : DR1}
theorem de_B (hc : CallR X (.builtin id) (upC X.gk r)) (hg : Gl X x) (hm : X.mg x = none) (hv : bootBuiltins x = some (.builtin id)) (ha : DA X (e :: es) t) (hn : x ≠ "__name__" := by decide) (hdb : (x == ("__debug__" : Str)) = false := by decide)
    (he : starEach (e :: es) X.env = (false, eval e X.env) :: starEach es X.env := by rfl) (hpl : (backTo pos (starEach es X.env)).any (·.1) = false := by rfl) : DE X (.Call (.Name x p) (e :: es) [] pos) (dB r t) :=
  (pe_callB hc hg hm hv ha hn hdb he hpl).imp fun σ' H R ⟨σ, M, Q, S, m, q, g⟩ => ⟨σ, M, _, S, m, q, fun vs H1 ds M1 k1 m1 r1 q1 => ⟨ds, M1, Q, r1, m1, q1, g.of k1⟩⟩
theorem de_T (hc : CallR X (.type T) (upC X.gk r)) (hg : Gl X x) (hm : X.mg x = none) (hv : bootBuiltins x = some (.type T)) (ha : DA X (e :: es) t) (hn : x ≠ "__name__" := by decide) (hdb : (x == ("__debug__" : Str)) = false := by decide)
    (he : starEach (e :: es) X.env = (false, eval e X.env) :: starEach es X.env := by rfl) (hpl : (backTo pos (starEach es X.env)).any (·.1) = false := by rfl) : DE X (.Call (.Name x p) (e :: es) [] pos) (dB r t) :=
  (pe_callTy hc hg hm hv ha hn hdb he hpl).imp fun σ' H R ⟨σ, M, Q, S, m, q, g⟩ => ⟨σ, M, _, S, m, q, fun vs H1 ds M1 k1 m1 r1 q1 => ⟨ds, M1, Q, r1, m1, q1, g.of k1⟩⟩
def rLen : DR1 := fun ds M Q => match ds with
  | [.tup xs] => Q (.int xs.length) M
  | [.lst xs] => Q (.int xs.length) M
  | [.fz xs] => Q (.int xs.length) M
  | [.str z] => z.length ≤ sizeLine ∧ Q (.int z.length) M
  | [.ref p] => (∃ xs, M p = some (.lst xs) ∧ Q (.int xs.length) M) ∨ ∃ kvs, M p = some (.dN kvs) ∧ Q (.int kvs.length) M
  | _ => False
theorem c_len : CallR X (.builtin "len") (upC X.gk rLen) := by
  intro pins s σ' H vs us R I rv h
  obtain ⟨ds, M, Q, r0, m, q, g⟩ := h
  unfold rLen at q
  split at q
  · obtain ⟨v, rfl, r⟩ := r0.one
    obtain ⟨a, ws, rfl, c, r⟩ := r.tupAt
    exact call_len_seq pins s σ' H _ us R I rv ⟨a, ws, rfl, .inr c, g _ _ _ _ .refl m (.int _) (by rw [r.len]; exact q)⟩
  · obtain ⟨v, rfl, r⟩ := r0.one
    obtain ⟨a, ws, rfl, c, r⟩ := r.lstAt
    exact call_len_seq pins s σ' H _ us R I rv ⟨a, ws, rfl, .inl (.of c), g _ _ _ _ .refl m (.int _) (by rw [r.len]; exact q)⟩
  · obtain ⟨v, rfl, r⟩ := r0.one
    obtain ⟨a, ws, rfl, c, r⟩ := r.fzAt
    exact call_len_seq pins s σ' H _ us R I rv ⟨a, ws, rfl, .inl c, g _ _ _ _ .refl m (.int _) (by rw [r.len]; exact q)⟩
  · obtain ⟨v, rfl, r⟩ := r0.one
    obtain rfl := r.eq_str
    exact call_len_str pins s σ' H _ us R I rv ⟨_, rfl, q.1, g _ _ _ _ .refl m (.int _) q.2⟩
  · obtain ⟨v, rfl, r⟩ := r0.one
    obtain rfl := r.eq_ref
    rcases q with ⟨xs, hp, q⟩ | ⟨kvs, hp, q⟩
    · obtain ⟨ws, c, r⟩ := m.lstAt hp
      exact call_len_seq pins s σ' H _ us R I rv ⟨_, ws, rfl, .inl (.of c), g _ _ _ _ .refl m (.int _) (by rw [r.len]; exact q)⟩
    · obtain ⟨u, rfl, ru⟩ := rv.one
      cases ru
      exact len_dN I m hp fun t s' I' => ⟨.int _, H, I', ⟨t, rfl⟩, g _ _ _ _ .refl m (.int _) q⟩
  · exact q.elim
def rMin : DR1 := fun ds M Q => match ds with
  | [.int i, .int j] => Q (.int (if j < i then j else i)) M
  | _ => False
def rMax : DR1 := fun ds M Q => match ds with
  | [.int i, .int j] => Q (.int (if j > i then j else i)) M
  | _ => False
theorem c_min (hc : X.calm = true) : CallR X (.builtin "min") (upC X.gk rMin) := by
  intro pins s σ' H vs us R I rv h
  obtain ⟨ds, M, Q, r0, m, q, g⟩ := h
  unfold rMin at q
  split at q
  · obtain ⟨v, w, rfl, r, r'⟩ := r0.two
    obtain rfl := r.eq_int
    obtain rfl := r'.eq_int
    exact call_min2 hc pins s σ' H _ us R I rv ⟨_, _, rfl, g _ _ _ _ .refl m (.int _) q⟩
  · exact q.elim
theorem c_max (hc : X.calm = true) : CallR X (.builtin "max") (upC X.gk rMax) := by
  intro pins s σ' H vs us R I rv h
  obtain ⟨ds, M, Q, r0, m, q, g⟩ := h
  unfold rMax at q
  split at q
  · obtain ⟨v, w, rfl, r, r'⟩ := r0.two
    obtain rfl := r.eq_int
    obtain rfl := r'.eq_int
    exact call_max2 hc pins s σ' H _ us R I rv ⟨_, _, rfl, g _ _ _ _ .refl m (.int _) q⟩
  · exact q.elim
def rInt : DR1 := fun ds M Q => match ds with
  | [.int i] => Q (.int i) M
  | [.bl b] => Q (.int (if b then 1 else 0)) M
  | _ => False
theorem c_int : CallR X (.type "int") (upC X.gk rInt) := by
  intro pins s σ' H vs us R I rv h
  obtain ⟨ds, M, Q, r0, m, q, g⟩ := h
  unfold rInt at q
  split at q
  · obtain ⟨v, rfl, r⟩ := r0.one
    obtain rfl := r.eq_int
    exact call_int1 pins s σ' H _ us R I rv (.inl ⟨_, rfl, g _ _ _ _ .refl m (.int _) q⟩)
  · obtain ⟨v, rfl, r⟩ := r0.one
    obtain rfl := r.eq_bl
    exact call_int1 pins s σ' H _ us R I rv (.inr ⟨_, rfl, g _ _ _ _ .refl m (.int _) q⟩)
  · exact q.elim
def rTuple : DR1 := fun ds M Q => match ds with
  | [.tup xs] => Q (.tup xs) M
  | [.lst xs] => Q (.tup xs) M
  | [.ref p] => ∃ xs, M p = some (.lst xs) ∧ Q (.tup xs) M
  | _ => False
theorem c_tuple : CallR X (.type "tuple") (upC X.gk rTuple) := by
  intro pins s σ' H vs us R I rv h
  obtain ⟨ds, M, Q, r0, m, q, g⟩ := h
  unfold rTuple at q
  split at q
  · obtain ⟨v, rfl, r⟩ := r0.one
    obtain ⟨a, ws, rfl, c, rs⟩ := r.tupAt
    exact call_tuple_of pins s σ' H _ us R I rv ⟨a, ws, rfl, .inr ⟨c, g _ _ _ _ .refl m r q⟩⟩
  · obtain ⟨v, rfl, r⟩ := r0.one
    obtain ⟨a, ws, rfl, c, rs⟩ := r.lstAt
    exact call_tuple_of pins s σ' H _ us R I rv ⟨a, ws, rfl, .inl ⟨.of c, fun l hl => g _ _ _ _ (.laid hl) (m.laid hl) (.tupNew m hl rs) q⟩⟩
  · obtain ⟨xs, hp, q⟩ := q
    obtain ⟨v, rfl, r⟩ := r0.one
    obtain rfl := r.eq_ref
    obtain ⟨ws, c, rs⟩ := m.lstAt hp
    exact call_tuple_of pins s σ' H _ us R I rv ⟨_, ws, rfl, .inl ⟨.of c, fun l hl => g _ _ _ _ (.laid hl) (m.laid hl) (.tupNew m hl rs) q⟩⟩
  · exact q.elim
/-- list(x): settled; to be changed -/
def rList : DR1 := fun ds M Q => match ds with
  | [.tup xs] => Q (.lst xs) M
  | [.lst xs] => Q (.lst xs) M
  | [.ref p] => ∃ xs, M p = some (.lst xs) ∧ Q (.lst xs) M
  | _ => False
def rListM : DR1 := fun ds M Q => match ds with
  | [.tup xs] => ∀ p, M p = none → Q (.ref p) (um M p (.lst xs))
  | [.lst xs] => ∀ p, M p = none → Q (.ref p) (um M p (.lst xs))
  | [.ref a] => ∃ xs, M a = some (.lst xs) ∧ ∀ p, M p = none → Q (.ref p) (um M p (.lst xs))
  | _ => False
theorem c_list : CallR X (.type "list") (upC X.gk rList) := by
  intro pins s σ' H vs us R I rv h
  obtain ⟨ds, M, Q, r0, m, q, g⟩ := h
  unfold rList at q
  split at q
  · obtain ⟨v, rfl, r⟩ := r0.one
    obtain ⟨a, ws, rfl, c, rs⟩ := r.tupAt
    exact call_list_of pins s σ' H _ us R I rv ⟨a, ws, rfl, .inr c, fun l hl => g _ _ _ _ (.laid hl) (m.laid hl) (.lstNew m hl rs) q⟩
  · obtain ⟨v, rfl, r⟩ := r0.one
    obtain ⟨a, ws, rfl, c, rs⟩ := r.lstAt
    exact call_list_of pins s σ' H _ us R I rv ⟨a, ws, rfl, .inl (.of c), fun l hl => g _ _ _ _ (.laid hl) (m.laid hl) (.lstNew m hl rs) q⟩
  · obtain ⟨xs, hp, q⟩ := q
    obtain ⟨v, rfl, r⟩ := r0.one
    obtain rfl := r.eq_ref
    obtain ⟨ws, c, rs⟩ := m.lstAt hp
    exact call_list_of pins s σ' H _ us R I rv ⟨_, ws, rfl, .inl (.of c), fun l hl => g _ _ _ _ (.laid hl) (m.laid hl) (.lstNew m hl rs) q⟩
  · exact q.elim
theorem c_listM : CallR X (.type "list") (upC X.gk rListM) := by
  intro pins s σ' H vs us R I rv h
  obtain ⟨ds, M, Q, r0, m, q, g⟩ := h
  unfold rListM at q
  split at q
  · obtain ⟨v, rfl, r⟩ := r0.one
    obtain ⟨a, ws, rfl, c, rs⟩ := r.tupAt
    exact call_list_of pins s σ' H _ us R I rv ⟨a, ws, rfl, .inr c, fun l hl => g _ _ _ _ (.made hl) (m.made hl (lstMade hl rs)) (.ref l) (q l (m.noneAt hl))⟩
  · obtain ⟨v, rfl, r⟩ := r0.one
    obtain ⟨a, ws, rfl, c, rs⟩ := r.lstAt
    exact call_list_of pins s σ' H _ us R I rv ⟨a, ws, rfl, .inl (.of c), fun l hl => g _ _ _ _ (.made hl) (m.made hl (lstMade hl rs)) (.ref l) (q l (m.noneAt hl))⟩
  · obtain ⟨xs, hp, q⟩ := q
    obtain ⟨v, rfl, r⟩ := r0.one
    obtain rfl := r.eq_ref
    obtain ⟨ws, c, rs⟩ := m.lstAt hp
    exact call_list_of pins s σ' H _ us R I rv ⟨_, ws, rfl, .inl (.of c), fun l hl => g _ _ _ _ (.made hl) (m.made hl (lstMade hl rs)) (.ref l) (q l (m.noneAt hl))⟩
  · exact q.elim
theorem RDs.map_bl {K : Gk} {H : Hp} {M : DM} {xs : List Bool} : ∀ {vs : List V}, RDs K H M (xs.map .bl) vs → vs = xs.map V.bl := by
  induction xs with
  | nil => intro vs h; exact h.none
  | cons x xs ih =>
    intro vs h
    rw [List.map_cons, RDs] at h
    obtain ⟨v, r, e, h1, h2⟩ := h
    rw [e, h1.eq_bl, ih h2]; rfl
def rAll : DR1 := fun ds M Q => match ds with
  | [.lst xs] => ∃ bs : List Bool, xs = bs.map .bl ∧ Q (.bl (bs.all fun b => b)) M
  | _ => False
def rAny : DR1 := fun ds M Q => match ds with
  | [.lst xs] => ∃ bs : List Bool, xs = bs.map .bl ∧ Q (.bl (bs.any fun b => b)) M
  | _ => False
theorem c_all (hc : X.calm = true) : CallR X (.builtin "all") (upC X.gk rAll) := by
  intro pins s σ' H vs us R I rv h
  obtain ⟨ds, M, Q, r0, m, q, g⟩ := h
  unfold rAll at q
  split at q
  · obtain ⟨bs, rfl, q⟩ := q
    obtain ⟨v, rfl, r⟩ := r0.one
    obtain ⟨a, ws, rfl, c, rs⟩ := r.lstAt
    rw [rs.map_bl] at c
    exact cr_all hc pins s σ' H _ us R I rv ⟨a, bs, rfl, .of c, g _ _ _ _ .refl m (.bl _) q⟩
  · exact q.elim
theorem c_any (hc : X.calm = true) : CallR X (.builtin "any") (upC X.gk rAny) := by
  intro pins s σ' H vs us R I rv h
  obtain ⟨ds, M, Q, r0, m, q, g⟩ := h
  unfold rAny at q
  split at q
  · obtain ⟨bs, rfl, q⟩ := q
    obtain ⟨v, rfl, r⟩ := r0.one
    obtain ⟨a, ws, rfl, c, rs⟩ := r.lstAt
    rw [rs.map_bl] at c
    exact cr_any hc pins s σ' H _ us R I rv ⟨a, bs, rfl, .of c, g _ _ _ _ .refl m (.bl _) q⟩
  · exact q.elim
def rSum : DR1 := fun ds M Q => match ds with
  | [.lst xs] => ∃ ns : List Int, xs = ns.map .int ∧ Q (.int ns.sum) M
  | _ => False
theorem c_sum (hc : X.calm = true) : CallR X (.builtin "sum") (upC X.gk rSum) := by
  intro pins s σ' H vs us R I rv h
  obtain ⟨ds, M, Q, r0, m, q, g⟩ := h
  unfold rSum at q
  split at q
  · obtain ⟨ns, rfl, q⟩ := q
    obtain ⟨v, rfl, r⟩ := r0.one
    obtain ⟨a, ws, rfl, c, rs⟩ := r.lstAt
    rw [rs.map_int] at c
    exact cr_sum hc pins s σ' H _ us R I rv ⟨a, ns, rfl, .of c, g _ _ _ _ .refl m (.int _) q⟩
  · exact q.elim
/-! isinstance -/
inductive Tn where
  | int | bool | str | tuple
def Tn.nm : Tn → String
  | .int => "int"
  | .bool => "bool"
  | .str => "str"
  | .tuple => "tuple"
def isi : Tn → D → Bool
  | .int, .int _ => true
  | .int, .bl _ => true
  | .bool, .bl _ => true
  | .str, .str _ => true
  | .tuple, .tup _ => true
  | _, _ => false
theorem kits : ∀ T : Tn, kitB "NoneType" T.nm = some false ∧ kitB "bool" T.nm = some (isi T (.bl true)) ∧ kitB "int" T.nm = some (isi T (.int 0)) ∧ kitB "str" T.nm = some (isi T (.str "")) ∧ kitB "tuple" T.nm = some (isi T (.tup [])) ∧ kitB "list" T.nm = some false ∧ kitB "dict" T.nm = some false
  | .int => by decide +kernel
  | .bool => by decide +kernel
  | .str => by decide +kernel
  | .tuple => by decide +kernel
theorem tyx_of {K : Gk} {H : Hp} {M : DM} (T : Tn) : ∀ (d : D) (v : V), RD K H M d v → (∀ p, d ≠ .ref p) → (∀ n, d ≠ .ty n) → ∃ t, TyX K.K H v (.type t) ∧ kitB t T.nm = some (isi T d)
  | .non, v, h, _, _ => by obtain rfl := h.eq_non; exact ⟨_, .base .non, by rw [(kits T).1]; cases T <;> rfl⟩
  | .bl b, v, h, _, _ => by obtain rfl := h.eq_bl; exact ⟨_, .base (.bl b), by rw [(kits T).2.1]; cases T <;> rfl⟩
  | .int i, v, h, _, _ => by obtain rfl := h.eq_int; exact ⟨_, .base (.int i), by rw [(kits T).2.2.1]; cases T <;> rfl⟩
  | .str x, v, h, _, _ => by obtain rfl := h.eq_str; exact ⟨_, .base (.str x), by rw [(kits T).2.2.2.1]; cases T <;> rfl⟩
  | .tup xs, v, h, _, _ => by
    rw [RD] at h
    obtain ⟨a, vs, rfl, c, r⟩ := h
    refine ⟨"tuple", ?_, by rw [(kits T).2.2.2.2.1]; cases T <;> rfl⟩
    rcases c with ⟨c | ⟨o, c⟩, _⟩ | ⟨o, its, n, hk, hc, _⟩
    · exact .base (.tup c)
    · exact .fTuple c
    · exact .kTuple hk hc
  | .lst xs, v, h, _, _ => by
    rw [RD] at h
    obtain ⟨a, vs, rfl, c, _, r⟩ := h
    exact ⟨"list", .base (.lst c), by rw [(kits T).2.2.2.2.2.1]; cases T <;> rfl⟩
  | .fz xs, v, h, _, _ => by
    rw [RD] at h
    obtain ⟨a, vs, rfl, c, r⟩ := h
    refine ⟨"list", ?_, by rw [(kits T).2.2.2.2.2.1]; cases T <;> rfl⟩
    rcases c with ⟨c | ⟨o, c⟩, _⟩ | ⟨o, its, n, hk, hc, _⟩
    · exact .base (.lst c)
    · exact .base (.frz c)
    · exact .kList hk hc
  | .ref p, _, _, h, _ => absurd rfl (h p)
  | .ty n, _, _, _, h => absurd rfl (h n)
def rIsi (T : Tn) : DR1 := fun ds M Q => match ds with
  | [.ref p, .ty n] => n = T.nm ∧ (∃ xs, M p = some (.lst xs)) ∧ Q (.bl false) M
  | [.ty _, .ty _] => False
  | [d, .ty n] => n = T.nm ∧ Q (.bl (isi T d)) M
  | _ => False
theorem c_isi (T : Tn) : CallR X (.builtin "isinstance") (upC X.gk (rIsi T)) := by
  intro pins s σ' H vs us R I rv h
  obtain ⟨ds, M, Q, r0, m, q, g⟩ := h
  unfold rIsi at q
  split at q
  · obtain ⟨rfl, ⟨xs, hp⟩, q⟩ := q
    obtain ⟨v, w, rfl, r, r'⟩ := r0.two
    rw [RD] at r'
    subst r'
    obtain rfl := r.eq_ref
    obtain ⟨ws, c, rs⟩ := m.lstAt hp
    exact call_isi pins s σ' H _ us R I rv ⟨_, _, _, _, _, rfl, .ty T.nm, .base (.lst c), kit_ty (kits T).2.2.2.2.2.1, g _ _ _ _ .refl m (.bl _) q⟩
  · exact q.elim
  · rename_i d n h1 h2
    obtain ⟨rfl, q⟩ := q
    obtain ⟨v, w, rfl, r, r'⟩ := r0.two
    rw [RD] at r'
    subst r'
    obtain ⟨t, ty, e⟩ := tyx_of T d v r (fun p e => h1 p e) (fun n e => h2 n e)
    exact call_isi pins s σ' H _ us R I rv ⟨_, _, _, _, _, rfl, .ty T.nm, ty, kit_ty e, g _ _ _ _ .refl m (.bl _) q⟩
  · exact q.elim
theorem de_ty {n : String} (hg : Gl X x) (hm : X.mg x = none) (hv : bootBuiltins x = some (.type n)) (hn : x ≠ "__name__" := by decide) (hd : (x == ("__debug__" : Str)) = false := by decide) : DE X (.Name x pos) (dC (.ty n)) :=
  de_c (pe_bltn (v := .ty n) hg hm hv rfl hn hd) fun _ _ _ => by rw [RD]
end
/-! ### methods of built-in types -/
def upM (K : Gk) (r : D → DR1) : V → List V → Hp → VK → Prop := fun x xs H R => ∃ d ds M Q, RD K H M d x ∧ RDs K H M ds xs ∧ MOk K H M ∧ r d ds M Q ∧ Get K H M Q R
/-- a list's method -/
def dBML (r : D → DR1) (to : DT) (t : DTA) : DT := fun σ M Q => to σ M fun d M1 => match d with
  | .lst _ => t σ M1 fun ds M2 => r d ds M2 Q
  | .ref p => (∃ xs, M1 p = some (.lst xs)) ∧ t σ M1 fun ds M2 => r d ds M2 Q
  | _ => False
def dBMS (r : D → DR1) (to : DT) (t : DTA) : DT := fun σ M Q => to σ M fun d M1 => match d with
  | .str _ => t σ M1 fun ds M2 => r d ds M2 Q
  | _ => False
section
variable {X : Cx} {o e : Expr} {es : List Expr} {to : DT} {t : DTA} {name : Str} {apos cpos : Pos} {id : String} {r : D → DR1}
theorem bml2 {σ' : L2.St} {H : Hp} {R : VK} {tA : TA} (e : tA = upA X.gk t) (h : up X.gk (dBML r to t) σ' H R) : tBM X.K "list" (upM X.gk r) (up X.gk to) tA σ' H R := by
  subst e
  obtain ⟨σ, M, Q, S, m, q, g⟩ := h
  refine ⟨σ, M, _, S, m, q, fun v H1 d M1 k1 m1 r1 q1 => ?_⟩
  split at q1
  · obtain ⟨a, vs, rfl, c, rs⟩ := r1.lstAt
    exact ⟨.inl ⟨rfl, _, .of c⟩, σ, M1, _, S.kp k1, m1, q1, fun ws H2 es M2 k2 m2 r2 q2 => ⟨_, es, M2, Q, r1.kp k2, r2, m2, q2, g.of (k1.trans k2)⟩⟩
  · obtain ⟨⟨xs, hp⟩, q1⟩ := q1
    obtain rfl := r1.eq_ref
    obtain ⟨vs, c, rs⟩ := m1.lstAt hp
    exact ⟨.inl ⟨rfl, _, .of c⟩, σ, M1, _, S.kp k1, m1, q1, fun ws H2 es M2 k2 m2 r2 q2 => ⟨_, es, M2, Q, .ref _, r2, m2, q2, g.of (k1.trans k2)⟩⟩
  · exact q1.elim
theorem de_bml (pa : PlainAttrs "list") (slot : Slot "list" name id) (hty : typeOf (.builtin id) = pure (.type "method_descriptor")) (hm : MtR X id (upM X.gk r)) (ho : DE X o to) (ha : DA X (e :: es) t)
    (hbase : attributeBase o name X.env (eval o X.env) = eval o X.env := by rfl)
    (hfew : ((backTo cpos (starEach (e :: es) X.env)).all (fun x => !x.1) && (backToKw cpos (keywordEach [] X.env)).all (fun x => x.1.isSome)
      && decide ((e :: es).length + ([] : List Keyword).length + (if ([] : List Keyword).isEmpty then 0 else 1) < 30)) = true := by rfl)
    (hline : (apos.endLine == cpos.line) = true := by rfl) (hs : starEach (e :: es) X.env = (false, eval e X.env) :: starEach es X.env := by rfl) (hplain : (backTo cpos (starEach es X.env)).any (·.1) = false := by rfl) :
    DE X (.Call (.Attribute o name apos) (e :: es) [] cpos) (dBML r to t) := (pe_bm pa slot hty hm ho ha hbase hfew hline hs hplain).imp fun _ _ _ h => bml2 rfl h
def rAppend : D → DR1 := fun d ds M Q => match d, ds with
  | .ref p, [x] => ∃ xs, M p = some (.lst xs) ∧ xs.length < sizeLine ∧ Q .non (um M p (.lst (xs ++ [x])))
  | _, _ => False
theorem m_append : MtR X "list.append" (upM X.gk rAppend) := by
  intro pins s σ' H x xs v us R I rx rs h
  obtain ⟨d, ds, M, Q, h1, h20, m, q, g⟩ := h
  unfold rAppend at q
  split at q
  · obtain ⟨ys, hp, hz, q⟩ := q
    obtain rfl := h1.eq_ref
    obtain ⟨w, rfl, h2⟩ := h20.one
    obtain ⟨vs, c, r⟩ := m.lstAt hp
    exact mt_append pins s σ' H _ _ v us R I rx rs ⟨_, vs, w, rfl, rfl, c, by rw [r.len]; exact hz, g _ _ _ _ (.wrote hp) (m.wrote hp (lstWrote hp (r.append (.cons h2 .nil)))) .non q⟩
  · exact q.elim
/-- xs.pop(i) -/
def rPopAt : D → DR1 := fun d ds M Q => match d, ds with
  | .ref p, [.int i] => ∃ xs y, M p = some (.lst xs) ∧ 0 ≤ i ∧ i < 2 ^ 63 ∧ xs[i.toNat]? = some y ∧ Q y (um M p (.lst (xs.eraseIdx i.toNat)))
  | _, _ => False
theorem RDs.erase {K : Gk} {H : Hp} {M : DM} : ∀ {ds : List D} {vs : List V} (n : Nat), RDs K H M ds vs → RDs K H M (ds.eraseIdx n) (vs.eraseIdx n)
  | [], _, n, h => by rw [RDs] at h; subst h; simp [RDs]
  | e :: ds, vs, n, h => by
    rw [RDs] at h
    obtain ⟨w, r, e1, h1, h2⟩ := h
    subst e1
    cases n with
    | zero => exact h2
    | succ n => exact .cons h1 (RDs.erase n h2)
theorem m_popAt : MtR X "list.pop" (upM X.gk rPopAt) := by
  intro pins s σ' H x xs v us R I rx rs h
  obtain ⟨d, ds, M, Q, h1, h20, m, q, g⟩ := h
  unfold rPopAt at q
  split at q
  · rename_i p i
    obtain ⟨ys, y, hp, hi, hz, hy, q⟩ := q
    obtain rfl := h1.eq_ref
    obtain ⟨w, rfl, h2⟩ := h20.one
    obtain rfl := h2.eq_int
    obtain ⟨vs, c, r⟩ := m.lstAt hp
    obtain ⟨u, hu, ru⟩ := r.get hy
    have hlt : i.toNat < vs.length := (List.getElem?_eq_some_iff.mp hu).1
    have he : seqIndex? i vs.length = some i.toNat := seqIndex_of hi (by omega)
    exact mt_popAt pins s σ' H _ _ v us R I rx rs ⟨p, vs, i, i.toNat, u, rfl, rfl, c, by omega, hz, he, hu, g _ _ _ _ (.wrote hp) (m.wrote hp (lstWrote hp (r.erase _))) (ru.kp (.wrote hp)) q⟩
  · exact q.elim
end
/-! ### a dict's methods (tuples as keys) -/
def dBMN (r : D → DR1) (to : DT) (t : DTA) : DT := fun σ M Q => to σ M fun d M1 => match d with
  | .ref p => (∃ kvs, M1 p = some (.dN kvs)) ∧ t σ M1 fun ds M2 => r d ds M2 Q
  | _ => False
section
variable {X : Cx} {o e : Expr} {es : List Expr} {to : DT} {t : DTA} {name : Str} {apos cpos : Pos} {id : String} {r : D → DR1}
theorem de_bmn (pa : PlainAttrs "dict") (slot : Slot "dict" name id) (hty : typeOf (.builtin id) = pure (.type "method_descriptor")) (hm : MtR X id (upM X.gk r)) (ho : DE X o to) (ha : DA X (e :: es) t)
    (hbase : attributeBase o name X.env (eval o X.env) = eval o X.env := by rfl)
    (hfew : ((backTo cpos (starEach (e :: es) X.env)).all (fun x => !x.1) && (backToKw cpos (keywordEach [] X.env)).all (fun x => x.1.isSome)
      && decide ((e :: es).length + ([] : List Keyword).length + (if ([] : List Keyword).isEmpty then 0 else 1) < 30)) = true := by rfl)
    (hline : (apos.endLine == cpos.line) = true := by rfl) (hs : starEach (e :: es) X.env = (false, eval e X.env) :: starEach es X.env := by rfl) (hplain : (backTo cpos (starEach es X.env)).any (·.1) = false := by rfl) :
    DE X (.Call (.Attribute o name apos) (e :: es) [] cpos) (dBMN r to t) := by
  refine ⟨fun pins s σ' H R I h => ?_⟩
  obtain ⟨σ, M, Q, S, m, q, g⟩ := h
  refine wpAny_Call_method_late hbase hfew hline rfl (thn (ho.run pins s σ' H (fun v H1 => ∃ p M1, v = .ref p ∧ Kp H M H1 M1 ∧ MOk X.gk H1 M1 ∧ (∃ kvs, M1 p = some (.dN kvs)) ∧ t σ M1 fun ds M2 => r (.ref p) ds M2 Q) I ⟨σ, M, _, S, m, q, fun v H1 d M1 k1 m1 r1 q1 => ?_⟩) fun v s1 ⟨x, H1, I1, r1, p, M1, ex, k1, m1, ⟨kvs, hp⟩, q1⟩ => ?_)
  · split at q1
    · exact ⟨_, M1, r1.eq_ref, k1, m1, q1.1, q1.2⟩
    · exact q1.elim
  subst ex
  cases r1
  obtain ⟨xs, ys, hH, hE, hV, ⟨ob, es', ep, hob, hx, _⟩, hs', hl⟩ := dn_heap I1 m1 hp
  refine ⟨"dict", id, pa, slot, hty, ⟨ob, hob, hx.1⟩, fun a e => by cases e; exact ⟨ob, hob, hx.2.1⟩, ?_⟩
  have hA := ha.run cpos pins s1 σ' H1 (fun vs H2 => ∃ ds M2, Kp H1 M1 H2 M2 ∧ MOk X.gk H2 M2 ∧ RDs X.gk H2 M2 ds vs ∧ r (.ref p) ds M2 Q) I1 ⟨σ, M1, _, S.kp k1, m1, q1, fun ws H2 es M2 k2 m2 r2 q2 => ⟨es, M2, k2, m2, r2, q2⟩⟩
  rw [hs] at hA ⊢
  refine Calls.callWith_builtin (by show (false || (backTo cpos (starEach es X.env)).any (·.1)) = false; rw [hplain] <;> rfl) (Calls.evalArgs_plain ?_)
  exact thn hA fun us s2 ⟨vs, H2, I2, r2, ds, M2, k2, m2, rs, q2⟩ => hm pins s2 σ' H2 (.ref p) vs _ us R I2 rfl r2 ⟨_, ds, M2, Q, .ref p, rs, m2, q2, g.of (k1.trans k2)⟩
/-- d.setdefault(k, x) -/
def rSetd : D → DR1 := fun d ds M Q => match d, ds with
  | .ref p, [k, x] => ∃ kvs nk xs, M p = some (.dN kvs) ∧ k = .tup xs ∧ nkOf k = some nk ∧ k.dep ≤ 8 ∧ kvs.length < sizeLine ∧ (∀ z, getT kvs nk = some z → Q z M) ∧ (getT kvs nk = none → Q x (um M p (.dN (putT kvs nk x))))
  | _, _ => False
theorem m_setd (hu : rmD X) : MtR X "dict.setdefault" (upM X.gk rSetd) := by
  intro pins s σ' H x xs v us R I rx rs h
  obtain ⟨d, ds, M, Q, h1, h20, m, q, g⟩ := h
  unfold rSetd at q
  split at q
  · obtain ⟨kvs, nk, ks, hp, e, hk, hz, hl, q1, q2⟩ := q
    obtain rfl := h1.eq_ref
    obtain ⟨w1, w2, rfl, h2, h3⟩ := h20.two
    obtain ⟨u1, u2, rfl, ru1, ru2⟩ := Vals.two rs
    cases rx
    obtain ⟨a, rfl, rfl, his, hdp, ra⟩ := key_at I h2 e hk hz ru1
    obtain ⟨xs, ys, hH, hE, hV, hD, hs, hys⟩ := dn_heap I m hp
    refine call_setdefault_heap (hsz := hys) (rdRoom hu) his hs hD (fun pr hpr => ?_) fun hn h' hD' sb => ?_
    · rcases entR_get hE nk with ⟨a1, a2⟩ | ⟨d, x, a1, a2, rd⟩
      · rcases entV_get hV nk with ⟨b1, b2⟩ | ⟨x', p', b1, b2, rv⟩
        · rw [hpr] at b2; cases b2
        · rw [a2] at b1; cases b1
      · rcases entV_get hV nk with ⟨b1, b2⟩ | ⟨x', p', b1, b2, rv⟩
        · rw [a2] at b1; cases b1
        · rw [a2] at b1; cases b1
          rw [hpr] at b2; cases b2
          exact ⟨_, H, I.tok _, rv, g _ _ _ _ .refl m rd (q1 d a1)⟩
    · have hn' : getT kvs nk = none := by
        rcases entR_get hE nk with ⟨a1, a2⟩ | ⟨d, x, a1, a2, rd⟩
        · exact a1
        · rcases entV_get hV nk with ⟨b1, b2⟩ | ⟨x', p', b1, b2, rv⟩
          · rw [a2] at b1; cases b1
          · rw [hn] at b2; cases b2
      obtain ⟨I', kp, m'⟩ := putN_inv (t' := s.toks + (nestedKind X.prog X.w).draws nk) I m hp hH hE hV hs hl hdp ra h3 ru2 hD' sb
      exact ⟨_, _, I', ru2, g _ _ _ _ kp m' (h3.kp kp _ _) (q2 hn')⟩
  · exact q.elim
end
/-! ### slices -/
abbrev DO := DS → DM → (Option Int → DM → Prop) → Prop
def upO (K : Gk) (t : DO) : TO := fun σ' H R => ∃ σ M Q, Slots K H M σ' σ ∧ MOk K H M ∧ t σ M Q ∧ ∀ i H' M', Kp H M H' M' → MOk K H' M' → Q i M' → R i H'
def dNo : DO := fun _ M Q => Q none M
def dPart (t : DT) : DO := fun σ M Q => t σ M fun d M1 => match d with
  | .int i => Q (some i) M1
  | _ => False
def dSlice (te : DT) (tl th : DO) : DT := fun σ M Q => te σ M fun d M1 => tl σ M1 fun lo M2 => th σ M2 fun hi M3 => match d with
  | .tup xs => Q (.tup (cutD xs lo hi)) M3
  | .lst xs => Q (.lst (cutD xs lo hi)) M3
  | .ref p => ∃ xs, M3 p = some (.lst xs) ∧ Q (.lst (cutD xs lo hi)) M3
  | _ => False
where cutD (xs : List D) (lo hi : Option Int) : List D := (xs.drop (HT.sIx xs.length 0 lo)).take (HT.sIx xs.length xs.length hi - HT.sIx xs.length 0 lo)
section
variable {X : Cx} {e : Expr} {lo hi : Option Expr} {te : DT} {tl th : DO} {p2 pos : Pos}
theorem po_no : PO X none (upO X.gk dNo) := ⟨fun pins s σ' H Q I h => po_none.run pins s σ' H Q I (by
  obtain ⟨σ, M, Q', S, m, q, g⟩ := h
  exact g none H M .refl m q)⟩
theorem po_pt {i : Expr} {t : DT} (h : DE X i t) : PO X (some i) (upO X.gk (dPart t)) := ⟨fun pins s σ' H Q I hq => (po_some h).run pins s σ' H Q I (by
  obtain ⟨σ, M, Q', S, m, q, g⟩ := hq
  exact ⟨σ, M, _, S, m, q, fun v H1 d M1 k1 m1 r1 q1 => by
    split at q1
    · exact ⟨_, r1.eq_int, g _ _ _ k1 m1 q1⟩
    · exact q1.elim⟩)⟩
theorem cutV_D {K : Gk} {H : Hp} {M : DM} {xs : List D} {vs : List V} (r : RDs K H M xs vs) (lo hi : Option Int) : RDs K H M (dSlice.cutD xs lo hi) (cutV vs lo hi) := by
  unfold dSlice.cutD cutV
  rw [r.len]
  exact (r.drop _).take _
theorem sl_or {X : Cx} {r r' : V → Option Int → Option Int → Hp → VK → Prop} (h : SlR X r) (h' : SlR X r') : SlR X (fun x lo hi H Q => r x lo hi H Q ∨ r' x lo hi H Q) := by
  intro pins s σ' H x v vl vu lo hi sl Q I rx hs pl pu q
  rcases q with q | q
  · exact h pins s σ' H x v vl vu lo hi sl Q I rx hs pl pu q
  · exact h' pins s σ' H x v vl vu lo hi sl Q I rx hs pl pu q
theorem cut_whole {xs : List V} {lo hi : Option Int} (h : HT.sIx xs.length 0 lo = 0 ∧ HT.sIx xs.length xs.length hi = xs.length) : cutV xs lo hi = xs := by
  unfold cutV
  rw [h.1, h.2]; simp
theorem de_slice (he : DE X e te) (hl : PO X lo (upO X.gk tl)) (hu : PO X hi (upO X.gk th)) : DE X (.Subscript e (.Slice lo hi none p2) pos) (dSlice te tl th) :=
  (pe_slice (sl_or sl_list sl_tupA) he hl hu).imp fun σ' H R ⟨σ, M, Q, S, m, q, g⟩ => ⟨σ, M, _, S, m, q, fun v H1 d M1 k1 m1 r1 q1 => ⟨σ, M1, _, S.kp k1, m1, q1, fun lo H2 M2 k2 m2 q2 => ⟨σ, M2, _, (S.kp k1).kp k2, m2, q2, fun hi H3 M3 k3 m3 q3 => by
    have k13 := k1.trans (k2.trans k3)
    have r3 := (r1.kp k2 _ _).kp k3 _ _
    split at q3
    · rename_i xs
      have r3' := r3
      rw [RD] at r3'
      obtain ⟨a, vs, rfl, c, rs⟩ := r3'
      refine .inr ⟨a, vs, rfl, sqT_of c, fun hw => ?_, fun hw p hp => g _ _ _ _ (k13.trans (.laid hp)) (m3.laid hp) (.tupNew m3 hp (cutV_D rs lo hi)) q3⟩
      have e : dSlice.cutD xs lo hi = xs := by
        unfold dSlice.cutD
        have e := rs.len
        rw [e] at hw
        rw [hw.1, hw.2]; simp
      rw [e] at q3
      exact g _ _ _ _ k13 m3 r3 q3
    · rename_i xs
      obtain ⟨a, vs, rfl, c, rs⟩ := r3.lstAt
      exact .inl ⟨a, vs, rfl, .of c, fun p hp => g _ _ _ _ (k13.trans (.laid hp)) (m3.laid hp) (.lstNew m3 hp (cutV_D rs lo hi)) q3⟩
    · obtain ⟨xs, hp, q3⟩ := q3
      obtain rfl := r3.eq_ref
      obtain ⟨vs, c, rs⟩ := m3.lstAt hp
      exact .inl ⟨_, vs, rfl, .of c, fun p hp => g _ _ _ _ (k13.trans (.laid hp)) (m3.laid hp) (.lstNew m3 hp (cutV_D rs lo hi)) q3⟩
    · exact q3.elim⟩⟩⟩
end
end DL

namespace DL
open PySem PySem.Spec PyProof.Rows L2
/-! ### sets of tuples whose items are ints, texts, None -/
def atomK : NK → Bool
  | .tup _ => false
  | _ => true
def flatK : NK → Bool
  | .tup ks => ks.all atomK
  | _ => false
theorem atoms_dep : ∀ ks : List NK, ks.all atomK = true → NestedKey.depthAll ks = 0
  | [], _ => by simp [NestedKey.depthAll]
  | k :: ks, h => by
    rw [List.all_cons, Bool.and_eq_true] at h
    rw [NestedKey.depthAll, atoms_dep ks h.2]
    cases k <;> first | rfl | (simp [atomK] at h)
theorem flat_dep {k : NK} (h : flatK k = true) : k.depth ≤ 8 := by
  cases k with
  | tup ks => rw [NestedKey.depth, atoms_dep ks h]; decide
  | _ => simp [flatK] at h
/-- the tuple at a is the key k -/
structure Fk (h : Heap) (k : NK) (a : Addr) : Prop where
  i : NestedIs h k (.ref a)
  f : flatK k = true
def Atv (v : Value) : Prop := (∀ n, ofAClassStatement n v = pure false) ∧ ∀ n, ∃ b, hashByValue n v = pure b
theorem atv_all {h : Heap} : ∀ {ks : List NK} {vs : List Value}, NestedAll h ks vs → ks.all atomK = true → ∀ v ∈ vs, Atv v
  | _, _, .nil, _, v, hv => by cases hv
  | k :: ks, w :: vs, .cons x t, e, v, hv => by
    rw [List.all_cons, Bool.and_eq_true] at e
    rcases List.mem_cons.mp hv with q | hv
    · subst q
      cases x with
      | tup => simp [atomK] at e
      | none => exact ⟨fun n => by cases n <;> rfl, fun n => ⟨true, by cases n <;> rfl⟩⟩
      | bool _ => exact ⟨fun n => by cases n <;> rfl, fun n => ⟨true, by cases n <;> rfl⟩⟩
      | int => exact ⟨fun n => by cases n <;> rfl, fun n => ⟨true, by cases n <;> rfl⟩⟩
      | text => exact ⟨fun n => by cases n <;> rfl, fun n => ⟨false, by cases n <;> rfl⟩⟩
    · exact atv_all t e.2 v hv
theorem Fk.tup {h : Heap} {k : NK} {a : Addr} (x : Fk h k a) : ∃ o vs n, h.get? a = some o ∧ o.cls = .type "tuple" ∧ o.data = .seq vs n ∧ ∀ v ∈ vs.toList, Atv v := by
  obtain ⟨i, f⟩ := x
  cases i with
  | tup h1 h2 h3 h4 => exact ⟨_, _, _, h1, h2, h3, atv_all h4 f⟩
theorem Fk.knd {P : Program} {w : World} {h : Heap} {k : NK} {a : Addr} (x : Fk h k a) : (nestedKind P w).is h k a := ⟨x.i, flat_dep x.f⟩
theorem Fk.inj {h : Heap} {k k' : NK} {a : Addr} (x : Fk h k a) (y : Fk h k' a) : k = k' := NestedIs.inj _ _ _ x.i y.i
theorem Fk.stay {h h' : Heap} {k : NK} {a : Addr} (x : Fk h k a) (q : ∀ b o vs n, h.get? b = some o → o.data = .seq vs n → h'.get? b = some o) : Fk h' k a := ⟨NestedIs.at q _ _ x.i, x.f⟩
section
variable {P : Program} {w : World} {A : Around} {E : Value → Shared → Prop} {s : Shared} {k : NK} {b : Addr}
theorem fk_cls {Q : Bool → Shared → Prop} (x : Fk s.heap k b) (h : Q false s) : wpAny (model P w) A (ofAClassStatement 8 (.ref b)) Q E s := by
  obtain ⟨o, vs, n, ho, hc, hd, hv⟩ := x.tup
  unfold ofAClassStatement
  refine wpAny_bind (wpAny_typeOf ⟨o, ho, hc⟩ ?_); dsimp only
  simp only [show (("tuple" : String) == "tuple") = true from by decide, if_true, Bool.not_true, Bool.false_eq_true, if_false]
  try (refine wpAny_bind (wpAny_pure ?_); simp only [Bool.not_true, Bool.false_eq_true, if_false])
  show wpAny _ _ (seqItems? (.ref b) >>= _) _ _ s
  refine wpAny_bind (wpAny_seqItems ho hd ?_); dsimp only
  refine wpAny_bind (show wpAny _ _ (forIn vs _ _) _ _ s from ?_)
  rw [← Array.forIn_toList]
  refine wpAny_forIn_list _ (fun us st s1 => (st.1 = none ∧ s1 = s) ∧ ∀ v ∈ us, Atv v) _ ?_ ?_ _ _ ⟨⟨rfl, rfl⟩, hv⟩
  · rintro u us st s1 ⟨⟨e1, rfl⟩, q⟩
    rw [(q u List.mem_cons_self).1]
    refine wpAny_bind (wpAny_pure ?_); simp only [Bool.false_eq_true, if_false]
    exact wpAny_pure ⟨⟨rfl, rfl⟩, fun v hv => q v (List.mem_cons_of_mem _ hv)⟩
  · rintro ⟨st1, st2⟩ s1 ⟨⟨e1, rfl⟩, _⟩
    dsimp only at e1; subst e1; exact wpAny_pure h
theorem fk_hash {Q : Bool → Shared → Prop} (x : Fk s.heap k b) (h : ∀ c, Q c s) : wpAny (model P w) A (hashByValue 8 (.ref b)) Q E s := by
  obtain ⟨o, vs, n, ho, hc, hd, hv⟩ := x.tup
  unfold hashByValue
  refine wpAny_bind (wpAny_specialOf ⟨o, ho, hc⟩ F.slot_tuple_hash.lookup ?_)
  show wpAny _ _ (seqItems? (.ref b) >>= _) _ _ s
  refine wpAny_bind (wpAny_seqItems ho hd ?_)
  refine wpAny_bind (show wpAny _ _ (forIn vs _ _) _ _ s from ?_)
  rw [← Array.forIn_toList]
  refine wpAny_forIn_list _ (fun us st s1 => s1 = s ∧ (st.1 = none ∧ ∀ v ∈ us, Atv v)) _ ?_ ?_ _ _ ⟨rfl, rfl, hv⟩
  · rintro u us st s1 ⟨rfl, q⟩
    obtain ⟨_, q⟩ := q
    obtain ⟨c, e⟩ := (q u List.mem_cons_self).2 7
    rw [e]
    refine wpAny_bind (wpAny_pure ?_)
    cases c
    · simp only [Bool.not_false, if_true]
      exact wpAny_pure (wpAny_pure (h _))
    · simp only [Bool.not_true, Bool.false_eq_true, if_false]
      exact wpAny_pure ⟨rfl, rfl, fun v hv => q v (List.mem_cons_of_mem _ hv)⟩
  · rintro ⟨st1, st2⟩ s1 ⟨rfl, q⟩
    obtain ⟨e, _⟩ := q
    dsimp only at e; subst e; exact wpAny_pure (h _)
end
end DL

namespace DL
open PySem PySem.Spec PyProof.Rows L2
/-- a member: its key, its own tuple -/
abbrev SM := NK × Addr
def hOf (w : World) (m : SM) : Int := m.1.hash w
def rowOf (w : World) (m : SM) : Int × Value := (hOf w m, .ref m.2)
/-- the set at a: its rows are those of the members L, in the table t -/
structure StS (w : World) (h : Heap) (a : Addr) (L : List SM) (es : Array (Int × Value)) (ep : Nat) (t : SetTable) : Prop where
  ob : ∃ o, h.get? a = some o ∧ o.ExactSet ∧ o.data = .set es ep t
  rows : es.toList = L.map (rowOf w)
  tab : TabOk t (L.map (hOf w))
  nd : (L.map (·.1)).Nodup
  mem : ∀ m ∈ L, Fk h m.1 m.2
  led : w.params.followText "set-order" = true ∨ t.led = true
  room : L.length * 5 < t.mask * 3
  few : L.length < 64
section
variable {P : Program} {w : World} {A : Around} {E : Value → Shared → Prop} {s : Shared} {a : Addr} {L : List SM} {es : Array (Int × Value)} {ep : Nat} {t : SetTable}
theorem rows_size {es : Array (Int × Value)} {L : List SM} (e : es.toList = L.map (rowOf w)) : es.size = L.length := by
  have q := congrArg List.length e
  simpa using q
theorem rows_at {es : Array (Int × Value)} {L : List SM} (e : es.toList = L.map (rowOf w)) {i : Nat} {m : SM} (h : L[i]? = some m) : es[i]? = some (hOf w m, .ref m.2) := by
  rw [← Array.getElem?_toList, e, List.getElem?_map, h]; rfl
theorem StS.ok (R : StS w s.heap a L es ep t) : t.fits es.size = true := by
  have e1 := R.tab.sz
  have e2 := R.room
  have e3 := rows_size R.rows
  rw [List.length_map] at e1
  simp only [SetTable.fits, SetTable.fill, R.tab.dm, Bool.and_eq_true, beq_iff_eq, decide_eq_true_eq]
  refine ⟨by omega, ?_⟩
  show t.place.size + 0 ≤ _
  omega
theorem notGave (R : StS w s.heap a L es ep t) : ¬ t.gaveWay = true := by
  unfold SetTable.gaveWay
  rw [mask_odd R.tab.mok]; decide
theorem fk_seen {k : NK} {b : Addr} {Q : Bool → Shared → Prop} {ys : List Value} (x : Fk s.heap k b) (hy : ∀ y ∈ ys, ∃ k' c, y = Value.ref c ∧ Fk s.heap k' c) (h : Q false s) : wpAny (model P w) A (searchCouldBeSeen (.ref b) ys) Q E s := by
  unfold searchCouldBeSeen
  refine wpAny_bind (wpAny_forIn_list _ (fun us st s1 => (st.1 = none ∧ s1 = s) ∧ ∀ y ∈ us, ∃ k' c, y = Value.ref c ∧ Fk s.heap k' c) _ ?_ ?_ _ _ ⟨⟨rfl, rfl⟩, hy⟩)
  · rintro u us st s1 ⟨⟨e1, rfl⟩, q⟩
    obtain ⟨k', c, rfl, y⟩ := q u List.mem_cons_self
    have nx : (none : Option Bool) = none ∧ s1 = s1 := ⟨rfl, rfl⟩
    have q' := fun v hv => q v (List.mem_cons_of_mem _ hv)
    dsimp only
    by_cases hv : (b == c || (carriedByValue (.ref b) && carriedByValue (.ref c))) = true
    · exact wp_if_pos hv (wpAny_pure ⟨nx, q'⟩)
    · refine wp_if_neg hv (wpAny_bind ((nestedKind P w).quiet x.knd ?_)); simp only [Bool.not_true, Bool.false_eq_true, if_false]
      refine wpAny_bind ((nestedKind P w).quiet y.knd ?_); simp only [Bool.not_true, Bool.false_eq_true, if_false]
      refine wpAny_bind (fk_cls x ?_); simp only [Bool.false_eq_true, if_false]
      refine wpAny_bind (fk_cls y ?_); simp only [Bool.false_eq_true, if_false]
      exact wpAny_pure ⟨nx, q'⟩
  · rintro ⟨st1, st2⟩ s1 ⟨⟨e1, rfl⟩, _⟩
    dsimp only at e1; subst e1; exact wpAny_pure h
/-! the way of a hash -/
abbrev wy0 (t : SetTable) (h : Int) : SetTable.Probe := runAt t.mask (SetTable.bits h % (t.mask + 1)) (SetTable.bits h)
theorem way_sum (t : SetTable) (h : Int) (c q : Nat) : nth t.mask (nth t.mask (wy0 t h) c) q = nth t.mask (wy0 t h) (c + q) := (nth_add t.mask c _ q).symm
theorem nth_dummy (m : Nat) : ∀ (n : Nat) (p : SetTable.Probe), p.dummy = none → (nth m p n).dummy = none
  | 0, _, h => h
  | n + 1, p, h => nth_dummy m n (adv m p) (by unfold adv; split <;> exact h)
/-- the search, from the c-th step on -/
theorem look_from (hu : A.units + 8 < cLine) (R : StS w s.heap a L es ep t) {x : Addr} {k : NK} (hx : Fk s.heap k x) {K : Nat} (hf : K < 10 * SetTable.turns t.mask) (hK : way t.mask (k.hash w) K ∉ t.place.toList)
    (hb : ∀ c, c < K → way t.mask (k.hash w) c ∈ t.place.toList) {Q : SetFound → Shared → Prop} (yes : k ∈ L.map (·.1) → Q (.there none) s) (no : k ∉ L.map (·.1) → Q (.free (way t.mask (k.hash w) K) false) s) :
    ∀ (n c : Nat) (st : Option SetTable.Probe), st.getD (t.probeStart (k.hash w)) = nth t.mask (wy0 t (k.hash w)) c → c ≤ K → K - c < n →
      (∀ (i : Nat) m, L[i]? = some m → m.1 = k → ∃ c', c ≤ c' ∧ c' < K ∧ t.place.toList[i]? = some (way t.mask (k.hash w) c')) → wpAny (model P w) A (setSearchFrom a (.ref x) (k.hash w) true n st) Q E s := by
  intro n
  induction n with
  | zero => intro c st _ _ h; exact absurd h (Nat.not_lt_zero _)
  | succ n ih =>
    intro c st hst hc hn hre
    obtain ⟨o, ho, hex, hd⟩ := R.ob
    rw [setSearchFrom_succ]
    refine wpAny_bind (wpAny_setState_of ho hd R.ok ?_); dsimp only
    refine wp_if_neg (notGave R) ?_
    try refine wpAny_bind (wpAny_pure ?_)
    have jat : ∀ q, (nth t.mask (nth t.mask (wy0 t (k.hash w)) c) q).j = way t.mask (k.hash w) (c + q) := fun q => congrArg SetTable.Probe.j (way_sum t _ c q)
    have last : (nth t.mask (nth t.mask (wy0 t (k.hash w)) c) (K - c)).j = way t.mask (k.hash w) K := by rw [jat, show c + (K - c) = K by omega]
    have hh : ∀ (i : Nat) m, L[i]? = some m → (es[i]?.map (·.1)).getD 0 = m.1.hash w := fun i m hm => by rw [rows_at R.rows hm]; rfl
    rcases go_spec t R.tab.ris R.tab.dm (fun i => (es[i]?.map (·.1)).getD 0) (k.hash w) (10 * SetTable.turns t.mask) (K - c) _ (nth_dummy _ c _ rfl) (by omega) (fun q hq => by rw [jat]; exact hb (c + q) (by omega)) (by rw [last]; exact hK) with ⟨q, i, hq, hi, heq, hno, hpr⟩ | ⟨hno, hpr⟩
    · -- one of this hash stands there
      rw [jat] at hi
      have il : i < L.length := by
        have z1 := (List.getElem?_eq_some_iff.mp hi).1
        have z2 := R.tab.sz
        rw [List.length_map] at z2; rw [Array.length_toList] at z1; omega
      obtain ⟨m, hm⟩ : ∃ m, L[i]? = some m := ⟨_, List.getElem?_eq_getElem il⟩
      have mm := List.mem_of_getElem? hm
      have fm := R.mem m mm
      have sl : t.slot (way t.mask (k.hash w) (c + q)) = .live i := slot_live R.tab.ris hi
      have pr : t.probe (fun i => (es[i]?.map (·.1)).getD 0) (k.hash w) (st.getD (t.probeStart (k.hash w))) = some (.candidate (way t.mask (k.hash w) (c + q)) i (nth t.mask (wy0 t (k.hash w)) (c + (q + 1)))) := by
        rw [hst, ← jat, ← way_sum]; exact hpr
      rw [pr]; dsimp only
      have tail : wpAny (model P w) A (searchRest a (.ref x) (k.hash w) true n es t (way t.mask (k.hash w) (c + q)) i (nth t.mask (wy0 t (k.hash w)) (c + (q + 1)))) Q E s := by
        unfold searchRest
        rw [rows_at R.rows hm]; dsimp only
        refine wpAny_bind (wpAny_holding ((nestedKind P w).eqBool hu fm.knd hx.knd ?_))
        refine wpAny_bind (wpAny_setState_of ho hd R.ok ?_); dsimp only
        by_cases hkk : m.1 = k
        · exact wp_if_pos (by simp [hkk]) (wpAny_pure (yes (List.mem_map.mpr ⟨m, mm, hkk⟩)))
        · refine wp_if_neg (by simp [hkk]) ?_
          try refine wpAny_bind (wpAny_pure ?_)
          rw [L2.sameMem]; dsimp only
          simp only [if_true, sl, rows_at R.rows hm]
          refine wpAny_bind (wpAny_isSame_ref_self (wpAny_bind (wpAny_pure ?_))); simp only [if_true]
          refine wp_if_neg (by simp [hkk]) (ih (c + (q + 1)) _ rfl (by omega) (by omega) fun i0 m0 h0 e0 => ?_)
          obtain ⟨c', y1, y2, y3⟩ := hre i0 m0 h0 e0
          refine ⟨c', ?_, y2, y3⟩
          by_cases z : c' < c + q
          · exact absurd ((hh i0 m0 h0).trans (by rw [e0])) (hno (c' - c) i0 (by omega) (by rw [jat, show c + (c' - c) = c' by omega]; exact y3))
          · by_cases y : c' = c + q
            · subst y
              have e2 := sl.symm.trans (slot_live R.tab.ris y3)
              injection e2 with e2
              subst e2
              rw [hm] at h0; cases h0
              exact absurd e0 hkk
            · omega
      by_cases hl : t.led = true
      · refine wp_if_neg (by simp [hl]) ?_
        try refine wpAny_bind (wpAny_pure ?_)
        exact tail
      · refine wp_if_pos (by simp [hl]) (wpAny_bind (fk_seen hx (fun y hy => ?_) ?_))
        · obtain ⟨e, he, rfl⟩ := List.mem_map.mp hy
          have he2 : e ∈ es.toList := by
            have z : e ∈ es ∧ e.1 = k.hash w := by simpa using he
            simpa using z.1
          rw [R.rows] at he2
          obtain ⟨m2, hm2, rfl⟩ := List.mem_map.mp he2
          exact ⟨m2.1, m2.2, rfl, R.mem m2 hm2⟩
        · refine wp_if_neg (by decide) ?_
          try refine wpAny_bind (wpAny_pure ?_)
          exact tail
    · -- none of this hash
      have pr : t.probe (fun i => (es[i]?.map (·.1)).getD 0) (k.hash w) (st.getD (t.probeStart (k.hash w))) = some (.empty (way t.mask (k.hash w) K) none) := by rw [hst, ← last]; exact hpr
      rw [pr]; dsimp only
      refine wpAny_pure (no fun hm => ?_)
      obtain ⟨m0, h0, e0⟩ := List.mem_map.mp hm
      obtain ⟨i0, hi0⟩ := List.mem_iff_getElem?.mp h0
      obtain ⟨c', y1, y2, y3⟩ := hre i0 m0 hi0 e0
      exact hno (c' - c) i0 (by omega) (by rw [jat, show c + (c' - c) = c' by omega]; exact y3) ((hh i0 m0 hi0).trans (by rw [e0]))
theorem look_at (hu : A.units + 8 < cLine) (R : StS w s.heap a L es ep t) {x : Addr} {k : NK} (hx : Fk s.heap k x) {Q : SetFound → Shared → Prop} (yes : k ∈ L.map (·.1) → Q (.there none) s)
    (no : ∀ K, k ∉ L.map (·.1) → way t.mask (k.hash w) K ∉ t.place.toList → (∀ c, c < K → way t.mask (k.hash w) c ∈ t.place.toList) → Q (.free (way t.mask (k.hash w) K) false) s) : wpAny (model P w) A (setSearch a (.ref x) (k.hash w) true) Q E s := by
  have hr := R.room
  obtain ⟨K, hf, hK, hb⟩ := R.tab.first (by rw [List.length_map]; omega) (k.hash w)
  have far : K < 100000 := by
    have z : 10 * SetTable.turns t.mask ≤ 1420 := by
      unfold SetTable.turns
      rcases R.tab.mok with e | e | e <;> omega
    omega
  unfold setSearch
  refine look_from hu R hx hf hK hb yes (fun n => no K n hK hb) 100000 0 none rfl (Nat.zero_le _) (by omega) fun i m hm e => ?_
  have hi : (L.map (hOf w))[i]? = some (k.hash w) := by rw [List.getElem?_map, hm, ← e]; rfl
  have il : i < t.place.toList.length := by
    have z1 := (List.getElem?_eq_some_iff.mp hm).1
    have z2 := R.tab.sz
    rw [List.length_map] at z2; rw [Array.length_toList]; omega
  obtain ⟨c, hc, e2⟩ := R.tab.before hK hi (List.getElem?_eq_getElem il)
  exact ⟨c, Nat.zero_le _, hc, by rw [List.getElem?_eq_getElem il, e2]⟩
end
end DL

namespace DL
open PySem PySem.Spec PyProof.Rows L2
section
variable {P : Program} {w : World} {A : Around} {E : Value → Shared → Prop} {s : Shared} {a : Addr} {L : List SM} {es : Array (Int × Value)} {ep : Nat} {t : SetTable}
theorem Fk.other {h h' : Heap} {k : NK} {a b : Addr} {o : Obj} (x : Fk h k b) (ho : h.get? a = some o) (hd : o.data = .set es ep t) (sb : Heap.SameBut a h h') : Fk h' k b := x.stay fun c u vs n hc hu => by
  refine (sb.2 c fun e => ?_).trans hc
  subst e
  rw [ho] at hc; cases hc
  rw [hd] at hu; cases hu
/-- rows in another order are the rows of the members in that order -/
theorem pick_rows {order : List Nat} (e : es.toList = L.map (rowOf w)) (h : ∀ i ∈ order, i < L.length) :
    order.filterMap (fun i => es[i]?) = (order.filterMap fun i => L[i]?).map (rowOf w) ∧ (order.filterMap fun i => L[i]?).map (hOf w) = order.map fun i => (es.map (·.1)).getD i 0 := by
  induction order with
  | nil => exact ⟨rfl, rfl⟩
  | cons i l ih =>
    obtain ⟨e1, e2⟩ := ih fun j hj => h j (List.mem_cons_of_mem _ hj)
    obtain ⟨m, hm⟩ : ∃ m, L[i]? = some m := ⟨_, List.getElem?_eq_getElem (h i List.mem_cons_self)⟩
    have hr := rows_at e hm
    have hg : (es.map (·.1)).getD i 0 = hOf w m := by
      have z : (es.map (·.1))[i]? = some (hOf w m) := by rw [Array.getElem?_map, hr]; rfl
      rw [Array.getD_eq_getD_getElem?, z]; rfl
    rw [List.filterMap_cons_some hr, List.filterMap_cons_some hm, List.map_cons, List.map_cons, List.map_cons, e1, e2, hg]
    exact ⟨rfl, rfl⟩
theorem pick_all : ∀ L : List SM, (List.range L.length).filterMap (fun i => L[i]?) = L := fun L => List.filterMap_getElem?_range_length L
/-- the table laid anew, larger -/
theorem relay_ok {o : Obj} (ho : s.heap.get? a = some o) (hex : o.ExactSet) (hd : o.data = .set es ep t) (hr : es.toList = L.map (rowOf w)) (hsz : t.place.size = es.size) (hdm : t.dummies = #[]) (hfl : es.size ≤ t.mask) (nd : (L.map (·.1)).Nodup) (mem : ∀ m ∈ L, Fk s.heap m.1 m.2)
    (led : w.params.followText "set-order" = true ∨ t.led = true) (few : L.length < 64) {wanted m : Nat} (hw : SetTable.sizeAbove wanted = m + 1) (hM : MaskOk m) (hn : L.length * 5 < m * 3) {Q : Unit → Shared → Prop}
    (hQ : ∀ h' L' es' ep' t', Heap.SameBut a s.heap h' → StS w h' a L' es' ep' t' → L'.Perm L → Q () { s with heap := h' }) : wpAny (model P w) A (setRelay a wanted) Q E s := by
  have sz := rows_size hr
  have m127 : m ≤ 127 := by rcases hM with e | e | e <;> omega
  have hfits : t.fits es.size = true := by
    simp only [SetTable.fits, SetTable.fill, hdm, Bool.and_eq_true, beq_iff_eq, decide_eq_true_eq]
    refine ⟨hsz, ?_⟩
    show t.place.size + 0 ≤ _
    omega
  obtain ⟨t', order, e, pm, T, em, el, _, _⟩ := relaid_ok t (hs := es.map (·.1)) (wanted := wanted) (by omega) hM (by rw [Array.size_map, sz]; omega)
  rw [Array.size_map, sz] at pm
  obtain ⟨r1, r2⟩ := pick_rows (order := order.toList) hr fun i hi => List.mem_range.mp (pm.mem_iff.mp hi)
  rw [← r2] at T
  have pL : (order.toList.filterMap fun i => L[i]?).Perm L := by
    have z := pm.filterMap fun i => L[i]?
    rw [pick_all] at z; exact z
  generalize (order.toList.filterMap fun i => L[i]?) = L2 at r1 r2 T pL
  have r3 : (order.filterMap (es[·]?)).toList = L2.map (rowOf w) := by rw [Array.toList_filterMap]; exact r1
  have sz2 := rows_size r3
  rw [pL.length_eq, ← sz] at sz2
  rw [setRelay_eq]
  refine wpAny_bind (wpAny_setState_of ho hd hfits ?_); dsimp only
  refine wp_if_neg (by rw [sizeLine_eq]; omega) ?_
  try refine wpAny_bind (wpAny_pure ?_)
  rw [e]; dsimp only
  refine wpAny_bind (wp_if_neg (by rw [sz2]; simp) ?_)
  try refine wpAny_bind (wpAny_pure ?_)
  refine wpAny_pure ?_
  dsimp only
  refine wpAny_storeSet_of ho hd ?_ (by rw [sz2, sz, sizeLine_eq]; omega)
  have sb : Heap.SameBut a s.heap (s.heap.update a (Obj.putSet (order.filterMap (es[·]?)) t')) := Heap.SameBut.update ..
  exact hQ _ L2 (order.filterMap (es[·]?)) (ep + 1) t' sb ⟨⟨_, store_at ho hd, ⟨hex.1, hex.2.1, hex.2.2⟩, rfl⟩, r3, T, (pL.map (·.1)).nodup_iff.mpr nd, fun q hq => (mem q (pL.mem_iff.mp hq)).other ho hd sb, by rw [el]; exact led,
    by rw [pL.length_eq, em]; exact hn, by rw [pL.length_eq]; exact few⟩ pL
/-- what adding leaves: the members, and x if its key is new -/
def Added (L : List SM) (m : SM) (L' : List SM) : Prop := (m.1 ∈ L.map (·.1) ∧ L' = L) ∨ (m.1 ∉ L.map (·.1) ∧ L'.Perm (m :: L))
theorem tab_plain {t : SetTable} {hs : List Int} (T : TabOk t hs) (b : Bool) : TabOk (if b = true then t else { t with plain := false }) hs := by
  cases b
  · exact ⟨T.ris, T.dm, T.sz, T.mok, T.bd, T.reach⟩
  · exact T
theorem add_ok (hu : A.units + 8 < cLine) (R : StS w s.heap a L es ep t) {x : Addr} {k : NK} (hx : Fk s.heap k x) (hfew : L.length + 1 < 64) {Q : Bool → Shared → Prop}
    (hQ : ∀ b h' L' es' ep' t', Heap.SameBut a s.heap h' → StS w h' a L' es' ep' t' → Added L (k, x) L' → Q b { s with heap := h' }) : wpAny (model P w) A (setAddHashed a (.ref x) (k.hash w)) Q E s := by
  obtain ⟨o, ho, hex, hd⟩ := R.ob
  have hsl := rows_size R.rows
  have hroom := R.room
  unfold setAddHashed
  refine wpAny_holding ?_
  rw [show (100000 : Nat) = 99999 + 1 from rfl, setAddHashedIn_succ]
  refine wpAny_bind (wpAny_setState_of ho hd R.ok ?_); dsimp only
  refine wp_if_neg (by simp [byScan, Value.scannable]) ?_
  try refine wpAny_bind (wpAny_pure ?_)
  refine wpAny_bind (look_at hu R hx (fun hm => ?_) fun K hm hK hb => ?_)
  · dsimp only
    exact wpAny_pure (hQ false s.heap L es ep t (Heap.SameBut.refl a s.heap) R (.inl ⟨hm, rfl⟩))
  dsimp only
  refine wpAny_bind (wpAny_setState_of ho hd R.ok ?_); dsimp only
  obtain ⟨q1, q2, q3, q4, q5, q6, q7, q8, q9⟩ := R.tab.put hK hb
  rw [List.length_map] at q2 q9
  generalize hpt : t.put (way t.mask (k.hash w) K) = pt at q1 q3 q4 q5 q6 q7 q8 q9 ⊢
  obtain ⟨t1, p⟩ := pt
  dsimp only at q1 q3 q4 q5 q6 q7 q8 q9 ⊢
  subst q1
  generalize hpp : SetTable.below t.place (way t.mask (k.hash w) K) = p at q2 q3 ⊢
  have pm : (L.take p ++ (k, x) :: L.drop p).Perm ((k, x) :: L) := by
    refine List.perm_middle.trans ?_
    rw [List.take_append_drop]
  have rw1 : (SetTable.insertAt es p (k.hash w, Value.ref x)).toList = (L.take p ++ (k, x) :: L.drop p).map (rowOf w) := by
    rw [SetTable.toList_insertAt, R.rows, List.map_append, List.map_cons, List.map_take, List.map_drop]; rfl
  have hh1 : (L.map (hOf w)).take p ++ k.hash w :: (L.map (hOf w)).drop p = (L.take p ++ (k, x) :: L.drop p).map (hOf w) := by
    rw [List.map_append, List.map_cons, List.map_take, List.map_drop]; rfl
  rw [hh1] at q3
  have len := pm.length_eq
  rw [List.length_cons] at len
  have nd1 : ((L.take p ++ (k, x) :: L.drop p).map (·.1)).Nodup := by
    refine (pm.map (·.1)).nodup_iff.mpr ?_
    rw [List.map_cons]; exact List.nodup_cons.mpr ⟨hm, R.nd⟩
  generalize L.take p ++ (k, x) :: L.drop p = L1 at pm rw1 q3 len nd1
  have es1 := rows_size rw1
  generalize SetTable.insertAt es p (k.hash w, Value.ref x) = en at rw1 es1 ⊢
  -- the rest, for either answer to whether it hashes by value
  have rest : ∀ b : Bool, wpAny (model P w) A (do
      let t2 : SetTable := if b = true then t1 else { t1 with plain := false }
      storeSet a en t2
      if t2.tooFull then setRelay a (SetTable.grown (es.size + 1))
      return true) Q E s := by
    intro b
    have T2 := tab_plain q3 b
    have f2 : (if b = true then t1 else { t1 with plain := false } : SetTable).mask = t1.mask ∧ (if b = true then t1 else { t1 with plain := false } : SetTable).led = t1.led ∧ (if b = true then t1 else { t1 with plain := false } : SetTable).fill = t1.fill := by cases b <;> exact ⟨rfl, rfl, rfl⟩
    generalize (if b = true then t1 else { t1 with plain := false } : SetTable) = t2 at T2 f2
    obtain ⟨g1, g2, g3⟩ := f2
    refine wpAny_bind (wpAny_storeSet_of ho hd ?_ (by rw [es1, len, sizeLine_eq]; omega))
    have sb : Heap.SameBut a s.heap (s.heap.update a (Obj.putSet en t2)) := Heap.SameBut.update ..
    have ho1 := store_at (es' := en) (t' := t2) ho hd
    generalize s.heap.update a (Obj.putSet en t2) = h1 at sb ho1 ⊢
    have mem1 : ∀ m ∈ L1, Fk h1 m.1 m.2 := fun m hm1 => by
      rcases List.mem_cons.mp (pm.mem_iff.mp hm1) with e | z
      · rw [e]; exact hx.other ho hd sb
      · exact (R.mem m z).other ho hd sb
    have led1 : w.params.followText "set-order" = true ∨ t2.led = true := by rw [g2, q5]; exact R.led
    have mk : t2.mask = t.mask := g1.trans q4
    have full : t2.tooFull = decide ((L.length + 1) * 5 ≥ t.mask * 3) := by
      unfold SetTable.tooFull
      rw [g3, q9, mk]
    by_cases hf : t2.tooFull = true
    · have hf' := hf
      rw [full, decide_eq_true_eq] at hf'
      have sz1 : t2.place.size = en.size := by
        have z := T2.sz
        rw [List.length_map] at z
        rw [z, es1]
      have cs : (t.mask = 7 ∧ L.length = 4) ∨ (t.mask = 31 ∧ L.length = 18) := by
        rcases R.tab.mok with e | e | e
        · exact .inl ⟨e, by omega⟩
        · exact .inr ⟨e, by omega⟩
        · omega
      have go : ∀ m, SetTable.sizeAbove (SetTable.grown (L.length + 1)) = m + 1 → MaskOk m → (L.length + 1) * 5 < m * 3 → wpAny (model P w) A (setRelay a (SetTable.grown (L.length + 1)) >>= fun _ => pure true) Q E { s with heap := h1 } := fun m e1 e2 e3 =>
        wpAny_bind (relay_ok (s := { s with heap := h1 }) ho1 ⟨hex.1, hex.2.1, hex.2.2⟩ rfl rw1 sz1 T2.dm (by rw [es1, len, mk]; rcases cs with ⟨z1, z2⟩ | ⟨z1, z2⟩ <;> omega) nd1 mem1 led1 (by omega) e1 e2 (by rw [len]; exact e3) fun h2 L2 es2 ep2 t2 sb2 R2 pm2 =>
          wpAny_pure (hQ true h2 L2 es2 ep2 t2 (sb.trans sb2) R2 (.inr ⟨hm, pm2.trans pm⟩)))
      rw [if_pos hf, hsl]
      rcases cs with ⟨_, e2⟩ | ⟨_, e2⟩
      · exact go 31 (by rw [e2, size_20]) (.inr (.inl rfl)) (by omega)
      · exact go 127 (by rw [e2, size_76]) (.inr (.inr rfl)) (by omega)
    · rw [if_neg hf]
      rw [full, decide_eq_true_eq] at hf
      have fin := hQ true h1 L1 en (ep + 1) t2 sb ⟨⟨_, ho1, ⟨hex.1, hex.2.1, hex.2.2⟩, rfl⟩, rw1, T2, nd1, mem1, led1, by rw [len, mk]; omega, by omega⟩ (.inr ⟨hm, pm⟩)
      first | exact wpAny_pure fin | exact wpAny_bind (wpAny_pure (wpAny_pure fin))
  by_cases hpl : t1.plain = true
  · rw [if_pos hpl]
    refine wpAny_bind (fk_hash hx fun c => ?_)
    exact rest c
  · rw [if_neg hpl]
    exact wpAny_bind (wpAny_pure (rest true))
end
end DL

namespace DL
open PySem PySem.Spec PyProof.Rows L2
abbrev set0 (w : World) : Obj := { cls := .type "set", dict := none, data := .set #[] 0 (.fresh 0 0 (!w.params.followText "set-order")) }
/-- the members behind the first i items -/
structure Gots (ks : List SM) (i : Nat) (L : List SM) : Prop where
  sub : ∀ m ∈ L, m ∈ ks.take i
  all : ∀ m ∈ ks.take i, m.1 ∈ L.map (·.1)
  len : L.length ≤ i
theorem Gots.next {ks L L' : List SM} {i : Nat} {m : SM} (g : Gots ks i L) (h : ks[i]? = some m) (ad : Added L m L') : Gots ks (i + 1) L' := by
  have e : ks.take (i + 1) = ks.take i ++ [m] := by rw [List.take_succ, h]; rfl
  rcases ad with ⟨hm, rfl⟩ | ⟨hm, pm⟩
  · refine ⟨fun q hq => by rw [e]; exact List.mem_append_left _ (g.sub q hq), fun q hq => ?_, Nat.le_succ_of_le g.len⟩
    rw [e] at hq
    rcases List.mem_append.mp hq with z | z
    · exact g.all q z
    · rw [List.mem_singleton.mp z]; exact hm
  · refine ⟨fun q hq => ?_, fun q hq => ?_, by rw [pm.length_eq]; exact Nat.succ_le_succ g.len⟩
    · rw [e]
      rcases List.mem_cons.mp (pm.mem_iff.mp hq) with z | z
      · rw [z]; simp
      · exact List.mem_append_left _ (g.sub q z)
    · rw [(pm.map (·.1)).mem_iff, List.map_cons]
      rw [e] at hq
      rcases List.mem_append.mp hq with z | z
      · exact List.mem_cons_of_mem _ (g.all q z)
      · rw [List.mem_singleton.mp z]; exact List.mem_cons_self
section
variable {P : Program} {w : World} {A : Around} {E : Value → Shared → Prop} {s : Shared} {a : Addr} {L : List SM} {es : Array (Int × Value)} {ep : Nat} {t : SetTable}
theorem StS.stay {h h' : Heap} (R : StS w h a L es ep t) (ha : ∀ o, h.get? a = some o → h'.get? a = some o) (hm : ∀ m ∈ L, Fk h' m.1 m.2) : StS w h' a L es ep t := by
  obtain ⟨o, ho, r⟩ := R.ob
  exact { R with ob := ⟨o, ha o ho, r⟩, mem := hm }
theorem Fk.more {h h' : Heap} {k : NK} {b : Addr} (x : Fk h k b) (q : ∀ c o, h.get? c = some o → h'.get? c = some o) : Fk h' k b := x.stay fun c o _ _ e _ => q c o e
theorem stS_new {h : Heap} {a : Addr} (ho : h.get? a = some (set0 w)) : StS w h a [] #[] 0 (.fresh 0 0 (!w.params.followText "set-order")) where
  ob := ⟨_, ho, ⟨rfl, rfl, rfl⟩, rfl⟩
  rows := rfl
  tab := ⟨List.Pairwise.nil, rfl, rfl, .inl rfl, (fun x hx => by cases hx), (fun i h j hi => by simp at hi)⟩
  nd := List.nodup_nil
  mem := fun m hm => by cases hm
  led := show _ ∨ (!w.params.followText "set-order") = true by cases w.params.followText "set-order" <;> simp
  room := show 0 * 5 < 7 * 3 by decide
  few := show 0 < 64 by decide
/-- the loop that fills the new set -/
theorem fill_loop {I S : Addr} {fp wr : List Addr} {n : Nat} {Pv : Nat → Value → Prop} {St : Nat → Shared → Prop} {R : Result → Shared → Prop} {ks : List SM} {h0 : Heap} {g0 : Array GenState} {d0 : Drawn} {o0 : _}
    (W : WalksS P w A.in1 I fp wr (fun x y => y = x) n Pv St) (hSf : S ∉ fp) (hn : n = ks.length) (few : ks.length < 64) (val : ∀ i v, Pv i v → ∃ m, ks[i]? = some m ∧ v = .ref m.2) (hk : ∀ m ∈ ks, Fk h0 m.1 m.2) (hS0 : h0.get? S = none) (hw0 : ∀ b ∈ wr, h0.get? b = none) (hu : A.in1.units + 8 < cLine)
    (hR : ∀ s' L es ep t, s'.gens = g0 ∧ s'.drawn = d0 ∧ s'.os = o0 → StS w s'.heap S L es ep t → Gots ks n L → (∀ b o, h0.get? b = some o → s'.heap.get? b = some o) → R (.ok (.ret .none)) s') :
    ∀ (k i : Nat) (s : Shared), n = i + k → s.gens = g0 ∧ s.drawn = d0 ∧ s.os = o0 → St i s → (∀ b o, h0.get? b = some o → s.heap.get? b = some o) → (∃ L es ep t, StS w s.heap S L es ep t ∧ Gots ks i L) → codeAny (model P w) A (.builtin "set.update.loop" ⟨[.ref S, .ref I], []⟩) R s := by
  have hSw : S ∉ wr := fun z => hSf (W.sub _ z)
  intro k
  induction k with
  | zero =>
    intro i s hi od st kp ⟨L, es, ep, t, hs, g⟩
    obtain rfl : n = i := hi
    refine codeAny_builtin F.entry_set_update_loop ?_
    rw [Around.under_plainId F.plain_set_update_loop _]
    refine wpAny_bind (m := pyNext (.ref I)) (W.done s _ _ st fun s' hm => ?_)
    have kp' : ∀ b o, h0.get? b = some o → s'.heap.get? b = some o := fun b o e => hm.heap b o (fun z => by rw [hw0 b z] at e; cases e) (kp b o e)
    exact wpAny_pure (hR s' L es ep t ⟨hm.gens.trans od.1, hm.drawn.trans od.2.1, hm.os.trans od.2.2⟩ (hs.stay (fun o e => hm.heap S o hSw e) fun m hmm => (hk m (List.mem_of_mem_take (g.sub m hmm))).more kp') g kp')
  | succ k ih =>
    intro i s hi od st kp ⟨L, es, ep, t, hs, g⟩
    refine codeAny_builtin F.entry_set_update_loop ?_
    rw [Around.under_plainId F.plain_set_update_loop _]
    refine wpAny_bind (m := pyNext (.ref I)) (W.item i s _ _ (by omega) st fun v s' hP st' hm => ?_)
    obtain ⟨m, hm1, rfl⟩ := val i v hP
    have kp' : ∀ b o, h0.get? b = some o → s'.heap.get? b = some o := fun b o e => hm.heap b o (fun z => by rw [hw0 b z] at e; cases e) (kp b o e)
    have hs' : StS w s'.heap S L es ep t := hs.stay (fun o e => hm.heap S o hSw e) fun q hq => (hk q (List.mem_of_mem_take (g.sub q hq))).more kp'
    have hx : Fk s'.heap m.1 m.2 := (hk m (List.mem_of_getElem? hm1)).more kp'
    refine wpAny_bind (m := holding [Value.ref m.2] (setAdd S (.ref m.2))) (wpAny_holding ?_)
    unfold setAdd
    refine wpAny_holding (wpAny_bind ((nestedKind P w).pyHash hu hx.knd ?_))
    refine add_ok (s := { s' with toks := s'.toks + (nestedKind P w).draws m.1 }) hu hs' hx (by have := g.len; omega) fun b h' L' es' ep' t' sb hs2 ad => ?_
    refine wpAny_pure ⟨plainId_quiet F.plain_set_update_loop _, ih (i + 1) _ (by omega) ⟨hm.gens.trans od.1, hm.drawn.trans od.2.1, hm.os.trans od.2.2⟩ (W.frame _ s' _ _ st' (Nat.le_add_right _ _) fun c hc o e => ?_) (fun c o e => ?_) ⟨L', es', ep', t', hs2, g.next hm1 ad⟩⟩
    · rw [sb.2 c (fun z => hSf (z ▸ hc))]; exact e
    · exact (sb.2 c (fun z => by rw [z, hS0] at e; cases e)).trans (kp' c o e)
end
end DL

namespace DL
open PySem PySem.Spec PyProof.Rows L2
section
variable {P : Program} {w : World} {A : Around} {E : Value → Shared → Prop} {s : Shared}
set_option maxHeartbeats 3200000 in
theorem call_setG {l : Addr} {items : Array Value} {Z : Heap → Prop} {Q : Value → Shared → Prop} (hh : A.handled = none) (hl : s.heap.IsList l items)
    (loop : ∀ {I : Addr} {St : Nat → Shared → Prop} {R : Result → Shared → Prop} {s1 : Shared}, WalksS P w A.in1.in1.in1 I [I, l] [I] (fun x y => y = x) items.size (fun i v => items[i]? = some v) St → I = s.heap.objs.size + 1 → s.heap.objs.size ∉ [I, l] → St 0 s1 →
      s1.gens = s.gens ∧ s1.drawn = s.drawn ∧ s1.os = s.os → (∀ b o, s.heap.get? b = some o → s1.heap.get? b = some o) → s1.heap.get? s.heap.objs.size = some (set0 w) → (∀ s2 : Shared, s2.gens = s.gens ∧ s2.drawn = s.drawn ∧ s2.os = s.os → Z s2.heap → R (.ok (.ret .none)) s2) →
      codeAny (model P w) A.in1.in1 (.builtin "set.update.loop" ⟨[.ref s.heap.objs.size, .ref I], []⟩) R s1)
    (h : ∀ (h' : Heap) (tk : Nat), Z h' → Q (.ref s.heap.objs.size) { s with heap := h', toks := tk }) : wpAny (model P w) A (call (.type "set") [.ref l]) Q E s := by
  obtain ⟨c, tl, mro⟩ := F.called_set.mro
  have z1 := F.called_set.made; have z2 := F.called_set.sub; have z3 := F.called_set.notType; have z4 := F.called_set.canCreate; have z5 := F.typeCall_set_1 (.ref l)
  refine wpAny_call (codeAny_of_tree (show wpAny _ _ (callAny (.type "set") _) _ _ _ from ?_))
  refine wpAny_pure ⟨Code.quiet_builtin _ (by decide +kernel), codeAny_builtin F.entry_type_call ?_⟩
  rw [Around.under_plain (weight_type_call_type "set" [.ref l] []) rfl]
  repeat (any_goals (first | assumption | wp_step))
  refine codeAny_mono (code_set_led1 (.ref l) (E := E) (Q₁ := fun obj s₁ => obj = .ref s.heap.objs.size ∧ s₁ = { s with heap := s.heap.push (set0 w) }) ⟨rfl, rfl⟩) fun r s₁ hr => ?_
  rcases r with e | (obj | _ | _ | _)
  all_goals try exact hr
  all_goals try exact hr.elim
  obtain ⟨rfl, rfl⟩ := hr
  have hS : (s.heap.push (set0 w)).get? s.heap.objs.size = some (set0 w) := Heap.get?_push_size _ rfl
  have hT : Shared.TypeIs { s with heap := s.heap.push (set0 w) } (.ref s.heap.objs.size) "set" := ⟨_, hS, rfl⟩
  have z6 := F.called_set.init.lookup; have z7 := F.called_set.init.bind (.ref s.heap.objs.size)
  repeat (any_goals (first | assumption | wp_step))
  refine codeAny_mono (codeAny_call_builtin (R := wants (fun r s₂ => r = .none ∧ ∃ h' tk, s₂ = { s with heap := h', toks := tk } ∧ Z h') E) F.called_set.init.plain F.entry_set_init (check_set_init_1 hT ?_)) fun r₂ s₂ hr₂ => ?_
  · obtain ⟨⟨oc, od, oda, osl⟩, hol, hcl, nl, hdl⟩ := hl
    dsimp only at hcl hdl; subst hcl; subst hdl
    have hol' : (s.heap.push (set0 w)).get? l = some { cls := .type "list", dict := od, data := .seq items nl, slots := osl } := Heap.get?_push_of_some _ hol
    have y1 := F.sub_list_set; have y2 := F.sub_list_frozenset
    have y3 : (Value.type "list" == Value.type "dict") = false := by decide
    have hl1 : (s.heap.push (set0 w)).IsList l items := ⟨_, hol', rfl, nl, rfl⟩
    unfold Builtin.«set.__init__» noKeywords Builtin.Frozenset.updateFrom
    generalize hPI : pyIter = PI
    wp_walk
    subst hPI
    refine wpAny_pyIter_list hl1 (wpAny_bind (wpAny_runValue ?_))
    have lt := Heap.lt_size hol
    have ne1 : l ≠ (s.heap.push (set0 w)).objs.size := by rw [Heap.size_push]; exact Nat.ne_of_lt (Nat.lt_succ_of_lt lt)
    refine loop (Walks.list (by simp [hh]) _ l ne1 items).toS (Heap.size_push ..) (by rw [Heap.size_push]; simp only [List.mem_cons, List.not_mem_nil, or_false, not_or]; exact ⟨Nat.ne_of_lt (Nat.lt_succ_self _), Nat.ne_of_gt lt⟩) ⟨⟨_, Heap.get?_push_size _ rfl, rfl, rfl⟩, hl1.push _⟩ ⟨rfl, rfl, rfl⟩
      (fun b o e => Heap.get?_push_of_some _ (Heap.get?_push_of_some _ e)) (Heap.get?_push_of_some _ hS) fun s2 od z => ?_
    obtain ⟨h', g2, d', tk, o'⟩ := s2
    obtain ⟨rfl, rfl, rfl⟩ := od
    exact wpAny_pure (show wpAny _ _ (ret Value.none) _ _ _ from wpAny_pure ⟨rfl, h', tk, rfl, z⟩)
  · rcases r₂ with e | (r | _ | _ | _)
    all_goals try exact hr₂
    all_goals try exact hr₂.elim
    obtain ⟨rfl, h', tk, rfl, q⟩ := hr₂
    repeat (any_goals (first | assumption | wp_step))
    exact h _ _ q
theorem freeAt {h : Heap} {b : Addr} (hb : h.objs.size ≤ b) : h.get? b = none := by
  cases q : h.get? b with
  | none => rfl
  | some o => exact absurd (Heap.lt_size q) (Nat.not_lt.mpr hb)
/-- what set(xs) leaves at a: the members of ks, each key once -/
def SetMade (w : World) (s : Shared) (ks : List SM) (h' : Heap) : Prop := ∃ L es ep t, StS w h' s.heap.objs.size L es ep t ∧ Gots ks ks.length L ∧ ∀ b o, s.heap.get? b = some o → h'.get? b = some o
theorem call_setL {l : Addr} {items : Array Value} {ks : List SM} {Q : Value → Shared → Prop} (hh : A.handled = none) (hl : s.heap.IsList l items) (hit : items.toList = ks.map fun m => Value.ref m.2) (hk : ∀ m ∈ ks, Fk s.heap m.1 m.2) (few : ks.length < 64)
    (hu : A.units + 16 < cLine) (h : ∀ (h' : Heap) (tk : Nat), SetMade w s ks h' → Q (.ref s.heap.objs.size) { s with heap := h', toks := tk }) : wpAny (model P w) A (call (.type "set") [.ref l]) Q E s := by
  have sz : items.size = ks.length := by simpa using congrArg List.length hit
  refine call_setG (Z := SetMade w s ks) hh hl (fun {I St R s1} W hI hSf st od kp hS hR => ?_) h
  refine fill_loop (g0 := s.gens) (d0 := s.drawn) (o0 := s.os) (h0 := s.heap) (ks := ks) W hSf sz few (fun i v hv => ?_) hk (freeAt (Nat.le_refl _)) (fun b hb => freeAt (by rw [List.mem_singleton.mp hb, hI]; exact Nat.le_succ _)) (by show A.units + 1 + 1 + 1 + 8 < cLine; omega)
    (fun s' L es ep t od st g kp => hR s' od ⟨L, es, ep, t, st, sz ▸ g, kp⟩) items.size 0 _ (Nat.zero_add _).symm od st kp ⟨[], #[], 0, _, stS_new hS, ⟨fun m hm => (by cases hm), fun m hm => (by simp at hm), Nat.le_refl _⟩⟩
  have q : items.toList[i]? = some v := by rw [Array.getElem?_toList]; exact hv
  rw [hit, List.getElem?_map] at q
  obtain ⟨m, h1, h2⟩ := Option.map_eq_some_iff.mp q
  exact ⟨m, h1, h2.symm⟩
/-- the same of ints -/
theorem call_setI {l : Addr} {items : Array Value} {ns : List Int} {Q : Value → Shared → Prop} (hh : A.handled = none) (hl : s.heap.IsList l items) (hit : IntsAre items.toList ns) (few : ns.length < 64)
    (h : ∀ (h' : Heap) (tk c : Nat), c ≤ ns.length → SetR w h' s.heap.objs.size (fun j => decide (j ∈ ns)) c → (∀ b o, s.heap.get? b = some o → h'.get? b = some o) → Q (.ref s.heap.objs.size) { s with heap := h', toks := tk }) : wpAny (model P w) A (call (.type "set") [.ref l]) Q E s := by
  have sz : items.size = ns.length := by simpa using hit.length
  refine call_setG (Z := fun h' => ∃ c, c ≤ ns.length ∧ SetR w h' s.heap.objs.size (fun j => decide (j ∈ ns)) c ∧ ∀ b o, s.heap.get? b = some o → h'.get? b = some o) hh hl (fun {I St R s1} W hI hSf st od kp hS hR => ?_) (fun h' tk ⟨c, h1, h2, h3⟩ => h h' tk c h1 h2 h3)
  refine set_update_ints W _ hSf ns sz (by unfold scanBound; omega) (fun i v hv => ?_) items.size 0 s1 (Nat.sub_zero _) (Nat.zero_le _) st ⟨0, Nat.le_refl _, setR_new_at hS⟩ fun s' c hm hc hs => ?_
  · have q : items.toList[i]? = some v := by rw [Array.getElem?_toList]; exact hv
    obtain ⟨n, t, h1, h2⟩ := hit.at i v q
    exact ⟨n, t, h2, h1⟩
  · refine hR s' ⟨hm.gens.trans od.1, hm.drawn.trans od.2.1, hm.os.trans od.2.2⟩ ⟨c, sz ▸ hc, hs, fun b o e => hm.heap b o (fun z => ?_) (kp b o e)⟩
    rcases List.mem_cons.mp z with z | z
    · rw [z, freeAt (Nat.le_refl _)] at e; cases e
    · rw [List.mem_singleton.mp z, hI, freeAt (Nat.le_succ _)] at e; cases e
end
end DL

namespace DL
open PySem PySem.Spec PyProof.Rows L2
/-! ### sorting -/
def srt (ds : List D) : List D := ds.mergeSort (PySem.W.dataLe false D.py)
structure SrtOk (ds : List D) : Prop where
  dat : ∀ d ∈ ds, d.dat = true
  dep : ∀ d ∈ ds, d.dep ≤ 64
  alike : PySem.W.AllAlike (ds.map D.py)
  able : PySem.W.Sortable (ds.map D.py)
theorem srt_perm (ds : List D) : (srt ds).Perm ds := List.mergeSort_perm _ _
theorem SrtOk.sub {ds es : List D} (h : SrtOk ds) (q : ∀ d ∈ es, d ∈ ds) : SrtOk es where
  dat := fun d hd => h.dat d (q d hd)
  dep := fun d hd => h.dep d (q d hd)
  alike := fun x hx y hy => by
    obtain ⟨d, h1, rfl⟩ := List.mem_map.mp hx
    obtain ⟨e, h2, rfl⟩ := List.mem_map.mp hy
    exact h.alike _ (List.mem_map_of_mem (q d h1)) _ (List.mem_map_of_mem (q e h2))
  able := by
    rcases h.able with a | a
    · exact .inl fun x hx => by
        obtain ⟨d, h1, rfl⟩ := List.mem_map.mp hx
        exact a _ (List.mem_map_of_mem (q d h1))
    · exact .inr fun x hx => by
        obtain ⟨d, h1, rfl⟩ := List.mem_map.mp hx
        exact a _ (List.mem_map_of_mem (q d h1))
section
variable {X : Cx} {pins : List (Addr × Obj)} {σ' : L2.St} {H : Hp} {M : DM} {s : Shared} {A : Around} {E : Value → Shared → Prop}
theorem each_rds : ∀ {ds : List D} {xs : List V} {vs : List Value}, RDs X.gk H M ds xs → Vals xs vs → PySem.W.EachIs (fun v d => ∃ x, RD X.gk H M d x ∧ RelV x v) vs ds
  | [], _, _, r, q => by obtain rfl := r.none; cases q; exact .nil
  | d :: ds, _, _, r, q => by
    rw [RDs] at r
    obtain ⟨x, xs, rfl, h1, h2⟩ := r
    cases q with
    | cons q1 q2 => exact .cons ⟨x, h1, q1⟩ (each_rds h2 q2)
theorem rds_each : ∀ {ds : List D} {vs : List Value}, PySem.W.EachIs (fun v d => ∃ x, RD X.gk H M d x ∧ RelV x v) vs ds → ∃ xs, RDs X.gk H M ds xs ∧ Vals xs vs
  | _, _, .nil => ⟨[], .nil, .nil⟩
  | _, _, .cons ⟨x, h1, h2⟩ t => by
    obtain ⟨xs, q1, q2⟩ := rds_each t
    exact ⟨x :: xs, .cons h1 q1, .cons h2 q2⟩
theorem each_reads (I : Inv X pins σ' H s) {h' : Heap} (kp : ∀ b o, s.heap.get? b = some o → h'.get? b = some o) {vs : List Value} {ds : List D} (hd : ∀ d ∈ ds, d.dat = true) (e : PySem.W.EachIs (fun v d => ∃ x, RD X.gk H M d x ∧ RelV x v) vs ds) :
    PySem.W.EachIs (fun v d => ∃ as, Reads h' v (D.py d) as) vs ds := by
  induction e with
  | nil => exact .nil
  | @cons v d vs ds h t ih =>
    obtain ⟨x, h1, h2⟩ := h
    obtain ⟨as, r⟩ := Dp.reads I _ _ _ (h1.dp _ _ (hd d List.mem_cons_self)) h2
    exact .cons ⟨as, PyProof.Rows.Reads.keeps kp r⟩ (ih fun d hd' => hd d (List.mem_cons_of_mem _ hd'))
/-- list.sort of a new list -/
theorem sort_new (I : Inv X pins σ' H s) {ds : List D} {xs : List V} {vs : List Value} (r : RDs X.gk H M ds xs) (rv : Vals xs vs) (ok : SrtOk ds) (hz : ds.length ≤ sizeLine) (hu : A.units + 80 < cLine) {Q : Value → Shared → Prop}
    (h : ∀ ys s', RDs X.gk H M (srt ds) ys → Inv X pins σ' (upd H s.heap.objs.size (.lst ys)) s' → H s.heap.objs.size = none → Q .none s') :
    wpAny (model X.prog X.w) A (call (.builtin "list.sort") [.ref s.heap.objs.size]) Q E { s with heap := s.heap.push (seqObj "list" vs.toArray 0) } := by
  have ho : (s.heap.push (seqObj "list" vs.toArray 0)).get? s.heap.objs.size = some (seqObj "list" vs.toArray 0) := Heap.get?_push_size _ rfl
  have e := each_rds r rv
  have kp : ∀ b o, s.heap.get? b = some o → (PySem.W.sortingHeap (s.heap.push (seqObj "list" vs.toArray 0)) s.heap.objs.size vs).get? b = some o := fun b o q =>
    PySem.W.sortingHeap_old (Nat.ne_of_lt (Heap.lt_size q)) (Heap.get?_push_of_some _ q)
  have er := each_reads I kp ok.dat e
  have lv : vs.length = ds.length := e.length
  refine wpAny_call_entry slot_list_sort ⟨_, ho, rfl⟩ entry_list_sort (PySem.W.list_sort_vals (κ := PySem.W.dataKind (PySem.W.sortingHeap (s.heap.push (seqObj "list" vs.toArray 0)) s.heap.objs.size vs) (ds.map D.py)) ho (PySem.W.SortsAt.data (s := { s with heap := PySem.W.sortingHeap (s.heap.push (seqObj "list" vs.toArray 0)) s.heap.objs.size vs })
    (PySem.W.each_map (R := fun v d => ∃ as, Reads (PySem.W.sortingHeap (s.heap.push (seqObj "list" vs.toArray 0)) s.heap.objs.size vs) v d as) D.py er) ok.alike ok.able fun d hd => ?_) (by rw [lv]; exact hz) ⟨.none, rfl, ?_⟩) (args_list_sort _)
  · obtain ⟨d0, h0, rfl⟩ := List.mem_map.mp hd
    rw [D.py_dep]
    have := ok.dep d0 h0
    show A.units + 1 + d0.dep < cLine
    omega
  have out := PySem.W.sortVals_data false e er ok.alike
  generalize hout : PySem.W.sortVals (PySem.W.dataKind (PySem.W.sortingHeap (s.heap.push (seqObj "list" vs.toArray 0)) s.heap.objs.size vs) (ds.map D.py)) false vs vs = us at out ⊢
  obtain ⟨ys, r1, r2⟩ := rds_each out
  obtain ⟨c, hc⟩ := sortedHeap_at (vs := vs) (out := us.toArray) ho
  have hn : H s.heap.objs.size = none := I.hok.fresh (Nat.le_refl _)
  have ly : ys.length = ds.length := by rw [r1.len]; exact (srt_perm ds).length_eq
  refine h ys _ r1 (I.laid (t' := s.toks) (fun b u q => ?_) (Nat.le_refl _) (show ObjOk X.prog X.w _ _ _ (.lst ys) from ⟨by rw [ly]; exact hz, us, c, r2, hc⟩)) hn
  have lt := Heap.lt_size q
  show (sortedHeap _ _ _ _).get? b = some u
  rw [sortedHeap_old (Nat.ne_of_lt lt) (by rw [size_push']; exact Nat.lt_succ_of_lt lt)]
  exact Heap.get?_push_of_some _ q
end
end DL

namespace DL
open PySem PySem.Spec PyProof.Rows L2
theorem perm_map_ex {α β : Type} (f : α → β) {vs us : List β} (h : vs.Perm us) : ∀ L : List α, us = L.map f → ∃ L1 : List α, L1.Perm L ∧ vs = L1.map f := by
  induction h with
  | nil => intro L e; exact ⟨[], by cases L <;> simp_all, rfl⟩
  | cons x _ ih =>
    intro L e
    cases L with
    | nil => cases e
    | cons y L =>
      rw [List.map_cons] at e
      injection e with e1 e2
      obtain ⟨L1, p, q⟩ := ih L e2
      exact ⟨y :: L1, p.cons y, by rw [List.map_cons, e1, q]⟩
  | swap x y l =>
    intro L e
    cases L with
    | nil => cases e
    | cons a L =>
      cases L with
      | nil => cases e
      | cons b L =>
        rw [List.map_cons, List.map_cons] at e
        injection e with e1 e2
        injection e2 with e2 e3
        exact ⟨b :: a :: L, .swap a b L, by rw [List.map_cons, List.map_cons, e1, e2, e3]⟩
  | trans _ _ ih1 ih2 =>
    intro L e
    obtain ⟨L1, p, q⟩ := ih2 L e
    obtain ⟨L2, p2, q2⟩ := ih1 L1 q
    exact ⟨L2, p2.trans p, q2⟩
def kD (m : SM) : D := nkD m.1
section
variable {X : Cx} {pins : List (Addr × Obj)} {σ' : L2.St} {H : Hp} {M : DM} {s : Shared} {A : Around} {E : Value → Shared → Prop}
theorem _root_.L2.Inv.same {s1 : Shared} (I : Inv X pins σ' H s) (k : ∀ b u, s.heap.get? b = some u → s1.heap.get? b = some u) (g : s1.gens = s.gens) (o : s1.os = s.os) : Inv X pins σ' H s1 :=
  I.call' (ch := []) o (Un.kept k) (I.hok.kept k) (by rw [g]; exact I.bare) (fun _ z => nomatch z)
theorem rds_sm : ∀ {L : List SM}, (∀ m ∈ L, RD X.gk H M (kD m) (.ref m.2)) → RDs X.gk H M (L.map kD) (L.map fun m => V.ref m.2) ∧ Vals (L.map fun m => V.ref m.2) (L.map fun m => Value.ref m.2)
  | [], _ => ⟨.nil, .nil⟩
  | m :: L, h => by
    obtain ⟨a, b⟩ := rds_sm (L := L) fun q hq => h q (List.mem_cons_of_mem _ hq)
    exact ⟨.cons (h m List.mem_cons_self) a, .cons rfl b⟩
/-- sorted(s), s the set at a -/
theorem sorted_St {a : Addr} {L : List SM} {es : Array (Int × Value)} {ep : Nat} {t : SetTable} (I : Inv X pins σ' H s) (hh : A.handled = none) (R : StS X.w s.heap a L es ep t) (hm : ∀ m ∈ L, RD X.gk H M (kD m) (.ref m.2)) (ok : SrtOk (L.map kD)) (hu : A.units + 81 < cLine) {Q : Value → Shared → Prop}
    (h : ∀ (L1 : List SM) ys p s', L1.Perm L → RDs X.gk H M (srt (L1.map kD)) ys → Inv X pins σ' (upd H p (.lst ys)) s' → H p = none → Q (.ref p) s') : wpAny (model X.prog X.w) A (call (.builtin "sorted") [.ref a]) Q E s := by
  obtain ⟨o, ho, hex, hd⟩ := R.ob
  have sz := rows_size R.rows
  have few := R.few
  refine Calls.call_function_entry kind_sorted plain_sorted entry_sorted (args_sorted1 _) ?_
  unfold Builtin.«sorted»
  refine wpAny_bind (m := checkCount "sorted" 1 1 _) (wpAny_pure ?_)
  refine wpAny_bind (collect_set (A := A.in1) hh ⟨o, ho, hex.1, hd⟩ R.ok (by unfold scanBound; omega) R.tab.ris R.led fun s1 vs k1 hz g1 o1 pm => ?_)
  rw [R.rows, List.map_map] at pm
  obtain ⟨L1, p1, rfl⟩ := perm_map_ex (fun m : SM => Value.ref m.2) pm L rfl
  have I1 := I.same k1 g1 o1
  obtain ⟨r1, r2⟩ := rds_sm (X := X) (H := H) (M := M) (L := L1) fun m hm1 => hm m (p1.mem_iff.mp hm1)
  have len : (L1.map fun m => Value.ref m.2).length ≤ sizeLine := by rw [List.length_map, p1.length_eq, sizeLine_eq]; omega
  refine wpAny_bind (wpAny_newList ?_ len)
  refine wpAny_bind (wpAny_holding (sort_new I1 r1 r2 (ok.sub fun d hd => (p1.map kD).mem_iff.mp hd) (by simpa using len) (by show A.units + 1 + 80 < cLine; omega) fun ys s' h1 h2 h3 => ?_))
  exact wpAny_pure ⟨_, rfl, h L1 ys _ s' p1 h1 h2 h3⟩
/-! sorted(set(xs)) -/
def pSS (Q : DK) : DK := fun d M1 => match d with
  | .lst xs => xs.length < 64 ∧ ((∃ ns : List Int, xs = ns.map .int ∧ ∀ ns' : List Int, ns'.Pairwise (· < ·) → (∀ k, k ∈ ns' ↔ k ∈ ns) → Q (.lst (ns'.map .int)) M1) ∨
      (∃ ks : List NK, xs = ks.map nkD ∧ (∀ k ∈ ks, flatK k = true) ∧ SrtOk xs ∧ ∀ L : List D, L.Nodup → (∀ d, d ∈ L ↔ d ∈ xs) → Q (.lst (srt L)) M1))
  | _ => False
def dSortSet (t : DT) : DT := fun σ M Q => t σ M (pSS Q)
theorem nk_rows : ∀ {ks : List NK} {ws : List V} {us : List Value}, (∀ k ∈ ks, flatK k = true) → RDs X.gk H M (ks.map nkD) ws → Vals ws us → ∃ L : List SM, us = L.map (fun m => Value.ref m.2) ∧ L.map (·.1) = ks ∧ ∀ m ∈ L, RD X.gk H M (kD m) (.ref m.2) ∧ flatK m.1 = true
  | [], _, _, _, r, q => by obtain rfl := r.none; cases q; exact ⟨[], rfl, rfl, fun m hm => by cases hm⟩
  | k :: ks, _, _, hf, r, q => by
    rw [List.map_cons, RDs] at r
    obtain ⟨x, xs, rfl, h1, h2⟩ := r
    cases q with
    | cons q1 q2 =>
      obtain ⟨L, e1, e2, e3⟩ := nk_rows (fun k' hk' => hf k' (List.mem_cons_of_mem _ hk')) h2 q2
      have fk := hf k List.mem_cons_self
      cases k with
      | tup ks' =>
        have h1' := h1
        rw [nkD] at h1'
        obtain ⟨a, vs, rfl, _⟩ := h1'.tupAt
        cases q1
        refine ⟨(.tup ks', a) :: L, by rw [e1]; rfl, by rw [List.map_cons, e2], fun m hm => ?_⟩
        rcases List.mem_cons.mp hm with z | z
        · rw [z]; exact ⟨h1, fk⟩
        · exact e3 m z
      | none => simp [flatK] at fk
      | num => simp [flatK] at fk
      | text => simp [flatK] at fk
theorem nkD_inj {k k' : NK} (h : nkD k = nkD k') : k = k' := by
  have e := congrArg nkOf h
  rw [nkOf_D, nkOf_D] at e
  exact Option.some.inj e
theorem de_sortset {e : Expr} {t : DT} {p p2 q pos : Pos} (hc : X.calm = true) (hu : X.A.units + 128 < cLine) (hg : Gl X "sorted") (hm : X.mg "sorted" = none) (hg2 : Gl X "set") (hm2 : X.mg "set" = none) (ha : DE X e t)
    (na : starEach [e] X.env = (false, eval e X.env) :: starEach [] X.env := by rfl) : DE X (.Call (.Name "sorted" p) [.Call (.Name "set" p2) [e] [] q] [] pos) (dSortSet t) := by
  refine ⟨fun pins s σ' H R I h => ?_⟩
  obtain ⟨σ, M, Q, S, m, qq, g⟩ := h
  refine Call_ (ld_blt I hg hm PyProof.Rows.boot_sorted ?_)
  refine PyProof.Rows.callWith_builtin1 (PyProof.Rows.args_cons ?_ rfl) rfl rfl
  refine Call_ (ld_blt I hg2 hm2 PyProof.Rows.boot_set ?_)
  refine PyProof.Rows.callWith_type1 (PyProof.Rows.args_cons (thn (ha.run pins s σ' H (fun v H1 => ∃ d M1, Kp H M H1 M1 ∧ MOk X.gk H1 M1 ∧ RD X.gk H1 M1 d v ∧ pSS Q d M1) I ⟨σ, M, _, S, m, qq, fun v H1 d M1 k1 m1 r1 q1 => ⟨d, M1, k1, m1, r1, q1⟩⟩) fun v s1 ⟨x, H1, I1, r1, d, M1, k1, m1, rd, q1⟩ => PyProof.Rows.args_nil ?_) na) na rfl
  unfold pSS at q1
  split at q1
  · rename_i xs
    obtain ⟨few, q1⟩ := q1
    obtain ⟨a, ws, rfl, c, rs⟩ := rd.lstAt
    cases r1
    obtain ⟨its, rv, pl, hz⟩ := I1.list (.of c)
    rcases q1 with ⟨ns, rfl, q1⟩ | ⟨ks, rfl, hf, so, q1⟩
    · rw [rs.map_int] at rv
      rw [List.length_map] at few
      refine call_setI (I1.ok.hd hc) pl.isList (by simpa using intsAre_of rv) few fun h' tk cn hcn hS kp => PyProof.Rows.args_nil ?_
      have I2 : Inv X pins σ' H1 { s1 with heap := h', toks := tk } := I1.kept kp
      refine sorted_set hS (I1.ok.hd hc) (by omega) fun s' p out c0 ns' kp2 g2 o2 hp hg2' hi hs hmem hl => ?_
      have lz : (ns'.map V.int).length ≤ sizeLine := by rw [List.length_map, hl, sizeLine_eq]; omega
      have hn : H1 p = none := I2.hok.fresh hp
      refine ⟨.ref p, upd H1 p (.lst (ns'.map V.int)), I2.call' (ch := []) o2 (Un.laid kp2 hp hn) (I2.hok.laid kp2 hp ⟨lz, out.toList, c0, vals_of_ints hi, hg2'⟩) (by rw [g2]; exact I2.bare) (fun _ z => nomatch z), rfl, ?_⟩
      exact g _ _ _ _ (k1.trans (.laid hn)) (m1.laid hn) (.lstNew m1 hn (RDs.of_int ns')) (q1 ns' hs fun k => by rw [hmem]; simp)
    · obtain ⟨L0, e1, e2, e3⟩ := nk_rows hf rs rv
      have fk : ∀ m ∈ L0, Fk s1.heap m.1 m.2 := fun mm hmm => ⟨nk_is I1 _ _ _ (e3 mm hmm).1 rfl, (e3 mm hmm).2⟩
      have lL : L0.length < 64 := by
        have z := congrArg List.length e2
        rw [List.length_map] at z
        rw [List.length_map] at few
        omega
      refine call_setL (I1.ok.hd hc) pl.isList (by simpa using e1) fk lL (by omega) fun h' tk ⟨L, es, ep, tt, hS, gt, kp⟩ => PyProof.Rows.args_nil ?_
      have I2 : Inv X pins σ' H1 { s1 with heap := h', toks := tk } := I1.kept kp
      have sub : ∀ mm ∈ L, mm ∈ L0 := fun mm hmm => List.mem_of_mem_take (gt.sub mm hmm)
      have inx : ∀ mm ∈ L, kD mm ∈ ks.map nkD := fun mm hmm => by
        rw [← e2, List.map_map]; exact List.mem_map_of_mem (f := fun m : SM => nkD m.1) (sub mm hmm)
      refine sorted_St (M := M1) I2 (I1.ok.hd hc) hS (fun mm hmm => (e3 mm (sub mm hmm)).1) (so.sub fun d hd => ?_) (by omega) fun L1 ys p s' p1 r3 I3 hn => ?_
      · obtain ⟨mm, hmm, rfl⟩ := List.mem_map.mp hd
        exact inx mm hmm
      refine ⟨.ref p, _, I3, rfl, g _ _ _ _ (k1.trans (.laid hn)) (m1.laid hn) (.lstNew m1 hn r3) (q1 (L1.map kD) ?_ fun d => ?_)⟩
      · refine ((p1.map kD).nodup_iff).mpr ?_
        have z := hS.nd
        rw [List.Nodup, List.pairwise_map] at z ⊢
        exact z.imp fun hne e => hne (nkD_inj e)
      · rw [(p1.map kD).mem_iff]
        constructor
        · intro hd
          obtain ⟨mm, hmm, rfl⟩ := List.mem_map.mp hd
          exact inx mm hmm
        · intro hd
          obtain ⟨k, hk, rfl⟩ := List.mem_map.mp hd
          rw [← e2] at hk
          obtain ⟨mm, hmm, rfl⟩ := List.mem_map.mp hk
          obtain ⟨m2, hm2, e4⟩ := List.mem_map.mp (gt.all mm (by rw [List.take_length]; exact hmm))
          exact List.mem_map.mpr ⟨m2, hm2, by unfold kD; rw [e4]⟩
  · exact q1.elim
end
end DL

namespace DL
open PySem PySem.Spec PyProof.Rows L2
def keysD (kvs : List (NK × D)) : List D := kvs.map fun kv => nkD kv.1
section
variable {X : Cx} {pins : List (Addr × Obj)} {σ' : L2.St} {H : Hp} {M : DM} {s : Shared} {A : Around} {E : Value → Shared → Prop}
/-- the keys' own tuples -/
theorem ent_keys : ∀ {kvs : List (NK × D)} {xs : List DEnt}, EntR X.gk H M kvs xs → RDs X.gk H M (keysD kvs) (xs.map fun x => V.ref x.2.1)
  | _, _, .nil => .nil
  | _, _, .cons ⟨e1, e2, e3, e4⟩ t => .cons (by dsimp only; rw [e1]; exact e3) (ent_keys t)
theorem entV_keys : ∀ {xs : List DEnt} {ys : List (NK × Addr × Value)}, EntV xs ys → Vals (xs.map fun x => V.ref x.2.1) (ys.map fun y => Value.ref y.2.1)
  | _, _, .nil => .nil
  | _, _, .cons ⟨e1, e2, e3⟩ t => .cons (by show Value.ref _ = Value.ref _; rw [e2]) (entV_keys t)
def rSorted : DR1 := fun ds M Q => match ds with
  | [.lst xs] => SrtOk xs ∧ xs.length ≤ sizeLine ∧ Q (.lst (srt xs)) M
  | [.ref p] => (∃ xs, M p = some (.lst xs) ∧ SrtOk xs ∧ xs.length ≤ sizeLine ∧ Q (.lst (srt xs)) M) ∨ ∃ kvs, M p = some (.dN kvs) ∧ SrtOk (keysD kvs) ∧ Q (.lst (srt (keysD kvs))) M
  | _ => False
theorem sorted_lst {a : Addr} {ws : List V} {ds : List D} {R : VK} (hu : X.A.units + 128 < cLine) (I : Inv X pins σ' H s) (m : MOk X.gk H M) (c : SqL X.K H a ws) (rs : RDs X.gk H M ds ws) (ok : SrtOk ds) (hz : ds.length ≤ sizeLine)
    (q : ∀ p ys, H p = none → RDs X.gk H M (srt ds) ys → R (.ref p) (upd H p (.lst ys))) : wpAny (model X.prog X.w) X.A (call (.builtin "sorted") [.ref a]) (EP X pins σ' R) X.xe s := by
  obtain ⟨its, rv, pl, _⟩ := I.list c
  have e := each_rds rs rv
  have er := each_reads I (fun _ _ h => h) ok.dat e
  refine PySem.W.sorted_data (enc := D.py) pl.isList e er ok.alike ok.able hz (fun d hd => by rw [D.py_dep]; have := ok.dep d hd; omega) fun out h1 h2 => ?_
  obtain ⟨ys, r1, r2⟩ := rds_each h2
  obtain ⟨c0, hc⟩ := sortedAll_at s.heap its out.toArray
  have ly : ys.length = ds.length := by rw [r1.len]; exact (srt_perm ds).length_eq
  have hn : H (s.heap.objs.size + 1) = none := I.hok.fresh (Nat.le_succ _)
  exact ⟨.ref (s.heap.objs.size + 1), upd H (s.heap.objs.size + 1) (.lst ys), I.laid (t' := s.toks) (fun b u e => sortedAll_old e) (Nat.le_succ _) (show ObjOk X.prog X.w _ _ _ (.lst ys) from ⟨by rw [ly]; exact hz, out, c0, r2, hc⟩), rfl, q _ ys hn r1⟩
theorem c_sorted (hc : X.calm = true) (hu : X.A.units + 128 < cLine) : CallR X (.builtin "sorted") (upC X.gk rSorted) := by
  intro pins s σ' H vs us R I rv h
  obtain ⟨ds, M, Q, r0, m, q, g⟩ := h
  unfold rSorted at q
  split at q
  · obtain ⟨v, rfl, r⟩ := r0.one
    obtain ⟨a, ws, rfl, c, rs⟩ := r.lstAt
    rw [Vals.ref1 rv]
    exact sorted_lst hu I m (.of c) rs q.1 q.2.1 fun p ys hn r1 => g _ _ _ _ (.laid hn) (m.laid hn) (.lstNew m hn r1) q.2.2
  · obtain ⟨v, rfl, r⟩ := r0.one
    obtain rfl := r.eq_ref
    rw [Vals.ref1 rv]
    rcases q with ⟨xs, hp, q⟩ | ⟨kvs, hp, ok, q⟩
    · obtain ⟨ws, c, rs⟩ := m.lstAt hp
      exact sorted_lst hu I m (.of c) rs q.1 q.2.1 fun p ys hn r1 => g _ _ _ _ (.laid hn) (m.laid hn) (.lstNew m hn r1) q.2.2
    · obtain ⟨xs, ys, hH, hE, hV, hD, hs, hl⟩ := dn_heap I m hp
      obtain ⟨es, ep, raw, hsz, ent⟩ := Heap.DictOfH.raw hD
      refine Calls.call_function_entry kind_sorted plain_sorted entry_sorted (args_sorted1 _) ?_
      unfold Builtin.«sorted»
      refine wpAny_bind (m := checkCount "sorted" 1 1 _) (wpAny_pure ?_)
      refine wpAny_bind (PySem.W.kdu_collect (A := X.A.in1) (KdlSrc.rawDict hs) (I.ok.hd hc) raw (by rw [hsz]; exact hl) fun h' tk acc hk hacc => ?_)
      have ea : acc.toList = ys.map fun y => Value.ref y.2.1 := by
        refine List.ext_getElem? fun i => ?_
        rw [List.getElem?_map]
        by_cases hi : i < ys.length
        · have hi' : i < acc.size := by rw [hacc.1, hsz]; exact hi
          have e1 : acc[i]? = some acc[i] := Array.getElem?_eq_getElem hi'
          obtain ⟨hj, e2⟩ := hacc.2 i _ e1
          obtain ⟨y, e3, e4, _⟩ := ent i hj
          rw [Array.getElem?_toList, e1, e2, e4, e3]; rfl
        · rw [List.getElem?_eq_none (by rw [Array.length_toList, hacc.1, hsz]; omega), List.getElem?_eq_none (by omega)]; rfl
      have lk : (keysD kvs).length = ys.length := by unfold keysD; rw [List.length_map]; exact (Paired.length hE).trans (Paired.length hV)
      have I1 : Inv X pins σ' H { s with heap := h', toks := tk } := I.kept hk
      rw [ea]
      refine wpAny_bind (wpAny_newList ?_ (by rw [List.length_map]; exact hl))
      refine wpAny_bind (wpAny_holding (sort_new I1 (ent_keys hE) (entV_keys hV) ok (by rw [lk]; exact hl) (by show X.A.units + 1 + 80 < cLine; omega) fun zs s' h1 h2 h3 => ?_))
      exact wpAny_pure ⟨_, rfl, .ref h'.objs.size, _, h2, rfl, g _ _ _ _ (.laid h3) (m.laid h3) (.lstNew m h3 h1) q⟩
  · exact q.elim
/-! ### a dict walked: it is locked meanwhile -/
theorem de_lockN {e : Expr} {t : DT} (h : DE X e t) : DE X e fun σ M Q => ∃ p kvs, M p = some (.dN kvs) ∧ ∀ od xs, t σ (um M p (.fN od xs kvs)) fun v M' => M' p = some (.fN od xs kvs) ∧ Q v (um M' p (.dN kvs)) :=
  (pe_lock h).imp fun σ' H R ⟨σ, M, Q, S, m, ⟨p, kvs, hp, q⟩, g⟩ => by
    obtain ⟨xs, hH, hE⟩ := m p _ hp
    refine ⟨p, dnO X.gk p xs, hH, True.intro, fun od => ?_⟩
    have k0 : Kp H M (upd H p (.frz od (dnO X.gk p xs))) (um M p (.fN od xs kvs)) := .wrote hp
    refine ⟨σ, um M p (.fN od xs kvs), _, S.kp k0, m.wrote hp ⟨upd_same, Paired.mapP hE fun _ _ ⟨p1, p2, p3, p4⟩ => ⟨p1, p2, p3.kp k0 _ _, p4.kp k0 _ _⟩⟩, q od xs, fun v H' d M' k' m' r' ⟨e', q'⟩ => ?_⟩
    obtain ⟨h1, hE'⟩ := m' p _ e'
    have k1 : Kp H' M' (upd H' p (dnO X.gk p xs)) (um M' p (.dN kvs)) := .wrote e'
    exact ⟨h1, g _ _ _ _ (k0.trans (k'.trans k1)) (m'.wrote (mo' := .dN kvs) e' ⟨xs, upd_same, Paired.mapP hE' fun _ _ ⟨p1, p2, p3, p4⟩ => ⟨p1, p2, p3.kp k1 _ _, p4.kp k1 _ _⟩⟩) (r'.kp k1) q'⟩
def Itn (K : Gk) (d : Addr) (o : Obj) (xs : List DEnt) : It :=
  ⟨fun i H => H d = some (.frz o (dnO K d xs)) ∧ i < xs.length, fun i H x H' => H' = H ∧ ∃ y, xs[i]? = some y ∧ x = .ref y.2.1, fun i H => H d = some (.frz o (dnO K d xs)) ∧ xs.length ≤ i⟩
theorem frzN {d : Addr} {o : Obj} {xs : List DEnt} (I : Inv X pins σ' H s) (h : H d = some (.frz o (dnO X.gk d xs))) :
    (d == sysModules) = false ∧ s.heap.get? d = some o ∧ o.ExactDict ∧ ∃ (es : Array DictEntry) (ep : Nat), o.data = .dict es ep ∧ es.size = xs.length ∧ ∀ (i : Nat) y, xs[i]? = some y → ∃ en : DictEntry, es[i]? = some en ∧ en.key = .ref y.2.1 := by
  obtain ⟨hd, ⟨hs, hz, ys, hv, o', es, ep, ho, hx, hdt, he, hn⟩, _⟩ := I.hok d _ h
  rw [hd] at ho
  cases ho
  have lx : xs.length = ys.length := Paired.length hv
  refine ⟨hs, hd, hx, es, ep, hdt, by rw [size_of_entries he, lx], fun i y e => ?_⟩
  obtain ⟨b, hb, e1, e2, _⟩ := paired_get hv e
  have q := entry_at he i
  rw [hb] at q
  exact ⟨_, q, by show Value.ref b.2.1 = _; rw [e2]⟩
theorem turn_keysN {P : Program} {w : World} {K : PySem.W.Frag} {tg : Expr} {d : Addr} {o : Obj} {es : Array DictEntry} {ep : Nat} {xs : List DEnt} (it : Addr) (hod : o.data = .dict es ep) :
    Turn P w K tg (Itn ⟨P, w, K⟩ d o xs) [it] it (fun i h => h.IsKeyIter it d i xs.length ep) where
  mem := by simp
  obj := fun i h st b hb => by
    obtain rfl : b = it := by simpa using hb
    obtain ⟨oi, e, c, dd⟩ := st
    exact ⟨oi, e, fun v z => by rw [dd] at z; cases z⟩
  keep := fun i h h' st k => st.at fun oi e => k it (by simp) oi e
  item := by
    intro X hP hw hK hc i pins s σ H E I hf st hg
    subst hP hw hK
    obtain ⟨hd, hi⟩ := hg
    obtain ⟨f0, f1, f2, f3, f4, f5⟩ := hf it (by simp)
    obtain ⟨hs, hgd, hx, es', ep', hdt, hsz, ent⟩ := frzN I hd
    obtain ⟨rfl, rfl⟩ := dict_ep hod hdt
    obtain ⟨y, hy⟩ : ∃ y, xs[i]? = some y := ⟨_, List.getElem?_eq_getElem hi⟩
    obtain ⟨en, hen, hkey⟩ := ent i y hy
    refine next_key_item st hgd hdt hsz hen fun h' st' sb => ?_
    have I1 : Inv X pins σ H { s with heap := h' } := I.turned (t' := s.toks) (fun b ob hb e => (sb.2 b hb).trans e) f0 f1 f3 f4 f5
    obtain ⟨oi, e, c, dd⟩ := id st'
    exact ⟨en.key, rfl, go_of (s := { s with heap := h' }) e c dd (by decide) ⟨.ref y.2.1, H, I1, hkey, ⟨rfl, y, hy, rfl⟩, st', fun b hb => (hf b hb).1⟩⟩
  done := by
    intro X hP hw hK hc i pins s σ H E I hf st hg
    subst hP hw hK
    obtain ⟨hd, hi⟩ := hg
    obtain ⟨f0, f1, f2, f3, f4, f5⟩ := hf it (by simp)
    obtain ⟨hs, hgd, hx, es', ep', hdt, hsz, ent⟩ := frzN I hd
    obtain ⟨rfl, rfl⟩ := dict_ep hod hdt
    exact next_key_end (I.ok.hd hc) st hgd hdt hsz hi fun h' eb => ⟨rfl, I.turned (t' := s.toks) (fun b ob hb e => eb b ob hb e) f0 f1 f3 f4 f5⟩
  self := fun A i s Q E st h => wpAny_pyIter_slot st.typeIs F.slot_dict_keyiterator_iter (wpAny_call_entry F.slot_dict_keyiterator_iter st.typeIs F.entry_dict_keyiterator_iter
    (show wpAny _ _ (ret (.ref it)) _ _ s from wpAny_pure ⟨_, rfl, "dict_keyiterator", _, st.typeIs, F.slot_dict_keyiterator_next.lookup, h⟩) (F.args_dict_keyiterator_iter_1 _))
/-- over a locked dict -/
def iKeysN (te : DT) : DI := fun σ M Q => te σ M fun d M1 => match d with
  | .ref p => ∃ od xs kvs, M1 p = some (.fN od xs kvs) ∧ Q ⟨keysD kvs, fun M => M p = some (.fN od xs kvs)⟩ M1
  | _ => False
theorem di_keysN {tg e : Expr} {te : DT} (he : DE X e te) : DIr X tg e (iKeysN te) := by
  refine ⟨fun pins s σ' H R I h => ?_⟩
  obtain ⟨σ, M, Q, S, m, q, g⟩ := h
  refine thn (he.run pins s σ' H (fun x H1 => ∃ p od xs kvs M1, x = .ref p ∧ Kp H M H1 M1 ∧ MOk X.gk H1 M1 ∧ M1 p = some (.fN od xs kvs) ∧ Q ⟨keysD kvs, fun M => M p = some (.fN od xs kvs)⟩ M1) I ⟨σ, M, _, S, m, q, fun v H1 d M1 k1 m1 r1 q1 => ?_⟩) fun u s1 ⟨x, H1, I1, rx, p, od, xs, kvs, M1, ex, k1, m1, hp, q1⟩ => ?_
  · split at q1
    · obtain ⟨od, xs, kvs, hp, q1⟩ := q1
      exact ⟨_, od, xs, kvs, M1, r1.eq_ref, k1, m1, hp, q1⟩
    · exact q1.elim
  · subst ex
    obtain rfl : u = Value.ref p := rx
    have hH := (m1 p _ hp).1
    obtain ⟨hs, hgd, hx, es, ep, hdt, hsz, ent⟩ := frzN I1 hH
    refine iter_keys hs hgd hx hdt (pi_one (tk := s1.toks) I1 _ (turn_keysN (K := X.K) _ hdt) ⟨_, Heap.get?_push_size _ rfl, rfl, ?_⟩ (g (Itn X.gk p od xs) H1 _ M1 k1 m1 ?_ q1))
    · rw [hsz] <;> rfl
    · have lk : ∀ {H2 M2}, MOk X.gk H2 M2 → M2 p = some (.fN od xs kvs) → (keysD kvs).length = xs.length := fun m2 h2 => by
        unfold keysD; rw [List.length_map]; exact Paired.length (m2 p _ h2).2
      refine ⟨fun H2 M2 k2 m2 ok => ⟨(m2 p _ ok).1, Nat.le_of_eq (lk m2 ok).symm⟩, fun i d H2 M2 k2 m2 ok hd => ?_⟩
      obtain ⟨h1, hE⟩ := m2 p _ ok
      obtain ⟨v, hv, rv⟩ := (ent_keys hE).get hd
      rw [List.getElem?_map] at hv
      obtain ⟨y, hy, rfl⟩ := Option.map_eq_some_iff.mp hv
      refine ⟨⟨h1, (List.getElem?_eq_some_iff.mp hy).1⟩, fun x H3 ⟨e3, y', hy', ex⟩ => ?_⟩
      rw [hy] at hy'; cases hy'
      subst e3 ex
      exact ⟨.refl, m2, rv⟩
/-! ### a, b, c = x, y, z -/
def dPar3 (i j l : Nat) (ta : DTA) : DTS := fun D σ M => ta σ M fun ds M1 => match ds with
  | [d, e, f] => D.nx (((σ.set i (some d)).set j (some e)).set l (some f)) M1
  | _ => False
theorem ds_par3 {i j l : Nat} {x y z : Str} {a b c : Expr} {ta : DTA} {px py pz pt pos : Pos} {kt k2 pt2} (hc : X.calm = true) (hN : X.N.Nodup) (hi : X.N[i]? = some x) (hj : X.N[j]? = some y) (hl : X.N[l]? = some z) (hij : i ≠ j) (hil : i ≠ l) (hjl : j ≠ l)
    (hx : X.env.scope.names.lookup x = some .local) (hy : X.env.scope.names.lookup y = some .local) (hz : X.env.scope.names.lookup z = some .local) (ha : DA X [a, b, c] ta)
    (hw : swappedStores [.Tuple [.Name x px, .Name y py, .Name z pz] kt pt] (.Tuple [a, b, c] k2 pt2) X.env = pure (some [x, y, z]))
    (hs : swapsWithSole [.Tuple [.Name x px, .Name y py, .Name z pz] kt pt] (.Tuple [a, b, c] k2 pt2) pos.line X.env = pure false := by rfl) :
    DStm X (.Assign [.Tuple [.Name x px, .Name y py, .Name z pz] kt pt] (.Tuple [a, b, c] k2 pt2) pos) (dPar3 i j l ta) :=
  (ps_par3 hc hN hi hj hl hij hil hjl hx hy hz ha hw hs).imp fun E σ' H ⟨σ, M, D, S, m, q, gg⟩ => ⟨σ, M, _, S, m, q, fun vs H1 ds M1 k1 m1 r1 q1 => by
    split at q1
    · rename_i d e f
      rw [RDs] at r1
      obtain ⟨u, us, rfl, r2, r1⟩ := r1
      obtain ⟨v, w, rfl, r3, r4⟩ := r1.two
      exact ⟨u, v, w, rfl, gg.nx _ _ _ _ k1 m1 ((((S.kp k1).set i r2).set j r3).set l r4) q1⟩
    · exact q1.elim⟩
/-! ### repr -/
def rRepr : DR1 := fun ds M Q => match ds with
  | [.tup xs] => D.dats xs = true ∧ D.deps xs ≤ 64 ∧ (D.tup xs).py.showable = true ∧ (D.tup xs).py.shown.length ≤ sizeLine ∧ Q (.str (D.tup xs).py.shown) M
  | _ => False
theorem c_repr (hg : X.A.guards = some []) (hu : X.A.units + 128 < cLine) : CallR X (.builtin "repr") (upC X.gk rRepr) := by
  intro pins s σ' H vs us R I rv h
  obtain ⟨ds, M, Q, r0, m, q, g⟩ := h
  unfold rRepr at q
  split at q
  · rename_i xs
    obtain ⟨hd, hz, hs, hl, q⟩ := q
    obtain ⟨v, rfl, r⟩ := r0.one
    have hd' : (D.tup xs).dat = true := by simpa [D.dat] using hd
    obtain ⟨u, rfl, ru⟩ := rv.one
    obtain ⟨as, rr⟩ := Dp.reads I _ _ _ (r.dp _ _ hd') ru
    obtain ⟨a, ws, rfl, _⟩ := r.tupAt
    cases ru
    have nd : (D.tup xs).py.hasDict = false := PyData.hasDict_of_canLay _ (D.canLay _ hd')
    refine repr_of_reads' rr hs (PyData.noDict_hsm nd) hg (by rw [D.py_dep, D.dep]; omega) (fun _ _ e => e) (fun h' t tk hk => ⟨.str _, H, I.kept hk, ⟨t, rfl⟩, g _ _ _ _ .refl m (.str _) q⟩) hl
  · exact q.elim
end
end DL

namespace DL
open PySem PySem.Spec PyProof.Rows L2
/-! ### dict(pairs) -/
def putAll (kvs ps : List (NK × D)) : List (NK × D) := ps.foldl (fun acc p => putT acc p.1 p.2) kvs
def pairD (p : NK × D) : D := .tup [nkD p.1, p.2]
structure RawP where
  T : Addr
  k : NK
  a : Addr
  v : V
  u : Value
section
variable {X : Cx} {pins : List (Addr × Obj)} {σ' : L2.St} {H : Hp} {M : DM} {s : Shared}
def PRel (X : Cx) (H : Hp) (M : DM) (h : Heap) (p : NK × D) (l : RawP) : Prop := l.k = p.1 ∧ h.IsTuple l.T #[.ref l.a, l.u] ∧ RelV l.v l.u ∧ RD X.gk H M (nkD p.1) (.ref l.a) ∧ RD X.gk H M p.2 l.v
theorem pairs_raw (I : Inv X pins σ' H s) : ∀ {ps : List (NK × D)} {ws : List V} {us : List Value}, (∀ p ∈ ps, ∃ ks, p.1 = .tup ks) → RDs X.gk H M (ps.map pairD) ws → Vals ws us → ∃ L : List RawP, Paired (PRel X H M s.heap) ps L ∧ us = L.map fun l => Value.ref l.T
  | [], _, _, _, r, q => by obtain rfl := r.none; cases q; exact ⟨[], .nil, rfl⟩
  | p :: ps, _, _, ht, r, q => by
    rw [List.map_cons, RDs] at r
    obtain ⟨x, xs, rfl, h1, h2⟩ := r
    cases q with
    | cons q1 q2 =>
      obtain ⟨L, e1, e2⟩ := pairs_raw I (fun p' hp' => ht p' (List.mem_cons_of_mem _ hp')) h2 q2
      obtain ⟨T, vs, rfl, c, rs⟩ := h1.tupAt
      cases q1
      obtain ⟨k, v, rfl, rk, rv⟩ := rs.two
      obtain ⟨its, rvs, ⟨o, ho, hc, n, hd⟩, _⟩ := I.tuple c
      obtain ⟨ks, ek⟩ := ht p List.mem_cons_self
      have rk' := rk
      rw [ek, nkD] at rk'
      obtain ⟨a, _, rfl, _⟩ := rk'.tupAt
      cases rvs with
      | cons g1 g2 =>
        cases g2 with
        | cons g2 g3 =>
          cases g3
          cases g1
          exact ⟨⟨T, p.1, a, v, _⟩ :: L, .cons ⟨rfl, ⟨o, ho, hc, n, by simpa using hd⟩, g2, rk, rv⟩ e1, by rw [e2]; rfl⟩
theorem putAll_rel {h : Heap} : ∀ (ps : List (NK × D)) {L : List RawP} {kvs : List (NK × D)} {xs : List DEnt} {ys : List (NK × Addr × Value)}, Paired (PRel X H M h) ps L → (∀ p ∈ ps, p.1.depth ≤ 8) → EntR X.gk H M kvs xs → EntV xs ys →
    ∃ xs', EntR X.gk H M (putAll kvs ps) xs' ∧ EntV xs' (storedAllH ys (L.map fun l => (l.k, l.a, l.u)))
  | [], _, _, _, _, pr, _, e, v => by cases pr; exact ⟨_, e, v⟩
  | p :: ps, _, _, _, _, pr, hd, e, v => by
    cases pr with
    | @cons _ l _ L r t =>
      obtain ⟨e1, e2, e3, e4, e5⟩ := r
      have z1 := entR_put e (hd _ List.mem_cons_self) e4 e5
      have z2 := entV_put (k := p.1) (a := l.a) v e3
      obtain ⟨xs', h1, h2⟩ := putAll_rel ps t (fun q hq => hd q (List.mem_cons_of_mem _ hq)) z1 z2
      refine ⟨xs', h1, ?_⟩
      rw [← e1] at h2
      exact h2
theorem putAll_len : ∀ (ps kvs : List (NK × D)), (putAll kvs ps).length ≤ kvs.length + ps.length
  | [], kvs => Nat.le_refl _
  | p :: ps, kvs => by
    have h1 := putAll_len ps (putT kvs p.1 p.2)
    have h2 : (putT kvs p.1 p.2).length ≤ kvs.length + 1 := by unfold putT; split <;> simp
    show (putAll (putT kvs p.1 p.2) ps).length ≤ _
    rw [List.length_cons]; omega
theorem plainSeq_of {h : Heap} {a : Addr} {its : Array Value} (p : PlainL h a its) : PlainSeq "list" h a its := by
  obtain ⟨o, n, h1, h2, h3, h4⟩ := p
  exact ⟨o, n, h1, h2, h3, h4⟩
def rDictP : DR1 := fun ds M Q => match ds with
  | [.lst xs] => ∃ ps : List (NK × D), xs = ps.map pairD ∧ (∀ p ∈ ps, (∃ ks, p.1 = .tup ks) ∧ p.1.depth ≤ 8) ∧ ps.length ≤ sizeLine ∧ ∀ a, M a = none → Q (.ref a) (um M a (.dN (putAll [] ps)))
  | _ => False
theorem c_dictP (hc : X.calm = true) (hu : X.A.units + 32 < cLine) : CallR X (.type "dict") (upC X.gk rDictP) := by
  intro pins s σ' H vs us R I rv h
  obtain ⟨ds, M, Q, r0, m, q, g⟩ := h
  unfold rDictP at q
  split at q
  · obtain ⟨ps, rfl, hp, hl, q⟩ := q
    obtain ⟨v, rfl, r⟩ := r0.one
    obtain ⟨a, ws, rfl, c, rs⟩ := r.lstAt
    rw [Vals.ref1 rv]
    obtain ⟨its, rvs, pl, _⟩ := I.list (.of c)
    obtain ⟨L, pr, rfl⟩ := pairs_raw I (fun p hp' => (hp p hp').1) rs rvs
    have lL : ps.length = L.length := Paired.length pr
    obtain ⟨T0⟩ : Nonempty RawP := ⟨⟨0, .none, 0, .non, .none⟩⟩
    have PA := PairArg.list (prog := X.prog) (w := X.w) a (L.map fun l => Value.ref l.T).toArray (fun j => (L.getD j T0).T) (L.map fun l => (Value.ref l.a, l.u))
    have tupAt : ∀ l ∈ L, s.heap.IsTuple l.T #[.ref l.a, l.u] ∧ NestedIs s.heap l.k (.ref l.a) ∧ l.k.depth ≤ 8 := fun l hl => by
      obtain ⟨i, hi⟩ := List.mem_iff_getElem?.mp hl
      have hi2 : i < ps.length := by rw [lL]; exact (List.getElem?_eq_some_iff.mp hi).1
      obtain ⟨b, hb, e1, e2, e3, e4, e5⟩ := paired_get pr (List.getElem?_eq_getElem hi2)
      rw [hi] at hb; cases hb
      exact ⟨e2, by rw [e1]; exact nk_is I _ _ _ e4 rfl, by rw [e1]; exact (hp _ (List.getElem_mem hi2)).2⟩
    refine call_dict_pairsH (knd := nestedKind X.prog X.w) (ps := L.map fun l => (l.k, l.a, l.u)) PA (I.ok.hd hc) (by show X.A.units + 1 + 1 + 8 < cLine; omega) ⟨?_, by simp, fun j k v hj => ?_⟩ ⟨by simp, fun i key v hi => ?_⟩ (fun h' hk x hx => ?_) (by rw [List.length_map, ← lL]; exact hl) fun h' tk hD kp => ?_
    · exact plainSeq_of pl
    · rw [List.getElem?_map] at hj
      obtain ⟨l, hl1, hl2⟩ := Option.map_eq_some_iff.mp hj
      cases hl2
      have ed : (L.getD j T0) = l := by rw [List.getD_eq_getElem?_getD, hl1]; rfl
      refine ⟨by simp [hl1, ed], (.inl (by dsimp only; rw [ed]; exact (tupAt l (List.mem_of_getElem? hl1)).1))⟩
    · have hi' : (L.map fun l => (Value.ref l.a, l.u))[i]? = some (key, v) := hi
      rw [List.getElem?_map] at hi'
      obtain ⟨l, hl1, hl2⟩ := Option.map_eq_some_iff.mp hi'
      cases hl2
      exact ⟨l.k, l.a, by rw [List.getElem?_map, hl1]; rfl, rfl⟩
    · obtain ⟨l, hl1, rfl⟩ := List.mem_map.mp hx
      obtain ⟨_, h2, h3⟩ := tupAt l hl1
      exact ⟨NestedIs.at (fun b o vs n e _ => hk b o (Nat.ne_of_lt (Heap.lt_size e)) (by simp) e) _ _ h2, h3⟩
    · have kp' : ∀ b o, s.heap.get? b = some o → h'.get? b = some o := fun b o e => kp b o (by simp) e
      obtain ⟨xs', hE, hV⟩ := putAll_rel (X := X) (H := H) (M := M) (kvs := []) (xs := []) (ys := []) ps pr (fun p hp' => (hp p hp').2) .nil .nil
      have hn : H s.heap.objs.size = none := I.hok.fresh (Nat.le_refl _)
      have lx : xs'.length ≤ sizeLine := by
        have z := putAll_len ps []
        rw [List.length_nil, Nat.zero_add] at z
        rw [← Paired.length hE]; omega
      have k0 : Kp H M (upd H s.heap.objs.size (dnO X.gk s.heap.objs.size xs')) (um M s.heap.objs.size (.dN (putAll [] ps))) := .made hn
      refine ⟨.ref s.heap.objs.size, _, I.laid (t' := tk) kp' (Nat.le_refl _) (dnO_ok (K := X.K) (beq_eq_false_iff_ne.mpr (Ne.symm (Nat.ne_of_lt I.big))) lx hV hD), rfl, ?_⟩
      exact g _ _ _ _ k0 (m.made (mo := .dN (putAll [] ps)) hn ⟨xs', upd_same, Paired.mapP hE fun _ _ ⟨p1, p2, p3, p4⟩ => ⟨p1, p2, p3.kp k0 _ _, p4.kp k0 _ _⟩⟩) (.ref _) (q _ (m.noneAt hn))
  · exact q.elim
end
/-! ### {"a": x, ..}, d["a"] -/
def dPairs : List (Str × DT) → DTA
  | [] => dNil
  | (_, t) :: r => dCons t (dPairs r)
def dDisp (l : List (Str × DT)) : DT := fun σ M Q => ∀ p, M p = none → dPairs l σ (um M p (.dK [])) fun ds M2 => M2 p = some (.dK []) ∧ Q (.ref p) (um M2 p (.dK ((l.map fun x => (Sum.inr x.1 : Key)).zip ds)))
def trsOf (K : Gk) (l : List (Str × DT)) : List (TE × TE) := l.map fun x => (tC (.str x.1), up K x.2)
theorem pairs2 {K : Gk} : ∀ (l : List (Str × DT)) {σ' : L2.St} {H : Hp} {M : DM} {σ : DS} {Q : List D → DM → Prop} {R : List (V × V) → Hp → Prop}, Slots K H M σ' σ → MOk K H M → dPairs l σ M Q →
    (∀ vs H' ds M', Kp H M H' M' → MOk K H' M' → RDs K H' M' ds vs → vs.length = l.length → Q ds M' → R ((l.map fun x => V.str x.1).zip vs) H') → tPairs (trsOf K l) σ' H R
  | [], _, H, M, _, _, _, S, m, q, g => g [] H [] M .refl m .nil rfl q
  | (x, t) :: r, σ', H, M, σ, Q, R, S, m, q, g => ⟨σ, M, _, S, m, q, fun v H1 d M1 k1 m1 r1 q1 => pairs2 r (S.kp k1) m1 q1 fun vs H2 ds M2 k2 m2 r2 hl q2 => g (v :: vs) H2 (d :: ds) M2 (k1.trans k2) m2 (.cons (r1.kp k2 _ _) r2) (by rw [List.length_cons, List.length_cons, hl]) q2⟩
section
variable {X : Cx} {pos : Pos} {keys : List (Option Expr)} {values : List Expr}
theorem zip_kV : ∀ (l : List (Str × DT)) (vs : List V), (l.map fun x => V.str x.1).zip vs = (((l.map (·.1)).map (Sum.inr : Str → Key)).zip vs).map fun kv => (kV kv.1, kv.2)
  | [], _ => rfl
  | _ :: _, [] => rfl
  | x :: l, v :: vs => by
    show (V.str x.1, v) :: (l.map fun x => V.str x.1).zip vs = _
    rw [zip_kV l vs]; rfl
theorem mergeK_zip : ∀ (ks : List Str) (vs : List V) (acc : List (Key × V)), ks.Nodup → (∀ k ∈ ks, ∀ p ∈ acc, p.1 ≠ .inr k) → mergeK acc ((ks.map Sum.inr).zip vs) = acc ++ (ks.map Sum.inr).zip vs
  | [], vs, acc, _, _ => by simp [mergeK]
  | k :: ks, [], acc, _, _ => by simp [mergeK]
  | k :: ks, v :: vs, acc, nd, h => by
    rw [List.nodup_cons] at nd
    have e : putK acc (.inr k) v = acc ++ [(.inr k, v)] := by
      unfold putK
      rw [if_neg]
      intro z
      obtain ⟨p, hp, e⟩ := List.any_eq_true.mp z
      exact h k List.mem_cons_self p hp (of_decide_eq_true e)
    show mergeK (putK acc (.inr k) v) ((ks.map Sum.inr).zip vs) = _
    rw [e, mergeK_zip ks vs _ nd.2 (fun k' hk' p hp => ?_), List.append_assoc]
    · rfl
    · rcases List.mem_append.mp hp with z | z
      · exact h k' (List.mem_cons_of_mem _ hk') p z
      · rw [List.mem_singleton.mp z]
        intro e'
        injection e' with e'
        exact nd.1 (e' ▸ hk')
theorem de_disp {l : List (Str × DT)} (h : PPs X pos keys values (trsOf X.gk l)) (nd : (l.map (·.1)).Nodup) (hn : l.length ≤ 15) (hall : keys.all (·.isSome) = true := by rfl) (hl : keys.length = values.length := by rfl) (h0 : keys ≠ [] := by exact fun z => nomatch z) (h15 : keys.length ≤ 15 := by decide) :
    DE X (.Dict keys values pos) (dDisp l) := (pe_disp h hall hl h0 h15).imp fun σ' H R ⟨σ, M, Q, S, m, q, g⟩ p hp => by
  have k0 : Kp H M (upd H p (.dK [])) (um M p (.dK [])) := .made hp
  refine pairs2 l (S.kp k0) (m.made (mo := .dK []) hp ⟨[], upd_same, .nil⟩) (q p (m.noneAt hp)) fun vs H' ds M' k' m' r' hl' ⟨e', q'⟩ => ?_
  obtain ⟨vs0, hH, r0⟩ := m' p _ e'
  obtain rfl := r0.none
  refine ⟨hH, ((l.map (·.1)).map Sum.inr).zip vs, ?_, by rw [List.length_zip, List.length_map, List.length_map]; omega, ?_⟩
  · exact zip_kV l vs
  · rw [mergeK_zip _ _ _ nd (fun _ _ _ hp => by cases hp), List.nil_append]
    have ld := r'.len
    have kw : Kp H' M' (upd H' p (.dK (((l.map (·.1)).map Sum.inr).zip vs))) (um M' p (.dK ((l.map fun x => (Sum.inr x.1 : Key)).zip ds))) := .wrote e'
    have e1 : (((l.map fun x => (Sum.inr x.1 : Key)).zip ds).map (·.1)) = (l.map (·.1)).map Sum.inr := by
      rw [List.map_fst_zip (by rw [List.length_map]; omega), List.map_map]; rfl
    have e2 : (((l.map fun x => (Sum.inr x.1 : Key)).zip ds).map (·.2)) = ds := List.map_snd_zip (by rw [List.length_map]; omega)
    exact g _ _ _ _ (k0.trans (k'.trans kw)) (m'.wrote (mo' := .dK ((l.map fun x => (Sum.inr x.1 : Key)).zip ds)) e' ⟨vs, by rw [upd_same, e1], by rw [e2]; exact r'.kp kw⟩) (.ref p) q'
theorem pps_c {x : Str} {j p} {v : Expr} {t : DT} {ks : List (Option Expr)} {vs : List Expr} {l : List (Str × DT)} (hv : DE X v t) (hr : PPs X pos ks vs (trsOf X.gk l)) : PPs X pos (some (.Constant (.str x) j p) :: ks) (v :: vs) (trsOf X.gk ((x, t) :: l)) := pps_cons pe_str hv hr
/-- d["a"] -/
def rGetK : DR2 := fun o i M Q => match o, i with
  | .ref p, .str x => ∃ kvs d, M p = some (.dK kvs) ∧ getT kvs (Sum.inr x : Key) = some d ∧ Q d M
  | _, _ => False
theorem dk_get {H : Hp} {M : DM} {K : Gk} {k : Key} {d : D} : ∀ {kvs : List (Key × D)} {vs : List V}, RDs K H M (kvs.map (·.2)) vs → getT kvs k = some d → ∃ v, valV ((kvs.map (·.1)).zip vs) k = some v ∧ RD K H M d v
  | [], _, _, h => by simp [getT] at h
  | p :: kvs, _, r, h => by
    rw [List.map_cons, RDs] at r
    obtain ⟨v, vs, rfl, h1, h2⟩ := r
    by_cases e : p.1 = k
    · refine ⟨v, by simp [valV, e], ?_⟩
      have z : getT (p :: kvs) k = some p.2 := by simp [getT, List.find?_cons, e]
      rw [z] at h; cases h
      exact h1
    · have z : getT (p :: kvs) k = getT kvs k := by simp [getT, List.find?_cons, e]
      rw [z] at h
      obtain ⟨w, q1, q2⟩ := dk_get h2 h
      exact ⟨w, by rw [List.map_cons, List.zip_cons_cons, valV_neg e]; exact q1, q2⟩
theorem de_dgetK {o i : Expr} {to ti : DT} (hu : X.A.units + 1 < cLine) (ho : DE X o to) (hi : DE X i ti) (hs : NoSl i := by exact fun _ _ => rfl) : DE X (.Subscript o i pos) (dOp rGetK to ti) :=
  (pe_dget hu ho hi hs).imp fun σ' H R ⟨σ, M, Q, S, m, q, g⟩ => ⟨σ, M, _, S, m, q, fun v H1 d M1 k1 m1 r1 q1 => ⟨σ, M1, _, S.kp k1, m1, q1, fun w H2 e M2 k2 m2 r2 q2 => by
    unfold rGetK at q2
    split at q2
    · obtain ⟨kvs, z, hp, hg, q2⟩ := q2
      obtain ⟨vs, hH, rs⟩ := m2 _ _ hp
      obtain ⟨y, hy, ry⟩ := dk_get rs hg
      rw [(r1.kp k2 _ _).eq_ref, r2.eq_str]
      refine ⟨_, y, rfl, .inl ⟨_, .inr _, .inl hH, rfl, hy.symm⟩, g _ _ _ _ (k1.trans k2) m2 ry q2⟩
    · exact q2.elim⟩⟩
end
end DL

namespace DL
open PySem PySem.Spec PyProof.Rows L2
/-! ### defs that are called where no repr is under way -/
structure GnOk (P : Program) (w : World) (K : PySem.W.Frag) (mg : Str → Option Value) (base : Heap) (k : Nat) (f : Addr) (fd : FuncData) (ps : List Str) (sp : Sp) : Prop where
  len : ∀ vs H Q E, sp vs H Q E → vs.length = ps.length
  run : ∀ (A : Around) (outer : List Env) (s : Shared) (H : Hp) (args : Args) (us : List Value) (vs : List V) (Q : VK) (E : XK), A.guards = some [] → Room k A → Env0 P w K mg base A outer s H → BindsTo s fd args (ps.zip us) → Vals vs us → sp vs H Q E →
    codeAny (model P w) A (.call (.ref f) args) (CR CX0 outer P w H s Q E) s
abbrev DGn (P : Program) (w : World) (K : PySem.W.Frag) (mg : Str → Option Value) (base : Heap) (k : Nat) (f : Addr) (fd : FuncData) (ps : List Str) (sp : DSp) : Prop := GnOk P w K mg base k f fd ps (upSp ⟨P, w, K⟩ sp)
section
variable {P : Program} {w : World} {K : PySem.W.Frag} {mg : Str → Option Value} {base : Heap}
theorem dgn_ok {x qual : Str} {st : Stmt} {f : Addr} {fd : FuncData} {N ps : List Str} {k : Nat} {sp : DSp} (F : Fun K x qual st f fd) (S : FnScope N ps (defScope st)) (len : ∀ ds M Q, sp ds M Q → ds.length = ps.length)
    (hbody : ∀ (cdv : Value) (A : Around) (outer : List Env) (s : Shared) (H : Hp) (E : XK), A.guards = some [] → Room k (A.deeper (envOfC qual (defScope st) s.heap.objs.size f cdv)) →
      ∃ t, DStms (cxOf CX0 P w K mg base N qual (defScope st) f cdv A outer s H E).nox (defBody st) t ∧ ∀ ds M Q, sp ds M Q → t { nx := fun _ M' => Dr Q .non M', rt := Dr Q } (dstart N ds) M) : DGn P w K mg base (k + 1) f fd ps sp := by
  obtain ⟨oc, od, kV, doc, pm, an, cdv, ct, osl, rfl, lk, hcd⟩ := F.ex
  have hlen : ∀ vs H Q E, upSp ⟨P, w, K⟩ sp vs H Q E → vs.length = ps.length := fun vs H Q E ⟨ds, M, Q', r, m, h, g⟩ => by rw [r.len]; exact len ds M Q' h
  refine ⟨hlen, fun A outer s H args us vs Q E hg hr e0 hb r hsp => ?_⟩
  have KX : K.In s.heap := e0.mod.kin.keeps fun b o e => (e0.bs b o e).1
  have nl : s.heap.NoLimit := e0.mod.nolimit.keeps fun b o e => (e0.bs b o e).1
  refine codeAny_call_function hr.depth (KX _ _ lk) rfl S.co S.gen rfl (PySem.W.codeRec_of KX hcd) (hb _ _ _ _ (wpAny_newFunctionEnv_cells S.kind (fun ⟨n, v⟩ hy => ?_) fun env he s1 x => ?_))
  · rcases S.par n (List.of_mem_zip hy).1 with q | q
    · exact .inl q
    · exact .inr ⟨q, PySem.W.cellsFrom_some _ _ _ (.inl q)⟩
  subst he
  refine ⟨nl.keeps x.toInCall.keep, codeAny_func ?_⟩
  have hl := hlen vs H Q E hsp
  obtain ⟨ds, M, Q', r', m, h, g⟩ := hsp
  obtain ⟨t, ht, hq⟩ := hbody cdv A outer s H E hg (hr.deeper _)
  have I : Inv (cxOf CX0 P w K mg base N qual (defScope st) f cdv A outer s H E) [] (L2.start N vs) H s1 := inv_start S hr.hd e0 hl r x
  have hts : upS ⟨P, w, K⟩ t { nx := fun _ H' => Q .non H', rt := Q } (L2.start N vs) H := ⟨dstart N ds, M, _, slots_start r', m, hq ds M Q' h, ⟨fun σ1' H1 σ1 M1 k1 m1 _ q1 => g.dr _ _ _ _ k1 m1 .non q1, g.dr, fun _ _ _ _ _ _ _ q => q.elim, fun _ _ _ _ _ _ _ q => q.elim⟩⟩
  have ht' : PSs (cxOf CX0 P w K mg base N qual (defScope st) f cdv A outer s H E) (defBody st) (upS ⟨P, w, K⟩ t) := PSs.nox ht
  refine wpAny_mono (ht'.run [] s1 (L2.start N vs) H _ I hts) (fun fl s' hs => ?_) fun e s' hs => hs
  cases fl with
  | ret u => obtain ⟨v, σ', H', J, rv, q⟩ := hs; exact ⟨v, H', J.os, J.bare, J.base, J.hok, rv, q⟩
  | next => obtain ⟨σ', H', J, q⟩ := hs; exact ⟨V.non, H', J.os, J.bare, J.base, J.hok, rfl, q⟩
  | brk => obtain ⟨_, _, _, q⟩ := hs; exact q.elim
  | cont => obtain ⟨_, _, _, q⟩ := hs; exact q.elim
end
section
variable {X : Cx} {k : Nat} {f : Addr} {fd : FuncData} {ps : List Str} {sp : DSp} {x : Str} {p pos : Pos} {e : Expr} {es : List Expr} {t : DTA}
theorem de_callG (hA : X.A.guards = some []) (F : DGn X.prog X.w X.K X.mg X.base k f fd ps sp) (hr : Room k X.A) (hg : Gl X x) (hm : X.mg x = some (.ref f)) (hk : PySem.W.keepIn X.K (.ref f) = true) (hb : Binds X.K fd ps [])
    (ha : DA X (e :: es) t) (hdb : (x == ("__debug__" : Str)) = false := by decide) (he : starEach (e :: es) X.env = (false, eval e X.env) :: starEach es X.env := by rfl) (hpl : (backTo pos (starEach es X.env)).any (·.1) = false := by rfl) :
    DE X (.Call (.Name x p) (e :: es) [] pos) (dCall sp t) := by
  refine ⟨fun pins s σ' H R I h => wpAny_Call_Name_kw (ld_glob I hg hm ?_ hdb)⟩
  obtain ⟨σ, M, Q, S, m, q, g⟩ := h
  refine PySem.W.callWith_K (h₀ := X.base) I.ok.mod.kin hk (thn (ha.run pos pins s σ' H (fun vs H1 => upSp X.gk sp vs H1 R fun _ _ _ => False) I ⟨σ, M, _, S, m, q, fun vs H1 ds M1 k1 m1 r1 q1 => ⟨ds, M1, Q, r1, m1, q1, g.of k1⟩⟩) fun us s1 ⟨vs, H1, I1, r, q1⟩ => ⟨I1.kIn, ?_⟩) he hpl
  have hl : (us ++ []).length = ps.length := by rw [List.append_nil, ← r.length]; exact F.len _ _ _ _ q1
  refine wpAny_call (codeAny_mono (F.run X.A X.stack s1 H1 ⟨us, []⟩ (us ++ []) vs R _ hA hr I1.env0 (hb s1 us I1.kIn hl) (by rw [List.append_nil]; exact r) q1) fun rr s' hq => ?_)
  cases rr with
  | error e => exact pass0 pins σ' H1 s1 e s' I1 hq
  | ok fl =>
    cases fl with
    | ret u => exact I1.after hq
    | _ => exact False.elim hq
end
/-! ### the law's own call -/
theorem law_callG {P : Program} {w : World} {K : PySem.W.Frag} {mg mb : Str → Option Value} {k : Nat} {fa a : Addr} {fd : FuncData} {x : Str} {sp : Sp} {s₁ : Shared} {vs : List Value} {ns : List Int}
    (KX : K.In s₁.heap) (hns : s₁.heap.Ns mainGlobals mg) (hb : s₁.heap.Ns builtinsNs mb) (hbb : ∀ x : Str, x ≠ "__name__" → mb x = bootBuiltins x) (hlim : s₁.heap.NoLimit) (hg : s₁.gens = #[])
    (ha : s₁.heap.get? a = some { cls := .type "list", data := .seq vs.toArray }) (hi : IntsAre vs ns) (hl : ns.length ≤ sizeLine) (hr : Room k callerA)
    (F : ∀ base : Heap, K.In base → base.Ns mainGlobals mg → GnOk P w K mg base k fa fd [x] sp) (hbind : ∀ (s : Shared) (u : Value), BindsTo s fd ⟨[u], []⟩ [(x, u)])
    (hsp : ∀ H : Hp, Only H → SqL K H a (ns.map V.int) → sp [.ref a] H (fun v _ => v = .bl true) fun _ _ _ => False) :
    codeAny (model P w) callerA (.call (.ref fa) ⟨[.ref a], []⟩) (fun r s' => r = .ok (.ret (.bool true)) ∧ OldK s₁.heap s'.heap ∧ s'.os = s₁.os ∧ AllBare s'.gens) s₁ := by
  have rv := vals_ints hi
  -- every promise of an ordinary def, at this one place
  have core : ∀ H : Hp, Only H → SqL K H a (ns.map V.int) → HOk P w H s₁.heap → (∀ b, H b ≠ none → b = a) → (H a ≠ none → K.lookup a = none) →
      codeAny (model P w) callerA (.call (.ref fa) ⟨[.ref a], []⟩) (fun r s' => r = .ok (.ret (.bool true)) ∧ OldK s₁.heap s'.heap ∧ s'.os = s₁.os ∧ AllBare s'.gens) s₁ := by
    intro H hO hS hok hA hK
    have at0 : ∀ b, H b = none ∨ b = a := fun b => by
      cases q : H b with
      | none => exact .inl rfl
      | some u => exact .inr (hA b (by rw [q]; simp))
    have low : ∀ {b : Addr} {o : Obj}, s₁.heap.get? b = some o → H b = none → (hidT s₁.heap H).get? b = some o := hidT_get
    have dictOff : ∀ {b : Addr} {o : Obj} {es : Array DictEntry} {ep : Nat}, s₁.heap.get? b = some o → o.data = .dict es ep → H b = none := fun {b o es ep} e d => by
      rcases at0 b with z | rfl
      · exact z
      · rw [ha] at e; cases e; exact nomatch (show Data.seq vs.toArray _ = Data.dict es ep from d)
    have lowNs : ∀ {b : Addr} {m : Str → Option Value}, s₁.heap.Ns b m → (hidT s₁.heap H).Ns b m := fun ⟨o, es, ep, e, d, r⟩ => ⟨o, es, ep, low e (dictOff e d), d, r⟩
    have lowK : K.In (hidT s₁.heap H) := fun b o e => low (KX b o e) (by
      cases q : H b with
      | none => rfl
      | some u =>
        have z : b = a := hA b (by rw [q]; simp)
        subst z
        rw [hK (by rw [q]; simp)] at e; cases e)
    have md : Mod K mg (hidT s₁.heap H) := ⟨lowK, lowNs hns, ⟨mb, lowNs hb, hbb⟩, let ⟨mc, h1, h2⟩ := hlim; ⟨mc, lowNs h1, h2⟩⟩
    have e0 : Env0 P w K mg (hidT s₁.heap H) callerA [] s₁ H := ⟨rfl, md, fun b o e => of_hidT e, Nat.le_of_eq (hidT_size _ _), trivial, (fun b z => nomatch z), hok, .of_eq hg⟩
    refine codeAny_mono ((F _ lowK (lowNs hns)).run callerA [] s₁ H ⟨[.ref a], []⟩ [.ref a] [.ref a] _ _ rfl hr e0 (hbind s₁ (.ref a)) (.cons rfl .nil) (hsp H hO hS)) fun r s' h => ?_
    cases r with
    | error e => exact False.elim h
    | ok fl =>
      cases fl with
      | next => exact False.elim h
      | brk => exact False.elim h
      | cont => exact False.elim h
      | ret u =>
      obtain ⟨v, H', os, bare, un, hok', r', q⟩ := h
      obtain rfl : v = .bl true := q
      obtain rfl : u = Value.bool true := r'
      refine ⟨rfl, OldK.of_keep fun b o e => ?_, os, bare⟩
      rcases hO b with z | ⟨ob, xs, z⟩
      · exact un.keep b o e z (fun n => nomatch n) (fun n => nomatch n)
      · have e1 := (hok b _ z).1
        have e2 := (hok' b _ (un.frzs b ob _ z)).1
        rw [e] at e1; cases e1
        exact e2
  cases hk : K.lookup a with
  | some o =>
    have e := KX a o hk
    rw [ha] at e; cases e
    exact core (fun _ => none) (fun _ => .inl rfl) (.inr ⟨_, vs.toArray, _, hk, rfl, rfl, rfl, by rw [List.size_toArray, hi.length]; exact hl, by simpa using rv⟩) (fun b u z => nomatch (show (none : Option HO) = some u from z)) (fun b z => absurd rfl z) fun z => absurd rfl z
  | none =>
    have one : ∀ b, (if b = a then some (HO.frz { cls := .type "list", data := .seq vs.toArray } (.lst (ns.map V.int))) else none) ≠ none → b = a := fun b z => by
      by_cases hb : b = a
      · exact hb
      · exact absurd (if_neg hb) z
    refine core (fun b => if b = a then some (.frz { cls := .type "list", data := .seq vs.toArray } (.lst (ns.map V.int))) else none) (fun b => ?_) (.inl (.inr ⟨{ cls := .type "list", data := .seq vs.toArray }, if_pos rfl⟩)) (fun b u z => ?_) one fun _ => hk
    · by_cases hb : b = a
      · exact .inr ⟨_, _, if_pos hb⟩
      · exact .inl (if_neg hb)
    · have hb := one b (by rw [show (if b = a then some (HO.frz { cls := .type "list", data := .seq vs.toArray } (.lst (ns.map V.int))) else none) = some u from z]; simp)
      subst hb
      have z' := (if_pos rfl).symm.trans z
      cases z'
      exact ⟨ha, by rw [List.length_map]; exact hl, vs, _, rv, ha⟩
theorem walk_ofG {l : PySem.W.OpenLaw} {n k : Nat} {q : Program} {loose : List Str} {XP : (Str → Option Value) → Heap → Prop} {YP : World → Heap → Prop} {d : DefRec} {K : Params → PySem.W.Frag} {sp : World → Sp} {x : Str}
    (hn : l.most = some n) (hn2 : n ≤ sizeLine) (hdf : d.params.defaults = []) (hr : Room k callerA) (hY : ∀ (w : World) (h : Heap), YP w h → (K w.params).In h)
    (F : ∀ (w : World) (mg : Str → Option Value) (fa : Addr) (h : Heap), (K w.params).In h → h.Ns mainGlobals mg → mg d.name = some (.ref fa) →
      ∃ fd : FuncData, (∀ (s : Shared) (u : Value), BindsTo s fd ⟨[u], []⟩ [(x, u)]) ∧ ∀ base : Heap, (K w.params).In base → base.Ns mainGlobals mg → GnOk l.prog w (K w.params) mg base k fa fd [x] (sp w))
    (hsp : ∀ (w : World) (H : Hp) (a : Addr) (ns : List Int), ns.length ≤ n → (∀ z ∈ ns, Builtin.Int.intBits z ≤ 1048576) → Only H → SqL (K w.params) H a (ns.map V.int) → sp w [.ref a] H (fun v _ => v = .bl true) fun _ _ _ => False) :
    PySem.W.WalkO q loose XP YP l.row.toRowW d [] (fun f vs => PySem.call f vs) := by
  refine Att.attach_callB hn hdf fun w s₀ s₁ mg mb fa o pm cd doc a vs ns G Y ho hd hcd hmg hobj hints hlen hbits hg => ?_
  obtain ⟨fd, hb, hF⟩ := F w mg fa _ (hY w _ Y) G.T.g hmg
  exact law_callG (hY w _ Y) G.T.g G.T.b G.T.builtins G.T.nolimit hg hobj hints (Nat.le_trans hlen hn2) hr hF hb fun H hO hS => hsp w H a ns hlen hbits hO hS
/-- the script as data -/
theorem script_sp {K : Gk} {sp : DSp} {H : Hp} {a : Addr} {ns : List Int} (hS : SqL K.K H a (ns.map V.int)) (h : ∀ Q : DK, (∀ d M, d = .bl true → Q d M) → sp [.fz (ns.map .int)] (fun _ => none) Q) : upSp K sp [.ref a] H (fun v _ => v = .bl true) fun _ _ _ => False := by
  refine ⟨[.fz (ns.map .int)], fun _ => none, fun d _ => d = .bl true, .cons ?_ .nil, (fun a mo e => by cases e), h _ fun d M e => e, fun v H' d M' _ _ r e => by subst e; exact r.eq_bl⟩
  rw [RD]
  refine ⟨a, _, rfl, ?_, .of_int ns⟩
  rcases hS with h | h
  · exact .inl ⟨h, rfl⟩
  · exact .inr h
end DL

namespace DL
open PySem PySem.Spec PyProof.Rows L2
section
variable {X : Cx} {e : Expr} {t : DT} {pos : Pos}
def dNeg (t : DT) : DT := fun σ M Q => t σ M fun d M1 => match d with
  | .int i => Q (.int (-i)) M1
  | _ => False
theorem de_neg (h : DE X e t) : DE X (.UnaryOp .USub e pos) (dNeg t) := (pe_un un_neg h).imp fun σ' H R ⟨σ, M, Q, S, m, q, g⟩ => ⟨σ, M, _, S, m, q, fun v H1 d M1 k1 m1 r1 q1 => by
  split at q1
  · exact ⟨_, r1.eq_int, g _ _ _ _ k1 m1 (.int _) q1⟩
  · exact q1.elim⟩
theorem de_cint {x : Str} {i : Int} (hg : Gl X x) (hm : ∃ t, X.mg x = some (.int i t)) (hd : (x == ("__debug__" : Str)) = false := by decide) : DE X (.Name x pos) (dC (.int i)) := let ⟨t, hm⟩ := hm; de_c (pe_glob (v := .int i) hg hm ⟨t, rfl⟩ hd) fun _ _ _ => by rw [RD]
theorem de_cstr {x y : Str} (hg : Gl X x) (hm : ∃ t, X.mg x = some (.str y t)) (hd : (x == ("__debug__" : Str)) = false := by decide) : DE X (.Name x pos) (dC (.str y)) := let ⟨t, hm⟩ := hm; de_c (pe_glob (v := .str y) hg hm ⟨t, rfl⟩ hd) fun _ _ _ => by rw [RD]
end
/-! ### defs, methods by name -/
/-- the def x as the top has written it -/
def DefAt (K : PySem.W.Frag) (mg : Str → Option Value) (x : Str) (st : Stmt) (ps : List Str) : Prop := ∃ f fd, Fun K x x st f fd ∧ mg x = some (.ref f) ∧ Binds K fd ps []
def MethAt (K : PySem.W.Frag) (C : Addr) (m q : Str) (st : Stmt) (ps : List Str) : Prop := ∃ f fd, Fun K m q st f fd ∧ Meth K C m f ∧ Binds K fd ps []
def InitAt (K : PySem.W.Frag) (C : Addr) (q : Str) (st : Stmt) (ps : List Str) : Prop := ∃ f fd, Fun K "__init__" q st f fd ∧ Mk K C f ∧ Binds K fd ps []
/-- its promise -/
def Cal (P : Program) (w : World) (K : PySem.W.Frag) (mg : Str → Option Value) (base : Heap) (k : Nat) (x : Str) (ps : List Str) (sp : DSp) : Prop := ∃ f fd, DFn P w K mg base k f fd ps sp ∧ mg x = some (.ref f) ∧ PySem.W.keepIn K (.ref f) = true ∧ Binds K fd ps []
def CalG (P : Program) (w : World) (K : PySem.W.Frag) (mg : Str → Option Value) (base : Heap) (k : Nat) (x : Str) (ps : List Str) (sp : DSp) : Prop := ∃ f fd, DGn P w K mg base k f fd ps sp ∧ mg x = some (.ref f) ∧ PySem.W.keepIn K (.ref f) = true ∧ Binds K fd ps []
def CalM (P : Program) (w : World) (K : PySem.W.Frag) (mg : Str → Option Value) (base : Heap) (k : Nat) (C : Addr) (m : Str) (ps : List Str) (sp : DSp) : Prop := ∃ f fd, DFn P w K mg base k f fd ps sp ∧ Meth K C m f ∧ Binds K fd ps []
def CalI (P : Program) (w : World) (K : PySem.W.Frag) (mg : Str → Option Value) (base : Heap) (k : Nat) (C : Addr) (ps : List Str) (sp : DSp) : Prop := ∃ f fd, DFn P w K mg base k f fd ps sp ∧ Mk K C f ∧ Binds K fd ps []
section
variable {P : Program} {w : World} {K : PySem.W.Frag} {mg : Str → Option Value} {base : Heap} {k : Nat} {x m q : Str} {st : Stmt} {ps : List Str} {sp : DSp} {C : Addr}
theorem DefAt.cal (D : DefAt K mg x st ps) (h : ∀ f fd, Fun K x x st f fd → DFn P w K mg base k f fd ps sp) : Cal P w K mg base k x ps sp := let ⟨f, fd, F, hm, hb⟩ := D; ⟨f, fd, h f fd F, hm, F.kp, hb⟩
theorem DefAt.calG (D : DefAt K mg x st ps) (h : ∀ f fd, Fun K x x st f fd → DGn P w K mg base k f fd ps sp) : CalG P w K mg base k x ps sp := let ⟨f, fd, F, hm, hb⟩ := D; ⟨f, fd, h f fd F, hm, F.kp, hb⟩
theorem MethAt.cal (D : MethAt K C m q st ps) (h : ∀ f fd, Fun K m q st f fd → DFn P w K mg base k f fd ps sp) : CalM P w K mg base k C m ps sp := let ⟨f, fd, F, hm, hb⟩ := D; ⟨f, fd, h f fd F, hm, hb⟩
theorem InitAt.cal (D : InitAt K C q st ps) (h : ∀ f fd, Fun K "__init__" q st f fd → DFn P w K mg base k f fd ps sp) : CalI P w K mg base k C ps sp := let ⟨f, fd, F, hm, hb⟩ := D; ⟨f, fd, h f fd F, hm, hb⟩
end
section
variable {X : Cx} {k : Nat} {ps : List Str} {sp : DSp} {x m : Str} {p pos apos : Pos} {e o : Expr} {es : List Expr} {ta : DT} {t : DTA} {C : Addr}
theorem de_cal (F : Cal X.prog X.w X.K X.mg X.base k x ps sp) (hr : Room k X.A) (hg : Gl X x) (ha : DA X (e :: es) t) (hdb : (x == ("__debug__" : Str)) = false := by decide)
    (he : starEach (e :: es) X.env = (false, eval e X.env) :: starEach es X.env := by rfl) (hpl : (backTo pos (starEach es X.env)).any (·.1) = false := by rfl) : DE X (.Call (.Name x p) (e :: es) [] pos) (dCall sp t) :=
  let ⟨_, _, F, hm, hk, hb⟩ := F
  de_call F hr hg hm hk hb ha hdb he hpl
theorem de_calG (hA : X.A.guards = some []) (F : CalG X.prog X.w X.K X.mg X.base k x ps sp) (hr : Room k X.A) (hg : Gl X x) (ha : DA X (e :: es) t) (hdb : (x == ("__debug__" : Str)) = false := by decide)
    (he : starEach (e :: es) X.env = (false, eval e X.env) :: starEach es X.env := by rfl) (hpl : (backTo pos (starEach es X.env)).any (·.1) = false := by rfl) : DE X (.Call (.Name x p) (e :: es) [] pos) (dCall sp t) :=
  let ⟨_, _, F, hm, hk, hb⟩ := F
  de_callG hA F hr hg hm hk hb ha hdb he hpl
theorem de_calM {ns : List Str} {pl : Sem Bool} (F : CalM X.prog X.w X.K X.mg X.base k C m ps sp) (c : Cls X.K C) (hr : Room k X.A) (hn : m ∉ ns) (he : DE X o ta) (ha : DA X (e :: es) t)
    (hst : starEach (e :: es) X.env = (false, eval e X.env) :: starEach es X.env := by rfl) (hpl : (backTo pos (starEach es X.env)).any (·.1) = false := by rfl)
    (ht : eval (.Call (.Attribute o m apos) (e :: es) [] pos) X.env = (do
      let ov ← eval o X.env
      standAt apos.atName
      let (f, first) ← holding [ov] (getMethod ov m pl)
      callWith pos f first (backTo pos (starEach (e :: es) X.env)) (backToKw pos (keywordEach [] X.env))) := by rfl) : DE X (.Call (.Attribute o m apos) (e :: es) [] pos) (dMeth C ns sp ta t) :=
  let ⟨_, _, F, hm, hb⟩ := F
  de_meth he c hm F hr hb hn ha hst hpl ht
theorem de_calM0 {ns : List Str} {pl : Sem Bool} (F : CalM X.prog X.w X.K X.mg X.base k C m ps sp) (c : Cls X.K C) (hr : Room k X.A) (hn : m ∉ ns) (he : DE X o ta)
    (ht : eval (.Call (.Attribute o m apos) [] [] pos) X.env = (do
      let ov ← eval o X.env
      standAt apos.atName
      let (f, first) ← holding [ov] (getMethod ov m pl)
      callWith pos f first (backTo pos (starEach [] X.env)) (backToKw pos (keywordEach [] X.env))) := by rfl) : DE X (.Call (.Attribute o m apos) [] [] pos) (dMeth C ns sp ta dNil) :=
  let ⟨_, _, F, hm, hb⟩ := F
  de_meth0 he c hm F hr hb hn ht
theorem de_calI (F : CalI X.prog X.w X.K X.mg X.base k C ps sp) (hr : Room (k + 1) X.A) (hg : Gl X x) (hm : X.mg x = some (.ref C)) (ha : DA X (e :: es) t) (hdb : (x == ("__debug__" : Str)) = false := by decide)
    (he : starEach (e :: es) X.env = (false, eval e X.env) :: starEach es X.env := by rfl) (hpl : (backTo pos (starEach es X.env)).any (·.1) = false := by rfl) : DE X (.Call (.Name x p) (e :: es) [] pos) (dMake C sp t) :=
  let ⟨_, _, F, hM, hb⟩ := F
  de_make hM F hr hg hm hb ha hdb he hpl
end
/-- names that nothing at the top hides -/
def Free (mg : Str → Option Value) (xs : List Str) : Prop := ∀ x ∈ xs, mg x = none
theorem _root_.L2.Room.u128 {k : Nat} {A : Around} (r : Room k A) : A.units + 128 < cLine := by have := r.un; omega
theorem _root_.L2.Room.u65 {k : Nat} {A : Around} (r : Room k A) : A.units + 65 < cLine := by have := r.un; omega
theorem _root_.L2.Room.u32 {k : Nat} {A : Around} (r : Room k A) : A.units + 32 < cLine := by have := r.un; omega
theorem _root_.L2.Room.u16 {k : Nat} {A : Around} (r : Room k A) : A.units + 16 < cLine := by have := r.un; omega
theorem _root_.L2.Room.u1 {k : Nat} {A : Around} (r : Room k A) : A.units + 1 < cLine := by have := r.un; omega
namespace Bt
theorem len : bootBuiltins "len" = some (.builtin "len") := by decide +kernel
theorem min : bootBuiltins "min" = some (.builtin "min") := by decide +kernel
theorem max : bootBuiltins "max" = some (.builtin "max") := by decide +kernel
theorem all : bootBuiltins "all" = some (.builtin "all") := by decide +kernel
theorem any : bootBuiltins "any" = some (.builtin "any") := by decide +kernel
theorem sum : bootBuiltins "sum" = some (.builtin "sum") := by decide +kernel
theorem isinstance : bootBuiltins "isinstance" = some (.builtin "isinstance") := by decide +kernel
theorem sorted : bootBuiltins "sorted" = some (.builtin "sorted") := by decide +kernel
theorem repr : bootBuiltins "repr" = some (.builtin "repr") := by decide +kernel
theorem int : bootBuiltins "int" = some (.type "int") := by decide +kernel
theorem bool : bootBuiltins "bool" = some (.type "bool") := by decide +kernel
theorem str : bootBuiltins "str" = some (.type "str") := by decide +kernel
theorem tuple : bootBuiltins "tuple" = some (.type "tuple") := by decide +kernel
theorem list : bootBuiltins "list" = some (.type "list") := by decide +kernel
theorem dict : bootBuiltins "dict" = some (.type "dict") := by decide +kernel
end Bt
/-! ### what stays, what is given back -/
/-- what was there at entry, as it is now -/
def rs (M M' : DM) : DM := fun a => if (M a).isSome then M' a else none
theorem rs_les {M M' : DM} : Les (rs M M') M' := fun a o h => by
  unfold rs at h
  split at h
  · exact h
  · cases h
theorem rs_in {M M' : DM} {a : Addr} {o : MO} (h : M a = some o) : rs M M' a = M' a := by unfold rs; rw [h]; rfl
theorem rs_out {M M' : DM} {a : Addr} (h : M a = none) : rs M M' a = none := by unfold rs; rw [h]; rfl
theorem rs_eq {M M' : DM} {a : Addr} (h : M' a = M a) : rs M M' a = M a := by
  unfold rs
  split
  · exact h
  · rename_i z
    cases e : M a with
    | none => rfl
    | some o => rw [e] at z; exact absurd rfl z
theorem Dr.here {Q : DK} {d : D} {M : DM} (h : Q d M) : Dr Q d M := .inl ⟨M, .refl, h⟩
theorem Dr.back {Q : DK} {d : D} {M M' : DM} (h : Q d (rs M M')) : Dr Q d M' := .inl ⟨rs M M', rs_les, h⟩
theorem Dr.settle {Q : DK} {p : Addr} {xs : List D} {M M' : DM} (hp : M' p = some (.lst xs)) (h0 : M p = none) (h : Q (.lst xs) (rs M M')) : Dr Q (.ref p) M' := .inr ⟨p, xs, rs M M', rfl, hp, fun a o e => by
  by_cases q : a = p
  · subst q; rw [rs_out h0] at e; cases e
  · rw [em_ne q]; exact rs_les a o e, h⟩
end DL

namespace DL
open PySem PySem.Spec PyProof.Rows L2
theorem nodup_inj {α β : Type} {f : α → β} : ∀ {l : List α}, (l.map f).Nodup → ∀ {x y : α}, x ∈ l → y ∈ l → f x = f y → x = y
  | [], _, _, _, hx, _, _ => by cases hx
  | a :: l, nd, x, y, hx, hy, e => by
    rw [List.map_cons, List.nodup_cons] at nd
    rcases List.mem_cons.mp hx with e1 | hx
    · rcases List.mem_cons.mp hy with e2 | hy
      · rw [e1, e2]
      · exact absurd (by rw [← e1, e]; exact List.mem_map_of_mem hy) nd.1
    · rcases List.mem_cons.mp hy with e2 | hy
      · exact absurd (by rw [← e2, ← e]; exact List.mem_map_of_mem hx) nd.1
      · exact nodup_inj nd.2 hx hy e
theorem um_none {M : DM} {a p : Addr} {o : MO} (h : um M a o p = none) : p ≠ a ∧ M p = none := by
  unfold um at h
  split at h
  · cases h
  · rename_i n; exact ⟨n, h⟩
/-! ### small arithmetic for the readings -/
theorem log2_of {n k : Nat} (h : n < 2 ^ k) (hk : 0 < k) : n.log2 < k := by
  by_cases e : n = 0
  · subst e; simpa using hk
  · exact (Nat.log2_lt e).mpr h
theorem cmul_of {i j : Int} (h1 : i.natAbs < 2 ^ 400) (h2 : j.natAbs < 2 ^ 400) : CMulW i j := by
  have a := log2_of h1 (by decide)
  have b := log2_of h2 (by decide)
  show _ + _ < _
  omega
theorem cdiv_of {i j : Int} (h : 0 < j) (h2 : j.natAbs < 2 ^ 400) : CDivW i j := ⟨h, by have b := log2_of h2 (by decide); omega⟩
/-- 0 ≤ i < 2 ^ k -/
def Bd (k : Nat) (i : Int) : Prop := 0 ≤ i ∧ i < 2 ^ k
instance (k : Nat) (i : Int) : Decidable (Bd k i) := inferInstanceAs (Decidable (_ ∧ _))
theorem Bd.mono {a b : Nat} {i : Int} (h : Bd a i) (l : a ≤ b) : Bd b i := ⟨h.1, Int.lt_of_lt_of_le h.2 (by exact_mod_cast Nat.pow_le_pow_right (by decide) l)⟩
theorem Bd.mul {a b : Nat} {i j : Int} (h : Bd a i) (h' : Bd b j) : Bd (a + b) (i * j) := ⟨Int.mul_nonneg h.1 h'.1, by
  rw [Int.pow_add]
  exact Int.lt_of_le_of_lt (Int.mul_le_mul_of_nonneg_right (Int.le_of_lt h.2) h'.1) (Int.mul_lt_mul_of_pos_left h'.2 (Int.pow_pos (by decide)))⟩
theorem Bd.add {a : Nat} {i j : Int} (h : Bd a i) (h' : Bd a j) : Bd (a + 1) (i + j) := ⟨Int.add_nonneg h.1 h'.1, by
  have := h.2
  have := h'.2
  rw [Int.pow_succ]; omega⟩
theorem Bd.mod {a k : Nat} {i : Int} (h : (0 : Int) < a) (l : (a : Int) ≤ 2 ^ k) : Bd k (i % a) := ⟨Int.emod_nonneg _ (by omega), Int.lt_of_lt_of_le (Int.emod_lt_of_pos _ h) l⟩
theorem Bd.abs {a : Nat} {i : Int} (h : Bd a i) : i.natAbs < 2 ^ a := by
  have h1 := h.1
  have h2 : (i.natAbs : Int) < ((2 ^ a : Nat) : Int) := by
    rw [Int.natAbs_of_nonneg h1]
    have := h.2
    exact_mod_cast this
  exact_mod_cast h2
theorem Bd.cmul {a b : Nat} {i j : Int} (h : Bd a i) (h' : Bd b j) (la : a ≤ 400 := by decide) (lb : b ≤ 400 := by decide) : CMulW i j := cmul_of (h.mono la).abs (h'.mono lb).abs
theorem rEq_int {neg : Bool} {i j : Int} {M : DM} {Q : DK} : DL.rEq neg (.int i) (.int j) M Q = Q (.bl (xor neg (decide (i = j)))) M := rfl
theorem rEq_str {neg : Bool} {i j : Str} {M : DM} {Q : DK} : DL.rEq neg (.str i) (.str j) M Q = Q (.bl (xor neg (decide (i = j)))) M := rfl
theorem at_nat {ds : List D} {i : Nat} {d : D} (h : ds[i]? = some d) : L2.atI ds (i : Int) = some d := by
  have lt := (List.getElem?_eq_some_iff.mp h).1
  unfold L2.atI L2.ixN
  rw [if_pos (by omega)]
  simp [lt]
  exact (List.getElem?_eq_some_iff.mp h).2
theorem at0 {d : D} {ds : List D} : L2.atI (d :: ds) 0 = some d := at_nat (i := 0) rfl
theorem at1 {c d : D} {ds : List D} : L2.atI (c :: d :: ds) 1 = some d := at_nat (i := 1) rfl
theorem at2 {b c d : D} {ds : List D} : L2.atI (b :: c :: d :: ds) 2 = some d := at_nat (i := 2) rfl
theorem at3 {a b c d : D} {ds : List D} : L2.atI (a :: b :: c :: d :: ds) 3 = some d := at_nat (i := 3) rfl
theorem at_none : L2.atI ([] : List D) 0 = none := by rfl
theorem cut_from (xs : List D) (k : Nat) : dSlice.cutD xs (some (k : Int)) none = xs.drop k := by
  unfold dSlice.cutD
  have e : HT.sIx xs.length 0 (some (k : Int)) = min k xs.length := by unfold HT.sIx; simp; omega
  have e2 : HT.sIx xs.length xs.length none = xs.length := rfl
  rw [e, e2]
  by_cases h : k ≤ xs.length
  · rw [Nat.min_eq_left h]; apply List.take_of_length_le; simp
  · rw [Nat.min_eq_right (by omega)]; simp [List.drop_eq_nil_of_le (show xs.length ≤ k by omega)]
theorem cut_to (xs : List D) (k : Nat) : dSlice.cutD xs none (some (k : Int)) = xs.take k := by
  unfold dSlice.cutD
  have e : HT.sIx xs.length xs.length (some (k : Int)) = min k xs.length := by unfold HT.sIx; simp; omega
  have e2 : HT.sIx xs.length 0 none = 0 := rfl
  rw [e, e2]
  by_cases h : k ≤ xs.length
  · rw [Nat.min_eq_left h]; simp
  · rw [Nat.min_eq_right (by omega)]; simp; rw [List.take_of_length_le (by omega)]
/-! ### pure comprehensions -/
/-- M2 holds what M holds -/
def Ext (M M2 : DM) : Prop := ∀ a o, M a = some o → M2 a = some o
theorem Ext.refl {M : DM} : Ext M M := fun _ _ h => h
theorem Ext.um {M M2 : DM} {A : Addr} {o : MO} (e : Ext M M2) (h : M A = none) : Ext M (um M2 A o) := fun a u q => by rw [um_ne (mne q h)]; exact e a u q
/-- what is walked: these items, as long as M's objects stand -/
def Walk (wi : DI) (σ : DS) (M : DM) (items : List D) : Prop := ∀ Q : DIt → DM → Prop, (∀ ok : DM → Prop, (∀ M2, Ext M M2 → ok M2) → Q ⟨items, ok⟩ M) → wi σ M Q
theorem lc_fm (f : D → Option D) {wi : DI} {g : DTG} {tt : DTT} {te : DT} {vs : List Nat} {σ : DS} {M : DM} {Q : DK} {items : List D} (hw : Walk wi σ M items) (hz : items.length ≤ sizeLine)
    (step : ∀ d ∈ items, ∀ (M2 : DM) (Ky : DK) (Kn : DM → Prop), Ext M M2 → (∀ y, f d = some y → Ky y M2) → (f d = none → Kn M2) → g d (dWipe σ vs) M2 fun σ2 M3 => tt σ2 M3 fun b M4 => (b = true → te σ2 M4 Ky) ∧ (b = false → Kn M4))
    (q : Q (.lst (items.filterMap f)) M) : dLc wi g tt te vs σ M Q := by
  refine hw _ fun ok hok A hA => ?_
  refine ⟨fun i acc M2 => acc = (items.take i).filterMap f ∧ M2 = um M A (.lst acc), ⟨rfl, rfl⟩, ?_, ?_, ?_⟩
  · rintro i acc M2 hi ⟨rfl, rfl⟩
    exact ⟨hok _ (Ext.refl.um hA), um_same⟩
  · rintro i d acc M2 hd ⟨rfl, rfl⟩
    have tk : (items.take (i + 1)).filterMap f = (items.take i).filterMap f ++ (f d).toList := by
      have hd' : items[i]? = some d := hd
      rw [List.take_succ, hd', List.filterMap_append]
      cases e : f d <;> simp [e]
    refine step d (List.mem_of_getElem? hd) (um M A (.lst ((items.take i).filterMap f))) _ _ (Ext.refl.um hA) (fun y hy => ⟨?_, um_same, ?_, ?_⟩) fun hn => ⟨?_, rfl⟩
    · have h1 : ((items.take i).filterMap f).length ≤ (items.take i).length := List.length_filterMap_le _ _
      have h2 : i < items.length := (List.getElem?_eq_some_iff.mp hd).1
      rw [List.length_take] at h1
      omega
    · rw [tk, hy]; rfl
    · rw [um_um]
    · rw [tk, hn]; simp
  · rintro acc M2 ⟨rfl, rfl⟩
    show Q (.lst ((items.take items.length).filterMap f)) (em (um M A _) A)
    rw [em_um hA, List.take_length]
    exact q
theorem all_true {α : Type} (xs : List α) : ((xs.filterMap fun _ => some (D.bl true)) : List D) = (xs.map fun _ => true).map .bl ∧ ((xs.map fun _ => true).all fun b => b) = true := by
  induction xs with
  | nil => exact ⟨rfl, rfl⟩
  | cons x xs ih => exact ⟨by rw [List.filterMap_cons_some (f := fun _ => some (D.bl true)) rfl, ih.1]; rfl, by simpa using ih.2⟩
/-! ### the law's hand: three ints, the last counts the draws -/
def HdO (n : Nat) (o : MO) : Prop := ∃ g s c : Int, o = .lst [.int g, .int s, .int c] ∧ (0 ≤ g ∧ g < 2 ^ 300) ∧ (0 ≤ s ∧ s < 2 ^ 62) ∧ 0 ≤ c ∧ c ≤ n
def Hd (M : DM) (h : Addr) (n : Nat) : Prop := ∃ o, M h = some o ∧ HdO n o
/-- M' is M with the hand at h moved on -/
structure HdTo (M : DM) (h : Addr) (n : Nat) (M' : DM) : Prop where
  off : ∀ a, a ≠ h → M' a = M a
  at_ : Hd M' h n
theorem Hd.mono {M : DM} {h : Addr} {n n' : Nat} (x : Hd M h n) (l : n ≤ n') : Hd M h n' := by
  obtain ⟨o, e, g, s, c, r1, r2, r3, r4, r5⟩ := x
  exact ⟨o, e, g, s, c, r1, r2, r3, r4, by omega⟩
theorem HdTo.mono {M M' : DM} {h : Addr} {n n' : Nat} (x : HdTo M h n M') (l : n ≤ n') : HdTo M h n' M' := ⟨x.off, x.at_.mono l⟩
theorem HdTo.refl {M : DM} {h : Addr} {n : Nat} (x : Hd M h n) : HdTo M h n M := ⟨fun _ _ => rfl, x⟩
theorem HdTo.trans {M M1 M2 : DM} {h : Addr} {n n' : Nat} (x : HdTo M h n M1) (y : HdTo M1 h n' M2) : HdTo M h n' M2 := ⟨fun a q => (y.off a q).trans (x.off a q), y.at_⟩
theorem HdTo.rs {M M' : DM} {h : Addr} {n m : Nat} (x : HdTo M h n M') (hm : Hd M h m) : HdTo M h n (rs M M') := ⟨fun a q => rs_eq (x.off a q), by
  obtain ⟨o, e, r⟩ := x.at_
  obtain ⟨o', e', _⟩ := hm
  exact ⟨o, by rw [rs_in e']; exact e, r⟩⟩
theorem Hd.off {M : DM} {h A : Addr} {n : Nat} (x : Hd M h n) (hA : M A = none) : A ≠ h := fun e => by
  obtain ⟨o, q, _⟩ := x
  rw [← e, hA] at q; cases q
theorem Hd.um {M : DM} {h A : Addr} {n : Nat} {o : MO} (x : Hd M h n) (hA : A ≠ h) : Hd (um M A o) h n := by
  obtain ⟨u, q, r⟩ := x
  exact ⟨u, by rw [um_ne hA.symm]; exact q, r⟩
/-- what is walked is settled -/
def Walk0 (wi : DI) (σ : DS) (M : DM) (items : List D) : Prop := ∀ Q : DIt → DM → Prop, Q ⟨items, fun _ => True⟩ M → wi σ M Q
/-- a comprehension whose turns draw -/
theorem lc_hd (R : D → D → Prop) (Pre : List D → DM → Prop) {wi : DI} {g : DTG} {tt : DTT} {te : DT} {vs : List Nat} {σ : DS} {M : DM} {Q : DK} {h : Addr} {n k : Nat} (hw : ∀ Q : DIt → DM → Prop, (∀ items M1, Pre items M1 → Q ⟨items, fun _ => True⟩ M1) → wi σ M Q)
    (hz : ∀ items M1, Pre items M1 → items.length ≤ sizeLine ∧ Hd M1 h n)
    (step : ∀ items M1, Pre items M1 → ∀ d ∈ items, ∀ (i : Nat) (M2 : DM) (Ky : DK) (Kn : DM → Prop), i < items.length → (∀ a o, a ≠ h → M1 a = some o → M2 a = some o) → Hd M2 h (n + k * i) → (∀ y M3, R d y → HdTo M2 h (n + k * (i + 1)) M3 → Ky y M3) → g d (dWipe σ vs) M2 fun σ2 M3 => tt σ2 M3 fun b M4 => (b = true → te σ2 M4 Ky) ∧ (b = false → Kn M4))
    (q : ∀ items M1, Pre items M1 → ∀ ys M', Paired R items ys → HdTo M1 h (n + k * items.length) M' → Q (.lst ys) M') : dLc wi g tt te vs σ M Q := by
  refine hw _ fun items M hpre A hA => ?_
  obtain ⟨hz, hh⟩ := hz items M hpre
  have step := step items M hpre
  have q := q items M hpre
  have hAh := hh.off hA
  refine ⟨fun i acc M2 => Paired R (items.take i) acc ∧ (∀ a, a ≠ h → a ≠ A → M2 a = M a) ∧ M2 A = some (.lst acc) ∧ Hd M2 h (n + k * i), ⟨.nil, fun a _ q => um_ne q, um_same, by rw [Nat.mul_zero]; exact hh.um hAh⟩, ?_, ?_, ?_⟩
  · rintro i acc M2 hi ⟨_, h1, h2, h3⟩
    exact ⟨trivial, h2⟩
  · rintro i d acc M2 hd ⟨hp, h1, h2, h3⟩
    have hlt : i < items.length := (List.getElem?_eq_some_iff.mp hd).1
    refine step d (List.mem_of_getElem? hd) i M2 _ _ hlt (fun a o n1 e => by rw [h1 a n1 (fun z => by rw [z, hA] at e; cases e)]; exact e) h3 fun y M3 ry ht => ⟨?_, ?_, ?_, ?_, ?_, ?_⟩
    · have z := Paired.length hp
      rw [List.length_take] at z; omega
    · rw [ht.off A hAh]; exact h2
    · have hd' : items[i]? = some d := hd
      rw [List.take_succ, hd']
      exact paired_snoc hp ry
    · intro a n1 n2
      rw [um_ne n2, ht.off a n1]; exact h1 a n1 n2
    · exact um_same
    · exact ht.at_.um hAh
  · rintro acc M2 ⟨hp, h1, h2, h3⟩
    refine q acc (em M2 A) (by have e : items.take items.length = items := List.take_length; rw [← e]; exact hp) ⟨fun a n1 => ?_, ?_⟩
    · by_cases z : a = A
      · rw [z, em_same, hA]
      · rw [em_ne z]; exact h1 a n1 z
    · obtain ⟨o, e, r⟩ := h3
      exact ⟨o, by rw [em_ne hAh.symm]; exact e, r⟩
end DL

namespace DL
open PySem PySem.Spec PyProof.Rows L2
abbrev leD (a b : D) : Bool := PySem.W.dataLe false D.py a b
theorem leD_total : PySem.W.TotalLe leD := PySem.W.sortLe_total _ false _
theorem srt_pw (ds : List D) : (srt ds).Pairwise fun a b => leD a b = true := PySem.W.sort_pairwise leD_total ds
theorem leD_ii {a b c d : Int} : leD (.tup [.int a, .int b]) (.tup [.int c, .int d]) = decide (a < c ∨ (a = c ∧ b ≤ d)) := by
  have h := congrFun (congrFun (PySem.W.dataLe_ii (β := Int × Int) (fun p => p.1) (fun p => p.2)) (a, b)) (c, d)
  have e : leD (.tup [.int a, .int b]) (.tup [.int c, .int d]) = PySem.W.dataLe false (fun p : Int × Int => PyData.tuple [.int p.1, .int p.2]) (a, b) (c, d) := by
    simp only [leD, PySem.W.dataLe_eq, D.py, D.pys]
  rw [e]; exact h
theorem cutT2 {xs : List D} : dSlice.cutD xs none (some 2) = xs.take 2 := cut_to xs 2
theorem cutT3 {xs : List D} : dSlice.cutD xs none (some 3) = xs.take 3 := cut_to xs 3
theorem cutT4 {xs : List D} : dSlice.cutD xs none (some 4) = xs.take 4 := cut_to xs 4
theorem cutT5 {xs : List D} : dSlice.cutD xs none (some 5) = xs.take 5 := cut_to xs 5
theorem cutT6 {xs : List D} : dSlice.cutD xs none (some 6) = xs.take 6 := cut_to xs 6
theorem cutT7 {xs : List D} : dSlice.cutD xs none (some 7) = xs.take 7 := cut_to xs 7
theorem cutF1 {xs : List D} : dSlice.cutD xs (some 1) none = xs.drop 1 := cut_from xs 1
theorem cutF2 {xs : List D} : dSlice.cutD xs (some 2) none = xs.drop 2 := cut_from xs 2
theorem cutF3 {xs : List D} : dSlice.cutD xs (some 3) none = xs.drop 3 := cut_from xs 3
theorem cutF4 {xs : List D} : dSlice.cutD xs (some 4) none = xs.drop 4 := cut_from xs 4
theorem cutF5 {xs : List D} : dSlice.cutD xs (some 5) none = xs.drop 5 := cut_from xs 5
theorem cutF6 {xs : List D} : dSlice.cutD xs (some 6) none = xs.drop 6 := cut_from xs 6
theorem at_lt {ds : List D} {i : Int} (h0 : 0 ≤ i) (h1 : i < ds.length) : ∃ d, d ∈ ds ∧ L2.atI ds i = some d := by
  have lt : i.toNat < ds.length := by omega
  refine ⟨ds[i.toNat], List.getElem_mem lt, ?_⟩
  have := at_nat (i := i.toNat) (List.getElem?_eq_getElem lt)
  rw [show ((i.toNat : Nat) : Int) = i by omega] at this
  exact this
theorem at_last {ds : List D} (h : ds ≠ []) : ∃ d, d ∈ ds ∧ L2.atI ds (-1) = some d := by
  have lt : ds.length - 1 < ds.length := by have := List.length_pos_iff.mpr h; omega
  refine ⟨ds[ds.length - 1], List.getElem_mem lt, ?_⟩
  unfold L2.atI L2.ixN
  rw [if_neg (by decide), if_pos (by have := List.length_pos_iff.mpr h; omega)]
  have e : ((-1 : Int) + (ds.length : Int)).toNat = ds.length - 1 := by omega
  simp only [Option.bind_some, e]
  exact List.getElem?_eq_getElem lt
theorem um_self {M : DM} {p : Addr} {o : MO} (h : M p = some o) : um M p o = M := by
  funext a
  by_cases q : a = p
  · rw [q, um_same, h]
  · exact um_ne q
theorem mem_putT {kvs : List (NK × D)} {k : NK} {v : D} {x : NK × D} (h : x ∈ putT kvs k v) : x.1 = k ∨ ∃ y ∈ kvs, y.1 = x.1 := by
  unfold putT at h
  split at h
  · obtain ⟨y, hy, e⟩ := List.mem_map.mp h
    refine .inr ⟨y, hy, ?_⟩
    rw [← e]
    split <;> rfl
  · rcases List.mem_append.mp h with z | z
    · exact .inr ⟨x, z, rfl⟩
    · rw [List.mem_singleton.mp z]; exact .inl rfl
theorem putT_len {kvs : List (NK × D)} {k : NK} {v : D} : (putT kvs k v).length ≤ kvs.length + 1 := by unfold putT; split <;> simp
theorem putT_ne {kvs : List (NK × D)} {k : NK} {v : D} : putT kvs k v ≠ [] := by
  unfold putT
  split
  · rename_i h
    intro e
    have : kvs = [] := by simpa using e
    subst this
    simp [getT] at h
  · simp
/-- all but the hand stays that was there -/
def Exh (M M2 : DM) (h : Addr) : Prop := ∀ a o, a ≠ h → M a = some o → M2 a = some o
theorem Exh.to {M M2 M3 : DM} {h : Addr} {n : Nat} (e : Exh M M2 h) (t : HdTo M2 h n M3) : Exh M M3 h := fun a o n1 q => by rw [t.off a n1]; exact e a o n1 q
theorem Exh.um {M M2 : DM} {h A : Addr} {o : MO} (e : Exh M M2 h) (hA : M A = none) : Exh M (um M2 A o) h := fun a u n1 q => by rw [um_ne (mne q hA)]; exact e a u n1 q
theorem HdTo.exh {M M2 : DM} {h : Addr} {n m : Nat} (e : Exh M M2 h) (hm : Hd M h m) (t : Hd M2 h n) : HdTo M h n (DL.rs M M2) := ⟨fun a q => by
  cases z : M a with
  | none => exact rs_out z
  | some o => rw [rs_in z, e a o q z], by
  obtain ⟨o, e1, r⟩ := t
  obtain ⟨o', e', _⟩ := hm
  exact ⟨o, by rw [rs_in e']; exact e1, r⟩⟩
theorem pw_get {α : Type} {R : α → α → Prop} {l : List α} (h : l.Pairwise R) {i j : Nat} {a b : α} (hij : i < j) (ha : l[i]? = some a) (hb : l[j]? = some b) : R a b := by
  obtain ⟨h1, e1⟩ := List.getElem?_eq_some_iff.mp ha
  obtain ⟨h2, e2⟩ := List.getElem?_eq_some_iff.mp hb
  have := List.pairwise_iff_getElem.mp h i j h1 h2 hij
  rw [e1, e2] at this; exact this
theorem nodup_len {α : Type} [DecidableEq α] : ∀ (l m : List α), l.Nodup → (∀ x ∈ l, x ∈ m) → l.length ≤ m.length
  | [], _, _, _ => Nat.zero_le _
  | a :: l, m, nd, h => by
    rw [List.nodup_cons] at nd
    have ha := h a List.mem_cons_self
    have := nodup_len l (m.erase a) nd.2 fun x hx => by
      have hne : x ≠ a := fun e => nd.1 (e ▸ hx)
      exact (List.mem_erase_of_ne hne).mpr (h x (List.mem_cons_of_mem _ hx))
    rw [List.length_erase_of_mem ha] at this
    have : 0 < m.length := List.length_pos_of_mem ha
    rw [List.length_cons]; omega
end DL

namespace DL
open PySem PySem.W PySem.Spec PyProof.Rows L2
theorem um_comm {M : DM} {a b : Addr} {o u : MO} (h : a ≠ b) : um (um M a o) b u = um (um M b u) a o := by
  funext c
  by_cases e : c = b
  · subst e; rw [um_same, um_ne h.symm, um_same]
  · rw [um_ne e]
    by_cases e2 : c = a
    · subst e2; rw [um_same, um_same]
    · rw [um_ne e2, um_ne e2, um_ne e]
mutual
theorem eqv_nk : ∀ k k' : NK, PyData.eqv (nkD k).py (nkD k').py = true ↔ k = k'
  | .none, .none => by simp [nkD, D.py, PyData.eqv]
  | .none, .num _ => by simp [nkD, D.py, PyData.eqv]
  | .none, .text _ => by simp [nkD, D.py, PyData.eqv]
  | .none, .tup _ => by simp [nkD, D.py, PyData.eqv]
  | .num _, .none => by simp [nkD, D.py, PyData.eqv]
  | .num i, .num j => by simp [nkD, D.py, PyData.eqv]
  | .num _, .text _ => by simp [nkD, D.py, PyData.eqv]
  | .num _, .tup _ => by simp [nkD, D.py, PyData.eqv]
  | .text _, .none => by simp [nkD, D.py, PyData.eqv]
  | .text _, .num _ => by simp [nkD, D.py, PyData.eqv]
  | .text x, .text y => by simp [nkD, D.py, PyData.eqv]
  | .text _, .tup _ => by simp [nkD, D.py, PyData.eqv]
  | .tup _, .none => by simp [nkD, D.py, PyData.eqv]
  | .tup _, .num _ => by simp [nkD, D.py, PyData.eqv]
  | .tup _, .text _ => by simp [nkD, D.py, PyData.eqv]
  | .tup ks, .tup ks' => by
    rw [nkD, nkD, D.py, D.py, PyData.eqv, eqv_nks ks ks']
    simp
theorem eqv_nks : ∀ ks ks' : List NK, PyData.eqvAll (D.pys (nkDs ks)) (D.pys (nkDs ks')) = true ↔ ks = ks'
  | [], [] => by simp [nkDs, D.pys, PyData.eqvAll]
  | [], _ :: _ => by simp [nkDs, D.pys, PyData.eqvAll]
  | _ :: _, [] => by simp [nkDs, D.pys, PyData.eqvAll]
  | k :: ks, k' :: ks' => by
    rw [nkDs, nkDs, D.pys, D.pys, PyData.eqvAll, Bool.and_eq_true, eqv_nk k k', eqv_nks ks ks']
    simp
end
/-- the order is antisymmetric on data that are alike -/
theorem leD_eqv {a b : D} (h : PySem.W.alike a.py b.py = true) (h1 : leD a b = true) (h2 : leD b a = true) : PyData.eqv a.py b.py = true := by
  have n1 : PySem.W.dataLt b.py a.py = false := by
    have : (!PySem.W.dataLt b.py a.py) = true := h1
    simpa using this
  have n2 : PySem.W.dataLt a.py b.py = false := by
    have : (!PySem.W.dataLt a.py b.py) = true := h2
    simpa using this
  cases e : PyData.eqv a.py b.py with
  | true => rfl
  | false =>
    exfalso
    have q := (PySem.W.toks_eqv a.py b.py h).2 e
    have tot : PySem.W.keyToks a.py = PySem.W.keyToks b.py := (listOrd itemOrd).total _ _ n2 n1
    rw [tot] at q
    have z := q [] [Sum.inl 0]
    rw [PySem.W.lex_pre] at z
    have n3 : PyProof.Rows.lexLt itemOrd (PySem.W.keyToks b.py) (PySem.W.keyToks b.py) = false := (listOrd itemOrd).irrefl _
    rw [n3] at z
    exact absurd z (by simp [PyProof.Rows.lexLt])
end DL

namespace K7
open PySem PySem.Spec PyProof.Rows L2 DL
def top (i : Nat) : Stmt := PySem.Challenge.pw_ticketracks_k71_pages_taken_and_void.main.body.getD i (.Pass ⟨0, 0, 0, 0⟩)
abbrev st_racks_at : Stmt := top 4
abbrev nm_racks_at : List Str := ["plan", "place", "number", "rack"]
abbrev ps_racks_at : List Str := ["plan", "place"]
theorem sc_racks_at : FnScope nm_racks_at ps_racks_at (defScope st_racks_at) := ⟨rfl, rfl, rfl, by decide +kernel, rfl, by decide +kernel, by decide +kernel⟩
abbrev st_is_int : Stmt := top 10
abbrev nm_is_int : List Str := ["thing"]
abbrev ps_is_int : List Str := ["thing"]
theorem sc_is_int : FnScope nm_is_int ps_is_int (defScope st_is_int) := ⟨rfl, rfl, rfl, by decide +kernel, rfl, by decide +kernel, by decide +kernel⟩
abbrev st_is_under : Stmt := top 11
abbrev nm_is_under : List Str := ["thing", "many"]
abbrev ps_is_under : List Str := ["thing", "many"]
theorem sc_is_under : FnScope nm_is_under ps_is_under (defScope st_is_under) := ⟨rfl, rfl, rfl, by decide +kernel, rfl, by decide +kernel, by decide +kernel⟩
abbrev st_is_told_or_torn : Stmt := top 12
abbrev nm_is_told_or_torn : List Str := ["thing"]
abbrev ps_is_told_or_torn : List Str := ["thing"]
theorem sc_is_told_or_torn : FnScope nm_is_told_or_torn ps_is_told_or_torn (defScope st_is_told_or_torn) := ⟨rfl, rfl, rfl, by decide +kernel, rfl, by decide +kernel, by decide +kernel⟩
abbrev st_is_coin : Stmt := top 13
abbrev nm_is_coin : List Str := ["thing"]
abbrev ps_is_coin : List Str := ["thing"]
theorem sc_is_coin : FnScope nm_is_coin ps_is_coin (defScope st_is_coin) := ⟨rfl, rfl, rfl, by decide +kernel, rfl, by decide +kernel, by decide +kernel⟩
abbrev st_is_ticket : Stmt := top 14
abbrev nm_is_ticket : List Str := ["plan", "thing"]
abbrev ps_is_ticket : List Str := ["plan", "thing"]
theorem sc_is_ticket : FnScope nm_is_ticket ps_is_ticket (defScope st_is_ticket) := ⟨rfl, rfl, rfl, by decide +kernel, rfl, by decide +kernel, by decide +kernel⟩
abbrev st_is_bettered : Stmt := top 15
abbrev nm_is_bettered : List Str := ["plan", "thing"]
abbrev ps_is_bettered : List Str := ["plan", "thing"]
theorem sc_is_bettered : FnScope nm_is_bettered ps_is_bettered (defScope st_is_bettered) := ⟨rfl, rfl, rfl, by decide +kernel, rfl, by decide +kernel, by decide +kernel⟩
abbrev st_are_tickets : Stmt := top 16
abbrev nm_are_tickets : List Str := ["plan", "thing", "one"]
abbrev ps_are_tickets : List Str := ["plan", "thing"]
theorem sc_are_tickets : FnScope nm_are_tickets ps_are_tickets (defScope st_are_tickets) := ⟨rfl, rfl, rfl, by decide +kernel, rfl, by decide +kernel, by decide +kernel⟩
abbrev st_do_rise : Stmt := top 17
abbrev nm_do_rise : List Str := ["things", "one", "other"]
abbrev ps_do_rise : List Str := ["things"]
theorem sc_do_rise : FnScope nm_do_rise ps_do_rise (defScope st_do_rise) := ⟨rfl, rfl, rfl, by decide +kernel, rfl, by decide +kernel, by decide +kernel⟩
abbrev st_is_office : Stmt := top 18
abbrev nm_is_office : List Str := ["plan", "thing", "word", "place", "day", "closings", "pressed", "betters", "backs", "coin", "many", "one"]
abbrev ps_is_office : List Str := ["plan", "thing"]
theorem sc_is_office : FnScope nm_is_office ps_is_office (defScope st_is_office) := ⟨rfl, rfl, rfl, by decide +kernel, rfl, by decide +kernel, by decide +kernel⟩
abbrev st_is_gate : Stmt := top 19
abbrev nm_is_gate : List Str := ["plan", "thing", "some"]
abbrev ps_is_gate : List Str := ["plan", "thing"]
theorem sc_is_gate : FnScope nm_is_gate ps_is_gate (defScope st_is_gate) := ⟨rfl, rfl, rfl, by decide +kernel, rfl, by decide +kernel, by decide +kernel⟩
abbrev st_is_page : Stmt := top 20
abbrev nm_is_page : List Str := ["plan", "thing"]
abbrev ps_is_page : List Str := ["plan", "thing"]
theorem sc_is_page : FnScope nm_is_page ps_is_page (defScope st_is_page) := ⟨rfl, rfl, rfl, by decide +kernel, rfl, by decide +kernel, by decide +kernel⟩
abbrev st_key_of : Stmt := top 21
abbrev nm_key_of : List Str := ["page"]
abbrev ps_key_of : List Str := ["page"]
theorem sc_key_of : FnScope nm_key_of ps_key_of (defScope st_key_of) := ⟨rfl, rfl, rfl, by decide +kernel, rfl, by decide +kernel, by decide +kernel⟩
abbrev st_House_init : Stmt := inClass (top 23) 0
abbrev nm_House_init : List Str := ["self", "plan"]
abbrev ps_House_init : List Str := ["self", "plan"]
theorem sc_House_init : FnScope nm_House_init ps_House_init (defScope st_House_init) := ⟨rfl, rfl, rfl, by decide +kernel, rfl, by decide +kernel, by decide +kernel⟩
abbrev st_House_want_page : Stmt := inClass (top 23) 1
abbrev nm_House_want_page : List Str := ["self", "page"]
abbrev ps_House_want_page : List Str := ["self", "page"]
theorem sc_House_want_page : FnScope nm_House_want_page ps_House_want_page (defScope st_House_want_page) := ⟨rfl, rfl, rfl, by decide +kernel, rfl, by decide +kernel, by decide +kernel⟩
abbrev st_House_take : Stmt := inClass (top 23) 2
abbrev nm_House_take : List Str := ["self", "page", "alike"]
abbrev ps_House_take : List Str := ["self", "page"]
theorem sc_House_take : FnScope nm_House_take ps_House_take (defScope st_House_take) := ⟨rfl, rfl, rfl, by decide +kernel, rfl, by decide +kernel, by decide +kernel⟩
abbrev st_House_void : Stmt := inClass (top 23) 3
abbrev nm_House_void : List Str := ["self", "page"]
abbrev ps_House_void : List Str := ["self", "page"]
theorem sc_House_void : FnScope nm_House_void ps_House_void (defScope st_House_void) := ⟨rfl, rfl, rfl, by decide +kernel, rfl, by decide +kernel, by decide +kernel⟩
abbrev st_House_standing : Stmt := inClass (top 23) 4
abbrev nm_House_standing : List Str := ["self", "key", "page"]
abbrev ps_House_standing : List Str := ["self", "key"]
theorem sc_House_standing : FnScope nm_House_standing ps_House_standing (defScope st_House_standing) := ⟨rfl, rfl, rfl, by decide +kernel, rfl, by decide +kernel, by decide +kernel⟩
abbrev st_House_file : Stmt := inClass (top 23) 5
abbrev nm_House_file : List Str := ["self", "found", "key", "some"]
abbrev ps_House_file : List Str := ["self"]
theorem sc_House_file : FnScope nm_House_file ps_House_file (defScope st_House_file) := ⟨rfl, rfl, rfl, by decide +kernel, rfl, by decide +kernel, by decide +kernel⟩
abbrev st_House_unlike : Stmt := inClass (top 23) 6
abbrev nm_House_unlike : List Str := ["self", "found", "key", "many"]
abbrev ps_House_unlike : List Str := ["self"]
theorem sc_House_unlike : FnScope nm_House_unlike ps_House_unlike (defScope st_House_unlike) := ⟨rfl, rfl, rfl, by decide +kernel, rfl, by decide +kernel, by decide +kernel⟩
abbrev st__law_hand_of : Stmt := top 25
abbrev nm__law_hand_of : List Str := ["_law_script", "_law_k", "_law_cell", "_law_great"]
abbrev ps__law_hand_of : List Str := ["_law_script", "_law_k"]
theorem sc__law_hand_of : FnScope nm__law_hand_of ps__law_hand_of (defScope st__law_hand_of) := ⟨rfl, rfl, rfl, by decide +kernel, rfl, by decide +kernel, by decide +kernel⟩
abbrev st__law_take : Stmt := top 26
abbrev nm__law_take : List Str := ["_law_hand", "_law_many", "_law_digit", "_law_stirred"]
abbrev ps__law_take : List Str := ["_law_hand", "_law_many"]
theorem sc__law_take : FnScope nm__law_take ps__law_take (defScope st__law_take) := ⟨rfl, rfl, rfl, by decide +kernel, rfl, by decide +kernel, by decide +kernel⟩
abbrev st__law_plan_of : Stmt := top 27
abbrev nm__law_plan_of : List Str := ["_law_hand", "_law_many", "_law_ends", "_law_at", "_law_k", "_law_one", "_law_other", "_law_ties", "_law_pair", "_law_rates", "_law_chosen", "_law_rack", "_law_days"]
abbrev ps__law_plan_of : List Str := ["_law_hand"]
theorem sc__law_plan_of : FnScope nm__law_plan_of ps__law_plan_of (defScope st__law_plan_of) := ⟨rfl, rfl, rfl, by decide +kernel, rfl, by decide +kernel, by decide +kernel⟩
abbrev st__law_number : Stmt := top 28
abbrev nm__law_number : List Str := ["_law_hand"]
abbrev ps__law_number : List Str := ["_law_hand"]
theorem sc__law_number : FnScope nm__law_number ps__law_number (defScope st__law_number) := ⟨rfl, rfl, rfl, by decide +kernel, rfl, by decide +kernel, by decide +kernel⟩
abbrev st__law_tickets : Stmt := top 29
abbrev nm__law_tickets : List Str := ["_law_hand", "_law_plan", "_law_most", "_law_k"]
abbrev ps__law_tickets : List Str := ["_law_hand", "_law_plan", "_law_most"]
theorem sc__law_tickets : FnScope nm__law_tickets ps__law_tickets (defScope st__law_tickets) := ⟨rfl, rfl, rfl, by decide +kernel, rfl, by decide +kernel, by decide +kernel⟩
abbrev st__law_coin : Stmt := top 30
abbrev nm__law_coin : List Str := ["_law_hand", "_law_wide"]
abbrev ps__law_coin : List Str := ["_law_hand"]
theorem sc__law_coin : FnScope nm__law_coin ps__law_coin (defScope st__law_coin) := ⟨rfl, rfl, rfl, by decide +kernel, rfl, by decide +kernel, by decide +kernel⟩
abbrev st__law_page_of : Stmt := top 31
abbrev nm__law_page_of : List Str := ["_law_hand", "_law_plan", "_law_day", "_law_offices", "_law_rack", "_law_cuts", "_law_ends", "_law_place", "_law_many", "_law_closings", "_law_k", "_law_pressed", "_law_betters", "_law_one"]
abbrev ps__law_page_of : List Str := ["_law_hand", "_law_plan"]
theorem sc__law_page_of : FnScope nm__law_page_of ps__law_page_of (defScope st__law_page_of) := ⟨rfl, rfl, rfl, by decide +kernel, rfl, by decide +kernel, by decide +kernel⟩
abbrev st__law_mate : Stmt := top 32
abbrev nm__law_mate : List Str := ["_law_hand", "_law_plan", "_law_page", "_law_cuts", "_law_ends"]
abbrev ps__law_mate : List Str := ["_law_hand", "_law_plan", "_law_page"]
theorem sc__law_mate : FnScope nm__law_mate ps__law_mate (defScope st__law_mate) := ⟨rfl, rfl, rfl, by decide +kernel, rfl, by decide +kernel, by decide +kernel⟩
abbrev st__law_pool : Stmt := top 33
abbrev nm__law_pool : List Str := ["_law_hand", "_law_plan", "_law_pool_here", "_law_k", "_law_turn"]
abbrev ps__law_pool : List Str := ["_law_hand", "_law_plan"]
theorem sc__law_pool : FnScope nm__law_pool ps__law_pool (defScope st__law_pool) := ⟨rfl, rfl, rfl, by decide +kernel, rfl, by decide +kernel, by decide +kernel⟩
abbrev st__law_taken : Stmt := top 34
abbrev nm__law_taken : List Str := ["_law_kept", "_law_page", "_law_mates", "_law_one"]
abbrev ps__law_taken : List Str := ["_law_kept", "_law_page"]
theorem sc__law_taken : FnScope nm__law_taken ps__law_taken (defScope st__law_taken) := ⟨rfl, rfl, rfl, by decide +kernel, rfl, by decide +kernel, by decide +kernel⟩
abbrev st__law_voided : Stmt := top 35
abbrev nm__law_voided : List Str := ["_law_kept", "_law_page"]
abbrev ps__law_voided : List Str := ["_law_kept", "_law_page"]
theorem sc__law_voided : FnScope nm__law_voided ps__law_voided (defScope st__law_voided) := ⟨rfl, rfl, rfl, by decide +kernel, rfl, by decide +kernel, by decide +kernel⟩
abbrev st__law_counting : Stmt := top 36
abbrev nm__law_counting : List Str := ["_law_kept", "_law_standing", "_law_page", "_law_file", "_law_many", "_law_head", "_law_some"]
abbrev ps__law_counting : List Str := ["_law_kept"]
theorem sc__law_counting : FnScope nm__law_counting ps__law_counting (defScope st__law_counting) := ⟨rfl, rfl, rfl, by decide +kernel, rfl, by decide +kernel, by decide +kernel⟩
abbrev st__law_right : Stmt := top 37
abbrev nm__law_right : List Str := ["_law_house", "_law_kept"]
abbrev ps__law_right : List Str := ["_law_house", "_law_kept"]
theorem sc__law_right : FnScope nm__law_right ps__law_right (defScope st__law_right) := ⟨rfl, rfl, rfl, by decide +kernel, rfl, by decide +kernel, by decide +kernel⟩
abbrev st_law : Stmt := top 38
abbrev nm_law : List Str := ["_law_script", "_law_k", "_law_hand", "_law_plan", "_law_pool_here", "_law_house", "_law_kept", "_law_turn", "_law_takes", "_law_page", "_law_copy", "_law_told", "_law_due"]
abbrev ps_law : List Str := ["_law_script"]
theorem sc_law : FnScope nm_law ps_law (defScope st_law) := ⟨rfl, rfl, rfl, by decide +kernel, rfl, by decide +kernel, by decide +kernel⟩
abbrev ns_House : List Str := ["plan_held", "known", "banned", "by_key"]
structure Txt (K : PySem.W.Frag) (mg : Str → Option Value) : Prop where
  b_isinstance : mg "isinstance" = none
  b_int : mg "int" = none
  b_bool : mg "bool" = none
  b_tuple : mg "tuple" = none
  b_str : mg "str" = none
  b_len : mg "len" = none
  b_all : mg "all" = none
  b_zip : mg "zip" = none
  b_enumerate : mg "enumerate" = none
  c_MOST_NUMBER : ∃ t, mg "MOST_NUMBER" = some (.int 1000000000 t)
  c_MOST_COIN : ∃ t, mg "MOST_COIN" = some (.int 1000000000000000 t)
  c_OFFICE : ∃ t, mg "OFFICE" = some (.str "office" t)
  c_GATE : ∃ t, mg "GATE" = some (.str "gate" t)
/-! ### a plan as data, and what is a page of it -/
abbrev Rack := Int × Int × Int × Int
def rackD (r : Rack) : D := .tup [.int r.1, .int r.2.1, .int r.2.2.1, .int r.2.2.2]
structure Plan where
  many : Int
  ties : List D
  rates : List Int
  racks : List Rack
  days : Int
def Plan.d (p : Plan) : D := .tup [.tup [.int p.many, .tup p.ties], .tup (p.rates.map .int), .tup (p.racks.map rackD), .int p.days]
def isInt : D → Bool
  | .int _ => true
  | _ => false
def isUnder (n : Int) : D → Bool
  | .int i => decide (0 ≤ i) && decide (i < n)
  | _ => false
def isTold : D → Bool
  | .non => true
  | d => isUnder 1000000000 d
def isCoin : D → Bool
  | .non => true
  | .int i => decide (-1000000000000000 < i) && decide (i < 1000000000000000)
  | _ => false
/-- a ticket of the plan -/
def Tk (p : Plan) (d : D) : Prop := ∃ a b : Int, d = .tup [.int a, .int b] ∧ (0 ≤ a ∧ a < p.racks.length) ∧ 0 ≤ b ∧ b < 1000000000
def Bt3 (p : Plan) (d : D) : Prop := ∃ a b c : Int, d = .tup [.int a, .int b, .int c] ∧ (0 ≤ a ∧ a < p.racks.length) ∧ (0 ≤ b ∧ b < 1000000000) ∧ 0 ≤ c ∧ c < p.rates.length
def intsD (l : List Int) : D := .tup (l.map .int)
/-- each less than the next -/
def Rise (xs : List D) : Prop := ∃ ls : List (List Int), xs = ls.map intsD ∧ ∀ (i : Nat) a b, ls[i]? = some a → ls[i + 1]? = some b → HT.lexLt a b = true
def racksAt (p : Plan) (place : Int) : Nat := (p.racks.filter fun r => r.1 = place).length
inductive PageOk (p : Plan) : D → Prop
  | gate {place day : Int} {cuts ends : List D} (h1 : 0 ≤ place ∧ place < p.many) (h2 : 0 ≤ day ∧ day < p.days) (h3 : ∀ d ∈ cuts, Tk p d) (h4 : Rise cuts) (h5 : ∀ d ∈ ends, Tk p d) (h6 : Rise ends) (h7 : cuts.length ≤ 100 ∧ ends.length ≤ 100) : PageOk p (.tup [.str "gate", .int place, .int day, .tup cuts, .tup ends])
  | office {place day : Int} {closings betters backs : List D} {pressed coin : D} (h1 : 0 ≤ place ∧ place < p.many) (h2 : 0 ≤ day ∧ day < p.days) (h3 : ∀ d ∈ closings, d.dat = true ∧ isTold d = true) (h4 : closings.length = racksAt p place) (h5 : closings ≠ [])
      (h6 : pressed.dat = true ∧ isTold pressed = true) (h7 : ∀ d ∈ betters, Bt3 p d) (h8 : ∀ d ∈ backs, Tk p d) (h9 : coin.dat = true ∧ isCoin coin = true) (h10 : closings.length ≤ 100 ∧ betters.length ≤ 100 ∧ backs.length ≤ 100) (h11 : p.racks.length ≤ 100) : PageOk p (.tup [.str "office", .int place, .int day, .tup closings, pressed, .tup betters, .tup backs, coin])
theorem small {n : Nat} (h : n ≤ 100) : n ≤ sizeLine := by rw [sizeLine_eq]; omega
section
variable {P : Program} {w : World} {K : PySem.W.Frag} {mg : Str → Option Value} {base : Heap} (T : Txt K mg)
include T
def sp_is_int : DSp := fun ds M Q => match ds with
  | [d] => d.dat = true ∧ Q (.bl (isInt d)) M
  | _ => False
theorem ok_is_int {f fd} (F : Fun K "is_int" "is_int" st_is_int f fd) : DFn P w K mg base 1 f fd ps_is_int sp_is_int := by
  refine dfn_ok F sc_is_int (fun ds M Q h => by first | (unfold sp_is_int at h; split at h <;> first | rfl | exact h.elim) | (unfold sp_is_told at h; split at h <;> first | rfl | exact h.elim) | (unfold sp_is_coin at h; split at h <;> first | rfl | exact h.elim)) fun cdv A outer s H E hr => ⟨_, (dss_one (ds_ret (de_and (de_B (c_isi .int) rfl T.b_isinstance Bt.isinstance (da_cons (dv 0) (da_cons (de_ty rfl T.b_int Bt.int) da_nil))) (de_one (de_not (de_B (c_isi .bool) rfl T.b_isinstance Bt.isinstance (da_cons (dv 0) (da_cons (de_ty rfl T.b_bool Bt.bool) da_nil)))))))), ?_⟩
  intro ds M Q h
  first | unfold sp_is_int at h | unfold sp_is_told at h | unfold sp_is_coin at h
  split at h <;> first | exact h.elim | skip
  rename_i d
  obtain ⟨hd, q⟩ := h
  cases d <;> (try (simp [D.dat] at hd; done)) <;> (simp [DL.dstart, DL.dVar, DL.dC, DL.dNil, DL.dCons, DL.dTup, DL.dLst, DL.dOp, DL.dB, DL.rIsi, DL.rLen, DL.rMin, DL.rMax, DL.rInt, DL.rTuple, DL.rList, DL.rAll, DL.rAny, DL.rSum, DL.dTest, DL.dChain, DL.dAnd, DL.dOr, DL.dNot, DL.dAndV, DL.dOrV, DL.dNotV, DL.dIf, DL.dNext, DL.dSeq, DL.dDrop, DL.dRet, DL.dRetN, DL.dIfS, DL.dAsg, DL.dName, DL.dPar, DL.dPar3, DL.dAug, DL.dgNil, DL.dgCons, DL.dgTup, DL.dSub, DL.dCall, DL.dNeg, DL.dSlice, DL.dPart, DL.dNo, DL.rI2, DL.rII, DL.rAdd, DL.rIsN, DL.rIx, DL.rSet, DL.isi, DL.rEq_int, DL.rEq_str, DL.at0, DL.at1, DL.at2, DL.at3, DL.Tn.nm, DL.dChain, DL.rLtI, DL.rLeI, DL.rGtI, DL.rGeI, DL.rSub, DL.rMul, DL.rMod, DL.rDiv, DL.rPow, List.length_cons, List.length_nil, List.replicate_succ, List.replicate_zero, Nat.reduceAdd, Nat.reduceSub, Nat.zero_add, List.map_cons, List.map_nil, List.cons_append, List.nil_append, List.getElem?_cons_zero, List.getElem?_cons_succ, List.set_cons_zero, List.set_cons_succ]; exact Dr.here q)
def sp_is_under : DSp := fun ds M Q => match ds with
  | [d, .int n] => d.dat = true ∧ Q (.bl (isUnder n d)) M
  | _ => False
variable (D_is_int : Cal P w K mg base 1 "is_int" ps_is_int sp_is_int)
include D_is_int
theorem ok_is_under {f fd} (F : Fun K "is_under" "is_under" st_is_under f fd) : DFn P w K mg base 2 f fd ps_is_under sp_is_under := by
  refine dfn_ok F sc_is_under (fun ds M Q h => by unfold sp_is_under at h; split at h <;> first | rfl | exact h.elim) fun cdv A outer s H E hr => ⟨_, (dss_one (ds_ret (de_and (de_cal D_is_int (hr.mono (by decide)) rfl (da_cons (dv 0) da_nil)) (de_one (de_chain o_le o_lt de_int (dv 0) (dv 1)))))), ?_⟩
  intro ds M Q h
  unfold sp_is_under at h
  split at h <;> first | exact h.elim | skip
  rename_i d n
  obtain ⟨hd, q⟩ := h
  simp [DL.dstart, DL.dVar, DL.dC, DL.dNil, DL.dCons, DL.dTup, DL.dLst, DL.dOp, DL.dB, DL.rIsi, DL.rLen, DL.rMin, DL.rMax, DL.rInt, DL.rTuple, DL.rList, DL.rAll, DL.rAny, DL.rSum, DL.dTest, DL.dChain, DL.dAnd, DL.dOr, DL.dNot, DL.dAndV, DL.dOrV, DL.dNotV, DL.dIf, DL.dNext, DL.dSeq, DL.dDrop, DL.dRet, DL.dRetN, DL.dIfS, DL.dAsg, DL.dName, DL.dPar, DL.dPar3, DL.dAug, DL.dgNil, DL.dgCons, DL.dgTup, DL.dSub, DL.dCall, DL.dNeg, DL.dSlice, DL.dPart, DL.dNo, DL.rI2, DL.rII, DL.rAdd, DL.rIsN, DL.rIx, DL.rSet, DL.isi, DL.rEq_int, DL.rEq_str, DL.at0, DL.at1, DL.at2, DL.at3, DL.Tn.nm, DL.dChain, DL.rLtI, DL.rLeI, DL.rGtI, DL.rGeI, DL.rSub, DL.rMul, DL.rMod, DL.rDiv, DL.rPow, List.length_cons, List.length_nil, List.replicate_succ, List.replicate_zero, Nat.reduceAdd, Nat.reduceSub, Nat.zero_add, List.map_cons, List.map_nil, List.cons_append, List.nil_append, List.getElem?_cons_zero, List.getElem?_cons_succ, List.set_cons_zero, List.set_cons_succ, sp_is_int, hd]
  cases d <;> simp [isInt, isUnder, DL.dstart, DL.dVar, DL.dC, DL.dNil, DL.dCons, DL.dTup, DL.dLst, DL.dOp, DL.dB, DL.rIsi, DL.rLen, DL.rMin, DL.rMax, DL.rInt, DL.rTuple, DL.rList, DL.rAll, DL.rAny, DL.rSum, DL.dTest, DL.dChain, DL.dAnd, DL.dOr, DL.dNot, DL.dAndV, DL.dOrV, DL.dNotV, DL.dIf, DL.dNext, DL.dSeq, DL.dDrop, DL.dRet, DL.dRetN, DL.dIfS, DL.dAsg, DL.dName, DL.dPar, DL.dPar3, DL.dAug, DL.dgNil, DL.dgCons, DL.dgTup, DL.dSub, DL.dCall, DL.dNeg, DL.dSlice, DL.dPart, DL.dNo, DL.rI2, DL.rII, DL.rAdd, DL.rIsN, DL.rIx, DL.rSet, DL.isi, DL.rEq_int, DL.rEq_str, DL.at0, DL.at1, DL.at2, DL.at3, DL.Tn.nm, DL.dChain, DL.rLtI, DL.rLeI, DL.rGtI, DL.rGeI, DL.rSub, DL.rMul, DL.rMod, DL.rDiv, DL.rPow, List.length_cons, List.length_nil, List.replicate_succ, List.replicate_zero, Nat.reduceAdd, Nat.reduceSub, Nat.zero_add, List.map_cons, List.map_nil, List.cons_append, List.nil_append, List.getElem?_cons_zero, List.getElem?_cons_succ, List.set_cons_zero, List.set_cons_succ] at q ⊢ <;> (try exact Dr.here q)
  rename_i i
  exact ⟨fun h => Dr.here (by simpa [h] using q), fun h => Dr.here (by simpa [Int.not_le.mpr h] using q)⟩
def sp_is_told : DSp := fun ds M Q => match ds with
  | [d] => d.dat = true ∧ Q (.bl (isTold d)) M
  | _ => False
variable (D_is_under : Cal P w K mg base 2 "is_under" ps_is_under sp_is_under)
include D_is_under
theorem ok_is_told {f fd} (F : Fun K "is_told_or_torn" "is_told_or_torn" st_is_told_or_torn f fd) : DFn P w K mg base 3 f fd ps_is_told_or_torn sp_is_told := by
  refine dfn_ok F sc_is_told_or_torn (fun ds M Q h => by first | (unfold sp_is_int at h; split at h <;> first | rfl | exact h.elim) | (unfold sp_is_told at h; split at h <;> first | rfl | exact h.elim) | (unfold sp_is_coin at h; split at h <;> first | rfl | exact h.elim)) fun cdv A outer s H E hr => ⟨_, (dss_one (ds_ret (de_or (de_cmp o_is (dv 0) de_non) (de_one (de_cal D_is_under (hr.mono (by decide)) rfl (da_cons (dv 0) (da_cons (de_cint rfl T.c_MOST_NUMBER) da_nil))))))), ?_⟩
  intro ds M Q h
  first | unfold sp_is_int at h | unfold sp_is_told at h | unfold sp_is_coin at h
  split at h <;> first | exact h.elim | skip
  rename_i d
  obtain ⟨hd, q⟩ := h
  cases d <;> (try simp [D.dat] at hd) <;> simp [DL.dstart, DL.dVar, DL.dC, DL.dNil, DL.dCons, DL.dTup, DL.dLst, DL.dOp, DL.dB, DL.rIsi, DL.rLen, DL.rMin, DL.rMax, DL.rInt, DL.rTuple, DL.rList, DL.rAll, DL.rAny, DL.rSum, DL.dTest, DL.dChain, DL.dAnd, DL.dOr, DL.dNot, DL.dAndV, DL.dOrV, DL.dNotV, DL.dIf, DL.dNext, DL.dSeq, DL.dDrop, DL.dRet, DL.dRetN, DL.dIfS, DL.dAsg, DL.dName, DL.dPar, DL.dPar3, DL.dAug, DL.dgNil, DL.dgCons, DL.dgTup, DL.dSub, DL.dCall, DL.dNeg, DL.dSlice, DL.dPart, DL.dNo, DL.rI2, DL.rII, DL.rAdd, DL.rIsN, DL.rIx, DL.rSet, DL.isi, DL.rEq_int, DL.rEq_str, DL.at0, DL.at1, DL.at2, DL.at3, DL.Tn.nm, DL.dChain, DL.rLtI, DL.rLeI, DL.rGtI, DL.rGeI, DL.rSub, DL.rMul, DL.rMod, DL.rDiv, DL.rPow, List.length_cons, List.length_nil, List.replicate_succ, List.replicate_zero, Nat.reduceAdd, Nat.reduceSub, Nat.zero_add, List.map_cons, List.map_nil, List.cons_append, List.nil_append, List.getElem?_cons_zero, List.getElem?_cons_succ, List.set_cons_zero, List.set_cons_succ, DL.isNon, sp_is_under, hd, isTold, D.dat] at q ⊢ <;> exact Dr.here q
def sp_is_coin : DSp := fun ds M Q => match ds with
  | [d] => d.dat = true ∧ Q (.bl (isCoin d)) M
  | _ => False
theorem ok_is_coin {f fd} (F : Fun K "is_coin" "is_coin" st_is_coin f fd) : DFn P w K mg base 2 f fd ps_is_coin sp_is_coin := by
  refine dfn_ok F sc_is_coin (fun ds M Q h => by first | (unfold sp_is_int at h; split at h <;> first | rfl | exact h.elim) | (unfold sp_is_told at h; split at h <;> first | rfl | exact h.elim) | (unfold sp_is_coin at h; split at h <;> first | rfl | exact h.elim)) fun cdv A outer s H E hr => ⟨_, (dss_one (ds_ret (de_or (de_cmp o_is (dv 0) de_non) (de_one (de_and (de_cal D_is_int (hr.mono (by decide)) rfl (da_cons (dv 0) da_nil)) (de_one (de_chain o_lt o_lt (de_op o_sub de_int (de_cint rfl T.c_MOST_COIN)) (dv 0) (de_cint rfl T.c_MOST_COIN)))))))), ?_⟩
  intro ds M Q h
  first | unfold sp_is_int at h | unfold sp_is_told at h | unfold sp_is_coin at h
  split at h <;> first | exact h.elim | skip
  rename_i d
  obtain ⟨hd, q⟩ := h
  cases d <;> (try simp [D.dat] at hd) <;> simp [DL.dstart, DL.dVar, DL.dC, DL.dNil, DL.dCons, DL.dTup, DL.dLst, DL.dOp, DL.dB, DL.rIsi, DL.rLen, DL.rMin, DL.rMax, DL.rInt, DL.rTuple, DL.rList, DL.rAll, DL.rAny, DL.rSum, DL.dTest, DL.dChain, DL.dAnd, DL.dOr, DL.dNot, DL.dAndV, DL.dOrV, DL.dNotV, DL.dIf, DL.dNext, DL.dSeq, DL.dDrop, DL.dRet, DL.dRetN, DL.dIfS, DL.dAsg, DL.dName, DL.dPar, DL.dPar3, DL.dAug, DL.dgNil, DL.dgCons, DL.dgTup, DL.dSub, DL.dCall, DL.dNeg, DL.dSlice, DL.dPart, DL.dNo, DL.rI2, DL.rII, DL.rAdd, DL.rIsN, DL.rIx, DL.rSet, DL.isi, DL.rEq_int, DL.rEq_str, DL.at0, DL.at1, DL.at2, DL.at3, DL.Tn.nm, DL.dChain, DL.rLtI, DL.rLeI, DL.rGtI, DL.rGeI, DL.rSub, DL.rMul, DL.rMod, DL.rDiv, DL.rPow, List.length_cons, List.length_nil, List.replicate_succ, List.replicate_zero, Nat.reduceAdd, Nat.reduceSub, Nat.zero_add, List.map_cons, List.map_nil, List.cons_append, List.nil_append, List.getElem?_cons_zero, List.getElem?_cons_succ, List.set_cons_zero, List.set_cons_succ, DL.isNon, sp_is_int, isInt, hd, isCoin, D.dat] at q ⊢ <;> (try exact Dr.here q)
  rename_i i
  exact ⟨fun h => Dr.here (by simpa [h] using q), fun h => Dr.here (by simpa [Int.not_lt.mpr h] using q)⟩
def sp_is_ticket : DSp := fun ds M Q => ∃ (p : Plan) (d : D), ds = [p.d, d] ∧ Tk p d ∧ Q (.bl true) M
theorem ok_is_ticket {f fd} (F : Fun K "is_ticket" "is_ticket" st_is_ticket f fd) : DFn P w K mg base 3 f fd ps_is_ticket sp_is_ticket := by
  refine dfn_ok F sc_is_ticket (fun ds M Q ⟨p, d, e, _⟩ => by rw [e]; rfl) fun cdv A outer s H E hr => ⟨_, (dss_cons (ds_if (db_w (dw_or (db_not (db_val (de_B (c_isi .tuple) rfl T.b_isinstance Bt.isinstance (da_cons (dv 1) (da_cons (de_ty rfl T.b_tuple Bt.tuple) da_nil))))) (dw_or1 (db_cmp (o_ne hr.units) (de_B c_len rfl T.b_len Bt.len (da_cons (dv 1) da_nil)) de_int)))) (dss_one (ds_ret de_bl)) dss_nil)
  (dss_one (ds_ret (de_and (de_cal D_is_under (hr.mono (by decide)) rfl (da_cons (de_ix i_ix (dv 1) de_int) (da_cons (de_B c_len rfl T.b_len Bt.len (da_cons (de_ix i_ix (dv 0) de_int) da_nil)) da_nil))) (de_one (de_cal D_is_under (hr.mono (by decide)) rfl (da_cons (de_ix i_ix (dv 1) de_int) (da_cons (de_cint rfl T.c_MOST_NUMBER) da_nil)))))))), ?_⟩
  rintro ds M Q ⟨p, d, rfl, ⟨a, b, rfl, ⟨h1, h2⟩, h3, h4⟩, q⟩
  simp [DL.dstart, DL.dVar, DL.dC, DL.dNil, DL.dCons, DL.dTup, DL.dLst, DL.dOp, DL.dB, DL.rIsi, DL.rLen, DL.rMin, DL.rMax, DL.rInt, DL.rTuple, DL.rList, DL.rAll, DL.rAny, DL.rSum, DL.dTest, DL.dChain, DL.dAnd, DL.dOr, DL.dNot, DL.dAndV, DL.dOrV, DL.dNotV, DL.dIf, DL.dNext, DL.dSeq, DL.dDrop, DL.dRet, DL.dRetN, DL.dIfS, DL.dAsg, DL.dName, DL.dPar, DL.dPar3, DL.dAug, DL.dgNil, DL.dgCons, DL.dgTup, DL.dSub, DL.dCall, DL.dNeg, DL.dSlice, DL.dPart, DL.dNo, DL.rI2, DL.rII, DL.rAdd, DL.rIsN, DL.rIx, DL.rSet, DL.isi, DL.rEq_int, DL.rEq_str, DL.at0, DL.at1, DL.at2, DL.at3, DL.Tn.nm, DL.dChain, DL.rLtI, DL.rLeI, DL.rGtI, DL.rGeI, DL.rSub, DL.rMul, DL.rMod, DL.rDiv, DL.rPow, List.length_cons, List.length_nil, List.replicate_succ, List.replicate_zero, Nat.reduceAdd, Nat.reduceSub, Nat.zero_add, List.map_cons, List.map_nil, List.cons_append, List.nil_append, List.getElem?_cons_zero, List.getElem?_cons_succ, List.set_cons_zero, List.set_cons_succ, Plan.d, sp_is_under, isUnder, D.dat, h1, h2, h3, h4]
  exact Dr.here q
def sp_is_bettered : DSp := fun ds M Q => ∃ (p : Plan) (d : D), ds = [p.d, d] ∧ Bt3 p d ∧ Q (.bl true) M
variable (D_is_ticket : Cal P w K mg base 3 "is_ticket" ps_is_ticket sp_is_ticket)
include D_is_ticket
theorem ok_is_bettered {f fd} (F : Fun K "is_bettered" "is_bettered" st_is_bettered f fd) : DFn P w K mg base 4 f fd ps_is_bettered sp_is_bettered := by
  refine dfn_ok F sc_is_bettered (fun ds M Q ⟨p, d, e, _⟩ => by rw [e]; rfl) fun cdv A outer s H E hr => ⟨_, (dss_cons (ds_if (db_w (dw_or (db_not (db_val (de_B (c_isi .tuple) rfl T.b_isinstance Bt.isinstance (da_cons (dv 1) (da_cons (de_ty rfl T.b_tuple Bt.tuple) da_nil))))) (dw_or1 (db_cmp (o_ne hr.units) (de_B c_len rfl T.b_len Bt.len (da_cons (dv 1) da_nil)) de_int)))) (dss_one (ds_ret de_bl)) dss_nil)
  (dss_one (ds_ret (de_and (de_cal D_is_ticket (hr.mono (by decide)) rfl (da_cons (dv 0) (da_cons (de_slice (dv 1) po_no (po_pt de_int)) da_nil))) (de_one (de_cal D_is_under (hr.mono (by decide)) rfl (da_cons (de_ix i_ix (dv 1) de_int) (da_cons (de_B c_len rfl T.b_len Bt.len (da_cons (de_ix i_ix (dv 0) de_int) da_nil)) da_nil)))))))), ?_⟩
  rintro ds M Q ⟨p, d, rfl, ⟨a, b, c, rfl, ⟨h1, h2⟩, ⟨h3, h4⟩, h5, h6⟩, q⟩
  simp [DL.dstart, DL.dVar, DL.dC, DL.dNil, DL.dCons, DL.dTup, DL.dLst, DL.dOp, DL.dB, DL.rIsi, DL.rLen, DL.rMin, DL.rMax, DL.rInt, DL.rTuple, DL.rList, DL.rAll, DL.rAny, DL.rSum, DL.dTest, DL.dChain, DL.dAnd, DL.dOr, DL.dNot, DL.dAndV, DL.dOrV, DL.dNotV, DL.dIf, DL.dNext, DL.dSeq, DL.dDrop, DL.dRet, DL.dRetN, DL.dIfS, DL.dAsg, DL.dName, DL.dPar, DL.dPar3, DL.dAug, DL.dgNil, DL.dgCons, DL.dgTup, DL.dSub, DL.dCall, DL.dNeg, DL.dSlice, DL.dPart, DL.dNo, DL.rI2, DL.rII, DL.rAdd, DL.rIsN, DL.rIx, DL.rSet, DL.isi, DL.rEq_int, DL.rEq_str, DL.at0, DL.at1, DL.at2, DL.at3, DL.Tn.nm, DL.dChain, DL.rLtI, DL.rLeI, DL.rGtI, DL.rGeI, DL.rSub, DL.rMul, DL.rMod, DL.rDiv, DL.rPow, List.length_cons, List.length_nil, List.replicate_succ, List.replicate_zero, Nat.reduceAdd, Nat.reduceSub, Nat.zero_add, List.map_cons, List.map_nil, List.cons_append, List.nil_append, List.getElem?_cons_zero, List.getElem?_cons_succ, List.set_cons_zero, List.set_cons_succ, DL.dSlice.cutD, HT.sIx]
  refine ⟨p, _, rfl, ⟨a, b, rfl, ⟨h1, h2⟩, h3, h4⟩, ?_⟩
  simp [DL.dstart, DL.dVar, DL.dC, DL.dNil, DL.dCons, DL.dTup, DL.dLst, DL.dOp, DL.dB, DL.rIsi, DL.rLen, DL.rMin, DL.rMax, DL.rInt, DL.rTuple, DL.rList, DL.rAll, DL.rAny, DL.rSum, DL.dTest, DL.dChain, DL.dAnd, DL.dOr, DL.dNot, DL.dAndV, DL.dOrV, DL.dNotV, DL.dIf, DL.dNext, DL.dSeq, DL.dDrop, DL.dRet, DL.dRetN, DL.dIfS, DL.dAsg, DL.dName, DL.dPar, DL.dPar3, DL.dAug, DL.dgNil, DL.dgCons, DL.dgTup, DL.dSub, DL.dCall, DL.dNeg, DL.dSlice, DL.dPart, DL.dNo, DL.rI2, DL.rII, DL.rAdd, DL.rIsN, DL.rIx, DL.rSet, DL.isi, DL.rEq_int, DL.rEq_str, DL.at0, DL.at1, DL.at2, DL.at3, DL.Tn.nm, DL.dChain, DL.rLtI, DL.rLeI, DL.rGtI, DL.rGeI, DL.rSub, DL.rMul, DL.rMod, DL.rDiv, DL.rPow, List.length_cons, List.length_nil, List.replicate_succ, List.replicate_zero, Nat.reduceAdd, Nat.reduceSub, Nat.zero_add, List.map_cons, List.map_nil, List.cons_append, List.nil_append, List.getElem?_cons_zero, List.getElem?_cons_succ, List.set_cons_zero, List.set_cons_succ, Plan.d, sp_is_under, isUnder, D.dat, h5, h6]
  exact Dr.here q
def sp_are_tickets : DSp := fun ds M Q => ∃ (p : Plan) (xs : List D), ds = [p.d, .tup xs] ∧ (∀ d ∈ xs, Tk p d) ∧ xs.length ≤ sizeLine ∧ Q (.bl true) M
theorem ok_are_tickets {f fd} (F : Fun K "are_tickets" "are_tickets" st_are_tickets f fd) : DFn P w K mg base 4 f fd ps_are_tickets sp_are_tickets := by
  refine dfn_ok F sc_are_tickets (fun ds M Q ⟨p, d, e, _⟩ => by rw [e]; rfl) fun cdv A outer s H E hr => ⟨_, (dss_one (ds_ret (de_and (de_B (c_isi .tuple) rfl T.b_isinstance Bt.isinstance (da_cons (dv 1) (da_cons (de_ty rfl T.b_tuple Bt.tuple) da_nil))) (de_one (de_B (c_all rfl) rfl T.b_all Bt.all (da_cons (de_lc (own := [("one", 2)]) rfl sc_are_tickets.nd (di_seq (dv 1)) (blkOk_by (N := nm_are_tickets) (sc := defScope st_are_tickets) (by decide +kernel)) (fun _ _ _ _ _ => (pg_name (i := 2) sc_are_tickets.nd rfl (by first | exact Or.inl rfl | exact Or.inr rfl))) (tgo_name 2) (fun _ _ _ _ _ => dts_nil) (fun _ _ _ _ _ => (de_cal D_is_ticket (hr.mono (by decide)) rfl (da_cons (dv 0) (da_cons (dv 2) da_nil))))) da_nil)))))), ?_⟩
  rintro ds M Q ⟨p, xs, rfl, hx, hz, q⟩
  simp [DL.dstart, DL.dVar, DL.dC, DL.dNil, DL.dCons, DL.dTup, DL.dLst, DL.dOp, DL.dB, DL.rIsi, DL.rLen, DL.rMin, DL.rMax, DL.rInt, DL.rTuple, DL.rList, DL.rAll, DL.rAny, DL.rSum, DL.dTest, DL.dChain, DL.dAnd, DL.dOr, DL.dNot, DL.dAndV, DL.dOrV, DL.dNotV, DL.dIf, DL.dNext, DL.dSeq, DL.dDrop, DL.dRet, DL.dRetN, DL.dIfS, DL.dAsg, DL.dName, DL.dPar, DL.dPar3, DL.dAug, DL.dgNil, DL.dgCons, DL.dgTup, DL.dSub, DL.dCall, DL.dNeg, DL.dSlice, DL.dPart, DL.dNo, DL.rI2, DL.rII, DL.rAdd, DL.rIsN, DL.rIx, DL.rSet, DL.isi, DL.rEq_int, DL.rEq_str, DL.at0, DL.at1, DL.at2, DL.at3, DL.Tn.nm, DL.dChain, DL.rLtI, DL.rLeI, DL.rGtI, DL.rGeI, DL.rSub, DL.rMul, DL.rMod, DL.rDiv, DL.rPow, List.length_cons, List.length_nil, List.replicate_succ, List.replicate_zero, Nat.reduceAdd, Nat.reduceSub, Nat.zero_add, List.map_cons, List.map_nil, List.cons_append, List.nil_append, List.getElem?_cons_zero, List.getElem?_cons_succ, List.set_cons_zero, List.set_cons_succ]
  refine lc_fm (items := xs) (fun _ => some (.bl true)) (fun Q' h => ?_) hz (fun d hd M2 Ky Kn ex hy hn => ?_) ?_
  · simp [DL.dstart, DL.dVar, DL.dC, DL.dNil, DL.dCons, DL.dTup, DL.dLst, DL.dOp, DL.dB, DL.rIsi, DL.rLen, DL.rMin, DL.rMax, DL.rInt, DL.rTuple, DL.rList, DL.rAll, DL.rAny, DL.rSum, DL.dTest, DL.dChain, DL.dAnd, DL.dOr, DL.dNot, DL.dAndV, DL.dOrV, DL.dNotV, DL.dIf, DL.dNext, DL.dSeq, DL.dDrop, DL.dRet, DL.dRetN, DL.dIfS, DL.dAsg, DL.dName, DL.dPar, DL.dPar3, DL.dAug, DL.dgNil, DL.dgCons, DL.dgTup, DL.dSub, DL.dCall, DL.dNeg, DL.dSlice, DL.dPart, DL.dNo, DL.rI2, DL.rII, DL.rAdd, DL.rIsN, DL.rIx, DL.rSet, DL.isi, DL.rEq_int, DL.rEq_str, DL.at0, DL.at1, DL.at2, DL.at3, DL.Tn.nm, DL.dChain, DL.rLtI, DL.rLeI, DL.rGtI, DL.rGeI, DL.rSub, DL.rMul, DL.rMod, DL.rDiv, DL.rPow, List.length_cons, List.length_nil, List.replicate_succ, List.replicate_zero, Nat.reduceAdd, Nat.reduceSub, Nat.zero_add, List.map_cons, List.map_nil, List.cons_append, List.nil_append, List.getElem?_cons_zero, List.getElem?_cons_succ, List.set_cons_zero, List.set_cons_succ, iSeq]; exact h _ fun _ _ => trivial
  · simp [DL.dstart, DL.dVar, DL.dC, DL.dNil, DL.dCons, DL.dTup, DL.dLst, DL.dOp, DL.dB, DL.rIsi, DL.rLen, DL.rMin, DL.rMax, DL.rInt, DL.rTuple, DL.rList, DL.rAll, DL.rAny, DL.rSum, DL.dTest, DL.dChain, DL.dAnd, DL.dOr, DL.dNot, DL.dAndV, DL.dOrV, DL.dNotV, DL.dIf, DL.dNext, DL.dSeq, DL.dDrop, DL.dRet, DL.dRetN, DL.dIfS, DL.dAsg, DL.dName, DL.dPar, DL.dPar3, DL.dAug, DL.dgNil, DL.dgCons, DL.dgTup, DL.dSub, DL.dCall, DL.dNeg, DL.dSlice, DL.dPart, DL.dNo, DL.rI2, DL.rII, DL.rAdd, DL.rIsN, DL.rIx, DL.rSet, DL.isi, DL.rEq_int, DL.rEq_str, DL.at0, DL.at1, DL.at2, DL.at3, DL.Tn.nm, DL.dChain, DL.rLtI, DL.rLeI, DL.rGtI, DL.rGeI, DL.rSub, DL.rMul, DL.rMod, DL.rDiv, DL.rPow, List.length_cons, List.length_nil, List.replicate_succ, List.replicate_zero, Nat.reduceAdd, Nat.reduceSub, Nat.zero_add, List.map_cons, List.map_nil, List.cons_append, List.nil_append, List.getElem?_cons_zero, List.getElem?_cons_succ, List.set_cons_zero, List.set_cons_succ, dWipe, dYes]
    exact ⟨p, d, rfl, hx d hd, hy _ rfl⟩
  · obtain ⟨e1, e2⟩ := all_true xs
    exact ⟨_, e1, by rw [e2]; exact Dr.here q⟩
def sp_do_rise : DSp := fun ds M Q => ∃ xs : List D, ds = [.tup xs] ∧ Rise xs ∧ xs.length ≤ sizeLine ∧ Q (.bl true) M
theorem ok_do_rise {f fd} (F : Fun K "do_rise" "do_rise" st_do_rise f fd) : DFn P w K mg base 1 f fd ps_do_rise sp_do_rise := by
  refine dfn_ok F sc_do_rise (fun ds M Q ⟨d, e, _⟩ => by rw [e]; rfl) fun cdv A outer s H E hr => ⟨_, (dss_one (ds_ret (de_B (c_all rfl) rfl T.b_all Bt.all (da_cons (de_lc (own := [("one", 1), ("other", 2)]) rfl sc_do_rise.nd (di_zip rfl T.b_zip (da_cons (dv 0) (da_cons (de_slice (dv 0) (po_pt de_int) po_no) da_nil))) (blkOk_by (N := nm_do_rise) (sc := defScope st_do_rise) (by decide +kernel)) (fun _ _ _ _ _ => (pg_tup rfl (pgs_cons (pg_name (i := 1) sc_do_rise.nd rfl (by first | exact Or.inl rfl | exact Or.inr rfl)) (pgs_cons (pg_name (i := 2) sc_do_rise.nd rfl (by first | exact Or.inl rfl | exact Or.inr rfl)) pgs_nil)))) (tgo_tup (n := 2) (tgo_cons (tgo_name 1) (tgo_cons (tgo_name 2) tgo_nil))) (fun _ _ _ _ _ => dts_nil) (fun _ _ _ _ _ => (de_cmp (o_ltT hr.units0) (dv 1) (dv 2)))) da_nil)))), ?_⟩
  rintro ds M Q ⟨xs, rfl, ⟨ls, rfl, hl⟩, hz, q⟩
  rw [List.length_map] at hz
  simp [DL.dstart, DL.dVar, DL.dC, DL.dNil, DL.dCons, DL.dTup, DL.dLst, DL.dOp, DL.dB, DL.rIsi, DL.rLen, DL.rMin, DL.rMax, DL.rInt, DL.rTuple, DL.rList, DL.rAll, DL.rAny, DL.rSum, DL.dTest, DL.dChain, DL.dAnd, DL.dOr, DL.dNot, DL.dAndV, DL.dOrV, DL.dNotV, DL.dIf, DL.dNext, DL.dSeq, DL.dDrop, DL.dRet, DL.dRetN, DL.dIfS, DL.dAsg, DL.dName, DL.dPar, DL.dPar3, DL.dAug, DL.dgNil, DL.dgCons, DL.dgTup, DL.dSub, DL.dCall, DL.dNeg, DL.dSlice, DL.dPart, DL.dNo, DL.rI2, DL.rII, DL.rAdd, DL.rIsN, DL.rIx, DL.rSet, DL.isi, DL.rEq_int, DL.rEq_str, DL.at0, DL.at1, DL.at2, DL.at3, DL.Tn.nm, DL.dChain, DL.rLtI, DL.rLeI, DL.rGtI, DL.rGeI, DL.rSub, DL.rMul, DL.rMod, DL.rDiv, DL.rPow, List.length_cons, List.length_nil, List.replicate_succ, List.replicate_zero, Nat.reduceAdd, Nat.reduceSub, Nat.zero_add, List.map_cons, List.map_nil, List.cons_append, List.nil_append, List.getElem?_cons_zero, List.getElem?_cons_succ, List.set_cons_zero, List.set_cons_succ]
  refine lc_fm (items := zipD (ls.map intsD) ((ls.map intsD).drop 1)) (fun _ => some (.bl true)) (fun Q' h => ?_) (by rw [zipD_len]; simp; omega) (fun d hd M2 Ky Kn ex hy hn => ?_) ?_
  · have e := cut_from (ls.map intsD) 1
    simp [DL.dstart, DL.dVar, DL.dC, DL.dNil, DL.dCons, DL.dTup, DL.dLst, DL.dOp, DL.dB, DL.rIsi, DL.rLen, DL.rMin, DL.rMax, DL.rInt, DL.rTuple, DL.rList, DL.rAll, DL.rAny, DL.rSum, DL.dTest, DL.dChain, DL.dAnd, DL.dOr, DL.dNot, DL.dAndV, DL.dOrV, DL.dNotV, DL.dIf, DL.dNext, DL.dSeq, DL.dDrop, DL.dRet, DL.dRetN, DL.dIfS, DL.dAsg, DL.dName, DL.dPar, DL.dPar3, DL.dAug, DL.dgNil, DL.dgCons, DL.dgTup, DL.dSub, DL.dCall, DL.dNeg, DL.dSlice, DL.dPart, DL.dNo, DL.rI2, DL.rII, DL.rAdd, DL.rIsN, DL.rIx, DL.rSet, DL.isi, DL.rEq_int, DL.rEq_str, DL.at0, DL.at1, DL.at2, DL.at3, DL.Tn.nm, DL.dChain, DL.rLtI, DL.rLeI, DL.rGtI, DL.rGeI, DL.rSub, DL.rMul, DL.rMod, DL.rDiv, DL.rPow, List.length_cons, List.length_nil, List.replicate_succ, List.replicate_zero, Nat.reduceAdd, Nat.reduceSub, Nat.zero_add, List.map_cons, List.map_nil, List.cons_append, List.nil_append, List.getElem?_cons_zero, List.getElem?_cons_succ, List.set_cons_zero, List.set_cons_succ, iZipD]
    rw [show dSlice.cutD (ls.map intsD) (some 1) none = (ls.map intsD).drop 1 from e]
    exact h _ fun _ _ => trivial
  · obtain ⟨i, hi⟩ := List.mem_iff_getElem?.mp hd
    obtain ⟨x, y, hx, hy', rfl⟩ := zipD_get _ _ _ _ hi
    rw [List.getElem?_map] at hx
    rw [List.getElem?_drop, List.getElem?_map] at hy'
    obtain ⟨a, ha, rfl⟩ := Option.map_eq_some_iff.mp hx
    obtain ⟨b, hb, rfl⟩ := Option.map_eq_some_iff.mp hy'
    simp [DL.dstart, DL.dVar, DL.dC, DL.dNil, DL.dCons, DL.dTup, DL.dLst, DL.dOp, DL.dB, DL.rIsi, DL.rLen, DL.rMin, DL.rMax, DL.rInt, DL.rTuple, DL.rList, DL.rAll, DL.rAny, DL.rSum, DL.dTest, DL.dChain, DL.dAnd, DL.dOr, DL.dNot, DL.dAndV, DL.dOrV, DL.dNotV, DL.dIf, DL.dNext, DL.dSeq, DL.dDrop, DL.dRet, DL.dRetN, DL.dIfS, DL.dAsg, DL.dName, DL.dPar, DL.dPar3, DL.dAug, DL.dgNil, DL.dgCons, DL.dgTup, DL.dSub, DL.dCall, DL.dNeg, DL.dSlice, DL.dPart, DL.dNo, DL.rI2, DL.rII, DL.rAdd, DL.rIsN, DL.rIx, DL.rSet, DL.isi, DL.rEq_int, DL.rEq_str, DL.at0, DL.at1, DL.at2, DL.at3, DL.Tn.nm, DL.dChain, DL.rLtI, DL.rLeI, DL.rGtI, DL.rGeI, DL.rSub, DL.rMul, DL.rMod, DL.rDiv, DL.rPow, List.length_cons, List.length_nil, List.replicate_succ, List.replicate_zero, Nat.reduceAdd, Nat.reduceSub, Nat.zero_add, List.map_cons, List.map_nil, List.cons_append, List.nil_append, List.getElem?_cons_zero, List.getElem?_cons_succ, List.set_cons_zero, List.set_cons_succ, dWipe, dYes, DL.rLtT, intsD]
    exact ⟨a, rfl, b, rfl, by rw [hl i a b ha (by rw [Nat.add_comm]; exact hb)]; exact hy _ rfl⟩
  · obtain ⟨e1, e2⟩ := all_true (zipD (ls.map intsD) ((ls.map intsD).drop 1))
    exact ⟨_, e1, by rw [e2]; exact Dr.here q⟩
def sp_racks_at : DSp := fun ds M Q => ∃ (p : Plan) (place : Int), ds = [p.d, .int place] ∧ p.racks.length ≤ 100 ∧ ∀ xs : List D, xs.length = racksAt p place → Q (.tup xs) M
theorem ok_racks_at {f fd} (F : Fun K "racks_at" "racks_at" st_racks_at f fd) : DFn P w K mg base 1 f fd ps_racks_at sp_racks_at := by
  refine dfn_ok F sc_racks_at (fun ds M Q ⟨p, d, e, _⟩ => by rw [e]; rfl) fun cdv A outer s H E hr => ⟨_, (dss_one (ds_ret (de_T c_tuple rfl T.b_tuple Bt.tuple (da_cons (de_lc (own := [("number", 2), ("rack", 3)]) rfl sc_racks_at.nd (di_enum rfl T.b_enumerate (da_cons (de_ix i_ix (dv 0) de_int) da_nil)) (blkOk_by (N := nm_racks_at) (sc := defScope st_racks_at) (by decide +kernel)) (fun _ _ _ _ _ => (pg_tup rfl (pgs_cons (pg_name (i := 2) sc_racks_at.nd rfl (by first | exact Or.inl rfl | exact Or.inr rfl)) (pgs_cons (pg_name (i := 3) sc_racks_at.nd rfl (by first | exact Or.inl rfl | exact Or.inr rfl)) pgs_nil)))) (tgo_tup (n := 2) (tgo_cons (tgo_name 2) (tgo_cons (tgo_name 3) tgo_nil))) (fun _ _ _ _ _ => (dts_one (db_cmp (o_eq hr.units) (de_ix i_ix (dv 3) de_int) (dv 1)))) (fun _ _ _ _ _ => (dv 2))) da_nil)))), ?_⟩
  rintro ds M Q ⟨p, place, rfl, hz, q⟩
  simp [DL.dstart, DL.dVar, DL.dC, DL.dNil, DL.dCons, DL.dTup, DL.dLst, DL.dOp, DL.dB, DL.rIsi, DL.rLen, DL.rMin, DL.rMax, DL.rInt, DL.rTuple, DL.rList, DL.rAll, DL.rAny, DL.rSum, DL.dTest, DL.dChain, DL.dAnd, DL.dOr, DL.dNot, DL.dAndV, DL.dOrV, DL.dNotV, DL.dIf, DL.dNext, DL.dSeq, DL.dDrop, DL.dRet, DL.dRetN, DL.dIfS, DL.dAsg, DL.dName, DL.dPar, DL.dPar3, DL.dAug, DL.dgNil, DL.dgCons, DL.dgTup, DL.dSub, DL.dCall, DL.dNeg, DL.dSlice, DL.dPart, DL.dNo, DL.rI2, DL.rII, DL.rAdd, DL.rIsN, DL.rIx, DL.rSet, DL.isi, DL.rEq_int, DL.rEq_str, DL.at0, DL.at1, DL.at2, DL.at3, DL.Tn.nm, DL.dChain, DL.rLtI, DL.rLeI, DL.rGtI, DL.rGeI, DL.rSub, DL.rMul, DL.rMod, DL.rDiv, DL.rPow, List.length_cons, List.length_nil, List.replicate_succ, List.replicate_zero, Nat.reduceAdd, Nat.reduceSub, Nat.zero_add, List.map_cons, List.map_nil, List.cons_append, List.nil_append, List.getElem?_cons_zero, List.getElem?_cons_succ, List.set_cons_zero, List.set_cons_succ]
  refine lc_fm (items := enumD 0 (p.racks.map rackD)) (fun d => match d with | .tup [i, .tup (.int a :: _)] => if a = place then some i else none | _ => none) (fun Q' h => ?_) (by rw [enumD_len]; simp [sizeLine_eq]; omega) (fun d hd M2 Ky Kn ex hy hn => ?_) ?_
  · simp [DL.dstart, DL.dVar, DL.dC, DL.dNil, DL.dCons, DL.dTup, DL.dLst, DL.dOp, DL.dB, DL.rIsi, DL.rLen, DL.rMin, DL.rMax, DL.rInt, DL.rTuple, DL.rList, DL.rAll, DL.rAny, DL.rSum, DL.dTest, DL.dChain, DL.dAnd, DL.dOr, DL.dNot, DL.dAndV, DL.dOrV, DL.dNotV, DL.dIf, DL.dNext, DL.dSeq, DL.dDrop, DL.dRet, DL.dRetN, DL.dIfS, DL.dAsg, DL.dName, DL.dPar, DL.dPar3, DL.dAug, DL.dgNil, DL.dgCons, DL.dgTup, DL.dSub, DL.dCall, DL.dNeg, DL.dSlice, DL.dPart, DL.dNo, DL.rI2, DL.rII, DL.rAdd, DL.rIsN, DL.rIx, DL.rSet, DL.isi, DL.rEq_int, DL.rEq_str, DL.at0, DL.at1, DL.at2, DL.at3, DL.Tn.nm, DL.dChain, DL.rLtI, DL.rLeI, DL.rGtI, DL.rGeI, DL.rSub, DL.rMul, DL.rMod, DL.rDiv, DL.rPow, List.length_cons, List.length_nil, List.replicate_succ, List.replicate_zero, Nat.reduceAdd, Nat.reduceSub, Nat.zero_add, List.map_cons, List.map_nil, List.cons_append, List.nil_append, List.getElem?_cons_zero, List.getElem?_cons_succ, List.set_cons_zero, List.set_cons_succ, iEnumD, Plan.d]
    exact h _ fun _ _ => trivial
  · obtain ⟨i, hi⟩ := List.mem_iff_getElem?.mp hd
    rw [enumD_get, List.getElem?_map] at hi
    obtain ⟨x, hx, rfl⟩ := Option.map_eq_some_iff.mp hi
    obtain ⟨r, hr, rfl⟩ := Option.map_eq_some_iff.mp hx
    simp [DL.dstart, DL.dVar, DL.dC, DL.dNil, DL.dCons, DL.dTup, DL.dLst, DL.dOp, DL.dB, DL.rIsi, DL.rLen, DL.rMin, DL.rMax, DL.rInt, DL.rTuple, DL.rList, DL.rAll, DL.rAny, DL.rSum, DL.dTest, DL.dChain, DL.dAnd, DL.dOr, DL.dNot, DL.dAndV, DL.dOrV, DL.dNotV, DL.dIf, DL.dNext, DL.dSeq, DL.dDrop, DL.dRet, DL.dRetN, DL.dIfS, DL.dAsg, DL.dName, DL.dPar, DL.dPar3, DL.dAug, DL.dgNil, DL.dgCons, DL.dgTup, DL.dSub, DL.dCall, DL.dNeg, DL.dSlice, DL.dPart, DL.dNo, DL.rI2, DL.rII, DL.rAdd, DL.rIsN, DL.rIx, DL.rSet, DL.isi, DL.rEq_int, DL.rEq_str, DL.at0, DL.at1, DL.at2, DL.at3, DL.Tn.nm, DL.dChain, DL.rLtI, DL.rLeI, DL.rGtI, DL.rGeI, DL.rSub, DL.rMul, DL.rMod, DL.rDiv, DL.rPow, List.length_cons, List.length_nil, List.replicate_succ, List.replicate_zero, Nat.reduceAdd, Nat.reduceSub, Nat.zero_add, List.map_cons, List.map_nil, List.cons_append, List.nil_append, List.getElem?_cons_zero, List.getElem?_cons_succ, List.set_cons_zero, List.set_cons_succ, dWipe, rackD] at hy hn ⊢
    exact ⟨fun e => hy e, fun e => hn e⟩
  · refine Dr.here (q _ ?_)
    have key : ∀ (rs : List Rack) (k : Nat), ((enumD k (rs.map rackD)).filterMap fun d => match d with | .tup [i, .tup (.int a :: _)] => if a = place then some i else none | _ => none).length = (rs.filter fun r => r.1 = place).length := by
      intro rs
      induction rs with
      | nil => intro k; rfl
      | cons r rs ih =>
        intro k
        rw [List.map_cons]
        show (List.filterMap _ (.tup [.int (k : Int), rackD r] :: enumD (k + 1) (rs.map rackD))).length = _
        by_cases e : r.1 = place
        · rw [List.filterMap_cons_some (b := .int (k : Int)) (by simp [rackD, e]), List.length_cons, ih]; simp [e]
        · rw [List.filterMap_cons_none (by simp [rackD, e]), ih]; simp [e]
    exact key p.racks 0
end
section
variable {P : Program} {w : World} {K : PySem.W.Frag} {mg : Str → Option Value} {base : Heap} (T : Txt K mg)
include T
variable (D_is_under : Cal P w K mg base 2 "is_under" ps_is_under sp_is_under) (D_racks_at : Cal P w K mg base 1 "racks_at" ps_racks_at sp_racks_at) (D_is_told_or_torn : Cal P w K mg base 3 "is_told_or_torn" ps_is_told_or_torn sp_is_told)
  (D_is_bettered : Cal P w K mg base 4 "is_bettered" ps_is_bettered sp_is_bettered) (D_are_tickets : Cal P w K mg base 4 "are_tickets" ps_are_tickets sp_are_tickets) (D_is_coin : Cal P w K mg base 2 "is_coin" ps_is_coin sp_is_coin) (D_do_rise : Cal P w K mg base 1 "do_rise" ps_do_rise sp_do_rise)
include D_is_under D_racks_at D_is_told_or_torn D_is_bettered D_are_tickets D_is_coin D_do_rise
def sp_page (x : String) : DSp := fun ds M Q => ∃ (p : Plan) (d : D), ds = [p.d, d] ∧ PageOk p d ∧ (∃ r, d = .tup (.str x :: r)) ∧ Q (.bl true) M
theorem ok_is_office {f fd} (F : Fun K "is_office" "is_office" st_is_office f fd) : DFn P w K mg base 5 f fd ps_is_office (sp_page "office") := by
  refine dfn_ok F sc_is_office (fun ds M Q ⟨p, d, e, _⟩ => by rw [e]; rfl) fun cdv A outer s H E hr => ⟨_, (dss_cons (ds_if (db_w (dw_or (db_cmp (o_ne hr.units) (de_B c_len rfl T.b_len Bt.len (da_cons (dv 1) da_nil)) de_int) (dw_or (db_not (db_val (de_cal D_is_under (hr.mono (by decide)) rfl (da_cons (de_ix i_ix (dv 1) de_int) (da_cons (de_ix i_ix (de_ix i_ix (dv 0) de_int) de_int) da_nil))))) (dw_or1 (db_not (db_val (de_cal D_is_under (hr.mono (by decide)) rfl (da_cons (de_ix i_ix (dv 1) de_int) (da_cons (de_ix i_ix (dv 0) de_int) da_nil))))))))) (dss_one (ds_ret de_bl)) dss_nil)
  (dss_cons (ds_asg (dv 1) (dg_tup (n := 8) rfl (dgs_cons (dg_name (i := 2) sc_is_office.nd rfl (by first | exact Or.inl rfl | exact Or.inr rfl)) (dgs_cons (dg_name (i := 3) sc_is_office.nd rfl (by first | exact Or.inl rfl | exact Or.inr rfl)) (dgs_cons (dg_name (i := 4) sc_is_office.nd rfl (by first | exact Or.inl rfl | exact Or.inr rfl)) (dgs_cons (dg_name (i := 5) sc_is_office.nd rfl (by first | exact Or.inl rfl | exact Or.inr rfl)) (dgs_cons (dg_name (i := 6) sc_is_office.nd rfl (by first | exact Or.inl rfl | exact Or.inr rfl)) (dgs_cons (dg_name (i := 7) sc_is_office.nd rfl (by first | exact Or.inl rfl | exact Or.inr rfl)) (dgs_cons (dg_name (i := 8) sc_is_office.nd rfl (by first | exact Or.inl rfl | exact Or.inr rfl)) (dgs_cons (dg_name (i := 9) sc_is_office.nd rfl (by first | exact Or.inl rfl | exact Or.inr rfl)) dgs_nil))))))))))
  (dss_cons (ds_set (i := 10) sc_is_office.nd rfl (by first | exact Or.inl rfl | exact Or.inr rfl) (de_B c_len rfl T.b_len Bt.len (da_cons (de_cal D_racks_at (hr.mono (by decide)) rfl (da_cons (dv 0) (da_cons (dv 3) da_nil))) da_nil)))
  (dss_cons (ds_if (db_w (dw_or (db_cmp (o_eq hr.units) (dv 10) de_int) (dw_or (db_not (db_val (de_B (c_isi .tuple) rfl T.b_isinstance Bt.isinstance (da_cons (dv 5) (da_cons (de_ty rfl T.b_tuple Bt.tuple) da_nil))))) (dw_or1 (db_cmp (o_ne hr.units) (de_B c_len rfl T.b_len Bt.len (da_cons (dv 5) da_nil)) (dv 10)))))) (dss_one (ds_ret de_bl)) dss_nil)
  (dss_cons (ds_if (db_w (dw_or (db_not (db_val (de_B (c_all rfl) rfl T.b_all Bt.all (da_cons (de_lc (own := [("one", 11)]) rfl sc_is_office.nd (di_seq (dv 5)) (blkOk_by (N := nm_is_office) (sc := defScope st_is_office) (by decide +kernel)) (fun _ _ _ _ _ => (pg_name (i := 11) sc_is_office.nd rfl (by first | exact Or.inl rfl | exact Or.inr rfl))) (tgo_name 11) (fun _ _ _ _ _ => dts_nil) (fun _ _ _ _ _ => (de_cal D_is_told_or_torn (hr.mono (by decide)) rfl (da_cons (dv 11) da_nil)))) da_nil)))) (dw_or1 (db_not (db_val (de_cal D_is_told_or_torn (hr.mono (by decide)) rfl (da_cons (dv 6) da_nil))))))) (dss_one (ds_ret de_bl)) dss_nil)
  (dss_cons (ds_if (db_w (dw_or (db_not (db_val (de_B (c_isi .tuple) rfl T.b_isinstance Bt.isinstance (da_cons (dv 7) (da_cons (de_ty rfl T.b_tuple Bt.tuple) da_nil))))) (dw_or1 (db_not (db_val (de_B (c_all rfl) rfl T.b_all Bt.all (da_cons (de_lc (own := [("one", 11)]) rfl sc_is_office.nd (di_seq (dv 7)) (blkOk_by (N := nm_is_office) (sc := defScope st_is_office) (by decide +kernel)) (fun _ _ _ _ _ => (pg_name (i := 11) sc_is_office.nd rfl (by first | exact Or.inl rfl | exact Or.inr rfl))) (tgo_name 11) (fun _ _ _ _ _ => dts_nil) (fun _ _ _ _ _ => (de_cal D_is_bettered (hr.mono (by decide)) rfl (da_cons (dv 0) (da_cons (dv 11) da_nil))))) da_nil))))))) (dss_one (ds_ret de_bl)) dss_nil)
  (dss_one (ds_ret (de_and (de_cal D_are_tickets (hr.mono (by decide)) rfl (da_cons (dv 0) (da_cons (dv 8) da_nil))) (de_one (de_cal D_is_coin (hr.mono (by decide)) rfl (da_cons (dv 9) da_nil)))))))))))), ?_⟩
  rintro ds M Q ⟨p, d, rfl, ok, ⟨r, e⟩, q⟩
  cases ok with
  | gate => injection e with e; injection e with e1 e2; injection e1 with e1; exact absurd e1 (by decide)
  | @office place day closings betters backs pressed coin h1 h2 h3 h4 h5 h6 h7 h8 h9 h10 h11 =>
    simp [DL.dstart, DL.dVar, DL.dC, DL.dNil, DL.dCons, DL.dTup, DL.dLst, DL.dOp, DL.dB, DL.rIsi, DL.rLen, DL.rMin, DL.rMax, DL.rInt, DL.rTuple, DL.rList, DL.rAll, DL.rAny, DL.rSum, DL.dTest, DL.dChain, DL.dAnd, DL.dOr, DL.dNot, DL.dAndV, DL.dOrV, DL.dNotV, DL.dIf, DL.dNext, DL.dSeq, DL.dDrop, DL.dRet, DL.dRetN, DL.dIfS, DL.dAsg, DL.dName, DL.dPar, DL.dPar3, DL.dAug, DL.dgNil, DL.dgCons, DL.dgTup, DL.dSub, DL.dCall, DL.dNeg, DL.dSlice, DL.dPart, DL.dNo, DL.rI2, DL.rII, DL.rAdd, DL.rIsN, DL.rIx, DL.rSet, DL.isi, DL.rEq_int, DL.rEq_str, DL.at0, DL.at1, DL.at2, DL.at3, DL.Tn.nm, DL.dChain, DL.rLtI, DL.rLeI, DL.rGtI, DL.rGeI, DL.rSub, DL.rMul, DL.rMod, DL.rDiv, DL.rPow, List.length_cons, List.length_nil, List.replicate_succ, List.replicate_zero, Nat.reduceAdd, Nat.reduceSub, Nat.zero_add, List.map_cons, List.map_nil, List.cons_append, List.nil_append, List.getElem?_cons_zero, List.getElem?_cons_succ, List.set_cons_zero, List.set_cons_succ, Plan.d, sp_is_under, isUnder, D.dat, h1, h2]
    have nf : ∀ {xs : List D}, false ∉ xs.map (fun _ => true) := by simp
    refine ⟨p, place, rfl, h11, fun xs hxs => ?_⟩
    have hx : xs ≠ [] := fun z => by
      rw [z] at hxs
      rw [← hxs] at h4
      exact h5 (List.length_eq_zero_iff.mp h4)
    refine ⟨fun _ => ⟨fun z => absurd (by rw [h4, hxs]) z, fun _ => ?_⟩, fun z => absurd z hx⟩
    refine lc_fm (items := closings) (fun _ => some (.bl true)) (fun Q' h => by simp [DL.dstart, DL.dVar, DL.dC, DL.dNil, DL.dCons, DL.dTup, DL.dLst, DL.dOp, DL.dB, DL.rIsi, DL.rLen, DL.rMin, DL.rMax, DL.rInt, DL.rTuple, DL.rList, DL.rAll, DL.rAny, DL.rSum, DL.dTest, DL.dChain, DL.dAnd, DL.dOr, DL.dNot, DL.dAndV, DL.dOrV, DL.dNotV, DL.dIf, DL.dNext, DL.dSeq, DL.dDrop, DL.dRet, DL.dRetN, DL.dIfS, DL.dAsg, DL.dName, DL.dPar, DL.dPar3, DL.dAug, DL.dgNil, DL.dgCons, DL.dgTup, DL.dSub, DL.dCall, DL.dNeg, DL.dSlice, DL.dPart, DL.dNo, DL.rI2, DL.rII, DL.rAdd, DL.rIsN, DL.rIx, DL.rSet, DL.isi, DL.rEq_int, DL.rEq_str, DL.at0, DL.at1, DL.at2, DL.at3, DL.Tn.nm, DL.dChain, DL.rLtI, DL.rLeI, DL.rGtI, DL.rGeI, DL.rSub, DL.rMul, DL.rMod, DL.rDiv, DL.rPow, List.length_cons, List.length_nil, List.replicate_succ, List.replicate_zero, Nat.reduceAdd, Nat.reduceSub, Nat.zero_add, List.map_cons, List.map_nil, List.cons_append, List.nil_append, List.getElem?_cons_zero, List.getElem?_cons_succ, List.set_cons_zero, List.set_cons_succ, iSeq]; exact h _ fun _ _ => trivial) (small h10.1) (fun d hd M2 Ky Kn ex hy hn => ?_) ?_
    · simp [DL.dstart, DL.dVar, DL.dC, DL.dNil, DL.dCons, DL.dTup, DL.dLst, DL.dOp, DL.dB, DL.rIsi, DL.rLen, DL.rMin, DL.rMax, DL.rInt, DL.rTuple, DL.rList, DL.rAll, DL.rAny, DL.rSum, DL.dTest, DL.dChain, DL.dAnd, DL.dOr, DL.dNot, DL.dAndV, DL.dOrV, DL.dNotV, DL.dIf, DL.dNext, DL.dSeq, DL.dDrop, DL.dRet, DL.dRetN, DL.dIfS, DL.dAsg, DL.dName, DL.dPar, DL.dPar3, DL.dAug, DL.dgNil, DL.dgCons, DL.dgTup, DL.dSub, DL.dCall, DL.dNeg, DL.dSlice, DL.dPart, DL.dNo, DL.rI2, DL.rII, DL.rAdd, DL.rIsN, DL.rIx, DL.rSet, DL.isi, DL.rEq_int, DL.rEq_str, DL.at0, DL.at1, DL.at2, DL.at3, DL.Tn.nm, DL.dChain, DL.rLtI, DL.rLeI, DL.rGtI, DL.rGeI, DL.rSub, DL.rMul, DL.rMod, DL.rDiv, DL.rPow, List.length_cons, List.length_nil, List.replicate_succ, List.replicate_zero, Nat.reduceAdd, Nat.reduceSub, Nat.zero_add, List.map_cons, List.map_nil, List.cons_append, List.nil_append, List.getElem?_cons_zero, List.getElem?_cons_succ, List.set_cons_zero, List.set_cons_succ, dWipe, dYes, sp_is_told, h3 d hd]; exact hy _ rfl
    refine ⟨_, (all_true closings).1, fun _ => ?_, fun z => absurd z nf⟩
    simp [sp_is_told, h6]
    refine lc_fm (items := betters) (fun _ => some (.bl true)) (fun Q' h => by simp [DL.dstart, DL.dVar, DL.dC, DL.dNil, DL.dCons, DL.dTup, DL.dLst, DL.dOp, DL.dB, DL.rIsi, DL.rLen, DL.rMin, DL.rMax, DL.rInt, DL.rTuple, DL.rList, DL.rAll, DL.rAny, DL.rSum, DL.dTest, DL.dChain, DL.dAnd, DL.dOr, DL.dNot, DL.dAndV, DL.dOrV, DL.dNotV, DL.dIf, DL.dNext, DL.dSeq, DL.dDrop, DL.dRet, DL.dRetN, DL.dIfS, DL.dAsg, DL.dName, DL.dPar, DL.dPar3, DL.dAug, DL.dgNil, DL.dgCons, DL.dgTup, DL.dSub, DL.dCall, DL.dNeg, DL.dSlice, DL.dPart, DL.dNo, DL.rI2, DL.rII, DL.rAdd, DL.rIsN, DL.rIx, DL.rSet, DL.isi, DL.rEq_int, DL.rEq_str, DL.at0, DL.at1, DL.at2, DL.at3, DL.Tn.nm, DL.dChain, DL.rLtI, DL.rLeI, DL.rGtI, DL.rGeI, DL.rSub, DL.rMul, DL.rMod, DL.rDiv, DL.rPow, List.length_cons, List.length_nil, List.replicate_succ, List.replicate_zero, Nat.reduceAdd, Nat.reduceSub, Nat.zero_add, List.map_cons, List.map_nil, List.cons_append, List.nil_append, List.getElem?_cons_zero, List.getElem?_cons_succ, List.set_cons_zero, List.set_cons_succ, iSeq]; exact h _ fun _ _ => trivial) (small h10.2.1) (fun d hd M2 Ky Kn ex hy hn => ?_) ?_
    · simp [DL.dstart, DL.dVar, DL.dC, DL.dNil, DL.dCons, DL.dTup, DL.dLst, DL.dOp, DL.dB, DL.rIsi, DL.rLen, DL.rMin, DL.rMax, DL.rInt, DL.rTuple, DL.rList, DL.rAll, DL.rAny, DL.rSum, DL.dTest, DL.dChain, DL.dAnd, DL.dOr, DL.dNot, DL.dAndV, DL.dOrV, DL.dNotV, DL.dIf, DL.dNext, DL.dSeq, DL.dDrop, DL.dRet, DL.dRetN, DL.dIfS, DL.dAsg, DL.dName, DL.dPar, DL.dPar3, DL.dAug, DL.dgNil, DL.dgCons, DL.dgTup, DL.dSub, DL.dCall, DL.dNeg, DL.dSlice, DL.dPart, DL.dNo, DL.rI2, DL.rII, DL.rAdd, DL.rIsN, DL.rIx, DL.rSet, DL.isi, DL.rEq_int, DL.rEq_str, DL.at0, DL.at1, DL.at2, DL.at3, DL.Tn.nm, DL.dChain, DL.rLtI, DL.rLeI, DL.rGtI, DL.rGeI, DL.rSub, DL.rMul, DL.rMod, DL.rDiv, DL.rPow, List.length_cons, List.length_nil, List.replicate_succ, List.replicate_zero, Nat.reduceAdd, Nat.reduceSub, Nat.zero_add, List.map_cons, List.map_nil, List.cons_append, List.nil_append, List.getElem?_cons_zero, List.getElem?_cons_succ, List.set_cons_zero, List.set_cons_succ, dWipe, dYes]; exact ⟨p, d, rfl, h7 d hd, hy _ rfl⟩
    refine ⟨_, (all_true betters).1, fun z => absurd z nf, fun _ => ?_⟩
    refine ⟨p, backs, rfl, h8, small h10.2.2, ?_⟩
    simp [sp_is_coin, h9]
    exact Dr.here q
theorem ok_is_gate {f fd} (F : Fun K "is_gate" "is_gate" st_is_gate f fd) : DFn P w K mg base 5 f fd ps_is_gate (sp_page "gate") := by
  refine dfn_ok F sc_is_gate (fun ds M Q ⟨p, d, e, _⟩ => by rw [e]; rfl) fun cdv A outer s H E hr => ⟨_, (dss_cons (ds_if (db_w (dw_or (db_cmp (o_ne hr.units) (de_B c_len rfl T.b_len Bt.len (da_cons (dv 1) da_nil)) de_int) (dw_or (db_not (db_val (de_cal D_is_under (hr.mono (by decide)) rfl (da_cons (de_ix i_ix (dv 1) de_int) (da_cons (de_ix i_ix (de_ix i_ix (dv 0) de_int) de_int) da_nil))))) (dw_or1 (db_not (db_val (de_cal D_is_under (hr.mono (by decide)) rfl (da_cons (de_ix i_ix (dv 1) de_int) (da_cons (de_ix i_ix (dv 0) de_int) da_nil))))))))) (dss_one (ds_ret de_bl)) dss_nil)
  (dss_one (ds_ret (de_B (c_all rfl) rfl T.b_all Bt.all (da_cons (de_lc (own := [("some", 2)]) rfl sc_is_gate.nd (di_seq (de_slice (dv 1) (po_pt de_int) po_no)) (blkOk_by (N := nm_is_gate) (sc := defScope st_is_gate) (by decide +kernel)) (fun _ _ _ _ _ => (pg_name (i := 2) sc_is_gate.nd rfl (by first | exact Or.inl rfl | exact Or.inr rfl))) (tgo_name 2) (fun _ _ _ _ _ => dts_nil) (fun _ _ _ _ _ => (de_and (de_cal D_are_tickets (hr.mono (by decide)) rfl (da_cons (dv 0) (da_cons (dv 2) da_nil))) (de_one (de_cal D_do_rise (hr.mono (by decide)) rfl (da_cons (dv 2) da_nil)))))) da_nil))))), ?_⟩
  rintro ds M Q ⟨p, d, rfl, ok, ⟨r, e⟩, q⟩
  cases ok with
  | office => injection e with e; injection e with e1 e2; injection e1 with e1; exact absurd e1 (by decide)
  | @gate place day cuts ends h1 h2 h3 h4 h5 h6 h7 =>
    simp [DL.dstart, DL.dVar, DL.dC, DL.dNil, DL.dCons, DL.dTup, DL.dLst, DL.dOp, DL.dB, DL.rIsi, DL.rLen, DL.rMin, DL.rMax, DL.rInt, DL.rTuple, DL.rList, DL.rAll, DL.rAny, DL.rSum, DL.dTest, DL.dChain, DL.dAnd, DL.dOr, DL.dNot, DL.dAndV, DL.dOrV, DL.dNotV, DL.dIf, DL.dNext, DL.dSeq, DL.dDrop, DL.dRet, DL.dRetN, DL.dIfS, DL.dAsg, DL.dName, DL.dPar, DL.dPar3, DL.dAug, DL.dgNil, DL.dgCons, DL.dgTup, DL.dSub, DL.dCall, DL.dNeg, DL.dSlice, DL.dPart, DL.dNo, DL.rI2, DL.rII, DL.rAdd, DL.rIsN, DL.rIx, DL.rSet, DL.isi, DL.rEq_int, DL.rEq_str, DL.at0, DL.at1, DL.at2, DL.at3, DL.Tn.nm, DL.dChain, DL.rLtI, DL.rLeI, DL.rGtI, DL.rGeI, DL.rSub, DL.rMul, DL.rMod, DL.rDiv, DL.rPow, List.length_cons, List.length_nil, List.replicate_succ, List.replicate_zero, Nat.reduceAdd, Nat.reduceSub, Nat.zero_add, List.map_cons, List.map_nil, List.cons_append, List.nil_append, List.getElem?_cons_zero, List.getElem?_cons_succ, List.set_cons_zero, List.set_cons_succ, Plan.d, sp_is_under, isUnder, D.dat, h1, h2]
    refine lc_fm (items := [.tup cuts, .tup ends]) (fun _ => some (.bl true)) (fun Q' h => ?_) (small (by simp)) (fun d hd M2 Ky Kn ex hy hn => ?_) ?_
    · simp [DL.dstart, DL.dVar, DL.dC, DL.dNil, DL.dCons, DL.dTup, DL.dLst, DL.dOp, DL.dB, DL.rIsi, DL.rLen, DL.rMin, DL.rMax, DL.rInt, DL.rTuple, DL.rList, DL.rAll, DL.rAny, DL.rSum, DL.dTest, DL.dChain, DL.dAnd, DL.dOr, DL.dNot, DL.dAndV, DL.dOrV, DL.dNotV, DL.dIf, DL.dNext, DL.dSeq, DL.dDrop, DL.dRet, DL.dRetN, DL.dIfS, DL.dAsg, DL.dName, DL.dPar, DL.dPar3, DL.dAug, DL.dgNil, DL.dgCons, DL.dgTup, DL.dSub, DL.dCall, DL.dNeg, DL.dSlice, DL.dPart, DL.dNo, DL.rI2, DL.rII, DL.rAdd, DL.rIsN, DL.rIx, DL.rSet, DL.isi, DL.rEq_int, DL.rEq_str, DL.at0, DL.at1, DL.at2, DL.at3, DL.Tn.nm, DL.dChain, DL.rLtI, DL.rLeI, DL.rGtI, DL.rGeI, DL.rSub, DL.rMul, DL.rMod, DL.rDiv, DL.rPow, List.length_cons, List.length_nil, List.replicate_succ, List.replicate_zero, Nat.reduceAdd, Nat.reduceSub, Nat.zero_add, List.map_cons, List.map_nil, List.cons_append, List.nil_append, List.getElem?_cons_zero, List.getElem?_cons_succ, List.set_cons_zero, List.set_cons_succ, iSeq, DL.dSlice.cutD, HT.sIx]; exact h _ fun _ _ => trivial
    · simp [DL.dstart, DL.dVar, DL.dC, DL.dNil, DL.dCons, DL.dTup, DL.dLst, DL.dOp, DL.dB, DL.rIsi, DL.rLen, DL.rMin, DL.rMax, DL.rInt, DL.rTuple, DL.rList, DL.rAll, DL.rAny, DL.rSum, DL.dTest, DL.dChain, DL.dAnd, DL.dOr, DL.dNot, DL.dAndV, DL.dOrV, DL.dNotV, DL.dIf, DL.dNext, DL.dSeq, DL.dDrop, DL.dRet, DL.dRetN, DL.dIfS, DL.dAsg, DL.dName, DL.dPar, DL.dPar3, DL.dAug, DL.dgNil, DL.dgCons, DL.dgTup, DL.dSub, DL.dCall, DL.dNeg, DL.dSlice, DL.dPart, DL.dNo, DL.rI2, DL.rII, DL.rAdd, DL.rIsN, DL.rIx, DL.rSet, DL.isi, DL.rEq_int, DL.rEq_str, DL.at0, DL.at1, DL.at2, DL.at3, DL.Tn.nm, DL.dChain, DL.rLtI, DL.rLeI, DL.rGtI, DL.rGeI, DL.rSub, DL.rMul, DL.rMod, DL.rDiv, DL.rPow, List.length_cons, List.length_nil, List.replicate_succ, List.replicate_zero, Nat.reduceAdd, Nat.reduceSub, Nat.zero_add, List.map_cons, List.map_nil, List.cons_append, List.nil_append, List.getElem?_cons_zero, List.getElem?_cons_succ, List.set_cons_zero, List.set_cons_succ, dWipe, dYes]
      rcases List.mem_cons.mp hd with e | hd
      · subst e; exact ⟨p, cuts, rfl, h3, small h7.1, fun _ => ⟨cuts, rfl, h4, small h7.1, hy _ rfl⟩, fun z => nomatch z⟩
      · rw [List.mem_singleton.mp hd]; exact ⟨p, ends, rfl, h5, small h7.2, fun _ => ⟨ends, rfl, h6, small h7.2, hy _ rfl⟩, fun z => nomatch z⟩
    · exact ⟨[true, true], rfl, Dr.here q⟩
end
section
variable {P : Program} {w : World} {K : PySem.W.Frag} {mg : Str → Option Value} {base : Heap} (T : Txt K mg)
include T
variable (D_is_office : Cal P w K mg base 5 "is_office" ps_is_office (sp_page "office")) (D_is_gate : Cal P w K mg base 5 "is_gate" ps_is_gate (sp_page "gate"))
include D_is_office D_is_gate
def sp_is_page : DSp := fun ds M Q => ∃ (p : Plan) (d : D), ds = [p.d, d] ∧ PageOk p d ∧ Q (.bl true) M
theorem ok_is_page {f fd} (F : Fun K "is_page" "is_page" st_is_page f fd) : DFn P w K mg base 6 f fd ps_is_page sp_is_page := by
  refine dfn_ok F sc_is_page (fun ds M Q ⟨p, d, e, _⟩ => by rw [e]; rfl) fun cdv A outer s H E hr => ⟨_, (dss_cons (ds_if (db_w (dw_or (db_not (db_val (de_B (c_isi .tuple) rfl T.b_isinstance Bt.isinstance (da_cons (dv 1) (da_cons (de_ty rfl T.b_tuple Bt.tuple) da_nil))))) (dw_or (db_cmp (o_eq hr.units) (de_B c_len rfl T.b_len Bt.len (da_cons (dv 1) da_nil)) de_int) (dw_or1 (db_not (db_val (de_B (c_isi .str) rfl T.b_isinstance Bt.isinstance (da_cons (de_ix i_ix (dv 1) de_int) (da_cons (de_ty rfl T.b_str Bt.str) da_nil))))))))) (dss_one (ds_ret de_bl)) dss_nil)
  (dss_cons (ds_if (db_cmp (o_eq hr.units) (de_ix i_ix (dv 1) de_int) (de_cstr rfl T.c_OFFICE)) (dss_one (ds_ret (de_cal D_is_office (hr.mono (by decide)) rfl (da_cons (dv 0) (da_cons (dv 1) da_nil))))) dss_nil)
  (dss_one (ds_ret (de_and (de_cmp (o_eq hr.units) (de_ix i_ix (dv 1) de_int) (de_cstr rfl T.c_GATE)) (de_one (de_cal D_is_gate (hr.mono (by decide)) rfl (da_cons (dv 0) (da_cons (dv 1) da_nil))))))))), ?_⟩
  rintro ds M Q ⟨p, d, rfl, ok, q⟩
  cases ok with
  | office h1 h2 h3 h4 h5 h6 h7 h8 h9 h10 h11 =>
    simp [DL.dstart, DL.dVar, DL.dC, DL.dNil, DL.dCons, DL.dTup, DL.dLst, DL.dOp, DL.dB, DL.rIsi, DL.rLen, DL.rMin, DL.rMax, DL.rInt, DL.rTuple, DL.rList, DL.rAll, DL.rAny, DL.rSum, DL.dTest, DL.dChain, DL.dAnd, DL.dOr, DL.dNot, DL.dAndV, DL.dOrV, DL.dNotV, DL.dIf, DL.dNext, DL.dSeq, DL.dDrop, DL.dRet, DL.dRetN, DL.dIfS, DL.dAsg, DL.dName, DL.dPar, DL.dPar3, DL.dAug, DL.dgNil, DL.dgCons, DL.dgTup, DL.dSub, DL.dCall, DL.dNeg, DL.dSlice, DL.dPart, DL.dNo, DL.rI2, DL.rII, DL.rAdd, DL.rIsN, DL.rIx, DL.rSet, DL.isi, DL.rEq_int, DL.rEq_str, DL.at0, DL.at1, DL.at2, DL.at3, DL.Tn.nm, DL.dChain, DL.rLtI, DL.rLeI, DL.rGtI, DL.rGeI, DL.rSub, DL.rMul, DL.rMod, DL.rDiv, DL.rPow, List.length_cons, List.length_nil, List.replicate_succ, List.replicate_zero, Nat.reduceAdd, Nat.reduceSub, Nat.zero_add, List.map_cons, List.map_nil, List.cons_append, List.nil_append, List.getElem?_cons_zero, List.getElem?_cons_succ, List.set_cons_zero, List.set_cons_succ]
    exact ⟨p, _, rfl, .office h1 h2 h3 h4 h5 h6 h7 h8 h9 h10 h11, ⟨_, rfl⟩, Dr.here q⟩
  | gate h1 h2 h3 h4 h5 h6 h7 =>
    simp [DL.dstart, DL.dVar, DL.dC, DL.dNil, DL.dCons, DL.dTup, DL.dLst, DL.dOp, DL.dB, DL.rIsi, DL.rLen, DL.rMin, DL.rMax, DL.rInt, DL.rTuple, DL.rList, DL.rAll, DL.rAny, DL.rSum, DL.dTest, DL.dChain, DL.dAnd, DL.dOr, DL.dNot, DL.dAndV, DL.dOrV, DL.dNotV, DL.dIf, DL.dNext, DL.dSeq, DL.dDrop, DL.dRet, DL.dRetN, DL.dIfS, DL.dAsg, DL.dName, DL.dPar, DL.dPar3, DL.dAug, DL.dgNil, DL.dgCons, DL.dgTup, DL.dSub, DL.dCall, DL.dNeg, DL.dSlice, DL.dPart, DL.dNo, DL.rI2, DL.rII, DL.rAdd, DL.rIsN, DL.rIx, DL.rSet, DL.isi, DL.rEq_int, DL.rEq_str, DL.at0, DL.at1, DL.at2, DL.at3, DL.Tn.nm, DL.dChain, DL.rLtI, DL.rLeI, DL.rGtI, DL.rGeI, DL.rSub, DL.rMul, DL.rMod, DL.rDiv, DL.rPow, List.length_cons, List.length_nil, List.replicate_succ, List.replicate_zero, Nat.reduceAdd, Nat.reduceSub, Nat.zero_add, List.map_cons, List.map_nil, List.cons_append, List.nil_append, List.getElem?_cons_zero, List.getElem?_cons_succ, List.set_cons_zero, List.set_cons_succ]
    exact ⟨fun e => absurd e (by decide), fun _ => ⟨p, _, rfl, .gate h1 h2 h3 h4 h5 h6 h7, ⟨_, rfl⟩, Dr.here q⟩⟩
/-- a page's key -/
def keyD : D → D
  | .tup (a :: b :: c :: _) => .tup [a, b, c]
  | d => d
def sp_key_of : DSp := fun ds M Q => ∃ a b c r, ds = [.tup (a :: b :: c :: r)] ∧ Q (.tup [a, b, c]) M
theorem ok_key_of {f fd} (F : Fun K "key_of" "key_of" st_key_of f fd) : DFn P w K mg base 1 f fd ps_key_of sp_key_of := by
  refine dfn_ok F sc_key_of (fun ds M Q ⟨a, b, c, r, e, _⟩ => by rw [e]; rfl) fun cdv A outer s H E hr => ⟨_, (dss_one (ds_ret (de_slice (dv 0) po_no (po_pt de_int)))), ?_⟩
  rintro ds M Q ⟨a, b, c, r, rfl, q⟩
  simp [DL.dstart, DL.dVar, DL.dC, DL.dNil, DL.dCons, DL.dTup, DL.dLst, DL.dOp, DL.dB, DL.rIsi, DL.rLen, DL.rMin, DL.rMax, DL.rInt, DL.rTuple, DL.rList, DL.rAll, DL.rAny, DL.rSum, DL.dTest, DL.dChain, DL.dAnd, DL.dOr, DL.dNot, DL.dAndV, DL.dOrV, DL.dNotV, DL.dIf, DL.dNext, DL.dSeq, DL.dDrop, DL.dRet, DL.dRetN, DL.dIfS, DL.dAsg, DL.dName, DL.dPar, DL.dPar3, DL.dAug, DL.dgNil, DL.dgCons, DL.dgTup, DL.dSub, DL.dCall, DL.dNeg, DL.dSlice, DL.dPart, DL.dNo, DL.rI2, DL.rII, DL.rAdd, DL.rIsN, DL.rIx, DL.rSet, DL.isi, DL.rEq_int, DL.rEq_str, DL.at0, DL.at1, DL.at2, DL.at3, DL.Tn.nm, DL.dChain, DL.rLtI, DL.rLeI, DL.rGtI, DL.rGeI, DL.rSub, DL.rMul, DL.rMod, DL.rDiv, DL.rPow, List.length_cons, List.length_nil, List.replicate_succ, List.replicate_zero, Nat.reduceAdd, Nat.reduceSub, Nat.zero_add, List.map_cons, List.map_nil, List.cons_append, List.nil_append, List.getElem?_cons_zero, List.getElem?_cons_succ, List.set_cons_zero, List.set_cons_succ]
  rw [show dSlice.cutD (a :: b :: c :: r) none (some 3) = [a, b, c] from cut_to (a :: b :: c :: r) 3]
  exact Dr.here q
end
end K7

namespace K7
open PySem PySem.Spec PyProof.Rows L2 DL
/-! ### data as keys -/
noncomputable instance decD : DecidableEq D := fun _ _ => Classical.propDecidable _
noncomputable def kOf (d : D) : NK := (nkOf d).getD .none
/-- a tuple that is a key -/
def Kd (d : D) : Prop := (∃ xs, d = .tup xs) ∧ nkOf d = some (kOf d) ∧ d.dep ≤ 8
theorem Kd.of {d : D} {k : NK} {xs : List D} (e : d = .tup xs) (h : nkOf d = some k) (z : d.dep ≤ 8) : Kd d := ⟨⟨xs, e⟩, by unfold kOf; rw [h]; rfl, z⟩
theorem Kd.back {d : D} (h : Kd d) : nkD (kOf d) = d := nkD_of d _ h.2.1
theorem Kd.inj {d e : D} (h : Kd d) (h' : Kd e) (q : kOf d = kOf e) : d = e := by rw [← h.back, ← h'.back, q]
theorem nks_atoms : ∀ (ds : List D), (∀ d ∈ ds, d = .non ∨ (∃ i, d = .int i) ∨ ∃ x, d = .str x) → ∃ ks, nksOf ds = some ks ∧ D.deps ds = 0
  | [], _ => ⟨[], rfl, rfl⟩
  | d :: ds, h => by
    obtain ⟨ks, e1, e2⟩ := nks_atoms ds fun x hx => h x (List.mem_cons_of_mem _ hx)
    rcases h d List.mem_cons_self with rfl | ⟨i, rfl⟩ | ⟨x, rfl⟩ <;> exact ⟨_ :: ks, by simp [nksOf, nkOf, e1]; try rfl, by simp [D.deps, D.dep, e2]⟩
theorem nks_tups : ∀ (ds : List D), (∀ d ∈ ds, ∃ l : List Int, d = intsD l) → ∃ ks, nksOf ds = some ks ∧ D.deps ds ≤ 1
  | [], _ => ⟨[], rfl, by simp [D.deps]⟩
  | d :: ds, h => by
    obtain ⟨ks, e1, e2⟩ := nks_tups ds fun x hx => h x (List.mem_cons_of_mem _ hx)
    obtain ⟨l, rfl⟩ := h d List.mem_cons_self
    obtain ⟨ls, f1, f2⟩ := nks_atoms (l.map .int) fun x hx => by
      obtain ⟨i, _, rfl⟩ := List.mem_map.mp hx
      exact .inr (.inl ⟨i, rfl⟩)
    exact ⟨.tup ls :: ks, by simp [nksOf, nkOf, intsD, e1, f1], by simp only [D.deps, D.dep, intsD, f2]; omega⟩
theorem told_atom {d : D} (h : isTold d = true) : d = .non ∨ (∃ i, d = .int i) ∨ ∃ x, d = .str x := by
  cases d <;> simp [isTold, isUnder] at h ⊢
theorem coin_atom {d : D} (h : isCoin d = true) : d = .non ∨ (∃ i, d = .int i) ∨ ∃ x, d = .str x := by
  cases d <;> simp [isCoin] at h ⊢
theorem Tk.ints {p : Plan} {d : D} (h : Tk p d) : ∃ l : List Int, d = intsD l := by obtain ⟨a, b, rfl, _⟩ := h; exact ⟨[a, b], rfl⟩
theorem Bt3.ints {p : Plan} {d : D} (h : Bt3 p d) : ∃ l : List Int, d = intsD l := by obtain ⟨a, b, c, rfl, _⟩ := h; exact ⟨[a, b, c], rfl⟩
theorem PageOk.kd {p : Plan} {d : D} (h : PageOk p d) : Kd d := by
  cases h with
  | @gate place day cuts ends h1 h2 h3 h4 h5 h6 h7 =>
    obtain ⟨k1, e1, z1⟩ := nks_tups cuts fun d hd => (h3 d hd).ints
    obtain ⟨k2, e2, z2⟩ := nks_tups ends fun d hd => (h5 d hd).ints
    refine Kd.of (k := .tup [.text "gate", .num place, .num day, .tup k1, .tup k2]) rfl (by simp [nkOf, nksOf, e1, e2]) ?_
    simp only [D.dep, D.deps]; omega
  | @office place day closings betters backs pressed coin h1 h2 h3 h4 h5 h6 h7 h8 h9 h10 h11 =>
    obtain ⟨k1, e1, z1⟩ := nks_atoms closings fun d hd => told_atom (h3 d hd).2
    obtain ⟨k2, e2, z2⟩ := nks_tups betters fun d hd => (h7 d hd).ints
    obtain ⟨k3, e3, z3⟩ := nks_tups backs fun d hd => (h8 d hd).ints
    obtain ⟨k4, e4, z4⟩ := nks_atoms [pressed, coin] fun d hd => by
      rcases List.mem_cons.mp hd with e | hd
      · rw [e]; exact told_atom h6.2
      · rw [List.mem_singleton.mp hd]; exact coin_atom h9.2
    have hp : ∃ a, nkOf pressed = some a := by rcases told_atom h6.2 with e | ⟨i, e⟩ | ⟨x, e⟩ <;> rw [e] <;> exact ⟨_, rfl⟩
    have hc : ∃ a, nkOf coin = some a := by rcases coin_atom h9.2 with e | ⟨i, e⟩ | ⟨x, e⟩ <;> rw [e] <;> exact ⟨_, rfl⟩
    obtain ⟨a, ha⟩ := hp
    obtain ⟨c, hc⟩ := hc
    refine Kd.of (k := .tup [.text "office", .num place, .num day, .tup k1, a, .tup k2, .tup k3, c]) rfl (by simp [nkOf, nksOf, e1, e2, e3, ha, hc]) ?_
    simp only [D.dep, D.deps] at z4 ⊢; omega
/-- a key: a word, a place, a day -/
def KeyOk (d : D) : Prop := ∃ (x : Str) (a b : Int), PyData.strOk x = true ∧ d = .tup [.str x, .int a, .int b]
theorem KeyOk.kd {d : D} (h : KeyOk d) : Kd d := by
  obtain ⟨x, a, b, _, rfl⟩ := h
  exact Kd.of (k := .tup [.text x, .num a, .num b]) rfl (by simp [nkOf, nksOf]) (by simp [D.dep, D.deps])
theorem PageOk.key {p : Plan} {d : D} (h : PageOk p d) : ∃ (x : Str) (a b : Int) (r : List D), d = .tup (.str x :: .int a :: .int b :: r) := by
  cases h <;> exact ⟨_, _, _, _, rfl⟩
theorem PageOk.keyOk {p : Plan} {d : D} (h : PageOk p d) : KeyOk (keyD d) := by
  cases h <;> exact ⟨_, _, _, by decide +kernel, rfl⟩
/-! ### tables of pages -/
noncomputable def ent (d : D) : NK × D := (kOf d, .bl true)
theorem getT_ent {ds : List D} (hk : ∀ d ∈ ds, Kd d) {d : D} (hd : Kd d) : (getT (ds.map ent) (kOf d)).isSome = decide (d ∈ ds) := by
  induction ds with
  | nil => rfl
  | cons e ds ih =>
    have ih := ih fun x hx => hk x (List.mem_cons_of_mem _ hx)
    unfold getT at ih ⊢
    rw [List.map_cons, List.find?_cons]
    by_cases q : kOf e = kOf d
    · have e1 := (hk e List.mem_cons_self).inj hd q
      subst e1; simp [ent]
    · have e1 : d ≠ e := fun z => q (by rw [z])
      simp only [ent, q, decide_false]
      rw [ih]
      simp [e1]
theorem putT_ent {ds : List D} (hk : ∀ d ∈ ds, Kd d) {d : D} (hd : Kd d) (hn : d ∉ ds) : putT (ds.map ent) (kOf d) (.bl true) = (ds ++ [d]).map ent := by
  unfold putT
  rw [getT_ent hk hd, if_neg (by simpa using hn), List.map_append]; rfl
/-- the lists by their keys -/
noncomputable def entL (x : D × Addr) : NK × D := (kOf x.1, .ref x.2)
theorem getT_entL {L : List (D × Addr)} (hk : ∀ x ∈ L, Kd x.1) {d : D} (hd : Kd d) : (d ∉ L.map (·.1) ∧ getT (L.map entL) (kOf d) = none) ∨ ∃ x ∈ L, x.1 = d ∧ getT (L.map entL) (kOf d) = some (.ref x.2) := by
  induction L with
  | nil => exact .inl ⟨by simp, rfl⟩
  | cons e L ih =>
    by_cases q : kOf e.1 = kOf d
    · have e1 := (hk e List.mem_cons_self).inj hd q
      exact .inr ⟨e, List.mem_cons_self, e1, by simp [getT, List.find?_cons, entL, q]⟩
    · have e1 : d ≠ e.1 := fun z => q (by rw [z])
      have g : getT ((e :: L).map entL) (kOf d) = getT (L.map entL) (kOf d) := by simp [getT, List.find?_cons, entL, q]
      rw [g]
      rcases ih fun x hx => hk x (List.mem_cons_of_mem _ hx) with ⟨h1, h2⟩ | ⟨x, hx, h1, h2⟩
      · exact .inl ⟨by rw [List.map_cons, List.mem_cons, not_or]; exact ⟨e1, h1⟩, h2⟩
      · exact .inr ⟨x, List.mem_cons_of_mem _ hx, h1, h2⟩
/-! ### a house -/
structure HouseAt (C : Addr) (M : DM) (p : Plan) (h k b y : Addr) (L : List (D × Addr)) (ts vs : List D) : Prop where
  ob : ∃ dx, M h = some (.ins C dx ns_House [p.d, .ref k, .ref b, .ref y])
  kn : M k = some (.dN (ts.map ent))
  bn : M b = some (.dN (vs.map ent))
  bk : M y = some (.dN (L.map entL))
  ls : ∀ x ∈ L, M x.2 = some (.lst (ts.filter fun d => keyD d = x.1))
  keys : ∀ d, d ∈ L.map (·.1) ↔ d ∈ ts.map keyD
  nd : (L.map (·.1)).Nodup
  okT : ∀ d ∈ ts, PageOk p d
  okV : ∀ d ∈ vs, PageOk p d
  off : ∀ x ∈ L, x.2 ≠ h ∧ x.2 ≠ k ∧ x.2 ≠ b ∧ x.2 ≠ y
  offL : (L.map (·.2)).Nodup
  few : ts.length ≤ 1000 ∧ vs.length ≤ 1000
  ne : h ≠ k ∧ h ≠ b ∧ h ≠ y ∧ k ≠ b ∧ k ≠ y ∧ b ≠ y
theorem sub_len {α : Type} [DecidableEq α] : ∀ (l m : List α), l.Nodup → (∀ x ∈ l, x ∈ m) → l.length ≤ m.length
  | [], _, _, _ => Nat.zero_le _
  | a :: l, m, nd, h => by
    rw [List.nodup_cons] at nd
    have ha := h a List.mem_cons_self
    have := sub_len l (m.erase a) nd.2 fun x hx => by
      have hne : x ≠ a := fun e => nd.1 (e ▸ hx)
      exact (List.mem_erase_of_ne hne).mpr (h x (List.mem_cons_of_mem _ hx))
    rw [List.length_erase_of_mem ha] at this
    have : 0 < m.length := List.length_pos_of_mem ha
    rw [List.length_cons]; omega
theorem HouseAt.lenL {C : Addr} {M : DM} {p : Plan} {h k b y : Addr} {L : List (D × Addr)} {ts vs : List D} (S : HouseAt C M p h k b y L ts vs) : L.length ≤ ts.length := by
  have := sub_len (L.map (·.1)) (ts.map keyD) S.nd fun x hx => (S.keys x).mp hx
  simpa using this
/-- all but the house stays -/
def Fr (M M' : DM) (h k b y : Addr) (L : List (D × Addr)) : Prop := ∀ a o, a ≠ h → a ≠ k → a ≠ b → a ≠ y → a ∉ L.map (·.2) → M a = some o → M' a = some o
theorem Fr.refl {M : DM} {h k b y : Addr} {L : List (D × Addr)} : Fr M M h k b y L := fun _ _ _ _ _ _ _ e => e
structure TxH (K : PySem.W.Frag) (mg : Str → Option Value) (C : Addr) : Prop extends Txt K mg where
  b_sorted : mg "sorted" = none
  cl_House : Cls K C
  na_House_plan_held : NoAttr K C "plan_held"
  na_House_known : NoAttr K C "known"
  na_House_banned : NoAttr K C "banned"
  na_House_by_key : NoAttr K C "by_key"
section
variable {P : Program} {w : World} {K : PySem.W.Frag} {mg : Str → Option Value} {base : Heap} {C : Addr} (T : TxH K mg C)
include T
def sp_init (C : Addr) : DSp := fun ds M Q => ∃ (p : Plan) (h dx : Addr), ds = [.ref h, p.d] ∧ M h = some (.ins C dx [] []) ∧ ∀ M' k b y, HouseAt C M' p h k b y [] [] [] → (∀ a o, a ≠ h → M a = some o → M' a = some o) → (∀ a, a = k ∨ a = b ∨ a = y → M a = none) → Q .non M'
theorem ok_init {f fd} (F : Fun K "__init__" "House.__init__" st_House_init f fd) : DFn P w K mg base 1 f fd ps_House_init (sp_init C) := by
  refine dfn_ok F sc_House_init (fun ds M Q ⟨p, h, dx, e, _⟩ => by rw [e]; rfl) fun cdv A outer s H E hr => ⟨_, (dss_cons (ds_fldNew (ns := []) (dv 0) (dv 1) T.cl_House T.na_House_plan_held (by decide) (by decide))
  (dss_cons (ds_fldNew (ns := ["plan_held"]) (dv 0) de_newN T.cl_House T.na_House_known (by decide) (by decide))
  (dss_cons (ds_fldNew (ns := ["plan_held", "known"]) (dv 0) de_newN T.cl_House T.na_House_banned (by decide) (by decide))
  (dss_one (ds_fldNew (ns := ["plan_held", "known", "banned"]) (dv 0) de_newN T.cl_House T.na_House_by_key (by decide) (by decide)))))), ?_⟩
  rintro ds M Q ⟨p, h, dx, rfl, hM, q⟩
  simp only [DL.dstart, DL.dVar, DL.dC, DL.dNil, DL.dCons, DL.dTup, DL.dLst, DL.dOp, DL.dB, DL.rIsi, DL.rLen, DL.rMin, DL.rMax, DL.rInt, DL.rTuple, DL.rList, DL.rAll, DL.rAny, DL.rSum, DL.dTest, DL.dChain, DL.dAnd, DL.dOr, DL.dNot, DL.dAndV, DL.dOrV, DL.dNotV, DL.dIf, DL.dNext, DL.dSeq, DL.dDrop, DL.dRet, DL.dRetN, DL.dIfS, DL.dAsg, DL.dName, DL.dPar, DL.dPar3, DL.dAug, DL.dgNil, DL.dgCons, DL.dgTup, DL.dSub, DL.dCall, DL.dNeg, DL.dSlice, DL.dPart, DL.dNo, DL.rI2, DL.rII, DL.rAdd, DL.rIsN, DL.rIx, DL.rSet, DL.isi, DL.rEq_int, DL.rEq_str, DL.at0, DL.at1, DL.at2, DL.at3, DL.Tn.nm, DL.dChain, DL.rLtI, DL.rLeI, DL.rGtI, DL.rGeI, DL.rSub, DL.rMul, DL.rMod, DL.rDiv, DL.rPow, List.length_cons, List.length_nil, List.replicate_succ, List.replicate_zero, Nat.reduceAdd, Nat.reduceSub, Nat.zero_add, List.map_cons, List.map_nil, List.cons_append, List.nil_append, List.getElem?_cons_zero, List.getElem?_cons_succ, List.set_cons_zero, List.set_cons_succ, dFldNew, dNewN, hM]
  refine ⟨dx, [], rfl, fun k hk => ?_⟩
  obtain ⟨kh, k0⟩ := um_none hk
  refine ⟨dx, [p.d], by simp [um, kh, kh.symm], fun b hb => ?_⟩
  obtain ⟨bh, hb⟩ := um_none hb
  obtain ⟨bk, hb⟩ := um_none hb
  obtain ⟨_, b0⟩ := um_none hb
  refine ⟨dx, [p.d, .ref k], by simp [um, kh, kh.symm, bh, bh.symm], fun y hy => ?_⟩
  obtain ⟨yh, hy⟩ := um_none hy
  obtain ⟨yb, hy⟩ := um_none hy
  obtain ⟨_, hy⟩ := um_none hy
  obtain ⟨yk, hy⟩ := um_none hy
  obtain ⟨_, y0⟩ := um_none hy
  refine ⟨dx, [p.d, .ref k, .ref b], by simp [um, yh, yh.symm, bh, bh.symm], ?_⟩
  refine Dr.here (q _ k b y ⟨⟨dx, ?_⟩, ?_, ?_, ?_, fun x hx => (by cases hx), fun d => by simp, List.nodup_nil, fun d hd => (by cases hd), fun d hd => (by cases hd), fun x hx => (by cases hx), List.nodup_nil, by simp, kh.symm, bh.symm, yh.symm, bk.symm, yk.symm, yb.symm⟩ (fun a o ah e => ?_) fun a ha => ?_)
  · simp [um, ns_House]
  · simp [um, kh, bk.symm, yk.symm]
  · simp [um, bh, yb.symm]
  · simp [um, yh]
  · have ak : a ≠ k := fun z => by rw [z, k0] at e; cases e
    have ab : a ≠ b := fun z => by rw [z, b0] at e; cases e
    have ay : a ≠ y := fun z => by rw [z, y0] at e; cases e
    simpa [um, ah, ak, ab, ay] using e
  · rcases ha with rfl | rfl | rfl <;> assumption
/-! want_page, take, void -/
variable (D_is_page : Cal P w K mg base 6 "is_page" ps_is_page sp_is_page)
include D_is_page
def sp_want (C : Addr) : DSp := fun ds M Q => ∃ (p : Plan) (h : Addr) (d : D), ds = [.ref h, d] ∧ (∃ dx k b y, M h = some (.ins C dx ns_House [p.d, .ref k, .ref b, .ref y])) ∧ PageOk p d ∧ Q .non M
theorem ok_want {f fd} (F : Fun K "want_page" "House.want_page" st_House_want_page f fd) : DFn P w K mg base 7 f fd ps_House_want_page (sp_want C) := by
  refine dfn_ok F sc_House_want_page (fun ds M Q ⟨p, h, dx, e, _⟩ => by rw [e]; rfl) fun cdv A outer s H E hr => ⟨_, (dss_one (ds_if (db_not (db_val (de_cal D_is_page (hr.mono (by decide)) rfl (da_cons (de_fld (ns := ns_House) (i := 0) (dv 0) T.cl_House T.na_House_plan_held (by decide)) (da_cons (dv 1) da_nil))))) (dss_one ds_never) dss_nil)), ?_⟩
  rintro ds M Q ⟨p, h, d, rfl, ⟨dx, k, b, y, hM⟩, ok, q⟩
  simp only [DL.dstart, DL.dVar, DL.dC, DL.dNil, DL.dCons, DL.dTup, DL.dLst, DL.dOp, DL.dB, DL.rIsi, DL.rLen, DL.rMin, DL.rMax, DL.rInt, DL.rTuple, DL.rList, DL.rAll, DL.rAny, DL.rSum, DL.dTest, DL.dChain, DL.dAnd, DL.dOr, DL.dNot, DL.dAndV, DL.dOrV, DL.dNotV, DL.dIf, DL.dNext, DL.dSeq, DL.dDrop, DL.dRet, DL.dRetN, DL.dIfS, DL.dAsg, DL.dName, DL.dPar, DL.dPar3, DL.dAug, DL.dgNil, DL.dgCons, DL.dgTup, DL.dSub, DL.dCall, DL.dNeg, DL.dSlice, DL.dPart, DL.dNo, DL.rI2, DL.rII, DL.rAdd, DL.rIsN, DL.rIx, DL.rSet, DL.isi, DL.rEq_int, DL.rEq_str, DL.at0, DL.at1, DL.at2, DL.at3, DL.Tn.nm, DL.dChain, DL.rLtI, DL.rLeI, DL.rGtI, DL.rGeI, DL.rSub, DL.rMul, DL.rMod, DL.rDiv, DL.rPow, List.length_cons, List.length_nil, List.replicate_succ, List.replicate_zero, Nat.reduceAdd, Nat.reduceSub, Nat.zero_add, List.map_cons, List.map_nil, List.cons_append, List.nil_append, List.getElem?_cons_zero, List.getElem?_cons_succ, List.set_cons_zero, List.set_cons_succ, dFld, hM]
  exact ⟨dx, _, p.d, rfl, rfl, p, d, rfl, ok, fun z => (nomatch z), fun _ => Dr.here q⟩
end
section
variable {P : Program} {w : World} {K : PySem.W.Frag} {mg : Str → Option Value} {base : Heap} {C : Addr} (T : TxH K mg C)
include T
variable (D_House_want_page : CalM P w K mg base 7 C "want_page" ps_House_want_page (sp_want C)) (D_key_of : Cal P w K mg base 1 "key_of" ps_key_of sp_key_of)
include D_House_want_page
def sp_void (C : Addr) : DSp := fun ds M Q => ∃ (p : Plan) (h k b y : Addr) (L : List (D × Addr)) (ts vs : List D) (d : D), ds = [.ref h, d] ∧ HouseAt C M p h k b y L ts vs ∧ PageOk p d ∧ vs.length < 1000 ∧
  (d ∈ vs → Q (.str "again") M) ∧ (d ∉ vs → ∀ M', HouseAt C M' p h k b y L ts (vs ++ [d]) → Fr M M' h k b y L → Q (.str "void") M')
theorem ok_void {f fd} (F : Fun K "void" "House.void" st_House_void f fd) : DFn P w K mg base 8 f fd ps_House_void (sp_void C) := by
  refine dfn_ok F sc_House_void (fun ds M Q ⟨p, h, k, b, y, L, ts, vs, d, e, _⟩ => by rw [e]; rfl) fun cdv A outer s H E hr => ⟨_, (dss_cons (ds_expr (de_calM (ns := ns_House) D_House_want_page T.cl_House (hr.mono (by decide)) (by decide) (dv 0) (da_cons (dv 1) da_nil)))
  (dss_cons (ds_if (db_cmp (o_inN hr.u16) (dv 1) (de_fld (ns := ns_House) (i := 2) (dv 0) T.cl_House T.na_House_banned (by decide))) (dss_one (ds_ret de_str)) dss_nil)
  (dss_cons (ds_asg de_bl (dg_sub (de_fld (ns := ns_House) (i := 2) (dv 0) T.cl_House T.na_House_banned (by decide)) (dv 1) (s_putN hr.u16)))
  (dss_one (ds_ret de_str))))), ?_⟩
  rintro ds M Q ⟨p, h, k, b, y, L, ts, vs, d, rfl, S, ok, hz, q1, q2⟩
  obtain ⟨dx, hM⟩ := S.ob
  simp only [DL.dstart, DL.dVar, DL.dC, DL.dNil, DL.dCons, DL.dTup, DL.dLst, DL.dOp, DL.dB, DL.rIsi, DL.rLen, DL.rMin, DL.rMax, DL.rInt, DL.rTuple, DL.rList, DL.rAll, DL.rAny, DL.rSum, DL.dTest, DL.dChain, DL.dAnd, DL.dOr, DL.dNot, DL.dAndV, DL.dOrV, DL.dNotV, DL.dIf, DL.dNext, DL.dSeq, DL.dDrop, DL.dRet, DL.dRetN, DL.dIfS, DL.dAsg, DL.dName, DL.dPar, DL.dPar3, DL.dAug, DL.dgNil, DL.dgCons, DL.dgTup, DL.dSub, DL.dCall, DL.dNeg, DL.dSlice, DL.dPart, DL.dNo, DL.rI2, DL.rII, DL.rAdd, DL.rIsN, DL.rIx, DL.rSet, DL.isi, DL.rEq_int, DL.rEq_str, DL.at0, DL.at1, DL.at2, DL.at3, DL.Tn.nm, DL.dChain, DL.rLtI, DL.rLeI, DL.rGtI, DL.rGeI, DL.rSub, DL.rMul, DL.rMod, DL.rDiv, DL.rPow, List.length_cons, List.length_nil, List.replicate_succ, List.replicate_zero, Nat.reduceAdd, Nat.reduceSub, Nat.zero_add, List.map_cons, List.map_nil, List.cons_append, List.nil_append, List.getElem?_cons_zero, List.getElem?_cons_succ, List.set_cons_zero, List.set_cons_succ, dFld, dMeth, hM]
  obtain ⟨⟨xs, ex⟩, kd2, kd3⟩ := ok.kd
  refine ⟨⟨dx, _, rfl⟩, p, h, d, rfl, ⟨dx, k, b, y, hM⟩, ok, dx, _, .ref b, hM, rfl, vs.map ent, kOf d, xs, S.bn, ex, kd2, kd3, ?_⟩
  rw [getT_ent (fun e he => (S.okV e he).kd) ok.kd]
  refine ⟨fun z => Dr.here (q1 (by simpa using z)), fun z => ?_⟩
  have hn : d ∉ vs := by simpa using z
  refine ⟨dx, _, .ref b, hM, rfl, vs.map ent, kOf d, xs, S.bn, ex, kd2, kd3, by rw [List.length_map, sizeLine_eq]; omega, Dr.here (q2 hn _ ?_ fun a o h1 h2 h3 h4 h5 e => by rw [um_ne h3]; exact e)⟩
  rw [putT_ent (fun e he => (S.okV e he).kd) ok.kd hn]
  obtain ⟨n1, n2, n3, n4, n5, n6⟩ := S.ne
  exact { S with
    ob := ⟨dx, by rw [um_ne n2]; exact hM⟩
    kn := by rw [um_ne n4]; exact S.kn
    bn := um_same
    bk := by rw [um_ne n6.symm]; exact S.bk
    ls := fun x hx => by rw [um_ne (S.off x hx).2.2.1]; exact S.ls x hx
    okV := fun e he => by
      rcases List.mem_append.mp he with z | z
      · exact S.okV e z
      · rw [List.mem_singleton.mp z]; exact ok
    few := ⟨S.few.1, by rw [List.length_append, List.length_singleton]; omega⟩ }
include D_key_of
def sp_take (C : Addr) : DSp := fun ds M Q => ∃ (p : Plan) (h k b y : Addr) (L : List (D × Addr)) (ts vs : List D) (d : D), ds = [.ref h, d] ∧ HouseAt C M p h k b y L ts vs ∧ PageOk p d ∧ ts.length < 1000 ∧
  (d ∈ ts → Q (.str "again") M) ∧ (d ∉ ts → ∀ M' L', HouseAt C M' p h k b y L' (ts ++ [d]) vs → Fr M M' h k b y L → (∀ x ∈ L', x ∈ L ∨ M x.2 = none) → Q (.str (if (ts.any fun e => decide (keyD e = keyD d)) then "unlike" else "new")) M')
theorem ok_take {f fd} (F : Fun K "take" "House.take" st_House_take f fd) : DFn P w K mg base 8 f fd ps_House_take (sp_take C) := by
  refine dfn_ok F sc_House_take (fun ds M Q ⟨p, h, k, b, y, L, ts, vs, d, e, _⟩ => by rw [e]; rfl) fun cdv A outer s H E hr => ⟨_, (dss_cons (ds_expr (de_calM (ns := ns_House) D_House_want_page T.cl_House (hr.mono (by decide)) (by decide) (dv 0) (da_cons (dv 1) da_nil)))
  (dss_cons (ds_if (db_cmp (o_inN hr.u16) (dv 1) (de_fld (ns := ns_House) (i := 1) (dv 0) T.cl_House T.na_House_known (by decide))) (dss_one (ds_ret de_str)) dss_nil)
  (dss_cons (ds_set (i := 2) sc_House_take.nd rfl (by first | exact Or.inl rfl | exact Or.inr rfl) (de_bmn PySem.F.plainAttrs_dict PySem.F.slot_dict_setdefault PySem.F.type_dict_setdefault (m_setd hr.u16) (de_fld (ns := ns_House) (i := 3) (dv 0) T.cl_House T.na_House_by_key (by decide)) (da_cons (de_cal D_key_of (hr.mono (by decide)) rfl (da_cons (dv 1) da_nil)) (da_cons (de_lstM da_nil) da_nil))))
  (dss_cons (ds_expr (de_bml PySem.F.plainAttrs_list PySem.F.slot_list_append PySem.F.type_list_append m_append (dv 2) (da_cons (dv 1) da_nil)))
  (dss_cons (ds_asg de_bl (dg_sub (de_fld (ns := ns_House) (i := 1) (dv 0) T.cl_House T.na_House_known (by decide)) (dv 1) (s_putN hr.u16)))
  (dss_cons (ds_if (db_cmp o_gt (de_B c_len rfl T.b_len Bt.len (da_cons (dv 2) da_nil)) de_int) (dss_one (ds_ret de_str)) dss_nil)
  (dss_one (ds_ret de_str)))))))), ?_⟩
  rintro ds M Q ⟨p, h, k, b, y, L, ts, vs, d, rfl, S, ok, hz, q1, q2⟩
  obtain ⟨dx, hM⟩ := S.ob
  simp only [DL.dstart, DL.dVar, DL.dC, DL.dNil, DL.dCons, DL.dTup, DL.dLst, DL.dOp, DL.dB, DL.rIsi, DL.rLen, DL.rMin, DL.rMax, DL.rInt, DL.rTuple, DL.rList, DL.rAll, DL.rAny, DL.rSum, DL.dTest, DL.dChain, DL.dAnd, DL.dOr, DL.dNot, DL.dAndV, DL.dOrV, DL.dNotV, DL.dIf, DL.dNext, DL.dSeq, DL.dDrop, DL.dRet, DL.dRetN, DL.dIfS, DL.dAsg, DL.dName, DL.dPar, DL.dPar3, DL.dAug, DL.dgNil, DL.dgCons, DL.dgTup, DL.dSub, DL.dCall, DL.dNeg, DL.dSlice, DL.dPart, DL.dNo, DL.rI2, DL.rII, DL.rAdd, DL.rIsN, DL.rIx, DL.rSet, DL.isi, DL.rEq_int, DL.rEq_str, DL.at0, DL.at1, DL.at2, DL.at3, DL.Tn.nm, DL.dChain, DL.rLtI, DL.rLeI, DL.rGtI, DL.rGeI, DL.rSub, DL.rMul, DL.rMod, DL.rDiv, DL.rPow, List.length_cons, List.length_nil, List.replicate_succ, List.replicate_zero, Nat.reduceAdd, Nat.reduceSub, Nat.zero_add, List.map_cons, List.map_nil, List.cons_append, List.nil_append, List.getElem?_cons_zero, List.getElem?_cons_succ, List.set_cons_zero, List.set_cons_succ, dFld, dMeth, hM]
  obtain ⟨⟨xs, ex⟩, kd2, kd3⟩ := ok.kd
  refine ⟨⟨dx, _, rfl⟩, p, h, d, rfl, ⟨dx, k, b, y, hM⟩, ok, dx, _, .ref k, hM, rfl, ts.map ent, kOf d, xs, S.kn, ex, kd2, kd3, ?_⟩
  rw [getT_ent (fun e he => (S.okT e he).kd) ok.kd]
  refine ⟨fun z => Dr.here (q1 (by simpa using z)), fun z => ?_⟩
  have hn : d ∉ ts := by simpa using z
  refine ⟨dx, _, .ref y, hM, rfl, ?_⟩
  dsimp only
  refine ⟨⟨_, S.bk⟩, ?_⟩
  obtain ⟨x, a, bb, r, ed⟩ := ok.key
  have hk : keyD d = .tup [.str x, .int a, .int bb] := by rw [ed]; rfl
  have kk := ok.keyOk.kd
  simp only [DL.dstart, DL.dVar, DL.dC, DL.dNil, DL.dCons, DL.dTup, DL.dLst, DL.dOp, DL.dB, DL.rIsi, DL.rLen, DL.rMin, DL.rMax, DL.rInt, DL.rTuple, DL.rList, DL.rAll, DL.rAny, DL.rSum, DL.dTest, DL.dChain, DL.dAnd, DL.dOr, DL.dNot, DL.dAndV, DL.dOrV, DL.dNotV, DL.dIf, DL.dNext, DL.dSeq, DL.dDrop, DL.dRet, DL.dRetN, DL.dIfS, DL.dAsg, DL.dName, DL.dPar, DL.dPar3, DL.dAug, DL.dgNil, DL.dgCons, DL.dgTup, DL.dSub, DL.dCall, DL.dNeg, DL.dSlice, DL.dPart, DL.dNo, DL.rI2, DL.rII, DL.rAdd, DL.rIsN, DL.rIx, DL.rSet, DL.isi, DL.rEq_int, DL.rEq_str, DL.at0, DL.at1, DL.at2, DL.at3, DL.Tn.nm, DL.dChain, DL.rLtI, DL.rLeI, DL.rGtI, DL.rGeI, DL.rSub, DL.rMul, DL.rMod, DL.rDiv, DL.rPow, List.length_cons, List.length_nil, List.replicate_succ, List.replicate_zero, Nat.reduceAdd, Nat.reduceSub, Nat.zero_add, List.map_cons, List.map_nil, List.cons_append, List.nil_append, List.getElem?_cons_zero, List.getElem?_cons_succ, List.set_cons_zero, List.set_cons_succ, dLstM, DL.rSetd, dBML, DL.rAppend, nm_House_take]
  refine ⟨.str x, .int a, .int bb, r, by rw [ed], Nat.zero_le _, fun A hA => ?_⟩
  rw [← hk]
  have Ay : A ≠ y := fun z => by rw [z, S.bk] at hA; cases hA
  have Ah : A ≠ h := fun z => by rw [z, hM] at hA; cases hA
  have Ak : A ≠ k := fun z => by rw [z, S.kn] at hA; cases hA
  have Ab : A ≠ b := fun z => by rw [z, S.bn] at hA; cases hA
  have AL : ∀ x ∈ L, A ≠ x.2 := fun x hx z => by rw [z, S.ls x hx] at hA; cases hA
  obtain ⟨⟨xs', ex'⟩, kk2, kk3⟩ := id kk
  obtain ⟨n1, n2, n3, n4, n5, n6⟩ := S.ne
  have lL : L.length ≤ ts.length := S.lenL
  have hent := putT_ent (fun e he => (S.okT e he).kd) ok.kd hn
  have fewT : (ts ++ [d]).length ≤ 1000 := by rw [List.length_append, List.length_singleton]; omega
  have okT' : ∀ e ∈ ts ++ [d], PageOk p e := fun e he => by
    rcases List.mem_append.mp he with z | z
    · exact S.okT e z
    · rw [List.mem_singleton.mp z]; exact ok
  refine ⟨L.map entL, kOf (keyD d), xs', by rw [um_ne Ay.symm]; exact S.bk, ex', kk2, kk3, by rw [List.length_map, sizeLine_eq]; omega, fun zz hz1 => ?_, fun hz1 => ?_⟩
  · -- a list of the key is there
    rcases getT_entL (fun x hx => by
      obtain ⟨e, he, e2⟩ := List.mem_map.mp ((S.keys x.1).mp (List.mem_map_of_mem hx))
      rw [← e2]; exact (S.okT e he).keyOk.kd) kk with ⟨_, e2⟩ | ⟨x0, hx0, e1, e2⟩
    · rw [hz1] at e2; cases e2
    rw [hz1] at e2; cases e2
    obtain ⟨o1, o2, o3, o4⟩ := S.off x0 hx0
    have l0 := S.ls x0 hx0
    have A0 := AL x0 hx0
    refine ⟨⟨_, by rw [um_ne A0.symm]; exact l0⟩, _, by rw [um_ne A0.symm]; exact l0, ?_, dx, _, .ref k, by rw [um_ne o1.symm, um_ne Ah.symm]; exact hM, rfl, ts.map ent, kOf d, xs, by rw [um_ne o2.symm, um_ne Ak.symm]; exact S.kn, ex, kd2, kd3, by rw [List.length_map, sizeLine_eq]; omega, ?_⟩
    · have := List.length_filter_le (fun d => decide (keyD d = x0.1)) ts
      rw [sizeLine_eq]; omega
    rw [hent]
    have S' : HouseAt C (um (um (um M A (.lst [])) x0.2 (.lst ((ts.filter fun d => keyD d = x0.1) ++ [d]))) k (.dN ((ts ++ [d]).map ent))) p h k b y L (ts ++ [d]) vs := { S with
      ob := ⟨dx, by rw [um_ne n1, um_ne o1.symm, um_ne Ah.symm]; exact hM⟩
      kn := um_same
      bn := by rw [um_ne n4.symm, um_ne o3.symm, um_ne Ab.symm]; exact S.bn
      bk := by rw [um_ne n5.symm, um_ne o4.symm, um_ne Ay.symm]; exact S.bk
      ls := fun x hx => by
        rw [um_ne (S.off x hx).2.1]
        by_cases q : x.2 = x0.2
        · have e : x = x0 := nodup_inj S.offL hx hx0 q
          subst e
          rw [um_same, List.filter_append]
          simp [e1]
        · rw [um_ne q, um_ne (AL x hx).symm, S.ls x hx, List.filter_append]
          have ne : ¬ keyD d = x.1 := fun z => by
            have e : x = x0 := nodup_inj S.nd hx hx0 (by rw [← z, e1])
            exact q (by rw [e])
          simp [ne]
      keys := fun e => by
        rw [S.keys e, List.map_append, List.mem_append]
        refine ⟨.inl, fun z => z.elim id fun z => ?_⟩
        rw [List.mem_singleton.mp z, ← e1]
        exact (S.keys x0.1).mp (List.mem_map_of_mem hx0)
      okT := okT'
      few := ⟨fewT, S.few.2⟩ }
    have fr : Fr M (um (um (um M A (.lst [])) x0.2 (.lst ((ts.filter fun d => keyD d = x0.1) ++ [d]))) k (.dN ((ts ++ [d]).map ent))) h k b y L := fun a o h1 h2 h3 h4 h5 e => by
      rw [um_ne h2, um_ne (fun z => h5 (by rw [z]; exact List.mem_map_of_mem hx0)), um_ne (fun z => by rw [z, hA] at e; cases e)]; exact e
    have q3 := q2 hn _ L S' fr fun x hx => .inl hx
    have some1 : ∃ e ∈ ts, keyD e = keyD d := by
      have := (S.keys x0.1).mp (List.mem_map_of_mem hx0)
      obtain ⟨e, he, e2⟩ := List.mem_map.mp this
      exact ⟨e, he, by rw [e2, e1]⟩
    have yes : (ts.any fun e => decide (keyD e = keyD d)) = true := List.any_eq_true.mpr (by obtain ⟨e, he, e2⟩ := some1; exact ⟨e, he, decide_eq_true e2⟩)
    rw [if_pos yes] at q3
    refine .inl ⟨(ts.filter fun d => keyD d = x0.1) ++ [d], by rw [um_ne o2, um_same], fun _ => Dr.here q3, fun z => ?_⟩
    exfalso
    obtain ⟨e, he, e2⟩ := some1
    have : 0 < (ts.filter fun d => keyD d = x0.1).length := List.length_pos_of_mem (List.mem_filter.mpr ⟨he, by simp [e2, e1]⟩)
    rw [List.length_append, List.length_singleton] at z
    simp at z; omega
  · -- a new list
    have hnk : keyD d ∉ L.map (·.1) := by
      rcases getT_entL (fun x hx => by
        obtain ⟨e, he, e2⟩ := List.mem_map.mp ((S.keys x.1).mp (List.mem_map_of_mem hx))
        rw [← e2]; exact (S.okT e he).keyOk.kd) kk with ⟨e1, _⟩ | ⟨x0, hx0, e1, e2⟩
      · exact e1
      · rw [hz1] at e2; cases e2
    have none0 : ∀ e ∈ ts, keyD e ≠ keyD d := fun e he z => hnk ((S.keys _).mpr (by rw [← z]; exact List.mem_map_of_mem he))
    have f0 : ts.filter (fun e => keyD e = keyD d) = [] := List.filter_eq_nil_iff.mpr fun e he => by simpa using none0 e he
    have eL : putT (L.map entL) (kOf (keyD d)) (.ref A) = (L ++ [(keyD d, A)]).map entL := by
      unfold putT; rw [hz1, if_neg (by simp), List.map_append]; rfl
    rw [eL]
    refine ⟨⟨_, by rw [um_ne Ay, um_same]⟩, [], by rw [um_ne Ay, um_same], by rw [sizeLine_eq]; decide, dx, _, .ref k, by rw [um_ne Ah.symm, um_ne n3, um_ne Ah.symm]; exact hM, rfl, ts.map ent, kOf d, xs, by rw [um_ne Ak.symm, um_ne n5, um_ne Ak.symm]; exact S.kn, ex, kd2, kd3, by rw [List.length_map, sizeLine_eq]; omega, ?_⟩
    rw [hent]
    have S' : HouseAt C (um (um (um (um M A (.lst [])) y (.dN ((L ++ [(keyD d, A)]).map entL))) A (.lst ([] ++ [d]))) k (.dN ((ts ++ [d]).map ent))) p h k b y (L ++ [(keyD d, A)]) (ts ++ [d]) vs := {
      ob := ⟨dx, by rw [um_ne n1, um_ne Ah.symm, um_ne n3, um_ne Ah.symm]; exact hM⟩
      kn := um_same
      bn := by rw [um_ne n4.symm, um_ne Ab.symm, um_ne n6, um_ne Ab.symm]; exact S.bn
      bk := by rw [um_ne n5.symm, um_ne Ay.symm, um_same]
      ls := fun x hx => by
        rcases List.mem_append.mp hx with hx | hx
        · have ne : ¬ keyD d = x.1 := fun z => hnk (by rw [z]; exact List.mem_map_of_mem hx)
          rw [um_ne (S.off x hx).2.1, um_ne (AL x hx).symm, um_ne (S.off x hx).2.2.2, um_ne (AL x hx).symm, S.ls x hx, List.filter_append]
          simp [ne]
        · rw [List.mem_singleton.mp hx, um_ne Ak, um_same, List.filter_append, f0]
          simp
      keys := fun e => by
        rw [List.map_append, List.map_append, List.mem_append, List.mem_append, S.keys e]; rfl
      nd := by
        rw [List.map_append]
        refine List.nodup_append.mpr ⟨S.nd, by simp, fun a ha b hb e => ?_⟩
        have hb' : b = keyD d := by simpa using hb
        exact hnk (by rw [← hb', ← e]; exact ha)
      okT := okT'
      okV := S.okV
      off := fun x hx => by
        rcases List.mem_append.mp hx with hx | hx
        · exact S.off x hx
        · rw [List.mem_singleton.mp hx]; exact ⟨Ah, Ak, Ab, Ay⟩
      offL := by
        rw [List.map_append]
        refine List.nodup_append.mpr ⟨S.offL, by simp, fun a ha b hb e => ?_⟩
        have hb' : b = A := by simpa using hb
        obtain ⟨x, hx, e2⟩ := List.mem_map.mp ha
        exact AL x hx (by rw [e2, e, hb'])
      few := ⟨fewT, S.few.2⟩
      ne := S.ne }
    have fr : Fr M (um (um (um (um M A (.lst [])) y (.dN ((L ++ [(keyD d, A)]).map entL))) A (.lst ([] ++ [d]))) k (.dN ((ts ++ [d]).map ent))) h k b y L := fun a o h1 h2 h3 h4 h5 e => by
      have aA : a ≠ A := fun z => by rw [z, hA] at e; cases e
      rw [um_ne h2, um_ne aA, um_ne h4, um_ne aA]; exact e
    have q3 := q2 hn _ (L ++ [(keyD d, A)]) S' fr fun x hx => by
      rcases List.mem_append.mp hx with hx | hx
      · exact .inl hx
      · rw [List.mem_singleton.mp hx]; exact .inr hA
    have no : ¬ (ts.any fun e => decide (keyD e = keyD d)) = true := fun z => by
      obtain ⟨e, he, e2⟩ := List.any_eq_true.mp z
      exact none0 e he (of_decide_eq_true e2)
    rw [if_neg no] at q3
    exact .inl ⟨[] ++ [d], by rw [um_ne Ak, um_same], fun z => by simp at z, fun _ => Dr.here q3⟩
end
end K7

namespace K7
open PySem PySem.Spec PyProof.Rows L2 DL
theorem rs_um {M : DM} {A : Addr} {o : MO} (h : M A = none) : rs M (um M A o) = M := by
  funext a
  by_cases q : a = A
  · rw [q, rs_out h, h]
  · exact rs_eq (um_ne q)
/-! ### sorting keys -/
theorem alike_keys {d e : D} (h : KeyOk d) (h' : KeyOk e) : PySem.W.alike d.py e.py = true := by
  obtain ⟨x, a, b, _, rfl⟩ := h
  obtain ⟨y, c, e, _, rfl⟩ := h'
  simp [D.py, D.pys, PySem.W.alike, PySem.W.alikeAll]
theorem srtOk_keys {ds : List D} (h : ∀ d ∈ ds, KeyOk d) : SrtOk ds where
  dat := fun d hd => by obtain ⟨x, a, b, e, rfl⟩ := h d hd; simp [D.dat, D.dats, e]
  dep := fun d hd => by obtain ⟨x, a, b, _, rfl⟩ := h d hd; simp [D.dep, D.deps]
  alike := fun x hx y hy => by
    obtain ⟨d, h1, rfl⟩ := List.mem_map.mp hx
    obtain ⟨e, h2, rfl⟩ := List.mem_map.mp hy
    exact alike_keys (h d h1) (h e h2)
  able := .inl fun x hx => by
    obtain ⟨d, h1, rfl⟩ := List.mem_map.mp hx
    obtain ⟨z, a, b, _, rfl⟩ := h d h1
    exact ⟨_, _, rfl⟩
/-- the pages of a key that stand -/
noncomputable def grp (ts vs : List D) (key : D) : List D := (ts.filter fun d => keyD d = key).filter fun d => d ∉ vs
noncomputable def fileF (ts vs : List D) (key : D) : Option D := match grp ts vs key with
  | [x] => some x
  | _ => none
noncomputable def unlF (ts vs : List D) (key : D) : Option D := if 1 < (grp ts vs key).length then some (.tup [key, .int (grp ts vs key).length]) else none
theorem fm_not (vs : List D) : ∀ l : List D, l.filterMap (fun d => if d ∈ vs then none else some d) = l.filter fun d => d ∉ vs
  | [] => rfl
  | d :: l => by
    have ih := fm_not vs l
    by_cases z : d ∈ vs <;> simp [z, ih]
theorem keysD_L {L : List (D × Addr)} (h : ∀ x ∈ L, Kd x.1) : keysD (L.map entL) = L.map (·.1) := by
  unfold keysD
  rw [List.map_map]
  exact List.map_congr_left fun x hx => (h x hx).back
theorem HouseAt.kL {C : Addr} {M : DM} {p : Plan} {h k b y : Addr} {L : List (D × Addr)} {ts vs : List D} (S : HouseAt C M p h k b y L ts vs) : ∀ d ∈ L.map (·.1), KeyOk d := fun d hd => by
  obtain ⟨e, he, rfl⟩ := List.mem_map.mp ((S.keys d).mp hd)
  exact (S.okT e he).keyOk
section
variable {P : Program} {w : World} {K : PySem.W.Frag} {mg : Str → Option Value} {base : Heap} {C : Addr} (T : TxH K mg C)
include T
def sp_standing (C : Addr) : DSp := fun ds M Q => ∃ (p : Plan) (h k b y : Addr) (L : List (D × Addr)) (ts vs : List D) (key : D), ds = [.ref h, key] ∧ HouseAt C M p h k b y L ts vs ∧ key ∈ L.map (·.1) ∧ Q (.lst (grp ts vs key)) M
theorem ok_standing {f fd} (F : Fun K "standing" "House.standing" st_House_standing f fd) : DFn P w K mg base 1 f fd ps_House_standing (sp_standing C) := by
  refine dfn_ok F sc_House_standing (fun ds M Q ⟨p, h, k, b, y, L, ts, vs, d, e, _⟩ => by rw [e]; rfl) fun cdv A outer s H E hr => ⟨_, (dss_one (ds_ret (de_lc (own := [("page", 2)]) rfl sc_House_standing.nd (di_seq (de_ix (i_getN hr.u16) (de_fld (ns := ns_House) (i := 3) (dv 0) T.cl_House T.na_House_by_key (by decide)) (dv 1))) (blkOk_by (N := nm_House_standing) (sc := defScope st_House_standing) (by decide +kernel)) (fun _ _ _ _ _ => (pg_name (i := 2) sc_House_standing.nd rfl (by first | exact Or.inl rfl | exact Or.inr rfl))) (tgo_name 2) (fun _ _ _ _ _ => (dts_one (db_cmp (o_notinN hr.u16) (dv 2) (de_fld (ns := ns_House) (i := 2) (dv 0) T.cl_House T.na_House_banned (by decide))))) (fun _ _ _ _ _ => (dv 2))))), ?_⟩
  rintro ds M Q ⟨p, h, k, b, y, L, ts, vs, key, rfl, S, hk, q⟩
  obtain ⟨dx, hM⟩ := S.ob
  simp only [DL.dstart, DL.dVar, DL.dC, DL.dNil, DL.dCons, DL.dTup, DL.dLst, DL.dOp, DL.dB, DL.rIsi, DL.rLen, DL.rMin, DL.rMax, DL.rInt, DL.rTuple, DL.rList, DL.rAll, DL.rAny, DL.rSum, DL.dTest, DL.dChain, DL.dAnd, DL.dOr, DL.dNot, DL.dAndV, DL.dOrV, DL.dNotV, DL.dIf, DL.dNext, DL.dSeq, DL.dDrop, DL.dRet, DL.dRetN, DL.dIfS, DL.dAsg, DL.dName, DL.dPar, DL.dPar3, DL.dAug, DL.dgNil, DL.dgCons, DL.dgTup, DL.dSub, DL.dCall, DL.dNeg, DL.dSlice, DL.dPart, DL.dNo, DL.rI2, DL.rII, DL.rAdd, DL.rIsN, DL.rIx, DL.rSet, DL.isi, DL.rEq_int, DL.rEq_str, DL.at0, DL.at1, DL.at2, DL.at3, DL.Tn.nm, DL.dChain, DL.rLtI, DL.rLeI, DL.rGtI, DL.rGeI, DL.rSub, DL.rMul, DL.rMod, DL.rDiv, DL.rPow, List.length_cons, List.length_nil, List.replicate_succ, List.replicate_zero, Nat.reduceAdd, Nat.reduceSub, Nat.zero_add, List.map_cons, List.map_nil, List.cons_append, List.nil_append, List.getElem?_cons_zero, List.getElem?_cons_succ, List.set_cons_zero, List.set_cons_succ, nm_House_standing]
  have kd := (S.kL key hk).kd
  obtain ⟨⟨xs, ex⟩, kd2, kd3⟩ := id kd
  rcases getT_entL (fun x hx => (S.kL x.1 (List.mem_map_of_mem hx)).kd) kd with ⟨e1, _⟩ | ⟨x0, hx0, e1, e2⟩
  · exact absurd hk e1
  have l0 := S.ls x0 hx0
  rw [e1] at l0
  refine lc_fm (items := ts.filter fun d => keyD d = key) (fun d => if d ∈ vs then none else some d) (fun Q' hq => ?_) ?_ (fun d hd M2 Ky Kn ex' hy hn => ?_) ?_
  · simp only [DL.dstart, DL.dVar, DL.dC, DL.dNil, DL.dCons, DL.dTup, DL.dLst, DL.dOp, DL.dB, DL.rIsi, DL.rLen, DL.rMin, DL.rMax, DL.rInt, DL.rTuple, DL.rList, DL.rAll, DL.rAny, DL.rSum, DL.dTest, DL.dChain, DL.dAnd, DL.dOr, DL.dNot, DL.dAndV, DL.dOrV, DL.dNotV, DL.dIf, DL.dNext, DL.dSeq, DL.dDrop, DL.dRet, DL.dRetN, DL.dIfS, DL.dAsg, DL.dName, DL.dPar, DL.dPar3, DL.dAug, DL.dgNil, DL.dgCons, DL.dgTup, DL.dSub, DL.dCall, DL.dNeg, DL.dSlice, DL.dPart, DL.dNo, DL.rI2, DL.rII, DL.rAdd, DL.rIsN, DL.rIx, DL.rSet, DL.isi, DL.rEq_int, DL.rEq_str, DL.at0, DL.at1, DL.at2, DL.at3, DL.Tn.nm, DL.dChain, DL.rLtI, DL.rLeI, DL.rGtI, DL.rGeI, DL.rSub, DL.rMul, DL.rMod, DL.rDiv, DL.rPow, List.length_cons, List.length_nil, List.replicate_succ, List.replicate_zero, Nat.reduceAdd, Nat.reduceSub, Nat.zero_add, List.map_cons, List.map_nil, List.cons_append, List.nil_append, List.getElem?_cons_zero, List.getElem?_cons_succ, List.set_cons_zero, List.set_cons_succ, iSeq, dFld, hM]
    refine ⟨dx, [p.d, .ref k, .ref b, .ref y], .ref y, rfl, rfl, L.map entL, kOf key, xs, .ref x0.2, S.bk, ex, kd2, kd3, e2, _, l0, hq _ fun M2 e => e _ _ l0⟩
  · have := List.length_filter_le (fun d => decide (keyD d = key)) ts
    have := S.few
    rw [sizeLine_eq]; omega
  · have ok := S.okT d (List.mem_filter.mp hd).1
    obtain ⟨⟨ys, ey⟩, f2, f3⟩ := ok.kd
    simp only [DL.dstart, DL.dVar, DL.dC, DL.dNil, DL.dCons, DL.dTup, DL.dLst, DL.dOp, DL.dB, DL.rIsi, DL.rLen, DL.rMin, DL.rMax, DL.rInt, DL.rTuple, DL.rList, DL.rAll, DL.rAny, DL.rSum, DL.dTest, DL.dChain, DL.dAnd, DL.dOr, DL.dNot, DL.dAndV, DL.dOrV, DL.dNotV, DL.dIf, DL.dNext, DL.dSeq, DL.dDrop, DL.dRet, DL.dRetN, DL.dIfS, DL.dAsg, DL.dName, DL.dPar, DL.dPar3, DL.dAug, DL.dgNil, DL.dgCons, DL.dgTup, DL.dSub, DL.dCall, DL.dNeg, DL.dSlice, DL.dPart, DL.dNo, DL.rI2, DL.rII, DL.rAdd, DL.rIsN, DL.rIx, DL.rSet, DL.isi, DL.rEq_int, DL.rEq_str, DL.at0, DL.at1, DL.at2, DL.at3, DL.Tn.nm, DL.dChain, DL.rLtI, DL.rLeI, DL.rGtI, DL.rGeI, DL.rSub, DL.rMul, DL.rMod, DL.rDiv, DL.rPow, List.length_cons, List.length_nil, List.replicate_succ, List.replicate_zero, Nat.reduceAdd, Nat.reduceSub, Nat.zero_add, List.map_cons, List.map_nil, List.cons_append, List.nil_append, List.getElem?_cons_zero, List.getElem?_cons_succ, List.set_cons_zero, List.set_cons_succ, dWipe, dFld]
    refine ⟨dx, _, .ref b, ex' _ _ hM, rfl, vs.map ent, kOf d, ys, ex' _ _ S.bn, ey, f2, f3, ?_⟩
    rw [getT_ent (fun e he => (S.okV e he).kd) ok.kd]
    refine ⟨fun z => hy _ ?_, fun z => hn ?_⟩
    · have hz : d ∉ vs := by simpa using z
      simp [hz]
    · have hz : d ∈ vs := by simpa using z
      simp [hz]
  · have e : (ts.filter fun d => keyD d = key).filterMap (fun d => if d ∈ vs then none else some d) = grp ts vs key := by
      exact fm_not vs _
    rw [e]; exact Dr.here q
variable (D_House_standing : CalM P w K mg base 1 C "standing" ps_House_standing (sp_standing C))
include D_House_standing
def sp_file (C : Addr) : DSp := fun ds M Q => ∃ (p : Plan) (h k b y : Addr) (L : List (D × Addr)) (ts vs : List D), ds = [.ref h] ∧ HouseAt C M p h k b y L ts vs ∧ Q (.tup ((srt (L.map (·.1))).filterMap (fileF ts vs))) M
theorem ok_file {f fd} (F : Fun K "file" "House.file" st_House_file f fd) : DFn P w K mg base 2 f fd ps_House_file (sp_file C) := by
  refine dfn_ok F sc_House_file (fun ds M Q ⟨p, h, k, b, y, L, ts, vs, e, _⟩ => by rw [e]; rfl) fun cdv A outer s H E hr => ⟨_, (dss_cons (ds_set (i := 1) sc_House_file.nd rfl (by first | exact Or.inl rfl | exact Or.inr rfl) (de_lstM da_nil))
  (dss_cons (ds_for PassesOwn.never rfl (di_seq (de_B (c_sorted rfl hr.u128) rfl T.b_sorted Bt.sorted (da_cons (de_fld (ns := ns_House) (i := 3) (dv 0) T.cl_House T.na_House_by_key (by decide)) da_nil))) (dg_name (i := 2) sc_House_file.nd rfl (by first | exact Or.inl rfl | exact Or.inr rfl)) (dss_cons (ds_set (i := 3) sc_House_file.nd rfl (by first | exact Or.inl rfl | exact Or.inr rfl) (de_calM (ns := ns_House) D_House_standing T.cl_House (hr.mono (by decide)) (by decide) (dv 0) (da_cons (dv 2) da_nil)))
  (dss_one (ds_if (db_cmp (o_eq hr.units) (de_B c_len rfl T.b_len Bt.len (da_cons (dv 3) da_nil)) de_int) (dss_one (ds_expr (de_bml PySem.F.plainAttrs_list PySem.F.slot_list_append PySem.F.type_list_append m_append (dv 1) (da_cons (de_ix i_ix (dv 3) de_int) da_nil)))) dss_nil))))
  (dss_one (ds_ret (de_T c_tuple rfl T.b_tuple Bt.tuple (da_cons (dv 1) da_nil)))))), ?_⟩
  rintro ds M Q ⟨p, h, k, b, y, L, ts, vs, rfl, S, q⟩
  obtain ⟨dx, hM⟩ := S.ob
  simp only [DL.dstart, DL.dVar, DL.dC, DL.dNil, DL.dCons, DL.dTup, DL.dLst, DL.dOp, DL.dB, DL.rIsi, DL.rLen, DL.rMin, DL.rMax, DL.rInt, DL.rTuple, DL.rList, DL.rAll, DL.rAny, DL.rSum, DL.dTest, DL.dChain, DL.dAnd, DL.dOr, DL.dNot, DL.dAndV, DL.dOrV, DL.dNotV, DL.dIf, DL.dNext, DL.dSeq, DL.dDrop, DL.dRet, DL.dRetN, DL.dIfS, DL.dAsg, DL.dName, DL.dPar, DL.dPar3, DL.dAug, DL.dgNil, DL.dgCons, DL.dgTup, DL.dSub, DL.dCall, DL.dNeg, DL.dSlice, DL.dPart, DL.dNo, DL.rI2, DL.rII, DL.rAdd, DL.rIsN, DL.rIx, DL.rSet, DL.isi, DL.rEq_int, DL.rEq_str, DL.at0, DL.at1, DL.at2, DL.at3, DL.Tn.nm, DL.dChain, DL.rLtI, DL.rLeI, DL.rGtI, DL.rGeI, DL.rSub, DL.rMul, DL.rMod, DL.rDiv, DL.rPow, List.length_cons, List.length_nil, List.replicate_succ, List.replicate_zero, Nat.reduceAdd, Nat.reduceSub, Nat.zero_add, List.map_cons, List.map_nil, List.cons_append, List.nil_append, List.getElem?_cons_zero, List.getElem?_cons_succ, List.set_cons_zero, List.set_cons_succ, nm_House_file, dLstM, dFor, iSeq]
  refine ⟨Nat.zero_le _, fun A hA => ?_⟩
  have Ah : A ≠ h := fun z => by rw [z, hM] at hA; cases hA
  have Ak : A ≠ k := fun z => by rw [z, S.kn] at hA; cases hA
  have Ab : A ≠ b := fun z => by rw [z, S.bn] at hA; cases hA
  have Ay : A ≠ y := fun z => by rw [z, S.bk] at hA; cases hA
  have SA : ∀ o, HouseAt C (um M A o) p h k b y L ts vs := fun o => { S with
    ob := ⟨dx, by rw [um_ne Ah.symm]; exact hM⟩
    kn := by rw [um_ne Ak.symm]; exact S.kn
    bn := by rw [um_ne Ab.symm]; exact S.bn
    bk := by rw [um_ne Ay.symm]; exact S.bk
    ls := fun x hx => by rw [um_ne (fun z => by rw [← z, S.ls x hx] at hA; cases hA)]; exact S.ls x hx }
  simp only [dFld, um_ne Ah.symm, hM, DL.rSorted]
  refine ⟨dx, [p.d, .ref k, .ref b, .ref y], .ref y, by rw [um_ne Ah.symm]; exact hM, rfl, .inr ⟨L.map entL, by rw [um_ne Ay.symm]; exact S.bk, ?_, ?_⟩⟩
  · rw [keysD_L fun x hx => (S.kL x.1 (List.mem_map_of_mem hx)).kd]
    exact srtOk_keys S.kL
  rw [keysD_L fun x hx => (S.kL x.1 (List.mem_map_of_mem hx)).kd]
  have kk := S.kL
  generalize hks : srt (L.map (·.1)) = ks at q ⊢
  have hmem : ∀ d ∈ ks, d ∈ L.map (·.1) := fun d hd => by rw [← hks] at hd; exact (srt_perm _).mem_iff.mp hd
  have hlen : ks.length ≤ 1000 := by
    have := S.lenL
    have := S.few
    rw [← hks, (srt_perm _).length_eq, List.length_map]; omega
  have upto : ∀ (i : Nat) (d : D), ks[i]? = some d → (ks.take (i + 1)).filterMap (fileF ts vs) = (ks.take i).filterMap (fileF ts vs) ++ (fileF ts vs d).toList := fun i d hd => by
    rw [List.take_succ, hd, List.filterMap_append]
    cases e : fileF ts vs d <;> simp [e]
  refine ⟨fun i σ M2 => (∃ u v, σ = [some (.ref h), some (.ref A), u, v]) ∧ M2 = um M A (.lst ((ks.take i).filterMap (fileF ts vs))), ⟨⟨_, _, rfl⟩, rfl⟩, fun _ _ _ _ _ => True.intro, ?_, ?_⟩
  · rintro i d σ M2 hd ⟨⟨u, v, rfl⟩, rfl⟩
    have hd : ks[i]? = some d := hd
    have dk := hmem d (List.mem_of_getElem? hd)
    simp only [DL.dstart, DL.dVar, DL.dC, DL.dNil, DL.dCons, DL.dTup, DL.dLst, DL.dOp, DL.dB, DL.rIsi, DL.rLen, DL.rMin, DL.rMax, DL.rInt, DL.rTuple, DL.rList, DL.rAll, DL.rAny, DL.rSum, DL.dTest, DL.dChain, DL.dAnd, DL.dOr, DL.dNot, DL.dAndV, DL.dOrV, DL.dNotV, DL.dIf, DL.dNext, DL.dSeq, DL.dDrop, DL.dRet, DL.dRetN, DL.dIfS, DL.dAsg, DL.dName, DL.dPar, DL.dPar3, DL.dAug, DL.dgNil, DL.dgCons, DL.dgTup, DL.dSub, DL.dCall, DL.dNeg, DL.dSlice, DL.dPart, DL.dNo, DL.rI2, DL.rII, DL.rAdd, DL.rIsN, DL.rIx, DL.rSet, DL.isi, DL.rEq_int, DL.rEq_str, DL.at0, DL.at1, DL.at2, DL.at3, DL.Tn.nm, DL.dChain, DL.rLtI, DL.rLeI, DL.rGtI, DL.rGeI, DL.rSub, DL.rMul, DL.rMod, DL.rDiv, DL.rPow, List.length_cons, List.length_nil, List.replicate_succ, List.replicate_zero, Nat.reduceAdd, Nat.reduceSub, Nat.zero_add, List.map_cons, List.map_nil, List.cons_append, List.nil_append, List.getElem?_cons_zero, List.getElem?_cons_succ, List.set_cons_zero, List.set_cons_succ, dMeth, um_ne Ah.symm, hM, dBML, DL.rAppend]
    refine ⟨⟨dx, _, rfl⟩, p, h, k, b, y, L, ts, vs, d, rfl, SA _, dk, ?_⟩
    have up := upto i d hd
    have accz : ((ks.take i).filterMap (fileF ts vs)).length < sizeLine := by
      have h1 := List.length_filterMap_le (fileF ts vs) (ks.take i)
      rw [List.length_take] at h1
      rw [sizeLine_eq]; omega
    refine ⟨fun z => ?_, fun z => ?_⟩
    · have g1 : (grp ts vs d).length = 1 := by
        have : ((grp ts vs d).length : Int) = 1 := by simpa using z
        omega
      obtain ⟨e, ge⟩ := List.length_eq_one_iff.mp g1
      refine ⟨⟨_, um_same⟩, e, by rw [ge]; exact at0, _, um_same, accz, ⟨_, _, rfl⟩, ?_⟩
      rw [um_um, up, show fileF ts vs d = some e by unfold fileF; rw [ge]]; rfl
    · have g1 : (grp ts vs d).length ≠ 1 := by
        have : ¬ ((grp ts vs d).length : Int) = 1 := by simpa using z
        omega
      refine ⟨⟨_, _, rfl⟩, ?_⟩
      have fn : fileF ts vs d = none := by
        unfold fileF
        split
        · rename_i x e; rw [e] at g1; exact absurd rfl g1
        · rfl
      rw [up, fn]; simp
  · rintro σ M2 ⟨⟨u, v, rfl⟩, rfl⟩
    simp only [DL.dstart, DL.dVar, DL.dC, DL.dNil, DL.dCons, DL.dTup, DL.dLst, DL.dOp, DL.dB, DL.rIsi, DL.rLen, DL.rMin, DL.rMax, DL.rInt, DL.rTuple, DL.rList, DL.rAll, DL.rAny, DL.rSum, DL.dTest, DL.dChain, DL.dAnd, DL.dOr, DL.dNot, DL.dAndV, DL.dOrV, DL.dNotV, DL.dIf, DL.dNext, DL.dSeq, DL.dDrop, DL.dRet, DL.dRetN, DL.dIfS, DL.dAsg, DL.dName, DL.dPar, DL.dPar3, DL.dAug, DL.dgNil, DL.dgCons, DL.dgTup, DL.dSub, DL.dCall, DL.dNeg, DL.dSlice, DL.dPart, DL.dNo, DL.rI2, DL.rII, DL.rAdd, DL.rIsN, DL.rIx, DL.rSet, DL.isi, DL.rEq_int, DL.rEq_str, DL.at0, DL.at1, DL.at2, DL.at3, DL.Tn.nm, DL.dChain, DL.rLtI, DL.rLeI, DL.rGtI, DL.rGeI, DL.rSub, DL.rMul, DL.rMod, DL.rDiv, DL.rPow, List.length_cons, List.length_nil, List.replicate_succ, List.replicate_zero, Nat.reduceAdd, Nat.reduceSub, Nat.zero_add, List.map_cons, List.map_nil, List.cons_append, List.nil_append, List.getElem?_cons_zero, List.getElem?_cons_succ, List.set_cons_zero, List.set_cons_succ]
    refine ⟨_, um_same, Dr.back (M := M) ?_⟩
    rw [rs_um hA]
    have e : ks.take ks.length = ks := List.take_length
    show Q (.tup ((ks.take ks.length).filterMap _)) M
    rw [e]; exact q
def sp_unlike (C : Addr) : DSp := fun ds M Q => ∃ (p : Plan) (h k b y : Addr) (L : List (D × Addr)) (ts vs : List D), ds = [.ref h] ∧ HouseAt C M p h k b y L ts vs ∧ Q (.tup ((srt (L.map (·.1))).filterMap (unlF ts vs))) M
theorem ok_unlike {f fd} (F : Fun K "unlike" "House.unlike" st_House_unlike f fd) : DFn P w K mg base 2 f fd ps_House_unlike (sp_unlike C) := by
  refine dfn_ok F sc_House_unlike (fun ds M Q ⟨p, h, k, b, y, L, ts, vs, e, _⟩ => by rw [e]; rfl) fun cdv A outer s H E hr => ⟨_, (dss_cons (ds_set (i := 1) sc_House_unlike.nd rfl (by first | exact Or.inl rfl | exact Or.inr rfl) (de_lstM da_nil))
  (dss_cons (ds_for PassesOwn.never rfl (di_seq (de_B (c_sorted rfl hr.u128) rfl T.b_sorted Bt.sorted (da_cons (de_fld (ns := ns_House) (i := 3) (dv 0) T.cl_House T.na_House_by_key (by decide)) da_nil))) (dg_name (i := 2) sc_House_unlike.nd rfl (by first | exact Or.inl rfl | exact Or.inr rfl)) (dss_cons (ds_set (i := 3) sc_House_unlike.nd rfl (by first | exact Or.inl rfl | exact Or.inr rfl) (de_B c_len rfl T.b_len Bt.len (da_cons (de_calM (ns := ns_House) D_House_standing T.cl_House (hr.mono (by decide)) (by decide) (dv 0) (da_cons (dv 2) da_nil)) da_nil)))
  (dss_one (ds_if (db_cmp o_gt (dv 3) de_int) (dss_one (ds_expr (de_bml PySem.F.plainAttrs_list PySem.F.slot_list_append PySem.F.type_list_append m_append (dv 1) (da_cons (de_tup (da_cons (dv 2) (da_cons (dv 3) da_nil))) da_nil)))) dss_nil))))
  (dss_one (ds_ret (de_T c_tuple rfl T.b_tuple Bt.tuple (da_cons (dv 1) da_nil)))))), ?_⟩
  rintro ds M Q ⟨p, h, k, b, y, L, ts, vs, rfl, S, q⟩
  obtain ⟨dx, hM⟩ := S.ob
  simp only [DL.dstart, DL.dVar, DL.dC, DL.dNil, DL.dCons, DL.dTup, DL.dLst, DL.dOp, DL.dB, DL.rIsi, DL.rLen, DL.rMin, DL.rMax, DL.rInt, DL.rTuple, DL.rList, DL.rAll, DL.rAny, DL.rSum, DL.dTest, DL.dChain, DL.dAnd, DL.dOr, DL.dNot, DL.dAndV, DL.dOrV, DL.dNotV, DL.dIf, DL.dNext, DL.dSeq, DL.dDrop, DL.dRet, DL.dRetN, DL.dIfS, DL.dAsg, DL.dName, DL.dPar, DL.dPar3, DL.dAug, DL.dgNil, DL.dgCons, DL.dgTup, DL.dSub, DL.dCall, DL.dNeg, DL.dSlice, DL.dPart, DL.dNo, DL.rI2, DL.rII, DL.rAdd, DL.rIsN, DL.rIx, DL.rSet, DL.isi, DL.rEq_int, DL.rEq_str, DL.at0, DL.at1, DL.at2, DL.at3, DL.Tn.nm, DL.dChain, DL.rLtI, DL.rLeI, DL.rGtI, DL.rGeI, DL.rSub, DL.rMul, DL.rMod, DL.rDiv, DL.rPow, List.length_cons, List.length_nil, List.replicate_succ, List.replicate_zero, Nat.reduceAdd, Nat.reduceSub, Nat.zero_add, List.map_cons, List.map_nil, List.cons_append, List.nil_append, List.getElem?_cons_zero, List.getElem?_cons_succ, List.set_cons_zero, List.set_cons_succ, nm_House_unlike, dLstM, dFor, iSeq]
  refine ⟨Nat.zero_le _, fun A hA => ?_⟩
  have Ah : A ≠ h := fun z => by rw [z, hM] at hA; cases hA
  have Ak : A ≠ k := fun z => by rw [z, S.kn] at hA; cases hA
  have Ab : A ≠ b := fun z => by rw [z, S.bn] at hA; cases hA
  have Ay : A ≠ y := fun z => by rw [z, S.bk] at hA; cases hA
  have SA : ∀ o, HouseAt C (um M A o) p h k b y L ts vs := fun o => { S with
    ob := ⟨dx, by rw [um_ne Ah.symm]; exact hM⟩
    kn := by rw [um_ne Ak.symm]; exact S.kn
    bn := by rw [um_ne Ab.symm]; exact S.bn
    bk := by rw [um_ne Ay.symm]; exact S.bk
    ls := fun x hx => by rw [um_ne (fun z => by rw [← z, S.ls x hx] at hA; cases hA)]; exact S.ls x hx }
  simp only [dFld, um_ne Ah.symm, hM, DL.rSorted]
  refine ⟨dx, [p.d, .ref k, .ref b, .ref y], .ref y, by rw [um_ne Ah.symm]; exact hM, rfl, .inr ⟨L.map entL, by rw [um_ne Ay.symm]; exact S.bk, ?_, ?_⟩⟩
  · rw [keysD_L fun x hx => (S.kL x.1 (List.mem_map_of_mem hx)).kd]
    exact srtOk_keys S.kL
  rw [keysD_L fun x hx => (S.kL x.1 (List.mem_map_of_mem hx)).kd]
  generalize hks : srt (L.map (·.1)) = ks at q ⊢
  have hmem : ∀ d ∈ ks, d ∈ L.map (·.1) := fun d hd => by rw [← hks] at hd; exact (srt_perm _).mem_iff.mp hd
  have hlen : ks.length ≤ 1000 := by
    have := S.lenL
    have := S.few
    rw [← hks, (srt_perm _).length_eq, List.length_map]; omega
  have upto : ∀ (i : Nat) (d : D), ks[i]? = some d → (ks.take (i + 1)).filterMap (unlF ts vs) = (ks.take i).filterMap (unlF ts vs) ++ (unlF ts vs d).toList := fun i d hd => by
    rw [List.take_succ, hd, List.filterMap_append]
    cases e : unlF ts vs d <;> simp [e]
  refine ⟨fun i σ M2 => (∃ u v, σ = [some (.ref h), some (.ref A), u, v]) ∧ M2 = um M A (.lst ((ks.take i).filterMap (unlF ts vs))), ⟨⟨_, _, rfl⟩, rfl⟩, fun _ _ _ _ _ => True.intro, ?_, ?_⟩
  · rintro i d σ M2 hd ⟨⟨u, v, rfl⟩, rfl⟩
    have hd : ks[i]? = some d := hd
    have dk := hmem d (List.mem_of_getElem? hd)
    simp only [DL.dstart, DL.dVar, DL.dC, DL.dNil, DL.dCons, DL.dTup, DL.dLst, DL.dOp, DL.dB, DL.rIsi, DL.rLen, DL.rMin, DL.rMax, DL.rInt, DL.rTuple, DL.rList, DL.rAll, DL.rAny, DL.rSum, DL.dTest, DL.dChain, DL.dAnd, DL.dOr, DL.dNot, DL.dAndV, DL.dOrV, DL.dNotV, DL.dIf, DL.dNext, DL.dSeq, DL.dDrop, DL.dRet, DL.dRetN, DL.dIfS, DL.dAsg, DL.dName, DL.dPar, DL.dPar3, DL.dAug, DL.dgNil, DL.dgCons, DL.dgTup, DL.dSub, DL.dCall, DL.dNeg, DL.dSlice, DL.dPart, DL.dNo, DL.rI2, DL.rII, DL.rAdd, DL.rIsN, DL.rIx, DL.rSet, DL.isi, DL.rEq_int, DL.rEq_str, DL.at0, DL.at1, DL.at2, DL.at3, DL.Tn.nm, DL.dChain, DL.rLtI, DL.rLeI, DL.rGtI, DL.rGeI, DL.rSub, DL.rMul, DL.rMod, DL.rDiv, DL.rPow, List.length_cons, List.length_nil, List.replicate_succ, List.replicate_zero, Nat.reduceAdd, Nat.reduceSub, Nat.zero_add, List.map_cons, List.map_nil, List.cons_append, List.nil_append, List.getElem?_cons_zero, List.getElem?_cons_succ, List.set_cons_zero, List.set_cons_succ, dMeth, um_ne Ah.symm, hM, dBML, DL.rAppend]
    refine ⟨⟨dx, _, rfl⟩, p, h, k, b, y, L, ts, vs, d, rfl, SA _, dk, ?_⟩
    have up := upto i d hd
    have accz : ((ks.take i).filterMap (unlF ts vs)).length < sizeLine := by
      have h1 := List.length_filterMap_le (unlF ts vs) (ks.take i)
      rw [List.length_take] at h1
      rw [sizeLine_eq]; omega
    refine ⟨fun z => ?_, fun z => ?_⟩
    · have g1 : 1 < (grp ts vs d).length := by
        have : 1 < ((grp ts vs d).length : Int) := by simpa using z
        omega
      refine ⟨⟨_, um_same⟩, small (by decide), _, um_same, accz, ⟨_, _, rfl⟩, ?_⟩
      rw [um_um, up, show unlF ts vs d = some (.tup [d, .int (grp ts vs d).length]) by unfold unlF; rw [if_pos g1]]; rfl
    · have g1 : ¬ 1 < (grp ts vs d).length := by
        have : ¬ 1 < ((grp ts vs d).length : Int) := by simpa using z
        omega
      refine ⟨⟨_, _, rfl⟩, ?_⟩
      rw [up, show unlF ts vs d = none by unfold unlF; rw [if_neg g1]]; simp
  · rintro σ M2 ⟨⟨u, v, rfl⟩, rfl⟩
    simp only [DL.dstart, DL.dVar, DL.dC, DL.dNil, DL.dCons, DL.dTup, DL.dLst, DL.dOp, DL.dB, DL.rIsi, DL.rLen, DL.rMin, DL.rMax, DL.rInt, DL.rTuple, DL.rList, DL.rAll, DL.rAny, DL.rSum, DL.dTest, DL.dChain, DL.dAnd, DL.dOr, DL.dNot, DL.dAndV, DL.dOrV, DL.dNotV, DL.dIf, DL.dNext, DL.dSeq, DL.dDrop, DL.dRet, DL.dRetN, DL.dIfS, DL.dAsg, DL.dName, DL.dPar, DL.dPar3, DL.dAug, DL.dgNil, DL.dgCons, DL.dgTup, DL.dSub, DL.dCall, DL.dNeg, DL.dSlice, DL.dPart, DL.dNo, DL.rI2, DL.rII, DL.rAdd, DL.rIsN, DL.rIx, DL.rSet, DL.isi, DL.rEq_int, DL.rEq_str, DL.at0, DL.at1, DL.at2, DL.at3, DL.Tn.nm, DL.dChain, DL.rLtI, DL.rLeI, DL.rGtI, DL.rGeI, DL.rSub, DL.rMul, DL.rMod, DL.rDiv, DL.rPow, List.length_cons, List.length_nil, List.replicate_succ, List.replicate_zero, Nat.reduceAdd, Nat.reduceSub, Nat.zero_add, List.map_cons, List.map_nil, List.cons_append, List.nil_append, List.getElem?_cons_zero, List.getElem?_cons_succ, List.set_cons_zero, List.set_cons_succ]
    refine ⟨_, um_same, Dr.back (M := M) ?_⟩
    rw [rs_um hA]
    have e : ks.take ks.length = ks := List.take_length
    show Q (.tup ((ks.take ks.length).filterMap _)) M
    rw [e]; exact q
end
end K7

namespace K7
open PySem PySem.Spec PyProof.Rows L2 DL
structure TxL (K : PySem.W.Frag) (mg : Str → Option Value) (C : Addr) : Prop extends TxH K mg C where
  b_range : mg "range" = none
  b_dict : mg "dict" = none
  b_min : mg "min" = none
  b_max : mg "max" = none
  b_set : mg "set" = none
  b_list : mg "list" = none
  b_repr : mg "repr" = none
  m_House : mg "House" = some (.ref C)
section
variable {P : Program} {w : World} {K : PySem.W.Frag} {mg : Str → Option Value} {base : Heap} {C : Addr} (T : TxL K mg C)
include T
def sp_hand_of : DSp := fun ds M Q => ∃ (ns : List Int) (k : Nat), ds = [.fz (ns.map .int), .int k] ∧ ns.length ≤ 63 ∧ k ≤ 10 ∧ ∀ (A : Addr) (g s : Int), M A = none → (0 ≤ g ∧ g < 2 ^ 300) → (0 ≤ s ∧ s < 2 ^ 62) → Q (.ref A) (um M A (.lst [.int g, .int s, .int 0]))
theorem ok_hand_of {f fd} (F : Fun K "_law_hand_of" "_law_hand_of" st__law_hand_of f fd) : DFn P w K mg base 1 f fd ps__law_hand_of sp_hand_of := by
  refine dfn_ok F sc__law_hand_of (fun ds M Q ⟨ns, k, e, _⟩ => by rw [e]; rfl) fun cdv A outer s H E hr => ⟨_, (dss_cons (ds_set (i := 2) sc__law_hand_of.nd rfl (by first | exact Or.inl rfl | exact Or.inr rfl) de_int)
  (dss_cons (ds_if (db_cmp o_lt (dv 1) (de_B c_len rfl T.b_len Bt.len (da_cons (dv 0) da_nil))) (dss_one (ds_set (i := 2) sc__law_hand_of.nd rfl (by first | exact Or.inl rfl | exact Or.inr rfl) (de_ix i_ix (dv 0) (dv 1)))) dss_nil)
  (dss_cons (ds_set (i := 3) sc__law_hand_of.nd rfl (by first | exact Or.inl rfl | exact Or.inr rfl) (de_op o_mul (de_op o_mod (dv 2) (de_op o_mul (de_op o_pow de_int de_int) (de_op o_pow de_int de_int))) (de_T c_int rfl T.b_int Bt.int (da_cons (de_cmp o_ge (dv 2) (de_op o_pow de_int de_int)) da_nil))))
  (dss_one (ds_ret (de_lstM (da_cons (dv 3) (da_cons (de_op o_mod (de_op o_add (de_op o_add (de_op o_mod (dv 2) de_int) (de_op o_mul de_int (dv 1))) de_int) de_int) (da_cons de_int da_nil))))))))), ?_⟩
  rintro ds M Q ⟨ns, k, rfl, hl, hk, q⟩
  simp only [DL.dstart, DL.dVar, DL.dC, DL.dNil, DL.dCons, DL.dTup, DL.dLst, DL.dOp, DL.dB, DL.rIsi, DL.rLen, DL.rMin, DL.rMax, DL.rInt, DL.rTuple, DL.rList, DL.rAll, DL.rAny, DL.rSum, DL.dTest, DL.dChain, DL.dAnd, DL.dOr, DL.dNot, DL.dAndV, DL.dOrV, DL.dNotV, DL.dIf, DL.dNext, DL.dSeq, DL.dDrop, DL.dRet, DL.dRetN, DL.dIfS, DL.dAsg, DL.dName, DL.dPar, DL.dPar3, DL.dAug, DL.dgNil, DL.dgCons, DL.dgTup, DL.dSub, DL.dCall, DL.dNeg, DL.dSlice, DL.dPart, DL.dNo, DL.rI2, DL.rII, DL.rAdd, DL.rIsN, DL.rIx, DL.rSet, DL.isi, DL.rEq_int, DL.rEq_str, DL.at0, DL.at1, DL.at2, DL.at3, DL.Tn.nm, DL.dChain, DL.rLtI, DL.rLeI, DL.rGtI, DL.rGeI, DL.rSub, DL.rMul, DL.rMod, DL.rDiv, DL.rPow, List.length_cons, List.length_nil, List.replicate_succ, List.replicate_zero, Nat.reduceAdd, Nat.reduceSub, Nat.zero_add, List.map_cons, List.map_nil, List.cons_append, List.nil_append, List.getElem?_cons_zero, List.getElem?_cons_succ, List.set_cons_zero, List.set_cons_succ, nm__law_hand_of, dLstM]
  have p0 : (0 : Int) < 10 ^ Int.toNat 45 * 10 ^ Int.toNat 45 := by decide +kernel
  have p1 : (10 : Int) ^ Int.toNat 45 * 10 ^ Int.toNat 45 < 2 ^ 300 := by decide +kernel
  have c0 : (2305843009213693951 : Int) < 2 ^ 62 := by decide +kernel
  have cw : CMulW (10 ^ Int.toNat 45) (10 ^ Int.toNat 45) := cmul_of (by decide +kernel) (by decide +kernel)
  generalize (10 : Int) ^ Int.toNat 45 * 10 ^ Int.toNat 45 = big at p0 p1 cw ⊢
  have go : ∀ (x : Int) (b : Bool), (0 ≤ x % big * (if b = true then 1 else 0) ∧ x % big * (if b = true then 1 else 0) < 2 ^ 300) ∧ CMulW (x % big) (if b = true then 1 else 0) := fun x b => by
    have h1 := Int.emod_nonneg x (by omega : big ≠ 0)
    have h2 := Int.emod_lt_of_pos x p0
    have e : (2 : Int) ^ 300 < 2 ^ 400 := by decide +kernel
    refine ⟨?_, cmul_of (by omega) (by cases b <;> decide +kernel)⟩
    cases b <;> simp <;> omega
  have ck : CMulW 7919 (k : Int) := cmul_of (by decide +kernel) (by have : (10 : Nat) < 2 ^ 400 := by decide +kernel
                                                                    omega)
  refine ⟨fun z => ?_, fun z => ?_⟩
  · have hk : k < ns.length := by simpa using z
    refine ⟨.int ns[k], at_nat (by rw [List.getElem?_map, List.getElem?_eq_getElem hk]; rfl), ?_⟩
    refine ⟨⟨by decide, by decide, by decide⟩, ⟨by decide, by decide, by decide⟩, cw, p0, ⟨by decide, by decide, by decide⟩, (go _ _).2, by decide, ck, by decide, small (by decide), fun A hA => Dr.here (q A _ _ hA (go _ _).1 ⟨Int.emod_nonneg _ (by decide), Int.lt_trans (Int.emod_lt_of_pos _ (by decide)) c0⟩)⟩
  · refine ⟨⟨by decide, by decide, by decide⟩, ⟨by decide, by decide, by decide⟩, cw, p0, ⟨by decide, by decide, by decide⟩, (go _ _).2, by decide, ck, by decide, small (by decide), fun A hA => Dr.here (q A _ _ hA (go _ _).1 ⟨Int.emod_nonneg _ (by decide), Int.lt_trans (Int.emod_lt_of_pos _ (by decide)) c0⟩)⟩
def sp_ltake : DSp := fun ds M Q => ∃ (h : Addr) (m : Int) (n : Nat), ds = [.ref h, .int m] ∧ Hd M h n ∧ n < 1000000 ∧ (1 ≤ m ∧ m ≤ 1000000000000000) ∧ ∀ d M', (0 ≤ d ∧ d < m) → HdTo M h (n + 1) M' → Q (.int d) M'
theorem ok_take' {f fd} (F : Fun K "_law_take" "_law_take" st__law_take f fd) : DFn P w K mg base 1 f fd ps__law_take sp_ltake := by
  refine dfn_ok F sc__law_take (fun ds M Q ⟨ns, k, n, e, _⟩ => by rw [e]; rfl) fun cdv A outer s H E hr => ⟨_, (dss_cons (ds_if (db_cmp o_gt (de_ix i_ix (dv 0) de_int) de_int) (dss_cons (ds_set (i := 2) sc__law_take.nd rfl (by first | exact Or.inl rfl | exact Or.inr rfl) (de_op o_mod (de_ix i_ix (dv 0) de_int) (dv 1)))
  (dss_cons (ds_asg (de_op o_div (de_ix i_ix (dv 0) de_int) (dv 1)) (dg_sub (dv 0) de_int s_list))
  (dss_one (ds_ret (dv 2))))) dss_nil)
  (dss_cons (ds_asg (de_op o_add (de_ix i_ix (dv 0) de_int) de_int) (dg_sub (dv 0) de_int s_list))
  (dss_cons (ds_set (i := 3) sc__law_take.nd rfl (by first | exact Or.inl rfl | exact Or.inr rfl) (de_op o_mod (de_op o_mul (de_op o_add (de_op o_add (de_ix i_ix (dv 0) de_int) (de_op o_mul (de_op o_mul de_int (de_ix i_ix (dv 0) de_int)) (de_ix i_ix (dv 0) de_int))) de_int) de_int) de_int))
  (dss_cons (ds_set (i := 3) sc__law_take.nd rfl (by first | exact Or.inl rfl | exact Or.inr rfl) (de_op o_mod (de_op o_mul (dv 3) (de_op o_add (de_op o_mod (dv 3) de_int) (de_op o_mul de_int (de_ix i_ix (dv 0) de_int)))) de_int))
  (dss_one (ds_ret (de_op o_mod (de_op o_add (de_op o_div (dv 3) de_int) (de_op o_div (dv 3) de_int)) (dv 1)))))))), ?_⟩
  rintro ds M Q ⟨h, m, n, rfl, ⟨o, ho, g, s, c, rfl, ⟨g1, g2⟩, ⟨s1, s2⟩, c1, c2⟩, hn, ⟨m1, m2⟩, q⟩
  simp only [DL.dstart, DL.dVar, DL.dC, DL.dNil, DL.dCons, DL.dTup, DL.dLst, DL.dOp, DL.dB, DL.rIsi, DL.rLen, DL.rMin, DL.rMax, DL.rInt, DL.rTuple, DL.rList, DL.rAll, DL.rAny, DL.rSum, DL.dTest, DL.dChain, DL.dAnd, DL.dOr, DL.dNot, DL.dAndV, DL.dOrV, DL.dNotV, DL.dIf, DL.dNext, DL.dSeq, DL.dDrop, DL.dRet, DL.dRetN, DL.dIfS, DL.dAsg, DL.dName, DL.dPar, DL.dPar3, DL.dAug, DL.dgNil, DL.dgCons, DL.dgTup, DL.dSub, DL.dCall, DL.dNeg, DL.dSlice, DL.dPart, DL.dNo, DL.rI2, DL.rII, DL.rAdd, DL.rIsN, DL.rIx, DL.rSet, DL.isi, DL.rEq_int, DL.rEq_str, DL.at0, DL.at1, DL.at2, DL.at3, DL.Tn.nm, DL.dChain, DL.rLtI, DL.rLeI, DL.rGtI, DL.rGeI, DL.rSub, DL.rMul, DL.rMod, DL.rDiv, DL.rPow, List.length_cons, List.length_nil, List.replicate_succ, List.replicate_zero, Nat.reduceAdd, Nat.reduceSub, Nat.zero_add, List.map_cons, List.map_nil, List.cons_append, List.nil_append, List.getElem?_cons_zero, List.getElem?_cons_succ, List.set_cons_zero, List.set_cons_succ, nm__law_take]
  have mb : m.natAbs < 2 ^ 400 := by
    have : (1000000000000000 : Nat) < 2 ^ 400 := by decide +kernel
    omega
  refine ⟨_, .int g, ho, at0, fun z => ?_, fun z => ?_⟩
  · have gp : 0 < g := by simpa using z
    refine ⟨_, .int g, ho, at0, by omega, _, .int g, ho, at0, cdiv_of (by omega) mb, _, 0, ho, rfl, Dr.here (q _ _ ⟨Int.emod_nonneg _ (by omega), Int.emod_lt_of_pos _ (by omega)⟩ ⟨fun a ha => um_ne ha, _, um_same, g / m, s, c, rfl, ⟨Int.ediv_nonneg g1 (by omega), ?_⟩, ⟨s1, s2⟩, c1, by omega⟩)⟩
    exact Int.lt_of_le_of_lt (Int.ediv_le_self _ g1) g2
  · refine ⟨_, .int c, ho, at2, _, 2, ho, rfl, ?_⟩
    have cb : (c + 1).natAbs < 2 ^ 20 := by omega
    have e62 : (2 : Int) ^ 62 = 4611686018427387904 := by decide
    have bc : Bd 20 (c + 1) := ⟨by omega, by have : (2 : Int) ^ 20 = 1048576 := by decide
                                             omega⟩
    have bs : Bd 62 s := ⟨s1, s2⟩
    have b1 : Bd 17 (65537 : Int) := by decide
    have b2 := b1.mul bc
    have b3 := b2.mul bc
    have b4 := (bs.add (b3.mono (by decide : _ ≤ 62))).add ((by decide : Bd 4 (11 : Int)).mono (by decide : _ ≤ 63))
    have b5 : Bd 16 (48271 : Int) := by decide
    have b6 : Bd 61 ((s + 65537 * (c + 1) * (c + 1) + 11) * 48271 % 2305843009213693921) := Bd.mod (a := 2305843009213693921) (by decide) (by decide)
    have b7 : Bd 20 ((s + 65537 * (c + 1) * (c + 1) + 11) * 48271 % 2305843009213693921 % 1000003) := Bd.mod (a := 1000003) (by decide) (by decide)
    have b8 := (by decide : Bd 17 (99991 : Int)).mul bc
    have b9 := (b7.mono (by decide : _ ≤ 37)).add b8
    refine ⟨_, .int s, um_same, at1, _, .int (c + 1), um_same, at2, b1.cmul bc, _, .int (c + 1), um_same, at2, b2.cmul bc, b4.cmul b5, by decide, by decide, _, .int (c + 1), um_same, at2, (by decide : Bd 17 (99991 : Int)).cmul bc, b6.cmul b9, by decide, cdiv_of (by decide) (by decide +kernel), cdiv_of (by decide) (by decide +kernel), by omega, Dr.here (q _ _ ⟨Int.emod_nonneg _ (by omega), Int.emod_lt_of_pos _ (by omega)⟩ ⟨fun a ha => um_ne ha, _, um_same, g, s, c + 1, rfl, ⟨g1, g2⟩, ⟨s1, s2⟩, by omega, by omega⟩)⟩
variable (D__law_take : Cal P w K mg base 1 "_law_take" ps__law_take sp_ltake)
include D__law_take
/-- an int below a billion -/
def sp_number : DSp := fun ds M Q => ∃ (h : Addr) (n : Nat), ds = [.ref h] ∧ Hd M h n ∧ n < 900000 ∧ ∀ d M', (0 ≤ d ∧ d < 1000000000) → HdTo M h (n + 5) M' → Q (.int d) M'
theorem ok_number {f fd} (F : Fun K "_law_number" "_law_number" st__law_number f fd) : DFn P w K mg base 2 f fd ps__law_number sp_number := by
  refine dfn_ok F sc__law_number (fun ds M Q ⟨h, n, e, _⟩ => by rw [e]; rfl) fun cdv A outer s H E hr => ⟨_, (dss_one (ds_ret (de_ix i_ix (de_lst (da_cons (de_cal D__law_take (hr.mono (by decide)) rfl (da_cons (dv 0) (da_cons de_int da_nil))) (da_cons (de_cal D__law_take (hr.mono (by decide)) rfl (da_cons (dv 0) (da_cons de_int da_nil))) (da_cons (de_op o_sub (de_op o_sub (de_op o_pow de_int de_int) de_int) (de_cal D__law_take (hr.mono (by decide)) rfl (da_cons (dv 0) (da_cons de_int da_nil)))) (da_cons (de_cal D__law_take (hr.mono (by decide)) rfl (da_cons (dv 0) (da_cons (de_op o_pow de_int de_int) da_nil))) da_nil))))) (de_cal D__law_take (hr.mono (by decide)) rfl (da_cons (dv 0) (da_cons de_int da_nil)))))), ?_⟩
  rintro ds M Q ⟨h, n, rfl, hh, hn, q⟩
  simp only [DL.dstart, DL.dVar, DL.dC, DL.dNil, DL.dCons, DL.dTup, DL.dLst, DL.dOp, DL.dB, DL.rIsi, DL.rLen, DL.rMin, DL.rMax, DL.rInt, DL.rTuple, DL.rList, DL.rAll, DL.rAny, DL.rSum, DL.dTest, DL.dChain, DL.dAnd, DL.dOr, DL.dNot, DL.dAndV, DL.dOrV, DL.dNotV, DL.dIf, DL.dNext, DL.dSeq, DL.dDrop, DL.dRet, DL.dRetN, DL.dIfS, DL.dAsg, DL.dName, DL.dPar, DL.dPar3, DL.dAug, DL.dgNil, DL.dgCons, DL.dgTup, DL.dSub, DL.dCall, DL.dNeg, DL.dSlice, DL.dPart, DL.dNo, DL.rI2, DL.rII, DL.rAdd, DL.rIsN, DL.rIx, DL.rSet, DL.isi, DL.rEq_int, DL.rEq_str, DL.at0, DL.at1, DL.at2, DL.at3, DL.Tn.nm, DL.dChain, DL.rLtI, DL.rLeI, DL.rGtI, DL.rGeI, DL.rSub, DL.rMul, DL.rMod, DL.rDiv, DL.rPow, List.length_cons, List.length_nil, List.replicate_succ, List.replicate_zero, Nat.reduceAdd, Nat.reduceSub, Nat.zero_add, List.map_cons, List.map_nil, List.cons_append, List.nil_append, List.getElem?_cons_zero, List.getElem?_cons_succ, List.set_cons_zero, List.set_cons_succ, nm__law_number]
  refine ⟨h, 4, n, rfl, hh, by omega, by decide, fun a M1 ha t1 => ⟨h, 60, n + 1, rfl, t1.at_, by omega, by decide, fun b M2 hb t2 => ?_⟩⟩
  refine ⟨⟨by decide, by decide, by decide⟩, h, 2, n + 2, rfl, t2.at_, by omega, by decide, fun c M3 hc t3 => ⟨⟨by decide, by decide, by decide⟩, h, _, n + 3, rfl, t3.at_, by omega, by decide, fun d M4 hd t4 => ⟨small (by decide), h, 4, n + 4, rfl, t4.at_, by omega, by decide, fun e M5 he t5 => ?_⟩⟩⟩
  have tt := ((t1.trans t2).trans t3).trans (t4.trans t5)
  have e9 : (10 : Int) ^ Int.toNat 9 = 1000000000 := by decide
  have hd' : 0 ≤ d ∧ d < 1000000000 := by rw [e9] at hd; exact hd
  have e5 : e = 0 ∨ e = 1 ∨ e = 2 ∨ e = 3 := by omega
  rcases e5 with rfl | rfl | rfl | rfl
  · exact ⟨_, at0, Dr.here (q a _ (by omega) tt)⟩
  · exact ⟨_, at1, Dr.here (q b _ (by omega) tt)⟩
  · exact ⟨_, at2, Dr.here (q _ _ (by rw [e9]; omega) tt)⟩
  · exact ⟨_, at3, Dr.here (q d _ hd' tt)⟩
/-- what a page's coin may be -/
def sp_coin : DSp := fun ds M Q => ∃ (h : Addr) (n : Nat), ds = [.ref h] ∧ Hd M h n ∧ n < 900000 ∧ ∀ d M', (d.dat = true ∧ isCoin d = true) → HdTo M h (n + 4) M' → Q d M'
theorem ok_coin {f fd} (F : Fun K "_law_coin" "_law_coin" st__law_coin f fd) : DFn P w K mg base 2 f fd ps__law_coin sp_coin := by
  refine dfn_ok F sc__law_coin (fun ds M Q ⟨h, n, e, _⟩ => by rw [e]; rfl) fun cdv A outer s H E hr => ⟨_, (dss_cons (ds_set (i := 1) sc__law_coin.nd rfl (by first | exact Or.inl rfl | exact Or.inr rfl) (de_cal D__law_take (hr.mono (by decide)) rfl (da_cons (dv 0) (da_cons (de_op o_pow de_int de_int) da_nil))))
  (dss_one (ds_ret (de_ix i_ix (de_lst (da_cons de_non (da_cons (de_cal D__law_take (hr.mono (by decide)) rfl (da_cons (dv 0) (da_cons de_int da_nil))) (da_cons (de_op o_sub de_int (de_cal D__law_take (hr.mono (by decide)) rfl (da_cons (dv 0) (da_cons de_int da_nil)))) (da_cons (de_op o_sub (de_op o_pow de_int de_int) de_int) (da_cons (de_op o_sub de_int (de_op o_pow de_int de_int)) (da_cons (dv 1) (da_cons (de_op o_sub de_int (dv 1)) da_nil)))))))) (de_cal D__law_take (hr.mono (by decide)) rfl (da_cons (dv 0) (da_cons de_int da_nil))))))), ?_⟩
  rintro ds M Q ⟨h, n, rfl, hh, hn, q⟩
  simp only [DL.dstart, DL.dVar, DL.dC, DL.dNil, DL.dCons, DL.dTup, DL.dLst, DL.dOp, DL.dB, DL.rIsi, DL.rLen, DL.rMin, DL.rMax, DL.rInt, DL.rTuple, DL.rList, DL.rAll, DL.rAny, DL.rSum, DL.dTest, DL.dChain, DL.dAnd, DL.dOr, DL.dNot, DL.dAndV, DL.dOrV, DL.dNotV, DL.dIf, DL.dNext, DL.dSeq, DL.dDrop, DL.dRet, DL.dRetN, DL.dIfS, DL.dAsg, DL.dName, DL.dPar, DL.dPar3, DL.dAug, DL.dgNil, DL.dgCons, DL.dgTup, DL.dSub, DL.dCall, DL.dNeg, DL.dSlice, DL.dPart, DL.dNo, DL.rI2, DL.rII, DL.rAdd, DL.rIsN, DL.rIx, DL.rSet, DL.isi, DL.rEq_int, DL.rEq_str, DL.at0, DL.at1, DL.at2, DL.at3, DL.Tn.nm, DL.dChain, DL.rLtI, DL.rLeI, DL.rGtI, DL.rGeI, DL.rSub, DL.rMul, DL.rMod, DL.rDiv, DL.rPow, List.length_cons, List.length_nil, List.replicate_succ, List.replicate_zero, Nat.reduceAdd, Nat.reduceSub, Nat.zero_add, List.map_cons, List.map_nil, List.cons_append, List.nil_append, List.getElem?_cons_zero, List.getElem?_cons_succ, List.set_cons_zero, List.set_cons_succ, nm__law_coin]
  have e15 : (10 : Int) ^ Int.toNat 15 = 1000000000000000 := by decide
  refine ⟨⟨by decide, by decide, by decide⟩, h, _, n, rfl, hh, by omega, by decide, fun a M1 ha t1 => ⟨h, 5000, n + 1, rfl, t1.at_, by omega, by decide, fun b M2 hb t2 => ⟨h, 5000, n + 2, rfl, t2.at_, by omega, by decide, fun c M3 hc t3 => ?_⟩⟩⟩
  refine ⟨⟨by decide, by decide, by decide⟩, ⟨by decide, by decide, by decide⟩, small (by decide), h, 7, n + 3, rfl, t3.at_, by omega, by decide, fun e M4 he t4 => ?_⟩
  have tt := (t1.trans t2).trans (t3.trans t4)
  rw [e15] at ha
  have ci : ∀ i : Int, -1000000000000000 < i → i < 1000000000000000 → (D.int i).dat = true ∧ isCoin (.int i) = true := fun i h1 h2 => ⟨rfl, by simp [isCoin, h1, h2]⟩
  have e5 : e = 0 ∨ e = 1 ∨ e = 2 ∨ e = 3 ∨ e = 4 ∨ e = 5 ∨ e = 6 := by omega
  rcases e5 with rfl | rfl | rfl | rfl | rfl | rfl | rfl
  · exact ⟨_, at0, Dr.here (q _ _ ⟨rfl, rfl⟩ tt)⟩
  · exact ⟨_, at1, Dr.here (q _ _ (ci _ (by omega) (by omega)) tt)⟩
  · exact ⟨_, at2, Dr.here (q _ _ (ci _ (by omega) (by omega)) tt)⟩
  · exact ⟨_, at3, Dr.here (q _ _ (ci _ (by rw [e15]; omega) (by rw [e15]; omega)) tt)⟩
  · exact ⟨_, at_nat (i := 4) rfl, Dr.here (q _ _ (ci _ (by rw [e15]; omega) (by rw [e15]; omega)) tt)⟩
  · exact ⟨_, at_nat (i := 5) rfl, Dr.here (q _ _ (ci _ (by omega) (by omega)) tt)⟩
  · exact ⟨_, at_nat (i := 6) rfl, Dr.here (q _ _ (ci _ (by omega) (by omega)) tt)⟩
/-- a plan of the law's -/
structure PlanOk (p : Plan) : Prop where
  many : 1 ≤ p.many ∧ p.many ≤ 100
  days : 1 ≤ p.days ∧ p.days ≤ 100
  rates : 1 ≤ p.rates.length ∧ p.rates.length ≤ 50
  racks : 1 ≤ p.racks.length ∧ p.racks.length ≤ 50
  at_ : ∀ r ∈ p.racks, 0 ≤ r.1 ∧ r.1 < p.many
variable (D__law_number : Cal P w K mg base 2 "_law_number" ps__law_number sp_number)
include D__law_number
def sp_tickets : DSp := fun ds M Q => ∃ (h : Addr) (p : Plan) (m : Int) (n : Nat), ds = [.ref h, p.d, .int m] ∧ PlanOk p ∧ Hd M h n ∧ n < 800000 ∧ (1 ≤ m ∧ m ≤ 100) ∧ ∀ xs M', (∀ d ∈ xs, Tk p d) → (xs.length : Int) < m → HdTo M h (n + 1000) M' → Q (.lst xs) M'
theorem ok_tickets {f fd} (F : Fun K "_law_tickets" "_law_tickets" st__law_tickets f fd) : DFn P w K mg base 3 f fd ps__law_tickets sp_tickets := by
  refine dfn_ok F sc__law_tickets (fun ds M Q ⟨h, p, m, n, e, _⟩ => by rw [e]; rfl) fun cdv A outer s H E hr => ⟨_, (dss_one (ds_ret (de_lc (own := [("_law_k", 3)]) rfl sc__law_tickets.nd (di_range rfl T.b_range (da_cons (de_cal D__law_take (hr.mono (by decide)) rfl (da_cons (dv 0) (da_cons (dv 2) da_nil))) da_nil)) (blkOk_by (N := nm__law_tickets) (sc := defScope st__law_tickets) (by decide +kernel)) (fun _ _ _ _ _ => (pg_name (i := 3) sc__law_tickets.nd rfl (by first | exact Or.inl rfl | exact Or.inr rfl))) (tgo_name 3) (fun _ _ _ _ _ => dts_nil) (fun _ _ _ _ _ => (de_tup (da_cons (de_cal D__law_take (hr.mono (by decide)) rfl (da_cons (dv 0) (da_cons (de_B c_len rfl T.b_len Bt.len (da_cons (de_ix i_ix (dv 1) de_int) da_nil)) da_nil))) (da_cons (de_cal D__law_number (hr.mono (by decide)) rfl (da_cons (dv 0) da_nil)) da_nil))))))), ?_⟩
  rintro ds M Q ⟨h, p, m, n, rfl, po, hh, hn, hm, q⟩
  simp only [DL.dstart, DL.dVar, DL.dC, DL.dNil, DL.dCons, DL.dTup, DL.dLst, DL.dOp, DL.dB, DL.rIsi, DL.rLen, DL.rMin, DL.rMax, DL.rInt, DL.rTuple, DL.rList, DL.rAll, DL.rAny, DL.rSum, DL.dTest, DL.dChain, DL.dAnd, DL.dOr, DL.dNot, DL.dAndV, DL.dOrV, DL.dNotV, DL.dIf, DL.dNext, DL.dSeq, DL.dDrop, DL.dRet, DL.dRetN, DL.dIfS, DL.dAsg, DL.dName, DL.dPar, DL.dPar3, DL.dAug, DL.dgNil, DL.dgCons, DL.dgTup, DL.dSub, DL.dCall, DL.dNeg, DL.dSlice, DL.dPart, DL.dNo, DL.rI2, DL.rII, DL.rAdd, DL.rIsN, DL.rIx, DL.rSet, DL.isi, DL.rEq_int, DL.rEq_str, DL.at0, DL.at1, DL.at2, DL.at3, DL.Tn.nm, DL.dChain, DL.rLtI, DL.rLeI, DL.rGtI, DL.rGeI, DL.rSub, DL.rMul, DL.rMod, DL.rDiv, DL.rPow, List.length_cons, List.length_nil, List.replicate_succ, List.replicate_zero, Nat.reduceAdd, Nat.reduceSub, Nat.zero_add, List.map_cons, List.map_nil, List.cons_append, List.nil_append, List.getElem?_cons_zero, List.getElem?_cons_succ, List.set_cons_zero, List.set_cons_succ, nm__law_tickets]
  refine lc_hd (fun _ d => Tk p d) (fun items M1 => (items.length : Int) < m ∧ HdTo M h (n + 1) M1) (h := h) (n := n + 1) (k := 6) (fun Q' hq => ?_) (fun items M1 ⟨z, t1⟩ => ⟨small (by omega), t1.at_⟩) (fun items M1 ⟨z, t1⟩ d hd i M2 Ky Kn hi hext h2 hy => ?_) (fun items M1 ⟨z, t1⟩ ys M' hp ht => ?_)
  · simp only [DL.dstart, DL.dVar, DL.dC, DL.dNil, DL.dCons, DL.dTup, DL.dLst, DL.dOp, DL.dB, DL.rIsi, DL.rLen, DL.rMin, DL.rMax, DL.rInt, DL.rTuple, DL.rList, DL.rAll, DL.rAny, DL.rSum, DL.dTest, DL.dChain, DL.dAnd, DL.dOr, DL.dNot, DL.dAndV, DL.dOrV, DL.dNotV, DL.dIf, DL.dNext, DL.dSeq, DL.dDrop, DL.dRet, DL.dRetN, DL.dIfS, DL.dAsg, DL.dName, DL.dPar, DL.dPar3, DL.dAug, DL.dgNil, DL.dgCons, DL.dgTup, DL.dSub, DL.dCall, DL.dNeg, DL.dSlice, DL.dPart, DL.dNo, DL.rI2, DL.rII, DL.rAdd, DL.rIsN, DL.rIx, DL.rSet, DL.isi, DL.rEq_int, DL.rEq_str, DL.at0, DL.at1, DL.at2, DL.at3, DL.Tn.nm, DL.dChain, DL.rLtI, DL.rLeI, DL.rGtI, DL.rGeI, DL.rSub, DL.rMul, DL.rMod, DL.rDiv, DL.rPow, List.length_cons, List.length_nil, List.replicate_succ, List.replicate_zero, Nat.reduceAdd, Nat.reduceSub, Nat.zero_add, List.map_cons, List.map_nil, List.cons_append, List.nil_append, List.getElem?_cons_zero, List.getElem?_cons_succ, List.set_cons_zero, List.set_cons_succ, iRange]
    refine ⟨h, m, n, rfl, hh, by omega, by omega, fun k M1 hk t1 => ⟨by omega, by omega, hq _ _ ⟨by simp; omega, t1⟩⟩⟩
  · simp only [DL.dstart, DL.dVar, DL.dC, DL.dNil, DL.dCons, DL.dTup, DL.dLst, DL.dOp, DL.dB, DL.rIsi, DL.rLen, DL.rMin, DL.rMax, DL.rInt, DL.rTuple, DL.rList, DL.rAll, DL.rAny, DL.rSum, DL.dTest, DL.dChain, DL.dAnd, DL.dOr, DL.dNot, DL.dAndV, DL.dOrV, DL.dNotV, DL.dIf, DL.dNext, DL.dSeq, DL.dDrop, DL.dRet, DL.dRetN, DL.dIfS, DL.dAsg, DL.dName, DL.dPar, DL.dPar3, DL.dAug, DL.dgNil, DL.dgCons, DL.dgTup, DL.dSub, DL.dCall, DL.dNeg, DL.dSlice, DL.dPart, DL.dNo, DL.rI2, DL.rII, DL.rAdd, DL.rIsN, DL.rIx, DL.rSet, DL.isi, DL.rEq_int, DL.rEq_str, DL.at0, DL.at1, DL.at2, DL.at3, DL.Tn.nm, DL.dChain, DL.rLtI, DL.rLeI, DL.rGtI, DL.rGeI, DL.rSub, DL.rMul, DL.rMod, DL.rDiv, DL.rPow, List.length_cons, List.length_nil, List.replicate_succ, List.replicate_zero, Nat.reduceAdd, Nat.reduceSub, Nat.zero_add, List.map_cons, List.map_nil, List.cons_append, List.nil_append, List.getElem?_cons_zero, List.getElem?_cons_succ, List.set_cons_zero, List.set_cons_succ, dWipe, dYes, Plan.d]
    refine ⟨fun _ => ?_, fun z => nomatch z⟩
    refine ⟨_, rfl, ?_⟩
    simp only [DL.dstart, DL.dVar, DL.dC, DL.dNil, DL.dCons, DL.dTup, DL.dLst, DL.dOp, DL.dB, DL.rIsi, DL.rLen, DL.rMin, DL.rMax, DL.rInt, DL.rTuple, DL.rList, DL.rAll, DL.rAny, DL.rSum, DL.dTest, DL.dChain, DL.dAnd, DL.dOr, DL.dNot, DL.dAndV, DL.dOrV, DL.dNotV, DL.dIf, DL.dNext, DL.dSeq, DL.dDrop, DL.dRet, DL.dRetN, DL.dIfS, DL.dAsg, DL.dName, DL.dPar, DL.dPar3, DL.dAug, DL.dgNil, DL.dgCons, DL.dgTup, DL.dSub, DL.dCall, DL.dNeg, DL.dSlice, DL.dPart, DL.dNo, DL.rI2, DL.rII, DL.rAdd, DL.rIsN, DL.rIx, DL.rSet, DL.isi, DL.rEq_int, DL.rEq_str, DL.at0, DL.at1, DL.at2, DL.at3, DL.Tn.nm, DL.dChain, DL.rLtI, DL.rLeI, DL.rGtI, DL.rGeI, DL.rSub, DL.rMul, DL.rMod, DL.rDiv, DL.rPow, List.length_cons, List.length_nil, List.replicate_succ, List.replicate_zero, Nat.reduceAdd, Nat.reduceSub, Nat.zero_add, List.map_cons, List.map_nil, List.cons_append, List.nil_append, List.getElem?_cons_zero, List.getElem?_cons_succ, List.set_cons_zero, List.set_cons_succ, List.length_map]
    refine ⟨h, _, n + 1 + 6 * i, rfl, h2, by omega, by have := po.racks; omega, fun a M3 ha t3 => ⟨h, n + 1 + 6 * i + 1, rfl, t3.at_, by omega, fun b M4 hb t4 => ⟨small (by decide), hy _ _ ⟨a, b, rfl, ha, hb⟩ ((t3.trans t4).mono (by omega))⟩⟩⟩
  · refine Dr.here (q ys M' (fun d hd => ?_) (by rw [← Paired.length hp]; exact z) ((t1.trans ht).mono (by omega)))
    obtain ⟨i, hi⟩ := List.mem_iff_getElem?.mp hd
    have lt : i < items.length := by rw [Paired.length hp]; exact (List.getElem?_eq_some_iff.mp hi).1
    obtain ⟨y, hy, r⟩ := paired_get hp (List.getElem?_eq_getElem lt)
    rw [hi] at hy; cases hy
    exact r
end
end K7

namespace K7
open PySem PySem.Spec PyProof.Rows L2 DL
/-! ### tickets as a set, sorted -/
theorem tk_nk {p : Plan} : ∀ (xs : List D), (∀ d ∈ xs, Tk p d) → ∃ ks : List NK, xs = ks.map nkD ∧ ∀ k ∈ ks, flatK k = true
  | [], _ => ⟨[], rfl, fun k hk => by cases hk⟩
  | d :: xs, h => by
    obtain ⟨ks, e, f⟩ := tk_nk xs fun x hx => h x (List.mem_cons_of_mem _ hx)
    obtain ⟨a, b, rfl, _⟩ := h d List.mem_cons_self
    refine ⟨.tup [.num a, .num b] :: ks, by rw [List.map_cons, ← e]; rfl, fun k hk => ?_⟩
    rcases List.mem_cons.mp hk with z | z
    · rw [z]; rfl
    · exact f k z
theorem tk_srtOk {p : Plan} {xs : List D} (h : ∀ d ∈ xs, Tk p d) : SrtOk xs where
  dat := fun d hd => by obtain ⟨a, b, rfl, _⟩ := h d hd; rfl
  dep := fun d hd => by obtain ⟨a, b, rfl, _⟩ := h d hd; simp [D.dep, D.deps]
  alike := fun x hx y hy => by
    obtain ⟨d, h1, rfl⟩ := List.mem_map.mp hx
    obtain ⟨e, h2, rfl⟩ := List.mem_map.mp hy
    obtain ⟨a, b, rfl, _⟩ := h d h1
    obtain ⟨a', b', rfl, _⟩ := h e h2
    simp [D.py, D.pys, PySem.W.alike, PySem.W.alikeAll]
  able := .inl fun x hx => by
    obtain ⟨d, h1, rfl⟩ := List.mem_map.mp hx
    obtain ⟨a, b, rfl, _⟩ := h d h1
    exact ⟨_, _, rfl⟩
theorem tk_ints {p : Plan} : ∀ (xs : List D), (∀ d ∈ xs, Tk p d) → ∃ ls : List (Int × Int), xs = ls.map fun l => D.tup [.int l.1, .int l.2]
  | [], _ => ⟨[], rfl⟩
  | d :: xs, h => by
    obtain ⟨ls, e⟩ := tk_ints xs fun x hx => h x (List.mem_cons_of_mem _ hx)
    obtain ⟨a, b, rfl, _⟩ := h d List.mem_cons_self
    exact ⟨(a, b) :: ls, by rw [List.map_cons, ← e]⟩
theorem tk_rise {p : Plan} {L : List D} (h : ∀ d ∈ L, Tk p d) (nd : L.Nodup) : Rise (srt L) := by
  have h' : ∀ d ∈ srt L, Tk p d := fun d hd => h d ((srt_perm L).mem_iff.mp hd)
  have nd' : (srt L).Nodup := (srt_perm L).nodup_iff.mpr nd
  have pw := srt_pw L
  obtain ⟨ls, e⟩ := tk_ints _ h'
  rw [e] at nd' pw
  refine ⟨ls.map fun l => [l.1, l.2], by rw [e, List.map_map]; rfl, fun i a b ha hb => ?_⟩
  rw [List.getElem?_map] at ha hb
  obtain ⟨x, hx, rfl⟩ := Option.map_eq_some_iff.mp ha
  obtain ⟨y, hy, rfl⟩ := Option.map_eq_some_iff.mp hb
  have le := pw_get pw (Nat.lt_succ_self i) (by rw [List.getElem?_map, hx]; rfl) (by rw [List.getElem?_map, hy]; rfl)
  have ne := pw_get nd' (Nat.lt_succ_self i) (by rw [List.getElem?_map, hx]; rfl) (by rw [List.getElem?_map, hy]; rfl)
  rw [leD_ii, decide_eq_true_eq] at le
  have ne2 : ¬ (x.1 = y.1 ∧ x.2 = y.2) := fun z => ne (by dsimp only; rw [z.1, z.2])
  show HT.lexLt [x.1, x.2] [y.1, y.2] = true
  simp only [HT.lexLt_cons, HT.lexLt_nil_nil]
  by_cases e1 : x.1 = y.1
  · rw [if_pos e1, if_neg (fun z => ne2 ⟨e1, z⟩), decide_eq_true_eq]; omega
  · rw [if_neg e1, decide_eq_true_eq]; omega
/-- what sorted(set(xs)) may ask for -/
theorem sortset_tk {p : Plan} {t : DT} {σ : DS} {M M1 : DM} {Q : DK} {xs : List D} (hx : ∀ d ∈ xs, Tk p d) (few : xs.length < 64) (ht : ∀ R : DK, R (.lst xs) M1 → t σ M R) (q : ∀ L, (∀ d ∈ L, Tk p d) → Rise L → L.length ≤ 100 → Q (.lst L) M1) : dSortSet t σ M Q := by
  refine ht _ ⟨few, .inr ?_⟩
  obtain ⟨ks, e, f⟩ := tk_nk xs hx
  refine ⟨ks, e, f, tk_srtOk hx, fun L nd mem => ?_⟩
  have hL : ∀ d ∈ L, Tk p d := fun d hd => hx d ((mem d).mp hd)
  refine q (srt L) (fun d hd => hL d ((srt_perm L).mem_iff.mp hd)) (tk_rise hL nd) ?_
  have := nodup_len L xs nd fun d hd => (mem d).mp hd
  rw [(srt_perm L).length_eq]; omega
section
variable {P : Program} {w : World} {K : PySem.W.Frag} {mg : Str → Option Value} {base : Heap} {C : Addr} (T : TxL K mg C)
include T
variable (D__law_take : Cal P w K mg base 1 "_law_take" ps__law_take sp_ltake) (D__law_number : Cal P w K mg base 2 "_law_number" ps__law_number sp_number) (D__law_tickets : Cal P w K mg base 3 "_law_tickets" ps__law_tickets sp_tickets) (D__law_coin : Cal P w K mg base 2 "_law_coin" ps__law_coin sp_coin)
include D__law_take D__law_number D__law_tickets D__law_coin
def sp_page_of : DSp := fun ds M Q => ∃ (h : Addr) (p : Plan) (n : Nat), ds = [.ref h, p.d] ∧ PlanOk p ∧ Hd M h n ∧ n < 700000 ∧ ∀ d M', PageOk p d → HdTo M h (n + 10000) M' → Q d M'
set_option maxHeartbeats 1000000 in
theorem ok_page_of {f fd} (F : Fun K "_law_page_of" "_law_page_of" st__law_page_of f fd) : DFn P w K mg base 4 f fd ps__law_page_of sp_page_of := by
  refine dfn_ok F sc__law_page_of (fun ds M Q ⟨h, p, n, e, _⟩ => by rw [e]; rfl) fun cdv A outer s H E hr => ⟨_, (dss_cons (ds_par (i := 2) (j := 3) (by rfl) sc__law_page_of.nd rfl rfl (by decide) rfl rfl (da_cons (de_cal D__law_take (hr.mono (by decide)) rfl (da_cons (dv 0) (da_cons (de_ix i_ix (dv 1) de_int) da_nil))) (da_cons (de_sortset rfl hr.u128 rfl T.b_sorted rfl T.b_set (de_lc (own := [("_law_rack", 4)]) rfl sc__law_page_of.nd (di_seq (de_ix i_ix (dv 1) de_int)) (blkOk_by (N := nm__law_page_of) (sc := defScope st__law_page_of) (by decide +kernel)) (fun _ _ _ _ _ => (pg_name (i := 4) sc__law_page_of.nd rfl (by first | exact Or.inl rfl | exact Or.inr rfl))) (tgo_name 4) (fun _ _ _ _ _ => dts_nil) (fun _ _ _ _ _ => (de_ix i_ix (dv 4) de_int)))) da_nil)) (by rfl))
  (dss_cons (ds_if (db_cmp (o_eq hr.units) (de_cal D__law_take (hr.mono (by decide)) rfl (da_cons (dv 0) (da_cons de_int da_nil))) de_int) (dss_cons (ds_par (i := 5) (j := 6) (by rfl) sc__law_page_of.nd rfl rfl (by decide) rfl rfl (da_cons (de_cal D__law_tickets (hr.mono (by decide)) rfl (da_cons (dv 0) (da_cons (dv 1) (da_cons de_int da_nil)))) (da_cons (de_cal D__law_tickets (hr.mono (by decide)) rfl (da_cons (dv 0) (da_cons (dv 1) (da_cons de_int da_nil)))) da_nil)) (by rfl))
  (dss_one (ds_ret (de_tup (da_cons de_str (da_cons (de_cal D__law_take (hr.mono (by decide)) rfl (da_cons (dv 0) (da_cons (de_ix i_ix (de_ix i_ix (dv 1) de_int) de_int) da_nil))) (da_cons (dv 2) (da_cons (de_T c_tuple rfl T.b_tuple Bt.tuple (da_cons (de_sortset rfl hr.u128 rfl T.b_sorted rfl T.b_set (dv 5)) da_nil)) (da_cons (de_T c_tuple rfl T.b_tuple Bt.tuple (da_cons (de_sortset rfl hr.u128 rfl T.b_sorted rfl T.b_set (dv 6)) da_nil)) da_nil))))))))) dss_nil)
  (dss_cons (ds_set (i := 7) sc__law_page_of.nd rfl (by first | exact Or.inl rfl | exact Or.inr rfl) (de_ix i_ix (dv 3) (de_cal D__law_take (hr.mono (by decide)) rfl (da_cons (dv 0) (da_cons (de_B c_len rfl T.b_len Bt.len (da_cons (dv 3) da_nil)) da_nil)))))
  (dss_cons (ds_set (i := 8) sc__law_page_of.nd rfl (by first | exact Or.inl rfl | exact Or.inr rfl) (de_B c_len rfl T.b_len Bt.len (da_cons (de_lc (own := [("_law_rack", 4)]) rfl sc__law_page_of.nd (di_seq (de_ix i_ix (dv 1) de_int)) (blkOk_by (N := nm__law_page_of) (sc := defScope st__law_page_of) (by decide +kernel)) (fun _ _ _ _ _ => (pg_name (i := 4) sc__law_page_of.nd rfl (by first | exact Or.inl rfl | exact Or.inr rfl))) (tgo_name 4) (fun _ _ _ _ _ => (dts_one (db_cmp (o_eq hr.units) (de_ix i_ix (dv 4) de_int) (dv 7)))) (fun _ _ _ _ _ => (dv 4))) da_nil)))
  (dss_cons (ds_set (i := 9) sc__law_page_of.nd rfl (by first | exact Or.inl rfl | exact Or.inr rfl) (de_T c_tuple rfl T.b_tuple Bt.tuple (da_cons (de_lc (own := [("_law_k", 10)]) rfl sc__law_page_of.nd (di_range rfl T.b_range (da_cons (dv 8) da_nil)) (blkOk_by (N := nm__law_page_of) (sc := defScope st__law_page_of) (by decide +kernel)) (fun _ _ _ _ _ => (pg_name (i := 10) sc__law_page_of.nd rfl (by first | exact Or.inl rfl | exact Or.inr rfl))) (tgo_name 10) (fun _ _ _ _ _ => dts_nil) (fun _ _ _ _ _ => (de_ix i_ix (de_lst (da_cons de_non (da_cons (de_cal D__law_number (hr.mono (by decide)) rfl (da_cons (dv 0) da_nil)) da_nil))) (de_cal D__law_take (hr.mono (by decide)) rfl (da_cons (dv 0) (da_cons de_int da_nil)))))) da_nil)))
  (dss_cons (ds_set (i := 11) sc__law_page_of.nd rfl (by first | exact Or.inl rfl | exact Or.inr rfl) (de_ix i_ix (de_lst (da_cons de_non (da_cons (de_cal D__law_number (hr.mono (by decide)) rfl (da_cons (dv 0) da_nil)) da_nil))) (de_cal D__law_take (hr.mono (by decide)) rfl (da_cons (dv 0) (da_cons de_int da_nil)))))
  (dss_cons (ds_set (i := 12) sc__law_page_of.nd rfl (by first | exact Or.inl rfl | exact Or.inr rfl) (de_T c_tuple rfl T.b_tuple Bt.tuple (da_cons (de_lc (own := [("_law_one", 13)]) rfl sc__law_page_of.nd (di_seq (de_cal D__law_tickets (hr.mono (by decide)) rfl (da_cons (dv 0) (da_cons (dv 1) (da_cons de_int da_nil))))) (blkOk_by (N := nm__law_page_of) (sc := defScope st__law_page_of) (by decide +kernel)) (fun _ _ _ _ _ => (pg_name (i := 13) sc__law_page_of.nd rfl (by first | exact Or.inl rfl | exact Or.inr rfl))) (tgo_name 13) (fun _ _ _ _ _ => dts_nil) (fun _ _ _ _ _ => (de_op o_add (dv 13) (de_tup (da_cons (de_cal D__law_take (hr.mono (by decide)) rfl (da_cons (dv 0) (da_cons (de_B c_len rfl T.b_len Bt.len (da_cons (de_ix i_ix (dv 1) de_int) da_nil)) da_nil))) da_nil))))) da_nil)))
  (dss_one (ds_ret (de_tup (da_cons de_str (da_cons (dv 7) (da_cons (dv 2) (da_cons (dv 9) (da_cons (dv 11) (da_cons (dv 12) (da_cons (de_T c_tuple rfl T.b_tuple Bt.tuple (da_cons (de_cal D__law_tickets (hr.mono (by decide)) rfl (da_cons (dv 0) (da_cons (dv 1) (da_cons de_int da_nil)))) da_nil)) (da_cons (de_cal D__law_coin (hr.mono (by decide)) rfl (da_cons (dv 0) da_nil)) da_nil)))))))))))))))))), ?_⟩
  rintro ds M Q ⟨h, p, n, rfl, po, hh, hn, q⟩
  simp only [DL.dstart, DL.dVar, DL.dC, DL.dNil, DL.dCons, DL.dTup, DL.dLst, DL.dOp, DL.dB, DL.rIsi, DL.rLen, DL.rMin, DL.rMax, DL.rInt, DL.rTuple, DL.rList, DL.rAll, DL.rAny, DL.rSum, DL.dTest, DL.dChain, DL.dAnd, DL.dOr, DL.dNot, DL.dAndV, DL.dOrV, DL.dNotV, DL.dIf, DL.dNext, DL.dSeq, DL.dDrop, DL.dRet, DL.dRetN, DL.dIfS, DL.dAsg, DL.dName, DL.dPar, DL.dPar3, DL.dAug, DL.dgNil, DL.dgCons, DL.dgTup, DL.dSub, DL.dCall, DL.dNeg, DL.dSlice, DL.dPart, DL.dNo, DL.rI2, DL.rII, DL.rAdd, DL.rIsN, DL.rIx, DL.rSet, DL.isi, DL.rEq_int, DL.rEq_str, DL.at0, DL.at1, DL.at2, DL.at3, DL.Tn.nm, DL.dChain, DL.rLtI, DL.rLeI, DL.rGtI, DL.rGeI, DL.rSub, DL.rMul, DL.rMod, DL.rDiv, DL.rPow, List.length_cons, List.length_nil, List.replicate_succ, List.replicate_zero, Nat.reduceAdd, Nat.reduceSub, Nat.zero_add, List.map_cons, List.map_nil, List.cons_append, List.nil_append, List.getElem?_cons_zero, List.getElem?_cons_succ, List.set_cons_zero, List.set_cons_succ, nm__law_page_of, Plan.d]
  refine ⟨_, rfl, h, p.days, n, rfl, hh, by omega, by have := po.days; omega, fun day M1 hday t1 => ?_⟩
  -- the offices
  have offs : ∀ (R : DK), (∀ os : List Int, os ≠ [] → os.length ≤ 100 → (∀ o ∈ os, ∃ r ∈ p.racks, r.1 = o) → R (.lst (os.map .int)) M1) → dSortSet (dLc (iSeq (dOp DL.rIx (dVar 1) (dC (D.int 2)))) (dName 4) dYes (dOp DL.rIx (dVar 4) (dC (D.int 0))) [4])
      [some (D.ref h), some p.d, none, none, none, none, none, none, none, none, none, none, none, none] M1 R := fun R hR => by
    refine lc_fm (items := p.racks.map rackD) (fun d => match d with | .tup (a :: _) => some a | _ => none) (fun Q' hq => ?_) (by rw [List.length_map]; exact small (by have := po.racks; omega)) (fun d hd M2 Ky Kn ex hy hn' => ?_) ?_
    · simp only [DL.dstart, DL.dVar, DL.dC, DL.dNil, DL.dCons, DL.dTup, DL.dLst, DL.dOp, DL.dB, DL.rIsi, DL.rLen, DL.rMin, DL.rMax, DL.rInt, DL.rTuple, DL.rList, DL.rAll, DL.rAny, DL.rSum, DL.dTest, DL.dChain, DL.dAnd, DL.dOr, DL.dNot, DL.dAndV, DL.dOrV, DL.dNotV, DL.dIf, DL.dNext, DL.dSeq, DL.dDrop, DL.dRet, DL.dRetN, DL.dIfS, DL.dAsg, DL.dName, DL.dPar, DL.dPar3, DL.dAug, DL.dgNil, DL.dgCons, DL.dgTup, DL.dSub, DL.dCall, DL.dNeg, DL.dSlice, DL.dPart, DL.dNo, DL.rI2, DL.rII, DL.rAdd, DL.rIsN, DL.rIx, DL.rSet, DL.isi, DL.rEq_int, DL.rEq_str, DL.at0, DL.at1, DL.at2, DL.at3, DL.Tn.nm, DL.dChain, DL.rLtI, DL.rLeI, DL.rGtI, DL.rGeI, DL.rSub, DL.rMul, DL.rMod, DL.rDiv, DL.rPow, List.length_cons, List.length_nil, List.replicate_succ, List.replicate_zero, Nat.reduceAdd, Nat.reduceSub, Nat.zero_add, List.map_cons, List.map_nil, List.cons_append, List.nil_append, List.getElem?_cons_zero, List.getElem?_cons_succ, List.set_cons_zero, List.set_cons_succ, iSeq, Plan.d]; exact ⟨_, rfl, hq _ fun _ _ => trivial⟩
    · obtain ⟨r, hr', rfl⟩ := List.mem_map.mp hd
      simp only [DL.dstart, DL.dVar, DL.dC, DL.dNil, DL.dCons, DL.dTup, DL.dLst, DL.dOp, DL.dB, DL.rIsi, DL.rLen, DL.rMin, DL.rMax, DL.rInt, DL.rTuple, DL.rList, DL.rAll, DL.rAny, DL.rSum, DL.dTest, DL.dChain, DL.dAnd, DL.dOr, DL.dNot, DL.dAndV, DL.dOrV, DL.dNotV, DL.dIf, DL.dNext, DL.dSeq, DL.dDrop, DL.dRet, DL.dRetN, DL.dIfS, DL.dAsg, DL.dName, DL.dPar, DL.dPar3, DL.dAug, DL.dgNil, DL.dgCons, DL.dgTup, DL.dSub, DL.dCall, DL.dNeg, DL.dSlice, DL.dPart, DL.dNo, DL.rI2, DL.rII, DL.rAdd, DL.rIsN, DL.rIx, DL.rSet, DL.isi, DL.rEq_int, DL.rEq_str, DL.at0, DL.at1, DL.at2, DL.at3, DL.Tn.nm, DL.dChain, DL.rLtI, DL.rLeI, DL.rGtI, DL.rGeI, DL.rSub, DL.rMul, DL.rMod, DL.rDiv, DL.rPow, List.length_cons, List.length_nil, List.replicate_succ, List.replicate_zero, Nat.reduceAdd, Nat.reduceSub, Nat.zero_add, List.map_cons, List.map_nil, List.cons_append, List.nil_append, List.getElem?_cons_zero, List.getElem?_cons_succ, List.set_cons_zero, List.set_cons_succ, dWipe, dYes, rackD]
      exact ⟨fun _ => ⟨_, rfl, hy _ rfl⟩, fun z => nomatch z⟩
    · have e : (p.racks.map rackD).filterMap (fun d => match d with | .tup (a :: _) => some a | _ => none) = (p.racks.map (·.1)).map .int := by
        rw [List.filterMap_map, List.map_map]
        exact List.filterMap_eq_map (f := fun r : Rack => D.int r.1) ▸ rfl
      rw [e]
      refine ⟨by rw [List.length_map, List.length_map]; have := po.racks; omega, .inl ⟨_, rfl, fun ns' pw mem => hR ns' ?_ ?_ fun o ho => ?_⟩⟩
      · obtain ⟨r0, hr0⟩ := List.exists_mem_of_length_pos (l := p.racks) (by have := po.racks; omega)
        exact List.ne_nil_of_mem ((mem r0.1).mpr (List.mem_map_of_mem hr0))
      · have nd : ns'.Nodup := pw.imp fun h => by omega
        have := nodup_len ns' _ nd fun x hx => (mem x).mp hx
        rw [List.length_map] at this
        have := po.racks
        omega
      · obtain ⟨r, hr', e⟩ := List.mem_map.mp ((mem o).mp ho)
        exact ⟨r, hr', e⟩
  refine offs _ fun os ho hl hm => ?_
  refine ⟨h, 2, n + 1, rfl, t1.at_, by omega, by decide, fun x M2 hx t2 => ?_⟩
  refine ⟨fun z => ?_, fun z => ?_⟩
  · -- a gate's page
    refine ⟨h, p, 4, n + 2, rfl, po, t2.at_, by omega, by decide, fun cuts M3 hc lc t3 => ⟨h, p, 4, n + 1002, rfl, po, t3.at_, by omega, by decide, fun ends M4 he le t4 => ⟨_, rfl, _, rfl, h, p.many, n + 2002, rfl, t4.at_, by omega, by have := po.many; omega, fun place M5 hp t5 => ?_⟩⟩⟩
    refine sortset_tk (xs := cuts) hc (by omega) (fun R hR => hR) fun L1 k1 r1 l1 => ?_
    refine sortset_tk (xs := ends) he (by omega) (fun R hR => hR) fun L2 k2 r2 l2 => ?_
    exact ⟨small (by decide), Dr.here (q _ _ (.gate hp hday k1 r1 k2 r2 ⟨l1, l2⟩) (((t1.trans t2).trans (t3.trans (t4.trans t5))).mono (by omega)))⟩
  · -- an office's page
    refine ⟨h, _, n + 2, rfl, t2.at_, by omega, ?_, fun ix M3 hi t3 => ?_⟩
    · rw [List.length_map]
      have := List.length_pos_iff.mpr ho
      omega
    obtain ⟨d0, hd0, hat⟩ := at_lt hi.1 hi.2
    obtain ⟨o, hom, rfl⟩ := List.mem_map.mp hd0
    refine ⟨_, hat, ?_⟩
    obtain ⟨r0, hr0, hro⟩ := hm o hom
    have hpl := po.at_ r0 hr0
    rw [hro] at hpl
    refine lc_fm (items := p.racks.map rackD) (fun d => match d with | .tup (.int a :: _) => if a = o then some d else none | _ => none) (fun Q' hq => ?_) (by rw [List.length_map]; exact small (by have := po.racks; omega)) (fun d hd M2' Ky Kn ex hy hn' => ?_) ?_
    · simp only [DL.dstart, DL.dVar, DL.dC, DL.dNil, DL.dCons, DL.dTup, DL.dLst, DL.dOp, DL.dB, DL.rIsi, DL.rLen, DL.rMin, DL.rMax, DL.rInt, DL.rTuple, DL.rList, DL.rAll, DL.rAny, DL.rSum, DL.dTest, DL.dChain, DL.dAnd, DL.dOr, DL.dNot, DL.dAndV, DL.dOrV, DL.dNotV, DL.dIf, DL.dNext, DL.dSeq, DL.dDrop, DL.dRet, DL.dRetN, DL.dIfS, DL.dAsg, DL.dName, DL.dPar, DL.dPar3, DL.dAug, DL.dgNil, DL.dgCons, DL.dgTup, DL.dSub, DL.dCall, DL.dNeg, DL.dSlice, DL.dPart, DL.dNo, DL.rI2, DL.rII, DL.rAdd, DL.rIsN, DL.rIx, DL.rSet, DL.isi, DL.rEq_int, DL.rEq_str, DL.at0, DL.at1, DL.at2, DL.at3, DL.Tn.nm, DL.dChain, DL.rLtI, DL.rLeI, DL.rGtI, DL.rGeI, DL.rSub, DL.rMul, DL.rMod, DL.rDiv, DL.rPow, List.length_cons, List.length_nil, List.replicate_succ, List.replicate_zero, Nat.reduceAdd, Nat.reduceSub, Nat.zero_add, List.map_cons, List.map_nil, List.cons_append, List.nil_append, List.getElem?_cons_zero, List.getElem?_cons_succ, List.set_cons_zero, List.set_cons_succ, iSeq]; exact ⟨_, rfl, hq _ fun _ _ => trivial⟩
    · obtain ⟨r, hr', rfl⟩ := List.mem_map.mp hd
      simp only [DL.dstart, DL.dVar, DL.dC, DL.dNil, DL.dCons, DL.dTup, DL.dLst, DL.dOp, DL.dB, DL.rIsi, DL.rLen, DL.rMin, DL.rMax, DL.rInt, DL.rTuple, DL.rList, DL.rAll, DL.rAny, DL.rSum, DL.dTest, DL.dChain, DL.dAnd, DL.dOr, DL.dNot, DL.dAndV, DL.dOrV, DL.dNotV, DL.dIf, DL.dNext, DL.dSeq, DL.dDrop, DL.dRet, DL.dRetN, DL.dIfS, DL.dAsg, DL.dName, DL.dPar, DL.dPar3, DL.dAug, DL.dgNil, DL.dgCons, DL.dgTup, DL.dSub, DL.dCall, DL.dNeg, DL.dSlice, DL.dPart, DL.dNo, DL.rI2, DL.rII, DL.rAdd, DL.rIsN, DL.rIx, DL.rSet, DL.isi, DL.rEq_int, DL.rEq_str, DL.at0, DL.at1, DL.at2, DL.at3, DL.Tn.nm, DL.dChain, DL.rLtI, DL.rLeI, DL.rGtI, DL.rGeI, DL.rSub, DL.rMul, DL.rMod, DL.rDiv, DL.rPow, List.length_cons, List.length_nil, List.replicate_succ, List.replicate_zero, Nat.reduceAdd, Nat.reduceSub, Nat.zero_add, List.map_cons, List.map_nil, List.cons_append, List.nil_append, List.getElem?_cons_zero, List.getElem?_cons_succ, List.set_cons_zero, List.set_cons_succ, dWipe, rackD] at hy hn' ⊢
      refine ⟨_, rfl, fun z => hy _ ?_, fun z => hn' ?_⟩
      · have e : r.1 = o := by simpa using z
        simp [e]
      · have e : ¬ r.1 = o := by simpa using z
        simp [e]
    have cnt : ∀ rs : List Rack, ((rs.map rackD).filterMap fun d => match d with | .tup (.int a :: _) => if a = o then some d else none | _ => none).length = (rs.filter fun r => r.1 = o).length := by
      intro rs
      induction rs with
      | nil => rfl
      | cons r rs ih =>
        rw [List.map_cons]
        by_cases e : r.1 = o
        · rw [List.filterMap_cons_some (b := rackD r) (by simp [rackD, e]), List.length_cons, ih]; simp [e]
        · rw [List.filterMap_cons_none (by simp [rackD, e]), ih]; simp [e]
    have cp : 0 < racksAt p o := by
      unfold racksAt
      exact List.length_pos_of_mem (List.mem_filter.mpr ⟨hr0, by simp [hro]⟩)
    have cb : racksAt p o ≤ 50 := by
      have := List.length_filter_le (fun r : Rack => decide (r.1 = o)) p.racks
      have := po.racks
      unfold racksAt; omega
    have cnt := cnt p.racks
    generalize ((p.racks.map rackD).filterMap fun d => match d with | .tup (.int a :: _) => if a = o then some d else none | _ => none) = mine at cnt ⊢
    have cnt : mine.length = racksAt p o := cnt
    dsimp only
    refine lc_hd (fun _ d => d.dat = true ∧ isTold d = true) (fun items M1' => items.length = racksAt p o ∧ M1' = M3) (h := h) (n := n + 3) (k := 6) (fun Q' hq => ?_) (fun items M1' ⟨z, e⟩ => ⟨small (by omega), by rw [e]; exact t3.at_⟩) (fun items M1' ⟨z, e⟩ d hd i M2' Ky Kn hi' hext h2 hy => ?_) (fun items M1' ⟨z, e⟩ closings M4 hp t4 => ?_)
    · simp only [DL.dstart, DL.dVar, DL.dC, DL.dNil, DL.dCons, DL.dTup, DL.dLst, DL.dOp, DL.dB, DL.rIsi, DL.rLen, DL.rMin, DL.rMax, DL.rInt, DL.rTuple, DL.rList, DL.rAll, DL.rAny, DL.rSum, DL.dTest, DL.dChain, DL.dAnd, DL.dOr, DL.dNot, DL.dAndV, DL.dOrV, DL.dNotV, DL.dIf, DL.dNext, DL.dSeq, DL.dDrop, DL.dRet, DL.dRetN, DL.dIfS, DL.dAsg, DL.dName, DL.dPar, DL.dPar3, DL.dAug, DL.dgNil, DL.dgCons, DL.dgTup, DL.dSub, DL.dCall, DL.dNeg, DL.dSlice, DL.dPart, DL.dNo, DL.rI2, DL.rII, DL.rAdd, DL.rIsN, DL.rIx, DL.rSet, DL.isi, DL.rEq_int, DL.rEq_str, DL.at0, DL.at1, DL.at2, DL.at3, DL.Tn.nm, DL.dChain, DL.rLtI, DL.rLeI, DL.rGtI, DL.rGeI, DL.rSub, DL.rMul, DL.rMod, DL.rDiv, DL.rPow, List.length_cons, List.length_nil, List.replicate_succ, List.replicate_zero, Nat.reduceAdd, Nat.reduceSub, Nat.zero_add, List.map_cons, List.map_nil, List.cons_append, List.nil_append, List.getElem?_cons_zero, List.getElem?_cons_succ, List.set_cons_zero, List.set_cons_succ, iRange]
      exact ⟨by omega, by omega, hq _ _ ⟨by simp; omega, rfl⟩⟩
    · simp only [DL.dstart, DL.dVar, DL.dC, DL.dNil, DL.dCons, DL.dTup, DL.dLst, DL.dOp, DL.dB, DL.rIsi, DL.rLen, DL.rMin, DL.rMax, DL.rInt, DL.rTuple, DL.rList, DL.rAll, DL.rAny, DL.rSum, DL.dTest, DL.dChain, DL.dAnd, DL.dOr, DL.dNot, DL.dAndV, DL.dOrV, DL.dNotV, DL.dIf, DL.dNext, DL.dSeq, DL.dDrop, DL.dRet, DL.dRetN, DL.dIfS, DL.dAsg, DL.dName, DL.dPar, DL.dPar3, DL.dAug, DL.dgNil, DL.dgCons, DL.dgTup, DL.dSub, DL.dCall, DL.dNeg, DL.dSlice, DL.dPart, DL.dNo, DL.rI2, DL.rII, DL.rAdd, DL.rIsN, DL.rIx, DL.rSet, DL.isi, DL.rEq_int, DL.rEq_str, DL.at0, DL.at1, DL.at2, DL.at3, DL.Tn.nm, DL.dChain, DL.rLtI, DL.rLeI, DL.rGtI, DL.rGeI, DL.rSub, DL.rMul, DL.rMod, DL.rDiv, DL.rPow, List.length_cons, List.length_nil, List.replicate_succ, List.replicate_zero, Nat.reduceAdd, Nat.reduceSub, Nat.zero_add, List.map_cons, List.map_nil, List.cons_append, List.nil_append, List.getElem?_cons_zero, List.getElem?_cons_succ, List.set_cons_zero, List.set_cons_succ, dWipe, dYes]
      refine ⟨fun _ => ⟨h, n + 3 + 6 * i, rfl, h2, by omega, fun v M5 hv t5 => ⟨small (by decide), h, 2, _, rfl, t5.at_, by omega, by decide, fun b M6 hb t6 => ?_⟩⟩, fun z => nomatch z⟩
      have tt : HdTo M2' h (n + 3 + 6 * (i + 1)) M6 := (t5.trans t6).mono (by omega)
      have e2 : b = 0 ∨ b = 1 := by omega
      rcases e2 with rfl | rfl
      · exact ⟨_, at0, hy _ _ ⟨rfl, rfl⟩ tt⟩
      · exact ⟨_, at1, hy _ _ ⟨rfl, by simp [isTold, isUnder, hv]⟩ tt⟩
    subst e
    have lc : closings.length = racksAt p o := by rw [← Paired.length hp, z]
    have hcl : ∀ d ∈ closings, d.dat = true ∧ isTold d = true := fun d hd => by
      obtain ⟨i, hi⟩ := List.mem_iff_getElem?.mp hd
      have lt : i < items.length := by rw [Paired.length hp]; exact (List.getElem?_eq_some_iff.mp hi).1
      obtain ⟨y, hy, r⟩ := paired_get hp (List.getElem?_eq_getElem lt)
      rw [hi] at hy; cases hy
      exact r
    have t4 : HdTo M1' h (n + 400) M4 := t4.mono (by omega)
    have tA : HdTo M h (n + 400) M4 := (t1.trans t2).trans (t3.trans t4)
    refine ⟨h, n + 400, rfl, t4.at_, by omega, fun v M5 hv t5 => ⟨small (by decide), h, 2, n + 405, rfl, t5.at_, by omega, by decide, fun b M6 hb t6 => ?_⟩⟩
    have pr : ∃ pressed, atI [D.non, D.int v] b = some pressed ∧ pressed.dat = true ∧ isTold pressed = true := by
      have e2 : b = 0 ∨ b = 1 := by omega
      rcases e2 with rfl | rfl
      · exact ⟨_, at0, rfl, rfl⟩
      · exact ⟨_, at1, rfl, by simp [isTold, isUnder, hv]⟩
    obtain ⟨pressed, hpr, pok⟩ := pr
    refine ⟨pressed, hpr, ?_⟩
    have tB : HdTo M h (n + 406) M6 := tA.trans (t5.trans t6)
    refine lc_hd (fun _ d => Bt3 p d) (fun items M1'' => (∀ d ∈ items, Tk p d) ∧ items.length < 4 ∧ HdTo M6 h (n + 1406) M1'') (h := h) (n := n + 1406) (k := 1) (fun Q' hq => ?_) (fun items M1'' ⟨z1, z2, e⟩ => ⟨small (by omega), e.at_⟩) (fun items M1'' ⟨z1, z2, e⟩ d hd i M2' Ky Kn hi' hext h2 hy => ?_) (fun items M1'' ⟨z1, z2, e⟩ betters M7 hp2 t7 => ?_)
    · simp only [DL.dstart, DL.dVar, DL.dC, DL.dNil, DL.dCons, DL.dTup, DL.dLst, DL.dOp, DL.dB, DL.rIsi, DL.rLen, DL.rMin, DL.rMax, DL.rInt, DL.rTuple, DL.rList, DL.rAll, DL.rAny, DL.rSum, DL.dTest, DL.dChain, DL.dAnd, DL.dOr, DL.dNot, DL.dAndV, DL.dOrV, DL.dNotV, DL.dIf, DL.dNext, DL.dSeq, DL.dDrop, DL.dRet, DL.dRetN, DL.dIfS, DL.dAsg, DL.dName, DL.dPar, DL.dPar3, DL.dAug, DL.dgNil, DL.dgCons, DL.dgTup, DL.dSub, DL.dCall, DL.dNeg, DL.dSlice, DL.dPart, DL.dNo, DL.rI2, DL.rII, DL.rAdd, DL.rIsN, DL.rIx, DL.rSet, DL.isi, DL.rEq_int, DL.rEq_str, DL.at0, DL.at1, DL.at2, DL.at3, DL.Tn.nm, DL.dChain, DL.rLtI, DL.rLeI, DL.rGtI, DL.rGeI, DL.rSub, DL.rMul, DL.rMod, DL.rDiv, DL.rPow, List.length_cons, List.length_nil, List.replicate_succ, List.replicate_zero, Nat.reduceAdd, Nat.reduceSub, Nat.zero_add, List.map_cons, List.map_nil, List.cons_append, List.nil_append, List.getElem?_cons_zero, List.getElem?_cons_succ, List.set_cons_zero, List.set_cons_succ, iSeq]
      exact ⟨h, p, 4, n + 406, rfl, po, tB.at_, by omega, by decide, fun xs M8 hx lx t8 => hq _ _ ⟨hx, by omega, t8⟩⟩
    · simp only [DL.dstart, DL.dVar, DL.dC, DL.dNil, DL.dCons, DL.dTup, DL.dLst, DL.dOp, DL.dB, DL.rIsi, DL.rLen, DL.rMin, DL.rMax, DL.rInt, DL.rTuple, DL.rList, DL.rAll, DL.rAny, DL.rSum, DL.dTest, DL.dChain, DL.dAnd, DL.dOr, DL.dNot, DL.dAndV, DL.dOrV, DL.dNotV, DL.dIf, DL.dNext, DL.dSeq, DL.dDrop, DL.dRet, DL.dRetN, DL.dIfS, DL.dAsg, DL.dName, DL.dPar, DL.dPar3, DL.dAug, DL.dgNil, DL.dgCons, DL.dgTup, DL.dSub, DL.dCall, DL.dNeg, DL.dSlice, DL.dPart, DL.dNo, DL.rI2, DL.rII, DL.rAdd, DL.rIsN, DL.rIx, DL.rSet, DL.isi, DL.rEq_int, DL.rEq_str, DL.at0, DL.at1, DL.at2, DL.at3, DL.Tn.nm, DL.dChain, DL.rLtI, DL.rLeI, DL.rGtI, DL.rGeI, DL.rSub, DL.rMul, DL.rMod, DL.rDiv, DL.rPow, List.length_cons, List.length_nil, List.replicate_succ, List.replicate_zero, Nat.reduceAdd, Nat.reduceSub, Nat.zero_add, List.map_cons, List.map_nil, List.cons_append, List.nil_append, List.getElem?_cons_zero, List.getElem?_cons_succ, List.set_cons_zero, List.set_cons_succ, dWipe, dYes]
      obtain ⟨a, b', rfl, ha, hb'⟩ := z1 d hd
      refine ⟨fun _ => ⟨_, rfl, h, _, n + 1406 + 1 * i, rfl, h2, by omega, by rw [List.length_map]; have := po.rates; omega, fun c M8 hc t8 => ⟨small (by simp), small (by simp), hy _ _ ⟨a, b', c, rfl, ha, hb', by rw [List.length_map] at hc; exact hc⟩ (t8.mono (by omega))⟩⟩, fun z => nomatch z⟩
    have hbt : ∀ d ∈ betters, Bt3 p d := fun d hd => by
      obtain ⟨i, hi⟩ := List.mem_iff_getElem?.mp hd
      have lt : i < items.length := by rw [Paired.length hp2]; exact (List.getElem?_eq_some_iff.mp hi).1
      obtain ⟨y, hy, r⟩ := paired_get hp2 (List.getElem?_eq_getElem lt)
      rw [hi] at hy; cases hy
      exact r
    have lb : betters.length < 4 := by rw [← Paired.length hp2]; exact z2
    have tC : HdTo M h (n + 1410) M7 := tB.trans (e.trans (t7.mono (by omega)))
    refine ⟨h, p, 3, n + 1410, rfl, po, tC.at_, by omega, by decide, fun backs M8 hbk lbk t8 => ⟨h, n + 2410, rfl, t8.at_, by omega, fun coin M9 hcn t9 => ⟨small (by decide), Dr.here (q _ _ ?_ ((tC.trans (t8.trans t9)).mono (by omega)))⟩⟩⟩
    exact .office hpl hday hcl lc (List.ne_nil_of_length_pos (by omega)) pok hbt hbk hcn ⟨by omega, by omega, by omega⟩ (by have := po.racks; omega)
end
end K7

namespace K7
open PySem PySem.Spec PyProof.Rows L2 DL
section
variable {P : Program} {w : World} {K : PySem.W.Frag} {mg : Str → Option Value} {base : Heap} {C : Addr} (T : TxL K mg C)
include T
variable (D__law_take : Cal P w K mg base 1 "_law_take" ps__law_take sp_ltake) (D__law_number : Cal P w K mg base 2 "_law_number" ps__law_number sp_number) (D__law_tickets : Cal P w K mg base 3 "_law_tickets" ps__law_tickets sp_tickets) (D__law_coin : Cal P w K mg base 2 "_law_coin" ps__law_coin sp_coin)
include D__law_take D__law_number D__law_tickets D__law_coin
def sp_mate : DSp := fun ds M Q => ∃ (h : Addr) (p : Plan) (e : D) (n : Nat), ds = [.ref h, p.d, e] ∧ PlanOk p ∧ PageOk p e ∧ Hd M h n ∧ n < 700000 ∧ ∀ d M', PageOk p d → HdTo M h (n + 10000) M' → Q d M'
theorem ok_mate {f fd} (F : Fun K "_law_mate" "_law_mate" st__law_mate f fd) : DFn P w K mg base 4 f fd ps__law_mate sp_mate := by
  refine dfn_ok F sc__law_mate (fun ds M Q ⟨h, p, e, n, e', _⟩ => by rw [e']; rfl) fun cdv A outer s H E hr => ⟨_, (dss_cons (ds_if (db_cmp (o_eq hr.units) (de_ix i_ix (dv 2) de_int) de_str) (dss_cons (ds_par (i := 3) (j := 4) (by rfl) sc__law_mate.nd rfl rfl (by decide) rfl rfl (da_cons (de_cal D__law_tickets (hr.mono (by decide)) rfl (da_cons (dv 0) (da_cons (dv 1) (da_cons de_int da_nil)))) (da_cons (de_cal D__law_tickets (hr.mono (by decide)) rfl (da_cons (dv 0) (da_cons (dv 1) (da_cons de_int da_nil)))) da_nil)) (by rfl))
  (dss_one (ds_ret (de_op o_add (de_slice (dv 2) po_no (po_pt de_int)) (de_tup (da_cons (de_T c_tuple rfl T.b_tuple Bt.tuple (da_cons (de_sortset rfl hr.u128 rfl T.b_sorted rfl T.b_set (dv 3)) da_nil)) (da_cons (de_T c_tuple rfl T.b_tuple Bt.tuple (da_cons (de_sortset rfl hr.u128 rfl T.b_sorted rfl T.b_set (dv 4)) da_nil)) da_nil))))))) dss_nil)
  (dss_cons (ds_if (db_cmp (o_eq hr.units) (de_cal D__law_take (hr.mono (by decide)) rfl (da_cons (dv 0) (da_cons de_int da_nil))) de_int) (dss_one (ds_ret (de_op o_add (de_op o_add (de_slice (dv 2) po_no (po_pt de_int)) (de_tup (da_cons (de_ix i_ix (de_lst (da_cons de_non (da_cons (de_cal D__law_number (hr.mono (by decide)) rfl (da_cons (dv 0) da_nil)) da_nil))) (de_cal D__law_take (hr.mono (by decide)) rfl (da_cons (dv 0) (da_cons de_int da_nil)))) da_nil))) (de_slice (dv 2) (po_pt de_int) po_no)))) dss_nil)
  (dss_one (ds_ret (de_op o_add (de_slice (dv 2) po_no (po_pt de_int)) (de_tup (da_cons (de_cal D__law_coin (hr.mono (by decide)) rfl (da_cons (dv 0) da_nil)) da_nil))))))), ?_⟩
  rintro ds M Q ⟨h, p, e, n, rfl, po, ok, hh, hn, q⟩
  cases ok with
  | @gate place day cuts ends h1 h2 h3 h4 h5 h6 h7 =>
    simp only [DL.dstart, DL.dVar, DL.dC, DL.dNil, DL.dCons, DL.dTup, DL.dLst, DL.dOp, DL.dB, DL.rIsi, DL.rLen, DL.rMin, DL.rMax, DL.rInt, DL.rTuple, DL.rList, DL.rAll, DL.rAny, DL.rSum, DL.dTest, DL.dChain, DL.dAnd, DL.dOr, DL.dNot, DL.dAndV, DL.dOrV, DL.dNotV, DL.dIf, DL.dNext, DL.dSeq, DL.dDrop, DL.dRet, DL.dRetN, DL.dIfS, DL.dAsg, DL.dName, DL.dPar, DL.dPar3, DL.dAug, DL.dgNil, DL.dgCons, DL.dgTup, DL.dSub, DL.dCall, DL.dNeg, DL.dSlice, DL.dPart, DL.dNo, DL.rI2, DL.rII, DL.rAdd, DL.rIsN, DL.rIx, DL.rSet, DL.isi, DL.rEq_int, DL.rEq_str, DL.at0, DL.at1, DL.at2, DL.at3, DL.Tn.nm, DL.dChain, DL.rLtI, DL.rLeI, DL.rGtI, DL.rGeI, DL.rSub, DL.rMul, DL.rMod, DL.rDiv, DL.rPow, List.length_cons, List.length_nil, List.replicate_succ, List.replicate_zero, Nat.reduceAdd, Nat.reduceSub, Nat.zero_add, List.map_cons, List.map_nil, List.cons_append, List.nil_append, List.getElem?_cons_zero, List.getElem?_cons_succ, List.set_cons_zero, List.set_cons_succ, nm__law_mate, cutT3, List.take]
    refine ⟨_, rfl, fun _ => ?_, fun z => nomatch z⟩
    refine ⟨h, p, 3, n, rfl, po, hh, by omega, by decide, fun xs M1 hx lx t1 => ⟨h, p, 3, n + 1000, rfl, po, t1.at_, by omega, by decide, fun ys M2 hy ly t2 => ?_⟩⟩
    refine sortset_tk (xs := xs) hx (by omega) (fun R hR => hR) fun L1 k1 r1 l1 => ?_
    refine sortset_tk (xs := ys) hy (by omega) (fun R hR => hR) fun L2 k2 r2 l2 => ?_
    exact ⟨small (by decide), small (by simp), Dr.here (q _ _ (.gate h1 h2 k1 r1 k2 r2 ⟨l1, l2⟩) ((t1.trans t2).mono (by omega)))⟩
  | @office place day closings betters backs pressed coin h1 h2 h3 h4 h5 h6 h7 h8 h9 h10 h11 =>
    simp only [DL.dstart, DL.dVar, DL.dC, DL.dNil, DL.dCons, DL.dTup, DL.dLst, DL.dOp, DL.dB, DL.rIsi, DL.rLen, DL.rMin, DL.rMax, DL.rInt, DL.rTuple, DL.rList, DL.rAll, DL.rAny, DL.rSum, DL.dTest, DL.dChain, DL.dAnd, DL.dOr, DL.dNot, DL.dAndV, DL.dOrV, DL.dNotV, DL.dIf, DL.dNext, DL.dSeq, DL.dDrop, DL.dRet, DL.dRetN, DL.dIfS, DL.dAsg, DL.dName, DL.dPar, DL.dPar3, DL.dAug, DL.dgNil, DL.dgCons, DL.dgTup, DL.dSub, DL.dCall, DL.dNeg, DL.dSlice, DL.dPart, DL.dNo, DL.rI2, DL.rII, DL.rAdd, DL.rIsN, DL.rIx, DL.rSet, DL.isi, DL.rEq_int, DL.rEq_str, DL.at0, DL.at1, DL.at2, DL.at3, DL.Tn.nm, DL.dChain, DL.rLtI, DL.rLeI, DL.rGtI, DL.rGeI, DL.rSub, DL.rMul, DL.rMod, DL.rDiv, DL.rPow, List.length_cons, List.length_nil, List.replicate_succ, List.replicate_zero, Nat.reduceAdd, Nat.reduceSub, Nat.zero_add, List.map_cons, List.map_nil, List.cons_append, List.nil_append, List.getElem?_cons_zero, List.getElem?_cons_succ, List.set_cons_zero, List.set_cons_succ, nm__law_mate, cutT4, cutF5, cutT7, List.take, List.drop]
    refine ⟨_, rfl, fun z => absurd z (by decide +kernel), fun _ => ?_⟩
    refine ⟨h, 2, n, rfl, hh, by omega, by decide, fun x M1 hx t1 => ⟨fun z => ?_, fun z => ?_⟩⟩
    · refine ⟨h, n + 1, rfl, t1.at_, by omega, fun v M2 hv t2 => ⟨small (by decide), h, 2, n + 6, rfl, t2.at_, by omega, by decide, fun b M3 hb t3 => ?_⟩⟩
      have pr : ∃ pr, atI [D.non, D.int v] b = some pr ∧ pr.dat = true ∧ isTold pr = true := by
        have e2 : b = 0 ∨ b = 1 := by omega
        rcases e2 with rfl | rfl
        · exact ⟨_, at0, rfl, rfl⟩
        · exact ⟨_, at1, rfl, by simp [isTold, isUnder, hv]⟩
      obtain ⟨pr, hpr, pok⟩ := pr
      exact ⟨pr, hpr, small (by simp), small (by simp), small (by simp), Dr.here (q _ _ (.office h1 h2 h3 h4 h5 pok h7 h8 h9 h10 h11) (((t1.trans t2).trans t3).mono (by omega)))⟩
    · exact ⟨h, n + 1, rfl, t1.at_, by omega, fun c M2 hc t2 => ⟨small (by simp), small (by simp), Dr.here (q _ _ (.office h1 h2 h3 h4 h5 h6 h7 h8 hc h10 h11) ((t1.trans t2).mono (by omega)))⟩⟩
variable (D__law_page_of : Cal P w K mg base 4 "_law_page_of" ps__law_page_of sp_page_of) (D__law_mate : Cal P w K mg base 4 "_law_mate" ps__law_mate sp_mate)
include D__law_page_of D__law_mate
def sp_pool : DSp := fun ds M Q => ∃ (h : Addr) (p : Plan) (n : Nat), ds = [.ref h, p.d] ∧ PlanOk p ∧ Hd M h n ∧ n < 400000 ∧ ∀ ps M', (∀ d ∈ ps, PageOk p d) → ps ≠ [] → ps.length ≤ 100 → HdTo M h (n + 200000) M' → Q (.lst ps) M'
theorem ok_pool {f fd} (F : Fun K "_law_pool" "_law_pool" st__law_pool f fd) : DFn P w K mg base 5 f fd ps__law_pool sp_pool := by
  refine dfn_ok F sc__law_pool (fun ds M Q ⟨h, p, n, e', _⟩ => by rw [e']; rfl) fun cdv A outer s H E hr => ⟨_, (dss_cons (ds_set (i := 2) sc__law_pool.nd rfl (by first | exact Or.inl rfl | exact Or.inr rfl) (de_lstM da_nil))
  (dss_cons (ds_for PassesOwn.never rfl (di_range rfl T.b_range (da_cons (de_op o_add de_int (de_cal D__law_take (hr.mono (by decide)) rfl (da_cons (dv 0) (da_cons de_int da_nil)))) da_nil)) (dg_name (i := 3) sc__law_pool.nd rfl (by first | exact Or.inl rfl | exact Or.inr rfl)) (dss_cons (ds_expr (de_bml PySem.F.plainAttrs_list PySem.F.slot_list_append PySem.F.type_list_append m_append (dv 2) (da_cons (de_cal D__law_page_of (hr.mono (by decide)) rfl (da_cons (dv 0) (da_cons (dv 1) da_nil))) da_nil)))
  (dss_one (ds_for PassesOwn.never rfl (di_range rfl T.b_range (da_cons (de_cal D__law_take (hr.mono (by decide)) rfl (da_cons (dv 0) (da_cons de_int da_nil))) da_nil)) (dg_name (i := 4) sc__law_pool.nd rfl (by first | exact Or.inl rfl | exact Or.inr rfl)) (dss_one (ds_expr (de_bml PySem.F.plainAttrs_list PySem.F.slot_list_append PySem.F.type_list_append m_append (dv 2) (da_cons (de_cal D__law_mate (hr.mono (by decide)) rfl (da_cons (dv 0) (da_cons (dv 1) (da_cons (de_ix i_ix (dv 2) (de_neg de_int)) da_nil)))) da_nil))))))))
  (dss_one (ds_ret (dv 2))))), ?_⟩
  rintro ds M Q ⟨h, p, n, rfl, po, hh, hn, q⟩
  simp only [DL.dstart, DL.dVar, DL.dC, DL.dNil, DL.dCons, DL.dTup, DL.dLst, DL.dOp, DL.dB, DL.rIsi, DL.rLen, DL.rMin, DL.rMax, DL.rInt, DL.rTuple, DL.rList, DL.rAll, DL.rAny, DL.rSum, DL.dTest, DL.dChain, DL.dAnd, DL.dOr, DL.dNot, DL.dAndV, DL.dOrV, DL.dNotV, DL.dIf, DL.dNext, DL.dSeq, DL.dDrop, DL.dRet, DL.dRetN, DL.dIfS, DL.dAsg, DL.dName, DL.dPar, DL.dPar3, DL.dAug, DL.dgNil, DL.dgCons, DL.dgTup, DL.dSub, DL.dCall, DL.dNeg, DL.dSlice, DL.dPart, DL.dNo, DL.rI2, DL.rII, DL.rAdd, DL.rIsN, DL.rIx, DL.rSet, DL.isi, DL.rEq_int, DL.rEq_str, DL.at0, DL.at1, DL.at2, DL.at3, DL.Tn.nm, DL.dChain, DL.rLtI, DL.rLeI, DL.rGtI, DL.rGeI, DL.rSub, DL.rMul, DL.rMod, DL.rDiv, DL.rPow, List.length_cons, List.length_nil, List.replicate_succ, List.replicate_zero, Nat.reduceAdd, Nat.reduceSub, Nat.zero_add, List.map_cons, List.map_nil, List.cons_append, List.nil_append, List.getElem?_cons_zero, List.getElem?_cons_succ, List.set_cons_zero, List.set_cons_succ, nm__law_pool, dLstM, dFor, iRange]
  refine ⟨small (by decide), fun A hA => ?_⟩
  have Ah := hh.off hA
  have hh0 := hh.um (o := .lst []) Ah
  refine ⟨h, 4, n, rfl, hh0, by omega, by decide, fun k M1 hk t1 => ⟨by omega, by omega, ?_⟩⟩
  have kz : ((List.range (1 + k).toNat).map fun (i : Nat) => D.int (i : Int)).length = (1 + k).toNat := by simp
  refine ⟨fun i σ M2 => ∃ ps u v, σ = [some (.ref h), some p.d, some (.ref A), u, v] ∧ M2 A = some (.lst ps) ∧ (∀ d ∈ ps, PageOk p d) ∧ ps.length ≤ 4 * i ∧ (0 < i → ps ≠ []) ∧ (∀ a, a ≠ h → a ≠ A → M2 a = M a) ∧ Hd M2 h (n + 1 + 40001 * i),
    ⟨[], _, _, rfl, by rw [t1.off A Ah]; exact um_same, (fun d hd => by cases hd), Nat.le_refl _, (fun z => absurd z (Nat.lt_irrefl _)), fun a h1 h2 => by rw [t1.off a h1, um_ne h2], t1.at_⟩, fun _ _ _ _ _ => trivial, ?_, ?_⟩
  · rintro i d σ M2 hd ⟨ps, u, v, rfl, hA2, hps, hl, hne, hoff, hh2⟩
    have hi : i < 4 := by
      have := (List.getElem?_eq_some_iff.mp hd).1
      rw [kz] at this; omega
    simp only [DL.dstart, DL.dVar, DL.dC, DL.dNil, DL.dCons, DL.dTup, DL.dLst, DL.dOp, DL.dB, DL.rIsi, DL.rLen, DL.rMin, DL.rMax, DL.rInt, DL.rTuple, DL.rList, DL.rAll, DL.rAny, DL.rSum, DL.dTest, DL.dChain, DL.dAnd, DL.dOr, DL.dNot, DL.dAndV, DL.dOrV, DL.dNotV, DL.dIf, DL.dNext, DL.dSeq, DL.dDrop, DL.dRet, DL.dRetN, DL.dIfS, DL.dAsg, DL.dName, DL.dPar, DL.dPar3, DL.dAug, DL.dgNil, DL.dgCons, DL.dgTup, DL.dSub, DL.dCall, DL.dNeg, DL.dSlice, DL.dPart, DL.dNo, DL.rI2, DL.rII, DL.rAdd, DL.rIsN, DL.rIx, DL.rSet, DL.isi, DL.rEq_int, DL.rEq_str, DL.at0, DL.at1, DL.at2, DL.at3, DL.Tn.nm, DL.dChain, DL.rLtI, DL.rLeI, DL.rGtI, DL.rGeI, DL.rSub, DL.rMul, DL.rMod, DL.rDiv, DL.rPow, List.length_cons, List.length_nil, List.replicate_succ, List.replicate_zero, Nat.reduceAdd, Nat.reduceSub, Nat.zero_add, List.map_cons, List.map_nil, List.cons_append, List.nil_append, List.getElem?_cons_zero, List.getElem?_cons_succ, List.set_cons_zero, List.set_cons_succ]
    refine ⟨⟨_, hA2⟩, h, p, _, rfl, po, hh2, by omega, fun pg M3 ok t3 => ⟨ps, by rw [t3.off A Ah]; exact hA2, by rw [sizeLine_eq]; omega, ?_⟩⟩
    refine ⟨h, 4, _, rfl, t3.at_.um Ah, by omega, by decide, fun j M4 hj t4 => ⟨by omega, by omega, ?_⟩⟩
    have jz : ((List.range j.toNat).map fun (i : Nat) => D.int (i : Int)).length = j.toNat := by simp
    refine ⟨fun i2 σ M5 => ∃ ps u v, σ = [some (.ref h), some p.d, some (.ref A), u, v] ∧ M5 A = some (.lst ps) ∧ (∀ d ∈ ps, PageOk p d) ∧ ps.length ≤ 4 * i + 1 + i2 ∧ ps ≠ [] ∧ (∀ a, a ≠ h → a ≠ A → M5 a = M a) ∧ Hd M5 h (n + 1 + 40001 * i + 10001 + 10000 * i2),
      ⟨ps ++ [pg], _, _, rfl, by rw [t4.off A Ah]; exact um_same, (fun d hd => ?_), by rw [List.length_append, List.length_singleton]; omega, by simp, fun a h1 h2 => by rw [t4.off a h1, um_ne h2, t3.off a h1]; exact hoff a h1 h2, t4.at_⟩, fun _ _ _ _ _ => trivial, ?_, ?_⟩
    · rcases List.mem_append.mp hd with z | z
      · exact hps d z
      · rw [List.mem_singleton.mp z]; exact ok
    · rintro i2 d σ M5 hd ⟨ps, u, v, rfl, hA2, hps, hl, hne, hoff, hh2⟩
      have hi2 : i2 < 3 := by
        have := (List.getElem?_eq_some_iff.mp hd).1
        rw [jz] at this; omega
      simp only [DL.dstart, DL.dVar, DL.dC, DL.dNil, DL.dCons, DL.dTup, DL.dLst, DL.dOp, DL.dB, DL.rIsi, DL.rLen, DL.rMin, DL.rMax, DL.rInt, DL.rTuple, DL.rList, DL.rAll, DL.rAny, DL.rSum, DL.dTest, DL.dChain, DL.dAnd, DL.dOr, DL.dNot, DL.dAndV, DL.dOrV, DL.dNotV, DL.dIf, DL.dNext, DL.dSeq, DL.dDrop, DL.dRet, DL.dRetN, DL.dIfS, DL.dAsg, DL.dName, DL.dPar, DL.dPar3, DL.dAug, DL.dgNil, DL.dgCons, DL.dgTup, DL.dSub, DL.dCall, DL.dNeg, DL.dSlice, DL.dPart, DL.dNo, DL.rI2, DL.rII, DL.rAdd, DL.rIsN, DL.rIx, DL.rSet, DL.isi, DL.rEq_int, DL.rEq_str, DL.at0, DL.at1, DL.at2, DL.at3, DL.Tn.nm, DL.dChain, DL.rLtI, DL.rLeI, DL.rGtI, DL.rGeI, DL.rSub, DL.rMul, DL.rMod, DL.rDiv, DL.rPow, List.length_cons, List.length_nil, List.replicate_succ, List.replicate_zero, Nat.reduceAdd, Nat.reduceSub, Nat.zero_add, List.map_cons, List.map_nil, List.cons_append, List.nil_append, List.getElem?_cons_zero, List.getElem?_cons_succ, List.set_cons_zero, List.set_cons_succ]
      obtain ⟨e, he, hat⟩ := at_last hne
      refine ⟨⟨_, hA2⟩, ps, e, hA2, hat, h, p, e, _, rfl, po, hps e he, hh2, by omega, fun pg M6 ok t6 => ⟨ps, by rw [t6.off A Ah]; exact hA2, by rw [sizeLine_eq]; omega, ps ++ [pg], _, _, rfl, um_same, fun d hd => ?_, by rw [List.length_append, List.length_singleton]; omega, by simp, fun a h1 h2 => by rw [um_ne h2, t6.off a h1]; exact hoff a h1 h2, (t6.at_.um Ah).mono (by omega)⟩⟩
      rcases List.mem_append.mp hd with z | z
      · exact hps d z
      · rw [List.mem_singleton.mp z]; exact ok
    · rintro σ M5 ⟨ps, u, v, rfl, hA2, hps, hl, hne, hoff, hh2⟩
      rw [jz] at hl hh2
      exact ⟨ps, u, v, rfl, hA2, hps, by omega, fun _ => hne, hoff, hh2.mono (by omega)⟩
  · rintro σ M2 ⟨ps, u, v, rfl, hA2, hps, hl, hne, hoff, hh2⟩
    rw [kz] at hl hne hh2
    simp only [DL.dstart, DL.dVar, DL.dC, DL.dNil, DL.dCons, DL.dTup, DL.dLst, DL.dOp, DL.dB, DL.rIsi, DL.rLen, DL.rMin, DL.rMax, DL.rInt, DL.rTuple, DL.rList, DL.rAll, DL.rAny, DL.rSum, DL.dTest, DL.dChain, DL.dAnd, DL.dOr, DL.dNot, DL.dAndV, DL.dOrV, DL.dNotV, DL.dIf, DL.dNext, DL.dSeq, DL.dDrop, DL.dRet, DL.dRetN, DL.dIfS, DL.dAsg, DL.dName, DL.dPar, DL.dPar3, DL.dAug, DL.dgNil, DL.dgCons, DL.dgTup, DL.dSub, DL.dCall, DL.dNeg, DL.dSlice, DL.dPart, DL.dNo, DL.rI2, DL.rII, DL.rAdd, DL.rIsN, DL.rIx, DL.rSet, DL.isi, DL.rEq_int, DL.rEq_str, DL.at0, DL.at1, DL.at2, DL.at3, DL.Tn.nm, DL.dChain, DL.rLtI, DL.rLeI, DL.rGtI, DL.rGeI, DL.rSub, DL.rMul, DL.rMod, DL.rDiv, DL.rPow, List.length_cons, List.length_nil, List.replicate_succ, List.replicate_zero, Nat.reduceAdd, Nat.reduceSub, Nat.zero_add, List.map_cons, List.map_nil, List.cons_append, List.nil_append, List.getElem?_cons_zero, List.getElem?_cons_succ, List.set_cons_zero, List.set_cons_succ]
    refine Dr.settle hA2 hA (q ps _ hps (hne (by omega)) (by omega) ⟨fun a ha => ?_, ?_⟩)
    · by_cases z : a = A
      · rw [z, rs_out hA, hA]
      · exact rs_eq (hoff a ha z)
    · obtain ⟨o, e, r⟩ := hh2
      obtain ⟨o', e', _⟩ := hh
      exact Hd.mono (n := n + 1 + 40001 * (1 + k).toNat) ⟨o, by rw [rs_in e']; exact e, r⟩ (by omega)
end
end K7

namespace K7
open PySem PySem.Spec PyProof.Rows L2 DL
/-! ### the plan's two tables -/
def Key2 (k : NK) : Prop := ∃ a b : Int, k = .tup [.num a, .num b]
def Key4 (many : Int) (k : NK) : Prop := ∃ a b c d : Int, k = .tup [.num a, .num b, .num c, .num d] ∧ 0 ≤ a ∧ a < many
theorem dats_ints : ∀ l : List Int, D.dats (l.map .int) = true
  | [] => rfl
  | x :: l => by simp [D.dats, D.dat, dats_ints l]
theorem deps_ints : ∀ l : List Int, D.deps (l.map .int) = 0
  | [] => rfl
  | x :: l => by simp [D.deps, D.dep, deps_ints l]
theorem srtOk_ints {ds : List D} (h : ∀ d ∈ ds, ∃ (i : Int) (l : List Int), d = .tup (.int i :: l.map .int)) (e : ∀ d ∈ ds, ∀ d' ∈ ds, PySem.W.alike d.py d'.py = true) : SrtOk ds where
  dat := fun d hd => by
    obtain ⟨i, l, rfl⟩ := h d hd
    simp [D.dat, D.dats, dats_ints]
  dep := fun d hd => by
    obtain ⟨i, l, rfl⟩ := h d hd
    simp [D.dep, D.deps, deps_ints]
  alike := fun x hx y hy => by
    obtain ⟨d, h1, rfl⟩ := List.mem_map.mp hx
    obtain ⟨d', h2, rfl⟩ := List.mem_map.mp hy
    exact e d h1 d' h2
  able := .inl fun x hx => by
    obtain ⟨d, h1, rfl⟩ := List.mem_map.mp hx
    obtain ⟨i, l, rfl⟩ := h d h1
    exact ⟨_, _, rfl⟩
theorem keys2 {kvs : List (NK × D)} (h : ∀ x ∈ kvs, Key2 x.1) : ∀ d ∈ keysD kvs, ∃ a b : Int, d = .tup [.int a, .int b] := fun d hd => by
  obtain ⟨x, hx, rfl⟩ := List.mem_map.mp hd
  obtain ⟨a, b, e⟩ := h x hx
  exact ⟨a, b, by rw [e]; rfl⟩
theorem keys4 {m : Int} {kvs : List (NK × D)} (h : ∀ x ∈ kvs, Key4 m x.1) : ∀ d ∈ keysD kvs, ∃ r : Rack, d = rackD r ∧ 0 ≤ r.1 ∧ r.1 < m := fun d hd => by
  obtain ⟨x, hx, rfl⟩ := List.mem_map.mp hd
  obtain ⟨a, b, c, e, q, h1, h2⟩ := h x hx
  exact ⟨(a, b, c, e), by rw [q]; rfl, h1, h2⟩
theorem srtOk2 {ds : List D} (h : ∀ d ∈ ds, ∃ a b : Int, d = .tup [.int a, .int b]) : SrtOk ds := srtOk_ints (fun d hd => by obtain ⟨a, b, rfl⟩ := h d hd; exact ⟨a, [b], rfl⟩) fun d hd d' hd' => by
  obtain ⟨a, b, rfl⟩ := h d hd
  obtain ⟨a', b', rfl⟩ := h d' hd'
  simp [D.py, D.pys, PySem.W.alike, PySem.W.alikeAll]
theorem srtOk4 {m : Int} {ds : List D} (h : ∀ d ∈ ds, ∃ r : Rack, d = rackD r ∧ 0 ≤ r.1 ∧ r.1 < m) : SrtOk ds := srtOk_ints (fun d hd => by obtain ⟨r, rfl, _⟩ := h d hd; exact ⟨r.1, [r.2.1, r.2.2.1, r.2.2.2], rfl⟩) fun d hd d' hd' => by
  obtain ⟨r, rfl, _⟩ := h d hd
  obtain ⟨r', rfl, _⟩ := h d' hd'
  simp [rackD, D.py, D.pys, PySem.W.alike, PySem.W.alikeAll]
theorem racks_of {m : Int} : ∀ (ds : List D), (∀ d ∈ ds, ∃ r : Rack, d = rackD r ∧ 0 ≤ r.1 ∧ r.1 < m) → ∃ rs : List Rack, ds = rs.map rackD ∧ ∀ r ∈ rs, 0 ≤ r.1 ∧ r.1 < m
  | [], _ => ⟨[], rfl, fun r hr => by cases hr⟩
  | d :: ds, h => by
    obtain ⟨rs, e, f⟩ := racks_of ds fun x hx => h x (List.mem_cons_of_mem _ hx)
    obtain ⟨r, e1, f1⟩ := h d List.mem_cons_self
    refine ⟨r :: rs, by rw [List.map_cons, ← e, e1], fun x hx => ?_⟩
    rcases List.mem_cons.mp hx with z | z
    · rw [z]; exact f1
    · exact f x z
section
variable {P : Program} {w : World} {K : PySem.W.Frag} {mg : Str → Option Value} {base : Heap} {C : Addr} (T : TxL K mg C)
include T
variable (D__law_take : Cal P w K mg base 1 "_law_take" ps__law_take sp_ltake)
include D__law_take
def sp_plan_of : DSp := fun ds M Q => ∃ (h : Addr) (n : Nat), ds = [.ref h] ∧ Hd M h n ∧ n < 300000 ∧ ∀ p M', PlanOk p → HdTo M h (n + 1000) M' → Q p.d M'
set_option maxHeartbeats 2000000 in
theorem ok_plan_of {f fd} (F : Fun K "_law_plan_of" "_law_plan_of" st__law_plan_of f fd) : DFn P w K mg base 2 f fd ps__law_plan_of sp_plan_of := by
  refine dfn_ok F sc__law_plan_of (fun ds M Q ⟨h, n, e', _⟩ => by rw [e']; rfl) fun cdv A outer s H E hr => ⟨_, (dss_cons (ds_set (i := 1) sc__law_plan_of.nd rfl (by first | exact Or.inl rfl | exact Or.inr rfl) (de_op o_add de_int (de_cal D__law_take (hr.mono (by decide)) rfl (da_cons (dv 0) (da_cons (de_ix i_ix (de_lst (da_cons de_int (da_cons de_int (da_cons de_int da_nil)))) (de_cal D__law_take (hr.mono (by decide)) rfl (da_cons (dv 0) (da_cons de_int da_nil)))) da_nil)))))
  (dss_cons (ds_set (i := 2) sc__law_plan_of.nd rfl (by first | exact Or.inl rfl | exact Or.inr rfl) (de_T (c_dictP rfl hr.u32) rfl T.b_dict Bt.dict (da_cons (de_lc (own := [("_law_at", 3)]) rfl sc__law_plan_of.nd (di_range rfl T.b_range (da_cons (de_op o_sub (dv 1) de_int) da_nil)) (blkOk_by (N := nm__law_plan_of) (sc := defScope st__law_plan_of) (by decide +kernel)) (fun _ _ _ _ _ => (pg_name (i := 3) sc__law_plan_of.nd rfl (by first | exact Or.inl rfl | exact Or.inr rfl))) (tgo_name 3) (fun _ _ _ _ _ => dts_nil) (fun _ _ _ _ _ => (de_tup (da_cons (de_tup (da_cons (dv 3) (da_cons (de_op o_add (dv 3) de_int) da_nil))) (da_cons de_bl da_nil))))) da_nil)))
  (dss_cons (ds_for PassesOwn.never rfl (di_range rfl T.b_range (da_cons (de_cal D__law_take (hr.mono (by decide)) rfl (da_cons (dv 0) (da_cons de_int da_nil))) da_nil)) (dg_name (i := 4) sc__law_plan_of.nd rfl (by first | exact Or.inl rfl | exact Or.inr rfl)) (dss_cons (ds_set (i := 5) sc__law_plan_of.nd rfl (by first | exact Or.inl rfl | exact Or.inr rfl) (de_cal D__law_take (hr.mono (by decide)) rfl (da_cons (dv 0) (da_cons (dv 1) da_nil))))
  (dss_cons (ds_set (i := 6) sc__law_plan_of.nd rfl (by first | exact Or.inl rfl | exact Or.inr rfl) (de_op o_mod (de_op o_add (de_op o_add (dv 5) de_int) (de_cal D__law_take (hr.mono (by decide)) rfl (da_cons (dv 0) (da_cons (de_op o_sub (dv 1) de_int) da_nil)))) (dv 1)))
  (dss_one (ds_asg de_bl (dg_sub (dv 2) (de_tup (da_cons (de_B (c_min rfl) rfl T.b_min Bt.min (da_cons (dv 5) (da_cons (dv 6) da_nil))) (da_cons (de_B (c_max rfl) rfl T.b_max Bt.max (da_cons (dv 5) (da_cons (dv 6) da_nil))) da_nil))) (s_putN hr.u16)))))))
  (dss_cons (ds_set (i := 7) sc__law_plan_of.nd rfl (by first | exact Or.inl rfl | exact Or.inr rfl) (de_T c_tuple rfl T.b_tuple Bt.tuple (da_cons (de_lc (own := [("_law_pair", 8)]) rfl sc__law_plan_of.nd (di_seq (de_B (c_sorted rfl hr.u128) rfl T.b_sorted Bt.sorted (da_cons (dv 2) da_nil))) (blkOk_by (N := nm__law_plan_of) (sc := defScope st__law_plan_of) (by decide +kernel)) (fun _ _ _ _ _ => (pg_name (i := 8) sc__law_plan_of.nd rfl (by first | exact Or.inl rfl | exact Or.inr rfl))) (tgo_name 8) (fun _ _ _ _ _ => dts_nil) (fun _ _ _ _ _ => (de_op o_add (dv 8) (de_tup (da_cons (de_cal D__law_take (hr.mono (by decide)) rfl (da_cons (dv 0) (da_cons de_int da_nil))) (da_cons (de_op o_add de_int (de_cal D__law_take (hr.mono (by decide)) rfl (da_cons (dv 0) (da_cons de_int da_nil)))) da_nil)))))) da_nil)))
  (dss_cons (ds_par (i := 9) (j := 10) (by rfl) sc__law_plan_of.nd rfl rfl (by decide) rfl rfl (da_cons (de_lstM (da_cons (de_op o_add de_int (de_cal D__law_take (hr.mono (by decide)) rfl (da_cons (dv 0) (da_cons de_int da_nil)))) da_nil)) (da_cons de_newN da_nil)) (by rfl))
  (dss_cons (ds_for PassesOwn.never rfl (di_range rfl T.b_range (da_cons (de_cal D__law_take (hr.mono (by decide)) rfl (da_cons (dv 0) (da_cons de_int da_nil))) da_nil)) (dg_name (i := 4) sc__law_plan_of.nd rfl (by first | exact Or.inl rfl | exact Or.inr rfl)) (dss_one (ds_expr (de_bml PySem.F.plainAttrs_list PySem.F.slot_list_append PySem.F.type_list_append m_append (dv 9) (da_cons (de_op o_add (de_op o_add (de_ix i_ix (dv 9) (de_neg de_int)) de_int) (de_cal D__law_take (hr.mono (by decide)) rfl (da_cons (dv 0) (da_cons de_int da_nil)))) da_nil)))))
  (dss_cons (ds_for PassesOwn.never rfl (di_range rfl T.b_range (da_cons (de_op o_add de_int (de_cal D__law_take (hr.mono (by decide)) rfl (da_cons (dv 0) (da_cons (de_ix i_ix (de_lst (da_cons de_int (da_cons de_int (da_cons de_int da_nil)))) (de_cal D__law_take (hr.mono (by decide)) rfl (da_cons (dv 0) (da_cons de_int da_nil)))) da_nil)))) da_nil)) (dg_name (i := 4) sc__law_plan_of.nd rfl (by first | exact Or.inl rfl | exact Or.inr rfl)) (dss_cons (ds_set (i := 5) sc__law_plan_of.nd rfl (by first | exact Or.inl rfl | exact Or.inr rfl) (de_cal D__law_take (hr.mono (by decide)) rfl (da_cons (dv 0) (da_cons (dv 1) da_nil))))
  (dss_cons (ds_set (i := 6) sc__law_plan_of.nd rfl (by first | exact Or.inl rfl | exact Or.inr rfl) (de_op o_mod (de_op o_add (de_op o_add (dv 5) de_int) (de_cal D__law_take (hr.mono (by decide)) rfl (da_cons (dv 0) (da_cons (de_op o_sub (dv 1) de_int) da_nil)))) (dv 1)))
  (dss_one (ds_if (db_w (dw_and (db_cmp o_lt (de_B c_len rfl T.b_len Bt.len (da_cons (dv 10) da_nil)) de_int) (dw_and1 (db_cmp o_lt (de_B c_len rfl T.b_len Bt.len (da_cons (de_lockN (de_lc (own := [("_law_rack", 11)]) rfl sc__law_plan_of.nd (di_keysN (dv 10)) (blkOk_by (N := nm__law_plan_of) (sc := defScope st__law_plan_of) (by decide +kernel)) (fun _ _ _ _ _ => (pg_name (i := 11) sc__law_plan_of.nd rfl (by first | exact Or.inl rfl | exact Or.inr rfl))) (tgo_name 11) (fun _ _ _ _ _ => (dts_one (db_cmp (o_eq hr.units) (de_ix i_ix (dv 11) de_int) (dv 5)))) (fun _ _ _ _ _ => (dv 11)))) da_nil)) de_int)))) (dss_one (ds_asg de_bl (dg_sub (dv 10) (de_tup (da_cons (dv 5) (da_cons (dv 6) (da_cons (de_cal D__law_take (hr.mono (by decide)) rfl (da_cons (dv 0) (da_cons (de_B c_len rfl T.b_len Bt.len (da_cons (dv 9) da_nil)) da_nil))) (da_cons (de_cal D__law_take (hr.mono (by decide)) rfl (da_cons (dv 0) (da_cons de_int da_nil))) da_nil))))) (s_putN hr.u16)))) dss_nil)))))
  (dss_cons (ds_set (i := 12) sc__law_plan_of.nd rfl (by first | exact Or.inl rfl | exact Or.inr rfl) (de_op o_add de_int (de_cal D__law_take (hr.mono (by decide)) rfl (da_cons (dv 0) (da_cons (de_ix i_ix (de_lst (da_cons de_int (da_cons de_int (da_cons de_int da_nil)))) (de_cal D__law_take (hr.mono (by decide)) rfl (da_cons (dv 0) (da_cons de_int da_nil)))) da_nil)))))
  (dss_one (ds_ret (de_tup (da_cons (de_tup (da_cons (dv 1) (da_cons (dv 7) da_nil))) (da_cons (de_T c_tuple rfl T.b_tuple Bt.tuple (da_cons (dv 9) da_nil)) (da_cons (de_T c_tuple rfl T.b_tuple Bt.tuple (da_cons (de_B (c_sorted rfl hr.u128) rfl T.b_sorted Bt.sorted (da_cons (dv 10) da_nil)) da_nil)) (da_cons (dv 12) da_nil))))))))))))))), ?_⟩
  rintro ds M Q ⟨h, n, rfl, hh, hn, q⟩
  simp only [DL.dstart, DL.dVar, DL.dC, DL.dNil, DL.dCons, DL.dTup, DL.dLst, DL.dOp, DL.dB, DL.rIsi, DL.rLen, DL.rMin, DL.rMax, DL.rInt, DL.rTuple, DL.rList, DL.rAll, DL.rAny, DL.rSum, DL.dTest, DL.dChain, DL.dAnd, DL.dOr, DL.dNot, DL.dAndV, DL.dOrV, DL.dNotV, DL.dIf, DL.dNext, DL.dSeq, DL.dDrop, DL.dRet, DL.dRetN, DL.dIfS, DL.dAsg, DL.dName, DL.dPar, DL.dPar3, DL.dAug, DL.dgNil, DL.dgCons, DL.dgTup, DL.dSub, DL.dCall, DL.dNeg, DL.dSlice, DL.dPart, DL.dNo, DL.rI2, DL.rII, DL.rAdd, DL.rIsN, DL.rIx, DL.rSet, DL.isi, DL.rEq_int, DL.rEq_str, DL.at0, DL.at1, DL.at2, DL.at3, DL.Tn.nm, DL.dChain, DL.rLtI, DL.rLeI, DL.rGtI, DL.rGeI, DL.rSub, DL.rMul, DL.rMod, DL.rDiv, DL.rPow, List.length_cons, List.length_nil, List.replicate_succ, List.replicate_zero, Nat.reduceAdd, Nat.reduceSub, Nat.zero_add, List.map_cons, List.map_nil, List.cons_append, List.nil_append, List.getElem?_cons_zero, List.getElem?_cons_succ, List.set_cons_zero, List.set_cons_succ, nm__law_plan_of]
  refine ⟨small (by decide), h, 3, n, rfl, hh, by omega, by decide, fun a M1 ha t1 => ?_⟩
  have pick : ∃ m : Int, atI [D.int 2, D.int 4, D.int 7] a = some (.int m) ∧ 1 ≤ m ∧ m ≤ 7 := by
    have e2 : a = 0 ∨ a = 1 ∨ a = 2 := by omega
    rcases e2 with rfl | rfl | rfl
    · exact ⟨2, at0, by decide, by decide⟩
    · exact ⟨4, at1, by decide, by decide⟩
    · exact ⟨7, at2, by decide, by decide⟩
  obtain ⟨m0, hm0, hm1, hm2⟩ := pick
  refine ⟨_, hm0, h, m0, n + 1, rfl, t1.at_, by omega, by omega, fun b M2 hb t2 => ?_⟩
  have t2 := t1.trans t2
  have mb : 2 ≤ 2 + b ∧ 2 + b ≤ 8 := by omega
  dsimp only
  generalize (2 : Int) + b = many at mb ⊢
  -- the row of places
  refine lc_fm (items := (List.range (many - 1).toNat).map fun (i : Nat) => .int (i : Int)) (fun d => match d with | .int i => some (.tup [.tup [.int i, .int (i + 1)], .bl true]) | _ => none) (fun Q' hq => ?_) (by rw [List.length_map, List.length_range]; exact small (by omega)) (fun d hd M2' Ky Kn ex hy hn' => ?_) ?_
  · simp only [DL.dstart, DL.dVar, DL.dC, DL.dNil, DL.dCons, DL.dTup, DL.dLst, DL.dOp, DL.dB, DL.rIsi, DL.rLen, DL.rMin, DL.rMax, DL.rInt, DL.rTuple, DL.rList, DL.rAll, DL.rAny, DL.rSum, DL.dTest, DL.dChain, DL.dAnd, DL.dOr, DL.dNot, DL.dAndV, DL.dOrV, DL.dNotV, DL.dIf, DL.dNext, DL.dSeq, DL.dDrop, DL.dRet, DL.dRetN, DL.dIfS, DL.dAsg, DL.dName, DL.dPar, DL.dPar3, DL.dAug, DL.dgNil, DL.dgCons, DL.dgTup, DL.dSub, DL.dCall, DL.dNeg, DL.dSlice, DL.dPart, DL.dNo, DL.rI2, DL.rII, DL.rAdd, DL.rIsN, DL.rIx, DL.rSet, DL.isi, DL.rEq_int, DL.rEq_str, DL.at0, DL.at1, DL.at2, DL.at3, DL.Tn.nm, DL.dChain, DL.rLtI, DL.rLeI, DL.rGtI, DL.rGeI, DL.rSub, DL.rMul, DL.rMod, DL.rDiv, DL.rPow, List.length_cons, List.length_nil, List.replicate_succ, List.replicate_zero, Nat.reduceAdd, Nat.reduceSub, Nat.zero_add, List.map_cons, List.map_nil, List.cons_append, List.nil_append, List.getElem?_cons_zero, List.getElem?_cons_succ, List.set_cons_zero, List.set_cons_succ, iRange]; exact ⟨by omega, by omega, hq _ fun _ _ => trivial⟩
  · obtain ⟨i, hi, rfl⟩ := List.mem_map.mp hd
    simp only [DL.dstart, DL.dVar, DL.dC, DL.dNil, DL.dCons, DL.dTup, DL.dLst, DL.dOp, DL.dB, DL.rIsi, DL.rLen, DL.rMin, DL.rMax, DL.rInt, DL.rTuple, DL.rList, DL.rAll, DL.rAny, DL.rSum, DL.dTest, DL.dChain, DL.dAnd, DL.dOr, DL.dNot, DL.dAndV, DL.dOrV, DL.dNotV, DL.dIf, DL.dNext, DL.dSeq, DL.dDrop, DL.dRet, DL.dRetN, DL.dIfS, DL.dAsg, DL.dName, DL.dPar, DL.dPar3, DL.dAug, DL.dgNil, DL.dgCons, DL.dgTup, DL.dSub, DL.dCall, DL.dNeg, DL.dSlice, DL.dPart, DL.dNo, DL.rI2, DL.rII, DL.rAdd, DL.rIsN, DL.rIx, DL.rSet, DL.isi, DL.rEq_int, DL.rEq_str, DL.at0, DL.at1, DL.at2, DL.at3, DL.Tn.nm, DL.dChain, DL.rLtI, DL.rLeI, DL.rGtI, DL.rGeI, DL.rSub, DL.rMul, DL.rMod, DL.rDiv, DL.rPow, List.length_cons, List.length_nil, List.replicate_succ, List.replicate_zero, Nat.reduceAdd, Nat.reduceSub, Nat.zero_add, List.map_cons, List.map_nil, List.cons_append, List.nil_append, List.getElem?_cons_zero, List.getElem?_cons_succ, List.set_cons_zero, List.set_cons_succ, dWipe, dYes] at hy ⊢
    exact ⟨fun _ => ⟨small (by simp), small (by simp), hy _ rfl⟩, fun z => nomatch z⟩
  have eqp : ∀ l : List Nat, ((l.map fun (i : Nat) => D.int (i : Int)).filterMap fun d => match d with | .int i => some (D.tup [.tup [.int i, .int (i + 1)], .bl true]) | _ => none) = (l.map fun (i : Nat) => ((.tup [.num (i : Int), .num (i + 1)], .bl true) : NK × D)).map DL.pairD := by
    intro l
    induction l with
    | nil => rfl
    | cons x l ih => exact congrArg (List.cons _) ih
  rw [eqp]
  refine ⟨_, rfl, fun x hx => ?_, by rw [List.length_map, List.length_range]; exact small (by omega), fun e he => ?_⟩
  · obtain ⟨i, _, rfl⟩ := List.mem_map.mp hx
    exact ⟨⟨_, rfl⟩, by simp [NestedKey.depth, NestedKey.depthAll]⟩
  have e0 : ∀ x ∈ putAll [] ((List.range (many - 1).toNat).map fun (i : Nat) => ((.tup [.num (i : Int), .num (i + 1)], .bl true) : NK × D)), Key2 x.1 := by
    have key : ∀ (l : List Nat) (acc : List (NK × D)), (∀ x ∈ acc, Key2 x.1) → ∀ x ∈ putAll acc (l.map fun (i : Nat) => ((.tup [.num (i : Int), .num (i + 1)], .bl true) : NK × D)), Key2 x.1 := by
      intro l
      induction l with
      | nil => intro acc h; exact h
      | cons y l ih =>
        intro acc h
        refine ih _ fun x hx => ?_
        rcases mem_putT hx with z | ⟨y', hy', z⟩
        · exact ⟨_, _, z⟩
        · rw [← z]; exact h y' hy'
    exact key _ [] fun x hx => by cases hx
  have l0 := putAll_len ((List.range (many - 1).toNat).map fun (i : Nat) => ((.tup [.num (i : Int), .num (i + 1)], .bl true) : NK × D)) []
  rw [List.length_map, List.length_range, List.length_nil] at l0
  generalize putAll [] ((List.range (many - 1).toNat).map fun (i : Nat) => ((.tup [.num (i : Int), .num (i + 1)], .bl true) : NK × D)) = k0 at e0 l0 ⊢
  have eh := t2.at_.off he
  have eM : M e = none := by rw [← t2.off e eh]; exact he
  have x0 : Exh M M2 h := fun a o n1 q => by rw [t2.off a n1]; exact q
  -- some ties more
  refine ⟨h, 4, n + 2, rfl, (t2.at_.um eh).mono (by omega), by omega, by decide, fun k M3 hk t3 => ⟨by omega, by omega, ?_⟩⟩
  have kz : ((List.range k.toNat).map fun (i : Nat) => D.int (i : Int)).length = k.toNat := by simp
  refine ⟨fun i σ M4 => ∃ u4 u5 u6 kvs, σ = [some (.ref h), some (.int many), some (.ref e), none, u4, u5, u6, none, none, none, none, none, none] ∧ M4 e = some (.dN kvs) ∧ (∀ x ∈ kvs, Key2 x.1) ∧ kvs.length ≤ 7 + i ∧ Exh M M4 h ∧ Hd M4 h (n + 3 + 2 * i),
    ⟨_, _, _, k0, rfl, by rw [t3.off e eh]; exact um_same, e0, by omega, (x0.um eM).to t3, t3.at_⟩, fun _ _ _ _ _ => trivial, ?_, ?_⟩
  · rintro i d σ M4 hd ⟨u4, u5, u6, kvs, rfl, hM, hk2, hl, hx, hh4⟩
    have hi : i < 4 := by
      have := (List.getElem?_eq_some_iff.mp hd).1
      rw [kz] at this; omega
    refine ⟨h, many, _, rfl, hh4, by omega, by omega, fun one M5 h5 t5 => ⟨h, many - 1, _, rfl, t5.at_, by omega, by omega, fun o2 M6 h6 t6 => ⟨by omega, small (by simp), ?_⟩⟩⟩
    have hM6 : M6 e = some (.dN kvs) := by rw [t6.off e eh, t5.off e eh]; exact hM
    refine ⟨kvs, .tup [.num _, .num _], _, hM6, rfl, rfl, by simp [D.dep, D.deps], by rw [sizeLine_eq]; omega, _, _, _, _, rfl, um_same, fun x hx => ?_, by have := @putT_len; exact Nat.le_trans putT_len (by omega), ((hx.to t5).to t6).um eM, (t6.at_.um eh).mono (by omega)⟩
    rcases mem_putT hx with z | ⟨y', hy', z⟩
    · exact ⟨_, _, z⟩
    · rw [← z]; exact hk2 y' hy'
  rintro σ M4 ⟨u4, u5, u6, kvs, rfl, hM, hk2, hl, hx, hh4⟩
  rw [kz] at hl hh4
  have k2 := keys2 hk2
  -- the ties
  simp only [DL.dstart, DL.dVar, DL.dC, DL.dNil, DL.dCons, DL.dTup, DL.dLst, DL.dOp, DL.dB, DL.rIsi, DL.rLen, DL.rMin, DL.rMax, DL.rInt, DL.rTuple, DL.rList, DL.rAll, DL.rAny, DL.rSum, DL.dTest, DL.dChain, DL.dAnd, DL.dOr, DL.dNot, DL.dAndV, DL.dOrV, DL.dNotV, DL.dIf, DL.dNext, DL.dSeq, DL.dDrop, DL.dRet, DL.dRetN, DL.dIfS, DL.dAsg, DL.dName, DL.dPar, DL.dPar3, DL.dAug, DL.dgNil, DL.dgCons, DL.dgTup, DL.dSub, DL.dCall, DL.dNeg, DL.dSlice, DL.dPart, DL.dNo, DL.rI2, DL.rII, DL.rAdd, DL.rIsN, DL.rIx, DL.rSet, DL.isi, DL.rEq_int, DL.rEq_str, DL.at0, DL.at1, DL.at2, DL.at3, DL.Tn.nm, DL.dChain, DL.rLtI, DL.rLeI, DL.rGtI, DL.rGeI, DL.rSub, DL.rMul, DL.rMod, DL.rDiv, DL.rPow, List.length_cons, List.length_nil, List.replicate_succ, List.replicate_zero, Nat.reduceAdd, Nat.reduceSub, Nat.zero_add, List.map_cons, List.map_nil, List.cons_append, List.nil_append, List.getElem?_cons_zero, List.getElem?_cons_succ, List.set_cons_zero, List.set_cons_succ]
  refine lc_hd (fun _ _ => True) (fun items M5 => (∀ d ∈ items, ∃ a b : Int, d = .tup [.int a, .int b]) ∧ items.length ≤ 20 ∧ M5 = M4) (h := h) (n := n + 20) (k := 2) (fun Q' hq => ?_) (fun items M5 ⟨z1, z2, e⟩ => ⟨small (by omega), by rw [e]; exact hh4.mono (by omega)⟩) (fun items M5 ⟨z1, z2, e⟩ d hd i M6 Ky Kn hi' hext h2 hy => ?_) (fun items M5 ⟨z1, z2, e⟩ ties M6 hp t6 => ?_)
  · simp only [DL.dstart, DL.dVar, DL.dC, DL.dNil, DL.dCons, DL.dTup, DL.dLst, DL.dOp, DL.dB, DL.rIsi, DL.rLen, DL.rMin, DL.rMax, DL.rInt, DL.rTuple, DL.rList, DL.rAll, DL.rAny, DL.rSum, DL.dTest, DL.dChain, DL.dAnd, DL.dOr, DL.dNot, DL.dAndV, DL.dOrV, DL.dNotV, DL.dIf, DL.dNext, DL.dSeq, DL.dDrop, DL.dRet, DL.dRetN, DL.dIfS, DL.dAsg, DL.dName, DL.dPar, DL.dPar3, DL.dAug, DL.dgNil, DL.dgCons, DL.dgTup, DL.dSub, DL.dCall, DL.dNeg, DL.dSlice, DL.dPart, DL.dNo, DL.rI2, DL.rII, DL.rAdd, DL.rIsN, DL.rIx, DL.rSet, DL.isi, DL.rEq_int, DL.rEq_str, DL.at0, DL.at1, DL.at2, DL.at3, DL.Tn.nm, DL.dChain, DL.rLtI, DL.rLeI, DL.rGtI, DL.rGeI, DL.rSub, DL.rMul, DL.rMod, DL.rDiv, DL.rPow, List.length_cons, List.length_nil, List.replicate_succ, List.replicate_zero, Nat.reduceAdd, Nat.reduceSub, Nat.zero_add, List.map_cons, List.map_nil, List.cons_append, List.nil_append, List.getElem?_cons_zero, List.getElem?_cons_succ, List.set_cons_zero, List.set_cons_succ, iSeq]
    refine .inr ⟨kvs, hM, srtOk2 k2, hq _ _ ⟨fun d hd => k2 d ((srt_perm _).mem_iff.mp hd), ?_, rfl⟩⟩
    rw [(srt_perm _).length_eq]; unfold keysD; rw [List.length_map]; omega
  · obtain ⟨a', b', rfl⟩ := z1 d hd
    simp only [DL.dstart, DL.dVar, DL.dC, DL.dNil, DL.dCons, DL.dTup, DL.dLst, DL.dOp, DL.dB, DL.rIsi, DL.rLen, DL.rMin, DL.rMax, DL.rInt, DL.rTuple, DL.rList, DL.rAll, DL.rAny, DL.rSum, DL.dTest, DL.dChain, DL.dAnd, DL.dOr, DL.dNot, DL.dAndV, DL.dOrV, DL.dNotV, DL.dIf, DL.dNext, DL.dSeq, DL.dDrop, DL.dRet, DL.dRetN, DL.dIfS, DL.dAsg, DL.dName, DL.dPar, DL.dPar3, DL.dAug, DL.dgNil, DL.dgCons, DL.dgTup, DL.dSub, DL.dCall, DL.dNeg, DL.dSlice, DL.dPart, DL.dNo, DL.rI2, DL.rII, DL.rAdd, DL.rIsN, DL.rIx, DL.rSet, DL.isi, DL.rEq_int, DL.rEq_str, DL.at0, DL.at1, DL.at2, DL.at3, DL.Tn.nm, DL.dChain, DL.rLtI, DL.rLeI, DL.rGtI, DL.rGeI, DL.rSub, DL.rMul, DL.rMod, DL.rDiv, DL.rPow, List.length_cons, List.length_nil, List.replicate_succ, List.replicate_zero, Nat.reduceAdd, Nat.reduceSub, Nat.zero_add, List.map_cons, List.map_nil, List.cons_append, List.nil_append, List.getElem?_cons_zero, List.getElem?_cons_succ, List.set_cons_zero, List.set_cons_succ, dWipe, dYes]
    exact ⟨fun _ => ⟨h, 5, _, rfl, h2, by omega, by decide, fun c M7 h7 t7 => ⟨h, 30, _, rfl, t7.at_, by omega, by decide, fun c' M8 h8 t8 => ⟨small (by simp), small (by simp), hy _ _ trivial ((t7.trans t8).mono (by omega))⟩⟩⟩, fun z => nomatch z⟩
  subst e
  have x6 := hx.to t6
  have hh6 : Hd M6 h (n + 60) := t6.at_.mono (by omega)
  -- rates, chosen
  refine ⟨h, 6, _, rfl, hh6, by omega, by decide, fun r0 M7 hr0 t7 => ⟨small (by simp), fun A hA => fun B hB => ?_⟩⟩
  obtain ⟨BA, hB⟩ := um_none hB
  have x7 := x6.to t7
  have A0 : ∀ a o, M a = some o → a ≠ h → a ≠ A := fun a o q1 q2 z => by rw [← z, x7 a o q2 q1] at hA; cases hA
  have Ah := t7.at_.off hA
  have Bh := t7.at_.off hB
  have AM : M A = none := by
    cases z : M A with
    | none => rfl
    | some o => exact absurd rfl (A0 A o z Ah)
  have BM : M B = none := by
    cases z : M B with
    | none => rfl
    | some o => rw [x7 B o Bh z] at hB; cases hB
  refine ⟨h, 3, _, rfl, (t7.at_.um Ah).um Bh, by omega, by decide, fun k3 M8 hk3 t8 => ⟨by omega, by omega, ?_⟩⟩
  have k3z : ((List.range k3.toNat).map fun (i : Nat) => D.int (i : Int)).length = k3.toNat := by simp
  refine ⟨fun i σ M9 => ∃ u4 u5 u6 rates, σ = [some (.ref h), some (.int many), some (.ref e), none, u4, u5, u6, some (.tup ties), none, some (.ref A), some (.ref B), none, none] ∧ M9 A = some (.lst (rates.map .int)) ∧ rates ≠ [] ∧ rates.length ≤ 1 + i ∧ M9 B = some (.dN []) ∧ Exh M M9 h ∧ Hd M9 h (n + 62 + 1 * i),
    ⟨_, _, _, [1 + r0], rfl, by rw [t8.off A Ah, um_ne BA.symm]; exact um_same, by simp, by simp, by rw [t8.off B Bh]; exact um_same, ((x7.um AM).um BM).to t8, t8.at_⟩, fun _ _ _ _ _ => trivial, ?_, ?_⟩
  · rintro i d σ M9 hd ⟨u4, u5, u6, rates, rfl, hMA, hne, hl3, hMB, hx9, hh9⟩
    have hi : i < 3 := by
      have := (List.getElem?_eq_some_iff.mp hd).1
      rw [k3z] at this; omega
    obtain ⟨d0, hd0, hat⟩ := at_last (ds := rates.map D.int) (by simpa using hne)
    obtain ⟨x, hx1, rfl⟩ := List.mem_map.mp hd0
    refine ⟨⟨_, hMA⟩, _, _, hMA, hat, h, 6, _, rfl, hh9, by omega, by decide, fun c M10 h10 t10 => ⟨_, by rw [t10.off A Ah]; exact hMA, by rw [List.length_map, sizeLine_eq]; omega, _, _, _, rates ++ [x + 1 + c], rfl, by rw [um_same, List.map_append]; rfl, by simp, by rw [List.length_append, List.length_singleton]; omega, by rw [um_ne BA, t10.off B Bh]; exact hMB, (hx9.to t10).um AM, (t10.at_.um Ah).mono (by omega)⟩⟩
  rintro σ M9 ⟨u4, u5, u6, rates, rfl, hMA, hne, hl3, hMB, hx9, hh9⟩
  rw [k3z] at hl3 hh9
  -- the racks
  simp only [DL.dstart, DL.dVar, DL.dC, DL.dNil, DL.dCons, DL.dTup, DL.dLst, DL.dOp, DL.dB, DL.rIsi, DL.rLen, DL.rMin, DL.rMax, DL.rInt, DL.rTuple, DL.rList, DL.rAll, DL.rAny, DL.rSum, DL.dTest, DL.dChain, DL.dAnd, DL.dOr, DL.dNot, DL.dAndV, DL.dOrV, DL.dNotV, DL.dIf, DL.dNext, DL.dSeq, DL.dDrop, DL.dRet, DL.dRetN, DL.dIfS, DL.dAsg, DL.dName, DL.dPar, DL.dPar3, DL.dAug, DL.dgNil, DL.dgCons, DL.dgTup, DL.dSub, DL.dCall, DL.dNeg, DL.dSlice, DL.dPart, DL.dNo, DL.rI2, DL.rII, DL.rAdd, DL.rIsN, DL.rIx, DL.rSet, DL.isi, DL.rEq_int, DL.rEq_str, DL.at0, DL.at1, DL.at2, DL.at3, DL.Tn.nm, DL.dChain, DL.rLtI, DL.rLeI, DL.rGtI, DL.rGeI, DL.rSub, DL.rMul, DL.rMod, DL.rDiv, DL.rPow, List.length_cons, List.length_nil, List.replicate_succ, List.replicate_zero, Nat.reduceAdd, Nat.reduceSub, Nat.zero_add, List.map_cons, List.map_nil, List.cons_append, List.nil_append, List.getElem?_cons_zero, List.getElem?_cons_succ, List.set_cons_zero, List.set_cons_succ]
  refine ⟨small (by simp), h, 3, _, rfl, hh9, by omega, by decide, fun a2 M10 ha2 t10 => ?_⟩
  have pick2 : ∃ m : Int, atI [D.int 2, D.int 5, D.int 16] a2 = some (.int m) ∧ 1 ≤ m ∧ m ≤ 16 := by
    have e2 : a2 = 0 ∨ a2 = 1 ∨ a2 = 2 := by omega
    rcases e2 with rfl | rfl | rfl
    · exact ⟨2, at0, by decide, by decide⟩
    · exact ⟨5, at1, by decide, by decide⟩
    · exact ⟨16, at2, by decide, by decide⟩
  obtain ⟨m2, hm2', hm3, hm4⟩ := pick2
  refine ⟨_, hm2', h, m2, _, rfl, t10.at_, by omega, by omega, fun b2 M11 hb2 t11 => ⟨by omega, by omega, ?_⟩⟩
  have k4z : ((List.range (1 + b2).toNat).map fun (i : Nat) => D.int (i : Int)).length = (1 + b2).toNat := by simp
  refine ⟨fun i σ M12 => ∃ u4 u5 u6 kvs, σ = [some (.ref h), some (.int many), some (.ref e), none, u4, u5, u6, some (.tup ties), none, some (.ref A), some (.ref B), none, none] ∧ M12 A = some (.lst (rates.map .int)) ∧ M12 B = some (.dN kvs) ∧ (∀ x ∈ kvs, Key4 many x.1) ∧ kvs.length ≤ 12 ∧ (0 < i → kvs ≠ []) ∧ Exh M M12 h ∧ Hd M12 h (n + 70 + 4 * i),
    ⟨_, _, _, [], rfl, by rw [t11.off A Ah, t10.off A Ah]; exact hMA, by rw [t11.off B Bh, t10.off B Bh]; exact hMB, (fun x hx => by cases hx), by simp, (fun z => absurd z (Nat.lt_irrefl _)), (hx9.to t10).to t11, t11.at_.mono (by omega)⟩, fun _ _ _ _ _ => trivial, ?_, ?_⟩
  · rintro i d σ M12 hd ⟨u4, u5, u6, kvs, rfl, hMA, hMB, hk4, hl4, hne4, hx12, hh12⟩
    have hi : i < 16 := by
      have := (List.getElem?_eq_some_iff.mp hd).1
      rw [k4z] at this; omega
    refine ⟨h, many, _, rfl, hh12, by omega, by omega, fun one M13 h13 t13 => ⟨h, many - 1, _, rfl, t13.at_, by omega, by omega, fun o2 M14 h14 t14 => ⟨by omega, ?_⟩⟩⟩
    have hMA' : M14 A = some (.lst (rates.map .int)) := by rw [t14.off A Ah, t13.off A Ah]; exact hMA
    have hMB' : M14 B = some (.dN kvs) := by rw [t14.off B Bh, t13.off B Bh]; exact hMB
    have x14 := (hx12.to t13).to t14
    have hh14 := t14.at_
    refine .inr ⟨kvs, hMB', fun z1 => ?_, fun z1 => ?_⟩
    · refine ⟨B, kvs, hMB', fun od xs => ?_⟩
      refine lc_fm (items := keysD kvs) (fun d => match d with | .tup (.int a :: _) => if a = one then some d else none | _ => none) (fun Q' hq => ?_) (by unfold keysD; rw [List.length_map]; exact small (by omega)) (fun d hd M2' Ky Kn ex hy hn' => ?_) ?_
      · simp only [DL.dstart, DL.dVar, DL.dC, DL.dNil, DL.dCons, DL.dTup, DL.dLst, DL.dOp, DL.dB, DL.rIsi, DL.rLen, DL.rMin, DL.rMax, DL.rInt, DL.rTuple, DL.rList, DL.rAll, DL.rAny, DL.rSum, DL.dTest, DL.dChain, DL.dAnd, DL.dOr, DL.dNot, DL.dAndV, DL.dOrV, DL.dNotV, DL.dIf, DL.dNext, DL.dSeq, DL.dDrop, DL.dRet, DL.dRetN, DL.dIfS, DL.dAsg, DL.dName, DL.dPar, DL.dPar3, DL.dAug, DL.dgNil, DL.dgCons, DL.dgTup, DL.dSub, DL.dCall, DL.dNeg, DL.dSlice, DL.dPart, DL.dNo, DL.rI2, DL.rII, DL.rAdd, DL.rIsN, DL.rIx, DL.rSet, DL.isi, DL.rEq_int, DL.rEq_str, DL.at0, DL.at1, DL.at2, DL.at3, DL.Tn.nm, DL.dChain, DL.rLtI, DL.rLeI, DL.rGtI, DL.rGeI, DL.rSub, DL.rMul, DL.rMod, DL.rDiv, DL.rPow, List.length_cons, List.length_nil, List.replicate_succ, List.replicate_zero, Nat.reduceAdd, Nat.reduceSub, Nat.zero_add, List.map_cons, List.map_nil, List.cons_append, List.nil_append, List.getElem?_cons_zero, List.getElem?_cons_succ, List.set_cons_zero, List.set_cons_succ, iKeysN]; exact ⟨od, xs, kvs, um_same, hq _ fun M2 e => e _ _ um_same⟩
      · obtain ⟨r, rfl, _⟩ := keys4 hk4 d hd
        simp only [DL.dstart, DL.dVar, DL.dC, DL.dNil, DL.dCons, DL.dTup, DL.dLst, DL.dOp, DL.dB, DL.rIsi, DL.rLen, DL.rMin, DL.rMax, DL.rInt, DL.rTuple, DL.rList, DL.rAll, DL.rAny, DL.rSum, DL.dTest, DL.dChain, DL.dAnd, DL.dOr, DL.dNot, DL.dAndV, DL.dOrV, DL.dNotV, DL.dIf, DL.dNext, DL.dSeq, DL.dDrop, DL.dRet, DL.dRetN, DL.dIfS, DL.dAsg, DL.dName, DL.dPar, DL.dPar3, DL.dAug, DL.dgNil, DL.dgCons, DL.dgTup, DL.dSub, DL.dCall, DL.dNeg, DL.dSlice, DL.dPart, DL.dNo, DL.rI2, DL.rII, DL.rAdd, DL.rIsN, DL.rIx, DL.rSet, DL.isi, DL.rEq_int, DL.rEq_str, DL.at0, DL.at1, DL.at2, DL.at3, DL.Tn.nm, DL.dChain, DL.rLtI, DL.rLeI, DL.rGtI, DL.rGeI, DL.rSub, DL.rMul, DL.rMod, DL.rDiv, DL.rPow, List.length_cons, List.length_nil, List.replicate_succ, List.replicate_zero, Nat.reduceAdd, Nat.reduceSub, Nat.zero_add, List.map_cons, List.map_nil, List.cons_append, List.nil_append, List.getElem?_cons_zero, List.getElem?_cons_succ, List.set_cons_zero, List.set_cons_succ, dWipe, rackD] at hy hn' ⊢
        refine ⟨_, rfl, fun z => hy _ ?_, fun z => hn' ?_⟩
        · have e : r.1 = one := by simpa using z
          simp [e]
        · have e : ¬ r.1 = one := by simpa using z
          simp [e]
      refine ⟨um_same, ?_⟩
      rw [um_um, um_self hMB']
      refine ⟨fun z2 => ?_, fun z2 => ?_⟩
      · refine .inl ⟨_, hMA', h, _, _, rfl, hh14, by omega, by rw [List.length_map]; have := List.length_pos_iff.mpr hne; omega, fun c1 M15 h15 t15 => ⟨h, 2, _, rfl, t15.at_, by omega, by decide, fun c2 M16 h16 t16 => ⟨small (by simp), ?_⟩⟩⟩
        have hB16 : M16 B = some (.dN kvs) := by rw [t16.off B Bh, t15.off B Bh]; exact hMB'
        refine ⟨kvs, .tup [.num one, .num ((one + 1 + o2) % many), .num c1, .num c2], _, hB16, rfl, rfl, by simp [D.dep, D.deps], by rw [sizeLine_eq]; omega, _, _, _, _, rfl, by rw [um_ne BA.symm, t16.off A Ah, t15.off A Ah]; exact hMA', um_same, fun x hx => ?_, ?_, fun _ => putT_ne, ((x14.to t15).to t16).um BM, (t16.at_.um Bh).mono (by omega)⟩
        · rcases mem_putT hx with z | ⟨y', hy', z⟩
          · exact ⟨_, _, _, _, z, h13⟩
          · rw [← z]; exact hk4 y' hy'
        · have : (kvs.length : Int) < 12 := by simpa using z1
          have := @putT_len kvs (.tup [.num one, .num ((one + 1 + o2) % many), .num c1, .num c2]) (.bl true)
          omega
      · refine ⟨_, _, _, kvs, rfl, hMA', hMB', hk4, hl4, fun _ e => ?_, x14, hh14.mono (by omega)⟩
        subst e
        exact absurd z2 (by simp [keysD])
    · refine ⟨fun z => (nomatch z), fun _ => ⟨_, _, _, kvs, rfl, hMA', hMB', hk4, hl4, fun _ e => ?_, x14, hh14.mono (by omega)⟩⟩
      subst e
      exact absurd z1 (by simp)
  rintro σ M12 ⟨u4, u5, u6, kvs, rfl, hMA, hMB, hk4, hl4, hne4, hx12, hh12⟩
  rw [k4z] at hne4 hh12
  simp only [DL.dstart, DL.dVar, DL.dC, DL.dNil, DL.dCons, DL.dTup, DL.dLst, DL.dOp, DL.dB, DL.rIsi, DL.rLen, DL.rMin, DL.rMax, DL.rInt, DL.rTuple, DL.rList, DL.rAll, DL.rAny, DL.rSum, DL.dTest, DL.dChain, DL.dAnd, DL.dOr, DL.dNot, DL.dAndV, DL.dOrV, DL.dNotV, DL.dIf, DL.dNext, DL.dSeq, DL.dDrop, DL.dRet, DL.dRetN, DL.dIfS, DL.dAsg, DL.dName, DL.dPar, DL.dPar3, DL.dAug, DL.dgNil, DL.dgCons, DL.dgTup, DL.dSub, DL.dCall, DL.dNeg, DL.dSlice, DL.dPart, DL.dNo, DL.rI2, DL.rII, DL.rAdd, DL.rIsN, DL.rIx, DL.rSet, DL.isi, DL.rEq_int, DL.rEq_str, DL.at0, DL.at1, DL.at2, DL.at3, DL.Tn.nm, DL.dChain, DL.rLtI, DL.rLeI, DL.rGtI, DL.rGeI, DL.rSub, DL.rMul, DL.rMod, DL.rDiv, DL.rPow, List.length_cons, List.length_nil, List.replicate_succ, List.replicate_zero, Nat.reduceAdd, Nat.reduceSub, Nat.zero_add, List.map_cons, List.map_nil, List.cons_append, List.nil_append, List.getElem?_cons_zero, List.getElem?_cons_succ, List.set_cons_zero, List.set_cons_succ]
  refine ⟨small (by simp), h, 3, _, rfl, hh12, by omega, by decide, fun a3 M13 ha3 t13 => ?_⟩
  have pick3 : ∃ m : Int, atI [D.int 2, D.int 4, D.int 7] a3 = some (.int m) ∧ 1 ≤ m ∧ m ≤ 7 := by
    have e2 : a3 = 0 ∨ a3 = 1 ∨ a3 = 2 := by omega
    rcases e2 with rfl | rfl | rfl
    · exact ⟨2, at0, by decide, by decide⟩
    · exact ⟨4, at1, by decide, by decide⟩
    · exact ⟨7, at2, by decide, by decide⟩
  obtain ⟨m5, hm5, hm6, hm7⟩ := pick3
  refine ⟨_, hm5, h, m5, _, rfl, t13.at_, by omega, by omega, fun b3 M14 hb3 t14 => ?_⟩
  have hMA' : M14 A = some (.lst (rates.map .int)) := by rw [t14.off A Ah, t13.off A Ah]; exact hMA
  have hMB' : M14 B = some (.dN kvs) := by rw [t14.off B Bh, t13.off B Bh]; exact hMB
  have k4 := keys4 hk4
  obtain ⟨rs', ers, hrs⟩ := racks_of (srt (keysD kvs)) fun d hd => k4 d ((srt_perm _).mem_iff.mp hd)
  have lrs : rs'.length = kvs.length := by
    have := congrArg List.length ers
    rw [(srt_perm _).length_eq] at this
    unfold keysD at this
    rw [List.length_map, List.length_map] at this
    omega
  refine ⟨small (by simp), _, hMA', .inr ⟨kvs, hMB', srtOk4 k4, small (by simp), Dr.back (M := M) ?_⟩⟩
  rw [ers]
  have kp := List.length_pos_iff.mpr (hne4 (by omega))
  exact q ⟨many, ties, rates, rs', 1 + b3⟩ _ ⟨by show 1 ≤ many ∧ many ≤ 100; omega, by show 1 ≤ 1 + b3 ∧ 1 + b3 ≤ 100; omega, by show 1 ≤ rates.length ∧ rates.length ≤ 50; have := List.length_pos_iff.mpr hne; omega, by show 1 ≤ rs'.length ∧ rs'.length ≤ 50; omega, hrs⟩ (HdTo.exh ((hx12.to t13).to t14) hh (t14.at_.mono (by omega)))
end
end K7

namespace K7
open PySem PySem.Spec PyProof.Rows L2 DL
/-! ### what is equal, what is in a list -/
theorem Kd.eqv {d e : D} (h : Kd d) (h' : Kd e) : PyData.eqv d.py e.py = decide (d = e) := by
  have q := eqv_nk (kOf d) (kOf e)
  rw [h.back, h'.back] at q
  by_cases z : d = e
  · subst z; rw [q.mpr rfl]; simp
  · have : ¬ PyData.eqv d.py e.py = true := fun y => z (h.inj h' (q.mp y))
    simp [z, this]
theorem any_in {ts : List D} (hk : ∀ d ∈ ts, Kd d) {d : D} (hd : Kd d) : (ts.any fun z => PyData.eqv z.py d.py) = decide (d ∈ ts) := by
  induction ts with
  | nil => rfl
  | cons e ts ih =>
    rw [List.any_cons, ih fun x hx => hk x (List.mem_cons_of_mem _ hx), (hk e List.mem_cons_self).eqv hd]
    by_cases z : e = d
    · subst z; simp
    · simp [z, Ne.symm z]
theorem deps_le {k : Nat} : ∀ {ds : List D}, (∀ d ∈ ds, d.dep ≤ k) → D.deps ds ≤ k
  | [], _ => by simp [D.deps]
  | d :: ds, h => by
    have h1 := h d List.mem_cons_self
    have h2 := deps_le fun x hx => h x (List.mem_cons_of_mem _ hx)
    simp only [D.deps]; omega
theorem dats_of : ∀ {ds : List D}, (∀ d ∈ ds, d.dat = true) → D.dats ds = true
  | [], _ => by simp [D.dats]
  | d :: ds, h => by
    simp [D.dats, h d List.mem_cons_self, dats_of fun x hx => h x (List.mem_cons_of_mem _ hx)]
theorem intsD_dat (l : List Int) : (intsD l).dat = true := by simp [intsD, D.dat, dats_ints]
theorem PageOk.dat {p : Plan} {d : D} (h : PageOk p d) : d.dat = true := by
  cases h with
  | @gate place day cuts ends h1 h2 h3 h4 h5 h6 h7 =>
    have e1 := dats_of (ds := cuts) fun d hd => by obtain ⟨l, rfl⟩ := (h3 d hd).ints; exact intsD_dat l
    have e2 := dats_of (ds := ends) fun d hd => by obtain ⟨l, rfl⟩ := (h5 d hd).ints; exact intsD_dat l
    have e3 : PyData.strOk "gate" = true := by decide +kernel
    simp [D.dat, D.dats, e1, e2, e3]
  | @office place day closings betters backs pressed coin h1 h2 h3 h4 h5 h6 h7 h8 h9 h10 h11 =>
    have e1 := dats_of (ds := closings) fun d hd => (h3 d hd).1
    have e2 := dats_of (ds := betters) fun d hd => by obtain ⟨l, rfl⟩ := (h7 d hd).ints; exact intsD_dat l
    have e4 := dats_of (ds := backs) fun d hd => by obtain ⟨l, rfl⟩ := (h8 d hd).ints; exact intsD_dat l
    have e3 : PyData.strOk "office" = true := by decide +kernel
    simp [D.dat, D.dats, e1, e2, e3, e4, h6.1, h9.1]
theorem PageOk.cut {p : Plan} {d : D} (h : PageOk p d) : ∃ xs, d = .tup xs ∧ dSlice.cutD xs none (some 3) = xs.take 3 ∧ .tup (xs.take 3) = keyD d := by
  obtain ⟨x, a, b, r, rfl⟩ := h.key
  exact ⟨_, rfl, cutT3, rfl⟩
theorem KeyOk.dat {d : D} (h : KeyOk d) : d.dat = true ∧ d.dep ≤ 64 := by
  obtain ⟨x, a, b, e, rfl⟩ := h
  exact ⟨by simp [D.dat, D.dats, e], by simp [D.dep, D.deps]⟩
theorem rEq_key {neg : Bool} {d e : D} {M : DM} {Q : DK} (h : KeyOk d) (h' : KeyOk e) (q : Q (.bl (xor neg (decide (d = e)))) M) : DL.rEq neg d e M Q := by
  have z1 := h.dat
  have z2 := h'.dat
  rw [← h.kd.eqv h'.kd] at q
  obtain ⟨x, a, b, _, rfl⟩ := h
  obtain ⟨y, c, e, _, rfl⟩ := h'
  exact ⟨_, _, .inl ⟨rfl, z1.1⟩, .inl ⟨rfl, z2.1⟩, z1.2, z2.2, q⟩
/-! ### what the law keeps -/
structure KeptAt (M : DM) (p : Plan) (kp a b : Addr) (ts vs : List D) : Prop where
  ob : M kp = some (.dK [(.inr "taken", .ref a), (.inr "void", .ref b)])
  tk : M a = some (.lst ts)
  vd : M b = some (.lst vs)
  okT : ∀ d ∈ ts, PageOk p d
  okV : ∀ d ∈ vs, PageOk p d
  ne : kp ≠ a ∧ kp ≠ b ∧ a ≠ b
  few : ts.length ≤ 1000 ∧ vs.length ≤ 1000
theorem KeptAt.getT {x y : D} : getT [((Sum.inr "taken" : Key), x), (.inr "void", y)] (.inr "taken") = some x ∧ getT [((Sum.inr "taken" : Key), x), (.inr "void", y)] (.inr "void") = some y := by
  have e : ¬ (Str.ofString "taken" = Str.ofString "void") := by decide +kernel
  constructor <;> simp [DL.getT, List.find?_cons, e]
section
variable {P : Program} {w : World} {K : PySem.W.Frag} {mg : Str → Option Value} {base : Heap} {C : Addr} (T : TxL K mg C)
include T
def sp_taken : DSp := fun ds M Q => ∃ (p : Plan) (kp a b : Addr) (ts vs : List D) (d : D), ds = [.ref kp, d] ∧ KeptAt M p kp a b ts vs ∧ PageOk p d ∧ ts.length < 1000 ∧
  (d ∈ ts → Q (.str "again") M) ∧ (d ∉ ts → ∀ M', KeptAt M' p kp a b (ts ++ [d]) vs → (∀ x, x ≠ a → M' x = M x) → Q (.str (if (ts.any fun e => decide (keyD e = keyD d)) then "unlike" else "new")) M')
theorem ok_taken {f fd} (F : Fun K "_law_taken" "_law_taken" st__law_taken f fd) : DFn P w K mg base 1 f fd ps__law_taken sp_taken := by
  refine dfn_ok F sc__law_taken (fun ds M Q ⟨p, kp, a, b, ts, vs, d, e, _⟩ => by rw [e]; rfl) fun cdv A outer s H E hr => ⟨_, (dss_cons (ds_if (db_cmp (o_in hr.u65) (dv 1) (de_dgetK hr.u1 (dv 0) de_str)) (dss_one (ds_ret de_str)) dss_nil)
  (dss_cons (ds_lc (i := 2) (own := [("_law_one", 3)]) rfl sc__law_taken.nd rfl rfl (sw_true rfl rfl rfl (by decide +kernel)) (di_seq (de_dgetK hr.u1 (dv 0) de_str)) (blkOk_by (N := nm__law_taken) (sc := defScope st__law_taken) (by decide +kernel)) (fun _ _ _ _ _ => (pg_name (i := 3) sc__law_taken.nd rfl (by first | exact Or.inl rfl | exact Or.inr rfl))) (tgo_name 3) (fun _ _ _ _ _ => (dts_one (db_cmp (o_eq hr.units) (de_slice (dv 3) po_no (po_pt de_int)) (de_slice (dv 1) po_no (po_pt de_int))))) (fun _ _ _ _ _ => (dv 3)))
  (dss_cons (ds_expr (de_bml PySem.F.plainAttrs_list PySem.F.slot_list_append PySem.F.type_list_append m_append (de_dgetK hr.u1 (dv 0) de_str) (da_cons (dv 1) da_nil)))
  (dss_one (ds_ret (de_if (db_cmp (o_ne hr.units) (dv 2) (de_lst da_nil)) de_str de_str)))))), ?_⟩
  rintro ds M Q ⟨p, kp, a, b, ts, vs, d, rfl, S, ok, hz, q1, q2⟩
  simp only [DL.dstart, DL.dVar, DL.dC, DL.dNil, DL.dCons, DL.dTup, DL.dLst, DL.dOp, DL.dB, DL.rIsi, DL.rLen, DL.rMin, DL.rMax, DL.rInt, DL.rTuple, DL.rList, DL.rAll, DL.rAny, DL.rSum, DL.dTest, DL.dChain, DL.dAnd, DL.dOr, DL.dNot, DL.dAndV, DL.dOrV, DL.dNotV, DL.dIf, DL.dNext, DL.dSeq, DL.dDrop, DL.dRet, DL.dRetN, DL.dIfS, DL.dAsg, DL.dName, DL.dPar, DL.dPar3, DL.dAug, DL.dgNil, DL.dgCons, DL.dgTup, DL.dSub, DL.dCall, DL.dNeg, DL.dSlice, DL.dPart, DL.dNo, DL.rI2, DL.rII, DL.rAdd, DL.rIsN, DL.rIx, DL.rSet, DL.isi, DL.rEq_int, DL.rEq_str, DL.at0, DL.at1, DL.at2, DL.at3, DL.Tn.nm, DL.dChain, DL.rLtI, DL.rLeI, DL.rGtI, DL.rGeI, DL.rSub, DL.rMul, DL.rMod, DL.rDiv, DL.rPow, List.length_cons, List.length_nil, List.replicate_succ, List.replicate_zero, Nat.reduceAdd, Nat.reduceSub, Nat.zero_add, List.map_cons, List.map_nil, List.cons_append, List.nil_append, List.getElem?_cons_zero, List.getElem?_cons_succ, List.set_cons_zero, List.set_cons_succ, nm__law_taken, rGetK]
  have dT : ∀ e ∈ ts, e.dat = true := fun e he => (S.okT e he).dat
  have kT : ∀ e ∈ ts, Kd e := fun e he => (S.okT e he).kd
  have zT : D.deps ts + 1 ≤ 64 := by
    have := deps_le (k := 8) fun e he => (kT e he).2.2
    omega
  refine ⟨_, _, S.ob, KeptAt.getT.1, ts, .inr ⟨a, ts, rfl, S.tk, rfl, dats_of dT⟩, ok.dat, by have := ok.kd.2.2; omega, zT, ?_⟩
  rw [any_in kT ok.kd]
  refine ⟨fun z => Dr.here (q1 (by simpa using z)), fun z => ?_⟩
  have hn : d ∉ ts := by simpa using z
  refine lc_fm (items := ts) (fun e => if keyD e = keyD d then some e else none) (fun Q' hq => ?_) (by rw [sizeLine_eq]; omega) (fun e he M2' Ky Kn ex hy hn' => ?_) ?_
  · simp only [DL.dstart, DL.dVar, DL.dC, DL.dNil, DL.dCons, DL.dTup, DL.dLst, DL.dOp, DL.dB, DL.rIsi, DL.rLen, DL.rMin, DL.rMax, DL.rInt, DL.rTuple, DL.rList, DL.rAll, DL.rAny, DL.rSum, DL.dTest, DL.dChain, DL.dAnd, DL.dOr, DL.dNot, DL.dAndV, DL.dOrV, DL.dNotV, DL.dIf, DL.dNext, DL.dSeq, DL.dDrop, DL.dRet, DL.dRetN, DL.dIfS, DL.dAsg, DL.dName, DL.dPar, DL.dPar3, DL.dAug, DL.dgNil, DL.dgCons, DL.dgTup, DL.dSub, DL.dCall, DL.dNeg, DL.dSlice, DL.dPart, DL.dNo, DL.rI2, DL.rII, DL.rAdd, DL.rIsN, DL.rIx, DL.rSet, DL.isi, DL.rEq_int, DL.rEq_str, DL.at0, DL.at1, DL.at2, DL.at3, DL.Tn.nm, DL.dChain, DL.rLtI, DL.rLeI, DL.rGtI, DL.rGeI, DL.rSub, DL.rMul, DL.rMod, DL.rDiv, DL.rPow, List.length_cons, List.length_nil, List.replicate_succ, List.replicate_zero, Nat.reduceAdd, Nat.reduceSub, Nat.zero_add, List.map_cons, List.map_nil, List.cons_append, List.nil_append, List.getElem?_cons_zero, List.getElem?_cons_succ, List.set_cons_zero, List.set_cons_succ, iSeq, rGetK]; exact ⟨_, _, S.ob, KeptAt.getT.1, ts, S.tk, hq _ fun M2 e => e _ _ S.tk⟩
  · have k1 := (S.okT e he).keyOk
    have k2 := ok.keyOk
    obtain ⟨xs, e1, e2, e3⟩ := (S.okT e he).cut
    obtain ⟨ys, f1, f2, f3⟩ := ok.cut
    rw [e1, f1]
    simp only [DL.dstart, DL.dVar, DL.dC, DL.dNil, DL.dCons, DL.dTup, DL.dLst, DL.dOp, DL.dB, DL.rIsi, DL.rLen, DL.rMin, DL.rMax, DL.rInt, DL.rTuple, DL.rList, DL.rAll, DL.rAny, DL.rSum, DL.dTest, DL.dChain, DL.dAnd, DL.dOr, DL.dNot, DL.dAndV, DL.dOrV, DL.dNotV, DL.dIf, DL.dNext, DL.dSeq, DL.dDrop, DL.dRet, DL.dRetN, DL.dIfS, DL.dAsg, DL.dName, DL.dPar, DL.dPar3, DL.dAug, DL.dgNil, DL.dgCons, DL.dgTup, DL.dSub, DL.dCall, DL.dNeg, DL.dSlice, DL.dPart, DL.dNo, DL.rI2, DL.rII, DL.rAdd, DL.rIsN, DL.rIx, DL.rSet, DL.isi, DL.rEq_int, DL.rEq_str, DL.at0, DL.at1, DL.at2, DL.at3, DL.Tn.nm, DL.dChain, DL.rLtI, DL.rLeI, DL.rGtI, DL.rGeI, DL.rSub, DL.rMul, DL.rMod, DL.rDiv, DL.rPow, List.length_cons, List.length_nil, List.replicate_succ, List.replicate_zero, Nat.reduceAdd, Nat.reduceSub, Nat.zero_add, List.map_cons, List.map_nil, List.cons_append, List.nil_append, List.getElem?_cons_zero, List.getElem?_cons_succ, List.set_cons_zero, List.set_cons_succ, dWipe]
    rw [e2, f2, e3, f3, ← e1]
    refine rEq_key k1 k2 ⟨fun z => hy _ ?_, fun z => hn' ?_⟩
    · have z : keyD e = keyD d := by simpa using z
      rw [if_pos z]
    · have z : ¬ keyD e = keyD d := by simpa using z
      rw [if_neg z]
  · have ef : ∀ l : List D, l.filterMap (fun e => if keyD e = keyD d then some e else none) = l.filter fun e => keyD e = keyD d := by
      intro l
      induction l with
      | nil => rfl
      | cons e l ih => by_cases z : keyD e = keyD d <;> simp [z, ih]
    rw [ef]
    refine ⟨_, _, S.ob, KeptAt.getT.1, ⟨ts, S.tk⟩, ts, S.tk, by rw [sizeLine_eq]; omega, ?_⟩
    have S' : KeptAt (um M a (.lst (ts ++ [d]))) p kp a b (ts ++ [d]) vs := {
      ob := by rw [um_ne S.ne.1]; exact S.ob
      tk := um_same
      vd := by rw [um_ne S.ne.2.2.symm]; exact S.vd
      okT := fun e he => by
        rcases List.mem_append.mp he with z | z
        · exact S.okT e z
        · rw [List.mem_singleton.mp z]; exact ok
      okV := S.okV
      ne := S.ne
      few := ⟨by rw [List.length_append, List.length_singleton]; omega, S.few.2⟩ }
    have q3 := q2 hn _ S' fun x hx => um_ne hx
    have dM : D.dats (ts.filter fun e => keyD e = keyD d) = true := dats_of fun e he => dT e (List.mem_filter.mp he).1
    have zM : D.deps (ts.filter fun e => keyD e = keyD d) ≤ 8 := deps_le fun e he => (kT e (List.mem_filter.mp he).1).2.2
    refine ⟨small (by simp), .lst _, .lst [], .inl ⟨rfl, by simpa [D.dat] using dM⟩, .inl ⟨rfl, rfl⟩, by simp only [D.dep]; omega, by simp [D.dep, D.deps], ?_⟩
    have ev : PyData.eqv (D.lst (ts.filter fun e => keyD e = keyD d)).py (D.lst []).py = !(ts.any fun e => decide (keyD e = keyD d)) := by
      simp only [D.py, D.pys, PyData.eqv]
      cases hc : ts.filter fun e => keyD e = keyD d with
      | nil =>
        have : (ts.any fun e => decide (keyD e = keyD d)) = false := by
          rw [List.any_eq_false]
          intro e he z
          have := List.filter_eq_nil_iff.mp hc e he
          exact this z
        rw [this]; rfl
      | cons e l =>
        have : e ∈ ts.filter fun e => keyD e = keyD d := by rw [hc]; exact List.mem_cons_self
        have : (ts.any fun e => decide (keyD e = keyD d)) = true := List.any_eq_true.mpr ⟨e, (List.mem_filter.mp this).1, (List.mem_filter.mp this).2⟩
        rw [this]; rfl
    rw [ev]
    refine ⟨fun z => ?_, fun z => ?_⟩
    · have z : (ts.any fun e => decide (keyD e = keyD d)) = true := by simpa using z
      rw [if_pos z] at q3; exact Dr.here q3
    · have z : ¬ (ts.any fun e => decide (keyD e = keyD d)) = true := by simpa using z
      rw [if_neg z] at q3; exact Dr.here q3
def sp_voided : DSp := fun ds M Q => ∃ (p : Plan) (kp a b : Addr) (ts vs : List D) (d : D), ds = [.ref kp, d] ∧ KeptAt M p kp a b ts vs ∧ PageOk p d ∧ vs.length < 1000 ∧
  (d ∈ vs → Q (.str "again") M) ∧ (d ∉ vs → ∀ M', KeptAt M' p kp a b ts (vs ++ [d]) → (∀ x, x ≠ b → M' x = M x) → Q (.str "void") M')
theorem ok_voided {f fd} (F : Fun K "_law_voided" "_law_voided" st__law_voided f fd) : DFn P w K mg base 1 f fd ps__law_voided sp_voided := by
  refine dfn_ok F sc__law_voided (fun ds M Q ⟨p, kp, a, b, ts, vs, d, e, _⟩ => by rw [e]; rfl) fun cdv A outer s H E hr => ⟨_, (dss_cons (ds_if (db_cmp (o_in hr.u65) (dv 1) (de_dgetK hr.u1 (dv 0) de_str)) (dss_one (ds_ret de_str)) dss_nil)
  (dss_cons (ds_expr (de_bml PySem.F.plainAttrs_list PySem.F.slot_list_append PySem.F.type_list_append m_append (de_dgetK hr.u1 (dv 0) de_str) (da_cons (dv 1) da_nil)))
  (dss_one (ds_ret de_str)))), ?_⟩
  rintro ds M Q ⟨p, kp, a, b, ts, vs, d, rfl, S, ok, hz, q1, q2⟩
  simp only [DL.dstart, DL.dVar, DL.dC, DL.dNil, DL.dCons, DL.dTup, DL.dLst, DL.dOp, DL.dB, DL.rIsi, DL.rLen, DL.rMin, DL.rMax, DL.rInt, DL.rTuple, DL.rList, DL.rAll, DL.rAny, DL.rSum, DL.dTest, DL.dChain, DL.dAnd, DL.dOr, DL.dNot, DL.dAndV, DL.dOrV, DL.dNotV, DL.dIf, DL.dNext, DL.dSeq, DL.dDrop, DL.dRet, DL.dRetN, DL.dIfS, DL.dAsg, DL.dName, DL.dPar, DL.dPar3, DL.dAug, DL.dgNil, DL.dgCons, DL.dgTup, DL.dSub, DL.dCall, DL.dNeg, DL.dSlice, DL.dPart, DL.dNo, DL.rI2, DL.rII, DL.rAdd, DL.rIsN, DL.rIx, DL.rSet, DL.isi, DL.rEq_int, DL.rEq_str, DL.at0, DL.at1, DL.at2, DL.at3, DL.Tn.nm, DL.dChain, DL.rLtI, DL.rLeI, DL.rGtI, DL.rGeI, DL.rSub, DL.rMul, DL.rMod, DL.rDiv, DL.rPow, List.length_cons, List.length_nil, List.replicate_succ, List.replicate_zero, Nat.reduceAdd, Nat.reduceSub, Nat.zero_add, List.map_cons, List.map_nil, List.cons_append, List.nil_append, List.getElem?_cons_zero, List.getElem?_cons_succ, List.set_cons_zero, List.set_cons_succ, nm__law_voided, rGetK]
  have dT : ∀ e ∈ vs, e.dat = true := fun e he => (S.okV e he).dat
  have kT : ∀ e ∈ vs, Kd e := fun e he => (S.okV e he).kd
  have zT : D.deps vs + 1 ≤ 64 := by
    have := deps_le (k := 8) fun e he => (kT e he).2.2
    omega
  refine ⟨_, _, S.ob, KeptAt.getT.2, vs, .inr ⟨b, vs, rfl, S.vd, rfl, dats_of dT⟩, ok.dat, by have := ok.kd.2.2; omega, zT, ?_⟩
  rw [any_in kT ok.kd]
  refine ⟨fun z => Dr.here (q1 (by simpa using z)), fun z => ?_⟩
  have hn : d ∉ vs := by simpa using z
  refine ⟨_, _, S.ob, KeptAt.getT.2, ⟨vs, S.vd⟩, vs, S.vd, by rw [sizeLine_eq]; omega, Dr.here (q2 hn _ ?_ fun x hx => um_ne hx)⟩
  exact {
    ob := by rw [um_ne S.ne.2.1]; exact S.ob
    tk := by rw [um_ne S.ne.2.2]; exact S.tk
    vd := um_same
    okT := S.okT
    okV := fun e he => by
      rcases List.mem_append.mp he with z | z
      · exact S.okV e z
      · rw [List.mem_singleton.mp z]; exact ok
    ne := S.ne
    few := ⟨S.few.1, by rw [List.length_append, List.length_singleton]; omega⟩ }
end
end K7

namespace K7
open PySem PySem.Spec PyProof.Rows L2 DL
theorem keys_nk : ∀ (xs : List D), (∀ d ∈ xs, KeyOk d) → ∃ ks : List NK, xs = ks.map nkD ∧ ∀ k ∈ ks, flatK k = true
  | [], _ => ⟨[], rfl, fun k hk => by cases hk⟩
  | d :: xs, h => by
    obtain ⟨ks, e, f⟩ := keys_nk xs fun x hx => h x (List.mem_cons_of_mem _ hx)
    obtain ⟨x, a, b, _, rfl⟩ := h d List.mem_cons_self
    refine ⟨.tup [.text x, .num a, .num b] :: ks, by rw [List.map_cons, ← e]; rfl, fun k hk => ?_⟩
    rcases List.mem_cons.mp hk with z | z
    · rw [z]; rfl
    · exact f k z
theorem fm_some (f : D → D) : ∀ l : List D, l.filterMap (fun d => some (f d)) = l.map f
  | [] => rfl
  | d :: l => congrArg (List.cons (f d)) (fm_some f l)
noncomputable abbrev stand (ts vs : List D) : List D := ts.filter fun d => d ∉ vs
theorem grp_stand (ts vs : List D) (key : D) : (stand ts vs).filter (fun d => keyD d = key) = grp ts vs key := by
  unfold grp stand
  rw [List.filter_filter, List.filter_filter]
  congr 1
  funext d
  rw [Bool.and_comm]
section
variable {P : Program} {w : World} {K : PySem.W.Frag} {mg : Str → Option Value} {base : Heap} {C : Addr} (T : TxL K mg C)
include T
def sp_counting : DSp := fun ds M Q => ∃ (p : Plan) (kp a b : Addr) (ts vs : List D), ds = [.ref kp] ∧ KeptAt M p kp a b ts vs ∧ ts.length ≤ 60 ∧
  ∀ L : List D, L.Nodup → (∀ d, d ∈ L ↔ d ∈ (stand ts vs).map keyD) → Q (.tup [.tup ((srt L).filterMap (fileF ts vs)), .tup ((srt L).filterMap (unlF ts vs))]) M
theorem ok_counting {f fd} (F : Fun K "_law_counting" "_law_counting" st__law_counting f fd) : DFn P w K mg base 1 f fd ps__law_counting sp_counting := by
  refine dfn_ok F sc__law_counting (fun ds M Q ⟨p, kp, a, b, ts, vs, e, _⟩ => by rw [e]; rfl) fun cdv A outer s H E hr => ⟨_, (dss_cons (ds_lc (i := 1) (own := [("_law_page", 2)]) rfl sc__law_counting.nd rfl rfl (sw_true rfl rfl rfl (by decide +kernel)) (di_seq (de_dgetK hr.u1 (dv 0) de_str)) (blkOk_by (N := nm__law_counting) (sc := defScope st__law_counting) (by decide +kernel)) (fun _ _ _ _ _ => (pg_name (i := 2) sc__law_counting.nd rfl (by first | exact Or.inl rfl | exact Or.inr rfl))) (tgo_name 2) (fun _ _ _ _ _ => (dts_one (db_cmp (o_notin hr.u65) (dv 2) (de_dgetK hr.u1 (dv 0) de_str)))) (fun _ _ _ _ _ => (dv 2)))
  (dss_cons (ds_par (i := 3) (j := 4) (by rfl) sc__law_counting.nd rfl rfl (by decide) rfl rfl (da_cons (de_lstM da_nil) (da_cons (de_lstM da_nil) da_nil)) (by rfl))
  (dss_cons (ds_for PassesOwn.never rfl (di_seq (de_sortset rfl hr.u128 rfl T.b_sorted rfl T.b_set (de_lc (own := [("_law_page", 2)]) rfl sc__law_counting.nd (di_seq (dv 1)) (blkOk_by (N := nm__law_counting) (sc := defScope st__law_counting) (by decide +kernel)) (fun _ _ _ _ _ => (pg_name (i := 2) sc__law_counting.nd rfl (by first | exact Or.inl rfl | exact Or.inr rfl))) (tgo_name 2) (fun _ _ _ _ _ => dts_nil) (fun _ _ _ _ _ => (de_slice (dv 2) po_no (po_pt de_int)))))) (dg_name (i := 5) sc__law_counting.nd rfl (by first | exact Or.inl rfl | exact Or.inr rfl)) (dss_cons (ds_lc (i := 6) (own := [("_law_page", 2)]) rfl sc__law_counting.nd rfl rfl (sw_true rfl rfl rfl (by decide +kernel)) (di_seq (dv 1)) (blkOk_by (N := nm__law_counting) (sc := defScope st__law_counting) (by decide +kernel)) (fun _ _ _ _ _ => (pg_name (i := 2) sc__law_counting.nd rfl (by first | exact Or.inl rfl | exact Or.inr rfl))) (tgo_name 2) (fun _ _ _ _ _ => (dts_one (db_cmp (o_eq hr.units) (de_slice (dv 2) po_no (po_pt de_int)) (dv 5)))) (fun _ _ _ _ _ => (dv 2)))
  (dss_one (ds_if (db_cmp (o_eq hr.units) (de_B c_len rfl T.b_len Bt.len (da_cons (dv 6) da_nil)) de_int) (dss_one (ds_expr (de_bml PySem.F.plainAttrs_list PySem.F.slot_list_append PySem.F.type_list_append m_append (dv 3) (da_cons (de_ix i_ix (dv 6) de_int) da_nil)))) (dss_one (ds_expr (de_bml PySem.F.plainAttrs_list PySem.F.slot_list_append PySem.F.type_list_append m_append (dv 4) (da_cons (de_tup (da_cons (dv 5) (da_cons (de_B c_len rfl T.b_len Bt.len (da_cons (dv 6) da_nil)) da_nil))) da_nil))))))))
  (dss_one (ds_ret (de_tup (da_cons (de_T c_tuple rfl T.b_tuple Bt.tuple (da_cons (dv 3) da_nil)) (da_cons (de_T c_tuple rfl T.b_tuple Bt.tuple (da_cons (dv 4) da_nil)) da_nil)))))))), ?_⟩
  rintro ds M Q ⟨p, kp, a, b, ts, vs, rfl, S, hz, q⟩
  simp only [DL.dstart, DL.dVar, DL.dC, DL.dNil, DL.dCons, DL.dTup, DL.dLst, DL.dOp, DL.dB, DL.rIsi, DL.rLen, DL.rMin, DL.rMax, DL.rInt, DL.rTuple, DL.rList, DL.rAll, DL.rAny, DL.rSum, DL.dTest, DL.dChain, DL.dAnd, DL.dOr, DL.dNot, DL.dAndV, DL.dOrV, DL.dNotV, DL.dIf, DL.dNext, DL.dSeq, DL.dDrop, DL.dRet, DL.dRetN, DL.dIfS, DL.dAsg, DL.dName, DL.dPar, DL.dPar3, DL.dAug, DL.dgNil, DL.dgCons, DL.dgTup, DL.dSub, DL.dCall, DL.dNeg, DL.dSlice, DL.dPart, DL.dNo, DL.rI2, DL.rII, DL.rAdd, DL.rIsN, DL.rIx, DL.rSet, DL.isi, DL.rEq_int, DL.rEq_str, DL.at0, DL.at1, DL.at2, DL.at3, DL.Tn.nm, DL.dChain, DL.rLtI, DL.rLeI, DL.rGtI, DL.rGeI, DL.rSub, DL.rMul, DL.rMod, DL.rDiv, DL.rPow, List.length_cons, List.length_nil, List.replicate_succ, List.replicate_zero, Nat.reduceAdd, Nat.reduceSub, Nat.zero_add, List.map_cons, List.map_nil, List.cons_append, List.nil_append, List.getElem?_cons_zero, List.getElem?_cons_succ, List.set_cons_zero, List.set_cons_succ, nm__law_counting]
  have dV : ∀ e ∈ vs, e.dat = true := fun e he => (S.okV e he).dat
  have kV : ∀ e ∈ vs, Kd e := fun e he => (S.okV e he).kd
  have zV : D.deps vs + 1 ≤ 64 := by
    have := deps_le (k := 8) fun e he => (kV e he).2.2
    omega
  have okS : ∀ e ∈ stand ts vs, PageOk p e := fun e he => S.okT e (List.mem_filter.mp he).1
  have lS : (stand ts vs).length ≤ 60 := Nat.le_trans (List.length_filter_le _ _) hz
  refine lc_fm (items := ts) (fun e => if e ∈ vs then none else some e) (fun Q' hq => ?_) (by rw [sizeLine_eq]; omega) (fun e he M2' Ky Kn ex hy hn' => ?_) ?_
  · simp only [DL.dstart, DL.dVar, DL.dC, DL.dNil, DL.dCons, DL.dTup, DL.dLst, DL.dOp, DL.dB, DL.rIsi, DL.rLen, DL.rMin, DL.rMax, DL.rInt, DL.rTuple, DL.rList, DL.rAll, DL.rAny, DL.rSum, DL.dTest, DL.dChain, DL.dAnd, DL.dOr, DL.dNot, DL.dAndV, DL.dOrV, DL.dNotV, DL.dIf, DL.dNext, DL.dSeq, DL.dDrop, DL.dRet, DL.dRetN, DL.dIfS, DL.dAsg, DL.dName, DL.dPar, DL.dPar3, DL.dAug, DL.dgNil, DL.dgCons, DL.dgTup, DL.dSub, DL.dCall, DL.dNeg, DL.dSlice, DL.dPart, DL.dNo, DL.rI2, DL.rII, DL.rAdd, DL.rIsN, DL.rIx, DL.rSet, DL.isi, DL.rEq_int, DL.rEq_str, DL.at0, DL.at1, DL.at2, DL.at3, DL.Tn.nm, DL.dChain, DL.rLtI, DL.rLeI, DL.rGtI, DL.rGeI, DL.rSub, DL.rMul, DL.rMod, DL.rDiv, DL.rPow, List.length_cons, List.length_nil, List.replicate_succ, List.replicate_zero, Nat.reduceAdd, Nat.reduceSub, Nat.zero_add, List.map_cons, List.map_nil, List.cons_append, List.nil_append, List.getElem?_cons_zero, List.getElem?_cons_succ, List.set_cons_zero, List.set_cons_succ, iSeq, rGetK]; exact ⟨_, _, S.ob, KeptAt.getT.1, ts, S.tk, hq _ fun M2 e => e _ _ S.tk⟩
  · simp only [DL.dstart, DL.dVar, DL.dC, DL.dNil, DL.dCons, DL.dTup, DL.dLst, DL.dOp, DL.dB, DL.rIsi, DL.rLen, DL.rMin, DL.rMax, DL.rInt, DL.rTuple, DL.rList, DL.rAll, DL.rAny, DL.rSum, DL.dTest, DL.dChain, DL.dAnd, DL.dOr, DL.dNot, DL.dAndV, DL.dOrV, DL.dNotV, DL.dIf, DL.dNext, DL.dSeq, DL.dDrop, DL.dRet, DL.dRetN, DL.dIfS, DL.dAsg, DL.dName, DL.dPar, DL.dPar3, DL.dAug, DL.dgNil, DL.dgCons, DL.dgTup, DL.dSub, DL.dCall, DL.dNeg, DL.dSlice, DL.dPart, DL.dNo, DL.rI2, DL.rII, DL.rAdd, DL.rIsN, DL.rIx, DL.rSet, DL.isi, DL.rEq_int, DL.rEq_str, DL.at0, DL.at1, DL.at2, DL.at3, DL.Tn.nm, DL.dChain, DL.rLtI, DL.rLeI, DL.rGtI, DL.rGeI, DL.rSub, DL.rMul, DL.rMod, DL.rDiv, DL.rPow, List.length_cons, List.length_nil, List.replicate_succ, List.replicate_zero, Nat.reduceAdd, Nat.reduceSub, Nat.zero_add, List.map_cons, List.map_nil, List.cons_append, List.nil_append, List.getElem?_cons_zero, List.getElem?_cons_succ, List.set_cons_zero, List.set_cons_succ, dWipe, rGetK]
    have ok := S.okT e he
    refine ⟨_, _, ex _ _ S.ob, KeptAt.getT.2, vs, .inr ⟨b, vs, rfl, ex _ _ S.vd, rfl, dats_of dV⟩, ok.dat, by have := ok.kd.2.2; omega, zV, ?_⟩
    rw [any_in kV ok.kd]
    refine ⟨fun z => hy _ ?_, fun z => hn' ?_⟩
    · have z : e ∉ vs := by simpa using z
      rw [if_neg z]
    · have z : e ∈ vs := by simpa using z
      rw [if_pos z]
  rw [fm_not]
  refine ⟨small (by simp), fun A hA => ⟨small (by simp), fun B hB => ?_⟩⟩
  obtain ⟨BA, hB⟩ := um_none hB
  -- the heads
  have heads : ∀ (R : DK), (∀ L : List D, L.Nodup → (∀ d, d ∈ L ↔ d ∈ (stand ts vs).map keyD) → R (.lst (srt L)) (um (um M A (.lst [])) B (.lst []))) →
      dSortSet (dLc (iSeq (dVar 1)) (dName 2) dYes (dSlice (dVar 2) dNo (dPart (dC (D.int 3)))) [2]) [some (.ref kp), some (.lst (stand ts vs)), none, some (.ref A), some (.ref B), none, none] (um (um M A (.lst [])) B (.lst [])) R := fun R hR => by
    refine lc_fm (items := stand ts vs) (fun d => some (keyD d)) (fun Q' hq => ?_) (small (by omega)) (fun e he M2' Ky Kn ex hy hn' => ?_) ?_
    · simp only [DL.dstart, DL.dVar, DL.dC, DL.dNil, DL.dCons, DL.dTup, DL.dLst, DL.dOp, DL.dB, DL.rIsi, DL.rLen, DL.rMin, DL.rMax, DL.rInt, DL.rTuple, DL.rList, DL.rAll, DL.rAny, DL.rSum, DL.dTest, DL.dChain, DL.dAnd, DL.dOr, DL.dNot, DL.dAndV, DL.dOrV, DL.dNotV, DL.dIf, DL.dNext, DL.dSeq, DL.dDrop, DL.dRet, DL.dRetN, DL.dIfS, DL.dAsg, DL.dName, DL.dPar, DL.dPar3, DL.dAug, DL.dgNil, DL.dgCons, DL.dgTup, DL.dSub, DL.dCall, DL.dNeg, DL.dSlice, DL.dPart, DL.dNo, DL.rI2, DL.rII, DL.rAdd, DL.rIsN, DL.rIx, DL.rSet, DL.isi, DL.rEq_int, DL.rEq_str, DL.at0, DL.at1, DL.at2, DL.at3, DL.Tn.nm, DL.dChain, DL.rLtI, DL.rLeI, DL.rGtI, DL.rGeI, DL.rSub, DL.rMul, DL.rMod, DL.rDiv, DL.rPow, List.length_cons, List.length_nil, List.replicate_succ, List.replicate_zero, Nat.reduceAdd, Nat.reduceSub, Nat.zero_add, List.map_cons, List.map_nil, List.cons_append, List.nil_append, List.getElem?_cons_zero, List.getElem?_cons_succ, List.set_cons_zero, List.set_cons_succ, iSeq]; exact hq _ fun _ _ => trivial
    · obtain ⟨xs, e1, e2, e3⟩ := (okS e he).cut
      simp only [DL.dstart, DL.dVar, DL.dC, DL.dNil, DL.dCons, DL.dTup, DL.dLst, DL.dOp, DL.dB, DL.rIsi, DL.rLen, DL.rMin, DL.rMax, DL.rInt, DL.rTuple, DL.rList, DL.rAll, DL.rAny, DL.rSum, DL.dTest, DL.dChain, DL.dAnd, DL.dOr, DL.dNot, DL.dAndV, DL.dOrV, DL.dNotV, DL.dIf, DL.dNext, DL.dSeq, DL.dDrop, DL.dRet, DL.dRetN, DL.dIfS, DL.dAsg, DL.dName, DL.dPar, DL.dPar3, DL.dAug, DL.dgNil, DL.dgCons, DL.dgTup, DL.dSub, DL.dCall, DL.dNeg, DL.dSlice, DL.dPart, DL.dNo, DL.rI2, DL.rII, DL.rAdd, DL.rIsN, DL.rIx, DL.rSet, DL.isi, DL.rEq_int, DL.rEq_str, DL.at0, DL.at1, DL.at2, DL.at3, DL.Tn.nm, DL.dChain, DL.rLtI, DL.rLeI, DL.rGtI, DL.rGeI, DL.rSub, DL.rMul, DL.rMod, DL.rDiv, DL.rPow, List.length_cons, List.length_nil, List.replicate_succ, List.replicate_zero, Nat.reduceAdd, Nat.reduceSub, Nat.zero_add, List.map_cons, List.map_nil, List.cons_append, List.nil_append, List.getElem?_cons_zero, List.getElem?_cons_succ, List.set_cons_zero, List.set_cons_succ, dWipe, dYes]
      rw [e1]
      dsimp only
      rw [e2, e3]
      exact ⟨fun _ => hy _ rfl, fun z => nomatch z⟩
    · rw [fm_some]
      have kk : ∀ d ∈ (stand ts vs).map keyD, KeyOk d := fun d hd => by
        obtain ⟨e, he, rfl⟩ := List.mem_map.mp hd
        exact (okS e he).keyOk
      obtain ⟨ks, e1, e2⟩ := keys_nk _ kk
      exact ⟨by rw [List.length_map]; omega, .inr ⟨ks, e1, e2, srtOk_keys kk, hR⟩⟩
  refine heads _ fun L nd mem => ?_
  have q := q L nd mem
  have hmem : ∀ d ∈ srt L, ∃ e ∈ stand ts vs, keyD e = d := fun d hd => by
    obtain ⟨e, he, e2⟩ := List.mem_map.mp ((mem d).mp ((srt_perm L).mem_iff.mp hd))
    exact ⟨e, he, e2⟩
  have hlen : (srt L).length ≤ 60 := by
    have := nodup_len L _ nd fun d hd => (mem d).mp hd
    rw [List.length_map] at this
    rw [(srt_perm L).length_eq]; omega
  generalize srt L = ks at q hmem hlen ⊢
  have upto : ∀ (F : D → Option D) (i : Nat) (d : D), ks[i]? = some d → (ks.take (i + 1)).filterMap F = (ks.take i).filterMap F ++ (F d).toList := fun F i d hd => by
    rw [List.take_succ, hd, List.filterMap_append]
    cases e : F d <;> simp [e]
  refine ⟨fun i σ M2 => (∃ u v, σ = [some (.ref kp), some (.lst (stand ts vs)), none, some (.ref A), some (.ref B), u, v]) ∧ M2 = um (um M A (.lst ((ks.take i).filterMap (fileF ts vs)))) B (.lst ((ks.take i).filterMap (unlF ts vs))), ⟨⟨_, _, rfl⟩, rfl⟩, fun _ _ _ _ _ => True.intro, ?_, ?_⟩
  · rintro i d σ M2 hd ⟨⟨u, v, rfl⟩, rfl⟩
    have hd : ks[i]? = some d := hd
    obtain ⟨e0, he0, hk0⟩ := hmem d (List.mem_of_getElem? hd)
    have kd : KeyOk d := by rw [← hk0]; exact (okS e0 he0).keyOk
    have accz : ∀ F : D → Option D, ((ks.take i).filterMap F).length < sizeLine := fun F => by
      have h1 := List.length_filterMap_le F (ks.take i)
      rw [List.length_take] at h1
      rw [sizeLine_eq]; omega
    simp only [DL.dstart, DL.dVar, DL.dC, DL.dNil, DL.dCons, DL.dTup, DL.dLst, DL.dOp, DL.dB, DL.rIsi, DL.rLen, DL.rMin, DL.rMax, DL.rInt, DL.rTuple, DL.rList, DL.rAll, DL.rAny, DL.rSum, DL.dTest, DL.dChain, DL.dAnd, DL.dOr, DL.dNot, DL.dAndV, DL.dOrV, DL.dNotV, DL.dIf, DL.dNext, DL.dSeq, DL.dDrop, DL.dRet, DL.dRetN, DL.dIfS, DL.dAsg, DL.dName, DL.dPar, DL.dPar3, DL.dAug, DL.dgNil, DL.dgCons, DL.dgTup, DL.dSub, DL.dCall, DL.dNeg, DL.dSlice, DL.dPart, DL.dNo, DL.rI2, DL.rII, DL.rAdd, DL.rIsN, DL.rIx, DL.rSet, DL.isi, DL.rEq_int, DL.rEq_str, DL.at0, DL.at1, DL.at2, DL.at3, DL.Tn.nm, DL.dChain, DL.rLtI, DL.rLeI, DL.rGtI, DL.rGeI, DL.rSub, DL.rMul, DL.rMod, DL.rDiv, DL.rPow, List.length_cons, List.length_nil, List.replicate_succ, List.replicate_zero, Nat.reduceAdd, Nat.reduceSub, Nat.zero_add, List.map_cons, List.map_nil, List.cons_append, List.nil_append, List.getElem?_cons_zero, List.getElem?_cons_succ, List.set_cons_zero, List.set_cons_succ]
    refine lc_fm (items := stand ts vs) (fun e => if keyD e = d then some e else none) (fun Q' hq => ?_) (small (by omega)) (fun e he M2' Ky Kn ex hy hn' => ?_) ?_
    · simp only [DL.dstart, DL.dVar, DL.dC, DL.dNil, DL.dCons, DL.dTup, DL.dLst, DL.dOp, DL.dB, DL.rIsi, DL.rLen, DL.rMin, DL.rMax, DL.rInt, DL.rTuple, DL.rList, DL.rAll, DL.rAny, DL.rSum, DL.dTest, DL.dChain, DL.dAnd, DL.dOr, DL.dNot, DL.dAndV, DL.dOrV, DL.dNotV, DL.dIf, DL.dNext, DL.dSeq, DL.dDrop, DL.dRet, DL.dRetN, DL.dIfS, DL.dAsg, DL.dName, DL.dPar, DL.dPar3, DL.dAug, DL.dgNil, DL.dgCons, DL.dgTup, DL.dSub, DL.dCall, DL.dNeg, DL.dSlice, DL.dPart, DL.dNo, DL.rI2, DL.rII, DL.rAdd, DL.rIsN, DL.rIx, DL.rSet, DL.isi, DL.rEq_int, DL.rEq_str, DL.at0, DL.at1, DL.at2, DL.at3, DL.Tn.nm, DL.dChain, DL.rLtI, DL.rLeI, DL.rGtI, DL.rGeI, DL.rSub, DL.rMul, DL.rMod, DL.rDiv, DL.rPow, List.length_cons, List.length_nil, List.replicate_succ, List.replicate_zero, Nat.reduceAdd, Nat.reduceSub, Nat.zero_add, List.map_cons, List.map_nil, List.cons_append, List.nil_append, List.getElem?_cons_zero, List.getElem?_cons_succ, List.set_cons_zero, List.set_cons_succ, iSeq]; exact hq _ fun _ _ => trivial
    · have k1 := (okS e he).keyOk
      obtain ⟨xs, e1, e2, e3⟩ := (okS e he).cut
      rw [e1]
      simp only [DL.dstart, DL.dVar, DL.dC, DL.dNil, DL.dCons, DL.dTup, DL.dLst, DL.dOp, DL.dB, DL.rIsi, DL.rLen, DL.rMin, DL.rMax, DL.rInt, DL.rTuple, DL.rList, DL.rAll, DL.rAny, DL.rSum, DL.dTest, DL.dChain, DL.dAnd, DL.dOr, DL.dNot, DL.dAndV, DL.dOrV, DL.dNotV, DL.dIf, DL.dNext, DL.dSeq, DL.dDrop, DL.dRet, DL.dRetN, DL.dIfS, DL.dAsg, DL.dName, DL.dPar, DL.dPar3, DL.dAug, DL.dgNil, DL.dgCons, DL.dgTup, DL.dSub, DL.dCall, DL.dNeg, DL.dSlice, DL.dPart, DL.dNo, DL.rI2, DL.rII, DL.rAdd, DL.rIsN, DL.rIx, DL.rSet, DL.isi, DL.rEq_int, DL.rEq_str, DL.at0, DL.at1, DL.at2, DL.at3, DL.Tn.nm, DL.dChain, DL.rLtI, DL.rLeI, DL.rGtI, DL.rGeI, DL.rSub, DL.rMul, DL.rMod, DL.rDiv, DL.rPow, List.length_cons, List.length_nil, List.replicate_succ, List.replicate_zero, Nat.reduceAdd, Nat.reduceSub, Nat.zero_add, List.map_cons, List.map_nil, List.cons_append, List.nil_append, List.getElem?_cons_zero, List.getElem?_cons_succ, List.set_cons_zero, List.set_cons_succ, dWipe]
      rw [e2, e3, ← e1]
      refine rEq_key k1 kd ⟨fun z => hy _ ?_, fun z => hn' ?_⟩
      · have z : keyD e = d := by simpa using z
        rw [if_pos z]
      · have z : ¬ keyD e = d := by simpa using z
        rw [if_neg z]
    have ef : ∀ l : List D, l.filterMap (fun e => if keyD e = d then some e else none) = l.filter fun e => keyD e = d := by
      intro l
      induction l with
      | nil => rfl
      | cons e l ih => by_cases z : keyD e = d <;> simp [z, ih]
    rw [ef, grp_stand]
    have gp : 0 < (grp ts vs d).length := by
      rw [← grp_stand]
      exact List.length_pos_of_mem (List.mem_filter.mpr ⟨he0, by simp [hk0]⟩)
    have gb : (grp ts vs d).length ≤ 60 := by
      rw [← grp_stand]
      exact Nat.le_trans (List.length_filter_le _ _) lS
    have u1 := upto (fileF ts vs) i d hd
    have u2 := upto (unlF ts vs) i d hd
    refine ⟨fun z => ?_, fun z => ?_⟩
    · have g1 : (grp ts vs d).length = 1 := by
        have : ((grp ts vs d).length : Int) = 1 := by simpa using z
        omega
      obtain ⟨e, ge⟩ := List.length_eq_one_iff.mp g1
      refine ⟨⟨_, by rw [um_ne BA.symm]; exact um_same⟩, e, by rw [ge]; exact at0, _, by rw [um_ne BA.symm]; exact um_same, accz _, ⟨_, _, rfl⟩, ?_⟩
      rw [um_comm BA, um_um, u1, u2, show fileF ts vs d = some e by unfold fileF; rw [ge], show unlF ts vs d = none by unfold unlF; rw [if_neg (by omega)]]
      simp
    · have g1 : 1 < (grp ts vs d).length := by
        have : ¬ ((grp ts vs d).length : Int) = 1 := by simpa using z
        omega
      refine ⟨⟨_, um_same⟩, small (by simp), _, um_same, accz _, ⟨_, _, rfl⟩, ?_⟩
      have fn : fileF ts vs d = none := by
        unfold fileF
        split
        · rename_i x e; rw [e] at g1; simp at g1
        · rfl
      rw [um_um, u1, u2, fn, show unlF ts vs d = some (.tup [d, .int (grp ts vs d).length]) by unfold unlF; rw [if_pos g1]]
      simp
  · rintro σ M2 ⟨⟨u, v, rfl⟩, rfl⟩
    simp only [DL.dstart, DL.dVar, DL.dC, DL.dNil, DL.dCons, DL.dTup, DL.dLst, DL.dOp, DL.dB, DL.rIsi, DL.rLen, DL.rMin, DL.rMax, DL.rInt, DL.rTuple, DL.rList, DL.rAll, DL.rAny, DL.rSum, DL.dTest, DL.dChain, DL.dAnd, DL.dOr, DL.dNot, DL.dAndV, DL.dOrV, DL.dNotV, DL.dIf, DL.dNext, DL.dSeq, DL.dDrop, DL.dRet, DL.dRetN, DL.dIfS, DL.dAsg, DL.dName, DL.dPar, DL.dPar3, DL.dAug, DL.dgNil, DL.dgCons, DL.dgTup, DL.dSub, DL.dCall, DL.dNeg, DL.dSlice, DL.dPart, DL.dNo, DL.rI2, DL.rII, DL.rAdd, DL.rIsN, DL.rIx, DL.rSet, DL.isi, DL.rEq_int, DL.rEq_str, DL.at0, DL.at1, DL.at2, DL.at3, DL.Tn.nm, DL.dChain, DL.rLtI, DL.rLeI, DL.rGtI, DL.rGeI, DL.rSub, DL.rMul, DL.rMod, DL.rDiv, DL.rPow, List.length_cons, List.length_nil, List.replicate_succ, List.replicate_zero, Nat.reduceAdd, Nat.reduceSub, Nat.zero_add, List.map_cons, List.map_nil, List.cons_append, List.nil_append, List.getElem?_cons_zero, List.getElem?_cons_succ, List.set_cons_zero, List.set_cons_succ]
    refine ⟨_, by rw [um_ne BA.symm]; exact um_same, _, um_same, small (by simp), Dr.back (M := M) ?_⟩
    have e : ks.take ks.length = ks := List.take_length
    show Q (.tup [.tup ((ks.take ks.length).filterMap _), .tup ((ks.take ks.length).filterMap _)]) _
    rw [e, um_comm BA.symm, show DL.rs M (um (um M B (.lst (ks.filterMap (unlF ts vs)))) A (.lst (ks.filterMap (fileF ts vs)))) = M from ?_]
    · exact q
    · funext x
      by_cases z : (M x).isSome
      · obtain ⟨o, hx⟩ := Option.isSome_iff_exists.mp z
        rw [rs_in hx, um_ne (mne hx hA), um_ne (mne hx hB)]
      · have hx : M x = none := by simpa using z
        rw [rs_out hx, hx]
end
end K7

namespace K7
open PySem PySem.Spec PyProof.Rows L2 DL
/-! ### a shortened list of keys, sorted -/
theorem fm_filter {F : D → Option D} {g : D → Bool} : ∀ {l : List D}, (∀ d ∈ l, g d = false → F d = none) → (l.filter g).filterMap F = l.filterMap F
  | [], _ => rfl
  | d :: l, h => by
    have ih := fm_filter (F := F) (g := g) (l := l) fun x hx => h x (List.mem_cons_of_mem _ hx)
    cases e : g d with
    | true => rw [List.filter_cons_of_pos e, List.filterMap_cons, List.filterMap_cons, ih]
    | false => rw [List.filter_cons_of_neg (by simp [e]), List.filterMap_cons, h d List.mem_cons_self e, ih]
theorem srt_short {K1 L : List D} (kk : ∀ d ∈ K1, KeyOk d) (n1 : K1.Nodup) (n2 : L.Nodup) (sub : ∀ d ∈ L, d ∈ K1) {F : D → Option D} (hF : ∀ d ∈ K1, d ∉ L → F d = none) : (srt K1).filterMap F = (srt L).filterMap F := by
  have e : (srt K1).filter (fun d => decide (d ∈ L)) = srt L := by
    have p : ((srt K1).filter (fun d => decide (d ∈ L))).Perm (srt L) := by
      refine (List.perm_ext_iff_of_nodup (((srt_perm K1).nodup_iff.mpr n1).filter _) ((srt_perm L).nodup_iff.mpr n2)).mpr fun d => ?_
      rw [List.mem_filter, (srt_perm K1).mem_iff, (srt_perm L).mem_iff]
      constructor
      · rintro ⟨_, z⟩; simpa using z
      · intro z; exact ⟨sub d z, by simpa using z⟩
    refine p.eq_of_pairwise (le := fun a b => leD a b = true) (fun a b ha hb h1 h2 => ?_) ((srt_pw K1).filter _) (srt_pw L)
    have ka := kk a ((srt_perm K1).mem_iff.mp (List.mem_filter.mp ha).1)
    have kb := kk b (sub b ((srt_perm L).mem_iff.mp hb))
    have q := leD_eqv (alike_keys ka kb) h1 h2
    rw [ka.kd.eqv kb.kd] at q
    simpa using q
  rw [← e]
  exact (fm_filter fun d hd z => hF d ((srt_perm K1).mem_iff.mp hd) (by simpa using z)).symm
theorem grp_none {ts vs : List D} {key : D} (h : key ∉ (stand ts vs).map keyD) : grp ts vs key = [] := by
  rw [← grp_stand, List.filter_eq_nil_iff]
  intro d hd z
  exact h (List.mem_map.mpr ⟨d, hd, by simpa using z⟩)
theorem fileF_none {ts vs : List D} {key : D} (h : key ∉ (stand ts vs).map keyD) : fileF ts vs key = none := by unfold fileF; rw [grp_none h]
theorem unlF_none {ts vs : List D} {key : D} (h : key ∉ (stand ts vs).map keyD) : unlF ts vs key = none := by unfold unlF; rw [grp_none h]; rfl
/-! ### how long a text of data is -/
def Sho (n : Nat) (d : D) : Prop := d.py.showable = true ∧ d.py.shown.length ≤ n
theorem Sho.mono {n m : Nat} {d : D} (h : Sho n d) (le : n ≤ m) : Sho m d := ⟨h.1, Nat.le_trans h.2 le⟩
theorem sho_non : Sho 19 .non := ⟨rfl, by decide⟩
theorem log2_small {n : Nat} (h : n < 10 ^ 18) : n.log2 < 1920 := by
  by_cases z : n = 0
  · subst z; decide
  · exact (Nat.log2_lt z).mpr (Nat.lt_of_lt_of_le h (by decide +kernel))
theorem sho_int {i : Int} (h : i.natAbs < 10 ^ 18) : Sho 19 (.int i) := ⟨by simp only [D.py, PyData.showable]; exact decide_eq_true (log2_small h), by
  simp only [D.py, PyData.shown]
  have e := PySem.int_text_length_le10 (k := 18) (by decide) h
  show (Str.ofString (toString i)).length ≤ 19
  rw [PySem.ofString_length]; exact e⟩
theorem piled_le {n : Nat} : ∀ {ts : List Str}, (∀ t ∈ ts, t.length ≤ n) → piled ts ≤ (n + 2) * ts.length
  | [], _ => Nat.zero_le _
  | t :: ts, h => by
    have h1 := h t List.mem_cons_self
    have h2 := piled_le (n := n) (ts := ts) fun x hx => h x (List.mem_cons_of_mem _ hx)
    rw [piled_cons, List.length_cons, Nat.mul_succ]; omega
theorem tupleText_le (ts : List Str) : (tupleText ts).length ≤ piled ts + 3 := by
  unfold tupleText
  have e1 : (Str.ofString "(").length = 1 := by decide +kernel
  have e2 : (if ts.length == 1 then Str.ofString ",)" else Str.ofString ")").length ≤ 2 := by split <;> decide +kernel
  have e3 : (Str.join ", " ts).length ≤ piled ts := by
    by_cases z : ts = []
    · subst z; decide +kernel
    · have := join_length_add ts z; omega
  have e4 : ((if ts.length == 1 then ",)" else ")" : String) : Str).length ≤ 2 := by split <;> decide +kernel
  rw [strLen_append, strLen_append]
  have e1' : (("(" : Str)).length = 1 := e1
  omega
theorem shownAll_len : ∀ ds : List D, (PyData.shownAll (D.pys ds)).length = ds.length
  | [] => rfl
  | d :: ds => by simp only [D.pys, PyData.shownAll, List.length_cons, shownAll_len ds]
theorem shownAll_mem {n : Nat} : ∀ {ds : List D}, (∀ d ∈ ds, Sho n d) → ∀ t ∈ PyData.shownAll (D.pys ds), t.length ≤ n
  | [], _, t, h => by simp [D.pys, PyData.shownAll] at h
  | d :: ds, hh, t, h => by
    simp only [D.pys, PyData.shownAll, List.mem_cons] at h
    rcases h with z | z
    · rw [z]; exact (hh d List.mem_cons_self).2
    · exact shownAll_mem (fun x hx => hh x (List.mem_cons_of_mem _ hx)) t z
theorem showAll_all {n : Nat} : ∀ {ds : List D}, (∀ d ∈ ds, Sho n d) → PyData.showableAll (D.pys ds) = true
  | [], _ => rfl
  | d :: ds, hh => by
    simp only [D.pys, PyData.showableAll, (hh d List.mem_cons_self).1, showAll_all fun x hx => hh x (List.mem_cons_of_mem _ hx), Bool.and_self]
theorem sho_tup {n m : Nat} {ds : List D} (h : ∀ d ∈ ds, Sho n d) (hm : ds.length ≤ m) : Sho ((n + 2) * m + 3) (.tup ds) := ⟨by
  simp only [D.py, PyData.showable]; exact showAll_all h, by
  simp only [D.py, PyData.shown]
  have h1 := tupleText_le (PyData.shownAll (D.pys ds))
  have h2 := piled_le (shownAll_mem h)
  rw [shownAll_len] at h2
  have h3 : (n + 2) * ds.length ≤ (n + 2) * m := Nat.mul_le_mul_left _ hm
  omega⟩
theorem all_cons {p : D → Prop} {d : D} {ds : List D} (h : p d) (h' : ∀ x ∈ ds, p x) : ∀ x ∈ d :: ds, p x := fun x hx => by
  rcases List.mem_cons.mp hx with z | z
  · rw [z]; exact h
  · exact h' x z
theorem all_nil {p : D → Prop} : ∀ x ∈ ([] : List D), p x := fun x hx => by cases hx
theorem Tk.sho {p : Plan} (po : PlanOk p) {d : D} (h : Tk p d) : Sho 66 d := by
  obtain ⟨a, b, rfl, ⟨h1, h2⟩, h3, h4⟩ := h
  have := po.racks.2
  exact sho_tup (n := 19) (m := 3) (all_cons (sho_int (by omega)) (all_cons (sho_int (by omega)) all_nil)) (by simp)
theorem Bt3.sho {p : Plan} (po : PlanOk p) {d : D} (h : Bt3 p d) : Sho 66 d := by
  obtain ⟨a, b, c, rfl, ⟨h1, h2⟩, ⟨h3, h4⟩, h5, h6⟩ := h
  have := po.racks.2
  have := po.rates.2
  exact sho_tup (n := 19) (m := 3) (all_cons (sho_int (by omega)) (all_cons (sho_int (by omega)) (all_cons (sho_int (by omega)) all_nil))) (by simp)
theorem told_sho {d : D} (h : d.dat = true ∧ isTold d = true) : Sho 19 d := by
  obtain ⟨_, h⟩ := h
  cases d <;> simp [isTold, isUnder] at h
  · exact sho_non
  · exact sho_int (by omega)
theorem coin_sho {d : D} (h : d.dat = true ∧ isCoin d = true) : Sho 19 d := by
  obtain ⟨_, h⟩ := h
  cases d <;> simp [isCoin] at h
  · exact sho_non
  · exact sho_int (by omega)
theorem sho_gate : Sho 19 (.str "gate") := ⟨rfl, by decide +kernel⟩
theorem sho_office : Sho 19 (.str "office") := ⟨rfl, by decide +kernel⟩
theorem PageOk.sho {p : Plan} (po : PlanOk p) {d : D} (h : PageOk p d) : Sho 54443 d := by
  have := po.many.2
  have := po.days.2
  cases h with
  | @gate place day cuts ends h1 h2 h3 h4 h5 h6 h7 =>
    exact sho_tup (n := 6803) (m := 8) (all_cons (sho_gate.mono (by decide)) (all_cons ((sho_int (by omega)).mono (by decide)) (all_cons ((sho_int (by omega)).mono (by decide)) (all_cons (sho_tup (n := 66) (m := 100) (fun d hd => (h3 d hd).sho po) h7.1) (all_cons (sho_tup (n := 66) (m := 100) (fun d hd => (h5 d hd).sho po) h7.2) all_nil))))) (by simp)
  | @office place day closings betters backs pressed coin h1 h2 h3 h4 h5 h6 h7 h8 h9 h10 h11 =>
    exact sho_tup (n := 6803) (m := 8) (all_cons (sho_office.mono (by decide)) (all_cons ((sho_int (by omega)).mono (by decide)) (all_cons ((sho_int (by omega)).mono (by decide)) (all_cons (sho_tup (n := 66) (m := 100) (fun d hd => (told_sho (h3 d hd)).mono (by decide)) h10.1) (all_cons ((told_sho h6).mono (by decide)) (all_cons (sho_tup (n := 66) (m := 100) (fun d hd => (h7 d hd).sho po) h10.2.1) (all_cons (sho_tup (n := 66) (m := 100) (fun d hd => (h8 d hd).sho po) h10.2.2) (all_cons ((coin_sho h9).mono (by decide)) all_nil)))))))) (by simp)
theorem PageOk.key_sho {p : Plan} (po : PlanOk p) {d : D} (h : PageOk p d) : Sho 66 (keyD d) := by
  have := po.many.2
  have := po.days.2
  cases h with
  | @gate place day cuts ends h1 h2 h3 h4 h5 h6 h7 =>
    exact sho_tup (n := 19) (m := 3) (all_cons sho_gate (all_cons (sho_int (by omega)) (all_cons (sho_int (by omega)) all_nil))) (by simp)
  | @office place day closings betters backs pressed coin h1 h2 h3 h4 h5 h6 h7 h8 h9 h10 h11 =>
    exact sho_tup (n := 19) (m := 3) (all_cons sho_office (all_cons (sho_int (by omega)) (all_cons (sho_int (by omega)) all_nil))) (by simp)
theorem mem_fileF {ts vs : List D} {key d : D} (h : fileF ts vs key = some d) : d ∈ ts := by
  unfold fileF at h
  split at h
  · rename_i x e
    have : d ∈ grp ts vs key := by rw [e, show x = d by simpa using h]; exact List.mem_singleton.mpr rfl
    exact (List.mem_filter.mp (List.mem_filter.mp this).1).1
  · cases h
/-- what the office shows: it can be written -/
theorem both_ok {p : Plan} (po : PlanOk p) {ts vs ks : List D} (okT : ∀ d ∈ ts, PageOk p d) (hk : ∀ d ∈ ks, KeyOk d ∧ d ∈ ts.map keyD) (hz : ts.length ≤ 60) (hl : ks.length ≤ 60) :
    D.dats [.tup (ks.filterMap (fileF ts vs)), .tup (ks.filterMap (unlF ts vs))] = true ∧ D.deps [.tup (ks.filterMap (fileF ts vs)), .tup (ks.filterMap (unlF ts vs))] ≤ 64 ∧
      (D.tup [.tup (ks.filterMap (fileF ts vs)), .tup (ks.filterMap (unlF ts vs))]).py.showable = true ∧ (D.tup [.tup (ks.filterMap (fileF ts vs)), .tup (ks.filterMap (unlF ts vs))]).py.shown.length ≤ sizeLine := by
  have f1 : ∀ d ∈ ks.filterMap (fileF ts vs), PageOk p d := fun d hd => by
    obtain ⟨key, _, e⟩ := List.mem_filterMap.mp hd
    exact okT d (mem_fileF e)
  have f2 : ∀ d ∈ ks.filterMap (unlF ts vs), ∃ key, KeyOk key ∧ (∃ e ∈ ts, keyD e = key) ∧ ∃ n : Nat, n ≤ 60 ∧ d = .tup [key, .int n] := fun d hd => by
    obtain ⟨key, hkey, e⟩ := List.mem_filterMap.mp hd
    unfold unlF at e
    split at e
    · cases e
      obtain ⟨k1, k2⟩ := hk key hkey
      obtain ⟨e', he', k3⟩ := List.mem_map.mp k2
      refine ⟨key, k1, ⟨e', he', k3⟩, _, ?_, rfl⟩
      exact Nat.le_trans (Nat.le_trans (List.length_filter_le _ _) (List.length_filter_le _ _)) hz
    · cases e
  have d1 := dats_of fun d hd => (f1 d hd).dat
  have d2 : D.dats (ks.filterMap (unlF ts vs)) = true := dats_of fun d hd => by
    obtain ⟨key, k1, _, n, _, rfl⟩ := f2 d hd
    simp [D.dat, D.dats, k1.dat.1]
  have p1 : D.deps (ks.filterMap (fileF ts vs)) ≤ 8 := deps_le fun d hd => (f1 d hd).kd.2.2
  have p2 : D.deps (ks.filterMap (unlF ts vs)) ≤ 9 := deps_le fun d hd => by
    obtain ⟨key, k1, _, n, _, rfl⟩ := f2 d hd
    have := k1.kd.2.2
    simp only [D.dep, D.deps]; omega
  have s1 : Sho 3266703 (.tup (ks.filterMap (fileF ts vs))) := sho_tup (n := 54443) (m := 60) (fun d hd => (f1 d hd).sho po) (Nat.le_trans (List.length_filterMap_le _ _) hl)
  have s2 : Sho 3266703 (.tup (ks.filterMap (unlF ts vs))) := sho_tup (n := 54443) (m := 60) (fun d hd => by
    obtain ⟨key, k1, ⟨e', he', rfl⟩, n, hn, rfl⟩ := f2 d hd
    exact (sho_tup (n := 66) (m := 2) (all_cons ((okT e' he').key_sho po) (all_cons ((sho_int (by omega)).mono (by decide)) all_nil)) (by simp)).mono (by decide)) (Nat.le_trans (List.length_filterMap_le _ _) hl)
  have s := sho_tup (n := 3266703) (m := 2) (all_cons s1 (all_cons s2 all_nil)) (by simp)
  refine ⟨by simp [D.dats, D.dat, d1, d2], by simp only [D.deps, D.dep]; omega, s.1, Nat.le_trans s.2 (by rw [sizeLine_eq]; decide)⟩
end K7

namespace K7
open PySem PySem.Spec PyProof.Rows L2 DL
section
variable {P : Program} {w : World} {K : PySem.W.Frag} {mg : Str → Option Value} {base : Heap} {C : Addr} (T : TxL K mg C)
include T
variable (D_House_file : CalM P w K mg base 2 C "file" ps_House_file (sp_file C)) (D_House_unlike : CalM P w K mg base 2 C "unlike" ps_House_unlike (sp_unlike C)) (D__law_counting : Cal P w K mg base 1 "_law_counting" ps__law_counting sp_counting)
include D_House_file D_House_unlike D__law_counting
def sp_right (C : Addr) : DSp := fun ds M Q => ∃ (p : Plan) (h k b y : Addr) (L : List (D × Addr)) (kp a b2 : Addr) (ts vs : List D), ds = [.ref h, .ref kp] ∧ PlanOk p ∧ HouseAt C M p h k b y L ts vs ∧ KeptAt M p kp a b2 ts vs ∧ ts.length ≤ 60 ∧ Q (.bl true) M
theorem ok_right {f fd} (F : Fun K "_law_right" "_law_right" st__law_right f fd) : DGn P w K mg base 3 f fd ps__law_right (sp_right C) := by
  refine dgn_ok F sc__law_right (fun ds M Q ⟨p, h, k, b, y, L, kp, a, b2, ts, vs, e, _⟩ => by rw [e]; rfl) fun cdv A outer s H E hA hr => ⟨_, (dss_one (ds_ret (de_cmp (o_eq hr.units) (de_B (c_repr hA hr.u128) rfl T.b_repr Bt.repr (da_cons (de_tup (da_cons (de_calM0 (ns := ns_House) D_House_file T.cl_House (hr.mono (by decide)) (by decide) (dv 0)) (da_cons (de_calM0 (ns := ns_House) D_House_unlike T.cl_House (hr.mono (by decide)) (by decide) (dv 0)) da_nil))) da_nil)) (de_B (c_repr hA hr.u128) rfl T.b_repr Bt.repr (da_cons (de_cal D__law_counting (hr.mono (by decide)) rfl (da_cons (dv 1) da_nil)) da_nil))))), ?_⟩
  rintro ds M Q ⟨p, h, k, b, y, L, kp, a, b2, ts, vs, rfl, po, S, S2, hz, q⟩
  obtain ⟨dx, hM⟩ := S.ob
  simp only [DL.dstart, DL.dVar, DL.dC, DL.dNil, DL.dCons, DL.dTup, DL.dLst, DL.dOp, DL.dB, DL.rIsi, DL.rLen, DL.rMin, DL.rMax, DL.rInt, DL.rTuple, DL.rList, DL.rAll, DL.rAny, DL.rSum, DL.dTest, DL.dChain, DL.dAnd, DL.dOr, DL.dNot, DL.dAndV, DL.dOrV, DL.dNotV, DL.dIf, DL.dNext, DL.dSeq, DL.dDrop, DL.dRet, DL.dRetN, DL.dIfS, DL.dAsg, DL.dName, DL.dPar, DL.dPar3, DL.dAug, DL.dgNil, DL.dgCons, DL.dgTup, DL.dSub, DL.dCall, DL.dNeg, DL.dSlice, DL.dPart, DL.dNo, DL.rI2, DL.rII, DL.rAdd, DL.rIsN, DL.rIx, DL.rSet, DL.isi, DL.rEq_int, DL.rEq_str, DL.at0, DL.at1, DL.at2, DL.at3, DL.Tn.nm, DL.dChain, DL.rLtI, DL.rLeI, DL.rGtI, DL.rGeI, DL.rSub, DL.rMul, DL.rMod, DL.rDiv, DL.rPow, List.length_cons, List.length_nil, List.replicate_succ, List.replicate_zero, Nat.reduceAdd, Nat.reduceSub, Nat.zero_add, List.map_cons, List.map_nil, List.cons_append, List.nil_append, List.getElem?_cons_zero, List.getElem?_cons_succ, List.set_cons_zero, List.set_cons_succ, nm__law_right]
  have lk : (srt (L.map (·.1))).length ≤ 60 := by
    have := S.lenL
    rw [(srt_perm _).length_eq, List.length_map]; omega
  have kk : ∀ d ∈ srt (L.map (·.1)), KeyOk d ∧ d ∈ ts.map keyD := fun d hd => by
    have hd := (srt_perm _).mem_iff.mp hd
    exact ⟨S.kL d hd, (S.keys d).mp hd⟩
  obtain ⟨r1, r2, r3, r4⟩ := both_ok (vs := vs) po S.okT kk hz lk
  simp only [dMeth, hM, rRepr]
  refine ⟨⟨dx, _, hM⟩, p, h, k, b, y, L, ts, vs, rfl, S, ⟨dx, _, hM⟩, p, h, k, b, y, L, ts, vs, rfl, S, small (by decide), r1, r2, r3, r4, ?_⟩
  refine ⟨p, kp, a, b2, ts, vs, rfl, S2, hz, fun Ks nd mem => ?_⟩
  have sub : ∀ d ∈ Ks, d ∈ L.map (·.1) := fun d hd => by
    obtain ⟨e, he, rfl⟩ := List.mem_map.mp ((mem d).mp hd)
    exact (S.keys _).mpr (List.mem_map_of_mem (List.mem_filter.mp he).1)
  have e1 : (srt (L.map (·.1))).filterMap (fileF ts vs) = (srt Ks).filterMap (fileF ts vs) := srt_short S.kL S.nd nd sub fun d _ z => fileF_none fun y => z ((mem d).mpr y)
  have e2 : (srt (L.map (·.1))).filterMap (unlF ts vs) = (srt Ks).filterMap (unlF ts vs) := srt_short S.kL S.nd nd sub fun d _ z => unlF_none fun y => z ((mem d).mpr y)
  rw [← e1, ← e2]
  refine ⟨r1, r2, r3, r4, ?_⟩
  rw [DL.rEq_str]
  exact Dr.here (by simpa using q)
end
end K7

namespace K7
open PySem PySem.Spec PyProof.Rows L2 DL
/-! ### the office and the law's own book, side by side -/
theorem HouseAt.keep {C : Addr} {M M' : DM} {p : Plan} {h k b y : Addr} {L : List (D × Addr)} {ts vs : List D} (S : HouseAt C M p h k b y L ts vs) (e : ∀ x, x = h ∨ x = k ∨ x = b ∨ x = y ∨ x ∈ L.map (·.2) → M' x = M x) : HouseAt C M' p h k b y L ts vs := { S with
  ob := by rw [e h (.inl rfl)]; exact S.ob
  kn := by rw [e k (.inr (.inl rfl))]; exact S.kn
  bn := by rw [e b (.inr (.inr (.inl rfl)))]; exact S.bn
  bk := by rw [e y (.inr (.inr (.inr (.inl rfl))))]; exact S.bk
  ls := fun x hx => by rw [e x.2 (.inr (.inr (.inr (.inr (List.mem_map_of_mem hx)))))]; exact S.ls x hx }
theorem KeptAt.keep {M M' : DM} {p : Plan} {kp a b : Addr} {ts vs : List D} (S : KeptAt M p kp a b ts vs) (e : ∀ x, x = kp ∨ x = a ∨ x = b → M' x = M x) : KeptAt M' p kp a b ts vs := { S with
  ob := by rw [e kp (.inl rfl)]; exact S.ob
  tk := by rw [e a (.inr (.inl rfl))]; exact S.tk
  vd := by rw [e b (.inr (.inr rfl))]; exact S.vd }
structure Both (C : Addr) (M : DM) (p : Plan) (hd h k b y kp a b2 : Addr) (L : List (D × Addr)) (ts vs : List D) (n : Nat) : Prop where
  S : HouseAt C M p h k b y L ts vs
  S2 : KeptAt M p kp a b2 ts vs
  H : Hd M hd n
  off : ∀ z, z = hd ∨ z = kp ∨ z = a ∨ z = b2 → z ≠ h ∧ z ≠ k ∧ z ≠ b ∧ z ≠ y ∧ z ∉ L.map (·.2)
  offH : hd ≠ kp ∧ hd ≠ a ∧ hd ≠ b2
section
variable {C : Addr} {M M' M2 : DM} {p : Plan} {hd h k b y kp a b2 : Addr} {L L' : List (D × Addr)} {ts vs : List D} {n m : Nat} {d : D}
theorem Both.has (B : Both C M p hd h k b y kp a b2 L ts vs n) : ∀ z, z = hd ∨ z = kp ∨ z = a ∨ z = b2 → ∃ o, M z = some o := fun z hz => by
  rcases hz with rfl | rfl | rfl | rfl
  · obtain ⟨o, e, _⟩ := B.H; exact ⟨o, e⟩
  · exact ⟨_, B.S2.ob⟩
  · exact ⟨_, B.S2.tk⟩
  · exact ⟨_, B.S2.vd⟩
theorem Both.fr (B : Both C M p hd h k b y kp a b2 L ts vs n) (f : Fr M M' h k b y L) : ∀ z, z = hd ∨ z = kp ∨ z = a ∨ z = b2 → M' z = M z := fun z hz => by
  obtain ⟨o, e⟩ := B.has z hz
  obtain ⟨h1, h2, h3, h4, h5⟩ := B.off z hz
  rw [e, f z o h1 h2 h3 h4 h5 e]
theorem Both.hand (B : Both C M p hd h k b y kp a b2 L ts vs n) (t : HdTo M hd m M') : Both C M' p hd h k b y kp a b2 L ts vs m := { B with
  S := B.S.keep fun x hx => t.off x fun z => by
    obtain ⟨h1, h2, h3, h4, h5⟩ := B.off hd (.inl rfl)
    subst z
    rcases hx with z | z | z | z | z
    · exact h1 z
    · exact h2 z
    · exact h3 z
    · exact h4 z
    · exact h5 z
  S2 := B.S2.keep fun x hx => t.off x fun z => by
    obtain ⟨h1, h2, h3⟩ := B.offH
    subst z
    rcases hx with z | z | z
    · exact h1 z
    · exact h2 z
    · exact h3 z
  H := t.at_ }
theorem Both.kept (B : Both C M p hd h k b y kp a b2 L ts vs n) (f : Fr M M' h k b y L) : KeptAt M' p kp a b2 ts vs := B.S2.keep fun x hx => B.fr f x (by rcases hx with z | z | z <;> simp [z])
theorem Both.next {ts' vs' : List D} (B : Both C M p hd h k b y kp a b2 L ts vs n) (f : Fr M M' h k b y L) (hL : ∀ x ∈ L', x ∈ L ∨ M x.2 = none) (S' : HouseAt C M' p h k b y L' ts' vs') (S2' : KeptAt M2 p kp a b2 ts' vs') {c : Addr} (hc : c = a ∨ c = b2) (e : ∀ x, x ≠ c → M2 x = M' x) : Both C M2 p hd h k b y kp a b2 L' ts' vs' n := by
  have off : ∀ z, z = hd ∨ z = kp ∨ z = a ∨ z = b2 → z ≠ h ∧ z ≠ k ∧ z ≠ b ∧ z ≠ y ∧ z ∉ L'.map (·.2) := fun z hz => by
    obtain ⟨h1, h2, h3, h4, h5⟩ := B.off z hz
    refine ⟨h1, h2, h3, h4, fun hm => ?_⟩
    obtain ⟨x, hx, ex⟩ := List.mem_map.mp hm
    rcases hL x hx with q | q
    · exact h5 (List.mem_map.mpr ⟨x, q, ex⟩)
    · obtain ⟨o, eo⟩ := B.has z hz
      rw [ex, eo] at q; cases q
  have hc' : c = hd ∨ c = kp ∨ c = a ∨ c = b2 := by rcases hc with z | z <;> simp [z]
  have ch : hd ≠ c := by rcases hc with z | z <;> subst z; exact B.offH.2.1; exact B.offH.2.2
  exact {
    S := S'.keep fun x hx => e x fun z => by
      obtain ⟨h1, h2, h3, h4, h5⟩ := off c hc'
      subst z
      rcases hx with z | z | z | z | z
      · exact h1 z
      · exact h2 z
      · exact h3 z
      · exact h4 z
      · exact h5 z
    S2 := S2'
    H := by
      have := B.H
      unfold Hd at this ⊢
      rw [e hd ch, B.fr f hd (.inl rfl)]
      exact this
    off := off
    offH := B.offH }
end
section
variable {P : Program} {w : World} {K : PySem.W.Frag} {mg : Str → Option Value} {base : Heap} {C : Addr} (T : TxL K mg C)
include T
variable (D__law_hand_of : Cal P w K mg base 1 "_law_hand_of" ps__law_hand_of sp_hand_of) (D__law_take : Cal P w K mg base 1 "_law_take" ps__law_take sp_ltake) (D__law_plan_of : Cal P w K mg base 2 "_law_plan_of" ps__law_plan_of sp_plan_of) (D__law_pool : Cal P w K mg base 5 "_law_pool" ps__law_pool sp_pool) (D_House_init : CalI P w K mg base 1 C ps_House_init (sp_init C))
  (D_House_file : CalM P w K mg base 2 C "file" ps_House_file (sp_file C)) (D_House_unlike : CalM P w K mg base 2 C "unlike" ps_House_unlike (sp_unlike C)) (D_House_take : CalM P w K mg base 8 C "take" ps_House_take (sp_take C)) (D_House_void : CalM P w K mg base 8 C "void" ps_House_void (sp_void C))
  (D__law_taken : Cal P w K mg base 1 "_law_taken" ps__law_taken sp_taken) (D__law_voided : Cal P w K mg base 1 "_law_voided" ps__law_voided sp_voided) (D__law_right : CalG P w K mg base 3 "_law_right" ps__law_right (sp_right C))
include D__law_hand_of D__law_take D__law_plan_of D__law_pool D_House_init D_House_file D_House_unlike D_House_take D_House_void D__law_taken D__law_voided D__law_right
def sp_law : DSp := fun ds M Q => ∃ ns : List Int, ds = [.fz (ns.map .int)] ∧ ns.length ≤ 63 ∧ ∀ M', Q (.bl true) M'
theorem ok_law {f fd} (F : Fun K "law" "law" st_law f fd) : DGn P w K mg base 9 f fd ps_law sp_law := by
  refine dgn_ok F sc_law (fun ds M Q ⟨ns, e, _⟩ => by rw [e]; rfl) fun cdv A outer s H E hA hr => ⟨_, (dss_cons (ds_for PassesOwn.never rfl (di_range rfl T.b_range (da_cons (de_op o_add de_int (de_B (c_min rfl) rfl T.b_min Bt.min (da_cons de_int (da_cons (de_B c_len rfl T.b_len Bt.len (da_cons (dv 0) da_nil)) da_nil)))) da_nil)) (dg_name (i := 1) sc_law.nd rfl (by first | exact Or.inl rfl | exact Or.inr rfl)) (dss_cons (ds_set (i := 2) sc_law.nd rfl (by first | exact Or.inl rfl | exact Or.inr rfl) (de_cal D__law_hand_of (hr.mono (by decide)) rfl (da_cons (dv 0) (da_cons (dv 1) da_nil))))
  (dss_cons (ds_set (i := 3) sc_law.nd rfl (by first | exact Or.inl rfl | exact Or.inr rfl) (de_cal D__law_plan_of (hr.mono (by decide)) rfl (da_cons (dv 2) da_nil)))
  (dss_cons (ds_par3 (i := 4) (j := 5) (l := 6) (by rfl) sc_law.nd rfl rfl rfl (by decide) (by decide) (by decide) rfl rfl rfl (da_cons (de_cal D__law_pool (hr.mono (by decide)) rfl (da_cons (dv 2) (da_cons (dv 3) da_nil))) (da_cons (de_calI D_House_init (hr.mono (by decide)) rfl T.m_House (da_cons (dv 3) da_nil)) (da_cons (de_disp (l := [("taken", _), ("void", _)]) (pps_c (de_lstM da_nil) (pps_c (de_lstM da_nil) pps_nil)) (by decide +kernel) (by decide)) da_nil))) (by rfl))
  (dss_cons (ds_if (db_cmp (o_ne hr.units) (de_B (c_repr hA hr.u128) rfl T.b_repr Bt.repr (da_cons (de_tup (da_cons (de_calM0 (ns := ns_House) D_House_file T.cl_House (hr.mono (by decide)) (by decide) (dv 5)) (da_cons (de_calM0 (ns := ns_House) D_House_unlike T.cl_House (hr.mono (by decide)) (by decide) (dv 5)) da_nil))) da_nil)) de_str) (dss_one (ds_ret de_bl)) dss_nil)
  (dss_one (ds_for PassesOwn.never rfl (di_range rfl T.b_range (da_cons (de_op o_add de_int (de_cal D__law_take (hr.mono (by decide)) rfl (da_cons (dv 2) (da_cons de_int da_nil)))) da_nil)) (dg_name (i := 7) sc_law.nd rfl (by first | exact Or.inl rfl | exact Or.inr rfl)) (dss_cons (ds_par (i := 8) (j := 9) (by rfl) sc_law.nd rfl rfl (by decide) rfl rfl (da_cons (de_cmp o_gt (de_cal D__law_take (hr.mono (by decide)) rfl (da_cons (dv 2) (da_cons de_int da_nil))) de_int) (da_cons (de_ix i_ix (dv 4) (de_cal D__law_take (hr.mono (by decide)) rfl (da_cons (dv 2) (da_cons (de_B c_len rfl T.b_len Bt.len (da_cons (dv 4) da_nil)) da_nil)))) da_nil)) (by rfl))
  (dss_cons (ds_set (i := 10) sc_law.nd rfl (by first | exact Or.inl rfl | exact Or.inr rfl) (de_T c_tuple rfl T.b_tuple Bt.tuple (da_cons (de_T c_list rfl T.b_list Bt.list (da_cons (dv 9) da_nil)) da_nil)))
  (dss_cons (ds_if (db_val (dv 8)) (dss_one (ds_par (i := 11) (j := 12) (by rfl) sc_law.nd rfl rfl (by decide) rfl rfl (da_cons (de_calM (ns := ns_House) D_House_take T.cl_House (hr.mono (by decide)) (by decide) (dv 5) (da_cons (dv 10) da_nil)) (da_cons (de_cal D__law_taken (hr.mono (by decide)) rfl (da_cons (dv 6) (da_cons (dv 9) da_nil))) da_nil)) (by rfl))) (dss_one (ds_par (i := 11) (j := 12) (by rfl) sc_law.nd rfl rfl (by decide) rfl rfl (da_cons (de_calM (ns := ns_House) D_House_void T.cl_House (hr.mono (by decide)) (by decide) (dv 5) (da_cons (dv 10) da_nil)) (da_cons (de_cal D__law_voided (hr.mono (by decide)) rfl (da_cons (dv 6) (da_cons (dv 9) da_nil))) da_nil)) (by rfl))))
  (dss_one (ds_if (db_w (dw_or (db_cmp (o_ne hr.units) (dv 11) (dv 12)) (dw_or (db_not (db_val (de_calG hA D__law_right (hr.mono (by decide)) rfl (da_cons (dv 5) (da_cons (dv 6) da_nil))))) (dw_or1 (db_not (db_val (de_calG hA D__law_right (hr.mono (by decide)) rfl (da_cons (dv 5) (da_cons (dv 6) da_nil))))))))) (dss_one (ds_ret de_bl)) dss_nil))))))))))))
  (dss_one (ds_ret de_bl))), ?_⟩
  rintro ds M Q ⟨ns, rfl, hz, q⟩
  simp only [DL.dstart, DL.dVar, DL.dC, DL.dNil, DL.dCons, DL.dTup, DL.dLst, DL.dOp, DL.dB, DL.rIsi, DL.rLen, DL.rMin, DL.rMax, DL.rInt, DL.rTuple, DL.rList, DL.rAll, DL.rAny, DL.rSum, DL.dTest, DL.dChain, DL.dAnd, DL.dOr, DL.dNot, DL.dAndV, DL.dOrV, DL.dNotV, DL.dIf, DL.dNext, DL.dSeq, DL.dDrop, DL.dRet, DL.dRetN, DL.dIfS, DL.dAsg, DL.dName, DL.dPar, DL.dPar3, DL.dAug, DL.dgNil, DL.dgCons, DL.dgTup, DL.dSub, DL.dCall, DL.dNeg, DL.dSlice, DL.dPart, DL.dNo, DL.rI2, DL.rII, DL.rAdd, DL.rIsN, DL.rIx, DL.rSet, DL.isi, DL.rEq_int, DL.rEq_str, DL.at0, DL.at1, DL.at2, DL.at3, DL.Tn.nm, DL.dChain, DL.rLtI, DL.rLeI, DL.rGtI, DL.rGeI, DL.rSub, DL.rMul, DL.rMod, DL.rDiv, DL.rPow, List.length_cons, List.length_nil, List.replicate_succ, List.replicate_zero, Nat.reduceAdd, Nat.reduceSub, Nat.zero_add, List.map_cons, List.map_nil, List.cons_append, List.nil_append, List.getElem?_cons_zero, List.getElem?_cons_succ, List.set_cons_zero, List.set_cons_succ, nm_law, dFor, iRange]
  refine ⟨by split <;> omega, by split <;> omega, ?_⟩
  refine ⟨fun i σ M2 => ∃ u1 u2 u3 u4 u5 u6 u7 u8 u9 u10 u11 u12, σ = [some (.fz (ns.map .int)), u1, u2, u3, u4, u5, u6, u7, u8, u9, u10, u11, u12], ⟨_, _, _, _, _, _, _, _, _, _, _, _, rfl⟩, fun _ _ _ _ _ => True.intro, ?_, fun σ M2 _ => Dr.here (q M2)⟩
  rintro i d σ M2 hd ⟨u1, u2, u3, u4, u5, u6, u7, u8, u9, u10, u11, u12, rfl⟩
  obtain ⟨kk, hk, rfl⟩ := List.mem_map.mp (List.mem_of_getElem? hd)
  have hk : kk ≤ 10 := by
    have := List.mem_range.mp hk
    split at this <;> omega
  simp only [DL.dstart, DL.dVar, DL.dC, DL.dNil, DL.dCons, DL.dTup, DL.dLst, DL.dOp, DL.dB, DL.rIsi, DL.rLen, DL.rMin, DL.rMax, DL.rInt, DL.rTuple, DL.rList, DL.rAll, DL.rAny, DL.rSum, DL.dTest, DL.dChain, DL.dAnd, DL.dOr, DL.dNot, DL.dAndV, DL.dOrV, DL.dNotV, DL.dIf, DL.dNext, DL.dSeq, DL.dDrop, DL.dRet, DL.dRetN, DL.dIfS, DL.dAsg, DL.dName, DL.dPar, DL.dPar3, DL.dAug, DL.dgNil, DL.dgCons, DL.dgTup, DL.dSub, DL.dCall, DL.dNeg, DL.dSlice, DL.dPart, DL.dNo, DL.rI2, DL.rII, DL.rAdd, DL.rIsN, DL.rIx, DL.rSet, DL.isi, DL.rEq_int, DL.rEq_str, DL.at0, DL.at1, DL.at2, DL.at3, DL.Tn.nm, DL.dChain, DL.rLtI, DL.rLeI, DL.rGtI, DL.rGeI, DL.rSub, DL.rMul, DL.rMod, DL.rDiv, DL.rPow, List.length_cons, List.length_nil, List.replicate_succ, List.replicate_zero, Nat.reduceAdd, Nat.reduceSub, Nat.zero_add, List.map_cons, List.map_nil, List.cons_append, List.nil_append, List.getElem?_cons_zero, List.getElem?_cons_succ, List.set_cons_zero, List.set_cons_succ]
  refine ⟨ns, kk, rfl, hz, hk, fun A g s hA hg hs => ?_⟩
  have H0 : Hd (um M2 A (.lst [.int g, .int s, .int 0])) A 0 := ⟨_, um_same, g, s, 0, rfl, hg, hs, by decide, by decide⟩
  refine ⟨A, 0, rfl, H0, by decide, fun p M3 po t3 => ⟨A, p, _, rfl, po, t3.at_, by decide, fun ps M4 hps pne plen t4 => ?_⟩⟩
  simp only [dMake, DL.dstart, DL.dVar, DL.dC, DL.dNil, DL.dCons, DL.dTup, DL.dLst, DL.dOp, DL.dB, DL.rIsi, DL.rLen, DL.rMin, DL.rMax, DL.rInt, DL.rTuple, DL.rList, DL.rAll, DL.rAny, DL.rSum, DL.dTest, DL.dChain, DL.dAnd, DL.dOr, DL.dNot, DL.dAndV, DL.dOrV, DL.dNotV, DL.dIf, DL.dNext, DL.dSeq, DL.dDrop, DL.dRet, DL.dRetN, DL.dIfS, DL.dAsg, DL.dName, DL.dPar, DL.dPar3, DL.dAug, DL.dgNil, DL.dgCons, DL.dgTup, DL.dSub, DL.dCall, DL.dNeg, DL.dSlice, DL.dPart, DL.dNo, DL.rI2, DL.rII, DL.rAdd, DL.rIsN, DL.rIx, DL.rSet, DL.isi, DL.rEq_int, DL.rEq_str, DL.at0, DL.at1, DL.at2, DL.at3, DL.Tn.nm, DL.dChain, DL.rLtI, DL.rLeI, DL.rGtI, DL.rGeI, DL.rSub, DL.rMul, DL.rMod, DL.rDiv, DL.rPow, List.length_cons, List.length_nil, List.replicate_succ, List.replicate_zero, Nat.reduceAdd, Nat.reduceSub, Nat.zero_add, List.map_cons, List.map_nil, List.cons_append, List.nil_append, List.getElem?_cons_zero, List.getElem?_cons_succ, List.set_cons_zero, List.set_cons_succ, DL.dDisp, DL.dPairs, dLstM]
  intro h dx hh
  have hhA : h ≠ A := t4.at_.off hh
  refine ⟨p, h, dx, rfl, um_same, fun M5 k b y S5 ex5 fr5 => ⟨rfl, ?_⟩⟩
  refine fun kp hkp => ⟨Nat.zero_le _, fun a ha => ?_⟩
  obtain ⟨a1, ha⟩ := um_none ha
  refine ⟨Nat.zero_le _, fun b2 hb2 => ?_⟩
  obtain ⟨b21, hb2⟩ := um_none hb2
  obtain ⟨b22, hb2⟩ := um_none hb2
  have here5 : ∀ x, x = h ∨ x = k ∨ x = b ∨ x = y ∨ x ∈ ([] : List (D × Addr)).map (·.2) → ∃ o, M5 x = some o := fun x hx => by
    obtain ⟨dx, e⟩ := S5.ob
    rcases hx with z | z | z | z | z
    · rw [z]; exact ⟨_, e⟩
    · rw [z]; exact ⟨_, S5.kn⟩
    · rw [z]; exact ⟨_, S5.bn⟩
    · rw [z]; exact ⟨_, S5.bk⟩
    · simp at z
  obtain ⟨oA, eA, _⟩ := id t4.at_
  have eA5 : M5 A = some oA := ex5 A oA hhA.symm (by rw [um_ne hhA.symm]; exact eA)
  have nk : ∀ x, x = k ∨ x = b ∨ x = y → A ≠ x := fun x hx z => by
    have := fr5 x hx
    rw [← z, um_ne hhA.symm, eA] at this; cases this
  have far : ∀ z x, M5 z = none → (∃ o, M5 x = some o) → z ≠ x := fun z x h1 ⟨o, h2⟩ => (mne h2 h1).symm
  have B : Both C (um (um (um (um M5 kp (.dK [])) a (.lst [])) b2 (.lst [])) kp (.dK [(.inr "taken", .ref a), (.inr "void", .ref b2)])) p A h k b y kp a b2 [] [] [] 201000 := {
    S := S5.keep fun x hx => by
      have hx := here5 x hx
      rw [um_ne (far _ _ hkp hx).symm, um_ne (far _ _ hb2 hx).symm, um_ne (far _ _ ha hx).symm, um_ne (far _ _ hkp hx).symm]
    S2 := {
      ob := um_same
      tk := by rw [um_ne a1, um_ne b21.symm]; exact um_same
      vd := by rw [um_ne b22]; exact um_same
      okT := fun d hd => by cases hd
      okV := fun d hd => by cases hd
      ne := ⟨a1.symm, b22.symm, b21.symm⟩
      few := ⟨Nat.zero_le _, Nat.zero_le _⟩ }
    H := by
      have t := t4.at_
      unfold Hd at t ⊢
      have hx : ∃ o, M5 A = some o := ⟨_, eA5⟩
      rw [um_ne (far _ _ hkp hx).symm, um_ne (far _ _ hb2 hx).symm, um_ne (far _ _ ha hx).symm, um_ne (far _ _ hkp hx).symm, eA5, ← eA]
      exact t
    off := fun z hz => by
      rcases hz with rfl | rfl | rfl | rfl
      · exact ⟨hhA.symm, nk k (.inl rfl), nk b (.inr (.inl rfl)), nk y (.inr (.inr rfl)), by simp⟩
      · exact ⟨far _ _ hkp (here5 _ (.inl rfl)), far _ _ hkp (here5 _ (.inr (.inl rfl))), far _ _ hkp (here5 _ (.inr (.inr (.inl rfl)))), far _ _ hkp (here5 _ (.inr (.inr (.inr (.inl rfl))))), by simp⟩
      · exact ⟨far _ _ ha (here5 _ (.inl rfl)), far _ _ ha (here5 _ (.inr (.inl rfl))), far _ _ ha (here5 _ (.inr (.inr (.inl rfl)))), far _ _ ha (here5 _ (.inr (.inr (.inr (.inl rfl))))), by simp⟩
      · exact ⟨far _ _ hb2 (here5 _ (.inl rfl)), far _ _ hb2 (here5 _ (.inr (.inl rfl))), far _ _ hb2 (here5 _ (.inr (.inr (.inl rfl)))), far _ _ hb2 (here5 _ (.inr (.inr (.inr (.inl rfl))))), by simp⟩
    offH := ⟨(far _ _ hkp ⟨_, eA5⟩).symm, (far _ _ ha ⟨_, eA5⟩).symm, (far _ _ hb2 ⟨_, eA5⟩).symm⟩ }
  refine ⟨by rw [um_ne b22.symm, um_ne a1.symm]; exact um_same, ?_⟩
  show dMeth _ _ _ _ _ _ (um (um (um (um M5 kp (.dK [])) a (.lst [])) b2 (.lst [])) kp (.dK [(.inr "taken", .ref a), (.inr "void", .ref b2)])) _
  generalize um (um (um (um M5 kp (.dK [])) a (.lst [])) b2 (.lst [])) kp (.dK [(.inr "taken", .ref a), (.inr "void", .ref b2)]) = M6 at B ⊢
  obtain ⟨dx6, hM6⟩ := B.S.ob
  simp only [DL.dstart, DL.dVar, DL.dC, DL.dNil, DL.dCons, DL.dTup, DL.dLst, DL.dOp, DL.dB, DL.rIsi, DL.rLen, DL.rMin, DL.rMax, DL.rInt, DL.rTuple, DL.rList, DL.rAll, DL.rAny, DL.rSum, DL.dTest, DL.dChain, DL.dAnd, DL.dOr, DL.dNot, DL.dAndV, DL.dOrV, DL.dNotV, DL.dIf, DL.dNext, DL.dSeq, DL.dDrop, DL.dRet, DL.dRetN, DL.dIfS, DL.dAsg, DL.dName, DL.dPar, DL.dPar3, DL.dAug, DL.dgNil, DL.dgCons, DL.dgTup, DL.dSub, DL.dCall, DL.dNeg, DL.dSlice, DL.dPart, DL.dNo, DL.rI2, DL.rII, DL.rAdd, DL.rIsN, DL.rIx, DL.rSet, DL.isi, DL.rEq_int, DL.rEq_str, DL.at0, DL.at1, DL.at2, DL.at3, DL.Tn.nm, DL.dChain, DL.rLtI, DL.rLeI, DL.rGtI, DL.rGeI, DL.rSub, DL.rMul, DL.rMod, DL.rDiv, DL.rPow, List.length_cons, List.length_nil, List.replicate_succ, List.replicate_zero, Nat.reduceAdd, Nat.reduceSub, Nat.zero_add, List.map_cons, List.map_nil, List.cons_append, List.nil_append, List.getElem?_cons_zero, List.getElem?_cons_succ, List.set_cons_zero, List.set_cons_succ, dMeth, hM6]
  have s0 : srt (([] : List (D × Addr)).map (·.1)) = [] := (srt_perm []).eq_nil
  refine ⟨⟨dx6, _, rfl⟩, p, h, k, b, y, [], [], [], rfl, B.S, ⟨dx6, _, hM6⟩, p, h, k, b, y, [], [], [], rfl, B.S, small (by decide), ?_⟩
  rw [s0]
  have e0 : (D.tup [D.tup ([].filterMap (fileF [] [])), D.tup ([].filterMap (unlF [] []))]).py.shown = Str.ofString "((), ())" := by
    show (D.tup [D.tup [], D.tup []]).py.shown = _
    decide +kernel
  refine ⟨rfl, by simp [D.deps, D.dep], rfl, by rw [e0]; exact small (by decide +kernel), ?_⟩
  rw [e0]
  simp only [DL.dstart, DL.dVar, DL.dC, DL.dNil, DL.dCons, DL.dTup, DL.dLst, DL.dOp, DL.dB, DL.rIsi, DL.rLen, DL.rMin, DL.rMax, DL.rInt, DL.rTuple, DL.rList, DL.rAll, DL.rAny, DL.rSum, DL.dTest, DL.dChain, DL.dAnd, DL.dOr, DL.dNot, DL.dAndV, DL.dOrV, DL.dNotV, DL.dIf, DL.dNext, DL.dSeq, DL.dDrop, DL.dRet, DL.dRetN, DL.dIfS, DL.dAsg, DL.dName, DL.dPar, DL.dPar3, DL.dAug, DL.dgNil, DL.dgCons, DL.dgTup, DL.dSub, DL.dCall, DL.dNeg, DL.dSlice, DL.dPart, DL.dNo, DL.rI2, DL.rII, DL.rAdd, DL.rIsN, DL.rIx, DL.rSet, DL.isi, DL.rEq_int, DL.rEq_str, DL.at0, DL.at1, DL.at2, DL.at3, DL.Tn.nm, DL.dChain, DL.rLtI, DL.rLeI, DL.rGtI, DL.rGeI, DL.rSub, DL.rMul, DL.rMod, DL.rDiv, DL.rPow, List.length_cons, List.length_nil, List.replicate_succ, List.replicate_zero, Nat.reduceAdd, Nat.reduceSub, Nat.zero_add, List.map_cons, List.map_nil, List.cons_append, List.nil_append, List.getElem?_cons_zero, List.getElem?_cons_succ, List.set_cons_zero, List.set_cons_succ]
  refine ⟨fun z => absurd z (by simp), fun _ => ?_⟩
  refine ⟨A, 35, _, rfl, B.H, by decide, by decide, fun j M7 hj t7 => ?_⟩
  refine ⟨by omega, by omega, ?_⟩
  have B7 := B.hand t7
  refine ⟨fun i σ M2 => ∃ L ts vs v7 v8 v9 v10 v11 v12, σ = [some (.fz (ns.map .int)), some (.int kk), some (.ref A), some p.d, some (.lst ps), some (.ref h), some (.ref kp), v7, v8, v9, v10, v11, v12] ∧ Both C M2 p A h k b y kp a b2 L ts vs (201001 + 2 * i) ∧ ts.length ≤ i ∧ vs.length ≤ i,
    ⟨[], [], [], _, _, _, _, _, _, rfl, B7, Nat.le_refl _, Nat.le_refl _⟩, fun _ _ _ _ _ => True.intro, ?_, ?_⟩
  rotate_left
  · rintro σ M8 ⟨L, ts, vs, v7, v8, v9, v10, v11, v12, rfl, _⟩
    exact ⟨_, _, _, _, _, _, _, _, _, _, _, _, rfl⟩
  rintro i2 d σ M8 hd2 ⟨L, ts, vs, v7, v8, v9, v10, v11, v12, rfl, B8, lT, lV⟩
  have hi2 : i2 < 41 := by
    have := (List.getElem?_eq_some_iff.mp hd2).1
    simp at this; omega
  have lp := List.length_pos_iff.mpr pne
  simp only [DL.dstart, DL.dVar, DL.dC, DL.dNil, DL.dCons, DL.dTup, DL.dLst, DL.dOp, DL.dB, DL.rIsi, DL.rLen, DL.rMin, DL.rMax, DL.rInt, DL.rTuple, DL.rList, DL.rAll, DL.rAny, DL.rSum, DL.dTest, DL.dChain, DL.dAnd, DL.dOr, DL.dNot, DL.dAndV, DL.dOrV, DL.dNotV, DL.dIf, DL.dNext, DL.dSeq, DL.dDrop, DL.dRet, DL.dRetN, DL.dIfS, DL.dAsg, DL.dName, DL.dPar, DL.dPar3, DL.dAug, DL.dgNil, DL.dgCons, DL.dgTup, DL.dSub, DL.dCall, DL.dNeg, DL.dSlice, DL.dPart, DL.dNo, DL.rI2, DL.rII, DL.rAdd, DL.rIsN, DL.rIx, DL.rSet, DL.isi, DL.rEq_int, DL.rEq_str, DL.at0, DL.at1, DL.at2, DL.at3, DL.Tn.nm, DL.dChain, DL.rLtI, DL.rLeI, DL.rGtI, DL.rGeI, DL.rSub, DL.rMul, DL.rMod, DL.rDiv, DL.rPow, List.length_cons, List.length_nil, List.replicate_succ, List.replicate_zero, Nat.reduceAdd, Nat.reduceSub, Nat.zero_add, List.map_cons, List.map_nil, List.cons_append, List.nil_append, List.getElem?_cons_zero, List.getElem?_cons_succ, List.set_cons_zero, List.set_cons_succ]
  refine ⟨A, 3, _, rfl, B8.H, by omega, by decide, fun tk M9 htk t9 => ?_⟩
  refine ⟨A, ps.length, _, rfl, t9.at_, by omega, ⟨by omega, by omega⟩, fun ix M10 hix t10 => ?_⟩
  obtain ⟨pg, hpg, hat⟩ := at_lt (ds := ps) hix.1 hix.2
  have ok := hps pg hpg
  have B10 := (B8.hand t9).hand t10
  obtain ⟨dx10, hM10⟩ := B10.S.ob
  obtain ⟨px, pa, pb, pr, rfl⟩ := ok.key
  refine ⟨_, hat, ?_⟩
  simp only [DL.dstart, DL.dVar, DL.dC, DL.dNil, DL.dCons, DL.dTup, DL.dLst, DL.dOp, DL.dB, DL.rIsi, DL.rLen, DL.rMin, DL.rMax, DL.rInt, DL.rTuple, DL.rList, DL.rAll, DL.rAny, DL.rSum, DL.dTest, DL.dChain, DL.dAnd, DL.dOr, DL.dNot, DL.dAndV, DL.dOrV, DL.dNotV, DL.dIf, DL.dNext, DL.dSeq, DL.dDrop, DL.dRet, DL.dRetN, DL.dIfS, DL.dAsg, DL.dName, DL.dPar, DL.dPar3, DL.dAug, DL.dgNil, DL.dgCons, DL.dgTup, DL.dSub, DL.dCall, DL.dNeg, DL.dSlice, DL.dPart, DL.dNo, DL.rI2, DL.rII, DL.rAdd, DL.rIsN, DL.rIx, DL.rSet, DL.isi, DL.rEq_int, DL.rEq_str, DL.at0, DL.at1, DL.at2, DL.at3, DL.Tn.nm, DL.dChain, DL.rLtI, DL.rLeI, DL.rGtI, DL.rGeI, DL.rSub, DL.rMul, DL.rMod, DL.rDiv, DL.rPow, List.length_cons, List.length_nil, List.replicate_succ, List.replicate_zero, Nat.reduceAdd, Nat.reduceSub, Nat.zero_add, List.map_cons, List.map_nil, List.cons_append, List.nil_append, List.getElem?_cons_zero, List.getElem?_cons_succ, List.set_cons_zero, List.set_cons_succ, dMeth, hM10]
  have eN : 201001 + 2 * i2 + 1 + 1 = 201001 + 2 * (i2 + 1) := by omega
  rw [eN] at B10
  refine ⟨fun _ => ⟨⟨dx10, _, rfl⟩, p, h, k, b, y, L, ts, vs, _, rfl, B10.S, ok, by omega, fun hin => ?_, fun hn M11 L2 S11 f11 hL => ?_⟩, fun _ => ⟨⟨dx10, _, rfl⟩, p, h, k, b, y, L, ts, vs, _, rfl, B10.S, ok, by omega, fun hin => ?_, fun hn M11 S11 f11 => ?_⟩⟩
  · refine ⟨p, kp, a, b2, ts, vs, _, rfl, B10.S2, ok, by omega, fun _ => ?_, fun z => absurd hin z⟩
    dsimp only
    rw [DL.rEq_str]
    dsimp only
    refine ⟨fun _ => ?_, fun z => absurd z (by simp)⟩
    refine ⟨p, h, k, b, y, L, kp, a, b2, ts, vs, rfl, po, B10.S, B10.S2, by first | omega | (simp only [List.length_append, List.length_singleton]; omega), ?_⟩
    refine ⟨fun _ => ?_, fun z => nomatch z⟩
    refine ⟨p, h, k, b, y, L, kp, a, b2, ts, vs, rfl, po, B10.S, B10.S2, by first | omega | (simp only [List.length_append, List.length_singleton]; omega), ?_⟩
    refine ⟨fun z => (nomatch z), fun _ => ?_⟩
    exact ⟨L, ts, vs, _, _, _, _, _, _, rfl, B10, by first | omega | (simp only [List.length_append, List.length_singleton]; omega), by first | omega | (simp only [List.length_append, List.length_singleton]; omega)⟩
  · refine ⟨p, kp, a, b2, ts, vs, _, rfl, B10.kept f11, ok, by omega, fun z => absurd z hn, fun _ M12 S12 e12 => ?_⟩
    have B12 := B10.next f11 hL S11 S12 (.inl rfl) e12
    dsimp only
    rw [DL.rEq_str]
    dsimp only
    refine ⟨fun _ => ?_, fun z => absurd z (by simp)⟩
    refine ⟨p, h, k, b, y, L2, kp, a, b2, (ts ++ [.tup (.str px :: .int pa :: .int pb :: pr)]), vs, rfl, po, B12.S, B12.S2, by first | omega | (simp only [List.length_append, List.length_singleton]; omega), ?_⟩
    refine ⟨fun _ => ?_, fun z => nomatch z⟩
    refine ⟨p, h, k, b, y, L2, kp, a, b2, (ts ++ [.tup (.str px :: .int pa :: .int pb :: pr)]), vs, rfl, po, B12.S, B12.S2, by first | omega | (simp only [List.length_append, List.length_singleton]; omega), ?_⟩
    refine ⟨fun z => (nomatch z), fun _ => ?_⟩
    exact ⟨L2, (ts ++ [.tup (.str px :: .int pa :: .int pb :: pr)]), vs, _, _, _, _, _, _, rfl, B12, by first | omega | (simp only [List.length_append, List.length_singleton]; omega), by first | omega | (simp only [List.length_append, List.length_singleton]; omega)⟩
  · refine ⟨p, kp, a, b2, ts, vs, _, rfl, B10.S2, ok, by omega, fun _ => ?_, fun z => absurd hin z⟩
    dsimp only
    rw [DL.rEq_str]
    dsimp only
    refine ⟨fun _ => ?_, fun z => absurd z (by simp)⟩
    refine ⟨p, h, k, b, y, L, kp, a, b2, ts, vs, rfl, po, B10.S, B10.S2, by first | omega | (simp only [List.length_append, List.length_singleton]; omega), ?_⟩
    refine ⟨fun _ => ?_, fun z => nomatch z⟩
    refine ⟨p, h, k, b, y, L, kp, a, b2, ts, vs, rfl, po, B10.S, B10.S2, by first | omega | (simp only [List.length_append, List.length_singleton]; omega), ?_⟩
    refine ⟨fun z => (nomatch z), fun _ => ?_⟩
    exact ⟨L, ts, vs, _, _, _, _, _, _, rfl, B10, by first | omega | (simp only [List.length_append, List.length_singleton]; omega), by first | omega | (simp only [List.length_append, List.length_singleton]; omega)⟩
  · refine ⟨p, kp, a, b2, ts, vs, _, rfl, B10.kept f11, ok, by omega, fun z => absurd z hn, fun _ M12 S12 e12 => ?_⟩
    have B12 := B10.next f11 (fun x hx => .inl hx) S11 S12 (.inr rfl) e12
    dsimp only
    rw [DL.rEq_str]
    dsimp only
    refine ⟨fun _ => ?_, fun z => absurd z (by simp)⟩
    refine ⟨p, h, k, b, y, L, kp, a, b2, ts, (vs ++ [.tup (.str px :: .int pa :: .int pb :: pr)]), rfl, po, B12.S, B12.S2, by first | omega | (simp only [List.length_append, List.length_singleton]; omega), ?_⟩
    refine ⟨fun _ => ?_, fun z => nomatch z⟩
    refine ⟨p, h, k, b, y, L, kp, a, b2, ts, (vs ++ [.tup (.str px :: .int pa :: .int pb :: pr)]), rfl, po, B12.S, B12.S2, by first | omega | (simp only [List.length_append, List.length_singleton]; omega), ?_⟩
    refine ⟨fun z => (nomatch z), fun _ => ?_⟩
    exact ⟨L, ts, (vs ++ [.tup (.str px :: .int pa :: .int pb :: pr)]), _, _, _, _, _, _, rfl, B12, by first | omega | (simp only [List.length_append, List.length_singleton]; omega), by first | omega | (simp only [List.length_append, List.length_singleton]; omega)⟩
end
end K7

namespace K7
open PySem PySem.Spec PyProof.Rows L2 DL
set_option maxHeartbeats 2000000 in
theorem all_mk {l : PySem.W.OpenLaw} {w : World} {K : PySem.W.Frag} {h : Heap} {mg : Str → Option Value} {fa C : Addr} {f0 : Addr} {od0 an0 : Option Addr} {sl0 : Array (Option Value)} {oc0 kV0 dc0 pm0 cd0 ct0 : Value}
    {f1 : Addr} {od1 an1 : Option Addr} {sl1 : Array (Option Value)} {oc1 kV1 dc1 pm1 cd1 ct1 : Value}
    {f2 : Addr} {od2 an2 : Option Addr} {sl2 : Array (Option Value)} {oc2 kV2 dc2 pm2 cd2 ct2 : Value}
    {f3 : Addr} {od3 an3 : Option Addr} {sl3 : Array (Option Value)} {oc3 kV3 dc3 pm3 cd3 ct3 : Value}
    {f4 : Addr} {od4 an4 : Option Addr} {sl4 : Array (Option Value)} {oc4 kV4 dc4 pm4 cd4 ct4 : Value}
    {f5 : Addr} {od5 an5 : Option Addr} {sl5 : Array (Option Value)} {oc5 kV5 dc5 pm5 cd5 ct5 : Value}
    {f6 : Addr} {od6 an6 : Option Addr} {sl6 : Array (Option Value)} {oc6 kV6 dc6 pm6 cd6 ct6 : Value}
    {f7 : Addr} {od7 an7 : Option Addr} {sl7 : Array (Option Value)} {oc7 kV7 dc7 pm7 cd7 ct7 : Value}
    {f8 : Addr} {od8 an8 : Option Addr} {sl8 : Array (Option Value)} {oc8 kV8 dc8 pm8 cd8 ct8 : Value}
    {f9 : Addr} {od9 an9 : Option Addr} {sl9 : Array (Option Value)} {oc9 kV9 dc9 pm9 cd9 ct9 : Value}
    {f10 : Addr} {od10 an10 : Option Addr} {sl10 : Array (Option Value)} {oc10 kV10 dc10 pm10 cd10 ct10 : Value}
    {f11 : Addr} {od11 an11 : Option Addr} {sl11 : Array (Option Value)} {oc11 kV11 dc11 pm11 cd11 ct11 : Value}
    {f12 : Addr} {od12 an12 : Option Addr} {sl12 : Array (Option Value)} {oc12 kV12 dc12 pm12 cd12 ct12 : Value}
    {f13 : Addr} {od13 an13 : Option Addr} {sl13 : Array (Option Value)} {oc13 kV13 dc13 pm13 cd13 ct13 : Value}
    {f14 : Addr} {od14 an14 : Option Addr} {sl14 : Array (Option Value)} {oc14 kV14 dc14 pm14 cd14 ct14 : Value}
    {f15 : Addr} {od15 an15 : Option Addr} {sl15 : Array (Option Value)} {oc15 kV15 dc15 pm15 cd15 ct15 : Value}
    {f16 : Addr} {od16 an16 : Option Addr} {sl16 : Array (Option Value)} {oc16 kV16 dc16 pm16 cd16 ct16 : Value}
    {f17 : Addr} {od17 an17 : Option Addr} {sl17 : Array (Option Value)} {oc17 kV17 dc17 pm17 cd17 ct17 : Value}
    {f18 : Addr} {od18 an18 : Option Addr} {sl18 : Array (Option Value)} {oc18 kV18 dc18 pm18 cd18 ct18 : Value}
    {f19 : Addr} {od19 an19 : Option Addr} {sl19 : Array (Option Value)} {oc19 kV19 dc19 pm19 cd19 ct19 : Value}
    {f20 : Addr} {od20 an20 : Option Addr} {sl20 : Array (Option Value)} {oc20 kV20 dc20 pm20 cd20 ct20 : Value}
    {f21 : Addr} {od21 an21 : Option Addr} {sl21 : Array (Option Value)} {oc21 kV21 dc21 pm21 cd21 ct21 : Value}
    {f22 : Addr} {od22 an22 : Option Addr} {sl22 : Array (Option Value)} {oc22 kV22 dc22 pm22 cd22 ct22 : Value}
    {f23 : Addr} {od23 an23 : Option Addr} {sl23 : Array (Option Value)} {oc23 kV23 dc23 pm23 cd23 ct23 : Value}
    {f24 : Addr} {od24 an24 : Option Addr} {sl24 : Array (Option Value)} {oc24 kV24 dc24 pm24 cd24 ct24 : Value}
    {f25 : Addr} {od25 an25 : Option Addr} {sl25 : Array (Option Value)} {oc25 kV25 dc25 pm25 cd25 ct25 : Value}
    {f26 : Addr} {od26 an26 : Option Addr} {sl26 : Array (Option Value)} {oc26 kV26 dc26 pm26 cd26 ct26 : Value}
    {f27 : Addr} {od27 an27 : Option Addr} {sl27 : Array (Option Value)} {oc27 kV27 dc27 pm27 cd27 ct27 : Value}
    {f28 : Addr} {od28 an28 : Option Addr} {sl28 : Array (Option Value)} {oc28 kV28 dc28 pm28 cd28 ct28 : Value}
    {f29 : Addr} {od29 an29 : Option Addr} {sl29 : Array (Option Value)} {oc29 kV29 dc29 pm29 cd29 ct29 : Value}
    {f30 : Addr} {od30 an30 : Option Addr} {sl30 : Array (Option Value)} {oc30 kV30 dc30 pm30 cd30 ct30 : Value}
    {f31 : Addr} {od31 an31 : Option Addr} {sl31 : Array (Option Value)} {oc31 kV31 dc31 pm31 cd31 ct31 : Value}
    {f32 : Addr} {od32 an32 : Option Addr} {sl32 : Array (Option Value)} {oc32 kV32 dc32 pm32 cd32 ct32 : Value}
    {f33 : Addr} {od33 an33 : Option Addr} {sl33 : Array (Option Value)} {oc33 kV33 dc33 pm33 cd33 ct33 : Value}
    {t_MOST_NUMBER : Tok}
    {t_MOST_COIN : Tok}
    {t_OFFICE : Tok}
    {t_GATE : Tok}
    (X : K.In h) (G : h.Ns mainGlobals mg) (hfa : mg "law" = some (.ref fa))
    (aC : PySem.W.nsIn K mainGlobals "House" = some (some (.ref C)))
    (a0 : PySem.W.nsIn K mainGlobals "is_int" = some (some (.ref f0)))
    (l0 : K.lookup f0 = some ⟨oc0, od0, .func (PySem.W.fnOf "is_int" "is_int" (defArgs st_is_int) (defBody st_is_int) (defScope st_is_int) .none kV0 dc0 pm0 an0 cd0 ct0), sl0⟩)
    (c0 : PySem.W.codeIn K cd0 "is_int" = true)
    (k0 : PySem.W.keepIn K (.ref f0) = true)
    (a1 : PySem.W.nsIn K mainGlobals "is_under" = some (some (.ref f1)))
    (l1 : K.lookup f1 = some ⟨oc1, od1, .func (PySem.W.fnOf "is_under" "is_under" (defArgs st_is_under) (defBody st_is_under) (defScope st_is_under) .none kV1 dc1 pm1 an1 cd1 ct1), sl1⟩)
    (c1 : PySem.W.codeIn K cd1 "is_under" = true)
    (k1 : PySem.W.keepIn K (.ref f1) = true)
    (a2 : PySem.W.nsIn K mainGlobals "is_told_or_torn" = some (some (.ref f2)))
    (l2 : K.lookup f2 = some ⟨oc2, od2, .func (PySem.W.fnOf "is_told_or_torn" "is_told_or_torn" (defArgs st_is_told_or_torn) (defBody st_is_told_or_torn) (defScope st_is_told_or_torn) .none kV2 dc2 pm2 an2 cd2 ct2), sl2⟩)
    (c2 : PySem.W.codeIn K cd2 "is_told_or_torn" = true)
    (k2 : PySem.W.keepIn K (.ref f2) = true)
    (a3 : PySem.W.nsIn K mainGlobals "is_coin" = some (some (.ref f3)))
    (l3 : K.lookup f3 = some ⟨oc3, od3, .func (PySem.W.fnOf "is_coin" "is_coin" (defArgs st_is_coin) (defBody st_is_coin) (defScope st_is_coin) .none kV3 dc3 pm3 an3 cd3 ct3), sl3⟩)
    (c3 : PySem.W.codeIn K cd3 "is_coin" = true)
    (k3 : PySem.W.keepIn K (.ref f3) = true)
    (a4 : PySem.W.nsIn K mainGlobals "is_ticket" = some (some (.ref f4)))
    (l4 : K.lookup f4 = some ⟨oc4, od4, .func (PySem.W.fnOf "is_ticket" "is_ticket" (defArgs st_is_ticket) (defBody st_is_ticket) (defScope st_is_ticket) .none kV4 dc4 pm4 an4 cd4 ct4), sl4⟩)
    (c4 : PySem.W.codeIn K cd4 "is_ticket" = true)
    (k4 : PySem.W.keepIn K (.ref f4) = true)
    (a5 : PySem.W.nsIn K mainGlobals "is_bettered" = some (some (.ref f5)))
    (l5 : K.lookup f5 = some ⟨oc5, od5, .func (PySem.W.fnOf "is_bettered" "is_bettered" (defArgs st_is_bettered) (defBody st_is_bettered) (defScope st_is_bettered) .none kV5 dc5 pm5 an5 cd5 ct5), sl5⟩)
    (c5 : PySem.W.codeIn K cd5 "is_bettered" = true)
    (k5 : PySem.W.keepIn K (.ref f5) = true)
    (a6 : PySem.W.nsIn K mainGlobals "are_tickets" = some (some (.ref f6)))
    (l6 : K.lookup f6 = some ⟨oc6, od6, .func (PySem.W.fnOf "are_tickets" "are_tickets" (defArgs st_are_tickets) (defBody st_are_tickets) (defScope st_are_tickets) .none kV6 dc6 pm6 an6 cd6 ct6), sl6⟩)
    (c6 : PySem.W.codeIn K cd6 "are_tickets" = true)
    (k6 : PySem.W.keepIn K (.ref f6) = true)
    (a7 : PySem.W.nsIn K mainGlobals "do_rise" = some (some (.ref f7)))
    (l7 : K.lookup f7 = some ⟨oc7, od7, .func (PySem.W.fnOf "do_rise" "do_rise" (defArgs st_do_rise) (defBody st_do_rise) (defScope st_do_rise) .none kV7 dc7 pm7 an7 cd7 ct7), sl7⟩)
    (c7 : PySem.W.codeIn K cd7 "do_rise" = true)
    (k7 : PySem.W.keepIn K (.ref f7) = true)
    (a8 : PySem.W.nsIn K mainGlobals "racks_at" = some (some (.ref f8)))
    (l8 : K.lookup f8 = some ⟨oc8, od8, .func (PySem.W.fnOf "racks_at" "racks_at" (defArgs st_racks_at) (defBody st_racks_at) (defScope st_racks_at) .none kV8 dc8 pm8 an8 cd8 ct8), sl8⟩)
    (c8 : PySem.W.codeIn K cd8 "racks_at" = true)
    (k8 : PySem.W.keepIn K (.ref f8) = true)
    (a9 : PySem.W.nsIn K mainGlobals "is_office" = some (some (.ref f9)))
    (l9 : K.lookup f9 = some ⟨oc9, od9, .func (PySem.W.fnOf "is_office" "is_office" (defArgs st_is_office) (defBody st_is_office) (defScope st_is_office) .none kV9 dc9 pm9 an9 cd9 ct9), sl9⟩)
    (c9 : PySem.W.codeIn K cd9 "is_office" = true)
    (k9 : PySem.W.keepIn K (.ref f9) = true)
    (a10 : PySem.W.nsIn K mainGlobals "is_gate" = some (some (.ref f10)))
    (l10 : K.lookup f10 = some ⟨oc10, od10, .func (PySem.W.fnOf "is_gate" "is_gate" (defArgs st_is_gate) (defBody st_is_gate) (defScope st_is_gate) .none kV10 dc10 pm10 an10 cd10 ct10), sl10⟩)
    (c10 : PySem.W.codeIn K cd10 "is_gate" = true)
    (k10 : PySem.W.keepIn K (.ref f10) = true)
    (a11 : PySem.W.nsIn K mainGlobals "is_page" = some (some (.ref f11)))
    (l11 : K.lookup f11 = some ⟨oc11, od11, .func (PySem.W.fnOf "is_page" "is_page" (defArgs st_is_page) (defBody st_is_page) (defScope st_is_page) .none kV11 dc11 pm11 an11 cd11 ct11), sl11⟩)
    (c11 : PySem.W.codeIn K cd11 "is_page" = true)
    (k11 : PySem.W.keepIn K (.ref f11) = true)
    (a12 : PySem.W.nsIn K mainGlobals "key_of" = some (some (.ref f12)))
    (l12 : K.lookup f12 = some ⟨oc12, od12, .func (PySem.W.fnOf "key_of" "key_of" (defArgs st_key_of) (defBody st_key_of) (defScope st_key_of) .none kV12 dc12 pm12 an12 cd12 ct12), sl12⟩)
    (c12 : PySem.W.codeIn K cd12 "key_of" = true)
    (k12 : PySem.W.keepIn K (.ref f12) = true)
    (a13 : PySem.W.findIn K (.ref C) "__init__" = some (some (.ref f13)))
    (i13 : PySem.W.isFn K (.ref f13) = true)
    (l13 : K.lookup f13 = some ⟨oc13, od13, .func (PySem.W.fnOf "__init__" "House.__init__" (defArgs st_House_init) (defBody st_House_init) (defScope st_House_init) .none kV13 dc13 pm13 an13 cd13 ct13), sl13⟩)
    (c13 : PySem.W.codeIn K cd13 "House.__init__" = true)
    (k13 : PySem.W.keepIn K (.ref f13) = true)
    (a14 : PySem.W.findIn K (.ref C) "want_page" = some (some (.ref f14)))
    (i14 : PySem.W.isFn K (.ref f14) = true)
    (l14 : K.lookup f14 = some ⟨oc14, od14, .func (PySem.W.fnOf "want_page" "House.want_page" (defArgs st_House_want_page) (defBody st_House_want_page) (defScope st_House_want_page) .none kV14 dc14 pm14 an14 cd14 ct14), sl14⟩)
    (c14 : PySem.W.codeIn K cd14 "House.want_page" = true)
    (k14 : PySem.W.keepIn K (.ref f14) = true)
    (a15 : PySem.W.findIn K (.ref C) "void" = some (some (.ref f15)))
    (i15 : PySem.W.isFn K (.ref f15) = true)
    (l15 : K.lookup f15 = some ⟨oc15, od15, .func (PySem.W.fnOf "void" "House.void" (defArgs st_House_void) (defBody st_House_void) (defScope st_House_void) .none kV15 dc15 pm15 an15 cd15 ct15), sl15⟩)
    (c15 : PySem.W.codeIn K cd15 "House.void" = true)
    (k15 : PySem.W.keepIn K (.ref f15) = true)
    (a16 : PySem.W.findIn K (.ref C) "take" = some (some (.ref f16)))
    (i16 : PySem.W.isFn K (.ref f16) = true)
    (l16 : K.lookup f16 = some ⟨oc16, od16, .func (PySem.W.fnOf "take" "House.take" (defArgs st_House_take) (defBody st_House_take) (defScope st_House_take) .none kV16 dc16 pm16 an16 cd16 ct16), sl16⟩)
    (c16 : PySem.W.codeIn K cd16 "House.take" = true)
    (k16 : PySem.W.keepIn K (.ref f16) = true)
    (a17 : PySem.W.findIn K (.ref C) "standing" = some (some (.ref f17)))
    (i17 : PySem.W.isFn K (.ref f17) = true)
    (l17 : K.lookup f17 = some ⟨oc17, od17, .func (PySem.W.fnOf "standing" "House.standing" (defArgs st_House_standing) (defBody st_House_standing) (defScope st_House_standing) .none kV17 dc17 pm17 an17 cd17 ct17), sl17⟩)
    (c17 : PySem.W.codeIn K cd17 "House.standing" = true)
    (k17 : PySem.W.keepIn K (.ref f17) = true)
    (a18 : PySem.W.findIn K (.ref C) "file" = some (some (.ref f18)))
    (i18 : PySem.W.isFn K (.ref f18) = true)
    (l18 : K.lookup f18 = some ⟨oc18, od18, .func (PySem.W.fnOf "file" "House.file" (defArgs st_House_file) (defBody st_House_file) (defScope st_House_file) .none kV18 dc18 pm18 an18 cd18 ct18), sl18⟩)
    (c18 : PySem.W.codeIn K cd18 "House.file" = true)
    (k18 : PySem.W.keepIn K (.ref f18) = true)
    (a19 : PySem.W.findIn K (.ref C) "unlike" = some (some (.ref f19)))
    (i19 : PySem.W.isFn K (.ref f19) = true)
    (l19 : K.lookup f19 = some ⟨oc19, od19, .func (PySem.W.fnOf "unlike" "House.unlike" (defArgs st_House_unlike) (defBody st_House_unlike) (defScope st_House_unlike) .none kV19 dc19 pm19 an19 cd19 ct19), sl19⟩)
    (c19 : PySem.W.codeIn K cd19 "House.unlike" = true)
    (k19 : PySem.W.keepIn K (.ref f19) = true)
    (a20 : PySem.W.nsIn K mainGlobals "_law_hand_of" = some (some (.ref f20)))
    (l20 : K.lookup f20 = some ⟨oc20, od20, .func (PySem.W.fnOf "_law_hand_of" "_law_hand_of" (defArgs st__law_hand_of) (defBody st__law_hand_of) (defScope st__law_hand_of) .none kV20 dc20 pm20 an20 cd20 ct20), sl20⟩)
    (c20 : PySem.W.codeIn K cd20 "_law_hand_of" = true)
    (k20 : PySem.W.keepIn K (.ref f20) = true)
    (a21 : PySem.W.nsIn K mainGlobals "_law_take" = some (some (.ref f21)))
    (l21 : K.lookup f21 = some ⟨oc21, od21, .func (PySem.W.fnOf "_law_take" "_law_take" (defArgs st__law_take) (defBody st__law_take) (defScope st__law_take) .none kV21 dc21 pm21 an21 cd21 ct21), sl21⟩)
    (c21 : PySem.W.codeIn K cd21 "_law_take" = true)
    (k21 : PySem.W.keepIn K (.ref f21) = true)
    (a22 : PySem.W.nsIn K mainGlobals "_law_number" = some (some (.ref f22)))
    (l22 : K.lookup f22 = some ⟨oc22, od22, .func (PySem.W.fnOf "_law_number" "_law_number" (defArgs st__law_number) (defBody st__law_number) (defScope st__law_number) .none kV22 dc22 pm22 an22 cd22 ct22), sl22⟩)
    (c22 : PySem.W.codeIn K cd22 "_law_number" = true)
    (k22 : PySem.W.keepIn K (.ref f22) = true)
    (a23 : PySem.W.nsIn K mainGlobals "_law_coin" = some (some (.ref f23)))
    (l23 : K.lookup f23 = some ⟨oc23, od23, .func (PySem.W.fnOf "_law_coin" "_law_coin" (defArgs st__law_coin) (defBody st__law_coin) (defScope st__law_coin) .none kV23 dc23 pm23 an23 cd23 ct23), sl23⟩)
    (c23 : PySem.W.codeIn K cd23 "_law_coin" = true)
    (k23 : PySem.W.keepIn K (.ref f23) = true)
    (a24 : PySem.W.nsIn K mainGlobals "_law_tickets" = some (some (.ref f24)))
    (l24 : K.lookup f24 = some ⟨oc24, od24, .func (PySem.W.fnOf "_law_tickets" "_law_tickets" (defArgs st__law_tickets) (defBody st__law_tickets) (defScope st__law_tickets) .none kV24 dc24 pm24 an24 cd24 ct24), sl24⟩)
    (c24 : PySem.W.codeIn K cd24 "_law_tickets" = true)
    (k24 : PySem.W.keepIn K (.ref f24) = true)
    (a25 : PySem.W.nsIn K mainGlobals "_law_page_of" = some (some (.ref f25)))
    (l25 : K.lookup f25 = some ⟨oc25, od25, .func (PySem.W.fnOf "_law_page_of" "_law_page_of" (defArgs st__law_page_of) (defBody st__law_page_of) (defScope st__law_page_of) .none kV25 dc25 pm25 an25 cd25 ct25), sl25⟩)
    (c25 : PySem.W.codeIn K cd25 "_law_page_of" = true)
    (k25 : PySem.W.keepIn K (.ref f25) = true)
    (a26 : PySem.W.nsIn K mainGlobals "_law_mate" = some (some (.ref f26)))
    (l26 : K.lookup f26 = some ⟨oc26, od26, .func (PySem.W.fnOf "_law_mate" "_law_mate" (defArgs st__law_mate) (defBody st__law_mate) (defScope st__law_mate) .none kV26 dc26 pm26 an26 cd26 ct26), sl26⟩)
    (c26 : PySem.W.codeIn K cd26 "_law_mate" = true)
    (k26 : PySem.W.keepIn K (.ref f26) = true)
    (a27 : PySem.W.nsIn K mainGlobals "_law_pool" = some (some (.ref f27)))
    (l27 : K.lookup f27 = some ⟨oc27, od27, .func (PySem.W.fnOf "_law_pool" "_law_pool" (defArgs st__law_pool) (defBody st__law_pool) (defScope st__law_pool) .none kV27 dc27 pm27 an27 cd27 ct27), sl27⟩)
    (c27 : PySem.W.codeIn K cd27 "_law_pool" = true)
    (k27 : PySem.W.keepIn K (.ref f27) = true)
    (a28 : PySem.W.nsIn K mainGlobals "_law_plan_of" = some (some (.ref f28)))
    (l28 : K.lookup f28 = some ⟨oc28, od28, .func (PySem.W.fnOf "_law_plan_of" "_law_plan_of" (defArgs st__law_plan_of) (defBody st__law_plan_of) (defScope st__law_plan_of) .none kV28 dc28 pm28 an28 cd28 ct28), sl28⟩)
    (c28 : PySem.W.codeIn K cd28 "_law_plan_of" = true)
    (k28 : PySem.W.keepIn K (.ref f28) = true)
    (a29 : PySem.W.nsIn K mainGlobals "_law_taken" = some (some (.ref f29)))
    (l29 : K.lookup f29 = some ⟨oc29, od29, .func (PySem.W.fnOf "_law_taken" "_law_taken" (defArgs st__law_taken) (defBody st__law_taken) (defScope st__law_taken) .none kV29 dc29 pm29 an29 cd29 ct29), sl29⟩)
    (c29 : PySem.W.codeIn K cd29 "_law_taken" = true)
    (k29 : PySem.W.keepIn K (.ref f29) = true)
    (a30 : PySem.W.nsIn K mainGlobals "_law_voided" = some (some (.ref f30)))
    (l30 : K.lookup f30 = some ⟨oc30, od30, .func (PySem.W.fnOf "_law_voided" "_law_voided" (defArgs st__law_voided) (defBody st__law_voided) (defScope st__law_voided) .none kV30 dc30 pm30 an30 cd30 ct30), sl30⟩)
    (c30 : PySem.W.codeIn K cd30 "_law_voided" = true)
    (k30 : PySem.W.keepIn K (.ref f30) = true)
    (a31 : PySem.W.nsIn K mainGlobals "_law_counting" = some (some (.ref f31)))
    (l31 : K.lookup f31 = some ⟨oc31, od31, .func (PySem.W.fnOf "_law_counting" "_law_counting" (defArgs st__law_counting) (defBody st__law_counting) (defScope st__law_counting) .none kV31 dc31 pm31 an31 cd31 ct31), sl31⟩)
    (c31 : PySem.W.codeIn K cd31 "_law_counting" = true)
    (k31 : PySem.W.keepIn K (.ref f31) = true)
    (a32 : PySem.W.nsIn K mainGlobals "_law_right" = some (some (.ref f32)))
    (l32 : K.lookup f32 = some ⟨oc32, od32, .func (PySem.W.fnOf "_law_right" "_law_right" (defArgs st__law_right) (defBody st__law_right) (defScope st__law_right) .none kV32 dc32 pm32 an32 cd32 ct32), sl32⟩)
    (c32 : PySem.W.codeIn K cd32 "_law_right" = true)
    (k32 : PySem.W.keepIn K (.ref f32) = true)
    (a33 : PySem.W.nsIn K mainGlobals "law" = some (some (.ref f33)))
    (l33 : K.lookup f33 = some ⟨oc33, od33, .func (PySem.W.fnOf "law" "law" (defArgs st_law) (defBody st_law) (defScope st_law) .none kV33 dc33 pm33 an33 cd33 ct33), sl33⟩)
    (c33 : PySem.W.codeIn K cd33 "law" = true)
    (k33 : PySem.W.keepIn K (.ref f33) = true)
    (pg : PySem.W.plainGet K C Str.empty = true)
    (hd : PySem.W.hasDictIn K C = true)
    (po : PySem.W.plainOver K C = true)
    (sa : PySem.W.findIn K (.ref C) "__setattr__" = some (some (.builtin "object.__setattr__")))
    (mk : PySem.W.makesIn K C = true)
    (kc : PySem.W.keepIn K (.ref C) = true)
    (na_plan_held : PySem.W.findIn K (.ref C) "plan_held" = some none)
    (na_known : PySem.W.findIn K (.ref C) "known" = some none)
    (na_banned : PySem.W.findIn K (.ref C) "banned" = some none)
    (na_by_key : PySem.W.findIn K (.ref C) "by_key" = some none)
    (z_isinstance : PySem.W.nsIn K mainGlobals "isinstance" = some none)
    (z_int : PySem.W.nsIn K mainGlobals "int" = some none)
    (z_bool : PySem.W.nsIn K mainGlobals "bool" = some none)
    (z_tuple : PySem.W.nsIn K mainGlobals "tuple" = some none)
    (z_str : PySem.W.nsIn K mainGlobals "str" = some none)
    (z_len : PySem.W.nsIn K mainGlobals "len" = some none)
    (z_all : PySem.W.nsIn K mainGlobals "all" = some none)
    (z_zip : PySem.W.nsIn K mainGlobals "zip" = some none)
    (z_enumerate : PySem.W.nsIn K mainGlobals "enumerate" = some none)
    (z_sorted : PySem.W.nsIn K mainGlobals "sorted" = some none)
    (z_range : PySem.W.nsIn K mainGlobals "range" = some none)
    (z_dict : PySem.W.nsIn K mainGlobals "dict" = some none)
    (z_min : PySem.W.nsIn K mainGlobals "min" = some none)
    (z_max : PySem.W.nsIn K mainGlobals "max" = some none)
    (z_set : PySem.W.nsIn K mainGlobals "set" = some none)
    (z_list : PySem.W.nsIn K mainGlobals "list" = some none)
    (z_repr : PySem.W.nsIn K mainGlobals "repr" = some none)
    (v_MOST_NUMBER : PySem.W.nsIn K mainGlobals "MOST_NUMBER" = some (some (.int 1000000000 t_MOST_NUMBER)))
    (v_MOST_COIN : PySem.W.nsIn K mainGlobals "MOST_COIN" = some (some (.int 1000000000000000 t_MOST_COIN)))
    (v_OFFICE : PySem.W.nsIn K mainGlobals "OFFICE" = some (some (.str "office" t_OFFICE)))
    (v_GATE : PySem.W.nsIn K mainGlobals "GATE" = some (some (.str "gate" t_GATE))) :
    ∃ fd : FuncData, (∀ (s : Shared) (v : Value), BindsTo s fd ⟨[v], []⟩ [("_law_script", v)]) ∧ ∀ base : Heap, K.In base → base.Ns mainGlobals mg → GnOk l.prog w K mg base 9 fa fd ["_law_script"] (upSp ⟨l.prog, w, K⟩ sp_law) := by
  have e := hfa.symm.trans (PySem.W.mg_of X G a33)
  cases e
  have cl : Cls K C := ⟨pg, hd, po, sa⟩
  have T_TxL : TxL K mg C := {
    b_isinstance := PySem.W.mg_none_of X G z_isinstance
    b_int := PySem.W.mg_none_of X G z_int
    b_bool := PySem.W.mg_none_of X G z_bool
    b_tuple := PySem.W.mg_none_of X G z_tuple
    b_str := PySem.W.mg_none_of X G z_str
    b_len := PySem.W.mg_none_of X G z_len
    b_all := PySem.W.mg_none_of X G z_all
    b_zip := PySem.W.mg_none_of X G z_zip
    b_enumerate := PySem.W.mg_none_of X G z_enumerate
    b_sorted := PySem.W.mg_none_of X G z_sorted
    b_range := PySem.W.mg_none_of X G z_range
    b_dict := PySem.W.mg_none_of X G z_dict
    b_min := PySem.W.mg_none_of X G z_min
    b_max := PySem.W.mg_none_of X G z_max
    b_set := PySem.W.mg_none_of X G z_set
    b_list := PySem.W.mg_none_of X G z_list
    b_repr := PySem.W.mg_none_of X G z_repr
    c_MOST_NUMBER := ⟨_, PySem.W.mg_of X G v_MOST_NUMBER⟩
    c_MOST_COIN := ⟨_, PySem.W.mg_of X G v_MOST_COIN⟩
    c_OFFICE := ⟨_, PySem.W.mg_of X G v_OFFICE⟩
    c_GATE := ⟨_, PySem.W.mg_of X G v_GATE⟩
    cl_House := cl
    na_House_plan_held := na_plan_held
    na_House_known := na_known
    na_House_banned := na_banned
    na_House_by_key := na_by_key
    m_House := PySem.W.mg_of X G aC }
  have T_TxH := T_TxL.toTxH
  have T_Txt := T_TxH.toTxt
  have F0 := fun_mk (st := st_is_int) l0 c0 k0
  have B0 := F0.binds (ps := ps_is_int) fun _ _ _ _ _ _ us hl => match us, hl with | [_], _ => rfl
  have F1 := fun_mk (st := st_is_under) l1 c1 k1
  have B1 := F1.binds (ps := ps_is_under) fun _ _ _ _ _ _ us hl => match us, hl with | [_, _], _ => rfl
  have F2 := fun_mk (st := st_is_told_or_torn) l2 c2 k2
  have B2 := F2.binds (ps := ps_is_told_or_torn) fun _ _ _ _ _ _ us hl => match us, hl with | [_], _ => rfl
  have F3 := fun_mk (st := st_is_coin) l3 c3 k3
  have B3 := F3.binds (ps := ps_is_coin) fun _ _ _ _ _ _ us hl => match us, hl with | [_], _ => rfl
  have F4 := fun_mk (st := st_is_ticket) l4 c4 k4
  have B4 := F4.binds (ps := ps_is_ticket) fun _ _ _ _ _ _ us hl => match us, hl with | [_, _], _ => rfl
  have F5 := fun_mk (st := st_is_bettered) l5 c5 k5
  have B5 := F5.binds (ps := ps_is_bettered) fun _ _ _ _ _ _ us hl => match us, hl with | [_, _], _ => rfl
  have F6 := fun_mk (st := st_are_tickets) l6 c6 k6
  have B6 := F6.binds (ps := ps_are_tickets) fun _ _ _ _ _ _ us hl => match us, hl with | [_, _], _ => rfl
  have F7 := fun_mk (st := st_do_rise) l7 c7 k7
  have B7 := F7.binds (ps := ps_do_rise) fun _ _ _ _ _ _ us hl => match us, hl with | [_], _ => rfl
  have F8 := fun_mk (st := st_racks_at) l8 c8 k8
  have B8 := F8.binds (ps := ps_racks_at) fun _ _ _ _ _ _ us hl => match us, hl with | [_, _], _ => rfl
  have F9 := fun_mk (st := st_is_office) l9 c9 k9
  have B9 := F9.binds (ps := ps_is_office) fun _ _ _ _ _ _ us hl => match us, hl with | [_, _], _ => rfl
  have F10 := fun_mk (st := st_is_gate) l10 c10 k10
  have B10 := F10.binds (ps := ps_is_gate) fun _ _ _ _ _ _ us hl => match us, hl with | [_, _], _ => rfl
  have F11 := fun_mk (st := st_is_page) l11 c11 k11
  have B11 := F11.binds (ps := ps_is_page) fun _ _ _ _ _ _ us hl => match us, hl with | [_, _], _ => rfl
  have F12 := fun_mk (st := st_key_of) l12 c12 k12
  have B12 := F12.binds (ps := ps_key_of) fun _ _ _ _ _ _ us hl => match us, hl with | [_], _ => rfl
  have F13 := fun_mk (st := st_House_init) l13 c13 k13
  have B13 := F13.binds (ps := ps_House_init) fun _ _ _ _ _ _ us hl => match us, hl with | [_, _], _ => rfl
  have F14 := fun_mk (st := st_House_want_page) l14 c14 k14
  have B14 := F14.binds (ps := ps_House_want_page) fun _ _ _ _ _ _ us hl => match us, hl with | [_, _], _ => rfl
  have F15 := fun_mk (st := st_House_void) l15 c15 k15
  have B15 := F15.binds (ps := ps_House_void) fun _ _ _ _ _ _ us hl => match us, hl with | [_, _], _ => rfl
  have F16 := fun_mk (st := st_House_take) l16 c16 k16
  have B16 := F16.binds (ps := ps_House_take) fun _ _ _ _ _ _ us hl => match us, hl with | [_, _], _ => rfl
  have F17 := fun_mk (st := st_House_standing) l17 c17 k17
  have B17 := F17.binds (ps := ps_House_standing) fun _ _ _ _ _ _ us hl => match us, hl with | [_, _], _ => rfl
  have F18 := fun_mk (st := st_House_file) l18 c18 k18
  have B18 := F18.binds (ps := ps_House_file) fun _ _ _ _ _ _ us hl => match us, hl with | [_], _ => rfl
  have F19 := fun_mk (st := st_House_unlike) l19 c19 k19
  have B19 := F19.binds (ps := ps_House_unlike) fun _ _ _ _ _ _ us hl => match us, hl with | [_], _ => rfl
  have F20 := fun_mk (st := st__law_hand_of) l20 c20 k20
  have B20 := F20.binds (ps := ps__law_hand_of) fun _ _ _ _ _ _ us hl => match us, hl with | [_, _], _ => rfl
  have F21 := fun_mk (st := st__law_take) l21 c21 k21
  have B21 := F21.binds (ps := ps__law_take) fun _ _ _ _ _ _ us hl => match us, hl with | [_, _], _ => rfl
  have F22 := fun_mk (st := st__law_number) l22 c22 k22
  have B22 := F22.binds (ps := ps__law_number) fun _ _ _ _ _ _ us hl => match us, hl with | [_], _ => rfl
  have F23 := fun_mk (st := st__law_coin) l23 c23 k23
  have B23 := F23.binds (ps := ps__law_coin) fun _ _ _ _ _ _ us hl => match us, hl with | [_], _ => rfl
  have F24 := fun_mk (st := st__law_tickets) l24 c24 k24
  have B24 := F24.binds (ps := ps__law_tickets) fun _ _ _ _ _ _ us hl => match us, hl with | [_, _, _], _ => rfl
  have F25 := fun_mk (st := st__law_page_of) l25 c25 k25
  have B25 := F25.binds (ps := ps__law_page_of) fun _ _ _ _ _ _ us hl => match us, hl with | [_, _], _ => rfl
  have F26 := fun_mk (st := st__law_mate) l26 c26 k26
  have B26 := F26.binds (ps := ps__law_mate) fun _ _ _ _ _ _ us hl => match us, hl with | [_, _, _], _ => rfl
  have F27 := fun_mk (st := st__law_pool) l27 c27 k27
  have B27 := F27.binds (ps := ps__law_pool) fun _ _ _ _ _ _ us hl => match us, hl with | [_, _], _ => rfl
  have F28 := fun_mk (st := st__law_plan_of) l28 c28 k28
  have B28 := F28.binds (ps := ps__law_plan_of) fun _ _ _ _ _ _ us hl => match us, hl with | [_], _ => rfl
  have F29 := fun_mk (st := st__law_taken) l29 c29 k29
  have B29 := F29.binds (ps := ps__law_taken) fun _ _ _ _ _ _ us hl => match us, hl with | [_, _], _ => rfl
  have F30 := fun_mk (st := st__law_voided) l30 c30 k30
  have B30 := F30.binds (ps := ps__law_voided) fun _ _ _ _ _ _ us hl => match us, hl with | [_, _], _ => rfl
  have F31 := fun_mk (st := st__law_counting) l31 c31 k31
  have B31 := F31.binds (ps := ps__law_counting) fun _ _ _ _ _ _ us hl => match us, hl with | [_], _ => rfl
  have F32 := fun_mk (st := st__law_right) l32 c32 k32
  have B32 := F32.binds (ps := ps__law_right) fun _ _ _ _ _ _ us hl => match us, hl with | [_, _], _ => rfl
  have FL := fun_mk (st := st_law) l33 c33 k33
  refine ⟨PySem.W.fnOf "law" "law" (defArgs st_law) (defBody st_law) (defScope st_law) .none kV33 dc33 pm33 an33 cd33 ct33, fun s v => .of_eq rfl, fun base _ _ => ?_⟩
  have D_is_int : Cal l.prog w K mg base 1 "is_int" ps_is_int (sp_is_int) := ⟨f0, _, ok_is_int T_Txt F0, PySem.W.mg_of X G a0, k0, B0⟩
  have D_is_under : Cal l.prog w K mg base 2 "is_under" ps_is_under (sp_is_under) := ⟨f1, _, ok_is_under T_Txt D_is_int F1, PySem.W.mg_of X G a1, k1, B1⟩
  have D_is_told_or_torn : Cal l.prog w K mg base 3 "is_told_or_torn" ps_is_told_or_torn (sp_is_told) := ⟨f2, _, ok_is_told T_Txt D_is_int D_is_under F2, PySem.W.mg_of X G a2, k2, B2⟩
  have D_is_coin : Cal l.prog w K mg base 2 "is_coin" ps_is_coin (sp_is_coin) := ⟨f3, _, ok_is_coin T_Txt D_is_int D_is_under F3, PySem.W.mg_of X G a3, k3, B3⟩
  have D_is_ticket : Cal l.prog w K mg base 3 "is_ticket" ps_is_ticket (sp_is_ticket) := ⟨f4, _, ok_is_ticket T_Txt D_is_int D_is_under F4, PySem.W.mg_of X G a4, k4, B4⟩
  have D_is_bettered : Cal l.prog w K mg base 4 "is_bettered" ps_is_bettered (sp_is_bettered) := ⟨f5, _, ok_is_bettered T_Txt D_is_int D_is_under D_is_ticket F5, PySem.W.mg_of X G a5, k5, B5⟩
  have D_are_tickets : Cal l.prog w K mg base 4 "are_tickets" ps_are_tickets (sp_are_tickets) := ⟨f6, _, ok_are_tickets T_Txt D_is_int D_is_under D_is_ticket F6, PySem.W.mg_of X G a6, k6, B6⟩
  have D_do_rise : Cal l.prog w K mg base 1 "do_rise" ps_do_rise (sp_do_rise) := ⟨f7, _, ok_do_rise T_Txt D_is_int D_is_under D_is_ticket F7, PySem.W.mg_of X G a7, k7, B7⟩
  have D_racks_at : Cal l.prog w K mg base 1 "racks_at" ps_racks_at (sp_racks_at) := ⟨f8, _, ok_racks_at T_Txt D_is_int D_is_under D_is_ticket F8, PySem.W.mg_of X G a8, k8, B8⟩
  have D_is_office : Cal l.prog w K mg base 5 "is_office" ps_is_office ((sp_page "office")) := ⟨f9, _, ok_is_office T_Txt D_is_under D_racks_at D_is_told_or_torn D_is_bettered D_are_tickets D_is_coin D_do_rise F9, PySem.W.mg_of X G a9, k9, B9⟩
  have D_is_gate : Cal l.prog w K mg base 5 "is_gate" ps_is_gate ((sp_page "gate")) := ⟨f10, _, ok_is_gate T_Txt D_is_under D_racks_at D_is_told_or_torn D_is_bettered D_are_tickets D_is_coin D_do_rise F10, PySem.W.mg_of X G a10, k10, B10⟩
  have D_is_page : Cal l.prog w K mg base 6 "is_page" ps_is_page (sp_is_page) := ⟨f11, _, ok_is_page T_Txt D_is_office D_is_gate F11, PySem.W.mg_of X G a11, k11, B11⟩
  have D_key_of : Cal l.prog w K mg base 1 "key_of" ps_key_of (sp_key_of) := ⟨f12, _, ok_key_of T_Txt D_is_office D_is_gate F12, PySem.W.mg_of X G a12, k12, B12⟩
  have D_House_init : CalI l.prog w K mg base 1 C ps_House_init ((sp_init C)) := ⟨f13, _, ok_init T_TxH F13, ⟨mk, a13, i13, kc⟩, B13⟩
  have D_House_want_page : CalM l.prog w K mg base 7 C "want_page" ps_House_want_page ((sp_want C)) := ⟨f14, _, ok_want T_TxH D_is_page F14, ⟨a14, i14, k14⟩, B14⟩
  have D_House_void : CalM l.prog w K mg base 8 C "void" ps_House_void ((sp_void C)) := ⟨f15, _, ok_void T_TxH D_House_want_page F15, ⟨a15, i15, k15⟩, B15⟩
  have D_House_take : CalM l.prog w K mg base 8 C "take" ps_House_take ((sp_take C)) := ⟨f16, _, ok_take T_TxH D_House_want_page D_key_of F16, ⟨a16, i16, k16⟩, B16⟩
  have D_House_standing : CalM l.prog w K mg base 1 C "standing" ps_House_standing ((sp_standing C)) := ⟨f17, _, ok_standing T_TxH F17, ⟨a17, i17, k17⟩, B17⟩
  have D_House_file : CalM l.prog w K mg base 2 C "file" ps_House_file ((sp_file C)) := ⟨f18, _, ok_file T_TxH D_House_standing F18, ⟨a18, i18, k18⟩, B18⟩
  have D_House_unlike : CalM l.prog w K mg base 2 C "unlike" ps_House_unlike ((sp_unlike C)) := ⟨f19, _, ok_unlike T_TxH D_House_standing F19, ⟨a19, i19, k19⟩, B19⟩
  have D__law_hand_of : Cal l.prog w K mg base 1 "_law_hand_of" ps__law_hand_of (sp_hand_of) := ⟨f20, _, ok_hand_of T_TxL F20, PySem.W.mg_of X G a20, k20, B20⟩
  have D__law_take : Cal l.prog w K mg base 1 "_law_take" ps__law_take (sp_ltake) := ⟨f21, _, ok_take' T_TxL F21, PySem.W.mg_of X G a21, k21, B21⟩
  have D__law_number : Cal l.prog w K mg base 2 "_law_number" ps__law_number (sp_number) := ⟨f22, _, ok_number T_TxL D__law_take F22, PySem.W.mg_of X G a22, k22, B22⟩
  have D__law_coin : Cal l.prog w K mg base 2 "_law_coin" ps__law_coin (sp_coin) := ⟨f23, _, ok_coin T_TxL D__law_take F23, PySem.W.mg_of X G a23, k23, B23⟩
  have D__law_tickets : Cal l.prog w K mg base 3 "_law_tickets" ps__law_tickets (sp_tickets) := ⟨f24, _, ok_tickets T_TxL D__law_take D__law_number F24, PySem.W.mg_of X G a24, k24, B24⟩
  have D__law_page_of : Cal l.prog w K mg base 4 "_law_page_of" ps__law_page_of (sp_page_of) := ⟨f25, _, ok_page_of T_TxL D__law_take D__law_number D__law_tickets D__law_coin F25, PySem.W.mg_of X G a25, k25, B25⟩
  have D__law_mate : Cal l.prog w K mg base 4 "_law_mate" ps__law_mate (sp_mate) := ⟨f26, _, ok_mate T_TxL D__law_take D__law_number D__law_tickets D__law_coin F26, PySem.W.mg_of X G a26, k26, B26⟩
  have D__law_pool : Cal l.prog w K mg base 5 "_law_pool" ps__law_pool (sp_pool) := ⟨f27, _, ok_pool T_TxL D__law_take D__law_number D__law_tickets D__law_coin D__law_page_of D__law_mate F27, PySem.W.mg_of X G a27, k27, B27⟩
  have D__law_plan_of : Cal l.prog w K mg base 2 "_law_plan_of" ps__law_plan_of (sp_plan_of) := ⟨f28, _, ok_plan_of T_TxL D__law_take F28, PySem.W.mg_of X G a28, k28, B28⟩
  have D__law_taken : Cal l.prog w K mg base 1 "_law_taken" ps__law_taken (sp_taken) := ⟨f29, _, ok_taken T_TxL F29, PySem.W.mg_of X G a29, k29, B29⟩
  have D__law_voided : Cal l.prog w K mg base 1 "_law_voided" ps__law_voided (sp_voided) := ⟨f30, _, ok_voided T_TxL F30, PySem.W.mg_of X G a30, k30, B30⟩
  have D__law_counting : Cal l.prog w K mg base 1 "_law_counting" ps__law_counting (sp_counting) := ⟨f31, _, ok_counting T_TxL F31, PySem.W.mg_of X G a31, k31, B31⟩
  have D__law_right : CalG l.prog w K mg base 3 "_law_right" ps__law_right ((sp_right C)) := ⟨f32, _, ok_right T_TxL D_House_file D_House_unlike D__law_counting F32, PySem.W.mg_of X G a32, k32, B32⟩
  exact ok_law T_TxL D__law_hand_of D__law_take D__law_plan_of D__law_pool D_House_init D_House_file D_House_unlike D_House_take D_House_void D__law_taken D__law_voided D__law_right FL
theorem walk {l : PySem.W.OpenLaw} {q : Program} {loose : List Str} {XP : (Str → Option Value) → Heap → Prop} {YP : World → Heap → Prop} {d : DefRec} {K : Params → PySem.W.Frag} (hn : l.most = some 63) (hdf : d.params.defaults = [])
    (hY : ∀ (w : World) (h : Heap), YP w h → (K w.params).In h)
    (F : ∀ (w : World) (mg : Str → Option Value) (fa : Addr) (h : Heap), (K w.params).In h → h.Ns mainGlobals mg → mg d.name = some (.ref fa) →
      ∃ fd : FuncData, (∀ (s : Shared) (u : Value), BindsTo s fd ⟨[u], []⟩ [("_law_script", u)]) ∧ ∀ base : Heap, (K w.params).In base → base.Ns mainGlobals mg → GnOk l.prog w (K w.params) mg base 9 fa fd ["_law_script"] (upSp ⟨l.prog, w, K w.params⟩ sp_law)) :
    PySem.W.WalkO q loose XP YP l.row.toRowW d [] (fun f vs => PySem.call f vs) :=
  DL.walk_ofG (n := 63) (k := 9) (x := "_law_script") (sp := fun w => upSp ⟨l.prog, w, K w.params⟩ sp_law) hn (by decide) hdf ⟨rfl, by decide, by decide⟩ hY F fun w H a ns hl _ _ hS => script_sp (K := ⟨l.prog, w, K w.params⟩) hS fun Q hQ => ⟨ns, rfl, hl, fun M' => hQ _ _ rfl⟩
end K7
open PySem PySem.W PyProof.Rows
set_option maxRecDepth 100000 in
set_option maxHeartbeats 0 in
theorem PySem.Challenge.cw_ticketracks_k71_pages_taken_and_void_holds : PySem.Challenge.rw_ticketracks_k71_pages_taken_and_void.Holds := by
  w_on; o_law; k_head; (case hw => w_witness2)
  k_fill
  refine K7.walk (l := PySem.Challenge.rw_ticketracks_k71_pages_taken_and_void) rfl rfl (fun w h Y => PySem.W.kIn_of Y) ?F
  case F =>
    intro w mg fa h KX G hmg
    refine' K7.all_mk KX G hmg ?aC ?a0 ?l0 ?c0 ?k0 ?a1 ?l1 ?c1 ?k1 ?a2 ?l2 ?c2 ?k2 ?a3 ?l3 ?c3 ?k3 ?a4 ?l4 ?c4 ?k4 ?a5 ?l5 ?c5 ?k5 ?a6 ?l6 ?c6 ?k6 ?a7 ?l7 ?c7 ?k7 ?a8 ?l8 ?c8 ?k8 ?a9 ?l9 ?c9 ?k9 ?a10 ?l10 ?c10 ?k10 ?a11 ?l11 ?c11 ?k11 ?a12 ?l12 ?c12 ?k12 ?a13 ?i13 ?l13 ?c13 ?k13 ?a14 ?i14 ?l14 ?c14 ?k14 ?a15 ?i15 ?l15 ?c15 ?k15 ?a16 ?i16 ?l16 ?c16 ?k16 ?a17 ?i17 ?l17 ?c17 ?k17 ?a18 ?i18 ?l18 ?c18 ?k18 ?a19 ?i19 ?l19 ?c19 ?k19 ?a20 ?l20 ?c20 ?k20 ?a21 ?l21 ?c21 ?k21 ?a22 ?l22 ?c22 ?k22 ?a23 ?l23 ?c23 ?k23 ?a24 ?l24 ?c24 ?k24 ?a25 ?l25 ?c25 ?k25 ?a26 ?l26 ?c26 ?k26 ?a27 ?l27 ?c27 ?k27 ?a28 ?l28 ?c28 ?k28 ?a29 ?l29 ?c29 ?k29 ?a30 ?l30 ?c30 ?k30 ?a31 ?l31 ?c31 ?k31 ?a32 ?l32 ?c32 ?k32 ?a33 ?l33 ?c33 ?k33 ?pg ?hd ?po ?sa ?mk ?kc ?na_plan_held ?na_known ?na_banned ?na_by_key ?z_isinstance ?z_int ?z_bool ?z_tuple ?z_str ?z_len ?z_all ?z_zip ?z_enumerate ?z_sorted ?z_range ?z_dict ?z_min ?z_max ?z_set ?z_list ?z_repr ?v_MOST_NUMBER ?v_MOST_COIN ?v_OFFICE ?v_GATE
    (case aC => k_is); (case a0 => k_is); (case l0 => k_is); (case c0 => k_is); (case k0 => k_is); (case a1 => k_is)
    (case l1 => k_is); (case c1 => k_is); (case k1 => k_is); (case a2 => k_is); (case l2 => k_is); (case c2 => k_is)
    (case k2 => k_is); (case a3 => k_is); (case l3 => k_is); (case c3 => k_is); (case k3 => k_is); (case a4 => k_is)
    (case l4 => k_is); (case c4 => k_is); (case k4 => k_is); (case a5 => k_is); (case l5 => k_is); (case c5 => k_is)
    (case k5 => k_is); (case a6 => k_is); (case l6 => k_is); (case c6 => k_is); (case k6 => k_is); (case a7 => k_is)
    (case l7 => k_is); (case c7 => k_is); (case k7 => k_is); (case a8 => k_is); (case l8 => k_is); (case c8 => k_is)
    (case k8 => k_is); (case a9 => k_is); (case l9 => k_is); (case c9 => k_is); (case k9 => k_is); (case a10 => k_is)
    (case l10 => k_is); (case c10 => k_is); (case k10 => k_is); (case a11 => k_is); (case l11 => k_is); (case c11 => k_is)
    (case k11 => k_is); (case a12 => k_is); (case l12 => k_is); (case c12 => k_is); (case k12 => k_is); (case a13 => k_is)
    (case i13 => k_is); (case l13 => k_is); (case c13 => k_is); (case k13 => k_is); (case a14 => k_is); (case i14 => k_is)
    (case l14 => k_is); (case c14 => k_is); (case k14 => k_is); (case a15 => k_is); (case i15 => k_is); (case l15 => k_is)
    (case c15 => k_is); (case k15 => k_is); (case a16 => k_is); (case i16 => k_is); (case l16 => k_is); (case c16 => k_is)
    (case k16 => k_is); (case a17 => k_is); (case i17 => k_is); (case l17 => k_is); (case c17 => k_is); (case k17 => k_is)
    (case a18 => k_is); (case i18 => k_is); (case l18 => k_is); (case c18 => k_is); (case k18 => k_is); (case a19 => k_is)
    (case i19 => k_is); (case l19 => k_is); (case c19 => k_is); (case k19 => k_is); (case a20 => k_is); (case l20 => k_is)
    (case c20 => k_is); (case k20 => k_is); (case a21 => k_is); (case l21 => k_is); (case c21 => k_is); (case k21 => k_is)
    (case a22 => k_is); (case l22 => k_is); (case c22 => k_is); (case k22 => k_is); (case a23 => k_is); (case l23 => k_is)
    (case c23 => k_is); (case k23 => k_is); (case a24 => k_is); (case l24 => k_is); (case c24 => k_is); (case k24 => k_is)
    (case a25 => k_is); (case l25 => k_is); (case c25 => k_is); (case k25 => k_is); (case a26 => k_is); (case l26 => k_is)
    (case c26 => k_is); (case k26 => k_is); (case a27 => k_is); (case l27 => k_is); (case c27 => k_is); (case k27 => k_is)
    (case a28 => k_is); (case l28 => k_is); (case c28 => k_is); (case k28 => k_is); (case a29 => k_is); (case l29 => k_is)
    (case c29 => k_is); (case k29 => k_is); (case a30 => k_is); (case l30 => k_is); (case c30 => k_is); (case k30 => k_is)
    (case a31 => k_is); (case l31 => k_is); (case c31 => k_is); (case k31 => k_is); (case a32 => k_is); (case l32 => k_is)
    (case c32 => k_is); (case k32 => k_is); (case a33 => k_is); (case l33 => k_is); (case c33 => k_is); (case k33 => k_is)
    (case pg => k_is); (case hd => k_is); (case po => k_is); (case sa => k_is); (case mk => k_is); (case kc => k_is)
    (case na_plan_held => k_is); (case na_known => k_is); (case na_banned => k_is); (case na_by_key => k_is); (case z_isinstance => k_is); (case z_int => k_is)
    (case z_bool => k_is); (case z_tuple => k_is); (case z_str => k_is); (case z_len => k_is); (case z_all => k_is); (case z_zip => k_is)
    (case z_enumerate => k_is); (case z_sorted => k_is); (case z_range => k_is); (case z_dict => k_is); (case z_min => k_is); (case z_max => k_is)
    (case z_set => k_is); (case z_list => k_is); (case z_repr => k_is); (case v_MOST_NUMBER => k_is); (case v_MOST_COIN => k_is); (case v_OFFICE => k_is)
    (case v_GATE => k_is)
#print axioms PySem.Challenge.cw_ticketracks_k71_pages_taken_and_void_holds

