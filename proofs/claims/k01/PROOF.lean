import PyProof.Rows.All
import Wide.All
import OpenK.AllK
import Wide.FinOn
import HandS.ForMost
import HandS.Exc
import HandS.WordsExc
import HandS.Defaults
import KE.DataEq
import KE.DataIsa
import HandS.TupAny
import HandS.TupMul
import HandS.Deep
import HandS.Wide
import PyProof.StrBlock2
import PyProof.ReprRoads
import PyProof.Conv_int_bool
import HandS.Zip
import KE.GoesMore
import HandS.Small
import HandS.Ends
import HandS.HeadEnd
import HandS.Head0
import HandS.Head1
import HandS.Head2
import HandS.HeadHook1
import HandS.HeadHook2
import HandS.HeadHook4
import PyProof.StrLawsRepr
import PyProof.Rows.StrJoinRep
import PySem.Challenge.RW_nothingnew_k01_what_is_a_term
set_option Elab.async false
set_option linter.all false
set_option maxRecDepth 100000
set_option maxHeartbeats 4000000
namespace PD
open PySem PySem.Spec PyProof.Rows L2

/-! ## abstract values: pure data as trees, what is changed by its place -/
inductive W where
  | non
  | bl (b : Bool)
  | int (i : Int)
  | str (x : Str)
  | tup (xs : List W)
  | lst (xs : List W)
  | dct (ks : List Key) (ws : List W)
  | ref (a : Addr)
  | exc (C : Addr) (ks : List Str) (ws : List W)

/-- what stands at a place that is changed -/
inductive SO where
  | lst (xs : List W)
  | dct (ks : List Key) (ws : List W)
abbrev Sto := Addr → Option SO
def Sto.set (S : Sto) (a : Addr) (o : SO) : Sto := fun b => if b = a then some o else S b
def Sto.del (S : Sto) (a : Addr) : Sto := fun b => if b = a then none else S b
theorem Sto.set_same {S : Sto} {a : Addr} {o : SO} : S.set a o a = some o := if_pos rfl
theorem Sto.set_ne {S : Sto} {a b : Addr} {o : SO} (h : b ≠ a) : S.set a o b = S b := if_neg h
theorem Sto.del_same {S : Sto} {a : Addr} : S.del a a = none := if_pos rfl
theorem Sto.del_ne {S : Sto} {a b : Addr} (h : b ≠ a) : S.del a b = S b := if_neg h
theorem Sto.set_set {S : Sto} {a : Addr} {o u : SO} : (S.set a o).set a u = S.set a u := by
  funext b; unfold Sto.set; split <;> rfl
theorem Sto.del_set {S : Sto} {a : Addr} {o : SO} (h : S a = none) : (S.set a o).del a = S := by
  funext b; unfold Sto.set Sto.del; split
  · rename_i e; rw [e, h]
  · rename_i e; exact if_neg e
theorem Sto.set_comm {S : Sto} {a b : Addr} {o u : SO} (h : a ≠ b) : (S.set a o).set b u = (S.set b u).set a o := by
  funext c; unfold Sto.set
  by_cases h1 : c = a
  · subst h1; rw [if_neg h, if_pos rfl, if_pos rfl]
  · rw [if_neg h1, if_neg h1]
theorem Sto.set_del {S : Sto} {a b : Addr} {o : SO} (h : a ≠ b) : (S.set a o).del b = (S.del b).set a o := by
  funext c; unfold Sto.set Sto.del
  by_cases h1 : c = a
  · subst h1
    show (if c = b then none else (if c = c then some o else S c)) = if c = c then some o else (if c = b then none else S c)
    rw [if_neg h, if_pos rfl, if_pos rfl]
  · show (if c = b then none else (if c = a then some o else S c)) = if c = a then some o else (if c = b then none else S c)
    rw [if_neg h1, if_neg h1]
theorem Sto.set_self {S : Sto} {a : Addr} {o : SO} (h : S a = some o) : S.set a o = S := by
  funext b; unfold Sto.set; split
  · rename_i e; rw [e, h]
  · rfl

section
variable (K : PySem.W.Frag) (H : Hp) (S : Sto)
/-- a tuple, a list that is read and never changed -/
def RdT (a : Addr) (vs : List V) : Prop := (Rd H a (.tup vs) ∧ S a = none) ∨
    ∃ (o : Obj) (its : Array Value) (n : Nat), K.lookup a = some o ∧ o.cls = .type "tuple" ∧ o.data = .seq its n ∧ its.size ≤ sizeLine ∧ Vals vs its.toList
def RdL (a : Addr) (vs : List V) : Prop := (Rd H a (.lst vs) ∧ S a = none) ∨
    ∃ (o : Obj) (its : Array Value) (n : Nat), K.lookup a = some o ∧ o.cls = .type "list" ∧ o.dict = none ∧ o.data = .seq its n ∧ its.size ≤ sizeLine ∧ Vals vs its.toList
mutual
def RW : W → V → Prop
  | .non, v => v = .non
  | .bl b, v => v = .bl b
  | .int i, v => v = .int i
  | .str x, v => v = .str x
  | .tup xs, v => ∃ a vs, v = .ref a ∧ RdT K H S a vs ∧ RWs xs vs
  | .lst xs, v => ∃ a vs, v = .ref a ∧ RdL K H S a vs ∧ RWs xs vs
  | .dct ks ws, v => ∃ a kvs, v = .ref a ∧ S a = none ∧ Rd H a (.dK kvs) ∧ kvs.map (·.1) = ks ∧ RWs ws (kvs.map (·.2))
  | .ref a, v => v = .ref a
  | .exc _ _ _, _ => False
def RWs : List W → List V → Prop
  | [], vs => vs = []
  | w :: ws, vs => ∃ v r, vs = v :: r ∧ RW w v ∧ RWs ws r
end
def RO : SO → HO → Prop
  | .lst xs, o => ∃ vs, o = .lst vs ∧ RWs K H S xs vs
  | .dct ks ws, o => ∃ kvs, o = .dK kvs ∧ kvs.map (·.1) = ks ∧ RWs K H S ws (kvs.map (·.2))
/-- the changed places are tracked as they are said -/
def LinkS : Prop := ∀ a o, S a = some o → ∃ u, H a = some u ∧ RO K H S o u
end
/-- as it was, or locked from now on -/
def Stays (H' : Hp) (b : Addr) (o : HO) : Prop := H' b = some o ∨ (Mut (some o) ∧ ∃ ob, H' b = some (.frz ob o))
/-- what is not among the changed places stays -/
def Ext (H : Hp) (S : Sto) (H' : Hp) (S' : Sto) : Prop := ∀ b o, H b = some o → S b = none → Stays H' b o ∧ S' b = none
theorem Ext.refl {H : Hp} {S : Sto} : Ext H S H S := fun _ _ h1 h2 => ⟨.inl h1, h2⟩
theorem Ext.trans {H H1 H2 : Hp} {S S1 S2 : Sto} (a : Ext H S H1 S1) (b : Ext H1 S1 H2 S2) : Ext H S H2 S2 := fun c o h1 h2 => by
  obtain ⟨h3, h4⟩ := a c o h1 h2
  rcases h3 with h3 | ⟨mu, ob, h3⟩
  · exact b c o h3 h4
  · obtain ⟨h5, h6⟩ := b c _ h3 h4
    rcases h5 with h5 | ⟨mu', _⟩
    · exact ⟨.inr ⟨mu, ob, h5⟩, h6⟩
    · exact mu'.elim

section
variable {K : PySem.W.Frag} {H H' : Hp} {S S' : Sto}
/-- an address that reads as a list or tuple and is not changed: not a changed place afterwards either -/
theorem rd_ext {a : Addr} {u : HO} (e : Ext H S H' S') (h : Rd H a u) (n : S a = none) : Rd H' a u ∧ S' a = none := by
  rcases h with h | ⟨o, h⟩
  · obtain ⟨h1, h2⟩ := e a _ h n
    rcases h1 with h1 | ⟨_, ob, h1⟩
    · exact ⟨.inl h1, h2⟩
    · exact ⟨.inr ⟨ob, h1⟩, h2⟩
  · obtain ⟨h1, h2⟩ := e a _ h n
    rcases h1 with h1 | ⟨mu, _⟩
    · exact ⟨.inr ⟨o, h1⟩, h2⟩
    · exact mu.elim
theorem RdT.sq {a : Addr} {vs : List V} (h : RdT K H S a vs) : SqT K H a vs := by
  rcases h with h | h
  · exact .inl h.1
  · exact .inr h
theorem RdL.sq {a : Addr} {vs : List V} (h : RdL K H S a vs) : SqL K H a vs := by
  rcases h with h | h
  · exact .inl h.1
  · exact .inr h
theorem RdT.ext {a : Addr} {vs : List V} (e : Ext H S H' S') (h : RdT K H S a vs) : RdT K H' S' a vs := by
  rcases h with h | h
  · exact .inl (rd_ext e h.1 h.2)
  · exact .inr h
theorem RdL.ext {a : Addr} {vs : List V} (e : Ext H S H' S') (h : RdL K H S a vs) : RdL K H' S' a vs := by
  rcases h with h | h
  · exact .inl (rd_ext e h.1 h.2)
  · exact .inr h
mutual
theorem RW.ext (e : Ext H S H' S') : ∀ (w : W) (v : V), RW K H S w v → RW K H' S' w v
  | .non, v, h => by unfold RW at h ⊢; exact h
  | .bl b, v, h => by unfold RW at h ⊢; exact h
  | .int i, v, h => by unfold RW at h ⊢; exact h
  | .str x, v, h => by unfold RW at h ⊢; exact h
  | .ref a, v, h => by unfold RW at h ⊢; exact h
  | .exc _ _ _, v, h => by unfold RW at h ⊢; exact h
  | .tup xs, v, h => by
    unfold RW at h ⊢
    obtain ⟨a, vs, h1, h2, h4⟩ := h
    exact ⟨a, vs, h1, h2.ext e, RWs.ext e xs vs h4⟩
  | .lst xs, v, h => by
    unfold RW at h ⊢
    obtain ⟨a, vs, h1, h2, h4⟩ := h
    exact ⟨a, vs, h1, h2.ext e, RWs.ext e xs vs h4⟩
  | .dct ks ws, v, h => by
    unfold RW at h ⊢
    obtain ⟨a, kvs, h1, h2, h3, h4, h5⟩ := h
    obtain ⟨h6, h7⟩ := rd_ext e h3 h2
    exact ⟨a, kvs, h1, h7, h6, h4, RWs.ext e ws _ h5⟩
theorem RWs.ext (e : Ext H S H' S') : ∀ (ws : List W) (vs : List V), RWs K H S ws vs → RWs K H' S' ws vs
  | [], vs, h => by unfold RWs at h ⊢; exact h
  | w :: ws, vs, h => by
    unfold RWs at h ⊢
    obtain ⟨v, r, h1, h2, h3⟩ := h
    exact ⟨v, r, h1, RW.ext e w v h2, RWs.ext e ws r h3⟩
end
theorem RWs.len : ∀ {ws : List W} {vs : List V}, RWs K H S ws vs → ws.length = vs.length
  | [], vs, h => by unfold RWs at h; rw [h]; rfl
  | w :: ws, vs, h => by
    unfold RWs at h
    obtain ⟨v, r, h1, h2, h3⟩ := h
    rw [h1, List.length_cons, List.length_cons, RWs.len h3]
theorem RWs.nil : RWs K H S [] [] := by unfold RWs; rfl
theorem RWs.cons {w : W} {v : V} {ws : List W} {vs : List V} (h : RW K H S w v) (t : RWs K H S ws vs) : RWs K H S (w :: ws) (v :: vs) := by
  unfold RWs; exact ⟨v, vs, rfl, h, t⟩
theorem RWs.append : ∀ {ws ws' : List W} {vs vs' : List V}, RWs K H S ws vs → RWs K H S ws' vs' → RWs K H S (ws ++ ws') (vs ++ vs')
  | [], ws', vs, vs', h, t => by unfold RWs at h; rw [h]; exact t
  | w :: ws, ws', vs, vs', h, t => by
    unfold RWs at h
    obtain ⟨v, r, h1, h2, h3⟩ := h
    rw [h1]
    exact .cons h2 (RWs.append h3 t)
theorem RWs.get : ∀ {ws : List W} {vs : List V} {i : Nat} {w : W}, RWs K H S ws vs → ws[i]? = some w → ∃ v, vs[i]? = some v ∧ RW K H S w v
  | [], vs, i, w, h, e => by simp at e
  | w :: ws, vs, i, w', h, e => by
    unfold RWs at h
    obtain ⟨v, r, h1, h2, h3⟩ := h
    subst h1
    cases i with
    | zero => simp at e; subst e; exact ⟨v, rfl, h2⟩
    | succ i => simpa using RWs.get (i := i) h3 (by simpa using e)
theorem RWs.get' : ∀ {ws : List W} {vs : List V} {i : Nat} {v : V}, RWs K H S ws vs → vs[i]? = some v → ∃ w, ws[i]? = some w ∧ RW K H S w v
  | [], vs, i, w, h, e => by unfold RWs at h; subst h; simp at e
  | w :: ws, vs, i, w', h, e => by
    unfold RWs at h
    obtain ⟨v, r, h1, h2, h3⟩ := h
    subst h1
    cases i with
    | zero => simp at e; subst e; exact ⟨w, rfl, h2⟩
    | succ i => simpa using RWs.get' (i := i) h3 (by simpa using e)
theorem RWs.take : ∀ {ws : List W} {vs : List V} (n : Nat), RWs K H S ws vs → RWs K H S (ws.take n) (vs.take n)
  | _, _, 0, _ => by simpa using RWs.nil
  | [], vs, n + 1, h => by unfold RWs at h; subst h; exact .nil
  | w :: ws, vs, n + 1, h => by
    unfold RWs at h
    obtain ⟨v, r, h1, h2, h3⟩ := h
    subst h1
    exact .cons h2 (RWs.take n h3)
theorem RWs.drop : ∀ {ws : List W} {vs : List V} (n : Nat), RWs K H S ws vs → RWs K H S (ws.drop n) (vs.drop n)
  | _, _, 0, h => h
  | [], vs, n + 1, h => by unfold RWs at h; subst h; exact .nil
  | w :: ws, vs, n + 1, h => by
    unfold RWs at h
    obtain ⟨v, r, h1, h2, h3⟩ := h
    subst h1
    exact RWs.drop n h3
theorem RWs.set : ∀ {ws : List W} {vs : List V} {w : W} {v : V} (i : Nat), RWs K H S ws vs → RW K H S w v → RWs K H S (ws.set i w) (vs.set i v)
  | [], vs, w, v, i, h, _ => by unfold RWs at h; subst h; exact .nil
  | w :: ws, vs, w', v', i, h, r' => by
    unfold RWs at h
    obtain ⟨v, r, h1, h2, h3⟩ := h
    subst h1
    cases i with
    | zero => exact .cons r' h3
    | succ i => exact .cons h2 (RWs.set i h3 r')
theorem RO.ext (e : Ext H S H' S') {o : SO} {u : HO} (h : RO K H S o u) : RO K H' S' o u := by
  cases o with
  | lst xs => obtain ⟨vs, h1, h2⟩ := h; exact ⟨vs, h1, RWs.ext e _ _ h2⟩
  | dct ks ws => obtain ⟨kvs, h1, h2, h3⟩ := h; exact ⟨kvs, h1, h2, RWs.ext e _ _ h3⟩
end

/-! ## states linked -/
def RSl (K : PySem.W.Frag) (H : Hp) (S : Sto) (σ : List (Option W)) (τ : L2.St) : Prop :=
  σ.length = τ.length ∧ ∀ (i : Nat) (w : W), σ[i]? = some (some w) → ∃ v, τ[i]? = some (some v) ∧ RW K H S w v
section
variable {K : PySem.W.Frag} {H H' : Hp} {S S' : Sto} {σ : List (Option W)} {τ : L2.St}
theorem LinkS.fresh (l : LinkS K H S) {p : Addr} (h : H p = none) : S p = none := by
  cases q : S p with
  | none => rfl
  | some o =>
    obtain ⟨u, h1, _⟩ := l p o q
    rw [h] at h1; cases h1
theorem RSl.ext (h : RSl K H S σ τ) (e : Ext H S H' S') : RSl K H' S' σ τ :=
  ⟨h.1, fun i w hi => let ⟨v, h1, h2⟩ := h.2 i w hi; ⟨v, h1, RW.ext e w v h2⟩⟩
theorem RSl.set (h : RSl K H S σ τ) {w : W} {v : V} (i : Nat) (r : RW K H S w v) : RSl K H S (σ.set i (some w)) (τ.set i (some v)) := by
  refine ⟨by rw [List.length_set, List.length_set]; exact h.1, fun j u hj => ?_⟩
  by_cases e : i = j
  · subst e
    have hl : i < σ.length := by
      have := (List.getElem?_eq_some_iff.mp hj).1
      simpa using this
    have hl' : i < τ.length := by rw [← h.1]; exact hl
    rw [List.getElem?_set_self hl] at hj
    cases hj
    exact ⟨v, List.getElem?_set_self hl', r⟩
  · rw [List.getElem?_set_ne e] at hj
    obtain ⟨v', h1, h2⟩ := h.2 j u hj
    exact ⟨v', by rw [List.getElem?_set_ne e]; exact h1, h2⟩
theorem RSl.clr (h : RSl K H S σ τ) (i : Nat) (x : Option V) : RSl K H S (σ.set i none) (τ.set i x) := by
  refine ⟨by rw [List.length_set, List.length_set]; exact h.1, fun j u hj => ?_⟩
  by_cases e : i = j
  · subst e
    by_cases hl : i < σ.length
    · rw [List.getElem?_set_self hl] at hj; cases hj
    · rw [List.getElem?_eq_none (by simpa using hl)] at hj; cases hj
  · rw [List.getElem?_set_ne e] at hj
    obtain ⟨v', h1, h2⟩ := h.2 j u hj
    exact ⟨v', by rw [List.getElem?_set_ne e]; exact h1, h2⟩
/-- a new object, not among the changed places -/
theorem ext_new {p : Addr} {o : HO} (h : H p = none) : Ext H S (upd H p o) S := fun b u h1 h2 => ⟨.inl (by rw [upd_ne (ne_of_none h1 h)]; exact h1), h2⟩
theorem LinkS.new (l : LinkS K H S) {p : Addr} {o : HO} (h : H p = none) : LinkS K (upd H p o) S := fun a so q => by
  obtain ⟨u, h1, h2⟩ := l a so q
  exact ⟨u, by rw [upd_ne (ne_of_none h1 h)]; exact h1, h2.ext (ext_new h)⟩
/-- a new object, a changed place from now on -/
theorem ext_newS {p : Addr} {o : HO} {so : SO} (h : H p = none) : Ext H S (upd H p o) (S.set p so) := fun b u h1 h2 =>
  ⟨.inl (by rw [upd_ne (ne_of_none h1 h)]; exact h1), by rw [Sto.set_ne (ne_of_none h1 h)]; exact h2⟩
/-- a changed place is changed -/
theorem ext_chg {p : Addr} {o : HO} {so so' : SO} (h : S p = some so) : Ext H S (upd H p o) (S.set p so') := fun b u h1 h2 => by
  have hb : b ≠ p := fun e => by subst e; rw [h] at h2; cases h2
  exact ⟨.inl (by rw [upd_ne hb]; exact h1), by rw [Sto.set_ne hb]; exact h2⟩
theorem LinkS.put (l : LinkS K H S) {p : Addr} {o : HO} {so : SO} (e : Ext H S (upd H p o) (S.set p so)) (r : RO K H S so o) : LinkS K (upd H p o) (S.set p so) := fun a s2 q => by
  by_cases ha : a = p
  · subst ha
    rw [Sto.set_same] at q; cases q
    exact ⟨o, upd_same, r.ext e⟩
  · rw [Sto.set_ne ha] at q
    obtain ⟨u, h1, h2⟩ := l a s2 q
    exact ⟨u, by rw [upd_ne ha]; exact h1, h2.ext e⟩
/-- a changed place is changed no more -/
theorem ext_del {a : Addr} : Ext H S H (S.del a) := fun b u h1 h2 => ⟨.inl h1, by unfold Sto.del; split <;> first | rfl | exact h2⟩
theorem LinkS.del (l : LinkS K H S) (p : Addr) : LinkS K H (S.del p) := fun a s2 q => by
  have ha : a ≠ p := fun z => by subst z; rw [Sto.del_same] at q; cases q
  rw [Sto.del_ne ha] at q
  obtain ⟨u, h1, h2⟩ := l a s2 q
  exact ⟨u, h1, h2.ext ext_del⟩
/-- frozen: a list that is changed no more is data -/
theorem RW.frozen (l : LinkS K H S) {p : Addr} {xs : List W} (h : S p = some (.lst xs)) : RW K H (S.del p) (.lst xs) (.ref p) := by
  obtain ⟨u, h1, vs, rfl, h2⟩ := l p _ h
  unfold RW
  exact ⟨p, vs, rfl, .inl ⟨.inl h1, Sto.del_same⟩, RWs.ext ext_del _ _ h2⟩
theorem RW.frozenD (l : LinkS K H S) {p : Addr} {ks : List Key} {ws : List W} (h : S p = some (.dct ks ws)) : RW K H (S.del p) (.dct ks ws) (.ref p) := by
  obtain ⟨u, h1, kvs, rfl, h2, h3⟩ := l p _ h
  unfold RW
  exact ⟨p, kvs, rfl, Sto.del_same, .inl h1, h2, RWs.ext ext_del _ _ h3⟩
end
end PD

set_option Elab.async false
set_option linter.all false
set_option maxRecDepth 100000
set_option maxHeartbeats 4000000
namespace PD
open PySem PySem.Spec PyProof.Rows L2

/-! ## pure data read as the library's data -/
mutual
def W.d : W → Option PyData
  | .non => some .none
  | .bl b => some (.bool b)
  | .int i => some (.int i)
  | .str x => some (.str x)
  | .tup xs => (W.ds xs).map .tuple
  | .lst xs => (W.ds xs).map .list
  | .dct _ _ => none
  | .ref _ => none
  | .exc _ _ _ => none
def W.ds : List W → Option (List PyData)
  | [] => some []
  | x :: xs => (W.d x).bind fun a => (W.ds xs).map fun r => a :: r
end
def kD : Key → PyData
  | .inl i => .int i
  | .inr x => .str x
mutual
/-- .. with dicts -/
def W.dd : W → Option PyData
  | .non => some .none
  | .bl b => some (.bool b)
  | .int i => some (.int i)
  | .str x => some (.str x)
  | .tup xs => (W.dds xs).map .tuple
  | .lst xs => (W.dds xs).map .list
  | .dct ks ws => (W.dds ws).map fun ds => .dict ((ks.map kD).zip ds)
  | .ref _ => none
  | .exc _ _ _ => none
def W.dds : List W → Option (List PyData)
  | [] => some []
  | x :: xs => (W.dd x).bind fun a => (W.dds xs).map fun r => a :: r
end
/-- a changed place read -/
def rd (S : Sto) : W → W
  | .ref a => match S a with
    | some (.lst xs) => .lst xs
    | some (.dct ks ws) => .dct ks ws
    | none => .ref a
  | w => w
/-- data within the library's bounds for comparing -/
def okD (d : PyData) : Bool := d.plain && decide (d.depth ≤ 60)
def eqD (a b : W) : Option Bool := a.d.bind fun x => b.d.bind fun y => if okD x && okD y then some (PyData.eqv x y) else none
/-- a tuple of anything beside the empty one -/
def eqT : W → W → Option Bool
  | .tup xs, .tup [] => some xs.isEmpty
  | _, _ => none
def eqW (a b : W) : Option Bool := match eqD a b with
  | some r => some r
  | none => eqT a b

def keyOf : W → Option Key
  | .int i => some (.inl i)
  | .str x => some (.inr x)
  | _ => none
def kW : Key → W
  | .inl i => .int i
  | .inr x => .str x
def look : List Key → List W → Key → Option W
  | k :: ks, w :: ws, x => if k = x then some w else look ks ws x
  | _, _, _ => none
def setAt (x : Key) (v : W) : List Key → List W → List W
  | k :: ks, w :: ws => (if k = x then v else w) :: setAt x v ks ws
  | _, _ => []
def putKW (ks : List Key) (ws : List W) (x : Key) (v : W) : List Key × List W :=
  if (ks.any fun k => decide (k = x)) = true then (ks, setAt x v ks ws) else (ks ++ [x], ws ++ [v])

def signs (x : Str) : List W := x.cps.toList.map fun c => .str ⟨#[c]⟩

/-! ## operators -/
def binW : Operator → W → W → Option W
  | .Add, .int i, .int j => some (.int (i + j))
  | .Sub, .int i, .int j => some (.int (i - j))
  | .Mult, .int i, .int j => if ((-(2 ^ 64) < i ∧ i < 2 ^ 64) ∨ (-(2 ^ 64) < j ∧ j < 2 ^ 64)) ∨ i.natAbs.log2 + j.natAbs.log2 < 1000000 then some (.int (i * j)) else none
  | .Mod, .int i, .int j => if 0 < j then some (.int (i % j)) else none
  | .FloorDiv, .int i, .int j => if 0 < j ∧ j.natAbs.log2 < 9000 then some (.int (i / j)) else none
  | .Pow, .int i, .int j => if 0 ≤ j ∧ j ≤ 1000000 ∧ i.natAbs < 2 ^ 64 then some (.int (i ^ j.toNat)) else none
  | .Add, .str x, .str y => if x.length + y.length ≤ sizeLine then some (.str (x ++ y)) else none
  | .Mult, .str x, .int j => if 0 ≤ j ∧ j ≤ 1000 ∧ x.length ≤ 1000 then some (.str (Txt.mul x j)) else none
  | .Add, .lst x, .lst y => if x.length + y.length ≤ sizeLine then some (.lst (x ++ y)) else none
  | .Add, .tup x, .tup y => if x.length + y.length ≤ sizeLine then some (.tup (x ++ y)) else none
  | .Mult, .tup x, .int j => if j = 1 then some (.tup x) else if 2 ≤ j ∧ j ≤ 1000 ∧ x.length ≤ 1000 ∧ x ≠ [] then some (.tup (List.replicate j.toNat x).flatten) else none
  | _, _, _ => none
def unW : UnaryOp → W → Option W
  | .USub, .int i => some (.int (-i))
  | .Not, .bl b => some (.bl (!b))
  | _, _ => none

/-- whether a thing is in a row of things -/
def okDs (ds : List PyData) : Bool := PyData.plainAll ds && decide (PyData.depthAll ds ≤ 60)
def inL (x : W) (ys : List W) : Option Bool := (W.ds ys).bind fun ds => x.d.bind fun d => if okDs ds && okD d then some (ds.any fun y => PyData.eqv y d) else none
def inW : W → W → Option Bool
  | x, .lst ys => inL x ys
  | x, .tup ys => inL x ys
  | x, .dct ks ws => (keyOf x).map fun k => (look ks ws k).isSome
  | .str ⟨⟨[c]⟩⟩, .str z => some (decide (c ∈ z.cps.toList))
  | _, _ => none
def isN : W → Bool
  | .non => true
  | _ => false
def cmpW : CmpOp → W → W → Option Bool
  | .Eq, a, b => eqW a b
  | .NotEq, a, b => (eqW a b).map (!·)
  | .Lt, .int i, .int j => some (decide (i < j))
  | .LtE, .int i, .int j => some (decide (i ≤ j))
  | .Gt, .int i, .int j => some (decide (j < i))
  | .GtE, .int i, .int j => some (decide (j ≤ i))
  | .In, a, b => inW a b
  | .NotIn, a, b => (inW a b).map (!·)
  | .Is, a, .non => some (isN a)
  | .IsNot, a, .non => some (!isN a)
  | _, _, _ => none

def ixW : W → W → Option W
  | .lst xs, .int i => atI xs i
  | .tup xs, .int i => atI xs i
  | .str z, .int i => if z.length ≤ sizeLine then (atI z.cps.toList i).map fun c => .str ⟨#[c]⟩ else none
  | .dct ks ws, k => (keyOf k).bind (look ks ws)
  | _, _ => none
def cutW (xs : List W) (lo hi : Option Int) : List W := (xs.drop (HT.sIx xs.length 0 lo)).take (HT.sIx xs.length xs.length hi - HT.sIx xs.length 0 lo)
def slcW : W → Option Int → Option Int → Option W
  | .lst xs, lo, hi => some (.lst (cutW xs lo hi))
  | .tup xs, lo, hi => some (.tup (cutW xs lo hi))
  | .str z, lo, hi => if z.length ≤ sizeLine then some (.str (cutS z lo hi)) else none
  | _, _, _ => none
def lenW : W → Option W
  | .lst xs => some (.int xs.length)
  | .tup xs => some (.int xs.length)
  | .str z => if z.length ≤ sizeLine then some (.int z.length) else none
  | .dct ks _ => some (.int ks.length)
  | _ => none

def intsW : List W → Option (List Int)
  | [] => some []
  | .int i :: r => (intsW r).map (i :: ·)
  | _ :: _ => none
def boolsW : List W → Option (List Bool)
  | [] => some []
  | .bl i :: r => (boolsW r).map (i :: ·)
  | _ :: _ => none

/-! ## the small language -/
inductive Lit where
  | non | bl (b : Bool) | int (i : Int) | str (x : Str)
def Lit.w : Lit → W
  | .non => .non
  | .bl b => .bl b
  | .int i => .int i
  | .str x => .str x
inductive Bi where
  | len | abs | tuple | list | sum | any | all | repr | int
/-- built-in classes asked of -/
inductive Ty where
  | int | bool | str | tuple | list | dict
inductive Mt where
  | get | setdefault | append
inductive Tg where
  | name (i : Nat)
  | tup (ts : List Tg)
mutual
inductive E where
  | loc (i : Nat)
  | lit (l : Lit)
  | glob (x : Str)
  | tup (es : Es)
  | lst (m : Bool) (es : Es)
  | dct (m : Bool) (es : Es)
  | bin (op : Operator) (a b : E)
  | un (op : UnaryOp) (a : E)
  | and2 (a b : E)
  | or2 (a b : E)
  | cmp (op : CmpOp) (a b : E)
  | cmp3 (o1 o2 : CmpOp) (a b c : E)
  | ifx (c : Tt) (a b : E)
  | ix (a b : E)
  | slc (a : E) (lo hi : Eo)
  | call (f : Str) (es : Es)
  | bi (b : Bi) (es : Es)
  | meth (m : Mt) (o : E) (es : Es)
  | comp (m : Bool) (own : List Nat) (t : Tg) (it : It) (c : To) (elt : E)
  | cat (a b : E)
  | isa (t : Ty) (a : E)
  | frz (a : E)
inductive Es where
  | nil
  | cons (e : E) (es : Es)
inductive Eo where
  | none
  | some (e : E)
inductive It where
  | ex (e : E)
  | rng1 (a : E)
  | rng2 (a b : E)
  | enum (e : E)
  | zip (a b : E)
inductive Tt where
  | val (e : E)
  | not (t : Tt)
  | and (a b : Tt)
  | or (a b : Tt)
inductive To where
  | none
  | some (t : Tt)
end

abbrev Sl := List (Option W)
abbrev QW := W → Sto → Prop
abbrev QB := Bool → Sto → Prop
/-- what the text around gives: calls, the module's constants -/
structure Cn where
  Γ : Str → List W → Sto → QW → QW → Prop
  G : Str → Option W

/-! ## targets -/
def Tg.go : Tg → W → Sl → (Sl → Prop) → Prop
  | .name i, w, σ, Q => i < σ.length ∧ Q (σ.set i (some w))
  | .tup ts, w, σ, Q => ∃ ws, w = .tup ws ∧ ws.length = ts.length ∧ goAll ts ws σ Q
where goAll : List Tg → List W → Sl → (Sl → Prop) → Prop
  | [], ws, σ, Q => ws = [] ∧ Q σ
  | t :: ts, ws, σ, Q => ∃ w r, ws = w :: r ∧ Tg.go t w σ fun σ' => goAll ts r σ' Q

/-- a target's names are among these -/
def Tg.own (vs : List Nat) : Tg → Bool
  | .name i => vs.contains i
  | .tup ts => owns vs ts
where owns (vs : List Nat) : List Tg → Bool
  | [] => true
  | t :: ts => Tg.own vs t && owns vs ts
def wipeS (σ : Sl) : List Nat → Sl
  | [] => σ
  | v :: vs => (wipeS σ vs).set v none

/-- lo, lo + 1, .., n of them -/
def rgW (lo : Int) (n : Nat) : List W := (List.range n).map fun (k : Nat) => W.int (lo + (k : Int))
/-- what is walked over, item by item -/
def itemsW : W → Option (List W)
  | .lst xs => some xs
  | .tup xs => some xs
  | .dct ks _ => some (ks.map kW)
  | .str x => some (signs x)
  | _ => none
def enumW (xs : List W) : List W := xs.zipIdx.map fun p => .tup [.int p.2, p.1]
def zipWW (xs ys : List W) : List W := (xs.zip ys).map fun p => .tup [p.1, p.2]

def biW : Bi → List W → Sto → QW → Prop
  | .len, [w], S, Q => ∃ r, lenW (rd S w) = some r ∧ Q r S
  | .abs, [.int i], S, Q => Q (.int (i.natAbs : Int)) S
  | .tuple, [w], S, Q => ∃ xs, (rd S w = .lst xs ∨ w = .tup xs) ∧ Q (.tup xs) S
  | .list, [w], S, Q => ∃ xs, (rd S w = .lst xs ∨ w = .tup xs) ∧ ∀ p, S p = none → Q (.ref p) (S.set p (.lst xs))
  | .sum, [w], S, Q => ∃ xs ns, rd S w = .lst xs ∧ intsW xs = some ns ∧ Q (.int ns.sum) S
  | .any, [w], S, Q => ∃ xs bs, rd S w = .lst xs ∧ boolsW xs = some bs ∧ Q (.bl (bs.any id)) S
  | .all, [w], S, Q => ∃ xs bs, rd S w = .lst xs ∧ boolsW xs = some bs ∧ Q (.bl (bs.all id)) S
  | .int, [.bl b], S, Q => Q (.int (if b then 1 else 0)) S
  | .repr, [w], S, Q => ∃ d, w.dd = some d ∧ d.showable = true ∧ d.shown.length ≤ sizeLine ∧ d.depth ≤ 100 ∧ Q (.str d.shown) S
  | _, _, _, _ => False
def mtW : Mt → W → List W → Sto → QW → Prop
  | .get, o, [k], S, Q => ∃ ks ws x, rd S o = .dct ks ws ∧ keyOf k = some x ∧ Q ((look ks ws x).getD .non) S
  | .get, o, [k, d], S, Q => ∃ ks ws x, rd S o = .dct ks ws ∧ keyOf k = some x ∧ Q ((look ks ws x).getD d) S
  | .append, .ref a, [w], S, Q => ∃ xs, S a = some (.lst xs) ∧ xs.length < sizeLine ∧ Q .non (S.set a (.lst (xs ++ [w])))
  | _, _, _, _, _ => False

def Ty.id : Ty → String
  | .int => "int" | .bool => "bool" | .str => "str" | .tuple => "tuple" | .list => "list" | .dict => "dict"
def isaD : Ty → PyData → Bool
  | .int, d => d.isInt
  | .bool, d => d.isBool
  | .str, d => d.isStr
  | .tuple, d => d.isTuple
  | .list, d => d.isList
  | .dict, d => d.isDict
/-- the type a method is asked of -/
def tyM : Mt → W → Bool
  | .get, .dct _ _ => true
  | .setdefault, .dct _ _ => true
  | .append, .lst _ => true
  | _, _ => false
/-- key, thing, key, thing, .. -/
def pairsW : List W → Option (List (Key × W))
  | [] => some []
  | k :: v :: r => (keyOf k).bind fun x => (pairsW r).map fun t => (x, v) :: t
  | _ => none
def mergeW (kws : List (Key × W)) : List Key × List W := kws.foldl (fun acc kw => putKW acc.1 acc.2 kw.1 kw.2) ([], [])
/-- a thing's truth -/
def truW : W → Option Bool
  | .bl b => some b
  | .non => some false
  | .int i => some (i != 0)
  | .str x => if x.length ≤ sizeLine then some ((x.length : Int) != 0) else none
  | .lst xs => some (!xs.isEmpty)
  | .tup xs => some (!xs.isEmpty)
  | _ => none
/-- a comprehension's turns: D holds what is made so far -/
def loopC (step : W → Sto → (Option W → Sto → Prop) → Prop) (D : Addr) : List W → List W → (List W → Sto → Prop) → Sto → Prop
  | [], acc, Q, S => S D = some (.lst acc) ∧ Q acc S
  | x :: xs, acc, Q, S => S D = some (.lst acc) ∧ step x S fun r S1 => match r with
    | none => loopC step D xs acc Q S1
    | some w => S1 D = some (.lst acc) ∧ acc.length < sizeLine ∧ loopC step D xs (acc ++ [w]) Q (S1.set D (.lst (acc ++ [w])))
section
variable (C : Cn)
mutual
def wE : E → Sl → Sto → QW → QW → Prop
  | .loc i, σ, S, Q, _ => ∃ w, σ[i]? = some (some w) ∧ Q w S
  | .lit l, _, S, Q, _ => Q l.w S
  | .glob x, _, S, Q, _ => ∃ w, C.G x = some w ∧ Q w S
  | .tup es, σ, S, Q, X => wEs es σ S (fun ws S1 => ws.length ≤ sizeLine ∧ Q (.tup ws) S1) X
  | .lst m es, σ, S, Q, X => wEs es σ S (fun ws S1 => ws.length ≤ sizeLine ∧ if m then ∀ p, S1 p = none → Q (.ref p) (S1.set p (.lst ws)) else Q (.lst ws) S1) X
  | .dct m es, σ, S, Q, X => ∀ p, S p = none → wEs es σ (S.set p (.dct [] [])) (fun ws S1 => S1 p = some (.dct [] []) ∧ ∃ kws, pairsW ws = some kws ∧ kws.length ≤ 15 ∧
      if m then Q (.ref p) (S1.set p (.dct (mergeW kws).1 (mergeW kws).2)) else Q (.dct (mergeW kws).1 (mergeW kws).2) (S1.del p)) X
  | .bin op a b, σ, S, Q, X => wE a σ S (fun x S1 => wE b σ S1 (fun y S2 => ∃ r, binW op (rd S2 x) (rd S2 y) = some r ∧ Q r S2) X) X
  | .un op a, σ, S, Q, X => wE a σ S (fun x S1 => ∃ r, unW op x = some r ∧ Q r S1) X
  | .and2 a b, σ, S, Q, X => wE a σ S (fun x S1 => ∃ c, x = .bl c ∧ if c then wE b σ S1 Q X else Q (.bl false) S1) X
  | .or2 a b, σ, S, Q, X => wE a σ S (fun x S1 => ∃ c, x = .bl c ∧ if c then Q (.bl true) S1 else wE b σ S1 Q X) X
  | .cmp op a b, σ, S, Q, X => wE a σ S (fun x S1 => wE b σ S1 (fun y S2 => ∃ r, cmpW op (rd S2 x) (rd S2 y) = some r ∧ Q (.bl r) S2) X) X
  | .cmp3 o1 o2 a b c, σ, S, Q, X => wE a σ S (fun x S1 => wE b σ S1 (fun y S2 => ∃ r, cmpW o1 (rd S2 x) (rd S2 y) = some r ∧
      if r then wE c σ S2 (fun z S3 => ∃ q, cmpW o2 (rd S3 y) (rd S3 z) = some q ∧ Q (.bl q) S3) X else Q (.bl false) S2) X) X
  | .ifx c a b, σ, S, Q, X => wT c σ S (fun r S1 => if r then wE a σ S1 Q X else wE b σ S1 Q X) X
  | .ix a b, σ, S, Q, X => wE a σ S (fun x S1 => wE b σ S1 (fun y S2 => ∃ r, ixW (rd S2 x) y = some r ∧ Q r S2) X) X
  | .slc a lo hi, σ, S, Q, X => wE a σ S (fun x S1 => wO lo σ S1 (fun l S2 => wO hi σ S2 (fun h S3 => ∃ r, slcW (rd S3 x) l h = some r ∧ Q r S3) X) X) X
  | .call f es, σ, S, Q, X => wEs es σ S (fun ws S1 => C.Γ f ws S1 Q X) X
  | .bi b es, σ, S, Q, X => wEs es σ S (fun ws S1 => biW b ws S1 Q) X
  | .meth m o es, σ, S, Q, X => wE o σ S (fun w S1 => tyM m (rd S1 w) = true ∧ wEs es σ S1 (fun ws S2 => mtW m w ws S2 Q) X) X
  | .comp m own t it c elt, σ, S, Q, X => wI it σ S (fun xs S1 => ∀ D, S1 D = none →
      loopC (fun x S' K => t.go x (wipeS σ own) fun σ2 => wOT c σ2 S' (fun b S2 => if b then wE elt σ2 S2 (fun w S3 => K (some w) S3) (fun _ _ => False) else K none S2) (fun _ _ => False))
        D xs [] (fun ws S2 => if m then Q (.ref D) S2 else Q (.lst ws) (S2.del D)) (S1.set D (.lst []))) X
  | .cat a b, σ, S, Q, X => wE a σ S (fun x S1 => wE b σ S1 (fun y S2 => ∃ xs ys, rd S2 x = .lst xs ∧ rd S2 y = .lst ys ∧ xs.length + ys.length ≤ sizeLine ∧ ∀ p, S2 p = none → Q (.ref p) (S2.set p (.lst (xs ++ ys)))) X) X
  | .isa t a, σ, S, Q, X => wE a σ S (fun w S1 => ∃ d, w.dd = some d ∧ Q (.bl (isaD t d)) S1) X
  | .frz a, σ, S, Q, X => wE a σ S (fun w S1 => ∃ p, w = .ref p ∧ ((∃ xs, S1 p = some (.lst xs) ∧ Q (.lst xs) (S1.del p)) ∨ (∃ ks ws, S1 p = some (.dct ks ws) ∧ Q (.dct ks ws) (S1.del p)))) X
def wEs : Es → Sl → Sto → (List W → Sto → Prop) → QW → Prop
  | .nil, _, S, Q, _ => Q [] S
  | .cons e es, σ, S, Q, X => wE e σ S (fun w S1 => wEs es σ S1 (fun ws S2 => Q (w :: ws) S2) X) X
def wO : Eo → Sl → Sto → (Option Int → Sto → Prop) → QW → Prop
  | .none, _, S, Q, _ => Q none S
  | .some e, σ, S, Q, X => wE e σ S (fun w S1 => ∃ i, w = .int i ∧ Q (some i) S1) X
def wOT : To → Sl → Sto → QB → QW → Prop
  | .none, _, S, Q, _ => Q true S
  | .some e, σ, S, Q, X => wT e σ S Q X
def wI : It → Sl → Sto → (List W → Sto → Prop) → QW → Prop
  | .ex e, σ, S, Q, X => wE e σ S (fun w S1 => ∃ xs, itemsW w = some xs ∧ Q xs S1) X
  | .rng1 a, σ, S, Q, X => wE a σ S (fun x S1 => ∃ j, x = .int j ∧ -(2 ^ 62) ≤ j ∧ j < 2 ^ 62 ∧ Q (rgW 0 j.toNat) S1) X
  | .rng2 a b, σ, S, Q, X => wE a σ S (fun x S1 => wE b σ S1 (fun y S2 => ∃ i j, x = .int i ∧ y = .int j ∧ (-(2 ^ 62) ≤ i ∧ i < 2 ^ 62 ∧ -(2 ^ 62) ≤ j ∧ j < 2 ^ 62) ∧ Q (rgW i (j - i).toNat) S2) X) X
  | .enum e, σ, S, Q, X => wE e σ S (fun w S1 => ∃ xs, (w = .lst xs ∨ w = .tup xs) ∧ Q (enumW xs) S1) X
  | .zip a b, σ, S, Q, X => wE a σ S (fun x S1 => wE b σ S1 (fun y S2 => ∃ xs ys, ((x = .lst xs ∧ y = .lst ys) ∨ (x = .tup xs ∧ y = .tup ys)) ∧ Q (zipWW xs ys) S2) X) X
def wT : Tt → Sl → Sto → QB → QW → Prop
  | .val e, σ, S, Q, X => wE e σ S (fun w S1 => ∃ r, truW (rd S1 w) = some r ∧ Q r S1) X
  | .not a, σ, S, Q, X => wT a σ S (fun b S1 => Q (!b) S1) X
  | .and a b, σ, S, Q, X => wT a σ S (fun r S1 => if r then wT b σ S1 Q X else Q false S1) X
  | .or a b, σ, S, Q, X => wT a σ S (fun r S1 => if r then Q true S1 else wT b σ S1 Q X) X
end
end
end PD

set_option Elab.async false
set_option linter.all false
set_option maxRecDepth 100000
set_option maxHeartbeats 4000000
namespace PD
open PySem PySem.Spec PyProof.Rows L2

/-- an exception as it is told: its class, its own fields -/
def RX (K : PySem.W.Frag) (H : Hp) (S : Sto) (x : W) (c : Value) (d : Option Addr) : Prop := match x with
  | .exc C ks ws => c = .ref C ∧ ∃ dd fs, d = some dd ∧ H dd = some (.xd fs) ∧ fs.map (·.1) = ks ∧ RWs K H S ws (fs.map (·.2))
  | _ => False
/-- what is wanted of an exception, told -/
def XO (K : PySem.W.Frag) (Ê : XK) (H : Hp) (S : Sto) (X : QW) : Prop :=
  ∀ x S' c d H', Ext H S H' S' → LinkS K H' S' → RX K H' S' x c d → X x S' → Ê c d H'
theorem XO.ext {K : PySem.W.Frag} {Ê : XK} {H H' : Hp} {S S' : Sto} {X : QW} (h : XO K Ê H S X) (e : Ext H S H' S') : XO K Ê H' S' X :=
  fun x S2 c d H2 e2 l r q => h x S2 c d H2 (e.trans e2) l r q
theorem XO.none {K : PySem.W.Frag} {Ê : XK} {H : Hp} {S : Sto} : XO K Ê H S fun _ _ => False := fun _ _ _ _ _ _ _ _ q => q.elim

abbrev WE := Sl → Sto → QW → QW → Prop
abbrev WT := Sl → Sto → QB → QW → Prop
abbrev WA := Sl → Sto → (List W → Sto → Prop) → QW → Prop
abbrev WO := Sl → Sto → (Option Int → Sto → Prop) → QW → Prop
section
variable (K : PySem.W.Frag) (Ê : XK)
def LE (w : WE) : TE := fun τ H Qh => ∃ σ S Q X, RSl K H S σ τ ∧ LinkS K H S ∧ w σ S Q X ∧
  (∀ r S' v H', Ext H S H' S' → LinkS K H' S' → RW K H' S' r v → Q r S' → Qh v H') ∧ XO K Ê H S X
def LT (w : WT) : TT := fun τ H Qh => ∃ σ S Q X, RSl K H S σ τ ∧ LinkS K H S ∧ w σ S Q X ∧
  (∀ r S' H', Ext H S H' S' → LinkS K H' S' → Q r S' → Qh r H') ∧ XO K Ê H S X
def LA (w : WA) : TA := fun τ H Qh => ∃ σ S Q X, RSl K H S σ τ ∧ LinkS K H S ∧ w σ S Q X ∧
  (∀ r S' v H', Ext H S H' S' → LinkS K H' S' → RWs K H' S' r v → Q r S' → Qh v H') ∧ XO K Ê H S X
def LO (w : WO) : TO := fun τ H Qh => ∃ σ S Q X, RSl K H S σ τ ∧ LinkS K H S ∧ w σ S Q X ∧
  (∀ r S' H', Ext H S H' S' → LinkS K H' S' → Q r S' → Qh r H') ∧ XO K Ê H S X
end
section
variable {K : PySem.W.Frag} {Ê : XK} {τ : L2.St} {H : Hp} {σ : Sl} {S : Sto} {X : QW}
/-- a part's reading, from the told one -/
theorem LE.mk {w : WE} {Q : QW} {Qh : VK} (hs : RSl K H S σ τ) (hl : LinkS K H S) (hx : XO K Ê H S X) (h : w σ S Q X)
    (k : ∀ r S' v H', Ext H S H' S' → LinkS K H' S' → RSl K H' S' σ τ → XO K Ê H' S' X → RW K H' S' r v → Q r S' → Qh v H') : LE K Ê w τ H Qh :=
  ⟨σ, S, Q, X, hs, hl, h, fun r S' v H' e l rw q => k r S' v H' e l (hs.ext e) (hx.ext e) rw q, hx⟩
theorem LT.mk {w : WT} {Q : QB} {Qh : Bool → Hp → Prop} (hs : RSl K H S σ τ) (hl : LinkS K H S) (hx : XO K Ê H S X) (h : w σ S Q X)
    (k : ∀ r S' H', Ext H S H' S' → LinkS K H' S' → RSl K H' S' σ τ → XO K Ê H' S' X → Q r S' → Qh r H') : LT K Ê w τ H Qh :=
  ⟨σ, S, Q, X, hs, hl, h, fun r S' H' e l q => k r S' H' e l (hs.ext e) (hx.ext e) q, hx⟩
theorem LA.mk {w : WA} {Q : List W → Sto → Prop} {Qh : List V → Hp → Prop} (hs : RSl K H S σ τ) (hl : LinkS K H S) (hx : XO K Ê H S X) (h : w σ S Q X)
    (k : ∀ r S' v H', Ext H S H' S' → LinkS K H' S' → RSl K H' S' σ τ → XO K Ê H' S' X → RWs K H' S' r v → Q r S' → Qh v H') : LA K Ê w τ H Qh :=
  ⟨σ, S, Q, X, hs, hl, h, fun r S' v H' e l rw q => k r S' v H' e l (hs.ext e) (hx.ext e) rw q, hx⟩
theorem LO.mk {w : WO} {Q : Option Int → Sto → Prop} {Qh : Option Int → Hp → Prop} (hs : RSl K H S σ τ) (hl : LinkS K H S) (hx : XO K Ê H S X) (h : w σ S Q X)
    (k : ∀ r S' H', Ext H S H' S' → LinkS K H' S' → RSl K H' S' σ τ → XO K Ê H' S' X → Q r S' → Qh r H') : LO K Ê w τ H Qh :=
  ⟨σ, S, Q, X, hs, hl, h, fun r S' H' e l q => k r S' H' e l (hs.ext e) (hx.ext e) q, hx⟩
end
/-- another reading that asks more -/
theorem _root_.L2.PE.imp {X : Cx} {e : Expr} {t t' : TE} (h : PE X e t) (i : ∀ σ H Q, t' σ H Q → t σ H Q) : PE X e t' := ⟨fun pins s σ H Q I q => h.run pins s σ H Q I (i _ _ _ q)⟩
theorem _root_.L2.PT.imp {X : Cx} {e : Expr} {t t' : TT} (h : PT X e t) (i : ∀ σ H Q, t' σ H Q → t σ H Q) : PT X e t' := ⟨fun pins s σ H Q I q => h.run pins s σ H Q I (i _ _ _ q)⟩
theorem _root_.L2.PW.imp {X : Cx} {e : Expr} {t t' : TT} (h : PW X e t) (i : ∀ σ H Q, t' σ H Q → t σ H Q) : PW X e t' := ⟨fun w pins s σ H Q I q => h.run w pins s σ H Q I (i _ _ _ q)⟩
theorem _root_.L2.PA.imp {X : Cx} {e : List Expr} {t t' : TA} (h : PA X e t) (i : ∀ σ H Q, t' σ H Q → t σ H Q) : PA X e t' := ⟨fun p pins s σ H Q I q => h.run p pins s σ H Q I (i _ _ _ q)⟩
theorem _root_.L2.PO.imp {X : Cx} {e : Option Expr} {t t' : TO} (h : PO X e t) (i : ∀ σ H Q, t' σ H Q → t σ H Q) : PO X e t' := ⟨fun pins s σ H Q I q => h.run pins s σ H Q I (i _ _ _ q)⟩
theorem _root_.L2.PI.imp {X : Cx} {tg e : Expr} {t t' : TI} (h : PI X tg e t) (i : ∀ σ H Q, t' σ H Q → t σ H Q) : PI X tg e t' := ⟨fun pins s σ H Q I q => h.run pins s σ H Q I (i _ _ _ q)⟩
theorem _root_.L2.PS.imp {X : Cx} {e : Stmt} {t t' : TS} (h : PS X e t) (i : ∀ D σ H, t' D σ H → t D σ H) : PS X e t' := ⟨fun pins s σ H Q I q => h.run pins s σ H Q I (i _ _ _ q)⟩
theorem _root_.L2.PSs.imp {X : Cx} {e : List Stmt} {t t' : TS} (h : PSs X e t) (i : ∀ D σ H, t' D σ H → t D σ H) : PSs X e t' := ⟨fun pins s σ H Q I q => h.run pins s σ H Q I (i _ _ _ q)⟩

/-! ## data to the library's data -/
section
variable {K : PySem.W.Frag} {H : Hp} {S : Sto}
mutual
theorem RW.dp : ∀ (w : W) (v : V) (d : PyData), RW K H S w v → w.d = some d → Dp K H v d
  | .non, v, d, h, e => by unfold RW at h; unfold W.d at e; subst h; cases e; constructor
  | .bl b, v, d, h, e => by unfold RW at h; unfold W.d at e; subst h; cases e; constructor
  | .int i, v, d, h, e => by unfold RW at h; unfold W.d at e; subst h; cases e; constructor
  | .str x, v, d, h, e => by unfold RW at h; unfold W.d at e; subst h; cases e; constructor
  | .tup xs, v, d, h, e => by
    unfold RW at h; unfold W.d at e
    obtain ⟨a, vs, rfl, h2, h3⟩ := h
    cases q : W.ds xs with
    | none => rw [q] at e; cases e
    | some ds => rw [q] at e; cases e; exact .tup h2.sq (RWs.dp xs vs ds h3 q)
  | .lst xs, v, d, h, e => by
    unfold RW at h; unfold W.d at e
    obtain ⟨a, vs, rfl, h2, h3⟩ := h
    cases q : W.ds xs with
    | none => rw [q] at e; cases e
    | some ds => rw [q] at e; cases e; exact .lst h2.sq (RWs.dp xs vs ds h3 q)
  | .dct _ _, v, d, h, e => by unfold W.d at e; cases e
  | .ref _, v, d, h, e => by unfold W.d at e; cases e
  | .exc _ _ _, v, d, h, e => by unfold W.d at e; cases e
theorem RWs.dp : ∀ (ws : List W) (vs : List V) (ds : List PyData), RWs K H S ws vs → W.ds ws = some ds → DpAll K H vs ds
  | [], vs, ds, h, e => by unfold RWs at h; unfold W.ds at e; subst h; cases e; constructor
  | w :: ws, vs, ds, h, e => by
    unfold RWs at h; unfold W.ds at e
    obtain ⟨v, r, rfl, h2, h3⟩ := h
    cases q : W.d w with
    | none => rw [q] at e; cases e
    | some d =>
      cases q2 : W.ds ws with
      | none => rw [q, q2] at e; cases e
      | some ds' => rw [q, q2] at e; cases e; exact .cons (RW.dp w v d h2 q) (RWs.dp ws r ds' h3 q2)
end
/-- what is read at a changed place -/
theorem rd_lst {w : W} {v : V} {xs : List W} (l : LinkS K H S) (h : RW K H S w v) (e : rd S w = .lst xs) : ∃ a vs, v = .ref a ∧ SqL K H a vs ∧ RWs K H S xs vs := by
  cases w with
  | lst ys =>
    have e' : W.lst ys = .lst xs := e
    cases e'
    unfold RW at h
    obtain ⟨a, vs, h1, h2, h3⟩ := h
    exact ⟨a, vs, h1, h2.sq, h3⟩
  | ref a =>
    unfold RW at h
    have e' : (match S a with | some (.lst xs) => W.lst xs | some (.dct ks ws) => .dct ks ws | none => .ref a) = .lst xs := e
    cases q : S a with
    | none => rw [q] at e'; cases e'
    | some o =>
      rw [q] at e'
      cases o with
      | dct _ _ => cases e'
      | lst ys =>
        cases e'
        obtain ⟨u, h1, vs, rfl, h2⟩ := l a _ q
        exact ⟨a, vs, h, .inl (.inl h1), h2⟩
  | non => cases e
  | bl => cases e
  | int => cases e
  | str => cases e
  | tup => cases e
  | dct => cases e
  | exc => cases e
theorem rd_dct {w : W} {v : V} {ks : List Key} {ws : List W} (l : LinkS K H S) (h : RW K H S w v) (e : rd S w = .dct ks ws) : ∃ a kvs, v = .ref a ∧ Rd H a (.dK kvs) ∧ kvs.map (·.1) = ks ∧ RWs K H S ws (kvs.map (·.2)) := by
  cases w with
  | dct ks' ws' =>
    have e' : W.dct ks' ws' = .dct ks ws := e
    cases e'
    unfold RW at h
    obtain ⟨a, kvs, h1, h2, h3, h4, h5⟩ := h
    exact ⟨a, kvs, h1, h3, h4, h5⟩
  | ref a =>
    unfold RW at h
    have e' : (match S a with | some (.lst xs) => W.lst xs | some (.dct ks ws) => .dct ks ws | none => .ref a) = .dct ks ws := e
    cases q : S a with
    | none => rw [q] at e'; cases e'
    | some o =>
      rw [q] at e'
      cases o with
      | lst _ => cases e'
      | dct ks' ws' =>
        cases e'
        obtain ⟨u, h1, kvs, rfl, h2, h3⟩ := l a _ q
        exact ⟨a, kvs, h, .inl h1, h2, h3⟩
  | non => cases e
  | bl => cases e
  | int => cases e
  | str => cases e
  | tup => cases e
  | lst => cases e
  | exc => cases e
/-- other things read are the things -/
theorem rd_eq {w x : W} (e : rd S w = x) (n1 : ∀ xs, x ≠ .lst xs) (n2 : ∀ ks ws, x ≠ .dct ks ws) : w = x := by
  cases w with
  | ref a =>
    have e' : (match S a with | some (.lst xs) => W.lst xs | some (.dct ks ws) => .dct ks ws | none => .ref a) = x := e
    cases q : S a with
    | none => rw [q] at e'; exact e'
    | some o =>
      rw [q] at e'
      cases o with
      | lst xs => exact absurd e'.symm (n1 xs)
      | dct ks ws => exact absurd e'.symm (n2 ks ws)
  | _ => exact e
/-- data read, the library's data -/
theorem rd_dp {w : W} {v : V} {d : PyData} (l : LinkS K H S) (h : RW K H S w v) (e : (rd S w).d = some d) : Dp K H v d := by
  cases w with
  | ref a =>
    have e0 : rd S (.ref a) = (match S a with | some (.lst xs) => W.lst xs | some (.dct ks ws) => .dct ks ws | none => .ref a) := rfl
    cases q : S a with
    | none => rw [e0, q] at e; unfold W.d at e; cases e
    | some o =>
      cases o with
      | dct _ _ => rw [e0, q] at e; unfold W.d at e; cases e
      | lst xs =>
        have er : rd S (.ref a) = .lst xs := by rw [e0, q]
        obtain ⟨b, vs, rfl, h2, h3⟩ := rd_lst l h er
        rw [er] at e
        unfold W.d at e
        cases q2 : W.ds xs with
        | none => rw [q2] at e; cases e
        | some ds => rw [q2] at e; cases e; exact .lst h2 (RWs.dp xs vs ds h3 q2)
  | _ => exact RW.dp _ _ _ h e
end
end PD

set_option Elab.async false
set_option linter.all false
set_option maxRecDepth 100000
set_option maxHeartbeats 4000000
namespace PD
open PySem PySem.Spec PyProof.Rows L2

section
variable {X : Cx} {pins : List (Addr × Obj)} {σ : L2.St} {H : Hp} {S : Sto} {s : Shared}
/-- the end of an operation: data that is known already, or new -/
abbrev Fin (K : PySem.W.Frag) (H : Hp) (S : Sto) (r : W) (Q : VK) : Prop := ∀ v H', Ext H S H' S → LinkS K H' S → RW K H' S r v → Q v H'
theorem Fin.int {K : PySem.W.Frag} {i : Int} {Q : VK} (l : LinkS K H S) (f : Fin K H S (.int i) Q) : Q (.int i) H := f _ _ .refl l (by unfold RW; rfl)
theorem Fin.bl {K : PySem.W.Frag} {i : Bool} {Q : VK} (l : LinkS K H S) (f : Fin K H S (.bl i) Q) : Q (.bl i) H := f _ _ .refl l (by unfold RW; rfl)
theorem Fin.str {K : PySem.W.Frag} {i : Str} {Q : VK} (l : LinkS K H S) (f : Fin K H S (.str i) Q) : Q (.str i) H := f _ _ .refl l (by unfold RW; rfl)
theorem Fin.lst {K : PySem.W.Frag} {ws : List W} {vs : List V} {Q : VK} (l : LinkS K H S) (r : RWs K H S ws vs) (f : Fin K H S (.lst ws) Q) : ∀ p, H p = none → Q (.ref p) (upd H p (.lst vs)) := fun p hp =>
  f _ _ (ext_new hp) (l.new hp) (by unfold RW; exact ⟨p, vs, rfl, .inl ⟨.inl upd_same, l.fresh hp⟩, r.ext (ext_new hp)⟩)
theorem Fin.tup {K : PySem.W.Frag} {ws : List W} {vs : List V} {Q : VK} (l : LinkS K H S) (r : RWs K H S ws vs) (f : Fin K H S (.tup ws) Q) : ∀ p, H p = none → Q (.ref p) (upd H p (.tup vs)) := fun p hp =>
  f _ _ (ext_new hp) (l.new hp) (by unfold RW; exact ⟨p, vs, rfl, .inl ⟨.inl upd_same, l.fresh hp⟩, r.ext (ext_new hp)⟩)
theorem RW.tup_rd {K : PySem.W.Frag} {ws : List W} {v : V} (h : RW K H S (.tup ws) v) : ∃ a vs, v = .ref a ∧ RdT K H S a vs ∧ RWs K H S ws vs := by unfold RW at h; exact h
theorem RW.int_ {K : PySem.W.Frag} {i : Int} {v : V} (h : RW K H S (.int i) v) : v = .int i := by unfold RW at h; exact h
theorem RW.str_ {K : PySem.W.Frag} {i : Str} {v : V} (h : RW K H S (.str i) v) : v = .str i := by unfold RW at h; exact h
theorem RW.bl_ {K : PySem.W.Frag} {i : Bool} {v : V} (h : RW K H S (.bl i) v) : v = .bl i := by unfold RW at h; exact h
theorem rd_int {w : W} {i : Int} (e : rd S w = .int i) : w = .int i := rd_eq e (by intro _ q; cases q) (by intro _ _ q; cases q)
theorem rd_str {w : W} {i : Str} (e : rd S w = .str i) : w = .str i := rd_eq e (by intro _ q; cases q) (by intro _ _ q; cases q)
theorem rd_tup {w : W} {i : List W} (e : rd S w = .tup i) : w = .tup i := rd_eq e (by intro _ q; cases q) (by intro _ _ q; cases q)
theorem rd_bl {w : W} {i : Bool} (e : rd S w = .bl i) : w = .bl i := rd_eq e (by intro _ q; cases q) (by intro _ _ q; cases q)
theorem rd_non {w : W} (e : rd S w = .non) : w = .non := rd_eq e (by intro _ q; cases q) (by intro _ _ q; cases q)

/-- two lists, one behind the other -/
theorem cat_lists {l b : Addr} {xs ys : List V} {v u : Value} {Q : VK} (I : Inv X pins σ H s) (h1 : SqL X.K H l xs) (h2 : SqL X.K H b ys) (hz : xs.length + ys.length ≤ sizeLine)
    (q : ∀ p, H p = none → Q (.ref p) (upd H p (.lst (xs ++ ys)))) : wpAny (model X.prog X.w) X.A (binaryOp .Add (.ref l) (.ref b)) (EP X pins σ Q) X.xe s := by
  obtain ⟨i1, r1, ⟨⟨c1, d1, t1, g1⟩, n1, e1, k1, z1, y1⟩, _⟩ := I.list h1
  obtain ⟨i2, r2, ⟨⟨c2, d2, t2, g2⟩, n2, e2, k2, z2, y2⟩, _⟩ := I.list h2
  simp only at k1 z1 y1 k2 z2 y2
  subst k1 z1 y1 k2 z2 y2
  have len : i1.toArray.size + i2.toArray.size ≤ sizeLine := by
    rw [List.size_toArray, List.size_toArray, ← r1.length, ← r2.length]; exact hz
  refine concat_meets ⟨_, e1, rfl⟩ ⟨_, e2, rfl⟩ noFill_list_add seq_list_add PySem.F.slot_list_add PySem.F.entry_list_add (PySem.F.args_list_add_2 _ _)
    (list_addW l b i1.toArray i2.toArray n1 n2 none none g1 g2 len) ⟨e1, e2, ?_⟩
  have ea : i1.toArray ++ i2.toArray = (i1 ++ i2).toArray := by simp
  rw [ea]
  exact ⟨.ref _, _, I.lnew (t' := s.toks) (r1.append r2) (by rw [List.length_append]; exact hz), rfl, q _ I.fresh⟩
/-- a text times a number -/
theorem mul_texts {z : Str} {j : Int} {t u : Tok} {Q : VK} (I : Inv X pins σ H s) (h0 : 0 ≤ j) (h1 : j ≤ 1000) (h2 : z.length ≤ 1000) (q : Q (.str (Txt.mul z j)) H) :
    wpAny (model X.prog X.w) X.A (binaryOp .Mult (.str z t) (.int j u)) (EP X pins σ Q) X.xe s := by
  refine PySem.SB.mul ⟨?_, fun _ _ => ?_, fun _ _ => ?_⟩ fun t' k => ⟨.str _, H, I.tok _, ⟨_, rfl⟩, q⟩
  · have a : ¬ j < -(2 ^ 63 : Int) := by omega
    have b : ¬ j ≥ (2 ^ 63 : Int) := by omega
    rw [decide_eq_false a, decide_eq_false b]; rfl
  · have hj : 0 < j := by omega
    have : (1000 : Int) ≤ (2 ^ 63 - 1) / j := by
      rw [Int.le_ediv_iff_mul_le hj]
      have : 1000 * j ≤ 1000 * 1000 := by omega
      omega
    omega
  · show Builtin.Str.tooLong _ = false
    unfold Builtin.Str.tooLong
    have h3 : j.toNat ≤ 1000 := by omega
    have h4 : z.length * j.toNat ≤ 1000 * 1000 := Nat.mul_le_mul h2 h3
    have : ¬ (sizeLine < z.length * j.toNat) := by
      have : (1000 * 1000 : Nat) ≤ sizeLine := by decide
      omega
    first
      | exact decide_eq_false this
      | (simp only [decide_eq_false_iff_not]; omega)
theorem tup_mul1 (l : Addr) (items : Array Value) (n : Nat) (dd : Option Addr) (sl : Array (Option Value)) (u : Tok) :
    Meets (Builtin.«tuple.__mul__» ⟨[.ref l, .int 1 u], []⟩) (fun _ R s => s.heap.get? l = some { cls := .type "tuple", dict := dd, data := .seq items n, slots := sl } ∧ R (.ok (.ret (.ref l))) s) :=
  Meets.of_wp fun prg wd Ar R' sh hh => by
    obtain ⟨hp, g, d, tk, os⟩ := sh
    obtain ⟨h1, h2⟩ := hh
    have ix := AutoSeq1.idx_int
    have c1 : (items.isEmpty || (1 : Int) == 1) = true := by simp
    wp_walk using AutoSeq1.wpAny_loadPart' h1
    repeat (first
      | (refine wpAny_ite_true (decide_eq_true (by rw [c1])) ?_; wp_walk using AutoSeq1.wpAny_loadPart' h1)
      | (refine wpAny_ite_false (decide_eq_false (by decide)) ?_; wp_walk using AutoSeq1.wpAny_loadPart' h1))
    exact ⟨_, rfl, h2⟩
theorem op_rep1 : OpR X (binaryOp .Mult) (fun x y H Q => ∃ l xs, x = .ref l ∧ y = .int 1 ∧ SqT X.K H l xs ∧ Q (.ref l) H) := by
  intro pins s σ H x y v u Q I rx ry h
  obtain ⟨l, xs, rfl, rfl, hT, q⟩ := h
  cases rx
  obtain ⟨t, rfl⟩ := ry
  obtain ⟨its, r, ⟨⟨cls, dd, data, sl⟩, ho, hc, n, hd⟩, hs⟩ := I.tuple hT
  simp only at hc hd
  subst hc hd
  refine wpAny_binaryOp_repeat_ref (T := "tuple") (U := "int") (by decide) ⟨_, ho, rfl⟩ (fun s' => typeIs_int s' 1 t) noFill_tuple_mul PySem.F.fills_int_mul PySem.F.slot_int_rmul repeat_tuple PySem.F.slot_int_index.lookup ?_
  refine call_meets PySem.F.slot_int_rmul (typeIs_int s 1 t) PySem.F.entry_int_rmul (PySem.F.args_int_rmul_2 _ _) (int_rmul_tuple 1 t l its.toArray n dd sl) ⟨ho, rfl, ⟨_, ho, rfl⟩, ?_⟩
  exact call_meets PySem.F.slot_tuple_mul ⟨_, ho, rfl⟩ PySem.F.entry_tuple_mul (PySem.F.args_tuple_mul_2 _ _) (tup_mul1 l its.toArray n dd sl t) ⟨ho, ⟨.ref l, H, I, rfl, q⟩⟩
def rBin (K : PySem.W.Frag) (op : Operator) : R2 := fun x y H Q => ∃ S a b r, LinkS K H S ∧ RW K H S a x ∧ RW K H S b y ∧ binW op (rd S a) (rd S b) = some r ∧ Fin K H S r Q
theorem op_bin (op : Operator) : OpR X (binaryOp op) (rBin X.K op) := by
  intro pins s σ H x y v u Q I rx ry h
  obtain ⟨S, a, b, r, l, ra, rb, e, f⟩ := h
  generalize ea : rd S a = a' at e
  generalize eb : rd S b = b' at e
  unfold binW at e
  split at e
  · cases e; obtain rfl := rd_int ea; obtain rfl := rd_int eb
    exact op_add pins s σ H x y v u Q I rx ry ⟨_, _, ra.int_, rb.int_, f.int l⟩
  · cases e; obtain rfl := rd_int ea; obtain rfl := rd_int eb
    exact op_sub pins s σ H x y v u Q I rx ry ⟨_, _, ra.int_, rb.int_, f.int l⟩
  · split at e
    · rename_i hc
      cases e; obtain rfl := rd_int ea; obtain rfl := rd_int eb
      rcases hc with hc | hc
      · exact op_mul pins s σ H x y v u Q I rx ry ⟨_, _, ra.int_, rb.int_, hc, f.int l⟩
      · exact op_mulW pins s σ H x y v u Q I rx ry ⟨_, _, ra.int_, rb.int_, hc, f.int l⟩
    · cases e
  · split at e
    · rename_i hc
      cases e; obtain rfl := rd_int ea; obtain rfl := rd_int eb
      exact op_mod pins s σ H x y v u Q I rx ry ⟨_, _, ra.int_, rb.int_, hc, f.int l⟩
    · cases e
  · split at e
    · rename_i hc
      cases e; obtain rfl := rd_int ea; obtain rfl := rd_int eb
      exact op_fdivW pins s σ H x y v u Q I rx ry ⟨_, _, ra.int_, rb.int_, hc, f.int l⟩
    · cases e
  · split at e
    · rename_i hc
      cases e; obtain rfl := rd_int ea; obtain rfl := rd_int eb
      exact op_pow pins s σ H x y v u Q I rx ry ⟨_, _, ra.int_, rb.int_, hc, f.int l⟩
    · cases e
  · split at e
    · rename_i hc
      cases e; obtain rfl := rd_str ea; obtain rfl := rd_str eb
      exact op_add_str pins s σ H x y v u Q I rx ry ⟨_, _, ra.str_, rb.str_, hc, f.str l⟩
    · cases e
  · split at e
    · rename_i hc
      cases e; obtain rfl := rd_str ea; obtain rfl := rd_int eb
      obtain rfl := ra.str_
      obtain rfl := rb.int_
      obtain ⟨t, rfl⟩ := rx
      obtain ⟨t', rfl⟩ := ry
      exact mul_texts I hc.1 hc.2.1 hc.2.2 (f.str l)
    · cases e
  · split at e
    · rename_i hc
      cases e
      obtain ⟨p, vs, rfl, h1, r1⟩ := rd_lst l ra ea
      obtain ⟨q, us, rfl, h2, r2⟩ := rd_lst l rb eb
      cases rx
      cases ry
      exact cat_lists (v := .none) (u := .none) I h1 h2 (by rw [← r1.len, ← r2.len]; exact hc) (f.lst l (r1.append r2))
    · cases e
  · split at e
    · rename_i hc
      cases e; obtain rfl := rd_tup ea; obtain rfl := rd_tup eb
      obtain ⟨p, vs, rfl, h1, r1⟩ := ra.tup_rd
      obtain ⟨q, us, rfl, h2, r2⟩ := rb.tup_rd
      refine op_catA pins s σ H _ _ v u Q I rx ry ⟨p, q, vs, us, rfl, rfl, h1.sq, h2.sq, by rw [← r1.len, ← r2.len]; exact hc, fun e => ?_, fun _ e => ?_, fun _ _ => f.tup l (r1.append r2)⟩
      · subst e
        refine f _ _ .refl l ?_
        have : ∀ {ws : List W}, RWs X.K H S ws [] → ws = [] := fun {ws} z => List.length_eq_zero_iff.mp z.len
        rw [this r1]
        exact rb
      · subst e
        refine f _ _ .refl l ?_
        have : ∀ {ws : List W}, RWs X.K H S ws [] → ws = [] := fun {ws} z => List.length_eq_zero_iff.mp z.len
        rw [this r2, List.append_nil]
        exact ra
    · cases e
  · split at e
    · rename_i hc
      subst hc
      cases e; obtain rfl := rd_tup ea; obtain rfl := rd_int eb
      have ra' := ra
      obtain ⟨p, vs, rfl, h1, r1⟩ := ra.tup_rd
      obtain rfl := rb.int_
      exact op_rep1 pins s σ H _ _ v u Q I rx ry ⟨p, vs, rfl, rfl, h1.sq, f _ _ .refl l ra'⟩
    · split at e
      case isFalse => cases e
      rename_i hc
      cases e; obtain rfl := rd_tup ea; obtain rfl := rd_int eb
      obtain ⟨p, vs, rfl, h1, r1⟩ := ra.tup_rd
      obtain rfl := rb.int_
      have rep : ∀ n, RWs X.K H S (List.replicate n _).flatten (List.replicate n vs).flatten := fun n => by
        induction n with
        | zero => exact .nil
        | succ n ih => rw [List.replicate_succ, List.replicate_succ, List.flatten_cons, List.flatten_cons]; exact r1.append ih
      have ne : vs ≠ [] := fun z => by subst z; exact hc.2.2.2 (List.length_eq_zero_iff.mp r1.len)
      exact op_repT pins s σ H _ _ v u Q I rx ry ⟨p, _, vs, rfl, rfl, h1.sq, ne, hc.1, hc.2.1, by rw [← r1.len]; exact hc.2.2.1, f.tup l (rep _)⟩
  · cases e
/-- + of rows, to be changed -/
def rCat (K : PySem.W.Frag) : R2 := fun x y H Qh => ∃ S a b xs ys, LinkS K H S ∧ RW K H S a x ∧ RW K H S b y ∧ rd S a = .lst xs ∧ rd S b = .lst ys ∧ xs.length + ys.length ≤ sizeLine ∧
  ∀ p vs, H p = none → RWs K H S (xs ++ ys) vs → Qh (.ref p) (upd H p (.lst vs))
theorem op_cat : OpR X (binaryOp .Add) (rCat X.K) := by
  intro pins s σ H x y v u Q I rx ry ⟨S, a, b, xs, ys, l, ra, rb, ea, eb, hz, f⟩
  obtain ⟨p, vs, rfl, h1, r1⟩ := rd_lst l ra ea
  obtain ⟨q, us, rfl, h2, r2⟩ := rd_lst l rb eb
  cases rx
  cases ry
  exact cat_lists (v := .none) (u := .none) I h1 h2 (by rw [← r1.len, ← r2.len]; exact hz) fun p hp => f p _ hp (r1.append r2)
end
end PD

set_option Elab.async false
set_option linter.all false
set_option maxRecDepth 100000
set_option maxHeartbeats 4000000
namespace PD
open PySem PySem.Spec PyProof.Rows L2

/-! ## keys, dicts -/
section
variable {K : PySem.W.Frag} {H : Hp} {S : Sto}
theorem RW.key {w : W} {v : V} {k : Key} (h : RW K H S w v) (e : keyOf w = some k) : v = kV k := by
  cases w <;> first | (cases e; unfold RW at h; exact h) | cases e
theorem dget {H : Hp} {a : Addr} {kvs : List (Key × V)} {k : Key} (e : Rd H a (.dK kvs)) : DGet H a (kV k) (valV kvs k) := .inl ⟨kvs, k, e, rfl, rfl⟩
theorem look_val : ∀ {kvs : List (Key × V)} {ws : List W} {k : Key}, RWs K H S ws (kvs.map (·.2)) →
    (∀ w, look (kvs.map (·.1)) ws k = some w → ∃ v, valV kvs k = some v ∧ RW K H S w v) ∧ (look (kvs.map (·.1)) ws k = none → valV kvs k = none)
  | [], ws, k, h => ⟨fun w e => (by cases ws <;> cases e), fun _ => rfl⟩
  | (k', v) :: r, ws, k, h => by
    cases ws with
    | nil => unfold RWs at h; cases h
    | cons w ws =>
      unfold RWs at h
      obtain ⟨v', vs, e, h2, h3⟩ := h
      have e' : v :: r.map (·.2) = v' :: vs := e
      cases e'
      obtain ⟨i1, i2⟩ := look_val (k := k) h3
      have un : look (((k', v) :: r).map (·.1)) (w :: ws) k = if k' = k then some w else look (r.map (·.1)) ws k := rfl
      by_cases q : k' = k
      · rw [un, if_pos q]
        exact ⟨fun u z => by cases z; exact ⟨v, valV_pos q, h2⟩, fun z => by cases z⟩
      · rw [un, if_neg q]
        have e2 : valV ((k', v) :: r) k = valV r k := by simp [valV, List.find?_cons, q]
        rw [e2]
        exact ⟨i1, i2⟩
theorem put_keys : ∀ (kvs : List (Key × V)) (ws : List W) (k : Key) (v : V) (w : W), (putKW (kvs.map (·.1)) ws k w).1 = (L2.putK kvs k v).map (·.1) := fun kvs ws k v w => by
  unfold putKW L2.putK
  have e : ((kvs.map (·.1)).any fun x => decide (x = k)) = kvs.any fun kv => decide (kv.1 = k) := by rw [List.any_map]; rfl
  rw [e]
  split
  · rw [List.map_map]
    refine List.map_congr_left fun p _ => ?_
    show p.1 = (if p.1 = k then (p.1, v) else p).1
    split <;> rfl
  · rw [List.map_append]; rfl
theorem set_vals : ∀ {kvs : List (Key × V)} {ws : List W} {k : Key} {v : V} {w : W}, RWs K H S ws (kvs.map (·.2)) → RW K H S w v →
    RWs K H S (setAt k w (kvs.map (·.1)) ws) ((kvs.map fun kv => if kv.1 = k then (kv.1, v) else kv).map (·.2))
  | [], ws, k, v, w, h, r => by
    have : setAt k w ([] : List Key) ws = [] := by cases ws <;> rfl
    show RWs K H S (setAt k w [] ws) []
    rw [this]; exact .nil
  | (k', v') :: t, ws, k, v, w, h, r => by
    cases ws with
    | nil => unfold RWs at h; cases h
    | cons w' ws =>
      unfold RWs at h
      obtain ⟨v2, vs, e, h2, h3⟩ := h
      have e' : v' :: t.map (·.2) = v2 :: vs := e
      cases e'
      have ih := set_vals (k := k) h3 r
      show RWs K H S ((if k' = k then w else w') :: setAt k w (t.map (·.1)) ws) (((if k' = k then (k', v) else (k', v')) : Key × V).2 :: _)
      refine .cons ?_ ih
      split
      · exact r
      · exact h2
theorem put_vals {kvs : List (Key × V)} {ws : List W} {k : Key} {v : V} {w : W} (h : RWs K H S ws (kvs.map (·.2))) (r : RW K H S w v) :
    RWs K H S (putKW (kvs.map (·.1)) ws k w).2 ((L2.putK kvs k v).map (·.2)) := by
  unfold putKW L2.putK
  have e : ((kvs.map (·.1)).any fun x => decide (x = k)) = kvs.any fun kv => decide (kv.1 = k) := by rw [List.any_map]; rfl
  rw [e]
  split
  · exact set_vals h r
  · rw [List.map_append]
    exact h.append (.cons r .nil)
end

section
variable {X : Cx} {pins : List (Addr × Obj)} {σ : L2.St} {H : Hp} {S : Sto} {s : Shared}
/-! ## comparisons -/
def rCmp (K : PySem.W.Frag) (op : CmpOp) : R2 := fun x y H Q => ∃ S a b r, LinkS K H S ∧ RW K H S a x ∧ RW K H S b y ∧ cmpW op (rd S a) (rd S b) = some r ∧ Q (.bl r) H
theorem okD_d {d : PyData} (h : okD d = true) : d.plain = true ∧ d.depth ≤ 60 := by
  unfold okD at h
  rw [Bool.and_eq_true] at h
  exact ⟨h.1, of_decide_eq_true h.2⟩
theorem eqD_some {a b : W} {r : Bool} (e : eqD a b = some r) : ∃ x y, a.d = some x ∧ b.d = some y ∧ okD x = true ∧ okD y = true ∧ r = PyData.eqv x y := by
  unfold eqD at e
  cases qa : a.d with
  | none => rw [qa] at e; cases e
  | some x =>
    cases qb : b.d with
    | none => rw [qa, qb] at e; cases e
    | some y =>
      rw [qa, qb] at e
      have e' : (if okD x && okD y then some (PyData.eqv x y) else none) = some r := e
      split at e'
      · rename_i h
        rw [Bool.and_eq_true] at h
        cases e'
        exact ⟨x, y, rfl, rfl, h.1, h.2, rfl⟩
      · cases e'
theorem eqW_some {a b : W} {r : Bool} (e : eqW a b = some r) : (∃ x y, a.d = some x ∧ b.d = some y ∧ okD x = true ∧ okD y = true ∧ r = PyData.eqv x y) ∨ ∃ xs, a = .tup xs ∧ b = .tup [] ∧ r = xs.isEmpty := by
  unfold eqW at e
  cases q : eqD a b with
  | some r' => rw [q] at e; cases e; exact .inl (eqD_some q)
  | none =>
    rw [q] at e
    have e' : eqT a b = some r := e
    unfold eqT at e'
    split at e'
    · cases e'; exact .inr ⟨_, rfl, rfl, rfl⟩
    · cases e'
theorem inL_some {x : W} {ys : List W} {r : Bool} (e : inL x ys = some r) : ∃ ds d, W.ds ys = some ds ∧ x.d = some d ∧ PyData.plainAll ds = true ∧ PyData.depthAll ds ≤ 60 ∧ okD d = true ∧ r = ds.any fun y => PyData.eqv y d := by
  unfold inL at e
  cases qa : W.ds ys with
  | none => rw [qa] at e; cases e
  | some ds =>
    cases qb : x.d with
    | none => rw [qa, qb] at e; cases e
    | some d =>
      rw [qa, qb] at e
      have e' : (if okDs ds && okD d then some (ds.any fun y => PyData.eqv y d) else none) = some r := e
      split at e'
      · rename_i h
        rw [Bool.and_eq_true] at h
        cases e'
        have h1 := h.1
        unfold okDs at h1
        rw [Bool.and_eq_true] at h1
        exact ⟨ds, d, rfl, rfl, h1.1, of_decide_eq_true h1.2, h.2, rfl⟩
      · cases e'
theorem isN_of {K : PySem.W.Frag} {a : W} {x : V} (h : RW K H S a x) : isN a = decide (x = .non) := by
  cases a with
  | non => unfold RW at h; subst h; rfl
  | bl b => unfold RW at h; subst h; rfl
  | int b => unfold RW at h; subst h; rfl
  | str b => unfold RW at h; subst h; rfl
  | ref b => unfold RW at h; subst h; rfl
  | tup b => unfold RW at h; obtain ⟨_, _, rfl, _⟩ := h; rfl
  | lst b => unfold RW at h; obtain ⟨_, _, rfl, _⟩ := h; rfl
  | dct b c => unfold RW at h; obtain ⟨_, _, rfl, _⟩ := h; rfl
  | exc => unfold RW at h; exact h.elim
theorem isN_rd (a : W) : isN (rd S a) = isN a := by
  cases a with
  | ref b =>
    show isN (match S b with | some (.lst xs) => W.lst xs | some (.dct ks ws) => .dct ks ws | none => .ref b) = false
    split <;> rfl
  | _ => rfl
theorem eqT_at (I : Inv X pins σ H s) {x y : V} {v u : Value} {a b : W} {xs : List W} (l : LinkS X.K H S) (ra : RW X.K H S a x) (rb : RW X.K H S b y) (ea : rd S a = .tup xs) (eb : rd S b = .tup []) (rx : RelV x v) (ry : RelV y u) :
    ∃ p q its its2, v = .ref p ∧ u = .ref q ∧ s.heap.IsTuple p its ∧ s.heap.IsTuple q its2 ∧ its2.size = 0 ∧ its.size = xs.length := by
  obtain rfl := rd_eq ea (by intro _ q; cases q) (by intro _ _ q; cases q)
  obtain rfl := rd_eq eb (by intro _ q; cases q) (by intro _ _ q; cases q)
  unfold RW at ra rb
  obtain ⟨p, vs, rfl, h2, h3⟩ := ra
  obtain ⟨q, us, rfl, k2, k3⟩ := rb
  obtain ⟨its, hv, ht, _⟩ := I.tuple h2.sq
  obtain ⟨its2, hv2, ht2, _⟩ := I.tuple k2.sq
  cases rx
  cases ry
  refine ⟨p, q, its.toArray, its2.toArray, rfl, rfl, ht, ht2, ?_, ?_⟩
  · have e1 := RWs.len k3
    have e2 := hv2.length
    rw [List.size_toArray]
    rw [List.length_nil] at e1
    omega
  · have e1 := RWs.len h3
    have e2 := hv.length
    rw [List.size_toArray]
    omega
theorem range_none {e : Nat → Bool} {n m : Nat} (h : m = 0) : ((List.range (min n m)).all e && n == m) = (n == 0) := by
  subst h
  rw [Nat.min_zero]
  simp
theorem op_cmp (hu : X.A.units + 64 < cLine) (op : CmpOp) : OpR X (compareOp op) (rCmp X.K op) := by
  intro pins s σ H x y v u Q I rx ry h
  obtain ⟨S, a, b, r, l, ra, rb, e, f⟩ := h
  have fin : EP X pins σ Q (.bool r) s := ⟨.bl r, H, I, rfl, f⟩
  generalize ea : rd S a = a' at e
  generalize eb : rd S b = b' at e
  unfold cmpW at e
  split at e
  · rcases eqW_some e with ⟨p, q, d1, d2, o1, o2, rfl⟩ | ⟨xs, rfl, rfl, rfl⟩
    · obtain ⟨as, r1⟩ := Dp.reads I p x v (rd_dp l ra (by rw [ea]; exact d1)) rx
      obtain ⟨bs, r2⟩ := Dp.reads I q y u (rd_dp l rb (by rw [eb]; exact d2)) ry
      have h1 := okD_d o1
      have h2 := okD_d o2
      exact SeqAt.eq_plain r1 r2 h1.1 h2.1 (by have := h1.2; omega) fin
    · obtain ⟨p, q, its, its2, rfl, rfl, t1, t2, z2, z1⟩ := eqT_at I l ra rb ea eb rx ry
      have := SeqAt.RcAt.tuples (A := X.A) (e := fun _ => true) t1 t2 (by omega) (fun j _ j2 => by omega)
      rw [range_none z2, z1] at this
      exact this _ _ _ _ (by
        have e0 : (xs.length == 0) = xs.isEmpty := by cases xs <;> rfl
        rw [e0]; exact fin)
  · cases e1 : eqW a' b' with
    | none => rw [e1] at e; cases e
    | some r' =>
      rw [e1] at e
      cases e
      rcases eqW_some e1 with ⟨p, q, d1, d2, o1, o2, rfl⟩ | ⟨xs, rfl, rfl, rfl⟩
      · obtain ⟨as, r1⟩ := Dp.reads I p x v (rd_dp l ra (by rw [ea]; exact d1)) rx
        obtain ⟨bs, r2⟩ := Dp.reads I q y u (rd_dp l rb (by rw [eb]; exact d2)) ry
        have h1 := okD_d o1
        have h2 := okD_d o2
        exact SeqAt.ne_plain r1 r2 h1.1 h2.1 (by have := h1.2; omega) fin
      · obtain ⟨p, q, its, its2, rfl, rfl, t1, t2, z2, z1⟩ := eqT_at I l ra rb ea eb rx ry
        have := SeqAt.RcNeAt.tuples (A := X.A) (e := fun _ => true) t1 t2 (by omega) (fun j _ j2 => by omega)
        rw [range_none z2, z1] at this
        exact this _ _ _ _ (by
          have e0 : (xs.length == 0) = xs.isEmpty := by cases xs <;> rfl
          rw [e0]; exact fin)
  · cases e; obtain rfl := rd_int ea; obtain rfl := rd_int eb
    exact op_lt pins s σ H x y v u Q I rx ry ⟨_, _, ra.int_, rb.int_, f⟩
  · cases e; obtain rfl := rd_int ea; obtain rfl := rd_int eb
    exact op_le pins s σ H x y v u Q I rx ry ⟨_, _, ra.int_, rb.int_, f⟩
  · cases e; obtain rfl := rd_int ea; obtain rfl := rd_int eb
    exact op_gt pins s σ H x y v u Q I rx ry ⟨_, _, ra.int_, rb.int_, f⟩
  · cases e; obtain rfl := rd_int ea; obtain rfl := rd_int eb
    exact op_ge pins s σ H x y v u Q I rx ry ⟨_, _, ra.int_, rb.int_, f⟩
  · unfold inW at e
    split at e
    · obtain ⟨ds, d, d1, d2, o1, o3, o2, rfl⟩ := inL_some e
      obtain ⟨as, r1⟩ := Dp.reads I _ y u (rd_dp (d := .list ds) l rb (by rw [eb]; unfold W.d; rw [d1]; rfl)) ry
      obtain ⟨bs, r2⟩ := Dp.reads I d x v (rd_dp l ra (by rw [ea]; exact d2)) rx
      exact SeqAt.in_list_data r1 r2 o1 (okD_d o2).1 (by have := (okD_d o2).2; omega) fin
    · obtain ⟨ds, d, d1, d2, o1, o3, o2, rfl⟩ := inL_some e
      obtain ⟨as, r1⟩ := Dp.reads I _ y u (rd_dp (d := .tuple ds) l rb (by rw [eb]; unfold W.d; rw [d1]; rfl)) ry
      obtain ⟨bs, r2⟩ := Dp.reads I d x v (rd_dp l ra (by rw [ea]; exact d2)) rx
      exact SeqAt.in_tuple_data r1 r2 o1 (okD_d o2).1 (by have := (okD_d o2).2; omega) fin
    · rename_i ks ws
      cases ek : keyOf a' with
      | none => rw [ek] at e; cases e
      | some k =>
        rw [ek] at e
        have e' : some (look ks ws k).isSome = some r := e
        cases e'
        have ha : a = a' := by
          cases a' <;> first | (cases ek; done) | exact rd_eq ea (by intro _ q; cases q) (by intro _ _ q; cases q)
        subst ha
        obtain ⟨p, kvs, rfl, h1, rfl, h3⟩ := rd_dct l rb eb
        obtain rfl := ra.key ek
        obtain rfl : u = Value.ref p := ry
        obtain ⟨i1, i2⟩ := look_val (k := k) h3
        refine d_in (by omega) I (dget h1) rx fun s3 I3 => ?_
        have : (valV kvs k).isSome = (look (kvs.map (·.1)) ws k).isSome := by
          cases q : look (kvs.map (·.1)) ws k with
          | none => rw [i2 q]; rfl
          | some w => obtain ⟨v', z, _⟩ := i1 w q; rw [z]; rfl
        rw [this]
        exact ⟨.bl _, H, I3, rfl, f⟩
    · rename_i c z
      cases e
      obtain rfl := rd_str ea
      obtain rfl := rd_str eb
      exact op_in_sign pins s σ H x y v u Q I rx ry ⟨c, z, ra.str_, rb.str_, f⟩
    · cases e
  · cases e1 : inW a' b' with
    | none => rw [e1] at e; cases e
    | some r' =>
    rw [e1] at e
    cases e
    unfold inW at e1
    split at e1
    · obtain ⟨ds, d, d1, d2, o1, o3, o2, rfl⟩ := inL_some e1
      obtain ⟨as, r1⟩ := Dp.reads I _ y u (rd_dp (d := .list ds) l rb (by rw [eb]; unfold W.d; rw [d1]; rfl)) ry
      obtain ⟨bs, r2⟩ := Dp.reads I d x v (rd_dp l ra (by rw [ea]; exact d2)) rx
      exact SeqAt.notIn_list_data r1 r2 o1 (okD_d o2).1 (by have := (okD_d o2).2; omega) fin
    · obtain ⟨ds, d, d1, d2, o1, o3, o2, rfl⟩ := inL_some e1
      obtain ⟨as, r1⟩ := Dp.reads I _ y u (rd_dp (d := .tuple ds) l rb (by rw [eb]; unfold W.d; rw [d1]; rfl)) ry
      obtain ⟨bs, r2⟩ := Dp.reads I d x v (rd_dp l ra (by rw [ea]; exact d2)) rx
      exact SeqAt.notIn_tuple_data r1 r2 o1 (okD_d o2).1 (by have := (okD_d o2).2; omega) fin
    · rename_i ks ws
      cases ek : keyOf a' with
      | none => rw [ek] at e1; cases e1
      | some k =>
        rw [ek] at e1
        have e' : some (look ks ws k).isSome = some r' := e1
        cases e'
        have ha : a = a' := by
          cases a' <;> first | (cases ek; done) | exact rd_eq ea (by intro _ q; cases q) (by intro _ _ q; cases q)
        subst ha
        obtain ⟨p, kvs, rfl, h1, rfl, h3⟩ := rd_dct l rb eb
        obtain rfl := ra.key ek
        obtain rfl : u = Value.ref p := ry
        obtain ⟨i1, i2⟩ := look_val (k := k) h3
        refine d_notIn (by omega) I (dget h1) rx fun s3 I3 => ?_
        have : (valV kvs k).isSome = (look (kvs.map (·.1)) ws k).isSome := by
          cases q : look (kvs.map (·.1)) ws k with
          | none => rw [i2 q]; rfl
          | some w => obtain ⟨v', z, _⟩ := i1 w q; rw [z]; rfl
        rw [this]
        exact ⟨.bl _, H, I3, rfl, f⟩
    · rename_i c z
      cases e1
      obtain rfl := rd_str ea
      obtain rfl := rd_str eb
      exact op_notIn_sign pins s σ H x y v u Q I rx ry ⟨c, z, ra.str_, rb.str_, f⟩
    · cases e1
  · cases e
    obtain rfl := rd_non eb
    refine op_isN pins s σ H x y v u Q I rx ry ⟨by unfold RW at rb; exact rb, ?_⟩
    rw [← isN_of ra, ← isN_rd (S := S) a, ea]
    exact f
  · cases e
    obtain rfl := rd_non eb
    refine op_notN pins s σ H x y v u Q I rx ry ⟨by unfold RW at rb; exact rb, ?_⟩
    rw [← isN_of ra, ← isN_rd (S := S) a, ea]
    exact f
  · cases e
/-! ## unary -/
def rUn (K : PySem.W.Frag) (op : UnaryOp) : V → Hp → VK → Prop := fun x H Q => ∃ S a r, LinkS K H S ∧ RW K H S a x ∧ unW op a = some r ∧ Fin K H S r Q
theorem un_neg' : UnR X (unaryOp .USub) (rUn X.K .USub) := by
  intro pins s σ H x v Q I rx h
  obtain ⟨S, a, r, l, ra, e, f⟩ := h
  cases a <;> first | (cases e; done) | skip
  cases e
  exact un_neg pins s σ H x v Q I rx ⟨_, ra.int_, f.int l⟩
end
end PD

set_option Elab.async false
set_option linter.all false
set_option maxRecDepth 100000
set_option maxHeartbeats 4000000
namespace PD
open PySem PySem.Spec PyProof.Rows L2

section
variable {K : PySem.W.Frag} {H : Hp} {S : Sto}
theorem RW.n : RW K H S .non .non := by unfold RW; rfl
theorem RW.b {b : Bool} : RW K H S (.bl b) (.bl b) := by unfold RW; rfl
theorem RW.i {i : Int} : RW K H S (.int i) (.int i) := by unfold RW; rfl
theorem RW.s {x : Str} : RW K H S (.str x) (.str x) := by unfold RW; rfl
theorem RW.r {p : Addr} : RW K H S (.ref p) (.ref p) := by unfold RW; rfl
theorem RO.l {ws : List W} {vs : List V} (h : RWs K H S ws vs) : RO K H S (.lst ws) (.lst vs) := ⟨vs, rfl, h⟩
theorem RO.d {ks : List Key} {ws : List W} {kvs : List (Key × V)} (e : kvs.map (·.1) = ks) (h : RWs K H S ws (kvs.map (·.2))) : RO K H S (.dct ks ws) (.dK kvs) := ⟨kvs, rfl, e, h⟩
theorem RWs.cut {ws : List W} {vs : List V} (h : RWs K H S ws vs) (lo hi : Option Int) : RWs K H S (cutW ws lo hi) (cutV vs lo hi) := by
  unfold cutW cutV
  rw [h.len]
  exact (h.drop _).take _
theorem RWs.at {ws : List W} {vs : List V} {i : Int} {w : W} (h : RWs K H S ws vs) (e : atI ws i = some w) : ∃ v, atI vs i = some v ∧ RW K H S w v := by
  unfold atI at e ⊢
  rw [h.len] at e
  cases q : ixN vs.length i with
  | none => rw [q] at e; cases e
  | some j =>
    rw [q] at e
    exact RWs.get h e
theorem RWs.toInts : ∀ {ws : List W} {vs : List V} {ns : List Int}, RWs K H S ws vs → intsW ws = some ns → vs = ns.map V.int
  | [], vs, ns, h, e => by unfold RWs at h; cases e; rw [h]; rfl
  | w :: ws, vs, ns, h, e => by
    unfold RWs at h
    obtain ⟨v, r, rfl, h2, h3⟩ := h
    cases w <;> first | (cases e; done) | skip
    rename_i i
    have e' : (intsW ws).map (i :: ·) = some ns := e
    cases q : intsW ws with
    | none => rw [q] at e'; cases e'
    | some ms =>
      rw [q] at e'; cases e'
      rw [h2.int_, RWs.toInts h3 q]; rfl
theorem RWs.toBools : ∀ {ws : List W} {vs : List V} {ns : List Bool}, RWs K H S ws vs → boolsW ws = some ns → vs = ns.map V.bl
  | [], vs, ns, h, e => by unfold RWs at h; cases e; rw [h]; rfl
  | w :: ws, vs, ns, h, e => by
    unfold RWs at h
    obtain ⟨v, r, rfl, h2, h3⟩ := h
    cases w <;> first | (cases e; done) | skip
    rename_i i
    have e' : (boolsW ws).map (i :: ·) = some ns := e
    cases q : boolsW ws with
    | none => rw [q] at e'; cases e'
    | some ms =>
      rw [q] at e'; cases e'
      rw [h2.bl_, RWs.toBools h3 q]; rfl
end

section
variable {X : Cx} {pins : List (Addr × Obj)} {σ : L2.St} {H : Hp} {S : Sto} {s : Shared}
/-! ## subscripts -/
def rIxW (K : PySem.W.Frag) : R2 := fun x y H Q => ∃ S a b r, LinkS K H S ∧ RW K H S a x ∧ RW K H S b y ∧ ixW (rd S a) b = some r ∧ ∀ v, RW K H S r v → Q v H
theorem ix_W (hu : X.A.units + 64 < cLine) : IxR X (rIxW X.K) := by
  intro value slice pins s σ H x y v u Q I rx ry h hs
  obtain ⟨S, a, b, r, l, ra, rb, e, f⟩ := h
  generalize ea : rd S a = a' at e
  unfold ixW at e
  split at e
  · obtain ⟨p, vs, rfl, h1, r1⟩ := rd_lst l ra ea
    obtain ⟨v', e1, r2⟩ := r1.at e
    exact ix_list value slice pins s σ H _ y v u Q I rx ry ⟨p, vs, _, v', rfl, rb.int_, h1, e1, f v' r2⟩ hs
  · obtain rfl := rd_tup ea
    obtain ⟨p, vs, rfl, h1, r1⟩ := ra.tup_rd
    obtain ⟨v', e1, r2⟩ := r1.at e
    exact ix_tup value slice pins s σ H _ y v u Q I rx ry ⟨p, vs, _, v', rfl, rb.int_, h1.sq, e1, f v' r2⟩ hs
  · split at e
    · rename_i z i hz
      obtain rfl := rd_str ea
      cases q : atI z.cps.toList i with
      | none => rw [q] at e; cases e
      | some c =>
        rw [q] at e; cases e
        exact ix_str value slice pins s σ H x y v u Q I rx ry ⟨z, i, c, ra.str_, rb.int_, hz, q, f _ (by unfold RW; rfl)⟩ hs
    · cases e
  · rename_i ks ws
    cases ek : keyOf b with
    | none => rw [ek] at e; cases e
    | some k =>
      rw [ek] at e
      obtain ⟨p, kvs, rfl, h1, rfl, h3⟩ := rd_dct l ra ea
      obtain rfl := rb.key ek
      obtain rfl : v = Value.ref p := rx
      obtain ⟨v', e1, r2⟩ := (look_val (k := k) h3).1 r e
      have g : DGet H p (kV k) (some v') := by
        have := dget (k := k) h1
        rw [e1] at this
        exact this
      exact tail_any (dict_typeIs I g) PySem.F.slot_dict_getitem.lookup (d_getItem (by omega) I g ry fun w' s3 I3 rw' => ⟨v', H, I3, rw', f v' r2⟩) hs
  · cases e
/-! ## slices -/
def rSlW (K : PySem.W.Frag) : V → Option Int → Option Int → Hp → VK → Prop := fun x lo hi H Q => ∃ S a r, LinkS K H S ∧ RW K H S a x ∧ slcW (rd S a) lo hi = some r ∧ Fin K H S r Q
theorem sl_W : SlR X (rSlW X.K) := by
  intro pins s σ H x v vl vu lo hi sl Q I rx hs pl pu h
  obtain ⟨S, a, r, l, ra, e, f⟩ := h
  generalize ea : rd S a = a' at e
  unfold slcW at e
  split at e
  · cases e
    obtain ⟨p, vs, rfl, h1, r1⟩ := rd_lst l ra ea
    exact sl_list pins s σ H _ v vl vu lo hi sl Q I rx hs pl pu ⟨p, vs, rfl, h1, f.lst l (r1.cut lo hi)⟩
  · cases e
    obtain rfl := rd_tup ea
    obtain ⟨p, vs, rfl, h1, r1⟩ := ra.tup_rd
    refine sl_tupA pins s σ H _ v vl vu lo hi sl Q I rx hs pl pu ⟨p, vs, rfl, h1.sq, fun w => f _ _ .refl l ?_, fun _ => f.tup l (r1.cut lo hi)⟩
    have whole : ∀ {zs : List W}, RWs X.K H S zs vs → cutW zs lo hi = zs := fun {zs} r1 => by
      unfold cutW
      rw [r1.len, w.1, w.2, List.drop_zero, Nat.sub_zero, ← r1.len, List.take_length]
    rw [whole r1]
    exact ra
  · split at e
    · rename_i hz
      cases e
      obtain rfl := rd_str ea
      exact sl_str pins s σ H x v vl vu lo hi sl Q I rx hs pl pu ⟨_, ra.str_, hz, f.str l⟩
    · cases e
  · cases e

/-! ## built-in calls -/
abbrev FinS (K : PySem.W.Frag) (H : Hp) (S : Sto) (Q : QW) (Qh : VK) : Prop := ∀ r S' v H', Ext H S H' S' → LinkS K H' S' → RW K H' S' r v → Q r S' → Qh v H'
def rBi (K : PySem.W.Frag) (b : Bi) : List V → Hp → VK → Prop := fun vs H Qh => ∃ S ws Q, LinkS K H S ∧ RWs K H S ws vs ∧ biW b ws S Q ∧ FinS K H S Q Qh
theorem RWs.one {K : PySem.W.Frag} {w : W} {vs : List V} (h : RWs K H S [w] vs) : ∃ v, vs = [v] ∧ RW K H S w v := by
  unfold RWs at h
  obtain ⟨v, r, rfl, h2, h3⟩ := h
  unfold RWs at h3
  subst h3
  exact ⟨v, rfl, h2⟩
theorem RWs.two {K : PySem.W.Frag} {w w' : W} {vs : List V} (h : RWs K H S [w, w'] vs) : ∃ v v', vs = [v, v'] ∧ RW K H S w v ∧ RW K H S w' v' := by
  unfold RWs at h
  obtain ⟨v, r, rfl, h2, h3⟩ := h
  obtain ⟨v', rfl, h4⟩ := h3.one
  exact ⟨v, v', rfl, h2, h4⟩
theorem bi_len : CallR X (.builtin "len") (rBi X.K .len) := by
  intro pins s σ H xs us Q I rv h
  obtain ⟨S, ws, Q', l, r, h, f⟩ := h
  match ws, h with
  | [w], h =>
    obtain ⟨q, e, h⟩ := h
    obtain ⟨v, rfl, rw1⟩ := r.one
    generalize ea : rd S w = a' at e
    unfold lenW at e
    split at e
    · cases e
      obtain ⟨p, vs, rfl, h1, r1⟩ := rd_lst l rw1 ea
      refine call_len pins s σ H _ us Q I rv ⟨_, vs.length, rfl, .inl ⟨vs, h1, rfl⟩, ?_⟩
      rw [← r1.len]
      exact f _ _ _ _ .refl l .i h
    · cases e
      obtain rfl := rd_tup ea
      obtain ⟨p, vs, rfl, h1, r1⟩ := rw1.tup_rd
      refine call_len pins s σ H _ us Q I rv ⟨_, vs.length, rfl, .inr ⟨vs, h1.sq, rfl⟩, ?_⟩
      rw [← r1.len]
      exact f _ _ _ _ .refl l .i h
    · split at e
      · rename_i hz
        cases e
        obtain rfl := rd_str ea
        obtain rfl := rw1.str_
        exact call_len pins s σ H _ us Q I rv ⟨_, _, rfl, ⟨hz, rfl⟩, f _ _ _ _ .refl l .i h⟩
      · cases e
    · cases e
      obtain ⟨p, kvs, rfl, h1, rfl, h3⟩ := rd_dct l rw1 ea
      obtain ⟨u, rfl, ru⟩ := rv.one
      obtain rfl : u = Value.ref p := ru
      refine d_len I h1 fun t s' I' => ⟨.int _, H, I', ⟨t, rfl⟩, f _ _ _ _ .refl l .i (by rw [List.length_map] at h; exact h)⟩
    · cases e
theorem bi_abs : CallR X (.builtin "abs") (rBi X.K .abs) := by
  intro pins s σ H xs us Q I rv h
  obtain ⟨S, ws, Q', l, r, h, f⟩ := h
  match ws, h with
  | [.int i], h =>
    obtain ⟨v, rfl, rw1⟩ := r.one
    obtain rfl := rw1.int_
    refine call_abs pins s σ H _ us Q I rv ⟨i, rfl, ?_⟩
    have e : (if i < 0 then -i else i) = (i.natAbs : Int) := by split <;> omega
    rw [e]
    exact f _ _ _ _ .refl l .i h
theorem bi_tuple : CallR X (.type "tuple") (rBi X.K .tuple) := by
  intro pins s σ H xs us Q I rv h
  obtain ⟨S, ws, Q', l, r, h, f⟩ := h
  match ws, h with
  | [w], h =>
    obtain ⟨ys, hq, h⟩ := h
    obtain ⟨v, rfl, rw1⟩ := r.one
    rcases hq with hq | rfl
    · obtain ⟨p, vs, rfl, h1, r1⟩ := rd_lst l rw1 hq
      exact call_tuple_of pins s σ H _ us Q I rv ⟨p, vs, rfl, .inl ⟨h1, Fin.tup l r1 fun v H' e l' r' => f _ _ _ _ e l' r' h⟩⟩
    · obtain ⟨p, vs, rfl, h1, r1⟩ := rw1.tup_rd
      exact call_tuple_of pins s σ H _ us Q I rv ⟨p, vs, rfl, .inr ⟨h1.sq, f _ _ _ _ .refl l rw1 h⟩⟩
theorem bi_list : CallR X (.type "list") (rBi X.K .list) := by
  intro pins s σ H xs us Q I rv h
  obtain ⟨S, ws, Q', l, r, h, f⟩ := h
  have fin : ∀ {ys : List W} {vs : List V}, RWs X.K H S ys vs → (∀ p, S p = none → Q' (.ref p) (S.set p (.lst ys))) → ∀ p, H p = none → Q (.ref p) (upd H p (.lst vs)) := fun {ys vs} r1 h p hp =>
    f _ _ _ _ (ext_newS hp) (l.put (ext_newS hp) (.l r1)) .r (h p (l.fresh hp))
  match ws, h with
  | [w], h =>
    obtain ⟨ys, hq, h⟩ := h
    obtain ⟨v, rfl, rw1⟩ := r.one
    rcases hq with hq | rfl
    · obtain ⟨p, vs, rfl, h1, r1⟩ := rd_lst l rw1 hq
      exact call_list_of pins s σ H _ us Q I rv ⟨p, vs, rfl, .inl h1, fin r1 h⟩
    · obtain ⟨p, vs, rfl, h1, r1⟩ := rw1.tup_rd
      exact call_list_of pins s σ H _ us Q I rv ⟨p, vs, rfl, .inr h1.sq, fin r1 h⟩
theorem bi_sum (hc : X.calm = true) : CallR X (.builtin "sum") (rBi X.K .sum) := by
  intro pins s σ H xs us Q I rv h
  obtain ⟨S, ws, Q', l, r, h, f⟩ := h
  match ws, h with
  | [w], h =>
    obtain ⟨ys, ns, hq, hn, h⟩ := h
    obtain ⟨v, rfl, rw1⟩ := r.one
    obtain ⟨p, vs, rfl, h1, r1⟩ := rd_lst l rw1 hq
    rw [r1.toInts hn] at h1
    exact cr_sum hc pins s σ H _ us Q I rv ⟨p, ns, rfl, h1, f _ _ _ _ .refl l .i h⟩
theorem bi_any (hc : X.calm = true) : CallR X (.builtin "any") (rBi X.K .any) := by
  intro pins s σ H xs us Q I rv h
  obtain ⟨S, ws, Q', l, r, h, f⟩ := h
  match ws, h with
  | [w], h =>
    obtain ⟨ys, ns, hq, hn, h⟩ := h
    obtain ⟨v, rfl, rw1⟩ := r.one
    obtain ⟨p, vs, rfl, h1, r1⟩ := rd_lst l rw1 hq
    rw [r1.toBools hn] at h1
    exact cr_any hc pins s σ H _ us Q I rv ⟨p, ns, rfl, h1, f _ _ _ _ .refl l .b h⟩
theorem bi_all (hc : X.calm = true) : CallR X (.builtin "all") (rBi X.K .all) := by
  intro pins s σ H xs us Q I rv h
  obtain ⟨S, ws, Q', l, r, h, f⟩ := h
  match ws, h with
  | [w], h =>
    obtain ⟨ys, ns, hq, hn, h⟩ := h
    obtain ⟨v, rfl, rw1⟩ := r.one
    obtain ⟨p, vs, rfl, h1, r1⟩ := rd_lst l rw1 hq
    rw [r1.toBools hn] at h1
    exact cr_all hc pins s σ H _ us Q I rv ⟨p, ns, rfl, h1, f _ _ _ _ .refl l .b h⟩

/-! ## repr -/
theorem dds_len : ∀ {ws : List W} {ds : List PyData}, W.dds ws = some ds → ws.length = ds.length
  | [], ds, e => by unfold W.dds at e; cases e; rfl
  | w :: ws, ds, e => by
    unfold W.dds at e
    cases q : W.dd w with
    | none => rw [q] at e; cases e
    | some d =>
      cases q2 : W.dds ws with
      | none => rw [q, q2] at e; cases e
      | some ds' => rw [q, q2] at e; cases e; simp [dds_len q2]
section
variable {pins : List (Addr × Obj)} {τ : L2.St} {H : Hp} {s : Shared} {S : Sto}
theorem vals_cons {v : V} {vs : List V} {us : List Value} (h : Vals (v :: vs) us) : ∃ u r, us = u :: r ∧ RelV v u ∧ Vals vs r := by
  cases h with
  | cons a b => exact ⟨_, _, rfl, a, b⟩
theorem kv_vals : ∀ {kvs : List (Key × V)} {vs : List (Key × Value)}, KV kvs vs → Vals (kvs.map (·.2)) (vs.map (·.2)) ∧ vs.map (·.1) = kvs.map (·.1)
  | _, _, .nil => ⟨.nil, rfl⟩
  | _, _, .cons r t => let ⟨a, b⟩ := kv_vals t; ⟨.cons r.2 a, by rw [List.map_cons, List.map_cons, b, r.1]⟩
theorem pairs_keys {P : Program} {w : World} : ∀ {es : List DictEntry} {vs : List (Key × Value)}, Pairs (mixKind P w) es vs → ReadsAll s.heap (es.map (·.key)) ((vs.map (·.1)).map kD) [] ∧ es.map (·.val) = vs.map (·.2)
  | _, _, .nil => ⟨.nil, rfl⟩
  | _, _, .cons (e := e) (kv := kv) hk hv t => by
    obtain ⟨k, val⟩ := kv
    obtain ⟨a, b⟩ := pairs_keys t
    refine ⟨?_, by simp [b, hv]⟩
    have z : Reads s.heap e.key (kD k) [] := by
      rcases keyIs_shape hk with ⟨i, t, rfl, ek⟩ | ⟨x, t, rfl, ek⟩
      · rw [ek]; exact .int _ _
      · rw [ek]; exact .str _ _
    exact .cons z a
mutual
theorem rw_reads (I : Inv X pins τ H s) (nd : ∀ a o, s.heap.get? a = some o → o.cls = .type "list" → sysModules ≠ a) : ∀ (w : W) (v : V) (u : Value) (d : PyData), RW X.K H S w v → w.dd = some d → RelV v u → ∃ as, Reads s.heap u d as ∧ sysModules ∉ as
  | .non, v, u, d, h, e, r => by
    unfold RW at h; subst h; unfold W.dd at e; cases e; cases r; exact ⟨[], .none, by simp⟩
  | .bl b, v, u, d, h, e, r => by
    unfold RW at h; subst h; unfold W.dd at e; cases e; cases r; exact ⟨[], .bool _, by simp⟩
  | .int i, v, u, d, h, e, r => by
    unfold RW at h; subst h; unfold W.dd at e; cases e; obtain ⟨t, rfl⟩ := r; exact ⟨[], .int _ _, by simp⟩
  | .str x, v, u, d, h, e, r => by
    unfold RW at h; subst h; unfold W.dd at e; cases e; obtain ⟨t, rfl⟩ := r; exact ⟨[], .str _ _, by simp⟩
  | .tup xs, v, u, d, h, e, r => by
    unfold RW at h; unfold W.dd at e
    obtain ⟨a, vs, rfl, h2, h3⟩ := h
    cases r
    cases q : W.dds xs with
    | none => rw [q] at e; cases e
    | some ds =>
      rw [q] at e; cases e
      obtain ⟨its, rv, ⟨o, ho, hc, n, hd⟩, hz⟩ := I.tuple h2.sq
      obtain ⟨as, h4, h5⟩ := rws_reads I nd xs vs its ds h3 q rv
      exact ⟨as, .tuple ho hc hd (by simpa using h4), h5⟩
  | .lst xs, v, u, d, h, e, r => by
    unfold RW at h; unfold W.dd at e
    obtain ⟨a, vs, rfl, h2, h3⟩ := h
    cases r
    cases q : W.dds xs with
    | none => rw [q] at e; cases e
    | some ds =>
      rw [q] at e; cases e
      obtain ⟨its, rv, pl, hz⟩ := I.list h2.sq
      obtain ⟨o, ho, hc, n, hd⟩ := pl.isList
      obtain ⟨as, h4, h5⟩ := rws_reads I nd xs vs its ds h3 q rv
      exact ⟨a :: as, .list ho hc hd (by simpa using h4), by simp [h5, nd a o ho hc]⟩
  | .dct ks ws, v, u, d, h, e, r => by
    unfold RW at h; unfold W.dd at e
    obtain ⟨a, kvs, rfl, h1, h2, rfl, h4⟩ := h
    cases r
    cases q : W.dds ws with
    | none => rw [q] at e; cases e
    | some ds =>
      rw [q] at e; cases e
      obtain ⟨hz, hS, vs, kv, o, es, ep, ho, hx, hd, hk, hp, hn⟩ := dk_rd I.hok h2
      obtain ⟨k1, k2⟩ := kv_vals kv
      obtain ⟨p1, p2⟩ := pairs_keys (s := s) hp
      obtain ⟨as, h5, h6⟩ := rws_reads I nd ws _ _ ds h4 q k1
      have lw := h4.len
      have ld : ws.length = ds.length := dds_len q
      refine ⟨a :: [] ++ as, .dict (kvs := ((kvs.map (·.1)).map kD).zip ds) ho hx.1 hd ?_ ?_, ?_⟩
      · rw [List.map_fst_zip (by simp; simp at lw; omega), ← k2]; exact p1
      · rw [List.map_snd_zip (by simp; simp at lw; omega), p2]; exact h5
      · have hS' : a ≠ sysModules := by simpa using hS
        simp [h6, Ne.symm hS']
  | .ref _, v, u, d, h, e, r => by unfold W.dd at e; cases e
  | .exc _ _ _, v, u, d, h, e, r => by unfold W.dd at e; cases e
theorem rws_reads (I : Inv X pins τ H s) (nd : ∀ a o, s.heap.get? a = some o → o.cls = .type "list" → sysModules ≠ a) : ∀ (ws : List W) (vs : List V) (us : List Value) (ds : List PyData), RWs X.K H S ws vs → W.dds ws = some ds → Vals vs us → ∃ as, ReadsAll s.heap us ds as ∧ sysModules ∉ as
  | [], vs, us, ds, h, e, r => by
    unfold RWs at h; subst h; unfold W.dds at e; cases e; cases r; exact ⟨[], .nil, by simp⟩
  | w :: ws, vs, us, ds, h, e, r => by
    unfold RWs at h; unfold W.dds at e
    obtain ⟨v, t, rfl, h2, h3⟩ := h
    obtain ⟨u, us', rfl, r1, r2⟩ := vals_cons r
    cases q : W.dd w with
    | none => rw [q] at e; cases e
    | some d =>
      cases q2 : W.dds ws with
      | none => rw [q, q2] at e; cases e
      | some ds' =>
        rw [q, q2] at e; cases e
        obtain ⟨as, i1, i2⟩ := rw_reads I nd w v u d h2 q r1
        obtain ⟨bs, j1, j2⟩ := rws_reads I nd ws t us' ds' h3 q2 r2
        exact ⟨as ++ bs, .cons i1 j1, by simp [i2, j2]⟩
end
end
theorem bi_repr (hu : X.A.units + 200 < cLine) (hg : X.A.guards = some []) (hs : ∃ o, X.base.get? sysModules = some o ∧ o.cls = .type "dict") : CallR X (.builtin "repr") (rBi X.K .repr) := by
  intro pins s τ H xs us Q I rv h
  obtain ⟨S, ws, Q', l, r, h, f⟩ := h
  match ws, h with
  | [w], h =>
    obtain ⟨d, hd, hsh, hz, hdp, q⟩ := h
    obtain ⟨v, rfl, rw1⟩ := r.one
    obtain ⟨u, rfl, ru⟩ := rv.one
    obtain ⟨os, hos, hcl⟩ := hs
    have nd : ∀ a o, s.heap.get? a = some o → o.cls = .type "list" → sysModules ≠ a := fun a o e c z => by
      rw [← z, (I.bs _ _ hos).1] at e; cases e
      rw [hcl] at c; injection c with c; exact absurd c (by decide)
    obtain ⟨as, hr, hm⟩ := rw_reads I nd w v u d rw1 hd ru
    have fin : ∀ (h' : Heap) (u : Tok) (tk : Nat), (∀ b o, s.heap.get? b = some o → h'.get? b = some o) → EP X pins τ Q (.str d.shown u) { s with heap := h', toks := tk } := fun h' u tk kp => ⟨.str d.shown, H, I.kept (t' := tk) kp, ⟨_, rfl⟩, f _ _ _ _ .refl l .s q⟩
    by_cases ho : ∃ a, u = .ref a
    · obtain ⟨a, rfl⟩ := ho
      exact repr_of_reads' hr hsh (fun _ => hm) hg (by omega) (fun b o e => e) fin hz
    · cases w with
      | non => unfold RW at rw1; subst rw1; cases ru; unfold W.dd at hd; cases hd; exact P.repr_of_none (fin s.heap _ _ fun _ _ e => e)
      | bl b =>
        unfold RW at rw1; subst rw1; cases ru; unfold W.dd at hd; cases hd
        exact P.repr_of_bool (by
          have := fin s.heap s.toks (s.toks + 1) fun _ _ e => e
          cases b <;> exact this)
      | int i =>
        unfold RW at rw1; subst rw1; obtain ⟨t, rfl⟩ := ru; unfold W.dd at hd; cases hd
        exact P.repr_of_int (of_decide_eq_true hsh) (fin s.heap _ _ fun _ _ e => e)
      | str x => unfold RW at rw1; subst rw1; obtain ⟨t, rfl⟩ := ru; unfold W.dd at hd; cases hd; exact P.repr_of_str (fin s.heap _ _ fun _ _ e => e) hz
      | tup xs => unfold RW at rw1; obtain ⟨a, _, rfl, _⟩ := rw1; cases ru; exact (ho ⟨a, rfl⟩).elim
      | lst xs => unfold RW at rw1; obtain ⟨a, _, rfl, _⟩ := rw1; cases ru; exact (ho ⟨a, rfl⟩).elim
      | dct ks ws => unfold RW at rw1; obtain ⟨a, _, rfl, _⟩ := rw1; cases ru; exact (ho ⟨a, rfl⟩).elim
      | ref a => unfold W.dd at hd; cases hd
      | exc => unfold W.dd at hd; cases hd

/-! ## isinstance, int -/
def rIsD (K : PySem.W.Frag) (ty : Ty) : List V → Hp → VK → Prop := fun vs H Qh => ∃ S w d v, LinkS K H S ∧ vs = [v, .ty ty.id] ∧ RW K H S w v ∧ w.dd = some d ∧ Qh (.bl (isaD ty d)) H
theorem bi_isa (hs : ∃ o, X.base.get? sysModules = some o ∧ o.cls = .type "dict") (ty : Ty) : CallR X (.builtin "isinstance") (rIsD X.K ty) := by
  intro pins s τ H xs us Q I rv h
  obtain ⟨S, w, d, v, l, rfl, rw1, hd, q⟩ := h
  obtain ⟨u, r, rfl, ru, rr⟩ := vals_cons rv
  obtain ⟨u2, r2, rfl, ru2, rr2⟩ := vals_cons rr
  cases rr2
  obtain ⟨os, hos, hcl⟩ := hs
  have nd : ∀ a o, s.heap.get? a = some o → o.cls = .type "list" → sysModules ≠ a := fun a o e c z => by
    rw [← z, (I.bs _ _ hos).1] at e; cases e
    rw [hcl] at c; injection c with c; exact absurd c (by decide)
  obtain ⟨as, hr, hm⟩ := rw_reads I nd w v u d rw1 hd ru
  have fin : ∀ tk, s.toks ≤ tk → EP X pins τ Q (.bool (isaD ty d)) { s with toks := tk } := fun tk _ => ⟨.bl (isaD ty d), H, I.tok tk, rfl, q⟩
  cases ru2
  cases ty with
  | int => exact PySem.W.isinstance_int_data hr fin
  | bool => exact PySem.W.isinstance_bool_data hr fin
  | str => exact PySem.W.isinstance_str_data hr fin
  | tuple => exact PySem.W.isinstance_tuple_data hr fin
  | list => exact PySem.W.isinstance_list_data hr fin
  | dict => exact PySem.W.isinstance_dict_data hr fin

theorem bi_int : CallR X (.type "int") (rBi X.K .int) := by
  intro pins s τ H xs us Q I rv h
  obtain ⟨S, ws, Q', l, r, h, f⟩ := h
  match ws, h with
  | [.bl b], h =>
    obtain ⟨v, rfl, rw1⟩ := r.one
    obtain rfl := rw1.bl_
    obtain ⟨u, rfl, ru⟩ := rv.one
    cases ru
    exact PySem.call_int_bool ⟨.int (if b then 1 else 0), H, I.tok _, ⟨_, rfl⟩, f _ _ _ _ .refl l .i h⟩

/-! ## methods of built-in types -/
def rMt (K : PySem.W.Frag) (m : Mt) : V → List V → Hp → VK → Prop := fun x vs H Qh => ∃ S a ws Q, LinkS K H S ∧ RW K H S a x ∧ RWs K H S ws vs ∧ mtW m a ws S Q ∧ FinS K H S Q Qh
theorem mt_get (hu : X.A.units + 64 < cLine) : MtR X "dict.get" (rMt X.K .get) := by
  intro pins s σ H x xs v us Q I rx rv h
  obtain ⟨S, a, ws, Q', l, ra, r, h, f⟩ := h
  match ws, h with
  | [k], h =>
    obtain ⟨ks, vs, y, e, ek, h⟩ := h
    obtain ⟨p, kvs, rfl, h1, rfl, h3⟩ := rd_dct l ra e
    obtain ⟨v', rfl, rk⟩ := r.one
    obtain rfl := rk.key ek
    obtain ⟨u, rfl, ru⟩ := rv.one
    obtain rfl : v = Value.ref p := rx
    refine d_get1 (by omega) I (dget (k := y) h1) ru fun w' s3 I3 rw' => ⟨_, H, I3, rw', ?_⟩
    obtain ⟨i1, i2⟩ := look_val (k := y) h3
    cases q : look (kvs.map (·.1)) vs y with
    | none => rw [i2 q]; rw [q] at h; exact f _ _ _ _ .refl l .n h
    | some w => obtain ⟨v2, z, r2⟩ := i1 w q; rw [z]; rw [q] at h; exact f _ _ _ _ .refl l r2 h
  | [k, d], h =>
    obtain ⟨ks, vs, y, e, ek, h⟩ := h
    obtain ⟨p, kvs, rfl, h1, rfl, h3⟩ := rd_dct l ra e
    obtain ⟨v', vd, rfl, rk, rd'⟩ := r.two
    obtain rfl := rk.key ek
    obtain ⟨u, u2, rfl, ru, ru2⟩ := rv.two
    obtain rfl : v = Value.ref p := rx
    refine d_get2 (by omega) I (dget (k := y) h1) ru ru2 fun w' s3 I3 rw' => ⟨_, H, I3, rw', ?_⟩
    obtain ⟨i1, i2⟩ := look_val (k := y) h3
    cases q : look (kvs.map (·.1)) vs y with
    | none => rw [i2 q]; rw [q] at h; exact f _ _ _ _ .refl l rd' h
    | some w => obtain ⟨v2, z, r2⟩ := i1 w q; rw [z]; rw [q] at h; exact f _ _ _ _ .refl l r2 h
theorem mt_app : MtR X "list.append" (rMt X.K .append) := by
  intro pins s σ H x xs v us Q I rx rv h
  obtain ⟨S, a, ws, Q', l, ra, r, h, f⟩ := h
  match a, ws, h with
  | .ref p, [w], h =>
    obtain ⟨ys, e, hz, h⟩ := h
    obtain ⟨v', rfl, r1⟩ := r.one
    obtain rfl : x = V.ref p := by unfold RW at ra; exact ra
    obtain ⟨o, h1, vs, rfl, h2⟩ := l p _ e
    refine mt_append pins s σ H _ _ v us Q I rx rv ⟨p, vs, v', rfl, rfl, h1, by rw [← h2.len]; exact hz, ?_⟩
    exact f _ _ _ _ (ext_chg e) (l.put (ext_chg e) (.l (h2.append (.cons r1 .nil)))) .n h
end
end PD

set_option Elab.async false
set_option linter.all false
set_option maxRecDepth 100000
set_option maxHeartbeats 4000000
namespace PD
open PySem PySem.Spec PyProof.Rows L2

/-! ## what statements mean -/
structure En where
  nx : Sl → Sto → Prop
  rt : QW
  bk : Sl → Sto → Prop := fun _ _ => False
  ct : Sl → Sto → Prop := fun _ _ => False
  ex : QW := fun _ _ => False
/-- a place changed: o[i] = v -/
def setW (o i v : W) (S : Sto) (Q : Sto → Prop) : Prop := match o with
  | .ref a => match S a with
    | some (.lst xs) => ∃ k j, i = .int k ∧ ixN xs.length k = some j ∧ Q (S.set a (.lst (xs.set j v)))
    | some (.dct ks ws) => ∃ k, keyOf i = some k ∧ ks.length < sizeLine ∧ Q (S.set a (.dct (putKW ks ws k v).1 (putKW ks ws k v).2))
    | none => False
  | _ => False
def augW : Operator → W → W → Option W
  | .Add, .int i, .int j => some (.int (i + j))
  | .Sub, .int i, .int j => some (.int (i - j))
  | _, _, _ => none
/-- a for's turns -/
def loopF (body : En → W → Sl → Sto → Prop) (D : En) : List W → Sl → Sto → Prop
  | [], σ, S => D.nx σ S
  | x :: xs, σ, S => body { D with nx := loopF body D xs, ct := loopF body D xs, bk := D.nx } x σ S
/-- a while's turns, so many at most -/
def loopW (test : Sl → Sto → QB → Prop) (body : En → Sl → Sto → Prop) (D : En) : Nat → Sl → Sto → Prop
  | 0, _, _ => False
  | n + 1, σ, S => test σ S fun b S1 => if b = true then body { D with nx := loopW test body D n, ct := loopW test body D n, bk := D.nx } σ S1 else D.nx σ S1
mutual
inductive St where
  | set (t : Tg) (e : E)
  | par (i j : Nat) (a b : E)
  | setix (o i e : E)
  | aug (i : Nat) (op : Operator) (e : E)
  | expr (e : E)
  | ret (e : E)
  | iff (c : Tt) (a b : Sts)
  | forr (t : Tg) (it : It) (b : Sts)
  | whil (c : Tt) (b : Sts)
  | pass | brk | cont
inductive Sts where
  | nil
  | cons (s : St) (r : Sts)
  | fz (i : Nat) (r : Sts)
end
section
variable (C : Cn)
mutual
def wS : St → En → Sl → Sto → Prop
  | .set t e, D, σ, S => wE C e σ S (fun w S1 => t.go w σ fun σ' => D.nx σ' S1) D.ex
  | .par i j a b, D, σ, S => wE C a σ S (fun x S1 => wE C b σ S1 (fun y S2 => D.nx ((σ.set i (some x)).set j (some y)) S2) D.ex) D.ex
  | .setix o i e, D, σ, S => wE C e σ S (fun v S1 => wE C o σ S1 (fun a S2 => wE C i σ S2 (fun k S3 => setW a k v S3 fun S4 => D.nx σ S4) D.ex) D.ex) D.ex
  | .aug i op e, D, σ, S => ∃ x, σ[i]? = some (some x) ∧ wE C e σ S (fun y S1 => ∃ r, augW op x y = some r ∧ D.nx (σ.set i (some r)) S1) D.ex
  | .expr e, D, σ, S => wE C e σ S (fun _ S1 => D.nx σ S1) D.ex
  | .ret e, D, σ, S => wE C e σ S D.rt D.ex
  | .iff c a b, D, σ, S => wT C c σ S (fun r S1 => if r = true then wSs a D σ S1 else wSs b D σ S1) D.ex
  | .forr t it b, D, σ, S => wI C it σ S (fun xs S1 => loopF (fun D' x σ' S' => t.go x σ' fun σ2 => wSs b D' σ2 S') D xs σ S1) D.ex
  | .whil c b, D, σ, S => ∃ n, loopW (fun σ' S' Q => wT C c σ' S' Q D.ex) (fun D' σ' S' => wSs b D' σ' S') D n σ S
  | .pass, D, σ, S => D.nx σ S
  | .brk, D, σ, S => D.bk σ S
  | .cont, D, σ, S => D.ct σ S
def wSs : Sts → En → Sl → Sto → Prop
  | .nil, D, σ, S => D.nx σ S
  | .cons s r, D, σ, S => wS s { D with nx := fun σ' S' => wSs r D σ' S' } σ S
  | .fz i r, D, σ, S => ∃ p, σ[i]? = some (some (.ref p)) ∧ i < σ.length ∧
      ((∃ xs, S p = some (.lst xs) ∧ wSs r D (σ.set i (some (.lst xs))) (S.del p)) ∨ (∃ ks ws, S p = some (.dct ks ws) ∧ wSs r D (σ.set i (some (.dct ks ws))) (S.del p)))
end
end

/-! ## the small language against the text -/
/-- a scope, and the names whose cells were made at the entry -/
structure Sc where
  sc : Scope
  fb : Str → Bool
def visB (sc : Scope) (x : Str) : Bool := match sc.names.lookup x with
  | some .local => true
  | some .cell => true
  | some .free => true
  | _ => false
def locB (c : Sc) (x : Str) : Bool := match c.sc.names.lookup x with
  | some .local => true
  | some .cell => c.fb x
  | _ => false
def locB' (c : Sc) (x : Str) : Bool := match c.sc.names.lookup x with
  | some .local => true
  | _ => false
def glB (sc : Scope) (x : Str) : Bool := match sc.names.lookup x with
  | some .globalImplicit => true
  | _ => false
def Bi.name : Bi → Str
  | .len => "len" | .abs => "abs" | .tuple => "tuple" | .list => "list" | .sum => "sum" | .any => "any" | .all => "all" | .repr => "repr" | .int => "int"
def Ty.name : Ty → Str
  | .int => "int" | .bool => "bool" | .str => "str" | .tuple => "tuple" | .list => "list" | .dict => "dict"
def Mt.name : Mt → Str
  | .get => "get" | .setdefault => "setdefault" | .append => "append"
def Mt.okB : Mt → Bool
  | .setdefault => false
  | _ => true
/-- tests that are told by a value -/
def tvB : E → Bool
  | .un .Not _ => false
  | .and2 _ _ => false
  | .or2 _ _ => false
  | .ifx _ _ _ => false
  | .frz _ => false
  | _ => true
def litB : Lit → Const → Bool
  | .non, .none => true
  | .bl b, .bool c => b == c
  | .int i, .int j => decide (i = j)
  | .str x, .str y => decide (x = y)
  | _, _ => false
def opB : Operator → Operator → Bool := fun a b => a == b
/-- which comparisons are told -/
def cmpB : CmpOp → Expr → Bool
  | .Is, .Constant .none _ _ => true
  | .IsNot, .Constant .none _ _ => true
  | .Is, _ => false
  | .IsNot, _ => false
  | _, _ => true
section
variable (fr fl : List Str) (N : List Str)
def ownP (own : List Nat) : List (Str × Nat) := own.filterMap fun i => (N[i]?).map fun x => (x, i)
mutual
def chkT (c : Sc) : Tg → Expr → Bool
  | .name i, .Name x _ => decide (N[i]? = some x) && locB c x
  | .tup ts, .Tuple es _ _ => chkTs c ts es
  | _, _ => false
def chkTs (c : Sc) : List Tg → List Expr → Bool
  | [], [] => true
  | t :: ts, e :: es => chkT c t e && chkTs c ts es
  | _, _ => false
end
mutual
def chkE : E → Sc → Expr → Bool
  | .loc i, c, .Name x _ => decide (N[i]? = some x) && visB c.sc x && !(x == ("__debug__" : Str)) && !(x == ("__classdict__" : Str))
  | .lit l, _, .Constant k _ _ => litB l k
  | .glob x, c, .Name y _ => decide (x = y) && glB c.sc x && !(x == ("__debug__" : Str))
  | .tup es, c, .Tuple ps _ _ => chkEs es c ps
  | .lst _ es, c, .List ps _ => chkEs es c ps
  | .dct _ es, c, .Dict ks vs _ => chkP es c ks vs && decide (ks.length ≤ 15)
  | .bin op a b, c, .BinOp pa o pb _ => (op == o) && chkE a c pa && chkE b c pb
  | .un op a, c, .UnaryOp o pa _ => (op == o) && (op == .USub || op == .Not) && chkE a c pa
  | .and2 a b, c, .BoolOp .And (pa :: pb :: rest) pos => chkE a c pa && (match rest with | [] => chkE b c pb | _ :: _ => chkE b c (.BoolOp .And (pb :: rest) pos))
  | .or2 a b, c, .BoolOp .Or (pa :: pb :: rest) pos => chkE a c pa && (match rest with | [] => chkE b c pb | _ :: _ => chkE b c (.BoolOp .Or (pb :: rest) pos))
  | .cmp op a b, c, .Compare pa [o] [pb] _ => (op == o) && cmpB op pb && chkE a c pa && chkE b c pb
  | .cmp3 o1 o2 a b d, c, .Compare pa [p1, p2] [pb, pd] _ => (o1 == p1) && (o2 == p2) && cmpB o1 pb && cmpB o2 pd && (o2 != .In) && (o2 != .NotIn) && chkE a c pa && chkE b c pb && chkE d c pd
  | .ifx d a b, c, .IfExp pd pa pb _ => chkV d c pd && chkE a c pa && chkE b c pb
  | .ix a b, c, .Subscript pa pb _ => chkE a c pa && chkE b c pb
  | .slc a lo hi, c, .Subscript pa (.Slice pl ph none _) _ => chkE a c pa && chkO lo c pl && chkO hi c ph
  | .call f es, c, .Call (.Name g _) (pa :: ps) [] _ => decide (f = g) && fl.contains f && glB c.sc f && !(f == ("__debug__" : Str)) && chkEs es c (pa :: ps)
  | .call f .nil, c, .Call (.Name g _) [] [] _ => decide (f = g) && (g != ("super" : Str)) && fl.contains f && glB c.sc f && !(f == ("__debug__" : Str))
  | .cat a b, c, .BinOp pa .Add pb _ => chkE a c pa && chkE b c pb
  | .isa t a, c, .Call (.Name g _) [pa, .Name tn _] [] _ => decide (g = "isinstance") && glB c.sc g && fr.contains g && decide (t.name = tn) && glB c.sc tn && fr.contains tn && chkE a c pa
  | .bi b es, c, .Call (.Name g _) (pa :: ps) [] _ => decide (b.name = g) && glB c.sc g && fr.contains g && chkEs es c (pa :: ps)
  | .meth m o es, c, .Call (.Attribute po n ap) (pa :: ps) [] cp => decide (m.name = n) && m.okB && (ap.endLine == cp.line) && chkE o c po && chkEs es c (pa :: ps) && decide (ps.length < 20)
  | .comp _ own t it ifs elt, c, .ListComp pe [⟨tg, iter, pf, 0⟩] scope _ => blkC N c.sc scope (ownP N own) && decide ((ownP N own).map (·.2) = own) && t.own own && chkI it c iter tg &&
      chkT N ⟨relS scope c.sc, fun x => scope.names.lookup x == some .cell⟩ t tg && chkF ifs ⟨relS scope c.sc, fun x => scope.names.lookup x == some .cell⟩ pf && chkE elt ⟨relS scope c.sc, fun x => scope.names.lookup x == some .cell⟩ pe
  | .frz a, c, p => chkE a c p
  | _, _, _ => false
def chkEs : Es → Sc → List Expr → Bool
  | .nil, _, [] => true
  | .cons e es, c, p :: ps => chkE e c p && chkEs es c ps
  | _, _, _ => false
def chkP : Es → Sc → List (Option Expr) → List Expr → Bool
  | .nil, _, [], [] => true
  | .cons k (.cons v es), c, some pk :: ks, pv :: vs => chkE k c pk && chkE v c pv && chkP es c ks vs
  | _, _, _, _ => false
def chkO : Eo → Sc → Option Expr → Bool
  | .none, _, none => true
  | .some e, c, some p => chkE e c p
  | _, _, _ => false
def chkF : To → Sc → List Expr → Bool
  | .none, _, [] => true
  | .some e, c, [p] => chkV e c p
  | _, _, _ => false
def chkV : Tt → Sc → Expr → Bool
  | .val e, c, p => tvB e && chkE e c p
  | .not t, c, .UnaryOp .Not p _ => chkV t c p
  | .and a b, c, .BoolOp .And (p :: q :: rest) pos => chkV a c p && (match rest with | [] => chkV b c q | _ :: _ => chkV b c (.BoolOp .And (q :: rest) pos))
  | .or a b, c, .BoolOp .Or (p :: q :: rest) pos => chkV a c p && (match rest with | [] => chkV b c q | _ :: _ => chkV b c (.BoolOp .Or (q :: rest) pos))
  | _, _, _ => false
def chkI : It → Sc → Expr → Expr → Bool
  | .ex e, c, p, _ => chkE e c p
  | .rng1 a, c, .Call (.Name g _) [p] [] _, _ => decide (g = "range") && glB c.sc g && fr.contains g && chkE a c p
  | .rng2 a b, c, .Call (.Name g _) [p, q] [] _, _ => decide (g = "range") && glB c.sc g && fr.contains g && chkE a c p && chkE b c q
  | .enum e, c, .Call (.Name g _) [p] [] _, .Tuple _ _ _ => decide (g = "enumerate") && glB c.sc g && fr.contains g && chkE e c p
  | .zip a b, c, .Call (.Name g _) [p, q] [] _, .Tuple _ _ _ => decide (g = "zip") && glB c.sc g && fr.contains g && chkE a c p && chkE b c q
  | _, _, _, _ => false
end
def isComp : Expr → Bool
  | .ListComp _ _ _ _ => true
  | .SetComp _ _ _ _ => true
  | .DictComp _ _ _ _ _ => true
  | _ => false
def isCompE : E → Bool
  | .comp _ _ _ _ _ _ => true
  | _ => false
def isTuple : Expr → Bool
  | .Tuple _ _ _ => true
  | _ => false
/-- the store of a comprehension goes within its own frame -/
def swapsB (sc : Scope) (x : Str) (px : Pos) : Expr → Bool
  | .ListComp _ _ scope pos => (match sc.names.lookup x with | some .local => true | _ => false) && (px.line == pos.line) && !(scope.names.any fun (n, k) => n == x && (k == .local || k == .cell))
  | _ => false
mutual
def chkS : St → Sc → Stmt → Bool
  | .set t e, c, .Assign [tg] p _ => chkT N c t tg && chkE fr fl N e c p && (match tg with
      | .Name x px => (!isComp p || (swapsB c.sc x px p && isCompE e))
      | _ => !isComp p && !isTuple p)
  | .setix o i e, c, .Assign [.Subscript po pi _] p _ => chkE fr fl N o c po && chkE fr fl N i c pi && chkE fr fl N e c p && !isComp p && !isTuple p
  | .aug i op e, c, .AugAssign (.Name x _) o p _ => decide (N[i]? = some x) && locB c x && (op == o) && (op == .Add || op == .Sub) && chkE fr fl N e c p
  | .par i j a b, c, .Assign [.Tuple [.Name x px, .Name y py] _ _] (.Tuple [pa, pb] _ _) _ => decide (N[i]? = some x) && decide (N[j]? = some y) && (i != j) && locB' c x && locB' c y && (py.line == px.line) && !([pa, pb].all (foldedForSure 8)) && !([pa, pb].all (constantsAlone 8)) && chkE fr fl N a c pa && chkE fr fl N b c pb
  | .expr e, c, .Expr p _ => chkE fr fl N e c p && !isComp p
  | .ret e, c, .Return (some p) _ => chkE fr fl N e c p
  | .iff d a b, c, .If pd pa pb _ => chkV fr fl N d c pd && chkSs a c pa && chkSs b c pb
  | .forr t it b, c, .For tg iter pb [] _ => chkI fr fl N it c iter tg && chkT N c t tg && chkSs b c pb
  | .whil d b, c, .While pd pb [] _ => chkV fr fl N d c pd && chkSs b c pb
  | .pass, _, .Pass _ => true
  | .brk, _, .Break _ => true
  | .cont, _, .Continue _ => true
  | _, _, _ => false
def chkSs : Sts → Sc → List Stmt → Bool
  | .nil, _, [] => true
  | .cons s r, c, p :: ps => chkS s c p && chkSs r c ps
  | .fz _ r, c, ps => chkSs r c ps
  | _, _, _ => false
end
end
end PD

set_option Elab.async false
set_option linter.all false
set_option maxRecDepth 100000
set_option maxHeartbeats 4000000
namespace PD
open PySem PySem.Spec PyProof.Rows L2

/-! ## the text's forms -/
def plainP : Expr → Bool
  | .Starred .. => false
  | .Set .. => false
  | .Slice .. => false
  | .Call f [] ks _ => match f, ks with
    | .Name g _, [] => g != ("super" : Str)
    | _, _ => false
  | _ => true
theorem chk_np {fr fl N : List Str} : ∀ (e : E) (c : Sc) (p : Expr), plainP p = false → chkE fr fl N e c p = false
  | .frz a, c, p, h => by unfold chkE; exact chk_np a c p h
  | .loc _, c, p, h => by cases p <;> first | rfl | (cases h; done)
  | .lit _, c, p, h => by cases p <;> first | rfl | (cases h; done)
  | .glob _, c, p, h => by cases p <;> first | rfl | (cases h; done)
  | .tup _, c, p, h => by cases p <;> first | rfl | (cases h; done)
  | .lst _ _, c, p, h => by cases p <;> first | rfl | (cases h; done)
  | .dct _ _, c, p, h => by cases p <;> first | rfl | (cases h; done)
  | .bin _ _ _, c, p, h => by cases p <;> first | rfl | (cases h; done)
  | .cat _ _, c, p, h => by cases p <;> first | rfl | (cases h; done)
  | .un _ _, c, p, h => by cases p <;> first | rfl | (cases h; done)
  | .and2 _ _, c, p, h => by cases p <;> first | rfl | (cases h; done)
  | .or2 _ _, c, p, h => by cases p <;> first | rfl | (cases h; done)
  | .cmp _ _ _, c, p, h => by cases p <;> first | rfl | (cases h; done)
  | .cmp3 _ _ _ _ _, c, p, h => by cases p <;> first | rfl | (cases h; done)
  | .ifx _ _ _, c, p, h => by cases p <;> first | rfl | (cases h; done)
  | .ix _ _, c, p, h => by cases p <;> first | rfl | (cases h; done)
  | .slc _ _ _, c, p, h => by cases p <;> first | rfl | (cases h; done)
  | .comp _ _ _ _ _ _, c, p, h => by cases p <;> first | rfl | (cases h; done)
  | .call x es, c, p, h => by
    cases p <;> first | rfl | (cases h; done) | skip
    rename_i f as ks pos
    cases as with
    | cons a as => cases h
    | nil =>
      cases f <;> first | (cases es <;> rfl; done) | skip
      rename_i g gp
      cases ks with
      | cons k ks => cases es <;> rfl
      | nil =>
        cases es with
        | cons e es => rfl
        | nil =>
          have h' : (g != ("super" : Str)) = false := h
          show (decide (x = g) && (g != ("super" : Str)) && fl.contains x && glB c.sc x && !(x == ("__debug__" : Str))) = false
          rw [h']
          simp
  | .isa _ _, c, p, h => by
    cases p <;> first | rfl | (cases h; done) | skip
    rename_i f as ks pos
    cases as with
    | cons a as => cases h
    | nil => cases f <;> rfl
  | .bi _ _, c, p, h => by
    cases p <;> first | rfl | (cases h; done) | skip
    rename_i f as ks pos
    cases as with
    | cons a as => cases h
    | nil => cases f <;> rfl
  | .meth _ _ _, c, p, h => by
    cases p <;> first | rfl | (cases h; done) | skip
    rename_i f as ks pos
    cases as with
    | cons a as => cases h
    | nil => cases f <;> rfl
theorem chk_plain {fr fl N : List Str} {e : E} {c : Sc} {p : Expr} (h : chkE fr fl N e c p = true) : plainP p = true := by
  cases q : plainP p with
  | true => rfl
  | false => rw [chk_np e c p q] at h; cases h
section
variable {p : Expr} {env : Env}
theorem star_of {ps : List Expr} (h : plainP p = true) : starEach (p :: ps) env = (false, eval p env) :: starEach ps env := by
  cases p <;> first | rfl | cases h
theorem ix_of (h : plainP p = true) : PlainIx p := by
  intro o i
  cases p <;> first | rfl | cases h
theorem marks_of {op : CmpOp} (h : plainP p = true) : behindInMarks op p = false := by
  cases p <;> first | rfl | cases h
theorem fold_of (h : plainP p = true) : ∀ x, foldedSetIterable p env x = pure x := by
  intro x
  cases p <;> first | rfl | cases h
theorem base_of {n : Str} (h : plainP p = true) : attributeBase p n env (eval p env) = eval p env := by
  cases p <;> first | rfl | (cases h; done) | skip
  rename_i f as ks pos
  cases as with
  | nil =>
    cases f <;> first | (cases h; done) | skip
    rename_i g gp
    cases ks with
    | cons k ks => cases h
    | nil =>
      have h' : (g != ("super" : Str)) = true := h
      unfold attributeBase
      simp [h']
  | cons a as => cases f <;> rfl
theorem swap_of {t : Option Expr} {l : Nat} (h : isComp p = false) : swapsWith p t l env = pure false := by
  cases p <;> first | rfl | cases h
theorem truth_of (h : plainP p = true) (n1 : ∀ a b, p ≠ .UnaryOp .Not a b) (n2 : ∀ a b c, p ≠ .BoolOp a b c) (n3 : ∀ a b c d, p ≠ .IfExp a b c d) (n4 : ∀ a b c d, p ≠ .Compare a b c d) (whole : Sem Value) :
    isTrue p env whole = (do let v ← whole; standAt p.pos; holding [v] (truthy v)) := by
  cases p <;> first
    | rfl
    | exact absurd rfl (n2 _ _ _)
    | exact absurd rfl (n3 _ _ _ _)
    | exact absurd rfl (n4 _ _ _ _)
    | (rename_i o a b; cases o <;> first | rfl | exact absurd rfl (n1 _ _))
end
theorem plain_all {fr fl N : List Str} {c : Sc} {env : Env} {pos : Pos} : ∀ {es : Es} {ps : List Expr}, chkEs fr fl N es c ps = true → (backTo pos (starEach ps env)).any (·.1) = false
  | es, [], _ => rfl
  | es, p :: ps, h => by
    cases es with
    | nil => unfold chkEs at h; cases h
    | cons e es =>
      unfold chkEs at h
      rw [Bool.and_eq_true] at h
      rw [star_of (chk_plain h.1)]
      show (false || (backTo pos (starEach ps env)).any (·.1)) = false
      rw [plain_all h.2]
      rfl
theorem plain_each {fr fl N : List Str} {c : Sc} {env : Env} {pos : Pos} : ∀ {es : Es} {ps : List Expr}, chkEs fr fl N es c ps = true → ((backTo pos (starEach ps env)).all (fun x => !x.1)) = true
  | es, [], _ => rfl
  | es, p :: ps, h => by
    cases es with
    | nil => unfold chkEs at h; cases h
    | cons e es =>
      unfold chkEs at h
      rw [Bool.and_eq_true] at h
      rw [star_of (chk_plain h.1)]
      show (!false && (backTo pos (starEach ps env)).all (fun x => !x.1)) = true
      rw [plain_each h.2]
      rfl
theorem ba2 {a b : Bool} (h : (a && b) = true) : a = true ∧ b = true := by rwa [Bool.and_eq_true] at h

/-! ## a def's promise where nothing is shown just now (guards none) -/
structure FG (P : Program) (w : World) (K : PySem.W.Frag) (mg : Str → Option Value) (base : Heap) (k : Nat) (f : Addr) (fd : FuncData) (ps : List Str) (sp : Sp) : Prop where
  len : ∀ vs H Q E, sp vs H Q E → vs.length = ps.length
  run : ∀ (A : Around) (outer : List Env) (s : Shared) (H : Hp) (args : Args) (us : List Value) (vs : List V) (Q : VK) (E : XK), Room k A → A.guards = some [] → Env0 P w K mg base A outer s H →
    BindsTo s fd args (ps.zip us) → Vals vs us → sp vs H Q E → codeAny (model P w) A (.call (.ref f) args) (CR (L2.CX P w) outer P w H s Q E) s
/-- what a call of a told def asks -/
def lsp (K : PySem.W.Frag) (g : List W → Sto → QW → QW → Prop) : Sp := fun vs H Qh E => ∃ ws S Q X, RWs K H S ws vs ∧ LinkS K H S ∧ g ws S Q X ∧ FinS K H S Q Qh ∧ XO K E H S X
/-- where a def stands, and that it keeps what is told of it -/
structure At (P : Program) (w : World) (K : PySem.W.Frag) (mg : Str → Option Value) (base : Heap) (k : Nat) (f : Str) (g : List W → Sto → QW → QW → Prop) : Prop where
  ex : ∃ (a : Addr) (fd : FuncData) (ps : List Str), mg f = some (.ref a) ∧ PySem.W.keepIn K (.ref a) = true ∧ Binds K fd ps [] ∧ FG P w K mg base k a fd ps (lsp K g)
structure Pr (P : Program) (w : World) (K : PySem.W.Frag) (mg : Str → Option Value) (base : Heap) (C : Cn) (fr fl : List Str) (k : Nat) : Prop where
  free : ∀ x ∈ fr, mg x = none
  glob : ∀ x w, C.G x = some w → ∃ u v, mg x = some u ∧ RelV v u ∧ ∀ H S, RW K H S w v
  call : ∀ f ∈ fl, At P w K mg base k f (C.Γ f)
  sysm : ∃ o, base.get? sysModules = some o ∧ o.cls = .type "dict"
structure Ok (X : Cx) (C : Cn) (Ê : XK) (c : Sc) (fr fl : List Str) : Prop where
  sc : X.env.scope = c.sc
  fb : ∀ x, c.fb x = true → X.fn x = true
  nd : X.N.Nodup
  calm : X.calm = true
  guards : X.A.guards = some []
  pass : Passes (L2.CX X.prog X.w) X Ê
  pr : ∃ k, Room k X.A ∧ Pr X.prog X.w X.K X.mg X.base C fr fl k
section
variable {X : Cx} {C : Cn} {Ê : XK} {c : Sc} {fr fl : List Str}
theorem Ok.hu (o : Ok X C Ê c fr fl) : X.A.units + 64 < cLine := let ⟨_, r, _⟩ := o.pr; r.units
theorem Ok.free (o : Ok X C Ê c fr fl) {x : Str} (h : fr.contains x = true) : X.mg x = none := let ⟨_, _, p⟩ := o.pr; p.free x (by simpa using h)
theorem Ok.vis (o : Ok X C Ê c fr fl) {x : Str} (h : visB c.sc x = true) : Vis X.env.scope x := by
  rw [o.sc]
  unfold visB at h
  unfold Vis
  split at h
  · exact .inl (by assumption)
  · exact .inr (.inl (by assumption))
  · exact .inr (.inr (by assumption))
  · cases h
theorem Ok.gl (o : Ok X C Ê c fr fl) {x : Str} (h : glB c.sc x = true) : Gl X x := by
  unfold Gl
  show X.env.scope.names.lookup x = _
  rw [o.sc]
  unfold glB at h
  split at h
  · assumption
  · cases h
theorem Ok.loc (o : Ok X C Ê c fr fl) {x : Str} (h : locB c x = true) : L2.Loc X.env.scope x ∧ (X.fn x = true ∨ X.env.scope.names.lookup x = some .local) := by
  rw [o.sc]
  unfold locB at h
  unfold L2.Loc
  split at h
  · rename_i e; exact ⟨.inl e, .inr e⟩
  · rename_i e; exact ⟨.inr e, .inl (o.fb x h)⟩
  · cases h
/-- within a comprehension -/
theorem Ok.blk (o : Ok X C Ê c fr fl) (s : Shared) (H : Hp) (scope : Scope) (C' : Addr) (cl : List (Str × Addr)) (fp : List Addr) :
    Ok (X.blk s H scope (compEnvC scope cl C' X.env) fp) C E0 ⟨relS scope c.sc, fun x => scope.names.lookup x == some .cell⟩ fr fl := by
  refine ⟨?_, fun x h => h, o.nd, o.calm, o.guards, passL, o.pr⟩
  show relabel scope X.env = relS scope c.sc
  rw [← o.sc]
  rfl
/-- f(..) of a def of the text -/
theorem pe_fg {k : Nat} {f : Addr} {fd : FuncData} {ps : List Str} {sp : Sp} {x : Str} {p pos : Pos} {e : Expr} {es : List Expr} {t : TA} (F : FG X.prog X.w X.K X.mg X.base k f fd ps sp) (hr : Room k X.A) (hgd : X.A.guards = some []) (hg : Gl X x) (hm : X.mg x = some (.ref f))
    (hk : PySem.W.keepIn X.K (.ref f) = true) (hb : Binds X.K fd ps []) (hx : Passes (L2.CX X.prog X.w) X Ê) (ha : PA X (e :: es) t) (hdb : (x == ("__debug__" : Str)) = false)
    (he : starEach (e :: es) X.env = (false, eval e X.env) :: starEach es X.env) (hpl : (backTo pos (starEach es X.env)).any (·.1) = false) :
    PE X (.Call (.Name x p) (e :: es) [] pos) (fun τ H Q => t τ H fun vs H1 => sp vs H1 Q Ê) := ⟨fun pins s τ H Q I h =>
  wpAny_Call_Name_kw (ld_glob I hg hm (PySem.W.callWith_K (h₀ := X.base) I.ok.mod.kin hk (thn (ha.run pos pins s τ H _ I h) fun us s1 ⟨vs, H1, I1, r, q⟩ => ⟨I1.kIn, by
    have len : us.length = ps.length := by rw [← r.length]; exact F.len _ _ _ _ q
    have bt : BindsTo s1 fd ⟨us, []⟩ (ps.zip us) := by
      have z := hb s1 us I1.kIn (by rw [List.append_nil]; exact len)
      rwa [List.append_nil] at z
    refine wpAny_call (codeAny_mono (F.run X.A X.stack s1 H1 ⟨us, []⟩ us vs Q Ê hr hgd I1.env0 bt r q) fun res s' hq => ?_)
    match res, hq with
    | .error z, hq => exact hx pins τ H1 s1 z s' I1 hq
    | .ok (.ret u), hq => exact I1.after hq
    | .ok .next, hq => exact hq.elim
    | .ok .brk, hq => exact hq.elim
    | .ok .cont, hq => exact hq.elim⟩) he hpl) hdb)⟩
end
end PD

set_option Elab.async false
set_option linter.all false
set_option maxRecDepth 100000
set_option maxHeartbeats 4000000
namespace PD
open PySem PySem.Spec PyProof.Rows L2

section
variable {X : Cx} {Ê : XK} {wa wb wc : PD.WE} {ta tb tc : PD.WT} {was : WA} {pa pb pc : Expr} {ps : List Expr} {pos : Pos}
theorem we_bin {op : Operator} (ha : PE X pa (LE X.K Ê wa)) (hb : PE X pb (LE X.K Ê wb)) :
    PE X (.BinOp pa op pb pos) (LE X.K Ê fun σ S Q Y => wa σ S (fun x S1 => wb σ S1 (fun y S2 => ∃ r, binW op (rd S2 x) (rd S2 y) = some r ∧ Q r S2) Y) Y) :=
  (pe_op (op_bin op) ha hb).imp fun τ H Qh ⟨σ, S, Q, Y, hs, hl, hw, k, hx⟩ => LE.mk hs hl hx hw fun x S1 v H1 e1 l1 s1 x1 r1 q1 => LE.mk s1 l1 x1 q1 fun y S2 u H2 e2 l2 s2 x2 r2 ⟨r, e, q⟩ =>
    ⟨S2, x, y, r, l2, r1.ext e2, r2, e, fun v' H' e3 l3 r3 => k _ _ _ _ ((e1.trans e2).trans e3) l3 r3 q⟩
theorem we_cat (ha : PE X pa (LE X.K Ê wa)) (hb : PE X pb (LE X.K Ê wb)) :
    PE X (.BinOp pa .Add pb pos) (LE X.K Ê fun σ S Q Y => wa σ S (fun x S1 => wb σ S1 (fun y S2 => ∃ xs ys, rd S2 x = .lst xs ∧ rd S2 y = .lst ys ∧ xs.length + ys.length ≤ sizeLine ∧ ∀ p, S2 p = none → Q (.ref p) (S2.set p (.lst (xs ++ ys)))) Y) Y) :=
  (pe_op op_cat ha hb).imp fun τ H Qh ⟨σ, S, Q, Y, hs, hl, hw, k, hx⟩ => LE.mk hs hl hx hw fun x S1 v H1 e1 l1 s1 x1 r1 q1 => LE.mk s1 l1 x1 q1 fun y S2 u H2 e2 l2 s2 x2 r2 ⟨xs, ys, ex, ey, hz, q⟩ =>
    ⟨S2, x, y, xs, ys, l2, r1.ext e2, r2, ex, ey, hz, fun p vs hp rv => k _ _ _ _ ((e1.trans e2).trans (ext_newS hp)) (l2.put (ext_newS hp) (.l rv)) .r (q p (l2.fresh hp))⟩
theorem we_neg (ha : PE X pa (LE X.K Ê wa)) : PE X (.UnaryOp .USub pa pos) (LE X.K Ê fun σ S Q Y => wa σ S (fun x S1 => ∃ r, unW .USub x = some r ∧ Q r S1) Y) :=
  (pe_un un_neg' ha).imp fun τ H Qh ⟨σ, S, Q, Y, hs, hl, hw, k, hx⟩ => LE.mk hs hl hx hw fun x S1 v H1 e1 l1 s1 x1 r1 ⟨r, e, q⟩ =>
    ⟨S1, x, r, l1, r1, e, fun v' H' e3 l3 r3 => k _ _ _ _ (e1.trans e3) l3 r3 q⟩
theorem we_not (ha : PE X pa (LE X.K Ê wa)) : PE X (.UnaryOp .Not pa pos) (LE X.K Ê fun σ S Q Y => wa σ S (fun x S1 => ∃ r, unW .Not x = some r ∧ Q r S1) Y) :=
  (pe_not ha).imp fun τ H Qh ⟨σ, S, Q, Y, hs, hl, hw, k, hx⟩ => LE.mk hs hl hx hw fun x S1 v H1 e1 l1 s1 x1 r1 ⟨r, e, q⟩ => by
    cases x <;> first | (cases e; done) | skip
    cases e
    exact ⟨_, r1.bl_, k _ _ _ _ e1 l1 .b q⟩
theorem we_and {rest : List Expr} (ha : PE X pa (LE X.K Ê wa)) (hb : PE X (.BoolOp .And (pb :: rest) pos) (LE X.K Ê wb)) :
    PE X (.BoolOp .And (pa :: pb :: rest) pos) (LE X.K Ê fun σ S Q Y => wa σ S (fun x S1 => ∃ c, x = .bl c ∧ if c then wb σ S1 Q Y else Q (.bl false) S1) Y) :=
  (pe_and ha hb).imp fun τ H Qh ⟨σ, S, Q, Y, hs, hl, hw, k, hx⟩ => LE.mk hs hl hx hw fun x S1 v H1 e1 l1 s1 x1 r1 ⟨c, e, q⟩ => by
    subst e
    refine ⟨c, r1.bl_, ?_⟩
    cases c with
    | true => exact LE.mk s1 l1 x1 q fun y S2 u H2 e2 l2 s2 x2 r2 q2 => k _ _ _ _ (e1.trans e2) l2 r2 q2
    | false => exact k _ _ _ _ e1 l1 .b q
theorem we_or {rest : List Expr} (ha : PE X pa (LE X.K Ê wa)) (hb : PE X (.BoolOp .Or (pb :: rest) pos) (LE X.K Ê wb)) :
    PE X (.BoolOp .Or (pa :: pb :: rest) pos) (LE X.K Ê fun σ S Q Y => wa σ S (fun x S1 => ∃ c, x = .bl c ∧ if c then Q (.bl true) S1 else wb σ S1 Q Y) Y) :=
  (pe_or ha hb).imp fun τ H Qh ⟨σ, S, Q, Y, hs, hl, hw, k, hx⟩ => LE.mk hs hl hx hw fun x S1 v H1 e1 l1 s1 x1 r1 ⟨c, e, q⟩ => by
    subst e
    refine ⟨c, r1.bl_, ?_⟩
    cases c with
    | false => exact LE.mk s1 l1 x1 q fun y S2 u H2 e2 l2 s2 x2 r2 q2 => k _ _ _ _ (e1.trans e2) l2 r2 q2
    | true => exact k _ _ _ _ e1 l1 .b q
theorem we_cmp {op : CmpOp} (hu : X.A.units + 64 < cLine) (hm : behindInMarks op pb = false) (ha : PE X pa (LE X.K Ê wa)) (hb : PE X pb (LE X.K Ê wb)) :
    PE X (.Compare pa [op] [pb] pos) (LE X.K Ê fun σ S Q Y => wa σ S (fun x S1 => wb σ S1 (fun y S2 => ∃ r, cmpW op (rd S2 x) (rd S2 y) = some r ∧ Q (.bl r) S2) Y) Y) :=
  (pe_cmpR (op_cmp hu op) ha hb hm).imp fun τ H Qh ⟨σ, S, Q, Y, hs, hl, hw, k, hx⟩ => LE.mk hs hl hx hw fun x S1 v H1 e1 l1 s1 x1 r1 q1 => LE.mk s1 l1 x1 q1 fun y S2 u H2 e2 l2 s2 x2 r2 ⟨r, e, q⟩ =>
    ⟨S2, x, y, r, l2, r1.ext e2, r2, e, k _ _ _ _ (e1.trans e2) l2 .b q⟩
theorem we_cmp3 {o1 o2 : CmpOp} (hu : X.A.units + 64 < cLine) (hm : lastMarks [o1, o2] [pb, pc] = false) (ha : PE X pa (LE X.K Ê wa)) (hb : PE X pb (LE X.K Ê wb)) (hc : PE X pc (LE X.K Ê wc)) :
    PE X (.Compare pa [o1, o2] [pb, pc] pos) (LE X.K Ê fun σ S Q Y => wa σ S (fun x S1 => wb σ S1 (fun y S2 => ∃ r, cmpW o1 (rd S2 x) (rd S2 y) = some r ∧
      if r then wc σ S2 (fun z S3 => ∃ q, cmpW o2 (rd S3 y) (rd S3 z) = some q ∧ Q (.bl q) S3) Y else Q (.bl false) S2) Y) Y) :=
  (pe_chain (op_cmp hu o1) (op_cmp hu o2) ha hb hc hm).imp fun τ H Qh ⟨σ, S, Q, Y, hs, hl, hw, k, hx⟩ => LE.mk hs hl hx hw fun x S1 v H1 e1 l1 s1 x1 r1 q1 => LE.mk s1 l1 x1 q1 fun y S2 u H2 e2 l2 s2 x2 r2 ⟨r, e, q⟩ => by
    refine ⟨S2, x, y, r, l2, r1.ext e2, r2, e, r, rfl, ?_⟩
    cases r with
    | false => exact k _ _ _ _ (e1.trans e2) l2 .b q
    | true => exact LE.mk s2 l2 x2 q fun z S3 w H3 e3 l3 s3 x3 r3 ⟨q', e', q''⟩ => ⟨S3, y, z, q', l3, r2.ext e3, r3, e', k _ _ _ _ ((e1.trans e2).trans e3) l3 .b q''⟩
theorem we_if (hc : PT X pc (LT X.K Ê tc)) (ha : PE X pa (LE X.K Ê wa)) (hb : PE X pb (LE X.K Ê wb)) :
    PE X (.IfExp pc pa pb pos) (LE X.K Ê fun σ S Q Y => tc σ S (fun r S1 => if r then wa σ S1 Q Y else wb σ S1 Q Y) Y) :=
  (pe_ifExp hc ha hb).imp fun τ H Qh ⟨σ, S, Q, Y, hs, hl, hw, k, hx⟩ => LT.mk hs hl hx hw fun r S1 H1 e1 l1 s1 x1 q => by
    cases r with
    | true => exact LE.mk s1 l1 x1 q fun y S2 u H2 e2 l2 s2 x2 r2 q2 => k _ _ _ _ (e1.trans e2) l2 r2 q2
    | false => exact LE.mk s1 l1 x1 q fun y S2 u H2 e2 l2 s2 x2 r2 q2 => k _ _ _ _ (e1.trans e2) l2 r2 q2
theorem we_ix (hu : X.A.units + 64 < cLine) (hp : PlainIx pb) (ha : PE X pa (LE X.K Ê wa)) (hb : PE X pb (LE X.K Ê wb)) :
    PE X (.Subscript pa pb pos) (LE X.K Ê fun σ S Q Y => wa σ S (fun x S1 => wb σ S1 (fun y S2 => ∃ r, ixW (rd S2 x) y = some r ∧ Q r S2) Y) Y) :=
  (pe_ix (ix_W hu) ha hb hp).imp fun τ H Qh ⟨σ, S, Q, Y, hs, hl, hw, k, hx⟩ => LE.mk hs hl hx hw fun x S1 v H1 e1 l1 s1 x1 r1 q1 => LE.mk s1 l1 x1 q1 fun y S2 u H2 e2 l2 s2 x2 r2 ⟨r, e, q⟩ =>
    ⟨S2, x, y, r, l2, r1.ext e2, r2, e, fun v' r3 => k _ _ _ _ (e1.trans e2) l2 r3 q⟩
theorem we_slc {lo hi : Option Expr} {wl wh : WO} {p2 : Pos} (ha : PE X pa (LE X.K Ê wa)) (hl : PO X lo (LO X.K Ê wl)) (hh : PO X hi (LO X.K Ê wh)) :
    PE X (.Subscript pa (.Slice lo hi none p2) pos) (LE X.K Ê fun σ S Q Y => wa σ S (fun x S1 => wl σ S1 (fun l S2 => wh σ S2 (fun h S3 => ∃ r, slcW (rd S3 x) l h = some r ∧ Q r S3) Y) Y) Y) :=
  (pe_slice sl_W ha hl hh).imp fun τ H Qh ⟨σ, S, Q, Y, hs, hl, hw, k, hx⟩ => LE.mk hs hl hx hw fun x S1 v H1 e1 l1 s1 x1 r1 q1 => LO.mk s1 l1 x1 q1 fun lo S2 H2 e2 l2 s2 x2 q2 =>
    LO.mk s2 l2 x2 q2 fun hi S3 H3 e3 l3 s3 x3 ⟨r, e, q⟩ => ⟨S3, x, r, l3, r1.ext (e2.trans e3), e, fun v' H' e4 l4 r4 => k _ _ _ _ (((e1.trans e2).trans e3).trans e4) l4 r4 q⟩
theorem wo_none : PO X none (LO X.K Ê fun σ S Q Y => Q none S) := po_none.imp fun τ H Qh ⟨σ, S, Q, Y, hs, hl, hw, k, hx⟩ => k _ _ _ .refl hl hw
theorem wo_some (ha : PE X pa (LE X.K Ê wa)) : PO X (some pa) (LO X.K Ê fun σ S Q Y => wa σ S (fun w S1 => ∃ i, w = .int i ∧ Q (some i) S1) Y) :=
  (po_some ha).imp fun τ H Qh ⟨σ, S, Q, Y, hs, hl, hw, k, hx⟩ => LE.mk hs hl hx hw fun x S1 v H1 e1 l1 s1 x1 r1 ⟨i, e, q⟩ => by
    subst e
    exact ⟨i, r1.int_, k _ _ _ e1 l1 q⟩
/-! ### lists of parts -/
theorem wa_nil : PA X [] (LA X.K Ê fun σ S Q Y => Q [] S) := pa_nil.imp fun τ H Qh ⟨σ, S, Q, Y, hs, hl, hw, k, hx⟩ => k _ _ _ _ .refl hl .nil hw
theorem wa_cons (hst : starEach (pa :: ps) X.env = (false, eval pa X.env) :: starEach ps X.env) (ha : PE X pa (LE X.K Ê wa)) (hb : PA X ps (LA X.K Ê was)) :
    PA X (pa :: ps) (LA X.K Ê fun σ S Q Y => wa σ S (fun w S1 => was σ S1 (fun ws S2 => Q (w :: ws) S2) Y) Y) :=
  (pa_cons ha hb hst).imp fun τ H Qh ⟨σ, S, Q, Y, hs, hl, hw, k, hx⟩ => LE.mk hs hl hx hw fun x S1 v H1 e1 l1 s1 x1 r1 q1 => LA.mk s1 l1 x1 q1 fun y S2 u H2 e2 l2 s2 x2 r2 q =>
    k _ _ _ _ (e1.trans e2) l2 (.cons (r1.ext e2) r2) q
theorem we_tup {j : Nat} (ha : PA X ps (LA X.K Ê was)) : PE X (.Tuple ps j pos) (LE X.K Ê fun σ S Q Y => was σ S (fun ws S1 => ws.length ≤ sizeLine ∧ Q (.tup ws) S1) Y) :=
  (pe_tup ha).imp fun τ H Qh ⟨σ, S, Q, Y, hs, hl, hw, k, hx⟩ => LA.mk hs hl hx hw fun x S1 v H1 e1 l1 s1 x1 r1 ⟨z, q⟩ =>
    ⟨by rw [← r1.len]; exact z, Fin.tup l1 r1 fun v' H' e3 l3 r3 => k _ _ _ _ (e1.trans e3) l3 r3 q⟩
theorem we_lst {m : Bool} (ha : PA X ps (LA X.K Ê was)) :
    PE X (.List ps pos) (LE X.K Ê fun σ S Q Y => was σ S (fun ws S1 => ws.length ≤ sizeLine ∧ if m then ∀ p, S1 p = none → Q (.ref p) (S1.set p (.lst ws)) else Q (.lst ws) S1) Y) :=
  (pe_lst ha).imp fun τ H Qh ⟨σ, S, Q, Y, hs, hl, hw, k, hx⟩ => LA.mk hs hl hx hw fun x S1 v H1 e1 l1 s1 x1 r1 ⟨z, q⟩ => by
    refine ⟨by rw [← r1.len]; exact z, ?_⟩
    cases m with
    | false => exact Fin.lst l1 r1 fun v' H' e3 l3 r3 => k _ _ _ _ (e1.trans e3) l3 r3 q
    | true => exact fun p hp => k _ _ _ _ (e1.trans (ext_newS hp)) (l1.put (ext_newS hp) (.l r1)) .r (q p (l1.fresh hp))
/-! ### calls -/
theorem we_bi {b : Bi} {id : String} {x : Str} {p : Pos} (hc : CallR X (.builtin id) (rBi X.K b)) (hg : Gl X x) (hm : X.mg x = none) (hv : bootBuiltins x = some (.builtin id)) (hn : x ≠ "__name__") (hd : (x == ("__debug__" : Str)) = false)
    (hst : starEach (pa :: ps) X.env = (false, eval pa X.env) :: starEach ps X.env) (hpl : (backTo pos (starEach ps X.env)).any (·.1) = false) (ha : PA X (pa :: ps) (LA X.K Ê was)) :
    PE X (.Call (.Name x p) (pa :: ps) [] pos) (LE X.K Ê fun σ S Q Y => was σ S (fun ws S1 => biW b ws S1 Q) Y) :=
  (pe_callB hc hg hm hv ha hn hd hst hpl).imp fun τ H Qh ⟨σ, S, Q, Y, hs, hl, hw, k, hx⟩ => LA.mk hs hl hx hw fun x S1 v H1 e1 l1 s1 x1 r1 q =>
    ⟨S1, x, Q, l1, r1, q, fun r S' v' H' e3 l3 r3 q3 => k _ _ _ _ (e1.trans e3) l3 r3 q3⟩
theorem we_biT {b : Bi} {id : String} {x : Str} {p : Pos} (hc : CallR X (.type id) (rBi X.K b)) (hg : Gl X x) (hm : X.mg x = none) (hv : bootBuiltins x = some (.type id)) (hn : x ≠ "__name__") (hd : (x == ("__debug__" : Str)) = false)
    (hst : starEach (pa :: ps) X.env = (false, eval pa X.env) :: starEach ps X.env) (hpl : (backTo pos (starEach ps X.env)).any (·.1) = false) (ha : PA X (pa :: ps) (LA X.K Ê was)) :
    PE X (.Call (.Name x p) (pa :: ps) [] pos) (LE X.K Ê fun σ S Q Y => was σ S (fun ws S1 => biW b ws S1 Q) Y) :=
  (pe_callTy hc hg hm hv ha hn hd hst hpl).imp fun τ H Qh ⟨σ, S, Q, Y, hs, hl, hw, k, hx⟩ => LA.mk hs hl hx hw fun x S1 v H1 e1 l1 s1 x1 r1 q =>
    ⟨S1, x, Q, l1, r1, q, fun r S' v' H' e3 l3 r3 q3 => k _ _ _ _ (e1.trans e3) l3 r3 q3⟩
end
end PD

set_option Elab.async false
set_option linter.all false
set_option maxRecDepth 100000
set_option maxHeartbeats 4000000
namespace PD
open PySem PySem.Spec PyProof.Rows L2

section
variable {X : Cx} {C : Cn} {Ê : XK} {c : Sc} {fr fl : List Str} {wa wb wc : PD.WE} {ta tb tc : PD.WT} {was : WA} {pa pb pc : Expr} {ps : List Expr} {pos : Pos}
/-! ### names, constants, calls -/
theorem we_loc {i : Nat} {x : Str} (hN : X.N[i]? = some x) (hv : Vis X.env.scope x) (hd : (x == ("__debug__" : Str)) = false) (hcd : (x == ("__classdict__" : Str)) = false) :
    PE X (.Name x pos) (LE X.K Ê fun σ S Q _ => ∃ w, σ[i]? = some (some w) ∧ Q w S) :=
  (pe_var hN hv hd hcd).imp fun τ H Qh ⟨σ, S, Q, Y, hs, hl, ⟨w, e, q⟩, k, hx⟩ => let ⟨v, h1, h2⟩ := hs.2 i w e; ⟨v, h1, k _ _ _ _ .refl hl h2 q⟩
theorem we_lit {j : Nat} : ∀ (l : Lit) (k : Const), litB l k = true → PE X (.Constant k j pos) (LE X.K Ê fun σ S Q _ => Q l.w S)
  | .non, k, h => by
    cases k <;> first | (cases h; done) | skip
    exact pe_non.imp fun τ H Qh ⟨σ, S, Q, Y, hs, hl, q, k, hx⟩ => k _ _ _ _ .refl hl .n q
  | .bl b, k, h => by
    cases k <;> first | (cases h; done) | skip
    obtain rfl : b = _ := by simpa [litB] using h
    exact pe_bl.imp fun τ H Qh ⟨σ, S, Q, Y, hs, hl, q, k, hx⟩ => k _ _ _ _ .refl hl .b q
  | .int b, k, h => by
    cases k <;> first | (cases h; done) | skip
    obtain rfl : b = _ := by simpa [litB] using h
    exact pe_int.imp fun τ H Qh ⟨σ, S, Q, Y, hs, hl, q, k, hx⟩ => k _ _ _ _ .refl hl .i q
  | .str b, k, h => by
    cases k <;> first | (cases h; done) | skip
    obtain rfl : b = _ := by simpa [litB] using h
    exact pe_str.imp fun τ H Qh ⟨σ, S, Q, Y, hs, hl, q, k, hx⟩ => k _ _ _ _ .refl hl .s q
theorem pe_false {e : Expr} {t : TE} (h : ∀ σ H Q, ¬ t σ H Q) : PE X e t := ⟨fun _ _ _ _ _ _ q => (h _ _ _ q).elim⟩
theorem we_glob (o : Ok X C Ê c fr fl) {x : Str} (hg : Gl X x) (hd : (x == ("__debug__" : Str)) = false) : PE X (.Name x pos) (LE X.K Ê fun σ S Q _ => ∃ w, C.G x = some w ∧ Q w S) := by
  cases q : C.G x with
  | none => exact pe_false fun τ H Qh ⟨σ, S, Q, Y, hs, hl, ⟨w, e, _⟩, _⟩ => by cases e
  | some w =>
    obtain ⟨k, _, p⟩ := o.pr
    obtain ⟨u, v, h1, h2, h3⟩ := p.glob x w q
    exact (pe_glob hg h1 h2 hd).imp fun τ H Qh ⟨σ, S, Q, Y, hs, hl, ⟨w', e, q⟩, k, hx⟩ => by
      cases e
      exact k _ _ _ _ .refl hl (h3 _ _) q
theorem we_call (o : Ok X C Ê c fr fl) {f : Str} {p : Pos} (hf : fl.contains f = true) (hg : Gl X f) (ha : PA X (pa :: ps) (LA X.K Ê was)) (hdb : (f == ("__debug__" : Str)) = false)
    (he : starEach (pa :: ps) X.env = (false, eval pa X.env) :: starEach ps X.env) (hpl : (backTo pos (starEach ps X.env)).any (·.1) = false) :
    PE X (.Call (.Name f p) (pa :: ps) [] pos) (LE X.K Ê fun σ S Q Y => was σ S (fun ws S1 => C.Γ f ws S1 Q Y) Y) := by
  obtain ⟨k, room, p⟩ := o.pr
  obtain ⟨a, fd, xs, h1, h2, h3, h4⟩ := (p.call f (by simpa using hf)).ex
  exact (pe_fg h4 room o.guards hg h1 h2 h3 o.pass ha hdb he hpl).imp fun τ H Qh ⟨σ, S, Q, Y, hs, hl, q, k, hx⟩ => LA.mk hs hl hx q fun ws S1 vs H1 e1 l1 s1 x1 r1 q1 =>
    ⟨ws, S1, Q, Y, r1, l1, q1, fun r S' v H' e2 l2 r2 q2 => k _ _ _ _ (e1.trans e2) l2 r2 q2, x1⟩

theorem we_call0 (o : Ok X C Ê c fr fl) {f : Str} {p : Pos} (hf : fl.contains f = true) (hg : Gl X f) (hdb : (f == ("__debug__" : Str)) = false) :
    PE X (.Call (.Name f p) [] [] pos) (LE X.K Ê fun σ S Q Y => C.Γ f [] S Q Y) := ⟨fun pins s τ H Q I ⟨σ, S, Q', Y, hs, hl, q, k, hx⟩ => by
  obtain ⟨kk, room, pr⟩ := o.pr
  obtain ⟨a, fd, xs, h1, h2, h3, h4⟩ := (pr.call f (by simpa using hf)).ex
  have want : lsp X.K (C.Γ f) [] H Q Ê := ⟨[], S, Q', Y, .nil, hl, q, fun r S' v H' e l rw q => k r S' v H' e l rw q, hx⟩
  have len := h4.len _ _ _ _ want
  have bt : BindsTo s fd ⟨[], []⟩ (xs.zip ([] ++ [])) := h3 s [] I.kIn (by simpa using len)
  refine wpAny_Call_Name_kw (ld_glob I hg h1 (PySem.W.callWith_K0 I.kIn h2 ?_) hdb)
  refine wpAny_call (codeAny_mono (h4.run X.A X.stack s H ⟨[], []⟩ [] [] Q Ê room o.guards I.env0 bt .nil want) fun res s' hq => ?_)
  match res, hq with
  | .error z, hq => exact o.pass pins τ H s z s' I hq
  | .ok (.ret u), hq => exact I.after hq
  | .ok .next, hq => exact hq.elim
  | .ok .brk, hq => exact hq.elim
  | .ok .cont, hq => exact hq.elim⟩
theorem boot_ty (t : Ty) : bootBuiltins t.name = some (.type t.id) := by cases t <;> decide +kernel
theorem ty_name (t : Ty) : t.name ≠ "__name__" ∧ (t.name == ("__debug__" : Str)) = false := by cases t <;> decide
theorem we_isa {ty : Ty} {p p2 : Pos} (o : Ok X C Ê c fr fl) (hg : Gl X "isinstance") (hm : X.mg "isinstance" = none) (hg2 : Gl X ty.name) (hm2 : X.mg ty.name = none) (hst : starEach [pa, .Name ty.name p2] X.env = (false, eval pa X.env) :: starEach [.Name ty.name p2] X.env) (ha : PE X pa (LE X.K Ê wa)) :
    PE X (.Call (.Name "isinstance" p) [pa, .Name ty.name p2] [] pos) (LE X.K Ê fun σ S Q Y => wa σ S (fun w S1 => ∃ d, w.dd = some d ∧ Q (.bl (isaD ty d)) S1) Y) := by
  obtain ⟨kk, room, pr⟩ := o.pr
  have hb : PE X (.Name ty.name p2) (tC (.ty ty.id)) := pe_bltn hg2 hm2 (boot_ty ty) rfl (ty_name ty).1 (ty_name ty).2
  exact (pe_callB (bi_isa pr.sysm ty) hg hm PyProof.Rows.boot_isinstance (pa_cons ha (pa_cons hb pa_nil rfl) hst) (by decide) (by decide) hst rfl).imp fun τ H Qh ⟨σ, S, Q, Y, hs, hl, hw, k, hx⟩ => LE.mk hs hl hx hw fun x S1 v H1 e1 l1 s1 x1 r1 ⟨d, ed, q⟩ =>
    ⟨S1, x, d, v, l1, rfl, r1, ed, k _ _ _ _ e1 l1 .b q⟩

/-! ### methods, what is changed no more -/
theorem tyL {K : PySem.W.Frag} {H : Hp} {S : Sto} {w : W} {v : V} {xs : List W} (l : LinkS K H S) (h : RW K H S w v) (e : rd S w = .lst xs) : tyV K "list" v H := by
  obtain ⟨a, vs, rfl, h2, h3⟩ := rd_lst l h e
  exact .inl ⟨rfl, vs, h2⟩
theorem tyD {K : PySem.W.Frag} {H : Hp} {S : Sto} {w : W} {v : V} {ks : List Key} {ws : List W} (l : LinkS K H S) (h : RW K H S w v) (e : rd S w = .dct ks ws) : ∃ a kvs, v = .ref a ∧ Rd H a (.dK kvs) := by
  obtain ⟨a, vs, rfl, h2, h3⟩ := rd_dct l h e
  exact ⟨a, vs, rfl, h2⟩
theorem we_frz (ha : PE X pa (LE X.K Ê wa)) : PE X pa (LE X.K Ê fun σ S Q Y => wa σ S (fun w S1 => ∃ p, w = .ref p ∧ ((∃ xs, S1 p = some (.lst xs) ∧ Q (.lst xs) (S1.del p)) ∨ (∃ ks ws, S1 p = some (.dct ks ws) ∧ Q (.dct ks ws) (S1.del p)))) Y) :=
  ha.imp fun τ H Qh ⟨σ, S, Q, Y, hs, hl, hw, k, hx⟩ => LE.mk hs hl hx hw fun x S1 v H1 e1 l1 s1 x1 r1 ⟨p, ep, q⟩ => by
    subst ep
    obtain rfl : v = V.ref p := by unfold RW at r1; exact r1
    rcases q with ⟨xs, h, q⟩ | ⟨ks, ws, h, q⟩
    · exact k _ _ _ _ (e1.trans ext_del) (l1.del p) (RW.frozen l1 h) q
    · exact k _ _ _ _ (e1.trans ext_del) (l1.del p) (RW.frozenD l1 h) q
/-- a value of a built-in type, without fields of its own -/
def TyIs (X : Cx) (T : String) (v : V) (H : Hp) : Prop := ∀ (pins : List (Addr × Obj)) (σ : L2.St) (s : Shared) (u : Value), Inv X pins σ H s → RelV v u → s.TypeIs u T ∧ ∀ a, u = .ref a → ∃ ob, s.heap.get? a = some ob ∧ ob.dict = none
theorem tyIs_L {X : Cx} {H : Hp} {S : Sto} {w : W} {v : V} {xs : List W} (l : LinkS X.K H S) (h : RW X.K H S w v) (e : rd S w = .lst xs) : TyIs X "list" v H := fun pins σ s u I r => tyV_is I r (tyL l h e)
theorem tyIs_D {X : Cx} {H : Hp} {S : Sto} {w : W} {v : V} {ks : List Key} {ws : List W} (l : LinkS X.K H S) (h : RW X.K H S w v) (e : rd S w = .dct ks ws) : TyIs X "dict" v H := fun pins σ s u I r => by
  obtain ⟨a, kvs, rfl, h1 | ⟨od, h1⟩⟩ := tyD l h e
  · exact tyV_is I r (.inr (.inr (.inl ⟨rfl, .inl ⟨kvs, h1⟩⟩)))
  · obtain ⟨hs, hgd, hx, es, ep, vs, hdt, hsz, kv, hm⟩ := I.frzK h1
    cases r
    refine ⟨⟨od, hgd, hx.1⟩, fun b e2 => ?_⟩
    cases e2
    exact ⟨od, hgd, hx.2.1⟩
theorem we_meth {m : Mt} {T id : String} {name : Str} {ap cp : Pos} (pl : PlainAttrs T) (slot : Slot T name id) (hty : typeOf (.builtin id) = pure (.type "method_descriptor")) (hm : MtR X id (rMt X.K m))
    (ht : ∀ H S w v, LinkS X.K H S → RW X.K H S w v → tyM m (rd S w) = true → TyIs X T v H)
    (ha : PE X pa (LE X.K Ê wa)) (has : PA X (pb :: ps) (LA X.K Ê was)) (hbase : attributeBase pa name X.env (eval pa X.env) = eval pa X.env)
    (hfew : ((backTo cp (starEach (pb :: ps) X.env)).all (fun x => !x.1) && (backToKw cp (keywordEach [] X.env)).all (fun x => x.1.isSome)
      && decide ((pb :: ps).length + ([] : List Keyword).length + (if ([] : List Keyword).isEmpty then 0 else 1) < 30)) = true)
    (hline : (ap.endLine == cp.line) = true) (hs : starEach (pb :: ps) X.env = (false, eval pb X.env) :: starEach ps X.env) (hplain : (backTo cp (starEach ps X.env)).any (·.1) = false) :
    PE X (.Call (.Attribute pa name ap) (pb :: ps) [] cp) (LE X.K Ê fun σ S Q Y => wa σ S (fun w S1 => tyM m (rd S1 w) = true ∧ was σ S1 (fun ws S2 => mtW m w ws S2 Q) Y) Y) := ⟨fun pins s τ H Qh I ⟨σ, S, Q, Y, hs', hl, hw, k, hx⟩ =>
  wpAny_Call_method_late hbase hfew hline rfl (thn (ha.run pins s τ H _ I (LE.mk hs' hl hx hw fun x S1 v H1 e1 l1 s1 x1 r1 q1 => (⟨S1, x, e1, l1, s1, x1, r1, q1⟩ : ∃ S1 x, Ext H S H1 S1 ∧ LinkS X.K H1 S1 ∧ RSl X.K H1 S1 σ τ ∧ XO X.K Ê H1 S1 Y ∧ RW X.K H1 S1 x v ∧ (tyM m (rd S1 x) = true ∧ was σ S1 (fun ws S2 => mtW m x ws S2 Q) Y)))) fun u s1 ⟨v, H1, I1, r1, S1, x, e1, l1, sl1, x1, rw1, et, q1⟩ => by
    obtain ⟨h1, h2⟩ := ht _ _ _ _ l1 rw1 et pins τ s1 u I1 r1
    refine ⟨T, id, pl, slot, hty, h1, h2, ?_⟩
    have hA := has.run cp pins s1 τ H1 _ I1 (LA.mk sl1 l1 x1 q1 fun ws S2 vs H2 e2 l2 s2 x2 r2 q2 => (⟨S2, x, ws, Q, l2, rw1.ext e2, r2, q2, fun r S' v' H' e3 l3 r3 q3 => k _ _ _ _ ((e1.trans e2).trans e3) l3 r3 q3⟩ : rMt X.K m v vs H2 Qh))
    rw [hs] at hA ⊢
    refine Calls.callWith_builtin (by show (false || (backTo cp (starEach ps X.env)).any (·.1)) = false; rw [hplain] <;> rfl) (Calls.evalArgs_plain ?_)
    exact thn hA fun us s2 ⟨vs, H2, I2, r2, q2⟩ => hm pins s2 τ H2 v vs u us Qh I2 r1 r2 q2)⟩

/-! ### dicts -/
def flatP (prs : List (V × V)) : List V := (prs.map fun p => [p.1, p.2]).flatten
theorem pairs_rel {K : PySem.W.Frag} {H : Hp} {S : Sto} : ∀ {prs : List (V × V)} {ws : List W} {kws : List (Key × W)}, RWs K H S ws (flatP prs) → pairsW ws = some kws →
    ∃ kvs : List (Key × V), prs = kvs.map (fun kv => (kV kv.1, kv.2)) ∧ kvs.map (·.1) = kws.map (·.1) ∧ RWs K H S (kws.map (·.2)) (kvs.map (·.2))
  | [], ws, kws, h, e => by
    have hl := h.len
    cases ws with
    | nil => cases e; exact ⟨[], rfl, rfl, .nil⟩
    | cons w ws => simp [flatP] at hl
  | (x, y) :: prs, ws, kws, h, e => by
    match ws, e with
    | [], e => have hl := h.len; simp [flatP] at hl
    | [w], e => cases e
    | w :: u :: r, e =>
      unfold RWs at h
      obtain ⟨v1, r1, e1, h1, h2⟩ := h
      unfold RWs at h2
      obtain ⟨v2, r2, e2, h3, h4⟩ := h2
      subst e2
      have e1' : x :: y :: flatP prs = v1 :: v2 :: r2 := e1
      cases e1'
      unfold pairsW at e
      cases q : keyOf w with
      | none => rw [q] at e; cases e
      | some k =>
        rw [q] at e
        cases q2 : pairsW r with
        | none => rw [q2] at e; cases e
        | some t =>
          rw [q2] at e
          cases e
          obtain ⟨kvs, i1, i2, i3⟩ := pairs_rel h4 q2
          obtain rfl := h1.key q
          exact ⟨(k, y) :: kvs, by rw [i1]; rfl, by rw [List.map_cons, i2]; rfl, .cons h3 i3⟩
theorem merge_rel {K : PySem.W.Frag} {H : Hp} {S : Sto} : ∀ {kvs : List (Key × V)} {kws : List (Key × W)} {kv0 : List (Key × V)} {ws0 : List W}, kvs.map (·.1) = kws.map (·.1) → RWs K H S (kws.map (·.2)) (kvs.map (·.2)) → RWs K H S ws0 (kv0.map (·.2)) →
    (mergeK kv0 kvs).map (·.1) = (kws.foldl (fun acc kw => putKW acc.1 acc.2 kw.1 kw.2) (kv0.map (·.1), ws0)).1 ∧ RWs K H S (kws.foldl (fun acc kw => putKW acc.1 acc.2 kw.1 kw.2) (kv0.map (·.1), ws0)).2 ((mergeK kv0 kvs).map (·.2))
  | [], kws, kv0, ws0, e, h, h0 => by
    cases kws with
    | nil => exact ⟨rfl, h0⟩
    | cons a b => cases e
  | (k, v) :: kvs, kws, kv0, ws0, e, h, h0 => by
    cases kws with
    | nil => cases e
    | cons a b =>
      obtain ⟨k', w⟩ := a
      have e1 : k = k' := (List.cons.inj e).1
      have e2 : kvs.map (·.1) = b.map (·.1) := (List.cons.inj e).2
      subst e1
      have h' : RWs K H S (w :: b.map (·.2)) (v :: kvs.map (·.2)) := h
      unfold RWs at h'
      obtain ⟨v', r', e3, h1, h2⟩ := h'
      cases e3
      have z := merge_rel (kv0 := L2.putK kv0 k v) e2 h2 (put_vals (k := k) (v := v) h0 h1)
      rw [← put_keys kv0 ws0 k v w] at z
      exact z
/-- the parts of a display, key, thing, key, thing, .. -/
theorem we_disp {m : Bool} {ks : List (Option Expr)} {vs : List Expr} {trs : List (TE × TE)} {wP : WA} (h : PPs X pos ks vs trs)
    (ht : ∀ τ H Qp, LA X.K Ê wP τ H (fun vs H2 => ∀ prs, vs = flatP prs → Qp prs H2) → tPairs trs τ H Qp) (hall : ks.all (·.isSome) = true) (hl : ks.length = vs.length) (h15 : ks.length ≤ 15) (hn : ks ≠ []) :
    PE X (.Dict ks vs pos) (LE X.K Ê fun σ S Q Y => ∀ p, S p = none → wP σ (S.set p (.dct [] [])) (fun ws S1 => S1 p = some (.dct [] []) ∧ ∃ kws, pairsW ws = some kws ∧ kws.length ≤ 15 ∧
      if m then Q (.ref p) (S1.set p (.dct (mergeW kws).1 (mergeW kws).2)) else Q (.dct (mergeW kws).1 (mergeW kws).2) (S1.del p)) Y) :=
  (pe_disp h hall hl hn h15).imp fun τ H Qh ⟨σ, S, Q, Y, hs, hl, hw, k, hx⟩ p hp => by
    have e0 : Ext H S (upd H p (.dK [])) (S.set p (.dct [] [])) := ext_newS hp
    have l0 : LinkS X.K (upd H p (.dK [])) (S.set p (.dct [] [])) := hl.put e0 ⟨[], rfl, rfl, .nil⟩
    refine ht _ _ _ (LA.mk (hs.ext e0) l0 (hx.ext e0) (hw p (hl.fresh hp)) fun ws S1 vs H1 e1 l1 s1 x1 r1 ⟨hp1, kws, ek, h15, q⟩ prs ev => ?_)
    subst ev
    obtain ⟨o, h1, kvs0, e3, e4, h2⟩ := l1 p _ hp1
    have e5 : kvs0 = [] := by simpa using e4
    subst e5
    subst e3
    obtain ⟨kvs, i1, i2, i3⟩ := pairs_rel r1 ek
    have len : kvs.length = kws.length := by
      have := congrArg List.length i2
      simpa using this
    refine ⟨h1, kvs, i1, by omega, ?_⟩
    obtain ⟨m1, m2⟩ := merge_rel (kv0 := []) (ws0 := []) i2 i3 .nil
    have e6 : Ext H1 S1 (upd H1 p (.dK (mergeK [] kvs))) (S1.set p (.dct (mergeW kws).1 (mergeW kws).2)) := ext_chg hp1
    have l6 := l1.put e6 (⟨_, rfl, m1, m2⟩ : RO X.K H1 S1 (.dct (mergeW kws).1 (mergeW kws).2) (.dK (mergeK [] kvs)))
    have e7 := (e0.trans e1).trans e6
    cases m with
    | true => exact k _ _ _ _ e7 l6 .r q
    | false =>
      have z := RW.frozenD l6 Sto.set_same
      have l7 := l6.del p
      have e8 := e7.trans (ext_del (a := p))
      have eq : (S1.set p (.dct (mergeW kws).1 (mergeW kws).2)).del p = S1.del p := by
        funext b
        unfold Sto.set Sto.del
        split
        · rfl
        · rename_i hb; exact if_neg hb
      rw [eq] at z l7 e8
      exact k _ _ _ _ e8 l7 z q
theorem we_disp0 {m : Bool} {vs : List Expr} {wP : WA} (ht : ∀ σ S Q Y, wP σ S Q Y → Q [] S) (hv : vs = []) :
    PE X (.Dict [] vs pos) (LE X.K Ê fun σ S Q Y => ∀ p, S p = none → wP σ (S.set p (.dct [] [])) (fun ws S1 => S1 p = some (.dct [] []) ∧ ∃ kws, pairsW ws = some kws ∧ kws.length ≤ 15 ∧
      if m then Q (.ref p) (S1.set p (.dct (mergeW kws).1 (mergeW kws).2)) else Q (.dct (mergeW kws).1 (mergeW kws).2) (S1.del p)) Y) := by
  subst hv
  exact pe_dnewK.imp fun τ H Qh ⟨σ, S, Q, Y, hs, hl, hw, k, hx⟩ p hp => by
    have e0 : Ext H S (upd H p (.dK [])) (S.set p (.dct [] [])) := ext_newS hp
    have l0 : LinkS X.K (upd H p (.dK [])) (S.set p (.dct [] [])) := hl.put e0 ⟨[], rfl, rfl, .nil⟩
    obtain ⟨_, kws, ek, _, q⟩ := ht _ _ _ _ (hw p (hl.fresh hp))
    cases ek
    cases m with
    | true =>
      have q' : Q (.ref p) ((S.set p (.dct [] [])).set p (.dct [] [])) := q
      rw [Sto.set_set] at q'
      exact k _ _ _ _ e0 l0 .r q'
    | false =>
      have z := RW.frozenD l0 Sto.set_same
      exact k _ _ _ _ (e0.trans ext_del) (l0.del p) z q
end
end PD

set_option Elab.async false
set_option linter.all false
set_option maxRecDepth 100000
set_option maxHeartbeats 4000000
namespace PD
open PySem PySem.Spec PyProof.Rows L2

/-! ## targets -/
/-- out of the target's reach -/
def keepsT (t : Tg) (τ τ' : L2.St) : Prop := ∀ vs, t.own vs = true → wipe τ' vs = wipe τ vs
def keepsTs (ts : List Tg) (τ τ' : L2.St) : Prop := ∀ vs, Tg.own.owns vs ts = true → wipe τ' vs = wipe τ vs
def LG (K : PySem.W.Frag) (t : Tg) : TG := fun x τ H Qh => ∃ σ S w Q, RSl K H S σ τ ∧ LinkS K H S ∧ RW K H S w x ∧ t.go w σ Q ∧ ∀ σ' τ', RSl K H S σ' τ' → keepsT t τ τ' → Q σ' → Qh τ' H
def LGs (K : PySem.W.Frag) (ts : List Tg) : TGs := fun xs τ H Qh => ∃ σ S ws Q, RSl K H S σ τ ∧ LinkS K H S ∧ RWs K H S ws xs ∧ Tg.go.goAll ts ws σ Q ∧ ∀ σ' τ', RSl K H S σ' τ' → keepsTs ts τ τ' → Q σ' → Qh τ' H
theorem wipe_set_own {τ : L2.St} {i : Nat} {x : Option V} : ∀ {vs : List Nat}, i ∈ vs → wipe (τ.set i x) vs = wipe τ vs
  | v :: vs, h => by
    show (wipe (τ.set i x) vs).set v none = (wipe τ vs).set v none
    by_cases e : v = i
    · subst e
      by_cases hv : v ∈ vs
      · rw [wipe_set_own hv]
      · have gen : ∀ us : List Nat, v ∉ us → wipe (τ.set v x) us = (wipe τ us).set v x := by
          intro us
          induction us with
          | nil => intro _; rfl
          | cons u us ih =>
            intro hn
            have h1 : v ≠ u := fun z => hn (by simp [z])
            have h2 : v ∉ us := fun z => hn (by simp [z])
            show (wipe (τ.set v x) us).set u none = ((wipe τ us).set u none).set v x
            rw [ih h2, List.set_comm _ _ h1]
        rw [gen vs hv, List.set_set]
    · have hv : i ∈ vs := by
        rcases List.mem_cons.mp h with z | z
        · exact absurd z.symm e
        · exact z
      rw [wipe_set_own hv]
theorem pg_imp {X : Cx} {e : Expr} {t t' : TG} (h : PG X e t) (i : ∀ v σ H Q, t' v σ H Q → t v σ H Q) : PG X e t' := ⟨fun pins s σ H v u Q I r q => h.run pins s σ H v u Q I r (i _ _ _ _ q)⟩
theorem pgs_imp {X : Cx} {e : List Expr} {t t' : TGs} (h : PGs X e t) (i : ∀ v σ H Q, t' v σ H Q → t v σ H Q) : PGs X e t' := ⟨fun pins s σ H v u Q I r q => h.run pins s σ H v u Q I r (i _ _ _ _ q)⟩
section
variable {X : Cx} {C : Cn} {Ê : XK} {c : Sc} {fr fl : List Str}
theorem RW.tupT {K : PySem.W.Frag} {H : Hp} {S : Sto} {xs : List W} {v : V} (h : RW K H S (.tup xs) v) : ∃ a vs, v = .ref a ∧ SqT K H a vs ∧ RWs K H S xs vs := by
  unfold RW at h
  obtain ⟨a, vs, h1, h2, h3⟩ := h
  exact ⟨a, vs, h1, h2.sq, h3⟩
/-- what a target looks like -/
def tgtB : Expr → Bool
  | .Name _ _ => true
  | .Tuple _ _ _ => true
  | _ => false
theorem tgt_of {N : List Str} {t : Tg} {e : Expr} (h : chkT N c t e = true) : tgtB e = true := by
  cases t <;> cases e <;> first | rfl | (unfold chkT at h; cases h)
theorem each_of {N : List Str} {ts : List Tg} : ∀ {es : List Expr}, chkTs N c ts es = true → ∀ env, (assignEach es env).length = ts.length ∧ (assignEach es env).findIdx? (·.1) = none ∧ (assignEach es env).map (·.2) = es.map fun e => assign e env := by
  induction ts with
  | nil =>
    intro es h env
    cases es with
    | nil => exact ⟨rfl, rfl, rfl⟩
    | cons e es => unfold chkTs at h; cases h
  | cons t ts ih =>
    intro es h env
    cases es with
    | nil => unfold chkTs at h; cases h
    | cons e es =>
      unfold chkTs at h
      obtain ⟨h1, h2⟩ := ba2 h
      obtain ⟨i1, i2, i3⟩ := ih h2 env
      have e1 : assignEach (e :: es) env = (false, assign e env) :: assignEach es env := by
        have := tgt_of h1
        cases e <;> first | rfl | cases this
      rw [e1]
      refine ⟨by simp [i1], ?_, by simp [i3]⟩
      rw [List.findIdx?_cons]
      simp [i2]
mutual
theorem sT (o : Ok X C Ê c fr fl) : ∀ (t : Tg) (e : Expr), chkT X.N c t e = true → PG X e (LG X.K t)
  | .name i, e, h => by
    cases e <;> first | (unfold chkT at h; cases h; done) | skip
    unfold chkT at h
    obtain ⟨h1, h2⟩ := ba2 h
    obtain ⟨hl, hf⟩ := o.loc h2
    exact pg_imp (pg_name o.nd (by simpa using h1) hl hf) fun v τ H Q ⟨σ, S, w, Q', hs, hl, r, ⟨hi, q⟩, k⟩ =>
      k _ _ (hs.set i r) (fun vs ho => wipe_set_own (by simpa [Tg.own] using ho)) q
  | .tup ts, e, h => by
    cases e <;> first | (unfold chkT at h; cases h; done) | skip
    unfold chkT at h
    obtain ⟨i1, i2, i3⟩ := each_of h X.env
    exact pg_imp (pg_tup o.calm (sTs o ts _ h) i1 i2) fun v τ H Q ⟨σ, S, w, Q', hs, hl, r, ⟨ws, ew, len, q⟩, k⟩ => by
      subst ew
      obtain ⟨a, vs, rfl, h1, h2⟩ := r.tupT
      exact ⟨a, vs, rfl, h1, by rw [← h2.len]; exact len, σ, S, ws, Q', hs, hl, h2, q, k⟩
theorem sTs (o : Ok X C Ê c fr fl) : ∀ (ts : List Tg) (es : List Expr), chkTs X.N c ts es = true → PGs X es (LGs X.K ts)
  | [], es, h => by
    cases es with
    | cons e es => unfold chkTs at h; cases h
    | nil =>
      exact pgs_imp pgs_nil fun vs τ H Q ⟨σ, S, ws, Q', hs, hl, r, ⟨ew, q⟩, k⟩ => by
        subst ew
        unfold RWs at r
        exact ⟨r, k _ _ hs (fun us _ => rfl) q⟩
  | t :: ts, es, h => by
    cases es with
    | nil => unfold chkTs at h; cases h
    | cons e es =>
      obtain ⟨_, _, i3⟩ := each_of h X.env
      unfold chkTs at h
      obtain ⟨h1, h2⟩ := ba2 h
      obtain ⟨_, _, i4⟩ := each_of h2 X.env
      exact pgs_imp (pgs_cons (sT o t e h1) (sTs o ts es h2) (by rw [i3, i4]; rfl)) fun vs τ H Q ⟨σ, S, ws, Q', hs, hl, r, ⟨w, r', ew, q⟩, k⟩ => by
        subst ew
        unfold RWs at r
        obtain ⟨v, vr, ev, r1, r2⟩ := r
        refine ⟨v, vr, ev, σ, S, w, _, hs, hl, r1, q, fun σ' τ' hs' kt q' => ⟨σ', S, r', Q', hs', hl, r2, q', fun σ2 τ2 hs2 kt2 q2 => k _ _ hs2 (fun us hu => ?_) q2⟩⟩
        have hu' : (Tg.own us t && Tg.own.owns us ts) = true := hu
        obtain ⟨u1, u2⟩ := ba2 hu'
        rw [kt2 us u2, kt us u1]
end
end
end PD

set_option Elab.async false
set_option linter.all false
set_option maxRecDepth 100000
set_option maxHeartbeats 4000000
namespace PD
open PySem PySem.Spec PyProof.Rows L2

/-! ## what is walked over -/
/-- an iterator of these things, from now on -/
def JIt (K : PySem.W.Frag) (J : L2.It) (H : Hp) (S : Sto) (ws : List W) : Prop := ∀ H1 S1, Ext H S H1 S1 → LinkS K H1 S1 →
  (∀ i w, ws[i]? = some w → J.go i H1 ∧ ∀ x H2, J.yld i H1 x H2 → Ext H1 S1 H2 S1 ∧ LinkS K H2 S1 ∧ RW K H2 S1 w x) ∧ J.stop ws.length H1
abbrev WI := Sl → Sto → (List W → Sto → Prop) → QW → Prop
def LI (K : PySem.W.Frag) (Ê : XK) (w : WI) : TI := fun τ H R => ∃ σ S Q X, RSl K H S σ τ ∧ LinkS K H S ∧ w σ S Q X ∧
  (∀ ws S' J H', Ext H S H' S' → LinkS K H' S' → JIt K J H' S' ws → Q ws S' → R J H') ∧ XO K Ê H S X
section
variable {K : PySem.W.Frag} {H : Hp} {S : Sto}
theorem jit_list {a : Addr} {vs : List V} {ws : List W} (h : RdL K H S a vs) (r : RWs K H S ws vs) : JIt K (Itl K a) H S ws := fun H1 S1 e l => by
  have h1 := h.ext e
  have r1 := RWs.ext e _ _ r
  refine ⟨fun i w hw => ?_, ⟨vs, h1.sq, by rw [r1.len]; exact Nat.le_refl _⟩⟩
  · obtain ⟨v, hv, rv⟩ := r1.get hw
    exact ⟨⟨vs, v, h1.sq, hv⟩, fun x H2 ⟨e2, hx⟩ => by
      subst e2
      have z := hx vs h1.sq
      rw [hv] at z; cases z
      exact ⟨.refl, l, rv⟩⟩
theorem jit_tup {a : Addr} {vs : List V} {ws : List W} (h : RdT K H S a vs) (r : RWs K H S ws vs) : JIt K (Itt K a) H S ws := fun H1 S1 e l => by
  have h1 := h.ext e
  have r1 := RWs.ext e _ _ r
  refine ⟨fun i w hw => ?_, ⟨vs, h1.sq, by rw [r1.len]; exact Nat.le_refl _⟩⟩
  · obtain ⟨v, hv, rv⟩ := r1.get hw
    exact ⟨⟨vs, v, h1.sq, hv⟩, fun x H2 ⟨e2, hx⟩ => by
      subst e2
      have z := hx vs h1.sq
      rw [hv] at z; cases z
      exact ⟨.refl, l, rv⟩⟩
theorem jit_rng {lo : Int} {n : Nat} : JIt K (Itr lo n) H S (rgW lo n) := fun H1 S1 e l => by
  refine ⟨fun i w hw => ?_, (by simp [rgW] : n ≤ (rgW lo n).length)⟩
  · have hi : i < n := by
      have := (List.getElem?_eq_some_iff.mp hw).1
      simpa [rgW] using this
    unfold rgW at hw
    rw [List.getElem?_map, List.getElem?_range hi] at hw
    cases hw
    exact ⟨hi, fun x H2 ⟨e2, hx⟩ => by subst e2; subst hx; exact ⟨.refl, l, .i⟩⟩
theorem jit_str {x : Str} : JIt K (Its x) H S (signs x) := fun H1 S1 e l => by
  refine ⟨fun i w hw => ?_, (by simp [signs] : x.cps.size ≤ (signs x).length)⟩
  · unfold signs at hw
    rw [List.getElem?_map] at hw
    cases q : x.cps.toList[i]? with
    | none => rw [q] at hw; cases hw
    | some c =>
      rw [q] at hw; cases hw
      have q' : x.cps[i]? = some c := by simpa using q
      have hi : i < x.cps.size := by
        have := (List.getElem?_eq_some_iff.mp q).1
        simpa using this
      refine ⟨hi, fun y H2 ⟨e2, c', hc, hy⟩ => ?_⟩
      subst e2; subst hy
      rw [q'] at hc; cases hc
      exact ⟨.refl, l, .s⟩
theorem jit_keys {a : Addr} {od : Obj} {kvs : List (Key × V)} (h : H a = some (.frz od (.dK kvs))) (hs : S a = none) : JIt K (Itk a od kvs) H S ((kvs.map (·.1)).map kW) := fun H1 S1 e l => by
  have h1 : H1 a = some (.frz od (.dK kvs)) := by
    rcases (e a _ h hs).1 with z | ⟨mu, _⟩
    · exact z
    · exact mu.elim
  refine ⟨fun i w hw => ?_, ⟨h1, by simp⟩⟩
  · rw [List.getElem?_map, List.getElem?_map] at hw
    cases q : kvs[i]? with
    | none => rw [q] at hw; cases hw
    | some p =>
      rw [q] at hw; cases hw
      refine ⟨⟨h1, (List.getElem?_eq_some_iff.mp q).1⟩, fun x H2 ⟨e2, k, v, hk, hx⟩ => ?_⟩
      subst e2; subst hx
      rw [q] at hk; cases hk
      refine ⟨.refl, l, ?_⟩
      cases k <;> (show RW _ _ _ (kW _) _) <;> first | exact RW.i | exact RW.s
theorem new_pair {H1 : Hp} {S1 : Sto} {T : Addr} {x y : V} {w u : W} (l : LinkS K H1 S1) (hT : H1 T = none) (r1 : RW K H1 S1 w x) (r2 : RW K H1 S1 u y) :
    Ext H1 S1 (upd H1 T (.tup [x, y])) S1 ∧ LinkS K (upd H1 T (.tup [x, y])) S1 ∧ RW K (upd H1 T (.tup [x, y])) S1 (.tup [w, u]) (.ref T) := by
  have e : Ext H1 S1 (upd H1 T (.tup [x, y])) S1 := ext_new hT
  refine ⟨e, l.new hT, ?_⟩
  unfold RW
  exact ⟨T, [x, y], rfl, .inl ⟨.inl upd_same, l.fresh hT⟩, .cons (r1.ext e) (.cons (r2.ext e) .nil)⟩
theorem enumW_get {xs : List W} {i : Nat} : (enumW xs)[i]? = xs[i]?.map fun x => W.tup [.int i, x] := by
  unfold enumW
  rw [List.getElem?_map, List.getElem?_zipIdx]
  cases xs[i]? <;> simp
theorem jit_enumL {a : Addr} {vs : List V} {ws : List W} (h : RdL K H S a vs) (r : RWs K H S ws vs) : JIt K (Ite K a) H S (enumW ws) := fun H1 S1 e l => by
  have h1 := h.ext e
  have r1 := RWs.ext e _ _ r
  refine ⟨fun i w hw => ?_, ⟨vs, h1.sq, by rw [← r1.len]; simp [enumW]⟩⟩
  · rw [enumW_get] at hw
    cases q : ws[i]? with
    | none => rw [q] at hw; cases hw
    | some u =>
      rw [q] at hw; cases hw
      obtain ⟨v, hv, rv⟩ := r1.get q
      refine ⟨⟨vs, v, h1.sq, hv⟩, fun x H2 ⟨T, y, ex, hT, e2, hy⟩ => ?_⟩
      subst ex; subst e2
      have z := hy vs h1.sq
      rw [hv] at z; cases z
      exact new_pair l hT .i rv
theorem zipWW_get {xs ys : List W} {i : Nat} : (zipWW xs ys)[i]? = match xs[i]?, ys[i]? with
    | some x, some y => some (W.tup [x, y])
    | _, _ => none := by
  unfold zipWW
  rw [List.getElem?_map, List.zip, List.getElem?_zipWith]
  cases xs[i]? <;> cases ys[i]? <;> rfl
theorem jit_zipL {a b : Addr} {vs us : List V} {xs ys : List W} (h : RdL K H S a vs) (r : RWs K H S xs vs) (h' : RdL K H S b us) (r' : RWs K H S ys us) : JIt K (Itz K a b) H S (zipWW xs ys) := fun H1 S1 e l => by
  have h1 := h.ext e
  have r1 := RWs.ext e _ _ r
  have h1' := h'.ext e
  have r1' := RWs.ext e _ _ r'
  refine ⟨fun i w hw => ?_, ⟨vs, us, h1.sq, h1'.sq, by rw [← r1.len, ← r1'.len]; simp [zipWW]; omega⟩⟩
  · rw [zipWW_get] at hw
    cases q : xs[i]? with
    | none => rw [q] at hw; cases hw
    | some u =>
      cases q' : ys[i]? with
      | none => rw [q, q'] at hw; cases hw
      | some u' =>
        rw [q, q'] at hw; cases hw
        obtain ⟨v, hv, rv⟩ := r1.get q
        obtain ⟨v', hv', rv'⟩ := r1'.get q'
        refine ⟨⟨vs, us, v, v', h1.sq, h1'.sq, hv, hv'⟩, fun x H2 ⟨T, y, y', ex, hT, e2, hy, hy'⟩ => ?_⟩
        subst ex; subst e2
        have z := hy vs h1.sq
        rw [hv] at z; cases z
        have z := hy' us h1'.sq
        rw [hv'] at z; cases z
        exact new_pair l hT rv rv'
theorem jit_zipT {a b : Addr} {vs us : List V} {xs ys : List W} (h : RdT K H S a vs) (r : RWs K H S xs vs) (h' : RdT K H S b us) (r' : RWs K H S ys us) : JIt K (RZ.ItzT K a b) H S (zipWW xs ys) := fun H1 S1 e l => by
  have h1 := h.ext e
  have r1 := RWs.ext e _ _ r
  have h1' := h'.ext e
  have r1' := RWs.ext e _ _ r'
  refine ⟨fun i w hw => ?_, ⟨vs, us, h1.sq, h1'.sq, by rw [← r1.len, ← r1'.len]; simp [zipWW]; omega⟩⟩
  · rw [zipWW_get] at hw
    cases q : xs[i]? with
    | none => rw [q] at hw; cases hw
    | some u =>
      cases q' : ys[i]? with
      | none => rw [q, q'] at hw; cases hw
      | some u' =>
        rw [q, q'] at hw; cases hw
        obtain ⟨v, hv, rv⟩ := r1.get q
        obtain ⟨v', hv', rv'⟩ := r1'.get q'
        refine ⟨⟨vs, us, v, v', h1.sq, h1'.sq, hv, hv'⟩, fun x H2 ⟨T, y, y', ex, hT, e2, hy, hy'⟩ => ?_⟩
        subst ex; subst e2
        have z := hy vs h1.sq
        rw [hv] at z; cases z
        have z := hy' us h1'.sq
        rw [hv'] at z; cases z
        exact new_pair l hT rv rv'
end
section
variable {X : Cx} {C : Cn} {Ê : XK} {c : Sc} {fr fl : List Str} {wa wb : PD.WE} {was : WA} {pa pb tg : Expr} {ps : List Expr} {pos p : Pos}
theorem _root_.L2.PI.imp' {X : Cx} {tg e : Expr} {t t' : TI} (h : PI X tg e t) (i : ∀ σ H Q, t' σ H Q → t σ H Q) : PI X tg e t' := ⟨fun pins s σ H Q I q => h.run pins s σ H Q I (i _ _ _ q)⟩
theorem RW.tupR {K : PySem.W.Frag} {H : Hp} {S : Sto} {xs : List W} {v : V} (h : RW K H S (.tup xs) v) : ∃ a vs, v = .ref a ∧ RdT K H S a vs ∧ RWs K H S xs vs := by
  unfold RW at h; exact h
theorem RW.lstR {K : PySem.W.Frag} {H : Hp} {S : Sto} {xs : List W} {v : V} (h : RW K H S (.lst xs) v) : ∃ a vs, v = .ref a ∧ RdL K H S a vs ∧ RWs K H S xs vs := by
  unfold RW at h; exact h
theorem RW.dctR {K : PySem.W.Frag} {H : Hp} {S : Sto} {ks : List Key} {ws : List W} {v : V} (h : RW K H S (.dct ks ws) v) : ∃ a kvs, v = .ref a ∧ S a = none ∧ Rd H a (.dK kvs) ∧ kvs.map (·.1) = ks ∧ RWs K H S ws (kvs.map (·.2)) := by
  unfold RW at h; exact h
/-- a thing walked over -/
theorem wi_ex (ha : PE X pa (LE X.K Ê wa)) : PI X tg pa (LI X.K Ê fun σ S Q Y => wa σ S (fun w S1 => ∃ xs, itemsW w = some xs ∧ Q xs S1) Y) := by
  refine ⟨fun pins s τ H R I ⟨σ, S, Q, Y, hs, hl, hw, k, hx⟩ => ?_⟩
  refine thn (ha.run pins s τ H _ I (LE.mk hs hl hx hw fun w S1 v H1 e1 l1 s1 x1 r1 q1 => (⟨S1, w, e1, l1, r1, q1⟩ : ∃ S1 w, Ext H S H1 S1 ∧ LinkS X.K H1 S1 ∧ RW X.K H1 S1 w v ∧ ∃ xs, itemsW w = some xs ∧ Q xs S1))) fun u s1 ⟨v, H1, I1, ru, S1, w, e1, l1, r1, xs, ex, q⟩ => ?_
  cases w <;> first | (cases ex; done) | skip
  case str x =>
    cases ex
    obtain rfl : v = V.str x := by unfold RW at r1; exact r1
    obtain ⟨t, rfl⟩ := ru
    cases ha : x.cps.all (· < 128)
    · exact wpAny_pyIter_wide ha (pi_one (tk := s1.toks) I1 _ (turn_str _ x t "str_iterator" (.inr rfl)) ⟨_, Heap.get?_push_size _ rfl, rfl, rfl⟩ (k _ _ _ _ e1 l1 jit_str q))
    · exact wpAny_pyIter_ascii ha (pi_one (tk := s1.toks) I1 _ (turn_str _ x t "str_ascii_iterator" (.inl rfl)) ⟨_, Heap.get?_push_size _ rfl, rfl, rfl⟩ (k _ _ _ _ e1 l1 jit_str q))
  case tup ys =>
    cases ex
    obtain ⟨a, vs, rfl, h1, h2⟩ := r1.tupR
    cases ru
    obtain ⟨its, rv, p, hz⟩ := I1.tuple h1.sq
    exact wpAny_pyIter_tuple (show s1.heap.IsTuple a its.toArray from p) (pi_one (tk := s1.toks) I1 _ (turn_tuple a _) ⟨_, Heap.get?_push_size _ rfl, rfl, rfl⟩ (k _ _ _ _ e1 l1 (jit_tup h1 h2) q))
  case lst ys =>
    cases ex
    obtain ⟨a, vs, rfl, h1, h2⟩ := r1.lstR
    cases ru
    obtain ⟨its, rv, p, hz⟩ := I1.list h1.sq
    exact wpAny_pyIter_list p.isList (pi_one (tk := s1.toks) I1 _ (turn_list a _) ⟨_, Heap.get?_push_size _ rfl, rfl, rfl⟩ (k _ _ _ _ e1 l1 (jit_list h1 h2) q))
  case dct ks ws =>
    cases ex
    obtain ⟨a, kvs, rfl, h0, h1, rfl, h2⟩ := r1.dctR
    cases ru
    -- locked from now on
    obtain ⟨od, H2, I2, hd, e2, l2⟩ : ∃ od H2, Inv X pins τ H2 s1 ∧ H2 a = some (.frz od (.dK kvs)) ∧ Ext H1 S1 H2 S1 ∧ LinkS X.K H2 S1 := by
      rcases h1 with h1 | ⟨od, h1⟩
      · obtain ⟨od, I2⟩ := I1.lock h1 True.intro
        have e2 : Ext H1 S1 (upd H1 a (.frz od (.dK kvs))) S1 := fun b ob hb hn => by
          by_cases e : b = a
          · subst e
            rw [h1] at hb; cases hb
            exact ⟨.inr ⟨True.intro, od, upd_same⟩, hn⟩
          · exact ⟨.inl (by rw [upd_ne e]; exact hb), hn⟩
        refine ⟨od, _, I2, upd_same, e2, fun b so hb => ?_⟩
        obtain ⟨ob, h3, h4⟩ := l1 b so hb
        have hne : b ≠ a := fun e => by subst e; rw [h0] at hb; cases hb
        exact ⟨ob, by rw [upd_ne hne]; exact h3, h4.ext e2⟩
      · exact ⟨od, H1, I1, h1, .refl, l1⟩
    obtain ⟨hs', hgd, hx', es, ep, vs, hdt, hsz, kv, hm⟩ := I2.frzK hd
    refine iter_keys hs' hgd hx' hdt (pi_one (tk := s1.toks) I2 _ (turn_keys _ hdt) ⟨_, Heap.get?_push_size _ rfl, rfl, ?_⟩ (k _ _ _ _ (e1.trans e2) l2 (jit_keys hd h0) q))
    rw [hsz] <;> rfl
theorem wi_rng1 {q : Pos} (hg : Gl X "range") (hm : X.mg "range" = none) (hst : starEach [pa] X.env = [(false, eval pa X.env)]) (ha : PE X pa (LE X.K Ê wa)) :
    PI X tg (.Call (.Name "range" q) [pa] [] pos) (LI X.K Ê fun σ S Q Y => wa σ S (fun x S1 => ∃ j, x = .int j ∧ -(2 ^ 62) ≤ j ∧ j < 2 ^ 62 ∧ Q (rgW 0 j.toNat) S1) Y) :=
  (pi_range1 hg hm (pa_cons ha pa_nil hst) hst).imp' fun τ H R ⟨σ, S, Q, Y, hs, hl, hw, k, hx⟩ => LE.mk hs hl hx hw fun x S1 v H1 e1 l1 s1 x1 r1 ⟨j, ew, h1, h2, q⟩ => by
    subst ew
    obtain rfl := r1.int_
    exact ⟨j, rfl, h1, h2, k _ _ _ _ e1 l1 jit_rng q⟩
theorem wi_rng2 {q : Pos} (hg : Gl X "range") (hm : X.mg "range" = none) (hs1 : starEach [pa, pb] X.env = [(false, eval pa X.env), (false, eval pb X.env)]) (hs2 : starEach [pb] X.env = [(false, eval pb X.env)]) (ha : PE X pa (LE X.K Ê wa)) (hb : PE X pb (LE X.K Ê wb)) :
    PI X tg (.Call (.Name "range" q) [pa, pb] [] pos) (LI X.K Ê fun σ S Q Y => wa σ S (fun x S1 => wb σ S1 (fun y S2 => ∃ i j, x = .int i ∧ y = .int j ∧ (-(2 ^ 62) ≤ i ∧ i < 2 ^ 62 ∧ -(2 ^ 62) ≤ j ∧ j < 2 ^ 62) ∧ Q (rgW i (j - i).toNat) S2) Y) Y) :=
  (pi_range2 hg hm (pa_cons ha (pa_cons hb pa_nil hs2) (by rw [hs1, hs2])) hs1 hs2).imp' fun τ H R ⟨σ, S, Q, Y, hs, hl, hw, k, hx⟩ => LE.mk hs hl hx hw fun x S1 v H1 e1 l1 s1 x1 r1 q1 => LE.mk s1 l1 x1 q1 fun y S2 u H2 e2 l2 s2 x2 r2 ⟨i, j, ex, ey, hb, q⟩ => by
    subst ex; subst ey
    obtain rfl := r1.int_
    obtain rfl := r2.int_
    exact ⟨i, j, rfl, hb, k _ _ _ _ (e1.trans e2) l2 jit_rng q⟩
theorem wi_zip {q tpos : Pos} {elts : List Expr} {kk : Nat} (hg : Gl X "zip") (hm : X.mg "zip" = none) (hs1 : starEach [pa, pb] X.env = (false, eval pa X.env) :: starEach [pb] X.env) (hs2 : starEach [pb] X.env = [(false, eval pb X.env)])
    (hpl : (backTo pos (starEach [pb] X.env)).any (·.1) = false) (ha : PE X pa (LE X.K Ê wa)) (hb : PE X pb (LE X.K Ê wb)) :
    PI X (.Tuple elts kk tpos) (.Call (.Name "zip" q) [pa, pb] [] pos) (LI X.K Ê fun σ S Q Y => wa σ S (fun x S1 => wb σ S1 (fun y S2 => ∃ xs ys, ((x = .lst xs ∧ y = .lst ys) ∨ (x = .tup xs ∧ y = .tup ys)) ∧ Q (zipWW xs ys) S2) Y) Y) :=
  (RZ.pi_zipA hg hm (pa_cons ha (pa_cons hb pa_nil hs2) hs1) hs1 hpl).imp' fun τ H R ⟨σ, S, Q, Y, hs, hl, hw, k, hx⟩ => LE.mk hs hl hx hw fun x S1 v H1 e1 l1 s1 x1 r1 q1 => LE.mk s1 l1 x1 q1 fun y S2 u H2 e2 l2 s2 x2 r2 ⟨xs, ys, hxy, q⟩ => by
    rcases hxy with ⟨ex, ey⟩ | ⟨ex, ey⟩
    · subst ex; subst ey
      obtain ⟨a, vs, rfl, h1, h2⟩ := (r1.ext e2).lstR
      obtain ⟨b, us, rfl, h3, h4⟩ := r2.lstR
      exact ⟨a, b, vs, us, rfl, .inl ⟨h1.sq, h3.sq, k _ _ _ _ (e1.trans e2) l2 (jit_zipL h1 h2 h3 h4) q⟩⟩
    · subst ex; subst ey
      obtain ⟨a, vs, rfl, h1, h2⟩ := (r1.ext e2).tupR
      obtain ⟨b, us, rfl, h3, h4⟩ := r2.tupR
      exact ⟨a, b, vs, us, rfl, .inr ⟨h1.sq, h3.sq, k _ _ _ _ (e1.trans e2) l2 (jit_zipT h1 h2 h3 h4) q⟩⟩
end

/-! ### enumerate, of a tuple too -/
section
variable {prog : Program} {w : World} {A : Around} {E : Value → Shared → Prop} {s : Shared}
set_option maxHeartbeats 4000000 in
/-- enumerate(v) over whatever begins -/
theorem enumNew {v : Value} {ob : Obj} {Hb : Heap → Prop} (B : Begins v ob Hb) : Meets (Builtin.«enumerate.__new__» ⟨[.type "enumerate", v], []⟩) (fun _ R s => Hb s.heap ∧
    R (.ok (.ret (.ref (s.heap.push ob).objs.size))) { s with heap := (s.heap.push ob).push { cls := .type "enumerate", data := .fields #[.none, .bool false, .ref s.heap.objs.size, rawInt 0, .none, .none] } }) :=
  Meets.of_wp fun prg wd Ar R' sh hh => by
    obtain ⟨hp, g, d, tk, os⟩ := sh
    obtain ⟨hb, hr⟩ := hh
    have subE := sub_enumerate
    have its : ∀ {Ar' : Around} {E' : Value → Shared → Prop} {Q' : Value → Shared → Prop}, Q' (.ref hp.objs.size) ⟨hp.push ob, g, d, tk, os⟩ → wpAny (model prg wd) Ar' (pyIter v) Q' E' ⟨hp, g, d, tk, os⟩ := fun z => B.iter prg wd _ _ ⟨hp, g, d, tk, os⟩ _ hb z
    wp_walk using its
    refine wpAny_stack_any fun fr => wpAny_pure ?_
    split
    · rename_i cv _ _ _ _ _
      cases (cv == Value.type "enumerate") <;> (wp_walk using its; exact ⟨_, rfl, hr⟩)
    · wp_walk using its
      exact ⟨_, rfl, hr⟩
theorem enumT_call {t : Addr} {items : Array Value} {Q : Value → Shared → Prop} (hT : s.heap.IsTuple t items)
    (h : ∀ h', IsEnum h' (s.heap.objs.size + 1) s.heap.objs.size 0 .none → h'.IsTupleIter s.heap.objs.size t 0 → (∀ b o, s.heap.get? b = some o → h'.get? b = some o) → Q (.ref (s.heap.objs.size + 1)) { s with heap := h' }) :
    wpAny (model prog w) A (call (.type "enumerate") [.ref t]) Q E s := by
  refine callType_new F.called_enumerate (by decide) (F.typeCall_enumerate_1 _) (F.newCall_enumerate_1 _) (fun obj => F.args_object_init_2 obj _) F.entry_enumerate_new (enumNew (begins_tuple t items)) ⟨hT, ?_⟩
  have sz : (s.heap.push { cls := .type "tuple_iterator", data := .fields #[.ref t, .int 0 0] }).objs.size = s.heap.objs.size + 1 := Heap.size_push ..
  show _ ∧ _
  rw [sz]
  have en : IsEnum ((s.heap.push { cls := .type "tuple_iterator", data := .fields #[.ref t, .int 0 0] }).push { cls := .type "enumerate", data := .fields #[.none, .bool false, .ref s.heap.objs.size, rawInt 0, .none, .none] }) (s.heap.objs.size + 1) s.heap.objs.size 0 .none := by
    have z := Heap.get?_push_size (s.heap.push { cls := .type "tuple_iterator", data := .fields #[.ref t, .int 0 0] }) (o := { cls := .type "enumerate", data := .fields #[.none, .bool false, .ref s.heap.objs.size, rawInt 0, .none, .none] }) rfl
    rw [sz] at z
    exact z
  exact ⟨⟨_, en, rfl⟩, h _ en ⟨_, Heap.get?_push_of_some _ (Heap.get?_push_size _ rfl), rfl, rfl⟩ fun b o z => Heap.get?_push_of_some _ (Heap.get?_push_of_some _ z)⟩
end
/-- the tuple's things, each in a new pair -/
def ItT (K : PySem.W.Frag) (a : Addr) : L2.It :=
  ⟨fun i H => ∃ (xs : List V) (x : V), SqT K H a xs ∧ xs[i]? = some x, fun i H v H' => ∃ T x, v = .ref T ∧ H T = none ∧ H' = upd H T (.tup [.int (i : Nat), x]) ∧ ∀ xs, SqT K H a xs → xs[i]? = some x, fun i H => ∃ xs : List V, SqT K H a xs ∧ xs.length = i⟩
theorem turnET {P : Program} {w : World} {K : PySem.W.Frag} {elts : List Expr} {kk : Nat} {tpos : Pos} (a e it : Addr) :
    Turn P w K (.Tuple elts kk tpos) (ItT K a) [e, it] e (fun i h => (∃ old, IsEnum h e it ((i : Nat) : Int) old) ∧ h.IsTupleIter it a i ∧ e ≠ it) where
  mem := List.mem_cons_self ..
  obj := fun i h st b hb => by
    obtain ⟨⟨old, h1⟩, ⟨o, ho, hc, hd⟩, _⟩ := st
    rcases (show b = e ∨ b = it by simpa using hb) with z | z
    · subst z; exact ⟨_, h1, fun v q => nomatch q⟩
    · subst z; exact ⟨o, ho, fun v q => by rw [hd] at q; cases q⟩
  keep := fun i h h' st kp => by
    obtain ⟨⟨old, h1⟩, h2, h3⟩ := st
    exact ⟨⟨old, kp e (by simp) _ h1⟩, h2.at fun o q => kp it (by simp) o q, h3⟩
  item := by
    intro X hP hw hK hc i pins s σ H E I hf st hg
    subst hP hw hK
    obtain ⟨⟨old, h1⟩, h2, h3⟩ := st
    obtain ⟨xs, x, hq, hx⟩ := hg
    obtain ⟨its, rv, pt, hz⟩ := I.tuple hq
    obtain ⟨u, hu, ru⟩ := rv.get hx
    have le : e < s.heap.objs.size := Heap.lt_size h1
    have li : it < s.heap.objs.size := by obtain ⟨_, q, _⟩ := h2; exact Heap.lt_size q
    have hT : s.heap.IsTuple a its.toArray := pt
    have nai : a ≠ it := fun z => by
      obtain ⟨o1, q1, c1, _⟩ := h2
      obtain ⟨o2, q2, c2, _⟩ := pt
      rw [z, q1] at q2; cases q2
      rw [c1] at c2; injection c2 with z3; exact absurd z3 (by decide)
    have nea : e ≠ a := fun z => by
      obtain ⟨o2, q2, c2, _⟩ := pt
      have h1' : s.heap.get? e = some _ := h1
      rw [z, q2] at h1'; cases h1'
      injection c2 with z3; exact absurd z3 (by decide)
    have dr := Draws.tuple (prog := X.prog) (w := X.w) (A := X.A.in1) (I.ok.hd hc) it a nai its.toArray
    have hlt : i < its.toArray.size := by
      have := (List.getElem?_eq_some_iff.mp hu).1
      simpa using this
    refine wpAny_pyNext_enum_itemD dr h1 ⟨h2, hT⟩ hlt h3 (by simp [h3, nea]) fun y h' tk hy ho st' hnew _ hk => ?_
    have hyu : y = u := by
      have z : its.toArray[i]? = some y := hy
      rw [List.getElem?_toArray, hu] at z
      cases z; rfl
    subst hyu
    refine ⟨_, rfl, wpAny_letOwnedTupleGo_enum (s := { s with heap := h', toks := tk + 1 }) ho fun h'' he' sb => ?_⟩
    have hnew2 := (sb.2 _ (Nat.ne_of_gt le)).trans hnew
    have new : ObjOk X.prog X.w (upd H s.heap.objs.size (.tup [.int (i : Nat), x])) h'' s.heap.objs.size (.tup [.int (i : Nat), x]) :=
      ⟨(by decide : 2 ≤ sizeLine), [.int i tk, y], Paired.cons ⟨_, rfl⟩ (Paired.cons ru Paired.nil), ⟨_, hnew2, rfl, _, rfl⟩⟩
    have I1 : Inv X pins σ (upd H s.heap.objs.size (.tup [.int (i : Nat), x])) { s with heap := h'', toks := tk + 1 } :=
      Inv.turnedNew (ch := [e, it]) I (fun b ob hb q => (sb.2 b fun z => hb (by simp [z])).trans (hk b ob (fun z => hb (by simp [z])) (fun z => hb (by simp [z])) q)) hf (Nat.le_refl _) new
    refine ⟨.ref s.heap.objs.size, _, I1, rfl, ⟨_, x, rfl, I.hok.fresh (Nat.le_refl _), rfl, fun ys hy => by rw [I.tuple_inj hy hq]; exact hx⟩, ⟨⟨y, ?_⟩, st'.1.at fun o q => (sb.2 it h3.symm).trans q, h3⟩, fun b hb => ?_⟩
    · rw [show ((i + 1 : Nat) : Int) = (i : Int) + 1 by omega]
      exact he'
    · have lb : b < s.heap.objs.size := by
        rcases (show b = e ∨ b = it by simpa using hb) with z | z
        · rw [z]; exact le
        · rw [z]; exact li
      rw [upd_ne (Nat.ne_of_lt lb)]
      exact (hf b hb).1
  done := by
    intro X hP hw hK hc i pins s σ H E I hf st hg
    subst hP hw hK
    obtain ⟨⟨old, h1⟩, h2, h3⟩ := st
    obtain ⟨xs, hq, hx⟩ := hg
    obtain ⟨its, rv, pt, hz⟩ := I.tuple hq
    obtain ⟨f0, f1, f2, f3, f4, f5⟩ := hf it (by simp)
    have hl := rv.length
    have nai : a ≠ it := fun z => by
      obtain ⟨o1, q1, c1, _⟩ := h2
      obtain ⟨o2, q2, c2, _⟩ := pt
      rw [z, q1] at q2; cases q2
      rw [c1] at c2; injection c2 with z3; exact absurd z3 (by decide)
    have dr := Draws.tuple (prog := X.prog) (w := X.w) (A := X.A.in1) (I.ok.hd hc) it a nai its.toArray
    have hi : i = its.toArray.size := by rw [← hx, hl]; simp
    have st' : s.heap.IsTupleIter it a its.toArray.size ∧ s.heap.IsTuple a its.toArray := ⟨hi ▸ h2, pt⟩
    exact wpAny_pyNext_enum_endD dr h1 st' fun h' eb => ⟨rfl, I.turned (t' := s.toks) (fun b o hb q => eb b o hb q) f0 f1 f3 f4 f5⟩
  self := fun A i s Q E st h => wpAny_pyIter_enum st.1.choose_spec h
theorem jit_enumT {K : PySem.W.Frag} {H : Hp} {S : Sto} {a : Addr} {vs : List V} {ws : List W} (h : RdT K H S a vs) (r : RWs K H S ws vs) : JIt K (ItT K a) H S (enumW ws) := fun H1 S1 e l => by
  have h1 := h.ext e
  have r1 := RWs.ext e _ _ r
  refine ⟨fun i w hw => ?_, ⟨vs, h1.sq, by rw [← r1.len]; simp [enumW]⟩⟩
  · rw [enumW_get] at hw
    cases q : ws[i]? with
    | none => rw [q] at hw; cases hw
    | some u =>
      rw [q] at hw; cases hw
      obtain ⟨v, hv, rv⟩ := r1.get q
      refine ⟨⟨vs, v, h1.sq, hv⟩, fun x H2 ⟨T, y, ex, hT, e2, hy⟩ => ?_⟩
      subst ex; subst e2
      have z := hy vs h1.sq
      rw [hv] at z; cases z
      exact new_pair l hT .i rv
theorem wi_enum {X : Cx} {Ê : XK} {wa : PD.WE} {pa : Expr} {pos q tpos : Pos} {elts : List Expr} {kk : Nat} (hg : Gl X "enumerate") (hm : X.mg "enumerate" = none) (hst : starEach [pa] X.env = [(false, eval pa X.env)]) (ha : PE X pa (LE X.K Ê wa)) :
    PI X (.Tuple elts kk tpos) (.Call (.Name "enumerate" q) [pa] [] pos) (LI X.K Ê fun σ S Q Y => wa σ S (fun w S1 => ∃ xs, (w = .lst xs ∨ w = .tup xs) ∧ Q (enumW xs) S1) Y) := by
  refine ⟨fun pins s τ H R I ⟨σ, S, Q, Y, hs, hl, hw, k, hx⟩ => ?_⟩
  refine Call_ (ld_blt I hg hm boot_enumerate (PyProof.Rows.callWith_type1 (thn ((pa_cons ha pa_nil hst).run pos pins s τ H (fun vs H1 => ∃ S1 w v, vs = [v] ∧ Ext H S H1 S1 ∧ LinkS X.K H1 S1 ∧ RW X.K H1 S1 w v ∧ ∃ xs, (w = .lst xs ∨ w = .tup xs) ∧ Q (enumW xs) S1) I
    (LE.mk hs hl hx hw fun w S1 v H1 e1 l1 s1 x1 r1 q1 => ⟨S1, w, v, rfl, e1, l1, r1, q1⟩)) fun us s1 ⟨vs, H1, I1, rv, S1, w, v, ev, e1, l1, r1, xs, hxs, q⟩ => ?_) hst rfl))
  subst ev
  obtain ⟨u, rfl, ru⟩ := rv.one
  have near : ∀ b ∈ [s1.heap.objs.size + 1, s1.heap.objs.size], FpOk X pins H1 b := fun b hb => by
    have le : s1.heap.objs.size ≤ b := by
      rcases (show b = s1.heap.objs.size + 1 ∨ b = s1.heap.objs.size by simpa using hb) with z | z <;> omega
    exact I1.fpOk le (I1.hok.fresh le)
  rcases hxs with rfl | rfl
  · obtain ⟨a, vs, rfl, h1, h2⟩ := r1.lstR
    cases ru
    obtain ⟨its, rr, pl, hz⟩ := I1.list h1.sq
    exact call_enumerate_list pl.isList fun h' he hit hsz hk => wpAny_pyIter_enum he
      ⟨_, _, _, _, H1, rfl, I1.kept (t' := s1.toks) hk, turn_enum a _ _, ⟨⟨.none, he⟩, hit, Nat.succ_ne_self _⟩, near, k _ _ _ _ e1 l1 (jit_enumL h1 h2) q⟩
  · obtain ⟨a, vs, rfl, h1, h2⟩ := r1.tupR
    cases ru
    obtain ⟨its, rr, pt, hz⟩ := I1.tuple h1.sq
    exact enumT_call (show s1.heap.IsTuple a its.toArray from pt) fun h' he hit hk => wpAny_pyIter_enum he
      ⟨_, _, _, _, H1, rfl, I1.kept (t' := s1.toks) hk, turnET a _ _, ⟨⟨.none, he⟩, hit, Nat.succ_ne_self _⟩, near, k _ _ _ _ e1 l1 (jit_enumT h1 h2) q⟩
end PD

set_option Elab.async false
set_option linter.all false
set_option maxRecDepth 100000
set_option maxHeartbeats 4000000
namespace PD
open PySem PySem.Spec PyProof.Rows L2

/-! ## tests -/
section
variable {K : PySem.W.Frag} {H : Hp} {S : Sto}
theorem isEmpty_rws {ws : List W} {vs : List V} (r : RWs K H S ws vs) : ws.isEmpty = vs.isEmpty := by
  cases ws with
  | nil => unfold RWs at r; subst r; rfl
  | cons w ws => unfold RWs at r; obtain ⟨v, t, rfl, _, _⟩ := r; rfl
theorem tru_rd {w : W} {v : V} {r : Bool} (l : LinkS K H S) (h : RW K H S w v) (e : truW (rd S w) = some r) : TruV K v H r := by
  have key : ∀ x, rd S w = x → truW x = some r → TruV K v H r := fun x hx ex => by
    cases x with
    | non =>
      obtain rfl := rd_eq hx (fun _ z => nomatch z) (fun _ _ z => nomatch z)
      obtain rfl : v = V.non := by unfold RW at h; exact h
      cases ex; rfl
    | bl b =>
      obtain rfl := rd_eq hx (fun _ z => nomatch z) (fun _ _ z => nomatch z)
      obtain rfl := h.bl_
      cases ex; rfl
    | int i =>
      obtain rfl := rd_eq hx (fun _ z => nomatch z) (fun _ _ z => nomatch z)
      obtain rfl := h.int_
      cases ex; rfl
    | str x =>
      obtain rfl := rd_eq hx (fun _ z => nomatch z) (fun _ _ z => nomatch z)
      obtain rfl := h.str_
      have ex' : (if x.length ≤ sizeLine then some ((x.length : Int) != 0) else none) = some r := ex
      by_cases q : x.length ≤ sizeLine
      · rw [if_pos q] at ex'; cases ex'; exact ⟨q, rfl⟩
      · rw [if_neg q] at ex'; cases ex'
    | lst xs =>
      obtain ⟨a, vs, rfl, h1, h2⟩ := rd_lst l h hx
      cases ex
      exact .inl ⟨vs, h1, by rw [isEmpty_rws h2]⟩
    | tup xs =>
      obtain rfl := rd_eq hx (fun _ z => nomatch z) (fun _ _ z => nomatch z)
      obtain ⟨a, vs, rfl, h1, h2⟩ := h.tupR
      cases ex
      exact .inr (.inl ⟨vs, h1.sq, by rw [isEmpty_rws h2]⟩)
    | dct _ _ => cases ex
    | ref _ => cases ex
    | exc _ _ _ => cases ex
  exact key _ rfl e
end
section
variable {X : Cx} {Ê : XK} {wa wb wc : PD.WE} {ta tb tc : PD.WT} {pa pb pc : Expr} {pos : Pos}
theorem wt_def (hp : plainP pa = true) (n1 : ∀ a b, pa ≠ .UnaryOp .Not a b) (n2 : ∀ a b c, pa ≠ .BoolOp a b c) (n3 : ∀ a b c d, pa ≠ .IfExp a b c d) (n4 : ∀ a b c d, pa ≠ .Compare a b c d) (ha : PE X pa (LE X.K Ê wa)) :
    PT X pa (LT X.K Ê fun σ S Q Y => wa σ S (fun w S1 => ∃ r, truW (rd S1 w) = some r ∧ Q r S1) Y) :=
  (pt_truth ha (truth_of hp n1 n2 n3 n4)).imp fun τ H Qh ⟨σ, S, Q, Y, hs, hl, hw, k, hx⟩ => LE.mk hs hl hx hw fun x S1 v H1 e1 l1 s1 x1 r1 ⟨r, e, q⟩ =>
    ⟨r, tru_rd l1 r1 e, k _ _ _ e1 l1 q⟩
theorem wt_not (ha : PT X pa (LT X.K Ê ta)) : PT X (.UnaryOp .Not pa pos) (LT X.K Ê fun σ S Q Y => ta σ S (fun b S1 => Q (!b) S1) Y) :=
  (pt_not ha).imp fun τ H Qh ⟨σ, S, Q, Y, hs, hl, hw, k, hx⟩ => LT.mk hs hl hx hw fun r S1 H1 e1 l1 s1 x1 q => k _ _ _ e1 l1 q
theorem wt_and {rest : List Expr} (ha : PT X pa (LT X.K Ê ta)) (hb : PW X (.BoolOp .And (pb :: rest) pos) (LT X.K Ê tb)) : PW X (.BoolOp .And (pa :: pb :: rest) pos) (LT X.K Ê fun σ S Q Y => ta σ S (fun r S1 => if r then tb σ S1 Q Y else Q false S1) Y) :=
  (pw_and ha hb).imp fun τ H Qh ⟨σ, S, Q, Y, hs, hl, hw, k, hx⟩ => LT.mk hs hl hx hw fun r S1 H1 e1 l1 s1 x1 q => by
    cases r with
    | true => exact LT.mk s1 l1 x1 q fun r S2 H2 e2 l2 s2 x2 q2 => k _ _ _ (e1.trans e2) l2 q2
    | false => exact k _ _ _ e1 l1 q
theorem wt_or {rest : List Expr} (ha : PT X pa (LT X.K Ê ta)) (hb : PW X (.BoolOp .Or (pb :: rest) pos) (LT X.K Ê tb)) : PW X (.BoolOp .Or (pa :: pb :: rest) pos) (LT X.K Ê fun σ S Q Y => ta σ S (fun r S1 => if r then Q true S1 else tb σ S1 Q Y) Y) :=
  (pw_or ha hb).imp fun τ H Qh ⟨σ, S, Q, Y, hs, hl, hw, k, hx⟩ => LT.mk hs hl hx hw fun r S1 H1 e1 l1 s1 x1 q => by
    cases r with
    | false => exact LT.mk s1 l1 x1 q fun r S2 H2 e2 l2 s2 x2 q2 => k _ _ _ (e1.trans e2) l2 q2
    | true => exact k _ _ _ e1 l1 q
theorem wt_cmp {op : CmpOp} (hu : X.A.units + 64 < cLine) (hm : behindInMarks op pb = false) (ha : PE X pa (LE X.K Ê wa)) (hb : PE X pb (LE X.K Ê wb)) :
    PT X (.Compare pa [op] [pb] pos) (LT X.K Ê fun σ S Q Y => wa σ S (fun x S1 => wb σ S1 (fun y S2 => ∃ r, cmpW op (rd S2 x) (rd S2 y) = some r ∧ ∃ q, truW (rd S2 (.bl r)) = some q ∧ Q q S2) Y) Y) :=
  (pt_cmpR (op_cmp hu op) ha hb hm).imp fun τ H Qh ⟨σ, S, Q, Y, hs, hl, hw, k, hx⟩ => LE.mk hs hl hx hw fun x S1 v H1 e1 l1 s1 x1 r1 q1 => LE.mk s1 l1 x1 q1 fun y S2 u H2 e2 l2 s2 x2 r2 ⟨r, e, q', eq, q⟩ => by
    have eq' : some r = some q' := eq
    cases eq'
    exact ⟨S2, x, y, r, l2, r1.ext e2, r2, e, r, rfl, k _ _ _ (e1.trans e2) l2 q⟩
theorem wt_cmp3 {o1 o2 : CmpOp} (hu : X.A.units + 64 < cLine) (hm : lastMarks [o1, o2] [pb, pc] = false) (ha : PE X pa (LE X.K Ê wa)) (hb : PE X pb (LE X.K Ê wb)) (hc : PE X pc (LE X.K Ê wc)) :
    PT X (.Compare pa [o1, o2] [pb, pc] pos) (LT X.K Ê fun σ S Q Y => wa σ S (fun x S1 => wb σ S1 (fun y S2 => ∃ r, cmpW o1 (rd S2 x) (rd S2 y) = some r ∧
      if r then wc σ S2 (fun z S3 => ∃ q, cmpW o2 (rd S3 y) (rd S3 z) = some q ∧ ∃ p, truW (rd S3 (.bl q)) = some p ∧ Q p S3) Y else ∃ p, truW (rd S2 (.bl false)) = some p ∧ Q p S2) Y) Y) :=
  (pt_chain (op_cmp hu o1) (op_cmp hu o2) ha hb hc hm).imp fun τ H Qh ⟨σ, S, Q, Y, hs, hl, hw, k, hx⟩ => LE.mk hs hl hx hw fun x S1 v H1 e1 l1 s1 x1 r1 q1 => LE.mk s1 l1 x1 q1 fun y S2 u H2 e2 l2 s2 x2 r2 ⟨r, e, q⟩ => by
    refine ⟨S2, x, y, r, l2, r1.ext e2, r2, e, r, rfl, ?_⟩
    cases r with
    | false =>
      obtain ⟨p, ep, q⟩ := q
      have ep' : some false = some p := ep
      cases ep'
      exact ⟨_, rfl, k _ _ _ (e1.trans e2) l2 q⟩
    | true =>
      exact LE.mk s2 l2 x2 q fun z S3 w H3 e3 l3 s3 x3 r3 ⟨q', e', p, ep, q''⟩ => by
        have ep' : some q' = some p := ep
        cases ep'
        exact ⟨S3, y, z, q', l3, r2.ext e3, r3, e', _, rfl, k _ _ _ ((e1.trans e2).trans e3) l3 q''⟩
end

/-! ## comprehensions -/
theorem RSl.wipe {K : PySem.W.Frag} {H : Hp} {S : Sto} {σ : Sl} {τ : L2.St} (h : RSl K H S σ τ) : ∀ vs : List Nat, RSl K H S (wipeS σ vs) (L2.wipe τ vs)
  | [] => h
  | v :: vs => (RSl.wipe h vs).clr v none
theorem wipe_in {τ : L2.St} {i : Nat} : ∀ {vs : List Nat}, i ∈ vs → i < τ.length → (L2.wipe τ vs)[i]? = some none
  | v :: vs, h, hl => by
    show ((L2.wipe τ vs).set v none)[i]? = some none
    by_cases e : v = i
    · subst e
      exact List.getElem?_set_self (by rw [L2.wipe_length]; exact hl)
    · rw [List.getElem?_set_ne e]
      rcases List.mem_cons.mp h with z | z
      · exact absurd z.symm e
      · exact wipe_in z hl
theorem wipe_twice (τ : L2.St) (vs : List Nat) : L2.wipe (L2.wipe τ vs) vs = L2.wipe τ vs := by
  refine List.ext_getElem? fun i => ?_
  by_cases hi : i ∈ vs
  · by_cases hl : i < τ.length
    · rw [wipe_in hi hl, wipe_in hi (by rw [L2.wipe_length]; exact hl)]
    · rw [List.getElem?_eq_none (by rw [L2.wipe_length, L2.wipe_length]; omega), List.getElem?_eq_none (by rw [L2.wipe_length]; omega)]
  · rw [L2.wipe_out hi]
theorem lc_red {K : PySem.W.Frag} {Ê : XK} {wi : WI} {t : Tg} {tt : PD.WT} {te : PD.WE} {own : List Nat} {m : Bool} (hown : t.own own = true) {τ : L2.St} {H : Hp} {Qh : VK}
    (h : LE K Ê (fun σ S Q Y => wi σ S (fun xs S1 => ∀ D, S1 D = none →
      loopC (fun x S' Kk => t.go x (wipeS σ own) fun σ2 => tt σ2 S' (fun b S2 => if b then te σ2 S2 (fun w S3 => Kk (some w) S3) (fun _ _ => False) else Kk none S2) (fun _ _ => False))
        D xs [] (fun ws S2 => if m then Q (.ref D) S2 else Q (.lst ws) (S2.del D)) (S1.set D (.lst []))) Y) τ H Qh) :
    tLc (LI K Ê wi) (LG K t) (LT K E0 tt) (LE K E0 te) own τ H Qh := by
  obtain ⟨σ, S, Q, Y, hs, hl, hw, k, hx⟩ := h
  refine ⟨σ, S, _, Y, hs, hl, hw, fun ws S1 J H1 e1 l1 jit q D hD => ?_, hx⟩
  have q := q D (l1.fresh hD)
  generalize hQf : (fun (ws : List W) (S2 : Sto) => if m = true then Q (.ref D) S2 else Q (.lst ws) (S2.del D)) = Qf at q
  generalize hst : (fun (x : W) (S' : Sto) (Kk : Option W → Sto → Prop) => t.go x (wipeS σ own) fun σ2 => tt σ2 S' (fun b S2 => if b = true then te σ2 S2 (fun w S3 => Kk (some w) S3) (fun _ _ => False) else Kk none S2) (fun _ _ => False)) = step at q
  have e2 : Ext H1 S1 (upd H1 D (.lst [])) (S1.set D (.lst [])) := ext_newS hD
  have l2 := l1.put e2 (⟨[], rfl, .nil⟩ : RO K H1 S1 (.lst []) (.lst []))
  refine ⟨fun i n Hx => n = ws.length - i ∧ i ≤ ws.length ∧ ∃ S' acc, Ext H1 S1 Hx S' ∧ LinkS K Hx S' ∧ loopC step D (ws.drop i) acc Qf S', ⟨ws.length, rfl, Nat.zero_le _, _, [], e2, l2, q⟩, ?_⟩
  rintro i n Hx ⟨rfl, hi, S', acc, ex, lx, q⟩
  obtain ⟨j1, j2⟩ := jit Hx S' ex lx
  by_cases hlt : i < ws.length
  · have hg : ws[i]? = some ws[i] := List.getElem?_eq_getElem hlt
    rw [List.drop_eq_getElem_cons hlt] at q
    obtain ⟨jg, jy⟩ := j1 i _ hg
    refine .inr ⟨jg, fun H' => ∃ S'' acc', Ext H1 S1 H' S'' ∧ LinkS K H' S'' ∧ loopC step D (ws.drop (i + 1)) acc' Qf S'', fun H' ⟨S'', acc', a1, a2, a3⟩ => ⟨ws.length - (i + 1), by omega, rfl, hlt, S'', acc', a1, a2, a3⟩, fun x H' hy => ?_⟩
    obtain ⟨e3, l3, r3⟩ := jy x H' hy
    unfold loopC at q
    obtain ⟨_, q⟩ := q
    rw [← hst] at q
    rw [hst] at q
    have ea := ex.trans e3
    refine ⟨wipeS σ own, S', ws[i], _, (hs.ext (e1.trans ea)).wipe own, l3, r3, q, fun σ2 τ2 hs2 kt q2 => ⟨(kt own hown).trans (wipe_twice τ own), σ2, S', _, fun _ _ => False, hs2, l3, q2, fun b S2 H2 e4 l4 q4 => ?_, XO.none⟩⟩
    cases b with
    | false => exact ⟨S2, acc, ea.trans e4, l4, q4⟩
    | true =>
      refine ⟨σ2, S2, _, fun _ _ => False, hs2.ext e4, l4, q4, fun y S3 v H3 e5 l5 r5 q5 => ?_, XO.none⟩
      obtain ⟨hD3, hlen, q5⟩ := q5
      obtain ⟨u, h1, vs, rfl, h2⟩ := l5 D _ hD3
      have e6 : Ext H3 S3 (upd H3 D (.lst (vs ++ [v]))) (S3.set D (.lst (acc ++ [y]))) := ext_chg hD3
      exact ⟨vs, h1, by rw [← h2.len]; exact hlen, _, acc ++ [y], ((ea.trans e4).trans e5).trans e6, l5.put e6 ⟨_, rfl, h2.append (.cons r5 .nil)⟩, q5⟩
  · have hi' : i = ws.length := by omega
    subst hi'
    rw [List.drop_length] at q
    unfold loopC at q
    obtain ⟨hD', q⟩ := q
    subst hQf
    refine .inl ⟨j2, ?_⟩
    cases m with
    | true => exact k _ _ _ _ (e1.trans ex) lx .r q
    | false => exact k _ _ _ _ ((e1.trans ex).trans ext_del) (lx.del D) (RW.frozen lx hD') q
end PD

set_option Elab.async false
set_option linter.all false
set_option maxRecDepth 100000
set_option maxHeartbeats 4000000
namespace PD
open PySem PySem.Spec PyProof.Rows L2

/-! ## all the rules, once -/
/-- its test is its value's -/
def tstB : Expr → Bool
  | .UnaryOp .Not _ _ => false
  | .BoolOp _ _ _ => false
  | .IfExp _ _ _ _ => false
  | .Compare _ _ _ _ => false
  | _ => true
section
variable {C : Cn} {fr fl : List Str}
theorem both {X : Cx} {Ê : XK} {p : Expr} {w : PD.WE} {b : Bool} (hp : plainP p = true) (hb : tstB p = true) (pe : PE X p (LE X.K Ê w)) : PE X p (LE X.K Ê w) ∧ (b = true → PT X p (LT X.K Ê fun σ S Q Y => w σ S (fun u S1 => ∃ r, truW (rd S1 u) = some r ∧ Q r S1) Y)) :=
  ⟨pe, fun _ => wt_def hp (fun _ _ z => by subst z; cases hb) (fun _ _ _ z => by subst z; cases hb) (fun _ _ _ _ z => by subst z; cases hb) (fun _ _ _ _ z => by subst z; cases hb) pe⟩
theorem ba3 {a b c : Bool} (h : (a && b && c) = true) : a = true ∧ b = true ∧ c = true := let ⟨x, z⟩ := ba2 h; let ⟨x, y⟩ := ba2 x; ⟨x, y, z⟩
theorem ba4 {a b c d : Bool} (h : (a && b && c && d) = true) : a = true ∧ b = true ∧ c = true ∧ d = true := let ⟨x, z⟩ := ba2 h; let ⟨p, q, r⟩ := ba3 x; ⟨p, q, r, z⟩
theorem ba5 {a b c d e : Bool} (h : (a && b && c && d && e) = true) : a = true ∧ b = true ∧ c = true ∧ d = true ∧ e = true := let ⟨x, z⟩ := ba2 h; let ⟨p, q, r, s⟩ := ba4 x; ⟨p, q, r, s, z⟩
theorem nb {a : Bool} (h : (!a) = true) : a = false := by simpa using h
theorem opb {a b : Operator} (h : (a == b) = true) : a = b := by simpa using h
theorem cob {a b : CmpOp} (h : (a == b) = true) : a = b := by simpa using h
theorem marksC {op : CmpOp} {p : Expr} {e : E} {c : Sc} {N : List Str} (h : chkE fr fl N e c p = true) : behindInMarks op p = false := marks_of (chk_plain h)
theorem star1 {e : E} {c : Sc} {N : List Str} {p : Expr} {env : Env} (h : chkE fr fl N e c p = true) : starEach [p] env = [(false, eval p env)] := star_of (chk_plain h)
theorem callB {X : Cx} {c : Sc} {Ê : XK} (o : Ok X C Ê c fr fl) {g : Str} {b : Bi} {was : WA} {pa : Expr} {ps : List Expr} {p pos : Pos} (hn : b.name = g) (hgl : Gl X g) (hfr : X.mg g = none)
    (hst : starEach (pa :: ps) X.env = (false, eval pa X.env) :: starEach ps X.env) (hpl : (backTo pos (starEach ps X.env)).any (·.1) = false) (ha : PA X (pa :: ps) (LA X.K Ê was)) :
    PE X (.Call (.Name g p) (pa :: ps) [] pos) (LE X.K Ê fun σ S Q Y => was σ S (fun ws S1 => biW b ws S1 Q) Y) := by
  subst hn
  cases b with
  | len => exact we_bi bi_len hgl hfr boot_len (by decide) (by decide) hst hpl ha
  | abs => exact we_bi bi_abs hgl hfr boot_abs (by decide) (by decide) hst hpl ha
  | tuple => exact we_biT bi_tuple hgl hfr PyProof.Rows.boot_tuple (by decide) (by decide) hst hpl ha
  | list => exact we_biT bi_list hgl hfr PyProof.Rows.boot_list (by decide) (by decide) hst hpl ha
  | sum => exact we_bi (bi_sum o.calm) hgl hfr boot_sum (by decide) (by decide) hst hpl ha
  | any => exact we_bi (bi_any o.calm) hgl hfr boot_any (by decide) (by decide) hst hpl ha
  | all => exact we_bi (bi_all o.calm) hgl hfr boot_all (by decide) (by decide) hst hpl ha
  | repr =>
    obtain ⟨k, room, p⟩ := o.pr
    exact we_bi (bi_repr (by have := room.un; omega) o.guards p.sysm) hgl hfr boot_repr (by decide) (by decide) hst hpl ha
  | int => exact we_biT bi_int hgl hfr (by decide +kernel) (by decide) (by decide) hst hpl ha
theorem methB {X : Cx} {c : Sc} {Ê : XK} (o : Ok X C Ê c fr fl) {n : Str} {m : Mt} {wa : PD.WE} {was : WA} {po pb : Expr} {ps : List Expr} {ap cp : Pos} (hn : m.name = n) (hok : m.okB = true)
    (ha : PE X po (LE X.K Ê wa)) (has : PA X (pb :: ps) (LA X.K Ê was)) (hbase : ∀ n, attributeBase po n X.env (eval po X.env) = eval po X.env)
    (hfew : ((backTo cp (starEach (pb :: ps) X.env)).all (fun x => !x.1) && (backToKw cp (keywordEach [] X.env)).all (fun x => x.1.isSome)
      && decide ((pb :: ps).length + ([] : List Keyword).length + (if ([] : List Keyword).isEmpty then 0 else 1) < 30)) = true)
    (hline : (ap.endLine == cp.line) = true) (hs : starEach (pb :: ps) X.env = (false, eval pb X.env) :: starEach ps X.env) (hplain : (backTo cp (starEach ps X.env)).any (·.1) = false) :
    PE X (.Call (.Attribute po n ap) (pb :: ps) [] cp) (LE X.K Ê fun σ S Q Y => wa σ S (fun w S1 => tyM m (rd S1 w) = true ∧ was σ S1 (fun ws S2 => mtW m w ws S2 Q) Y) Y) := by
  subst hn
  cases m with
  | get =>
    refine we_meth (T := "dict") PySem.F.plainAttrs_dict PySem.F.slot_dict_get PySem.F.type_dict_get (mt_get o.hu) (fun H S w v l r e => ?_) ha has (hbase _) hfew hline hs hplain
    cases q : rd S w <;> rw [q] at e <;> first | (cases e; done) | exact tyIs_D l r q
  | append =>
    refine we_meth (T := "list") PySem.F.plainAttrs_list PySem.F.slot_list_append PySem.F.type_list_append mt_app (fun H S w v l r e => ?_) ha has (hbase _) hfew hline hs hplain
    cases q : rd S w <;> rw [q] at e <;> first | (cases e; done) | exact tyIs_L l r q
  | setdefault => cases hok
theorem kw_nil {cp : Pos} {env : Env} : (backToKw cp (keywordEach [] env)).all (fun x => x.1.isSome) = true := rfl
theorem plain_I {it : It} {c : Sc} {N : List Str} {p tg : Expr} (h : chkI fr fl N it c p tg = true) : plainP p = true := by
  cases it with
  | ex e => unfold chkI at h; exact chk_plain h
  | rng1 a =>
    cases p <;> first | (unfold chkI at h; cases h; done) | skip
    rename_i g as ks pos
    match g, as, ks, h with
    | .Name g p, [pa], [], h => rfl
  | rng2 a b =>
    cases p <;> first | (unfold chkI at h; cases h; done) | skip
    rename_i g as ks pos
    match g, as, ks, h with
    | .Name g p, [pa, pb], [], h => rfl
  | enum a =>
    cases p <;> first | (unfold chkI at h; cases h; done) | skip
    rename_i g as ks pos
    cases tg <;> first | (unfold chkI at h; simp at h; done) | skip
    all_goals
      match g, as, ks, h with
      | .Name g p, [pa], [], h => rfl
  | zip a b =>
    cases p <;> first | (unfold chkI at h; cases h; done) | skip
    rename_i g as ks pos
    cases tg <;> first | (unfold chkI at h; simp at h; done) | skip
    all_goals
      match g, as, ks, h with
      | .Name g p, [pa, pb], [], h => rfl
mutual
theorem sE : ∀ (e : E) {X : Cx} {c : Sc} {Ê : XK} {p : Expr}, Ok X C Ê c fr fl → chkE fr fl X.N e c p = true → PE X p (LE X.K Ê (wE C e)) ∧ (tvB e = true → PT X p (LT X.K Ê (wT C (.val e))))
  | .loc i, X, c, Ê, p, o, h => by
    have hp := chk_plain h
    cases p <;> first | (unfold chkE at h; cases h; done) | skip
    unfold chkE at h
    obtain ⟨h1, h2, h3, h4⟩ := ba4 h
    exact both hp rfl (we_loc (by simpa using h1) (o.vis h2) (nb h3) (nb h4))
  | .lit l, X, c, Ê, p, o, h => by
    have hp := chk_plain h
    cases p <;> first | (unfold chkE at h; cases h; done) | skip
    unfold chkE at h
    exact both hp rfl (we_lit l _ h)
  | .glob x, X, c, Ê, p, o, h => by
    have hp := chk_plain h
    cases p <;> first | (unfold chkE at h; cases h; done) | skip
    unfold chkE at h
    obtain ⟨h1, h2, h3⟩ := ba3 h
    obtain rfl : x = _ := by simpa using h1
    exact both hp rfl (we_glob o (o.gl h2) (nb h3))
  | .tup es, X, c, Ê, p, o, h => by
    have hp := chk_plain h
    cases p <;> first | (unfold chkE at h; cases h; done) | skip
    unfold chkE at h
    exact both hp rfl (we_tup (sEs es o h))
  | .lst m es, X, c, Ê, p, o, h => by
    have hp := chk_plain h
    cases p <;> first | (unfold chkE at h; cases h; done) | skip
    unfold chkE at h
    exact both hp rfl (we_lst (sEs es o h))
  | .dct m es, X, c, Ê, p, o, h => by
    have hp := chk_plain h
    cases p <;> first | (unfold chkE at h; cases h; done) | skip
    unfold chkE at h
    rename_i ks vs pos
    obtain ⟨h1, h2⟩ := ba2 h
    refine both hp rfl ?_
    cases ks with
    | nil =>
      cases es with
      | nil =>
        cases vs with
        | nil => exact we_disp0 (fun σ S Q Y q => q) rfl
        | cons v vs => unfold chkP at h1; cases h1
      | cons e es => unfold chkP at h1; cases es <;> cases h1
    | cons k ks =>
      obtain ⟨trs, t1, t2, t3, t4⟩ := sP es pos o h1
      exact we_disp t1 t2 t3 t4 (by simpa using h2) (fun z => nomatch z)
  | .bin op a b, X, c, Ê, p, o, h => by
    have hp := chk_plain h
    cases p <;> first | (unfold chkE at h; cases h; done) | skip
    unfold chkE at h
    obtain ⟨h1, h2, h3⟩ := ba3 h
    obtain rfl := opb h1
    exact both hp rfl (we_bin (sE a o h2).1 (sE b o h3).1)
  | .cat a b, X, c, Ê, p, o, h => by
    have hp := chk_plain h
    cases p <;> first | (unfold chkE at h; cases h; done) | skip
    rename_i pa op pb pos
    cases op <;> first | (unfold chkE at h; cases h; done) | skip
    unfold chkE at h
    obtain ⟨h1, h2⟩ := ba2 h
    exact both hp rfl (we_cat (sE a o h1).1 (sE b o h2).1)
  | .un op a, X, c, Ê, p, o, h => by
    have hp := chk_plain h
    cases p <;> first | (unfold chkE at h; cases h; done) | skip
    unfold chkE at h
    obtain ⟨h1, h2, h3⟩ := ba3 h
    obtain rfl : op = _ := by simpa using h1
    cases op with
    | USub => exact both hp rfl (we_neg (sE a o h3).1)
    | Not => exact ⟨we_not (sE a o h3).1, fun z => nomatch z⟩
    | Invert => cases h2
    | UAdd => cases h2
  | .and2 a b, X, c, Ê, p, o, h => by
    cases p <;> first | (unfold chkE at h; cases h; done) | skip
    rename_i op vs pos
    match op, vs, h with
    | .And, [pa, pb], h =>
      unfold chkE at h
      obtain ⟨h1, h2⟩ := ba2 h
      exact ⟨we_and (sE a o h1).1 (pe_one (sE b o h2).1), fun z => nomatch z⟩
    | .And, pa :: pb :: pc :: rest, h =>
      unfold chkE at h
      obtain ⟨h1, h2⟩ := ba2 h
      exact ⟨we_and (sE a o h1).1 (sE b o h2).1, fun z => nomatch z⟩
  | .or2 a b, X, c, Ê, p, o, h => by
    cases p <;> first | (unfold chkE at h; cases h; done) | skip
    rename_i op vs pos
    match op, vs, h with
    | .Or, [pa, pb], h =>
      unfold chkE at h
      obtain ⟨h1, h2⟩ := ba2 h
      exact ⟨we_or (sE a o h1).1 (pe_one (sE b o h2).1), fun z => nomatch z⟩
    | .Or, pa :: pb :: pc :: rest, h =>
      unfold chkE at h
      obtain ⟨h1, h2⟩ := ba2 h
      exact ⟨we_or (sE a o h1).1 (sE b o h2).1, fun z => nomatch z⟩
  | .cmp op a b, X, c, Ê, p, o, h => by
    cases p <;> first | (unfold chkE at h; cases h; done) | skip
    rename_i pa ops cs pos
    match ops, cs, h with
    | [q], [pb], h =>
      unfold chkE at h
      obtain ⟨h1, h2, h3, h4⟩ := ba4 h
      obtain rfl := cob h1
      exact ⟨we_cmp o.hu (marksC h4) (sE a o h3).1 (sE b o h4).1, fun _ => wt_cmp o.hu (marksC h4) (sE a o h3).1 (sE b o h4).1⟩
  | .cmp3 o1 o2 a b d, X, c, Ê, p, o, h => by
    cases p <;> first | (unfold chkE at h; cases h; done) | skip
    rename_i pa ops cs pos
    match ops, cs, h with
    | [q1, q2], [pb, pd], h =>
      unfold chkE at h
      obtain ⟨h, g1, g2, g3⟩ : ((o1 == q1) && (o2 == q2) && cmpB o1 pb && cmpB o2 pd && (o2 != .In) && (o2 != .NotIn)) = true ∧ chkE fr fl X.N a c pa = true ∧ chkE fr fl X.N b c pb = true ∧ chkE fr fl X.N d c pd = true := by
        obtain ⟨z, g3⟩ := ba2 h
        obtain ⟨z, g2⟩ := ba2 z
        obtain ⟨z, g1⟩ := ba2 z
        exact ⟨z, g1, g2, g3⟩
      obtain ⟨h, k2⟩ := ba2 h
      obtain ⟨h, k1⟩ := ba2 h
      obtain ⟨e1, e2, _⟩ := ba4 h
      obtain rfl := cob e1
      obtain rfl := cob e2
      have hm : lastMarks [o1, o2] [pb, pd] = false := by
        have : behindInMarks o2 pd = false := marksC g3
        exact this
      exact ⟨we_cmp3 o.hu hm (sE a o g1).1 (sE b o g2).1 (sE d o g3).1, fun _ => wt_cmp3 o.hu hm (sE a o g1).1 (sE b o g2).1 (sE d o g3).1⟩
  | .ifx d a b, X, c, Ê, p, o, h => by
    cases p <;> first | (unfold chkE at h; cases h; done) | skip
    unfold chkE at h
    obtain ⟨h1, h2, h3⟩ := ba3 h
    exact ⟨we_if (sV d o h1).1 (sE a o h2).1 (sE b o h3).1, fun z => nomatch z⟩
  | .ix a b, X, c, Ê, p, o, h => by
    have hp := chk_plain h
    cases p <;> first | (unfold chkE at h; cases h; done) | skip
    unfold chkE at h
    obtain ⟨h1, h2⟩ := ba2 h
    exact both hp rfl (we_ix o.hu (ix_of (chk_plain h2)) (sE a o h1).1 (sE b o h2).1)
  | .slc a lo hi, X, c, Ê, p, o, h => by
    have hp := chk_plain h
    cases p <;> first | (unfold chkE at h; cases h; done) | skip
    rename_i pa pi pos
    cases pi <;> first | (unfold chkE at h; cases h; done) | skip
    rename_i pl ph st p2
    cases st with
    | some z => unfold chkE at h; cases h
    | none =>
      unfold chkE at h
      obtain ⟨h1, h2, h3⟩ := ba3 h
      exact both hp rfl (we_slc (sE a o h1).1 (sO lo o h2) (sO hi o h3))
  | .call f es, X, c, Ê, p, o, h => by
    have hp := chk_plain h
    cases p <;> first | (unfold chkE at h; cases h; done) | skip
    rename_i g as ks pos
    match g, as, ks, h with
    | .Name g p, [], [], h =>
      cases es with
      | cons e es => unfold chkE at h; cases h
      | nil =>
        unfold chkE at h
        obtain ⟨h1, h2, h3, h4, h5⟩ := ba5 h
        obtain rfl : f = g := by simpa using h1
        exact both hp rfl (we_call0 o h3 (o.gl h4) (nb h5))
    | .Name g p, pa :: ps, [], h =>
      unfold chkE at h
      obtain ⟨h1, h2, h3, h4, h5⟩ := ba5 h
      obtain rfl : f = g := by simpa using h1
      cases es with
      | nil => unfold chkEs at h5; cases h5
      | cons e es =>
        have h5' := h5
        unfold chkEs at h5'
        obtain ⟨k1, k2⟩ := ba2 h5'
        exact both hp rfl (we_call o h2 (o.gl h3) (sEs (.cons e es) o h5) (nb h4) (star_of (chk_plain k1)) (plain_all k2))
  | .bi b es, X, c, Ê, p, o, h => by
    have hp := chk_plain h
    cases p <;> first | (unfold chkE at h; cases h; done) | skip
    rename_i g as ks pos
    match g, as, ks, h with
    | .Name g p, pa :: ps, [], h =>
      unfold chkE at h
      obtain ⟨h1, h2, h3, h4⟩ := ba4 h
      cases es with
      | nil => unfold chkEs at h4; cases h4
      | cons e es =>
        have h5' := h4
        unfold chkEs at h5'
        obtain ⟨k1, k2⟩ := ba2 h5'
        exact both hp rfl (callB o (by simpa using h1) (o.gl h2) (o.free h3) (star_of (chk_plain k1)) (plain_all k2) (sEs (.cons e es) o h4))
  | .meth m oe es, X, c, Ê, p, o, h => by
    have hp := chk_plain h
    cases p <;> first | (unfold chkE at h; cases h; done) | skip
    rename_i g as ks pos
    match g, as, ks, h with
    | .Attribute po n ap, pa :: ps, [], h =>
      unfold chkE at h
      obtain ⟨h, h6⟩ := ba2 h
      obtain ⟨h1, h2, h3, h4, h5⟩ := ba5 h
      cases es with
      | nil => unfold chkEs at h5; cases h5
      | cons e es =>
        have h5' := h5
        unfold chkEs at h5'
        obtain ⟨k1, k2⟩ := ba2 h5'
        have hlen : ps.length < 20 := by simpa using h6
        exact both hp rfl (methB o (by simpa using h1) h2 (sE oe o h4).1 (sEs (.cons e es) o h5) (fun n => base_of (chk_plain h4))
          (by rw [plain_each h5, kw_nil]; simp; omega) h3 (star_of (chk_plain k1)) (plain_all k2))
  | .comp m own t it cnd elt, X, c, Ê, p, o, h => by
    have hp := chk_plain h
    cases p <;> first | (unfold chkE at h; cases h; done) | skip
    rename_i pe gs scope pos
    match gs, h with
    | [⟨tg, iter, pf, 0⟩], h =>
      unfold chkE at h
      obtain ⟨h, h7⟩ := ba2 h
      obtain ⟨h, h6⟩ := ba2 h
      obtain ⟨h1, h2, h3, h4, h5⟩ := ba5 h
      have hown : (ownP X.N own).map (·.2) = own := by simpa using h2
      have ok : BlkOk X.N X.env.scope scope (ownP X.N own) := blkOk_by (by rw [o.sc]; exact h1)
      have z := pe_lc (pos := pos) (te := LE X.K E0 (wE C elt)) (tt := LT X.K E0 (wOT C cnd)) (g := LG X.K t) o.calm o.nd (sI it (Ê := Ê) o h4) ok (fun s H Ca cl fp => sT (o.blk s H scope Ca cl fp) t tg h5) (fun s H Ca cl fp => sF cnd (o.blk s H scope Ca cl fp) h6)
        (fun s H Ca cl fp => (sE elt (o.blk s H scope Ca cl fp) h7).1) (fold_of (plain_I h4))
      rw [hown] at z
      exact both hp rfl (z.imp fun τ H Qh q => lc_red h3 q)
  | .isa ty a, X, c, Ê, p, o, h => by
    have hp := chk_plain h
    cases p <;> first | (unfold chkE at h; cases h; done) | skip
    rename_i g as ks pos
    match g, as, ks, h with
    | .Name g p, [pa, .Name tn p2], [], h =>
      unfold chkE at h
      obtain ⟨h, h7⟩ := ba2 h
      obtain ⟨h, h6⟩ := ba2 h
      obtain ⟨h1, h2, h3, h4, h5⟩ := ba5 h
      obtain rfl : g = "isinstance" := by simpa using h1
      obtain rfl : ty.name = tn := by simpa using h4
      exact both hp rfl (we_isa o (o.gl h2) (o.free h3) (o.gl h5) (o.free h6) (star_of (chk_plain h7)) (sE a o h7).1)
  | .frz a, X, c, Ê, p, o, h => by
    unfold chkE at h
    exact ⟨we_frz (sE a o h).1, fun z => nomatch z⟩
theorem sEs : ∀ (es : Es) {X : Cx} {c : Sc} {Ê : XK} {ps : List Expr}, Ok X C Ê c fr fl → chkEs fr fl X.N es c ps = true → PA X ps (LA X.K Ê (wEs C es))
  | .nil, X, c, Ê, ps, o, h => by
    cases ps with
    | nil => exact wa_nil
    | cons p ps => unfold chkEs at h; cases h
  | .cons e es, X, c, Ê, ps, o, h => by
    cases ps with
    | nil => unfold chkEs at h; cases h
    | cons p ps =>
      unfold chkEs at h
      obtain ⟨h1, h2⟩ := ba2 h
      exact wa_cons (star_of (chk_plain h1)) (sE e o h1).1 (sEs es o h2)
theorem sP : ∀ (es : Es) (pos : Pos) {X : Cx} {c : Sc} {Ê : XK} {ks : List (Option Expr)} {vs : List Expr}, Ok X C Ê c fr fl → chkP fr fl X.N es c ks vs = true →
    ∃ trs : List (TE × TE), PPs X pos ks vs trs ∧ (∀ τ H Qp, LA X.K Ê (wEs C es) τ H (fun vs H2 => ∀ prs, vs = flatP prs → Qp prs H2) → tPairs trs τ H Qp) ∧ ks.all (·.isSome) = true ∧ ks.length = vs.length
  | .nil, pos, X, c, Ê, ks, vs, o, h => by
    cases ks with
    | cons k ks => unfold chkP at h; cases h
    | nil =>
      cases vs with
      | cons v vs => unfold chkP at h; cases h
      | nil =>
        refine ⟨[], pps_nil, fun τ H Qp ⟨σ, S, Q, Y, hs, hl, hw, k, hx⟩ => ?_, rfl, rfl⟩
        exact k [] S [] H .refl hl .nil hw [] rfl
  | .cons e .nil, pos, X, c, Ê, ks, vs, o, h => by unfold chkP at h; cases h
  | .cons e (.cons e2 es), pos, X, c, Ê, ks, vs, o, h => by
    cases ks with
    | nil => unfold chkP at h; cases h
    | cons k ks =>
      cases vs with
      | nil => unfold chkP at h; cases k <;> cases h
      | cons v vs =>
        cases k with
        | none => unfold chkP at h; cases h
        | some pk =>
          unfold chkP at h
          obtain ⟨h1, h2, h3⟩ := ba3 h
          obtain ⟨trs, t1, t2, t3, t4⟩ := sP es pos o h3
          refine ⟨_ :: trs, pps_cons (sE e o h1).1 (sE e2 o h2).1 t1, fun τ H Qp ⟨σ, S, Q, Y, hs, hl, hw, k, hx⟩ => ?_, by simp [t3], by simp [t4]⟩
          have hw : wE C e σ S (fun w S1 => wE C e2 σ S1 (fun w2 S2 => wEs C es σ S2 (fun ws S3 => Q (w :: w2 :: ws) S3) Y) Y) Y := hw
          exact LE.mk hs hl hx hw fun x S1 v1 H1 e1 l1 s1 x1 r1 q1 => LE.mk s1 l1 x1 q1 fun y S2 v2 H2 e2 l2 s2 x2 r2 q2 =>
            t2 _ _ _ (LA.mk s2 l2 x2 q2 fun ws S3 vs H3 e3 l3 s3 x3 r3 q3 prs ep => k _ _ (v1 :: v2 :: vs) _ ((e1.trans e2).trans e3) l3 (.cons (r1.ext (e2.trans e3)) (.cons (r2.ext e3) r3)) q3 ((v1, v2) :: prs) (by rw [ep]; rfl))
theorem sO : ∀ (e : Eo) {X : Cx} {c : Sc} {Ê : XK} {p : Option Expr}, Ok X C Ê c fr fl → chkO fr fl X.N e c p = true → PO X p (LO X.K Ê (wO C e))
  | .none, X, c, Ê, p, o, h => by
    cases p with
    | none => exact wo_none
    | some p => unfold chkO at h; cases h
  | .some e, X, c, Ê, p, o, h => by
    cases p with
    | none => unfold chkO at h; cases h
    | some p => unfold chkO at h; exact wo_some (sE e o h).1
theorem sF : ∀ (e : To) {X : Cx} {c : Sc} {Ê : XK} {ps : List Expr}, Ok X C Ê c fr fl → chkF fr fl X.N e c ps = true → PTs X ps (LT X.K Ê (wOT C e))
  | .none, X, c, Ê, ps, o, h => by
    cases ps with
    | nil =>
      exact ⟨fun pins s τ H Q I ⟨σ, S, Q', Y, hs, hl, hw, k, hx⟩ => pts_nil.run pins s τ H Q I (k _ _ _ .refl hl hw)⟩
    | cons p ps => unfold chkF at h; cases h
  | .some e, X, c, Ê, ps, o, h => by
    match ps, h with
    | [], h => unfold chkF at h; cases h
    | [p], h => unfold chkF at h; exact pts_one (sV e o h).1
    | _ :: _ :: _, h => unfold chkF at h; cases h
theorem sV : ∀ (e : Tt) {X : Cx} {c : Sc} {Ê : XK} {p : Expr}, Ok X C Ê c fr fl → chkV fr fl X.N e c p = true → PT X p (LT X.K Ê (wT C e)) ∧ ((∃ a b d, p = .BoolOp a b d) → PW X p (LT X.K Ê (wT C e)))
  | .val e, X, c, Ê, p, o, h => by
    unfold chkV at h
    obtain ⟨h1, h2⟩ := ba2 h
    refine ⟨(sE e o h2).2 h1, fun ⟨a, b, d, ep⟩ => ?_⟩
    subst ep
    cases e <;> first | (cases h1; done) | (unfold chkE at h2; cases h2; done)
  | .not a, X, c, Ê, p, o, h => by
    cases p <;> first | (unfold chkV at h; cases h; done) | skip
    rename_i op pa pos
    cases op <;> first | (unfold chkV at h; cases h; done) | skip
    unfold chkV at h
    exact ⟨wt_not (sV a o h).1, fun ⟨a, b, d, ep⟩ => nomatch ep⟩
  | .and a b, X, c, Ê, p, o, h => by
    cases p <;> first | (unfold chkV at h; cases h; done) | skip
    rename_i op vs pos
    have z : PW X (.BoolOp op vs pos) (LT X.K Ê (wT C (.and a b))) := by
      match op, vs, h with
      | .And, [pa, pb], h =>
        unfold chkV at h
        obtain ⟨h1, h2⟩ := ba2 h
        exact wt_and (sV a o h1).1 (pw_and1 (sV b o h2).1)
      | .And, pa :: pb :: pc :: rest, h =>
        unfold chkV at h
        obtain ⟨h1, h2⟩ := ba2 h
        exact wt_and (sV a o h1).1 ((sV b o h2).2 ⟨_, _, _, rfl⟩)
    exact ⟨z.pt, fun _ => z⟩
  | .or a b, X, c, Ê, p, o, h => by
    cases p <;> first | (unfold chkV at h; cases h; done) | skip
    rename_i op vs pos
    have z : PW X (.BoolOp op vs pos) (LT X.K Ê (wT C (.or a b))) := by
      match op, vs, h with
      | .Or, [pa, pb], h =>
        unfold chkV at h
        obtain ⟨h1, h2⟩ := ba2 h
        exact wt_or (sV a o h1).1 (pw_or1 (sV b o h2).1)
      | .Or, pa :: pb :: pc :: rest, h =>
        unfold chkV at h
        obtain ⟨h1, h2⟩ := ba2 h
        exact wt_or (sV a o h1).1 ((sV b o h2).2 ⟨_, _, _, rfl⟩)
    exact ⟨z.pt, fun _ => z⟩
theorem sI : ∀ (e : It) {X : Cx} {c : Sc} {Ê : XK} {tg p : Expr}, Ok X C Ê c fr fl → chkI fr fl X.N e c p tg = true → PI X tg p (LI X.K Ê (wI C e))
  | .ex e, X, c, Ê, tg, p, o, h => by
    unfold chkI at h
    exact wi_ex (sE e o h).1
  | .rng1 a, X, c, Ê, tg, p, o, h => by
    cases p <;> first | (unfold chkI at h; cases h; done) | skip
    rename_i g as ks pos
    match g, as, ks, h with
    | .Name g p, [pa], [], h =>
      unfold chkI at h
      obtain ⟨h1, h2, h3, h4⟩ := ba4 h
      obtain rfl : g = "range" := by simpa using h1
      exact wi_rng1 (o.gl h2) (o.free h3) (star1 h4) (sE a o h4).1
  | .rng2 a b, X, c, Ê, tg, p, o, h => by
    cases p <;> first | (unfold chkI at h; cases h; done) | skip
    rename_i g as ks pos
    match g, as, ks, h with
    | .Name g p, [pa, pb], [], h =>
      unfold chkI at h
      obtain ⟨h1, h2, h3, h4, h5⟩ := ba5 h
      obtain rfl : g = "range" := by simpa using h1
      exact wi_rng2 (o.gl h2) (o.free h3) (by rw [star_of (chk_plain h4), star1 h5]) (star1 h5) (sE a o h4).1 (sE b o h5).1
  | .enum a, X, c, Ê, tg, p, o, h => by
    cases p <;> first | (unfold chkI at h; cases h; done) | skip
    rename_i g as ks pos
    cases tg <;> first | (unfold chkI at h; simp at h; done) | skip
    all_goals
      match g, as, ks, h with
      | .Name g p, [pa], [], h =>
        unfold chkI at h
        obtain ⟨h1, h2, h3, h4⟩ := ba4 h
        obtain rfl : g = "enumerate" := by simpa using h1
        exact wi_enum (o.gl h2) (o.free h3) (star1 h4) (sE a o h4).1
  | .zip a b, X, c, Ê, tg, p, o, h => by
    cases p <;> first | (unfold chkI at h; cases h; done) | skip
    rename_i g as ks pos
    cases tg <;> first | (unfold chkI at h; simp at h; done) | skip
    all_goals
      match g, as, ks, h with
      | .Name g p, [pa, pb], [], h =>
        unfold chkI at h
        obtain ⟨h1, h2, h3, h4, h5⟩ := ba5 h
        obtain rfl : g = "zip" := by simpa using h1
        exact wi_zip (o.gl h2) (o.free h3) (star_of (chk_plain h4)) (star1 h5) (by rw [star1 h5]; rfl) (sE a o h4).1 (sE b o h5).1
end
end
end PD

set_option Elab.async false
set_option linter.all false
set_option maxRecDepth 100000
set_option maxHeartbeats 4000000
namespace PD
open PySem PySem.Spec PyProof.Rows L2

/-! ## statements -/
structure DOk (K : PySem.W.Frag) (Ê : XK) (H : Hp) (S : Sto) (D : En) (Dh : Ends) : Prop where
  nx : ∀ σ' S' τ' H', Ext H S H' S' → LinkS K H' S' → RSl K H' S' σ' τ' → D.nx σ' S' → Dh.nx τ' H'
  rt : ∀ r S' v H', Ext H S H' S' → LinkS K H' S' → RW K H' S' r v → D.rt r S' → Dh.rt v H'
  bk : ∀ σ' S' τ' H', Ext H S H' S' → LinkS K H' S' → RSl K H' S' σ' τ' → D.bk σ' S' → Dh.bk τ' H'
  ct : ∀ σ' S' τ' H', Ext H S H' S' → LinkS K H' S' → RSl K H' S' σ' τ' → D.ct σ' S' → Dh.ct τ' H'
  ex : XO K Ê H S D.ex
theorem DOk.ext {K : PySem.W.Frag} {Ê : XK} {H H1 : Hp} {S S1 : Sto} {D : En} {Dh : Ends} (d : DOk K Ê H S D Dh) (e : Ext H S H1 S1) : DOk K Ê H1 S1 D Dh :=
  ⟨fun a b c x e2 => d.nx a b c x (e.trans e2), fun a b c x e2 => d.rt a b c x (e.trans e2), fun a b c x e2 => d.bk a b c x (e.trans e2), fun a b c x e2 => d.ct a b c x (e.trans e2), d.ex.ext e⟩
abbrev WS := En → Sl → Sto → Prop
def LS (K : PySem.W.Frag) (Ê : XK) (w : WS) : TS := fun Dh τ H => ∃ σ S D, RSl K H S σ τ ∧ LinkS K H S ∧ w D σ S ∧ DOk K Ê H S D Dh
structure OkS (X : Cx) (C : Cn) (Ê : XK) (c : Sc) (fr fl : List Str) : Prop extends Ok X C Ê c fr fl where
  own : PassesOwn (model X.prog X.w) X.A X.env X.xe
  kind : X.env.scope.kind = .function
theorem swst_of {tg e : Expr} {env : Env} (h : isTuple e = false) : swappedStores [tg] e env = pure none := by
  cases e <;> first | (cases h; done) | (cases tg <;> rfl)
section
variable {X : Cx} {C : Cn} {Ê : XK} {c : Sc} {fr fl : List Str} {wa wb wc : PD.WE} {ta : PD.WT} {wi : WI} {pa pb : Expr} {pos : Pos}
/-- name = e, t = e -/
theorem asg_red {t : Tg} {τ : L2.St} {H : Hp} {Dh : Ends} (h : LS X.K Ê (fun D σ S => wa σ S (fun w S1 => t.go w σ fun σ' => D.nx σ' S1) D.ex) Dh τ H) : tAsg (LE X.K Ê wa) (LG X.K t) Dh τ H := by
  obtain ⟨σ, S, D, hs, hl, hw, d⟩ := h
  exact LE.mk hs hl d.ex hw fun x S1 v H1 e1 l1 s1 x1 r1 q => ⟨σ, S1, x, _, s1, l1, r1, q, fun σ' τ' hs' _ q' => d.nx _ _ _ _ e1 l1 hs' q'⟩
theorem set_red {i : Nat} {τ : L2.St} {H : Hp} {Dh : Ends} (h : LS X.K Ê (fun D σ S => wa σ S (fun w S1 => (Tg.name i).go w σ fun σ' => D.nx σ' S1) D.ex) Dh τ H) : tAsg (LE X.K Ê wa) (gName i) Dh τ H := by
  obtain ⟨σ, S, D, hs, hl, hw, d⟩ := h
  exact LE.mk hs hl d.ex hw fun x S1 v H1 e1 l1 s1 x1 r1 ⟨_, q⟩ => d.nx _ _ _ _ e1 l1 (s1.set i r1) q
theorem for_red {t : Tg} {wb : WS} {τ : L2.St} {H : Hp} {Dh : Ends} (h : LS X.K Ê (fun D σ S => wi σ S (fun xs S1 => loopF (fun D' x σ' S' => t.go x σ' fun σ2 => wb D' σ2 S') D xs σ S1) D.ex) Dh τ H) : tFor (LI X.K Ê wi) (LG X.K t) (LS X.K Ê wb) Dh τ H := by
  obtain ⟨σ, S, D, hs, hl, hw, d⟩ := h
  refine ⟨σ, S, _, D.ex, hs, hl, hw, fun ws S1 J H1 e1 l1 jit q => ?_, d.ex⟩
  generalize hb : (fun (D' : En) (x : W) (σ' : Sl) (S' : Sto) => t.go x σ' fun σ2 => wb D' σ2 S') = body at q
  refine ⟨fun i m τ' Hx => m = ws.length - i ∧ i ≤ ws.length ∧ ∃ σ' S', Ext H1 S1 Hx S' ∧ LinkS X.K Hx S' ∧ RSl X.K Hx S' σ' τ' ∧ loopF body D (ws.drop i) σ' S', ⟨ws.length, rfl, Nat.zero_le _, σ, S1, .refl, l1, hs.ext e1, q⟩, ?_⟩
  rintro i m τ' Hx ⟨rfl, hi, σ', S', ex, lx, sx, q⟩
  obtain ⟨j1, j2⟩ := jit Hx S' ex lx
  by_cases hlt : i < ws.length
  · have hg : ws[i]? = some ws[i] := List.getElem?_eq_getElem hlt
    rw [List.drop_eq_getElem_cons hlt] at q
    obtain ⟨jg, jy⟩ := j1 i _ hg
    refine .inr ⟨jg, fun τ2 H2 => ∃ σ2 S2, Ext H1 S1 H2 S2 ∧ LinkS X.K H2 S2 ∧ RSl X.K H2 S2 σ2 τ2 ∧ loopF body D (ws.drop (i + 1)) σ2 S2, fun τ2 H2 ⟨σ2, S2, a1, a2, a3, a4⟩ => ⟨ws.length - (i + 1), by omega, rfl, hlt, σ2, S2, a1, a2, a3, a4⟩, fun x H' hy => ?_⟩
    obtain ⟨e3, l3, r3⟩ := jy x H' hy
    unfold loopF at q
    have ea := ex.trans e3
    have d' := d.ext (e1.trans ea)
    have q' : t.go ws[i] σ' fun σ2 => wb { D with nx := loopF body D (ws.drop (i + 1)), ct := loopF body D (ws.drop (i + 1)), bk := D.nx } σ2 S' := by rw [← hb] at q ⊢; exact q
    refine ⟨σ', S', ws[i], _, sx.ext e3, l3, r3, q', fun σ2 τ2 hs2 _ q2 => ⟨σ2, S', _, hs2, l3, q2, fun a b c x e l s n => ⟨a, b, ea.trans e, l, s, n⟩, d'.rt, d'.nx, fun a b c x e l s n => ⟨a, b, ea.trans e, l, s, n⟩, d'.ex⟩⟩
  · have hi' : i = ws.length := by omega
    subst hi'
    rw [List.drop_length] at q
    unfold loopF at q
    exact .inl ⟨j2, d.nx _ _ _ _ (e1.trans ex) lx sx q⟩
theorem while_red {wb : WS} {τ : L2.St} {H : Hp} {Dh : Ends} (h : LS X.K Ê (fun D σ S => ∃ n, loopW (fun σ' S' Q => ta σ' S' Q D.ex) (fun D' σ' S' => wb D' σ' S') D n σ S) Dh τ H) : tWhile (LT X.K Ê ta) (LS X.K Ê wb) Dh τ H := by
  obtain ⟨σ, S, D, hs, hl, ⟨n, hw⟩, d⟩ := h
  generalize ht : (fun (σ' : Sl) (S' : Sto) (Q : QB) => ta σ' S' Q D.ex) = test at hw
  have key : ∀ a b Q, test a b Q → ta a b Q D.ex := fun a b Q h => by rw [← ht] at h; exact h
  refine ⟨fun m τ' Hx => ∃ σ' S', Ext H S Hx S' ∧ LinkS X.K Hx S' ∧ RSl X.K Hx S' σ' τ' ∧ loopW test (fun D' σ' S' => wb D' σ' S') D m σ' S', ⟨n, σ, S, .refl, hl, hs, hw⟩, ?_⟩
  rintro m τ' Hx ⟨σ', S', ex, lx, sx, q⟩
  cases m with
  | zero => unfold loopW at q; exact q.elim
  | succ m =>
    unfold loopW at q
    have d' := d.ext ex
    refine ⟨σ', S', _, D.ex, sx, lx, key _ _ _ q, fun b S1 H1 e1 l1 q1 => ?_, d'.ex⟩
    cases b with
    | false => exact d'.nx _ _ _ _ e1 l1 (sx.ext e1) q1
    | true =>
      refine ⟨fun τ2 H2 => ∃ σ2 S2, Ext H S H2 S2 ∧ LinkS X.K H2 S2 ∧ RSl X.K H2 S2 σ2 τ2 ∧ loopW test (fun D' σ' S' => wb D' σ' S') D m σ2 S2, fun τ2 H2 ⟨σ2, S2, a⟩ => ⟨m, Nat.lt_succ_self m, σ2, S2, a⟩, ?_⟩
      have ea := ex.trans e1
      have d2 := d'.ext e1
      exact ⟨σ', S1, _, sx.ext e1, l1, q1, fun a b c x e l s n => ⟨a, b, ea.trans e, l, s, n⟩, d2.rt, d2.nx, fun a b c x e l s n => ⟨a, b, ea.trans e, l, s, n⟩, d2.ex⟩
/-! ### a place changed -/
def rSetW (K : PySem.W.Frag) : TSet := fun o i v H Qh => ∃ S wo wi wv Q, LinkS K H S ∧ RW K H S wo o ∧ RW K H S wi i ∧ RW K H S wv v ∧ setW wo wi wv S Q ∧ ∀ S' H', Ext H S H' S' → LinkS K H' S' → Q S' → Qh H'
theorem set_W (hu : X.A.units + 64 < cLine) : PSet X (rSetW X.K) := by
  intro pins s τ H o i v ov iv u Qh I ro ri rv ⟨S, wo, wi, wv, Q, l, r1, r2, r3, q, k⟩
  cases wo <;> first | (cases q; done) | skip
  rename_i a
  obtain rfl : o = V.ref a := by unfold RW at r1; exact r1
  unfold setW at q
  cases e : S a with
  | none =>
    simp only [e] at q
  | some so =>
    cases so with
    | lst xs =>
      simp only [e] at q
      obtain ⟨j, n, ei, hj, q⟩ := q
      subst ei
      obtain rfl := r2.int_
      obtain ⟨_, h1, vs, rfl, h2⟩ := l a _ e
      have ec : Ext H S (upd H a (.lst (vs.set n v))) (S.set a (.lst (xs.set n wv))) := ext_chg e
      exact set_list pins s τ H _ _ _ _ _ _ Qh I ro ri rv ⟨a, vs, j, n, rfl, rfl, h1, by rw [← h2.len]; exact hj, k _ _ ec (l.put ec ⟨_, rfl, h2.set n r3⟩) q⟩
    | dct ks ws =>
      simp only [e] at q
      obtain ⟨x, ek, hz, q⟩ := q
      obtain rfl := r2.key ek
      obtain ⟨_, h1, kvs, rfl, rfl, h2⟩ := l a _ e
      have ec : Ext H S (upd H a (.dK (L2.putK kvs x v))) (S.set a (.dct (putKW (kvs.map (·.1)) ws x wv).1 (putKW (kvs.map (·.1)) ws x wv).2)) := ext_chg e
      exact set_dict (by omega) pins s τ H _ _ _ _ _ _ Qh I ro ri rv ⟨a, _, rfl, .inl ⟨kvs, x, h1, rfl, by simpa using hz, rfl⟩, k _ _ ec (l.put ec ⟨_, rfl, (put_keys kvs ws x v wv).symm, put_vals h2 r3⟩) q⟩
end
/-! ### all statements -/
theorem PSs.imp_ {X : Cx} {e : List Stmt} {t t' : TS} (h : PSs X e t) (i : ∀ D σ H, t' D σ H → t D σ H) : PSs X e t' := h.imp i
section
variable {C : Cn} {fr fl : List Str}
theorem sw_comp {c : Sc} {x : Str} {px : Pos} {pe : Expr} {l : Nat} {X : Cx} (hk : X.env.scope.kind = .function) (hsc : X.env.scope = c.sc) {elt : Expr} {gs : List Comprehension} {scope : Scope} {pos : Pos} (he : pe = .ListComp elt gs scope pos) (h : swapsB c.sc x px pe = true) :
    X.env.scope.names.lookup x = some .local ∧ swapsWith pe (some (.Name x px)) l X.env = pure true := by
  subst he
  unfold swapsB at h
  obtain ⟨h1, h2, h3⟩ := ba3 h
  have hx : X.env.scope.names.lookup x = some .local := by
    rw [hsc]
    split at h1
    · assumption
    · cases h1
  exact ⟨hx, sw_true hk hx h2 (nb h3)⟩
theorem star_no {p : Expr} (h : plainP p = true) : (match p with | .Starred .. => true | _ => false) = false := by
  cases p <;> first | rfl | cases h
theorem sw_par {env : Env} {x y : Str} {px py pt pt2 : Pos} {kt k2 : Nat} {pa pb : Expr} (hb : env.blockKind = .function) (kx : env.kindOf x = some .local) (ky : env.kindOf y = some .local) (hl : (py.line == px.line) = true) (hxy : x ≠ y)
    (ha : plainP pa = true) (hb2 : plainP pb = true) (hf : ([pa, pb].all (foldedForSure 8)) = false) (hc : ([pa, pb].all (constantsAlone 8)) = false) :
    swappedStores [.Tuple [.Name x px, .Name y py] kt pt] (.Tuple [pa, pb] k2 pt2) env = pure (some [x, y]) := by
  have e1 : ([pa, pb].any fun | .Starred .. => true | _ => false) = false := by
    cases pa <;> first | (cases ha; done) | (cases pb <;> first | (cases hb2; done) | rfl)
  have hxy' : (y == x) = false := by simpa using fun z => hxy z.symm
  have hxy2 : (x == y) = false := by simpa using hxy
  unfold swappedStores
  simp only [hb, e1, hf, hc, kx, ky, hl, List.filterMap_cons, List.filterMap_nil, List.head?_cons, Option.map_some, Option.getD_some, Expr.pos, beq_self_eq_true, Bool.and_self, if_true, List.eraseDups_cons, List.length_cons, List.length_nil]
  rw [if_neg (by decide)]
  have e3 : (List.filter (fun b => !b == x) [y]).eraseDups.length = 1 := by
    have : List.filter (fun b => !b == x) [y] = [y] := by simp [hxy']
    rw [this]; first | rfl | simp [List.eraseDups_cons, List.eraseDups_nil]
  rw [e3]
  rw [if_neg (by
    cases pa <;> first | (cases ha; done) | (cases pb <;> first | (cases hb2; done) | (intro z; cases z))), if_neg (by decide), if_neg (by decide), if_neg (by decide)]
theorem PS.lift {X : Cx} {Ê : XK} {p : Stmt} {t : TS} {w : WS} (h : PS X p t) (k : ∀ Dh τ H, LS X.K Ê w Dh τ H → t Dh τ H) : PS X p (LS X.K Ê w) := h.imp k
theorem isC_of {e : E} {N : List Str} {c : Sc} {p : Expr} (h : chkE fr fl N e c p = true) (hp : isComp p = true) : isCompE e = true ∨ ∃ a, e = .frz a := by
  cases e <;> first | exact .inl rfl | exact .inr ⟨_, rfl⟩ | (cases p <;> first | (cases hp; done) | (unfold chkE at h; cases h))
theorem loc'_of {X : Cx} {c : Sc} {Ê : XK} (o : Ok X C Ê c fr fl) {x : Str} (h : locB' c x = true) : X.env.scope.names.lookup x = some .local := by
  rw [o.sc]
  unfold locB' at h
  split at h
  · assumption
  · cases h
theorem isCompE_of {e : E} (h : isCompE e = true) : ∃ m own t it cnd elt, e = .comp m own t it cnd elt := by
  cases e <;> first | (cases h; done) | exact ⟨_, _, _, _, _, _, rfl⟩
mutual
theorem sS : ∀ (s : PD.St) {X : Cx} {c : Sc} {Ê : XK} {p : Stmt}, OkS X C Ê c fr fl → chkS fr fl X.N s c p = true → PS X p (LS X.K Ê (wS C s))
  | .set t e, X, c, Ê, p, o, h => by
    cases p <;> first | (unfold chkS at h; cases h; done) | skip
    rename_i tgs pe pos
    match tgs, h with
    | [], h => unfold chkS at h; cases h
    | _ :: _ :: _, h => unfold chkS at h; cases h
    | [tg], h =>
      unfold chkS at h
      obtain ⟨h1, h2, h3⟩ := ba3 h
      clear h
      have pg := sT o.toOk t tg h1
      have pe' := (sE e o.toOk h2).1
      cases t with
      | tup ts =>
        cases tg <;> first | (unfold chkT at h1; cases h1; done) | skip
        obtain ⟨k1, k2⟩ := ba2 h3
        exact (ps_asg pe' pg (by unfold swapsWithSole; exact swap_of (nb k1)) (swst_of (nb k2)) rfl).imp fun Dh τ H q => asg_red q
      | name i =>
        cases tg <;> first | (unfold chkT at h1; cases h1; done) | skip
        rename_i x px
        unfold chkT at h1
        obtain ⟨g1, g2⟩ := ba2 h1
        obtain ⟨hl, hf⟩ := o.toOk.loc g2
        have hN : X.N[i]? = some x := by simpa using g1
        by_cases hc : isComp pe = true
        · have h3' : (!isComp pe || (swapsB c.sc x px pe && isCompE e)) = true := h3
          rw [hc] at h3'
          obtain ⟨s1, s2⟩ := ba2 (show (swapsB c.sc x px pe && isCompE e) = true from h3')
          obtain ⟨m, own, t, it, cnd, elt, rfl⟩ := isCompE_of s2
          clear h3 h3' s2 pe' pg hc
          cases pe <;> first | (unfold chkE at h2; cases h2; done) | skip
          rename_i pe gs scope cpos
          match gs, h2 with
          | [⟨tg, iter, pf, 0⟩], h2 =>
            obtain ⟨hx, hsw⟩ := sw_comp (l := pos.line) o.kind o.sc rfl s1
            unfold chkE at h2
            obtain ⟨h2, h7⟩ := ba2 h2
            obtain ⟨h2, h6⟩ := ba2 h2
            obtain ⟨k1, k2, k3, k4, k5⟩ := ba5 h2
            have hown : (ownP X.N own).map (·.2) = own := by simpa using k2
            have ok : BlkOk X.N X.env.scope scope (ownP X.N own) := blkOk_by (by rw [o.sc]; exact k1)
            have z := ps_setLc (pos := cpos) (spos := pos) (te := LE X.K E0 (wE C elt)) (tt := LT X.K E0 (wOT C cnd)) (g := LG X.K t) o.calm o.nd hN hx hsw (sI it (Ê := Ê) o.toOk k4) ok (fun s H Ca cl fp => sT (o.toOk.blk s H scope Ca cl fp) t tg k5) (fun s H Ca cl fp => sF cnd (o.toOk.blk s H scope Ca cl fp) h6)
              (fun s H Ca cl fp => (sE elt (o.toOk.blk s H scope Ca cl fp) h7).1) (fold_of (plain_I k4))
            rw [hown] at z
            refine z.imp fun Dh τ H q => lc_red (m := m) k3 ?_
            exact set_red (wa := wE C (.comp m own t it cnd elt)) q
        · have hc' : isComp pe = false := by simpa using hc
          exact (ps_set o.nd hN hl pe' (swap_of hc') hf).imp fun Dh τ H q => set_red q
  | .par i j a b, X, c, Ê, p, o, h => by
    cases p <;> first | (unfold chkS at h; cases h; done) | skip
    rename_i tgs pe pos
    match tgs, pe, h with
    | [.Tuple [.Name x px, .Name y py] kt pt], .Tuple [pa, pb] k2 pt2, h =>
      unfold chkS at h
      obtain ⟨h, hb⟩ := ba2 h
      obtain ⟨h, ha⟩ := ba2 h
      obtain ⟨h, hc⟩ := ba2 h
      obtain ⟨h, hf⟩ := ba2 h
      obtain ⟨h, hl⟩ := ba2 h
      obtain ⟨h1, h2, h3, h4, h5⟩ := ba5 h
      have hN : X.N[i]? = some x := by simpa using h1
      have hM : X.N[j]? = some y := by simpa using h2
      have hij : i ≠ j := by simpa using h3
      have hxy : x ≠ y := fun z => hij (nodup_ix o.nd hN (z ▸ hM))
      have lx := loc'_of o.toOk h4
      have ly := loc'_of o.toOk h5
      have hbk : X.env.blockKind = .function := by unfold Env.blockKind; rw [o.kind]; rfl
      refine (ps_par o.calm o.nd hN hM hij lx ly (pa_cons (sE a o.toOk ha).1 (pa_cons (sE b o.toOk hb).1 pa_nil (star1 hb)) (star_of (chk_plain ha)))
        (sw_par hbk lx ly hl hxy (chk_plain ha) (chk_plain hb) (nb hf) (nb hc)) rfl).imp fun Dh τ H ⟨σ, S, D, hs, hl, hw, d⟩ => ?_
      exact LE.mk hs hl d.ex hw fun v1 S1 u1 H1 e1 l1 s1 x1 r1 q1 => LE.mk s1 l1 x1 q1 fun v2 S2 u2 H2 e2 l2 s2 x2 r2 q2 =>
        ⟨u1, u2, rfl, d.nx _ _ _ _ (e1.trans e2) l2 ((s2.set i (r1.ext e2)).set j r2) q2⟩
  | .setix oo ii e, X, c, Ê, p, o, h => by
    cases p <;> first | (unfold chkS at h; cases h; done) | skip
    rename_i tgs pe pos
    match tgs, h with
    | [], h => unfold chkS at h; cases h
    | [.Subscript po pi sp], h =>
      unfold chkS at h
      obtain ⟨h1, h2, h3, h4, h5⟩ := ba5 h
      refine (ps_asg (sE e o.toOk h3).1 (pg_sub (pos := sp) (sE oo o.toOk h1).1 (sE ii o.toOk h2).1 (set_W o.hu) (by
        intro v
        have := chk_plain h2
        cases pi <;> first | rfl | cases this)) (by unfold swapsWithSole; exact swap_of (nb h4)) (swst_of (nb h5)) rfl).imp fun Dh τ H ⟨σ, S, D, hs, hl, hw, d⟩ => ?_
      exact LE.mk hs hl d.ex hw fun wv S1 v H1 e1 l1 s1 x1 r1 q1 => LE.mk s1 l1 x1 q1 fun wo S2 ov H2 e2 l2 s2 x2 r2 q2 => LE.mk s2 l2 x2 q2 fun wi S3 iv H3 e3 l3 s3 x3 r3 q3 =>
        ⟨S3, wo, wi, wv, _, l3, r2.ext e3, r3, r1.ext (e2.trans e3), q3, fun S' H' e4 l4 q4 => d.nx _ _ _ _ (((e1.trans e2).trans e3).trans e4) l4 (s3.ext e4) q4⟩
  | .aug i op e, X, c, Ê, p, o, h => by
    cases p <;> first | (unfold chkS at h; cases h; done) | skip
    rename_i tg pop pe pos
    cases tg <;> first | (unfold chkS at h; cases h; done) | skip
    rename_i nm np
    unfold chkS at h
    obtain ⟨h1, h2, h3, h4, h5⟩ := ba5 h
    obtain rfl := opb h3
    obtain ⟨hl, hf⟩ := o.toOk.loc h2
    have hN : X.N[i]? = some nm := by simpa using h1
    clear h
    have red : ∀ (f : Int → Int → Int) (hf : ∀ x y r, augW op x y = some r → ∃ a b, x = .int a ∧ y = .int b ∧ r = .int (f a b)) (Dh : Ends) (τ : L2.St) (H : Hp), LS X.K Ê (wS C (.aug i op e)) Dh τ H → tAug i (LE X.K Ê (wE C e)) (ipI f) Dh τ H := fun f hf Dh τ H ⟨σ, S, D, hs, hl, ⟨x, hx, hw⟩, d⟩ => by
      obtain ⟨v, hv, rv⟩ := hs.2 i x hx
      refine ⟨v, hv, LE.mk hs hl d.ex hw fun y S1 u H1 e1 l1 s1 x1 r1 ⟨r, er, q⟩ => ?_⟩
      obtain ⟨a, b, rfl, rfl, rfl⟩ := hf _ _ _ er
      obtain rfl := rv.int_
      obtain rfl := r1.int_
      exact ⟨a, b, rfl, rfl, d.nx _ _ _ _ e1 l1 (s1.set i .i) q⟩
    cases op <;> first | (cases h4; done) | skip
    · exact (ps_aug o.nd hN hl (sE e o.toOk h5).1 ip_add hf).imp (red _ fun x y r er => by
        cases x <;> cases y <;> first | (cases er; done) | (cases er; exact ⟨_, _, rfl, rfl, rfl⟩))
    · exact (ps_aug o.nd hN hl (sE e o.toOk h5).1 ip_sub hf).imp (red _ fun x y r er => by
        cases x <;> cases y <;> first | (cases er; done) | (cases er; exact ⟨_, _, rfl, rfl, rfl⟩))
  | .expr e, X, c, Ê, p, o, h => by
    cases p <;> first | (unfold chkS at h; cases h; done) | skip
    unfold chkS at h
    obtain ⟨h1, h2⟩ := ba2 h
    exact (ps_expr (sE e o.toOk h1).1 (swap_of (nb h2))).imp fun Dh τ H ⟨σ, S, D, hs, hl, hw, d⟩ => LE.mk hs hl d.ex hw fun x S1 v H1 e1 l1 s1 x1 r1 q => d.nx _ _ _ _ e1 l1 s1 q
  | .ret e, X, c, Ê, p, o, h => by
    cases p <;> first | (unfold chkS at h; cases h; done) | skip
    rename_i pe pos
    cases pe with
    | none => unfold chkS at h; cases h
    | some pe =>
      unfold chkS at h
      exact (ps_ret (sE e o.toOk h).1).imp fun Dh τ H ⟨σ, S, D, hs, hl, hw, d⟩ => LE.mk hs hl d.ex hw fun x S1 v H1 e1 l1 s1 x1 r1 q => d.rt _ _ _ _ e1 l1 r1 q
  | .iff t a b, X, c, Ê, p, o, h => by
    cases p <;> first | (unfold chkS at h; cases h; done) | skip
    unfold chkS at h
    obtain ⟨h1, h2, h3⟩ := ba3 h
    exact (ps_if (sV t o.toOk h1).1 (sSs a o h2) (sSs b o h3)).imp fun Dh τ H ⟨σ, S, D, hs, hl, hw, d⟩ => LT.mk hs hl d.ex hw fun r S1 H1 e1 l1 s1 x1 q => by
      cases r with
      | true => exact ⟨σ, S1, D, s1, l1, q, d.ext e1⟩
      | false => exact ⟨σ, S1, D, s1, l1, q, d.ext e1⟩
  | .forr t it b, X, c, Ê, p, o, h => by
    cases p <;> first | (unfold chkS at h; cases h; done) | skip
    rename_i tg iter pb orelse pos
    cases orelse with
    | cons a b => unfold chkS at h; cases h
    | nil =>
      unfold chkS at h
      obtain ⟨h1, h2, h3⟩ := ba3 h
      exact (ps_for o.own o.calm (sI it (Ê := Ê) o.toOk h1) (sT o.toOk t tg h2) (sSs b o h3) (fold_of (plain_I h1))).imp fun Dh τ H q => for_red q
  | .whil t b, X, c, Ê, p, o, h => by
    cases p <;> first | (unfold chkS at h; cases h; done) | skip
    rename_i pt pb orelse pos
    cases orelse with
    | cons a b => unfold chkS at h; cases h
    | nil =>
      unfold chkS at h
      obtain ⟨h1, h2⟩ := ba2 h
      exact (ps_while o.own (sV t o.toOk h1).1 (sSs b o h2)).imp fun Dh τ H q => while_red q
  | .pass, X, c, Ê, p, o, h => by
    cases p <;> first | (unfold chkS at h; cases h; done) | skip
    exact ps_pass.imp fun Dh τ H ⟨σ, S, D, hs, hl, hw, d⟩ => d.nx _ _ _ _ .refl hl hs hw
  | .brk, X, c, Ê, p, o, h => by
    cases p <;> first | (unfold chkS at h; cases h; done) | skip
    exact ps_break.imp fun Dh τ H ⟨σ, S, D, hs, hl, hw, d⟩ => d.bk _ _ _ _ .refl hl hs hw
  | .cont, X, c, Ê, p, o, h => by
    cases p <;> first | (unfold chkS at h; cases h; done) | skip
    exact ps_continue.imp fun Dh τ H ⟨σ, S, D, hs, hl, hw, d⟩ => d.ct _ _ _ _ .refl hl hs hw
theorem sSs : ∀ (s : PD.Sts) {X : Cx} {c : Sc} {Ê : XK} {ps : List Stmt}, OkS X C Ê c fr fl → chkSs fr fl X.N s c ps = true → PSs X ps (LS X.K Ê (wSs C s))
  | .nil, X, c, Ê, ps, o, h => by
    cases ps with
    | nil => exact pss_nil.imp fun Dh τ H ⟨σ, S, D, hs, hl, hw, d⟩ => d.nx _ _ _ _ .refl hl hs hw
    | cons p ps => unfold chkSs at h; cases h
  | .cons s r, X, c, Ê, ps, o, h => by
    cases ps with
    | nil => unfold chkSs at h; cases h
    | cons p ps =>
      unfold chkSs at h
      obtain ⟨h1, h2⟩ := ba2 h
      exact (pss_cons (sS s o h1) (sSs r o h2)).imp fun Dh τ H ⟨σ, S, D, hs, hl, hw, d⟩ =>
        ⟨σ, S, _, hs, hl, hw, fun σ' S' τ' H' e l s q => ⟨σ', S', D, s, l, q, d.ext e⟩, d.rt, d.bk, d.ct, d.ex⟩
  | .fz i r, X, c, Ê, ps, o, h => by
    have h' : chkSs fr fl X.N r c ps = true := by unfold chkSs at h; exact h
    exact (sSs r o h').imp fun Dh τ H ⟨σ, S, D, hs, hl, ⟨p, ep, hi, q⟩, d⟩ => by
      obtain ⟨v, hv, rv⟩ := hs.2 i _ ep
      obtain rfl : v = V.ref p := by unfold RW at rv; exact rv
      have hset : τ.set i (some (V.ref p)) = τ := by
        refine List.ext_getElem? fun j => ?_
        by_cases e : i = j
        · subst e
          rw [List.getElem?_set_self (by rw [← hs.1]; exact hi), hv]
        · rw [List.getElem?_set_ne e]
      rcases q with ⟨xs, e, q⟩ | ⟨ks, ws, e, q⟩
      · have z := (hs.ext ext_del).set i (RW.frozen hl e)
        rw [hset] at z
        exact ⟨_, _, D, z, hl.del p, q, d.ext ext_del⟩
      · have z := (hs.ext ext_del).set i (RW.frozenD hl e)
        rw [hset] at z
        exact ⟨_, _, D, z, hl.del p, q, d.ext ext_del⟩
end
end
end PD

set_option Elab.async false
set_option linter.all false
set_option maxRecDepth 100000
set_option maxHeartbeats 4000000
namespace PD
open PySem PySem.Spec PyProof.Rows L2

/-! ## a def, by its body -/
section
variable {P : Program} {w : World} {K : PySem.W.Frag} {mg : Str → Option Value} {base : Heap} {x qual : Str} {params : Arguments} {body : List Stmt} {scope : Scope} {dvs : List V} {kws : List (Str × V)} {f : Addr} {fd : FuncData}
theorem okG {N ps : List Str} {k : Nat} {sp : Sp} (F : FunD K x qual params body scope dvs kws f fd) (sc : FnScope N ps scope) (len : ∀ vs H Q E, sp vs H Q E → vs.length = ps.length)
    (hb : ∀ (cdv : Value) (A : Around) (outer : List Env) (s : Shared) (H : Hp) (vs : List V) (Q : VK) (E : XK), Room k (A.deeper (envOfC qual scope s.heap.objs.size f cdv)) → A.guards = some [] → sp vs H Q E →
      ∃ t, PSs (cxOf (L2.CX P w) P w K mg base N qual scope f cdv A outer s H E) body t ∧ t ⟨fun _ H' => Q .non H', Q, fun _ _ => False, fun _ _ => False⟩ (L2.start N vs) H) : FG P w K mg base (k + 1) f fd ps sp where
  len := len
  run := fun A outer s H args us vs Q E room gd env bt rv want => by
    obtain ⟨oc, od, dV, kV, doc, pm, an, cdv, ct, osl, rfl, lk, hcd, _, _⟩ := F.ex
    have lv := len _ _ _ _ want
    have inK : K.In s.heap := env.mod.kin.keeps fun b o e => (env.bs b o e).1
    have unlimited := env.mod.nolimit.keeps fun b o e => (env.bs b o e).1
    have kinds : ∀ p ∈ ps.zip us, scope.names.lookup p.1 = some .local ∨ (scope.names.lookup p.1 = some .cell ∧
        ((cellsFrom (s.heap.objs.size + 1) scope.names []).lookup p.1).isSome = true) := fun p hp => by
      have hm : p.1 ∈ ps := (List.of_mem_zip (show (p.1, p.2) ∈ ps.zip us from hp)).1
      exact (sc.par p.1 hm).elim Or.inl fun q => Or.inr ⟨q, PySem.W.cellsFrom_some _ _ _ (Or.inl q)⟩
    apply codeAny_call_function room.depth (inK _ _ lk) rfl sc.co sc.gen rfl
    · exact PySem.W.codeRec_of inK hcd
    · apply bt
      apply wpAny_newFunctionEnv_cells sc.kind kinds
      intro e he s1 hin
      subst he
      refine ⟨unlimited.keeps hin.toInCall.keep, ?_⟩
      apply codeAny_func
      obtain ⟨t, ht, hq⟩ := hb cdv A outer s H vs Q E (room.deeper _) gd want
      refine wpAny_mono (ht.run [] s1 (L2.start N vs) H _ (inv_start sc room.hd env lv rv hin) hq) (fun fl s' out => ?_) fun _ _ z => z
      have fin : ∀ {σ' : L2.St} {H' : Hp} {v : V} {u : Value}, Inv (cxOf (L2.CX P w) P w K mg base N qual scope f cdv A outer s H E) [] σ' H' s' → RelV v u → Q v H' →
          CE outer P w H s Q u s' := fun {σ' H' v u} J r q => ⟨v, H', J.os, J.bare, J.base, J.hok, r, q⟩
      match fl, out with
      | .ret u, ⟨v, σ', H', J, r, q⟩ => exact fin J r q
      | .next, ⟨σ', H', J, q⟩ => exact fin (v := .non) (u := .none) J rfl q
      | .brk, ⟨_, _, _, q⟩ => exact q.elim
      | .cont, ⟨_, _, _, q⟩ => exact q.elim
end

/-! ## the table -/
structure Fd where
  name : Str
  N : List Str
  ps : List Str
  body : Sts
def startS (N : List Str) (ws : List W) : Sl := ws.map some ++ List.replicate (N.length - ws.length) none
def callF (C : Cn) (F : Fd) (ws : List W) (S : Sto) (Q X : QW) : Prop := ws.length = F.ps.length ∧ wSs C F.body { nx := fun _ S' => Q .non S', rt := Q, ex := X } (startS F.N ws) S
def find (T : List Fd) (f : Str) : Option Fd := T.find? fun F => F.name == f
def callK (T : List Fd) (G : Str → Option W) : Nat → Str → List W → Sto → QW → QW → Prop
  | 0, _, _, _, _, _ => False
  | k + 1, f, ws, S, Q, X => ∃ F, find T f = some F ∧ callF ⟨callK T G k, G⟩ F ws S Q X
/-- a def of the text, with its own form -/
structure Def (P : Program) (K : PySem.W.Frag) (mg : Str → Option Value) (fr fl : List Str) (F : Fd) : Prop where
  ex : ∃ (qual : Str) (params : Arguments) (body : List Stmt) (scope : Scope) (f : Addr) (fd : FuncData), FunD K F.name qual params body scope [] [] f fd ∧ mg F.name = some (.ref f) ∧ FnScope F.N F.ps scope ∧ (∀ (s : Shared) (us : List Value), us.length = F.ps.length → BindsTo s fd ⟨us, []⟩ (F.ps.zip us)) ∧
    chkSs fr fl F.N F.body ⟨scope, fun _ => true⟩ body = true
theorem start_sl {K : PySem.W.Frag} {H : Hp} {S : Sto} {N : List Str} {ws : List W} {vs : List V} (r : RWs K H S ws vs) : RSl K H S (startS N ws) (L2.start N vs) := by
  have hl := r.len
  unfold startS L2.start
  refine ⟨by simp [hl], fun i w hi => ?_⟩
  have hi2 : i < ws.length := by
    by_cases h : i < ws.length
    · exact h
    · rw [List.getElem?_append_right (by simpa using h), List.getElem?_replicate] at hi
      split at hi <;> cases hi
  rw [List.getElem?_append_left (by simpa using hi2), List.getElem?_map] at hi
  cases q : ws[i]? with
  | none => rw [q] at hi; cases hi
  | some u =>
    rw [q] at hi; cases hi
    obtain ⟨v, hv, rv⟩ := r.get q
    exact ⟨v, by rw [List.getElem?_append_left (by simp; omega), List.getElem?_map, hv]; rfl, rv⟩
section
variable {P : Program} {w : World} {K : PySem.W.Frag} {mg : Str → Option Value} {base : Heap} {T : List Fd} {G : Str → Option W} {fr fl : List Str}
theorem all_FG (hsys : ∃ o, base.get? sysModules = some o ∧ o.cls = .type "dict") (hfl : ∀ f ∈ fl, ∃ F, find T f = some F) (hfr : ∀ x ∈ fr, mg x = none) (hG : ∀ x w, G x = some w → ∃ u v, mg x = some u ∧ RelV v u ∧ ∀ H S, RW K H S w v) (hT : ∀ f F, find T f = some F → F.name = f ∧ Def P K mg fr fl F) :
    ∀ (k : Nat) (f : Str) (F : Fd), find T f = some F → ∃ (a : Addr) (fd : FuncData), mg f = some (.ref a) ∧ PySem.W.keepIn K (.ref a) = true ∧ (∀ (s : Shared) (us : List Value), us.length = F.ps.length → BindsTo s fd ⟨us, []⟩ (F.ps.zip us)) ∧ FG P w K mg base k a fd F.ps (lsp K (callK T G k f))
  | 0, f, F, hf => by
    obtain ⟨rfl, ⟨qual, params, body, scope, a, fd, h1, h2, h3, h4, h5⟩⟩ := hT f F hf
    exact ⟨a, fd, h2, h1.kp, h4, fun vs H Q E ⟨_, _, _, _, _, _, z, _⟩ => z.elim, fun A outer s H args us vs Q E _ _ _ _ _ ⟨_, _, _, _, _, _, z, _⟩ => z.elim⟩
  | k + 1, f, F, hf => by
    obtain ⟨hn, ⟨qual, params, body, scope, a, fd, h1, h2, h3, h4, h5⟩⟩ := hT f F hf
    refine ⟨a, fd, hn ▸ h2, h1.kp, h4, okG h1 h3 (fun vs H Q E ⟨ws, S, Q', X, r, l, ⟨F', e, q⟩, _⟩ => ?_) fun cdv A outer s H vs Q E room gd ⟨ws, S, Q', X, r, l, ⟨F', e, q⟩, fin, xo⟩ => ?_⟩
    · rw [hf] at e; cases e
      rw [← r.len]; exact q.1
    · rw [hf] at e; cases e
      have pr : Pr P w K mg base ⟨callK T G k, G⟩ fr fl k := ⟨hfr, hG, fun g hg => by
        obtain ⟨F2, e2⟩ := hfl g hg
        obtain ⟨b, fd2, i1, i2, i3, i4⟩ := all_FG hsys hfl hfr hG hT k g F2 e2
        exact ⟨b, fd2, F2.ps, i1, i2, fun s us _ hl => by rw [List.append_nil] at hl ⊢; exact i3 s us hl, i4⟩, hsys⟩
      have ok : OkS (cxOf (L2.CX P w) P w K mg base F.N qual scope a cdv A outer s H E) ⟨callK T G k, G⟩ E ⟨scope, fun _ => true⟩ fr fl :=
        { sc := rfl, fb := fun _ _ => rfl, nd := h3.nd, calm := rfl, guards := gd, pass := passes_call (takes_of rfl rfl rfl rfl) (fun _ _ _ _ h => h), pr := ⟨k, room, pr⟩, own := passes_of rfl, kind := h3.kind }
      refine ⟨_, sSs F.body ok h5, startS F.N ws, S, _, start_sl r, l, q.2, ?_⟩
      exact ⟨fun σ' S' τ' H' e l s q => fin _ _ _ _ e l .n q, fun r S' v H' e l rw q => fin _ _ _ _ e l rw q, fun _ _ _ _ _ _ _ q => q.elim, fun _ _ _ _ _ _ _ q => q.elim, xo⟩
end
end PD

set_option Elab.async false
set_option linter.all false
set_option maxRecDepth 100000
set_option maxHeartbeats 4000000
namespace PD
open PySem PySem.Spec PyProof.Rows L2

/-! ## the law's own call -/
def noS : Sto := fun _ => none
theorem hid_ns {h : Heap} {H : Hp} {b : Addr} {m : Str → Option Value} (n : h.Ns b m) (k : ∀ (o : Obj) es ep, h.get? b = some o → o.data = .dict es ep → H b = none) : (hidT h H).Ns b m := by
  obtain ⟨o, es, ep, e, d, r⟩ := n
  exact ⟨o, es, ep, hidT_get e (k o es ep e d), d, r⟩
theorem law_callG {P : Program} {w : World} {K : PySem.W.Frag} {mg mb : Str → Option Value} {k : Nat} {fa a : Addr} {x : Str} {sp : Sp} {st : Shared} {vs : List Value} {ns : List Int}
    (KX : K.In st.heap) (gm : st.heap.Ns mainGlobals mg) (gb : st.heap.Ns builtinsNs mb) (bb : ∀ y : Str, y ≠ "__name__" → mb y = bootBuiltins y) (nl : st.heap.NoLimit) (gens : st.gens = #[])
    (ha : st.heap.get? a = some { cls := .type "list", data := .seq vs.toArray }) (hi : IntsAre vs ns) (hl : ns.length ≤ sizeLine) (room : Room k callerA)
    (hsys : ∃ o, st.heap.get? sysModules = some o ∧ o.cls = .type "dict") (F : ∀ base : Heap, K.In base → base.Ns mainGlobals mg → (∃ o, base.get? sysModules = some o ∧ o.cls = .type "dict") → ∃ fd, (∀ (s : Shared) (u : Value), BindsTo s fd ⟨[u], []⟩ [(x, u)]) ∧ FG P w K mg base k fa fd [x] sp)
    (hsp : ∀ H : Hp, RdL K H noS a (ns.map V.int) → sp [.ref a] H (fun v _ => v = .bl true) fun _ _ _ => False) :
    codeAny (model P w) callerA (.call (.ref fa) ⟨[.ref a], []⟩) (fun r s' => r = .ok (.ret (.bool true)) ∧ OldK st.heap s'.heap ∧ s'.os = st.os ∧ AllBare s'.gens) st := by
  have rv := vals_ints hi
  have lv := hi.length
  have main : ∀ H : Hp, (∀ b u, H b = some u → b = a ∧ ∃ o ys, u = .frz o (.lst ys)) → RdL K H noS a (ns.map V.int) → HOk P w H st.heap → (H a ≠ none → K.lookup a = none) →
      codeAny (model P w) callerA (.call (.ref fa) ⟨[.ref a], []⟩)
        (fun r s' => r = .ok (.ret (.bool true)) ∧ OldK st.heap s'.heap ∧ s'.os = st.os ∧ AllBare s'.gens) st := by
    intro H only lst ok apart
    have plain : ∀ (b : Addr) (o : Obj) es ep, st.heap.get? b = some o → o.data = .dict es ep → H b = none := fun b o es ep e d => by
      cases q : H b with
      | none => rfl
      | some u =>
        obtain ⟨eb, _⟩ := only b u q
        rw [eb, ha] at e
        cases e
        exact (nomatch d)
    have kb : K.In (hidT st.heap H) := fun b o e => by
      refine hidT_get (KX b o e) ?_
      cases q : H b with
      | none => rfl
      | some u =>
        obtain ⟨eb, _⟩ := only b u q
        have z := apart (by rw [← eb, q]; exact fun y => nomatch y)
        rw [← eb, e] at z
        cases z
    have gm' := hid_ns gm fun o es ep => plain _ o es ep
    obtain ⟨mc, c1, c2⟩ := nl
    have md : Mod K mg (hidT st.heap H) := ⟨kb, gm', ⟨mb, hid_ns gb fun o es ep => plain _ o es ep, bb⟩, ⟨mc, hid_ns c1 fun o es ep => plain _ o es ep, c2⟩⟩
    have sy : ∃ o, (hidT st.heap H).get? sysModules = some o ∧ o.cls = .type "dict" := by
      obtain ⟨o, e, c⟩ := hsys
      refine ⟨o, hidT_get e ?_, c⟩
      cases q : H sysModules with
      | none => rfl
      | some u =>
        obtain ⟨eb, _⟩ := only _ u q
        rw [eb, ha] at e
        cases e
        injection c with c
        exact absurd c (by decide)
    have env : Env0 P w K mg (hidT st.heap H) callerA [] st H :=
      { frames := rfl, mod := md, bs := fun b o e => of_hidT e, bsz := Nat.le_of_eq (hidT_size _ _), funs := trivial
        frf := (fun b hb => nomatch hb), hok := ok, bare := .of_eq gens }
    obtain ⟨fd, bt, fg⟩ := F _ kb gm' sy
    refine codeAny_mono (fg.run callerA [] st H ⟨[.ref a], []⟩ [.ref a] [.ref a] (fun v _ => v = .bl true) (fun _ _ _ => False) room rfl env (bt st (.ref a)) (Paired.cons rfl Paired.nil) (hsp H lst)) fun r s' out => ?_
    match r, out with
    | .error e, out =>
      obtain ⟨_, _, _, _, _, _, _, _, _, _, _, _, z⟩ := out
      exact z.elim
    | .ok .next, out => exact out.elim
    | .ok .brk, out => exact out.elim
    | .ok .cont, out => exact out.elim
    | .ok (.ret u), ⟨v, H', eos, bare, un, ok', rel, q⟩ =>
      have q' : v = .bl true := q
      subst q'
      obtain rfl : u = Value.bool true := rel
      refine ⟨rfl, OldK.of_keep fun b o e => ?_, eos, bare⟩
      cases q : H b with
      | none => exact un.keep b o e q (fun z => nomatch z) (fun z => nomatch z)
      | some u =>
        obtain ⟨_, ob, ys, z⟩ := only b u q
        subst z
        have z2 := un.frzs b ob _ q
        obtain ⟨e1, _⟩ := ok b _ q
        obtain ⟨e2, _⟩ := ok' b _ z2
        rw [e] at e1; cases e1
        exact e2
  cases hk : K.lookup a with
  | some o =>
    have e := KX a o hk
    rw [ha] at e
    cases e
    exact main (fun _ => none) (fun b u z => nomatch z) (.inr ⟨_, vs.toArray, _, hk, rfl, rfl, rfl, by rw [List.size_toArray, lv]; exact hl, by simpa using rv⟩)
      (fun b u z => nomatch z) fun z => absurd rfl z
  | none =>
    have at_ : ∀ b u, (fun c => if c = a then some (HO.frz { cls := .type "list", data := .seq vs.toArray } (.lst (ns.map V.int))) else none) b = some u → b = a ∧ u = .frz { cls := .type "list", data := .seq vs.toArray } (.lst (ns.map V.int)) := fun b u z => by
      by_cases hb : b = a
      · exact ⟨hb, (Option.some.inj ((if_pos hb).symm.trans z)).symm⟩
      · exact nomatch (if_neg hb).symm.trans z
    refine main (fun c => if c = a then some (HO.frz { cls := .type "list", data := .seq vs.toArray } (.lst (ns.map V.int))) else none) (fun b u z => ?_) (.inl ⟨.inr ⟨{ cls := .type "list", data := .seq vs.toArray }, if_pos rfl⟩, rfl⟩) (fun b u z => ?_) fun _ => hk
    · obtain ⟨e1, e2⟩ := at_ b u z
      exact ⟨e1, _, _, e2⟩
    · obtain ⟨e1, e2⟩ := at_ b u z
      subst e1; subst e2
      exact ⟨ha, by rw [List.length_map]; exact hl, vs, _, rv, ha⟩
/-- what the law's def must do, told -/
def lawOk (T : List Fd) (G : Str → Option W) (k : Nat) : Prop := ∀ ns : List Int, ns.length ≤ 63 → callK T G k "law" [.lst (ns.map .int)] noS (fun r _ => r = .bl true) fun _ _ => False
theorem rws_ints {K : PySem.W.Frag} {H : Hp} {S : Sto} : ∀ ns : List Int, RWs K H S (ns.map W.int) (ns.map V.int)
  | [] => .nil
  | _ :: ns => .cons .i (rws_ints ns)
/-- what the head must tell -/
def TableOk (P : Program) (T : List Fd) (G : Str → Option W) (mg : Str → Option Value) (K : PySem.W.Frag) : Prop := ∃ fr fl : List Str, (∀ f ∈ fl, ∃ F, find T f = some F) ∧ (∀ x ∈ fr, mg x = none) ∧
  (∀ x w, G x = some w → ∃ u v, mg x = some u ∧ RelV v u ∧ ∀ H S, RW K H S w v) ∧ ∀ f F, find T f = some F → F.name = f ∧ Def P K mg fr fl F
theorem walkG {l : PySem.W.OpenLaw} {k : Nat} {q : Program} {loose : List Str} {XP : (Str → Option Value) → Heap → Prop} {YP : World → Heap → Prop} {d : DefRec} {T : List Fd} {G : Str → Option W} {FL : Fd} {x : Str}
    (hn : l.most = some 63) (hdf : d.params.defaults = []) (room : Room k callerA) (hd : d.name = "law") (hfl : find T "law" = some FL) (hps : FL.ps = [x])
    (F : ∀ (w : World) (mg : Str → Option Value) (h : Heap), YP w h → h.Ns mainGlobals mg → (∃ o, h.get? sysModules = some o ∧ o.cls = .type "dict") ∧ ∃ K : PySem.W.Frag, K.In h ∧ TableOk l.prog T G mg K)
    (ok : lawOk T G k) : PySem.W.WalkO q loose XP YP l.row.toRowW d [] (fun f vs => PySem.call f vs) := by
  refine Att.attach_call hn hdf fun w s₀ s₁ mg mb fa o pm cd doc a vs ns Gr Y ho hdt hcd hmg hobj hints hlen hg => ?_
  obtain ⟨hs, K, KX, fr, fl, t1, t2, t3, t4⟩ := F w mg _ Y Gr.T.g
  rw [hd] at hmg
  have big : (63 : Nat) ≤ sizeLine := by decide
  refine law_callG (x := x) (sp := lsp K (callK T G k "law")) KX Gr.T.g Gr.T.b Gr.T.builtins Gr.T.nolimit hg hobj hints (Nat.le_trans hlen big) room hs (fun base _ _ sy => ?_) fun H hr => ?_
  · obtain ⟨a', fd', i1, i2, i3, i4⟩ := all_FG (P := l.prog) (w := w) (base := base) (K := K) (mg := mg) (T := T) (G := G) sy t1 t2 t3 t4 k "law" FL hfl
    have ea : a' = fa := by
      have := i1.symm.trans hmg
      injection this with z; injection z
    subst ea
    rw [hps] at i3 i4
    exact ⟨fd', fun s u => i3 s [u] rfl, i4⟩
  · refine ⟨[.lst (ns.map .int)], noS, _, _, .cons ?_ .nil, fun a o e => (nomatch e), ok ns hlen, fun r S' v H' e l rw q => ?_, .none⟩
    · unfold RW
      exact ⟨a, _, rfl, hr, rws_ints ns⟩
    · have q' : r = .bl true := q
      subst q'
      exact rw.bl_
end PD

set_option Elab.async false
set_option linter.all false
set_option maxRecDepth 100000
set_option maxHeartbeats 4000000
namespace PD
open PySem PySem.Spec PyProof.Rows L2

/-! ## the head's facts, and that sys.modules is a dict -/
def sysB (g : Addr → Option Obj) : Bool := match g sysModules with
  | some o => decide (o.cls = .type "dict")
  | none => false
def hookS (n : Nat) (fa : List He.Fa) (fn : List He.DefD) : PySem.W.Hook where
  α := Bool × He.AlD
  obs := fun s => (sysB s.heap.get?, He.obsDG n fa fn s.heap.get?)
  val := fun _ => (true, He.valD fn)
  says := fun _ h => (∃ o, h.get? sysModules = some o ∧ o.cls = .type "dict") ∧ ∃ K : PySem.W.Frag, K.In h ∧ He.SaysD fa fn K
  of := fun _ s e => by
    have e1 : sysB s.heap.get? = true := congrArg Prod.fst e
    refine ⟨?_, _, He.frG_in, congrArg Prod.snd e⟩
    unfold sysB at e1
    cases q : s.heap.get? sysModules with
    | none => rw [q] at e1; cases e1
    | some o => rw [q] at e1; exact ⟨o, rfl, by simpa using e1⟩
  keeps := fun _ _ _ ⟨⟨o, e, c⟩, K, hK, d⟩ kp => ⟨⟨o, kp _ _ e, c⟩, K, PySem.W.Frag.In.keeps hK kp, d⟩
def obS (n : Nat) (fa : List He.Fa) (fn : List He.DefD) (s : PySem.W.SharedT) : Bool × He.AlD := (sysB (HandSHeadRun.getT s), He.obsDG n fa fn (HandSHeadRun.getT s))
theorem obS_eq {n : Nat} {fa : List He.Fa} {fn : List He.DefD} (s : PySem.W.SharedT) : obS n fa fn s = (hookS n fa fn).obs s.abs := by
  have e : HandSHeadRun.getT s = s.abs.heap.get? := funext (HandSHeadRun.getT_eq s)
  unfold obS
  rw [e]
  rfl
/-- one def: what is seen of the text -/
structure DefB (fr fl : List Str) (F : Fd) (d : He.DefD) : Prop where
  name : d.name = F.name
  at_ : d.at_ = (F.name, none)
  dfl : d.dfl = []
  kwd : d.kwd = []
  sc : FnScope F.N F.ps d.scope
  bind : ∀ (kV doc pm : Value) (an : Option Addr) (cdv ct : Value) (us : List Value), us.length = F.ps.length → bindArgs (PySem.W.fnOf d.name d.qual d.params d.body d.scope .none kV doc pm an cdv ct) ⟨us, []⟩ = pure (F.ps.zip us)
  chk : chkSs fr fl F.N F.body ⟨d.scope, fun _ => true⟩ d.body = true
/-- the module's constants -/
def lookG (gs : List (Str × Lit)) (x : Str) : Option W := (gs.find? fun e => e.1 == x).map fun e => e.2.w
def litFa : Str × Lit → He.Fa
  | (x, .int i) => .int x i
  | (x, .str z) => .str x z
  | (x, _) => .glo x
def litOk : Lit → Bool
  | .int _ => true
  | .str _ => true
  | _ => false
theorem table_ok {P : Program} {K : PySem.W.Frag} {h : Heap} {mg : Str → Option Value} {T : List Fd} {fr : List Str} {fa : List He.Fa} {fn : List He.DefD} (X : K.In h) (Gm : h.Ns mainGlobals mg) (c : He.SaysD fa fn K) {gs : List (Str × Lit)} (hgs : ∀ e ∈ gs, litFa e ∈ fa ∧ litOk e.2 = true)
    (hfree : ∀ x ∈ fr, He.Fa.free x ∈ fa) (hglo : ∀ F ∈ T, He.Fa.glo F.name ∈ fa) (hT : ∀ F ∈ T, ∃ d ∈ fn, DefB fr (T.map (·.name)) F d) : TableOk P T (lookG gs) mg K := by
  refine ⟨fr, T.map (·.name), fun f hf => ?_, fun x hx => He.free_ok X Gm (He.SaysD.facts c (hfree x hx)), fun x w e => ?_, fun f F hf => ?_⟩
  · obtain ⟨F, hF, rfl⟩ := List.mem_map.mp hf
    cases q : find T F.name with
    | some F2 => exact ⟨F2, rfl⟩
    | none =>
      have := List.find?_eq_none.mp q F hF
      simp at this
  · unfold lookG at e
    cases q : gs.find? fun e => e.1 == x with
    | none => rw [q] at e; cases e
    | some p =>
      rw [q] at e; cases e
      obtain ⟨y, l⟩ := p
      obtain ⟨h1, h2⟩ := hgs _ (List.mem_of_find?_eq_some q)
      have hy : y = x := by
        have := List.find?_some q
        simpa using this
      subst hy
      have h3 := He.SaysD.facts c h1
      cases l with
      | int i => obtain ⟨t, ht⟩ := He.int_ok X Gm h3; exact ⟨_, .int i, ht, ⟨t, rfl⟩, fun _ _ => .i⟩
      | str z => obtain ⟨t, ht⟩ := He.str_ok X Gm h3; exact ⟨_, .str z, ht, ⟨t, rfl⟩, fun _ _ => .s⟩
      | non => cases h2
      | bl b => cases h2
  · have hm : F ∈ T := List.mem_of_find?_eq_some hf
    have hn : F.name = f := by
      have := List.find?_some hf
      simpa using this
    refine ⟨hn, ?_⟩
    obtain ⟨d, hd, b⟩ := hT F hm
    obtain ⟨fd, Fd_⟩ := He.SaysD.defs c hd
    have e1 : d.dvs K = [] := by unfold He.DefD.dvs; rw [b.dfl]; rfl
    have e2 : d.kws K = [] := by unfold He.DefD.kws; rw [b.kwd]; rfl
    have e3 : He.fAd K d.at_ = He.ga K F.name := by rw [b.at_]; rfl
    rw [e1, e2, e3, b.name] at Fd_
    have hb := b.bind
    rw [b.name] at hb
    exact ⟨d.qual, d.params, d.body, d.scope, _, fd, Fd_, He.glo_ok X Gm (He.SaysD.facts c (hglo F hm)), b.sc, fun s us hl => Fd_.bindsA hb s us hl, b.chk⟩
end PD

set_option Elab.async false
set_option linter.all false
set_option maxRecDepth 100000
set_option maxHeartbeats 4000000
namespace PD
open PySem PySem.Spec PyProof.Rows L2

/-! ## reasoning in the small language -/
theorem atI_nat {α : Type} {xs : List α} (i : Nat) : atI xs (i : Int) = xs[i]? := by
  unfold atI ixN
  rw [if_pos (Int.natCast_nonneg i)]
  by_cases h : (i : Int) < xs.length
  · rw [if_pos h]; rfl
  · rw [if_neg h, List.getElem?_eq_none (by omega)]; rfl
theorem atI_0 {α : Type} {x : α} {l : List α} : atI (x :: l) 0 = some x := atI_nat 0
theorem atI_1 {α : Type} {x y : α} {l : List α} : atI (x :: y :: l) 1 = some y := atI_nat 1
theorem atI_2 {α : Type} {x y z : α} {l : List α} : atI (x :: y :: z :: l) 2 = some z := atI_nat 2
theorem loopC_ind {step : W → Sto → (Option W → Sto → Prop) → Prop} {D : Addr} {Q : List W → Sto → Prop} (I : List W → List W → Sto → Prop) (hD : ∀ xs acc S, I xs acc S → S D = some (.lst acc)) (hn : ∀ acc S, I [] acc S → Q acc S)
    (hs : ∀ x xs acc S (K : Option W → Sto → Prop), I (x :: xs) acc S → (∀ S1, I xs acc S1 → K none S1) → (∀ w S1, S1 D = some (.lst acc) → acc.length < sizeLine → I xs (acc ++ [w]) (S1.set D (.lst (acc ++ [w]))) → K (some w) S1) → step x S K) :
    ∀ xs acc S, I xs acc S → loopC step D xs acc Q S
  | [], acc, S, h => ⟨hD _ _ _ h, hn _ _ h⟩
  | x :: xs, acc, S, h => ⟨hD _ _ _ h, hs x xs acc S _ h (fun S1 h1 => loopC_ind I hD hn hs xs acc S1 h1) fun w S1 h1 h2 h3 => ⟨h1, h2, loopC_ind I hD hn hs xs _ _ h3⟩⟩
theorem loopF_ind {body : En → W → Sl → Sto → Prop} {D : En} (I : List W → Sl → Sto → Prop) (hn : ∀ σ S, I [] σ S → D.nx σ S)
    (hs : ∀ x xs σ S (N : Sl → Sto → Prop), I (x :: xs) σ S → (∀ σ' S', I xs σ' S' → N σ' S') → body { D with nx := N, ct := N, bk := D.nx } x σ S) : ∀ xs σ S, I xs σ S → loopF body D xs σ S
  | [], σ, S, h => hn _ _ h
  | x :: xs, σ, S, h => hs x xs σ S _ h fun σ' S' h' => loopF_ind I hn hs xs σ' S' h'
/-- a comprehension whose parts change nothing -/
theorem loopC_pure {step : W → Sto → (Option W → Sto → Prop) → Prop} {D : Addr} {Q : List W → Sto → Prop} (f : W → Option W) (P : W → Prop) (hs : ∀ x S (K : Option W → Sto → Prop), P x → K (f x) S → step x S K) :
    ∀ (xs acc : List W) (S : Sto), (∀ x ∈ xs, P x) → acc.length + xs.length ≤ sizeLine → S D = none → Q (acc ++ xs.filterMap f) (S.set D (.lst (acc ++ xs.filterMap f))) → loopC step D xs acc Q (S.set D (.lst acc))
  | [], acc, S, hp, hl, hD, h => ⟨Sto.set_same, by simpa using h⟩
  | x :: xs, acc, S, hp, hl, hD, h => by
    refine ⟨Sto.set_same, hs x _ _ (hp x (by simp)) ?_⟩
    rw [List.filterMap_cons] at h
    cases q : f x with
    | none =>
      rw [q] at h
      exact loopC_pure f P hs xs acc S (fun y hy => hp y (by simp [hy])) (by simp at hl; omega) hD h
    | some w =>
      rw [q] at h
      refine ⟨Sto.set_same, by simp at hl; omega, ?_⟩
      rw [Sto.set_set]
      exact loopC_pure f P hs xs (acc ++ [w]) S (fun y hy => hp y (by simp [hy])) (by simp at hl ⊢; omega) hD (by simpa using h)
/-- .. as a value -/
theorem comp_pure {step : W → Sto → (Option W → Sto → Prop) → Prop} {Q : QW} {xs : List W} {S : Sto} (f : W → Option W) (P : W → Prop) (hs : ∀ x S (K : Option W → Sto → Prop), P x → K (f x) S → step x S K)
    (hp : ∀ x ∈ xs, P x) (hl : xs.length ≤ sizeLine) (h : Q (.lst (xs.filterMap f)) S) :
    ∀ D, S D = none → loopC step D xs [] (fun ws S2 => if false = true then Q (.ref D) S2 else Q (.lst ws) (S2.del D)) (S.set D (.lst [])) := fun D hD =>
  loopC_pure f P hs xs [] S hp (by simpa using hl) hD (by
    rw [if_neg (by decide), List.nil_append, Sto.del_set hD]
    exact h)
/-! ### what data say -/
theorem eqW_of {a b : W} {x y : PyData} (ha : a.d = some x) (hb : b.d = some y) (px : okD x = true) (py : okD y = true) : eqW a b = some (PyData.eqv x y) := by
  unfold eqW eqD
  rw [ha, hb]
  simp [px, py]
theorem eqW_self {a : W} {x : PyData} (ha : a.d = some x) (px : okD x = true) : eqW a a = some true := by
  rw [eqW_of ha ha px px, PySem.SeqAt.eqv_refl_plain x (by unfold okD at px; simp at px; exact px.1)]
/-- anything that a tuple holds: beside the empty one -/
theorem eqW_nil {xs : List W} : eqW (.tup xs) (.tup []) = some xs.isEmpty := by
  unfold eqW
  cases q : eqD (.tup xs) (.tup []) with
  | none => rfl
  | some r =>
    obtain ⟨x, y, hx, hy, _, _, rfl⟩ := eqD_some q
    cases xs with
    | nil => cases hx; cases hy; rfl
    | cons a l =>
      have hx' : (W.ds (a :: l)).map PyData.tuple = some x := hx
      have e : W.ds (a :: l) = (W.d a).bind fun x => (W.ds l).map fun r => x :: r := rfl
      rw [e] at hx'
      cases hy
      cases q1 : W.d a with
      | none => rw [q1] at hx'; cases hx'
      | some d =>
        cases q2 : W.ds l with
        | none => rw [q1, q2] at hx'; cases hx'
        | some ds => rw [q1, q2] at hx'; cases hx'; rfl
theorem eqW_str {x y : Str} : eqW (.str x) (.str y) = some (x == y) := rfl
theorem eqW_int {x y : Int} : eqW (.int x) (.int y) = some (x == y) := rfl
theorem eqW_bl {x y : Bool} : eqW (.bl x) (.bl y) = some (x == y) := rfl

/-! ## terms -/
inductive Tm where
  | any (n : Int)
  | of (x : Str) (ts : List Tm)
mutual
def Tm.w : Tm → W
  | .any n => .tup [.str "any", .int n]
  | .of x ts => .tup [.str "of", .str x, .tup (Tm.ws ts)]
def Tm.ws : List Tm → List W
  | [] => []
  | t :: ts => Tm.w t :: Tm.ws ts
end
mutual
def Tm.dat : Tm → PyData
  | .any n => .tuple [.str "any", .int n]
  | .of x ts => .tuple [.str "of", .str x, .tuple (Tm.dats ts)]
def Tm.dats : List Tm → List PyData
  | [] => []
  | t :: ts => Tm.dat t :: Tm.dats ts
end
mutual
/-- how deep -/
def Tm.h : Tm → Nat
  | .any _ => 1
  | .of _ ts => 1 + Tm.hs ts
def Tm.hs : List Tm → Nat
  | [] => 0
  | t :: ts => max (Tm.h t) (Tm.hs ts)
end
theorem Tm.ws_eq (ts : List Tm) : Tm.ws ts = ts.map Tm.w := by
  induction ts with
  | nil => rfl
  | cons t ts ih => rw [List.map_cons, ← ih]; rfl
mutual
theorem Tm.w_d : ∀ t : Tm, t.w.d = some t.dat
  | .any n => rfl
  | .of x ts => by
    have := Tm.ws_d ts
    simp [Tm.w, Tm.dat, W.d, W.ds, this]
theorem Tm.ws_d : ∀ ts : List Tm, W.ds (Tm.ws ts) = some (Tm.dats ts)
  | [] => rfl
  | t :: ts => by simp [Tm.ws, Tm.dats, W.ds, Tm.w_d t, Tm.ws_d ts]
end
mutual
theorem Tm.w_dd : ∀ t : Tm, t.w.dd = some t.dat
  | .any n => rfl
  | .of x ts => by
    have := Tm.ws_dd ts
    simp [Tm.w, Tm.dat, W.dd, W.dds, this]
theorem Tm.ws_dd : ∀ ts : List Tm, W.dds (Tm.ws ts) = some (Tm.dats ts)
  | [] => rfl
  | t :: ts => by simp [Tm.ws, Tm.dats, W.dds, Tm.w_dd t, Tm.ws_dd ts]
end
mutual
theorem Tm.plain : ∀ t : Tm, t.dat.plain = true
  | .any n => rfl
  | .of x ts => by simp [Tm.dat, PyData.plain, PyData.plainAll, Tm.plains ts]
theorem Tm.plains : ∀ ts : List Tm, PyData.plainAll (Tm.dats ts) = true
  | [] => rfl
  | t :: ts => by simp [Tm.dats, PyData.plainAll, Tm.plain t, Tm.plains ts]
end
mutual
theorem Tm.depth : ∀ t : Tm, t.dat.depth ≤ 2 * t.h + 1
  | .any n => by simp [Tm.dat, PyData.depth, PyData.depthAll, Tm.h]
  | .of x ts => by
    have := Tm.depths ts
    simp [Tm.dat, PyData.depth, PyData.depthAll, Tm.h]
    omega
theorem Tm.depths : ∀ ts : List Tm, PyData.depthAll (Tm.dats ts) ≤ 2 * Tm.hs ts + 1
  | [] => by simp [Tm.dats, PyData.depthAll]
  | t :: ts => by
    have h1 := Tm.depth t
    have h2 := Tm.depths ts
    simp [Tm.dats, PyData.depthAll, Tm.hs]
    omega
end
theorem Tm.ok {t : Tm} (h : t.h ≤ 29) : okD t.dat = true := by
  have := Tm.depth t
  unfold okD
  simp [Tm.plain t]
  omega
theorem Tm.eq_self {t : Tm} (h : t.h ≤ 29) : eqW t.w t.w = some true := eqW_self (Tm.w_d t) (Tm.ok h)

theorem rs_tup {S : Sto} {xs : List W} : rd S (.tup xs) = .tup xs := rfl
theorem rs_lst {S : Sto} {xs : List W} : rd S (.lst xs) = .lst xs := rfl
theorem rs_int {S : Sto} {i : Int} : rd S (.int i) = .int i := rfl
theorem rs_str {S : Sto} {x : Str} : rd S (.str x) = .str x := rfl
theorem rs_bl {S : Sto} {b : Bool} : rd S (.bl b) = .bl b := rfl
theorem rs_non {S : Sto} : rd S .non = .non := rfl
theorem rs_dct {S : Sto} {ks : List Key} {ws : List W} : rd S (.dct ks ws) = .dct ks ws := rfl
theorem ix_tup {xs : List W} {i : Int} : ixW (.tup xs) (.int i) = atI xs i := rfl
theorem ix_lst {xs : List W} {i : Int} : ixW (.lst xs) (.int i) = atI xs i := rfl
theorem ex_some {α : Type} {a : α} {P : α → Prop} : (∃ w, some a = some w ∧ P w) ↔ P a := ⟨fun ⟨w, e, h⟩ => by cases e; exact h, fun h => ⟨a, rfl, h⟩⟩
theorem ex_some2 {α : Type} {a : α} {P : α → Prop} : (∃ w, some (some a) = some (some w) ∧ P w) ↔ P a := ⟨fun ⟨w, e, h⟩ => by cases e; exact h, fun h => ⟨a, rfl, h⟩⟩
theorem ex_int {i : Int} {P : Int → Prop} : (∃ j, W.int i = .int j ∧ P j) ↔ P i := ⟨fun ⟨w, e, h⟩ => by cases e; exact h, fun h => ⟨i, rfl, h⟩⟩
theorem ex_bl {i : Bool} {P : Bool → Prop} : (∃ j, W.bl i = .bl j ∧ P j) ↔ P i := ⟨fun ⟨w, e, h⟩ => by cases e; exact h, fun h => ⟨i, rfl, h⟩⟩
theorem tru_bl {b : Bool} : truW (.bl b) = some b := rfl
theorem cmp_eq {a b : W} : cmpW .Eq a b = eqW a b := rfl
theorem cmp_lt {a b : Int} : cmpW .Lt (.int a) (.int b) = some (decide (a < b)) := rfl
theorem cmp_gt {a b : Int} : cmpW .Gt (.int a) (.int b) = some (decide (b < a)) := rfl
theorem cmp_ge {a b : Int} : cmpW .GtE (.int a) (.int b) = some (decide (b ≤ a)) := rfl
theorem cmp_le {a b : Int} : cmpW .LtE (.int a) (.int b) = some (decide (a ≤ b)) := rfl
theorem add_int {a b : Int} : binW .Add (.int a) (.int b) = some (.int (a + b)) := rfl
theorem sub_int {a b : Int} : binW .Sub (.int a) (.int b) = some (.int (a - b)) := rfl
theorem ex_tup {xs : List W} {P : List W → Prop} : (∃ ws, W.tup xs = .tup ws ∧ P ws) ↔ P xs := ⟨fun ⟨w, e, h⟩ => by cases e; exact h, fun h => ⟨xs, rfl, h⟩⟩
theorem ex_cons {x : W} {xs : List W} {P : W → List W → Prop} : (∃ w r, x :: xs = w :: r ∧ P w r) ↔ P x xs := ⟨fun ⟨w, r, e, h⟩ => by cases e; exact h, fun h => ⟨x, xs, rfl, h⟩⟩
theorem ex_tl {xs : List W} {P : List W → Prop} : (∃ ys, (W.lst xs = .lst ys ∨ W.lst xs = .tup ys) ∧ P ys) ↔ P xs :=
  ⟨fun ⟨ys, e, h⟩ => by rcases e with e | e <;> cases e; exact h, fun h => ⟨xs, .inl rfl, h⟩⟩
theorem ite_both {b : Bool} {P R : Prop} (h1 : b = true → P) (h2 : b = false → R) : if b = true then P else R := by
  cases b with
  | true => exact h1 rfl
  | false => exact h2 rfl
theorem szl {n : Nat} (h : n ≤ 16777216) : n ≤ sizeLine := by rw [sizeLine_eq]; exact h
theorem len_lst {xs : List W} : lenW (.lst xs) = some (.int xs.length) := rfl
theorem rd_r {S : Sto} {a : Addr} {xs : List W} (h : S a = some (.lst xs)) : rd S (.ref a) = .lst xs := by
  simp only [rd, h]
theorem mod_int {n u : Int} (hu : 0 < u) : binW .Mod (.int n) (.int u) = some (.int (n % u)) := if_pos hu
theorem div_int {n u : Int} (hu : 0 < u) (hl : u.natAbs.log2 < 9000) : binW .FloorDiv (.int n) (.int u) = some (.int (n / u)) := if_pos ⟨hu, hl⟩
theorem mul_int {i j : Int} (h : -(2 ^ 64) < j ∧ j < 2 ^ 64) : binW .Mult (.int i) (.int j) = some (.int (i * j)) := if_pos (.inl (.inr h))
theorem mul_int' {i j : Int} (h : -(2 ^ 64) < i ∧ i < 2 ^ 64) : binW .Mult (.int i) (.int j) = some (.int (i * j)) := if_pos (.inl (.inl h))
def big18 : Int := 1000000000000000000
theorem pow18 : binW .Pow (.int 10) (.int 18) = some (.int big18) := by
  show (if (0 : Int) ≤ 18 ∧ (18 : Int) ≤ 1000000 ∧ (10 : Int).natAbs < 2 ^ 64 then some (W.int (10 ^ (18 : Int).toNat)) else none) = _
  rw [if_pos (by decide)]; rfl
theorem setW_0 {S : Sto} {a : Addr} {v x : W} {Q : Sto → Prop} (h : S a = some (.lst [x])) (q : Q (S.set a (.lst [v]))) : setW (.ref a) (.int 0) v S Q := by
  unfold setW
  simp only [h]
  exact ⟨0, 0, rfl, by simp [ixN], q⟩
theorem ty_app {xs : List W} : (tyM .append (.lst xs) = true) = True := eq_self _
/-- two places: a's number, D's row -/
structure St2 (S : Sto) (a D : Addr) (n : Int) (rows : List W) (S' : Sto) : Prop where
  ne : a ≠ D
  eq : S' = (S.set a (.lst [.int n])).set D (.lst rows)
section
variable {S S' : Sto} {a D : Addr} {n m : Int} {rows r2 : List W}
theorem St2.sa (h : St2 S a D n rows S') : S' a = some (.lst [.int n]) := by rw [h.eq, Sto.set_ne h.ne, Sto.set_same]
theorem St2.sD (h : St2 S a D n rows S') : S' D = some (.lst rows) := by rw [h.eq, Sto.set_same]
theorem St2.seta (h : St2 S a D n rows S') : St2 S a D m rows (S'.set a (.lst [.int m])) := ⟨h.ne, by rw [h.eq, Sto.set_comm (Ne.symm h.ne), Sto.set_set]⟩
theorem St2.setD (h : St2 S a D n rows S') : St2 S a D n r2 (S'.set D (.lst r2)) := ⟨h.ne, by rw [h.eq, Sto.set_set]⟩
theorem St2.del (h : St2 S a D n rows S') (hD : S D = none) : S'.del D = S.set a (.lst [.int n]) := by
  rw [h.eq, Sto.del_set]
  rw [Sto.set_ne (Ne.symm h.ne)]; exact hD
theorem St2.new (ha : S a = some (.lst [.int n])) (hD : S D = none) : St2 S a D n rows (S.set D (.lst rows)) :=
  ⟨(fun e => by rw [e, hD] at ha; cases ha), by rw [Sto.set_self ha]⟩
end
theorem ix_str {z : Str} {c : Nat} {i : Int} (hz : z.length ≤ 1000) (h : atI z.cps.toList i = some c) : ixW (.str z) (.int i) = some (.str ⟨#[c]⟩) := by
  show (if z.length ≤ sizeLine then (atI z.cps.toList i).map fun c => W.str ⟨#[c]⟩ else none) = _
  rw [if_pos (szl (by omega)), h]; rfl
theorem mul_str {x : Str} {j : Int} (h0 : 0 ≤ j) (h1 : j ≤ 1000) (hx : x.length ≤ 1000) : binW .Mult (.str x) (.int j) = some (.str (Txt.mul x j)) := if_pos ⟨h0, h1, hx⟩
theorem add_str {x y : Str} (h : x.length + y.length ≤ 1000) : binW .Add (.str x) (.str y) = some (.str (x ++ y)) := if_pos (szl (by omega))
theorem mod_range {n u : Int} (h : 0 < u) : 0 ≤ n % u ∧ n % u < u := ⟨Int.emod_nonneg _ (by omega), Int.emod_lt_of_pos _ h⟩
theorem ex_or {xs : List W} {P : List W → Prop} : (∃ ys, (W.lst xs = .lst ys ∨ W.lst xs = .tup ys) ∧ P ys) ↔ P xs := ex_tl
/-- a row made in a place is changed no more -/
theorem fz_l {S : Sto} {p : Addr} {xs : List W} {A : List W → Prop} {B : Prop} (h : S p = some (.lst xs)) (q : A xs) : (∃ ys, S p = some (.lst ys) ∧ A ys) ∨ B := .inl ⟨xs, h, q⟩
theorem items_lst {xs : List W} : itemsW (.lst xs) = some xs := rfl
theorem items_tup {xs : List W} : itemsW (.tup xs) = some xs := rfl
/-- a comprehension whose parts change nothing, whatever is done with its row -/
theorem comp_p {step : W → Sto → (Option W → Sto → Prop) → Prop} {F : Addr → List W → Sto → Prop} {xs : List W} {S : Sto} (f : W → Option W) (P : W → Prop) (hs : ∀ x S (K : Option W → Sto → Prop), P x → K (f x) S → step x S K)
    (hp : ∀ x ∈ xs, P x) (hl : xs.length ≤ 1000) (h : ∀ D, S D = none → F D (xs.filterMap f) (S.set D (.lst (xs.filterMap f)))) :
    ∀ D, S D = none → loopC step D xs [] (F D) (S.set D (.lst [])) := fun D hD =>
  loopC_pure f P hs xs [] S hp (szl (by simp; omega)) hD (by rw [List.nil_append]; exact h D hD)
theorem at_mem {α : Type} {xs : List α} {i : Int} (h0 : 0 ≤ i) (h1 : i < xs.length) : ∃ x ∈ xs, atI xs i = some x := by
  obtain ⟨j, rfl⟩ : ∃ j : Nat, i = (j : Int) := ⟨i.toNat, by omega⟩
  have hj : j < xs.length := by omega
  exact ⟨xs[j], List.getElem_mem hj, by rw [atI_nat]; exact List.getElem?_eq_getElem hj⟩
theorem St2.newS {S : Sto} {a D : Addr} {n : Int} {rows : List W} (hD : (S.set a (.lst [.int n])) D = none) : St2 S a D n rows ((S.set a (.lst [.int n])).set D (.lst rows)) :=
  ⟨(fun e => by rw [e, Sto.set_same] at hD; cases hD), rfl⟩
theorem Sto.none_of {S : Sto} {a D : Addr} {o : SO} (h : (S.set a o) D = none) : S D = none := by
  have ne : D ≠ a := fun e => by rw [e, Sto.set_same] at h; cases h
  rw [Sto.set_ne ne] at h; exact h
theorem ty_get {ks : List Key} {ws : List W} : (tyM .get (.dct ks ws) = true) = True := eq_self _
theorem loopC_map {α : Type} {step : W → Sto → (Option W → Sto → Prop) → Prop} {D : Addr} {Q : List W → Sto → Prop} (enc out : α → W) : ∀ (us : List α) (acc : List W) (S : Sto), (∀ u ∈ us, ∀ S K, K (some (out u)) S → step (enc u) S K) → acc.length + us.length ≤ 1000 →
    Q (acc ++ us.map out) (S.set D (.lst (acc ++ us.map out))) → loopC step D (us.map enc) acc Q (S.set D (.lst acc))
  | [], acc, S, hs, hl, h => ⟨Sto.set_same, by simpa using h⟩
  | u :: us, acc, S, hs, hl, h => by
    refine ⟨Sto.set_same, hs u (by simp) _ _ ⟨Sto.set_same, by rw [sizeLine_eq]; simp at hl; omega, ?_⟩⟩
    rw [Sto.set_set]
    exact loopC_map enc out us (acc ++ [out u]) S (fun v hv => hs v (by simp [hv])) (by simp at hl ⊢; omega) (by simpa using h)
/-- a comprehension over told things -/
theorem comp_map {α : Type} {step : W → Sto → (Option W → Sto → Prop) → Prop} {F : Addr → List W → Sto → Prop} {S : Sto} (enc out : α → W) (us : List α) (hs : ∀ u ∈ us, ∀ S K, K (some (out u)) S → step (enc u) S K) (hl : us.length ≤ 1000)
    (h : ∀ D, S D = none → F D (us.map out) (S.set D (.lst (us.map out)))) : ∀ D, S D = none → loopC step D (us.map enc) [] (F D) (S.set D (.lst [])) := fun D hD =>
  loopC_map enc out us [] S hs (by simpa using hl) (by rw [List.nil_append]; exact h D hD)
theorem rd_w {S : Sto} {t : Tm} : rd S t.w = t.w := by cases t <;> rfl
theorem slc_lst {xs : List W} {lo hi : Option Int} : slcW (.lst xs) lo hi = some (.lst (cutW xs lo hi)) := rfl
theorem cmp_ne {a b : W} : cmpW .NotEq a b = (eqW a b).map (!·) := rfl
theorem cut_mem {xs : List W} {lo hi : Option Int} {x : W} (h : x ∈ cutW xs lo hi) : x ∈ xs := List.mem_of_mem_drop (List.mem_of_mem_take h)
theorem cut_len {xs : List W} {lo hi : Option Int} : (cutW xs lo hi).length ≤ xs.length := by
  unfold cutW
  rw [List.length_take, List.length_drop]
  omega
theorem add_lst {x y : List W} (h : x.length + y.length ≤ 1000) : binW .Add (.lst x) (.lst y) = some (.lst (x ++ y)) := if_pos (szl (by omega))
/-- two places: a's number, D's dict -/
structure StD (S : Sto) (a D : Addr) (n : Int) (ks : List Key) (ws : List W) (S' : Sto) : Prop where
  ne : a ≠ D
  eq : S' = (S.set a (.lst [.int n])).set D (.dct ks ws)
section
variable {S S' : Sto} {a D : Addr} {n m : Int} {ks k2 : List Key} {ws w2 : List W}
theorem StD.sa (h : StD S a D n ks ws S') : S' a = some (.lst [.int n]) := by rw [h.eq, Sto.set_ne h.ne, Sto.set_same]
theorem StD.sD (h : StD S a D n ks ws S') : S' D = some (.dct ks ws) := by rw [h.eq, Sto.set_same]
theorem StD.seta (h : StD S a D n ks ws S') : StD S a D m ks ws (S'.set a (.lst [.int m])) := ⟨h.ne, by rw [h.eq, Sto.set_comm (Ne.symm h.ne), Sto.set_set]⟩
theorem StD.setD (h : StD S a D n ks ws S') : StD S a D n k2 w2 (S'.set D (.dct k2 w2)) := ⟨h.ne, by rw [h.eq, Sto.set_set]⟩
theorem StD.del (h : StD S a D n ks ws S') (hD : S D = none) : S'.del D = S.set a (.lst [.int n]) := by
  rw [h.eq, Sto.del_set]
  rw [Sto.set_ne (Ne.symm h.ne)]; exact hD
theorem StD.newS (hD : (S.set a (.lst [.int n])) D = none) : StD S a D n ks ws ((S.set a (.lst [.int n])).set D (.dct ks ws)) :=
  ⟨(fun e => by rw [e, Sto.set_same] at hD; cases hD), rfl⟩
theorem setW_d {i : Int} {v : W} {Q : Sto → Prop} (h : S D = some (.dct ks ws)) (hz : ks.length ≤ 1000) (q : Q (S.set D (.dct (putKW ks ws (.inl i) v).1 (putKW ks ws (.inl i) v).2))) : setW (.ref D) (.int i) v S Q := by
  unfold setW
  simp only [h]
  exact ⟨.inl i, rfl, by rw [sizeLine_eq]; omega, q⟩
end
theorem putKW_new {ks : List Key} {ws : List W} {x : Key} {v : W} (h : ∀ k ∈ ks, k ≠ x) : putKW ks ws x v = (ks ++ [x], ws ++ [v]) := by
  unfold putKW
  rw [if_neg]
  intro z
  obtain ⟨k, hk, e⟩ := List.any_eq_true.mp z
  exact h k hk (by simpa using e)
end PD

set_option Elab.async false
set_option linter.all false
set_option maxRecDepth 100000
set_option maxHeartbeats 4000000
namespace PD
open PySem PyProof.Rows

/-! ## how long a text of a term is -/
theorem textFrom_le : ∀ (ts : List Str) (k : Nat) (acc : Str), (textFrom k acc ts).length ≤ acc.length + piled ts
  | [], k, acc => by show acc.length ≤ _; omega
  | t :: r, k, acc => by
    have h := textFrom_le r (k + 1) (acc ++ (if k > 0 then ", " else "" : String) ++ t)
    have e : (acc ++ (if k > 0 then ", " else "" : String) ++ t).length = acc.length + (if k > 0 then 2 else 0) + t.length := by
      rw [strLen_append, strLen_append]
      split <;> rfl
    have p : piled (t :: r) = t.length + 2 + piled r := by simp [piled]
    have q : (if k > 0 then 2 else 0) ≤ 2 := by split <;> omega
    show (textFrom (k + 1) (acc ++ (if k > 0 then ", " else "" : String) ++ t) r).length ≤ _
    rw [e] at h
    rw [p]
    omega
theorem len_list (ts : List Str) : (listText ts).length ≤ piled ts + 2 := by
  unfold listText
  rw [strLen_append]
  have h := textFrom_le ts 0 "["
  have e1 : (("[" : String) : Str).length = 1 := rfl
  have e2 : (("]" : String) : Str).length = 1 := rfl
  omega
theorem len_join (ts : List Str) : (Str.join ", " ts).length ≤ piled ts := by
  cases ts with
  | nil => exact Nat.le_refl _
  | cons t r => have := join_length_add (t :: r) (by simp); omega
theorem len_tuple (ts : List Str) : (tupleText ts).length ≤ piled ts + 3 := by
  unfold tupleText
  rw [strLen_append, strLen_append]
  have h := len_join ts
  have e1 : (("(" : String) : Str).length = 1 := rfl
  split
  · have e2 : ((",)" : String) : Str).length = 2 := rfl
    omega
  · have e2 : ((")" : String) : Str).length = 1 := rfl
    omega
theorem len_dict (ts : List Str) : (dictText ts).length ≤ piled ts + 2 := by
  unfold dictText
  rw [strLen_append, strLen_append]
  have h := len_join ts
  have e1 : (("{" : String) : Str).length = 1 := rfl
  have e2 : (("}" : String) : Str).length = 1 := rfl
  omega
theorem piled_le (B : Nat) : ∀ ts : List Str, (∀ t ∈ ts, t.length ≤ B) → piled ts ≤ ts.length * (B + 2)
  | [], _ => by simp [piled]
  | t :: r, h => by
    have ih := piled_le B r fun u hu => h u (by simp [hu])
    have h1 := h t (by simp)
    have p : piled (t :: r) = t.length + 2 + piled r := by simp [piled]
    rw [p, List.length_cons, Nat.succ_mul]
    omega
theorem piled_cons (t : Str) (r : List Str) : piled (t :: r) = t.length + 2 + piled r := by simp [piled]
theorem piled_nil : piled [] = 0 := rfl

theorem int_small : ∀ n : _root_.Fin 1000, (PyData.shown (.int (n.val : Int))).length ≤ 3 ∧ PyData.showable (.int (n.val : Int)) = true := by decide +kernel
theorem int_len {i : Int} (h0 : 0 ≤ i) (h1 : i < 1000) : (PyData.shown (.int i)).length ≤ 3 ∧ PyData.showable (.int i) = true := by
  have := int_small ⟨i.toNat, by omega⟩
  have e : ((i.toNat : Nat) : Int) = i := by omega
  simpa [e] using this
def nameOk (x : Str) : Prop := x.length ≤ 8 ∧ ∀ c ∈ x.cps.toList, c < 16 ^ 8
mutual
/-- names in order, few parts, letters below L -/
def Tm.fine (L : Int) : Tm → Prop
  | .any n => 0 ≤ n ∧ n < L
  | .of x ts => nameOk x ∧ ts.length ≤ 4 ∧ Tm.fines L ts
def Tm.fines (L : Int) : List Tm → Prop
  | [] => True
  | t :: ts => Tm.fine L t ∧ Tm.fines L ts
end
theorem Tm.fines_iff {L : Int} : ∀ {ts : List Tm}, Tm.fines L ts ↔ ∀ t ∈ ts, Tm.fine L t
  | [] => by simp [Tm.fines]
  | t :: ts => by simp [Tm.fines, Tm.fines_iff (ts := ts)]
mutual
theorem Tm.fine_mono {L M : Int} (h : L ≤ M) : ∀ {t : Tm}, Tm.fine L t → Tm.fine M t
  | .any n, z => by unfold Tm.fine at z ⊢; omega
  | .of x ts, z => by unfold Tm.fine at z ⊢; exact ⟨z.1, z.2.1, Tm.fines_mono h z.2.2⟩
theorem Tm.fines_mono {L M : Int} (h : L ≤ M) : ∀ {ts : List Tm}, Tm.fines L ts → Tm.fines M ts
  | [], z => True.intro
  | t :: ts, z => by unfold Tm.fines at z ⊢; exact ⟨Tm.fine_mono h z.1, Tm.fines_mono h z.2⟩
end
theorem name_len {x : Str} (h : nameOk x) : (PyData.shown (.str x)).length ≤ 82 := by
  have := PySem.StrLaws.reprText_len x h.2
  have h1 := h.1
  show (reprText x).length ≤ 82
  omega
theorem Tm.h_pos : ∀ t : Tm, 1 ≤ t.h
  | .any _ => Nat.le_refl _
  | .of _ ts => by unfold Tm.h; omega
mutual
theorem Tm.len {L : Int} (hL : L ≤ 1000) : ∀ (t : Tm) (n : Nat), t.fine L → t.h ≤ n → (PyData.shown t.dat).length ≤ 200 * 5 ^ n ∧ t.dat.showable = true
  | .any i, n, hf, hn => by
    unfold Tm.fine at hf
    obtain ⟨h1, h2⟩ := int_len hf.1 (by omega)
    have e1 : (PyData.shown (.str ("any" : Str))).length = 5 := by decide +kernel
    refine ⟨?_, ?_⟩
    · have := len_tuple [PyData.shown (.str ("any" : Str)), PyData.shown (.int i)]
      rw [piled_cons, piled_cons, piled_nil] at this
      have hp : 1 ≤ 5 ^ n := Nat.pow_pos (by omega)
      show (tupleText [PyData.shown (.str ("any" : Str)), PyData.shown (.int i)]).length ≤ _
      omega
    · show (PyData.showable (.str ("any" : Str)) && (PyData.showable (.int i) && true)) = true
      rw [h2]; rfl
  | .of x ts, 0, hf, hn => by unfold Tm.h at hn; omega
  | .of x ts, n + 1, hf, hn => by
    unfold Tm.fine at hf
    unfold Tm.h at hn
    obtain ⟨i1, i2, i3⟩ := Tm.lens hL ts n hf.2.2 (by omega)
    have h1 := name_len hf.1
    have e1 : (PyData.shown (.str ("of" : Str))).length = 4 := by decide +kernel
    have hl := hf.2.1
    refine ⟨?_, ?_⟩
    · have z := len_tuple [PyData.shown (.str ("of" : Str)), PyData.shown (.str x), tupleText (PyData.shownAll (Tm.dats ts))]
      rw [piled_cons, piled_cons, piled_cons, piled_nil] at z
      have z2 := len_tuple (PyData.shownAll (Tm.dats ts))
      have z3 := piled_le _ _ i1
      rw [i2] at z3
      have hp : 1 ≤ 5 ^ n := Nat.pow_pos (by omega)
      have e5 : 5 ^ (n + 1) = 5 * 5 ^ n := by rw [Nat.pow_succ]; omega
      have z4 : ts.length * (200 * 5 ^ n + 2) ≤ 4 * (200 * 5 ^ n + 2) := Nat.mul_le_mul_right _ hl
      show (tupleText [PyData.shown (.str ("of" : Str)), PyData.shown (.str x), tupleText (PyData.shownAll (Tm.dats ts))]).length ≤ _
      rw [e5]
      omega
    · show (PyData.showable (.str ("of" : Str)) && (PyData.showable (.str x) && (PyData.showableAll (Tm.dats ts) && true))) = true
      rw [i3]; rfl
theorem Tm.lens {L : Int} (hL : L ≤ 1000) : ∀ (ts : List Tm) (n : Nat), Tm.fines L ts → Tm.hs ts ≤ n → (∀ u ∈ PyData.shownAll (Tm.dats ts), u.length ≤ 200 * 5 ^ n) ∧ (PyData.shownAll (Tm.dats ts)).length = ts.length ∧ PyData.showableAll (Tm.dats ts) = true
  | [], n, _, _ => ⟨(fun u hu => nomatch hu), rfl, rfl⟩
  | t :: ts, n, hf, hn => by
    unfold Tm.fines at hf
    unfold Tm.hs at hn
    obtain ⟨h1, h2⟩ := Tm.len hL t n hf.1 (by omega)
    obtain ⟨i1, i2, i3⟩ := Tm.lens hL ts n hf.2 (by omega)
    refine ⟨fun u hu => ?_, ?_, ?_⟩
    · have hu' : u = PyData.shown t.dat ∨ u ∈ PyData.shownAll (Tm.dats ts) := by
        have : u ∈ PyData.shown t.dat :: PyData.shownAll (Tm.dats ts) := hu
        simpa using this
      rcases hu' with rfl | hu'
      · exact h1
      · exact i1 u hu'
    · show (PyData.shown t.dat :: PyData.shownAll (Tm.dats ts)).length = _
      rw [List.length_cons, List.length_cons, i2]
    · show (t.dat.showable && PyData.showableAll (Tm.dats ts)) = true
      rw [h2, i3]; rfl
end
end PD

set_option Elab.async false
set_option linter.all false
set_option maxRecDepth 100000
set_option maxHeartbeats 4000000
namespace PD
open PySem
open L2 (atI)

/-! ## things of any kind: data without dicts, short texts -/
mutual
def W.fit : W → Bool
  | .non => true
  | .bl _ => true
  | .int _ => true
  | .str x => decide (x.length ≤ 1000)
  | .tup xs => decide (xs.length ≤ 1000) && W.fits xs
  | .lst xs => decide (xs.length ≤ 1000) && W.fits xs
  | .dct ks ws => ks.isEmpty && ws.isEmpty
  | .ref _ => false
  | .exc _ _ _ => false
def W.fits : List W → Bool
  | [] => true
  | x :: xs => W.fit x && W.fits xs
end
mutual
def W.deep : W → Nat
  | .tup xs => W.deeps xs + 1
  | .lst xs => W.deeps xs + 1
  | .dct _ _ => 1
  | _ => 0
def W.deeps : List W → Nat
  | [] => 0
  | x :: xs => max (W.deep x) (W.deeps xs)
end
mutual
def W.dt : W → PyData
  | .non => .none
  | .bl b => .bool b
  | .int i => .int i
  | .str x => .str x
  | .tup xs => .tuple (W.dts xs)
  | .lst xs => .list (W.dts xs)
  | .dct _ _ => .dict []
  | _ => .none
def W.dts : List W → List PyData
  | [] => []
  | x :: xs => W.dt x :: W.dts xs
end
mutual
theorem W.fit_d : ∀ w : W, w.fit = true → True ∧ w.dd = some w.dt ∧ w.dt.depth = w.deep
  | .non, _ => ⟨.intro, rfl, rfl⟩
  | .bl _, _ => ⟨.intro, rfl, rfl⟩
  | .int _, _ => ⟨.intro, rfl, rfl⟩
  | .str _, _ => ⟨.intro, rfl, rfl⟩
  | .tup xs, h => by
    have h' : (decide (xs.length ≤ 1000) && W.fits xs) = true := h
    obtain ⟨b, d⟩ := W.fits_d xs (ba2 h').2
    refine ⟨.intro, ?_, ?_⟩
    · show (W.dds xs).map PyData.tuple = _; rw [b]; rfl
    · show PyData.depthAll (W.dts xs) + 1 = W.deeps xs + 1; rw [d]
  | .lst xs, h => by
    have h' : (decide (xs.length ≤ 1000) && W.fits xs) = true := h
    obtain ⟨b, d⟩ := W.fits_d xs (ba2 h').2
    refine ⟨.intro, ?_, ?_⟩
    · show (W.dds xs).map PyData.list = _; rw [b]; rfl
    · show PyData.depthAll (W.dts xs) + 1 = W.deeps xs + 1; rw [d]
  | .dct ks ws, h => by
    have h' : (ks.isEmpty && ws.isEmpty) = true := h
    obtain ⟨h1, h2⟩ := ba2 h'
    cases ks with
    | cons => cases h1
    | nil =>
      cases ws with
      | cons => cases h2
      | nil => exact ⟨.intro, rfl, rfl⟩
  | .ref _, h => nomatch h
  | .exc _ _ _, h => nomatch h
theorem W.fits_d : ∀ ws : List W, W.fits ws = true → W.dds ws = some (W.dts ws) ∧ PyData.depthAll (W.dts ws) = W.deeps ws
  | [], _ => ⟨rfl, rfl⟩
  | w :: ws, h => by
    have h' : (W.fit w && W.fits ws) = true := h
    obtain ⟨h1, h2⟩ := ba2 h'
    obtain ⟨_, b, d⟩ := W.fit_d w h1
    obtain ⟨b', d'⟩ := W.fits_d ws h2
    refine ⟨?_, ?_⟩
    · show ((W.dd w).bind fun x => (W.dds ws).map fun r => x :: r) = _; rw [b, b']; rfl
    · show max (PyData.depth (W.dt w)) (PyData.depthAll (W.dts ws)) = max (W.deep w) (W.deeps ws); rw [d, d']
end
theorem fits_iff : ∀ {ws : List W}, W.fits ws = true ↔ ∀ w ∈ ws, w.fit = true
  | [] => by simp [W.fits]
  | w :: ws => by simp [W.fits, fits_iff (ws := ws)]
theorem deeps_mem : ∀ {ws : List W} {w : W}, w ∈ ws → w.deep ≤ W.deeps ws
  | u :: ws, w, h => by
    show w.deep ≤ max u.deep (W.deeps ws)
    rcases List.mem_cons.mp h with z | z
    · subst z; omega
    · have := deeps_mem z; omega
theorem deeps_le {n : Nat} : ∀ {ws : List W}, (∀ w ∈ ws, w.deep ≤ n) → W.deeps ws ≤ n
  | [], _ => Nat.zero_le _
  | u :: ws, h => by
    show max u.deep (W.deeps ws) ≤ n
    have h1 := h u (by simp)
    have h2 := deeps_le (ws := ws) fun w hw => h w (by simp [hw])
    omega
theorem fit_tup {xs : List W} (hl : xs.length ≤ 1000) (h : ∀ w ∈ xs, w.fit = true) : (W.tup xs).fit = true := by
  show (decide (xs.length ≤ 1000) && W.fits xs) = true
  rw [decide_eq_true hl, fits_iff.mpr h]; rfl
theorem fit_lst {xs : List W} (hl : xs.length ≤ 1000) (h : ∀ w ∈ xs, w.fit = true) : (W.lst xs).fit = true := fit_tup hl h
/-- signs beside the empty row -/
theorem ds_strs : ∀ us : List Str, W.ds (us.map W.str) = some (us.map PyData.str) ∧ PyData.plainAll (us.map PyData.str) = true ∧ PyData.depthAll (us.map PyData.str) = 0
  | [] => ⟨rfl, rfl, rfl⟩
  | u :: us => by
    obtain ⟨a, b, c⟩ := ds_strs us
    refine ⟨?_, ?_, ?_⟩
    · show ((some (PyData.str u)).bind fun x => (W.ds (us.map W.str)).map fun r => x :: r) = _; rw [a]; rfl
    · exact b
    · show max 0 (PyData.depthAll (us.map PyData.str)) = 0; rw [c]; rfl
theorem eqW_strs {us : List Str} : eqW (.lst (us.map W.str)) (.lst []) = some us.isEmpty := by
  obtain ⟨a, b, c⟩ := ds_strs us
  have h1 : (W.lst (us.map W.str)).d = some (.list (us.map PyData.str)) := by
    show (W.ds (us.map W.str)).map PyData.list = _; rw [a]; rfl
  have h2 : okD (.list (us.map PyData.str)) = true := by
    have e : okD (.list (us.map PyData.str)) = (PyData.plainAll (us.map PyData.str) && decide (PyData.depthAll (us.map PyData.str) + 1 ≤ 60)) := rfl
    rw [e, b, c]; rfl
  rw [eqW_of h1 (b := .lst []) (y := .list []) rfl h2 (by decide)]
  cases us <;> rfl
mutual
theorem Tm.w_fit {L : Int} : ∀ t : Tm, t.fine L → t.w.fit = true
  | .any n, _ => rfl
  | .of x ts, h => by
    unfold Tm.fine at h
    have h1 := Tm.ws_fit ts h.2.2
    have h2 : (Tm.ws ts).length ≤ 1000 := by rw [Tm.ws_eq, List.length_map]; have := h.2.1; omega
    have h3 := h.1.1
    have h4 : x.length ≤ 1000 := by omega
    have e : (("of" : String) : Str).length ≤ 1000 := by decide +kernel
    simp [Tm.w, W.fit, W.fits, h1, h2, h4, e]
theorem Tm.ws_fit {L : Int} : ∀ ts : List Tm, Tm.fines L ts → W.fits (Tm.ws ts) = true
  | [], _ => rfl
  | t :: ts, h => by
    unfold Tm.fines at h
    show (W.fit t.w && W.fits (Tm.ws ts)) = true
    rw [Tm.w_fit t h.1, Tm.ws_fit ts h.2]; rfl
end
theorem un_not {b : Bool} : unW .Not (.bl b) = some (.bl (!b)) := rfl
theorem cmp_in {a b : W} : cmpW .In a b = inW a b := rfl
theorem in_str {c : Nat} {z : Str} : inW (.str ⟨#[c]⟩) (.str z) = some (decide (c ∈ z.cps.toList)) := rfl
theorem len_str {z : Str} (h : z.length ≤ 1000) : lenW (.str z) = some (.int z.length) := if_pos (szl (by omega))
theorem len_tup {xs : List W} : lenW (.tup xs) = some (.int xs.length) := rfl
theorem items_str {x : Str} : itemsW (.str x) = some (signs x) := rfl
theorem bools_map {α : Type} (f : α → Bool) : ∀ us : List α, boolsW (us.map fun u => W.bl (f u)) = some (us.map f)
  | [] => rfl
  | u :: us => by
    show (boolsW (us.map fun u => W.bl (f u))).map (f u :: ·) = _
    rw [bools_map f us]; rfl
end PD

set_option Elab.async false
set_option linter.all false
set_option maxRecDepth 100000
set_option maxHeartbeats 4000000
namespace PD
open PySem PyProof.Rows
open L2 (atI)

/-! ## things whose text is short -/
structure okT (D B : Nat) (w : W) : Prop where
  fit : w.fit = true
  deep : w.deep ≤ D
  sh : w.dt.showable = true
  len : w.dt.shown.length ≤ B
theorem okT.mono {D D' B B' : Nat} {w : W} (h : okT D B w) (h1 : D ≤ D') (h2 : B ≤ B') : okT D' B' w := ⟨h.fit, Nat.le_trans h.deep h1, h.sh, Nat.le_trans h.len h2⟩
theorem shown_dts {B : Nat} : ∀ {xs : List W}, (∀ x ∈ xs, x.dt.showable = true ∧ x.dt.shown.length ≤ B) → PyData.showableAll (W.dts xs) = true ∧ (∀ u ∈ PyData.shownAll (W.dts xs), u.length ≤ B) ∧ (PyData.shownAll (W.dts xs)).length = xs.length
  | [], _ => ⟨rfl, (fun u hu => nomatch hu), rfl⟩
  | x :: xs, h => by
    obtain ⟨i1, i2, i3⟩ := shown_dts (xs := xs) fun y hy => h y (by simp [hy])
    obtain ⟨h1, h2⟩ := h x (by simp)
    refine ⟨?_, fun u hu => ?_, ?_⟩
    · show (x.dt.showable && PyData.showableAll (W.dts xs)) = true
      rw [h1, i1]; rfl
    · have hu' : u ∈ PyData.shown x.dt :: PyData.shownAll (W.dts xs) := hu
      rcases List.mem_cons.mp hu' with rfl | z
      · exact h2
      · exact i2 u z
    · show (PyData.shown x.dt :: PyData.shownAll (W.dts xs)).length = _
      rw [List.length_cons, List.length_cons, i3]
theorem okT_tup {D B : Nat} {xs : List W} (hl : xs.length ≤ 1000) (h : ∀ x ∈ xs, okT D B x) : okT (D + 1) (xs.length * (B + 2) + 3) (.tup xs) := by
  obtain ⟨a, b, c⟩ := shown_dts fun x hx => ⟨(h x hx).sh, (h x hx).len⟩
  refine ⟨fit_tup hl fun x hx => (h x hx).fit, ?_, a, ?_⟩
  · show W.deeps xs + 1 ≤ D + 1
    have := deeps_le fun x hx => (h x hx).deep
    omega
  · show (tupleText (PyData.shownAll (W.dts xs))).length ≤ _
    have z := len_tuple (PyData.shownAll (W.dts xs))
    have z2 := piled_le _ _ b
    rw [c] at z2
    omega
theorem okT_lst {D B : Nat} {xs : List W} (hl : xs.length ≤ 1000) (h : ∀ x ∈ xs, okT D B x) : okT (D + 1) (xs.length * (B + 2) + 3) (.lst xs) := by
  obtain ⟨a, b, c⟩ := shown_dts fun x hx => ⟨(h x hx).sh, (h x hx).len⟩
  refine ⟨fit_lst hl fun x hx => (h x hx).fit, ?_, a, ?_⟩
  · show W.deeps xs + 1 ≤ D + 1
    have := deeps_le fun x hx => (h x hx).deep
    omega
  · show (listText (PyData.shownAll (W.dts xs))).length ≤ _
    have z := len_list (PyData.shownAll (W.dts xs))
    have z2 := piled_le _ _ b
    rw [c] at z2
    omega
theorem okT_tup3 {D B1 B2 B3 : Nat} {a b c : W} (h1 : okT D B1 a) (h2 : okT D B2 b) (h3 : okT D B3 c) : okT (D + 1) (B1 + B2 + B3 + 9) (.tup [a, b, c]) := by
  refine ⟨fit_tup (by simp) fun y hy => ?_, ?_, ?_, ?_⟩
  · simp only [List.mem_cons, List.not_mem_nil, or_false] at hy
    rcases hy with rfl | rfl | rfl
    · exact h1.fit
    · exact h2.fit
    · exact h3.fit
  · show W.deeps [a, b, c] + 1 ≤ D + 1
    have := deeps_le (n := D) (ws := [a, b, c]) fun y hy => by
      simp only [List.mem_cons, List.not_mem_nil, or_false] at hy
      rcases hy with rfl | rfl | rfl
      · exact h1.deep
      · exact h2.deep
      · exact h3.deep
    omega
  · show (a.dt.showable && (b.dt.showable && (c.dt.showable && true))) = true
    rw [h1.sh, h2.sh, h3.sh]; rfl
  · show (tupleText [a.dt.shown, b.dt.shown, c.dt.shown]).length ≤ _
    have z := len_tuple [a.dt.shown, b.dt.shown, c.dt.shown]
    rw [piled_cons, piled_cons, piled_cons, piled_nil] at z
    have z1 := h1.len
    have z2 := h2.len
    have z3 := h3.len
    omega
theorem okT_str {x : Str} (h : nameOk x) : okT 0 82 (.str x) := ⟨by show decide (x.length ≤ 1000) = true; exact decide_eq_true (by have := h.1; omega), Nat.le_refl _, rfl, name_len h⟩
theorem Tm.dt_eq {L : Int} {t : Tm} (h : t.fine L) : t.w.dt = t.dat := by
  have h1 := (W.fit_d t.w (Tm.w_fit t h)).2.1
  rw [Tm.w_dd] at h1
  exact (Option.some.inj h1).symm
theorem Tm.okT {L : Int} (hL : L ≤ 1000) {t : Tm} {n : Nat} (h : t.fine L) (hn : t.h ≤ n) : okT (2 * n + 1) (200 * 5 ^ n) t.w := by
  obtain ⟨a, b⟩ := Tm.len hL t n h hn
  refine ⟨Tm.w_fit t h, ?_, ?_, ?_⟩
  · have := (W.fit_d t.w (Tm.w_fit t h)).2.2
    rw [Tm.dt_eq h] at this
    have z := Tm.depth t
    omega
  · rw [Tm.dt_eq h]; exact b
  · rw [Tm.dt_eq h]; exact a
/-- its text is kept -/
theorem okT.repr {D B : Nat} {w : W} {S : Sto} {Q : QW} (h : okT D B w) (hD : D ≤ 100) (hB : B ≤ 16777216) (q : Q (.str w.dt.shown) S) : biW .repr [w] S Q :=
  ⟨w.dt, (W.fit_d w h.fit).2.1, h.sh, szl (Nat.le_trans h.len hB), by rw [(W.fit_d w h.fit).2.2]; exact Nat.le_trans h.deep hD, q⟩
theorem add_tup {x y : List W} (h : x.length + y.length ≤ 1000) : binW .Add (.tup x) (.tup y) = some (.tup (x ++ y)) := if_pos (szl (by omega))
theorem slc_tup {xs : List W} {lo hi : Option Int} : slcW (.tup xs) lo hi = some (.tup (cutW xs lo hi)) := rfl
theorem cut_take {xs : List W} {k : Nat} : cutW xs none (some (k : Int)) = xs.take k := by
  unfold cutW
  rw [HT.sIx_none, HT.sIx_nat, List.drop_zero, Nat.sub_zero]
  by_cases h : k ≤ xs.length
  · rw [Nat.min_eq_left h]
  · rw [Nat.min_eq_right (by omega), List.take_of_length_le (Nat.le_refl _), List.take_of_length_le (by omega)]
theorem cut_drop {xs : List W} {k : Nat} : cutW xs (some (k : Int)) none = xs.drop k := by
  unfold cutW
  rw [HT.sIx_none, HT.sIx_nat]
  by_cases h : k ≤ xs.length
  · rw [Nat.min_eq_left h, List.take_of_length_le (by rw [List.length_drop]; omega)]
  · rw [Nat.min_eq_right (by omega), List.drop_of_length_le (Nat.le_refl _), List.drop_of_length_le (by omega), List.take_nil]
theorem mul_tup {x : List W} {j : Int} (h : 2 ≤ j ∧ j ≤ 1000) (hx : x.length ≤ 1000) (hn : x ≠ []) : binW .Mult (.tup x) (.int j) = some (.tup (List.replicate j.toNat x).flatten) := by
  show (if j = 1 then _ else if _ then _ else _) = _
  rw [if_neg (by omega), if_pos ⟨h.1, h.2, hx, hn⟩]
theorem mul_tup1 {x : List W} : binW .Mult (.tup x) (.int 1) = some (.tup x) := by
  unfold binW
  rfl
theorem enum_mem {xs : List W} {x : W} (h : x ∈ enumW xs) : ∃ (i : Nat) (y : W), x = .tup [.int (i : Int), y] ∧ xs[i]? = some y := by
  unfold enumW at h
  obtain ⟨p, hp, rfl⟩ := List.mem_map.mp h
  obtain ⟨y, i⟩ := p
  exact ⟨i, y, rfl, List.mem_zipIdx_iff_getElem?.mp hp⟩
theorem enum_len {xs : List W} : (enumW xs).length = xs.length := by
  unfold enumW
  rw [List.length_map, List.length_zipIdx]
/-- the row kept at a place: what follows it -/
theorem Tm.ws_get {ts : List Tm} {i : Nat} {y : W} (h : (Tm.ws ts)[i]? = some y) : ∃ u, ts[i]? = some u ∧ y = u.w := by
  rw [Tm.ws_eq, List.getElem?_map] at h
  cases q : ts[i]? with
  | none => rw [q] at h; cases h
  | some u => rw [q] at h; cases h; exact ⟨u, rfl, rfl⟩
theorem Tm.hs_mem : ∀ {ts : List Tm} {u : Tm}, u ∈ ts → u.h ≤ Tm.hs ts
  | t :: ts, u, h => by
    show u.h ≤ max t.h (Tm.hs ts)
    rcases List.mem_cons.mp h with z | z
    · subst z; omega
    · have := Tm.hs_mem z; omega
/-- fits, not deep -/
def fitD (n : Nat) (w : W) : Prop := w.fit = true ∧ w.deep ≤ n
theorem fitD_tup {n : Nat} {xs : List W} (hl : xs.length ≤ 1000) (h : ∀ x ∈ xs, fitD n x) : fitD (n + 1) (.tup xs) := by
  refine ⟨fit_tup hl fun x hx => (h x hx).1, ?_⟩
  show W.deeps xs + 1 ≤ n + 1
  have := deeps_le fun x hx => (h x hx).2
  omega
theorem fitD.mono {n m : Nat} {w : W} (h : fitD n w) (hm : n ≤ m) : fitD m w := ⟨h.1, Nat.le_trans h.2 hm⟩
theorem ex_or2 {xs : List W} {P : List W → Prop} : (∃ ys, (W.tup xs = .lst ys ∨ W.tup xs = .tup ys) ∧ P ys) ↔ P xs :=
  ⟨fun ⟨ys, e, h⟩ => by rcases e with e | e <;> cases e; exact h, fun h => ⟨xs, .inr rfl, h⟩⟩
theorem un_usub {i : Int} : unW .USub (.int i) = some (.int (-i)) := rfl
theorem ne_str {x : Str} : cmpW .NotEq (.str x) (.str x) = some false := by
  rw [cmp_ne, eqW_str]; simp
theorem ne_bl {x y : Bool} : cmpW .NotEq (.bl x) (.bl y) = some (!(x == y)) := rfl
end PD

set_option Elab.async false
set_option linter.all false
set_option maxRecDepth 100000
set_option maxHeartbeats 4000000
namespace PD
open PySem PyProof.Rows
open L2 (atI)

/-! ## what is told of itself -/
def nrB : W → Bool
  | .ref _ => false
  | _ => true
theorem rd_nr {S : Sto} {w : W} (h : nrB w = true) : rd S w = w := by
  cases w <;> first | rfl | cases h
def binS : Operator → W → W → Option W
  | .Add, .lst x, .lst y => if x.length + y.length ≤ 1000 then some (.lst (x ++ y)) else none
  | .Add, .tup x, .tup y => if x.length + y.length ≤ 1000 then some (.tup (x ++ y)) else none
  | .Add, .str _, .str _ => none
  | op, x, y => binW op x y
theorem binS_ok {op : Operator} {x y r : W} (h : binS op x y = some r) : binW op x y = some r := by
  unfold binS at h
  split at h
  · split at h
    · rename_i hl; cases h; exact add_lst hl
    · cases h
  · split at h
    · rename_i hl; cases h; exact add_tup hl
    · cases h
  · cases h
  · exact h
mutual
def evE (σ : Sl) : E → Option W
  | .loc i => match σ[i]? with
    | some (some w) => some w
    | _ => none
  | .lit l => some l.w
  | .tup es => (evEs σ es).bind fun ws => if ws.length ≤ 1000 then some (.tup ws) else none
  | .lst false es => (evEs σ es).bind fun ws => if ws.length ≤ 1000 then some (.lst ws) else none
  | .dct false .nil => some (.dct [] [])
  | .un op a => (evE σ a).bind fun x => unW op x
  | .bin op a b => (evE σ a).bind fun x => (evE σ b).bind fun y => if nrB x && nrB y then binS op x y else none
  | _ => none
def evEs (σ : Sl) : Es → Option (List W)
  | .nil => some []
  | .cons e es => (evE σ e).bind fun w => (evEs σ es).bind fun ws => some (w :: ws)
end
section
variable {C : Cn} {σ : Sl} {S : Sto} {X : QW}
mutual
theorem evE_ok : ∀ {e : E} {w : W} {Q : QW}, evE σ e = some w → Q w S → wE C e σ S Q X
  | .loc i, w, Q, h, q => by
    unfold evE at h
    split at h
    · rename_i w' e; cases h; exact ⟨_, e, q⟩
    · cases h
  | .lit l, w, Q, h, q => by
    unfold evE at h; cases h; exact q
  | .tup es, w, Q, h, q => by
    unfold evE at h
    cases e : evEs σ es with
    | none => rw [e] at h; cases h
    | some ws =>
      rw [e] at h
      have h' : (if ws.length ≤ 1000 then some (W.tup ws) else none) = some w := h
      split at h'
      · rename_i hl; cases h'
        exact evEs_ok e ⟨szl (by omega), q⟩
      · cases h'
  | .lst false es, w, Q, h, q => by
    unfold evE at h
    cases e : evEs σ es with
    | none => rw [e] at h; cases h
    | some ws =>
      rw [e] at h
      have h' : (if ws.length ≤ 1000 then some (W.lst ws) else none) = some w := h
      split at h'
      · rename_i hl; cases h'
        exact evEs_ok e ⟨szl (by omega), q⟩
      · cases h'
  | .dct false .nil, w, Q, h, q => by
    unfold evE at h; cases h
    intro p hp
    refine ⟨Sto.set_same, [], rfl, by decide, ?_⟩
    have : (S.set p (.dct [] [])).del p = S := Sto.del_set hp
    show Q (.dct [] []) ((S.set p (.dct [] [])).del p)
    rw [this]; exact q
  | .un op a, w, Q, h, q => by
    unfold evE at h
    cases e : evE σ a with
    | none => rw [e] at h; cases h
    | some x => rw [e] at h; exact evE_ok (e := a) e ⟨_, h, q⟩
  | .bin op a b, w, Q, h, q => by
    unfold evE at h
    cases e : evE σ a with
    | none => rw [e] at h; cases h
    | some x =>
      cases e2 : evE σ b with
      | none => rw [e, e2] at h; cases h
      | some y =>
        rw [e, e2] at h
        have h' : (if nrB x && nrB y then binS op x y else none) = some w := h
        split at h'
        · rename_i hn
          obtain ⟨n1, n2⟩ := ba2 hn
          exact evE_ok (e := a) e (evE_ok (e := b) e2 ⟨_, by rw [rd_nr n1, rd_nr n2]; exact binS_ok h', q⟩)
        · cases h'
  | .glob _, _, _, h, _ => by unfold evE at h; cases h
  | .lst true _, _, _, h, _ => by unfold evE at h; cases h
  | .dct true _, _, _, h, _ => by unfold evE at h; cases h
  | .dct false (.cons _ _), _, _, h, _ => by unfold evE at h; cases h
  | .and2 _ _, _, _, h, _ => by unfold evE at h; cases h
  | .or2 _ _, _, _, h, _ => by unfold evE at h; cases h
  | .cmp _ _ _, _, _, h, _ => by unfold evE at h; cases h
  | .cmp3 _ _ _ _ _, _, _, h, _ => by unfold evE at h; cases h
  | .ifx _ _ _, _, _, h, _ => by unfold evE at h; cases h
  | .ix _ _, _, _, h, _ => by unfold evE at h; cases h
  | .slc _ _ _, _, _, h, _ => by unfold evE at h; cases h
  | .call _ _, _, _, h, _ => by unfold evE at h; cases h
  | .bi _ _, _, _, h, _ => by unfold evE at h; cases h
  | .meth _ _ _, _, _, h, _ => by unfold evE at h; cases h
  | .comp _ _ _ _ _ _, _, _, h, _ => by unfold evE at h; cases h
  | .cat _ _, _, _, h, _ => by unfold evE at h; cases h
  | .isa _ _, _, _, h, _ => by unfold evE at h; cases h
  | .frz _, _, _, h, _ => by unfold evE at h; cases h
theorem evEs_ok : ∀ {es : Es} {ws : List W} {Q : List W → Sto → Prop}, evEs σ es = some ws → Q ws S → wEs C es σ S Q X
  | .nil, ws, Q, h, q => by unfold evEs at h; cases h; exact q
  | .cons e es, ws, Q, h, q => by
    unfold evEs at h
    cases e1 : evE σ e with
    | none => rw [e1] at h; cases h
    | some x =>
      cases e2 : evEs σ es with
      | none => rw [e1, e2] at h; cases h
      | some r =>
        rw [e1, e2] at h
        cases h
        exact evE_ok (e := e) e1 (evEs_ok (es := es) e2 q)
end
end
section
variable {C : Cn} {σ : Sl} {S : Sto} {D : En} {r : Sts}
theorem st_setE {i : Nat} {e : E} {w : W} (h : evE σ e = some w) (hi : Nat.blt i σ.length = true) (q : wSs C r D (σ.set i (some w)) S) : wSs C (.cons (.set (.name i) e) r) D σ S := by
  simp only [wSs, wS, Tg.go]
  exact evE_ok h ⟨Nat.blt_eq.mp hi, q⟩
theorem st_setL {i : Nat} {es : Es} {ws : List W} (h : evEs σ es = some ws) (hl : Nat.ble ws.length 1000 = true) (hi : Nat.blt i σ.length = true) (q : ∀ p, S p = none → wSs C r D (σ.set i (some (.ref p))) (S.set p (.lst ws))) :
    wSs C (.cons (.set (.name i) (.lst true es)) r) D σ S := by
  simp only [wSs, wS, wE, Tg.go, if_true]
  have := Nat.le_of_ble_eq_true hl
  exact evEs_ok h ⟨szl (by omega), fun p hp => ⟨Nat.blt_eq.mp hi, q p hp⟩⟩
theorem st_cat {i j : Nat} {e : E} {xs ys : List W} (hj : σ[j]? = some (some (.lst xs))) (h : evE σ e = some (.lst ys)) (hl : Nat.ble (xs.length + ys.length) 1000 = true) (hi : Nat.blt i σ.length = true)
    (q : ∀ p, S p = none → wSs C r D (σ.set i (some (.ref p))) (S.set p (.lst (xs ++ ys)))) : wSs C (.cons (.set (.name i) (.cat (.loc j) e)) r) D σ S := by
  simp only [wSs, wS, wE, Tg.go]
  have := Nat.le_of_ble_eq_true hl
  exact ⟨_, hj, evE_ok h ⟨xs, ys, rfl, rfl, szl (by omega), fun p hp => ⟨Nat.blt_eq.mp hi, q p hp⟩⟩⟩
theorem st_app {j : Nat} {e : E} {p : Addr} {xs : List W} {w : W} (hj : σ[j]? = some (some (.ref p))) (hp : S p = some (.lst xs)) (h : evE σ e = some w) (hl : Nat.ble xs.length 1000 = true) (q : wSs C r D σ (S.set p (.lst (xs ++ [w])))) :
    wSs C (.cons (.expr (.meth .append (.loc j) (.cons e .nil))) r) D σ S := by
  simp only [wSs, wS, wE, wEs]
  exact ⟨_, hj, by rw [rd_r hp]; rfl, evE_ok h ⟨xs, hp, Nat.lt_of_lt_of_le (Nat.lt_succ_of_le (Nat.le_of_ble_eq_true hl)) (szl (by omega)), q⟩⟩
theorem st_fz {i : Nat} {p : Addr} {xs : List W} (hi : σ[i]? = some (some (.ref p))) (hl : Nat.blt i σ.length = true) (hp : S p = some (.lst xs)) (q : wSs C r D (σ.set i (some (.lst xs))) (S.del p)) : wSs C (.fz i r) D σ S := by
  simp only [wSs]
  exact ⟨p, hi, Nat.blt_eq.mp hl, .inl ⟨xs, hp, q⟩⟩
theorem st_forE {t : Tg} {e : E} {b : Sts} {w : W} {xs : List W} (h : evE σ e = some w) (hw : itemsW w = some xs)
    (q : loopF (fun D' x σ' S' => t.go x σ' fun σ2 => wSs C b D' σ2 S') { D with nx := fun σ' S' => wSs C r D σ' S' } xs σ S) : wSs C (.cons (.forr t (.ex e) b) r) D σ S := by
  simp only [wSs, wS, wI]
  exact evE_ok h ⟨xs, hw, q⟩
theorem st_forR {t : Tg} {e : E} {b : Sts} {j : Int} (h : evE σ e = some (.int j)) (h0 : -(2 ^ 62) ≤ j) (h1 : j < 2 ^ 62)
    (q : loopF (fun D' x σ' S' => t.go x σ' fun σ2 => wSs C b D' σ2 S') { D with nx := fun σ' S' => wSs C r D σ' S' } (rgW 0 j.toNat) σ S) : wSs C (.cons (.forr t (.rng1 e) b) r) D σ S := by
  simp only [wSs, wS, wI]
  exact evE_ok h ⟨j, rfl, h0, h1, q⟩
theorem go_name {i : Nat} {w : W} {Q : Sl → Prop} (h : Nat.blt i σ.length = true) (q : Q (σ.set i (some w))) : Tg.go (.name i) w σ Q := ⟨Nat.blt_eq.mp h, q⟩
theorem st_ret {e : E} {w : W} (h : evE σ e = some w) (q : D.rt w S) : wSs C (.cons (.ret e) r) D σ S := by
  simp only [wSs, wS]
  exact evE_ok h q
end
end PD

set_option Elab.async false
set_option linter.all false
set_option maxRecDepth 100000
set_option maxHeartbeats 4000000
namespace K01
open PySem PySem.Spec PyProof.Rows L2 PD

/-! ### the text's defs -/
def top (i : Nat) : Stmt := PySem.Challenge.pw_nothingnew_k01_what_is_a_term.main.body.getD i (.Pass ⟨0, 0, 0, 0⟩)
def b_is_whole : Sts :=
      (.cons (.ret (.and2 (.isa .int (.loc 0)) (.un .Not (.isa .bool (.loc 0)))))
      .nil)
def f_is_whole : Fd := ⟨"is_whole", ["thing"], ["thing"], b_is_whole⟩
def d_is_whole : He.DefD := ⟨("is_whole", none), "is_whole", "is_whole", defArgs (top 7), defBody (top 7), defScope (top 7), [], []⟩
def e_is_name_1 : E :=
      (.cmp .In (.loc 1) (.glob "SMALL"))
def b_is_name : Sts :=
      (.cons (.ret (.and2 (.isa .str (.loc 0)) (.and2 (.cmp3 .LtE .LtE (.lit (.int 1)) (.bi .len (.cons (.loc 0) .nil)) (.glob "MOST_NAME")) (.bi .all (.cons (.comp false [1] (.name 1) (.ex (.loc 0)) .none e_is_name_1) .nil)))))
      .nil)
def f_is_name : Fd := ⟨"is_name", ["thing", "sign"], ["thing"], b_is_name⟩
def d_is_name : He.DefD := ⟨("is_name", none), "is_name", "is_name", defArgs (top 8), defBody (top 8), defScope (top 8), [], []⟩
def b_room_left_1 : Sts :=
      (.cons (.ret (.lit .non))
      .nil)
def b_room_left_2 : Sts :=
      (.cons (.set (.name 2) (.call "room_left" (.cons (.loc 4) (.cons (.bin .Sub (.loc 1) (.lit (.int 1))) (.cons (.loc 2) .nil)))))
      (.cons (.iff (.val (.cmp .Is (.loc 2) (.lit .non))) b_room_left_1 .nil)
      .nil))
def b_room_left_3 : Sts :=
      (.cons (.ret (.lit .non))
      .nil)
def b_room_left_4 : Sts :=
      (.cons (.ret (.lit .non))
      .nil)
def b_room_left_5 : Sts :=
      (.cons (.set (.name 3) (.and2 (.cmp .Eq (.bi .len (.cons (.loc 0) .nil)) (.lit (.int 2))) (.and2 (.call "is_whole" (.cons (.ix (.loc 0) (.lit (.int 1))) .nil)) (.cmp3 .LtE .LtE (.lit (.int 0)) (.ix (.loc 0) (.lit (.int 1))) (.glob "MOST_LETTER")))))
      (.cons (.ret (.ifx (.val (.loc 3)) (.bin .Sub (.loc 2) (.lit (.int 1))) (.lit .non)))
      .nil))
def b_room_left_6 : Sts :=
      (.cons (.ret (.lit .non))
      .nil)
def b_room_left : Sts :=
      (.cons (.iff (.or (.val (.cmp .Eq (.loc 1) (.lit (.int 0)))) (.or (.val (.cmp .Eq (.loc 2) (.lit (.int 0)))) (.or (.not (.val (.isa .tuple (.loc 0)))) (.or (.val (.cmp .Eq (.loc 0) (.tup .nil))) (.not (.val (.isa .str (.ix (.loc 0) (.lit (.int 0)))))))))) b_room_left_6 .nil)
      (.cons (.iff (.val (.cmp .Eq (.ix (.loc 0) (.lit (.int 0))) (.lit (.str "any")))) b_room_left_5 .nil)
      (.cons (.iff (.or (.val (.cmp .NotEq (.ix (.loc 0) (.lit (.int 0))) (.lit (.str "of")))) (.or (.val (.cmp .NotEq (.bi .len (.cons (.loc 0) .nil)) (.lit (.int 3)))) (.or (.not (.val (.call "is_name" (.cons (.ix (.loc 0) (.lit (.int 1))) .nil)))) (.not (.val (.isa .tuple (.ix (.loc 0) (.lit (.int 2))))))))) b_room_left_4 .nil)
      (.cons (.iff (.val (.cmp .Gt (.bi .len (.cons (.ix (.loc 0) (.lit (.int 2))) .nil)) (.glob "MOST_PARTS"))) b_room_left_3 .nil)
      (.cons (.aug 2 .Sub (.lit (.int 1)))
      (.cons (.forr (.name 4) (.ex (.ix (.loc 0) (.lit (.int 2)))) b_room_left_2)
      (.cons (.ret (.loc 2))
      .nil)))))))
def f_room_left : Fd := ⟨"room_left", ["thing", "depth", "room", "good", "part"], ["thing", "depth", "room"], b_room_left⟩
def d_room_left : He.DefD := ⟨("room_left", none), "room_left", "room_left", defArgs (top 9), defBody (top 9), defScope (top 9), [], []⟩
def b_is_term : Sts :=
      (.cons (.ret (.cmp .IsNot (.call "room_left" (.cons (.loc 0) (.cons (.glob "MOST_DEPTH") (.cons (.glob "MOST_SIZE") .nil)))) (.lit .non)))
      .nil)
def f_is_term : Fd := ⟨"is_term", ["thing"], ["thing"], b_is_term⟩
def d_is_term : He.DefD := ⟨("is_term", none), "is_term", "is_term", defArgs (top 10), defBody (top 10), defScope (top 10), [], []⟩
def b__law_left_1 : Sts :=
      (.cons (.set (.name 2) (.bin .Mod (.bin .Mult (.bin .Add (.bin .Mod (.loc 2) (.lit (.int 2147483629))) (.lit (.int 48611))) (.lit (.int 48271))) (.lit (.int 2147483629))))
      (.cons (.set (.name 2) (.bin .Add (.bin .Mod (.bin .Mult (.loc 2) (.lit (.int 39373))) (.lit (.int 2147483647))) (.loc 3)))
      (.cons (.set (.name 1) (.bin .Add (.bin .Mult (.loc 1) (.lit (.int 2147483629))) (.loc 2)))
      .nil)))
def b__law_left_2 : Sts :=
      (.cons (.set (.name 2) (.loc 0))
      (.cons (.forr (.name 3) (.rng1 (.lit (.int 60))) b__law_left_1)
      .nil))
def b__law_left : Sts :=
      (.cons (.set (.name 1) (.bi .abs (.cons (.loc 0) .nil)))
      (.cons (.iff (.val (.cmp .Lt (.loc 1) (.bin .Pow (.lit (.int 10)) (.lit (.int 18))))) b__law_left_2 .nil)
      (.cons (.ret (.lst true (.cons (.loc 1) .nil)))
      .nil)))
def f__law_left : Fd := ⟨"_law_left", ["_law_cell", "_law_left_here", "_law_drawn", "_law_turn"], ["_law_cell"], b__law_left⟩
def d__law_left : He.DefD := ⟨("_law_left", none), "_law_left", "_law_left", defArgs (top 12), defBody (top 12), defScope (top 12), [], []⟩
def b__law_digit : Sts :=
      (.cons (.set (.name 2) (.bin .Mod (.ix (.loc 0) (.lit (.int 0))) (.loc 1)))
      (.cons (.setix (.loc 0) (.lit (.int 0)) (.bin .FloorDiv (.ix (.loc 0) (.lit (.int 0))) (.loc 1)))
      (.cons (.ret (.loc 2))
      .nil)))
def f__law_digit : Fd := ⟨"_law_digit", ["_law_left_here", "_law_upto", "_law_found"], ["_law_left_here", "_law_upto"], b__law_digit⟩
def d__law_digit : He.DefD := ⟨("_law_digit", none), "_law_digit", "_law_digit", defArgs (top 13), defBody (top 13), defScope (top 13), [], []⟩
def b__law_table_1 : Sts :=
      (.cons (.set (.name 7) (.bin .Add (.ix (.loc 1) (.bin .Mod (.bin .Add (.loc 2) (.bin .Mult (.lit (.int 5)) (.loc 5))) (.lit (.int 26)))) (.bin .Mult (.ix (.loc 1) (.call "_law_digit" (.cons (.loc 0) (.cons (.lit (.int 26)) .nil)))) (.ix (.lst false (.cons (.lit (.int 0)) (.cons (.lit (.int 0)) (.cons (.lit (.int 0)) (.cons (.lit (.int 7)) .nil))))) (.call "_law_digit" (.cons (.loc 0) (.cons (.lit (.int 4)) .nil)))))))
      (.cons (.expr (.meth .append (.loc 4) (.cons (.tup (.cons (.loc 7) (.cons (.loc 6) (.cons (.ix (.lst false (.cons (.lit (.int 1)) (.cons (.lit (.int 1)) (.cons (.lit (.int 1)) (.cons (.lit (.int 2)) (.cons (.lit (.int 3)) (.cons (.lit (.int 50)) .nil))))))) (.call "_law_digit" (.cons (.loc 0) (.cons (.lit (.int 6)) .nil)))) .nil)))) .nil)))
      .nil))
def b__law_table : Sts :=
      (.cons (.set (.name 1) (.lit (.str "abcdefghijklmnopqrstuvwxyz")))
      (.cons (.set (.name 2) (.call "_law_digit" (.cons (.loc 0) (.cons (.lit (.int 26)) .nil))))
      (.cons (.set (.name 3) (.ix (.lst false (.cons (.lst false (.cons (.lit (.int 0)) (.cons (.lit (.int 0)) (.cons (.lit (.int 1)) (.cons (.lit (.int 2)) .nil))))) (.cons (.lst false (.cons (.lit (.int 0)) (.cons (.lit (.int 1)) (.cons (.lit (.int 2)) .nil)))) (.cons (.lst false (.cons (.lit (.int 0)) (.cons (.lit (.int 0)) (.cons (.lit (.int 0)) (.cons (.lit (.int 1)) .nil))))) (.cons (.lst false (.cons (.lit (.int 0)) (.cons (.lit (.int 2)) (.cons (.lit (.int 1)) (.cons (.lit (.int 0)) .nil))))) (.cons (.lst false (.cons (.lit (.int 0)) (.cons (.lit (.int 1)) (.cons (.lit (.int 1)) (.cons (.lit (.int 3)) .nil))))) (.cons (.lst false (.cons (.lit (.int 2)) (.cons (.lit (.int 0)) (.cons (.lit (.int 0)) (.cons (.lit (.int 1)) .nil))))) .nil))))))) (.call "_law_digit" (.cons (.loc 0) (.cons (.lit (.int 6)) .nil)))))
      (.cons (.set (.name 4) (.lst true .nil))
      (.cons (.forr (.tup [(.name 5), (.name 6)]) (.enum (.loc 3)) b__law_table_1)
      (.fz 4 (.cons (.ret (.loc 4))
      .nil)))))))
def f__law_table : Fd := ⟨"_law_table", ["_law_left_here", "_law_letters", "_law_begin", "_law_kinds", "_law_found", "_law_k", "_law_parts", "_law_word"], ["_law_left_here"], b__law_table⟩
def d__law_table : He.DefD := ⟨("_law_table", none), "_law_table", "_law_table", defArgs (top 14), defBody (top 14), defScope (top 14), [], []⟩
def e__law_term_1 : E :=
      (.call "_law_term" (.cons (.loc 0) (.cons (.loc 1) (.cons (.loc 2) (.cons (.bin .Sub (.loc 3) (.lit (.int 1))) .nil)))))
def t__law_term_2 : Tt :=
      (.or (.val (.cmp .Gt (.loc 3) (.lit (.int 1)))) (.val (.cmp .Eq (.ix (.loc 5) (.lit (.int 1))) (.lit (.int 0)))))
def e__law_term_3 : E :=
      (.loc 5)
def b__law_term_4 : Sts :=
      (.cons (.ret (.tup (.cons (.lit (.str "any")) (.cons (.call "_law_digit" (.cons (.loc 0) (.cons (.loc 2) .nil))) .nil))))
      .nil)
def b__law_term : Sts :=
      (.cons (.iff (.and (.val (.cmp .Gt (.loc 2) (.lit (.int 0)))) (.val (.cmp .Eq (.call "_law_digit" (.cons (.loc 0) (.cons (.lit (.int 3)) .nil))) (.lit (.int 0))))) b__law_term_4 .nil)
      (.cons (.set (.name 4) (.comp false [5] (.name 5) (.ex (.loc 1)) (.some t__law_term_2) e__law_term_3))
      (.cons (.set (.name 5) (.ix (.loc 4) (.call "_law_digit" (.cons (.loc 0) (.cons (.bi .len (.cons (.loc 4) .nil)) .nil)))))
      (.cons (.ret (.tup (.cons (.lit (.str "of")) (.cons (.ix (.loc 5) (.lit (.int 0))) (.cons (.bi .tuple (.cons (.comp false [6] (.name 6) (.rng1 (.ix (.loc 5) (.lit (.int 1)))) .none e__law_term_1) .nil)) .nil)))))
      .nil))))
def f__law_term : Fd := ⟨"_law_term", ["_law_left_here", "_law_table_here", "_law_letters", "_law_deep", "_law_some", "_law_row", "_law_k"], ["_law_left_here", "_law_table_here", "_law_letters", "_law_deep"], b__law_term⟩
def d__law_term : He.DefD := ⟨("_law_term", none), "_law_term", "_law_term", defArgs (top 15), defBody (top 15), defScope (top 15), [], []⟩
def e__law_spots_1 : E :=
      (.bin .Add (.tup (.cons (.loc 2) .nil)) (.loc 4))
def b__law_spots_2 : Sts :=
      (.cons (.set (.name 1) (.bin .Add (.loc 1) (.comp false [4] (.name 4) (.ex (.call "_law_spots" (.cons (.loc 3) .nil))) .none e__law_spots_1)))
      .nil)
def b__law_spots_3 : Sts :=
      (.cons (.forr (.tup [(.name 2), (.name 3)]) (.enum (.ix (.loc 0) (.lit (.int 2)))) b__law_spots_2)
      .nil)
def b__law_spots : Sts :=
      (.cons (.set (.name 1) (.lst false (.cons (.tup .nil) .nil)))
      (.cons (.iff (.val (.cmp .Eq (.ix (.loc 0) (.lit (.int 0))) (.lit (.str "of")))) b__law_spots_3 .nil)
      (.cons (.ret (.loc 1))
      .nil)))
def f__law_spots : Fd := ⟨"_law_spots", ["_law_term_here", "_law_found", "_law_k", "_law_part", "_law_spot"], ["_law_term_here"], b__law_spots⟩
def d__law_spots : He.DefD := ⟨("_law_spots", none), "_law_spots", "_law_spots", defArgs (top 16), defBody (top 16), defScope (top 16), [], []⟩
def b__law_at_1 : Sts :=
      (.cons (.set (.name 0) (.ix (.ix (.loc 0) (.lit (.int 2))) (.loc 2)))
      .nil)
def b__law_at : Sts :=
      (.cons (.forr (.name 2) (.ex (.loc 1)) b__law_at_1)
      (.cons (.ret (.loc 0))
      .nil))
def f__law_at : Fd := ⟨"_law_at", ["_law_term_here", "_law_spot", "_law_k"], ["_law_term_here", "_law_spot"], b__law_at⟩
def d__law_at : He.DefD := ⟨("_law_at", none), "_law_at", "_law_at", defArgs (top 17), defBody (top 17), defScope (top 17), [], []⟩
def b__law_put_1 : Sts :=
      (.cons (.ret (.loc 2))
      .nil)
def b__law_put : Sts :=
      (.cons (.iff (.val (.cmp .Eq (.loc 1) (.tup .nil))) b__law_put_1 .nil)
      (.cons (.set (.name 3) (.ix (.loc 1) (.lit (.int 0))))
      (.cons (.ret (.tup (.cons (.lit (.str "of")) (.cons (.ix (.loc 0) (.lit (.int 1))) (.cons (.bin .Add (.bin .Add (.slc (.ix (.loc 0) (.lit (.int 2))) .none (.some (.loc 3))) (.tup (.cons (.call "_law_put" (.cons (.ix (.ix (.loc 0) (.lit (.int 2))) (.loc 3)) (.cons (.slc (.loc 1) (.some (.lit (.int 1))) .none) (.cons (.loc 2) .nil)))) .nil))) (.slc (.ix (.loc 0) (.lit (.int 2))) (.some (.bin .Add (.loc 3) (.lit (.int 1)))) .none)) .nil)))))
      .nil)))
def f__law_put : Fd := ⟨"_law_put", ["_law_term_here", "_law_spot", "_law_new", "_law_k"], ["_law_term_here", "_law_spot", "_law_new"], b__law_put⟩
def d__law_put : He.DefD := ⟨("_law_put", none), "_law_put", "_law_put", defArgs (top 18), defBody (top 18), defScope (top 18), [], []⟩
def e__law_size_1 : E :=
      (.call "_law_size" (.cons (.loc 4) (.cons (.bin .Sub (.loc 1) (.lit (.int 1))) .nil)))
def r__law_size_2 : Sts :=
      (.cons (.ret (.bin .Add (.lit (.int 1)) (.bi .sum (.cons (.comp false [4] (.name 4) (.ex (.ix (.loc 0) (.lit (.int 2)))) .none e__law_size_1) .nil))))
      .nil)
def t__law_size_3 : Tt :=
      (.val (.cmp .NotIn (.loc 3) (.lit (.str "abcdefghijklmnopqrstuvwxyz"))))
def e__law_size_4 : E :=
      (.loc 3)
def b__law_size_5 : Sts :=
      (.cons (.ret (.lit (.int 1000)))
      .nil)
def r__law_size_6 : Sts :=
      (.cons (.iff (.val (.cmp .NotEq (.comp false [3] (.name 3) (.ex (.ix (.loc 0) (.lit (.int 1)))) (.some t__law_size_3) e__law_size_4) (.lst false .nil))) b__law_size_5 .nil)
      r__law_size_2)
def b__law_size_7 : Sts :=
      (.cons (.ret (.lit (.int 1000)))
      .nil)
def r__law_size_8 : Sts :=
      (.cons (.iff (.or (.not (.val (.cmp3 .LtE .LtE (.lit (.int 1)) (.bi .len (.cons (.ix (.loc 0) (.lit (.int 1))) .nil)) (.lit (.int 8))))) (.val (.cmp .Gt (.bi .len (.cons (.ix (.loc 0) (.lit (.int 2))) .nil)) (.lit (.int 4))))) b__law_size_7 .nil)
      r__law_size_6)
def b__law_size_9 : Sts :=
      (.cons (.ret (.lit (.int 1000)))
      .nil)
def r__law_size_10 : Sts :=
      (.cons (.iff (.or (.val (.cmp .NotEq (.ix (.loc 0) (.lit (.int 0))) (.lit (.str "of")))) (.or (.val (.cmp .NotEq (.bi .len (.cons (.loc 0) .nil)) (.lit (.int 3)))) (.or (.not (.val (.isa .str (.ix (.loc 0) (.lit (.int 1)))))) (.not (.val (.isa .tuple (.ix (.loc 0) (.lit (.int 2))))))))) b__law_size_9 .nil)
      r__law_size_8)
def b__law_size_11 : Sts :=
      (.cons (.set (.name 2) (.and2 (.cmp .Eq (.bi .len (.cons (.loc 0) .nil)) (.lit (.int 2))) (.and2 (.isa .int (.ix (.loc 0) (.lit (.int 1)))) (.un .Not (.isa .bool (.ix (.loc 0) (.lit (.int 1))))))))
      (.cons (.ret (.ix (.lst false (.cons (.lit (.int 1000)) (.cons (.lit (.int 1)) .nil))) (.bi .int (.cons (.and2 (.loc 2) (.cmp3 .LtE .LtE (.lit (.int 0)) (.ix (.loc 0) (.lit (.int 1))) (.lit (.int 999)))) .nil))))
      .nil))
def r__law_size_12 : Sts :=
      (.cons (.iff (.val (.cmp .Eq (.ix (.loc 0) (.lit (.int 0))) (.lit (.str "any")))) b__law_size_11 .nil)
      r__law_size_10)
def b__law_size_13 : Sts :=
      (.cons (.ret (.lit (.int 1000)))
      .nil)
def b__law_size : Sts :=
      (.cons (.iff (.or (.not (.val (.isa .tuple (.loc 0)))) (.or (.val (.cmp .Eq (.loc 1) (.lit (.int 0)))) (.or (.val (.cmp .NotIn (.bi .len (.cons (.loc 0) .nil)) (.tup (.cons (.lit (.int 2)) (.cons (.lit (.int 3)) .nil))))) (.not (.val (.isa .str (.ix (.loc 0) (.lit (.int 0))))))))) b__law_size_13 .nil)
      r__law_size_12)
def f__law_size : Fd := ⟨"_law_size", ["_law_thing", "_law_deep", "_law_good", "_law_sign", "_law_part"], ["_law_thing", "_law_deep"], b__law_size⟩
def d__law_size : He.DefD := ⟨("_law_size", none), "_law_size", "_law_size", defArgs (top 19), defBody (top 19), defScope (top 19), [], []⟩
def b__law_odd : Sts :=
      (.cons (.set (.name 2) (.lst true (.cons (.lit .non) (.cons (.lit (.int 5)) (.cons (.lit (.str "a")) (.cons (.tup .nil) (.cons (.tup (.cons (.lit (.str "any")) .nil)) (.cons (.tup (.cons (.lit (.str "any")) (.cons (.un .USub (.lit (.int 1))) .nil))) (.cons (.tup (.cons (.lit (.str "any")) (.cons (.lit (.int 999)) .nil))) (.cons (.tup (.cons (.lit (.str "any")) (.cons (.lit (.int 1000)) .nil))) (.cons (.tup (.cons (.lit (.str "any")) (.cons (.lit (.bl true)) .nil))) (.cons (.tup (.cons (.lit (.str "any")) (.cons (.lit (.str "1")) .nil))) .nil))))))))))))
      (.fz 2 (.cons (.set (.name 2) (.bin .Add (.loc 2) (.lst false (.cons (.lst false (.cons (.lit (.str "any")) (.cons (.lit (.int 1)) .nil))) (.cons (.tup (.cons (.lit (.str "of")) (.cons (.lit (.str "a")) .nil))) (.cons (.tup (.cons (.lit (.str "of")) (.cons (.lit (.str "a")) (.cons (.lst false .nil) .nil)))) (.cons (.tup (.cons (.lit (.str "of")) (.cons (.lit (.str "")) (.cons (.tup .nil) .nil)))) (.cons (.tup (.cons (.lit (.str "of")) (.cons (.lit (.str "A")) (.cons (.tup .nil) .nil)))) (.cons (.tup (.cons (.lit (.str "of")) (.cons (.lit (.str "abcdefghi")) (.cons (.tup .nil) .nil)))) .nil)))))))))
      (.cons (.set (.name 2) (.cat (.loc 2) (.lst false (.cons (.tup (.cons (.lit (.str "of")) (.cons (.lit (.str "a b")) (.cons (.tup .nil) .nil)))) (.cons (.tup (.cons (.lit (.str "of")) (.cons (.lit (.str "a")) (.cons (.bin .Mult (.tup (.cons (.loc 1) .nil)) (.lit (.int 5))) .nil)))) (.cons (.tup (.cons (.lit (.str "of")) (.cons (.lit (.str "a")) (.cons (.bin .Mult (.tup (.cons (.loc 1) .nil)) (.lit (.int 4))) .nil)))) (.cons (.tup (.cons (.lit (.str "of")) (.cons (.lit .non) (.cons (.tup .nil) .nil)))) .nil)))))))
      (.cons (.expr (.meth .append (.loc 2) (.cons (.tup (.cons (.lit (.str "Of")) (.cons (.lit (.str "a")) (.cons (.tup .nil) .nil)))) .nil)))
      (.fz 2 (.cons (.set (.name 2) (.cat (.loc 2) (.lst false (.cons (.tup (.cons (.lit (.str "any")) (.cons (.lit (.int 1)) (.cons (.lit (.int 2)) .nil)))) (.cons (.tup (.cons (.lit (.str "of")) (.cons (.lit (.str "a")) (.cons (.tup .nil) (.cons (.tup .nil) .nil))))) (.cons (.tup (.cons (.lit (.str "of")) (.cons (.lit (.str "a1")) (.cons (.tup .nil) .nil)))) (.cons (.tup (.cons (.lit (.str "of")) (.cons (.lit (.str "abcdefgh")) (.cons (.tup .nil) .nil)))) (.cons (.tup (.cons (.lst false (.cons (.lit (.str "of")) .nil)) (.cons (.lit (.str "a")) (.cons (.tup .nil) .nil)))) (.cons (.dct false .nil) .nil)))))))))
      (.cons (.expr (.meth .append (.loc 2) (.cons (.tup (.cons (.lit (.str "of")) (.cons (.lit (.str "a\n")) (.cons (.tup .nil) .nil)))) .nil)))
      (.fz 2 (.cons (.ret (.ix (.loc 2) (.call "_law_digit" (.cons (.loc 0) (.cons (.lit (.int 28)) .nil)))))
      .nil))))))))))
def f__law_odd : Fd := ⟨"_law_odd", ["_law_left_here", "_law_term_here", "_law_some"], ["_law_left_here", "_law_term_here"], b__law_odd⟩
def d__law_odd : He.DefD := ⟨("_law_odd", none), "_law_odd", "_law_odd", defArgs (top 20), defBody (top 20), defScope (top 20), [], []⟩
def b__law_great_1 : Sts :=
      (.cons (.expr (.meth .append (.loc 0) (.cons (.tup (.cons (.lit (.str "of")) (.cons (.lit (.str "k")) (.cons (.tup (.cons (.loc 6) (.cons (.loc 6) (.cons (.loc 5) (.cons (.tup (.cons (.lit (.str "of")) (.cons (.lit (.str "h")) (.cons (.bin .Add (.tup (.cons (.loc 4) .nil)) (.bin .Mult (.tup (.cons (.tup (.cons (.lit (.str "any")) (.cons (.lit (.int 9)) .nil))) .nil)) (.loc 8))) .nil)))) .nil))))) .nil)))) .nil)))
      .nil)
def b__law_great_2 : Sts :=
      (.cons (.expr (.meth .append (.loc 0) (.cons (.loc 7) .nil)))
      .nil)
def b__law_great_3 : Sts :=
      (.cons (.set (.name 2) (.tup (.cons (.lit (.str "of")) (.cons (.lit (.str "f")) (.cons (.tup (.cons (.loc 2) .nil)) .nil)))))
      .nil)
def b__law_great_4 : Sts :=
      (.cons (.set (.name 2) (.tup (.cons (.lit (.str "of")) (.cons (.lit (.str "a")) (.cons (.tup .nil) .nil)))))
      (.cons (.forr (.name 3) (.rng1 (.bin .Sub (.loc 1) (.lit (.int 1)))) b__law_great_3)
      (.cons (.expr (.meth .append (.loc 0) (.cons (.loc 2) .nil)))
      .nil)))
def b__law_great : Sts :=
      (.cons (.set (.name 0) (.lst true .nil))
      (.cons (.forr (.name 1) (.ex (.tup (.cons (.lit (.int 11)) (.cons (.lit (.int 12)) (.cons (.lit (.int 13)) .nil))))) b__law_great_4)
      (.cons (.set (.name 4) (.tup (.cons (.lit (.str "of")) (.cons (.lit (.str "h")) (.cons (.bin .Mult (.tup (.cons (.tup (.cons (.lit (.str "any")) (.cons (.lit (.int 0)) .nil))) .nil)) (.lit (.int 4))) .nil)))))
      (.cons (.set (.name 5) (.tup (.cons (.lit (.str "of")) (.cons (.lit (.str "h")) (.cons (.tup (.cons (.loc 4) (.cons (.loc 4) (.cons (.loc 4) (.cons (.loc 4) .nil))))) .nil)))))
      (.cons (.set (.name 6) (.tup (.cons (.lit (.str "of")) (.cons (.lit (.str "h")) (.cons (.tup (.cons (.loc 5) (.cons (.loc 5) (.cons (.loc 5) (.cons (.loc 5) .nil))))) .nil)))))
      (.cons (.forr (.name 7) (.ex (.tup (.cons (.tup (.cons (.lit (.str "of")) (.cons (.lit (.str "k")) (.cons (.tup (.cons (.loc 6) (.cons (.loc 6) (.cons (.loc 5) (.cons (.tup (.cons (.lit (.str "any")) (.cons (.lit (.int 1)) .nil))) .nil))))) .nil)))) (.cons (.tup (.cons (.lit (.str "of")) (.cons (.lit (.str "k")) (.cons (.tup (.cons (.loc 6) (.cons (.loc 6) (.cons (.loc 5) (.cons (.loc 4) .nil))))) .nil)))) .nil)))) b__law_great_2)
      (.cons (.forr (.name 8) (.ex (.tup (.cons (.lit (.int 1)) (.cons (.lit (.int 2)) (.cons (.lit (.int 3)) .nil))))) b__law_great_1)
      (.fz 0 (.cons (.ret (.loc 0))
      .nil)))))))))
def f__law_great : Fd := ⟨"_law_great", ["_law_found", "_law_deep", "_law_term_here", "_law_turn", "_law_five", "_law_twenty", "_law_most", "_law_more", "_law_many"], [], b__law_great⟩
def d__law_great : He.DefD := ⟨("_law_great", none), "_law_great", "_law_great", defArgs (top 21), defBody (top 21), defScope (top 21), [], []⟩
def b_law_1 : Sts :=
      (.cons (.ret (.lit (.bl false)))
      .nil)
def b_law_2 : Sts :=
      (.cons (.set (.name 7) (.bi .repr (.cons (.loc 6) .nil)))
      (.cons (.set (.name 8) (.call "is_term" (.cons (.loc 6) .nil)))
      (.cons (.iff (.or (.not (.val (.isa .bool (.loc 8)))) (.or (.val (.cmp .NotEq (.loc 8) (.cmp .LtE (.call "_law_size" (.cons (.loc 6) (.cons (.lit (.int 12)) .nil))) (.lit (.int 200))))) (.val (.cmp .NotEq (.bi .repr (.cons (.loc 6) .nil)) (.loc 7))))) b_law_1 .nil)
      .nil)))
def b_law_3 : Sts :=
      (.cons (.set (.name 3) (.call "_law_left" (.cons (.loc 2) .nil)))
      (.cons (.set (.name 1) (.call "_law_term" (.cons (.loc 3) (.cons (.call "_law_table" (.cons (.loc 3) .nil)) (.cons (.lit (.int 3)) (.cons (.lit (.int 3)) .nil))))))
      (.cons (.set (.name 4) (.call "_law_spots" (.cons (.loc 1) .nil)))
      (.cons (.set (.name 5) (.lst false (.cons (.loc 1) (.cons (.call "_law_put" (.cons (.loc 1) (.cons (.ix (.loc 4) (.call "_law_digit" (.cons (.loc 3) (.cons (.bi .len (.cons (.loc 4) .nil)) .nil)))) (.cons (.call "_law_odd" (.cons (.loc 3) (.cons (.loc 1) .nil))) .nil)))) (.cons (.call "_law_odd" (.cons (.loc 3) (.cons (.loc 1) .nil))) .nil)))))
      (.cons (.forr (.name 6) (.ex (.loc 5)) b_law_2)
      .nil)))))
def b_law_4 : Sts :=
      (.cons (.ret (.lit (.bl false)))
      .nil)
def b_law_5 : Sts :=
      (.cons (.iff (.val (.cmp .NotEq (.call "is_term" (.cons (.loc 1) .nil)) (.cmp .LtE (.call "_law_size" (.cons (.loc 1) (.cons (.lit (.int 12)) .nil))) (.lit (.int 200))))) b_law_4 .nil)
      .nil)
def b_law : Sts :=
      (.cons (.forr (.name 1) (.ex (.call "_law_great" .nil)) b_law_5)
      (.cons (.forr (.name 2) (.ex (.bin .Add (.slc (.loc 0) .none (.some (.lit (.int 20)))) (.lst false (.cons (.lit (.int 4)) .nil)))) b_law_3)
      (.cons (.ret (.lit (.bl true)))
      .nil)))
def f_law : Fd := ⟨"law", ["_law_script", "_law_term_here", "_law_cell", "_law_left_here", "_law_spots_here", "_law_things", "_law_thing", "_law_kept", "_law_found"], ["_law_script"], b_law⟩
def d_law : He.DefD := ⟨("law", none), "law", "law", defArgs (top 22), defBody (top 22), defScope (top 22), [], []⟩
def T : List Fd := [f_is_whole, f_is_name, f_room_left, f_is_term, f__law_left, f__law_digit, f__law_table, f__law_term, f__law_spots, f__law_at, f__law_put, f__law_size, f__law_odd, f__law_great, f_law]
def fn : List He.DefD := [d_is_whole, d_is_name, d_room_left, d_is_term, d__law_left, d__law_digit, d__law_table, d__law_term, d__law_spots, d__law_at, d__law_put, d__law_size, d__law_odd, d__law_great, d_law]
def fr : List Str := ["abs", "all", "bool", "enumerate", "int", "isinstance", "len", "range", "repr", "str", "sum", "tuple"]
def gs : List (Str × Lit) := [("SMALL", Lit.str "abcdefghijklmnopqrstuvwxyz"), ("MOST_LETTER", Lit.int 999), ("MOST_NAME", Lit.int 8), ("MOST_PARTS", Lit.int 4), ("MOST_SIZE", Lit.int 200), ("MOST_DEPTH", Lit.int 12)]
def G0 : Str → Option W := lookG gs
theorem g_SMALL : G0 "SMALL" = some (W.str "abcdefghijklmnopqrstuvwxyz") := rfl
theorem g_MOST_LETTER : G0 "MOST_LETTER" = some (W.int 999) := rfl
theorem g_MOST_NAME : G0 "MOST_NAME" = some (W.int 8) := rfl
theorem g_MOST_PARTS : G0 "MOST_PARTS" = some (W.int 4) := rfl
theorem g_MOST_SIZE : G0 "MOST_SIZE" = some (W.int 200) := rfl
theorem g_MOST_DEPTH : G0 "MOST_DEPTH" = some (W.int 12) := rfl
def fa : List He.Fa := T.map (fun F => He.Fa.glo F.name) ++ fr.map He.Fa.free ++ gs.map litFa
theorem k_is_whole : DefB fr (T.map (·.name)) f_is_whole d_is_whole where
  name := rfl
  at_ := rfl
  dfl := rfl
  kwd := rfl
  sc := ⟨rfl, rfl, rfl, by decide +kernel, rfl, by decide +kernel, by decide +kernel⟩
  bind := fun _ _ _ _ _ _ us hl => match us, hl with | [_], _ => rfl
  chk := by decide +kernel
theorem k_is_name : DefB fr (T.map (·.name)) f_is_name d_is_name where
  name := rfl
  at_ := rfl
  dfl := rfl
  kwd := rfl
  sc := ⟨rfl, rfl, rfl, by decide +kernel, rfl, by decide +kernel, by decide +kernel⟩
  bind := fun _ _ _ _ _ _ us hl => match us, hl with | [_], _ => rfl
  chk := by decide +kernel
theorem k_room_left : DefB fr (T.map (·.name)) f_room_left d_room_left where
  name := rfl
  at_ := rfl
  dfl := rfl
  kwd := rfl
  sc := ⟨rfl, rfl, rfl, by decide +kernel, rfl, by decide +kernel, by decide +kernel⟩
  bind := fun _ _ _ _ _ _ us hl => match us, hl with | [_, _, _], _ => rfl
  chk := by decide +kernel
theorem k_is_term : DefB fr (T.map (·.name)) f_is_term d_is_term where
  name := rfl
  at_ := rfl
  dfl := rfl
  kwd := rfl
  sc := ⟨rfl, rfl, rfl, by decide +kernel, rfl, by decide +kernel, by decide +kernel⟩
  bind := fun _ _ _ _ _ _ us hl => match us, hl with | [_], _ => rfl
  chk := by decide +kernel
theorem k__law_left : DefB fr (T.map (·.name)) f__law_left d__law_left where
  name := rfl
  at_ := rfl
  dfl := rfl
  kwd := rfl
  sc := ⟨rfl, rfl, rfl, by decide +kernel, rfl, by decide +kernel, by decide +kernel⟩
  bind := fun _ _ _ _ _ _ us hl => match us, hl with | [_], _ => rfl
  chk := by decide +kernel
theorem k__law_digit : DefB fr (T.map (·.name)) f__law_digit d__law_digit where
  name := rfl
  at_ := rfl
  dfl := rfl
  kwd := rfl
  sc := ⟨rfl, rfl, rfl, by decide +kernel, rfl, by decide +kernel, by decide +kernel⟩
  bind := fun _ _ _ _ _ _ us hl => match us, hl with | [_, _], _ => rfl
  chk := by decide +kernel
theorem k__law_table : DefB fr (T.map (·.name)) f__law_table d__law_table where
  name := rfl
  at_ := rfl
  dfl := rfl
  kwd := rfl
  sc := ⟨rfl, rfl, rfl, by decide +kernel, rfl, by decide +kernel, by decide +kernel⟩
  bind := fun _ _ _ _ _ _ us hl => match us, hl with | [_], _ => rfl
  chk := by decide +kernel
theorem k__law_term : DefB fr (T.map (·.name)) f__law_term d__law_term where
  name := rfl
  at_ := rfl
  dfl := rfl
  kwd := rfl
  sc := ⟨rfl, rfl, rfl, by decide +kernel, rfl, by decide +kernel, by decide +kernel⟩
  bind := fun _ _ _ _ _ _ us hl => match us, hl with | [_, _, _, _], _ => rfl
  chk := by decide +kernel
theorem k__law_spots : DefB fr (T.map (·.name)) f__law_spots d__law_spots where
  name := rfl
  at_ := rfl
  dfl := rfl
  kwd := rfl
  sc := ⟨rfl, rfl, rfl, by decide +kernel, rfl, by decide +kernel, by decide +kernel⟩
  bind := fun _ _ _ _ _ _ us hl => match us, hl with | [_], _ => rfl
  chk := by decide +kernel
theorem k__law_at : DefB fr (T.map (·.name)) f__law_at d__law_at where
  name := rfl
  at_ := rfl
  dfl := rfl
  kwd := rfl
  sc := ⟨rfl, rfl, rfl, by decide +kernel, rfl, by decide +kernel, by decide +kernel⟩
  bind := fun _ _ _ _ _ _ us hl => match us, hl with | [_, _], _ => rfl
  chk := by decide +kernel
theorem k__law_put : DefB fr (T.map (·.name)) f__law_put d__law_put where
  name := rfl
  at_ := rfl
  dfl := rfl
  kwd := rfl
  sc := ⟨rfl, rfl, rfl, by decide +kernel, rfl, by decide +kernel, by decide +kernel⟩
  bind := fun _ _ _ _ _ _ us hl => match us, hl with | [_, _, _], _ => rfl
  chk := by decide +kernel
theorem k__law_size : DefB fr (T.map (·.name)) f__law_size d__law_size where
  name := rfl
  at_ := rfl
  dfl := rfl
  kwd := rfl
  sc := ⟨rfl, rfl, rfl, by decide +kernel, rfl, by decide +kernel, by decide +kernel⟩
  bind := fun _ _ _ _ _ _ us hl => match us, hl with | [_, _], _ => rfl
  chk := by decide +kernel
theorem k__law_odd : DefB fr (T.map (·.name)) f__law_odd d__law_odd where
  name := rfl
  at_ := rfl
  dfl := rfl
  kwd := rfl
  sc := ⟨rfl, rfl, rfl, by decide +kernel, rfl, by decide +kernel, by decide +kernel⟩
  bind := fun _ _ _ _ _ _ us hl => match us, hl with | [_, _], _ => rfl
  chk := by decide +kernel
theorem k__law_great : DefB fr (T.map (·.name)) f__law_great d__law_great where
  name := rfl
  at_ := rfl
  dfl := rfl
  kwd := rfl
  sc := ⟨rfl, rfl, rfl, by decide +kernel, rfl, by decide +kernel, by decide +kernel⟩
  bind := fun _ _ _ _ _ _ us hl => match us, hl with | [], _ => rfl
  chk := by decide +kernel
theorem k_law : DefB fr (T.map (·.name)) f_law d_law where
  name := rfl
  at_ := rfl
  dfl := rfl
  kwd := rfl
  sc := ⟨rfl, rfl, rfl, by decide +kernel, rfl, by decide +kernel, by decide +kernel⟩
  bind := fun _ _ _ _ _ _ us hl => match us, hl with | [_], _ => rfl
  chk := by decide +kernel
theorem o_is_whole {k : Nat} {S : Sto} {Q X : QW} {x0 : W} (h : wSs ⟨callK T G0 k, G0⟩ b_is_whole { nx := fun _ S' => Q .non S', rt := Q, ex := X } [some x0] S) : callK T G0 (k + 1) "is_whole" [x0] S Q X := ⟨f_is_whole, rfl, rfl, h⟩
theorem o_is_name {k : Nat} {S : Sto} {Q X : QW} {x0 : W} (h : wSs ⟨callK T G0 k, G0⟩ b_is_name { nx := fun _ S' => Q .non S', rt := Q, ex := X } [some x0, none] S) : callK T G0 (k + 1) "is_name" [x0] S Q X := ⟨f_is_name, rfl, rfl, h⟩
theorem o_room_left {k : Nat} {S : Sto} {Q X : QW} {x0 x1 x2 : W} (h : wSs ⟨callK T G0 k, G0⟩ b_room_left { nx := fun _ S' => Q .non S', rt := Q, ex := X } [some x0, some x1, some x2, none, none] S) : callK T G0 (k + 1) "room_left" [x0, x1, x2] S Q X := ⟨f_room_left, rfl, rfl, h⟩
theorem o_is_term {k : Nat} {S : Sto} {Q X : QW} {x0 : W} (h : wSs ⟨callK T G0 k, G0⟩ b_is_term { nx := fun _ S' => Q .non S', rt := Q, ex := X } [some x0] S) : callK T G0 (k + 1) "is_term" [x0] S Q X := ⟨f_is_term, rfl, rfl, h⟩
theorem o__law_left {k : Nat} {S : Sto} {Q X : QW} {x0 : W} (h : wSs ⟨callK T G0 k, G0⟩ b__law_left { nx := fun _ S' => Q .non S', rt := Q, ex := X } [some x0, none, none, none] S) : callK T G0 (k + 1) "_law_left" [x0] S Q X := ⟨f__law_left, rfl, rfl, h⟩
theorem o__law_digit {k : Nat} {S : Sto} {Q X : QW} {x0 x1 : W} (h : wSs ⟨callK T G0 k, G0⟩ b__law_digit { nx := fun _ S' => Q .non S', rt := Q, ex := X } [some x0, some x1, none] S) : callK T G0 (k + 1) "_law_digit" [x0, x1] S Q X := ⟨f__law_digit, rfl, rfl, h⟩
theorem o__law_table {k : Nat} {S : Sto} {Q X : QW} {x0 : W} (h : wSs ⟨callK T G0 k, G0⟩ b__law_table { nx := fun _ S' => Q .non S', rt := Q, ex := X } [some x0, none, none, none, none, none, none, none] S) : callK T G0 (k + 1) "_law_table" [x0] S Q X := ⟨f__law_table, rfl, rfl, h⟩
theorem o__law_term {k : Nat} {S : Sto} {Q X : QW} {x0 x1 x2 x3 : W} (h : wSs ⟨callK T G0 k, G0⟩ b__law_term { nx := fun _ S' => Q .non S', rt := Q, ex := X } [some x0, some x1, some x2, some x3, none, none, none] S) : callK T G0 (k + 1) "_law_term" [x0, x1, x2, x3] S Q X := ⟨f__law_term, rfl, rfl, h⟩
theorem o__law_spots {k : Nat} {S : Sto} {Q X : QW} {x0 : W} (h : wSs ⟨callK T G0 k, G0⟩ b__law_spots { nx := fun _ S' => Q .non S', rt := Q, ex := X } [some x0, none, none, none, none] S) : callK T G0 (k + 1) "_law_spots" [x0] S Q X := ⟨f__law_spots, rfl, rfl, h⟩
theorem o__law_at {k : Nat} {S : Sto} {Q X : QW} {x0 x1 : W} (h : wSs ⟨callK T G0 k, G0⟩ b__law_at { nx := fun _ S' => Q .non S', rt := Q, ex := X } [some x0, some x1, none] S) : callK T G0 (k + 1) "_law_at" [x0, x1] S Q X := ⟨f__law_at, rfl, rfl, h⟩
theorem o__law_put {k : Nat} {S : Sto} {Q X : QW} {x0 x1 x2 : W} (h : wSs ⟨callK T G0 k, G0⟩ b__law_put { nx := fun _ S' => Q .non S', rt := Q, ex := X } [some x0, some x1, some x2, none] S) : callK T G0 (k + 1) "_law_put" [x0, x1, x2] S Q X := ⟨f__law_put, rfl, rfl, h⟩
theorem o__law_size {k : Nat} {S : Sto} {Q X : QW} {x0 x1 : W} (h : wSs ⟨callK T G0 k, G0⟩ b__law_size { nx := fun _ S' => Q .non S', rt := Q, ex := X } [some x0, some x1, none, none, none] S) : callK T G0 (k + 1) "_law_size" [x0, x1] S Q X := ⟨f__law_size, rfl, rfl, h⟩
theorem o__law_odd {k : Nat} {S : Sto} {Q X : QW} {x0 x1 : W} (h : wSs ⟨callK T G0 k, G0⟩ b__law_odd { nx := fun _ S' => Q .non S', rt := Q, ex := X } [some x0, some x1, none] S) : callK T G0 (k + 1) "_law_odd" [x0, x1] S Q X := ⟨f__law_odd, rfl, rfl, h⟩
theorem o__law_great {k : Nat} {S : Sto} {Q X : QW}  (h : wSs ⟨callK T G0 k, G0⟩ b__law_great { nx := fun _ S' => Q .non S', rt := Q, ex := X } [none, none, none, none, none, none, none, none, none] S) : callK T G0 (k + 1) "_law_great" [] S Q X := ⟨f__law_great, rfl, rfl, h⟩
theorem o_law {k : Nat} {S : Sto} {Q X : QW} {x0 : W} (h : wSs ⟨callK T G0 k, G0⟩ b_law { nx := fun _ S' => Q .non S', rt := Q, ex := X } [some x0, none, none, none, none, none, none, none, none] S) : callK T G0 (k + 1) "law" [x0] S Q X := ⟨f_law, rfl, rfl, h⟩
theorem all_k : ∀ F ∈ T, ∃ d ∈ fn, DefB fr (T.map (·.name)) F d := by
  intro F hF
  simp only [T, List.mem_cons, List.not_mem_nil, or_false] at hF
  rcases hF with rfl | rfl | rfl | rfl | rfl | rfl | rfl | rfl | rfl | rfl | rfl | rfl | rfl | rfl | rfl
  · exact ⟨d_is_whole, by simp [fn], k_is_whole⟩
  · exact ⟨d_is_name, by simp [fn], k_is_name⟩
  · exact ⟨d_room_left, by simp [fn], k_room_left⟩
  · exact ⟨d_is_term, by simp [fn], k_is_term⟩
  · exact ⟨d__law_left, by simp [fn], k__law_left⟩
  · exact ⟨d__law_digit, by simp [fn], k__law_digit⟩
  · exact ⟨d__law_table, by simp [fn], k__law_table⟩
  · exact ⟨d__law_term, by simp [fn], k__law_term⟩
  · exact ⟨d__law_spots, by simp [fn], k__law_spots⟩
  · exact ⟨d__law_at, by simp [fn], k__law_at⟩
  · exact ⟨d__law_put, by simp [fn], k__law_put⟩
  · exact ⟨d__law_size, by simp [fn], k__law_size⟩
  · exact ⟨d__law_odd, by simp [fn], k__law_odd⟩
  · exact ⟨d__law_great, by simp [fn], k__law_great⟩
  · exact ⟨d_law, by simp [fn], k_law⟩

end K01

set_option Elab.async false
set_option linter.all false
set_option maxRecDepth 100000
set_option maxHeartbeats 4000000
namespace K01
open PySem PD
/-! ### what a term is, told twice: by its size, by the room that it leaves -/
def smallSign (c : Nat) : Bool := decide (c ∈ (("abcdefghijklmnopqrstuvwxyz" : String) : Str).cps.toList)
def okWord (x : Str) (ps : List W) : Bool := decide (1 ≤ x.length) && decide (x.length ≤ 8) && decide (ps.length ≤ 4) && x.cps.toList.all smallSign
def okLet (n : Int) : Bool := decide (0 ≤ n) && decide (n ≤ 999)
def sizeStep (f : W → Int) : W → Int
  | .tup [.str h, .int n] => if h == ("any" : Str) then (if okLet n then 1 else 1000) else 1000
  | .tup [.str h, .str x, .tup ps] => if h == ("any" : Str) then 1000 else if h == ("of" : Str) then (if okWord x ps then 1 + (ps.map f).sum else 1000) else 1000
  | _ => 1000
def sizeL : Nat → W → Int
  | 0, _ => 1000
  | d + 1, w => sizeStep (sizeL d) w
/-- the room left behind some parts -/
def runP (f : Int → W → Option Int) : List W → Int → Option Int
  | [], r => some r
  | p :: ps, r => match f r p with
    | some r' => runP f ps r'
    | none => none
def roomStep (f : Int → W → Option Int) (r : Int) : W → Option Int
  | .tup [.str h, .int n] => if r = 0 then none else if h == ("any" : Str) then (if okLet n then some (r - 1) else none) else none
  | .tup [.str h, .str x, .tup ps] => if r = 0 then none else if h == ("any" : Str) then none else if h == ("of" : Str) then (if okWord x ps then runP f ps (r - 1) else none) else none
  | _ => none
def roomP : Nat → Int → W → Option Int
  | 0, _, _ => none
  | d + 1, r, w => roomStep (roomP d) r w
theorem w_view (w : W) : (∃ h n, w = .tup [.str h, .int n]) ∨ (∃ h x ps, w = .tup [.str h, .str x, .tup ps]) ∨ ((∀ f, sizeStep f w = 1000) ∧ ∀ f r, roomStep f r w = none) := by
  by_cases h1 : ∃ h n, w = .tup [.str h, .int n]
  · exact .inl h1
  · by_cases h2 : ∃ h x ps, w = .tup [.str h, .str x, .tup ps]
    · exact .inr (.inl h2)
    · refine .inr (.inr ⟨fun f => ?_, fun f r => ?_⟩)
      · unfold sizeStep
        split
        · exact (h1 ⟨_, _, rfl⟩).elim
        · exact (h2 ⟨_, _, _, rfl⟩).elim
        · rfl
      · unfold roomStep
        split
        · exact (h1 ⟨_, _, rfl⟩).elim
        · exact (h2 ⟨_, _, _, rfl⟩).elim
        · rfl
theorem sum_pos {f : W → Int} (hf : ∀ w, 1 ≤ f w) : ∀ qs : List W, 0 ≤ (qs.map f).sum
  | [] => Int.le_refl _
  | q :: qs => by rw [List.map_cons, List.sum_cons]; have := hf q; have := sum_pos hf qs; omega
theorem size_pos : ∀ (d : Nat) (w : W), 1 ≤ sizeL d w
  | 0, w => by show (1 : Int) ≤ 1000; omega
  | d + 1, w => by
    show 1 ≤ sizeStep (sizeL d) w
    rcases w_view w with ⟨h, n, rfl⟩ | ⟨h, x, ps, rfl⟩ | ⟨z, _⟩
    · show (1 : Int) ≤ if h == ("any" : Str) then (if okLet n then 1 else 1000) else 1000
      split
      · split <;> omega
      · omega
    · show (1 : Int) ≤ if h == ("any" : Str) then 1000 else if h == ("of" : Str) then (if okWord x ps then 1 + (ps.map (sizeL d)).sum else 1000) else 1000
      have := sum_pos (size_pos d) ps
      split
      · omega
      · split
        · split <;> omega
        · omega
    · rw [z]; omega
theorem run_size {f : W → Int} {g : Int → W → Option Int} (hf : ∀ w, 1 ≤ f w) (hg : ∀ w r, 0 ≤ r → r ≤ 999 → g r w = if f w ≤ r then some (r - f w) else none) : ∀ (qs : List W) (r : Int), 0 ≤ r → r ≤ 999 → runP g qs r = if (qs.map f).sum ≤ r then some (r - (qs.map f).sum) else none
  | [], r, h0, h1 => by
    show some r = if (0 : Int) ≤ r then some (r - 0) else none
    rw [if_pos h0, Int.sub_zero]
  | q :: qs, r, h0, h1 => by
    show (match g r q with | some r' => runP g qs r' | none => none) = _
    rw [hg q r h0 h1, List.map_cons, List.sum_cons]
    have hp := hf q
    have hs := sum_pos hf qs
    by_cases hle : f q ≤ r
    · rw [if_pos hle]
      show runP g qs (r - f q) = _
      rw [run_size hf hg qs (r - f q) (by omega) (by omega)]
      by_cases h2 : (qs.map f).sum ≤ r - f q
      · rw [if_pos h2, if_pos (by omega)]
        congr 1
        omega
      · rw [if_neg h2, if_neg (by omega)]
    · rw [if_neg hle, if_neg (by omega)]
theorem room_size : ∀ (d : Nat) (w : W) (r : Int), 0 ≤ r → r ≤ 999 → roomP d r w = if sizeL d w ≤ r then some (r - sizeL d w) else none
  | 0, w, r, h0, h1 => by
    show none = if (1000 : Int) ≤ r then _ else none
    rw [if_neg (by omega)]
  | d + 1, w, r, h0, h1 => by
    have hp := size_pos (d + 1) w
    by_cases hr : r = 0
    · subst hr
      rw [if_neg (by omega)]
      show roomStep (roomP d) 0 w = none
      rcases w_view w with ⟨h, n, rfl⟩ | ⟨h, x, ps, rfl⟩ | ⟨_, z⟩
      · rfl
      · rfl
      · exact z _ _
    · show roomStep (roomP d) r w = if sizeStep (sizeL d) w ≤ r then some (r - sizeStep (sizeL d) w) else none
      rcases w_view w with ⟨h, n, rfl⟩ | ⟨h, x, ps, rfl⟩ | ⟨z1, z2⟩
      · show (if r = 0 then none else if h == ("any" : Str) then (if okLet n then some (r - 1) else none) else none) = if (if h == ("any" : Str) then (if okLet n then 1 else 1000) else 1000) ≤ r then some (r - (if h == ("any" : Str) then (if okLet n then 1 else 1000) else 1000)) else none
        rw [if_neg hr]
        generalize (h == ("any" : Str)) = b
        generalize okLet n = c
        cases b <;> cases c <;> simp <;> omega
      · show (if r = 0 then none else if h == ("any" : Str) then none else if h == ("of" : Str) then (if okWord x ps then runP (roomP d) ps (r - 1) else none) else none) =
          if (if h == ("any" : Str) then 1000 else if h == ("of" : Str) then (if okWord x ps then 1 + (ps.map (sizeL d)).sum else 1000) else 1000) ≤ r then some (r - (if h == ("any" : Str) then 1000 else if h == ("of" : Str) then (if okWord x ps then 1 + (ps.map (sizeL d)).sum else 1000) else 1000)) else none
        rw [if_neg hr, run_size (size_pos d) (room_size d) ps (r - 1) (by omega) (by omega)]
        have hs := sum_pos (size_pos d) ps
        generalize (ps.map (sizeL d)).sum = u at hs ⊢
        generalize (h == ("any" : Str)) = b
        generalize (h == ("of" : Str)) = c
        generalize okWord x ps = e
        by_cases hu : u ≤ r - 1
        · rw [if_pos hu]
          cases b <;> cases c <;> cases e <;> simp <;> omega
        · rw [if_neg hu]
          cases b <;> cases c <;> cases e <;> simp <;> omega
      · rw [z1, z2, if_neg (by omega)]
end K01

set_option Elab.async false
set_option linter.all false
set_option maxRecDepth 100000
set_option maxHeartbeats 4000000
namespace K01
open PySem PD
open L2 (atI)
section
variable {k : Nat} {S : Sto} {Q X : QW} {a : Addr}
theorem s_digit {n u : Int} (hS : S a = some (.lst [.int n])) (hu : 0 < u) (hl : u < 1000) (h : Q (.int (n % u)) (S.set a (.lst [.int (n / u)]))) :
    callK T G0 (k + 1) "_law_digit" [.ref a, .int u] S Q X := by
  refine o__law_digit ?_
  unfold b__law_digit
  have hr := rd_r hS
  have hlog : u.natAbs.log2 < 9000 := by
    have : u.natAbs.log2 ≤ u.natAbs := Nat.log2_le_self _
    omega
  simp only [wSs, wS, wE, wEs, wT, wOT, wI, wO, Lit.w, biW, rs_tup, rs_lst, rs_int, rs_str, rs_bl, rs_non, rs_dct, ix_tup, ix_lst, atI_0, atI_1, atI_2, ex_some, ex_some2, ex_int, ex_bl, tru_bl,
  List.getElem?_cons_zero, List.getElem?_cons_succ, List.set_cons_zero, List.set_cons_succ, eqW_str, eqW_int, eqW_bl, cmp_eq, cmp_lt, cmp_gt, cmp_ge, cmp_le, add_int, sub_int, wipeS, Tg.go, Tg.go.goAll, ex_tup, ex_cons, ex_tl, List.length_cons, List.length_nil, Nat.zero_add, Nat.reduceAdd, Nat.reduceLT, true_and, and_true, sizeLine_eq, Nat.reduceLeDiff, Nat.zero_le, ex_or, items_lst, items_tup, eq_self, un_not, cmp_in, len_lst, rd_w, slc_lst, ty_app, ty_get, mtW, if_true, Bool.false_eq_true, if_false, hr, mod_int hu, div_int hu hlog]
  exact setW_0 hS h
theorem s_left {c : Int} (h : ∀ p m, S p = none → Q (.ref p) (S.set p (.lst [.int m]))) : callK T G0 (k + 1) "_law_left" [.int c] S Q X := by
  refine o__law_left ?_
  unfold b__law_left
  simp only [wSs, wS, wE, wEs, wT, wOT, wI, wO, Lit.w, biW, rs_tup, rs_lst, rs_int, rs_str, rs_bl, rs_non, rs_dct, ix_tup, ix_lst, atI_0, atI_1, atI_2, ex_some, ex_some2, ex_int, ex_bl, tru_bl,
  List.getElem?_cons_zero, List.getElem?_cons_succ, List.set_cons_zero, List.set_cons_succ, eqW_str, eqW_int, eqW_bl, cmp_eq, cmp_lt, cmp_gt, cmp_ge, cmp_le, add_int, sub_int, wipeS, Tg.go, Tg.go.goAll, ex_tup, ex_cons, ex_tl, List.length_cons, List.length_nil, Nat.zero_add, Nat.reduceAdd, Nat.reduceLT, true_and, and_true, sizeLine_eq, Nat.reduceLeDiff, Nat.zero_le, ex_or, items_lst, items_tup, eq_self, un_not, cmp_in, len_lst, rd_w, slc_lst, ty_app, ty_get, mtW, if_true, Bool.false_eq_true, if_false, pow18]
  have fin : ∀ {l : Int}, ∀ p, S p = none → Q (.ref p) (S.set p (.lst [.int l])) := fun {l} p hp => h p l hp
  generalize decide ((c.natAbs : Int) < big18) = b
  cases b <;> simp only [Bool.false_eq_true, if_false, if_true]
  · exact fin
  · unfold b__law_left_2
    simp only [wSs, wS, wE, wEs, wT, wOT, wI, wO, Lit.w, biW, rs_tup, rs_lst, rs_int, rs_str, rs_bl, rs_non, rs_dct, ix_tup, ix_lst, atI_0, atI_1, atI_2, ex_some, ex_some2, ex_int, ex_bl, tru_bl,
  List.getElem?_cons_zero, List.getElem?_cons_succ, List.set_cons_zero, List.set_cons_succ, eqW_str, eqW_int, eqW_bl, cmp_eq, cmp_lt, cmp_gt, cmp_ge, cmp_le, add_int, sub_int, wipeS, Tg.go, Tg.go.goAll, ex_tup, ex_cons, ex_tl, List.length_cons, List.length_nil, Nat.zero_add, Nat.reduceAdd, Nat.reduceLT, true_and, and_true, sizeLine_eq, Nat.reduceLeDiff, Nat.zero_le, ex_or, items_lst, items_tup, eq_self, un_not, cmp_in, len_lst, rd_w, slc_lst, ty_app, ty_get, mtW, if_true, Bool.false_eq_true, if_false]
    refine ⟨by decide, by decide, ?_⟩
    refine loopF_ind (fun xs σ S' => S' = S ∧ (∀ x ∈ xs, ∃ i, x = W.int i) ∧ ∃ l d y, σ = [some (.int c), some (.int l), some (.int d), y]) ?_ ?_ _ _ _ ?_
    · rintro σ S' ⟨rfl, _, l, d, y, rfl⟩
      simp only [wSs, wS, wE, wEs, wT, wOT, wI, wO, Lit.w, biW, rs_tup, rs_lst, rs_int, rs_str, rs_bl, rs_non, rs_dct, ix_tup, ix_lst, atI_0, atI_1, atI_2, ex_some, ex_some2, ex_int, ex_bl, tru_bl,
  List.getElem?_cons_zero, List.getElem?_cons_succ, List.set_cons_zero, List.set_cons_succ, eqW_str, eqW_int, eqW_bl, cmp_eq, cmp_lt, cmp_gt, cmp_ge, cmp_le, add_int, sub_int, wipeS, Tg.go, Tg.go.goAll, ex_tup, ex_cons, ex_tl, List.length_cons, List.length_nil, Nat.zero_add, Nat.reduceAdd, Nat.reduceLT, true_and, and_true, sizeLine_eq, Nat.reduceLeDiff, Nat.zero_le, ex_or, items_lst, items_tup, eq_self, un_not, cmp_in, len_lst, rd_w, slc_lst, ty_app, ty_get, mtW, if_true, Bool.false_eq_true, if_false]
      exact fin
    · rintro x xs σ S' N ⟨rfl, hx, l, d, y, rfl⟩ hN
      obtain ⟨i, rfl⟩ := hx x (by simp)
      have m1 : ∀ j : Int, binW .Mod (.int j) (.int 2147483629) = some (.int (j % 2147483629)) := fun j => mod_int (by decide)
      have m2 : ∀ j : Int, binW .Mod (.int j) (.int 2147483647) = some (.int (j % 2147483647)) := fun j => mod_int (by decide)
      have m3 : ∀ j : Int, binW .Mult (.int j) (.int 48271) = some (.int (j * 48271)) := fun j => mul_int (by decide)
      have m4 : ∀ j : Int, binW .Mult (.int j) (.int 39373) = some (.int (j * 39373)) := fun j => mul_int (by decide)
      have m5 : ∀ j : Int, binW .Mult (.int j) (.int 2147483629) = some (.int (j * 2147483629)) := fun j => mul_int (by decide)
      unfold b__law_left_1
      simp only [wSs, wS, wE, wEs, wT, wOT, wI, wO, Lit.w, biW, rs_tup, rs_lst, rs_int, rs_str, rs_bl, rs_non, rs_dct, ix_tup, ix_lst, atI_0, atI_1, atI_2, ex_some, ex_some2, ex_int, ex_bl, tru_bl,
  List.getElem?_cons_zero, List.getElem?_cons_succ, List.set_cons_zero, List.set_cons_succ, eqW_str, eqW_int, eqW_bl, cmp_eq, cmp_lt, cmp_gt, cmp_ge, cmp_le, add_int, sub_int, wipeS, Tg.go, Tg.go.goAll, ex_tup, ex_cons, ex_tl, List.length_cons, List.length_nil, Nat.zero_add, Nat.reduceAdd, Nat.reduceLT, true_and, and_true, sizeLine_eq, Nat.reduceLeDiff, Nat.zero_le, ex_or, items_lst, items_tup, eq_self, un_not, cmp_in, len_lst, rd_w, slc_lst, ty_app, ty_get, mtW, if_true, Bool.false_eq_true, if_false, m1, m2, m3, m4, m5]
      exact hN _ _ ⟨rfl, fun x hx' => hx x (by simp [hx']), _, _, _, rfl⟩
    · exact ⟨rfl, fun x hx => by
        unfold rgW at hx
        obtain ⟨i, _, rfl⟩ := List.mem_map.mp hx
        exact ⟨_, rfl⟩, _, _, _, rfl⟩
/-! ### the rows of names -/
def rowOk (w : W) : Prop := ∃ x p g, w = .tup [.str x, .int p, .int g] ∧ nameOk x ∧ 0 ≤ p ∧ p ≤ 3
def zeroRow (w : W) : Prop := ∃ x g, w = .tup [.str x, .int 0, .int g]
structure tableOk (rows : List W) : Prop where
  all : ∀ w ∈ rows, rowOk w
  zero : ∃ w ∈ rows, zeroRow w
  len : rows.length ≤ 100
theorem let_at {i : Int} (h0 : 0 ≤ i) (h1 : i < 26) : ∃ c, ixW (.str "abcdefghijklmnopqrstuvwxyz") (.int i) = some (.str ⟨#[c]⟩) ∧ c < 200 := by
  have hl : ((("abcdefghijklmnopqrstuvwxyz" : String) : Str).cps.toList).length = 26 := by decide +kernel
  have ha : ∀ c ∈ (("abcdefghijklmnopqrstuvwxyz" : String) : Str).cps.toList, c < 200 := by decide +kernel
  have hz : (("abcdefghijklmnopqrstuvwxyz" : String) : Str).length ≤ 1000 := by decide +kernel
  obtain ⟨j, rfl⟩ : ∃ j : Nat, i = (j : Int) := ⟨i.toNat, by omega⟩
  have hj : j < (("abcdefghijklmnopqrstuvwxyz" : String) : Str).cps.toList.length := by rw [hl]; omega
  refine ⟨(("abcdefghijklmnopqrstuvwxyz" : String) : Str).cps.toList[j], ix_str hz ?_, ha _ (List.getElem_mem hj)⟩
  rw [atI_nat]
  exact List.getElem?_eq_getElem hj
theorem kind_at {i : Int} (h0 : 0 ≤ i) (h1 : i < 6) : ∃ ps : List Int, atI [W.lst [.int 0, .int 0, .int 1, .int 2], .lst [.int 0, .int 1, .int 2], .lst [.int 0, .int 0, .int 0, .int 1], .lst [.int 0, .int 2, .int 1, .int 0], .lst [.int 0, .int 1, .int 1, .int 3], .lst [.int 2, .int 0, .int 0, .int 1]] i = some (.lst (ps.map W.int)) ∧
    (∀ p ∈ ps, 0 ≤ p ∧ p ≤ 3) ∧ 0 ∈ ps ∧ ps.length ≤ 4 := by
  have : i = 0 ∨ i = 1 ∨ i = 2 ∨ i = 3 ∨ i = 4 ∨ i = 5 := by omega
  rcases this with rfl | rfl | rfl | rfl | rfl | rfl
  · exact ⟨[0, 0, 1, 2], rfl, by decide, by decide, by decide⟩
  · exact ⟨[0, 1, 2], rfl, by decide, by decide, by decide⟩
  · exact ⟨[0, 0, 0, 1], rfl, by decide, by decide, by decide⟩
  · exact ⟨[0, 2, 1, 0], rfl, by decide, by decide, by decide⟩
  · exact ⟨[0, 1, 1, 3], rfl, by decide, by decide, by decide⟩
  · exact ⟨[2, 0, 0, 1], rfl, by decide, by decide, by decide⟩
theorem sev_at {i : Int} (h0 : 0 ≤ i) (h1 : i < 4) : ∃ q : Int, atI [W.int 0, .int 0, .int 0, .int 7] i = some (.int q) ∧ 0 ≤ q ∧ q ≤ 7 := by
  have : i = 0 ∨ i = 1 ∨ i = 2 ∨ i = 3 := by omega
  rcases this with rfl | rfl | rfl | rfl
  · exact ⟨0, rfl, by decide, by decide⟩
  · exact ⟨0, rfl, by decide, by decide⟩
  · exact ⟨0, rfl, by decide, by decide⟩
  · exact ⟨7, rfl, by decide, by decide⟩
theorem wei_at {i : Int} (h0 : 0 ≤ i) (h1 : i < 6) : ∃ q : Int, atI [W.int 1, .int 1, .int 1, .int 2, .int 3, .int 50] i = some (.int q) := by
  have : i = 0 ∨ i = 1 ∨ i = 2 ∨ i = 3 ∨ i = 4 ∨ i = 5 := by omega
  rcases this with rfl | rfl | rfl | rfl | rfl | rfl <;> exact ⟨_, rfl⟩
theorem word_ok {c e : Nat} {q : Int} (hc : c < 200) (he : e < 200) (h0 : 0 ≤ q) (h1 : q ≤ 7) : nameOk ((⟨#[c]⟩ : Str) ++ Txt.mul ⟨#[e]⟩ q) ∧ (⟨#[c]⟩ : Str).length + (Txt.mul ⟨#[e]⟩ q).length ≤ 1000 := by
  have hm := PyProof.Rows.mul_one_list e q
  have hl : (Txt.mul ⟨#[e]⟩ q).length = q.toNat := by
    have : (Txt.mul ⟨#[e]⟩ q).length = (Txt.mul ⟨#[e]⟩ q).cps.toList.length := by simp [Str.length]
    rw [this, hm, List.length_replicate]
  have h2 : (⟨#[c]⟩ : Str).length = 1 := rfl
  refine ⟨⟨?_, fun d hd => ?_⟩, by omega⟩
  · rw [strLen_append]; omega
  · have e2 : ((⟨#[c]⟩ : Str) ++ Txt.mul ⟨#[e]⟩ q).cps.toList = c :: (Txt.mul ⟨#[e]⟩ q).cps.toList := by
      show ((⟨#[c]⟩ : Str).cps ++ (Txt.mul ⟨#[e]⟩ q).cps).toList = _
      simp
    rw [e2, hm] at hd
    rcases List.mem_cons.mp hd with z | z
    · omega
    · have := List.eq_of_mem_replicate z; omega
theorem s_table {n : Int} (hS : S a = some (.lst [.int n])) (h : ∀ rows m, tableOk rows → Q (.lst rows) (S.set a (.lst [.int m]))) : callK T G0 (k + 2) "_law_table" [.ref a] S Q X := by
  refine o__law_table ?_
  unfold b__law_table
  simp only [wSs, wS, wE, wEs, wT, wOT, wI, wO, Lit.w, biW, rs_tup, rs_lst, rs_int, rs_str, rs_bl, rs_non, rs_dct, ix_tup, ix_lst, atI_0, atI_1, atI_2, ex_some, ex_some2, ex_int, ex_bl, tru_bl,
  List.getElem?_cons_zero, List.getElem?_cons_succ, List.set_cons_zero, List.set_cons_succ, eqW_str, eqW_int, eqW_bl, cmp_eq, cmp_lt, cmp_gt, cmp_ge, cmp_le, add_int, sub_int, wipeS, Tg.go, Tg.go.goAll, ex_tup, ex_cons, ex_tl, List.length_cons, List.length_nil, Nat.zero_add, Nat.reduceAdd, Nat.reduceLT, true_and, and_true, sizeLine_eq, Nat.reduceLeDiff, Nat.zero_le, ex_or, items_lst, items_tup, eq_self, un_not, cmp_in, len_lst, rd_w, slc_lst, ty_app, ty_get, mtW, if_true, Bool.false_eq_true, if_false]
  refine s_digit hS (by decide) (by decide) ?_
  refine s_digit Sto.set_same (by decide) (by decide) ?_
  obtain ⟨i0, i1⟩ := mod_range (n := n / 26) (u := 6) (by decide)
  obtain ⟨ps, hk, hp, hz, hl⟩ := kind_at i0 i1
  simp only [wSs, wS, wE, wEs, wT, wOT, wI, wO, Lit.w, biW, rs_tup, rs_lst, rs_int, rs_str, rs_bl, rs_non, rs_dct, ix_tup, ix_lst, atI_0, atI_1, atI_2, ex_some, ex_some2, ex_int, ex_bl, tru_bl,
  List.getElem?_cons_zero, List.getElem?_cons_succ, List.set_cons_zero, List.set_cons_succ, eqW_str, eqW_int, eqW_bl, cmp_eq, cmp_lt, cmp_gt, cmp_ge, cmp_le, add_int, sub_int, wipeS, Tg.go, Tg.go.goAll, ex_tup, ex_cons, ex_tl, List.length_cons, List.length_nil, Nat.zero_add, Nat.reduceAdd, Nat.reduceLT, true_and, and_true, sizeLine_eq, Nat.reduceLeDiff, Nat.zero_le, ex_or, items_lst, items_tup, eq_self, un_not, cmp_in, len_lst, rd_w, slc_lst, ty_app, ty_get, mtW, if_true, Bool.false_eq_true, if_false, hk]
  intro D hD
  have hS1 : S D = none := by
    have ne : D ≠ a := fun e => by rw [e, Sto.set_same] at hD; cases hD
    rw [Sto.set_ne ne, Sto.set_ne ne] at hD
    exact hD
  have st0 : St2 S a D (n / 26 / 6) [] (((S.set a (.lst [.int (n / 26)])).set a (.lst [.int (n / 26 / 6)])).set D (.lst [])) :=
    ⟨(fun e => by rw [e] at hS; rw [hS] at hS1; cases hS1), by rw [Sto.set_set]⟩
  refine loopF_ind (fun xs σ S' => (∀ x ∈ xs, ∃ i p, x = W.tup [.int i, .int p] ∧ 0 ≤ p ∧ p ≤ 3) ∧ ∃ m rows y5 y6 y7, St2 S a D m rows S' ∧ (∀ w ∈ rows, rowOk w) ∧ ((∃ w ∈ rows, zeroRow w) ∨ ∃ x ∈ xs, ∃ i, x = W.tup [.int i, .int 0]) ∧
    rows.length + xs.length ≤ 100 ∧ σ = [some (.ref a), some (.str "abcdefghijklmnopqrstuvwxyz"), some (.int (n % 26)), some (.lst (ps.map W.int)), some (.ref D), y5, y6, y7]) ?_ ?_ _ _ _ ?_
  · rintro σ S' ⟨_, m, rows, y5, y6, y7, st, ok, zr, len, rfl⟩
    simp only [wSs, wS, wE, wEs, wT, wOT, wI, wO, Lit.w, biW, rs_tup, rs_lst, rs_int, rs_str, rs_bl, rs_non, rs_dct, ix_tup, ix_lst, atI_0, atI_1, atI_2, ex_some, ex_some2, ex_int, ex_bl, tru_bl,
  List.getElem?_cons_zero, List.getElem?_cons_succ, List.set_cons_zero, List.set_cons_succ, eqW_str, eqW_int, eqW_bl, cmp_eq, cmp_lt, cmp_gt, cmp_ge, cmp_le, add_int, sub_int, wipeS, Tg.go, Tg.go.goAll, ex_tup, ex_cons, ex_tl, List.length_cons, List.length_nil, Nat.zero_add, Nat.reduceAdd, Nat.reduceLT, true_and, and_true, sizeLine_eq, Nat.reduceLeDiff, Nat.zero_le, ex_or, items_lst, items_tup, eq_self, un_not, cmp_in, len_lst, rd_w, slc_lst, ty_app, ty_get, mtW, if_true, Bool.false_eq_true, if_false]
    refine ⟨D, rfl, fz_l st.sD ?_⟩
    rw [st.del hS1]
    refine h rows m ⟨ok, ?_, by simpa using len⟩
    rcases zr with z | ⟨x, hx, _⟩
    · exact z
    · cases hx
  · rintro x xs σ S' N ⟨hx, m, rows, y5, y6, y7, st, ok, zr, len, rfl⟩ hN
    obtain ⟨i, p, rfl, p0, p3⟩ := hx _ (List.mem_cons_self ..)
    have m1 : ∀ j : Int, binW .Mod (.int j) (.int 26) = some (.int (j % 26)) := fun j => mod_int (by decide)
    have m2 : ∀ j : Int, binW .Mult (.int 5) (.int j) = some (.int (5 * j)) := fun j => mul_int' (by decide)
    obtain ⟨j0, j1⟩ := mod_range (n := n % 26 + 5 * i) (u := 26) (by decide)
    obtain ⟨c, hc, cl⟩ := let_at j0 j1
    unfold b__law_table_1
    simp only [wSs, wS, wE, wEs, wT, wOT, wI, wO, Lit.w, biW, rs_tup, rs_lst, rs_int, rs_str, rs_bl, rs_non, rs_dct, ix_tup, ix_lst, atI_0, atI_1, atI_2, ex_some, ex_some2, ex_int, ex_bl, tru_bl,
  List.getElem?_cons_zero, List.getElem?_cons_succ, List.set_cons_zero, List.set_cons_succ, eqW_str, eqW_int, eqW_bl, cmp_eq, cmp_lt, cmp_gt, cmp_ge, cmp_le, add_int, sub_int, wipeS, Tg.go, Tg.go.goAll, ex_tup, ex_cons, ex_tl, List.length_cons, List.length_nil, Nat.zero_add, Nat.reduceAdd, Nat.reduceLT, true_and, and_true, sizeLine_eq, Nat.reduceLeDiff, Nat.zero_le, ex_or, items_lst, items_tup, eq_self, un_not, cmp_in, len_lst, rd_w, slc_lst, ty_app, ty_get, mtW, if_true, Bool.false_eq_true, if_false, m1, m2, hc]
    refine s_digit st.sa (by decide) (by decide) ?_
    have st1 := st.seta (m := m / 26)
    obtain ⟨k0, k1⟩ := mod_range (n := m) (u := 26) (by decide)
    obtain ⟨e, he, el⟩ := let_at k0 k1
    simp only [wSs, wS, wE, wEs, wT, wOT, wI, wO, Lit.w, biW, rs_tup, rs_lst, rs_int, rs_str, rs_bl, rs_non, rs_dct, ix_tup, ix_lst, atI_0, atI_1, atI_2, ex_some, ex_some2, ex_int, ex_bl, tru_bl,
  List.getElem?_cons_zero, List.getElem?_cons_succ, List.set_cons_zero, List.set_cons_succ, eqW_str, eqW_int, eqW_bl, cmp_eq, cmp_lt, cmp_gt, cmp_ge, cmp_le, add_int, sub_int, wipeS, Tg.go, Tg.go.goAll, ex_tup, ex_cons, ex_tl, List.length_cons, List.length_nil, Nat.zero_add, Nat.reduceAdd, Nat.reduceLT, true_and, and_true, sizeLine_eq, Nat.reduceLeDiff, Nat.zero_le, ex_or, items_lst, items_tup, eq_self, un_not, cmp_in, len_lst, rd_w, slc_lst, ty_app, ty_get, mtW, if_true, Bool.false_eq_true, if_false, he]
    refine s_digit st1.sa (by decide) (by decide) ?_
    have st2 := st1.seta (m := m / 26 / 4)
    obtain ⟨l0, l1⟩ := mod_range (n := m / 26) (u := 4) (by decide)
    obtain ⟨q, hq, q0, q7⟩ := sev_at l0 l1
    obtain ⟨wok, wl⟩ := word_ok cl el q0 q7
    simp only [wSs, wS, wE, wEs, wT, wOT, wI, wO, Lit.w, biW, rs_tup, rs_lst, rs_int, rs_str, rs_bl, rs_non, rs_dct, ix_tup, ix_lst, atI_0, atI_1, atI_2, ex_some, ex_some2, ex_int, ex_bl, tru_bl,
  List.getElem?_cons_zero, List.getElem?_cons_succ, List.set_cons_zero, List.set_cons_succ, eqW_str, eqW_int, eqW_bl, cmp_eq, cmp_lt, cmp_gt, cmp_ge, cmp_le, add_int, sub_int, wipeS, Tg.go, Tg.go.goAll, ex_tup, ex_cons, ex_tl, List.length_cons, List.length_nil, Nat.zero_add, Nat.reduceAdd, Nat.reduceLT, true_and, and_true, sizeLine_eq, Nat.reduceLeDiff, Nat.zero_le, ex_or, items_lst, items_tup, eq_self, un_not, cmp_in, len_lst, rd_w, slc_lst, ty_app, ty_get, mtW, if_true, Bool.false_eq_true, if_false, hq, mul_str q0 (show q ≤ 1000 by omega) (show (⟨#[e]⟩ : Str).length ≤ 1000 from by show 1 ≤ 1000; omega), add_str wl, rd_r st2.sD]
    refine s_digit st2.sa (by decide) (by decide) ?_
    have st3 := st2.seta (m := m / 26 / 4 / 6)
    obtain ⟨r0, r1⟩ := mod_range (n := m / 26 / 4) (u := 6) (by decide)
    obtain ⟨g, hg⟩ := wei_at r0 r1
    simp only [wSs, wS, wE, wEs, wT, wOT, wI, wO, Lit.w, biW, rs_tup, rs_lst, rs_int, rs_str, rs_bl, rs_non, rs_dct, ix_tup, ix_lst, atI_0, atI_1, atI_2, ex_some, ex_some2, ex_int, ex_bl, tru_bl,
  List.getElem?_cons_zero, List.getElem?_cons_succ, List.set_cons_zero, List.set_cons_succ, eqW_str, eqW_int, eqW_bl, cmp_eq, cmp_lt, cmp_gt, cmp_ge, cmp_le, add_int, sub_int, wipeS, Tg.go, Tg.go.goAll, ex_tup, ex_cons, ex_tl, List.length_cons, List.length_nil, Nat.zero_add, Nat.reduceAdd, Nat.reduceLT, true_and, and_true, sizeLine_eq, Nat.reduceLeDiff, Nat.zero_le, ex_or, items_lst, items_tup, eq_self, un_not, cmp_in, len_lst, rd_w, slc_lst, ty_app, ty_get, mtW, if_true, Bool.false_eq_true, if_false, hg]
    have hlen : rows.length < 16777216 := by
      have := len
      rw [List.length_cons] at this
      omega
    refine ⟨rows, st3.sD, hlen, hN _ _ ⟨fun x hx' => hx x (List.mem_cons_of_mem _ hx'), _, _, _, _, _, st3.setD, fun w hw => ?_, ?_, ?_, rfl⟩⟩
    · rcases List.mem_append.mp hw with z | z
      · exact ok w z
      · rw [List.mem_singleton.mp z]
        exact ⟨_, _, _, rfl, wok, p0, p3⟩
    · rcases zr with ⟨w, hw, z⟩ | ⟨x, hx', i2, ex⟩
      · exact .inl ⟨w, List.mem_append_left _ hw, z⟩
      · rcases List.mem_cons.mp hx' with z | z
        · subst z
          injection ex with ex
          have ep : p = 0 := by injection ex with _ ex2; injection ex2 with ex3; injection ex3
          subst ep
          exact .inl ⟨_, List.mem_append_right _ (List.mem_singleton.mpr rfl), _, _, rfl⟩
        · exact .inr ⟨x, z, i2, ex⟩
    · rw [List.length_append, List.length_singleton]
      rw [List.length_cons] at len
      omega
  · have el : (enumW (ps.map W.int)).length = ps.length := by unfold enumW; simp
    refine ⟨fun x hx => ?_, _, [], _, _, _, st0, (fun w hw => nomatch hw), .inr ?_, by rw [List.length_nil, el]; omega, rfl⟩
    · obtain ⟨j, hj⟩ := List.getElem?_of_mem hx
      rw [enumW_get, List.getElem?_map] at hj
      cases q : ps[j]? with
      | none => rw [q] at hj; cases hj
      | some p =>
        rw [q] at hj
        obtain ⟨p0, p3⟩ := hp p (List.mem_of_getElem? q)
        have hj' : some (W.tup [.int j, .int p]) = some x := hj
        cases hj'
        exact ⟨_, p, rfl, p0, p3⟩
    · obtain ⟨j, hj⟩ := List.getElem?_of_mem hz
      have : (enumW (ps.map W.int))[j]? = some (W.tup [.int j, .int 0]) := by rw [enumW_get, List.getElem?_map, hj]; rfl
      exact ⟨_, List.mem_of_getElem? this, _, rfl⟩
end
end K01

set_option Elab.async false
set_option linter.all false
set_option maxRecDepth 100000
set_option maxHeartbeats 4000000
namespace K01
open PySem PD
open L2 (atI)
/-! ### drawn terms -/
def keep (d : Nat) : W → Bool
  | .tup [_, .int p, _] => decide (1 < (d : Int) + 1) || (p == 0)
  | _ => false
theorem ws_snoc (ts : List PD.Tm) (t : PD.Tm) : Tm.ws (ts ++ [t]) = Tm.ws ts ++ [t.w] := by rw [Tm.ws_eq, Tm.ws_eq, List.map_append]; rfl
theorem fines_snoc {L : Int} {ts : List PD.Tm} {t : PD.Tm} (h : Tm.fines L ts) (h2 : t.fine L) : Tm.fines L (ts ++ [t]) := by
  rw [Tm.fines_iff] at h ⊢
  intro u hu
  rcases List.mem_append.mp hu with z | z
  · exact h u z
  · rw [List.mem_singleton.mp z]; exact h2
theorem hs_snoc {n : Nat} : ∀ {ts : List PD.Tm} {t : PD.Tm}, Tm.hs ts ≤ n → t.h ≤ n → Tm.hs (ts ++ [t]) ≤ n
  | [], t, h, h2 => by show max t.h 0 ≤ n; omega
  | u :: ts, t, h, h2 => by
    have h' : max u.h (Tm.hs ts) ≤ n := h
    have := hs_snoc (ts := ts) (t := t) (n := n) (by omega) h2
    show max u.h (Tm.hs (ts ++ [t])) ≤ n
    omega
def termAt (d : Nat) : Prop := ∀ {k : Nat} {S : Sto} {Q X : QW} {a : Addr} {n L : Int} {rows : List W}, tableOk rows → 0 < L → L ≤ 10 → S a = some (.lst [.int n]) →
    (∀ (t : PD.Tm) m, t.fine L → t.h ≤ d + 1 → Q t.w (S.set a (.lst [.int m]))) → callK T G0 (k + d + 2) "_law_term" [.ref a, .lst rows, .int L, .int ((d : Int) + 1)] S Q X
theorem term_core (d : Nat) (ih : ∀ e, d = e + 1 → termAt e) : termAt d := by
  intro k S Q X a n L rows tk hL hL2 hS h
  refine o__law_term ?_
  unfold b__law_term
  have hl : decide ((0 : Int) < L) = true := decide_eq_true hL
  simp only [wSs, wS, wE, wEs, wT, wOT, wI, wO, Lit.w, biW, rs_tup, rs_lst, rs_int, rs_str, rs_bl, rs_non, rs_dct, ix_tup, ix_lst, atI_0, atI_1, atI_2, ex_some, ex_some2, ex_int, ex_bl, tru_bl,
  List.getElem?_cons_zero, List.getElem?_cons_succ, List.set_cons_zero, List.set_cons_succ, eqW_str, eqW_int, eqW_bl, cmp_eq, cmp_lt, cmp_gt, cmp_ge, cmp_le, add_int, sub_int, wipeS, Tg.go, Tg.go.goAll, ex_tup, ex_cons, ex_tl, List.length_cons, List.length_nil, Nat.zero_add, Nat.reduceAdd, Nat.reduceLT, true_and, and_true, sizeLine_eq, Nat.reduceLeDiff, Nat.zero_le, ex_or, items_lst, items_tup, eq_self, un_not, cmp_in, len_lst, rd_w, slc_lst, ty_app, ty_get, mtW, if_true, Bool.false_eq_true, if_false, hl]
  refine s_digit hS (by decide) (by decide) ?_
  simp only [wSs, wS, wE, wEs, wT, wOT, wI, wO, Lit.w, biW, rs_tup, rs_lst, rs_int, rs_str, rs_bl, rs_non, rs_dct, ix_tup, ix_lst, atI_0, atI_1, atI_2, ex_some, ex_some2, ex_int, ex_bl, tru_bl,
  List.getElem?_cons_zero, List.getElem?_cons_succ, List.set_cons_zero, List.set_cons_succ, eqW_str, eqW_int, eqW_bl, cmp_eq, cmp_lt, cmp_gt, cmp_ge, cmp_le, add_int, sub_int, wipeS, Tg.go, Tg.go.goAll, ex_tup, ex_cons, ex_tl, List.length_cons, List.length_nil, Nat.zero_add, Nat.reduceAdd, Nat.reduceLT, true_and, and_true, sizeLine_eq, Nat.reduceLeDiff, Nat.zero_le, ex_or, items_lst, items_tup, eq_self, un_not, cmp_in, len_lst, rd_w, slc_lst, ty_app, ty_get, mtW, if_true, Bool.false_eq_true, if_false]
  generalize (n % 3 == 0) = b
  cases b <;> simp only [Bool.false_eq_true, if_false, if_true]
  · refine comp_p (fun x => if keep d x = true then some x else none) rowOk ?_ tk.all (by have := tk.len; omega) ?_
    · rintro x S' K ⟨x0, p, g, rfl, _, _, _⟩ hk
      unfold t__law_term_2 e__law_term_3
      simp only [wSs, wS, wE, wEs, wT, wOT, wI, wO, Lit.w, biW, rs_tup, rs_lst, rs_int, rs_str, rs_bl, rs_non, rs_dct, ix_tup, ix_lst, atI_0, atI_1, atI_2, ex_some, ex_some2, ex_int, ex_bl, tru_bl,
  List.getElem?_cons_zero, List.getElem?_cons_succ, List.set_cons_zero, List.set_cons_succ, eqW_str, eqW_int, eqW_bl, cmp_eq, cmp_lt, cmp_gt, cmp_ge, cmp_le, add_int, sub_int, wipeS, Tg.go, Tg.go.goAll, ex_tup, ex_cons, ex_tl, List.length_cons, List.length_nil, Nat.zero_add, Nat.reduceAdd, Nat.reduceLT, true_and, and_true, sizeLine_eq, Nat.reduceLeDiff, Nat.zero_le, ex_or, items_lst, items_tup, eq_self, un_not, cmp_in, len_lst, rd_w, slc_lst, ty_app, ty_get, mtW, if_true, Bool.false_eq_true, if_false]
      have hk : K (if (decide (1 < (d : Int) + 1) || p == 0) = true then some (W.tup [.str x0, .int p, .int g]) else none) S' := hk
      generalize decide (1 < (d : Int) + 1) = b1 at hk ⊢
      generalize (p == 0) = b2 at hk ⊢
      cases b1 <;> cases b2 <;> exact hk
    intro D hD
    generalize hys : List.filterMap (fun x => if keep d x = true then some x else none) rows = ys
    have hmem : ∀ y ∈ ys, y ∈ rows ∧ keep d y = true := fun y hy => by
      rw [← hys] at hy
      obtain ⟨x, hx, e⟩ := List.mem_filterMap.mp hy
      by_cases q : keep d x = true
      · rw [if_pos q] at e; cases e; exact ⟨hx, q⟩
      · rw [if_neg q] at e; cases e
    have hpos : 0 < ys.length := by
      obtain ⟨w, hw, x, g, ew⟩ := tk.zero
      have kw : keep d w = true := by rw [ew]; unfold keep; simp
      have : w ∈ ys := by
        rw [← hys]
        exact List.mem_filterMap.mpr ⟨w, hw, by rw [if_pos kw]⟩
      exact List.length_pos_of_mem this
    have hsm : ys.length ≤ 100 := by
      have := tk.len
      have : ys.length ≤ rows.length := by rw [← hys]; exact List.length_filterMap_le _ _
      omega
    rw [Sto.del_set hD]
    refine s_digit Sto.set_same (by omega) (by omega) ?_
    rw [Sto.set_set]
    obtain ⟨j0, j1⟩ := mod_range (n := n / 3) (u := (ys.length : Int)) (by omega)
    obtain ⟨row, hrow, hat⟩ := at_mem j0 j1
    obtain ⟨hr1, hr2⟩ := hmem row hrow
    obtain ⟨x, p, g, rfl, hx, p0, p3⟩ := tk.all row hr1
    simp only [wSs, wS, wE, wEs, wT, wOT, wI, wO, Lit.w, biW, rs_tup, rs_lst, rs_int, rs_str, rs_bl, rs_non, rs_dct, ix_tup, ix_lst, atI_0, atI_1, atI_2, ex_some, ex_some2, ex_int, ex_bl, tru_bl,
  List.getElem?_cons_zero, List.getElem?_cons_succ, List.set_cons_zero, List.set_cons_succ, eqW_str, eqW_int, eqW_bl, cmp_eq, cmp_lt, cmp_gt, cmp_ge, cmp_le, add_int, sub_int, wipeS, Tg.go, Tg.go.goAll, ex_tup, ex_cons, ex_tl, List.length_cons, List.length_nil, Nat.zero_add, Nat.reduceAdd, Nat.reduceLT, true_and, and_true, sizeLine_eq, Nat.reduceLeDiff, Nat.zero_le, ex_or, items_lst, items_tup, eq_self, un_not, cmp_in, len_lst, rd_w, slc_lst, ty_app, ty_get, mtW, if_true, Bool.false_eq_true, if_false, hat]
    refine ⟨by omega, by omega, ?_⟩
    intro D2 hD2
    have hS2 := Sto.none_of hD2
    have hd : d = 0 → p = 0 := fun z => by
      subst z
      have hr2 : (decide ((1 : Int) < ((0 : Nat) : Int) + 1) || p == 0) = true := hr2
      simpa using hr2
    refine loopC_ind (fun xs acc S' => (xs = [] ∨ ∃ e, d = e + 1) ∧ ∃ m ts, St2 S a D2 m acc S' ∧ acc = Tm.ws ts ∧ Tm.fines L ts ∧ Tm.hs ts ≤ d ∧ ts.length + xs.length ≤ 3) ?_ ?_ ?_ _ _ _ ?_
    · rintro xs acc S' ⟨_, m, ts, st, _⟩
      exact st.sD
    · rintro acc S' ⟨_, m, ts, st, rfl, ft, ht, len⟩
      rw [st.del hS2]
      exact h (.of x ts) m ⟨hx, by simp at len; omega, ft⟩ (by unfold Tm.h; omega)
    · rintro y xs acc S' K ⟨hxs, m, ts, st, rfl, ft, ht, len⟩ _ hK
      obtain ⟨e, rfl⟩ : ∃ e, d = e + 1 := hxs.resolve_left fun z => nomatch z
      unfold e__law_term_1
      have ee : ((e + 1 : Nat) : Int) + 1 - 1 = (e : Int) + 1 := by omega
      simp only [wSs, wS, wE, wEs, wT, wOT, wI, wO, Lit.w, biW, rs_tup, rs_lst, rs_int, rs_str, rs_bl, rs_non, rs_dct, ix_tup, ix_lst, atI_0, atI_1, atI_2, ex_some, ex_some2, ex_int, ex_bl, tru_bl,
  List.getElem?_cons_zero, List.getElem?_cons_succ, List.set_cons_zero, List.set_cons_succ, eqW_str, eqW_int, eqW_bl, cmp_eq, cmp_lt, cmp_gt, cmp_ge, cmp_le, add_int, sub_int, wipeS, Tg.go, Tg.go.goAll, ex_tup, ex_cons, ex_tl, List.length_cons, List.length_nil, Nat.zero_add, Nat.reduceAdd, Nat.reduceLT, true_and, and_true, sizeLine_eq, Nat.reduceLeDiff, Nat.zero_le, ex_or, items_lst, items_tup, eq_self, un_not, cmp_in, len_lst, rd_w, slc_lst, ty_app, ty_get, mtW, if_true, Bool.false_eq_true, if_false, ee]
      refine ih e rfl tk hL hL2 st.sa fun t m2 f1 f2 => ?_
      have st1 := st.seta (m := m2)
      have len' := len
      rw [List.length_cons] at len'
      have lw : (Tm.ws ts).length = ts.length := by rw [Tm.ws_eq, List.length_map]
      exact hK _ _ st1.sD (by rw [lw, sizeLine_eq]; omega) ⟨.inr ⟨e, rfl⟩, m2, ts ++ [t], st1.setD, (ws_snoc ts t).symm, fines_snoc ft f1, hs_snoc ht f2, by rw [List.length_append, List.length_singleton]; omega⟩
    · refine ⟨?_, _, [], St2.newS hD2, rfl, True.intro, Nat.zero_le _, ?_⟩
      · by_cases z : d = 0
        · have := hd z
          subst this
          exact .inl rfl
        · exact .inr ⟨d - 1, by omega⟩
      · unfold rgW
        simp
        omega
  · unfold b__law_term_4
    simp only [wSs, wS, wE, wEs, wT, wOT, wI, wO, Lit.w, biW, rs_tup, rs_lst, rs_int, rs_str, rs_bl, rs_non, rs_dct, ix_tup, ix_lst, atI_0, atI_1, atI_2, ex_some, ex_some2, ex_int, ex_bl, tru_bl,
  List.getElem?_cons_zero, List.getElem?_cons_succ, List.set_cons_zero, List.set_cons_succ, eqW_str, eqW_int, eqW_bl, cmp_eq, cmp_lt, cmp_gt, cmp_ge, cmp_le, add_int, sub_int, wipeS, Tg.go, Tg.go.goAll, ex_tup, ex_cons, ex_tl, List.length_cons, List.length_nil, Nat.zero_add, Nat.reduceAdd, Nat.reduceLT, true_and, and_true, sizeLine_eq, Nat.reduceLeDiff, Nat.zero_le, ex_or, items_lst, items_tup, eq_self, un_not, cmp_in, len_lst, rd_w, slc_lst, ty_app, ty_get, mtW, if_true, Bool.false_eq_true, if_false]
    refine s_digit Sto.set_same hL (by omega) ?_
    rw [Sto.set_set]
    obtain ⟨j0, j1⟩ := mod_range (n := n / 3) (u := L) hL
    exact h (.any (n / 3 % L)) _ ⟨j0, j1⟩ (by unfold Tm.h; omega)
theorem s_term : ∀ d : Nat, termAt d
  | 0 => term_core 0 fun e h => nomatch h
  | d + 1 => term_core (d + 1) fun e h => by cases h; exact s_term d
end K01

set_option Elab.async false
set_option linter.all false
set_option maxRecDepth 100000
set_option maxHeartbeats 4000000
namespace K01
open PySem PD
open L2 (atI)
/-! ### the program's own functions -/
def wholeW (w : W) : Bool := w.dt.isInt && !w.dt.isBool
def nameW : W → Bool
  | .str x => decide (1 ≤ x.length) && decide (x.length ≤ 8) && x.cps.toList.all smallSign
  | _ => false
section
variable {k : Nat} {S : Sto} {Q X : QW} {w : W}
theorem s_is_whole (hw : w.fit = true) (h : Q (.bl (wholeW w)) S) : callK T G0 (k + 1) "is_whole" [w] S Q X := by
  refine o_is_whole ?_
  unfold b_is_whole
  have hd := (W.fit_d w hw).2.1
  simp only [wSs, wS, wE, wEs, wT, wOT, wI, wO, Lit.w, biW, rs_tup, rs_lst, rs_int, rs_str, rs_bl, rs_non, rs_dct, ix_tup, ix_lst, atI_0, atI_1, atI_2, ex_some, ex_some2, ex_int, ex_bl, tru_bl,
  List.getElem?_cons_zero, List.getElem?_cons_succ, List.set_cons_zero, List.set_cons_succ, eqW_str, eqW_int, eqW_bl, cmp_eq, cmp_lt, cmp_gt, cmp_ge, cmp_le, add_int, sub_int, wipeS, Tg.go, Tg.go.goAll, ex_tup, ex_cons, ex_tl, List.length_cons, List.length_nil, Nat.zero_add, Nat.reduceAdd, Nat.reduceLT, true_and, and_true, sizeLine_eq, Nat.reduceLeDiff, Nat.zero_le, ex_or, items_lst, items_tup, eq_self, un_not, cmp_in, len_lst, rd_w, slc_lst, ty_app, ty_get, mtW, if_true, Bool.false_eq_true, if_false, hd, isaD]
  unfold wholeW at h
  generalize w.dt.isInt = b at h ⊢
  cases b <;> simpa using h
theorem s_is_name (hw : w.fit = true) (h : Q (.bl (nameW w)) S) : callK T G0 (k + 1) "is_name" [w] S Q X := by
  refine o_is_name ?_
  unfold b_is_name
  have hd := (W.fit_d w hw).2.1
  cases w with
  | str x =>
    have hx : x.length ≤ 1000 := by simpa [W.fit] using hw
    have e1 : (W.str x).dt.isStr = true := rfl
    simp only [wSs, wS, wE, wEs, wT, wOT, wI, wO, Lit.w, biW, rs_tup, rs_lst, rs_int, rs_str, rs_bl, rs_non, rs_dct, ix_tup, ix_lst, atI_0, atI_1, atI_2, ex_some, ex_some2, ex_int, ex_bl, tru_bl,
  List.getElem?_cons_zero, List.getElem?_cons_succ, List.set_cons_zero, List.set_cons_succ, eqW_str, eqW_int, eqW_bl, cmp_eq, cmp_lt, cmp_gt, cmp_ge, cmp_le, add_int, sub_int, wipeS, Tg.go, Tg.go.goAll, ex_tup, ex_cons, ex_tl, List.length_cons, List.length_nil, Nat.zero_add, Nat.reduceAdd, Nat.reduceLT, true_and, and_true, sizeLine_eq, Nat.reduceLeDiff, Nat.zero_le, ex_or, items_lst, items_tup, eq_self, un_not, cmp_in, len_lst, rd_w, slc_lst, ty_app, ty_get, mtW, if_true, Bool.false_eq_true, if_false, hd, isaD, e1, len_str hx, g_MOST_NAME, items_str]
    have h : Q (.bl (decide (1 ≤ x.length) && decide (x.length ≤ 8) && x.cps.toList.all smallSign)) S := h
    have i1 : decide ((1 : Int) ≤ (x.length : Int)) = decide (1 ≤ x.length) := decide_eq_decide.mpr (by omega)
    have i2 : decide ((x.length : Int) ≤ 8) = decide (x.length ≤ 8) := decide_eq_decide.mpr (by omega)
    rw [i1, i2]
    generalize decide (1 ≤ x.length) = b1 at h ⊢
    generalize decide (x.length ≤ 8) = b2 at h ⊢
    have hl : x.cps.toList.length ≤ 1000 := by
      have : x.cps.toList.length = x.length := by simp [Str.length]
      omega
    cases b1 <;> cases b2 <;> simp only [Bool.false_eq_true, if_false, if_true]
    · exact h
    · exact h
    · exact h
    · refine comp_map (fun c => W.str ⟨#[c]⟩) (fun c => W.bl (smallSign c)) x.cps.toList (fun c hc S' K hK => ?_) hl fun D hD => ?_
      · unfold e_is_name_1
        simp only [wSs, wS, wE, wEs, wT, wOT, wI, wO, Lit.w, biW, rs_tup, rs_lst, rs_int, rs_str, rs_bl, rs_non, rs_dct, ix_tup, ix_lst, atI_0, atI_1, atI_2, ex_some, ex_some2, ex_int, ex_bl, tru_bl,
  List.getElem?_cons_zero, List.getElem?_cons_succ, List.set_cons_zero, List.set_cons_succ, eqW_str, eqW_int, eqW_bl, cmp_eq, cmp_lt, cmp_gt, cmp_ge, cmp_le, add_int, sub_int, wipeS, Tg.go, Tg.go.goAll, ex_tup, ex_cons, ex_tl, List.length_cons, List.length_nil, Nat.zero_add, Nat.reduceAdd, Nat.reduceLT, true_and, and_true, sizeLine_eq, Nat.reduceLeDiff, Nat.zero_le, ex_or, items_lst, items_tup, eq_self, un_not, cmp_in, len_lst, rd_w, slc_lst, ty_app, ty_get, mtW, if_true, Bool.false_eq_true, if_false, g_SMALL, in_str]
        exact hK
      · refine ⟨_, _, rfl, bools_map smallSign _, ?_⟩
        rw [Sto.del_set hD, List.all_map]
        exact h
  | non => simp only [wSs, wS, wE, wEs, wT, wOT, wI, wO, Lit.w, biW, rs_tup, rs_lst, rs_int, rs_str, rs_bl, rs_non, rs_dct, ix_tup, ix_lst, atI_0, atI_1, atI_2, ex_some, ex_some2, ex_int, ex_bl, tru_bl,
  List.getElem?_cons_zero, List.getElem?_cons_succ, List.set_cons_zero, List.set_cons_succ, eqW_str, eqW_int, eqW_bl, cmp_eq, cmp_lt, cmp_gt, cmp_ge, cmp_le, add_int, sub_int, wipeS, Tg.go, Tg.go.goAll, ex_tup, ex_cons, ex_tl, List.length_cons, List.length_nil, Nat.zero_add, Nat.reduceAdd, Nat.reduceLT, true_and, and_true, sizeLine_eq, Nat.reduceLeDiff, Nat.zero_le, ex_or, items_lst, items_tup, eq_self, un_not, cmp_in, len_lst, rd_w, slc_lst, ty_app, ty_get, mtW, if_true, Bool.false_eq_true, if_false, hd, isaD]; exact h
  | bl b => simp only [wSs, wS, wE, wEs, wT, wOT, wI, wO, Lit.w, biW, rs_tup, rs_lst, rs_int, rs_str, rs_bl, rs_non, rs_dct, ix_tup, ix_lst, atI_0, atI_1, atI_2, ex_some, ex_some2, ex_int, ex_bl, tru_bl,
  List.getElem?_cons_zero, List.getElem?_cons_succ, List.set_cons_zero, List.set_cons_succ, eqW_str, eqW_int, eqW_bl, cmp_eq, cmp_lt, cmp_gt, cmp_ge, cmp_le, add_int, sub_int, wipeS, Tg.go, Tg.go.goAll, ex_tup, ex_cons, ex_tl, List.length_cons, List.length_nil, Nat.zero_add, Nat.reduceAdd, Nat.reduceLT, true_and, and_true, sizeLine_eq, Nat.reduceLeDiff, Nat.zero_le, ex_or, items_lst, items_tup, eq_self, un_not, cmp_in, len_lst, rd_w, slc_lst, ty_app, ty_get, mtW, if_true, Bool.false_eq_true, if_false, hd, isaD]; exact h
  | int i => simp only [wSs, wS, wE, wEs, wT, wOT, wI, wO, Lit.w, biW, rs_tup, rs_lst, rs_int, rs_str, rs_bl, rs_non, rs_dct, ix_tup, ix_lst, atI_0, atI_1, atI_2, ex_some, ex_some2, ex_int, ex_bl, tru_bl,
  List.getElem?_cons_zero, List.getElem?_cons_succ, List.set_cons_zero, List.set_cons_succ, eqW_str, eqW_int, eqW_bl, cmp_eq, cmp_lt, cmp_gt, cmp_ge, cmp_le, add_int, sub_int, wipeS, Tg.go, Tg.go.goAll, ex_tup, ex_cons, ex_tl, List.length_cons, List.length_nil, Nat.zero_add, Nat.reduceAdd, Nat.reduceLT, true_and, and_true, sizeLine_eq, Nat.reduceLeDiff, Nat.zero_le, ex_or, items_lst, items_tup, eq_self, un_not, cmp_in, len_lst, rd_w, slc_lst, ty_app, ty_get, mtW, if_true, Bool.false_eq_true, if_false, hd, isaD]; exact h
  | tup xs => simp only [wSs, wS, wE, wEs, wT, wOT, wI, wO, Lit.w, biW, rs_tup, rs_lst, rs_int, rs_str, rs_bl, rs_non, rs_dct, ix_tup, ix_lst, atI_0, atI_1, atI_2, ex_some, ex_some2, ex_int, ex_bl, tru_bl,
  List.getElem?_cons_zero, List.getElem?_cons_succ, List.set_cons_zero, List.set_cons_succ, eqW_str, eqW_int, eqW_bl, cmp_eq, cmp_lt, cmp_gt, cmp_ge, cmp_le, add_int, sub_int, wipeS, Tg.go, Tg.go.goAll, ex_tup, ex_cons, ex_tl, List.length_cons, List.length_nil, Nat.zero_add, Nat.reduceAdd, Nat.reduceLT, true_and, and_true, sizeLine_eq, Nat.reduceLeDiff, Nat.zero_le, ex_or, items_lst, items_tup, eq_self, un_not, cmp_in, len_lst, rd_w, slc_lst, ty_app, ty_get, mtW, if_true, Bool.false_eq_true, if_false, hd, isaD]; exact h
  | lst xs => simp only [wSs, wS, wE, wEs, wT, wOT, wI, wO, Lit.w, biW, rs_tup, rs_lst, rs_int, rs_str, rs_bl, rs_non, rs_dct, ix_tup, ix_lst, atI_0, atI_1, atI_2, ex_some, ex_some2, ex_int, ex_bl, tru_bl,
  List.getElem?_cons_zero, List.getElem?_cons_succ, List.set_cons_zero, List.set_cons_succ, eqW_str, eqW_int, eqW_bl, cmp_eq, cmp_lt, cmp_gt, cmp_ge, cmp_le, add_int, sub_int, wipeS, Tg.go, Tg.go.goAll, ex_tup, ex_cons, ex_tl, List.length_cons, List.length_nil, Nat.zero_add, Nat.reduceAdd, Nat.reduceLT, true_and, and_true, sizeLine_eq, Nat.reduceLeDiff, Nat.zero_le, ex_or, items_lst, items_tup, eq_self, un_not, cmp_in, len_lst, rd_w, slc_lst, ty_app, ty_get, mtW, if_true, Bool.false_eq_true, if_false, hd, isaD]; exact h
  | dct _ _ => simp only [wSs, wS, wE, wEs, wT, wOT, wI, wO, Lit.w, biW, rs_tup, rs_lst, rs_int, rs_str, rs_bl, rs_non, rs_dct, ix_tup, ix_lst, atI_0, atI_1, atI_2, ex_some, ex_some2, ex_int, ex_bl, tru_bl,
  List.getElem?_cons_zero, List.getElem?_cons_succ, List.set_cons_zero, List.set_cons_succ, eqW_str, eqW_int, eqW_bl, cmp_eq, cmp_lt, cmp_gt, cmp_ge, cmp_le, add_int, sub_int, wipeS, Tg.go, Tg.go.goAll, ex_tup, ex_cons, ex_tl, List.length_cons, List.length_nil, Nat.zero_add, Nat.reduceAdd, Nat.reduceLT, true_and, and_true, sizeLine_eq, Nat.reduceLeDiff, Nat.zero_le, ex_or, items_lst, items_tup, eq_self, un_not, cmp_in, len_lst, rd_w, slc_lst, ty_app, ty_get, mtW, if_true, Bool.false_eq_true, if_false, hd, isaD]; exact h
  | ref _ => cases hw
  | exc _ _ _ => cases hw
end
end K01

set_option Elab.async false
set_option linter.all false
set_option maxRecDepth 100000
set_option maxHeartbeats 4000000
namespace K01
open PySem PD
open L2 (atI)
/-! ### room_left, is_term -/
def optW : Option Int → W
  | some i => .int i
  | none => .non
theorem room_zero (d : Nat) (w : W) : roomP d 0 w = none := by
  rw [room_size d w 0 (by omega) (by omega), if_neg (by have := size_pos d w; omega)]
def roomAt (d : Nat) : Prop := ∀ (w : W) (r : Int), w.fit = true → w.deep ≤ 60 → 0 ≤ r → r ≤ 999 → ∀ {k : Nat} {S : Sto} {Q X : QW}, Q (optW (roomP d r w)) S → callK T G0 (k + d + 2) "room_left" [w, .int (d : Int), .int r] S Q X
theorem room_ns {d : Nat} {r : Int} {y : W} {ys : List W} (hy : ∀ h, y ≠ .str h) : roomP (d + 1) r (.tup (y :: ys)) = none := by
  show roomStep (roomP d) r _ = none
  rcases w_view (.tup (y :: ys)) with ⟨h, n, e⟩ | ⟨h, x, ps, e⟩ | ⟨_, z⟩
  · injection e with e; exact (hy _ (List.cons.inj e).1).elim
  · injection e with e; exact (hy _ (List.cons.inj e).1).elim
  · exact z _ _
theorem room_nt {d : Nat} {r : Int} {w : W} (hw : ∀ xs, w ≠ .tup xs) : roomP (d + 1) r w = none := by
  show roomStep (roomP d) r _ = none
  rcases w_view w with ⟨h, n, e⟩ | ⟨h, x, ps, e⟩ | ⟨_, z⟩
  · exact (hw _ e).elim
  · exact (hw _ e).elim
  · exact z _ _
theorem nt_dt {w : W} (hw : w.fit = true) (h : ∀ xs, w ≠ .tup xs) : w.dt.isTuple = false := by
  cases w <;> first | rfl | (cases hw; done) | exact (h _ rfl).elim
theorem ns_dt {w : W} (hw : w.fit = true) (h : ∀ xs, w ≠ .str xs) : w.dt.isStr = false := by
  cases w <;> first | rfl | (cases hw; done) | exact (h _ rfl).elim
theorem is_view (w : W) : (∃ x, w = .str x) ∨ ∀ x, w ≠ .str x := by
  cases w <;> first | exact .inl ⟨_, rfl⟩ | exact .inr fun _ z => nomatch z
theorem it_view (w : W) : (∃ x, w = .tup x) ∨ ∀ x, w ≠ .tup x := by
  cases w <;> first | exact .inl ⟨_, rfl⟩ | exact .inr fun _ z => nomatch z
theorem room_long {d : Nat} {r : Int} {hh : Str} {z1 z2 : W} {zs : List W} (hb : (hh == ("any" : Str)) = true) : roomP (d + 1) r (.tup (.str hh :: z1 :: z2 :: zs)) = none := by
  show roomStep (roomP d) r _ = none
  rcases w_view (.tup (.str hh :: z1 :: z2 :: zs)) with ⟨h, n, e⟩ | ⟨h, x, ps, e⟩ | ⟨_, z⟩
  · injection e with e
    have := congrArg List.length e
    simp at this
  · rw [e]
    injection e with e
    have e1 : hh = h := by have := (List.cons.inj e).1; injection this
    subst e1
    show (if r = 0 then none else if hh == ("any" : Str) then none else if hh == ("of" : Str) then (if okWord x ps then runP (roomP d) ps (r - 1) else none) else none) = none
    rw [hb]
    split <;> rfl
  · exact z _ _
theorem room_let {d : Nat} {r n : Int} {hh : Str} (hb : (hh == ("any" : Str)) = true) (hr : r ≠ 0) : roomP (d + 1) r (.tup [.str hh, .int n]) = if okLet n then some (r - 1) else none := by
  show (if r = 0 then none else if hh == ("any" : Str) then (if okLet n then some (r - 1) else none) else none) = _
  rw [if_neg hr, hb]
  rfl
theorem whole_int {z : W} (hz : z.fit = true) (h : wholeW z = true) : ∃ n, z = .int n := by
  cases z <;> first | exact ⟨_, rfl⟩ | (cases h; done) | (cases hz; done)
theorem room_two {d : Nat} {r : Int} {hh : Str} {z : W} (h : ∀ n, z ≠ .int n) : roomP (d + 1) r (.tup [.str hh, z]) = none := by
  show roomStep (roomP d) r _ = none
  rcases w_view (.tup [.str hh, z]) with ⟨h2, n, e⟩ | ⟨h2, x, ps, e⟩ | ⟨_, q⟩
  · injection e with e; exact (h n (List.cons.inj (List.cons.inj e).2).1).elim
  · injection e with e
    have := congrArg List.length e
    simp at this
  · exact q _ _
theorem room_bad {d : Nat} {r : Int} {hh : Str} {ys : List W} (hb : (hh == ("any" : Str)) = false) (hc : (hh == ("of" : Str)) = false) : roomP (d + 1) r (.tup (.str hh :: ys)) = none := by
  show roomStep (roomP d) r _ = none
  rcases w_view (.tup (.str hh :: ys)) with ⟨h, n, e⟩ | ⟨h, x, ps, e⟩ | ⟨_, z⟩
  · rw [e]
    injection e with e
    have e1 : hh = h := by have := (List.cons.inj e).1; injection this
    subst e1
    show (if r = 0 then none else if hh == ("any" : Str) then (if okLet n then some (r - 1) else none) else none) = none
    rw [hb]
    split <;> rfl
  · rw [e]
    injection e with e
    have e1 : hh = h := by have := (List.cons.inj e).1; injection this
    subst e1
    show (if r = 0 then none else if hh == ("any" : Str) then none else if hh == ("of" : Str) then (if okWord x ps then runP (roomP d) ps (r - 1) else none) else none) = none
    rw [hb, hc]
    split <;> rfl
  · exact z _ _
theorem room_of {d : Nat} {r : Int} {hh : Str} {ys : List W} (hb : (hh == ("any" : Str)) = false) (hy : ∀ x ps, ys ≠ [.str x, .tup ps]) : roomP (d + 1) r (.tup (.str hh :: ys)) = none := by
  show roomStep (roomP d) r _ = none
  rcases w_view (.tup (.str hh :: ys)) with ⟨h, n, e⟩ | ⟨h, x, ps, e⟩ | ⟨_, z⟩
  · rw [e]
    injection e with e
    have e1 : hh = h := by have := (List.cons.inj e).1; injection this
    subst e1
    show (if r = 0 then none else if hh == ("any" : Str) then (if okLet n then some (r - 1) else none) else none) = none
    rw [hb]
    split <;> rfl
  · injection e with e
    exact (hy _ _ (List.cons.inj e).2).elim
  · exact z _ _
theorem room_is {d : Nat} {r : Int} {hh x : Str} {ps : List W} (hb : (hh == ("any" : Str)) = false) (hc : (hh == ("of" : Str)) = true) (hr : r ≠ 0) : roomP (d + 1) r (.tup [.str hh, .str x, .tup ps]) = if okWord x ps then runP (roomP d) ps (r - 1) else none := by
  show (if r = 0 then none else if hh == ("any" : Str) then none else if hh == ("of" : Str) then (if okWord x ps then runP (roomP d) ps (r - 1) else none) else none) = _
  rw [if_neg hr, hb, hc]
  rfl
theorem name_view {w : W} (h : nameW w = true) : ∃ x, w = .str x := by
  cases w <;> first | exact ⟨_, rfl⟩ | cases h
theorem word_of {x : Str} {ps : List W} : okWord x ps = (nameW (.str x) && decide (ps.length ≤ 4)) := by
  show (decide (1 ≤ x.length) && decide (x.length ≤ 8) && decide (ps.length ≤ 4) && x.cps.toList.all smallSign) = ((decide (1 ≤ x.length) && decide (x.length ≤ 8) && x.cps.toList.all smallSign) && decide (ps.length ≤ 4))
  generalize decide (1 ≤ x.length) = a
  generalize decide (x.length ≤ 8) = b
  generalize decide (ps.length ≤ 4) = c
  generalize x.cps.toList.all smallSign = d
  cases a <;> cases b <;> cases c <;> cases d <;> rfl
theorem room_noname {d : Nat} {r : Int} {hh : Str} {z1 z2 : W} (hb : (hh == ("any" : Str)) = false) (hc : (hh == ("of" : Str)) = true) (hr : r ≠ 0) (hn : nameW z1 = false) : roomP (d + 1) r (.tup [.str hh, z1, z2]) = none := by
  by_cases h : ∃ x ps, [z1, z2] = [W.str x, .tup ps]
  · obtain ⟨x, ps, e⟩ := h
    have e1 := (List.cons.inj e).1
    have e2 := (List.cons.inj (List.cons.inj e).2).1
    subst e1; subst e2
    rw [room_is hb hc hr, word_of, hn]
    rfl
  · exact room_of hb fun x ps e => h ⟨x, ps, e⟩
theorem aug_sub {a b : Int} : augW .Sub (.int a) (.int b) = some (.int (a - b)) := rfl
/-- the tuple of a word and what stands behind it -/
theorem room_tup {e : Nat} {r : Int} {hh : Str} {ys : List W} (ih : roomAt e) (hw : (W.tup (.str hh :: ys)).fit = true) (hd : (W.tup (.str hh :: ys)).deep ≤ 60) (hr0 : 0 ≤ r) (hr1 : r ≤ 999) (hr : r ≠ 0) {k : Nat} {S : Sto} {Q X : QW} (h : Q (optW (roomP (e + 1) r (.tup (.str hh :: ys)))) S)
    {σ : Sl} (hσ : σ = [some (.tup (.str hh :: ys)), some (.int ((e + 1 : Nat) : Int)), some (.int r), none, none]) :
    ∃ rest : Sts, b_room_left = .cons (.iff (.or (.val (.cmp .Eq (.loc 1) (.lit (.int 0)))) (.or (.val (.cmp .Eq (.loc 2) (.lit (.int 0)))) (.or (.not (.val (.isa .tuple (.loc 0)))) (.or (.val (.cmp .Eq (.loc 0) (.tup .nil))) (.not (.val (.isa .str (.ix (.loc 0) (.lit (.int 0)))))))))) b_room_left_6 .nil) rest ∧
      wSs ⟨callK T G0 (k + e + 2), G0⟩ rest { nx := fun _ S' => Q .non S', rt := Q, ex := X } σ S := by
  refine ⟨_, rfl, ?_⟩
  subst hσ
  have hfs : W.fits (.str hh :: ys) = true := by
    have h' : (decide ((W.str hh :: ys).length ≤ 1000) && W.fits (.str hh :: ys)) = true := hw
    exact (ba2 h').2
  have hf := fits_iff.mp hfs
  have hdd : ∀ y ∈ ys, y.deep ≤ 59 := fun y hy => by
    have h1 := deeps_mem (ws := .str hh :: ys) (List.mem_cons_of_mem _ hy)
    have h2 : W.deeps (.str hh :: ys) + 1 ≤ 60 := hd
    omega
  simp only [wSs, wS, wE, wEs, wT, wOT, wI, wO, Lit.w, biW, rs_tup, rs_lst, rs_int, rs_str, rs_bl, rs_non, rs_dct, ix_tup, ix_lst, atI_0, atI_1, atI_2, ex_some, ex_some2, ex_int, ex_bl, tru_bl,
  List.getElem?_cons_zero, List.getElem?_cons_succ, List.set_cons_zero, List.set_cons_succ, eqW_str, eqW_int, eqW_bl, cmp_eq, cmp_lt, cmp_gt, cmp_ge, cmp_le, add_int, sub_int, wipeS, Tg.go, Tg.go.goAll, ex_tup, ex_cons, ex_tl, List.length_cons, List.length_nil, Nat.zero_add, Nat.reduceAdd, Nat.reduceLT, true_and, and_true, sizeLine_eq, Nat.reduceLeDiff, Nat.zero_le, ex_or, items_lst, items_tup, eq_self, un_not, cmp_in, len_lst, rd_w, slc_lst, ty_app, ty_get, mtW, if_true, Bool.false_eq_true, if_false]
  cases hb : (hh == ("any" : Str)) with
  | true =>
    simp only [if_true]
    unfold b_room_left_5
    simp only [wSs, wS, wE, wEs, wT, wOT, wI, wO, Lit.w, biW, rs_tup, rs_lst, rs_int, rs_str, rs_bl, rs_non, rs_dct, ix_tup, ix_lst, atI_0, atI_1, atI_2, ex_some, ex_some2, ex_int, ex_bl, tru_bl,
  List.getElem?_cons_zero, List.getElem?_cons_succ, List.set_cons_zero, List.set_cons_succ, eqW_str, eqW_int, eqW_bl, cmp_eq, cmp_lt, cmp_gt, cmp_ge, cmp_le, add_int, sub_int, wipeS, Tg.go, Tg.go.goAll, ex_tup, ex_cons, ex_tl, List.length_cons, List.length_nil, Nat.zero_add, Nat.reduceAdd, Nat.reduceLT, true_and, and_true, sizeLine_eq, Nat.reduceLeDiff, Nat.zero_le, ex_or, items_lst, items_tup, eq_self, un_not, cmp_in, len_lst, rd_w, slc_lst, ty_app, ty_get, mtW, if_true, Bool.false_eq_true, if_false, len_tup]
    match ys, hf, hdd, h with
    | [], hf, hdd, h =>
      simp only [wSs, wS, wE, wEs, wT, wOT, wI, wO, Lit.w, biW, rs_tup, rs_lst, rs_int, rs_str, rs_bl, rs_non, rs_dct, ix_tup, ix_lst, atI_0, atI_1, atI_2, ex_some, ex_some2, ex_int, ex_bl, tru_bl,
  List.getElem?_cons_zero, List.getElem?_cons_succ, List.set_cons_zero, List.set_cons_succ, eqW_str, eqW_int, eqW_bl, cmp_eq, cmp_lt, cmp_gt, cmp_ge, cmp_le, add_int, sub_int, wipeS, Tg.go, Tg.go.goAll, ex_tup, ex_cons, ex_tl, List.length_cons, List.length_nil, Nat.zero_add, Nat.reduceAdd, Nat.reduceLT, true_and, and_true, sizeLine_eq, Nat.reduceLeDiff, Nat.zero_le, ex_or, items_lst, items_tup, eq_self, un_not, cmp_in, len_lst, rd_w, slc_lst, ty_app, ty_get, mtW, if_true, Bool.false_eq_true, if_false]
      exact h
    | [z], hf, hdd, h =>
      have t2 : (((2 : Nat) : Int) == 2) = true := rfl
      simp only [wSs, wS, wE, wEs, wT, wOT, wI, wO, Lit.w, biW, rs_tup, rs_lst, rs_int, rs_str, rs_bl, rs_non, rs_dct, ix_tup, ix_lst, atI_0, atI_1, atI_2, ex_some, ex_some2, ex_int, ex_bl, tru_bl,
  List.getElem?_cons_zero, List.getElem?_cons_succ, List.set_cons_zero, List.set_cons_succ, eqW_str, eqW_int, eqW_bl, cmp_eq, cmp_lt, cmp_gt, cmp_ge, cmp_le, add_int, sub_int, wipeS, Tg.go, Tg.go.goAll, ex_tup, ex_cons, ex_tl, List.length_cons, List.length_nil, Nat.zero_add, Nat.reduceAdd, Nat.reduceLT, true_and, and_true, sizeLine_eq, Nat.reduceLeDiff, Nat.zero_le, ex_or, items_lst, items_tup, eq_self, un_not, cmp_in, len_lst, rd_w, slc_lst, ty_app, ty_get, mtW, if_true, Bool.false_eq_true, if_false, t2]
      have fz := hf z (by simp)
      refine s_is_whole fz ?_
      simp only [wSs, wS, wE, wEs, wT, wOT, wI, wO, Lit.w, biW, rs_tup, rs_lst, rs_int, rs_str, rs_bl, rs_non, rs_dct, ix_tup, ix_lst, atI_0, atI_1, atI_2, ex_some, ex_some2, ex_int, ex_bl, tru_bl,
  List.getElem?_cons_zero, List.getElem?_cons_succ, List.set_cons_zero, List.set_cons_succ, eqW_str, eqW_int, eqW_bl, cmp_eq, cmp_lt, cmp_gt, cmp_ge, cmp_le, add_int, sub_int, wipeS, Tg.go, Tg.go.goAll, ex_tup, ex_cons, ex_tl, List.length_cons, List.length_nil, Nat.zero_add, Nat.reduceAdd, Nat.reduceLT, true_and, and_true, sizeLine_eq, Nat.reduceLeDiff, Nat.zero_le, ex_or, items_lst, items_tup, eq_self, un_not, cmp_in, len_lst, rd_w, slc_lst, ty_app, ty_get, mtW, if_true, Bool.false_eq_true, if_false, g_MOST_LETTER]
      cases hz : wholeW z with
      | false =>
        simp only [Bool.false_eq_true, if_false]
        rw [room_two (fun n e => by subst e; cases hz)] at h
        exact h
      | true =>
        obtain ⟨n, rfl⟩ := whole_int fz hz
        rw [room_let hb hr] at h
        simp only [wSs, wS, wE, wEs, wT, wOT, wI, wO, Lit.w, biW, rs_tup, rs_lst, rs_int, rs_str, rs_bl, rs_non, rs_dct, ix_tup, ix_lst, atI_0, atI_1, atI_2, ex_some, ex_some2, ex_int, ex_bl, tru_bl,
  List.getElem?_cons_zero, List.getElem?_cons_succ, List.set_cons_zero, List.set_cons_succ, eqW_str, eqW_int, eqW_bl, cmp_eq, cmp_lt, cmp_gt, cmp_ge, cmp_le, add_int, sub_int, wipeS, Tg.go, Tg.go.goAll, ex_tup, ex_cons, ex_tl, List.length_cons, List.length_nil, Nat.zero_add, Nat.reduceAdd, Nat.reduceLT, true_and, and_true, sizeLine_eq, Nat.reduceLeDiff, Nat.zero_le, ex_or, items_lst, items_tup, eq_self, un_not, cmp_in, len_lst, rd_w, slc_lst, ty_app, ty_get, mtW, if_true, Bool.false_eq_true, if_false]
        unfold okLet at h
        generalize decide (0 ≤ n) = b1 at h ⊢
        generalize decide (n ≤ 999) = b2 at h ⊢
        cases b1 <;> cases b2 <;> exact h
    | z1 :: z2 :: zs, hf, hdd, h =>
      have t2 : ((((z1 :: z2 :: zs).length + 1 : Nat) : Int) == 2) = false := by
        have : (((z1 :: z2 :: zs).length + 1 : Nat) : Int) ≠ 2 := by simp only [List.length_cons]; omega
        simpa using this
      simp only [t2, Bool.false_eq_true, if_false]
      rw [room_long hb] at h
      exact h
  | false =>
    simp only [Bool.false_eq_true, if_false]
    simp only [wSs, wS, wE, wEs, wT, wOT, wI, wO, Lit.w, biW, rs_tup, rs_lst, rs_int, rs_str, rs_bl, rs_non, rs_dct, ix_tup, ix_lst, atI_0, atI_1, atI_2, ex_some, ex_some2, ex_int, ex_bl, tru_bl,
  List.getElem?_cons_zero, List.getElem?_cons_succ, List.set_cons_zero, List.set_cons_succ, eqW_str, eqW_int, eqW_bl, cmp_eq, cmp_lt, cmp_gt, cmp_ge, cmp_le, add_int, sub_int, wipeS, Tg.go, Tg.go.goAll, ex_tup, ex_cons, ex_tl, List.length_cons, List.length_nil, Nat.zero_add, Nat.reduceAdd, Nat.reduceLT, true_and, and_true, sizeLine_eq, Nat.reduceLeDiff, Nat.zero_le, ex_or, items_lst, items_tup, eq_self, un_not, cmp_in, len_lst, rd_w, slc_lst, ty_app, ty_get, mtW, if_true, Bool.false_eq_true, if_false, cmp_ne, Option.map_some]
    cases hc : (hh == ("of" : Str)) with
    | false =>
      simp only [Bool.not_false, if_true]
      unfold b_room_left_4
      simp only [wSs, wS, wE, wEs, wT, wOT, wI, wO, Lit.w, biW, rs_tup, rs_lst, rs_int, rs_str, rs_bl, rs_non, rs_dct, ix_tup, ix_lst, atI_0, atI_1, atI_2, ex_some, ex_some2, ex_int, ex_bl, tru_bl,
  List.getElem?_cons_zero, List.getElem?_cons_succ, List.set_cons_zero, List.set_cons_succ, eqW_str, eqW_int, eqW_bl, cmp_eq, cmp_lt, cmp_gt, cmp_ge, cmp_le, add_int, sub_int, wipeS, Tg.go, Tg.go.goAll, ex_tup, ex_cons, ex_tl, List.length_cons, List.length_nil, Nat.zero_add, Nat.reduceAdd, Nat.reduceLT, true_and, and_true, sizeLine_eq, Nat.reduceLeDiff, Nat.zero_le, ex_or, items_lst, items_tup, eq_self, un_not, cmp_in, len_lst, rd_w, slc_lst, ty_app, ty_get, mtW, if_true, Bool.false_eq_true, if_false]
      rw [room_bad hb hc] at h
      exact h
    | true =>
      simp only [Bool.not_true, Bool.false_eq_true, if_false]
      simp only [wSs, wS, wE, wEs, wT, wOT, wI, wO, Lit.w, biW, rs_tup, rs_lst, rs_int, rs_str, rs_bl, rs_non, rs_dct, ix_tup, ix_lst, atI_0, atI_1, atI_2, ex_some, ex_some2, ex_int, ex_bl, tru_bl,
  List.getElem?_cons_zero, List.getElem?_cons_succ, List.set_cons_zero, List.set_cons_succ, eqW_str, eqW_int, eqW_bl, cmp_eq, cmp_lt, cmp_gt, cmp_ge, cmp_le, add_int, sub_int, wipeS, Tg.go, Tg.go.goAll, ex_tup, ex_cons, ex_tl, List.length_cons, List.length_nil, Nat.zero_add, Nat.reduceAdd, Nat.reduceLT, true_and, and_true, sizeLine_eq, Nat.reduceLeDiff, Nat.zero_le, ex_or, items_lst, items_tup, eq_self, un_not, cmp_in, len_lst, rd_w, slc_lst, ty_app, ty_get, mtW, if_true, Bool.false_eq_true, if_false, len_tup, cmp_ne, Option.map_some]
      match ys, hf, hdd, h with
      | [], hf, hdd, h =>
        have t3 : (!((([] : List W).length + 1 : Nat) : Int) == 3) = true := rfl
        simp only [t3, if_true]
        unfold b_room_left_4
        simp only [wSs, wS, wE, wEs, wT, wOT, wI, wO, Lit.w, biW, rs_tup, rs_lst, rs_int, rs_str, rs_bl, rs_non, rs_dct, ix_tup, ix_lst, atI_0, atI_1, atI_2, ex_some, ex_some2, ex_int, ex_bl, tru_bl,
  List.getElem?_cons_zero, List.getElem?_cons_succ, List.set_cons_zero, List.set_cons_succ, eqW_str, eqW_int, eqW_bl, cmp_eq, cmp_lt, cmp_gt, cmp_ge, cmp_le, add_int, sub_int, wipeS, Tg.go, Tg.go.goAll, ex_tup, ex_cons, ex_tl, List.length_cons, List.length_nil, Nat.zero_add, Nat.reduceAdd, Nat.reduceLT, true_and, and_true, sizeLine_eq, Nat.reduceLeDiff, Nat.zero_le, ex_or, items_lst, items_tup, eq_self, un_not, cmp_in, len_lst, rd_w, slc_lst, ty_app, ty_get, mtW, if_true, Bool.false_eq_true, if_false]
        rw [room_of hb (fun x ps e => by cases e)] at h
        exact h
      | [z], hf, hdd, h =>
        have t3 : (!((([z] : List W).length + 1 : Nat) : Int) == 3) = true := rfl
        simp only [t3, if_true]
        unfold b_room_left_4
        simp only [wSs, wS, wE, wEs, wT, wOT, wI, wO, Lit.w, biW, rs_tup, rs_lst, rs_int, rs_str, rs_bl, rs_non, rs_dct, ix_tup, ix_lst, atI_0, atI_1, atI_2, ex_some, ex_some2, ex_int, ex_bl, tru_bl,
  List.getElem?_cons_zero, List.getElem?_cons_succ, List.set_cons_zero, List.set_cons_succ, eqW_str, eqW_int, eqW_bl, cmp_eq, cmp_lt, cmp_gt, cmp_ge, cmp_le, add_int, sub_int, wipeS, Tg.go, Tg.go.goAll, ex_tup, ex_cons, ex_tl, List.length_cons, List.length_nil, Nat.zero_add, Nat.reduceAdd, Nat.reduceLT, true_and, and_true, sizeLine_eq, Nat.reduceLeDiff, Nat.zero_le, ex_or, items_lst, items_tup, eq_self, un_not, cmp_in, len_lst, rd_w, slc_lst, ty_app, ty_get, mtW, if_true, Bool.false_eq_true, if_false]
        rw [room_of hb (fun x ps e => by have := congrArg List.length e; simp at this)] at h
        exact h
      | z1 :: z2 :: z3 :: zs, hf, hdd, h =>
        have t3 : (!(((z1 :: z2 :: z3 :: zs).length + 1 : Nat) : Int) == 3) = true := by
          have : (((z1 :: z2 :: z3 :: zs).length + 1 : Nat) : Int) ≠ 3 := by simp only [List.length_cons]; omega
          simpa using this
        simp only [t3, if_true]
        unfold b_room_left_4
        simp only [wSs, wS, wE, wEs, wT, wOT, wI, wO, Lit.w, biW, rs_tup, rs_lst, rs_int, rs_str, rs_bl, rs_non, rs_dct, ix_tup, ix_lst, atI_0, atI_1, atI_2, ex_some, ex_some2, ex_int, ex_bl, tru_bl,
  List.getElem?_cons_zero, List.getElem?_cons_succ, List.set_cons_zero, List.set_cons_succ, eqW_str, eqW_int, eqW_bl, cmp_eq, cmp_lt, cmp_gt, cmp_ge, cmp_le, add_int, sub_int, wipeS, Tg.go, Tg.go.goAll, ex_tup, ex_cons, ex_tl, List.length_cons, List.length_nil, Nat.zero_add, Nat.reduceAdd, Nat.reduceLT, true_and, and_true, sizeLine_eq, Nat.reduceLeDiff, Nat.zero_le, ex_or, items_lst, items_tup, eq_self, un_not, cmp_in, len_lst, rd_w, slc_lst, ty_app, ty_get, mtW, if_true, Bool.false_eq_true, if_false]
        rw [room_of hb (fun x ps e => by have := congrArg List.length e; simp at this)] at h
        exact h
      | [z1, z2], hf, hdd, h =>
        have t3 : (!((([z1, z2] : List W).length + 1 : Nat) : Int) == 3) = false := rfl
        simp only [t3, Bool.false_eq_true, if_false]
        simp only [wSs, wS, wE, wEs, wT, wOT, wI, wO, Lit.w, biW, rs_tup, rs_lst, rs_int, rs_str, rs_bl, rs_non, rs_dct, ix_tup, ix_lst, atI_0, atI_1, atI_2, ex_some, ex_some2, ex_int, ex_bl, tru_bl,
  List.getElem?_cons_zero, List.getElem?_cons_succ, List.set_cons_zero, List.set_cons_succ, eqW_str, eqW_int, eqW_bl, cmp_eq, cmp_lt, cmp_gt, cmp_ge, cmp_le, add_int, sub_int, wipeS, Tg.go, Tg.go.goAll, ex_tup, ex_cons, ex_tl, List.length_cons, List.length_nil, Nat.zero_add, Nat.reduceAdd, Nat.reduceLT, true_and, and_true, sizeLine_eq, Nat.reduceLeDiff, Nat.zero_le, ex_or, items_lst, items_tup, eq_self, un_not, cmp_in, len_lst, rd_w, slc_lst, ty_app, ty_get, mtW, if_true, Bool.false_eq_true, if_false]
        refine s_is_name (hf z1 (by simp)) ?_
        simp only [wSs, wS, wE, wEs, wT, wOT, wI, wO, Lit.w, biW, rs_tup, rs_lst, rs_int, rs_str, rs_bl, rs_non, rs_dct, ix_tup, ix_lst, atI_0, atI_1, atI_2, ex_some, ex_some2, ex_int, ex_bl, tru_bl,
  List.getElem?_cons_zero, List.getElem?_cons_succ, List.set_cons_zero, List.set_cons_succ, eqW_str, eqW_int, eqW_bl, cmp_eq, cmp_lt, cmp_gt, cmp_ge, cmp_le, add_int, sub_int, wipeS, Tg.go, Tg.go.goAll, ex_tup, ex_cons, ex_tl, List.length_cons, List.length_nil, Nat.zero_add, Nat.reduceAdd, Nat.reduceLT, true_and, and_true, sizeLine_eq, Nat.reduceLeDiff, Nat.zero_le, ex_or, items_lst, items_tup, eq_self, un_not, cmp_in, len_lst, rd_w, slc_lst, ty_app, ty_get, mtW, if_true, Bool.false_eq_true, if_false]
        cases hz1 : nameW z1 with
        | false =>
          simp only [Bool.not_false, if_true]
          unfold b_room_left_4
          simp only [wSs, wS, wE, wEs, wT, wOT, wI, wO, Lit.w, biW, rs_tup, rs_lst, rs_int, rs_str, rs_bl, rs_non, rs_dct, ix_tup, ix_lst, atI_0, atI_1, atI_2, ex_some, ex_some2, ex_int, ex_bl, tru_bl,
  List.getElem?_cons_zero, List.getElem?_cons_succ, List.set_cons_zero, List.set_cons_succ, eqW_str, eqW_int, eqW_bl, cmp_eq, cmp_lt, cmp_gt, cmp_ge, cmp_le, add_int, sub_int, wipeS, Tg.go, Tg.go.goAll, ex_tup, ex_cons, ex_tl, List.length_cons, List.length_nil, Nat.zero_add, Nat.reduceAdd, Nat.reduceLT, true_and, and_true, sizeLine_eq, Nat.reduceLeDiff, Nat.zero_le, ex_or, items_lst, items_tup, eq_self, un_not, cmp_in, len_lst, rd_w, slc_lst, ty_app, ty_get, mtW, if_true, Bool.false_eq_true, if_false]
          rw [room_noname hb hc hr hz1] at h
          exact h
        | true =>
          obtain ⟨x, rfl⟩ := name_view hz1
          simp only [Bool.not_true, Bool.false_eq_true, if_false]
          have f2 := hf z2 (by simp)
          have d2 := (W.fit_d z2 f2).2.1
          simp only [wSs, wS, wE, wEs, wT, wOT, wI, wO, Lit.w, biW, rs_tup, rs_lst, rs_int, rs_str, rs_bl, rs_non, rs_dct, ix_tup, ix_lst, atI_0, atI_1, atI_2, ex_some, ex_some2, ex_int, ex_bl, tru_bl,
  List.getElem?_cons_zero, List.getElem?_cons_succ, List.set_cons_zero, List.set_cons_succ, eqW_str, eqW_int, eqW_bl, cmp_eq, cmp_lt, cmp_gt, cmp_ge, cmp_le, add_int, sub_int, wipeS, Tg.go, Tg.go.goAll, ex_tup, ex_cons, ex_tl, List.length_cons, List.length_nil, Nat.zero_add, Nat.reduceAdd, Nat.reduceLT, true_and, and_true, sizeLine_eq, Nat.reduceLeDiff, Nat.zero_le, ex_or, items_lst, items_tup, eq_self, un_not, cmp_in, len_lst, rd_w, slc_lst, ty_app, ty_get, mtW, if_true, Bool.false_eq_true, if_false, d2, isaD]
          rcases it_view z2 with ⟨ps, rfl⟩ | nz
          · have e3 : (W.tup ps).dt.isTuple = true := rfl
            simp only [e3, Bool.not_true, Bool.false_eq_true, if_false]
            rw [room_is hb hc hr, word_of, hz1] at h
            simp only [wSs, wS, wE, wEs, wT, wOT, wI, wO, Lit.w, biW, rs_tup, rs_lst, rs_int, rs_str, rs_bl, rs_non, rs_dct, ix_tup, ix_lst, atI_0, atI_1, atI_2, ex_some, ex_some2, ex_int, ex_bl, tru_bl,
  List.getElem?_cons_zero, List.getElem?_cons_succ, List.set_cons_zero, List.set_cons_succ, eqW_str, eqW_int, eqW_bl, cmp_eq, cmp_lt, cmp_gt, cmp_ge, cmp_le, add_int, sub_int, wipeS, Tg.go, Tg.go.goAll, ex_tup, ex_cons, ex_tl, List.length_cons, List.length_nil, Nat.zero_add, Nat.reduceAdd, Nat.reduceLT, true_and, and_true, sizeLine_eq, Nat.reduceLeDiff, Nat.zero_le, ex_or, items_lst, items_tup, eq_self, un_not, cmp_in, len_lst, rd_w, slc_lst, ty_app, ty_get, mtW, if_true, Bool.false_eq_true, if_false, g_MOST_PARTS, len_tup]
            by_cases hl : ps.length ≤ 4
            · have e4 : decide ((4 : Int) < (ps.length : Int)) = false := decide_eq_false (by omega)
              simp only [e4, Bool.false_eq_true, if_false]
              simp only [wSs, wS, wE, wEs, wT, wOT, wI, wO, Lit.w, biW, rs_tup, rs_lst, rs_int, rs_str, rs_bl, rs_non, rs_dct, ix_tup, ix_lst, atI_0, atI_1, atI_2, ex_some, ex_some2, ex_int, ex_bl, tru_bl,
  List.getElem?_cons_zero, List.getElem?_cons_succ, List.set_cons_zero, List.set_cons_succ, eqW_str, eqW_int, eqW_bl, cmp_eq, cmp_lt, cmp_gt, cmp_ge, cmp_le, add_int, sub_int, wipeS, Tg.go, Tg.go.goAll, ex_tup, ex_cons, ex_tl, List.length_cons, List.length_nil, Nat.zero_add, Nat.reduceAdd, Nat.reduceLT, true_and, and_true, sizeLine_eq, Nat.reduceLeDiff, Nat.zero_le, ex_or, items_lst, items_tup, eq_self, un_not, cmp_in, len_lst, rd_w, slc_lst, ty_app, ty_get, mtW, if_true, Bool.false_eq_true, if_false, aug_sub]
              rw [decide_eq_true hl] at h
              have h : Q (optW (runP (roomP e) ps (r - 1))) S := h
              have fps : ∀ p ∈ ps, p.fit = true ∧ p.deep ≤ 60 := fun p hp => by
                have f3 : (decide (ps.length ≤ 1000) && W.fits ps) = true := f2
                have d3 : W.deeps ps + 1 ≤ 59 := hdd (.tup ps) (by simp)
                have d4 := deeps_mem hp
                exact ⟨fits_iff.mp (ba2 f3).2 p hp, by omega⟩
              refine loopF_ind (fun xs σ S' => S' = S ∧ (∀ p ∈ xs, p.fit = true ∧ p.deep ≤ 60) ∧ ∃ r' y3 y4, 0 ≤ r' ∧ r' ≤ 999 ∧ σ = [some (.tup [.str hh, .str x, .tup ps]), some (.int ((e + 1 : Nat) : Int)), some (.int r'), y3, y4] ∧ runP (roomP e) xs r' = runP (roomP e) ps (r - 1)) ?_ ?_ _ _ _ ?_
              · rintro σ S' ⟨rfl, _, r', y3, y4, _, _, rfl, er⟩
                simp only [wSs, wS, wE, wEs, wT, wOT, wI, wO, Lit.w, biW, rs_tup, rs_lst, rs_int, rs_str, rs_bl, rs_non, rs_dct, ix_tup, ix_lst, atI_0, atI_1, atI_2, ex_some, ex_some2, ex_int, ex_bl, tru_bl,
  List.getElem?_cons_zero, List.getElem?_cons_succ, List.set_cons_zero, List.set_cons_succ, eqW_str, eqW_int, eqW_bl, cmp_eq, cmp_lt, cmp_gt, cmp_ge, cmp_le, add_int, sub_int, wipeS, Tg.go, Tg.go.goAll, ex_tup, ex_cons, ex_tl, List.length_cons, List.length_nil, Nat.zero_add, Nat.reduceAdd, Nat.reduceLT, true_and, and_true, sizeLine_eq, Nat.reduceLeDiff, Nat.zero_le, ex_or, items_lst, items_tup, eq_self, un_not, cmp_in, len_lst, rd_w, slc_lst, ty_app, ty_get, mtW, if_true, Bool.false_eq_true, if_false]
                rw [← er] at h
                exact h
              · rintro p xs σ S' N ⟨rfl, fp, r', y3, y4, r0, r1, rfl, er⟩ hN
                unfold b_room_left_2
                have ee : ((e + 1 : Nat) : Int) - 1 = (e : Int) := by omega
                simp only [wSs, wS, wE, wEs, wT, wOT, wI, wO, Lit.w, biW, rs_tup, rs_lst, rs_int, rs_str, rs_bl, rs_non, rs_dct, ix_tup, ix_lst, atI_0, atI_1, atI_2, ex_some, ex_some2, ex_int, ex_bl, tru_bl,
  List.getElem?_cons_zero, List.getElem?_cons_succ, List.set_cons_zero, List.set_cons_succ, eqW_str, eqW_int, eqW_bl, cmp_eq, cmp_lt, cmp_gt, cmp_ge, cmp_le, add_int, sub_int, wipeS, Tg.go, Tg.go.goAll, ex_tup, ex_cons, ex_tl, List.length_cons, List.length_nil, Nat.zero_add, Nat.reduceAdd, Nat.reduceLT, true_and, and_true, sizeLine_eq, Nat.reduceLeDiff, Nat.zero_le, ex_or, items_lst, items_tup, eq_self, un_not, cmp_in, len_lst, rd_w, slc_lst, ty_app, ty_get, mtW, if_true, Bool.false_eq_true, if_false, ee]
                obtain ⟨p1, p2⟩ := fp p (by simp)
                refine ih p r' p1 p2 r0 r1 ?_
                have es : runP (roomP e) (p :: xs) r' = match roomP e r' p with | some r2 => runP (roomP e) xs r2 | none => none := rfl
                rw [es, room_size e p r' r0 r1] at er
                rw [room_size e p r' r0 r1]
                have sp := size_pos e p
                by_cases hle : sizeL e p ≤ r'
                · rw [if_pos hle] at er ⊢
                  have er : runP (roomP e) xs (r' - sizeL e p) = runP (roomP e) ps (r - 1) := er
                  unfold optW
                  have c1 : cmpW .Is (W.int (r' - sizeL e p)) .non = some false := rfl
                  simp only [wSs, wS, wE, wEs, wT, wOT, wI, wO, Lit.w, biW, rs_tup, rs_lst, rs_int, rs_str, rs_bl, rs_non, rs_dct, ix_tup, ix_lst, atI_0, atI_1, atI_2, ex_some, ex_some2, ex_int, ex_bl, tru_bl,
  List.getElem?_cons_zero, List.getElem?_cons_succ, List.set_cons_zero, List.set_cons_succ, eqW_str, eqW_int, eqW_bl, cmp_eq, cmp_lt, cmp_gt, cmp_ge, cmp_le, add_int, sub_int, wipeS, Tg.go, Tg.go.goAll, ex_tup, ex_cons, ex_tl, List.length_cons, List.length_nil, Nat.zero_add, Nat.reduceAdd, Nat.reduceLT, true_and, and_true, sizeLine_eq, Nat.reduceLeDiff, Nat.zero_le, ex_or, items_lst, items_tup, eq_self, un_not, cmp_in, len_lst, rd_w, slc_lst, ty_app, ty_get, mtW, if_true, Bool.false_eq_true, if_false, c1]
                  exact hN _ _ ⟨rfl, fun y hy => fp y (by simp [hy]), _, _, _, by omega, by omega, rfl, er⟩
                · rw [if_neg hle] at er ⊢
                  have er : none = runP (roomP e) ps (r - 1) := er
                  unfold optW
                  have c1 : cmpW .Is W.non .non = some true := rfl
                  simp only [wSs, wS, wE, wEs, wT, wOT, wI, wO, Lit.w, biW, rs_tup, rs_lst, rs_int, rs_str, rs_bl, rs_non, rs_dct, ix_tup, ix_lst, atI_0, atI_1, atI_2, ex_some, ex_some2, ex_int, ex_bl, tru_bl,
  List.getElem?_cons_zero, List.getElem?_cons_succ, List.set_cons_zero, List.set_cons_succ, eqW_str, eqW_int, eqW_bl, cmp_eq, cmp_lt, cmp_gt, cmp_ge, cmp_le, add_int, sub_int, wipeS, Tg.go, Tg.go.goAll, ex_tup, ex_cons, ex_tl, List.length_cons, List.length_nil, Nat.zero_add, Nat.reduceAdd, Nat.reduceLT, true_and, and_true, sizeLine_eq, Nat.reduceLeDiff, Nat.zero_le, ex_or, items_lst, items_tup, eq_self, un_not, cmp_in, len_lst, rd_w, slc_lst, ty_app, ty_get, mtW, if_true, Bool.false_eq_true, if_false, c1]
                  unfold b_room_left_1
                  simp only [wSs, wS, wE, wEs, wT, wOT, wI, wO, Lit.w, biW, rs_tup, rs_lst, rs_int, rs_str, rs_bl, rs_non, rs_dct, ix_tup, ix_lst, atI_0, atI_1, atI_2, ex_some, ex_some2, ex_int, ex_bl, tru_bl,
  List.getElem?_cons_zero, List.getElem?_cons_succ, List.set_cons_zero, List.set_cons_succ, eqW_str, eqW_int, eqW_bl, cmp_eq, cmp_lt, cmp_gt, cmp_ge, cmp_le, add_int, sub_int, wipeS, Tg.go, Tg.go.goAll, ex_tup, ex_cons, ex_tl, List.length_cons, List.length_nil, Nat.zero_add, Nat.reduceAdd, Nat.reduceLT, true_and, and_true, sizeLine_eq, Nat.reduceLeDiff, Nat.zero_le, ex_or, items_lst, items_tup, eq_self, un_not, cmp_in, len_lst, rd_w, slc_lst, ty_app, ty_get, mtW, if_true, Bool.false_eq_true, if_false]
                  rw [← er] at h
                  exact h
              · exact ⟨rfl, fps, _, _, _, by omega, by omega, rfl, rfl⟩
            · have e4 : decide ((4 : Int) < (ps.length : Int)) = true := decide_eq_true (by omega)
              simp only [e4, if_true]
              unfold b_room_left_3
              simp only [wSs, wS, wE, wEs, wT, wOT, wI, wO, Lit.w, biW, rs_tup, rs_lst, rs_int, rs_str, rs_bl, rs_non, rs_dct, ix_tup, ix_lst, atI_0, atI_1, atI_2, ex_some, ex_some2, ex_int, ex_bl, tru_bl,
  List.getElem?_cons_zero, List.getElem?_cons_succ, List.set_cons_zero, List.set_cons_succ, eqW_str, eqW_int, eqW_bl, cmp_eq, cmp_lt, cmp_gt, cmp_ge, cmp_le, add_int, sub_int, wipeS, Tg.go, Tg.go.goAll, ex_tup, ex_cons, ex_tl, List.length_cons, List.length_nil, Nat.zero_add, Nat.reduceAdd, Nat.reduceLT, true_and, and_true, sizeLine_eq, Nat.reduceLeDiff, Nat.zero_le, ex_or, items_lst, items_tup, eq_self, un_not, cmp_in, len_lst, rd_w, slc_lst, ty_app, ty_get, mtW, if_true, Bool.false_eq_true, if_false]
              rw [decide_eq_false hl] at h
              exact h
          · have e5 := nt_dt f2 nz
            simp only [e5, Bool.not_false, if_true]
            unfold b_room_left_4
            simp only [wSs, wS, wE, wEs, wT, wOT, wI, wO, Lit.w, biW, rs_tup, rs_lst, rs_int, rs_str, rs_bl, rs_non, rs_dct, ix_tup, ix_lst, atI_0, atI_1, atI_2, ex_some, ex_some2, ex_int, ex_bl, tru_bl,
  List.getElem?_cons_zero, List.getElem?_cons_succ, List.set_cons_zero, List.set_cons_succ, eqW_str, eqW_int, eqW_bl, cmp_eq, cmp_lt, cmp_gt, cmp_ge, cmp_le, add_int, sub_int, wipeS, Tg.go, Tg.go.goAll, ex_tup, ex_cons, ex_tl, List.length_cons, List.length_nil, Nat.zero_add, Nat.reduceAdd, Nat.reduceLT, true_and, and_true, sizeLine_eq, Nat.reduceLeDiff, Nat.zero_le, ex_or, items_lst, items_tup, eq_self, un_not, cmp_in, len_lst, rd_w, slc_lst, ty_app, ty_get, mtW, if_true, Bool.false_eq_true, if_false]
            rw [room_of hb (fun x2 ps e => nz ps (List.cons.inj (List.cons.inj e).2).1)] at h
            exact h
end K01

set_option Elab.async false
set_option linter.all false
set_option maxRecDepth 100000
set_option maxHeartbeats 4000000
namespace K01
open PySem PD
open L2 (atI)
theorem room_core (d : Nat) (ih : ∀ e, d = e + 1 → roomAt e) : roomAt d := by
  intro w r hw hd hr0 hr1 k S Q X h
  refine o_room_left ?_
  have hdd := (W.fit_d w hw).2.1
  cases d with
  | zero =>
    unfold b_room_left
    have e1 : (((0 : Nat) : Int) == 0) = true := rfl
    simp only [wSs, wS, wE, wEs, wT, wOT, wI, wO, Lit.w, biW, rs_tup, rs_lst, rs_int, rs_str, rs_bl, rs_non, rs_dct, ix_tup, ix_lst, atI_0, atI_1, atI_2, ex_some, ex_some2, ex_int, ex_bl, tru_bl,
  List.getElem?_cons_zero, List.getElem?_cons_succ, List.set_cons_zero, List.set_cons_succ, eqW_str, eqW_int, eqW_bl, cmp_eq, cmp_lt, cmp_gt, cmp_ge, cmp_le, add_int, sub_int, wipeS, Tg.go, Tg.go.goAll, ex_tup, ex_cons, ex_tl, List.length_cons, List.length_nil, Nat.zero_add, Nat.reduceAdd, Nat.reduceLT, true_and, and_true, sizeLine_eq, Nat.reduceLeDiff, Nat.zero_le, ex_or, items_lst, items_tup, eq_self, un_not, cmp_in, len_lst, rd_w, slc_lst, ty_app, ty_get, mtW, if_true, Bool.false_eq_true, if_false, e1]
    unfold b_room_left_6
    simp only [wSs, wS, wE, wEs, wT, wOT, wI, wO, Lit.w, biW, rs_tup, rs_lst, rs_int, rs_str, rs_bl, rs_non, rs_dct, ix_tup, ix_lst, atI_0, atI_1, atI_2, ex_some, ex_some2, ex_int, ex_bl, tru_bl,
  List.getElem?_cons_zero, List.getElem?_cons_succ, List.set_cons_zero, List.set_cons_succ, eqW_str, eqW_int, eqW_bl, cmp_eq, cmp_lt, cmp_gt, cmp_ge, cmp_le, add_int, sub_int, wipeS, Tg.go, Tg.go.goAll, ex_tup, ex_cons, ex_tl, List.length_cons, List.length_nil, Nat.zero_add, Nat.reduceAdd, Nat.reduceLT, true_and, and_true, sizeLine_eq, Nat.reduceLeDiff, Nat.zero_le, ex_or, items_lst, items_tup, eq_self, un_not, cmp_in, len_lst, rd_w, slc_lst, ty_app, ty_get, mtW, if_true, Bool.false_eq_true, if_false]
    exact h
  | succ e =>
    have e1 : (((e + 1 : Nat) : Int) == 0) = false := by
      have : ((e + 1 : Nat) : Int) ≠ 0 := by omega
      simpa using this
    by_cases hr : r = 0
    · subst hr
      unfold b_room_left
      have e2 : ((0 : Int) == 0) = true := rfl
      simp only [wSs, wS, wE, wEs, wT, wOT, wI, wO, Lit.w, biW, rs_tup, rs_lst, rs_int, rs_str, rs_bl, rs_non, rs_dct, ix_tup, ix_lst, atI_0, atI_1, atI_2, ex_some, ex_some2, ex_int, ex_bl, tru_bl,
  List.getElem?_cons_zero, List.getElem?_cons_succ, List.set_cons_zero, List.set_cons_succ, eqW_str, eqW_int, eqW_bl, cmp_eq, cmp_lt, cmp_gt, cmp_ge, cmp_le, add_int, sub_int, wipeS, Tg.go, Tg.go.goAll, ex_tup, ex_cons, ex_tl, List.length_cons, List.length_nil, Nat.zero_add, Nat.reduceAdd, Nat.reduceLT, true_and, and_true, sizeLine_eq, Nat.reduceLeDiff, Nat.zero_le, ex_or, items_lst, items_tup, eq_self, un_not, cmp_in, len_lst, rd_w, slc_lst, ty_app, ty_get, mtW, if_true, Bool.false_eq_true, if_false, e1, e2]
      unfold b_room_left_6
      simp only [wSs, wS, wE, wEs, wT, wOT, wI, wO, Lit.w, biW, rs_tup, rs_lst, rs_int, rs_str, rs_bl, rs_non, rs_dct, ix_tup, ix_lst, atI_0, atI_1, atI_2, ex_some, ex_some2, ex_int, ex_bl, tru_bl,
  List.getElem?_cons_zero, List.getElem?_cons_succ, List.set_cons_zero, List.set_cons_succ, eqW_str, eqW_int, eqW_bl, cmp_eq, cmp_lt, cmp_gt, cmp_ge, cmp_le, add_int, sub_int, wipeS, Tg.go, Tg.go.goAll, ex_tup, ex_cons, ex_tl, List.length_cons, List.length_nil, Nat.zero_add, Nat.reduceAdd, Nat.reduceLT, true_and, and_true, sizeLine_eq, Nat.reduceLeDiff, Nat.zero_le, ex_or, items_lst, items_tup, eq_self, un_not, cmp_in, len_lst, rd_w, slc_lst, ty_app, ty_get, mtW, if_true, Bool.false_eq_true, if_false]
      rw [room_zero] at h
      exact h
    · have e2 : (r == 0) = false := by simpa using hr
      rcases it_view w with ⟨xs, rfl⟩ | nt
      · have e3 : (W.tup xs).dt.isTuple = true := rfl
        cases xs with
        | nil =>
          unfold b_room_left
          have e4 : ∀ xs : List W, eqW (.tup xs) (.tup []) = some xs.isEmpty := fun _ => eqW_nil
          simp only [wSs, wS, wE, wEs, wT, wOT, wI, wO, Lit.w, biW, rs_tup, rs_lst, rs_int, rs_str, rs_bl, rs_non, rs_dct, ix_tup, ix_lst, atI_0, atI_1, atI_2, ex_some, ex_some2, ex_int, ex_bl, tru_bl,
  List.getElem?_cons_zero, List.getElem?_cons_succ, List.set_cons_zero, List.set_cons_succ, eqW_str, eqW_int, eqW_bl, cmp_eq, cmp_lt, cmp_gt, cmp_ge, cmp_le, add_int, sub_int, wipeS, Tg.go, Tg.go.goAll, ex_tup, ex_cons, ex_tl, List.length_cons, List.length_nil, Nat.zero_add, Nat.reduceAdd, Nat.reduceLT, true_and, and_true, sizeLine_eq, Nat.reduceLeDiff, Nat.zero_le, ex_or, items_lst, items_tup, eq_self, un_not, cmp_in, len_lst, rd_w, slc_lst, ty_app, ty_get, mtW, if_true, Bool.false_eq_true, if_false, e1, e2, hdd, isaD, e3, e4, Bool.not_true, List.isEmpty_nil]
          unfold b_room_left_6
          simp only [wSs, wS, wE, wEs, wT, wOT, wI, wO, Lit.w, biW, rs_tup, rs_lst, rs_int, rs_str, rs_bl, rs_non, rs_dct, ix_tup, ix_lst, atI_0, atI_1, atI_2, ex_some, ex_some2, ex_int, ex_bl, tru_bl,
  List.getElem?_cons_zero, List.getElem?_cons_succ, List.set_cons_zero, List.set_cons_succ, eqW_str, eqW_int, eqW_bl, cmp_eq, cmp_lt, cmp_gt, cmp_ge, cmp_le, add_int, sub_int, wipeS, Tg.go, Tg.go.goAll, ex_tup, ex_cons, ex_tl, List.length_cons, List.length_nil, Nat.zero_add, Nat.reduceAdd, Nat.reduceLT, true_and, and_true, sizeLine_eq, Nat.reduceLeDiff, Nat.zero_le, ex_or, items_lst, items_tup, eq_self, un_not, cmp_in, len_lst, rd_w, slc_lst, ty_app, ty_get, mtW, if_true, Bool.false_eq_true, if_false]
          exact h
        | cons y ys =>
          have hfs : (decide ((y :: ys).length ≤ 1000) && W.fits (y :: ys)) = true := hw
          have hy := fits_iff.mp (ba2 hfs).2 y (by simp)
          have hyd := (W.fit_d y hy).2.1
          have e4 : ∀ xs : List W, eqW (.tup xs) (.tup []) = some xs.isEmpty := fun _ => eqW_nil
          rcases is_view y with ⟨hh, rfl⟩ | ns
          · obtain ⟨rest, eb, q⟩ := room_tup (ih e rfl) hw hd hr0 hr1 hr (k := k) h rfl
            rw [eb]
            have e5 : (W.str hh).dt.isStr = true := rfl
            simp only [wSs, wS, wE, wEs, wT, wOT, wI, wO, Lit.w, biW, rs_tup, rs_lst, rs_int, rs_str, rs_bl, rs_non, rs_dct, ix_tup, ix_lst, atI_0, atI_1, atI_2, ex_some, ex_some2, ex_int, ex_bl, tru_bl,
  List.getElem?_cons_zero, List.getElem?_cons_succ, List.set_cons_zero, List.set_cons_succ, eqW_str, eqW_int, eqW_bl, cmp_eq, cmp_lt, cmp_gt, cmp_ge, cmp_le, add_int, sub_int, wipeS, Tg.go, Tg.go.goAll, ex_tup, ex_cons, ex_tl, List.length_cons, List.length_nil, Nat.zero_add, Nat.reduceAdd, Nat.reduceLT, true_and, and_true, sizeLine_eq, Nat.reduceLeDiff, Nat.zero_le, ex_or, items_lst, items_tup, eq_self, un_not, cmp_in, len_lst, rd_w, slc_lst, ty_app, ty_get, mtW, if_true, Bool.false_eq_true, if_false, e1, e2, hdd, isaD, e3, e4, hyd, e5, Bool.not_true, List.isEmpty_cons]
            exact q
          · unfold b_room_left
            have e5 := ns_dt hy ns
            simp only [wSs, wS, wE, wEs, wT, wOT, wI, wO, Lit.w, biW, rs_tup, rs_lst, rs_int, rs_str, rs_bl, rs_non, rs_dct, ix_tup, ix_lst, atI_0, atI_1, atI_2, ex_some, ex_some2, ex_int, ex_bl, tru_bl,
  List.getElem?_cons_zero, List.getElem?_cons_succ, List.set_cons_zero, List.set_cons_succ, eqW_str, eqW_int, eqW_bl, cmp_eq, cmp_lt, cmp_gt, cmp_ge, cmp_le, add_int, sub_int, wipeS, Tg.go, Tg.go.goAll, ex_tup, ex_cons, ex_tl, List.length_cons, List.length_nil, Nat.zero_add, Nat.reduceAdd, Nat.reduceLT, true_and, and_true, sizeLine_eq, Nat.reduceLeDiff, Nat.zero_le, ex_or, items_lst, items_tup, eq_self, un_not, cmp_in, len_lst, rd_w, slc_lst, ty_app, ty_get, mtW, if_true, Bool.false_eq_true, if_false, e1, e2, hdd, isaD, e3, e4, hyd, e5, Bool.not_true, Bool.not_false, List.isEmpty_cons]
            unfold b_room_left_6
            simp only [wSs, wS, wE, wEs, wT, wOT, wI, wO, Lit.w, biW, rs_tup, rs_lst, rs_int, rs_str, rs_bl, rs_non, rs_dct, ix_tup, ix_lst, atI_0, atI_1, atI_2, ex_some, ex_some2, ex_int, ex_bl, tru_bl,
  List.getElem?_cons_zero, List.getElem?_cons_succ, List.set_cons_zero, List.set_cons_succ, eqW_str, eqW_int, eqW_bl, cmp_eq, cmp_lt, cmp_gt, cmp_ge, cmp_le, add_int, sub_int, wipeS, Tg.go, Tg.go.goAll, ex_tup, ex_cons, ex_tl, List.length_cons, List.length_nil, Nat.zero_add, Nat.reduceAdd, Nat.reduceLT, true_and, and_true, sizeLine_eq, Nat.reduceLeDiff, Nat.zero_le, ex_or, items_lst, items_tup, eq_self, un_not, cmp_in, len_lst, rd_w, slc_lst, ty_app, ty_get, mtW, if_true, Bool.false_eq_true, if_false]
            rw [room_ns ns] at h
            exact h
      · unfold b_room_left
        have e3 := nt_dt hw nt
        simp only [wSs, wS, wE, wEs, wT, wOT, wI, wO, Lit.w, biW, rs_tup, rs_lst, rs_int, rs_str, rs_bl, rs_non, rs_dct, ix_tup, ix_lst, atI_0, atI_1, atI_2, ex_some, ex_some2, ex_int, ex_bl, tru_bl,
  List.getElem?_cons_zero, List.getElem?_cons_succ, List.set_cons_zero, List.set_cons_succ, eqW_str, eqW_int, eqW_bl, cmp_eq, cmp_lt, cmp_gt, cmp_ge, cmp_le, add_int, sub_int, wipeS, Tg.go, Tg.go.goAll, ex_tup, ex_cons, ex_tl, List.length_cons, List.length_nil, Nat.zero_add, Nat.reduceAdd, Nat.reduceLT, true_and, and_true, sizeLine_eq, Nat.reduceLeDiff, Nat.zero_le, ex_or, items_lst, items_tup, eq_self, un_not, cmp_in, len_lst, rd_w, slc_lst, ty_app, ty_get, mtW, if_true, Bool.false_eq_true, if_false, e1, e2, hdd, isaD, e3, Bool.not_false]
        unfold b_room_left_6
        simp only [wSs, wS, wE, wEs, wT, wOT, wI, wO, Lit.w, biW, rs_tup, rs_lst, rs_int, rs_str, rs_bl, rs_non, rs_dct, ix_tup, ix_lst, atI_0, atI_1, atI_2, ex_some, ex_some2, ex_int, ex_bl, tru_bl,
  List.getElem?_cons_zero, List.getElem?_cons_succ, List.set_cons_zero, List.set_cons_succ, eqW_str, eqW_int, eqW_bl, cmp_eq, cmp_lt, cmp_gt, cmp_ge, cmp_le, add_int, sub_int, wipeS, Tg.go, Tg.go.goAll, ex_tup, ex_cons, ex_tl, List.length_cons, List.length_nil, Nat.zero_add, Nat.reduceAdd, Nat.reduceLT, true_and, and_true, sizeLine_eq, Nat.reduceLeDiff, Nat.zero_le, ex_or, items_lst, items_tup, eq_self, un_not, cmp_in, len_lst, rd_w, slc_lst, ty_app, ty_get, mtW, if_true, Bool.false_eq_true, if_false]
        rw [room_nt nt] at h
        exact h
theorem s_room : ∀ d : Nat, roomAt d
  | 0 => room_core 0 fun e h => nomatch h
  | d + 1 => room_core (d + 1) fun e h => by cases h; exact s_room d
def termW (w : W) : Bool := decide (sizeL 12 w ≤ 200)
theorem s_is_term {w : W} (hw : w.fit = true) (hd : w.deep ≤ 60) {k : Nat} {S : Sto} {Q X : QW} (h : Q (.bl (termW w)) S) : callK T G0 (k + 15) "is_term" [w] S Q X := by
  refine o_is_term ?_
  unfold b_is_term
  simp only [wSs, wS, wE, wEs, wT, wOT, wI, wO, Lit.w, biW, rs_tup, rs_lst, rs_int, rs_str, rs_bl, rs_non, rs_dct, ix_tup, ix_lst, atI_0, atI_1, atI_2, ex_some, ex_some2, ex_int, ex_bl, tru_bl,
  List.getElem?_cons_zero, List.getElem?_cons_succ, List.set_cons_zero, List.set_cons_succ, eqW_str, eqW_int, eqW_bl, cmp_eq, cmp_lt, cmp_gt, cmp_ge, cmp_le, add_int, sub_int, wipeS, Tg.go, Tg.go.goAll, ex_tup, ex_cons, ex_tl, List.length_cons, List.length_nil, Nat.zero_add, Nat.reduceAdd, Nat.reduceLT, true_and, and_true, sizeLine_eq, Nat.reduceLeDiff, Nat.zero_le, ex_or, items_lst, items_tup, eq_self, un_not, cmp_in, len_lst, rd_w, slc_lst, ty_app, ty_get, mtW, if_true, Bool.false_eq_true, if_false, g_MOST_DEPTH, g_MOST_SIZE]
  refine s_room 12 w 200 hw hd (by decide) (by decide) ?_
  rw [room_size 12 w 200 (by decide) (by decide)]
  unfold termW at h
  by_cases hle : sizeL 12 w ≤ 200
  · rw [if_pos hle]
    rw [decide_eq_true hle] at h
    exact ⟨_, rfl, h⟩
  · rw [if_neg hle]
    rw [decide_eq_false hle] at h
    exact ⟨_, rfl, h⟩
end K01

set_option Elab.async false
set_option linter.all false
set_option maxRecDepth 100000
set_option maxHeartbeats 4000000
namespace K01
open PySem PD
open L2 (atI)
/-! ### the law's own size -/
theorem size_nt {d : Nat} {w : W} (hw : ∀ xs, w ≠ .tup xs) : sizeL d w = 1000 := by
  cases d with
  | zero => rfl
  | succ d =>
    show sizeStep (sizeL d) w = 1000
    rcases w_view w with ⟨h, n, e⟩ | ⟨h, x, ps, e⟩ | ⟨z, _⟩
    · exact (hw _ e).elim
    · exact (hw _ e).elim
    · exact z _
theorem size_odd {d : Nat} {xs : List W} (h1 : ∀ h n, xs ≠ [.str h, .int n]) (h2 : ∀ h x ps, xs ≠ [.str h, .str x, .tup ps]) : sizeL d (.tup xs) = 1000 := by
  cases d with
  | zero => rfl
  | succ d =>
    show sizeStep (sizeL d) _ = 1000
    rcases w_view (.tup xs) with ⟨h, n, e⟩ | ⟨h, x, ps, e⟩ | ⟨z, _⟩
    · injection e with e; exact (h1 _ _ e).elim
    · injection e with e; exact (h2 _ _ _ e).elim
    · exact z _
theorem not23 {n : Int} : cmpW .NotIn (.int n) (.tup [.int 2, .int 3]) = some (!((2 == n) || ((3 == n) || false))) := rfl
def sizeAt (d : Nat) : Prop := ∀ (w : W), w.fit = true → w.deep ≤ 60 → ∀ {k : Nat} {S : Sto} {Q X : QW}, Q (.int (sizeL d w)) S → callK T G0 (k + d + 2) "_law_size" [w, .int (d : Int)] S Q X
/-- behind the first question: a tuple of two or three, a word ahead -/
def tailOk (e : Nat) : Prop := ∀ (hh : Str) (ys : List W), (W.tup (.str hh :: ys)).fit = true → (W.tup (.str hh :: ys)).deep ≤ 60 → (ys.length = 1 ∨ ys.length = 2) → ∀ {k : Nat} {S : Sto} {Q X : QW}, Q (.int (sizeL (e + 1) (.tup (.str hh :: ys)))) S →
    wSs ⟨callK T G0 (k + e + 2), G0⟩ r__law_size_12 { nx := fun _ S' => Q .non S', rt := Q, ex := X } [some (.tup (.str hh :: ys)), some (.int ((e + 1 : Nat) : Int)), none, none, none] S
theorem size_core (d : Nat) (ih : ∀ e, d = e + 1 → tailOk e) : sizeAt d := by
  intro w hw hd k S Q X h
  refine o__law_size ?_
  unfold b__law_size
  have hdd := (W.fit_d w hw).2.1
  rcases it_view w with ⟨xs, rfl⟩ | nt
  · have e3 : (W.tup xs).dt.isTuple = true := rfl
    cases d with
    | zero =>
      have e1 : (((0 : Nat) : Int) == 0) = true := rfl
      simp only [wSs, wS, wE, wEs, wT, wOT, wI, wO, Lit.w, biW, rs_tup, rs_lst, rs_int, rs_str, rs_bl, rs_non, rs_dct, ix_tup, ix_lst, atI_0, atI_1, atI_2, ex_some, ex_some2, ex_int, ex_bl, tru_bl,
  List.getElem?_cons_zero, List.getElem?_cons_succ, List.set_cons_zero, List.set_cons_succ, eqW_str, eqW_int, eqW_bl, cmp_eq, cmp_lt, cmp_gt, cmp_ge, cmp_le, add_int, sub_int, wipeS, Tg.go, Tg.go.goAll, ex_tup, ex_cons, ex_tl, List.length_cons, List.length_nil, Nat.zero_add, Nat.reduceAdd, Nat.reduceLT, true_and, and_true, sizeLine_eq, Nat.reduceLeDiff, Nat.zero_le, ex_or, items_lst, items_tup, eq_self, un_not, cmp_in, len_lst, rd_w, slc_lst, ty_app, ty_get, mtW, if_true, Bool.false_eq_true, if_false, hdd, isaD, e3, e1, Bool.not_true]
      unfold b__law_size_13
      simp only [wSs, wS, wE, wEs, wT, wOT, wI, wO, Lit.w, biW, rs_tup, rs_lst, rs_int, rs_str, rs_bl, rs_non, rs_dct, ix_tup, ix_lst, atI_0, atI_1, atI_2, ex_some, ex_some2, ex_int, ex_bl, tru_bl,
  List.getElem?_cons_zero, List.getElem?_cons_succ, List.set_cons_zero, List.set_cons_succ, eqW_str, eqW_int, eqW_bl, cmp_eq, cmp_lt, cmp_gt, cmp_ge, cmp_le, add_int, sub_int, wipeS, Tg.go, Tg.go.goAll, ex_tup, ex_cons, ex_tl, List.length_cons, List.length_nil, Nat.zero_add, Nat.reduceAdd, Nat.reduceLT, true_and, and_true, sizeLine_eq, Nat.reduceLeDiff, Nat.zero_le, ex_or, items_lst, items_tup, eq_self, un_not, cmp_in, len_lst, rd_w, slc_lst, ty_app, ty_get, mtW, if_true, Bool.false_eq_true, if_false]
      exact h
    | succ e =>
      have e1 : (((e + 1 : Nat) : Int) == 0) = false := by
        have : ((e + 1 : Nat) : Int) ≠ 0 := by omega
        simpa using this
      simp only [wSs, wS, wE, wEs, wT, wOT, wI, wO, Lit.w, biW, rs_tup, rs_lst, rs_int, rs_str, rs_bl, rs_non, rs_dct, ix_tup, ix_lst, atI_0, atI_1, atI_2, ex_some, ex_some2, ex_int, ex_bl, tru_bl,
  List.getElem?_cons_zero, List.getElem?_cons_succ, List.set_cons_zero, List.set_cons_succ, eqW_str, eqW_int, eqW_bl, cmp_eq, cmp_lt, cmp_gt, cmp_ge, cmp_le, add_int, sub_int, wipeS, Tg.go, Tg.go.goAll, ex_tup, ex_cons, ex_tl, List.length_cons, List.length_nil, Nat.zero_add, Nat.reduceAdd, Nat.reduceLT, true_and, and_true, sizeLine_eq, Nat.reduceLeDiff, Nat.zero_le, ex_or, items_lst, items_tup, eq_self, un_not, cmp_in, len_lst, rd_w, slc_lst, ty_app, ty_get, mtW, if_true, Bool.false_eq_true, if_false, hdd, isaD, e3, e1, Bool.not_true, len_tup, not23]
      by_cases hl : xs.length = 2 ∨ xs.length = 3
      · have e4 : (!((2 : Int) == (xs.length : Int) || ((3 : Int) == (xs.length : Int) || false))) = false := by
          rcases hl with z | z <;> rw [z] <;> rfl
        simp only [e4, Bool.false_eq_true, if_false]
        cases xs with
        | nil => simp at hl
        | cons y ys =>
          have hfs : (decide ((y :: ys).length ≤ 1000) && W.fits (y :: ys)) = true := hw
          have hy := fits_iff.mp (ba2 hfs).2 y (by simp)
          have hyd := (W.fit_d y hy).2.1
          rcases is_view y with ⟨hh, rfl⟩ | ns
          · have e5 : (W.str hh).dt.isStr = true := rfl
            simp only [wSs, wS, wE, wEs, wT, wOT, wI, wO, Lit.w, biW, rs_tup, rs_lst, rs_int, rs_str, rs_bl, rs_non, rs_dct, ix_tup, ix_lst, atI_0, atI_1, atI_2, ex_some, ex_some2, ex_int, ex_bl, tru_bl,
  List.getElem?_cons_zero, List.getElem?_cons_succ, List.set_cons_zero, List.set_cons_succ, eqW_str, eqW_int, eqW_bl, cmp_eq, cmp_lt, cmp_gt, cmp_ge, cmp_le, add_int, sub_int, wipeS, Tg.go, Tg.go.goAll, ex_tup, ex_cons, ex_tl, List.length_cons, List.length_nil, Nat.zero_add, Nat.reduceAdd, Nat.reduceLT, true_and, and_true, sizeLine_eq, Nat.reduceLeDiff, Nat.zero_le, ex_or, items_lst, items_tup, eq_self, un_not, cmp_in, len_lst, rd_w, slc_lst, ty_app, ty_get, mtW, if_true, Bool.false_eq_true, if_false, hyd, isaD, e5, Bool.not_true]
            exact ih e rfl hh ys hw hd (by simp at hl; omega) h
          · have e5 := ns_dt hy ns
            simp only [wSs, wS, wE, wEs, wT, wOT, wI, wO, Lit.w, biW, rs_tup, rs_lst, rs_int, rs_str, rs_bl, rs_non, rs_dct, ix_tup, ix_lst, atI_0, atI_1, atI_2, ex_some, ex_some2, ex_int, ex_bl, tru_bl,
  List.getElem?_cons_zero, List.getElem?_cons_succ, List.set_cons_zero, List.set_cons_succ, eqW_str, eqW_int, eqW_bl, cmp_eq, cmp_lt, cmp_gt, cmp_ge, cmp_le, add_int, sub_int, wipeS, Tg.go, Tg.go.goAll, ex_tup, ex_cons, ex_tl, List.length_cons, List.length_nil, Nat.zero_add, Nat.reduceAdd, Nat.reduceLT, true_and, and_true, sizeLine_eq, Nat.reduceLeDiff, Nat.zero_le, ex_or, items_lst, items_tup, eq_self, un_not, cmp_in, len_lst, rd_w, slc_lst, ty_app, ty_get, mtW, if_true, Bool.false_eq_true, if_false, hyd, isaD, e5, Bool.not_false]
            unfold b__law_size_13
            simp only [wSs, wS, wE, wEs, wT, wOT, wI, wO, Lit.w, biW, rs_tup, rs_lst, rs_int, rs_str, rs_bl, rs_non, rs_dct, ix_tup, ix_lst, atI_0, atI_1, atI_2, ex_some, ex_some2, ex_int, ex_bl, tru_bl,
  List.getElem?_cons_zero, List.getElem?_cons_succ, List.set_cons_zero, List.set_cons_succ, eqW_str, eqW_int, eqW_bl, cmp_eq, cmp_lt, cmp_gt, cmp_ge, cmp_le, add_int, sub_int, wipeS, Tg.go, Tg.go.goAll, ex_tup, ex_cons, ex_tl, List.length_cons, List.length_nil, Nat.zero_add, Nat.reduceAdd, Nat.reduceLT, true_and, and_true, sizeLine_eq, Nat.reduceLeDiff, Nat.zero_le, ex_or, items_lst, items_tup, eq_self, un_not, cmp_in, len_lst, rd_w, slc_lst, ty_app, ty_get, mtW, if_true, Bool.false_eq_true, if_false]
            rw [size_odd (fun h n z => ns _ (List.cons.inj z).1) (fun h x ps z => ns _ (List.cons.inj z).1)] at h
            exact h
      · have e4 : (!((2 : Int) == (xs.length : Int) || ((3 : Int) == (xs.length : Int) || false))) = true := by
          have a : ((2 : Int) == (xs.length : Int)) = false := by
            have : (2 : Int) ≠ (xs.length : Int) := by omega
            simpa using this
          have b : ((3 : Int) == (xs.length : Int)) = false := by
            have : (3 : Int) ≠ (xs.length : Int) := by omega
            simpa using this
          rw [a, b]; rfl
        simp only [e4, if_true]
        unfold b__law_size_13
        simp only [wSs, wS, wE, wEs, wT, wOT, wI, wO, Lit.w, biW, rs_tup, rs_lst, rs_int, rs_str, rs_bl, rs_non, rs_dct, ix_tup, ix_lst, atI_0, atI_1, atI_2, ex_some, ex_some2, ex_int, ex_bl, tru_bl,
  List.getElem?_cons_zero, List.getElem?_cons_succ, List.set_cons_zero, List.set_cons_succ, eqW_str, eqW_int, eqW_bl, cmp_eq, cmp_lt, cmp_gt, cmp_ge, cmp_le, add_int, sub_int, wipeS, Tg.go, Tg.go.goAll, ex_tup, ex_cons, ex_tl, List.length_cons, List.length_nil, Nat.zero_add, Nat.reduceAdd, Nat.reduceLT, true_and, and_true, sizeLine_eq, Nat.reduceLeDiff, Nat.zero_le, ex_or, items_lst, items_tup, eq_self, un_not, cmp_in, len_lst, rd_w, slc_lst, ty_app, ty_get, mtW, if_true, Bool.false_eq_true, if_false]
        rw [size_odd (fun h n z => hl (by rw [z]; exact .inl rfl)) (fun h x ps z => hl (by rw [z]; exact .inr rfl))] at h
        exact h
  · have e3 := nt_dt hw nt
    simp only [wSs, wS, wE, wEs, wT, wOT, wI, wO, Lit.w, biW, rs_tup, rs_lst, rs_int, rs_str, rs_bl, rs_non, rs_dct, ix_tup, ix_lst, atI_0, atI_1, atI_2, ex_some, ex_some2, ex_int, ex_bl, tru_bl,
  List.getElem?_cons_zero, List.getElem?_cons_succ, List.set_cons_zero, List.set_cons_succ, eqW_str, eqW_int, eqW_bl, cmp_eq, cmp_lt, cmp_gt, cmp_ge, cmp_le, add_int, sub_int, wipeS, Tg.go, Tg.go.goAll, ex_tup, ex_cons, ex_tl, List.length_cons, List.length_nil, Nat.zero_add, Nat.reduceAdd, Nat.reduceLT, true_and, and_true, sizeLine_eq, Nat.reduceLeDiff, Nat.zero_le, ex_or, items_lst, items_tup, eq_self, un_not, cmp_in, len_lst, rd_w, slc_lst, ty_app, ty_get, mtW, if_true, Bool.false_eq_true, if_false, hdd, isaD, e3, Bool.not_false]
    unfold b__law_size_13
    simp only [wSs, wS, wE, wEs, wT, wOT, wI, wO, Lit.w, biW, rs_tup, rs_lst, rs_int, rs_str, rs_bl, rs_non, rs_dct, ix_tup, ix_lst, atI_0, atI_1, atI_2, ex_some, ex_some2, ex_int, ex_bl, tru_bl,
  List.getElem?_cons_zero, List.getElem?_cons_succ, List.set_cons_zero, List.set_cons_succ, eqW_str, eqW_int, eqW_bl, cmp_eq, cmp_lt, cmp_gt, cmp_ge, cmp_le, add_int, sub_int, wipeS, Tg.go, Tg.go.goAll, ex_tup, ex_cons, ex_tl, List.length_cons, List.length_nil, Nat.zero_add, Nat.reduceAdd, Nat.reduceLT, true_and, and_true, sizeLine_eq, Nat.reduceLeDiff, Nat.zero_le, ex_or, items_lst, items_tup, eq_self, un_not, cmp_in, len_lst, rd_w, slc_lst, ty_app, ty_get, mtW, if_true, Bool.false_eq_true, if_false]
    rw [size_nt nt] at h
    exact h
end K01

set_option Elab.async false
set_option linter.all false
set_option maxRecDepth 100000
set_option maxHeartbeats 4000000
namespace K01
open PySem PD
open L2 (atI)
theorem size_let {e : Nat} {hh : Str} {n : Int} (hb : (hh == ("any" : Str)) = true) : sizeL (e + 1) (.tup [.str hh, .int n]) = if okLet n then 1 else 1000 := by
  show (if hh == ("any" : Str) then (if okLet n then (1 : Int) else 1000) else 1000) = _
  rw [hb]; rfl
theorem size_three {e : Nat} {hh : Str} {z1 z2 : W} (hb : (hh == ("any" : Str)) = true) : sizeL (e + 1) (.tup [.str hh, z1, z2]) = 1000 := by
  show sizeStep (sizeL e) _ = 1000
  rcases w_view (.tup [.str hh, z1, z2]) with ⟨h, n, q⟩ | ⟨h, x, ps, q⟩ | ⟨z, _⟩
  · injection q with q
    have := congrArg List.length q
    simp at this
  · rw [q]
    injection q with q
    have e1 : hh = h := by have := (List.cons.inj q).1; injection this
    subst e1
    show (if hh == ("any" : Str) then (1000 : Int) else if hh == ("of" : Str) then (if okWord x ps then 1 + (ps.map (sizeL e)).sum else 1000) else 1000) = 1000
    rw [hb]; rfl
  · exact z _
theorem any_tail {e : Nat} {hh : Str} {ys : List W} {k : Nat} {S : Sto} {Q X : QW} {nx : Sl → Sto → Prop} (hb : (hh == ("any" : Str)) = true) (hf : ∀ y ∈ ys, y.fit = true) (hl : ys.length = 1 ∨ ys.length = 2) (h : Q (.int (sizeL (e + 1) (.tup (.str hh :: ys)))) S) :
    wSs ⟨callK T G0 k, G0⟩ b__law_size_11 { nx := nx, rt := Q, ex := X } [some (.tup (.str hh :: ys)), some (.int ((e + 1 : Nat) : Int)), none, none, none] S := by
  unfold b__law_size_11
  match ys, hf, hl, h with
  | [z], hf, hl, h =>
    have fz := hf z (by simp)
    have dz := (W.fit_d z fz).2.1
    have t2 : (((2 : Nat) : Int) == 2) = true := rfl
    simp only [wSs, wS, wE, wEs, wT, wOT, wI, wO, Lit.w, biW, rs_tup, rs_lst, rs_int, rs_str, rs_bl, rs_non, rs_dct, ix_tup, ix_lst, atI_0, atI_1, atI_2, ex_some, ex_some2, ex_int, ex_bl, tru_bl,
  List.getElem?_cons_zero, List.getElem?_cons_succ, List.set_cons_zero, List.set_cons_succ, eqW_str, eqW_int, eqW_bl, cmp_eq, cmp_lt, cmp_gt, cmp_ge, cmp_le, add_int, sub_int, wipeS, Tg.go, Tg.go.goAll, ex_tup, ex_cons, ex_tl, List.length_cons, List.length_nil, Nat.zero_add, Nat.reduceAdd, Nat.reduceLT, true_and, and_true, sizeLine_eq, Nat.reduceLeDiff, Nat.zero_le, ex_or, items_lst, items_tup, eq_self, un_not, cmp_in, len_lst, rd_w, slc_lst, ty_app, ty_get, mtW, if_true, Bool.false_eq_true, if_false, len_tup, dz, isaD, t2]
    by_cases hz : ∃ n, z = .int n
    · obtain ⟨n, rfl⟩ := hz
      have a1 : (W.int n).dt.isInt = true := rfl
      have a2 : (!(W.int n).dt.isBool) = true := rfl
      simp only [a1, a2, if_true]
      simp only [wSs, wS, wE, wEs, wT, wOT, wI, wO, Lit.w, biW, rs_tup, rs_lst, rs_int, rs_str, rs_bl, rs_non, rs_dct, ix_tup, ix_lst, atI_0, atI_1, atI_2, ex_some, ex_some2, ex_int, ex_bl, tru_bl,
  List.getElem?_cons_zero, List.getElem?_cons_succ, List.set_cons_zero, List.set_cons_succ, eqW_str, eqW_int, eqW_bl, cmp_eq, cmp_lt, cmp_gt, cmp_ge, cmp_le, add_int, sub_int, wipeS, Tg.go, Tg.go.goAll, ex_tup, ex_cons, ex_tl, List.length_cons, List.length_nil, Nat.zero_add, Nat.reduceAdd, Nat.reduceLT, true_and, and_true, sizeLine_eq, Nat.reduceLeDiff, Nat.zero_le, ex_or, items_lst, items_tup, eq_self, un_not, cmp_in, len_lst, rd_w, slc_lst, ty_app, ty_get, mtW, if_true, Bool.false_eq_true, if_false]
      rw [size_let hb] at h
      unfold okLet at h
      generalize decide (0 ≤ n) = b1 at h ⊢
      generalize decide (n ≤ 999) = b2 at h ⊢
      cases b1 <;> cases b2 <;> first | exact h | exact ⟨_, rfl, h⟩
    · have hs : sizeL (e + 1) (.tup [.str hh, z]) = 1000 := size_odd (fun h n q => hz ⟨n, (List.cons.inj (List.cons.inj q).2).1⟩) (fun h x ps q => by have := congrArg List.length q; simp at this)
      rw [hs] at h
      cases q1 : z.dt.isInt with
      | false => simp only [Bool.false_eq_true, if_false]; exact h
      | true =>
        cases q2 : z.dt.isBool with
        | true => simp only [Bool.not_true, Bool.false_eq_true, if_false, if_true]; exact h
        | false => exact (hz (whole_int fz (by unfold wholeW; rw [q1, q2]; rfl))).elim
  | [z1, z2], hf, hl, h =>
    rw [size_three hb] at h
    have t2 : (((3 : Nat) : Int) == 2) = false := rfl
    simp only [wSs, wS, wE, wEs, wT, wOT, wI, wO, Lit.w, biW, rs_tup, rs_lst, rs_int, rs_str, rs_bl, rs_non, rs_dct, ix_tup, ix_lst, atI_0, atI_1, atI_2, ex_some, ex_some2, ex_int, ex_bl, tru_bl,
  List.getElem?_cons_zero, List.getElem?_cons_succ, List.set_cons_zero, List.set_cons_succ, eqW_str, eqW_int, eqW_bl, cmp_eq, cmp_lt, cmp_gt, cmp_ge, cmp_le, add_int, sub_int, wipeS, Tg.go, Tg.go.goAll, ex_tup, ex_cons, ex_tl, List.length_cons, List.length_nil, Nat.zero_add, Nat.reduceAdd, Nat.reduceLT, true_and, and_true, sizeLine_eq, Nat.reduceLeDiff, Nat.zero_le, ex_or, items_lst, items_tup, eq_self, un_not, cmp_in, len_lst, rd_w, slc_lst, ty_app, ty_get, mtW, if_true, Bool.false_eq_true, if_false, len_tup, t2]
    exact h
end K01

set_option Elab.async false
set_option linter.all false
set_option maxRecDepth 100000
set_option maxHeartbeats 4000000
namespace K01
open PySem PD
open L2 (atI)
theorem size_bad {e : Nat} {hh : Str} {ys : List W} (hb : (hh == ("any" : Str)) = false) (hy : (hh == ("of" : Str)) = false ∨ ∀ x ps, ys ≠ [.str x, .tup ps]) : sizeL (e + 1) (.tup (.str hh :: ys)) = 1000 := by
  show sizeStep (sizeL e) _ = 1000
  rcases w_view (.tup (.str hh :: ys)) with ⟨h, n, q⟩ | ⟨h, x, ps, q⟩ | ⟨z, _⟩
  · rw [q]
    injection q with q
    have e1 : hh = h := by have := (List.cons.inj q).1; injection this
    subst e1
    show (if hh == ("any" : Str) then (if okLet n then (1 : Int) else 1000) else 1000) = 1000
    rw [hb]; rfl
  · rcases hy with hy | hy
    · rw [q]
      injection q with q
      have e1 : hh = h := by have := (List.cons.inj q).1; injection this
      subst e1
      show (if hh == ("any" : Str) then (1000 : Int) else if hh == ("of" : Str) then (if okWord x ps then 1 + (ps.map (sizeL e)).sum else 1000) else 1000) = 1000
      rw [hb, hy]; rfl
    · injection q with q
      exact (hy x ps (List.cons.inj q).2).elim
  · exact z _
theorem size_of {e : Nat} {hh x : Str} {ps : List W} (hb : (hh == ("any" : Str)) = false) (hc : (hh == ("of" : Str)) = true) : sizeL (e + 1) (.tup [.str hh, .str x, .tup ps]) = if okWord x ps then 1 + (ps.map (sizeL e)).sum else 1000 := by
  show (if hh == ("any" : Str) then (1000 : Int) else if hh == ("of" : Str) then (if okWord x ps then 1 + (ps.map (sizeL e)).sum else 1000) else 1000) = _
  rw [hb, hc]; rfl
end K01

set_option Elab.async false
set_option linter.all false
set_option maxRecDepth 100000
set_option maxHeartbeats 4000000
namespace K01
open PySem PD
open L2 (atI)
/-! ### the law's size, behind "any" -/
theorem signs_map (x : Str) : signs x = x.cps.toList.map fun c => W.str ⟨#[c]⟩ := rfl
theorem bad_all (cs : List Nat) : (cs.filterMap fun c => if smallSign c then none else some (W.str ⟨#[c]⟩)) = ((cs.filter fun c => !smallSign c).map fun c => (⟨#[c]⟩ : Str)).map W.str := by
  induction cs with
  | nil => rfl
  | cons c cs ih =>
    rw [List.filterMap_cons, List.filter_cons]
    cases q : smallSign c with
    | true => simp only [if_true, Bool.not_true, Bool.false_eq_true, if_false]; exact ih
    | false => simp only [Bool.false_eq_true, if_false, Bool.not_false, if_true, List.map_cons]; rw [ih]
theorem bad_nil (cs : List Nat) : (((cs.filter fun c => !smallSign c).map fun c => (⟨#[c]⟩ : Str)).isEmpty) = cs.all smallSign := by
  induction cs with
  | nil => rfl
  | cons c cs ih =>
    rw [List.filter_cons, List.all_cons]
    cases q : smallSign c with
    | true => simp only [Bool.not_true, Bool.false_eq_true, if_false, Bool.true_and]; exact ih
    | false => simp
theorem notin_str {c : Nat} {z : Str} : cmpW .NotIn (.str ⟨#[c]⟩) (.str z) = some (!decide (c ∈ z.cps.toList)) := rfl
theorem ints_map {α : Type} (f : α → Int) : ∀ us : List α, intsW (us.map fun u => W.int (f u)) = some (us.map f)
  | [] => rfl
  | u :: us => by
    show (intsW (us.map fun u => W.int (f u))).map (f u :: ·) = _
    rw [ints_map f us]; rfl
theorem sum_tail {e : Nat} (ih : sizeAt e) {hh x : Str} {ps : List W} {k : Nat} {S : Sto} {Q X : QW} {nx : Sl → Sto → Prop} {y2 y3 y4 : Option W} (hp : ∀ p ∈ ps, p.fit = true ∧ p.deep ≤ 60) (hl : ps.length ≤ 1000) (h : Q (.int (1 + (ps.map (sizeL e)).sum)) S) :
    wSs ⟨callK T G0 (k + e + 2), G0⟩ r__law_size_2 { nx := nx, rt := Q, ex := X } [some (.tup [.str hh, .str x, .tup ps]), some (.int ((e + 1 : Nat) : Int)), y2, y3, y4] S := by
  unfold r__law_size_2
  simp only [wSs, wS, wE, wEs, wT, wOT, wI, wO, Lit.w, biW, rs_tup, rs_lst, rs_int, rs_str, rs_bl, rs_non, rs_dct, ix_tup, ix_lst, atI_0, atI_1, atI_2, ex_some, ex_some2, ex_int, ex_bl, tru_bl,
  List.getElem?_cons_zero, List.getElem?_cons_succ, List.set_cons_zero, List.set_cons_succ, eqW_str, eqW_int, eqW_bl, cmp_eq, cmp_lt, cmp_gt, cmp_ge, cmp_le, add_int, sub_int, wipeS, Tg.go, Tg.go.goAll, ex_tup, ex_cons, ex_tl, List.length_cons, List.length_nil, Nat.zero_add, Nat.reduceAdd, Nat.reduceLT, true_and, and_true, sizeLine_eq, Nat.reduceLeDiff, Nat.zero_le, ex_or, items_lst, items_tup, eq_self, un_not, cmp_in, len_lst, rd_w, slc_lst, ty_app, ty_get, mtW, if_true, Bool.false_eq_true, if_false]
  have ee : ((e + 1 : Nat) : Int) - 1 = (e : Int) := by omega
  refine comp_p (fun p => some (W.int (sizeL e p))) (fun p => p.fit = true ∧ p.deep ≤ 60) (fun p S' K hpp hK => ?_) hp hl fun D hD => ?_
  · unfold e__law_size_1
    simp only [wSs, wS, wE, wEs, wT, wOT, wI, wO, Lit.w, biW, rs_tup, rs_lst, rs_int, rs_str, rs_bl, rs_non, rs_dct, ix_tup, ix_lst, atI_0, atI_1, atI_2, ex_some, ex_some2, ex_int, ex_bl, tru_bl,
  List.getElem?_cons_zero, List.getElem?_cons_succ, List.set_cons_zero, List.set_cons_succ, eqW_str, eqW_int, eqW_bl, cmp_eq, cmp_lt, cmp_gt, cmp_ge, cmp_le, add_int, sub_int, wipeS, Tg.go, Tg.go.goAll, ex_tup, ex_cons, ex_tl, List.length_cons, List.length_nil, Nat.zero_add, Nat.reduceAdd, Nat.reduceLT, true_and, and_true, sizeLine_eq, Nat.reduceLeDiff, Nat.zero_le, ex_or, items_lst, items_tup, eq_self, un_not, cmp_in, len_lst, rd_w, slc_lst, ty_app, ty_get, mtW, if_true, Bool.false_eq_true, if_false, ee]
    exact ih p hpp.1 hpp.2 hK
  · have e1 : (ps.filterMap fun p => some (W.int (sizeL e p))) = ps.map fun p => W.int (sizeL e p) := congrFun List.filterMap_eq_map' ps
    rw [e1]
    refine ⟨_, _, rfl, ints_map (sizeL e) ps, ?_⟩
    rw [Sto.del_set hD]
    exact h
theorem of_tail {e : Nat} (ih : sizeAt e) {hh : Str} {ys : List W} {k : Nat} {S : Sto} {Q X : QW} {nx : Sl → Sto → Prop} (hb : (hh == ("any" : Str)) = false) (hf : ∀ y ∈ ys, y.fit = true) (hdd : ∀ y ∈ ys, y.deep ≤ 59) (hl : ys.length = 1 ∨ ys.length = 2)
    (h : Q (.int (sizeL (e + 1) (.tup (.str hh :: ys)))) S) :
    wSs ⟨callK T G0 (k + e + 2), G0⟩ r__law_size_10 { nx := nx, rt := Q, ex := X } [some (.tup (.str hh :: ys)), some (.int ((e + 1 : Nat) : Int)), none, none, none] S := by
  unfold r__law_size_10
  cases hc : (hh == ("of" : Str)) with
  | false =>
    simp only [wSs, wS, wE, wEs, wT, wOT, wI, wO, Lit.w, biW, rs_tup, rs_lst, rs_int, rs_str, rs_bl, rs_non, rs_dct, ix_tup, ix_lst, atI_0, atI_1, atI_2, ex_some, ex_some2, ex_int, ex_bl, tru_bl,
  List.getElem?_cons_zero, List.getElem?_cons_succ, List.set_cons_zero, List.set_cons_succ, eqW_str, eqW_int, eqW_bl, cmp_eq, cmp_lt, cmp_gt, cmp_ge, cmp_le, add_int, sub_int, wipeS, Tg.go, Tg.go.goAll, ex_tup, ex_cons, ex_tl, List.length_cons, List.length_nil, Nat.zero_add, Nat.reduceAdd, Nat.reduceLT, true_and, and_true, sizeLine_eq, Nat.reduceLeDiff, Nat.zero_le, ex_or, items_lst, items_tup, eq_self, un_not, cmp_in, len_lst, rd_w, slc_lst, ty_app, ty_get, mtW, if_true, Bool.false_eq_true, if_false, cmp_ne, Option.map_some, hc, Bool.not_false]
    unfold b__law_size_9
    simp only [wSs, wS, wE, wEs, wT, wOT, wI, wO, Lit.w, biW, rs_tup, rs_lst, rs_int, rs_str, rs_bl, rs_non, rs_dct, ix_tup, ix_lst, atI_0, atI_1, atI_2, ex_some, ex_some2, ex_int, ex_bl, tru_bl,
  List.getElem?_cons_zero, List.getElem?_cons_succ, List.set_cons_zero, List.set_cons_succ, eqW_str, eqW_int, eqW_bl, cmp_eq, cmp_lt, cmp_gt, cmp_ge, cmp_le, add_int, sub_int, wipeS, Tg.go, Tg.go.goAll, ex_tup, ex_cons, ex_tl, List.length_cons, List.length_nil, Nat.zero_add, Nat.reduceAdd, Nat.reduceLT, true_and, and_true, sizeLine_eq, Nat.reduceLeDiff, Nat.zero_le, ex_or, items_lst, items_tup, eq_self, un_not, cmp_in, len_lst, rd_w, slc_lst, ty_app, ty_get, mtW, if_true, Bool.false_eq_true, if_false]
    rw [size_bad hb (.inl hc)] at h
    exact h
  | true =>
    simp only [wSs, wS, wE, wEs, wT, wOT, wI, wO, Lit.w, biW, rs_tup, rs_lst, rs_int, rs_str, rs_bl, rs_non, rs_dct, ix_tup, ix_lst, atI_0, atI_1, atI_2, ex_some, ex_some2, ex_int, ex_bl, tru_bl,
  List.getElem?_cons_zero, List.getElem?_cons_succ, List.set_cons_zero, List.set_cons_succ, eqW_str, eqW_int, eqW_bl, cmp_eq, cmp_lt, cmp_gt, cmp_ge, cmp_le, add_int, sub_int, wipeS, Tg.go, Tg.go.goAll, ex_tup, ex_cons, ex_tl, List.length_cons, List.length_nil, Nat.zero_add, Nat.reduceAdd, Nat.reduceLT, true_and, and_true, sizeLine_eq, Nat.reduceLeDiff, Nat.zero_le, ex_or, items_lst, items_tup, eq_self, un_not, cmp_in, len_lst, rd_w, slc_lst, ty_app, ty_get, mtW, if_true, Bool.false_eq_true, if_false, cmp_ne, Option.map_some, hc, Bool.not_true, len_tup]
    match ys, hf, hdd, hl, h with
    | [z], hf, hdd, hl, h =>
      have t3 : (!(((1 + 1 : Nat) : Int) == 3)) = true := rfl
      simp only [wSs, wS, wE, wEs, wT, wOT, wI, wO, Lit.w, biW, rs_tup, rs_lst, rs_int, rs_str, rs_bl, rs_non, rs_dct, ix_tup, ix_lst, atI_0, atI_1, atI_2, ex_some, ex_some2, ex_int, ex_bl, tru_bl,
  List.getElem?_cons_zero, List.getElem?_cons_succ, List.set_cons_zero, List.set_cons_succ, eqW_str, eqW_int, eqW_bl, cmp_eq, cmp_lt, cmp_gt, cmp_ge, cmp_le, add_int, sub_int, wipeS, Tg.go, Tg.go.goAll, ex_tup, ex_cons, ex_tl, List.length_cons, List.length_nil, Nat.zero_add, Nat.reduceAdd, Nat.reduceLT, true_and, and_true, sizeLine_eq, Nat.reduceLeDiff, Nat.zero_le, ex_or, items_lst, items_tup, eq_self, un_not, cmp_in, len_lst, rd_w, slc_lst, ty_app, ty_get, mtW, if_true, Bool.false_eq_true, if_false, t3]
      unfold b__law_size_9
      simp only [wSs, wS, wE, wEs, wT, wOT, wI, wO, Lit.w, biW, rs_tup, rs_lst, rs_int, rs_str, rs_bl, rs_non, rs_dct, ix_tup, ix_lst, atI_0, atI_1, atI_2, ex_some, ex_some2, ex_int, ex_bl, tru_bl,
  List.getElem?_cons_zero, List.getElem?_cons_succ, List.set_cons_zero, List.set_cons_succ, eqW_str, eqW_int, eqW_bl, cmp_eq, cmp_lt, cmp_gt, cmp_ge, cmp_le, add_int, sub_int, wipeS, Tg.go, Tg.go.goAll, ex_tup, ex_cons, ex_tl, List.length_cons, List.length_nil, Nat.zero_add, Nat.reduceAdd, Nat.reduceLT, true_and, and_true, sizeLine_eq, Nat.reduceLeDiff, Nat.zero_le, ex_or, items_lst, items_tup, eq_self, un_not, cmp_in, len_lst, rd_w, slc_lst, ty_app, ty_get, mtW, if_true, Bool.false_eq_true, if_false]
      rw [size_bad hb (.inr fun x ps q => by have := congrArg List.length q; simp at this)] at h
      exact h
    | [z1, z2], hf, hdd, hl, h =>
      have t3 : (!(((1 + 1 + 1 : Nat) : Int) == 3)) = false := rfl
      have f1 := hf z1 (by simp)
      have f2 := hf z2 (by simp)
      have d1 := (W.fit_d z1 f1).2.1
      have d2 := (W.fit_d z2 f2).2.1
      simp only [wSs, wS, wE, wEs, wT, wOT, wI, wO, Lit.w, biW, rs_tup, rs_lst, rs_int, rs_str, rs_bl, rs_non, rs_dct, ix_tup, ix_lst, atI_0, atI_1, atI_2, ex_some, ex_some2, ex_int, ex_bl, tru_bl,
  List.getElem?_cons_zero, List.getElem?_cons_succ, List.set_cons_zero, List.set_cons_succ, eqW_str, eqW_int, eqW_bl, cmp_eq, cmp_lt, cmp_gt, cmp_ge, cmp_le, add_int, sub_int, wipeS, Tg.go, Tg.go.goAll, ex_tup, ex_cons, ex_tl, List.length_cons, List.length_nil, Nat.zero_add, Nat.reduceAdd, Nat.reduceLT, true_and, and_true, sizeLine_eq, Nat.reduceLeDiff, Nat.zero_le, ex_or, items_lst, items_tup, eq_self, un_not, cmp_in, len_lst, rd_w, slc_lst, ty_app, ty_get, mtW, if_true, Bool.false_eq_true, if_false, t3, d1, d2, isaD]
      rcases is_view z1 with ⟨x, rfl⟩ | n1
      · have q1 : (W.str x).dt.isStr = true := rfl
        simp only [wSs, wS, wE, wEs, wT, wOT, wI, wO, Lit.w, biW, rs_tup, rs_lst, rs_int, rs_str, rs_bl, rs_non, rs_dct, ix_tup, ix_lst, atI_0, atI_1, atI_2, ex_some, ex_some2, ex_int, ex_bl, tru_bl,
  List.getElem?_cons_zero, List.getElem?_cons_succ, List.set_cons_zero, List.set_cons_succ, eqW_str, eqW_int, eqW_bl, cmp_eq, cmp_lt, cmp_gt, cmp_ge, cmp_le, add_int, sub_int, wipeS, Tg.go, Tg.go.goAll, ex_tup, ex_cons, ex_tl, List.length_cons, List.length_nil, Nat.zero_add, Nat.reduceAdd, Nat.reduceLT, true_and, and_true, sizeLine_eq, Nat.reduceLeDiff, Nat.zero_le, ex_or, items_lst, items_tup, eq_self, un_not, cmp_in, len_lst, rd_w, slc_lst, ty_app, ty_get, mtW, if_true, Bool.false_eq_true, if_false, q1, Bool.not_true]
        rcases it_view z2 with ⟨ps, rfl⟩ | n2
        · have q2 : (W.tup ps).dt.isTuple = true := rfl
          simp only [wSs, wS, wE, wEs, wT, wOT, wI, wO, Lit.w, biW, rs_tup, rs_lst, rs_int, rs_str, rs_bl, rs_non, rs_dct, ix_tup, ix_lst, atI_0, atI_1, atI_2, ex_some, ex_some2, ex_int, ex_bl, tru_bl,
  List.getElem?_cons_zero, List.getElem?_cons_succ, List.set_cons_zero, List.set_cons_succ, eqW_str, eqW_int, eqW_bl, cmp_eq, cmp_lt, cmp_gt, cmp_ge, cmp_le, add_int, sub_int, wipeS, Tg.go, Tg.go.goAll, ex_tup, ex_cons, ex_tl, List.length_cons, List.length_nil, Nat.zero_add, Nat.reduceAdd, Nat.reduceLT, true_and, and_true, sizeLine_eq, Nat.reduceLeDiff, Nat.zero_le, ex_or, items_lst, items_tup, eq_self, un_not, cmp_in, len_lst, rd_w, slc_lst, ty_app, ty_get, mtW, if_true, Bool.false_eq_true, if_false, q2, Bool.not_true]
          rw [size_of hb hc] at h
          unfold okWord at h
          have hx : x.length ≤ 1000 := by simpa [W.fit] using f1
          have f3 : (decide (ps.length ≤ 1000) && W.fits ps) = true := f2
          have hps : ps.length ≤ 1000 := of_decide_eq_true (ba2 f3).1
          have fps : ∀ p ∈ ps, p.fit = true ∧ p.deep ≤ 60 := fun p hp => by
            have d3 : W.deeps ps + 1 ≤ 59 := hdd (.tup ps) (by simp)
            have d4 := deeps_mem hp
            exact ⟨fits_iff.mp (ba2 f3).2 p hp, by omega⟩
          unfold r__law_size_8
          have i1 : decide ((1 : Int) ≤ (x.length : Int)) = decide (1 ≤ x.length) := decide_eq_decide.mpr (by omega)
          have i2 : decide ((x.length : Int) ≤ 8) = decide (x.length ≤ 8) := decide_eq_decide.mpr (by omega)
          have i3 : decide ((4 : Int) < (ps.length : Int)) = !decide (ps.length ≤ 4) := by
            by_cases z : ps.length ≤ 4
            · rw [decide_eq_true z, decide_eq_false (by omega)]; rfl
            · rw [decide_eq_false z, decide_eq_true (by omega)]; rfl
          simp only [wSs, wS, wE, wEs, wT, wOT, wI, wO, Lit.w, biW, rs_tup, rs_lst, rs_int, rs_str, rs_bl, rs_non, rs_dct, ix_tup, ix_lst, atI_0, atI_1, atI_2, ex_some, ex_some2, ex_int, ex_bl, tru_bl,
  List.getElem?_cons_zero, List.getElem?_cons_succ, List.set_cons_zero, List.set_cons_succ, eqW_str, eqW_int, eqW_bl, cmp_eq, cmp_lt, cmp_gt, cmp_ge, cmp_le, add_int, sub_int, wipeS, Tg.go, Tg.go.goAll, ex_tup, ex_cons, ex_tl, List.length_cons, List.length_nil, Nat.zero_add, Nat.reduceAdd, Nat.reduceLT, true_and, and_true, sizeLine_eq, Nat.reduceLeDiff, Nat.zero_le, ex_or, items_lst, items_tup, eq_self, un_not, cmp_in, len_lst, rd_w, slc_lst, ty_app, ty_get, mtW, if_true, Bool.false_eq_true, if_false, len_str hx, len_tup, i1, i2, i3]
          generalize decide (1 ≤ x.length) = b1 at h ⊢
          generalize decide (x.length ≤ 8) = b2 at h ⊢
          generalize decide (ps.length ≤ 4) = b3 at h ⊢
          have bad : ∀ {σ : Sl}, Q (.int 1000) S → wSs ⟨callK T G0 (k + e + 2), G0⟩ b__law_size_7 { nx := fun σ' S' => wSs ⟨callK T G0 (k + e + 2), G0⟩ r__law_size_6 { nx := nx, rt := Q, ex := X } σ' S', rt := Q, ex := X } σ S := fun {σ} hq => by
            unfold b__law_size_7
            simp only [wSs, wS, wE, wEs, wT, wOT, wI, wO, Lit.w, biW, rs_tup, rs_lst, rs_int, rs_str, rs_bl, rs_non, rs_dct, ix_tup, ix_lst, atI_0, atI_1, atI_2, ex_some, ex_some2, ex_int, ex_bl, tru_bl,
  List.getElem?_cons_zero, List.getElem?_cons_succ, List.set_cons_zero, List.set_cons_succ, eqW_str, eqW_int, eqW_bl, cmp_eq, cmp_lt, cmp_gt, cmp_ge, cmp_le, add_int, sub_int, wipeS, Tg.go, Tg.go.goAll, ex_tup, ex_cons, ex_tl, List.length_cons, List.length_nil, Nat.zero_add, Nat.reduceAdd, Nat.reduceLT, true_and, and_true, sizeLine_eq, Nat.reduceLeDiff, Nat.zero_le, ex_or, items_lst, items_tup, eq_self, un_not, cmp_in, len_lst, rd_w, slc_lst, ty_app, ty_get, mtW, if_true, Bool.false_eq_true, if_false]
            exact hq
          cases b1 with
          | false => simp only [Bool.false_eq_true, if_false, Bool.not_false, if_true]; exact bad h
          | true =>
            cases b2 with
            | false => simp only [Bool.false_eq_true, if_false, Bool.not_false, if_true]; exact bad h
            | true =>
              cases b3 with
              | false => simp only [Bool.false_eq_true, if_false, Bool.not_false, Bool.not_true, if_true]; exact bad h
              | true =>
                simp only [Bool.false_eq_true, if_false, Bool.not_true, if_true, Bool.true_and] at h ⊢
                unfold r__law_size_6
                simp only [wSs, wS, wE, wEs, wT, wOT, wI, wO, Lit.w, biW, rs_tup, rs_lst, rs_int, rs_str, rs_bl, rs_non, rs_dct, ix_tup, ix_lst, atI_0, atI_1, atI_2, ex_some, ex_some2, ex_int, ex_bl, tru_bl,
  List.getElem?_cons_zero, List.getElem?_cons_succ, List.set_cons_zero, List.set_cons_succ, eqW_str, eqW_int, eqW_bl, cmp_eq, cmp_lt, cmp_gt, cmp_ge, cmp_le, add_int, sub_int, wipeS, Tg.go, Tg.go.goAll, ex_tup, ex_cons, ex_tl, List.length_cons, List.length_nil, Nat.zero_add, Nat.reduceAdd, Nat.reduceLT, true_and, and_true, sizeLine_eq, Nat.reduceLeDiff, Nat.zero_le, ex_or, items_lst, items_tup, eq_self, un_not, cmp_in, len_lst, rd_w, slc_lst, ty_app, ty_get, mtW, if_true, Bool.false_eq_true, if_false, items_str, signs_map]
                have hcl : x.cps.toList.length ≤ 1000 := by
                  have : x.cps.toList.length = x.length := by simp [Str.length]
                  omega
                refine comp_p (fun w => match w with | .str ⟨⟨[c]⟩⟩ => if smallSign c then none else some w | _ => none) (fun w => ∃ c, w = W.str ⟨#[c]⟩) (fun w S' K hw hK => ?_) (fun w hw => by
                  obtain ⟨c, _, rfl⟩ := List.mem_map.mp hw; exact ⟨c, rfl⟩) (by rw [List.length_map]; exact hcl) fun D hD => ?_
                · obtain ⟨c, rfl⟩ := hw
                  unfold t__law_size_3 e__law_size_4
                  simp only [wSs, wS, wE, wEs, wT, wOT, wI, wO, Lit.w, biW, rs_tup, rs_lst, rs_int, rs_str, rs_bl, rs_non, rs_dct, ix_tup, ix_lst, atI_0, atI_1, atI_2, ex_some, ex_some2, ex_int, ex_bl, tru_bl,
  List.getElem?_cons_zero, List.getElem?_cons_succ, List.set_cons_zero, List.set_cons_succ, eqW_str, eqW_int, eqW_bl, cmp_eq, cmp_lt, cmp_gt, cmp_ge, cmp_le, add_int, sub_int, wipeS, Tg.go, Tg.go.goAll, ex_tup, ex_cons, ex_tl, List.length_cons, List.length_nil, Nat.zero_add, Nat.reduceAdd, Nat.reduceLT, true_and, and_true, sizeLine_eq, Nat.reduceLeDiff, Nat.zero_le, ex_or, items_lst, items_tup, eq_self, un_not, cmp_in, len_lst, rd_w, slc_lst, ty_app, ty_get, mtW, if_true, Bool.false_eq_true, if_false, notin_str]
                  have hK : K (if smallSign c then none else some (W.str ⟨#[c]⟩)) S' := hK
                  unfold smallSign at hK
                  generalize decide (c ∈ (("abcdefghijklmnopqrstuvwxyz" : String) : Str).cps.toList) = b at hK ⊢
                  cases b <;> simpa using hK
                · rw [List.filterMap_map]
                  have e1 : (List.filterMap ((fun w => match w with | .str ⟨⟨[c]⟩⟩ => if smallSign c then none else some w | _ => none) ∘ fun c => W.str ⟨#[c]⟩) x.cps.toList) = ((x.cps.toList.filter fun c => !smallSign c).map fun c => (⟨#[c]⟩ : Str)).map W.str := bad_all _
                  rw [e1, Sto.del_set hD]
                  simp only [wSs, wS, wE, wEs, wT, wOT, wI, wO, Lit.w, biW, rs_tup, rs_lst, rs_int, rs_str, rs_bl, rs_non, rs_dct, ix_tup, ix_lst, atI_0, atI_1, atI_2, ex_some, ex_some2, ex_int, ex_bl, tru_bl,
  List.getElem?_cons_zero, List.getElem?_cons_succ, List.set_cons_zero, List.set_cons_succ, eqW_str, eqW_int, eqW_bl, cmp_eq, cmp_lt, cmp_gt, cmp_ge, cmp_le, add_int, sub_int, wipeS, Tg.go, Tg.go.goAll, ex_tup, ex_cons, ex_tl, List.length_cons, List.length_nil, Nat.zero_add, Nat.reduceAdd, Nat.reduceLT, true_and, and_true, sizeLine_eq, Nat.reduceLeDiff, Nat.zero_le, ex_or, items_lst, items_tup, eq_self, un_not, cmp_in, len_lst, rd_w, slc_lst, ty_app, ty_get, mtW, if_true, Bool.false_eq_true, if_false, cmp_ne, eqW_strs, bad_nil]
                  cases qa : x.cps.toList.all smallSign with
                  | true =>
                    rw [qa] at h
                    simp only [Option.map_some, Bool.not_true, Bool.false_eq_true, if_false]
                    simp only [wSs, wS, wE, wEs, wT, wOT, wI, wO, Lit.w, biW, rs_tup, rs_lst, rs_int, rs_str, rs_bl, rs_non, rs_dct, ix_tup, ix_lst, atI_0, atI_1, atI_2, ex_some, ex_some2, ex_int, ex_bl, tru_bl,
  List.getElem?_cons_zero, List.getElem?_cons_succ, List.set_cons_zero, List.set_cons_succ, eqW_str, eqW_int, eqW_bl, cmp_eq, cmp_lt, cmp_gt, cmp_ge, cmp_le, add_int, sub_int, wipeS, Tg.go, Tg.go.goAll, ex_tup, ex_cons, ex_tl, List.length_cons, List.length_nil, Nat.zero_add, Nat.reduceAdd, Nat.reduceLT, true_and, and_true, sizeLine_eq, Nat.reduceLeDiff, Nat.zero_le, ex_or, items_lst, items_tup, eq_self, un_not, cmp_in, len_lst, rd_w, slc_lst, ty_app, ty_get, mtW, if_true, Bool.false_eq_true, if_false]
                    exact sum_tail ih fps hps h
                  | false =>
                    rw [qa] at h
                    simp only [Option.map_some, Bool.not_false, if_true]
                    unfold b__law_size_5
                    simp only [wSs, wS, wE, wEs, wT, wOT, wI, wO, Lit.w, biW, rs_tup, rs_lst, rs_int, rs_str, rs_bl, rs_non, rs_dct, ix_tup, ix_lst, atI_0, atI_1, atI_2, ex_some, ex_some2, ex_int, ex_bl, tru_bl,
  List.getElem?_cons_zero, List.getElem?_cons_succ, List.set_cons_zero, List.set_cons_succ, eqW_str, eqW_int, eqW_bl, cmp_eq, cmp_lt, cmp_gt, cmp_ge, cmp_le, add_int, sub_int, wipeS, Tg.go, Tg.go.goAll, ex_tup, ex_cons, ex_tl, List.length_cons, List.length_nil, Nat.zero_add, Nat.reduceAdd, Nat.reduceLT, true_and, and_true, sizeLine_eq, Nat.reduceLeDiff, Nat.zero_le, ex_or, items_lst, items_tup, eq_self, un_not, cmp_in, len_lst, rd_w, slc_lst, ty_app, ty_get, mtW, if_true, Bool.false_eq_true, if_false]
                    exact h
        · have q2 := nt_dt f2 n2
          simp only [wSs, wS, wE, wEs, wT, wOT, wI, wO, Lit.w, biW, rs_tup, rs_lst, rs_int, rs_str, rs_bl, rs_non, rs_dct, ix_tup, ix_lst, atI_0, atI_1, atI_2, ex_some, ex_some2, ex_int, ex_bl, tru_bl,
  List.getElem?_cons_zero, List.getElem?_cons_succ, List.set_cons_zero, List.set_cons_succ, eqW_str, eqW_int, eqW_bl, cmp_eq, cmp_lt, cmp_gt, cmp_ge, cmp_le, add_int, sub_int, wipeS, Tg.go, Tg.go.goAll, ex_tup, ex_cons, ex_tl, List.length_cons, List.length_nil, Nat.zero_add, Nat.reduceAdd, Nat.reduceLT, true_and, and_true, sizeLine_eq, Nat.reduceLeDiff, Nat.zero_le, ex_or, items_lst, items_tup, eq_self, un_not, cmp_in, len_lst, rd_w, slc_lst, ty_app, ty_get, mtW, if_true, Bool.false_eq_true, if_false, q2, Bool.not_false]
          unfold b__law_size_9
          simp only [wSs, wS, wE, wEs, wT, wOT, wI, wO, Lit.w, biW, rs_tup, rs_lst, rs_int, rs_str, rs_bl, rs_non, rs_dct, ix_tup, ix_lst, atI_0, atI_1, atI_2, ex_some, ex_some2, ex_int, ex_bl, tru_bl,
  List.getElem?_cons_zero, List.getElem?_cons_succ, List.set_cons_zero, List.set_cons_succ, eqW_str, eqW_int, eqW_bl, cmp_eq, cmp_lt, cmp_gt, cmp_ge, cmp_le, add_int, sub_int, wipeS, Tg.go, Tg.go.goAll, ex_tup, ex_cons, ex_tl, List.length_cons, List.length_nil, Nat.zero_add, Nat.reduceAdd, Nat.reduceLT, true_and, and_true, sizeLine_eq, Nat.reduceLeDiff, Nat.zero_le, ex_or, items_lst, items_tup, eq_self, un_not, cmp_in, len_lst, rd_w, slc_lst, ty_app, ty_get, mtW, if_true, Bool.false_eq_true, if_false]
          rw [size_bad hb (.inr fun x ps q => n2 _ (List.cons.inj (List.cons.inj q).2).1)] at h
          exact h
      · have q1 := ns_dt f1 n1
        simp only [wSs, wS, wE, wEs, wT, wOT, wI, wO, Lit.w, biW, rs_tup, rs_lst, rs_int, rs_str, rs_bl, rs_non, rs_dct, ix_tup, ix_lst, atI_0, atI_1, atI_2, ex_some, ex_some2, ex_int, ex_bl, tru_bl,
  List.getElem?_cons_zero, List.getElem?_cons_succ, List.set_cons_zero, List.set_cons_succ, eqW_str, eqW_int, eqW_bl, cmp_eq, cmp_lt, cmp_gt, cmp_ge, cmp_le, add_int, sub_int, wipeS, Tg.go, Tg.go.goAll, ex_tup, ex_cons, ex_tl, List.length_cons, List.length_nil, Nat.zero_add, Nat.reduceAdd, Nat.reduceLT, true_and, and_true, sizeLine_eq, Nat.reduceLeDiff, Nat.zero_le, ex_or, items_lst, items_tup, eq_self, un_not, cmp_in, len_lst, rd_w, slc_lst, ty_app, ty_get, mtW, if_true, Bool.false_eq_true, if_false, q1, Bool.not_false]
        unfold b__law_size_9
        simp only [wSs, wS, wE, wEs, wT, wOT, wI, wO, Lit.w, biW, rs_tup, rs_lst, rs_int, rs_str, rs_bl, rs_non, rs_dct, ix_tup, ix_lst, atI_0, atI_1, atI_2, ex_some, ex_some2, ex_int, ex_bl, tru_bl,
  List.getElem?_cons_zero, List.getElem?_cons_succ, List.set_cons_zero, List.set_cons_succ, eqW_str, eqW_int, eqW_bl, cmp_eq, cmp_lt, cmp_gt, cmp_ge, cmp_le, add_int, sub_int, wipeS, Tg.go, Tg.go.goAll, ex_tup, ex_cons, ex_tl, List.length_cons, List.length_nil, Nat.zero_add, Nat.reduceAdd, Nat.reduceLT, true_and, and_true, sizeLine_eq, Nat.reduceLeDiff, Nat.zero_le, ex_or, items_lst, items_tup, eq_self, un_not, cmp_in, len_lst, rd_w, slc_lst, ty_app, ty_get, mtW, if_true, Bool.false_eq_true, if_false]
        rw [size_bad hb (.inr fun x ps q => n1 _ (List.cons.inj q).1)] at h
        exact h
theorem tail_of {e : Nat} (ih : sizeAt e) : tailOk e := by
  intro hh ys hw hd hl k S Q X h
  have hfs : (decide ((W.str hh :: ys).length ≤ 1000) && W.fits (.str hh :: ys)) = true := hw
  have hf := fits_iff.mp (ba2 hfs).2
  have hdd : ∀ y ∈ ys, y.deep ≤ 59 := fun y hy => by
    have h1 := deeps_mem (ws := .str hh :: ys) (List.mem_cons_of_mem _ hy)
    have h2 : W.deeps (.str hh :: ys) + 1 ≤ 60 := hd
    omega
  have hf2 : ∀ y ∈ ys, y.fit = true := fun y hy => hf y (List.mem_cons_of_mem _ hy)
  unfold r__law_size_12
  simp only [wSs, wS, wE, wEs, wT, wOT, wI, wO, Lit.w, biW, rs_tup, rs_lst, rs_int, rs_str, rs_bl, rs_non, rs_dct, ix_tup, ix_lst, atI_0, atI_1, atI_2, ex_some, ex_some2, ex_int, ex_bl, tru_bl,
  List.getElem?_cons_zero, List.getElem?_cons_succ, List.set_cons_zero, List.set_cons_succ, eqW_str, eqW_int, eqW_bl, cmp_eq, cmp_lt, cmp_gt, cmp_ge, cmp_le, add_int, sub_int, wipeS, Tg.go, Tg.go.goAll, ex_tup, ex_cons, ex_tl, List.length_cons, List.length_nil, Nat.zero_add, Nat.reduceAdd, Nat.reduceLT, true_and, and_true, sizeLine_eq, Nat.reduceLeDiff, Nat.zero_le, ex_or, items_lst, items_tup, eq_self, un_not, cmp_in, len_lst, rd_w, slc_lst, ty_app, ty_get, mtW, if_true, Bool.false_eq_true, if_false]
  cases hb : (hh == ("any" : Str)) with
  | true => simp only [if_true]; exact any_tail hb hf2 hl h
  | false => simp only [Bool.false_eq_true, if_false]; exact of_tail ih hb hf2 hdd hl h
theorem s_size : ∀ d : Nat, sizeAt d
  | 0 => size_core 0 fun e h => nomatch h
  | d + 1 => size_core (d + 1) fun e h => by cases h; exact tail_of (s_size d)
end K01

set_option Elab.async false
set_option linter.all false
set_option maxRecDepth 100000
set_option maxHeartbeats 4000000
namespace K01
open PySem PD
open L2 (atI)
/-! ### places within a term -/
def okSpot : List Nat → PD.Tm → Prop
  | [], _ => True
  | k :: ks, .of _ ts => ∃ u, ts[k]? = some u ∧ okSpot ks u
  | _ :: _, .any _ => False
def spotL (ks : List Nat) : List W := ks.map fun k : Nat => W.int (k : Int)
def spotW (ks : List Nat) : W := .tup (spotL ks)
def spotIn (t : PD.Tm) (n : Nat) (w : W) : Prop := ∃ ks, w = spotW ks ∧ ks.length < n ∧ okSpot ks t
def pre (i : Nat) : W → Option W
  | .tup ks => some (.tup (.int (i : Int) :: ks))
  | _ => none
structure spotsOk (t : PD.Tm) (n : Nat) (ws : List W) : Prop where
  ne : ws ≠ []
  len : ws.length ≤ 5 ^ n
  all : ∀ w ∈ ws, spotIn t n w
def spotsAt (n : Nat) : Prop := ∀ {k : Nat} {S : Sto} {Q X : QW} {t : PD.Tm}, t.fine 10 → t.h ≤ n → (∀ ws, spotsOk t n ws → Q (.lst ws) S) → callK T G0 (k + n) "_law_spots" [t.w] S Q X
theorem any_of : (("any" : Str) == ("of" : Str)) = false := by decide +kernel
theorem of_of : (("of" : Str) == ("of" : Str)) = true := by decide +kernel
theorem w_any {n : Int} : (PD.Tm.any n).w = .tup [.str "any", .int n] := rfl
theorem w_of {x : Str} {ts : List PD.Tm} : (PD.Tm.of x ts).w = .tup [.str "of", .str x, .tup (Tm.ws ts)] := rfl
theorem spots_core (m : Nat) (ih0 : ∀ n, m = n + 1 → spotsAt n) (hm : m ≤ 3) : spotsAt m := by
  intro k S Q X t hf hh h
  cases m with
  | zero => have := Tm.h_pos t; omega
  | succ n =>
    have hn : n + 1 ≤ 3 := hm
    refine o__law_spots ?_
    unfold b__law_spots
    have ih : spotsAt n := ih0 n rfl
    have hp : 1 ≤ 5 ^ n := Nat.pow_pos (by omega)
    have h5 : 5 ^ n ≤ 25 := by
      have : n = 0 ∨ n = 1 ∨ n = 2 := by omega
      rcases this with rfl | rfl | rfl <;> decide
    have e5 : 5 ^ (n + 1) = 5 * 5 ^ n := by rw [Nat.pow_succ]; omega
    cases t with
    | any i =>
      simp only [wSs, wS, wE, wEs, wT, wOT, wI, wO, Lit.w, biW, rs_tup, rs_lst, rs_int, rs_str, rs_bl, rs_non, rs_dct, ix_tup, ix_lst, atI_0, atI_1, atI_2, ex_some, ex_some2, ex_int, ex_bl, tru_bl,
  List.getElem?_cons_zero, List.getElem?_cons_succ, List.set_cons_zero, List.set_cons_succ, eqW_str, eqW_int, eqW_bl, cmp_eq, cmp_lt, cmp_gt, cmp_ge, cmp_le, add_int, sub_int, wipeS, Tg.go, Tg.go.goAll, ex_tup, ex_cons, ex_tl, List.length_cons, List.length_nil, Nat.zero_add, Nat.reduceAdd, Nat.reduceLT, true_and, and_true, sizeLine_eq, Nat.reduceLeDiff, Nat.zero_le, ex_or, ex_or2, items_lst, items_tup, eq_self, un_not, cmp_in, len_lst, rd_w, slc_lst, ty_app, ty_get, mtW, if_true, Bool.false_eq_true, if_false, w_any, any_of]
      exact h _ ⟨by simp, by simp; omega, fun w hw => by
        rw [List.mem_singleton.mp hw]
        exact ⟨[], rfl, by simp, True.intro⟩⟩
    | of x ts =>
      simp only [wSs, wS, wE, wEs, wT, wOT, wI, wO, Lit.w, biW, rs_tup, rs_lst, rs_int, rs_str, rs_bl, rs_non, rs_dct, ix_tup, ix_lst, atI_0, atI_1, atI_2, ex_some, ex_some2, ex_int, ex_bl, tru_bl,
  List.getElem?_cons_zero, List.getElem?_cons_succ, List.set_cons_zero, List.set_cons_succ, eqW_str, eqW_int, eqW_bl, cmp_eq, cmp_lt, cmp_gt, cmp_ge, cmp_le, add_int, sub_int, wipeS, Tg.go, Tg.go.goAll, ex_tup, ex_cons, ex_tl, List.length_cons, List.length_nil, Nat.zero_add, Nat.reduceAdd, Nat.reduceLT, true_and, and_true, sizeLine_eq, Nat.reduceLeDiff, Nat.zero_le, ex_or, ex_or2, items_lst, items_tup, eq_self, un_not, cmp_in, len_lst, rd_w, slc_lst, ty_app, ty_get, mtW, if_true, Bool.false_eq_true, if_false, w_of, of_of]
      unfold b__law_spots_3
      simp only [wSs, wS, wE, wEs, wT, wOT, wI, wO, Lit.w, biW, rs_tup, rs_lst, rs_int, rs_str, rs_bl, rs_non, rs_dct, ix_tup, ix_lst, atI_0, atI_1, atI_2, ex_some, ex_some2, ex_int, ex_bl, tru_bl,
  List.getElem?_cons_zero, List.getElem?_cons_succ, List.set_cons_zero, List.set_cons_succ, eqW_str, eqW_int, eqW_bl, cmp_eq, cmp_lt, cmp_gt, cmp_ge, cmp_le, add_int, sub_int, wipeS, Tg.go, Tg.go.goAll, ex_tup, ex_cons, ex_tl, List.length_cons, List.length_nil, Nat.zero_add, Nat.reduceAdd, Nat.reduceLT, true_and, and_true, sizeLine_eq, Nat.reduceLeDiff, Nat.zero_le, ex_or, ex_or2, items_lst, items_tup, eq_self, un_not, cmp_in, len_lst, rd_w, slc_lst, ty_app, ty_get, mtW, if_true, Bool.false_eq_true, if_false]
      unfold PD.Tm.fine at hf
      unfold PD.Tm.h at hh
      have hl : (Tm.ws ts).length ≤ 4 := by rw [Tm.ws_eq, List.length_map]; exact hf.2.1
      refine loopF_ind (fun xs σ S' => S' = S ∧ (∀ x ∈ xs, ∃ (i : Nat) (u : PD.Tm), x = W.tup [.int (i : Int), u.w] ∧ ts[i]? = some u) ∧ ∃ ws y2 y3 y4, ws ≠ [] ∧ ws.length + xs.length * 5 ^ n ≤ 1 + 4 * 5 ^ n ∧
        (∀ w ∈ ws, spotIn (.of x ts) (n + 1) w) ∧ σ = [some (.tup [.str "of", .str x, .tup (Tm.ws ts)]), some (.lst ws), y2, y3, y4]) ?_ ?_ _ _ _ ?_
      · rintro σ S' ⟨rfl, _, ws, y2, y3, y4, ne, len, all, rfl⟩
        simp only [wSs, wS, wE, wEs, wT, wOT, wI, wO, Lit.w, biW, rs_tup, rs_lst, rs_int, rs_str, rs_bl, rs_non, rs_dct, ix_tup, ix_lst, atI_0, atI_1, atI_2, ex_some, ex_some2, ex_int, ex_bl, tru_bl,
  List.getElem?_cons_zero, List.getElem?_cons_succ, List.set_cons_zero, List.set_cons_succ, eqW_str, eqW_int, eqW_bl, cmp_eq, cmp_lt, cmp_gt, cmp_ge, cmp_le, add_int, sub_int, wipeS, Tg.go, Tg.go.goAll, ex_tup, ex_cons, ex_tl, List.length_cons, List.length_nil, Nat.zero_add, Nat.reduceAdd, Nat.reduceLT, true_and, and_true, sizeLine_eq, Nat.reduceLeDiff, Nat.zero_le, ex_or, ex_or2, items_lst, items_tup, eq_self, un_not, cmp_in, len_lst, rd_w, slc_lst, ty_app, ty_get, mtW, if_true, Bool.false_eq_true, if_false]
        exact h _ ⟨ne, by simp at len; omega, all⟩
      · rintro w xs σ S' N ⟨rfl, hx, ws, y2, y3, y4, ne, len, all, rfl⟩ hN
        obtain ⟨i, u, rfl, hu⟩ := hx w (by simp)
        have um : u ∈ ts := List.mem_of_getElem? hu
        have uf : u.fine 10 := Tm.fines_iff.mp hf.2.2 u um
        have uh := Tm.hs_mem um
        rw [List.length_cons, Nat.succ_mul] at len
        unfold b__law_spots_2
        simp only [wSs, wS, wE, wEs, wT, wOT, wI, wO, Lit.w, biW, rs_tup, rs_lst, rs_int, rs_str, rs_bl, rs_non, rs_dct, ix_tup, ix_lst, atI_0, atI_1, atI_2, ex_some, ex_some2, ex_int, ex_bl, tru_bl,
  List.getElem?_cons_zero, List.getElem?_cons_succ, List.set_cons_zero, List.set_cons_succ, eqW_str, eqW_int, eqW_bl, cmp_eq, cmp_lt, cmp_gt, cmp_ge, cmp_le, add_int, sub_int, wipeS, Tg.go, Tg.go.goAll, ex_tup, ex_cons, ex_tl, List.length_cons, List.length_nil, Nat.zero_add, Nat.reduceAdd, Nat.reduceLT, true_and, and_true, sizeLine_eq, Nat.reduceLeDiff, Nat.zero_le, ex_or, ex_or2, items_lst, items_tup, eq_self, un_not, cmp_in, len_lst, rd_w, slc_lst, ty_app, ty_get, mtW, if_true, Bool.false_eq_true, if_false]
        refine ih uf (by omega) fun us ok => ?_
        simp only [wSs, wS, wE, wEs, wT, wOT, wI, wO, Lit.w, biW, rs_tup, rs_lst, rs_int, rs_str, rs_bl, rs_non, rs_dct, ix_tup, ix_lst, atI_0, atI_1, atI_2, ex_some, ex_some2, ex_int, ex_bl, tru_bl,
  List.getElem?_cons_zero, List.getElem?_cons_succ, List.set_cons_zero, List.set_cons_succ, eqW_str, eqW_int, eqW_bl, cmp_eq, cmp_lt, cmp_gt, cmp_ge, cmp_le, add_int, sub_int, wipeS, Tg.go, Tg.go.goAll, ex_tup, ex_cons, ex_tl, List.length_cons, List.length_nil, Nat.zero_add, Nat.reduceAdd, Nat.reduceLT, true_and, and_true, sizeLine_eq, Nat.reduceLeDiff, Nat.zero_le, ex_or, ex_or2, items_lst, items_tup, eq_self, un_not, cmp_in, len_lst, rd_w, slc_lst, ty_app, ty_get, mtW, if_true, Bool.false_eq_true, if_false]
        refine comp_p (pre i) (spotIn u n) (fun w S' K hw hK => ?_) ok.all (by have := ok.len; omega) fun D hD => ?_
        · obtain ⟨ks, rfl, kl, ko⟩ := hw
          unfold e__law_spots_1
          have hA : binW .Add (.tup [.int (i : Int)]) (.tup (spotL ks)) = some (.tup (.int (i : Int) :: spotL ks)) := add_tup (by unfold spotL; rw [List.length_map, List.length_singleton]; omega)
          unfold spotW
          simp only [wSs, wS, wE, wEs, wT, wOT, wI, wO, Lit.w, biW, rs_tup, rs_lst, rs_int, rs_str, rs_bl, rs_non, rs_dct, ix_tup, ix_lst, atI_0, atI_1, atI_2, ex_some, ex_some2, ex_int, ex_bl, tru_bl,
  List.getElem?_cons_zero, List.getElem?_cons_succ, List.set_cons_zero, List.set_cons_succ, eqW_str, eqW_int, eqW_bl, cmp_eq, cmp_lt, cmp_gt, cmp_ge, cmp_le, add_int, sub_int, wipeS, Tg.go, Tg.go.goAll, ex_tup, ex_cons, ex_tl, List.length_cons, List.length_nil, Nat.zero_add, Nat.reduceAdd, Nat.reduceLT, true_and, and_true, sizeLine_eq, Nat.reduceLeDiff, Nat.zero_le, ex_or, ex_or2, items_lst, items_tup, eq_self, un_not, cmp_in, len_lst, rd_w, slc_lst, ty_app, ty_get, mtW, if_true, Bool.false_eq_true, if_false, hA]
          exact hK
        · rw [Sto.del_set hD]
          have hlen : (us.filterMap (pre i)).length ≤ 5 ^ n := Nat.le_trans (List.length_filterMap_le ..) ok.len
          have hA : binW .Add (.lst ws) (.lst (us.filterMap (pre i))) = some (.lst (ws ++ us.filterMap (pre i))) := add_lst (by omega)
          simp only [wSs, wS, wE, wEs, wT, wOT, wI, wO, Lit.w, biW, rs_tup, rs_lst, rs_int, rs_str, rs_bl, rs_non, rs_dct, ix_tup, ix_lst, atI_0, atI_1, atI_2, ex_some, ex_some2, ex_int, ex_bl, tru_bl,
  List.getElem?_cons_zero, List.getElem?_cons_succ, List.set_cons_zero, List.set_cons_succ, eqW_str, eqW_int, eqW_bl, cmp_eq, cmp_lt, cmp_gt, cmp_ge, cmp_le, add_int, sub_int, wipeS, Tg.go, Tg.go.goAll, ex_tup, ex_cons, ex_tl, List.length_cons, List.length_nil, Nat.zero_add, Nat.reduceAdd, Nat.reduceLT, true_and, and_true, sizeLine_eq, Nat.reduceLeDiff, Nat.zero_le, ex_or, ex_or2, items_lst, items_tup, eq_self, un_not, cmp_in, len_lst, rd_w, slc_lst, ty_app, ty_get, mtW, if_true, Bool.false_eq_true, if_false, hA]
          refine hN _ _ ⟨rfl, fun y hy => hx y (by simp [hy]), _, _, _, _, ?_, ?_, ?_, rfl⟩
          · simp [ne]
          · rw [List.length_append]; omega
          · intro w hw
            rcases List.mem_append.mp hw with z | z
            · exact all w z
            · obtain ⟨w0, hw0, e0⟩ := List.mem_filterMap.mp z
              obtain ⟨ks, rfl, kl, ko⟩ := ok.all w0 hw0
              unfold spotW at e0
              cases e0
              exact ⟨i :: ks, rfl, by simp; omega, u, hu, ko⟩
      · refine ⟨rfl, fun y hy => ?_, _, _, _, _, by simp, ?_, fun w hw => ?_, rfl⟩
        · obtain ⟨i, y', rfl, e1⟩ := enum_mem hy
          obtain ⟨u, e2, rfl⟩ := Tm.ws_get e1
          exact ⟨i, u, rfl, e2⟩
        · rw [enum_len]
          have : (Tm.ws ts).length * 5 ^ n ≤ 4 * 5 ^ n := Nat.mul_le_mul_right _ hl
          simp
          omega
        · rw [List.mem_singleton.mp hw]
          exact ⟨[], rfl, by simp, True.intro⟩
theorem s_spots : ∀ n : Nat, n ≤ 3 → spotsAt n
  | 0, h => spots_core 0 (fun _ e => nomatch e) h
  | n + 1, h => spots_core (n + 1) (fun m e => by cases e; exact s_spots n (by omega)) h
/-! ### a part put otherwise -/
theorem spot_nil (ks : List Nat) : eqW (.tup (spotL ks)) (.tup []) = some ks.isEmpty := by
  rw [eqW_nil]; cases ks <;> rfl
def putAt (D B n : Nat) : Prop := ∀ {k : Nat} {S : Sto} {Q X : QW} {w : W} {ks : List Nat} {t : PD.Tm}, t.fine 10 → t.h ≤ n → okSpot ks t → okT D B w → (∀ r, okT (2 * n + 1 + D) ((B + 200) * 5 ^ n) r → Q r S) →
    callK T G0 (k + n) "_law_put" [t.w, spotW ks, w] S Q X
theorem put_core {D B : Nat} (hB : 82 ≤ B) (m : Nat) (ih0 : ∀ n, m = n + 1 → putAt D B n) (hm : m ≤ 3) : putAt D B m := by
  intro k S Q X w ks t hf hh hs hw h
  cases m with
  | zero => have := Tm.h_pos t; omega
  | succ n =>
  have hn : n + 1 ≤ 3 := hm
  match ks, t, hf, hh, hs with
  | [], t, hf, hh, hs =>
    refine o__law_put ?_
    unfold b__law_put spotW
    have e1 := spot_nil []
    simp only [wSs, wS, wE, wEs, wT, wOT, wI, wO, Lit.w, biW, rs_tup, rs_lst, rs_int, rs_str, rs_bl, rs_non, rs_dct, ix_tup, ix_lst, atI_0, atI_1, atI_2, ex_some, ex_some2, ex_int, ex_bl, tru_bl,
  List.getElem?_cons_zero, List.getElem?_cons_succ, List.set_cons_zero, List.set_cons_succ, eqW_str, eqW_int, eqW_bl, cmp_eq, cmp_lt, cmp_gt, cmp_ge, cmp_le, add_int, sub_int, wipeS, Tg.go, Tg.go.goAll, ex_tup, ex_cons, ex_tl, List.length_cons, List.length_nil, Nat.zero_add, Nat.reduceAdd, Nat.reduceLT, true_and, and_true, sizeLine_eq, Nat.reduceLeDiff, Nat.zero_le, ex_or, ex_or2, items_lst, items_tup, eq_self, un_not, cmp_in, len_lst, rd_w, slc_lst, ty_app, ty_get, mtW, if_true, Bool.false_eq_true, if_false, e1, List.isEmpty_nil]
    unfold b__law_put_1
    simp only [wSs, wS, wE, wEs, wT, wOT, wI, wO, Lit.w, biW, rs_tup, rs_lst, rs_int, rs_str, rs_bl, rs_non, rs_dct, ix_tup, ix_lst, atI_0, atI_1, atI_2, ex_some, ex_some2, ex_int, ex_bl, tru_bl,
  List.getElem?_cons_zero, List.getElem?_cons_succ, List.set_cons_zero, List.set_cons_succ, eqW_str, eqW_int, eqW_bl, cmp_eq, cmp_lt, cmp_gt, cmp_ge, cmp_le, add_int, sub_int, wipeS, Tg.go, Tg.go.goAll, ex_tup, ex_cons, ex_tl, List.length_cons, List.length_nil, Nat.zero_add, Nat.reduceAdd, Nat.reduceLT, true_and, and_true, sizeLine_eq, Nat.reduceLeDiff, Nat.zero_le, ex_or, ex_or2, items_lst, items_tup, eq_self, un_not, cmp_in, len_lst, rd_w, slc_lst, ty_app, ty_get, mtW, if_true, Bool.false_eq_true, if_false]
    exact h w (hw.mono (by omega) (by
      have : 1 ≤ 5 ^ (n + 1) := Nat.pow_pos (by omega)
      have : (B + 200) * 1 ≤ (B + 200) * 5 ^ (n + 1) := Nat.mul_le_mul_left _ this
      omega))
  | j :: ks, .any i, hf, hh, hs => exact hs.elim
  | j :: ks, .of x ts, hf, hh, hs =>
    obtain ⟨u, hu, us⟩ := hs
    have um : u ∈ ts := List.mem_of_getElem? hu
    unfold PD.Tm.fine at hf
    unfold PD.Tm.h at hh
    have uf : u.fine 10 := Tm.fines_iff.mp hf.2.2 u um
    have uh := Tm.hs_mem um
    have hj : j < ts.length := by
      by_cases z : j < ts.length
      · exact z
      · rw [List.getElem?_eq_none (by omega)] at hu; cases hu
    have hl : (Tm.ws ts).length = ts.length := by rw [Tm.ws_eq, List.length_map]
    have hg : atI (Tm.ws ts) (j : Int) = some u.w := by rw [atI_nat, Tm.ws_eq, List.getElem?_map, hu]; rfl
    have hl4 := hf.2.1
    have hp : 1 ≤ 5 ^ n := Nat.pow_pos (by omega)
    have e5 : 5 ^ (n + 1) = 5 * 5 ^ n := by rw [Nat.pow_succ]; omega
    refine o__law_put ?_
    unfold b__law_put spotW
    have e1 : eqW (.tup (W.int (j : Int) :: spotL ks)) (.tup []) = some false := eqW_nil
    have sl : spotL (j :: ks) = W.int (j : Int) :: spotL ks := rfl
    have c1 : cutW (Tm.ws ts) none (some (j : Int)) = (Tm.ws ts).take j := cut_take
    have c2 : cutW (Tm.ws ts) (some ((j : Int) + 1)) none = (Tm.ws ts).drop (j + 1) := cut_drop (k := j + 1)
    have c3 : cutW (W.int (j : Int) :: spotL ks) (some 1) none = spotL ks := cut_drop (k := 1)
    simp only [wSs, wS, wE, wEs, wT, wOT, wI, wO, Lit.w, biW, rs_tup, rs_lst, rs_int, rs_str, rs_bl, rs_non, rs_dct, ix_tup, ix_lst, atI_0, atI_1, atI_2, ex_some, ex_some2, ex_int, ex_bl, tru_bl,
  List.getElem?_cons_zero, List.getElem?_cons_succ, List.set_cons_zero, List.set_cons_succ, eqW_str, eqW_int, eqW_bl, cmp_eq, cmp_lt, cmp_gt, cmp_ge, cmp_le, add_int, sub_int, wipeS, Tg.go, Tg.go.goAll, ex_tup, ex_cons, ex_tl, List.length_cons, List.length_nil, Nat.zero_add, Nat.reduceAdd, Nat.reduceLT, true_and, and_true, sizeLine_eq, Nat.reduceLeDiff, Nat.zero_le, ex_or, ex_or2, items_lst, items_tup, eq_self, un_not, cmp_in, len_lst, rd_w, slc_lst, ty_app, ty_get, mtW, if_true, Bool.false_eq_true, if_false, e1, sl, w_of, slc_tup, c1, hg, c3]
    refine ih0 n rfl uf (by omega) us hw fun r hr => ?_
    have a1 : binW .Add (.tup ((Tm.ws ts).take j)) (.tup [r]) = some (.tup ((Tm.ws ts).take j ++ [r])) := add_tup (by rw [List.length_take, List.length_singleton]; omega)
    have a2 : binW .Add (.tup ((Tm.ws ts).take j ++ [r])) (.tup ((Tm.ws ts).drop (j + 1))) = some (.tup ((Tm.ws ts).take j ++ [r] ++ (Tm.ws ts).drop (j + 1))) := add_tup (by rw [List.length_append, List.length_take, List.length_singleton, List.length_drop]; omega)
    simp only [wSs, wS, wE, wEs, wT, wOT, wI, wO, Lit.w, biW, rs_tup, rs_lst, rs_int, rs_str, rs_bl, rs_non, rs_dct, ix_tup, ix_lst, atI_0, atI_1, atI_2, ex_some, ex_some2, ex_int, ex_bl, tru_bl,
  List.getElem?_cons_zero, List.getElem?_cons_succ, List.set_cons_zero, List.set_cons_succ, eqW_str, eqW_int, eqW_bl, cmp_eq, cmp_lt, cmp_gt, cmp_ge, cmp_le, add_int, sub_int, wipeS, Tg.go, Tg.go.goAll, ex_tup, ex_cons, ex_tl, List.length_cons, List.length_nil, Nat.zero_add, Nat.reduceAdd, Nat.reduceLT, true_and, and_true, sizeLine_eq, Nat.reduceLeDiff, Nat.zero_le, ex_or, ex_or2, items_lst, items_tup, eq_self, un_not, cmp_in, len_lst, rd_w, slc_lst, ty_app, ty_get, mtW, if_true, Bool.false_eq_true, if_false, a1, c2, a2, slc_tup]
    refine h _ ?_
    have hb5 : 200 * 5 ^ n ≤ (B + 200) * 5 ^ n := Nat.mul_le_mul_right _ (by omega)
    have tw : ∀ y ∈ Tm.ws ts, okT (2 * n + 1 + D) ((B + 200) * 5 ^ n) y := fun y hy => by
      rw [Tm.ws_eq] at hy
      obtain ⟨v, hv, rfl⟩ := List.mem_map.mp hy
      have vh := Tm.hs_mem hv
      exact (Tm.okT (L := 10) (by decide) (Tm.fines_iff.mp hf.2.2 v hv) (n := n) (by omega)).mono (by omega) hb5
    have ll : ((Tm.ws ts).take j ++ [r] ++ (Tm.ws ts).drop (j + 1)).length ≤ 4 := by
      rw [List.length_append, List.length_append, List.length_take, List.length_singleton, List.length_drop]; omega
    have inner := okT_tup (xs := (Tm.ws ts).take j ++ [r] ++ (Tm.ws ts).drop (j + 1)) (by omega) (fun y hy => by
      rcases List.mem_append.mp hy with z | z
      · rcases List.mem_append.mp z with z | z
        · exact tw y (List.mem_of_mem_take z)
        · rw [List.mem_singleton.mp z]; exact hr
      · exact tw y (List.mem_of_mem_drop z))
    have i4 : ((Tm.ws ts).take j ++ [r] ++ (Tm.ws ts).drop (j + 1)).length * ((B + 200) * 5 ^ n + 2) ≤ 4 * ((B + 200) * 5 ^ n + 2) := Nat.mul_le_mul_right _ ll
    have lo : ("of" : Str).length = 2 := by decide +kernel
    have sof : okT 0 82 (.str "of") := okT_str ⟨by rw [lo]; omega, by decide +kernel⟩
    have sx : okT 0 82 (.str x) := okT_str hf.1
    have fin := okT_tup3 (D := 2 * n + 1 + D + 1) (sof.mono (by omega) (Nat.le_refl _)) (sx.mono (by omega) (Nat.le_refl _)) inner
    refine fin.mono (by omega) ?_
    rw [e5]
    have hb6 : (B + 200) * 1 ≤ (B + 200) * 5 ^ n := Nat.mul_le_mul_left _ hp
    have : (B + 200) * (5 * 5 ^ n) = 5 * ((B + 200) * 5 ^ n) := by rw [Nat.mul_left_comm]
    omega
theorem s_put {D B : Nat} (hB : 82 ≤ B) : ∀ n : Nat, n ≤ 3 → putAt D B n
  | 0, h => put_core hB 0 (fun _ e => nomatch e) h
  | n + 1, h => put_core hB (n + 1) (fun m e => by cases e; exact s_put hB n (by omega)) h
end K01

set_option Elab.async false
set_option linter.all false
set_option maxRecDepth 100000
set_option maxHeartbeats 4000000
namespace K01
open PySem PD
open L2 (atI)
/-! ### odd things -/
def odd1 : List W := [.non, .int 5, .str "a", .tup [], .tup [.str "any"], .tup [.str "any", .int (-1)], .tup [.str "any", .int 999], .tup [.str "any", .int 1000], .tup [.str "any", .bl true], .tup [.str "any", .str "1"]]
def odd2 : List W := [.lst [.str "any", .int 1], .tup [.str "of", .str "a"], .tup [.str "of", .str "a", .lst []], .tup [.str "of", .str "", .tup []], .tup [.str "of", .str "A", .tup []], .tup [.str "of", .str "abcdefghi", .tup []]]
def odd3 (w : W) : List W := [.tup [.str "of", .str "a b", .tup []], .tup [.str "of", .str "a", .tup [w, w, w, w, w]], .tup [.str "of", .str "a", .tup [w, w, w, w]], .tup [.str "of", .non, .tup []]]
def odd4 : List W := [.tup [.str "Of", .str "a", .tup []]]
def odd5 : List W := [.tup [.str "any", .int 1, .int 2], .tup [.str "of", .str "a", .tup [], .tup []], .tup [.str "of", .str "a1", .tup []], .tup [.str "of", .str "abcdefgh", .tup []], .tup [.lst [.str "of"], .str "a", .tup []], .dct [] []]
def odd6 : List W := [.tup [.str "of", .str "a\n", .tup []]]
def oddL (w : W) : List W := odd1 ++ odd2 ++ odd3 w ++ odd4 ++ odd5 ++ odd6
def okTb (D B : Nat) (w : W) : Bool := w.fit && decide (w.deep ≤ D) && w.dt.showable && decide (w.dt.shown.length ≤ B)
theorem okTb_ok {D B : Nat} {w : W} (h : okTb D B w = true) : okT D B w := by
  unfold okTb at h
  simp only [Bool.and_eq_true, decide_eq_true_eq] at h
  exact ⟨h.1.1.1, h.1.1.2, h.1.2, h.2⟩
theorem odd_ok1 : ∀ w ∈ odd1 ++ odd2 ++ odd4 ++ odd5 ++ odd6, okTb 10 200 w = true := by decide +kernel
theorem odd_ok {w r : W} (hw : okT 7 25000 w) (hr : r ∈ oddL w) : okT 10 125200 r := by
  have cl : ∀ r ∈ odd1 ++ odd2 ++ odd4 ++ odd5 ++ odd6, okT 10 125200 r := fun r hr => (okTb_ok (odd_ok1 r hr)).mono (by omega) (by omega)
  have s1 : okT 8 82 (.str "of") := okTb_ok (by decide +kernel)
  have s2 : okT 8 82 (.str "a") := okTb_ok (by decide +kernel)
  unfold oddL at hr
  simp only [List.mem_append] at hr
  rcases hr with ((((h | h) | h) | h) | h) | h
  · exact cl r (by simp [h])
  · exact cl r (by simp [h])
  · unfold odd3 at h
    simp only [List.mem_cons, List.not_mem_nil, or_false] at h
    rcases h with rfl | rfl | rfl | rfl
    · exact (okTb_ok (D := 10) (B := 200) (by decide +kernel)).mono (by omega) (by omega)
    · have := okT_tup (D := 7) (B := 25000) (xs := [w, w, w, w, w]) (by simp) (fun x hx => by
        simp only [List.mem_cons, List.not_mem_nil, or_false, or_self] at hx
        rw [hx]; exact hw)
      exact (okT_tup3 s1 s2 this).mono (by omega) (by simp)
    · have := okT_tup (D := 7) (B := 25000) (xs := [w, w, w, w]) (by simp) (fun x hx => by
        simp only [List.mem_cons, List.not_mem_nil, or_false, or_self] at hx
        rw [hx]; exact hw)
      exact (okT_tup3 s1 s2 this).mono (by omega) (by simp)
    · exact (okTb_ok (D := 10) (B := 200) (by decide +kernel)).mono (by omega) (by omega)
  · exact cl r (by simp [h])
  · exact cl r (by simp [h])
  · exact cl r (by simp [h])
theorem s_odd {k : Nat} {S : Sto} {Q X : QW} {a : Addr} {n : Int} {t : PD.Tm} (ht : okT 7 25000 t.w) (hS : S a = some (.lst [.int n])) (h : ∀ r, okT 10 125200 r → Q r (S.set a (.lst [.int (n / 28)]))) :
    callK T G0 (k + 2) "_law_odd" [.ref a, t.w] S Q X := by
  refine o__law_odd ?_
  unfold b__law_odd
  refine st_setL (ws := odd1) rfl rfl rfl fun p hp => ?_
  refine st_fz (xs := odd1) rfl rfl Sto.set_same ?_
  rw [Sto.del_set hp]
  refine st_setE (w := .lst (odd1 ++ odd2)) rfl rfl ?_
  refine st_cat (xs := odd1 ++ odd2) (ys := odd3 t.w) rfl rfl rfl rfl fun p2 hp2 => ?_
  refine st_app (w := .tup [.str "Of", .str "a", .tup []]) rfl Sto.set_same rfl rfl ?_
  rw [Sto.set_set]
  refine st_fz rfl rfl Sto.set_same ?_
  rw [Sto.del_set hp2]
  refine st_cat (ys := odd5) rfl rfl rfl rfl fun p3 hp3 => ?_
  refine st_app (w := .tup [.str "of", .str "a\n", .tup []]) rfl Sto.set_same rfl rfl ?_
  rw [Sto.set_set]
  refine st_fz rfl rfl Sto.set_same ?_
  rw [Sto.del_set hp3]
  have el : odd1 ++ odd2 ++ odd3 t.w ++ [W.tup [.str "Of", .str "a", .tup []]] ++ odd5 ++ [W.tup [.str "of", .str "a\n", .tup []]] = oddL t.w := rfl
  rw [el]
  obtain ⟨i0, i1⟩ := mod_range (n := n) (u := 28) (by decide)
  obtain ⟨r, hr, hat⟩ := at_mem (xs := oddL t.w) i0 i1
  have ok := odd_ok ht hr
  generalize oddL t.w = L at *
  simp only [wSs, wS, wE, wEs, wT, wOT, wI, wO, Lit.w, biW, rs_tup, rs_lst, rs_int, rs_str, rs_bl, rs_non, rs_dct, ix_tup, ix_lst, atI_0, atI_1, atI_2, ex_some, ex_some2, ex_int, ex_bl, tru_bl,
  List.getElem?_cons_zero, List.getElem?_cons_succ, List.set_cons_zero, List.set_cons_succ, eqW_str, eqW_int, eqW_bl, cmp_eq, cmp_lt, cmp_gt, cmp_ge, cmp_le, add_int, sub_int, wipeS, Tg.go, Tg.go.goAll, ex_tup, ex_cons, ex_tl, List.length_cons, List.length_nil, Nat.zero_add, Nat.reduceAdd, Nat.reduceLT, true_and, and_true, sizeLine_eq, Nat.reduceLeDiff, Nat.zero_le, ex_or, ex_or2, items_lst, items_tup, eq_self, un_not, cmp_in, len_lst, rd_w, slc_lst, ty_app, ty_get, mtW, if_true, Bool.false_eq_true, if_false]
  refine s_digit hS (by decide) (by decide) ?_
  simp only [wSs, wS, wE, wEs, wT, wOT, wI, wO, Lit.w, biW, rs_tup, rs_lst, rs_int, rs_str, rs_bl, rs_non, rs_dct, ix_tup, ix_lst, atI_0, atI_1, atI_2, ex_some, ex_some2, ex_int, ex_bl, tru_bl,
  List.getElem?_cons_zero, List.getElem?_cons_succ, List.set_cons_zero, List.set_cons_succ, eqW_str, eqW_int, eqW_bl, cmp_eq, cmp_lt, cmp_gt, cmp_ge, cmp_le, add_int, sub_int, wipeS, Tg.go, Tg.go.goAll, ex_tup, ex_cons, ex_tl, List.length_cons, List.length_nil, Nat.zero_add, Nat.reduceAdd, Nat.reduceLT, true_and, and_true, sizeLine_eq, Nat.reduceLeDiff, Nat.zero_le, ex_or, ex_or2, items_lst, items_tup, eq_self, un_not, cmp_in, len_lst, rd_w, slc_lst, ty_app, ty_get, mtW, if_true, Bool.false_eq_true, if_false, hat]
  exact h r ok
end K01

set_option Elab.async false
set_option linter.all false
set_option maxRecDepth 100000
set_option maxHeartbeats 4000000
namespace K01
open PySem PD
open L2 (atI)
/-! ### great terms -/
theorem fit_str {n : Nat} {x : Str} (h : x.length ≤ 1000) : fitD n (.str x) := ⟨decide_eq_true h, Nat.zero_le _⟩
theorem fit3 {n : Nat} {a b c : W} (ha : fitD n a) (hb : fitD n b) (hc : fitD n c) : fitD (n + 1) (.tup [a, b, c]) := fitD_tup (by simp) fun x hx => by
  simp only [List.mem_cons, List.not_mem_nil, or_false] at hx
  rcases hx with rfl | rfl | rfl
  · exact ha
  · exact hb
  · exact hc
theorem fit4 {n : Nat} {a b c d : W} (ha : fitD n a) (hb : fitD n b) (hc : fitD n c) (hd : fitD n d) : fitD (n + 1) (.tup [a, b, c, d]) := fitD_tup (by simp) fun x hx => by
  simp only [List.mem_cons, List.not_mem_nil, or_false] at hx
  rcases hx with rfl | rfl | rfl | rfl
  · exact ha
  · exact hb
  · exact hc
  · exact hd
theorem s_of {n : Nat} : fitD n (.str "of") := fit_str (by decide +kernel)
theorem s_k {n : Nat} : fitD n (.str "k") := fit_str (by decide +kernel)
theorem s_h {n : Nat} : fitD n (.str "h") := fit_str (by decide +kernel)
theorem s_f {n : Nat} : fitD n (.str "f") := fit_str (by decide +kernel)
def allF (ws : List W) : Prop := ws.length ≤ 100 ∧ ∀ w ∈ ws, fitD 60 w
theorem allF.snoc {ws : List W} {w : W} (h : ws.length ≤ 99 ∧ ∀ w ∈ ws, fitD 60 w) (hw : fitD 60 w) : allF (ws ++ [w]) := ⟨by rw [List.length_append, List.length_singleton]; omega, fun x hx => by
  rcases List.mem_append.mp hx with z | z
  · exact h.2 x z
  · rw [List.mem_singleton.mp z]; exact hw⟩
theorem app_ok {C : Cn} {σ : Sl} {S : Sto} {D : En} {r : Sts} {j : Nat} {e : E} {p : Addr} {xs : List W} {w : W} (hj : σ[j]? = some (some (.ref p))) (hp : S p = some (.lst xs)) (h : evE σ e = some w) (hl : xs.length ≤ 1000) (q : wSs C r D σ (S.set p (.lst (xs ++ [w])))) :
    wSs C (.cons (.expr (.meth .append (.loc j) (.cons e .nil))) r) D σ S := st_app hj hp h (Nat.ble_eq_true_of_le hl) q
theorem s_great {k : Nat} {S : Sto} {Q X : QW} (h : ∀ ws, (∀ w ∈ ws, fitD 60 w) → Q (.lst ws) S) : callK T G0 (k + 1) "_law_great" [] S Q X := by
  refine o__law_great ?_
  unfold b__law_great
  refine st_setL (ws := []) rfl rfl rfl fun p hp => ?_
  have m4 : binW .Mult (.tup [W.tup [.str "any", .int 0]]) (.int 4) = some (.tup [.tup [.str "any", .int 0], .tup [.str "any", .int 0], .tup [.str "any", .int 0], .tup [.str "any", .int 0]]) := mul_tup (x := [W.tup [.str "any", .int 0]]) (j := 4) (by omega) (by simp) (by simp)
  have fany : ∀ i : Int, fitD 1 (.tup [.str "any", .int i]) := fun i => fitD_tup (by simp) fun x hx => by
    simp only [List.mem_cons, List.not_mem_nil, or_false] at hx
    rcases hx with rfl | rfl
    · exact fit_str (by decide +kernel)
    · exact ⟨rfl, Nat.le_refl _⟩
  refine st_forE (w := .tup [.int 11, .int 12, .int 13]) rfl rfl ?_
  refine loopF_ind (fun xs σ S' => (∀ x ∈ xs, ∃ i : Int, x = .int i ∧ 1 ≤ i ∧ i ≤ 13) ∧ ∃ ws y1 y2 y3, ws.length + xs.length ≤ 3 ∧ (∀ w ∈ ws, fitD 60 w) ∧ S' = S.set p (.lst ws) ∧ σ = [some (.ref p), y1, y2, y3, none, none, none, none, none]) ?_ ?_ _ _ _ ?_
  · rintro σ S' ⟨_, ws, y1, y2, y3, len, fw, rfl, rfl⟩
    refine st_setE (w := .tup [.str "of", .str "h", .tup [.tup [.str "any", .int 0], .tup [.str "any", .int 0], .tup [.str "any", .int 0], .tup [.str "any", .int 0]]]) rfl rfl ?_
    have g5 : fitD 3 (.tup [.str "of", .str "h", .tup [.tup [.str "any", .int 0], .tup [.str "any", .int 0], .tup [.str "any", .int 0], .tup [.str "any", .int 0]]]) := fit3 s_of s_h (fit4 (fany 0) (fany 0) (fany 0) (fany 0))
    generalize W.tup [.str "of", .str "h", .tup [.tup [.str "any", .int 0], .tup [.str "any", .int 0], .tup [.str "any", .int 0], .tup [.str "any", .int 0]]] = five at g5 ⊢
    refine st_setE (w := .tup [.str "of", .str "h", .tup [five, five, five, five]]) rfl rfl ?_
    have g20 : fitD 5 (.tup [.str "of", .str "h", .tup [five, five, five, five]]) := fit3 s_of s_h (fit4 g5 g5 g5 g5)
    generalize W.tup [.str "of", .str "h", .tup [five, five, five, five]] = twenty at g20 ⊢
    refine st_setE (w := .tup [.str "of", .str "h", .tup [twenty, twenty, twenty, twenty]]) rfl rfl ?_
    have gm : fitD 7 (.tup [.str "of", .str "h", .tup [twenty, twenty, twenty, twenty]]) := fit3 s_of s_h (fit4 g20 g20 g20 g20)
    generalize W.tup [.str "of", .str "h", .tup [twenty, twenty, twenty, twenty]] = most at gm ⊢
    refine st_forE (w := .tup [.tup [.str "of", .str "k", .tup [most, most, twenty, .tup [.str "any", .int 1]]], .tup [.str "of", .str "k", .tup [most, most, twenty, five]]]) rfl rfl ?_
    refine loopF_ind (fun xs σ S' => (∀ x ∈ xs, fitD 60 x) ∧ ∃ ws y7, ws.length + xs.length ≤ 5 ∧ (∀ w ∈ ws, fitD 60 w) ∧ S' = S.set p (.lst ws) ∧ σ = [some (.ref p), y1, y2, y3, some five, some twenty, some most, y7, none]) ?_ ?_ _ _ _ ?_
    · rintro σ S' ⟨_, ws, y7, len, fw, rfl, rfl⟩
      refine st_forE (w := .tup [.int 1, .int 2, .int 3]) rfl rfl ?_
      refine loopF_ind (fun xs σ S' => (∀ x ∈ xs, x = .int 1 ∨ x = .int 2 ∨ x = .int 3) ∧ ∃ ws y8, ws.length + xs.length ≤ 8 ∧ (∀ w ∈ ws, fitD 60 w) ∧ S' = S.set p (.lst ws) ∧ σ = [some (.ref p), y1, y2, y3, some five, some twenty, some most, y7, y8]) ?_ ?_ _ _ _ ?_
      · rintro σ S' ⟨_, ws, y8, len, fw, rfl, rfl⟩
        refine st_fz rfl rfl Sto.set_same ?_
        rw [Sto.del_set hp]
        refine st_ret (w := .lst ws) rfl ?_
        exact h ws fw
      · rintro x xs σ S' N ⟨hx, ws, y8, len, fw, rfl, rfl⟩ hN
        rw [List.length_cons] at len
        refine go_name rfl ?_
        unfold b__law_great_1
        have step : ∀ many : List W, (∀ w ∈ many, fitD 1 w) → many.length ≤ 3 → fitD 60 (.tup [.str "of", .str "k", .tup [most, most, twenty, .tup [.str "of", .str "h", .tup (five :: many)]]]) := fun many hm hl => by
          have a1 : fitD 4 (.tup (five :: many)) := fitD_tup (by simp; omega) fun y hy => by
            rcases List.mem_cons.mp hy with rfl | z
            · exact g5
            · exact (hm y z).mono (by omega)
          have a2 := fit3 s_of s_h a1
          exact (fit3 s_of s_k (fit4 gm gm (g20.mono (by omega)) (a2.mono (by omega)))).mono (by omega)
        have hw : ∀ x' ∈ xs, x' = .int 1 ∨ x' = .int 2 ∨ x' = .int 3 := fun y hy => hx y (by simp [hy])
        rcases hx x (by simp) with rfl | rfl | rfl
        · refine app_ok (w := .tup [.str "of", .str "k", .tup [most, most, twenty, .tup [.str "of", .str "h", .tup [five, .tup [.str "any", .int 9]]]]]) rfl Sto.set_same rfl (by omega) ?_
          rw [Sto.set_set]
          have := step [.tup [.str "any", .int 9]] (fun w hw => by rw [List.mem_singleton.mp hw]; exact fany 9) (by simp)
          exact hN _ _ ⟨hw, _, _, by rw [List.length_append, List.length_singleton]; omega, (allF.snoc ⟨by omega, fw⟩ this).2, rfl, rfl⟩
        · refine app_ok (w := .tup [.str "of", .str "k", .tup [most, most, twenty, .tup [.str "of", .str "h", .tup [five, .tup [.str "any", .int 9], .tup [.str "any", .int 9]]]]]) rfl Sto.set_same rfl (by omega) ?_
          rw [Sto.set_set]
          have := step [.tup [.str "any", .int 9], .tup [.str "any", .int 9]] (fun w hw => by simp only [List.mem_cons, List.not_mem_nil, or_false, or_self] at hw; rw [hw]; exact fany 9) (by simp)
          exact hN _ _ ⟨hw, _, _, by rw [List.length_append, List.length_singleton]; omega, (allF.snoc ⟨by omega, fw⟩ this).2, rfl, rfl⟩
        · refine app_ok (w := .tup [.str "of", .str "k", .tup [most, most, twenty, .tup [.str "of", .str "h", .tup [five, .tup [.str "any", .int 9], .tup [.str "any", .int 9], .tup [.str "any", .int 9]]]]]) rfl Sto.set_same rfl (by omega) ?_
          rw [Sto.set_set]
          have := step [.tup [.str "any", .int 9], .tup [.str "any", .int 9], .tup [.str "any", .int 9]] (fun w hw => by simp only [List.mem_cons, List.not_mem_nil, or_false, or_self] at hw; rw [hw]; exact fany 9) (by simp)
          exact hN _ _ ⟨hw, _, _, by rw [List.length_append, List.length_singleton]; omega, (allF.snoc ⟨by omega, fw⟩ this).2, rfl, rfl⟩
      · exact ⟨fun x hx => by simpa using hx, ws, _, by simp at len ⊢; omega, fw, rfl, rfl⟩
    · rintro x xs σ S' N ⟨hx, ws, y7, len, fw, rfl, rfl⟩ hN
      rw [List.length_cons] at len
      refine go_name rfl ?_
      unfold b__law_great_2
      refine app_ok (w := x) rfl Sto.set_same rfl (by omega) ?_
      rw [Sto.set_set]
      exact hN _ _ ⟨fun y hy => hx y (by simp [hy]), _, _, by rw [List.length_append, List.length_singleton]; omega, (allF.snoc ⟨by omega, fw⟩ (hx x (by simp))).2, rfl, rfl⟩
    · refine ⟨fun x hx => ?_, ws, _, by simp at len ⊢; omega, fw, rfl, rfl⟩
      simp only [List.mem_cons, List.not_mem_nil, or_false] at hx
      rcases hx with rfl | rfl
      · exact (fit3 s_of s_k (fit4 gm gm (g20.mono (by omega)) ((fany 1).mono (by omega)))).mono (by omega)
      · exact (fit3 s_of s_k (fit4 gm gm (g20.mono (by omega)) (g5.mono (by omega)))).mono (by omega)
  · rintro x xs σ S' N ⟨hx, ws, y1, y2, y3, len, fw, rfl, rfl⟩ hN
    rw [List.length_cons] at len
    obtain ⟨i, rfl, i1, i2⟩ := hx x (by simp)
    refine go_name rfl ?_
    unfold b__law_great_4
    refine st_setE (w := .tup [.str "of", .str "a", .tup []]) rfl rfl ?_
    refine st_forR (j := i - 1) rfl (by omega) (by omega) ?_
    refine loopF_ind (fun xs' σ S' => S' = S.set p (.lst ws) ∧ ∃ c y3, fitD (40 - 2 * xs'.length) c ∧ xs'.length ≤ 12 ∧ σ = [some (.ref p), some (.int i), some c, y3, none, none, none, none, none]) ?_ ?_ _ _ _ ?_
    · rintro σ S' ⟨rfl, c, y3, fc, _, rfl⟩
      refine app_ok (w := c) rfl Sto.set_same rfl (by omega) ?_
      rw [Sto.set_set]
      exact hN _ _ ⟨fun y hy => hx y (by simp [hy]), _, _, _, _, by rw [List.length_append, List.length_singleton]; omega, (allF.snoc ⟨by omega, fw⟩ (fc.mono (by omega))).2, rfl, rfl⟩
    · rintro x xs' σ S' N' ⟨rfl, c, y3, fc, hl, rfl⟩ hN'
      rw [List.length_cons] at hl fc
      refine go_name rfl ?_
      unfold b__law_great_3
      refine st_setE (w := .tup [.str "of", .str "f", .tup [c]]) rfl rfl ?_
      refine hN' _ _ ⟨rfl, _, _, ?_, by omega, rfl⟩
      have a1 : fitD (40 - 2 * (xs'.length + 1) + 1) (.tup [c]) := fitD_tup (by simp) fun y hy => by rw [List.mem_singleton.mp hy]; exact fc
      exact (fit3 s_of s_f a1).mono (by omega)
    · refine ⟨rfl, _, _, ?_, by unfold rgW; simp; omega, rfl⟩
      have a0 : fitD 1 (W.tup []) := fitD_tup (by simp) fun y hy => nomatch hy
      exact (fit3 s_of (fit_str (by decide +kernel)) a0).mono (by unfold rgW; simp; omega)
  · refine ⟨fun x hx => ?_, [], none, none, none, by simp, (fun w hw => nomatch hw), rfl, rfl⟩
    simp only [List.mem_cons, List.not_mem_nil, or_false] at hx
    rcases hx with rfl | rfl | rfl
    · exact ⟨_, rfl, by omega, by omega⟩
    · exact ⟨_, rfl, by omega, by omega⟩
    · exact ⟨_, rfl, by omega, by omega⟩
end K01

set_option Elab.async false
set_option linter.all false
set_option maxRecDepth 100000
set_option maxHeartbeats 4000000
namespace K01
open PySem PD
open L2 (atI)
theorem dd_bl {b : Bool} : (W.bl b).dd = some (.bool b) := rfl
theorem is_bl {b : Bool} : isaD .bool (.bool b) = true := rfl
theorem s_size12 {k : Nat} {S : Sto} {Q X : QW} {w : W} (hw : fitD 60 w) (h : Q (.int (sizeL 12 w)) S) : callK T G0 (k + 14) "_law_size" [w, .int 12] S Q X := s_size 12 w hw.1 hw.2 h
theorem same_bl {b : Bool} : (!(b == b)) = false := by cases b <;> rfl
/-- a thing looked at -/
theorem s_thing {w : W} {S : Sto} {D : En} {y0 y1 y2 y3 y4 y5 y7 y8 : Option W} (hw : okT 17 16777216 w) (h : ∀ y7 y8, D.nx [y0, y1, y2, y3, y4, y5, some w, y7, y8] S) :
    wSs ⟨callK T G0 199, G0⟩ b_law_2 D [y0, y1, y2, y3, y4, y5, some w, y7, y8] S := by
  unfold b_law_2
  have hd := (W.fit_d w hw.fit).2.1
  have hdp : w.dt.depth ≤ 100 := by rw [(W.fit_d w hw.fit).2.2]; have := hw.deep; omega
  have f60 : fitD 60 w := ⟨hw.fit, by have := hw.deep; omega⟩
  have hl := hw.len
  simp only [wSs, wS, wE, wEs, wT, wOT, wI, wO, Lit.w, biW, rs_tup, rs_lst, rs_int, rs_str, rs_bl, rs_non, rs_dct, ix_tup, ix_lst, atI_0, atI_1, atI_2, ex_some, ex_some2, ex_int, ex_bl, tru_bl,
  List.getElem?_cons_zero, List.getElem?_cons_succ, List.set_cons_zero, List.set_cons_succ, eqW_str, eqW_int, eqW_bl, cmp_eq, cmp_lt, cmp_gt, cmp_ge, cmp_le, add_int, sub_int, wipeS, Tg.go, Tg.go.goAll, ex_tup, ex_cons, ex_tl, List.length_cons, List.length_nil, Nat.zero_add, Nat.reduceAdd, Nat.reduceLT, true_and, and_true, sizeLine_eq, Nat.reduceLeDiff, Nat.zero_le, ex_or, ex_or2, items_lst, items_tup, eq_self, un_not, cmp_in, len_lst, rd_w, slc_lst, ty_app, ty_get, mtW, if_true, Bool.false_eq_true, if_false, hd]
  refine ⟨hw.sh, hl, hdp, ?_⟩
  refine s_is_term f60.1 f60.2 ?_
  simp only [wSs, wS, wE, wEs, wT, wOT, wI, wO, Lit.w, biW, rs_tup, rs_lst, rs_int, rs_str, rs_bl, rs_non, rs_dct, ix_tup, ix_lst, atI_0, atI_1, atI_2, ex_some, ex_some2, ex_int, ex_bl, tru_bl,
  List.getElem?_cons_zero, List.getElem?_cons_succ, List.set_cons_zero, List.set_cons_succ, eqW_str, eqW_int, eqW_bl, cmp_eq, cmp_lt, cmp_gt, cmp_ge, cmp_le, add_int, sub_int, wipeS, Tg.go, Tg.go.goAll, ex_tup, ex_cons, ex_tl, List.length_cons, List.length_nil, Nat.zero_add, Nat.reduceAdd, Nat.reduceLT, true_and, and_true, sizeLine_eq, Nat.reduceLeDiff, Nat.zero_le, ex_or, ex_or2, items_lst, items_tup, eq_self, un_not, cmp_in, len_lst, rd_w, slc_lst, ty_app, ty_get, mtW, if_true, Bool.false_eq_true, if_false, dd_bl, is_bl, Bool.not_true]
  refine s_size12 f60 ?_
  simp only [wSs, wS, wE, wEs, wT, wOT, wI, wO, Lit.w, biW, rs_tup, rs_lst, rs_int, rs_str, rs_bl, rs_non, rs_dct, ix_tup, ix_lst, atI_0, atI_1, atI_2, ex_some, ex_some2, ex_int, ex_bl, tru_bl,
  List.getElem?_cons_zero, List.getElem?_cons_succ, List.set_cons_zero, List.set_cons_succ, eqW_str, eqW_int, eqW_bl, cmp_eq, cmp_lt, cmp_gt, cmp_ge, cmp_le, add_int, sub_int, wipeS, Tg.go, Tg.go.goAll, ex_tup, ex_cons, ex_tl, List.length_cons, List.length_nil, Nat.zero_add, Nat.reduceAdd, Nat.reduceLT, true_and, and_true, sizeLine_eq, Nat.reduceLeDiff, Nat.zero_le, ex_or, ex_or2, items_lst, items_tup, eq_self, un_not, cmp_in, len_lst, rd_w, slc_lst, ty_app, ty_get, mtW, if_true, Bool.false_eq_true, if_false, ne_bl]
  unfold termW
  simp only [wSs, wS, wE, wEs, wT, wOT, wI, wO, Lit.w, biW, rs_tup, rs_lst, rs_int, rs_str, rs_bl, rs_non, rs_dct, ix_tup, ix_lst, atI_0, atI_1, atI_2, ex_some, ex_some2, ex_int, ex_bl, tru_bl,
  List.getElem?_cons_zero, List.getElem?_cons_succ, List.set_cons_zero, List.set_cons_succ, eqW_str, eqW_int, eqW_bl, cmp_eq, cmp_lt, cmp_gt, cmp_ge, cmp_le, add_int, sub_int, wipeS, Tg.go, Tg.go.goAll, ex_tup, ex_cons, ex_tl, List.length_cons, List.length_nil, Nat.zero_add, Nat.reduceAdd, Nat.reduceLT, true_and, and_true, sizeLine_eq, Nat.reduceLeDiff, Nat.zero_le, ex_or, ex_or2, items_lst, items_tup, eq_self, un_not, cmp_in, len_lst, rd_w, slc_lst, ty_app, ty_get, mtW, if_true, Bool.false_eq_true, if_false, same_bl, hd]
  refine ⟨hw.sh, hl, hdp, ?_⟩
  simp only [wSs, wS, wE, wEs, wT, wOT, wI, wO, Lit.w, biW, rs_tup, rs_lst, rs_int, rs_str, rs_bl, rs_non, rs_dct, ix_tup, ix_lst, atI_0, atI_1, atI_2, ex_some, ex_some2, ex_int, ex_bl, tru_bl,
  List.getElem?_cons_zero, List.getElem?_cons_succ, List.set_cons_zero, List.set_cons_succ, eqW_str, eqW_int, eqW_bl, cmp_eq, cmp_lt, cmp_gt, cmp_ge, cmp_le, add_int, sub_int, wipeS, Tg.go, Tg.go.goAll, ex_tup, ex_cons, ex_tl, List.length_cons, List.length_nil, Nat.zero_add, Nat.reduceAdd, Nat.reduceLT, true_and, and_true, sizeLine_eq, Nat.reduceLeDiff, Nat.zero_le, ex_or, ex_or2, items_lst, items_tup, eq_self, un_not, cmp_in, len_lst, rd_w, slc_lst, ty_app, ty_get, mtW, if_true, Bool.false_eq_true, if_false, ne_str]
  exact h _ _
theorem law_ok : lawOk T G0 200 := by
  intro ns hns
  refine o_law ?_
  unfold b_law
  have hcut : (cutW (ns.map W.int) none (some 20)).length ≤ 63 := by
    have := cut_len (xs := ns.map W.int) (lo := none) (hi := some 20)
    rw [List.length_map] at this
    omega
  have hadd : binW .Add (.lst (cutW (ns.map W.int) none (some 20))) (.lst [.int 4]) = some (.lst (cutW (ns.map W.int) none (some 20) ++ [.int 4])) := add_lst (by rw [List.length_singleton]; omega)
  simp only [wSs, wS, wE, wEs, wT, wOT, wI, wO, Lit.w, biW, rs_tup, rs_lst, rs_int, rs_str, rs_bl, rs_non, rs_dct, ix_tup, ix_lst, atI_0, atI_1, atI_2, ex_some, ex_some2, ex_int, ex_bl, tru_bl,
  List.getElem?_cons_zero, List.getElem?_cons_succ, List.set_cons_zero, List.set_cons_succ, eqW_str, eqW_int, eqW_bl, cmp_eq, cmp_lt, cmp_gt, cmp_ge, cmp_le, add_int, sub_int, wipeS, Tg.go, Tg.go.goAll, ex_tup, ex_cons, ex_tl, List.length_cons, List.length_nil, Nat.zero_add, Nat.reduceAdd, Nat.reduceLT, true_and, and_true, sizeLine_eq, Nat.reduceLeDiff, Nat.zero_le, ex_or, ex_or2, items_lst, items_tup, eq_self, un_not, cmp_in, len_lst, rd_w, slc_lst, ty_app, ty_get, mtW, if_true, Bool.false_eq_true, if_false, hadd]
  refine s_great fun ws hws => ?_
  simp only [wSs, wS, wE, wEs, wT, wOT, wI, wO, Lit.w, biW, rs_tup, rs_lst, rs_int, rs_str, rs_bl, rs_non, rs_dct, ix_tup, ix_lst, atI_0, atI_1, atI_2, ex_some, ex_some2, ex_int, ex_bl, tru_bl,
  List.getElem?_cons_zero, List.getElem?_cons_succ, List.set_cons_zero, List.set_cons_succ, eqW_str, eqW_int, eqW_bl, cmp_eq, cmp_lt, cmp_gt, cmp_ge, cmp_le, add_int, sub_int, wipeS, Tg.go, Tg.go.goAll, ex_tup, ex_cons, ex_tl, List.length_cons, List.length_nil, Nat.zero_add, Nat.reduceAdd, Nat.reduceLT, true_and, and_true, sizeLine_eq, Nat.reduceLeDiff, Nat.zero_le, ex_or, ex_or2, items_lst, items_tup, eq_self, un_not, cmp_in, len_lst, rd_w, slc_lst, ty_app, ty_get, mtW, if_true, Bool.false_eq_true, if_false]
  refine loopF_ind (fun xs σ S' => (∀ x ∈ xs, fitD 60 x) ∧ ∃ y1, σ = [some (.lst (ns.map W.int)), y1, none, none, none, none, none, none, none]) ?_ ?_ _ _ _ ?_
  · rintro σ S' ⟨_, y1, rfl⟩
    simp only [wSs, wS, wE, wEs, wT, wOT, wI, wO, Lit.w, biW, rs_tup, rs_lst, rs_int, rs_str, rs_bl, rs_non, rs_dct, ix_tup, ix_lst, atI_0, atI_1, atI_2, ex_some, ex_some2, ex_int, ex_bl, tru_bl,
  List.getElem?_cons_zero, List.getElem?_cons_succ, List.set_cons_zero, List.set_cons_succ, eqW_str, eqW_int, eqW_bl, cmp_eq, cmp_lt, cmp_gt, cmp_ge, cmp_le, add_int, sub_int, wipeS, Tg.go, Tg.go.goAll, ex_tup, ex_cons, ex_tl, List.length_cons, List.length_nil, Nat.zero_add, Nat.reduceAdd, Nat.reduceLT, true_and, and_true, sizeLine_eq, Nat.reduceLeDiff, Nat.zero_le, ex_or, ex_or2, items_lst, items_tup, eq_self, un_not, cmp_in, len_lst, rd_w, slc_lst, ty_app, ty_get, mtW, if_true, Bool.false_eq_true, if_false, hadd]
    refine loopF_ind (fun xs σ S' => (∀ x ∈ xs, ∃ i, x = W.int i) ∧ ∃ y1 y2 y3 y4 y5 y6 y7 y8, σ = [some (.lst (ns.map W.int)), y1, y2, y3, y4, y5, y6, y7, y8]) ?_ ?_ _ _ _ ?_
    · rintro σ S' _
      simp only [wSs, wS, wE, wEs, wT, wOT, wI, wO, Lit.w, biW, rs_tup, rs_lst, rs_int, rs_str, rs_bl, rs_non, rs_dct, ix_tup, ix_lst, atI_0, atI_1, atI_2, ex_some, ex_some2, ex_int, ex_bl, tru_bl,
  List.getElem?_cons_zero, List.getElem?_cons_succ, List.set_cons_zero, List.set_cons_succ, eqW_str, eqW_int, eqW_bl, cmp_eq, cmp_lt, cmp_gt, cmp_ge, cmp_le, add_int, sub_int, wipeS, Tg.go, Tg.go.goAll, ex_tup, ex_cons, ex_tl, List.length_cons, List.length_nil, Nat.zero_add, Nat.reduceAdd, Nat.reduceLT, true_and, and_true, sizeLine_eq, Nat.reduceLeDiff, Nat.zero_le, ex_or, ex_or2, items_lst, items_tup, eq_self, un_not, cmp_in, len_lst, rd_w, slc_lst, ty_app, ty_get, mtW, if_true, Bool.false_eq_true, if_false]
    · rintro x xs σ S N ⟨hx, y1, y2, y3, y4, y5, y6, y7, y8, rfl⟩ hN
      obtain ⟨c, rfl⟩ := hx x (by simp)
      unfold b_law_3
      simp only [wSs, wS, wE, wEs, wT, wOT, wI, wO, Lit.w, biW, rs_tup, rs_lst, rs_int, rs_str, rs_bl, rs_non, rs_dct, ix_tup, ix_lst, atI_0, atI_1, atI_2, ex_some, ex_some2, ex_int, ex_bl, tru_bl,
  List.getElem?_cons_zero, List.getElem?_cons_succ, List.set_cons_zero, List.set_cons_succ, eqW_str, eqW_int, eqW_bl, cmp_eq, cmp_lt, cmp_gt, cmp_ge, cmp_le, add_int, sub_int, wipeS, Tg.go, Tg.go.goAll, ex_tup, ex_cons, ex_tl, List.length_cons, List.length_nil, Nat.zero_add, Nat.reduceAdd, Nat.reduceLT, true_and, and_true, sizeLine_eq, Nat.reduceLeDiff, Nat.zero_le, ex_or, ex_or2, items_lst, items_tup, eq_self, un_not, cmp_in, len_lst, rd_w, slc_lst, ty_app, ty_get, mtW, if_true, Bool.false_eq_true, if_false]
      refine s_left fun p m hp => ?_
      refine s_table Sto.set_same fun rows m2 tk => ?_
      rw [Sto.set_set]
      refine s_term 2 tk (by decide) (by decide) Sto.set_same fun t m3 f1 h1 => ?_
      rw [Sto.set_set]
      have f10 : t.fine 10 := Tm.fine_mono (by decide) f1
      refine s_spots 3 (by decide) f10 h1 fun ws ok => ?_
      have wl := ok.len
      have wp : 0 < ws.length := List.length_pos_iff.mpr ok.ne
      simp only [wSs, wS, wE, wEs, wT, wOT, wI, wO, Lit.w, biW, rs_tup, rs_lst, rs_int, rs_str, rs_bl, rs_non, rs_dct, ix_tup, ix_lst, atI_0, atI_1, atI_2, ex_some, ex_some2, ex_int, ex_bl, tru_bl,
  List.getElem?_cons_zero, List.getElem?_cons_succ, List.set_cons_zero, List.set_cons_succ, eqW_str, eqW_int, eqW_bl, cmp_eq, cmp_lt, cmp_gt, cmp_ge, cmp_le, add_int, sub_int, wipeS, Tg.go, Tg.go.goAll, ex_tup, ex_cons, ex_tl, List.length_cons, List.length_nil, Nat.zero_add, Nat.reduceAdd, Nat.reduceLT, true_and, and_true, sizeLine_eq, Nat.reduceLeDiff, Nat.zero_le, ex_or, ex_or2, items_lst, items_tup, eq_self, un_not, cmp_in, len_lst, rd_w, slc_lst, ty_app, ty_get, mtW, if_true, Bool.false_eq_true, if_false]
      refine s_digit Sto.set_same (by omega) (by omega) ?_
      rw [Sto.set_set]
      obtain ⟨j0, j1⟩ := mod_range (n := m3) (u := (ws.length : Int)) (by omega)
      obtain ⟨sp, hsp, hat⟩ := at_mem j0 j1
      obtain ⟨ks, rfl, kl, ko⟩ := ok.all sp hsp
      simp only [wSs, wS, wE, wEs, wT, wOT, wI, wO, Lit.w, biW, rs_tup, rs_lst, rs_int, rs_str, rs_bl, rs_non, rs_dct, ix_tup, ix_lst, atI_0, atI_1, atI_2, ex_some, ex_some2, ex_int, ex_bl, tru_bl,
  List.getElem?_cons_zero, List.getElem?_cons_succ, List.set_cons_zero, List.set_cons_succ, eqW_str, eqW_int, eqW_bl, cmp_eq, cmp_lt, cmp_gt, cmp_ge, cmp_le, add_int, sub_int, wipeS, Tg.go, Tg.go.goAll, ex_tup, ex_cons, ex_tl, List.length_cons, List.length_nil, Nat.zero_add, Nat.reduceAdd, Nat.reduceLT, true_and, and_true, sizeLine_eq, Nat.reduceLeDiff, Nat.zero_le, ex_or, ex_or2, items_lst, items_tup, eq_self, un_not, cmp_in, len_lst, rd_w, slc_lst, ty_app, ty_get, mtW, if_true, Bool.false_eq_true, if_false, hat]
      have tk7 : okT 7 25000 t.w := Tm.okT (L := 10) (by decide) f10 (n := 3) h1
      refine s_odd tk7 Sto.set_same fun r hr => ?_
      rw [Sto.set_set]
      refine s_put (by decide) 3 (by decide) f10 h1 ko hr fun r2 hr2 => ?_
      refine s_odd tk7 Sto.set_same fun r3 hr3 => ?_
      rw [Sto.set_set]
      have hall : ∀ w ∈ [t.w, r2, r3], okT 17 16777216 w := fun w hw => by
        simp only [List.mem_cons, List.not_mem_nil, or_false] at hw
        rcases hw with rfl | rfl | rfl
        · exact tk7.mono (by decide) (by decide)
        · exact hr2.mono (by decide) (by decide)
        · exact hr3.mono (by decide) (by decide)
      generalize [t.w, r2, r3] = L at hall
      refine loopF_ind (fun xs σ S' => (∀ x ∈ xs, okT 17 16777216 x) ∧ ∃ z1 z2 z3 z4 z5 z6 z7 z8, σ = [some (.lst (ns.map W.int)), z1, z2, z3, z4, z5, z6, z7, z8]) ?_ ?_ _ _ _ ?_
      · rintro σ S' ⟨_, z1, z2, z3, z4, z5, z6, z7, z8, rfl⟩
        exact hN _ _ ⟨fun y hy => hx y (by simp [hy]), _, _, _, _, _, _, _, _, rfl⟩
      · rintro w xs' σ S' N' ⟨hw, z1, z2, z3, z4, z5, z6, z7, z8, rfl⟩ hN'
        refine ⟨by simp, ?_⟩
        exact s_thing (hw w (by simp)) fun _ _ => hN' _ _ ⟨fun y hy => hw y (by simp [hy]), _, _, _, _, _, _, _, _, rfl⟩
      · exact ⟨hall, _, _, _, _, _, _, _, _, rfl⟩
    · refine ⟨fun x hx => ?_, _, _, _, _, _, _, _, _, rfl⟩
      rcases List.mem_append.mp hx with z | z
      · obtain ⟨i, _, rfl⟩ := List.mem_map.mp (cut_mem z)
        exact ⟨i, rfl⟩
      · exact ⟨4, List.mem_singleton.mp z⟩
  · rintro w xs σ S N ⟨hw, y1, rfl⟩ hN
    have f60 := hw w (by simp)
    unfold b_law_5
    simp only [wSs, wS, wE, wEs, wT, wOT, wI, wO, Lit.w, biW, rs_tup, rs_lst, rs_int, rs_str, rs_bl, rs_non, rs_dct, ix_tup, ix_lst, atI_0, atI_1, atI_2, ex_some, ex_some2, ex_int, ex_bl, tru_bl,
  List.getElem?_cons_zero, List.getElem?_cons_succ, List.set_cons_zero, List.set_cons_succ, eqW_str, eqW_int, eqW_bl, cmp_eq, cmp_lt, cmp_gt, cmp_ge, cmp_le, add_int, sub_int, wipeS, Tg.go, Tg.go.goAll, ex_tup, ex_cons, ex_tl, List.length_cons, List.length_nil, Nat.zero_add, Nat.reduceAdd, Nat.reduceLT, true_and, and_true, sizeLine_eq, Nat.reduceLeDiff, Nat.zero_le, ex_or, ex_or2, items_lst, items_tup, eq_self, un_not, cmp_in, len_lst, rd_w, slc_lst, ty_app, ty_get, mtW, if_true, Bool.false_eq_true, if_false]
    refine s_is_term f60.1 f60.2 ?_
    simp only [wSs, wS, wE, wEs, wT, wOT, wI, wO, Lit.w, biW, rs_tup, rs_lst, rs_int, rs_str, rs_bl, rs_non, rs_dct, ix_tup, ix_lst, atI_0, atI_1, atI_2, ex_some, ex_some2, ex_int, ex_bl, tru_bl,
  List.getElem?_cons_zero, List.getElem?_cons_succ, List.set_cons_zero, List.set_cons_succ, eqW_str, eqW_int, eqW_bl, cmp_eq, cmp_lt, cmp_gt, cmp_ge, cmp_le, add_int, sub_int, wipeS, Tg.go, Tg.go.goAll, ex_tup, ex_cons, ex_tl, List.length_cons, List.length_nil, Nat.zero_add, Nat.reduceAdd, Nat.reduceLT, true_and, and_true, sizeLine_eq, Nat.reduceLeDiff, Nat.zero_le, ex_or, ex_or2, items_lst, items_tup, eq_self, un_not, cmp_in, len_lst, rd_w, slc_lst, ty_app, ty_get, mtW, if_true, Bool.false_eq_true, if_false]
    refine s_size12 f60 ?_
    simp only [wSs, wS, wE, wEs, wT, wOT, wI, wO, Lit.w, biW, rs_tup, rs_lst, rs_int, rs_str, rs_bl, rs_non, rs_dct, ix_tup, ix_lst, atI_0, atI_1, atI_2, ex_some, ex_some2, ex_int, ex_bl, tru_bl,
  List.getElem?_cons_zero, List.getElem?_cons_succ, List.set_cons_zero, List.set_cons_succ, eqW_str, eqW_int, eqW_bl, cmp_eq, cmp_lt, cmp_gt, cmp_ge, cmp_le, add_int, sub_int, wipeS, Tg.go, Tg.go.goAll, ex_tup, ex_cons, ex_tl, List.length_cons, List.length_nil, Nat.zero_add, Nat.reduceAdd, Nat.reduceLT, true_and, and_true, sizeLine_eq, Nat.reduceLeDiff, Nat.zero_le, ex_or, ex_or2, items_lst, items_tup, eq_self, un_not, cmp_in, len_lst, rd_w, slc_lst, ty_app, ty_get, mtW, if_true, Bool.false_eq_true, if_false, ne_bl]
    unfold termW
    simp only [wSs, wS, wE, wEs, wT, wOT, wI, wO, Lit.w, biW, rs_tup, rs_lst, rs_int, rs_str, rs_bl, rs_non, rs_dct, ix_tup, ix_lst, atI_0, atI_1, atI_2, ex_some, ex_some2, ex_int, ex_bl, tru_bl,
  List.getElem?_cons_zero, List.getElem?_cons_succ, List.set_cons_zero, List.set_cons_succ, eqW_str, eqW_int, eqW_bl, cmp_eq, cmp_lt, cmp_gt, cmp_ge, cmp_le, add_int, sub_int, wipeS, Tg.go, Tg.go.goAll, ex_tup, ex_cons, ex_tl, List.length_cons, List.length_nil, Nat.zero_add, Nat.reduceAdd, Nat.reduceLT, true_and, and_true, sizeLine_eq, Nat.reduceLeDiff, Nat.zero_le, ex_or, ex_or2, items_lst, items_tup, eq_self, un_not, cmp_in, len_lst, rd_w, slc_lst, ty_app, ty_get, mtW, if_true, Bool.false_eq_true, if_false, same_bl]
    exact hN _ _ ⟨fun y hy => hw y (by simp [hy]), _, rfl⟩
  · exact ⟨hws, _, rfl⟩
end K01

set_option Elab.async false
set_option linter.all false
set_option maxRecDepth 100000
set_option maxHeartbeats 0
namespace K01
open PySem PySem.Spec PyProof.Rows L2 PD
abbrev R : PySem.W.OpenRow := PySem.W.OpenLaw.row PySem.Challenge.rw_nothingnew_k01_what_is_a_term
def loose : List Str := ["SMALL", "MOST_LETTER", "MOST_NAME", "MOST_PARTS", "MOST_SIZE", "MOST_DEPTH", "is_whole", "is_name", "room_left", "is_term", "_law_left", "_law_digit", "_law_table", "_law_term", "_law_spots", "_law_at", "_law_put", "_law_size", "_law_odd", "_law_great"]
theorem run (w : World) : HandSHeadRun.RunEq R (PySem.W.view R.prog [22]) (hookS 4 fa fn) (obS 4 fa fn) 600 loose w := by
  intro os
  kernel_rfl
end K01
open PySem PySem.W PySem.Calls PyProof.Rows
theorem PySem.Challenge.cw_nothingnew_k01_what_is_a_term_holds : PySem.Challenge.rw_nothingnew_k01_what_is_a_term.Holds := by
  w_on; o_law
  refine HandSHeadRun.head_any (r := OpenLaw.row PySem.Challenge.rw_nothingnew_k01_what_is_a_term) (q := view (OpenLaw.row PySem.Challenge.rw_nothingnew_k01_what_is_a_term).prog [22]) (H := PD.hookS 4 K01.fa K01.fn) (ob := PD.obS 4 K01.fa K01.fn) (M := 600) (loose := K01.loose)
    (d := HandSHeadRun.topDef (OpenLaw.row PySem.Challenge.rw_nothingnew_k01_what_is_a_term).prog 22) (kwd := []) PD.obS_eq
    (by kernel_rfl) (fun s => by kernel_rfl) K01.run (by kernel_rfl) (by kernel_rfl) (by kernel_rfl) (by rfl) (by first | assumption | decide +kernel) (by decide +kernel) ⟨rfl, rfl, rfl, rfl, rfl, by decide +kernel⟩ ?hw ?hc
  case hw => w_witness2
  case hc =>
    refine PD.walkG (l := PySem.Challenge.rw_nothingnew_k01_what_is_a_term) (k := 200) (x := "_law_script") (T := K01.T) (G := K01.G0) (FL := K01.f_law) rfl (by kernel_rfl) ⟨rfl, by decide, by decide⟩ (by kernel_rfl) rfl rfl ?F K01.law_ok
    intro w mg h Y G
    obtain ⟨hs, K, KX, c⟩ := Y
    exact ⟨hs, K, KX, PD.table_ok KX G c (gs := K01.gs) (fun e he => ⟨List.mem_append_right _ (List.mem_map_of_mem he), by revert e; decide +kernel⟩) (fun x hx => List.mem_append_left _ (List.mem_append_right _ (List.mem_map_of_mem hx))) (fun F hF => List.mem_append_left _ (List.mem_append_left _ (List.mem_map_of_mem (f := fun F => He.Fa.glo F.name) hF))) K01.all_k⟩
