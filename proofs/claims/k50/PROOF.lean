import PyProof.Rows.All
import Wide.All
import OpenK.AllK
import Wide.FinOn
import HandS.ForMost
import HandS.ForExc
import HandS.Defaults
import HandS.IsInst
import HandS.Gcd
import HandS.Zip
import HandS.TupMul
import HandS.More
import KE.DataEq
import HandS.Ends
import HandS.Words
import HandS.EndBits
import HandS.HeadEnd
import HandS.HeadHook1
import HandS.HeadHook2
import HandS.Head0
import HandS.Head1
import HandS.Head2
import PySem.Challenge.RW_wishpanes_k50_codes_run
import HandS.Head3
set_option Elab.async false
set_option linter.all false
set_option maxRecDepth 100000
set_option maxHeartbeats 4000000
/-! The D layer: values with tuples and never-changed lists as plain data; a small heap of what is changed. -/
namespace DL
open PySem PySem.Spec L2

/-- data: tuples, lists that nobody changes (lst), the script (scr), objects (ref) -/
inductive D where
  | non | bl (b : Bool) | int (i : Int) | str (x : Str) | ty (n : String) | tup (ds : List D) | lst (ds : List D) | scr (ns : List Int) | ref (a : Addr)
instance : Inhabited D := ⟨.non⟩

/-- what may change -/
inductive OD where
  | lst (ds : List D)
  | dK (kvs : List (Key × D))
  | dT (kvs : List (List Key × D))
  | ins (C dx : Addr) (fs : List (Str × D))
abbrev HpD := Addr → Option OD
def updD (M : HpD) (a : Addr) (o : OD) : HpD := fun b => if b = a then some o else M b
theorem updD_same {M : HpD} {a : Addr} {o : OD} : updD M a o a = some o := by unfold updD; rw [if_pos rfl]
theorem updD_ne {M : HpD} {a b : Addr} {o : OD} (h : b ≠ a) : updD M a o b = M b := by unfold updD; rw [if_neg h]
theorem updD_updD {M : HpD} {a : Addr} {o u : OD} : updD (updD M a o) a u = updD M a u := by
  funext b; unfold updD; split <;> rfl
theorem updD_self {M : HpD} {a : Addr} {o : OD} (h : M a = some o) : updD M a o = M := by
  funext b
  unfold updD
  split
  · rename_i e; rw [e, h]
  · rfl
theorem updD_comm {M : HpD} {a b : Addr} {o u : OD} (h : a ≠ b) : updD (updD M a o) b u = updD (updD M b u) a o := by
  funext c
  unfold updD
  by_cases h1 : c = a
  · subst h1; rw [if_neg h, if_pos rfl, if_pos rfl]
  · by_cases h2 : c = b
    · rw [if_pos h2, if_neg h1, if_pos h2]
    · rw [if_neg h2, if_neg h1, if_neg h1, if_neg h2]

/-- a tuple of the written part -/
def KTup (K : PySem.W.Frag) (a : Addr) (xs : List V) : Prop :=
  ∃ (o : Obj) (its : Array Value) (n : Nat), K.lookup a = some o ∧ o.cls = .type "tuple" ∧ o.data = .seq its n ∧ its.size ≤ sizeLine ∧ Vals xs its.toList
/-- a list of the written part -/
def KLst (K : PySem.W.Frag) (a : Addr) (xs : List V) : Prop :=
  ∃ (o : Obj) (its : Array Value) (n : Nat), K.lookup a = some o ∧ o.cls = .type "list" ∧ o.dict = none ∧ o.data = .seq its n ∧ its.size ≤ sizeLine ∧ Vals xs its.toList
def ScrAt (K : PySem.W.Frag) (H : Hp) (M : HpD) (a : Addr) (xs : List V) : Prop := ((∃ o, H a = some (.frz o (.lst xs))) ∧ M a = none) ∨ KLst K a xs
theorem ScrAt.sq {K : PySem.W.Frag} {H : Hp} {M : HpD} {a : Addr} {xs : List V} (h : ScrAt K H M a xs) : SqL K H a xs := by
  rcases h with ⟨⟨o, h⟩, _⟩ | h
  · exact .inl (.inr ⟨o, h⟩)
  · exact .inr h
def TupAt (K : PySem.W.Frag) (H : Hp) (M : HpD) (a : Addr) (xs : List V) : Prop := (H a = some (.tup xs) ∧ M a = none) ∨ KTup K a xs
theorem TupAt.sq {K : PySem.W.Frag} {H : Hp} {M : HpD} {a : Addr} {xs : List V} (h : TupAt K H M a xs) : SqT K H a xs := by
  rcases h with h | h
  · exact .inl (.inl h.1)
  · exact .inr h

mutual
/-- v stands for d -/
def Rep (K : PySem.W.Frag) (H : Hp) (M : HpD) : D → V → Prop
  | .non, v => v = .non
  | .bl b, v => v = .bl b
  | .int i, v => v = .int i
  | .str x, v => v = .str x
  | .ty n, v => v = .ty n
  | .ref a, v => v = .ref a
  | .scr ns, v => ∃ a, v = .ref a ∧ ScrAt K H M a (ns.map V.int)
  | .tup ds, v => ∃ a vs, v = .ref a ∧ TupAt K H M a vs ∧ Reps K H M ds vs
  | .lst ds, v => ∃ a vs, v = .ref a ∧ H a = some (.lst vs) ∧ M a = none ∧ Reps K H M ds vs
def Reps (K : PySem.W.Frag) (H : Hp) (M : HpD) : List D → List V → Prop
  | [], vs => vs = []
  | d :: ds, vs => ∃ v r, vs = v :: r ∧ Rep K H M d v ∧ Reps K H M ds r
end

/-- from M, H to M', H': what is tracked and not of M stays so -/
def Ext (M : HpD) (H : Hp) (M' : HpD) (H' : Hp) : Prop := ∀ b o, H b = some o → M b = none → H' b = some o ∧ M' b = none
theorem Ext.refl (M : HpD) (H : Hp) : Ext M H M H := fun _ _ h n => ⟨h, n⟩
theorem Ext.trans {M M1 M2 : HpD} {H H1 H2 : Hp} (a : Ext M H M1 H1) (b : Ext M1 H1 M2 H2) : Ext M H M2 H2 := fun c o h n => b c o (a c o h n).1 (a c o h n).2

theorem TupAt.ext {K : PySem.W.Frag} {H H' : Hp} {M M' : HpD} {a : Addr} {xs : List V} (e : Ext M H M' H') (h : TupAt K H M a xs) : TupAt K H' M' a xs := by
  rcases h with ⟨h, n⟩ | h
  · exact .inl (e _ _ h n)
  · exact .inr h
theorem ScrAt.ext {K : PySem.W.Frag} {H H' : Hp} {M M' : HpD} {a : Addr} {xs : List V} (e : Ext M H M' H') (h : ScrAt K H M a xs) : ScrAt K H' M' a xs := by
  rcases h with ⟨⟨o, h⟩, n⟩ | h
  · exact .inl ⟨⟨o, (e _ _ h n).1⟩, (e _ _ h n).2⟩
  · exact .inr h
mutual
theorem Rep.ext {K : PySem.W.Frag} {H H' : Hp} {M M' : HpD} (e : Ext M H M' H') : ∀ {d : D} {v : V}, Rep K H M d v → Rep K H' M' d v
  | .non, _, h => h
  | .bl _, _, h => h
  | .int _, _, h => h
  | .str _, _, h => h
  | .ty _, _, h => h
  | .ref _, _, h => h
  | .scr ns, v, h => by
    unfold Rep at h ⊢
    obtain ⟨a, rfl, h1⟩ := h
    exact ⟨a, rfl, h1.ext e⟩
  | .tup ds, v, h => by
    unfold Rep at h ⊢
    obtain ⟨a, vs, rfl, h1, h2⟩ := h
    exact ⟨a, vs, rfl, h1.ext e, Reps.ext e h2⟩
  | .lst ds, v, h => by
    unfold Rep at h ⊢
    obtain ⟨a, vs, rfl, h1, h2, h3⟩ := h
    exact ⟨a, vs, rfl, (e _ _ h1 h2).1, (e _ _ h1 h2).2, Reps.ext e h3⟩
theorem Reps.ext {K : PySem.W.Frag} {H H' : Hp} {M M' : HpD} (e : Ext M H M' H') : ∀ {ds : List D} {vs : List V}, Reps K H M ds vs → Reps K H' M' ds vs
  | [], _, h => h
  | d :: ds, _, h => by
    unfold Reps at h ⊢
    obtain ⟨v, r, rfl, h1, h2⟩ := h
    exact ⟨v, r, rfl, Rep.ext e h1, Reps.ext e h2⟩
end
section
variable {K : PySem.W.Frag} {H H' : Hp} {M M' : HpD}
theorem rep_tup {ds : List D} {v : V} : Rep K H M (.tup ds) v ↔ ∃ a vs, v = .ref a ∧ TupAt K H M a vs ∧ Reps K H M ds vs := by rw [Rep]
theorem rep_lst {ds : List D} {v : V} : Rep K H M (.lst ds) v ↔ ∃ a vs, v = .ref a ∧ H a = some (.lst vs) ∧ M a = none ∧ Reps K H M ds vs := by rw [Rep]
theorem rep_scr {ns : List Int} {v : V} : Rep K H M (.scr ns) v ↔ ∃ a, v = .ref a ∧ ScrAt K H M a (ns.map V.int) := by rw [Rep]
theorem rep_int {i : Int} {v : V} : Rep K H M (.int i) v ↔ v = .int i := by rw [Rep]
theorem rep_bl {i : Bool} {v : V} : Rep K H M (.bl i) v ↔ v = .bl i := by rw [Rep]
theorem rep_str {i : Str} {v : V} : Rep K H M (.str i) v ↔ v = .str i := by rw [Rep]
theorem rep_non {v : V} : Rep K H M .non v ↔ v = .non := by rw [Rep]
theorem rep_ref {a : Addr} {v : V} : Rep K H M (.ref a) v ↔ v = .ref a := by rw [Rep]
theorem reps_nil {vs : List V} : Reps K H M [] vs ↔ vs = [] := by rw [Reps]
theorem reps_cons {d : D} {ds : List D} {vs : List V} : Reps K H M (d :: ds) vs ↔ ∃ v r, vs = v :: r ∧ Rep K H M d v ∧ Reps K H M ds r := by rw [Reps]
theorem Reps.length : ∀ {ds : List D} {vs : List V}, Reps K H M ds vs → vs.length = ds.length
  | [], _, h => by rw [reps_nil] at h; rw [h]; rfl
  | d :: ds, _, h => by
    obtain ⟨v, r, rfl, _, h2⟩ := reps_cons.mp h
    rw [List.length_cons, List.length_cons, Reps.length h2]
theorem Reps.get : ∀ {ds : List D} {vs : List V} {i : Nat} {d : D}, Reps K H M ds vs → ds[i]? = some d → ∃ v, vs[i]? = some v ∧ Rep K H M d v
  | [], _, _, _, _, e => by simp at e
  | d :: ds, _, 0, _, h, e => by
    obtain ⟨v, r, rfl, h1, _⟩ := reps_cons.mp h
    simp at e; subst e
    exact ⟨v, rfl, h1⟩
  | d :: ds, _, i + 1, _, h, e => by
    obtain ⟨v, r, rfl, _, h2⟩ := reps_cons.mp h
    obtain ⟨w, e1, e2⟩ := Reps.get (i := i) h2 (by simpa using e)
    exact ⟨w, by simpa using e1, e2⟩
theorem Reps.get' : ∀ {ds : List D} {vs : List V} {i : Nat} {v : V}, Reps K H M ds vs → vs[i]? = some v → ∃ d, ds[i]? = some d ∧ Rep K H M d v
  | [], _, _, _, h, e => by rw [reps_nil] at h; subst h; simp at e
  | d :: ds, _, 0, _, h, e => by
    obtain ⟨v, r, rfl, h1, _⟩ := reps_cons.mp h
    simp at e; subst e
    exact ⟨d, rfl, h1⟩
  | d :: ds, _, i + 1, _, h, e => by
    obtain ⟨v, r, rfl, _, h2⟩ := reps_cons.mp h
    obtain ⟨w, e1, e2⟩ := Reps.get' (i := i) h2 (by simpa using e)
    exact ⟨w, by simpa using e1, e2⟩
theorem Reps.append : ∀ {ds es : List D} {vs ws : List V}, Reps K H M ds vs → Reps K H M es ws → Reps K H M (ds ++ es) (vs ++ ws)
  | [], _, _, _, h, h' => by rw [reps_nil] at h; subst h; exact h'
  | d :: ds, _, _, _, h, h' => by
    obtain ⟨v, r, rfl, h1, h2⟩ := reps_cons.mp h
    exact reps_cons.mpr ⟨v, r ++ _, rfl, h1, Reps.append h2 h'⟩
theorem Reps.nil : Reps K H M [] [] := reps_nil.mpr rfl
theorem Reps.cons {d : D} {ds : List D} {v : V} {vs : List V} (h : Rep K H M d v) (t : Reps K H M ds vs) : Reps K H M (d :: ds) (v :: vs) := reps_cons.mpr ⟨v, vs, rfl, h, t⟩
theorem Reps.one {d : D} {v : V} (h : Rep K H M d v) : Reps K H M [d] [v] := .cons h .nil
theorem Reps.take : ∀ {ds : List D} {vs : List V} (n : Nat), Reps K H M ds vs → Reps K H M (ds.take n) (vs.take n)
  | _, _, 0, _ => by simp only [List.take_zero]; exact .nil
  | [], _, n + 1, h => by rw [reps_nil] at h; subst h; exact .nil
  | d :: ds, _, n + 1, h => by
    obtain ⟨v, r, rfl, h1, h2⟩ := reps_cons.mp h
    exact .cons h1 (Reps.take n h2)
theorem Reps.drop : ∀ {ds : List D} {vs : List V} (n : Nat), Reps K H M ds vs → Reps K H M (ds.drop n) (vs.drop n)
  | _, _, 0, h => h
  | [], _, n + 1, h => by rw [reps_nil] at h; subst h; exact .nil
  | d :: ds, _, n + 1, h => by
    obtain ⟨v, r, rfl, h1, h2⟩ := reps_cons.mp h
    exact Reps.drop n h2
theorem Reps.set {d : D} {v : V} (q : Rep K H M d v) : ∀ {ds : List D} {vs : List V} (i : Nat), Reps K H M ds vs → Reps K H M (ds.set i d) (vs.set i v)
  | [], _, _, h => by rw [reps_nil] at h; subst h; exact .nil
  | e :: ds, _, 0, h => by
    obtain ⟨w, r, rfl, h1, h2⟩ := reps_cons.mp h
    exact .cons q h2
  | e :: ds, _, i + 1, h => by
    obtain ⟨w, r, rfl, h1, h2⟩ := reps_cons.mp h
    exact .cons h1 (Reps.set q i h2)
theorem Reps.reverse : ∀ {ds : List D} {vs : List V}, Reps K H M ds vs → Reps K H M ds.reverse vs.reverse
  | [], _, h => by rw [reps_nil] at h; subst h; exact .nil
  | d :: ds, _, h => by
    obtain ⟨v, r, rfl, h1, h2⟩ := reps_cons.mp h
    rw [List.reverse_cons, List.reverse_cons]
    exact (Reps.reverse h2).append (.one h1)
theorem Reps.dropLast {ds : List D} {vs : List V} (h : Reps K H M ds vs) : Reps K H M ds.dropLast vs.dropLast := by
  rw [List.dropLast_eq_take, List.dropLast_eq_take, h.length]
  exact h.take _
theorem Reps.eraseIdx : ∀ {ds : List D} {vs : List V} (i : Nat), Reps K H M ds vs → Reps K H M (ds.eraseIdx i) (vs.eraseIdx i)
  | [], _, _, h => by rw [reps_nil] at h; subst h; exact .nil
  | d :: ds, _, 0, h => by
    obtain ⟨v, r, rfl, h1, h2⟩ := reps_cons.mp h
    exact h2
  | d :: ds, _, i + 1, h => by
    obtain ⟨v, r, rfl, h1, h2⟩ := reps_cons.mp h
    exact .cons h1 (Reps.eraseIdx i h2)
theorem Reps.replicate {d : D} {v : V} (q : Rep K H M d v) : ∀ n : Nat, Reps K H M (List.replicate n d) (List.replicate n v)
  | 0 => .nil
  | n + 1 => by rw [List.replicate_succ, List.replicate_succ]; exact .cons q (Reps.replicate q n)
theorem Reps.ints : ∀ ns : List Int, Reps K H M (ns.map D.int) (ns.map V.int)
  | [] => .nil
  | n :: ns => by rw [List.map_cons, List.map_cons]; exact .cons (rep_int.mpr rfl) (Reps.ints ns)
theorem Reps.ints' : ∀ {ns : List Int} {vs : List V}, Reps K H M (ns.map D.int) vs → vs = ns.map V.int
  | [], _, h => reps_nil.mp h
  | n :: ns, _, h => by
    rw [List.map_cons] at h
    obtain ⟨v, r, rfl, h1, h2⟩ := reps_cons.mp h
    rw [rep_int.mp h1, Reps.ints' h2, List.map_cons]
theorem Reps.strs' : ∀ {ns : List Str} {vs : List V}, Reps K H M (ns.map D.str) vs → vs = ns.map V.str
  | [], _, h => reps_nil.mp h
  | n :: ns, _, h => by
    rw [List.map_cons] at h
    obtain ⟨v, r, rfl, h1, h2⟩ := reps_cons.mp h
    rw [rep_str.mp h1, Reps.strs' h2, List.map_cons]
theorem Reps.strs : ∀ ns : List Str, Reps K H M (ns.map D.str) (ns.map V.str)
  | [] => .nil
  | n :: ns => by rw [List.map_cons, List.map_cons]; exact .cons (rep_str.mpr rfl) (Reps.strs ns)
theorem Reps.bls' : ∀ {ns : List Bool} {vs : List V}, Reps K H M (ns.map D.bl) vs → vs = ns.map V.bl
  | [], _, h => reps_nil.mp h
  | n :: ns, _, h => by
    rw [List.map_cons] at h
    obtain ⟨v, r, rfl, h1, h2⟩ := reps_cons.mp h
    rw [rep_bl.mp h1, Reps.bls' h2, List.map_cons]
end

/-! ### the small heap is held -/
def PairR {κ : Type} (K : PySem.W.Frag) (H : Hp) (M : HpD) (p : κ × D) (q : κ × V) : Prop := p.1 = q.1 ∧ Rep K H M p.2 q.2
def RepO (K : PySem.W.Frag) (H : Hp) (M : HpD) : OD → HO → Prop
  | .lst ds, o => ∃ vs, o = .lst vs ∧ Reps K H M ds vs
  | .dK kvs, o => ∃ ws, o = .dK ws ∧ Paired (PairR K H M) kvs ws
  | .dT kvs, o => ∃ ws, o = .dT ws ∧ Paired (PairR K H M) kvs ws
  | .ins C dx fs, o => ∃ ws, o = .ins C dx ws ∧ Paired (PairR K H M) fs ws
def Held (K : PySem.W.Frag) (M : HpD) (H : Hp) : Prop := ∀ a o, M a = some o → ∃ ho, H a = some ho ∧ RepO K H M o ho
section
variable {K : PySem.W.Frag} {H H' : Hp} {M M' : HpD}
theorem Paired.map' {α β : Type} {F G : α → β → Prop} : ∀ {l₁ : List α} {l₂ : List β}, Paired F l₁ l₂ → (∀ a b, F a b → G a b) → Paired G l₁ l₂
  | _, _, .nil, _ => .nil
  | _, _, .cons r t, f => .cons (f _ _ r) (Paired.map' t f)
theorem RepO.ext (e : Ext M H M' H') : ∀ {o : OD} {ho : HO}, RepO K H M o ho → RepO K H' M' o ho
  | .lst ds, _, ⟨vs, h1, h2⟩ => ⟨vs, h1, h2.ext e⟩
  | .dK kvs, _, ⟨ws, h1, h2⟩ => ⟨ws, h1, Paired.map' h2 fun _ _ q => ⟨q.1, q.2.ext e⟩⟩
  | .dT kvs, _, ⟨ws, h1, h2⟩ => ⟨ws, h1, Paired.map' h2 fun _ _ q => ⟨q.1, q.2.ext e⟩⟩
  | .ins C dx fs, _, ⟨ws, h1, h2⟩ => ⟨ws, h1, Paired.map' h2 fun _ _ q => ⟨q.1, q.2.ext e⟩⟩
theorem Held.free (h : Held K M H) {p : Addr} (n : H p = none) : M p = none := by
  cases e : M p with
  | none => rfl
  | some o =>
    obtain ⟨ho, h1, _⟩ := h p o e
    rw [n] at h1; cases h1
/-- a new object that is data: nothing of M changes -/
theorem ext_new {p : Addr} {o : HO} (n : H p = none) : Ext M H M (upd H p o) := fun b u h q => ⟨by rw [upd_ne (ne_of_none h n)]; exact h, q⟩
theorem Held.new (h : Held K M H) {p : Addr} {o : HO} (n : H p = none) : Held K M (upd H p o) := fun a u e => by
  obtain ⟨ho, h1, h2⟩ := h a u e
  exact ⟨ho, by rw [upd_ne (ne_of_none h1 n)]; exact h1, h2.ext (ext_new n)⟩
/-- an object of M changes (or a new one comes in) -/
theorem ext_upd {p : Addr} {o : HO} {u : OD} (q : M p ≠ none ∨ H p = none) : Ext M H (updD M p u) (upd H p o) := fun b w h n => by
  have hb : b ≠ p := fun z => by
    subst z
    rcases q with q | q
    · exact q n
    · rw [q] at h; cases h
  rw [upd_ne hb, updD_ne hb]
  exact ⟨h, n⟩
theorem Held.upd' (h : Held K M H) {p : Addr} {o : HO} {u : OD} (q : M p ≠ none ∨ H p = none) (r : RepO K (upd H p o) (updD M p u) u o) : Held K (updD M p u) (upd H p o) := fun a w e => by
  by_cases ha : a = p
  · subst ha
    rw [updD_same] at e; cases e
    exact ⟨o, upd_same, r⟩
  · rw [updD_ne ha] at e
    obtain ⟨ho, h1, h2⟩ := h a w e
    exact ⟨ho, by rw [upd_ne ha]; exact h1, h2.ext (ext_upd q)⟩
end

/-! ### slots -/
abbrev StD := List (Option D)
def RepS (K : PySem.W.Frag) (H : Hp) (M : HpD) (σD : StD) (σ : L2.St) : Prop := List.length σ = List.length σD ∧ ∀ (i : Nat) (d : D), σD[i]? = some (some d) → ∃ v, σ[i]? = some (some v) ∧ Rep K H M d v
section
variable {K : PySem.W.Frag} {H H' : Hp} {M M' : HpD} {σD : StD} {σ : St}
theorem RepS.ext (e : Ext M H M' H') (h : RepS K H M σD σ) : RepS K H' M' σD σ := ⟨h.1, fun i d q => by
  obtain ⟨v, h1, h2⟩ := h.2 i d q
  exact ⟨v, h1, h2.ext e⟩⟩
theorem RepS.set (h : RepS K H M σD σ) {i : Nat} {d : D} {v : V} (r : Rep K H M d v) : RepS K H M (σD.set i (some d)) (σ.set i (some v)) := by
  refine ⟨by rw [List.length_set, List.length_set, h.1], fun j e q => ?_⟩
  by_cases hj : i = j
  · subst hj
    by_cases hl : i < σD.length
    · rw [List.getElem?_set_self hl] at q
      cases q
      exact ⟨v, List.getElem?_set_self (by rw [h.1]; exact hl), r⟩
    · rw [List.getElem?_eq_none (by simpa using hl)] at q; cases q
  · rw [List.getElem?_set_ne hj] at q
    obtain ⟨w, h1, h2⟩ := h.2 j e q
    exact ⟨w, by rw [List.getElem?_set_ne hj]; exact h1, h2⟩
theorem RepS.unset (h : RepS K H M σD σ) {i : Nat} : RepS K H M (σD.set i none) (σ.set i none) := by
  refine ⟨by rw [List.length_set, List.length_set, h.1], fun j e q => ?_⟩
  by_cases hj : i = j
  · subst hj
    by_cases hl : i < σD.length
    · rw [List.getElem?_set_self hl] at q; cases q
    · rw [List.getElem?_eq_none (by simpa using hl)] at q; cases q
  · rw [List.getElem?_set_ne hj] at q
    obtain ⟨w, h1, h2⟩ := h.2 j e q
    exact ⟨w, by rw [List.getElem?_set_ne hj]; exact h1, h2⟩
end
def startD (N : List Str) (ds : List D) : StD := ds.map some ++ List.replicate (N.length - ds.length) none
theorem Reps.entry {K : PySem.W.Frag} {H : Hp} {M : HpD} {N : List Str} {ds : List D} {vs : List V} (h : Reps K H M ds vs) : RepS K H M (startD N ds) (L2.start N vs) := by
  have hl := h.length
  refine ⟨by unfold L2.start startD; simp [hl], fun i d q => ?_⟩
  unfold startD at q
  by_cases hi : i < ds.length
  · rw [List.getElem?_append_left (by simpa using hi), List.getElem?_map] at q
    cases e : ds[i]? with
    | none => rw [e] at q; cases q
    | some d' =>
      rw [e] at q; cases q
      obtain ⟨v, h1, h2⟩ := h.get e
      refine ⟨v, ?_, h2⟩
      unfold L2.start
      rw [List.getElem?_append_left (by simpa [hl] using hi), List.getElem?_map, h1]; rfl
  · rw [List.getElem?_append_right (by simpa using hi), List.getElem?_replicate] at q
    split at q <;> cases q

/-! ### readings over data -/
abbrev VKD := D → HpD → Prop
abbrev TED := StD → HpD → VKD → Prop
abbrev TTD := StD → HpD → (Bool → HpD → Prop) → Prop
abbrev TAD := StD → HpD → (List D → HpD → Prop) → Prop
structure EndsD where
  nx : StD → HpD → Prop
  rt : VKD
  bk : StD → HpD → Prop := fun _ _ => False
  ct : StD → HpD → Prop := fun _ _ => False
abbrev TSD := EndsD → StD → HpD → Prop
abbrev TGD := D → StD → HpD → (StD → HpD → Prop) → Prop
/-- what a wish over data asks of the wish over values -/
def WK (K : PySem.W.Frag) (M : HpD) (H : Hp) (QD : VKD) (Q : VK) : Prop := ∀ d M' v H', QD d M' → Ext M H M' H' → Held K M' H' → Rep K H' M' d v → Q v H'
def WN (K : PySem.W.Frag) (M : HpD) (H : Hp) (QD : StD → HpD → Prop) (Q : St → Hp → Prop) : Prop := ∀ σD' M' σ' H', QD σD' M' → Ext M H M' H' → Held K M' H' → RepS K H' M' σD' σ' → Q σ' H'
theorem WK.ext {K : PySem.W.Frag} {M M1 : HpD} {H H1 : Hp} {QD : VKD} {Q : VK} (e : Ext M H M1 H1) (w : WK K M H QD Q) : WK K M1 H1 QD Q := fun d M' v H' q x => w d M' v H' q (e.trans x)
theorem WN.ext {K : PySem.W.Frag} {M M1 : HpD} {H H1 : Hp} {QD : StD → HpD → Prop} {Q : St → Hp → Prop} (e : Ext M H M1 H1) (w : WN K M H QD Q) : WN K M1 H1 QD Q := fun d M' v H' q x => w d M' v H' q (e.trans x)
def liftE (K : PySem.W.Frag) (t : TED) : TE := fun σ H Q => ∃ σD M QD, RepS K H M σD σ ∧ Held K M H ∧ t σD M QD ∧ WK K M H QD Q
def liftT (K : PySem.W.Frag) (t : TTD) : TT := fun σ H Q => ∃ σD M QD, RepS K H M σD σ ∧ Held K M H ∧ t σD M QD ∧ ∀ b M' H', QD b M' → Ext M H M' H' → Held K M' H' → Q b H'
def liftA (K : PySem.W.Frag) (t : TAD) : TA := fun σ H Q => ∃ σD M QD, RepS K H M σD σ ∧ Held K M H ∧ t σD M QD ∧ ∀ ds M' vs H', QD ds M' → Ext M H M' H' → Held K M' H' → Reps K H' M' ds vs → Q vs H'
def liftS (K : PySem.W.Frag) (t : TSD) : TS := fun D σ H => ∃ σD M E, RepS K H M σD σ ∧ Held K M H ∧ t E σD M ∧ WN K M H E.nx D.nx ∧ WK K M H E.rt D.rt ∧ WN K M H E.bk D.bk ∧ WN K M H E.ct D.ct
def liftG (K : PySem.W.Frag) (t : TGD) : TG := fun v σ H Q => ∃ d σD M QD, Rep K H M d v ∧ RepS K H M σD σ ∧ Held K M H ∧ t d σD M QD ∧ WN K M H QD Q
abbrev PED (X : Cx) (e : Expr) (t : TED) : Prop := PE X e (liftE X.K t)
abbrev PTD (X : Cx) (e : Expr) (t : TTD) : Prop := PT X e (liftT X.K t)
abbrev PWD (X : Cx) (e : Expr) (t : TTD) : Prop := PW X e (liftT X.K t)
abbrev PAD (X : Cx) (es : List Expr) (t : TAD) : Prop := PA X es (liftA X.K t)
abbrev PSD (X : Cx) (st : Stmt) (t : TSD) : Prop := PS X st (liftS X.K t)
abbrev PSsD (X : Cx) (st : List Stmt) (t : TSD) : Prop := PSs X st (liftS X.K t)
abbrev PGD (X : Cx) (e : Expr) (t : TGD) : Prop := PG X e (liftG X.K t)

theorem PE.weak {X : Cx} {e : Expr} {t t' : TE} (h : PE X e t) (w : ∀ σ H Q, t' σ H Q → t σ H Q) : PE X e t' := ⟨fun pins s σ H Q I q => h.run pins s σ H Q I (w _ _ _ q)⟩
theorem PT.weak {X : Cx} {e : Expr} {t t' : TT} (h : PT X e t) (w : ∀ σ H Q, t' σ H Q → t σ H Q) : PT X e t' := ⟨fun pins s σ H Q I q => h.run pins s σ H Q I (w _ _ _ q)⟩
theorem PW.weak {X : Cx} {e : Expr} {t t' : TT} (h : PW X e t) (w : ∀ σ H Q, t' σ H Q → t σ H Q) : PW X e t' := ⟨fun wh pins s σ H Q I q => h.run wh pins s σ H Q I (w _ _ _ q)⟩
theorem PA.weak {X : Cx} {e : List Expr} {t t' : TA} (h : PA X e t) (w : ∀ σ H Q, t' σ H Q → t σ H Q) : PA X e t' := ⟨fun pos pins s σ H Q I q => h.run pos pins s σ H Q I (w _ _ _ q)⟩
theorem PS.weak {X : Cx} {e : Stmt} {t t' : TS} (h : PS X e t) (w : ∀ D σ H, t' D σ H → t D σ H) : PS X e t' := ⟨fun pins s σ H Q I q => h.run pins s σ H Q I (w _ _ _ q)⟩
theorem PSs.weak {X : Cx} {e : List Stmt} {t t' : TS} (h : PSs X e t) (w : ∀ D σ H, t' D σ H → t D σ H) : PSs X e t' := ⟨fun pins s σ H Q I q => h.run pins s σ H Q I (w _ _ _ q)⟩
theorem PG.weak {X : Cx} {e : Expr} {t t' : TG} (h : PG X e t) (w : ∀ v σ H Q, t' v σ H Q → t v σ H Q) : PG X e t' := ⟨fun pins s σ H v u Q I r q => h.run pins s σ H v u Q I r (w _ _ _ _ q)⟩
end DL

namespace DL
open PySem PySem.Spec L2

/-! ### names and constants -/
def dVar (i : Nat) : TED := fun σ M Q => ∃ d, σ[i]? = some (some d) ∧ Q d M
def dC (d : D) : TED := fun _ M Q => Q d M
section
variable {X : Cx} {a b c e : Expr} {ta tb tc te : TED} {pos : Pos}
theorem dv (i : Nat) {x : Str} {pos : Pos} (hN : X.N[i]? = some x := by rfl) (hv : Vis X.env.scope x := by first | exact Or.inl rfl | exact Or.inr (Or.inl rfl) | exact Or.inr (Or.inr rfl)) (hd : (x == ("__debug__" : Str)) = false := by decide)
    (hcd : (x == ("__classdict__" : Str)) = false := by decide) : PED X (.Name x pos) (dVar i) :=
  PE.weak (pe_var hN hv hd hcd) fun σ H Q ⟨σD, M, QD, hS, hM, ⟨d, q1, q2⟩, w⟩ => by
    obtain ⟨v, h1, h2⟩ := hS.2 i d q1
    exact ⟨v, h1, w d M v H q2 (.refl _ _) hM h2⟩
theorem const_of {v : V} {d : D} (h : PE X e (tC v)) (r : ∀ H M, Rep X.K H M d v) : PED X e (dC d) :=
  PE.weak h fun σ H Q ⟨σD, M, QD, hS, hM, q, w⟩ => w d M v H q (.refl _ _) hM (r H M)
theorem d_int {i j pos} : PED X (.Constant (.int i) j pos) (dC (.int i)) := const_of pe_int fun _ _ => rep_int.mpr rfl
theorem d_bl {i j pos} : PED X (.Constant (.bool i) j pos) (dC (.bl i)) := const_of pe_bl fun _ _ => rep_bl.mpr rfl
theorem d_str {i j pos} : PED X (.Constant (.str i) j pos) (dC (.str i)) := const_of pe_str fun _ _ => rep_str.mpr rfl
theorem d_non {j pos} : PED X (.Constant .none j pos) (dC .non) := const_of pe_non fun _ _ => rep_non.mpr rfl
/-- a module's int, text, object -/
theorem d_glob {x : Str} {d : D} {v : V} {u : Value} {pos : Pos} (hg : Gl X x) (hm : X.mg x = some u) (r : RelV v u) (rd : ∀ H M, Rep X.K H M d v) (hd : (x == ("__debug__" : Str)) = false := by decide) : PED X (.Name x pos) (dC d) := const_of (pe_glob hg hm r hd) rd

/-! ### operators -/
abbrev R2D := D → D → HpD → VKD → Prop
def liftR (K : PySem.W.Frag) (r : R2D) : R2 := fun x y H Q => ∃ d1 d2 M QD, Held K M H ∧ Rep K H M d1 x ∧ Rep K H M d2 y ∧ r d1 d2 M QD ∧ WK K M H QD Q
abbrev OpD (X : Cx) (f : Value → Value → Sem Value) (r : R2D) : Prop := OpR X f (liftR X.K r)
theorem OpR.weak {f : Value → Value → Sem Value} {r r' : R2} (h : OpR X f r) (w : ∀ x y H Q, r' x y H Q → r x y H Q) : OpR X f r' := fun pins s σ H x y v u Q I rx ry q => h pins s σ H x y v u Q I rx ry (w _ _ _ _ q)
def dOp (r : R2D) (ta tb : TED) : TED := fun σ M Q => ta σ M fun x M1 => tb σ M1 fun y M2 => r x y M2 Q
theorem lift_op {r : R2D} : ∀ (σ : L2.St) (H : Hp) (Q : VK), liftE X.K (dOp r ta tb) σ H Q → tOp (liftR X.K r) (liftE X.K ta) (liftE X.K tb) σ H Q :=
  fun σ H Q ⟨σD, M, QD, hS, hM, t, w⟩ => ⟨σD, M, _, hS, hM, t, fun d M' v H' q e h r => ⟨σD, M', _, hS.ext e, h, q, fun d2 M2 v2 H2 q2 e2 h2 r2 => ⟨d, d2, M2, QD, h2, r.ext e2, r2, q2, w.ext (e.trans e2)⟩⟩⟩
theorem d_op {op : Operator} {r : R2D} (ho : OpD X (binaryOp op) r) (ha : PED X a ta) (hb : PED X b tb) : PED X (.BinOp a op b pos) (dOp r ta tb) := PE.weak (pe_op ho ha hb) lift_op
theorem d_cmp {op : CmpOp} {r : R2D} (ho : OpD X (compareOp op) r) (ha : PED X a ta) (hb : PED X b tb) (hm : behindInMarks op b = false) : PED X (.Compare a [op] [b] pos) (dOp r ta tb) := PE.weak (pe_cmpR ho ha hb hm) lift_op
/-- a bool's reading as a test -/
def dTest (t : TED) : TTD := fun σ M Q => t σ M fun x M' => ∃ k, x = .bl k ∧ Q k M'
theorem lift_test {t : TED} {t' : TE} (h : ∀ (σ : L2.St) (H : Hp) (Q : VK), liftE X.K t σ H Q → t' σ H Q) : ∀ (σ : L2.St) (H : Hp) (Q : Bool → Hp → Prop), liftT X.K (dTest t) σ H Q → t' σ H fun x H' => ∃ k, x = .bl k ∧ Q k H' :=
  fun σ H Q ⟨σD, M, QD, hS, hM, q, w⟩ => h σ H _ ⟨σD, M, _, hS, hM, q, fun d M' v H' q e h r => by
    obtain ⟨k, rfl, q2⟩ := q
    exact ⟨k, rep_bl.mp r, w k M' H' q2 e h⟩⟩
theorem dt_cmp {op : CmpOp} {r : R2D} (ho : OpD X (compareOp op) r) (ha : PED X a ta) (hb : PED X b tb) (hm : behindInMarks op b = false) : PTD X (.Compare a [op] [b] pos) (dTest (dOp r ta tb)) := PT.weak (pt_cmpR ho ha hb hm) (lift_test lift_op)
/-- any expression that is a bool, as a test -/
theorem dt_val {t : TED} (h : PED X e t) (he : ∀ whole, isTrue e X.env whole = (do let v ← whole; standAt e.pos; holding [v] (truthy v)) := by intro _; rfl) : PTD X e (dTest t) := PT.weak (pt_val h he) (lift_test fun _ _ _ q => q)

/-- ints in, a value out -/
def rI2 (C : Int → Int → Prop) (g : Int → Int → D) : R2D := fun x y M Q => ∃ i j, x = .int i ∧ y = .int j ∧ C i j ∧ Q (g i j) M
def rI20 (g : Int → Int → D) : R2D := fun x y M Q => ∃ i j, x = .int i ∧ y = .int j ∧ Q (g i j) M
theorem opd_I {f : Value → Value → Sem Value} {C : Int → Int → Prop} {g : Int → Int → V} {g' : Int → Int → D} (h : OpR X f (rI C g)) (r : ∀ i j H M, Rep X.K H M (g' i j) (g i j)) : OpD X f (rI2 C g') :=
  OpR.weak h fun x y H Q ⟨d1, d2, M, QD, hM, r1, r2, ⟨i, j, e1, e2, c, q⟩, w⟩ => by
    subst e1 e2
    exact ⟨i, j, rep_int.mp r1, rep_int.mp r2, c, w _ M _ H q (.refl _ _) hM (r i j H M)⟩
theorem opd_I0 {f : Value → Value → Sem Value} {g : Int → Int → V} {g' : Int → Int → D} (h : OpR X f (rI0 g)) (r : ∀ i j H M, Rep X.K H M (g' i j) (g i j)) : OpD X f (rI20 g') :=
  OpR.weak h fun x y H Q ⟨d1, d2, M, QD, hM, r1, r2, ⟨i, j, e1, e2, q⟩, w⟩ => by
    subst e1 e2
    exact ⟨i, j, rep_int.mp r1, rep_int.mp r2, w _ M _ H q (.refl _ _) hM (r i j H M)⟩
theorem o_add : OpD X (binaryOp .Add) (rI20 fun i j => .int (i + j)) := opd_I0 op_add fun _ _ _ _ => rep_int.mpr rfl
theorem o_sub : OpD X (binaryOp .Sub) (rI20 fun i j => .int (i - j)) := opd_I0 op_sub fun _ _ _ _ => rep_int.mpr rfl
theorem o_mod : OpD X (binaryOp .Mod) (rI2 (fun _ j => 0 < j) fun i j => .int (i % j)) := opd_I op_mod fun _ _ _ _ => rep_int.mpr rfl
theorem o_pow : OpD X (binaryOp .Pow) (rI2 CPow fun i j => .int (i ^ j.toNat)) := opd_I op_pow fun _ _ _ _ => rep_int.mpr rfl
theorem o_shl : OpD X (binaryOp .LShift) (rI2 CPow fun i j => .int (i * 2 ^ j.toNat)) := opd_I op_shl fun _ _ _ _ => rep_int.mpr rfl
theorem o_lt : OpD X (compareOp .Lt) (rI20 fun i j => .bl (decide (i < j))) := opd_I0 op_lt fun _ _ _ _ => rep_bl.mpr rfl
theorem o_le : OpD X (compareOp .LtE) (rI20 fun i j => .bl (decide (i ≤ j))) := opd_I0 op_le fun _ _ _ _ => rep_bl.mpr rfl
theorem o_gt : OpD X (compareOp .Gt) (rI20 fun i j => .bl (decide (j < i))) := opd_I0 op_gt fun _ _ _ _ => rep_bl.mpr rfl
theorem o_ge : OpD X (compareOp .GtE) (rI20 fun i j => .bl (decide (j ≤ i))) := opd_I0 op_ge fun _ _ _ _ => rep_bl.mpr rfl
/-- one of them below 2 ^ 64, or the bits of both together below 2 ^ 27 -/
def MulOk (i j : Int) : Prop := i.natAbs < 2 ^ 64 ∨ j.natAbs < 2 ^ 64 ∨ ∃ a b : Nat, i.natAbs < 2 ^ a ∧ j.natAbs < 2 ^ b ∧ a + b ≤ 134000000
theorem MulOk.ok {i j : Int} (h : MulOk i j) : IntMulOk i j := by
  rcases h with h | h | ⟨a, b, ha, hb, hz⟩
  · exact CMul.ok (.inl ⟨by omega, by omega⟩)
  · exact CMul.ok (.inr ⟨by omega, by omega⟩)
  have e : bitsLine = 134217728 := by decide
  have bl : ∀ (x : Int) (n : Nat), x.natAbs < 2 ^ n → Builtin.Int.intBits x ≤ n + 1 := fun x n hx => by
    have l : Builtin.Int.intBits x ≤ x.natAbs.log2 + 1 := by
      unfold Builtin.Int.intBits
      split <;> omega
    by_cases h0 : x.natAbs = 0
    · rw [h0] at l
      have : Nat.log2 0 = 0 := by decide
      omega
    · have := (Nat.log2_lt h0).mpr hx
      omega
  have h1 := bl i a ha
  have h2 := bl j b hb
  unfold IntMulOk
  intro z
  rw [Bool.and_eq_true] at z
  have z2 := z.2
  unfold Builtin.Int.intTooBig at z2
  have z3 := of_decide_eq_true z2
  rw [e] at z3
  omega
theorem op_mulB : OpR X (binaryOp .Mult) (rI MulOk fun i j => .int (i * j)) := opI fun _ _ _ _ _ _ _ hc q => PyProof.Rows.mul_int q hc.ok
theorem o_mul : OpD X (binaryOp .Mult) (rI2 MulOk fun i j => .int (i * j)) := opd_I op_mulB fun _ _ _ _ => rep_int.mpr rfl
theorem MulOk.both {i j : Int} {a b : Nat} (h1 : i.natAbs < 2 ^ a) (h2 : j.natAbs < 2 ^ b) (h : a + b ≤ 134000000) : MulOk i j := .inr (.inr ⟨a, b, h1, h2, h⟩)
theorem MulOk.l {i j : Int} (h : i.natAbs < 18446744073709551616) : MulOk i j := .inl h
theorem MulOk.r {i j : Int} (h : j.natAbs < 18446744073709551616) : MulOk i j := .inr (.inl h)
/-- a positive divisor below 2 ^ 9000 -/
def DivOk (_ j : Int) : Prop := 0 < j ∧ j.natAbs < 2 ^ 9000
theorem op_fdivB : OpR X (binaryOp .FloorDiv) (rI DivOk fun i j => .int (i / j)) := opI fun i j _ _ _ _ _ hc q => by
  have h1 : (0 : Int) < j := hc.1
  have h2 : j.natAbs.log2 < 9000 := (Nat.log2_lt (by omega)).mpr hc.2
  exact PyProof.Rows.floordiv_int (by omega) (by rw [Int.fdiv_eq_ediv_of_nonneg i (by omega)]; exact q) (.inl (PyProof.noPylong_of_log2 h2))
theorem o_fdiv : OpD X (binaryOp .FloorDiv) (rI2 DivOk fun i j => .int (i / j)) := opd_I op_fdivB fun _ _ _ _ => rep_int.mpr rfl
theorem DivOk.small {i j : Int} (h : 0 < j) (h2 : j ≤ 4611686018427387904) : DivOk i j := ⟨h, by
  have e : (4611686018427387904 : Nat) = 2 ^ 62 := by decide
  have : j.natAbs ≤ 2 ^ 62 := by rw [← e]; omega
  exact Nat.lt_of_le_of_lt this (Nat.pow_lt_pow_right (by decide) (by decide))⟩
/-- one place -/
def liftU (K : PySem.W.Frag) (r : D → HpD → VKD → Prop) : V → Hp → VK → Prop := fun x H Q => ∃ d M QD, Held K M H ∧ Rep K H M d x ∧ r d M QD ∧ WK K M H QD Q
def dUn (r : D → HpD → VKD → Prop) (ta : TED) : TED := fun σ M Q => ta σ M fun x M1 => r x M1 Q
theorem UnR.weak {f : Value → Sem Value} {r r' : V → Hp → VK → Prop} (h : UnR X f r) (w : ∀ x H Q, r' x H Q → r x H Q) : UnR X f r' := fun pins s σ H x v Q I rx q => h pins s σ H x v Q I rx (w _ _ _ q)
theorem d_un {op : UnaryOp} {r : D → HpD → VKD → Prop} (ho : UnR X (unaryOp op) (liftU X.K r)) (ha : PED X a ta) : PED X (.UnaryOp op a pos) (dUn r ta) :=
  PE.weak (pe_un ho ha) fun σ H Q ⟨σD, M, QD, hS, hM, t, w⟩ => ⟨σD, M, _, hS, hM, t, fun d M' v H' q e h r => ⟨d, M', QD, h, r, q, w.ext e⟩⟩
theorem o_neg : UnR X (unaryOp .USub) (liftU X.K fun x M Q => ∃ i, x = .int i ∧ Q (.int (-i)) M) := UnR.weak un_neg fun x H Q ⟨d, M, QD, hM, r, ⟨i, e, q⟩, w⟩ => by
  subst e
  exact ⟨i, rep_int.mp r, w _ M _ H q (.refl _ _) hM (rep_int.mpr rfl)⟩

/-! ### == and is of scalars -/
def scalD : D → D → Bool
  | .non, .non => true | .non, .int _ => true | .int _, .non => true | .non, .bl _ => true | .bl _, .non => true | .non, .str _ => true | .str _, .non => true
  | .int _, .int _ => true | .bl _, .bl _ => true | .str _, .str _ => true
  | .int _, .str _ => true | .str _, .int _ => true | .bl _, .str _ => true | .str _, .bl _ => true
  | _, _ => false
def eqS : D → D → Bool
  | .non, .non => true
  | .int i, .int j => decide (i = j)
  | .bl i, .bl j => decide (i = j)
  | .str i, .str j => decide (i = j)
  | _, _ => false
theorem scal_rep {K : PySem.W.Frag} {H : Hp} {M : HpD} {d e : D} {x y : V} (h : scalD d e = true) (r1 : Rep K H M d x) (r2 : Rep K H M e y) : scal x y = true ∧ decide (x = y) = eqS d e := by
  cases d <;> cases e <;> first
    | (exact absurd (show false = true from h) Bool.false_ne_true)
    | (simp only [Rep] at r1 r2; subst r1 r2; refine ⟨rfl, ?_⟩; first | rfl | simp [eqS])
def rEqS : R2D := fun x y M Q => scalD x y = true ∧ Q (.bl (eqS x y)) M
def rNeS : R2D := fun x y M Q => scalD x y = true ∧ Q (.bl (!eqS x y)) M
theorem o_eq : OpD X (compareOp .Eq) rEqS := OpR.weak op_eq fun x y H Q ⟨d1, d2, M, QD, hM, r1, r2, ⟨s, q⟩, w⟩ => by
  obtain ⟨s1, s2⟩ := scal_rep s r1 r2
  exact ⟨s1, w _ M _ H q (.refl _ _) hM (rep_bl.mpr (by rw [s2]))⟩
theorem o_ne : OpD X (compareOp .NotEq) rNeS := OpR.weak op_ne fun x y H Q ⟨d1, d2, M, QD, hM, r1, r2, ⟨s, q⟩, w⟩ => by
  obtain ⟨s1, s2⟩ := scal_rep s r1 r2
  exact ⟨s1, w _ M _ H q (.refl _ _) hM (rep_bl.mpr (by rw [s2]))⟩
def isN : D → Bool
  | .non => true
  | _ => false
theorem isN_rep {K : PySem.W.Frag} {H : Hp} {M : HpD} {d : D} {x : V} (r : Rep K H M d x) : decide (x = .non) = isN d := by
  cases d with
  | non => rw [rep_non.mp r]; rfl
  | tup ds => obtain ⟨a, vs, rfl, _⟩ := rep_tup.mp r; rfl
  | lst ds => obtain ⟨a, vs, rfl, _⟩ := rep_lst.mp r; rfl
  | scr ns => obtain ⟨a, rfl, _⟩ := rep_scr.mp r; rfl
  | _ => simp only [Rep] at r; rw [r]; rfl
theorem o_is : OpD X (compareOp .Is) (fun x y M Q => y = .non ∧ Q (.bl (isN x)) M) := OpR.weak op_isN fun x y H Q ⟨d1, d2, M, QD, hM, r1, r2, ⟨s, q⟩, w⟩ => by
  subst s
  exact ⟨rep_non.mp r2, w _ M _ H q (.refl _ _) hM (rep_bl.mpr (by rw [isN_rep r1]))⟩
theorem o_isnot : OpD X (compareOp .IsNot) (fun x y M Q => y = .non ∧ Q (.bl (!isN x)) M) := OpR.weak op_notN fun x y H Q ⟨d1, d2, M, QD, hM, r1, r2, ⟨s, q⟩, w⟩ => by
  subst s
  exact ⟨rep_non.mp r2, w _ M _ H q (.refl _ _) hM (rep_bl.mpr (by rw [isN_rep r1]))⟩

/-! ### and, or, not, if else -/
def dAnd (t u : TTD) : TTD := fun σ M Q => t σ M fun c M1 => if c = true then u σ M1 Q else Q false M1
def dOr (t u : TTD) : TTD := fun σ M Q => t σ M fun c M1 => if c = true then Q true M1 else u σ M1 Q
def dNot (t : TTD) : TTD := fun σ M Q => t σ M fun c M1 => Q (!c) M1
variable {tA tB : TTD} {rest : List Expr}
theorem dw_and1 (ha : PTD X a tA) : PWD X (.BoolOp .And [a] pos) tA := pw_and1 ha
theorem dw_or1 (ha : PTD X a tA) : PWD X (.BoolOp .Or [a] pos) tA := pw_or1 ha
theorem dw_and (ha : PTD X a tA) (hb : PWD X (.BoolOp .And (b :: rest) pos) tB) : PWD X (.BoolOp .And (a :: b :: rest) pos) (dAnd tA tB) :=
  PW.weak (pw_and ha hb) fun σ H Q ⟨σD, M, QD, hS, hM, t, w⟩ => ⟨σD, M, _, hS, hM, t, fun k M' H' q e h => by
    cases k with
    | true => exact ⟨σD, M', QD, hS.ext e, h, q, fun b M2 H2 q2 e2 h2 => w b M2 H2 q2 (e.trans e2) h2⟩
    | false => exact w false M' H' q e h⟩
theorem dw_or (ha : PTD X a tA) (hb : PWD X (.BoolOp .Or (b :: rest) pos) tB) : PWD X (.BoolOp .Or (a :: b :: rest) pos) (dOr tA tB) :=
  PW.weak (pw_or ha hb) fun σ H Q ⟨σD, M, QD, hS, hM, t, w⟩ => ⟨σD, M, _, hS, hM, t, fun k M' H' q e h => by
    cases k with
    | true => exact w true M' H' q e h
    | false => exact ⟨σD, M', QD, hS.ext e, h, q, fun b M2 H2 q2 e2 h2 => w b M2 H2 q2 (e.trans e2) h2⟩⟩
theorem dt_not (ha : PTD X a tA) : PTD X (.UnaryOp .Not a pos) (dNot tA) :=
  PT.weak (pt_not ha) fun σ H Q ⟨σD, M, QD, hS, hM, t, w⟩ => ⟨σD, M, _, hS, hM, t, fun k M' H' q e h => w (!k) M' H' q e h⟩
def dIf (t : TTD) (ta tb : TED) : TED := fun σ M Q => t σ M fun c M1 => if c = true then ta σ M1 Q else tb σ M1 Q
theorem d_if {c : Expr} (hc : PTD X c tA) (ha : PED X a ta) (hb : PED X b tb) : PED X (.IfExp c a b pos) (dIf tA ta tb) :=
  PE.weak (pe_ifExp hc ha hb) fun σ H Q ⟨σD, M, QD, hS, hM, t, w⟩ => ⟨σD, M, _, hS, hM, t, fun k M' H' q e h => by
    cases k with
    | true => exact ⟨σD, M', QD, hS.ext e, h, q, w.ext e⟩
    | false => exact ⟨σD, M', QD, hS.ext e, h, q, w.ext e⟩⟩
/-- bools as values -/
def dAndV (ta tb : TED) : TED := fun σ M Q => ta σ M fun x M1 => ∃ c, x = .bl c ∧ if c = true then tb σ M1 Q else Q (.bl false) M1
def dOrV (ta tb : TED) : TED := fun σ M Q => ta σ M fun x M1 => ∃ c, x = .bl c ∧ if c = true then Q (.bl true) M1 else tb σ M1 Q
def dNotV (ta : TED) : TED := fun σ M Q => ta σ M fun x M1 => ∃ c, x = .bl c ∧ Q (.bl (!c)) M1
theorem d_one {op} (h : PED X a ta) : PED X (.BoolOp op [a] pos) ta := pe_one h
theorem d_and (ha : PED X a ta) (hb : PED X (.BoolOp .And (b :: rest) pos) tb) : PED X (.BoolOp .And (a :: b :: rest) pos) (dAndV ta tb) :=
  PE.weak (pe_and ha hb) fun σ H Q ⟨σD, M, QD, hS, hM, t, w⟩ => ⟨σD, M, _, hS, hM, t, fun d M' v H' q e h r => by
    obtain ⟨k, rfl, q⟩ := q
    refine ⟨k, rep_bl.mp r, ?_⟩
    cases k with
    | true => exact ⟨σD, M', QD, hS.ext e, h, q, w.ext e⟩
    | false => exact w _ M' _ H' q e h (rep_bl.mpr rfl)⟩
theorem d_or (ha : PED X a ta) (hb : PED X (.BoolOp .Or (b :: rest) pos) tb) : PED X (.BoolOp .Or (a :: b :: rest) pos) (dOrV ta tb) :=
  PE.weak (pe_or ha hb) fun σ H Q ⟨σD, M, QD, hS, hM, t, w⟩ => ⟨σD, M, _, hS, hM, t, fun d M' v H' q e h r => by
    obtain ⟨k, rfl, q⟩ := q
    refine ⟨k, rep_bl.mp r, ?_⟩
    cases k with
    | true => exact w _ M' _ H' q e h (rep_bl.mpr rfl)
    | false => exact ⟨σD, M', QD, hS.ext e, h, q, w.ext e⟩⟩
theorem d_not (ha : PED X a ta) : PED X (.UnaryOp .Not a pos) (dNotV ta) :=
  PE.weak (pe_not ha) fun σ H Q ⟨σD, M, QD, hS, hM, t, w⟩ => ⟨σD, M, _, hS, hM, t, fun d M' v H' q e h r => by
    obtain ⟨k, rfl, q⟩ := q
    exact ⟨k, rep_bl.mp r, w _ M' _ H' q e h (rep_bl.mpr rfl)⟩⟩
end

/-! ### blocks and small statements -/
section
variable {X : Cx} {st : Stmt} {rest : List Stmt} {t u : TSD} {e : Expr} {te : TED} {pos : Pos}
def dNext : TSD := fun E σ M => E.nx σ M
def dSeq (t u : TSD) : TSD := fun E σ M => t { E with nx := u E } σ M
theorem WNr {K : PySem.W.Frag} {M : HpD} {H : Hp} {QD : StD → HpD → Prop} {Q : L2.St → Hp → Prop} (w : WN K M H QD Q) {σD : StD} {σ : L2.St} (hM : Held K M H) (hS : RepS K H M σD σ) (q : QD σD M) : Q σ H := w σD M σ H q (.refl _ _) hM hS
theorem WKr {K : PySem.W.Frag} {M : HpD} {H : Hp} {QD : VKD} {Q : VK} (w : WK K M H QD Q) {d : D} {v : V} (hM : Held K M H) (r : Rep K H M d v) (q : QD d M) : Q v H := w d M v H q (.refl _ _) hM r
theorem ds_nil : PSsD X [] dNext := PSs.weak pss_nil fun D σ H ⟨σD, M, E, hS, hM, q, w1, _⟩ => WNr w1 hM hS q
theorem ds_cons (h1 : PSD X st t) (h2 : PSsD X rest u) : PSsD X (st :: rest) (dSeq t u) :=
  PSs.weak (pss_cons h1 h2) fun D σ H ⟨σD, M, E, hS, hM, q, w1, w2, w3, w4⟩ => ⟨σD, M, { E with nx := u E }, hS, hM, q, fun σD' M' σ' H' q' e h s => ⟨σD', M', E, s, h, q', w1.ext e, w2.ext e, w3.ext e, w4.ext e⟩, w2, w3, w4⟩
theorem ds_one (h1 : PSD X st t) : PSsD X [st] t := pss_one h1
def dBreak : TSD := fun E σ M => E.bk σ M
def dCont : TSD := fun E σ M => E.ct σ M
theorem s_pass : PSD X (.Pass pos) dNext := PS.weak ps_pass fun D σ H ⟨σD, M, E, hS, hM, q, w1, _⟩ => WNr w1 hM hS q
theorem s_break : PSD X (.Break pos) dBreak := PS.weak ps_break fun D σ H ⟨σD, M, E, hS, hM, q, _, _, w3, _⟩ => WNr w3 hM hS q
theorem s_continue : PSD X (.Continue pos) dCont := PS.weak ps_continue fun D σ H ⟨σD, M, E, hS, hM, q, _, _, _, w4⟩ => WNr w4 hM hS q
def dDrop (te : TED) : TSD := fun E σ M => te σ M fun _ M1 => E.nx σ M1
theorem s_expr (he : PED X e te) (hs : swapsWith e none pos.line X.env = pure false := by rfl) : PSD X (.Expr e pos) (dDrop te) :=
  PS.weak (ps_expr he hs) fun D σ H ⟨σD, M, E, hS, hM, q, w1, _⟩ => ⟨σD, M, _, hS, hM, q, fun d M' v H' q e h r => w1 σD M' σ H' q e h (hS.ext e)⟩
def dRet (te : TED) : TSD := fun E σ M => te σ M E.rt
theorem s_ret (he : PED X e te) : PSD X (.Return (some e) pos) (dRet te) :=
  PS.weak (ps_ret he) fun D σ H ⟨σD, M, E, hS, hM, q, _, w2, _⟩ => ⟨σD, M, _, hS, hM, q, w2⟩
def dRetN : TSD := fun E _ M => E.rt .non M
theorem s_retN : PSD X (.Return none pos) dRetN := PS.weak ps_retN fun D σ H ⟨σD, M, E, hS, hM, q, _, w2, _⟩ => WKr w2 hM (rep_non.mpr rfl) q
def dIfS (c : TTD) (t u : TSD) : TSD := fun E σ M => c σ M fun b M1 => if b = true then t E σ M1 else u E σ M1
theorem s_if {c : Expr} {a b : List Stmt} {tc : TTD} (hc : PTD X c tc) (ha : PSsD X a t) (hb : PSsD X b u) : PSD X (.If c a b pos) (dIfS tc t u) :=
  PS.weak (ps_if hc ha hb) fun D σ H ⟨σD, M, E, hS, hM, q, w1, w2, w3, w4⟩ => ⟨σD, M, _, hS, hM, q, fun k M' H' q e h => by
    cases k with
    | true => exact ⟨σD, M', E, hS.ext e, h, q, w1.ext e, w2.ext e, w3.ext e, w4.ext e⟩
    | false => exact ⟨σD, M', E, hS.ext e, h, q, w1.ext e, w2.ext e, w3.ext e, w4.ext e⟩⟩
/-! ### targets -/
def dgName (i : Nat) : TGD := fun d σ M Q => Q (σ.set i (some d)) M
theorem g_name {i : Nat} {x : Str} (hN : X.N.Nodup) (hi : X.N[i]? = some x) (hx : Loc X.env.scope x) (hf : X.fn x = true ∨ X.env.scope.names.lookup x = some .local := by first | exact .inl rfl | exact .inr rfl | assumption) : PGD X (.Name x pos) (dgName i) :=
  PG.weak (pg_name hN hi hx hf) fun v σ H Q ⟨d, σD, M, QD, r, hS, hM, q, w⟩ => WNr w hM (hS.set r) q
def gsD := List D → StD → HpD → (StD → HpD → Prop) → Prop
def liftGs (K : PySem.W.Frag) (t : gsD) : TGs := fun vs σ H Q => ∃ ds σD M QD, Reps K H M ds vs ∧ RepS K H M σD σ ∧ Held K M H ∧ t ds σD M QD ∧ WN K M H QD Q
abbrev PGsD (X : Cx) (es : List Expr) (t : gsD) : Prop := PGs X es (liftGs X.K t)
theorem PGs.weak {es : List Expr} {t t' : TGs} (h : PGs X es t) (w : ∀ v σ H Q, t' v σ H Q → t v σ H Q) : PGs X es t' := ⟨fun pins s σ H v u Q I r q => h.run pins s σ H v u Q I r (w _ _ _ _ q)⟩
def dgNil : gsD := fun ds σ M Q => ds = [] ∧ Q σ M
def dgCons (t : TGD) (u : gsD) : gsD := fun ds σ M Q => ∃ d r, ds = d :: r ∧ t d σ M fun σ' M' => u r σ' M' Q
theorem gs_nil : PGsD X [] dgNil := PGs.weak pgs_nil fun vs σ H Q ⟨ds, σD, M, QD, r, hS, hM, ⟨e, q⟩, w⟩ => by
  subst e
  exact ⟨reps_nil.mp r, WNr w hM hS q⟩
theorem gs_cons {e : Expr} {es : List Expr} {t : TGD} {u : gsD} (h1 : PGD X e t) (h2 : PGsD X es u)
    (hs : (assignEach (e :: es) X.env).map (·.2) = assign e X.env :: (assignEach es X.env).map (·.2) := by rfl) : PGsD X (e :: es) (dgCons t u) :=
  PGs.weak (pgs_cons h1 h2 hs) fun vs σ H Q ⟨ds, σD, M, QD, r, hS, hM, ⟨d, dr, e, q⟩, w⟩ => by
    subst e
    obtain ⟨v, vr, rfl, r1, r2⟩ := reps_cons.mp r
    exact ⟨v, vr, rfl, d, σD, M, _, r1, hS, hM, q, fun σD' M' σ' H' q' e' h' s' => ⟨dr, σD', M', QD, r2.ext e', s', h', q', w.ext e'⟩⟩
/-- (a, b, ..) = a tuple of that length -/
def dgTup (n : Nat) (t : gsD) : TGD := fun d σ M Q => ∃ ds, d = .tup ds ∧ ds.length = n ∧ t ds σ M Q
theorem g_tup {es : List Expr} {k : Nat} {t : gsD} {n : Nat} (hc : X.calm = true) (h : PGsD X es t)
    (hn : (assignEach es X.env).length = n := by rfl) (hst : (assignEach es X.env).findIdx? (·.1) = none := by rfl) : PGD X (.Tuple es k pos) (dgTup n t) :=
  PG.weak (pg_tup hc h hn hst) fun v σ H Q ⟨d, σD, M, QD, r, hS, hM, ⟨ds, e, hl, q⟩, w⟩ => by
    subst e
    obtain ⟨a, vs, rfl, h1, h2⟩ := rep_tup.mp r
    exact ⟨a, vs, rfl, h1.sq, by rw [h2.length, hl], ds, σD, M, QD, h2, hS, hM, q, w⟩
/-- target = value -/
def dAsg (te : TED) (g : TGD) : TSD := fun E σ M => te σ M fun d M1 => g d σ M1 E.nx
theorem lift_asg {g : TGD} : ∀ (D : Ends) (σ : L2.St) (H : Hp), liftS X.K (dAsg te g) D σ H → tAsg (liftE X.K te) (liftG X.K g) D σ H :=
  fun D σ H ⟨σD, M, E, hS, hM, q, w1, _⟩ => ⟨σD, M, _, hS, hM, q, fun d M' v H' q e h r => ⟨d, σD, M', E.nx, r, hS.ext e, h, q, w1.ext e⟩⟩
theorem s_asg {tg e : Expr} {te : TED} {g : TGD} (he : PED X e te) (hg : PGD X tg g) (hs : swapsWithSole [tg] e pos.line X.env = pure false := by rfl) (hw : swappedStores [tg] e X.env = pure none := by rfl)
    (h1 : (assignEach [tg] X.env).map (·.2) = [assign tg X.env] := by rfl) : PSD X (.Assign [tg] e pos) (dAsg te g) := PS.weak (ps_asg he hg hs hw h1) lift_asg
theorem s_set {i : Nat} {x : Str} {e : Expr} {te : TED} {pos' : Pos} (hN : X.N.Nodup) (hi : X.N[i]? = some x) (hx : Loc X.env.scope x) (he : PED X e te) (hs : swapsWith e (some (.Name x pos')) pos.line X.env = pure false := by rfl) (hf : X.fn x = true ∨ X.env.scope.names.lookup x = some .local := by first | exact .inl rfl | exact .inr rfl | assumption) :
    PSD X (.Assign [.Name x pos'] e pos) (dAsg te (dgName i)) :=
  PS.weak (ps_set hN hi hx he hs hf) fun D σ H ⟨σD, M, E, hS, hM, q, w1, _⟩ => ⟨σD, M, _, hS, hM, q, fun d M' v H' q e h r => w1 _ M' _ H' q e h ((hS.ext e).set r)⟩
/-- a, b = x, y with plain local names -/
def dPar (i j : Nat) (ta : TAD) : TSD := fun E σ M => ta σ M fun ds M1 => ∃ v w, ds = [v, w] ∧ E.nx ((σ.set i (some v)).set j (some w)) M1
theorem s_par {i j : Nat} {x y : Str} {a b : Expr} {ta : TAD} {px py pt : Pos} {kt k2 pt2} (hc : X.calm = true) (hN : X.N.Nodup) (hi : X.N[i]? = some x) (hj : X.N[j]? = some y) (hij : i ≠ j)
    (hx : X.env.scope.names.lookup x = some .local) (hy : X.env.scope.names.lookup y = some .local) (ha : PAD X [a, b] ta)
    (hw : swappedStores [.Tuple [.Name x px, .Name y py] kt pt] (.Tuple [a, b] k2 pt2) X.env = pure (some [x, y]))
    (hs : swapsWithSole [.Tuple [.Name x px, .Name y py] kt pt] (.Tuple [a, b] k2 pt2) pos.line X.env = pure false := by rfl) :
    PSD X (.Assign [.Tuple [.Name x px, .Name y py] kt pt] (.Tuple [a, b] k2 pt2) pos) (dPar i j ta) :=
  PS.weak (ps_par hc hN hi hj hij hx hy ha hw hs) fun D σ H ⟨σD, M, E, hS, hM, q, w1, _⟩ => ⟨σD, M, _, hS, hM, q, fun ds M' vs H' q e h r => by
    obtain ⟨v, w, rfl, q⟩ := q
    obtain ⟨v', r1, rfl, h1, h2⟩ := reps_cons.mp r
    obtain ⟨w', r2, rfl, h3, h4⟩ := reps_cons.mp h2
    obtain rfl := reps_nil.mp h4
    exact ⟨v', w', rfl, w1 _ M' _ H' q e h (((hS.ext e).set h1).set h3)⟩⟩
end

/-! ### argument lists, displays -/
def dNil : TAD := fun _ M Q => Q [] M
def dCons (ta : TED) (tr : TAD) : TAD := fun σ M Q => ta σ M fun x M1 => tr σ M1 fun xs M2 => Q (x :: xs) M2
section
variable {X : Cx} {e : Expr} {es : List Expr} {te : TED} {t : TAD} {pos : Pos}
theorem a_nil : PAD X [] dNil := PA.weak pa_nil fun σ H Q ⟨σD, M, QD, hS, hM, q, w⟩ => w [] M [] H q (.refl _ _) hM .nil
theorem a_cons (ha : PED X e te) (hr : PAD X es t) (hs : starEach (e :: es) X.env = (false, eval e X.env) :: starEach es X.env := by rfl) : PAD X (e :: es) (dCons te t) :=
  PA.weak (pa_cons ha hr hs) fun σ H Q ⟨σD, M, QD, hS, hM, q, w⟩ => ⟨σD, M, _, hS, hM, q, fun d M' v H' q e h r => ⟨σD, M', _, hS.ext e, h, q, fun ds M2 vs H2 q2 e2 h2 r2 => w (d :: ds) M2 (v :: vs) H2 q2 (e.trans e2) h2 (.cons (r.ext e2) r2)⟩⟩
theorem tup_new {K : PySem.W.Frag} {H : Hp} {M : HpD} {ds : List D} {vs : List V} {p : Addr} {QD : VKD} {Q : VK} (w : WK K M H QD Q) (hM : Held K M H) (r : Reps K H M ds vs) (n : H p = none) (q : QD (.tup ds) M) : Q (.ref p) (upd H p (.tup vs)) :=
  w _ M _ _ q (ext_new n) (hM.new n) (rep_tup.mpr ⟨p, vs, rfl, .inl ⟨upd_same, hM.free n⟩, r.ext (ext_new n)⟩)
theorem lst_new {K : PySem.W.Frag} {H : Hp} {M : HpD} {ds : List D} {vs : List V} {p : Addr} {QD : VKD} {Q : VK} (w : WK K M H QD Q) (hM : Held K M H) (r : Reps K H M ds vs) (n : H p = none) (q : QD (.lst ds) M) : Q (.ref p) (upd H p (.lst vs)) :=
  w _ M _ _ q (ext_new n) (hM.new n) (rep_lst.mpr ⟨p, vs, rfl, upd_same, hM.free n, r.ext (ext_new n)⟩)
/-- a new list that will change -/
theorem obj_new {K : PySem.W.Frag} {H : Hp} {M : HpD} {ds : List D} {vs : List V} {p : Addr} {QD : VKD} {Q : VK} (w : WK K M H QD Q) (hM : Held K M H) (r : Reps K H M ds vs) (n : H p = none) (q : QD (.ref p) (updD M p (.lst ds))) : Q (.ref p) (upd H p (.lst vs)) :=
  w _ _ _ _ q (ext_upd (.inr n)) (hM.upd' (.inr n) ⟨vs, rfl, r.ext (ext_upd (.inr n))⟩) (rep_ref.mpr rfl)
theorem line_of {n : Nat} (h : n ≤ 1000000) : n ≤ sizeLine := Nat.le_trans h (by decide)
def dTup (t : TAD) : TED := fun σ M Q => t σ M fun ds M1 => ds.length ≤ 1000000 ∧ Q (.tup ds) M1
def dLst (t : TAD) : TED := fun σ M Q => t σ M fun ds M1 => ds.length ≤ 1000000 ∧ Q (.lst ds) M1
def dLstM (t : TAD) : TED := fun σ M Q => t σ M fun ds M1 => ds.length ≤ 1000000 ∧ ∀ p, M1 p = none → Q (.ref p) (updD M1 p (.lst ds))
theorem d_tup {x1} (h : PAD X es t) : PED X (.Tuple es x1 pos) (dTup t) :=
  PE.weak (pe_tup h) fun σ H Q ⟨σD, M, QD, hS, hM, q, w⟩ => ⟨σD, M, _, hS, hM, q, fun ds M' vs H' q e h r => ⟨by rw [r.length]; exact line_of q.1, fun p n => tup_new (w.ext e) h r n q.2⟩⟩
theorem d_lst (h : PAD X es t) : PED X (.List es pos) (dLst t) :=
  PE.weak (pe_lst h) fun σ H Q ⟨σD, M, QD, hS, hM, q, w⟩ => ⟨σD, M, _, hS, hM, q, fun ds M' vs H' q e h r => ⟨by rw [r.length]; exact line_of q.1, fun p n => lst_new (w.ext e) h r n q.2⟩⟩
theorem d_lstM (h : PAD X es t) : PED X (.List es pos) (dLstM t) :=
  PE.weak (pe_lst h) fun σ H Q ⟨σD, M, QD, hS, hM, q, w⟩ => ⟨σD, M, _, hS, hM, q, fun ds M' vs H' q e h r => ⟨by rw [r.length]; exact line_of q.1, fun p n => obj_new (w.ext e) h r n (q.2 p (h.free n))⟩⟩
end

/-! ### calls -/
/-- a def's promise over data -/
abbrev SpD := List D → HpD → VKD → Prop
def liftSp (K : PySem.W.Frag) (sp : SpD) : Sp := fun vs H Q _ => ∃ ds M QD, Reps K H M ds vs ∧ Held K M H ∧ sp ds M QD ∧ WK K M H QD Q
def dCall (sp : SpD) (t : TAD) : TED := fun σ M Q => t σ M fun ds M1 => sp ds M1 Q
section
variable {X : Cx} {k : Nat} {f C : Addr} {fd : FuncData} {ps : List Str} {sp : SpD} {x m : Str} {p pos apos : Pos} {e o : Expr} {es : List Expr} {ta : TED} {t : TAD}
theorem d_call (F : FnOk X.prog X.w X.K X.mg X.base CX0 k f fd ps (liftSp X.K sp)) (hr : Room k X.A) (hm : X.mg x = some (.ref f)) (hk : PySem.W.keepIn X.K (.ref f) = true) (hb : Binds X.K fd ps [])
    (ha : PAD X (e :: es) t) (hg : Gl X x := by rfl) (hdb : (x == ("__debug__" : Str)) = false := by decide) (he : starEach (e :: es) X.env = (false, eval e X.env) :: starEach es X.env := by rfl) (hpl : (backTo pos (starEach es X.env)).any (·.1) = false := by rfl) :
    PED X (.Call (.Name x p) (e :: es) [] pos) (dCall sp t) :=
  PE.weak (pe_call F hr hg hm hk hb .nil pass0 ha hdb he hpl) fun σ H Q ⟨σD, M, QD, hS, hM, q, w⟩ => ⟨σD, M, _, hS, hM, q, fun ds M' vs H' q e h r => by
    show liftSp X.K sp (vs ++ []) H' Q E0
    rw [List.append_nil]
    exact ⟨ds, M', QD, r, h, q, w.ext e⟩⟩
theorem d_call0 (F : FnOk X.prog X.w X.K X.mg X.base CX0 k f fd ps (liftSp X.K sp)) (hr : Room k X.A) (hm : X.mg x = some (.ref f)) (hk : PySem.W.keepIn X.K (.ref f) = true) (hb : Binds X.K fd ps [])
    (hg : Gl X x := by rfl) (hdb : (x == ("__debug__" : Str)) = false := by decide) : PED X (.Call (.Name x p) [] [] pos) (dCall sp dNil) :=
  PE.weak (pe_call0 F hr hg hm hk hb .nil pass0 hdb) fun σ H Q ⟨σD, M, QD, hS, hM, q, w⟩ => ⟨[], M, QD, .nil, hM, q, w⟩

/-- a built-in called with values -/
def liftC (K : PySem.W.Frag) (r : List D → HpD → VKD → Prop) : List V → Hp → VK → Prop := fun vs H Q => ∃ ds M QD, Reps K H M ds vs ∧ Held K M H ∧ r ds M QD ∧ WK K M H QD Q
abbrev CallD (X : Cx) (f : Value) (r : List D → HpD → VKD → Prop) : Prop := CallR X f (liftC X.K r)
theorem CallR.weak {f : Value} {r r' : List V → Hp → VK → Prop} (h : CallR X f r) (w : ∀ vs H Q, r' vs H Q → r vs H Q) : CallR X f r' := fun pins s σ H xs us Q I rv q => h pins s σ H xs us Q I rv (w _ _ _ q)
theorem lift_cb {r : List D → HpD → VKD → Prop} : ∀ (σ : L2.St) (H : Hp) (Q : VK), liftE X.K (dCall r t) σ H Q → tCB (liftC X.K r) (liftA X.K t) σ H Q :=
  fun σ H Q ⟨σD, M, QD, hS, hM, q, w⟩ => ⟨σD, M, _, hS, hM, q, fun ds M' vs H' q e h r => ⟨ds, M', QD, r, h, q, w.ext e⟩⟩
variable {id T : String} {r : List D → HpD → VKD → Prop}
theorem d_bf (hc : CallD X (.builtin id) r) (hm : X.mg x = none) (ha : PAD X (e :: es) t) (hv : bootBuiltins x = some (.builtin id) := by decide +kernel) (hg : Gl X x := by rfl) (hn : x ≠ "__name__" := by decide) (hdb : (x == ("__debug__" : Str)) = false := by decide)
    (he : starEach (e :: es) X.env = (false, eval e X.env) :: starEach es X.env := by rfl) (hpl : (backTo pos (starEach es X.env)).any (·.1) = false := by rfl) : PED X (.Call (.Name x p) (e :: es) [] pos) (dCall r t) :=
  PE.weak (pe_callB hc hg hm hv ha hn hdb he hpl) lift_cb
theorem d_bt (hc : CallD X (.type T) r) (hm : X.mg x = none) (ha : PAD X (e :: es) t) (hv : bootBuiltins x = some (.type T) := by decide +kernel) (hg : Gl X x := by rfl) (hn : x ≠ "__name__" := by decide) (hdb : (x == ("__debug__" : Str)) = false := by decide)
    (he : starEach (e :: es) X.env = (false, eval e X.env) :: starEach es X.env := by rfl) (hpl : (backTo pos (starEach es X.env)).any (·.1) = false := by rfl) : PED X (.Call (.Name x p) (e :: es) [] pos) (dCall r t) :=
  PE.weak (pe_callTy hc hg hm hv ha hn hdb he hpl) lift_cb
end

/-! ### a def's body keeps its promise -/
section
variable {P : Program} {w : World} {K : PySem.W.Frag} {mg : Str → Option Value} {base : Heap} {x qual : Str} {params : Arguments} {body : List Stmt} {scope : Scope} {dvs : List V} {kws : List (Str × V)} {f : Addr} {fd : FuncData}
/-- the body's context: what the terms of its rules are about -/
theorem okD {N ps : List Str} {k : Nat} {sp : SpD} (F : FunD K x qual params body scope dvs kws f fd) (S : FnScope N ps scope) (len : ∀ ds M Q, sp ds M Q → ds.length = ps.length)
    (hbody : ∀ (cdv : Value) (A : Around) (outer : List Env) (s : Shared) (H : Hp) (E : XK) (ds : List D) (M : HpD) (Q : VKD), Room k (A.deeper (PyProof.Rows.envOfC qual scope s.heap.objs.size f cdv)) → sp ds M Q →
      ∃ t, PSsD (cxOf CX0 P w K mg base N qual scope f cdv A outer s H E).nox body t ∧ t { nx := fun _ M' => Q .non M', rt := Q } (startD N ds) M) : FnOk P w K mg base CX0 (k + 1) f fd ps (liftSp K sp) := by
  refine F.ok S (fun vs H Q E ⟨ds, M, QD, r, _, q, _⟩ => by rw [r.length]; exact len _ _ _ q) (fun cdv A outer s H vs Q E hr ⟨ds, M, QD, r, hM, q, wk⟩ => ?_)
  obtain ⟨t, h, ht⟩ := hbody cdv A outer s H E ds M QD hr q
  refine ⟨liftS K t, PSs.nox h, startD N ds, M, _, r.entry, hM, ht, fun σD' M' σ' H' q e h _ => wk .non M' .non H' q e h (rep_non.mpr rfl), wk, fun _ _ _ _ z => z.elim, fun _ _ _ _ z => z.elim⟩
end
end DL

namespace DL
open PySem PySem.Spec L2

/-! ### forgetting: an object of the small heap that nobody changes any more becomes data -/
def SubM (M2 M1 : HpD) : Prop := ∀ a o, M2 a = some o → M1 a = some o
theorem SubM.refl (M : HpD) : SubM M M := fun _ _ h => h
theorem SubM.trans {M1 M2 M3 : HpD} (a : SubM M3 M2) (b : SubM M2 M1) : SubM M3 M1 := fun c o h => b c o (a c o h)
theorem SubM.none {M1 M2 : HpD} (h : SubM M2 M1) {a : Addr} (n : M1 a = .none) : M2 a = .none := by
  cases e : M2 a with
  | none => rfl
  | some o => rw [h a o e] at n; cases n
theorem SubM.new {M : HpD} {p : Addr} {o : OD} (n : M p = .none) : SubM M (updD M p o) := fun a u h => by
  rw [updD_ne (fun z => by subst z; rw [n] at h; cases h)]
  exact h
mutual
theorem Rep.sub {K : PySem.W.Frag} {H : Hp} {M M' : HpD} (s : SubM M' M) : ∀ {d : D} {v : V}, Rep K H M d v → Rep K H M' d v
  | .non, _, h => h
  | .bl _, _, h => h
  | .int _, _, h => h
  | .str _, _, h => h
  | .ty _, _, h => h
  | .ref _, _, h => h
  | .scr ns, v, h => by
    obtain ⟨a, rfl, h1⟩ := rep_scr.mp h
    refine rep_scr.mpr ⟨a, rfl, ?_⟩
    rcases h1 with ⟨h1, n⟩ | h1
    · exact .inl ⟨h1, s.none n⟩
    · exact .inr h1
  | .tup ds, v, h => by
    obtain ⟨a, vs, rfl, h1, h2⟩ := rep_tup.mp h
    refine rep_tup.mpr ⟨a, vs, rfl, ?_, Reps.sub s h2⟩
    rcases h1 with ⟨h1, n⟩ | h1
    · exact .inl ⟨h1, s.none n⟩
    · exact .inr h1
  | .lst ds, v, h => by
    obtain ⟨a, vs, rfl, h1, h2, h3⟩ := rep_lst.mp h
    exact rep_lst.mpr ⟨a, vs, rfl, h1, s.none h2, Reps.sub s h3⟩
theorem Reps.sub {K : PySem.W.Frag} {H : Hp} {M M' : HpD} (s : SubM M' M) : ∀ {ds : List D} {vs : List V}, Reps K H M ds vs → Reps K H M' ds vs
  | [], _, h => reps_nil.mpr (reps_nil.mp h)
  | d :: ds, _, h => by
    obtain ⟨v, r, rfl, h1, h2⟩ := reps_cons.mp h
    exact .cons (Rep.sub s h1) (Reps.sub s h2)
end
theorem RepO.sub {K : PySem.W.Frag} {H : Hp} {M M' : HpD} (s : SubM M' M) : ∀ {o : OD} {ho : HO}, RepO K H M o ho → RepO K H M' o ho
  | .lst ds, _, ⟨vs, h1, h2⟩ => ⟨vs, h1, h2.sub s⟩
  | .dK kvs, _, ⟨ws, h1, h2⟩ => ⟨ws, h1, Paired.map' h2 fun _ _ q => ⟨q.1, q.2.sub s⟩⟩
  | .dT kvs, _, ⟨ws, h1, h2⟩ => ⟨ws, h1, Paired.map' h2 fun _ _ q => ⟨q.1, q.2.sub s⟩⟩
  | .ins C dx fs, _, ⟨ws, h1, h2⟩ => ⟨ws, h1, Paired.map' h2 fun _ _ q => ⟨q.1, q.2.sub s⟩⟩
theorem Held.sub {K : PySem.W.Frag} {H : Hp} {M M' : HpD} (s : SubM M' M) (h : Held K M H) : Held K M' H := fun a o e => by
  obtain ⟨ho, h1, h2⟩ := h a o (s a o e)
  exact ⟨ho, h1, h2.sub s⟩
theorem Ext.sub {M M1 M2 : HpD} {H H1 : Hp} (s : SubM M2 M1) (e : Ext M H M1 H1) : Ext M H M2 H1 := fun b o h n => ⟨(e b o h n).1, s.none (e b o h n).2⟩
structure Frz (M1 : HpD) (d1 : D) (M2 : HpD) (d2 : D) : Prop where
  sub : SubM M2 M1
  rep : ∀ K H v, Held K M1 H → Rep K H M1 d1 v → Rep K H M2 d2 v
theorem Frz.refl (M : HpD) (d : D) : Frz M d M d := ⟨.refl M, fun _ _ _ _ r => r⟩
theorem Frz.drop {M1 M2 : HpD} {d : D} (s : SubM M2 M1) : Frz M1 d M2 d := ⟨s, fun _ _ _ _ r => r.sub s⟩
theorem Frz.lst {M1 M2 : HpD} {p : Addr} {ds : List D} (s : SubM M2 M1) (h : M1 p = some (.lst ds)) (n : M2 p = none) : Frz M1 (.ref p) M2 (.lst ds) := ⟨s, fun K H v hM r => by
  rw [rep_ref.mp r]
  obtain ⟨ho, h1, vs, rfl, h2⟩ := hM p _ h
  exact rep_lst.mpr ⟨p, vs, rfl, h1, n, h2.sub s⟩⟩
def QF (Q : VKD) : VKD := fun d M => ∃ d' M', Frz M d M' d' ∧ Q d' M'
theorem QF.wk {K : PySem.W.Frag} {M : HpD} {H : Hp} {QD : VKD} {Q : VK} (w : WK K M H QD Q) : WK K M H (QF QD) Q := fun d M' v H' ⟨d', M2, f, q⟩ e h r => w d' M2 v H' q (e.sub f.sub) (h.sub f.sub) (f.rep K H' v h r)
/-- the same of a function's end: what it made and does not hand on is forgotten -/
theorem okF {P : Program} {w : World} {K : PySem.W.Frag} {mg : Str → Option Value} {base : Heap} {x qual : Str} {params : Arguments} {body : List Stmt} {scope : Scope} {dvs : List V} {kws : List (Str × V)} {f : Addr} {fd : FuncData}
    {N ps : List Str} {k : Nat} {sp : SpD} (F : FunD K x qual params body scope dvs kws f fd) (S : FnScope N ps scope) (len : ∀ ds M Q, sp ds M Q → ds.length = ps.length)
    (hbody : ∀ (cdv : Value) (A : Around) (outer : List Env) (s : Shared) (H : Hp) (E : XK) (ds : List D) (M : HpD) (Q : VKD), Room k (A.deeper (PyProof.Rows.envOfC qual scope s.heap.objs.size f cdv)) → sp ds M Q →
      ∃ t, PSsD (cxOf CX0 P w K mg base N qual scope f cdv A outer s H E).nox body t ∧ t { nx := fun _ M' => QF Q .non M', rt := QF Q } (startD N ds) M) : FnOk P w K mg base CX0 (k + 1) f fd ps (liftSp K sp) := by
  refine F.ok S (fun vs H Q E ⟨ds, M, QD, r, _, q, _⟩ => by rw [r.length]; exact len _ _ _ q) (fun cdv A outer s H vs Q E hr ⟨ds, M, QD, r, hM, q, wk⟩ => ?_)
  obtain ⟨t, h, ht⟩ := hbody cdv A outer s H E ds M QD hr q
  refine ⟨liftS K t, PSs.nox h, startD N ds, M, _, r.entry, hM, ht, fun σD' M' σ' H' q e h _ => (QF.wk wk) .non M' .non H' q e h (rep_non.mpr rfl), QF.wk wk, fun _ _ _ _ z => z.elim, fun _ _ _ _ z => z.elim⟩

/-! ### sequences -/
def itemsD (M : HpD) : D → Option (List D)
  | .tup ds => some ds
  | .lst ds => some ds
  | .scr ns => some (ns.map .int)
  | .ref a => match M a with
    | some (.lst ds) => some ds
    | _ => none
  | _ => none
def isTup : D → Bool
  | .tup _ => true
  | _ => false
section
variable {M : HpD} {ds : List D}
theorem items_tup : itemsD M (.tup ds) = some ds := rfl
theorem items_lst : itemsD M (.lst ds) = some ds := rfl
theorem items_scr {ns : List Int} : itemsD M (.scr ns) = some (ns.map .int) := rfl
theorem items_ref {a : Addr} (h : M a = some (.lst ds)) : itemsD M (.ref a) = some ds := by
  show (match M a with | some (.lst ds) => some ds | _ => none) = some ds
  rw [h]
theorem items_ref' {a : Addr} (h : itemsD M (.ref a) = some ds) : M a = some (.lst ds) := by
  have h : (match M a with | some (.lst ds) => some ds | _ => none) = some ds := h
  cases e : M a with
  | none => rw [e] at h; cases h
  | some o =>
    rw [e] at h
    cases o with
    | lst es => cases h; rfl
    | _ => cases h
end
theorem seq_at {K : PySem.W.Frag} {H : Hp} {M : HpD} {d : D} {ds : List D} {v : V} (e : itemsD M d = some ds) (hM : Held K M H) (r : Rep K H M d v) :
    ∃ a vs, v = .ref a ∧ Reps K H M ds vs ∧ ((isTup d = true ∧ SqT K H a vs) ∨ (isTup d = false ∧ SqL K H a vs)) := by
  cases d with
  | tup es =>
    cases e
    obtain ⟨a, vs, rfl, h1, h2⟩ := rep_tup.mp r
    exact ⟨a, vs, rfl, h2, .inl ⟨rfl, h1.sq⟩⟩
  | lst es =>
    cases e
    obtain ⟨a, vs, rfl, h1, _, h2⟩ := rep_lst.mp r
    exact ⟨a, vs, rfl, h2, .inr ⟨rfl, .of h1⟩⟩
  | scr ns =>
    cases e
    obtain ⟨a, rfl, h1⟩ := rep_scr.mp r
    exact ⟨a, _, rfl, Reps.ints ns, .inr ⟨rfl, h1.sq⟩⟩
  | ref a =>
    obtain ⟨ho, h1, vs, rfl, h2⟩ := hM a _ (items_ref' e)
    exact ⟨a, vs, rep_ref.mp r, h2, .inr ⟨rfl, .of h1⟩⟩
  | _ => cases e
/-- a list that is tracked itself (no script) -/
theorem lst_at {K : PySem.W.Frag} {H : Hp} {M : HpD} {d : D} {ds : List D} {v : V} (e : itemsD M d = some ds) (nt : isTup d = false) (ns : ∀ ns, d ≠ .scr ns) (hM : Held K M H) (r : Rep K H M d v) :
    ∃ a vs, v = .ref a ∧ Reps K H M ds vs ∧ H a = some (.lst vs) := by
  cases d with
  | tup es => cases nt
  | lst es =>
    cases e
    obtain ⟨a, vs, rfl, h1, _, h2⟩ := rep_lst.mp r
    exact ⟨a, vs, rfl, h2, h1⟩
  | scr es => exact absurd rfl (ns es)
  | ref a =>
    obtain ⟨ho, h1, vs, rfl, h2⟩ := hM a _ (items_ref' e)
    exact ⟨a, vs, rep_ref.mp r, h2, h1⟩
  | _ => cases e
def isSeqL (M : HpD) (d : D) : Prop := match d with
  | .lst _ => True
  | .ref a => ∃ ds, M a = some (.lst ds)
  | _ => False

section
variable {X : Cx} {a b c e : Expr} {ta tb tc te : TED} {pos : Pos}
/-- len -/
theorem c_len : CallD X (.builtin "len") (fun ds M Q => ∃ x xs, ds = [x] ∧ itemsD M x = some xs ∧ Q (.int xs.length) M) := CallR.weak call_len_seq fun vs H Q ⟨ds, M, QD, r, hM, ⟨x, xs, e, h, q⟩, w⟩ => by
  subst e
  obtain ⟨v, r0, rfl, h1, h2⟩ := reps_cons.mp r
  obtain rfl := reps_nil.mp h2
  obtain ⟨p, us, rfl, h3, h4⟩ := seq_at h hM h1
  refine ⟨p, us, rfl, ?_, ?_⟩
  · rcases h4 with ⟨_, h4⟩ | ⟨_, h4⟩
    · exact .inr h4
    · exact .inl h4
  · rw [h3.length]
    exact WKr w hM (rep_int.mpr rfl) q
theorem c_len_str : CallD X (.builtin "len") (fun ds M Q => ∃ z, ds = [.str z] ∧ z.length ≤ 1000000 ∧ Q (.int z.length) M) := CallR.weak call_len_str fun vs H Q ⟨ds, M, QD, r, hM, ⟨z, e, h, q⟩, w⟩ => by
  subst e
  obtain ⟨v, r0, rfl, h1, h2⟩ := reps_cons.mp r
  obtain rfl := reps_nil.mp h2
  obtain rfl := rep_str.mp h1
  exact ⟨z, rfl, line_of h, WKr w hM (rep_int.mpr rfl) q⟩
theorem reps1 {K : PySem.W.Frag} {H : Hp} {M : HpD} {d : D} {vs : List V} (r : Reps K H M [d] vs) : ∃ v, vs = [v] ∧ Rep K H M d v := by
  obtain ⟨v, r0, rfl, h1, h2⟩ := reps_cons.mp r
  obtain rfl := reps_nil.mp h2
  exact ⟨v, rfl, h1⟩
theorem reps2 {K : PySem.W.Frag} {H : Hp} {M : HpD} {d d2 : D} {vs : List V} (r : Reps K H M [d, d2] vs) : ∃ v v2, vs = [v, v2] ∧ Rep K H M d v ∧ Rep K H M d2 v2 := by
  obtain ⟨v, r0, rfl, h1, h2⟩ := reps_cons.mp r
  obtain ⟨v2, rfl, h3⟩ := reps1 h2
  exact ⟨v, v2, rfl, h1, h3⟩
/-- int, abs, min, max -/
theorem c_int : CallD X (.type "int") (fun ds M Q => (∃ i, ds = [.int i] ∧ Q (.int i) M) ∨ ∃ k, ds = [.bl k] ∧ Q (.int (if k = true then 1 else 0)) M) := CallR.weak call_int1 fun vs H Q ⟨ds, M, QD, r, hM, h, w⟩ => by
  rcases h with ⟨i, rfl, q⟩ | ⟨k, rfl, q⟩
  · obtain ⟨v, rfl, h1⟩ := reps1 r
    obtain rfl := rep_int.mp h1
    exact .inl ⟨i, rfl, WKr w hM (rep_int.mpr rfl) q⟩
  · obtain ⟨v, rfl, h1⟩ := reps1 r
    obtain rfl := rep_bl.mp h1
    exact .inr ⟨k, rfl, WKr w hM (rep_int.mpr (by cases k <;> rfl)) q⟩
theorem c_inti : CallD X (.type "int") (fun ds M Q => ∃ i, ds = [.int i] ∧ Q (.int i) M) := CallR.weak c_int fun vs H Q ⟨ds, M, QD, r, hM, h, w⟩ => ⟨ds, M, QD, r, hM, .inl h, w⟩
theorem c_intb : CallD X (.type "int") (fun ds M Q => ∃ k, ds = [.bl k] ∧ Q (.int (if k = true then 1 else 0)) M) := CallR.weak c_int fun vs H Q ⟨ds, M, QD, r, hM, h, w⟩ => ⟨ds, M, QD, r, hM, .inr h, w⟩
theorem c_abs : CallD X (.builtin "abs") (fun ds M Q => ∃ i, ds = [.int i] ∧ Q (.int (if i < 0 then -i else i)) M) := CallR.weak call_abs fun vs H Q ⟨ds, M, QD, r, hM, ⟨i, e, q⟩, w⟩ => by
  subst e
  obtain ⟨v, rfl, h1⟩ := reps1 r
  obtain rfl := rep_int.mp h1
  exact ⟨i, rfl, WKr w hM (rep_int.mpr rfl) q⟩
theorem c_min2 (hc : X.calm = true) : CallD X (.builtin "min") (fun ds M Q => ∃ i j, ds = [.int i, .int j] ∧ Q (.int (if j < i then j else i)) M) := CallR.weak (call_min2 hc) fun vs H Q ⟨ds, M, QD, r, hM, ⟨i, j, e, q⟩, w⟩ => by
  subst e
  obtain ⟨v, v2, rfl, h1, h2⟩ := reps2 r
  obtain rfl := rep_int.mp h1
  obtain rfl := rep_int.mp h2
  exact ⟨i, j, rfl, WKr w hM (rep_int.mpr rfl) q⟩
theorem c_max2 (hc : X.calm = true) : CallD X (.builtin "max") (fun ds M Q => ∃ i j, ds = [.int i, .int j] ∧ Q (.int (if j > i then j else i)) M) := CallR.weak (call_max2 hc) fun vs H Q ⟨ds, M, QD, r, hM, ⟨i, j, e, q⟩, w⟩ => by
  subst e
  obtain ⟨v, v2, rfl, h1, h2⟩ := reps2 r
  obtain rfl := rep_int.mp h1
  obtain rfl := rep_int.mp h2
  exact ⟨i, j, rfl, WKr w hM (rep_int.mpr rfl) q⟩
/-- tuple(..), list(..) -/
theorem c_tuple : CallD X (.type "tuple") (fun ds M Q => ∃ x xs, ds = [x] ∧ itemsD M x = some xs ∧ Q (.tup xs) M) := CallR.weak call_tuple_of fun vs H Q ⟨ds, M, QD, r, hM, ⟨x, xs, e, h, q⟩, w⟩ => by
  subst e
  obtain ⟨v, rfl, h1⟩ := reps1 r
  obtain ⟨p, us, rfl, h3, h4⟩ := seq_at h hM h1
  refine ⟨p, us, rfl, ?_⟩
  rcases h4 with ⟨t, h4⟩ | ⟨_, h4⟩
  · refine .inr ⟨h4, ?_⟩
    cases x with
    | tup es => cases h; exact WKr w hM h1 q
    | _ => cases t
  · exact .inl ⟨h4, fun l n => tup_new w hM h3 n q⟩
theorem c_listF : CallD X (.type "list") (fun ds M Q => ∃ x xs, ds = [x] ∧ itemsD M x = some xs ∧ Q (.lst xs) M) := CallR.weak call_list_of fun vs H Q ⟨ds, M, QD, r, hM, ⟨x, xs, e, h, q⟩, w⟩ => by
  subst e
  obtain ⟨v, rfl, h1⟩ := reps1 r
  obtain ⟨p, us, rfl, h3, h4⟩ := seq_at h hM h1
  refine ⟨p, us, rfl, ?_, fun l n => lst_new w hM h3 n q⟩
  rcases h4 with ⟨t, h4⟩ | ⟨_, h4⟩
  · exact .inr h4
  · exact .inl h4
theorem c_listM : CallD X (.type "list") (fun ds M Q => ∃ x xs, ds = [x] ∧ itemsD M x = some xs ∧ ∀ p, M p = none → Q (.ref p) (updD M p (.lst xs))) := CallR.weak call_list_of fun vs H Q ⟨ds, M, QD, r, hM, ⟨x, xs, e, h, q⟩, w⟩ => by
  subst e
  obtain ⟨v, rfl, h1⟩ := reps1 r
  obtain ⟨p, us, rfl, h3, h4⟩ := seq_at h hM h1
  refine ⟨p, us, rfl, ?_, fun l n => obj_new w hM h3 n (q l (hM.free n))⟩
  rcases h4 with ⟨t, h4⟩ | ⟨_, h4⟩
  · exact .inr h4
  · exact .inl h4
/-- all, any of bools in a list -/
theorem c_all (hc : X.calm = true) : CallD X (.builtin "all") (fun ds M Q => ∃ (x : D) (bs : List Bool), ds = [x] ∧ isTup x = false ∧ itemsD M x = some (bs.map .bl) ∧ Q (.bl (bs.all id)) M) := CallR.weak (cr_all hc) fun vs H Q ⟨ds, M, QD, r, hM, ⟨x, bs, e, t, h, q⟩, w⟩ => by
  subst e
  obtain ⟨v, rfl, h1⟩ := reps1 r
  obtain ⟨p, us, rfl, h3, h4⟩ := seq_at h hM h1
  obtain rfl := Reps.bls' h3
  rcases h4 with ⟨t', _⟩ | ⟨_, h4⟩
  · rw [t] at t'; cases t'
  · exact ⟨p, bs, rfl, h4, WKr w hM (rep_bl.mpr rfl) q⟩
theorem c_any (hc : X.calm = true) : CallD X (.builtin "any") (fun ds M Q => ∃ (x : D) (bs : List Bool), ds = [x] ∧ isTup x = false ∧ itemsD M x = some (bs.map .bl) ∧ Q (.bl (bs.any id)) M) := CallR.weak (cr_any hc) fun vs H Q ⟨ds, M, QD, r, hM, ⟨x, bs, e, t, h, q⟩, w⟩ => by
  subst e
  obtain ⟨v, rfl, h1⟩ := reps1 r
  obtain ⟨p, us, rfl, h3, h4⟩ := seq_at h hM h1
  obtain rfl := Reps.bls' h3
  rcases h4 with ⟨t', _⟩ | ⟨_, h4⟩
  · rw [t] at t'; cases t'
  · exact ⟨p, bs, rfl, h4, WKr w hM (rep_bl.mpr rfl) q⟩
/-- math.gcd -/
theorem c_gcd : CallD X (.builtin "math.gcd") (fun ds M Q => ∃ i j, ds = [.int i, .int j] ∧ Q (.int ((Nat.gcd i.natAbs j.natAbs : Nat) : Int)) M) := CallR.weak cr_gcd fun vs H Q ⟨ds, M, QD, r, hM, ⟨i, j, e, q⟩, w⟩ => by
  subst e
  obtain ⟨v, v2, rfl, h1, h2⟩ := reps2 r
  obtain rfl := rep_int.mp h1
  obtain rfl := rep_int.mp h2
  exact ⟨i, j, rfl, WKr w hM (rep_int.mpr rfl) q⟩
theorem d_bfun {x : Str} {p : Pos} {es : List Expr} {t : TAD} {id : String} {r : List D → HpD → VKD → Prop} (hc : CallD X (.builtin id) r) (hm : X.mg x = some (.builtin id)) (ha : PAD X (e :: es) t) (hg : Gl X x := by rfl) (hdb : (x == ("__debug__" : Str)) = false := by decide)
    (he : starEach (e :: es) X.env = (false, eval e X.env) :: starEach es X.env := by rfl) (hpl : (backTo pos (starEach es X.env)).any (·.1) = false := by rfl) : PED X (.Call (.Name x p) (e :: es) [] pos) (dCall r t) :=
  PE.weak (pe_callBfun hc hg hm ha hdb he hpl) lift_cb
/-- isinstance(x, T) for a built-in T -/
def kindD (M : HpD) : D → Option String
  | .non => some "NoneType"
  | .bl _ => some "bool"
  | .int _ => some "int"
  | .str _ => some "str"
  | .tup _ => some "tuple"
  | .lst _ => some "list"
  | .ref a => match M a with
    | some (.lst _) => some "list"
    | some (.dK _) => some "dict"
    | some (.dT _) => some "dict"
    | _ => none
  | _ => none
theorem kind_ty {K : PySem.W.Frag} {H : Hp} {M : HpD} {d : D} {v : V} {n : String} (hM : Held K M H) (r : Rep K H M d v) (h : kindD M d = some n) : TyX K H v (.type n) := by
  cases d with
  | non => cases h; rw [rep_non.mp r]; exact .base .non
  | bl b => cases h; rw [rep_bl.mp r]; exact .base (.bl b)
  | int i => cases h; rw [rep_int.mp r]; exact .base (.int i)
  | str x => cases h; rw [rep_str.mp r]; exact .base (.str x)
  | tup ds =>
    cases h
    obtain ⟨a, vs, rfl, h1, _⟩ := rep_tup.mp r
    rcases h1 with ⟨h1, _⟩ | ⟨o, its, m, h1, h2, _⟩
    · exact .base (.tup h1)
    · exact .kTuple h1 h2
  | lst ds =>
    cases h
    obtain ⟨a, vs, rfl, h1, _⟩ := rep_lst.mp r
    exact .base (.lst h1)
  | ref a =>
    rw [rep_ref.mp r]
    have h : (match M a with | some (.lst _) => some "list" | some (.dK _) => some "dict" | some (.dT _) => some "dict" | _ => none) = some n := h
    cases e : M a with
    | none => rw [e] at h; cases h
    | some o =>
      obtain ⟨ho, h1, h2⟩ := hM a o e
      rw [e] at h
      cases o with
      | lst ds => cases h; obtain ⟨vs, rfl, _⟩ := h2; exact .base (.lst h1)
      | dK ds => cases h; obtain ⟨vs, rfl, _⟩ := h2; exact .base (.dK h1)
      | dT ds => cases h; obtain ⟨vs, rfl, _⟩ := h2; exact .base (.dT h1)
      | ins => cases h
  | _ => cases h
/-- the answer for built-in kinds: n is T, or n is bool and T is int -/
def isiB (n T : String) : Bool := n == T || (n == "bool" && T == "int")
def IsiOk (K : PySem.W.Frag) (n T : String) : Prop := PySem.W.kitOne K (.type n) (.type T) = some (isiB n T)
theorem c_isi : CallD X (.builtin "isinstance") (fun ds M Q => ∃ x T n, ds = [x, .ty T] ∧ kindD M x = some n ∧ IsiOk X.K n T ∧ Q (.bl (isiB n T)) M) := CallR.weak call_isi fun vs H Q ⟨ds, M, QD, r, hM, ⟨x, T, n, e, h, ok, q⟩, w⟩ => by
  subst e
  obtain ⟨v, v2, rfl, h1, h2⟩ := reps2 r
  have h2 : v2 = .ty T := by
    unfold Rep at h2
    exact h2
  subst h2
  exact ⟨v, .ty T, .type n, .type T, isiB n T, rfl, .ty T, kind_ty hM h1 h, ok, WKr w hM (rep_bl.mpr rfl) q⟩
/-- a built-in class as a value -/
theorem d_ty {x : Str} {n : String} {pos : Pos} (hm : X.mg x = none) (hv : bootBuiltins x = some (.type n) := by decide +kernel) (hg : Gl X x := by rfl) (hn : x ≠ "__name__" := by decide) (hd : (x == ("__debug__" : Str)) = false := by decide) : PED X (.Name x pos) (dC (.ty n)) :=
  const_of (v := .ty n) (pe_bltn hg hm hv rfl hn hd) fun _ _ => by unfold Rep; rfl

/-! ### subscripts -/
theorem atI_rep {K : PySem.W.Frag} {H : Hp} {M : HpD} {ds : List D} {vs : List V} {i : Int} {d : D} (r : Reps K H M ds vs) (h : atI ds i = some d) : ∃ v, atI vs i = some v ∧ Rep K H M d v := by
  unfold atI at h ⊢
  rw [r.length]
  cases e : ixN ds.length i with
  | none => rw [e] at h; cases h
  | some j =>
    rw [e] at h
    exact r.get h
theorem ix_weak {r r' : R2} (h : IxR X r) (w : ∀ x y H Q, r' x y H Q → r x y H Q) : IxR X r' := fun value slice pins s σ H x y v u Q I rx ry q => h value slice pins s σ H x y v u Q I rx ry (w _ _ _ _ q)
def rIxD : R2D := fun x y M Q => ∃ ds i d, itemsD M x = some ds ∧ y = .int i ∧ atI ds i = some d ∧ Q d M
theorem d_ix (ha : PED X a ta) (hb : PED X b tb) (hs : PlainIx b := by exact fun _ _ => rfl) : PED X (.Subscript a b pos) (dOp rIxD ta tb) :=
  PE.weak (pe_ix (r := liftR X.K rIxD) (ix_weak (ix_list.or ix_tup) fun x y H Q ⟨d1, d2, M, QD, hM, r1, r2, ⟨ds, i, d, e1, e2, h, q⟩, w⟩ => by
    subst e2
    obtain ⟨p, us, rfl, h3, h4⟩ := seq_at e1 hM r1
    obtain rfl := rep_int.mp r2
    obtain ⟨v, hv, rv⟩ := atI_rep h3 h
    rcases h4 with ⟨_, h4⟩ | ⟨_, h4⟩
    · exact .inr ⟨p, us, i, v, rfl, rfl, h4, hv, WKr w hM rv q⟩
    · exact .inl ⟨p, us, i, v, rfl, rfl, h4, hv, WKr w hM rv q⟩) ha hb hs) lift_op
/-- s[i] -/
def rIxSD : R2D := fun x y M Q => ∃ z i c, x = .str z ∧ y = .int i ∧ z.length ≤ 1000000 ∧ atI z.cps.toList i = some c ∧ Q (.str ⟨#[c]⟩) M
theorem d_ixs (ha : PED X a ta) (hb : PED X b tb) (hs : PlainIx b := by exact fun _ _ => rfl) : PED X (.Subscript a b pos) (dOp rIxSD ta tb) :=
  PE.weak (pe_ix (r := liftR X.K rIxSD) (ix_weak ix_str fun x y H Q ⟨d1, d2, M, QD, hM, r1, r2, ⟨z, i, c, e1, e2, hz, h, q⟩, w⟩ => by
    subst e1 e2
    obtain rfl := rep_str.mp r1
    obtain rfl := rep_int.mp r2
    exact ⟨z, i, c, rfl, rfl, line_of hz, h, WKr w hM (rep_str.mpr rfl) q⟩) ha hb hs) lift_op
/-- slices -/
def cutD (xs : List D) (lo hi : Option Int) : List D := (xs.drop (HT.sIx xs.length 0 lo)).take (HT.sIx xs.length xs.length hi - HT.sIx xs.length 0 lo)
theorem cut_rep {K : PySem.W.Frag} {H : Hp} {M : HpD} {ds : List D} {vs : List V} {lo hi : Option Int} (r : Reps K H M ds vs) : Reps K H M (cutD ds lo hi) (cutV vs lo hi) := by
  unfold cutD cutV
  rw [r.length]
  exact (r.drop _).take _
abbrev TOD := StD → HpD → (Option Int → HpD → Prop) → Prop
def liftO (K : PySem.W.Frag) (t : TOD) : TO := fun σ H Q => ∃ σD M QD, RepS K H M σD σ ∧ Held K M H ∧ t σD M QD ∧ ∀ o M' H', QD o M' → Ext M H M' H' → Held K M' H' → Q o H'
abbrev POD (X : Cx) (e : Option Expr) (t : TOD) : Prop := PO X e (liftO X.K t)
theorem PO.weak {e : Option Expr} {t t' : TO} (h : PO X e t) (w : ∀ σ H Q, t' σ H Q → t σ H Q) : PO X e t' := ⟨fun pins s σ H Q I q => h.run pins s σ H Q I (w _ _ _ q)⟩
def dNoPart : TOD := fun _ M Q => Q none M
def dPart (t : TED) : TOD := fun σ M Q => t σ M fun x M1 => ∃ i, x = .int i ∧ Q (some i) M1
theorem po_non : POD X none dNoPart := PO.weak po_none fun σ H Q ⟨σD, M, QD, hS, hM, q, w⟩ => w none M H q (.refl _ _) hM
theorem po_som (h : PED X e te) : POD X (some e) (dPart te) := PO.weak (po_some h) fun σ H Q ⟨σD, M, QD, hS, hM, q, w⟩ => ⟨σD, M, _, hS, hM, q, fun d M' v H' q e h r => by
  obtain ⟨i, rfl, q⟩ := q
  exact ⟨i, rep_int.mp r, w _ M' H' q e h⟩⟩
abbrev SlD := D → Option Int → Option Int → HpD → VKD → Prop
def liftSl (K : PySem.W.Frag) (r : SlD) : V → Option Int → Option Int → Hp → VK → Prop := fun x lo hi H Q => ∃ d M QD, Held K M H ∧ Rep K H M d x ∧ r d lo hi M QD ∧ WK K M H QD Q
theorem SlR.weak {r r' : V → Option Int → Option Int → Hp → VK → Prop} (h : SlR X r) (w : ∀ x l u H Q, r' x l u H Q → r x l u H Q) : SlR X r' := fun pins s σ H x v vl vu lo hi sl Q I rx hs pl pu q => h pins s σ H x v vl vu lo hi sl Q I rx hs pl pu (w _ _ _ _ _ q)
def dSl (r : SlD) (te : TED) (tl th : TOD) : TED := fun σ M Q => te σ M fun x M1 => tl σ M1 fun l M2 => th σ M2 fun u M3 => r x l u M3 Q
theorem d_slice {r : SlD} {lo hi : Option Expr} {tl th : TOD} {p2 : Pos} (hr : SlR X (liftSl X.K r)) (he : PED X e te) (hl : POD X lo tl) (hu : POD X hi th) : PED X (.Subscript e (.Slice lo hi none p2) pos) (dSl r te tl th) :=
  PE.weak (pe_slice hr he hl hu) fun σ H Q ⟨σD, M, QD, hS, hM, q, w⟩ => ⟨σD, M, _, hS, hM, q, fun d M1 v H1 q1 e1 h1 r1 => ⟨σD, M1, _, hS.ext e1, h1, q1, fun l M2 H2 q2 e2 h2 => ⟨σD, M2, _, (hS.ext e1).ext e2, h2, q2, fun u M3 H3 q3 e3 h3 => ⟨d, M3, QD, h3, (r1.ext e2).ext e3, q3, w.ext ((e1.trans e2).trans e3)⟩⟩⟩⟩
/-- of a list: a new list that stays as it is -/
theorem slf_list : SlR X (liftSl X.K fun x lo hi M Q => ∃ ds, itemsD M x = some ds ∧ isTup x = false ∧ Q (.lst (cutD ds lo hi)) M) := SlR.weak sl_list fun x lo hi H Q ⟨d, M, QD, hM, r, ⟨ds, e, t, q⟩, w⟩ => by
  obtain ⟨p, us, rfl, h3, h4⟩ := seq_at e hM r
  rcases h4 with ⟨t', _⟩ | ⟨_, h4⟩
  · rw [t] at t'; cases t'
  · exact ⟨p, us, rfl, h4, fun l n => lst_new w hM (cut_rep h3) n q⟩
theorem slm_list : SlR X (liftSl X.K fun x lo hi M Q => ∃ ds, itemsD M x = some ds ∧ isTup x = false ∧ ∀ p, M p = none → Q (.ref p) (updD M p (.lst (cutD ds lo hi)))) := SlR.weak sl_list fun x lo hi H Q ⟨d, M, QD, hM, r, ⟨ds, e, t, q⟩, w⟩ => by
  obtain ⟨p, us, rfl, h3, h4⟩ := seq_at e hM r
  rcases h4 with ⟨t', _⟩ | ⟨_, h4⟩
  · rw [t] at t'; cases t'
  · exact ⟨p, us, rfl, h4, fun l n => obj_new w hM (cut_rep h3) n (q l (hM.free n))⟩
theorem slf_tup : SlR X (liftSl X.K fun x lo hi M Q => ∃ ds, x = .tup ds ∧ ¬ (HT.sIx ds.length 0 lo = 0 ∧ HT.sIx ds.length ds.length hi = ds.length) ∧ Q (.tup (cutD ds lo hi)) M) := SlR.weak sl_tup fun x lo hi H Q ⟨d, M, QD, hM, r, ⟨ds, e, t, q⟩, w⟩ => by
  subst e
  obtain ⟨p, us, rfl, h3, h4⟩ := rep_tup.mp r
  exact ⟨p, us, rfl, h3.sq, by rw [h4.length]; exact t, fun l n => tup_new w hM (cut_rep h4) n q⟩

/-! ### sequences put together -/
theorem o_catT : OpD X (binaryOp .Add) (fun x y M Q => ∃ xs ys, x = .tup xs ∧ y = .tup ys ∧ xs ≠ [] ∧ xs.length + ys.length ≤ 1000000 ∧ Q (.tup (xs ++ ys)) M) := OpR.weak op_catT fun x y H Q ⟨d1, d2, M, QD, hM, r1, r2, ⟨xs, ys, e1, e2, ne, hl, q⟩, w⟩ => by
  subst e1 e2
  obtain ⟨a, us, rfl, h1, h2⟩ := rep_tup.mp r1
  obtain ⟨b, vs, rfl, h3, h4⟩ := rep_tup.mp r2
  refine ⟨a, b, us, vs, rfl, rfl, h1.sq, h3.sq, fun z => ne ?_, by rw [h2.length, h4.length]; exact line_of hl, fun z => ?_, fun _ p n => tup_new w hM (h2.append h4) n q⟩
  · have := h2.length
    rw [z] at this
    exact List.eq_nil_of_length_eq_zero this.symm
  · have e := h4.length
    rw [z] at e
    obtain rfl := List.eq_nil_of_length_eq_zero e.symm
    rw [List.append_nil] at q
    exact WKr w hM r1 q
def notScr : D → Bool
  | .scr _ => false
  | _ => true
theorem notScr_ne {d : D} (h : notScr d = true) : ∀ ns, d ≠ .scr ns := fun ns e => by subst e; cases h
def rCatD (k : List D → HpD → VKD → Prop) : R2D := fun x y M Q => ∃ xs ys, itemsD M x = some xs ∧ itemsD M y = some ys ∧ isTup x = false ∧ isTup y = false ∧ notScr x = true ∧ notScr y = true ∧ xs.length + ys.length ≤ 1000000 ∧ k (xs ++ ys) M Q
/-- a new list that stays as it is; one that will change -/
def kF : List D → HpD → VKD → Prop := fun zs M Q => Q (.lst zs) M
def kM : List D → HpD → VKD → Prop := fun zs M Q => ∀ p, M p = none → Q (.ref p) (updD M p (.lst zs))
theorem kF_ok {K : PySem.W.Frag} {H : Hp} {M : HpD} {ds : List D} {vs : List V} {QD : VKD} {Q : VK} (w : WK K M H QD Q) (hM : Held K M H) (r : Reps K H M ds vs) (q : kF ds M QD) : ∀ p, H p = none → Q (.ref p) (upd H p (.lst vs)) := fun p n => lst_new w hM r n q
theorem kM_ok {K : PySem.W.Frag} {H : Hp} {M : HpD} {ds : List D} {vs : List V} {QD : VKD} {Q : VK} (w : WK K M H QD Q) (hM : Held K M H) (r : Reps K H M ds vs) (q : kM ds M QD) : ∀ p, H p = none → Q (.ref p) (upd H p (.lst vs)) := fun p n => obj_new w hM r n (q p (hM.free n))
theorem o_catF : OpD X (binaryOp .Add) (rCatD kF) := OpR.weak op_cat fun x y H Q ⟨d1, d2, M, QD, hM, r1, r2, ⟨xs, ys, e1, e2, t1, t2, s1, s2, hl, q⟩, w⟩ => by
  obtain ⟨a, us, rfl, h1, h2⟩ := lst_at e1 t1 (notScr_ne s1) hM r1
  obtain ⟨b, vs, rfl, h3, h4⟩ := lst_at e2 t2 (notScr_ne s2) hM r2
  exact ⟨a, b, us, vs, rfl, rfl, h2, h4, by rw [h1.length, h3.length]; exact line_of hl, kF_ok w hM (h1.append h3) q⟩
theorem o_catM : OpD X (binaryOp .Add) (rCatD kM) := OpR.weak op_cat fun x y H Q ⟨d1, d2, M, QD, hM, r1, r2, ⟨xs, ys, e1, e2, t1, t2, s1, s2, hl, q⟩, w⟩ => by
  obtain ⟨a, us, rfl, h1, h2⟩ := lst_at e1 t1 (notScr_ne s1) hM r1
  obtain ⟨b, vs, rfl, h3, h4⟩ := lst_at e2 t2 (notScr_ne s2) hM r2
  exact ⟨a, b, us, vs, rfl, rfl, h2, h4, by rw [h1.length, h3.length]; exact line_of hl, kM_ok w hM (h1.append h3) q⟩
theorem Reps.flat {K : PySem.W.Frag} {H : Hp} {M : HpD} {ds : List D} {vs : List V} (r : Reps K H M ds vs) : ∀ n : Nat, Reps K H M (List.replicate n ds).flatten (List.replicate n vs).flatten
  | 0 => .nil
  | n + 1 => by rw [List.replicate_succ, List.replicate_succ, List.flatten_cons, List.flatten_cons]; exact r.append (Reps.flat r n)
/-- [x] * n -/
def rRepD (k : List D → HpD → VKD → Prop) : R2D := fun x y M Q => ∃ d n, itemsD M x = some [d] ∧ isTup x = false ∧ notScr x = true ∧ y = .int n ∧ n ≤ 1000000 ∧ -(2 ^ 63) ≤ n ∧ k (List.replicate n.toNat d) M Q
theorem flat_one {α : Type} (x : α) : ∀ n : Nat, (List.replicate n [x]).flatten = List.replicate n x
  | 0 => rfl
  | n + 1 => by rw [List.replicate_succ, List.flatten_cons, flat_one x n, List.replicate_succ]; rfl
theorem o_repF : OpD X (binaryOp .Mult) (rRepD kF) := OpR.weak op_rep fun x y H Q ⟨d1, d2, M, QD, hM, r1, r2, ⟨d, n, e1, t1, s1, e2, hn, hn2, q⟩, w⟩ => by
  subst e2
  obtain ⟨a, us, rfl, h1, h2⟩ := lst_at e1 t1 (notScr_ne s1) hM r1
  obtain rfl := rep_int.mp r2
  have hf := h1.flat n.toNat
  rw [flat_one] at hf
  refine ⟨a, n, us, rfl, rfl, h2, hn2, by omega, ?_, kF_ok w hM hf q⟩
  have := h1.length
  simp only [List.length_cons, List.length_nil] at this
  rw [this]
  exact line_of (by omega)
theorem o_repM : OpD X (binaryOp .Mult) (rRepD kM) := OpR.weak op_rep fun x y H Q ⟨d1, d2, M, QD, hM, r1, r2, ⟨d, n, e1, t1, s1, e2, hn, hn2, q⟩, w⟩ => by
  subst e2
  obtain ⟨a, us, rfl, h1, h2⟩ := lst_at e1 t1 (notScr_ne s1) hM r1
  obtain rfl := rep_int.mp r2
  have hf := h1.flat n.toNat
  rw [flat_one] at hf
  refine ⟨a, n, us, rfl, rfl, h2, hn2, by omega, ?_, kM_ok w hM hf q⟩
  have := h1.length
  simp only [List.length_cons, List.length_nil] at this
  rw [this]
  exact line_of (by omega)

/-! ### stores -/
abbrev TSetD := D → D → D → HpD → (HpD → Prop) → Prop
def liftSet (K : PySem.W.Frag) (t : TSetD) : TSet := fun o i v H Q => ∃ d1 d2 d3 M QD, Held K M H ∧ Rep K H M d1 o ∧ Rep K H M d2 i ∧ Rep K H M d3 v ∧ t d1 d2 d3 M QD ∧ ∀ M' H', QD M' → Ext M H M' H' → Held K M' H' → Q H'
def rSetD : TSetD := fun o i v M Q => ∃ p ds k j, o = .ref p ∧ i = .int k ∧ M p = some (.lst ds) ∧ ixN ds.length k = some j ∧ Q (updD M p (.lst (ds.set j v)))
theorem PSet.weak {t t' : TSet} (h : PSet X t) (w : ∀ o i v H Q, t' o i v H Q → t o i v H Q) : PSet X t' := fun pins s σ H o i v ov iv u Q I ro ri rv q => h pins s σ H o i v ov iv u Q I ro ri rv (w _ _ _ _ _ q)
theorem in_M {M : HpD} {p : Addr} {o : OD} (h : M p = some o) : M p ≠ none ∨ ∀ H : Hp, H p = none := .inl (by rw [h]; exact fun z => by cases z)
theorem set_lst : PSet X (liftSet X.K rSetD) := PSet.weak set_list fun o i v H Q ⟨d1, d2, d3, M, QD, hM, r1, r2, r3, ⟨p, ds, k, j, e1, e2, h, hj, q⟩, w⟩ => by
  subst e1 e2
  obtain rfl := rep_ref.mp r1
  obtain rfl := rep_int.mp r2
  obtain ⟨ho, h1, vs, rfl, h2⟩ := hM p _ h
  have ne : M p ≠ none ∨ H p = none := .inl (by rw [h]; exact fun z => by cases z)
  have x := ext_upd (H := H) (M := M) (p := p) (o := .lst (vs.set j v)) (u := .lst (ds.set j d3)) ne
  exact ⟨p, vs, k, j, rfl, rfl, h1, by rw [h2.length]; exact hj, w _ _ q x (hM.upd' ne ⟨_, rfl, (h2.ext x).set (r3.ext x) j⟩)⟩
/-- o[i] = .. -/
def dgSub (to ti : TED) (t : TSetD) : TGD := fun v σ M Q => to σ M fun o M1 => ti σ M1 fun i M2 => t o i v M2 fun M3 => Q σ M3
theorem g_sub {o i : Expr} {to ti : TED} {t : TSetD} (ho : PED X o to) (hi : PED X i ti) (hs : PSet X (liftSet X.K t))
    (ha : ∀ v, assign (.Subscript o i pos) X.env v = (do
      let ov ← holding [v] (eval o X.env)
      let iv ← holding [v, ov] (eval i X.env)
      standAt pos
      holding [v, ov, iv] (setItem ov iv v)
      release [v, ov, iv] []) := by intro _; rfl) : PGD X (.Subscript o i pos) (dgSub to ti t) :=
  PG.weak (pg_sub ho hi hs ha) fun v σ H Q ⟨d, σD, M, QD, r, hS, hM, q, w⟩ => ⟨σD, M, _, hS, hM, q, fun o' M1 ov H1 q1 e1 h1 r1 => ⟨σD, M1, _, hS.ext e1, h1, q1, fun i' M2 iv H2 q2 e2 h2 r2 => ⟨o', i', d, M2, _, h2, r1.ext e2, r2, (r.ext e1).ext e2, q2, fun M3 H3 q3 e3 h3 => w _ M3 _ H3 q3 ((e1.trans e2).trans e3) h3 (((hS.ext e1).ext e2).ext e3)⟩⟩⟩
/-- name op= e -/
def dAug (i : Nat) (te : TED) (r : R2D) : TSD := fun E σ M => ∃ x, σ[i]? = some (some x) ∧ te σ M fun y M1 => r x y M1 fun z M2 => E.nx (σ.set i (some z)) M2
theorem s_aug {i : Nat} {x : Str} {op : Operator} {r : R2D} {pos' : Pos} (hN : X.N.Nodup) (hi : X.N[i]? = some x) (hx : Loc X.env.scope x) (he : PED X e te) (ho : OpD X (inplaceOp op) r) (hf : X.fn x = true ∨ X.env.scope.names.lookup x = some .local := by first | exact .inl rfl | exact .inr rfl | assumption) :
    PSD X (.AugAssign (.Name x pos') op e pos) (dAug i te r) :=
  PS.weak (ps_aug hN hi hx he (fun pins s σ H x y v u Q I rx ry q => ho pins s σ H x y v u Q I rx ry q) hf) fun D σ H ⟨σD, M, E, hS, hM, ⟨x, e1, q⟩, w1, _⟩ => by
    obtain ⟨v, h1, h2⟩ := hS.2 i x e1
    exact ⟨v, h1, σD, M, _, hS, hM, q, fun y M1 yv H1 q1 e1 h1 r1 => ⟨x, y, M1, _, h1, h2.ext e1, r1, q1, fun z M2 zv H2 q2 e2 h3 r2 => w1 _ M2 _ H2 q2 (e1.trans e2) h3 (((hS.ext e1).ext e2).set r2)⟩⟩
theorem i_add : OpD X (inplaceOp .Add) (rI20 fun i j => .int (i + j)) := opd_I0 iop_add fun _ _ _ _ => rep_int.mpr rfl
theorem i_sub : OpD X (inplaceOp .Sub) (rI20 fun i j => .int (i - j)) := opd_I0 iop_sub fun _ _ _ _ => rep_int.mpr rfl
/-- a list's item, by values -/
theorem get_list {pins : List (Addr × Obj)} {s : Shared} {σ : L2.St} {H : Hp} {p : Addr} {xs : List V} {i : Int} {t : Tok} {z : V} {Q : Value → Shared → Prop} {E : Value → Shared → Prop} (I : Inv X pins σ H s) (hq : SqL X.K H p xs) (he : atI xs i = some z)
    (q : ∀ w, RelV z w → Q w s) : wpAny (model X.prog X.w) X.A (getItem (.ref p) (.int i t)) Q E s := by
  obtain ⟨its, r, pl, hz⟩ := I.list hq
  obtain ⟨j, h1, h2, h3, h4, h5⟩ := atI_get he
  obtain ⟨w, ew, rw'⟩ := r.get h2
  have hl := r.length
  have hn := line63
  by_cases h0 : 0 ≤ i
  · have hj : i.toNat = j := by
      rw [seqIndex_of h0 h5] at h1
      exact Option.some.inj h1
    exact wpAny_getItem_list pl.isList h0 (by omega) (by rw [hj]; simpa using ew) (q w rw')
  · have hj : (i + (its.toArray.size : Int)).toNat = j := by
      rw [seqIndex_neg (by omega) h4] at h1
      rw [List.size_toArray, ← hl]
      exact Option.some.inj h1
    exact wpAny_getItem_list_neg pl.isList (by omega) (by rw [List.size_toArray] <;> omega) (by omega) (by rw [hj]; simpa using ew) (q w rw')
end
end DL

namespace DL
open PySem PySem.Spec L2

/-! ### what is walked: items that are fixed from the start -/
/-- J walks ds, as long as stab holds -/
def Jok (K : PySem.W.Frag) (J : It) (ds : List D) (stab : HpD → Prop) (M0 : HpD) (H0 : Hp) : Prop :=
  ∀ (i : Nat) (M : HpD) (H : Hp), Ext M0 H0 M H → Held K M H → stab M →
    (i < ds.length → J.go i H ∧ ∀ x H', J.yld i H x H' → ∃ d, ds[i]? = some d ∧ Ext M H M H' ∧ Held K M H' ∧ Rep K H' M d x) ∧ (ds.length ≤ i → J.stop i H)
abbrev TID := StD → HpD → (List D → (HpD → Prop) → HpD → Prop) → Prop
def liftI (K : PySem.W.Frag) (t : TID) : TI := fun σ H R => ∃ σD M QD, RepS K H M σD σ ∧ Held K M H ∧ t σD M QD ∧ ∀ ds stab M' H' J, QD ds stab M' → Ext M H M' H' → Held K M' H' → Jok K J ds stab M' H' → R J H'
abbrev PID (X : Cx) (tg iter : Expr) (t : TID) : Prop := PI X tg iter (liftI X.K t)
theorem PI.weak {X : Cx} {tg iter : Expr} {t t' : TI} (h : PI X tg iter t) (w : ∀ σ H R, t' σ H R → t σ H R) : PI X tg iter t' := ⟨fun pins s σ H R I q => h.run pins s σ H R I (w _ _ _ q)⟩

section
variable {X : Cx} {tg : Expr}
/-- a list or a tuple -/
def iSeq (K : PySem.W.Frag) (tl : TE) : TI := fun σ H R => tl σ H fun x H1 => ∃ a, x = .ref a ∧ (((∃ xs, SqL K H1 a xs) ∧ R (Itl K a) H1) ∨ ((∃ xs, SqT K H1 a xs) ∧ R (Itt K a) H1))
theorem pi_seq {l : Expr} {tl : TE} (hl : PE X l tl) : PI X tg l (iSeq X.K tl) := by
  refine ⟨fun pins s σ H R I h => ?_⟩
  refine thn (hl.run pins s σ H _ I h) fun v s1 ⟨x, H1, I1, r1, q1⟩ => ?_
  obtain ⟨a, e, q1⟩ := q1
  subst e
  cases r1
  rcases q1 with ⟨⟨xs, hq⟩, q⟩ | ⟨⟨xs, hq⟩, q⟩
  · obtain ⟨its, rv, p, hz⟩ := I1.list hq
    refine wpAny_pyIter_list p.isList ?_
    refine ⟨s1.heap.objs.size, [s1.heap.objs.size], _, _, H1, rfl, I1.kept (t' := s1.toks) fun b o e => Heap.get?_push_of_some _ e, turn_list a _, ⟨_, Heap.get?_push_size _ rfl, rfl, rfl⟩, fun b hb => ?_, q⟩
    have e : b = s1.heap.objs.size := by simpa using hb
    subst e
    exact I1.fpOk (Nat.le_refl _) (I1.hok.fresh (Nat.le_refl _))
  · obtain ⟨its, rv, p, hz⟩ := I1.tuple hq
    refine wpAny_pyIter_tuple (show s1.heap.IsTuple a its.toArray from p) ?_
    refine ⟨s1.heap.objs.size, [s1.heap.objs.size], _, _, H1, rfl, I1.kept (t' := s1.toks) fun b o e => Heap.get?_push_of_some _ e, turn_tuple a _, ⟨_, Heap.get?_push_size _ rfl, rfl, rfl⟩, fun b hb => ?_, q⟩
    have e : b = s1.heap.objs.size := by simpa using hb
    subst e
    exact I1.fpOk (Nat.le_refl _) (I1.hok.fresh (Nat.le_refl _))
/-- the items stay -/
def stabD (d : D) (ds : List D) : HpD → Prop := fun M => itemsD M d = some ds
theorem stab_const {d : D} {ds : List D} (h : (match d with | .ref _ => false | _ => true) = true) {M M' : HpD} (e : itemsD M d = some ds) : stabD d ds M' := by
  cases d <;> first | exact e | cases h
theorem seqT_inj {K : PySem.W.Frag} {H : Hp} {a : Addr} {xs ys : List V} (h : H a = some (.tup xs)) (h' : Rd H a (.tup ys)) : xs = ys := by
  rcases h' with h' | ⟨o, h'⟩
  · rw [h] at h'; cases h'; rfl
  · rw [h] at h'; cases h'
def diSeq (te : TED) : TID := fun σ M R => te σ M fun d M1 => ∃ ds, itemsD M1 d = some ds ∧ R ds (stabD d ds) M1
theorem i_seq {l : Expr} {te : TED} (hl : PED X l te) : PID X tg l (diSeq te) :=
  PI.weak (pi_seq hl) fun σ H R ⟨σD, M, QD, hS, hM, q, w⟩ => ⟨σD, M, _, hS, hM, q, fun d M' v H' q e h r => by
    obtain ⟨ds, ei, q⟩ := q
    obtain ⟨a, us, rfl, h3, h4⟩ := seq_at ei h r
    refine ⟨a, rfl, ?_⟩
    rcases h4 with ⟨t, h4⟩ | ⟨t, h4⟩
    · refine .inr ⟨⟨us, h4⟩, w ds _ M' H' _ q e h fun i M2 H2 e2 hM2 st => ?_⟩
      obtain ⟨a2, us2, e3, h5, h6⟩ := seq_at st hM2 (r.ext e2)
      cases e3
      rcases h6 with ⟨_, h6⟩ | ⟨t', _⟩
      · refine ⟨fun hi => ⟨?_, fun x H3 ⟨eH, y⟩ => ?_⟩, fun hi => ⟨us2, h6, by rw [h5.length]; exact hi⟩⟩
        · have hl : i < us2.length := by rw [h5.length]; exact hi
          exact ⟨us2, us2[i], h6, by simp [hl]⟩
        · subst eH
          obtain ⟨d', hd, rd⟩ := h5.get' (y us2 h6)
          exact ⟨d', hd, .refl _ _, hM2, rd⟩
      · rw [t] at t'; cases t'
    · refine .inl ⟨⟨us, h4⟩, w ds _ M' H' _ q e h fun i M2 H2 e2 hM2 st => ?_⟩
      obtain ⟨a2, us2, e3, h5, h6⟩ := seq_at st hM2 (r.ext e2)
      cases e3
      rcases h6 with ⟨t', _⟩ | ⟨_, h6⟩
      · rw [t] at t'; cases t'
      · refine ⟨fun hi => ⟨?_, fun x H3 ⟨eH, y⟩ => ?_⟩, fun hi => ⟨us2, h6, by rw [h5.length]; exact hi⟩⟩
        · have hl : i < us2.length := by rw [h5.length]; exact hi
          exact ⟨us2, us2[i], h6, by simp [hl]⟩
        · subst eH
          obtain ⟨d', hd, rd⟩ := h5.get' (y us2 h6)
          exact ⟨d', hd, .refl _ _, hM2, rd⟩⟩
/-- range -/
def upTo (lo : Int) (n : Nat) : List D := (List.range n).map fun (i : Nat) => D.int (lo + (i : Int))
theorem upTo_length (lo : Int) (n : Nat) : (upTo lo n).length = n := by unfold upTo; rw [List.length_map, List.length_range]
theorem upTo_get {lo : Int} {n i : Nat} (h : i < n) : (upTo lo n)[i]? = some (.int (lo + i)) := by
  unfold upTo
  rw [List.getElem?_map, List.getElem?_range h]
  rfl
theorem jok_rng {K : PySem.W.Frag} {lo : Int} {n : Nat} {M : HpD} {H : Hp} : Jok K (Itr lo n) (upTo lo n) (fun _ => True) M H := fun i M2 H2 e h st => by
  rw [upTo_length]
  refine ⟨fun hi => ⟨hi, fun x H3 ⟨eH, ex⟩ => ?_⟩, fun hi => hi⟩
  subst eH ex
  exact ⟨_, upTo_get hi, .refl _ _, h, rep_int.mpr rfl⟩
def diRng1 (ta : TAD) : TID := fun σ M R => ta σ M fun ds M1 => ∃ j : Int, ds = [.int j] ∧ -(2 ^ 62) ≤ j ∧ j < 2 ^ 62 ∧ R (upTo 0 j.toNat) (fun _ => True) M1
def diRng2 (ta : TAD) : TID := fun σ M R => ta σ M fun ds M1 => ∃ i j : Int, ds = [.int i, .int j] ∧ (-(2 ^ 62) ≤ i ∧ i < 2 ^ 62 ∧ -(2 ^ 62) ≤ j ∧ j < 2 ^ 62) ∧ R (upTo i (j - i).toNat) (fun _ => True) M1
theorem i_range1 {a : Expr} {ta : TAD} {p pos : Pos} (hm : X.mg "range" = none) (ha : PAD X [a] ta) (hg : Gl X "range" := by rfl) (hs : starEach [a] X.env = [(false, eval a X.env)] := by rfl) : PID X tg (.Call (.Name "range" p) [a] [] pos) (diRng1 ta) :=
  PI.weak (pi_range1 hg hm ha hs) fun σ H R ⟨σD, M, QD, hS, hM, q, w⟩ => ⟨σD, M, _, hS, hM, q, fun ds M' vs H' q e h r => by
    obtain ⟨j, rfl, h1, h2, q⟩ := q
    obtain ⟨v, rfl, h3⟩ := reps1 r
    obtain rfl := rep_int.mp h3
    exact ⟨j, rfl, h1, h2, w _ _ M' H' _ q e h jok_rng⟩⟩
theorem i_range2 {a b : Expr} {ta : TAD} {p pos : Pos} (hm : X.mg "range" = none) (ha : PAD X [a, b] ta) (hg : Gl X "range" := by rfl) (hs : starEach [a, b] X.env = [(false, eval a X.env), (false, eval b X.env)] := by rfl) (hs2 : starEach [b] X.env = [(false, eval b X.env)] := by rfl) :
    PID X tg (.Call (.Name "range" p) [a, b] [] pos) (diRng2 ta) :=
  PI.weak (pi_range2 hg hm ha hs hs2) fun σ H R ⟨σD, M, QD, hS, hM, q, w⟩ => ⟨σD, M, _, hS, hM, q, fun ds M' vs H' q e h r => by
    obtain ⟨i, j, rfl, h1, q⟩ := q
    obtain ⟨v, v2, rfl, h3, h4⟩ := reps2 r
    obtain rfl := rep_int.mp h3
    obtain rfl := rep_int.mp h4
    exact ⟨i, j, rfl, h1, w _ _ M' H' _ q e h jok_rng⟩⟩
/-- zip of two lists, of two tuples -/
def pairs2 (xs ys : List D) : List D := (xs.zip ys).map fun p => .tup [p.1, p.2]
theorem pairs2_length (xs ys : List D) : (pairs2 xs ys).length = min xs.length ys.length := by unfold pairs2; rw [List.length_map, List.length_zip]
theorem pairs2_get {xs ys : List D} {i : Nat} {x y : D} (h1 : xs[i]? = some x) (h2 : ys[i]? = some y) : (pairs2 xs ys)[i]? = some (.tup [x, y]) := by
  unfold pairs2
  rw [List.getElem?_map, (List.getElem?_zip_eq_some (z := (x, y))).mpr ⟨h1, h2⟩]
  rfl
def diZip (ta : TAD) : TID := fun σ M R => ta σ M fun ds M1 => ∃ x y xs ys, ds = [x, y] ∧ itemsD M1 x = some xs ∧ itemsD M1 y = some ys ∧ isTup x = isTup y ∧ R (pairs2 xs ys) (fun M => stabD x xs M ∧ stabD y ys M) M1
theorem i_zip {e e2 : Expr} {ta : TAD} {p pos tpos : Pos} {elts : List Expr} {kk : Nat} (hm : X.mg "zip" = none) (ha : PAD X [e, e2] ta) (hg : Gl X "zip" := by rfl)
    (hs : starEach [e, e2] X.env = (false, eval e X.env) :: starEach [e2] X.env := by rfl) (hpl : (backTo pos (starEach [e2] X.env)).any (·.1) = false := by rfl) :
    PID X (.Tuple elts kk tpos) (.Call (.Name "zip" p) [e, e2] [] pos) (diZip ta) :=
  PI.weak (RZ.pi_zipA hg hm ha hs hpl) fun σ H R ⟨σD, M, QD, hS, hM, q, w⟩ => ⟨σD, M, _, hS, hM, q, fun ds M' vs H' q e h r => by
    obtain ⟨x, y, xs, ys, rfl, ex, ey, tt, q⟩ := q
    obtain ⟨v, v2, rfl, rx, ry⟩ := reps2 r
    obtain ⟨a, us, rfl, h3, h4⟩ := seq_at ex h rx
    obtain ⟨b, us2, rfl, h5, h6⟩ := seq_at ey h ry
    refine ⟨a, b, us, us2, rfl, ?_⟩
    rcases h4 with ⟨t, h4⟩ | ⟨t, h4⟩
    · rcases h6 with ⟨t', h6⟩ | ⟨t', h6⟩
      · refine .inr ⟨h4, h6, w _ _ M' H' _ q e h fun i M2 H2 e2 hM2 st => ?_⟩
        obtain ⟨a2, ws, e3, k3, k4⟩ := seq_at st.1 hM2 (rx.ext e2)
        cases e3
        obtain ⟨b2, ws2, e4, k5, k6⟩ := seq_at st.2 hM2 (ry.ext e2)
        cases e4
        rcases k4 with ⟨_, k4⟩ | ⟨z, _⟩
        · rcases k6 with ⟨_, k6⟩ | ⟨z, _⟩
          · rw [pairs2_length]
            refine ⟨fun hi => ⟨?_, fun x' H3 ⟨T, x1, y1, e5, nT, eH, g1, g2⟩ => ?_⟩, fun hi => ⟨ws, ws2, k4, k6, ?_⟩⟩
            · have l1 : i < ws.length := by rw [k3.length]; omega
              have l2 : i < ws2.length := by rw [k5.length]; omega
              exact ⟨ws, ws2, ws[i], ws2[i], k4, k6, by simp [l1], by simp [l2]⟩
            · subst e5 eH
              obtain ⟨d1, hd1, rd1⟩ := k3.get' (g1 ws k4)
              obtain ⟨d2, hd2, rd2⟩ := k5.get' (g2 ws2 k6)
              have x := ext_new (M := M2) (H := H2) (p := T) (o := .tup [x1, y1]) nT
              exact ⟨_, pairs2_get hd1 hd2, x, hM2.new nT, rep_tup.mpr ⟨T, _, rfl, .inl ⟨upd_same, hM2.free nT⟩, .cons (rd1.ext x) (.one (rd2.ext x))⟩⟩
            · rw [k3.length, k5.length]; omega
          · rw [t'] at z; cases z
        · rw [t] at z; cases z
      · rw [t, t'] at tt; cases tt
    · rcases h6 with ⟨t', h6⟩ | ⟨t', h6⟩
      · rw [t, t'] at tt; cases tt
      · refine .inl ⟨h4, h6, w _ _ M' H' _ q e h fun i M2 H2 e2 hM2 st => ?_⟩
        obtain ⟨a2, ws, e3, k3, k4⟩ := seq_at st.1 hM2 (rx.ext e2)
        cases e3
        obtain ⟨b2, ws2, e4, k5, k6⟩ := seq_at st.2 hM2 (ry.ext e2)
        cases e4
        rcases k4 with ⟨z, _⟩ | ⟨_, k4⟩
        · rw [t] at z; cases z
        · rcases k6 with ⟨z, _⟩ | ⟨_, k6⟩
          · rw [t'] at z; cases z
          · rw [pairs2_length]
            refine ⟨fun hi => ⟨?_, fun x' H3 ⟨T, x1, y1, e5, nT, eH, g1, g2⟩ => ?_⟩, fun hi => ⟨ws, ws2, k4, k6, ?_⟩⟩
            · have l1 : i < ws.length := by rw [k3.length]; omega
              have l2 : i < ws2.length := by rw [k5.length]; omega
              exact ⟨ws, ws2, ws[i], ws2[i], k4, k6, by simp [l1], by simp [l2]⟩
            · subst e5 eH
              obtain ⟨d1, hd1, rd1⟩ := k3.get' (g1 ws k4)
              obtain ⟨d2, hd2, rd2⟩ := k5.get' (g2 ws2 k6)
              have x := ext_new (M := M2) (H := H2) (p := T) (o := .tup [x1, y1]) nT
              exact ⟨_, pairs2_get hd1 hd2, x, hM2.new nT, rep_tup.mpr ⟨T, _, rfl, .inl ⟨upd_same, hM2.free nT⟩, .cons (rd1.ext x) (.one (rd2.ext x))⟩⟩
            · rw [k3.length, k5.length]; omega⟩
end

/-! ### for -/
section
variable {X : Cx} {tg : Expr}
/-- the invariant by the turn -/
structure ForG (g : TGD) (tb : TSD) (E : EndsD) (σ : StD) (ds : List D) (stab : HpD → Prop) (M1 : HpD) : Prop where
  ex : ∃ Pv : Nat → StD → HpD → Prop, Pv 0 σ M1 ∧ (∀ i σ M, i ≤ ds.length → Pv i σ M → stab M) ∧
    (∀ i x σ M, ds[i]? = some x → Pv i σ M → g x σ M fun σ2 M2 => tb { E with nx := Pv (i + 1), ct := Pv (i + 1), bk := E.nx } σ2 M2) ∧ ∀ σ M, Pv ds.length σ M → E.nx σ M
def dFor (ti : TID) (g : TGD) (tb : TSD) : TSD := fun E σ M => ti σ M fun ds stab M1 => ForG g tb E σ ds stab M1
theorem s_for {iter : Expr} {body : List Stmt} {ti : TID} {g : TGD} {tb : TSD} {pos : Pos} (hc : X.calm = true) (hp : PassesOwn (model X.prog X.w) X.A X.env X.xe) (hi : PID X tg iter ti) (hg : PGD X tg g) (hb : PSsD X body tb)
    (hs : ∀ x, foldedSetIterable iter X.env x = pure x := by intro _; rfl) : PSD X (.For tg iter body [] pos) (dFor ti g tb) :=
  PS.weak (ps_for hp hc hi hg hb hs) fun D σ H ⟨σD, M, E, hS, hM, q, w1, w2, w3, w4⟩ => ⟨σD, M, _, hS, hM, q, fun ds stab M1 H1 J q e h jok => by
    obtain ⟨Pv, p0, pst, pstep, pend⟩ := q.ex
    refine ⟨fun i m σ H => m = ds.length - i ∧ i ≤ ds.length ∧ ∃ σD' M', RepS X.K H M' σD' σ ∧ Held X.K M' H ∧ Ext M1 H1 M' H ∧ Pv i σD' M', ⟨ds.length, by simp, Nat.zero_le _, σD, M1, hS.ext e, h, .refl _ _, p0⟩, ?_⟩
    rintro i m σ2 H2 ⟨rfl, hi, σD2, M2, s2, h2, e2, p2⟩
    obtain ⟨jg, js⟩ := jok i M2 H2 e2 h2 (pst i σD2 M2 hi p2)
    by_cases hlt : i < ds.length
    · obtain ⟨j1, j2⟩ := jg hlt
      refine .inr ⟨j1, fun σ' H' => ∃ σD' M', RepS X.K H' M' σD' σ' ∧ Held X.K M' H' ∧ Ext M1 H1 M' H' ∧ Pv (i + 1) σD' M', fun σ' H' p' => ⟨ds.length - (i + 1), by omega, rfl, hlt, p'⟩, fun x H3 y => ?_⟩
      obtain ⟨d, hd, e3, h3, rd⟩ := j2 x H3 y
      have e13 : Ext M1 H1 M2 H3 := e2.trans e3
      refine ⟨d, σD2, M2, _, rd, s2.ext e3, h3, pstep i d σD2 M2 hd p2, fun σD4 M4 σ4 H4 q4 e4 h4 s4 => ?_⟩
      have e14 := e13.trans e4
      refine ⟨σD4, M4, _, s4, h4, q4, fun σD5 M5 σ5 H5 q5 e5 h5 s5 => ⟨σD5, M5, s5, h5, e14.trans e5, q5⟩, w2.ext (e.trans e14), fun σD5 M5 σ5 H5 q5 e5 h5 s5 => w1 σD5 M5 σ5 H5 q5 ((e.trans e14).trans e5) h5 s5, fun σD5 M5 σ5 H5 q5 e5 h5 s5 => ⟨σD5, M5, s5, h5, e14.trans e5, q5⟩⟩
    · have ei : i = ds.length := by omega
      subst ei
      exact .inl ⟨js (Nat.le_refl _), w1 σD2 M2 σ2 H2 (pend σD2 M2 p2) (e.trans e2) h2 s2⟩⟩
/-! ### while -/
structure WhG (c : TTD) (tb : TSD) (E : EndsD) (σ : StD) (M : HpD) : Prop where
  ex : ∃ W : Nat → StD → HpD → Prop, (∃ m, W m σ M) ∧ ∀ m σ M, W m σ M →
    c σ M fun b M1 => if b = true then tb { E with nx := fun σ' M' => ∃ m', m' < m ∧ W m' σ' M', ct := fun σ' M' => ∃ m', m' < m ∧ W m' σ' M', bk := E.nx } σ M1 else E.nx σ M1
def dWhile (c : TTD) (tb : TSD) : TSD := fun E σ M => WhG c tb E σ M
theorem s_while {c : Expr} {body : List Stmt} {tc : TTD} {tb : TSD} {pos : Pos} (hp : PassesOwn (model X.prog X.w) X.A X.env X.xe) (hc : PTD X c tc) (hb : PSsD X body tb) : PSD X (.While c body [] pos) (dWhile tc tb) :=
  PS.weak (ps_while hp hc hb) fun D σ H ⟨σD, M, E, hS, hM, ⟨⟨W, ⟨m0, w0⟩, turn⟩⟩, w1, w2, w3, w4⟩ => by
    refine ⟨fun m σ' H' => ∃ σD' M', RepS X.K H' M' σD' σ' ∧ Held X.K M' H' ∧ Ext M H M' H' ∧ W m σD' M', ⟨m0, σD, M, hS, hM, .refl _ _, w0⟩, ?_⟩
    rintro m σ2 H2 ⟨σD2, M2, s2, h2, e2, p2⟩
    refine ⟨σD2, M2, _, s2, h2, turn m σD2 M2 p2, fun b M3 H3 q3 e3 h3 => ?_⟩
    have e13 := e2.trans e3
    cases b with
    | true =>
      refine ⟨fun σ' H' => ∃ m', m' < m ∧ ∃ σD' M', RepS X.K H' M' σD' σ' ∧ Held X.K M' H' ∧ Ext M H M' H' ∧ W m' σD' M', fun σ' H' p' => p', ?_⟩
      refine ⟨σD2, M3, _, s2.ext e3, h3, q3, fun σD5 M5 σ5 H5 ⟨m', hm, q5⟩ e5 h5 s5 => ⟨m', hm, σD5, M5, s5, h5, e13.trans e5, q5⟩, w2.ext e13, fun σD5 M5 σ5 H5 q5 e5 h5 s5 => w1 σD5 M5 σ5 H5 q5 (e13.trans e5) h5 s5, fun σD5 M5 σ5 H5 ⟨m', hm, q5⟩ e5 h5 s5 => ⟨m', hm, σD5, M5, s5, h5, e13.trans e5, q5⟩⟩
    | false => exact w1 σD2 M3 σ2 H3 q3 e13 h3 (s2.ext e3)
end

/-! ### list comprehensions -/
def wipeD (σ : StD) : List Nat → StD
  | [] => σ
  | v :: vs => (wipeD σ vs).set v none
section
variable {X : Cx}
theorem RepS.wipe {K : PySem.W.Frag} {H : Hp} {M : HpD} {σD : StD} {σ : L2.St} (h : RepS K H M σD σ) : ∀ vs : List Nat, RepS K H M (wipeD σD vs) (L2.wipe σ vs)
  | [] => h
  | v :: vs => (RepS.wipe h vs).unset
theorem wipe_get (σ : L2.St) (j : Nat) : ∀ vs : List Nat, (L2.wipe σ vs)[j]? = if j ∈ vs then (σ[j]?).map (fun _ => none) else σ[j]?
  | [] => by simp [L2.wipe]
  | v :: vs => by
    have ih := wipe_get σ j vs
    show ((L2.wipe σ vs).set v none)[j]? = _
    by_cases h : v = j
    · subst h
      rw [if_pos List.mem_cons_self]
      by_cases hl : v < List.length (L2.wipe σ vs)
      · rw [List.getElem?_set_self hl]
        have hl2 : v < List.length σ := by rw [L2.wipe_length] at hl; exact hl
        rw [List.getElem?_eq_getElem hl2]; rfl
      · rw [List.getElem?_eq_none (by simpa using hl)]
        have hl2 : ¬ v < List.length σ := by rw [L2.wipe_length] at hl; exact hl
        rw [List.getElem?_eq_none (by omega)]; rfl
    · rw [List.getElem?_set_ne h, ih]
      by_cases hj : j ∈ vs
      · rw [if_pos hj, if_pos (List.mem_cons_of_mem _ hj)]
      · rw [if_neg hj, if_neg (by simp only [List.mem_cons, not_or]; exact ⟨fun e => h e.symm, hj⟩)]
theorem wipe_set {σ : L2.St} {i : Nat} {a : Option V} {vs : List Nat} (h : i ∈ vs) : L2.wipe (List.set σ i a) vs = L2.wipe σ vs := by
  refine List.ext_getElem? fun j => ?_
  rw [wipe_get, wipe_get]
  by_cases hj : j ∈ vs
  · rw [if_pos hj, if_pos hj]
    by_cases e : i = j
    · subst e
      by_cases hl : i < List.length σ
      · rw [List.getElem?_set_self hl, List.getElem?_eq_getElem hl]; rfl
      · rw [List.getElem?_eq_none (by simpa using hl), List.getElem?_eq_none (by omega)]
    · rw [List.getElem?_set_ne e]
  · rw [if_neg hj, if_neg hj, List.getElem?_set_ne (fun e : i = j => hj (by rw [← e]; exact h))]
theorem wipe_wipe {σ : L2.St} {vs : List Nat} : L2.wipe (L2.wipe σ vs) vs = L2.wipe σ vs := by
  refine List.ext_getElem? fun j => ?_
  rw [wipe_get, wipe_get]
  by_cases hj : j ∈ vs
  · rw [if_pos hj, if_pos hj]
    cases σ[j]? <;> rfl
  · rw [if_neg hj, if_neg hj]
/-- several names set, from the left -/
def sets {α : Type} (σ : List (Option α)) : List Nat → List α → List (Option α)
  | i :: is, x :: xs => sets (σ.set i (some x)) is xs
  | _, _ => σ
theorem wipe_sets {vs : List Nat} : ∀ {is : List Nat} {xs : List V} {σ : L2.St}, (∀ i ∈ is, i ∈ vs) → L2.wipe (sets σ is xs) vs = L2.wipe σ vs
  | [], _, _, _ => by unfold sets; rfl
  | _ :: _, [], _, _ => by unfold sets; rfl
  | i :: is, x :: xs, σ, h => by
    show L2.wipe (sets (List.set σ i (some x)) is xs) vs = _
    rw [wipe_sets fun j hj => h j (List.mem_cons_of_mem _ hj), wipe_set (h i List.mem_cons_self)]
theorem RepS.sets {K : PySem.W.Frag} {H : Hp} {M : HpD} : ∀ {is : List Nat} {ds : List D} {xs : List V} {σD : StD} {σ : L2.St}, RepS K H M σD σ → Reps K H M ds xs → RepS K H M (DL.sets σD is ds) (DL.sets σ is xs)
  | [], _, _, _, _, h, _ => by unfold DL.sets; exact h
  | i :: is, [], _, _, _, h, r => by obtain rfl := reps_nil.mp r; exact h
  | i :: is, d :: ds, _, σD, σ, h, r => by
    obtain ⟨v, vs, rfl, r1, r2⟩ := reps_cons.mp r
    show RepS K H M (DL.sets (List.set σD i (some d)) is ds) (DL.sets (List.set σ i (some v)) is vs)
    exact RepS.sets (h.set r1) r2
/-- the names of a comprehension's target: one (b = false), or those of a tuple -/
def gNames : List Nat → TGs
  | [] => gNil
  | i :: is => gCons (gName i) (gNames is)
theorem gNames_ok : ∀ {is : List Nat} {xs : List V} {σ : L2.St} {H : Hp} {Q : L2.St → Hp → Prop}, xs.length = is.length → Q (sets σ is xs) H → gNames is xs σ H Q
  | [], xs, σ, H, Q, hl, q => ⟨List.eq_nil_of_length_eq_zero hl, by unfold sets at q; exact q⟩
  | i :: is, [], _, _, _, hl, _ => by cases hl
  | i :: is, x :: xs, σ, H, Q, hl, q => ⟨x, xs, rfl, gNames_ok (by simpa using hl) q⟩
def PTsD (X : Cx) (ifs : List Expr) (t : TTD) : Prop := PTs X ifs (liftT X.K t)
def dYes : TTD := fun _ M Q => Q true M
theorem PTs.weak {ifs : List Expr} {t t' : TT} (h : PTs X ifs t) (w : ∀ σ H Q, t' σ H Q → t σ H Q) : PTs X ifs t' := ⟨fun pins s σ H Q I q => h.run pins s σ H Q I (w _ _ _ q)⟩
theorem ts_nil : PTsD X [] dYes := PTs.weak pts_nil fun σ H Q ⟨σD, M, QD, hS, hM, q, w⟩ => w true M H q (.refl _ _) hM
theorem ts_one {c : Expr} {t : TTD} (h : PTD X c t) : PTsD X [c] t := pts_one h
/-- what a turn's target does -/
inductive Tgt where
  | one (i : Nat)
  | many (is : List Nat)
def Tgt.slots : Tgt → List Nat
  | .one i => [i]
  | .many is => is
def Tgt.g (K : PySem.W.Frag) : Tgt → TG
  | .one i => gName i
  | .many is => gTup K is.length (gNames is)
def Tgt.set (σ : StD) : Tgt → D → (StD → Prop) → Prop
  | .one i, d, k => k (σ.set i (some d))
  | .many is, d, k => ∃ ds, d = .tup ds ∧ ds.length = is.length ∧ k (sets σ is ds)
/-- from the new list at p (which is in M), to the next turn -/
def lcBody (tt : TTD) (te : TED) (p : Addr) (σ2 : StD) (M : HpD) (Nx : HpD → Prop) : Prop :=
  tt σ2 M fun b M3 => if b = true then te σ2 M3 fun y M4 => ∃ acc, M4 p = some (.lst acc) ∧ acc.length < 1000000 ∧ Nx (updD M4 p (.lst (acc ++ [y]))) else Nx M3
structure LcG (g : Tgt) (tt : TTD) (te : TED) (vs : List Nat) (σ : StD) (ds : List D) (stab : HpD → Prop) (M1 : HpD) (Q : VKD) : Prop where
  ex : ∀ p, M1 p = none → ∃ Pv : Nat → HpD → Prop, Pv 0 (updD M1 p (.lst [])) ∧ (∀ i M, i ≤ ds.length → Pv i M → stab M) ∧
    (∀ i x M, ds[i]? = some x → Pv i M → g.set (wipeD σ vs) x fun σ2 => lcBody tt te p σ2 M (Pv (i + 1))) ∧ ∀ M, Pv ds.length M → Q (.ref p) M
def dLc (ti : TID) (g : Tgt) (tt : TTD) (te : TED) (vs : List Nat) : TED := fun σ M Q => ti σ M fun ds stab M1 => LcG g tt te vs σ ds stab M1 Q
theorem lift_lc {own : List (Str × Nat)} {ti : TID} {g : Tgt} {tt : TTD} {te : TED} (hv : ∀ i ∈ g.slots, i ∈ own.map (·.2)) : ∀ (σ : L2.St) (H : Hp) (Q : VK), liftE X.K (dLc ti g tt te (own.map (·.2))) σ H Q → tLc (liftI X.K ti) (g.g X.K) (liftT X.K tt) (liftE X.K te) (own.map (·.2)) σ H Q :=
  fun σ H Q ⟨σD, M, QD, hS, hM, q, w⟩ => ⟨σD, M, _, hS, hM, q, fun ds stab M1 H1 J q e h jok p np => by
    obtain ⟨Pv, p0, pst, pstep, pend⟩ := q.ex p (h.free np)
    have x0 : Ext M1 H1 (updD M1 p (.lst [])) (upd H1 p (.lst [])) := ext_upd (.inr np)
    refine ⟨fun i m H => m = ds.length - i ∧ i ≤ ds.length ∧ ∃ M', Held X.K M' H ∧ Ext M1 H1 M' H ∧ Pv i M', ⟨ds.length, by simp, Nat.zero_le _, _, h.upd' (u := .lst []) (.inr np) ⟨[], rfl, .nil⟩, x0, p0⟩, ?_⟩
    rintro i m H2 ⟨rfl, hi, M2, h2, e2, p2⟩
    obtain ⟨jg, js⟩ := jok i M2 H2 e2 h2 (pst i M2 hi p2)
    by_cases hlt : i < ds.length
    · obtain ⟨j1, j2⟩ := jg hlt
      refine .inr ⟨j1, fun H' => ∃ M', Held X.K M' H' ∧ Ext M1 H1 M' H' ∧ Pv (i + 1) M', fun H' p' => ⟨ds.length - (i + 1), by omega, rfl, hlt, p'⟩, fun xv H3 y => ?_⟩
      obtain ⟨d, hd, e3, h3, rd⟩ := j2 xv H3 y
      have e13 : Ext M1 H1 M2 H3 := e2.trans e3
      have sw : RepS X.K H3 M2 (wipeD σD (own.map (·.2))) (L2.wipe σ (own.map (·.2))) := RepS.wipe ((hS.ext e).ext e13) _
      have go : ∀ (σ2 : L2.St) (σD2 : StD), RepS X.K H3 M2 σD2 σ2 → lcBody tt te p σD2 M2 (Pv (i + 1)) → liftT X.K tt σ2 H3 fun b H4 =>
          if b = true then liftE X.K te σ2 H4 fun y H5 => ∃ acc, H5 p = some (.lst acc) ∧ acc.length < sizeLine ∧ ∃ M', Held X.K M' (upd H5 p (.lst (acc ++ [y]))) ∧ Ext M1 H1 M' (upd H5 p (.lst (acc ++ [y]))) ∧ Pv (i + 1) M' else ∃ M', Held X.K M' H4 ∧ Ext M1 H1 M' H4 ∧ Pv (i + 1) M' := fun σ2 σD2 s2 qb => by
        refine ⟨σD2, M2, _, s2, h3, qb, fun b M4 H4 q4 e4 h4 => ?_⟩
        have e14 := e13.trans e4
        cases b with
        | false => exact ⟨M4, h4, e14, q4⟩
        | true =>
          refine ⟨σD2, M4, _, s2.ext e4, h4, q4, fun y M5 yv H5 ⟨acc, m5, hz, q5⟩ e5 h5 ry => ?_⟩
          obtain ⟨ho, k1, vs, rfl, k2⟩ := h5 p _ m5
          have ne : M5 p ≠ none ∨ H5 p = none := .inl (by rw [m5]; exact fun z => by cases z)
          have x5 := ext_upd (H := H5) (M := M5) (p := p) (o := .lst (vs ++ [yv])) (u := .lst (acc ++ [y])) ne
          exact ⟨vs, k1, by rw [k2.length]; exact Nat.lt_of_lt_of_le hz (by decide), _, h5.upd' (u := .lst (acc ++ [y])) ne ⟨_, rfl, (k2.ext x5).append (.one (ry.ext x5))⟩, (e14.trans e5).trans x5, q5⟩
      have st := pstep i d M2 hd p2
      cases g with
      | one k =>
        refine ⟨?_, go _ _ (sw.set rd) st⟩
        rw [wipe_set (hv k List.mem_cons_self), wipe_wipe]
      | many is =>
        obtain ⟨es, rfl, hl, st⟩ := st
        obtain ⟨a, us, rfl, k1, k2⟩ := rep_tup.mp rd
        refine ⟨a, us, rfl, k1.sq, by rw [k2.length, hl], gNames_ok (by rw [k2.length, hl]) ⟨?_, go _ _ (sw.sets k2) st⟩⟩
        rw [wipe_sets (is := is) hv, wipe_wipe]
    · have ei : i = ds.length := by omega
      subst ei
      exact .inl ⟨js (Nat.le_refl _), w _ M2 _ H2 (pend M2 p2) (e.trans e2) h2 (rep_ref.mpr rfl)⟩⟩
theorem d_lc {elt tg iter : Expr} {ifs : List Expr} {scope : Scope} {own : List (Str × Nat)} {pos : Pos} {ti : TID} {g : Tgt} {tt : TTD} {te : TED} (hc : X.calm = true) (hN : X.N.Nodup) (hi : PID X tg iter ti) (ok : BlkOk X.N X.env.scope scope own)
    (hv : ∀ i ∈ g.slots, i ∈ own.map (·.2))
    (hg : ∀ (s : Shared) (H : Hp) (C : Addr) (cl : List (Str × Addr)) (fp : List Addr), PG (X.blk s H scope (compEnvC scope cl C X.env) fp) tg (g.g X.K)) (ht : ∀ (s : Shared) (H : Hp) (C : Addr) (cl : List (Str × Addr)) (fp : List Addr), PTs (X.blk s H scope (compEnvC scope cl C X.env) fp) ifs (liftT X.K tt))
    (he : ∀ (s : Shared) (H : Hp) (C : Addr) (cl : List (Str × Addr)) (fp : List Addr), PE (X.blk s H scope (compEnvC scope cl C X.env) fp) elt (liftE X.K te)) (hs : ∀ x, foldedSetIterable iter X.env x = pure x := by intro _; rfl) :
    PED X (.ListComp elt [⟨tg, iter, ifs, 0⟩] scope pos) (dLc ti g tt te (own.map (·.2))) :=
  PE.weak (pe_lc hc hN hi ok hg ht he hs) (lift_lc hv)
/-- name = [..], the name a local -/
theorem s_setLc {i : Nat} {y : Str} {py : Pos} {elt tg iter : Expr} {ifs : List Expr} {scope : Scope} {own : List (Str × Nat)} {pos spos : Pos} {ti : TID} {g : Tgt} {tt : TTD} {te : TED} (hc : X.calm = true) (hN : X.N.Nodup) (hy : X.N[i]? = some y) (hyl : X.env.scope.names.lookup y = some .local)
    (hsw : swapsWith (.ListComp elt [⟨tg, iter, ifs, 0⟩] scope pos) (some (.Name y py)) spos.line X.env = pure true) (hi : PID X tg iter ti) (ok : BlkOk X.N X.env.scope scope own) (hv : ∀ i ∈ g.slots, i ∈ own.map (·.2))
    (hg : ∀ (s : Shared) (H : Hp) (C : Addr) (cl : List (Str × Addr)) (fp : List Addr), PG (X.blk s H scope (compEnvC scope cl C X.env) fp) tg (g.g X.K)) (ht : ∀ (s : Shared) (H : Hp) (C : Addr) (cl : List (Str × Addr)) (fp : List Addr), PTs (X.blk s H scope (compEnvC scope cl C X.env) fp) ifs (liftT X.K tt))
    (he : ∀ (s : Shared) (H : Hp) (C : Addr) (cl : List (Str × Addr)) (fp : List Addr), PE (X.blk s H scope (compEnvC scope cl C X.env) fp) elt (liftE X.K te)) (hs : ∀ x, foldedSetIterable iter X.env x = pure x := by intro _; rfl) :
    PSD X (.Assign [.Name y py] (.ListComp elt [⟨tg, iter, ifs, 0⟩] scope pos) spos) (dAsg (dLc ti g tt te (own.map (·.2))) (dgName i)) :=
  PS.weak (ps_setLc hc hN hy hyl hsw hi ok hg ht he hs) fun D σ H ⟨σD, M, E, hS, hM, q, w1, _⟩ =>
    lift_lc hv σ H (fun x H1 => gName i x σ H1 D.nx) ⟨σD, M, _, hS, hM, q, fun d M' v H' q e h r => w1 _ M' _ H' q e h ((hS.ext e).set r)⟩
/-- any expression: its value may become data -/
def dFrz (t : TED) : TED := fun σ M Q => t σ M (QF Q)
theorem d_frz {e : Expr} {t : TED} (h : PED X e t) : PED X e (dFrz t) := PE.weak h fun σ H Q ⟨σD, M, QD, hS, hM, q, w⟩ => ⟨σD, M, _, hS, hM, q, QF.wk w⟩
theorem Tgt.mono {g : Tgt} {σ : StD} {d : D} {k k' : StD → Prop} (h : ∀ σ, k σ → k' σ) (q : g.set σ d k) : g.set σ d k' := by
  cases g with
  | one i => exact h _ q
  | many is =>
    obtain ⟨ds, e, hl, q⟩ := q
    exact ⟨ds, e, hl, h _ q⟩
theorem lcP_of {g : Tgt} {tt : TTD} {te : TED} {vs : List Nat} {σ : StD} {M1 : HpD} {ds : List D} {stab : HpD → Prop} {f : D → Option D} {Q : VKD} (hst : ∀ M', SubM M1 M' → stab M') (hl : ds.length ≤ 900000)
    (hs : ∀ x ∈ ds, ∀ M', SubM M1 M' → ∀ Qn : Option D → HpD → Prop, Qn (f x) M' → g.set (wipeD σ vs) x fun σ2 => tt σ2 M' fun b M3 => if b = true then te σ2 M3 fun y M4 => Qn (some y) M4 else Qn none M3) (q : Q (.lst (ds.filterMap f)) M1) : LcG g tt te vs σ ds stab M1 (QF Q) := by
  refine ⟨fun p np => ?_⟩
  refine ⟨fun i M => M = updD M1 p (.lst ((ds.take i).filterMap f)), by simp, fun i M _ e => by subst e; exact hst _ (.new np), fun i x M hx e => ?_, fun M e => ?_⟩
  · subst e
    have hxm : x ∈ ds := List.mem_of_getElem? hx
    have ht : ds.take (i + 1) = ds.take i ++ [x] := by
      have hi : i < ds.length := (List.getElem?_eq_some_iff.mp hx).1
      rw [List.take_succ, hx]; rfl
    refine Tgt.mono (fun σ2 k => k) (hs x hxm _ (.new np) (fun o M4 => match o with
      | some y => ∃ acc, M4 p = some (.lst acc) ∧ acc.length < 1000000 ∧ updD M4 p (.lst (acc ++ [y])) = updD M1 p (.lst ((ds.take (i + 1)).filterMap f))
      | none => M4 = updD M1 p (.lst ((ds.take (i + 1)).filterMap f))) ?_)
    cases e : f x with
    | none => show _ = _; rw [ht, List.filterMap_append]; simp [e]
    | some y =>
      refine ⟨(ds.take i).filterMap f, updD_same, ?_, ?_⟩
      · have h1 : ((ds.take i).filterMap f).length ≤ (ds.take i).length := List.length_filterMap_le _ _
        have h2 : (ds.take i).length ≤ ds.length := by rw [List.length_take]; omega
        omega
      · rw [updD_updD, ht, List.filterMap_append]
        simp [e]
  · subst e
    refine ⟨.lst (ds.filterMap f), M1, Frz.lst (.new np) ?_ np, q⟩
    rw [updD_same, List.take_length]
end
end DL

namespace DL
open PySem PySem.Spec L2

/-! ### methods of lists -/
abbrev MtD := D → List D → HpD → VKD → Prop
def liftM (K : PySem.W.Frag) (r : MtD) : V → List V → Hp → VK → Prop := fun x vs H Q => ∃ d ds M QD, Held K M H ∧ Rep K H M d x ∧ Reps K H M ds vs ∧ r d ds M QD ∧ WK K M H QD Q
theorem MtR.weak {X : Cx} {id : String} {r r' : V → List V → Hp → VK → Prop} (h : MtR X id r) (w : ∀ x vs H Q, r' x vs H Q → r x vs H Q) : MtR X id r' := fun pins s σ H x xs v us Q I rx rv q => h pins s σ H x xs v us Q I rx rv (w _ _ _ _ q)
def isLst (M : HpD) (x : D) : Prop := isTup x = false ∧ ∃ ds, itemsD M x = some ds
def dBM (r : MtD) (to : TED) (t : TAD) : TED := fun σ M Q => to σ M fun x M1 => isLst M1 x ∧ t σ M1 fun xs M2 => r x xs M2 Q
def dBM0 (r : MtD) (to : TED) : TED := fun σ M Q => to σ M fun x M1 => isLst M1 x ∧ r x [] M1 Q
theorem ty_lst {K : PySem.W.Frag} {H : Hp} {M : HpD} {x : D} {v : V} (hM : Held K M H) (r : Rep K H M x v) (h : isLst M x) : tyV K "list" v H := by
  obtain ⟨t, ds, e⟩ := h
  obtain ⟨a, us, rfl, _, h4⟩ := seq_at e hM r
  rcases h4 with ⟨t', _⟩ | ⟨_, h4⟩
  · rw [t] at t'; cases t'
  · exact .inl ⟨rfl, us, h4⟩
section
variable {X : Cx} {o e : Expr} {es : List Expr} {to te : TED} {t : TAD} {name : Str} {apos cpos : Pos} {id : String} {r : MtD}
theorem d_bm (slot : Slot "list" name id) (hty : typeOf (.builtin id) = pure (.type "method_descriptor")) (hm : MtR X id (liftM X.K r)) (ho : PED X o to) (ha : PAD X (e :: es) t)
    (hbase : attributeBase o name X.env (eval o X.env) = eval o X.env := by rfl)
    (hfew : ((backTo cpos (starEach (e :: es) X.env)).all (fun x => !x.1) && (backToKw cpos (keywordEach [] X.env)).all (fun x => x.1.isSome)
      && decide ((e :: es).length + ([] : List Keyword).length + (if ([] : List Keyword).isEmpty then 0 else 1) < 30)) = true := by rfl)
    (hline : (apos.endLine == cpos.line) = true := by rfl) (hs : starEach (e :: es) X.env = (false, eval e X.env) :: starEach es X.env := by rfl) (hplain : (backTo cpos (starEach es X.env)).any (·.1) = false := by rfl) :
    PED X (.Call (.Attribute o name apos) (e :: es) [] cpos) (dBM r to t) :=
  PE.weak (pe_bm PySem.F.plainAttrs_list slot hty hm ho ha hbase hfew hline hs hplain) fun σ H Q ⟨σD, M, QD, hS, hM, q, w⟩ => ⟨σD, M, _, hS, hM, q, fun x M1 v H1 ⟨l, q1⟩ e1 h1 r1 => ⟨ty_lst h1 r1 l, σD, M1, _, hS.ext e1, h1, q1, fun ds M2 vs H2 q2 e2 h2 r2 => ⟨x, ds, M2, QD, h2, r1.ext e2, r2, q2, w.ext (e1.trans e2)⟩⟩⟩
theorem d_bm0 (slot : Slot "list" name id) (hty : typeOf (.builtin id) = pure (.type "method_descriptor")) (hm : MtR X id (liftM X.K r)) (ho : PED X o to)
    (hbase : attributeBase o name X.env (eval o X.env) = eval o X.env := by rfl) (hline : (apos.endLine == cpos.line) = true := by rfl) : PED X (.Call (.Attribute o name apos) [] [] cpos) (dBM0 r to) :=
  PE.weak (pe_bm0 PySem.F.plainAttrs_list slot hty hm ho hbase hline) fun σ H Q ⟨σD, M, QD, hS, hM, q, w⟩ => ⟨σD, M, _, hS, hM, q, fun x M1 v H1 ⟨l, q1⟩ e1 h1 r1 => ⟨ty_lst h1 r1 l, x, [], M1, QD, h1, r1, .nil, q1, w.ext e1⟩⟩
theorem ne_of_some {M : HpD} {p : Addr} {o : OD} (h : M p = some o) : M p ≠ none := by rw [h]; exact fun z => by cases z
theorem m_append : MtR X "list.append" (liftM X.K fun x xs M Q => ∃ p ds y, x = .ref p ∧ xs = [y] ∧ M p = some (.lst ds) ∧ ds.length < 1000000 ∧ Q .non (updD M p (.lst (ds ++ [y])))) :=
  MtR.weak (r := rAppend) mt_append fun x vs H Q ⟨d, ds0, M, QD, hM, r1, r2, ⟨p, ds, y, e1, e2, h, hl, q⟩, w⟩ => by
    subst e1 e2
    obtain rfl := rep_ref.mp r1
    obtain ⟨v, rfl, h1⟩ := reps1 r2
    obtain ⟨ho, k1, us, rfl, k2⟩ := hM p _ h
    have x := ext_upd (H := H) (M := M) (p := p) (o := .lst (us ++ [v])) (u := .lst (ds ++ [y])) (.inl (ne_of_some h))
    exact ⟨p, us, v, rfl, rfl, k1, by rw [k2.length]; exact Nat.lt_of_lt_of_le hl (by decide), w _ _ _ _ q x (hM.upd' (u := .lst (ds ++ [y])) (.inl (ne_of_some h)) ⟨_, rfl, (k2.ext x).append (.one (h1.ext x))⟩) (rep_non.mpr rfl)⟩
theorem m_extend : MtR X "list.extend" (liftM X.K fun x xs M Q => ∃ p ds y es, x = .ref p ∧ xs = [y] ∧ M p = some (.lst ds) ∧ itemsD M y = some es ∧ isTup y = false ∧ notScr y = true ∧ ds.length + es.length ≤ 1000000 ∧ Q .non (updD M p (.lst (ds ++ es)))) :=
  MtR.weak (r := rExtend) mt_extend fun x vs H Q ⟨d, ds0, M, QD, hM, r1, r2, ⟨p, ds, y, es, e1, e2, h, hy, t, ns, hl, q⟩, w⟩ => by
    subst e1 e2
    obtain rfl := rep_ref.mp r1
    obtain ⟨v, rfl, h1⟩ := reps1 r2
    obtain ⟨b, ws, rfl, k3, k4⟩ := lst_at hy t (notScr_ne ns) hM h1
    obtain ⟨ho, k1, us, rfl, k2⟩ := hM p _ h
    have x := ext_upd (H := H) (M := M) (p := p) (o := .lst (us ++ ws)) (u := .lst (ds ++ es)) (.inl (ne_of_some h))
    exact ⟨p, b, us, ws, rfl, rfl, k1, k4, by rw [k2.length, k3.length]; exact line_of hl, w _ _ _ _ q x (hM.upd' (u := .lst (ds ++ es)) (.inl (ne_of_some h)) ⟨_, rfl, (k2.ext x).append (k3.ext x)⟩) (rep_non.mpr rfl)⟩
theorem m_pop : MtR X "list.pop" (liftM X.K fun x xs M Q => ∃ p ds y, x = .ref p ∧ xs = [] ∧ M p = some (.lst ds) ∧ ds[ds.length - 1]? = some y ∧ Q y (updD M p (.lst ds.dropLast))) :=
  MtR.weak (r := rPop) mt_pop fun x vs H Q ⟨d, ds0, M, QD, hM, r1, r2, ⟨p, ds, y, e1, e2, h, hy, q⟩, w⟩ => by
    subst e1 e2
    obtain rfl := rep_ref.mp r1
    obtain rfl := reps_nil.mp r2
    obtain ⟨ho, k1, us, rfl, k2⟩ := hM p _ h
    obtain ⟨v, hv, rv⟩ := k2.get hy
    have x := ext_upd (H := H) (M := M) (p := p) (o := .lst us.dropLast) (u := .lst ds.dropLast) (.inl (ne_of_some h))
    exact ⟨p, us, v, rfl, rfl, k1, by rw [k2.length]; exact hv, w _ _ _ _ q x (hM.upd' (u := .lst ds.dropLast) (.inl (ne_of_some h)) ⟨_, rfl, (k2.ext x).dropLast⟩) (rv.ext x)⟩
theorem m_popAt : MtR X "list.pop" (liftM X.K fun x xs M Q => ∃ p ds i k y, x = .ref p ∧ xs = [.int i] ∧ M p = some (.lst ds) ∧ -(2 ^ 63) ≤ i ∧ i < 2 ^ 63 ∧ seqIndex? i ds.length = some k ∧ ds[k]? = some y ∧ Q y (updD M p (.lst (ds.eraseIdx k)))) :=
  MtR.weak (r := rPopAt) mt_popAt fun x vs H Q ⟨d, ds0, M, QD, hM, r1, r2, ⟨p, ds, i, k, y, e1, e2, h, g1, g2, g3, hy, q⟩, w⟩ => by
    subst e1 e2
    obtain rfl := rep_ref.mp r1
    obtain ⟨vi, rfl, hi⟩ := reps1 r2
    obtain rfl := rep_int.mp hi
    obtain ⟨ho, k1, us, rfl, k2⟩ := hM p _ h
    obtain ⟨v, hv, rv⟩ := k2.get hy
    have x := ext_upd (H := H) (M := M) (p := p) (o := .lst (us.eraseIdx k)) (u := .lst (ds.eraseIdx k)) (.inl (ne_of_some h))
    exact ⟨p, us, i, k, v, rfl, rfl, k1, g1, g2, by rw [k2.length]; exact g3, hv, w _ _ _ _ q x (hM.upd' (u := .lst (ds.eraseIdx k)) (.inl (ne_of_some h)) ⟨_, rfl, (k2.ext x).eraseIdx k⟩) (rv.ext x)⟩
/-! ### xs[i] op= e -/
def dAugS (to ti te : TED) (r : R2D) : TSD := fun E σ M => to σ M fun o M1 => ti σ M1 fun i M2 => ∃ p k ds x, o = .ref p ∧ i = .int k ∧ M2 p = some (.lst ds) ∧ atI ds k = some x ∧
  te σ M2 fun y M3 => r x y M3 fun z M4 => ∃ es j, M4 p = some (.lst es) ∧ ixN es.length k = some j ∧ E.nx σ (updD M4 p (.lst (es.set j z)))
theorem s_augS {o i e : Expr} {to ti te : TED} {op : Operator} {r : R2D} {tpos pos : Pos} (ho : PED X o to) (hi : PED X i ti) (he : PED X e te) (hp : OpD X (inplaceOp op) r)
    (ha : ∀ ov iv new, augStore i ov iv new = (do holding [new, ov, iv] (setItem ov iv new); release [new, ov, iv] []; pure .next) := by intros; rfl) : PSD X (.AugAssign (.Subscript o i tpos) op e pos) (dAugS to ti te r) := by
  refine ⟨fun pins s σ H D I h => ?_⟩
  obtain ⟨σD, M, E, hS, hM, q, w1, _⟩ := h
  refine wpAny_AugAssign_SubscriptAny (thn (ho.run pins s σ H _ I ⟨σD, M, _, hS, hM, q, fun o' M1 ov H1 q1 e1 h1 r1 => (⟨o', M1, q1, e1, h1, r1⟩ : ∃ o' M1, ti σD M1 (fun i M2 => ∃ p k ds x, o' = .ref p ∧ i = .int k ∧ M2 p = some (.lst ds) ∧ atI ds k = some x ∧
    te σD M2 fun y M3 => r x y M3 fun z M4 => ∃ es j, M4 p = some (.lst es) ∧ ixN es.length k = some j ∧ E.nx σD (updD M4 p (.lst (es.set j z)))) ∧ Ext M H M1 H1 ∧ Held X.K M1 H1 ∧ Rep X.K H1 M1 o' ov)⟩) fun ov s1 ⟨x1, H1, I1, r1, o', M1, q1, e1, h1, rd1⟩ => ?_) ha
  refine thn (hi.run pins s1 σ H1 _ I1 ⟨σD, M1, _, hS.ext e1, h1, q1, fun i' M2 iv H2 q2 e2 h2 r2 => (⟨i', M2, q2, e2, h2, r2⟩ : ∃ i' M2, (∃ p k ds x, o' = .ref p ∧ i' = .int k ∧ M2 p = some (.lst ds) ∧ atI ds k = some x ∧
    te σD M2 fun y M3 => r x y M3 fun z M4 => ∃ es j, M4 p = some (.lst es) ∧ ixN es.length k = some j ∧ E.nx σD (updD M4 p (.lst (es.set j z)))) ∧ Ext M1 H1 M2 H2 ∧ Held X.K M2 H2 ∧ Rep X.K H2 M2 i' iv)⟩) fun iv s2 ⟨x2, H2, I2, r2, i', M2, q2, e2, h2, rd2⟩ => ?_
  obtain ⟨p, k, ds, x, rfl, rfl, hp1, hx, q2⟩ := q2
  obtain rfl := rep_ref.mp rd1
  obtain rfl := rep_int.mp rd2
  cases (show ov = Value.ref p from r1)
  obtain ⟨t, rfl⟩ := (show ∃ t, iv = Value.int k t from r2)
  obtain ⟨hob, k1, us, rfl, k2⟩ := h2 p _ hp1
  obtain ⟨xv, hxv, rx⟩ := atI_rep k2 hx
  refine get_list I2 (.of k1) hxv fun old ro => ?_
  refine thn (he.run pins s2 σ H2 _ I2 ⟨σD, M2, _, (hS.ext e1).ext e2, h2, q2, fun y M3 yv H3 q3 e3 h3 r3 => (⟨y, M3, q3, e3, h3, r3⟩ : ∃ y M3, (r x y M3 fun z M4 => ∃ es j, M4 p = some (.lst es) ∧ ixN es.length k = some j ∧ E.nx σD (updD M4 p (.lst (es.set j z)))) ∧ Ext M2 H2 M3 H3 ∧ Held X.K M3 H3 ∧ Rep X.K H3 M3 y yv)⟩) fun v s3 ⟨x3, H3, I3, r3, y, M3, q3, e3, h3, rd3⟩ => ?_
  refine thn (hp pins s3 σ H3 xv x3 old v _ I3 ro r3 ⟨x, y, M3, _, h3, rx.ext e3, rd3, q3, fun z M4 zv H4 q4 e4 h4 r4 => (⟨z, M4, q4, e4, h4, r4⟩ : ∃ z M4, (∃ es j, M4 p = some (.lst es) ∧ ixN es.length k = some j ∧ E.nx σD (updD M4 p (.lst (es.set j z)))) ∧ Ext M3 H3 M4 H4 ∧ Held X.K M4 H4 ∧ Rep X.K H4 M4 z zv)⟩) fun new s4 ⟨x4, H4, I4, r4, z, M4, q4, e4, h4, rd4⟩ => ?_
  obtain ⟨es, j, hp4, hj, q4⟩ := q4
  have e14 : Ext M H M4 H4 := ((e1.trans e2).trans e3).trans e4
  exact thn (set_lst (X := X) pins s4 σ H4 (V.ref p) (V.int k) _ _ _ _ (fun H' => D.nx σ H') I4 rfl ⟨t, rfl⟩ r4 ⟨.ref p, .int k, z, M4, _, h4, rep_ref.mpr rfl, rep_int.mpr rfl, rd4, ⟨p, es, k, j, rfl, rfl, hp4, hj, rfl⟩, fun M' H' eM e5 h5 => by
    subst eM
    exact w1 σD _ σ H' q4 (e14.trans e5) h5 (hS.ext (e14.trans e5))⟩) fun _ s6 ⟨H6, I6, q6⟩ => ⟨σ, H6, I6, q6⟩
end

/-! ### dicts with int and text keys -/
def keyD : D → Option Key
  | .int i => some (.inl i)
  | .str x => some (.inr x)
  | _ => none
def kD : Key → D
  | .inl i => .int i
  | .inr x => .str x
theorem key_rep {K : PySem.W.Frag} {H : Hp} {M : HpD} {d : D} {k : Key} {v : V} (h : keyD d = some k) (r : Rep K H M d v) : v = kV k := by
  cases d <;> first | (cases h; simp only [Rep] at r; rw [r]; rfl) | cases h
def getK {κ α : Type} [DecidableEq κ] (kvs : List (κ × α)) (k : κ) : Option α := (kvs.find? fun kv => decide (kv.1 = k)).map (·.2)
def setK {κ α : Type} [DecidableEq κ] (kvs : List (κ × α)) (k : κ) (v : α) : List (κ × α) :=
  if (kvs.any fun kv => decide (kv.1 = k)) = true then kvs.map (fun kv => if kv.1 = k then (kv.1, v) else kv) else kvs ++ [(k, v)]
section
variable {K : PySem.W.Frag} {H : Hp} {M : HpD}
theorem getK_some {kvs : List (Key × D)} {ws : List (Key × V)} {k : Key} {d : D} (r : Paired (PairR K H M) kvs ws) (h : getK kvs k = some d) : ∃ v, valV ws k = some v ∧ Rep K H M d v := by
  induction r with
  | nil => cases h
  | @cons p q ps qs h1 h2 ih =>
    by_cases e : p.1 = k
    · have : getK (p :: ps) k = some p.2 := by simp [getK, List.find?_cons, e]
      rw [this] at h; cases h
      exact ⟨q.2, valV_pos (h1.1.symm.trans e), h1.2⟩
    · have : getK (p :: ps) k = getK ps k := by simp [getK, List.find?_cons, e]
      rw [this] at h
      obtain ⟨v, e1, e2⟩ := ih h
      exact ⟨v, by rw [valV_neg (fun z => e (h1.1.trans z))]; exact e1, e2⟩
theorem getK_none {kvs : List (Key × D)} {ws : List (Key × V)} {k : Key} (r : Paired (PairR K H M) kvs ws) (h : getK kvs k = none) : valV ws k = none := by
  induction r with
  | nil => rfl
  | @cons p q ps qs h1 h2 ih =>
    by_cases e : p.1 = k
    · have : getK (p :: ps) k = some p.2 := by simp [getK, List.find?_cons, e]
      rw [this] at h; cases h
    · have : getK (p :: ps) k = getK ps k := by simp [getK, List.find?_cons, e]
      rw [this] at h
      rw [valV_neg (fun z => e (h1.1.trans z))]
      exact ih h
theorem pair_any {kvs : List (Key × D)} {ws : List (Key × V)} (k : Key) (r : Paired (PairR K H M) kvs ws) : (ws.any fun kv => decide (kv.1 = k)) = kvs.any fun kv => decide (kv.1 = k) := by
  induction r with
  | nil => rfl
  | @cons p q ps qs h1 h2 ih => rw [List.any_cons, List.any_cons, ih, h1.1]
theorem pair_app {xs ys : List (Key × D)} {us ws : List (Key × V)} (r : Paired (PairR K H M) xs us) (s : Paired (PairR K H M) ys ws) : Paired (PairR K H M) (xs ++ ys) (us ++ ws) := by
  induction r with
  | nil => exact s
  | cons h1 h2 ih => exact .cons h1 ih
theorem pair_put {kvs : List (Key × D)} {ws : List (Key × V)} (k : Key) {d : D} {v : V} (r : Paired (PairR K H M) kvs ws) (rd : Rep K H M d v) : Paired (PairR K H M) (setK kvs k d) (putK ws k v) := by
  unfold setK putK
  rw [pair_any k r]
  by_cases e : (kvs.any fun kv => decide (kv.1 = k)) = true
  · rw [if_pos e, if_pos e]
    clear e
    induction r with
    | nil => exact .nil
    | @cons p q ps qs h1 h2 ih =>
      rw [List.map_cons, List.map_cons]
      refine .cons ?_ ih
      by_cases z : p.1 = k
      · rw [if_pos z, if_pos (h1.1.symm.trans z)]
        exact ⟨h1.1, rd⟩
      · rw [if_neg z, if_neg (fun y => z (h1.1.trans y))]
        exact h1
  · rw [if_neg e, if_neg e]
    exact pair_app r (.cons ⟨rfl, rd⟩ .nil)
theorem pair_len {kvs : List (Key × D)} {ws : List (Key × V)} (r : Paired (PairR K H M) kvs ws) : ws.length = kvs.length := (Paired.length r).symm
theorem pair_keys {kvs : List (Key × D)} {ws : List (Key × V)} (r : Paired (PairR K H M) kvs ws) : ws.map (·.1) = kvs.map (·.1) := by
  induction r with
  | nil => rfl
  | cons h1 h2 ih => rw [List.map_cons, List.map_cons, ih, h1.1]
end
section
variable {X : Cx} {o i e f value : Expr} {td ty tx tv : TED} {pos pos' apos cpos : Pos}
/-- {} -/
def dDNew : TED := fun _ M Q => ∀ p, M p = none → Q (.ref p) (updD M p (.dK []))
theorem d_dnew : PED X (.Dict [] [] pos) dDNew := PE.weak pe_dnewK fun σ H Q ⟨σD, M, QD, hS, hM, q, w⟩ => fun p n =>
  w _ _ _ _ (q p (hM.free n)) (ext_upd (.inr n)) (hM.upd' (u := .dK []) (.inr n) ⟨[], rfl, .nil⟩) (rep_ref.mpr rfl)
/-- d[k] -/
def dDGet (td ty : TED) : TED := fun σ M Q => td σ M fun x M1 => ty σ M1 fun y M2 => ∃ a kvs k v, x = .ref a ∧ M2 a = some (.dK kvs) ∧ keyD y = some k ∧ getK kvs k = some v ∧ Q v M2
theorem d_dget (hu : X.A.units + 1 < cLine) (ho : PED X o td) (hi : PED X i ty) (hs : NoSl i := by exact fun _ _ => rfl) : PED X (.Subscript o i pos) (dDGet td ty) :=
  PE.weak (pe_dget hu ho hi hs) fun σ H Q ⟨σD, M, QD, hS, hM, q, w⟩ => ⟨σD, M, _, hS, hM, q, fun x M1 v1 H1 q1 e1 h1 r1 => ⟨σD, M1, _, hS.ext e1, h1, q1, fun y M2 v2 H2 q2 e2 h2 r2 => by
    obtain ⟨a, kvs, k, v, rfl, hk, ek, hg, q⟩ := q2
    obtain rfl := rep_ref.mp r1
    obtain ⟨ho, g1, ws, rfl, g2⟩ := h2 a _ hk
    obtain ⟨u, hu, ru⟩ := getK_some g2 hg
    refine ⟨a, u, rfl, ?_, w v M2 u H2 q (e1.trans e2) h2 ru⟩
    rw [key_rep ek r2, ← hu]
    exact DGet.k g1⟩⟩
/-- d.get(k, x) -/
def dDGet2 (td ty tx : TED) : TED := fun σ M Q => td σ M fun x M1 => (∃ a kvs, x = .ref a ∧ M1 a = some (.dK kvs)) ∧ ty σ M1 fun y M2 => tx σ M2 fun z M3 => ∃ a kvs k, x = .ref a ∧ M3 a = some (.dK kvs) ∧ keyD y = some k ∧ Q ((getK kvs k).getD z) M3
theorem d_dget2 (hu : X.A.units + 1 < cLine) (m : M2 X o "get" apos e f cpos) (ho : PED X o td) (he : PED X e ty) (hf : PED X f tx) : PED X (.Call (.Attribute o "get" apos) [e, f] [] cpos) (dDGet2 td ty tx) :=
  PE.weak (pe_dget2 hu ho he hf m) fun σ H Q ⟨σD, M, QD, hS, hM, q, w⟩ => ⟨σD, M, _, hS, hM, q, fun x M1 v1 H1 ⟨⟨a0, kvs0, ea0, ma0⟩, q1⟩ e1 h1 r1 => by
    subst ea0
    obtain rfl := rep_ref.mp r1
    obtain ⟨ho0, g10, ws0, rfl, g20⟩ := h1 a0 _ ma0
    refine ⟨a0, rfl, .inl ⟨ws0, .of g10⟩, σD, M1, _, hS.ext e1, h1, q1, fun y M2 v2 H2 q2 e2 h2 r2 => ⟨σD, M2, _, (hS.ext e1).ext e2, h2, q2, fun z M3 v3 H3 q3 e3 h3 r3 => ?_⟩⟩
    obtain ⟨a, kvs, k, ea, hk, ek, q⟩ := q3
    cases ea
    obtain ⟨ho, g1, ws, rfl, g2⟩ := h3 a0 _ hk
    have e13 := (e1.trans e2).trans e3
    refine ⟨valV ws k, ?_, ?_⟩
    · rw [key_rep ek r2]
      exact DGet.k g1
    · cases hg : getK kvs k with
      | none =>
        rw [getK_none g2 hg]
        rw [hg] at q
        exact w z M3 v3 H3 q e13 h3 r3
      | some d =>
        obtain ⟨u, hu, ru⟩ := getK_some g2 hg
        rw [hu]
        rw [hg] at q
        exact w d M3 u H3 q e13 h3 ru⟩
/-- d[k] = v -/
def dDPut (td ty tv : TED) : TSD := fun E σ M => tv σ M fun v M1 => td σ M1 fun x M2 => ty σ M2 fun y M3 => ∃ a kvs k, x = .ref a ∧ M3 a = some (.dK kvs) ∧ keyD y = some k ∧ kvs.length < 1000000 ∧ E.nx σ (updD M3 a (.dK (setK kvs k v)))
theorem s_dput (hu : X.A.units + 1 < cLine) (ho : PED X o td) (hi : PED X i ty) (hv : PED X value tv) (hs : swapsWith value (some (.Subscript o i pos')) pos.line X.env = pure false := by rfl) : PSD X (.Assign [.Subscript o i pos'] value pos) (dDPut td ty tv) :=
  PS.weak (ps_dput hu ho hi hv hs) fun D σ H ⟨σD, M, E, hS, hM, q, w1, _⟩ => ⟨σD, M, _, hS, hM, q, fun v M1 v1 H1 q1 e1 h1 r1 => ⟨σD, M1, _, hS.ext e1, h1, q1, fun x M2 v2 H2 q2 e2 h2 r2 => ⟨σD, M2, _, (hS.ext e1).ext e2, h2, q2, fun y M3 v3 H3 q3 e3 h3 r3 => by
    obtain ⟨a, kvs, k, rfl, hk, ek, hl, q⟩ := q3
    obtain rfl := rep_ref.mp r2
    obtain ⟨ho, g1, ws, rfl, g2⟩ := h3 a _ hk
    have x := ext_upd (H := H3) (M := M3) (p := a) (o := .dK (putK ws k v1)) (u := .dK (setK kvs k v)) (.inl (ne_of_some hk))
    have e13 := (e1.trans e2).trans e3
    refine ⟨a, upd H3 a (.dK (putK ws k v1)), rfl, ?_, w1 σD _ σ _ q (e13.trans x) (h3.upd' (u := .dK (setK kvs k v)) (.inl (ne_of_some hk)) ⟨_, rfl, Paired.map' (pair_put k g2 ((r1.ext e2).ext e3)) fun _ _ z => ⟨z.1, z.2.ext x⟩⟩) (hS.ext (e13.trans x))⟩
    rw [key_rep ek r3]
    exact DPut.k g1 (by rw [pair_len g2]; exact Nat.lt_of_lt_of_le hl (by decide))⟩⟩⟩
/-- k in d, k not in d -/
def dDIn (b : Bool) (ty td : TED) : TED := fun σ M Q => ty σ M fun y M1 => td σ M1 fun x M2 => ∃ a kvs k, x = .ref a ∧ M2 a = some (.dK kvs) ∧ keyD y = some k ∧ Q (.bl (if b = true then (getK kvs k).isSome else !(getK kvs k).isSome)) M2
theorem val_isSome {K : PySem.W.Frag} {H : Hp} {M : HpD} {kvs : List (Key × D)} {ws : List (Key × V)} {k : Key} (g2 : Paired (PairR K H M) kvs ws) : (valV ws k).isSome = (getK kvs k).isSome := by
  cases hg : getK kvs k with
  | none => rw [getK_none g2 hg]; rfl
  | some d => obtain ⟨u, hu, _⟩ := getK_some g2 hg; rw [hu]; rfl
theorem d_din (hu : X.A.units + 1 < cLine) (hi : PED X i ty) (ho : PED X o td) (h1 : behindInMarks .In o = false := by rfl) : PED X (.Compare i [.In] [o] pos) (dDIn true ty td) :=
  PE.weak (pe_cmp (pc_din hu hi ho) h1) fun σ H Q ⟨σD, M, QD, hS, hM, q, w⟩ => ⟨σD, M, _, hS, hM, q, fun y M1 v1 H1 q1 e1 h1 r1 => ⟨σD, M1, _, hS.ext e1, h1, q1, fun x M2 v2 H2 q2 e2 h2 r2 => by
    obtain ⟨a, kvs, k, rfl, hk, ek, q⟩ := q2
    obtain rfl := rep_ref.mp r2
    obtain ⟨ho, g1, ws, rfl, g2⟩ := h2 a _ hk
    refine ⟨a, valV ws k, rfl, ?_, w _ M2 _ H2 q (e1.trans e2) h2 (rep_bl.mpr (by rw [val_isSome g2]; rfl))⟩
    rw [key_rep ek (r1.ext e2)]
    exact DGet.k g1⟩⟩
theorem d_dnotin (hu : X.A.units + 1 < cLine) (hi : PED X i ty) (ho : PED X o td) (h1 : behindInMarks .NotIn o = false := by rfl) : PED X (.Compare i [.NotIn] [o] pos) (dDIn false ty td) :=
  PE.weak (pe_cmp (pc_dnotin hu hi ho) h1) fun σ H Q ⟨σD, M, QD, hS, hM, q, w⟩ => ⟨σD, M, _, hS, hM, q, fun y M1 v1 H1 q1 e1 h1 r1 => ⟨σD, M1, _, hS.ext e1, h1, q1, fun x M2 v2 H2 q2 e2 h2 r2 => by
    obtain ⟨a, kvs, k, rfl, hk, ek, q⟩ := q2
    obtain rfl := rep_ref.mp r2
    obtain ⟨ho, g1, ws, rfl, g2⟩ := h2 a _ hk
    refine ⟨a, valV ws k, rfl, ?_, w _ M2 _ H2 q (e1.trans e2) h2 (rep_bl.mpr (by rw [val_isSome g2]; rfl))⟩
    rw [key_rep ek (r1.ext e2)]
    exact DGet.k g1⟩⟩
/-- sorted(d), int keys, text keys -/
theorem c_sortedDI (hc : X.calm = true) : CallD X (.builtin "sorted") (fun ds M Q => ∃ (a : Addr) (kvs : List (Key × D)) (ks : List Int), ds = [.ref a] ∧ M a = some (.dK kvs) ∧ kvs.map (·.1) = ks.map Sum.inl ∧ ks.length < 64 ∧
    ∀ ys : List Int, ys.Perm ks → ys.Pairwise (· ≤ ·) → Q (.lst (ys.map D.int)) M) := CallR.weak (call_sortedDI hc) fun vs H Q ⟨ds, M, QD, r, hM, ⟨a, kvs, ks, e, h, hk, hl, q⟩, w⟩ => by
  subst e
  obtain ⟨v, rfl, h1⟩ := reps1 r
  obtain rfl := rep_ref.mp h1
  obtain ⟨ho, g1, ws, rfl, g2⟩ := hM a _ h
  exact ⟨a, ws, ks, rfl, .of g1, by rw [pair_keys g2, hk], hl, fun ys p h1 h2 n => lst_new w hM (Reps.ints ys) n (q ys h1 h2)⟩
theorem c_sortedDS (hc : X.calm = true) : CallD X (.builtin "sorted") (fun ds M Q => ∃ (a : Addr) (kvs : List (Key × D)) (ks : List Str), ds = [.ref a] ∧ M a = some (.dK kvs) ∧ kvs.map (·.1) = ks.map Sum.inr ∧ ks.length < 64 ∧
    ∀ ys : List Str, ys.Perm ks → PyProof.Rows.sortedS ys = true → Q (.lst (ys.map D.str)) M) := CallR.weak (call_sortedD hc) fun vs H Q ⟨ds, M, QD, r, hM, ⟨a, kvs, ks, e, h, hk, hl, q⟩, w⟩ => by
  subst e
  obtain ⟨v, rfl, h1⟩ := reps1 r
  obtain rfl := rep_ref.mp h1
  obtain ⟨ho, g1, ws, rfl, g2⟩ := hM a _ h
  exact ⟨a, ws, ks, rfl, .of g1, by rw [pair_keys g2, hk], hl, fun ys p h1 h2 n => lst_new w hM (Reps.strs ys) n (q ys h1 h2)⟩
end

/-! ### == of data -/
mutual
def toPy : D → PyData
  | .non => .none
  | .bl b => .bool b
  | .int i => .int i
  | .str x => .str x
  | .tup ds => .tuple (toPys ds)
  | .lst ds => .list (toPys ds)
  | .scr ns => .list (ns.map .int)
  | _ => .dict []
def toPys : List D → List PyData
  | [] => []
  | d :: ds => toPy d :: toPys ds
end
mutual
theorem dp_of {K : PySem.W.Frag} {H : Hp} {M : HpD} : ∀ {d : D} {v : V}, (toPy d).plain = true → Rep K H M d v → Dp K H v (toPy d)
  | .non, _, _, r => by rw [rep_non.mp r]; exact .non
  | .bl _, _, _, r => by rw [rep_bl.mp r]; exact .bl _
  | .int _, _, _, r => by rw [rep_int.mp r]; exact .int _
  | .str _, _, _, r => by rw [rep_str.mp r]; exact .str _
  | .ty _, _, h, _ => by cases h
  | .ref _, _, h, _ => by cases h
  | .scr ns, _, h, r => by
    obtain ⟨a, rfl, h1⟩ := rep_scr.mp r
    refine .lst (xs := ns.map V.int) h1.sq ?_
    clear h r h1
    induction ns with
    | nil => exact .nil
    | cons n ns ih => exact .cons (.int n) ih
  | .tup ds, _, h, r => by
    obtain ⟨a, vs, rfl, h1, h2⟩ := rep_tup.mp r
    exact .tup h1.sq (dps_of (by simpa [toPy, PyData.plain] using h) h2)
  | .lst ds, _, h, r => by
    obtain ⟨a, vs, rfl, h1, _, h2⟩ := rep_lst.mp r
    exact .lst (.of h1) (dps_of (by simpa [toPy, PyData.plain] using h) h2)
theorem dps_of {K : PySem.W.Frag} {H : Hp} {M : HpD} : ∀ {ds : List D} {vs : List V}, PyData.plainAll (toPys ds) = true → Reps K H M ds vs → DpAll K H vs (toPys ds)
  | [], _, _, r => by obtain rfl := reps_nil.mp r; exact .nil
  | d :: ds, _, h, r => by
    obtain ⟨v, vs, rfl, r1, r2⟩ := reps_cons.mp r
    have h' : (toPy d).plain = true ∧ PyData.plainAll (toPys ds) = true := by simpa [toPys, PyData.plainAll] using h
    exact .cons (dp_of h'.1 r1) (dps_of h'.2 r2)
end
structure EqOk (x y : D) : Prop where
  px : (toPy x).plain = true
  py : (toPy y).plain = true
  dp : min (toPy x).depth (toPy y).depth ≤ 100
def eqD (x y : D) : Bool := PyData.eqv (toPy x) (toPy y)
theorem eqD_refl {x : D} (h : (toPy x).plain = true) : eqD x x = true := SeqAt.eqv_refl_plain _ h
section
variable {X : Cx}
def rEqV (K : PySem.W.Frag) : R2 := fun x y H Q => ∃ d e, Dp K H x d ∧ Dp K H y e ∧ d.plain = true ∧ e.plain = true ∧ min d.depth e.depth ≤ 100 ∧ Q (.bl (PyData.eqv d e)) H
theorem op_eqV (hu : X.A.units + 100 < cLine) : OpR X (compareOp .Eq) (rEqV X.K) := by
  intro pins s σ H x y v u Q I rx ry h
  obtain ⟨d, e, hd, he, sd, se, hz, q⟩ := h
  obtain ⟨as, r1⟩ := Dp.reads I d x v hd rx
  obtain ⟨bs, r2⟩ := Dp.reads I e y u he ry
  exact SeqAt.eq_plain r1 r2 sd se (by omega) ⟨.bl _, H, I, rfl, q⟩
theorem o_eqD (hu : X.A.units + 100 < cLine) : OpD X (compareOp .Eq) (fun x y M Q => EqOk x y ∧ Q (.bl (eqD x y)) M) := OpR.weak (op_eqV hu) fun x y H Q ⟨d1, d2, M, QD, hM, r1, r2, ⟨ok, q⟩, w⟩ =>
  ⟨toPy d1, toPy d2, dp_of ok.px r1, dp_of ok.py r2, ok.px, ok.py, ok.dp, WKr w hM (rep_bl.mpr rfl) q⟩
end
end DL

namespace DL
open PySem PySem.Spec L2

/-! ### names for readings -/
def rAdd' : R2D := rI20 fun i j => .int (i + j)
def rSub' : R2D := rI20 fun i j => .int (i - j)
def rMul' : R2D := rI2 MulOk fun i j => .int (i * j)
def rDiv' : R2D := rI2 DivOk fun i j => .int (i / j)
def rMod' : R2D := rI2 (fun _ j => 0 < j) fun i j => .int (i % j)
def rPow' : R2D := rI2 CPow fun i j => .int (i ^ j.toNat)
def rShl' : R2D := rI2 CPow fun i j => .int (i * 2 ^ j.toNat)
def rLt' : R2D := rI20 fun i j => .bl (decide (i < j))
def rLe' : R2D := rI20 fun i j => .bl (decide (i ≤ j))
def rGt' : R2D := rI20 fun i j => .bl (decide (j < i))
def rGe' : R2D := rI20 fun i j => .bl (decide (j ≤ i))
def rIs' : R2D := fun x y M Q => y = .non ∧ Q (.bl (isN x)) M
def rIsnot' : R2D := fun x y M Q => y = .non ∧ Q (.bl (!isN x)) M
def rCatT' : R2D := fun x y M Q => ∃ xs ys, x = .tup xs ∧ y = .tup ys ∧ xs ≠ [] ∧ xs.length + ys.length ≤ 1000000 ∧ Q (.tup (xs ++ ys)) M
def rEqD' : R2D := fun x y M Q => EqOk x y ∧ Q (.bl (eqD x y)) M
def rNeg' : D → HpD → VKD → Prop := fun x M Q => ∃ i, x = .int i ∧ Q (.int (-i)) M
abbrev RC := List D → HpD → VKD → Prop
def cLen' : RC := fun ds M Q => ∃ x xs, ds = [x] ∧ itemsD M x = some xs ∧ Q (.int xs.length) M
def cLenS' : RC := fun ds M Q => ∃ z, ds = [.str z] ∧ z.length ≤ 1000000 ∧ Q (.int z.length) M
def cInti' : RC := fun ds M Q => ∃ i, ds = [.int i] ∧ Q (.int i) M
def cIntb' : RC := fun ds M Q => ∃ k, ds = [.bl k] ∧ Q (.int (if k = true then 1 else 0)) M
def cAbs' : RC := fun ds M Q => ∃ i, ds = [.int i] ∧ Q (.int (if i < 0 then -i else i)) M
def cMin' : RC := fun ds M Q => ∃ i j, ds = [.int i, .int j] ∧ Q (.int (if j < i then j else i)) M
def cMax' : RC := fun ds M Q => ∃ i j, ds = [.int i, .int j] ∧ Q (.int (if j > i then j else i)) M
def cTuple' : RC := fun ds M Q => ∃ x xs, ds = [x] ∧ itemsD M x = some xs ∧ Q (.tup xs) M
def cListF' : RC := fun ds M Q => ∃ x xs, ds = [x] ∧ itemsD M x = some xs ∧ Q (.lst xs) M
def cListM' : RC := fun ds M Q => ∃ x xs, ds = [x] ∧ itemsD M x = some xs ∧ ∀ p, M p = none → Q (.ref p) (updD M p (.lst xs))
def cAll' : RC := fun ds M Q => ∃ (x : D) (bs : List Bool), ds = [x] ∧ isTup x = false ∧ itemsD M x = some (bs.map .bl) ∧ Q (.bl (bs.all id)) M
def cAny' : RC := fun ds M Q => ∃ (x : D) (bs : List Bool), ds = [x] ∧ isTup x = false ∧ itemsD M x = some (bs.map .bl) ∧ Q (.bl (bs.any id)) M
def cGcd' : RC := fun ds M Q => ∃ i j, ds = [.int i, .int j] ∧ Q (.int ((Nat.gcd i.natAbs j.natAbs : Nat) : Int)) M
/-- isinstance of a built-in class; the library's table at these kinds -/
def cIsi' : RC := fun ds M Q => ∃ x T n, ds = [x, .ty T] ∧ kindD M x = some n ∧ Q (.bl (isiB n T)) M
def cSortDI' : RC := fun ds M Q => ∃ (a : Addr) (kvs : List (Key × D)) (ks : List Int), ds = [.ref a] ∧ M a = some (.dK kvs) ∧ kvs.map (·.1) = ks.map Sum.inl ∧ ks.length < 64 ∧ ∀ ys : List Int, ys.Perm ks → ys.Pairwise (· ≤ ·) → Q (.lst (ys.map D.int)) M
def cSortDS' : RC := fun ds M Q => ∃ (a : Addr) (kvs : List (Key × D)) (ks : List Str), ds = [.ref a] ∧ M a = some (.dK kvs) ∧ kvs.map (·.1) = ks.map Sum.inr ∧ ks.length < 64 ∧ ∀ ys : List Str, ys.Perm ks → PyProof.Rows.sortedS ys = true → Q (.lst (ys.map D.str)) M
def mAppend' : MtD := fun x xs M Q => ∃ p ds y, x = .ref p ∧ xs = [y] ∧ M p = some (.lst ds) ∧ ds.length < 1000000 ∧ Q .non (updD M p (.lst (ds ++ [y])))
def mExtend' : MtD := fun x xs M Q => ∃ p ds y es, x = .ref p ∧ xs = [y] ∧ M p = some (.lst ds) ∧ itemsD M y = some es ∧ isTup y = false ∧ notScr y = true ∧ ds.length + es.length ≤ 1000000 ∧ Q .non (updD M p (.lst (ds ++ es)))
def mPop' : MtD := fun x xs M Q => ∃ p ds y, x = .ref p ∧ xs = [] ∧ M p = some (.lst ds) ∧ ds[ds.length - 1]? = some y ∧ Q y (updD M p (.lst ds.dropLast))
def mPopAt' : MtD := fun x xs M Q => ∃ p ds i k y, x = .ref p ∧ xs = [.int i] ∧ M p = some (.lst ds) ∧ -(2 ^ 63) ≤ i ∧ i < 2 ^ 63 ∧ seqIndex? i ds.length = some k ∧ ds[k]? = some y ∧ Q y (updD M p (.lst (ds.eraseIdx k)))
def slListF' : SlD := fun x lo hi M Q => ∃ ds, itemsD M x = some ds ∧ isTup x = false ∧ Q (.lst (cutD ds lo hi)) M
def slListM' : SlD := fun x lo hi M Q => ∃ ds, itemsD M x = some ds ∧ isTup x = false ∧ ∀ p, M p = none → Q (.ref p) (updD M p (.lst (cutD ds lo hi)))
def slTup' : SlD := fun x lo hi M Q => ∃ ds, x = .tup ds ∧ ¬ (HT.sIx ds.length 0 lo = 0 ∧ HT.sIx ds.length ds.length hi = ds.length) ∧ Q (.tup (cutD ds lo hi)) M
section
variable {X : Cx}
theorem O_add : OpD X (binaryOp .Add) rAdd' := o_add
theorem O_sub : OpD X (binaryOp .Sub) rSub' := o_sub
theorem O_mul : OpD X (binaryOp .Mult) rMul' := o_mul
theorem O_div : OpD X (binaryOp .FloorDiv) rDiv' := o_fdiv
theorem O_mod : OpD X (binaryOp .Mod) rMod' := o_mod
theorem O_pow : OpD X (binaryOp .Pow) rPow' := o_pow
theorem O_shl : OpD X (binaryOp .LShift) rShl' := o_shl
theorem O_lt : OpD X (compareOp .Lt) rLt' := o_lt
theorem O_le : OpD X (compareOp .LtE) rLe' := o_le
theorem O_gt : OpD X (compareOp .Gt) rGt' := o_gt
theorem O_ge : OpD X (compareOp .GtE) rGe' := o_ge
theorem O_is : OpD X (compareOp .Is) rIs' := o_is
theorem O_isnot : OpD X (compareOp .IsNot) rIsnot' := o_isnot
theorem O_catT : OpD X (binaryOp .Add) rCatT' := o_catT
theorem O_eqD (hu : X.A.units + 100 < cLine) : OpD X (compareOp .Eq) rEqD' := o_eqD hu
theorem O_neg : UnR X (unaryOp .USub) (liftU X.K rNeg') := o_neg
theorem I_add : OpD X (inplaceOp .Add) rAdd' := i_add
theorem I_sub : OpD X (inplaceOp .Sub) rSub' := i_sub
theorem C_len : CallD X (.builtin "len") cLen' := c_len
theorem C_lenS : CallD X (.builtin "len") cLenS' := c_len_str
theorem C_inti : CallD X (.type "int") cInti' := c_inti
theorem C_intb : CallD X (.type "int") cIntb' := c_intb
theorem C_abs : CallD X (.builtin "abs") cAbs' := c_abs
theorem C_min (hc : X.calm = true) : CallD X (.builtin "min") cMin' := c_min2 hc
theorem C_max (hc : X.calm = true) : CallD X (.builtin "max") cMax' := c_max2 hc
theorem C_tuple : CallD X (.type "tuple") cTuple' := c_tuple
theorem C_listF : CallD X (.type "list") cListF' := c_listF
theorem C_listM : CallD X (.type "list") cListM' := c_listM
theorem C_all (hc : X.calm = true) : CallD X (.builtin "all") cAll' := c_all hc
theorem C_any (hc : X.calm = true) : CallD X (.builtin "any") cAny' := c_any hc
theorem C_gcd : CallD X (.builtin "math.gcd") cGcd' := c_gcd
theorem C_sortDI (hc : X.calm = true) : CallD X (.builtin "sorted") cSortDI' := c_sortedDI hc
theorem C_sortDS (hc : X.calm = true) : CallD X (.builtin "sorted") cSortDS' := c_sortedDS hc
theorem M_append : MtR X "list.append" (liftM X.K mAppend') := m_append
theorem M_extend : MtR X "list.extend" (liftM X.K mExtend') := m_extend
theorem M_pop : MtR X "list.pop" (liftM X.K mPop') := m_pop
theorem M_popAt : MtR X "list.pop" (liftM X.K mPopAt') := m_popAt
theorem Sl_listF : SlR X (liftSl X.K slListF') := slf_list
theorem Sl_listM : SlR X (liftSl X.K slListM') := slm_list
theorem Sl_tup : SlR X (liftSl X.K slTup') := slf_tup
theorem isi_ok (K : PySem.W.Frag) {M : HpD} {x : D} {n : String} (h : kindD M x = some n) {T : String} (hT : T = "int" ∨ T = "bool" ∨ T = "str" ∨ T = "tuple" ∨ T = "list") : IsiOk K n T := by
  have hn : n = "NoneType" ∨ n = "bool" ∨ n = "int" ∨ n = "str" ∨ n = "tuple" ∨ n = "list" ∨ n = "dict" := by
    cases x with
    | ref a =>
      have h : (match M a with | some (.lst _) => some "list" | some (.dK _) => some "dict" | some (.dT _) => some "dict" | _ => none) = some n := h
      cases e : M a with
      | none => rw [e] at h; cases h
      | some o => rw [e] at h; cases o <;> cases h <;> simp
    | _ => cases h <;> simp
  unfold IsiOk
  rcases hn with rfl | rfl | rfl | rfl | rfl | rfl | rfl <;> rcases hT with rfl | rfl | rfl | rfl | rfl <;> exact kit_ty (by decide +kernel)
def cIsiT' (T : String) : RC := fun ds M Q => ∃ x n, ds = [x, .ty T] ∧ kindD M x = some n ∧ Q (.bl (isiB n T)) M
theorem C_isi (T : String) (hT : T = "int" ∨ T = "bool" ∨ T = "str" ∨ T = "tuple" ∨ T = "list" := by simp) : CallD X (.builtin "isinstance") (cIsiT' T) := CallR.weak c_isi fun vs H Q ⟨ds, M, QD, r, hM, ⟨x, n, e, h, q⟩, w⟩ =>
  ⟨ds, M, QD, r, hM, ⟨x, T, n, e, h, isi_ok X.K h hT, q⟩, w⟩
end

/-! ### callees -/
/-- a def of the module that keeps its promise -/
structure Callee (P : Program) (w : World) (K : PySem.W.Frag) (mg : Str → Option Value) (base : Heap) (k : Nat) (x : Str) (ps : List Str) (sp : SpD) : Prop where
  ex : ∃ f fd, FnOk P w K mg base CX0 k f fd ps (liftSp K sp) ∧ mg x = some (.ref f) ∧ PySem.W.keepIn K (.ref f) = true ∧ Binds K fd ps []
/-- a def of the module as it stands -/
structure Stands (K : PySem.W.Frag) (mg : Str → Option Value) (x : Str) (st : Stmt) : Prop where
  ex : ∃ f fd, FunD K x x (defArgs st) (defBody st) (defScope st) [] [] f fd ∧ mg x = some (.ref f)
section
variable {P : Program} {w : World} {K : PySem.W.Frag} {mg : Str → Option Value} {base : Heap}
theorem Stands.ok {x : Str} {st : Stmt} {N ps : List Str} {k : Nat} {sp : SpD} (F : Stands K mg x st) (S : FnScope N ps (defScope st)) (len : ∀ ds M Q, sp ds M Q → ds.length = ps.length)
    (hb : ∀ (kV doc pm : Value) (an : Option Addr) (cdv ct : Value) (us : List Value), us.length = ps.length → bindArgs (PySem.W.fnOf x x (defArgs st) (defBody st) (defScope st) .none kV doc pm an cdv ct) ⟨us, []⟩ = pure (ps.zip us))
    (hbody : ∀ (f : Addr) (cdv : Value) (A : Around) (outer : List Env) (s : Shared) (H : Hp) (E : XK), Room k (A.deeper (PyProof.Rows.envOfC x (defScope st) s.heap.objs.size f cdv)) →
      ∃ t, PSsD (cxOf CX0 P w K mg base N x (defScope st) f cdv A outer s H E).nox (defBody st) t ∧ ∀ ds M Q, sp ds M Q → t { nx := fun _ M' => QF Q .non M', rt := QF Q } (startD N ds) M) : Callee P w K mg base (k + 1) x ps sp := by
  obtain ⟨f, fd, F, hm⟩ := F.ex
  refine ⟨f, fd, okF F S len (fun cdv A outer s H E ds M Q hr h => ?_), hm, F.kp, F.bindsN hb⟩
  obtain ⟨t, h1, h2⟩ := hbody f cdv A outer s H E hr
  exact ⟨t, h1, h2 ds M Q h⟩
variable {X : Cx} {j k : Nat} {x : Str} {p pos : Pos} {e : Expr} {es : List Expr} {t : TAD} {ps : List Str} {sp : SpD}
theorem d_callC (C : Callee X.prog X.w X.K X.mg X.base k x ps sp) (hr : Room j X.A) (ha : PAD X (e :: es) t) (hjk : k ≤ j := by decide)
    (hg : Gl X x := by rfl) (hdb : (x == ("__debug__" : Str)) = false := by decide) (he : starEach (e :: es) X.env = (false, eval e X.env) :: starEach es X.env := by rfl) (hpl : (backTo pos (starEach es X.env)).any (·.1) = false := by rfl) :
    PED X (.Call (.Name x p) (e :: es) [] pos) (dCall sp t) := by
  obtain ⟨f, fd, F, hm, hk, hb⟩ := C.ex
  exact d_call F (hr.mono hjk) hm hk hb ha hg hdb he hpl
theorem d_callC0 (C : Callee X.prog X.w X.K X.mg X.base k x ps sp) (hr : Room j X.A) (hjk : k ≤ j := by decide)
    (hg : Gl X x := by rfl) (hdb : (x == ("__debug__" : Str)) = false := by decide) : PED X (.Call (.Name x p) [] [] pos) (dCall sp dNil) := by
  obtain ⟨f, fd, F, hm, hk, hb⟩ := C.ex
  exact d_call0 F (hr.mono hjk) hm hk hb hg hdb
end
/-- name = an expression whose value becomes data -/
def dAsgF (te : TED) (i : Nat) : TSD := fun E σ M => i < σ.length ∧ te σ M (QF fun d M1 => E.nx (σ.set i (some d)) M1)
theorem s_frz {X : Cx} {st : Stmt} {te : TED} {i : Nat} (h : PSD X st (dAsg te (dgName i))) : PSD X st (dAsgF te i) :=
  PS.weak h fun D σ H ⟨σD, M, E, hS, hM, ⟨hl, q⟩, w1, w2, w3, w4⟩ => ⟨σD, M, { E with nx := fun σ' M1 => ∃ d, σ' = σD.set i (some d) ∧ QF (fun d M1 => E.nx (σD.set i (some d)) M1) d M1 }, hS, hM, by
    show te σD M fun d M1 => ∃ d0, σD.set i (some d) = σD.set i (some d0) ∧ QF (fun d M1 => E.nx (σD.set i (some d)) M1) d0 M1
    have e : (QF fun d M1 => E.nx (σD.set i (some d)) M1) = fun d M1 => ∃ d0, σD.set i (some d) = σD.set i (some d0) ∧ QF (fun d M1 => E.nx (σD.set i (some d)) M1) d0 M1 := by
      funext d M1
      refine propext ⟨fun z => ⟨d, rfl, z⟩, fun ⟨d0, e0, z⟩ => ?_⟩
      have e1 : (σD.set i (some d))[i]? = (σD.set i (some d0))[i]? := by rw [e0]
      rw [List.getElem?_set_self hl, List.getElem?_set_self hl] at e1
      cases e1
      exact z
    rw [← e]
    exact q, fun σD' M1 σ' H' ⟨d, e1, d', M', f, q⟩ e h s => by
    subst e1
    refine w1 _ M' σ' H' q (e.sub f.sub) (h.sub f.sub) ⟨by rw [s.1, List.length_set, List.length_set], fun j x hx => ?_⟩
    by_cases hj : i = j
    · subst hj
      rw [List.getElem?_set_self hl] at hx
      cases hx
      obtain ⟨v, h1, h2⟩ := s.2 i d (List.getElem?_set_self hl)
      exact ⟨v, h1, f.rep _ _ v h h2⟩
    · rw [List.getElem?_set_ne hj] at hx
      obtain ⟨v, h1, h2⟩ := s.2 j x (by rw [List.getElem?_set_ne hj]; exact hx)
      exact ⟨v, h1, h2.sub f.sub⟩, w2, w3, w4⟩
end DL
namespace DL
open PySem PySem.Spec L2
theorem hu100 {A : Around} {k : Nat} (hr : Room k A) : A.units + 100 < cLine := by have := hr.un; omega
end DL

namespace DL
open PySem PySem.Spec L2
theorem dVar_s {i : Nat} {z0 : StD} {z1 : HpD} {z2 : VKD} : dVar i z0 z1 z2 = ((fun (σ : StD) (M : HpD) (Q : VKD) => ∃ d, σ[i]? = some (some d) ∧ Q d M) z0 z1 z2) := rfl
theorem dC_s {d : D} {z0 : StD} {z1 : HpD} {z2 : VKD} : dC d z0 z1 z2 = ((fun (_ : StD) (M : HpD) (Q : VKD) => Q d M) z0 z1 z2) := rfl
theorem dOp_s {r : R2D} {ta tb : TED} {z0 : StD} {z1 : HpD} {z2 : VKD} : dOp r ta tb z0 z1 z2 = ((fun (σ : StD) (M : HpD) (Q : VKD) => ta σ M fun x M1 => tb σ M1 fun y M2 => r x y M2 Q) z0 z1 z2) := rfl
theorem dTest_s {t : TED} {z0 : StD} {z1 : HpD} {z2 : Bool → HpD → Prop} : dTest t z0 z1 z2 = ((fun (σ : StD) (M : HpD) (Q : Bool → HpD → Prop) => t σ M fun x M' => ∃ k, x = .bl k ∧ Q k M') z0 z1 z2) := rfl
theorem dUn_s {r : D → HpD → VKD → Prop} {ta : TED} {z0 : StD} {z1 : HpD} {z2 : VKD} : dUn r ta z0 z1 z2 = ((fun (σ : StD) (M : HpD) (Q : VKD) => ta σ M fun x M1 => r x M1 Q) z0 z1 z2) := rfl
theorem dAnd_s {t u : TTD} {z0 : StD} {z1 : HpD} {z2 : Bool → HpD → Prop} : dAnd t u z0 z1 z2 = ((fun (σ : StD) (M : HpD) (Q : Bool → HpD → Prop) => t σ M fun c M1 => if c = true then u σ M1 Q else Q false M1) z0 z1 z2) := rfl
theorem dOr_s {t u : TTD} {z0 : StD} {z1 : HpD} {z2 : Bool → HpD → Prop} : dOr t u z0 z1 z2 = ((fun (σ : StD) (M : HpD) (Q : Bool → HpD → Prop) => t σ M fun c M1 => if c = true then Q true M1 else u σ M1 Q) z0 z1 z2) := rfl
theorem dNot_s {t : TTD} {z0 : StD} {z1 : HpD} {z2 : Bool → HpD → Prop} : dNot t z0 z1 z2 = ((fun (σ : StD) (M : HpD) (Q : Bool → HpD → Prop) => t σ M fun c M1 => Q (!c) M1) z0 z1 z2) := rfl
theorem dIf_s {t : TTD} {ta tb : TED} {z0 : StD} {z1 : HpD} {z2 : VKD} : dIf t ta tb z0 z1 z2 = ((fun (σ : StD) (M : HpD) (Q : VKD) => t σ M fun c M1 => if c = true then ta σ M1 Q else tb σ M1 Q) z0 z1 z2) := rfl
theorem dAndV_s {ta tb : TED} {z0 : StD} {z1 : HpD} {z2 : VKD} : dAndV ta tb z0 z1 z2 = ((fun (σ : StD) (M : HpD) (Q : VKD) => ta σ M fun x M1 => ∃ c, x = .bl c ∧ if c = true then tb σ M1 Q else Q (.bl false) M1) z0 z1 z2) := rfl
theorem dOrV_s {ta tb : TED} {z0 : StD} {z1 : HpD} {z2 : VKD} : dOrV ta tb z0 z1 z2 = ((fun (σ : StD) (M : HpD) (Q : VKD) => ta σ M fun x M1 => ∃ c, x = .bl c ∧ if c = true then Q (.bl true) M1 else tb σ M1 Q) z0 z1 z2) := rfl
theorem dNotV_s {ta : TED} {z0 : StD} {z1 : HpD} {z2 : VKD} : dNotV ta z0 z1 z2 = ((fun (σ : StD) (M : HpD) (Q : VKD) => ta σ M fun x M1 => ∃ c, x = .bl c ∧ Q (.bl (!c)) M1) z0 z1 z2) := rfl
theorem dNext_s {z0 : EndsD} {z1 : StD} {z2 : HpD} : dNext  z0 z1 z2 = ((fun (E : EndsD) (σ : StD) (M : HpD) => E.nx σ M) z0 z1 z2) := rfl
theorem dSeq_s {t u : TSD} {z0 : EndsD} {z1 : StD} {z2 : HpD} : dSeq t u z0 z1 z2 = ((fun (E : EndsD) (σ : StD) (M : HpD) => t { E with nx := u E } σ M) z0 z1 z2) := rfl
theorem dBreak_s {z0 : EndsD} {z1 : StD} {z2 : HpD} : dBreak  z0 z1 z2 = ((fun (E : EndsD) (σ : StD) (M : HpD) => E.bk σ M) z0 z1 z2) := rfl
theorem dCont_s {z0 : EndsD} {z1 : StD} {z2 : HpD} : dCont  z0 z1 z2 = ((fun (E : EndsD) (σ : StD) (M : HpD) => E.ct σ M) z0 z1 z2) := rfl
theorem dDrop_s {te : TED} {z0 : EndsD} {z1 : StD} {z2 : HpD} : dDrop te z0 z1 z2 = ((fun (E : EndsD) (σ : StD) (M : HpD) => te σ M fun _ M1 => E.nx σ M1) z0 z1 z2) := rfl
theorem dRet_s {te : TED} {z0 : EndsD} {z1 : StD} {z2 : HpD} : dRet te z0 z1 z2 = ((fun (E : EndsD) (σ : StD) (M : HpD) => te σ M E.rt) z0 z1 z2) := rfl
theorem dRetN_s {z0 : EndsD} {z1 : StD} {z2 : HpD} : dRetN  z0 z1 z2 = ((fun (E : EndsD) (_ : StD) (M : HpD) => E.rt .non M) z0 z1 z2) := rfl
theorem dIfS_s {c : TTD} {t u : TSD} {z0 : EndsD} {z1 : StD} {z2 : HpD} : dIfS c t u z0 z1 z2 = ((fun (E : EndsD) (σ : StD) (M : HpD) => c σ M fun b M1 => if b = true then t E σ M1 else u E σ M1) z0 z1 z2) := rfl
theorem dgName_s {i : Nat} {z0 : D} {z1 : StD} {z2 : HpD} {z3 : StD → HpD → Prop} : dgName i z0 z1 z2 z3 = ((fun (d : D) (σ : StD) (M : HpD) (Q : StD → HpD → Prop) => Q (σ.set i (some d)) M) z0 z1 z2 z3) := rfl
theorem dgNil_s {z0 : List D} {z1 : StD} {z2 : HpD} {z3 : StD → HpD → Prop} : dgNil  z0 z1 z2 z3 = ((fun (ds : List D) (σ : StD) (M : HpD) (Q : StD → HpD → Prop) => ds = [] ∧ Q σ M) z0 z1 z2 z3) := rfl
theorem dgCons_s {t : TGD} {u : gsD} {z0 : List D} {z1 : StD} {z2 : HpD} {z3 : StD → HpD → Prop} : dgCons t u z0 z1 z2 z3 = ((fun (ds : List D) (σ : StD) (M : HpD) (Q : StD → HpD → Prop) => ∃ d r, ds = d :: r ∧ t d σ M fun σ' M' => u r σ' M' Q) z0 z1 z2 z3) := rfl
theorem dgTup_s {n : Nat} {t : gsD} {z0 : D} {z1 : StD} {z2 : HpD} {z3 : StD → HpD → Prop} : dgTup n t z0 z1 z2 z3 = ((fun (d : D) (σ : StD) (M : HpD) (Q : StD → HpD → Prop) => ∃ ds, d = .tup ds ∧ ds.length = n ∧ t ds σ M Q) z0 z1 z2 z3) := rfl
theorem dAsg_s {te : TED} {g : TGD} {z0 : EndsD} {z1 : StD} {z2 : HpD} : dAsg te g z0 z1 z2 = ((fun (E : EndsD) (σ : StD) (M : HpD) => te σ M fun d M1 => g d σ M1 E.nx) z0 z1 z2) := rfl
theorem dPar_s {i j : Nat} {ta : TAD} {z0 : EndsD} {z1 : StD} {z2 : HpD} : dPar i j ta z0 z1 z2 = ((fun (E : EndsD) (σ : StD) (M : HpD) => ta σ M fun ds M1 => ∃ v w, ds = [v, w] ∧ E.nx ((σ.set i (some v)).set j (some w)) M1) z0 z1 z2) := rfl
theorem dNil_s {z0 : StD} {z1 : HpD} {z2 : List D → HpD → Prop} : dNil  z0 z1 z2 = ((fun (_ : StD) (M : HpD) (Q : List D → HpD → Prop) => Q [] M) z0 z1 z2) := rfl
theorem dCons_s {ta : TED} {tr : TAD} {z0 : StD} {z1 : HpD} {z2 : List D → HpD → Prop} : dCons ta tr z0 z1 z2 = ((fun (σ : StD) (M : HpD) (Q : List D → HpD → Prop) => ta σ M fun x M1 => tr σ M1 fun xs M2 => Q (x :: xs) M2) z0 z1 z2) := rfl
theorem dTup_s {t : TAD} {z0 : StD} {z1 : HpD} {z2 : VKD} : dTup t z0 z1 z2 = ((fun (σ : StD) (M : HpD) (Q : VKD) => t σ M fun ds M1 => ds.length ≤ 1000000 ∧ Q (.tup ds) M1) z0 z1 z2) := rfl
theorem dLst_s {t : TAD} {z0 : StD} {z1 : HpD} {z2 : VKD} : dLst t z0 z1 z2 = ((fun (σ : StD) (M : HpD) (Q : VKD) => t σ M fun ds M1 => ds.length ≤ 1000000 ∧ Q (.lst ds) M1) z0 z1 z2) := rfl
theorem dLstM_s {t : TAD} {z0 : StD} {z1 : HpD} {z2 : VKD} : dLstM t z0 z1 z2 = ((fun (σ : StD) (M : HpD) (Q : VKD) => t σ M fun ds M1 => ds.length ≤ 1000000 ∧ ∀ p, M1 p = none → Q (.ref p) (updD M1 p (.lst ds))) z0 z1 z2) := rfl
theorem dCall_s {sp : SpD} {t : TAD} {z0 : StD} {z1 : HpD} {z2 : VKD} : dCall sp t z0 z1 z2 = ((fun (σ : StD) (M : HpD) (Q : VKD) => t σ M fun ds M1 => sp ds M1 Q) z0 z1 z2) := rfl
theorem dNoPart_s {z0 : StD} {z1 : HpD} {z2 : Option Int → HpD → Prop} : dNoPart  z0 z1 z2 = ((fun (_ : StD) (M : HpD) (Q : Option Int → HpD → Prop) => Q none M) z0 z1 z2) := rfl
theorem dPart_s {t : TED} {z0 : StD} {z1 : HpD} {z2 : Option Int → HpD → Prop} : dPart t z0 z1 z2 = ((fun (σ : StD) (M : HpD) (Q : Option Int → HpD → Prop) => t σ M fun x M1 => ∃ i, x = .int i ∧ Q (some i) M1) z0 z1 z2) := rfl
theorem dSl_s {r : SlD} {te : TED} {tl th : TOD} {z0 : StD} {z1 : HpD} {z2 : VKD} : dSl r te tl th z0 z1 z2 = ((fun (σ : StD) (M : HpD) (Q : VKD) => te σ M fun x M1 => tl σ M1 fun l M2 => th σ M2 fun u M3 => r x l u M3 Q) z0 z1 z2) := rfl
theorem dgSub_s {to ti : TED} {t : TSetD} {z0 : D} {z1 : StD} {z2 : HpD} {z3 : StD → HpD → Prop} : dgSub to ti t z0 z1 z2 z3 = ((fun (v : D) (σ : StD) (M : HpD) (Q : StD → HpD → Prop) => to σ M fun o M1 => ti σ M1 fun i M2 => t o i v M2 fun M3 => Q σ M3) z0 z1 z2 z3) := rfl
theorem dAug_s {i : Nat} {te : TED} {r : R2D} {z0 : EndsD} {z1 : StD} {z2 : HpD} : dAug i te r z0 z1 z2 = ((fun (E : EndsD) (σ : StD) (M : HpD) => ∃ x, σ[i]? = some (some x) ∧ te σ M fun y M1 => r x y M1 fun z M2 => E.nx (σ.set i (some z)) M2) z0 z1 z2) := rfl
theorem diSeq_s {te : TED} {z0 : StD} {z1 : HpD} {z2 : List D → (HpD → Prop) → HpD → Prop} : diSeq te z0 z1 z2 = ((fun (σ : StD) (M : HpD) (R : List D → (HpD → Prop) → HpD → Prop) => te σ M fun d M1 => ∃ ds, itemsD M1 d = some ds ∧ R ds (stabD d ds) M1) z0 z1 z2) := rfl
theorem diRng1_s {ta : TAD} {z0 : StD} {z1 : HpD} {z2 : List D → (HpD → Prop) → HpD → Prop} : diRng1 ta z0 z1 z2 = ((fun (σ : StD) (M : HpD) (R : List D → (HpD → Prop) → HpD → Prop) => ta σ M fun ds M1 => ∃ j : Int, ds = [.int j] ∧ -(2 ^ 62) ≤ j ∧ j < 2 ^ 62 ∧ R (upTo 0 j.toNat) (fun _ => True) M1) z0 z1 z2) := rfl
theorem diRng2_s {ta : TAD} {z0 : StD} {z1 : HpD} {z2 : List D → (HpD → Prop) → HpD → Prop} : diRng2 ta z0 z1 z2 = ((fun (σ : StD) (M : HpD) (R : List D → (HpD → Prop) → HpD → Prop) => ta σ M fun ds M1 => ∃ i j : Int, ds = [.int i, .int j] ∧ (-(2 ^ 62) ≤ i ∧ i < 2 ^ 62 ∧ -(2 ^ 62) ≤ j ∧ j < 2 ^ 62) ∧ R (upTo i (j - i).toNat) (fun _ => True) M1) z0 z1 z2) := rfl
theorem diZip_s {ta : TAD} {z0 : StD} {z1 : HpD} {z2 : List D → (HpD → Prop) → HpD → Prop} : diZip ta z0 z1 z2 = ((fun (σ : StD) (M : HpD) (R : List D → (HpD → Prop) → HpD → Prop) => ta σ M fun ds M1 => ∃ x y xs ys, ds = [x, y] ∧ itemsD M1 x = some xs ∧ itemsD M1 y = some ys ∧ isTup x = isTup y ∧ R (pairs2 xs ys) (fun M => stabD x xs M ∧ stabD y ys M) M1) z0 z1 z2) := rfl
theorem dFor_s {ti : TID} {g : TGD} {tb : TSD} {z0 : EndsD} {z1 : StD} {z2 : HpD} : dFor ti g tb z0 z1 z2 = ((fun (E : EndsD) (σ : StD) (M : HpD) => ti σ M fun ds stab M1 => ForG g tb E σ ds stab M1) z0 z1 z2) := rfl
theorem dWhile_s {c : TTD} {tb : TSD} {z0 : EndsD} {z1 : StD} {z2 : HpD} : dWhile c tb z0 z1 z2 = ((fun (E : EndsD) (σ : StD) (M : HpD) => WhG c tb E σ M) z0 z1 z2) := rfl
theorem dYes_s {z0 : StD} {z1 : HpD} {z2 : Bool → HpD → Prop} : dYes  z0 z1 z2 = ((fun (_ : StD) (M : HpD) (Q : Bool → HpD → Prop) => Q true M) z0 z1 z2) := rfl
theorem dLc_s {ti : TID} {g : Tgt} {tt : TTD} {te : TED} {vs : List Nat} {z0 : StD} {z1 : HpD} {z2 : VKD} : dLc ti g tt te vs z0 z1 z2 = ((fun (σ : StD) (M : HpD) (Q : VKD) => ti σ M fun ds stab M1 => LcG g tt te vs σ ds stab M1 Q) z0 z1 z2) := rfl
theorem dFrz_s {t : TED} {z0 : StD} {z1 : HpD} {z2 : VKD} : dFrz t z0 z1 z2 = ((fun (σ : StD) (M : HpD) (Q : VKD) => t σ M (QF Q)) z0 z1 z2) := rfl
theorem dBM_s {r : MtD} {to : TED} {t : TAD} {z0 : StD} {z1 : HpD} {z2 : VKD} : dBM r to t z0 z1 z2 = ((fun (σ : StD) (M : HpD) (Q : VKD) => to σ M fun x M1 => isLst M1 x ∧ t σ M1 fun xs M2 => r x xs M2 Q) z0 z1 z2) := rfl
theorem dBM0_s {r : MtD} {to : TED} {z0 : StD} {z1 : HpD} {z2 : VKD} : dBM0 r to z0 z1 z2 = ((fun (σ : StD) (M : HpD) (Q : VKD) => to σ M fun x M1 => isLst M1 x ∧ r x [] M1 Q) z0 z1 z2) := rfl
theorem dAugS_s {to ti te : TED} {r : R2D} {z0 : EndsD} {z1 : StD} {z2 : HpD} : dAugS to ti te r z0 z1 z2 = ((fun (E : EndsD) (σ : StD) (M : HpD) => to σ M fun o M1 => ti σ M1 fun i M2 => ∃ p k ds x, o = .ref p ∧ i = .int k ∧ M2 p = some (.lst ds) ∧ atI ds k = some x ∧
  te σ M2 fun y M3 => r x y M3 fun z M4 => ∃ es j, M4 p = some (.lst es) ∧ ixN es.length k = some j ∧ E.nx σ (updD M4 p (.lst (es.set j z)))) z0 z1 z2) := rfl
theorem dDNew_s {z0 : StD} {z1 : HpD} {z2 : VKD} : dDNew  z0 z1 z2 = ((fun (_ : StD) (M : HpD) (Q : VKD) => ∀ p, M p = none → Q (.ref p) (updD M p (.dK []))) z0 z1 z2) := rfl
theorem dDGet_s {td ty : TED} {z0 : StD} {z1 : HpD} {z2 : VKD} : dDGet td ty z0 z1 z2 = ((fun (σ : StD) (M : HpD) (Q : VKD) => td σ M fun x M1 => ty σ M1 fun y M2 => ∃ a kvs k v, x = .ref a ∧ M2 a = some (.dK kvs) ∧ keyD y = some k ∧ getK kvs k = some v ∧ Q v M2) z0 z1 z2) := rfl
theorem dDGet2_s {td ty tx : TED} {z0 : StD} {z1 : HpD} {z2 : VKD} : dDGet2 td ty tx z0 z1 z2 = ((fun (σ : StD) (M : HpD) (Q : VKD) => td σ M fun x M1 => (∃ a kvs, x = .ref a ∧ M1 a = some (.dK kvs)) ∧ ty σ M1 fun y M2 => tx σ M2 fun z M3 => ∃ a kvs k, x = .ref a ∧ M3 a = some (.dK kvs) ∧ keyD y = some k ∧ Q ((getK kvs k).getD z) M3) z0 z1 z2) := rfl
theorem dDPut_s {td ty tv : TED} {z0 : EndsD} {z1 : StD} {z2 : HpD} : dDPut td ty tv z0 z1 z2 = ((fun (E : EndsD) (σ : StD) (M : HpD) => tv σ M fun v M1 => td σ M1 fun x M2 => ty σ M2 fun y M3 => ∃ a kvs k, x = .ref a ∧ M3 a = some (.dK kvs) ∧ keyD y = some k ∧ kvs.length < 1000000 ∧ E.nx σ (updD M3 a (.dK (setK kvs k v)))) z0 z1 z2) := rfl
theorem dDIn_s {b : Bool} {ty td : TED} {z0 : StD} {z1 : HpD} {z2 : VKD} : dDIn b ty td z0 z1 z2 = ((fun (σ : StD) (M : HpD) (Q : VKD) => ty σ M fun y M1 => td σ M1 fun x M2 => ∃ a kvs k, x = .ref a ∧ M2 a = some (.dK kvs) ∧ keyD y = some k ∧ Q (.bl (if b = true then (getK kvs k).isSome else !(getK kvs k).isSome)) M2) z0 z1 z2) := rfl
theorem dAsgF_s {te : TED} {i : Nat} {z0 : EndsD} {z1 : StD} {z2 : HpD} : dAsgF te i z0 z1 z2 = ((fun (E : EndsD) (σ : StD) (M : HpD) => i < σ.length ∧ te σ M (QF fun d M1 => E.nx (σ.set i (some d)) M1)) z0 z1 z2) := rfl
theorem rI2_s {C : Int → Int → Prop} {g : Int → Int → D} {z0 : D} {z1 : D} {z2 : HpD} {z3 : VKD} : rI2 C g z0 z1 z2 z3 = ((fun (x : D) (y : D) (M : HpD) (Q : VKD) => ∃ i j, x = .int i ∧ y = .int j ∧ C i j ∧ Q (g i j) M) z0 z1 z2 z3) := rfl
theorem rI20_s {g : Int → Int → D} {z0 : D} {z1 : D} {z2 : HpD} {z3 : VKD} : rI20 g z0 z1 z2 z3 = ((fun (x : D) (y : D) (M : HpD) (Q : VKD) => ∃ i j, x = .int i ∧ y = .int j ∧ Q (g i j) M) z0 z1 z2 z3) := rfl
theorem rEqS_s {z0 : D} {z1 : D} {z2 : HpD} {z3 : VKD} : rEqS  z0 z1 z2 z3 = ((fun (x : D) (y : D) (M : HpD) (Q : VKD) => scalD x y = true ∧ Q (.bl (eqS x y)) M) z0 z1 z2 z3) := rfl
theorem rNeS_s {z0 : D} {z1 : D} {z2 : HpD} {z3 : VKD} : rNeS  z0 z1 z2 z3 = ((fun (x : D) (y : D) (M : HpD) (Q : VKD) => scalD x y = true ∧ Q (.bl (!eqS x y)) M) z0 z1 z2 z3) := rfl
theorem rIxD_s {z0 : D} {z1 : D} {z2 : HpD} {z3 : VKD} : rIxD  z0 z1 z2 z3 = ((fun (x : D) (y : D) (M : HpD) (Q : VKD) => ∃ ds i d, itemsD M x = some ds ∧ y = .int i ∧ atI ds i = some d ∧ Q d M) z0 z1 z2 z3) := rfl
theorem rIxSD_s {z0 : D} {z1 : D} {z2 : HpD} {z3 : VKD} : rIxSD  z0 z1 z2 z3 = ((fun (x : D) (y : D) (M : HpD) (Q : VKD) => ∃ z i c, x = .str z ∧ y = .int i ∧ z.length ≤ 1000000 ∧ atI z.cps.toList i = some c ∧ Q (.str ⟨#[c]⟩) M) z0 z1 z2 z3) := rfl
theorem rCatD_s {k : List D → HpD → VKD → Prop} {z0 : D} {z1 : D} {z2 : HpD} {z3 : VKD} : rCatD k z0 z1 z2 z3 = ((fun (x : D) (y : D) (M : HpD) (Q : VKD) => ∃ xs ys, itemsD M x = some xs ∧ itemsD M y = some ys ∧ isTup x = false ∧ isTup y = false ∧ notScr x = true ∧ notScr y = true ∧ xs.length + ys.length ≤ 1000000 ∧ k (xs ++ ys) M Q) z0 z1 z2 z3) := rfl
theorem rRepD_s {k : List D → HpD → VKD → Prop} {z0 : D} {z1 : D} {z2 : HpD} {z3 : VKD} : rRepD k z0 z1 z2 z3 = ((fun (x : D) (y : D) (M : HpD) (Q : VKD) => ∃ d n, itemsD M x = some [d] ∧ isTup x = false ∧ notScr x = true ∧ y = .int n ∧ n ≤ 1000000 ∧ -(2 ^ 63) ≤ n ∧ k (List.replicate n.toNat d) M Q) z0 z1 z2 z3) := rfl
theorem kF_s {z0 : List D} {z1 : HpD} {z2 : VKD} : kF  z0 z1 z2 = ((fun (zs : List D) (M : HpD) (Q : VKD) => Q (.lst zs) M) z0 z1 z2) := rfl
theorem kM_s {z0 : List D} {z1 : HpD} {z2 : VKD} : kM  z0 z1 z2 = ((fun (zs : List D) (M : HpD) (Q : VKD) => ∀ p, M p = none → Q (.ref p) (updD M p (.lst zs))) z0 z1 z2) := rfl
theorem rSetD_s {z0 : D} {z1 : D} {z2 : D} {z3 : HpD} {z4 : HpD → Prop} : rSetD  z0 z1 z2 z3 z4 = ((fun (o : D) (i : D) (v : D) (M : HpD) (Q : HpD → Prop) => ∃ p ds k j, o = .ref p ∧ i = .int k ∧ M p = some (.lst ds) ∧ ixN ds.length k = some j ∧ Q (updD M p (.lst (ds.set j v)))) z0 z1 z2 z3 z4) := rfl
theorem rIs__s {z0 : D} {z1 : D} {z2 : HpD} {z3 : VKD} : rIs'  z0 z1 z2 z3 = ((fun (x : D) (y : D) (M : HpD) (Q : VKD) => y = .non ∧ Q (.bl (isN x)) M) z0 z1 z2 z3) := rfl
theorem rIsnot__s {z0 : D} {z1 : D} {z2 : HpD} {z3 : VKD} : rIsnot'  z0 z1 z2 z3 = ((fun (x : D) (y : D) (M : HpD) (Q : VKD) => y = .non ∧ Q (.bl (!isN x)) M) z0 z1 z2 z3) := rfl
theorem rCatT__s {z0 : D} {z1 : D} {z2 : HpD} {z3 : VKD} : rCatT'  z0 z1 z2 z3 = ((fun (x : D) (y : D) (M : HpD) (Q : VKD) => ∃ xs ys, x = .tup xs ∧ y = .tup ys ∧ xs ≠ [] ∧ xs.length + ys.length ≤ 1000000 ∧ Q (.tup (xs ++ ys)) M) z0 z1 z2 z3) := rfl
theorem rEqD__s {z0 : D} {z1 : D} {z2 : HpD} {z3 : VKD} : rEqD'  z0 z1 z2 z3 = ((fun (x : D) (y : D) (M : HpD) (Q : VKD) => EqOk x y ∧ Q (.bl (eqD x y)) M) z0 z1 z2 z3) := rfl
theorem rNeg__s {z0 : D} {z1 : HpD} {z2 : VKD} : rNeg'  z0 z1 z2 = ((fun (x : D) (M : HpD) (Q : VKD) => ∃ i, x = .int i ∧ Q (.int (-i)) M) z0 z1 z2) := rfl
theorem cLen__s {z0 : List D} {z1 : HpD} {z2 : VKD} : cLen'  z0 z1 z2 = ((fun (ds : List D) (M : HpD) (Q : VKD) => ∃ x xs, ds = [x] ∧ itemsD M x = some xs ∧ Q (.int xs.length) M) z0 z1 z2) := rfl
theorem cLenS__s {z0 : List D} {z1 : HpD} {z2 : VKD} : cLenS'  z0 z1 z2 = ((fun (ds : List D) (M : HpD) (Q : VKD) => ∃ z, ds = [.str z] ∧ z.length ≤ 1000000 ∧ Q (.int z.length) M) z0 z1 z2) := rfl
theorem cInti__s {z0 : List D} {z1 : HpD} {z2 : VKD} : cInti'  z0 z1 z2 = ((fun (ds : List D) (M : HpD) (Q : VKD) => ∃ i, ds = [.int i] ∧ Q (.int i) M) z0 z1 z2) := rfl
theorem cIntb__s {z0 : List D} {z1 : HpD} {z2 : VKD} : cIntb'  z0 z1 z2 = ((fun (ds : List D) (M : HpD) (Q : VKD) => ∃ k, ds = [.bl k] ∧ Q (.int (if k = true then 1 else 0)) M) z0 z1 z2) := rfl
theorem cAbs__s {z0 : List D} {z1 : HpD} {z2 : VKD} : cAbs'  z0 z1 z2 = ((fun (ds : List D) (M : HpD) (Q : VKD) => ∃ i, ds = [.int i] ∧ Q (.int (if i < 0 then -i else i)) M) z0 z1 z2) := rfl
theorem cMin__s {z0 : List D} {z1 : HpD} {z2 : VKD} : cMin'  z0 z1 z2 = ((fun (ds : List D) (M : HpD) (Q : VKD) => ∃ i j, ds = [.int i, .int j] ∧ Q (.int (if j < i then j else i)) M) z0 z1 z2) := rfl
theorem cMax__s {z0 : List D} {z1 : HpD} {z2 : VKD} : cMax'  z0 z1 z2 = ((fun (ds : List D) (M : HpD) (Q : VKD) => ∃ i j, ds = [.int i, .int j] ∧ Q (.int (if j > i then j else i)) M) z0 z1 z2) := rfl
theorem cTuple__s {z0 : List D} {z1 : HpD} {z2 : VKD} : cTuple'  z0 z1 z2 = ((fun (ds : List D) (M : HpD) (Q : VKD) => ∃ x xs, ds = [x] ∧ itemsD M x = some xs ∧ Q (.tup xs) M) z0 z1 z2) := rfl
theorem cListF__s {z0 : List D} {z1 : HpD} {z2 : VKD} : cListF'  z0 z1 z2 = ((fun (ds : List D) (M : HpD) (Q : VKD) => ∃ x xs, ds = [x] ∧ itemsD M x = some xs ∧ Q (.lst xs) M) z0 z1 z2) := rfl
theorem cListM__s {z0 : List D} {z1 : HpD} {z2 : VKD} : cListM'  z0 z1 z2 = ((fun (ds : List D) (M : HpD) (Q : VKD) => ∃ x xs, ds = [x] ∧ itemsD M x = some xs ∧ ∀ p, M p = none → Q (.ref p) (updD M p (.lst xs))) z0 z1 z2) := rfl
theorem cAll__s {z0 : List D} {z1 : HpD} {z2 : VKD} : cAll'  z0 z1 z2 = ((fun (ds : List D) (M : HpD) (Q : VKD) => ∃ (x : D) (bs : List Bool), ds = [x] ∧ isTup x = false ∧ itemsD M x = some (bs.map .bl) ∧ Q (.bl (bs.all id)) M) z0 z1 z2) := rfl
theorem cAny__s {z0 : List D} {z1 : HpD} {z2 : VKD} : cAny'  z0 z1 z2 = ((fun (ds : List D) (M : HpD) (Q : VKD) => ∃ (x : D) (bs : List Bool), ds = [x] ∧ isTup x = false ∧ itemsD M x = some (bs.map .bl) ∧ Q (.bl (bs.any id)) M) z0 z1 z2) := rfl
theorem cGcd__s {z0 : List D} {z1 : HpD} {z2 : VKD} : cGcd'  z0 z1 z2 = ((fun (ds : List D) (M : HpD) (Q : VKD) => ∃ i j, ds = [.int i, .int j] ∧ Q (.int ((Nat.gcd i.natAbs j.natAbs : Nat) : Int)) M) z0 z1 z2) := rfl
theorem cSortDI__s {z0 : List D} {z1 : HpD} {z2 : VKD} : cSortDI'  z0 z1 z2 = ((fun (ds : List D) (M : HpD) (Q : VKD) => ∃ (a : Addr) (kvs : List (Key × D)) (ks : List Int), ds = [.ref a] ∧ M a = some (.dK kvs) ∧ kvs.map (·.1) = ks.map Sum.inl ∧ ks.length < 64 ∧ ∀ ys : List Int, ys.Perm ks → ys.Pairwise (· ≤ ·) → Q (.lst (ys.map D.int)) M) z0 z1 z2) := rfl
theorem cSortDS__s {z0 : List D} {z1 : HpD} {z2 : VKD} : cSortDS'  z0 z1 z2 = ((fun (ds : List D) (M : HpD) (Q : VKD) => ∃ (a : Addr) (kvs : List (Key × D)) (ks : List Str), ds = [.ref a] ∧ M a = some (.dK kvs) ∧ kvs.map (·.1) = ks.map Sum.inr ∧ ks.length < 64 ∧ ∀ ys : List Str, ys.Perm ks → PyProof.Rows.sortedS ys = true → Q (.lst (ys.map D.str)) M) z0 z1 z2) := rfl
theorem mAppend__s {z0 : D} {z1 : List D} {z2 : HpD} {z3 : VKD} : mAppend'  z0 z1 z2 z3 = ((fun (x : D) (xs : List D) (M : HpD) (Q : VKD) => ∃ p ds y, x = .ref p ∧ xs = [y] ∧ M p = some (.lst ds) ∧ ds.length < 1000000 ∧ Q .non (updD M p (.lst (ds ++ [y])))) z0 z1 z2 z3) := rfl
theorem mExtend__s {z0 : D} {z1 : List D} {z2 : HpD} {z3 : VKD} : mExtend'  z0 z1 z2 z3 = ((fun (x : D) (xs : List D) (M : HpD) (Q : VKD) => ∃ p ds y es, x = .ref p ∧ xs = [y] ∧ M p = some (.lst ds) ∧ itemsD M y = some es ∧ isTup y = false ∧ notScr y = true ∧ ds.length + es.length ≤ 1000000 ∧ Q .non (updD M p (.lst (ds ++ es)))) z0 z1 z2 z3) := rfl
theorem mPop__s {z0 : D} {z1 : List D} {z2 : HpD} {z3 : VKD} : mPop'  z0 z1 z2 z3 = ((fun (x : D) (xs : List D) (M : HpD) (Q : VKD) => ∃ p ds y, x = .ref p ∧ xs = [] ∧ M p = some (.lst ds) ∧ ds[ds.length - 1]? = some y ∧ Q y (updD M p (.lst ds.dropLast))) z0 z1 z2 z3) := rfl
theorem mPopAt__s {z0 : D} {z1 : List D} {z2 : HpD} {z3 : VKD} : mPopAt'  z0 z1 z2 z3 = ((fun (x : D) (xs : List D) (M : HpD) (Q : VKD) => ∃ p ds i k y, x = .ref p ∧ xs = [.int i] ∧ M p = some (.lst ds) ∧ -(2 ^ 63) ≤ i ∧ i < 2 ^ 63 ∧ seqIndex? i ds.length = some k ∧ ds[k]? = some y ∧ Q y (updD M p (.lst (ds.eraseIdx k)))) z0 z1 z2 z3) := rfl
theorem slListF__s {z0 : D} {z1 : Option Int} {z2 : Option Int} {z3 : HpD} {z4 : VKD} : slListF'  z0 z1 z2 z3 z4 = ((fun (x : D) (lo : Option Int) (hi : Option Int) (M : HpD) (Q : VKD) => ∃ ds, itemsD M x = some ds ∧ isTup x = false ∧ Q (.lst (cutD ds lo hi)) M) z0 z1 z2 z3 z4) := rfl
theorem slListM__s {z0 : D} {z1 : Option Int} {z2 : Option Int} {z3 : HpD} {z4 : VKD} : slListM'  z0 z1 z2 z3 z4 = ((fun (x : D) (lo : Option Int) (hi : Option Int) (M : HpD) (Q : VKD) => ∃ ds, itemsD M x = some ds ∧ isTup x = false ∧ ∀ p, M p = none → Q (.ref p) (updD M p (.lst (cutD ds lo hi)))) z0 z1 z2 z3 z4) := rfl
theorem slTup__s {z0 : D} {z1 : Option Int} {z2 : Option Int} {z3 : HpD} {z4 : VKD} : slTup'  z0 z1 z2 z3 z4 = ((fun (x : D) (lo : Option Int) (hi : Option Int) (M : HpD) (Q : VKD) => ∃ ds, x = .tup ds ∧ ¬ (HT.sIx ds.length 0 lo = 0 ∧ HT.sIx ds.length ds.length hi = ds.length) ∧ Q (.tup (cutD ds lo hi)) M) z0 z1 z2 z3 z4) := rfl
theorem cIsiT__s {T : String} {z0 : List D} {z1 : HpD} {z2 : VKD} : cIsiT' T z0 z1 z2 = ((fun (ds : List D) (M : HpD) (Q : VKD) => ∃ x n, ds = [x, .ty T] ∧ kindD M x = some n ∧ Q (.bl (isiB n T)) M) z0 z1 z2) := rfl
/-! ### data, read off -/
section
variable {α : Type} {x a b c d e : D} {xs ds : List D} {M : HpD}
theorem at0 {x : α} {xs : List α} : atI (x :: xs) 0 = some x := by
  have h : ((xs.length + 1 : Nat) : Int) > 0 := by omega
  unfold atI ixN
  rw [if_pos (by decide), List.length_cons, if_pos (by omega)]
  rfl
theorem at1 {x y : α} {xs : List α} : atI (x :: y :: xs) 1 = some y := by
  unfold atI ixN
  rw [if_pos (by decide), List.length_cons, List.length_cons, if_pos (by omega)]
  rfl
theorem at2 {x y z : α} {xs : List α} : atI (x :: y :: z :: xs) 2 = some z := by
  unfold atI ixN
  rw [if_pos (by decide), List.length_cons, List.length_cons, List.length_cons, if_pos (by omega)]
  rfl
theorem at3 {x y z w : α} {xs : List α} : atI (x :: y :: z :: w :: xs) 3 = some w := by
  unfold atI ixN
  rw [if_pos (by decide), List.length_cons, List.length_cons, List.length_cons, List.length_cons, if_pos (by omega)]
  rfl
theorem at4 {x y z w v : α} {xs : List α} : atI (x :: y :: z :: w :: v :: xs) 4 = some v := by
  unfold atI ixN
  rw [if_pos (by decide), List.length_cons, List.length_cons, List.length_cons, List.length_cons, List.length_cons, if_pos (by omega)]
  rfl
theorem at5 {x y z w v u : α} {xs : List α} : atI (x :: y :: z :: w :: v :: u :: xs) 5 = some u := by
  unfold atI ixN
  rw [if_pos (by decide), List.length_cons, List.length_cons, List.length_cons, List.length_cons, List.length_cons, List.length_cons, if_pos (by omega)]
  rfl
theorem at_int {xs : List α} {i : Int} {x : α} (h0 : 0 ≤ i) (h : xs[i.toNat]? = some x) : atI xs i = some x := by
  have e : i = ((i.toNat : Nat) : Int) := by omega
  rw [e]
  exact atI_nat (by simpa using h)
theorem ix_int {n : Nat} {i : Int} (h0 : 0 ≤ i) (h : i < n) : ixN n i = some i.toNat := by
  unfold ixN
  rw [if_pos h0, if_pos h]
theorem ix_nat {n i : Nat} (h : i < n) : ixN n (i : Int) = some i := by
  rw [ix_int (by omega) (by omega)]
  rfl
theorem cut_from {k : Nat} {i : Int} (h : i = (k : Int)) : cutD ds (some i) none = ds.drop k := by
  subst h
  unfold cutD
  rw [HT.sIx_none, HT.sIx_nat]
  by_cases hk : k ≤ ds.length
  · rw [Nat.min_eq_left hk, List.take_of_length_le]
    rw [List.length_drop]
    omega
  · rw [Nat.min_eq_right (by omega), List.drop_of_length_le (by omega), List.drop_of_length_le (by omega), List.take_nil]
theorem cut_to {k : Nat} {i : Int} (h : i = (k : Int)) : cutD ds none (some i) = ds.take k := by
  subst h
  unfold cutD
  rw [HT.sIx_none, HT.sIx_nat, List.drop_zero, Nat.sub_zero]
  by_cases hk : k ≤ ds.length
  · rw [Nat.min_eq_left hk]
  · rw [Nat.min_eq_right (by omega), List.take_of_length_le (by omega), List.take_of_length_le (by omega)]
theorem items_upd {p : Addr} : itemsD (updD M p (.lst ds)) (.ref p) = some ds := items_ref updD_same
theorem ix5_0 : ixN 5 0 = some 0 := rfl
theorem ix5_1 : ixN 5 1 = some 1 := rfl
theorem ix5_2 : ixN 5 2 = some 2 := rfl
theorem ix5_3 : ixN 5 3 = some 3 := rfl
theorem ix5_4 : ixN 5 4 = some 4 := rfl
theorem isTup_tup : isTup (.tup ds) = true := rfl
theorem isTup_lst : isTup (.lst ds) = false := rfl
theorem isTup_ref {a : Addr} : isTup (.ref a) = false := rfl
theorem isTup_scr {ns : List Int} : isTup (.scr ns) = false := rfl
theorem notScr_lst : notScr (.lst ds) = true := rfl
theorem notScr_ref {a : Addr} : notScr (.ref a) = true := rfl
theorem eqS_int {i j : Int} : eqS (.int i) (.int j) = decide (i = j) := rfl
theorem eqS_str {i j : Str} : eqS (.str i) (.str j) = decide (i = j) := rfl
theorem eqS_bl {i j : Bool} : eqS (.bl i) (.bl j) = decide (i = j) := rfl
theorem scal_int {i j : Int} : scalD (.int i) (.int j) = true := rfl
theorem scal_str {i j : Str} : scalD (.str i) (.str j) = true := rfl
theorem scal_bl {i j : Bool} : scalD (.bl i) (.bl j) = true := rfl
theorem isN_non : isN .non = true := rfl
theorem isN_tup : isN (.tup ds) = false := rfl
theorem isN_lst : isN (.lst ds) = false := rfl
theorem isN_int {i : Int} : isN (.int i) = false := rfl
theorem isN_str {i : Str} : isN (.str i) = false := rfl
theorem isN_ref {a : Addr} : isN (.ref a) = false := rfl
theorem key_int {i : Int} : keyD (.int i) = some (.inl i) := rfl
theorem key_str {i : Str} : keyD (.str i) = some (.inr i) := rfl
theorem kind_non : kindD M .non = some "NoneType" := rfl
theorem kind_int {i : Int} : kindD M (.int i) = some "int" := rfl
theorem kind_bl {i : Bool} : kindD M (.bl i) = some "bool" := rfl
theorem kind_str {i : Str} : kindD M (.str i) = some "str" := rfl
theorem kind_tup : kindD M (.tup ds) = some "tuple" := rfl
theorem kind_lst : kindD M (.lst ds) = some "list" := rfl
theorem isLst_lst : isLst M (.lst ds) := ⟨rfl, ds, rfl⟩
theorem isLst_ref {a : Addr} (h : M a = some (.lst ds)) : isLst M (.ref a) := ⟨rfl, ds, items_ref h⟩
theorem tgt_one {σ : StD} {i : Nat} {k : StD → Prop} : (Tgt.one i).set σ x k = k (σ.set i (some x)) := rfl
theorem tgt_many {σ : StD} {is : List Nat} {k : StD → Prop} : (Tgt.many is).set σ x k = ∃ ds, x = .tup ds ∧ ds.length = is.length ∧ k (sets σ is ds) := rfl
theorem wipe0 {σ : StD} : wipeD σ [] = σ := rfl
theorem wipe1 {σ : StD} {v : Nat} {vs : List Nat} : wipeD σ (v :: vs) = (wipeD σ vs).set v none := rfl
theorem sets1 {σ : StD} {i : Nat} {is : List Nat} : sets σ (i :: is) (x :: xs) = sets (σ.set i (some x)) is xs := rfl
theorem sets0 {σ : StD} : sets σ [] xs = σ := rfl
end
theorem QF.keep {Q : VKD} {d : D} {M : HpD} (h : Q d M) : QF Q d M := ⟨d, M, .refl _ _, h⟩
theorem QF.lst {Q : VKD} {p : Addr} {ds : List D} {M M' : HpD} (s : SubM M' M) (h : M p = some (.lst ds)) (n : M' p = none) (q : Q (.lst ds) M') : QF Q (.ref p) M := ⟨.lst ds, M', .lst s h n, q⟩
theorem QF.drop {Q : VKD} {d : D} {M M' : HpD} (s : SubM M' M) (q : Q d M') : QF Q d M := ⟨d, M', .drop s, q⟩

theorem SubM.upd {M M' : HpD} {p : Addr} {o : OD} (h : SubM M M') (n : M p = Option.none) : SubM M (updD M' p o) := fun a u e => by
  rw [updD_ne (fun z => by rw [z, n] at e; cases e)]
  exact h a u e
/-- a pure comprehension, its results item by item -/
theorem lcY_of {g : Tgt} {te : TED} {vs : List Nat} {σ : StD} {M1 : HpD} {ds : List D} {stab : HpD → Prop} {Q : VKD} (ys : List D) (hst : ∀ M', SubM M1 M' → stab M') (hl : ys.length = ds.length) (hl2 : ds.length ≤ 900000)
    (hs : ∀ (i : Nat) (x y : D), ds[i]? = some x → ys[i]? = some y → ∀ M', SubM M1 M' → ∀ Qn : D → HpD → Prop, Qn y M' → g.set (wipeD σ vs) x fun σ2 => te σ2 M' Qn) (q : Q (.lst ys) M1) : LcG g dYes te vs σ ds stab M1 (QF Q) := by
  refine ⟨fun p np => ?_⟩
  refine ⟨fun i M => M = updD M1 p (.lst (ys.take i)), rfl, fun i M _ e => by subst e; exact hst _ (.new np), fun i x M hx e => ?_, fun M e => ?_⟩
  · subst e
    have hi : i < ds.length := (List.getElem?_eq_some_iff.mp hx).1
    have hy : ys[i]? = some (ys[i]'(by omega)) := List.getElem?_eq_getElem _
    refine hs i x _ hx hy _ (.new np) (fun y M4 => ∃ acc, M4 p = some (.lst acc) ∧ acc.length < 1000000 ∧ updD M4 p (.lst (acc ++ [y])) = updD M1 p (.lst (ys.take (i + 1)))) ⟨_, updD_same, ?_, ?_⟩
    · rw [List.length_take]; omega
    · rw [updD_updD, List.take_succ, hy]; rfl
  · subst e
    refine ⟨.lst ys, M1, Frz.lst (.new np) ?_ np, q⟩
    rw [updD_same, ← hl, List.take_length]

/-- plain data, n levels at most -/
def Pdn (n : Nat) (d : D) : Prop := (toPy d).plain = true ∧ (toPy d).depth ≤ n
theorem Pdn.mono {n m : Nat} {d : D} (h : Pdn n d) (le : n ≤ m) : Pdn m d := ⟨h.1, Nat.le_trans h.2 le⟩
theorem pdn_int {n : Nat} {i : Int} : Pdn n (.int i) := ⟨rfl, Nat.zero_le _⟩
theorem pdn_str {n : Nat} {i : Str} : Pdn n (.str i) := ⟨rfl, Nat.zero_le _⟩
theorem pdn_bl {n : Nat} {i : Bool} : Pdn n (.bl i) := ⟨rfl, Nat.zero_le _⟩
theorem pdn_non {n : Nat} : Pdn n .non := ⟨rfl, Nat.zero_le _⟩
theorem pdn_all {n : Nat} : ∀ {ds : List D}, (∀ d ∈ ds, Pdn n d) → PyData.plainAll (toPys ds) = true ∧ PyData.depthAll (toPys ds) ≤ n
  | [], _ => ⟨rfl, Nat.zero_le _⟩
  | d :: ds, h => by
    obtain ⟨h1, h2⟩ := h d List.mem_cons_self
    obtain ⟨h3, h4⟩ := pdn_all fun x hx => h x (List.mem_cons_of_mem _ hx)
    simp only [toPys, PyData.plainAll, PyData.depthAll, h1, h3, Bool.and_self, true_and]
    exact Nat.max_le.mpr ⟨h2, h4⟩
theorem pdn_tup {n : Nat} {ds : List D} (h : ∀ d ∈ ds, Pdn n d) : Pdn (n + 1) (.tup ds) := by
  obtain ⟨h3, h4⟩ := pdn_all h
  unfold Pdn
  simp only [toPy, PyData.plain, PyData.depth]
  exact ⟨h3, by omega⟩
theorem pdn_lst {n : Nat} {ds : List D} (h : ∀ d ∈ ds, Pdn n d) : Pdn (n + 1) (.lst ds) := by
  obtain ⟨h3, h4⟩ := pdn_all h
  unfold Pdn
  simp only [toPy, PyData.plain, PyData.depth]
  exact ⟨h3, by omega⟩
theorem Pdn.eqOk {n m : Nat} {x y : D} (h1 : Pdn n x) (h2 : Pdn m y) (h : n ≤ 100) : EqOk x y := ⟨h1.1, h2.1, Nat.le_trans (Nat.min_le_left _ _) (Nat.le_trans h1.2 h)⟩
theorem Pdn.refl {n : Nat} {x : D} (h : Pdn n x) : eqD x x = true := eqD_refl h.1

/-! ### the head -/
def obsX (chk : PySem.W.Frag → Bool) (fn : List He.DefD) (K : PySem.W.Frag) : He.AlD := (chk K && fn.all fun d => d.ok K, fn.map fun d => He.fnW K d.at_)
def SaysX (chk : PySem.W.Frag → Bool) (fn : List He.DefD) (K : PySem.W.Frag) : Prop := obsX chk fn K = He.valD fn
def obsXG (n : Nat) (chk : PySem.W.Frag → Bool) (fn : List He.DefD) (g : Addr → Option Obj) : He.AlD := obsX chk fn (He.frG g (He.asD g n))
def hookX (n : Nat) (chk : PySem.W.Frag → Bool) (fn : List He.DefD) : PySem.W.Hook where
  α := He.AlD
  obs := fun s => obsXG n chk fn s.heap.get?
  val := fun _ => He.valD fn
  says := fun _ h => ∃ K : PySem.W.Frag, K.In h ∧ SaysX chk fn K
  of := fun _ _ e => ⟨_, He.frG_in, e⟩
  keeps := fun _ _ _ ⟨K, hK, c⟩ k => ⟨K, PySem.W.Frag.In.keeps hK k, c⟩
theorem obsXG_eq {n : Nat} {chk : PySem.W.Frag → Bool} {fn : List He.DefD} {g : Addr → Option Obj} {s : Shared} (h : ∀ a, g a = s.heap.get? a) : obsXG n chk fn g = (hookX n chk fn).obs s := by
  have e : g = s.heap.get? := funext h
  rw [e] <;> rfl
theorem SaysX.chk {chk : PySem.W.Frag → Bool} {fn : List He.DefD} {K : PySem.W.Frag} (c : SaysX chk fn K) : chk K = true :=
  (He.ba (show (chk K && fn.all fun d => d.ok K) = true from congrArg (fun z : He.AlD => z.1) c)).1
theorem SaysX.def_ {chk : PySem.W.Frag → Bool} {fn : List He.DefD} {K : PySem.W.Frag} (c : SaysX chk fn K) (i : Nat) {d : He.DefD} (h : fn[i]? = some d := by rfl) : ∃ fd, FunD K d.name d.qual d.params d.body d.scope (d.dvs K) (d.kws K) (He.fAd K d.at_) fd := by
  have c2 := (He.ba (show (chk K && fn.all fun d => d.ok K) = true from congrArg (fun z : He.AlD => z.1) c)).2
  have e : fn.map (fun d => He.fnW K d.at_) = fn.map He.DefD.val := congrArg (fun z : He.AlD => z.2) c
  have e2 : (fn.map fun d => He.fnW K d.at_)[i]? = (fn.map He.DefD.val)[i]? := by rw [e]
  rw [List.getElem?_map, List.getElem?_map, h] at e2
  exact He.DefD.funD (Option.some.inj e2) (List.all_eq_true.mp c2 d (List.mem_of_getElem? h))
/-- the law's end, with the script's bits -/
theorem walk_ofBE {l : PySem.W.OpenLaw} {n k : Nat} {q : Program} {loose : List Str} {XP : (Str → Option Value) → Heap → Prop} {YP : World → Heap → Prop} {d : DefRec} {CX : CXT} {x : Str}
    (hn : l.most = some n) (hn2 : n ≤ sizeLine) (hdf : d.params.defaults = []) (hr : Room k callerA)
    (F : ∀ (w : World) (mg : Str → Option Value) (fa : Addr) (h : Heap), YP w h → h.Ns mainGlobals mg → mg d.name = some (.ref fa) →
      ∃ (K : PySem.W.Frag) (fd : FuncData) (sp : Sp), K.In h ∧ (∀ (s : Shared) (u : Value), BindsTo s fd ⟨[u], []⟩ [(x, u)]) ∧
        (∀ (H : Hp) (a : Addr) (ns : List Int), ns.length ≤ n → (∀ z ∈ ns, Builtin.Int.intBits z ≤ 1048576) → Only H → SqL K H a (ns.map V.int) → sp [.ref a] H (fun v _ => v = .bl true) fun _ _ _ => False) ∧
        ∀ base : Heap, K.In base → base.Ns mainGlobals mg → FnOk l.prog w K mg base CX k fa fd [x] sp)
    (hCX : ∀ (H : Hp) (s : Shared) (e : Value) (s' : Shared), CX [] H s (fun _ _ _ => False) e s' → False) :
    PySem.W.WalkO q loose XP YP l.row.toRowW d [] (fun f vs => PySem.call f vs) := by
  refine Att.attach_callB hn hdf fun w s₀ s₁ mg mb fa o pm cd doc a vs ns G Y ho hd hcd hmg hobj hints hlen hbits hg => ?_
  obtain ⟨K, fd, sp, KX, hb, hsp, hF⟩ := F w mg fa _ Y G.T.g hmg
  exact law_call KX G.T.g G.T.b G.T.builtins G.T.nolimit hg hobj hints (Nat.le_trans hlen hn2) hr hF hb (fun H hO hS => hsp H a ns hlen hbits hO hS) fun H e s' => hCX H s₁ e s'
theorem law_start {K : PySem.W.Frag} {H : Hp} {a : Addr} {ns : List Int} {sp : SpD} {E : XK} (hO : Only H) (hS : SqL K H a (ns.map V.int)) (h : ∀ M : HpD, (∀ b, M b = none) → sp [.scr ns] M fun d _ => d = .bl true) :
    liftSp K sp [.ref a] H (fun v _ => v = .bl true) E := by
  have r : Rep K H (fun _ => none) (.scr ns) (.ref a) := by
    refine rep_scr.mpr ⟨a, rfl, ?_⟩
    rcases hS with hS | hS
    · rcases hS with hS | ⟨o, hS⟩
      · rcases hO a with z | ⟨o, xs, z⟩
        · rw [z] at hS; cases hS
        · rw [z] at hS; cases hS
      · exact .inl ⟨⟨o, hS⟩, rfl⟩
    · exact .inr hS
  have hM : Held K (fun _ => none) H := fun b o e => nomatch (show (none : Option OD) = some o from e)
  exact ⟨[.scr ns], fun _ => none, fun d _ => d = .bl true, .one r, hM, h _ fun _ => rfl, fun d M' v H' e _ _ r => by
    have e : d = .bl true := e
    subst e
    exact rep_bl.mp r⟩
/-- the law's own def found twice is one -/
theorem same_fn {P : Program} {w : World} {K : PySem.W.Frag} {mg : Str → Option Value} {base : Heap} {k : Nat} {ps : List Str} {sp : SpD} {f f2 : Addr} {fd fd2 : FuncData} {x : Str} {st : Stmt}
    (F : FunD K x x (defArgs st) (defBody st) (defScope st) [] [] f fd) (h : mg x = some (.ref f)) (h1 : FnOk P w K mg base CX0 k f2 fd2 ps (liftSp K sp)) (h2 : mg x = some (.ref f2)) (e : fd2 = fd) : FnOk P w K mg base CX0 k f fd ps (liftSp K sp) := by
  rw [h] at h2
  cases h2
  subst e
  exact h1
end DL

/-! Ratios as pairs: the mathematics, core Lean alone. -/
namespace Rt
abbrev R := Int × Int
def gI (a b : Int) : Int := ((Nat.gcd a.natAbs b.natAbs : Nat) : Int)
def mkR (n d : Int) : R := if d < 0 then (-n / gI n d, -d / gI n d) else (n / gI n d, d / gI n d)
def addR (a b : R) : R := mkR (a.1 * b.2 + b.1 * a.2) (a.2 * b.2)
def mulR (a b : R) : R := mkR (a.1 * b.1) (a.2 * b.2)
theorem gI_pos {a b : Int} (h : b ≠ 0) : 0 < gI a b := by
  unfold gI
  have : 0 < Nat.gcd a.natAbs b.natAbs := Nat.gcd_pos_of_pos_right _ (by omega)
  omega
theorem gI_dvd_l (a b : Int) : gI a b ∣ a := Int.ofNat_dvd_left.mpr (Nat.gcd_dvd_left _ _)
theorem gI_dvd_r (a b : Int) : gI a b ∣ b := Int.ofNat_dvd_left.mpr (Nat.gcd_dvd_right _ _)
theorem gI_le {a b : Int} (h : 0 < b) : gI a b ≤ b := Int.le_of_dvd h (gI_dvd_r a b)
theorem gI_one_r (a : Int) : gI a 1 = 1 := by
  unfold gI
  simp
theorem gI_zero_r (a : Int) (h : 0 ≤ a) : gI a 0 = a := by
  unfold gI
  simp
  omega
theorem gI_neg {a b : Int} : gI (-a) (-b) = gI a b := by unfold gI; simp
theorem gI_step {a b : Int} (ha : 0 ≤ a) (hb : 0 < b) : gI b (a % b) = gI a b := by
  unfold gI
  have e : (a % b).natAbs = a.natAbs % b.natAbs := by
    obtain ⟨m, rfl⟩ := Int.eq_ofNat_of_zero_le ha
    obtain ⟨n, rfl⟩ := Int.eq_ofNat_of_zero_le (Int.le_of_lt hb)
    have : ((m : Int) % (n : Int)) = ((m % n : Nat) : Int) := (Int.natCast_emod m n).symm
    rw [this, Int.natAbs_natCast, Int.natAbs_natCast, Int.natAbs_natCast]
  rw [e, Nat.gcd_comm b.natAbs, ← Nat.gcd_rec, Nat.gcd_comm]
theorem mkR_pos {n d : Int} (h : 0 < d) : mkR n d = (n / gI n d, d / gI n d) := by unfold mkR; rw [if_neg (by omega)]
theorem mkR_den {n d : Int} (h : 0 < d) : 0 < (mkR n d).2 := by
  rw [mkR_pos h]
  exact Int.ediv_pos_of_pos_of_dvd h (Int.le_of_lt (gI_pos (by omega))) (gI_dvd_r n d)
theorem mkR_num {n d : Int} (h : 0 < d) : (mkR n d).1 * gI n d = n := by
  rw [mkR_pos h]
  exact Int.ediv_mul_cancel (gI_dvd_l n d)
theorem mkR_den_mul {n d : Int} (h : 0 < d) : (mkR n d).2 * gI n d = d := by
  rw [mkR_pos h]
  exact Int.ediv_mul_cancel (gI_dvd_r n d)
theorem mkR_one {n : Int} : mkR n 1 = (n, 1) := by
  rw [mkR_pos (by decide), gI_one_r]
  simp
theorem mkR_cop {n d : Int} (h : 0 < d) : Nat.gcd (mkR n d).1.natAbs (mkR n d).2.natAbs = 1 := by
  have hg := gI_pos (a := n) (b := d) (by omega)
  have e1 : (mkR n d).1.natAbs * (gI n d).natAbs = n.natAbs := by rw [← Int.natAbs_mul, mkR_num h]
  have e2 : (mkR n d).2.natAbs * (gI n d).natAbs = d.natAbs := by rw [← Int.natAbs_mul, mkR_den_mul h]
  have e3 : (gI n d).natAbs = Nat.gcd n.natAbs d.natAbs := by unfold gI; simp
  have e4 : Nat.gcd ((mkR n d).1.natAbs * (gI n d).natAbs) ((mkR n d).2.natAbs * (gI n d).natAbs) = (gI n d).natAbs := by rw [e1, e2, e3]
  rw [Nat.gcd_mul_right] at e4
  have hp : 0 < (gI n d).natAbs := by omega
  exact Nat.eq_of_mul_eq_mul_right hp (by rw [e4, Nat.one_mul])
/-- the value lies within B, and the part below divides L -/
structure Rv (L B : Int) (a : R) : Prop where
  pos : 0 < a.2
  dvd : a.2 ∣ L
  lo : -(B * a.2) ≤ a.1
  hi : a.1 ≤ B * a.2
theorem Rv.mk' {L B N D : Int} (hD : 0 < D) (hk : ∃ k, N * L = k * D) (h1 : -(B * D) ≤ N) (h2 : N ≤ B * D) : Rv L B (mkR N D) := by
  have hg := gI_pos (a := N) (b := D) (by omega)
  have en := mkR_num (n := N) hD
  have ed := mkR_den_mul (n := N) hD
  have hd := mkR_den (n := N) hD
  have hc := mkR_cop (n := N) hD
  refine ⟨hd, ?_, ?_, ?_⟩
  · obtain ⟨k, hk⟩ := hk
    have e : (mkR N D).1 * L * gI N D = k * (mkR N D).2 * gI N D := by
      rw [Int.mul_assoc, Int.mul_comm L, ← Int.mul_assoc, en, Int.mul_assoc k, ed, hk]
    have e2 : (mkR N D).1 * L = k * (mkR N D).2 := Int.eq_of_mul_eq_mul_right (by omega) e
    have d1 : (mkR N D).2 ∣ (mkR N D).1 * L := ⟨k, by rw [e2, Int.mul_comm]⟩
    have d2 : (mkR N D).2.natAbs ∣ (mkR N D).1.natAbs * L.natAbs := by rw [← Int.natAbs_mul]; exact Int.natAbs_dvd_natAbs.mpr d1
    have d3 : (mkR N D).2.natAbs ∣ L.natAbs := Nat.Coprime.dvd_of_dvd_mul_left (by rw [Nat.Coprime, Nat.gcd_comm]; exact hc) d2
    exact Int.natAbs_dvd_natAbs.mp d3
  · have h : -(B * (mkR N D).2) * gI N D ≤ (mkR N D).1 * gI N D := by
      rw [en, Int.neg_mul, Int.mul_assoc, ed]; exact h1
    exact Int.le_of_mul_le_mul_right h hg
  · have h : (mkR N D).1 * gI N D ≤ B * (mkR N D).2 * gI N D := by
      rw [en, Int.mul_assoc, ed]; exact h2
    exact Int.le_of_mul_le_mul_right h hg
theorem Rv.mono {L L' B B' : Int} {a : R} (h : Rv L B a) (hL : L ∣ L') (hB : B ≤ B') : Rv L' B' a := by
  have := Int.mul_le_mul_of_nonneg_right hB (Int.le_of_lt h.pos)
  exact ⟨h.pos, Int.dvd_trans h.dvd hL, by have := h.lo; omega, by have := h.hi; omega⟩
theorem Rv.add {L B C : Int} {a b : R} (ha : Rv L B a) (hb : Rv L C b) : Rv L (B + C) (addR a b) := by
  have pa := ha.pos
  have pb := hb.pos
  have hp : 0 < a.2 * b.2 := Int.mul_pos pa pb
  obtain ⟨x, hx⟩ := ha.dvd
  obtain ⟨y, hy⟩ := hb.dvd
  have a1 := Int.mul_le_mul_of_nonneg_right ha.lo (Int.le_of_lt pb)
  have a2 := Int.mul_le_mul_of_nonneg_right ha.hi (Int.le_of_lt pb)
  have b1 := Int.mul_le_mul_of_nonneg_right hb.lo (Int.le_of_lt pa)
  have b2 := Int.mul_le_mul_of_nonneg_right hb.hi (Int.le_of_lt pa)
  have e1 : B * a.2 * b.2 = B * (a.2 * b.2) := Int.mul_assoc _ _ _
  have e2 : C * b.2 * a.2 = C * (a.2 * b.2) := by rw [Int.mul_assoc, Int.mul_comm b.2]
  refine Rv.mk' hp ⟨a.1 * x + b.1 * y, ?_⟩ ?_ ?_
  · have t1 : a.1 * b.2 * L = a.1 * x * (a.2 * b.2) := by
      rw [hx]
      simp only [Int.mul_assoc, Int.mul_left_comm, Int.mul_comm]
    have t2 : b.1 * a.2 * L = b.1 * y * (a.2 * b.2) := by
      rw [hy]
      simp only [Int.mul_assoc, Int.mul_left_comm, Int.mul_comm]
    rw [Int.add_mul, Int.add_mul, t1, t2]
  · rw [Int.neg_mul] at a1 b1
    rw [e1] at a1
    rw [e2] at b1
    rw [Int.add_mul]
    omega
  · rw [e1] at a2
    rw [e2] at b2
    rw [Int.add_mul]
    omega
theorem mul_bound {p q B C u v : Int} (hp : 0 ≤ u) (hq : 0 ≤ v) (h1 : -u ≤ p) (h2 : p ≤ u) (h3 : -v ≤ q) (h4 : q ≤ v) : -(u * v) ≤ p * q ∧ p * q ≤ u * v := by
  have hb : p.natAbs * q.natAbs ≤ u.natAbs * v.natAbs := Nat.mul_le_mul (by omega) (by omega)
  rw [← Int.natAbs_mul, ← Int.natAbs_mul] at hb
  have h : 0 ≤ u * v := Int.mul_nonneg hp hq
  omega
theorem Rv.mul {L L' B C : Int} {a b : R} (ha : Rv L B a) (hb : Rv L' C b) (hB : 0 ≤ B) (hC : 0 ≤ C) : Rv (L * L') (B * C) (mulR a b) := by
  have pa := ha.pos
  have pb := hb.pos
  have hp : 0 < a.2 * b.2 := Int.mul_pos pa pb
  obtain ⟨x, hx⟩ := ha.dvd
  obtain ⟨y, hy⟩ := hb.dvd
  have e : B * a.2 * (C * b.2) = B * C * (a.2 * b.2) := by simp only [Int.mul_assoc, Int.mul_left_comm, Int.mul_comm]
  have m := mul_bound (B := B) (C := C) (Int.mul_nonneg hB (Int.le_of_lt pa)) (Int.mul_nonneg hC (Int.le_of_lt pb)) ha.lo ha.hi hb.lo hb.hi
  rw [e] at m
  refine Rv.mk' hp ⟨a.1 * b.1 * x * y, ?_⟩ m.1 m.2
  rw [hx, hy]
  simp only [Int.mul_assoc, Int.mul_left_comm, Int.mul_comm]
/-- what the arithmetic of both sides takes -/
structure Rk (a : R) : Prop where
  pos : 0 < a.2
  n : a.1.natAbs < 2 ^ 4000
  d : a.2.natAbs < 2 ^ 4000
theorem Rv.rk {L B : Int} {a : R} {p q : Nat} (h : Rv L B a) (hL0 : 0 < L) (hL : L.natAbs < 2 ^ p) (hB0 : 0 ≤ B) (hB : B.natAbs < 2 ^ q) (hz : p + q ≤ 4000) : Rk a := by
  have d1 : a.2.natAbs ≤ L.natAbs := Nat.le_of_dvd (by omega) (Int.natAbs_dvd_natAbs.mpr h.dvd)
  have d2 : a.2.natAbs < 2 ^ p := Nat.lt_of_le_of_lt d1 hL
  have n1 : a.1.natAbs ≤ B.natAbs * a.2.natAbs := by
    rw [← Int.natAbs_mul]
    have := h.lo
    have := h.hi
    omega
  have n2 : B.natAbs * a.2.natAbs < 2 ^ q * 2 ^ p := Nat.mul_lt_mul'' hB d2
  rw [← Nat.pow_add] at n2
  refine ⟨h.pos, Nat.lt_of_le_of_lt n1 (Nat.lt_of_lt_of_le n2 (Nat.pow_le_pow_right (by decide) (by omega))), Nat.lt_of_lt_of_le d2 (Nat.pow_le_pow_right (by decide) (by omega))⟩
theorem nat_mul_lt {x y : Int} {a b c : Nat} (hx : x.natAbs < 2 ^ a) (hy : y.natAbs < 2 ^ b) (h : a + b ≤ c) : (x * y).natAbs < 2 ^ c := by
  rw [Int.natAbs_mul]
  have := Nat.mul_lt_mul'' hx hy
  rw [← Nat.pow_add] at this
  exact Nat.lt_of_lt_of_le this (Nat.pow_le_pow_right (by decide) h)
theorem nat_add_lt {x y : Int} {a : Nat} (hx : x.natAbs < 2 ^ a) (hy : y.natAbs < 2 ^ a) : (x + y).natAbs < 2 ^ (a + 1) := by
  have : (x + y).natAbs ≤ x.natAbs + y.natAbs := Int.natAbs_add_le x y
  rw [Nat.pow_succ]
  omega
theorem Rk.lt9 {x : Int} (h : x.natAbs < 2 ^ 4000) : x.natAbs < 2 ^ 9000 := Nat.lt_of_lt_of_le h (Nat.pow_le_pow_right (by decide) (by decide))
theorem Rk.den_lt {a b : R} (ha : Rk a) (hb : Rk b) : (a.2 * b.2).natAbs < 2 ^ 9000 := nat_mul_lt ha.d hb.d (by decide)
theorem Rk.num_lt {a b : R} (ha : Rk a) (hb : Rk b) : (a.1 * b.2 + b.1 * a.2).natAbs < 2 ^ 9000 :=
  Nat.lt_of_lt_of_le (nat_add_lt (a := 8000) (nat_mul_lt ha.n hb.d (by decide)) (nat_mul_lt hb.n ha.d (by decide))) (Nat.pow_le_pow_right (by decide) (by decide))
theorem Rk.mul_lt {a b : R} (ha : Rk a) (hb : Rk b) : (a.1 * b.1).natAbs < 2 ^ 9000 := nat_mul_lt ha.n hb.n (by decide)
theorem mkR_snd_le {n d : Int} (h : 0 < d) : (mkR n d).2 ≤ d := by
  have h1 := mkR_den_mul (n := n) h
  have h2 := gI_pos (a := n) (b := d) (by omega)
  have h3 := mkR_den (n := n) h
  have h4 : (mkR n d).2 * 1 ≤ (mkR n d).2 * gI n d := Int.mul_le_mul_of_nonneg_left (by omega) (by omega)
  omega
/-! ### Euclid's steps -/
/-- the state of the loop behind i turns: the divisor falls fast -/
def EuOk (A B a b : Int) (i : Nat) : Prop := 0 ≤ a ∧ 0 ≤ b ∧ gI a b = gI A B ∧ (i = 0 ∨ (b < a ∧ (a * b).natAbs * 2 ^ (i - 1) < 2 ^ 18000) ∨ b = 0)
theorem EuOk.step {A B a b : Int} {i : Nat} (h : EuOk A B a b i) (hb : b ≠ 0) (hA : a.natAbs < 2 ^ 9000 ∨ 0 < i) (hB : b.natAbs < 2 ^ 9000 ∨ 0 < i) : EuOk A B b (a % b) (i + 1) := by
  obtain ⟨h0, h1, hg, h2⟩ := h
  have hb0 : 0 < b := by omega
  have m0 := Int.emod_nonneg a hb
  have m1 := Int.emod_lt_of_pos a hb0
  refine ⟨h1, m0, by rw [gI_step h0 hb0]; exact hg, .inr (.inl ⟨m1, ?_⟩)⟩
  rw [Nat.add_sub_cancel]
  rcases h2 with rfl | ⟨hlt, hz⟩ | h
  · rw [Nat.pow_zero, Nat.mul_one]
    have hB' : b.natAbs < 2 ^ 9000 := hB.resolve_right (by omega)
    exact nat_mul_lt hB' (Nat.lt_of_le_of_lt (by omega) hB') (by decide)
  · by_cases hi : i = 0
    · subst hi
      rw [Nat.pow_zero, Nat.mul_one]
      have hB' : b.natAbs < 2 ^ 9000 := hB.resolve_right (by omega)
      exact nat_mul_lt hB' (Nat.lt_of_le_of_lt (by omega) hB') (by decide)
    · obtain ⟨j, rfl⟩ : ∃ j, i = j + 1 := ⟨i - 1, by omega⟩
      rw [Nat.add_sub_cancel] at hz
      -- b * (a % b) * 2 ≤ a * b
      have hq : 1 ≤ a / b := Int.le_ediv_of_mul_le hb0 (by omega)
      have e := Int.mul_ediv_add_emod a b
      have hq2 : b * 1 ≤ b * (a / b) := Int.mul_le_mul_of_nonneg_left hq (by omega)
      have h3 : a % b * 2 ≤ a := by omega
      have h4 : b * (a % b * 2) ≤ b * a := Int.mul_le_mul_of_nonneg_left h3 (by omega)
      have n1 : 0 ≤ b * (a % b) := Int.mul_nonneg h1 m0
      have n2 : 0 ≤ a * b := Int.mul_nonneg h0 h1
      have e2 : b * (a % b * 2) = b * (a % b) * 2 := (Int.mul_assoc _ _ _).symm
      have e3 : b * a = a * b := Int.mul_comm _ _
      have h5 : (b * (a % b)).natAbs * 2 ≤ (a * b).natAbs := by omega
      rw [Nat.pow_succ, Nat.mul_comm (2 ^ j) 2, ← Nat.mul_assoc]
      exact Nat.lt_of_le_of_lt (Nat.mul_le_mul_right _ h5) hz
  · exact absurd h hb
theorem EuOk.done {A B a b : Int} {i : Nat} (h : EuOk A B a b i) (hi : 18001 ≤ i) : b = 0 := by
  obtain ⟨h0, h1, hg, h2⟩ := h
  rcases h2 with rfl | ⟨hlt, hz⟩ | h
  · omega
  · by_cases hb : b = 0
    · exact hb
    · have p : 0 < a * b := Int.mul_pos (by omega) (by omega)
      have p2 : 1 ≤ (a * b).natAbs := by omega
      have h3 : 2 ^ 18000 ≤ 2 ^ (i - 1) := Nat.pow_le_pow_right (by decide) (by omega)
      have h4 : 1 * 2 ^ (i - 1) ≤ (a * b).natAbs * 2 ^ (i - 1) := Nat.mul_le_mul_right _ p2
      omega
  · exact h
theorem EuOk.val {A B a b : Int} {i : Nat} (h : EuOk A B a b i) (hb : b = 0) : a = gI A B := by
  subst hb
  rw [← h.2.2.1, gI_zero_r a h.1]
theorem EuOk.start {A B a b : Int} (ha : a = A.natAbs) (hb : b = B.natAbs) : EuOk A B a b 0 := by
  subst ha hb
  refine ⟨by omega, by omega, ?_, .inl rfl⟩
  unfold gI
  simp
end Rt

namespace Wp
open PySem PySem.Spec L2 DL
def top (i : Nat) : Stmt := PySem.Challenge.pw_wishpanes_k50_codes_run.main.body.getD i (.Pass ⟨0, 0, 0, 0⟩)
abbrev s_ratio : Stmt := top 2
abbrev s_plus : Stmt := top 3
abbrev s_times : Stmt := top 4
abbrev s_line_value : Stmt := top 6
abbrev s_run_code : Stmt := top 7
abbrev s_law_begin : Stmt := top 9
abbrev s_law_draw : Stmt := top 10
abbrev s_law_pick : Stmt := top 11
abbrev s_law_pop : Stmt := top 12
abbrev s_law_rare : Stmt := top 13
abbrev s_law_gcd : Stmt := top 14
abbrev s_law_r : Stmt := top 15
abbrev s_law_add : Stmt := top 16
abbrev s_law_mul : Stmt := top 17
abbrev s_law_is_int : Stmt := top 18
abbrev s_law_is_r : Stmt := top 19
abbrev s_law_sum : Stmt := top 20
abbrev s_law_number : Stmt := top 21
abbrev s_law_is_layout : Stmt := top 22
abbrev s_law_share : Stmt := top 23
abbrev s_law_slot_sum : Stmt := top 24
abbrev s_law_test_sum : Stmt := top 25
abbrev s_law_merge : Stmt := top 26
abbrev s_law_stretch : Stmt := top 27
abbrev s_law_flat : Stmt := top 28
abbrev s_law_line_worth : Stmt := top 29
abbrev s_law_walked : Stmt := top 30
abbrev s_law_free_values : Stmt := top 31
abbrev s_law_good_run : Stmt := top 32
abbrev s_law : Stmt := top 33
open Rt
/-! ### what the defs promise -/
def encR (a : R) : D := .tup [.int a.1, .int a.2]
def sp_ratio : SpD := fun ds M Q => ∃ n d, ds = [.int n, .int d] ∧ 0 < d ∧ d.natAbs < 2 ^ 9000 ∧ Q (encR (mkR n d)) M
def sp_plus : SpD := fun ds M Q => ∃ a b, ds = [encR a, encR b] ∧ Rk a ∧ Rk b ∧ Q (encR (addR a b)) M
def sp_times : SpD := fun ds M Q => ∃ a b, ds = [encR a, encR b] ∧ Rk a ∧ Rk b ∧ Q (encR (mulR a b)) M
def sp_law_gcd : SpD := fun ds M Q => ∃ a b, ds = [.int a, .int b] ∧ a.natAbs < 2 ^ 9000 ∧ b.natAbs < 2 ^ 9000 ∧ Q (.int (gI a b)) M
def sp_law_r : SpD := fun ds M Q => ∃ n d, ds = [.int n, .int d] ∧ 0 < d ∧ n.natAbs < 2 ^ 9000 ∧ d.natAbs < 2 ^ 9000 ∧ Q (encR (mkR n d)) M
def sp_law_add : SpD := fun ds M Q => ∃ a b, ds = [encR a, encR b] ∧ Rk a ∧ Rk b ∧ Q (encR (addR a b)) M
def sp_law_mul : SpD := fun ds M Q => ∃ a b, ds = [encR a, encR b] ∧ Rk a ∧ Rk b ∧ Q (encR (mulR a b)) M
/-! ### draws -/
/-- the state of the draws stands at p -/
def DSt (M : HpD) (p : Addr) : Prop := ∃ (ns : List Int) (pos buf seed : Int) (x : D), M p = some (.lst [.lst (ns.map D.int), .int pos, .int buf, .int seed, x]) ∧ 0 ≤ pos
/-- something was drawn: p's state is one again, all else that stood stands -/
structure Dr (p : Addr) (M M' : HpD) : Prop where
  st : DSt M' p
  fr : ∀ b o, b ≠ p → M b = some o → M' b = some o
theorem Dr.refl {p : Addr} {M : HpD} (h : DSt M p) : Dr p M M := ⟨h, fun _ _ _ h => h⟩
theorem Dr.trans {p : Addr} {M M1 M2 : HpD} (a : Dr p M M1) (b : Dr p M1 M2) : Dr p M M2 := ⟨b.st, fun c o n h => b.fr c o n (a.fr c o n h)⟩
theorem Dr.items {p : Addr} {M M' : HpD} (h : Dr p M M') {x : D} {xs : List D} (e : itemsD M x = some xs) (n : x ≠ .ref p) : itemsD M' x = some xs := by
  cases x with
  | ref a => exact items_ref (h.fr a _ (fun z => n (by rw [z])) (items_ref' e))
  | _ => exact e
def sp_law_begin : SpD := fun ds M Q => ∃ ns, ds = [.scr ns] ∧ ns.length ≤ 63 ∧ ∀ p M', M p = none → DSt M' p → (∀ b o, M b = some o → M' b = some o) → Q (.ref p) M'
def sp_law_draw : SpD := fun ds M Q => ∃ p many, ds = [.ref p, .int many] ∧ 0 < many ∧ many ≤ 4611686018427387904 ∧ DSt M p ∧ ∀ r M', 0 ≤ r → r < many → Dr p M M' → Q (.int r) M'
def sp_law_pick : SpD := fun ds M Q => ∃ p row xs, ds = [.ref p, row] ∧ itemsD M row = some xs ∧ xs ≠ [] ∧ xs.length ≤ 1000000 ∧ row ≠ .ref p ∧ DSt M p ∧ ∀ x M', x ∈ xs → Dr p M M' → Q x M'
def sp_law_pop : SpD := fun ds M Q => ∃ p q xs, ds = [.ref p, .ref q] ∧ q ≠ p ∧ M q = some (.lst xs) ∧ xs ≠ [] ∧ xs.length ≤ 1000000 ∧ DSt M p ∧
  ∀ (i : Nat) x M', xs[i]? = some x → DSt M' p → M' q = some (.lst (xs.eraseIdx i)) → (∀ b o, b ≠ p → b ≠ q → M b = some o → M' b = some o) → Q x M'
def sp_law_rare : SpD := fun ds M Q => ∃ p many, ds = [.ref p, .int many] ∧ 0 < many ∧ many ≤ 1000000 ∧ DSt M p ∧ ∀ b M', Dr p M M' → Q (.bl b) M'
def sp_law_is_int : SpD := fun ds M Q => ∃ x n, ds = [x] ∧ kindD M x = some n ∧ Q (.bl (isiB n "int" && !isiB n "bool")) M
def sp_law_is_r : SpD := fun ds M Q => ∃ a : R, ds = [encR a] ∧ Rk a ∧ gI a.1 a.2 = 1 ∧ Q (.bl true) M
/-- a drawn number -/
structure Num (a : R) : Prop where
  cop : gI a.1 a.2 = 1
  rv : ∃ c : Int, 1 ≤ c ∧ c ≤ 6000 ∧ Rv c 4000000 a
/-- a number as it is drawn -/
structure Dn (a : R) : Prop where
  cop : gI a.1 a.2 = 1
  rv : ∃ c : Int, 1 ≤ c ∧ c ≤ 1000 ∧ Rv c 1000000 a
theorem Dn.num {a : R} (h : Dn a) : Num a := by
  obtain ⟨h1, c, h2, h3, h4⟩ := h
  exact ⟨h1, c, h2, by omega, h4.mono (Int.dvd_refl _) (by decide)⟩
def sp_law_number : SpD := fun ds M Q => ∃ p, ds = [.ref p] ∧ DSt M p ∧ ∀ a M', Dn a → Dr p M M' → Q (encR a) M'
def sp_law_share : SpD := fun ds M Q => ∃ p, ds = [.ref p] ∧ DSt M p ∧ ∀ a M', Rv 6 4 a → Dr p M M' → Q (encR a) M'
def sp_law_free_values : SpD := fun ds M Q => ∃ p many, ds = [.ref p, .int many] ∧ 0 ≤ many ∧ many ≤ 1000 ∧ DSt M p ∧ ∀ (xs : List R) M', xs.length = many.toNat → (∀ x ∈ xs, Dn x) → Dr p M M' → Q (.lst (xs.map encR)) M'
/-! ### line sums -/
abbrev T1 := Nat × R
abbrev LS := R × List T1
def encT (t : T1) : D := .tup [.int t.1, encR t.2]
def encLS (l : LS) : D := .tup [encR l.1, .tup (l.2.map encT)]
/-- parts with a slot and a share, at most three -/
def sp_law_sum : SpD := fun ds M Q => ∃ (x : D) (ps : List T1), ds = [x] ∧ itemsD M x = some (ps.map encT) ∧ ps.length ≤ 3 ∧ (∀ t ∈ ps, Rv 6 4 t.2) ∧
  ∀ ts : List T1, ts.length ≤ 3 → (∀ t ∈ ts, (∃ z, (t.1, z) ∈ ps) ∧ Rv 6 12 t.2) → Q (.tup (ts.map encT)) M
abbrev Fl := List Bool
def encB (b : Bool) : D := .int (if b = true then 1 else 0)
def encF (f : Fl) : D := .lst (f.map encB)
/-- a line sum over slots that are set -/
structure Uses (f : Fl) (l : LS) : Prop where
  num : Num l.1
  few : l.2.length ≤ 3
  ok : ∀ t ∈ l.2, f[t.1]? = some true ∧ Rv 6 12 t.2
def sp_law_slot_sum : SpD := fun ds M Q => ∃ (p : Addr) (f : Fl), ds = [.ref p, encF f] ∧ f.length ≤ 1000 ∧ DSt M p ∧ ∀ l M', Uses f l → Dr p M M' → Q (encLS l) M'
def sp_law_test_sum : SpD := fun ds M Q => ∃ (p : Addr) (f : Fl) (vs : List R), ds = [.ref p, encF f, .lst (vs.map encR)] ∧ f.length ≤ 1000 ∧ vs.length ≤ 1000 ∧ (∀ v ∈ vs, Dn v) ∧ (∀ i, i < vs.length → f[i]? = some true) ∧ DSt M p ∧
  ∀ l M', Uses f l → Dr p M M' → Q (encLS l) M'
def encO : Option Fl → D
  | none => .non
  | some f => encF f
def both (o : Option Fl) (f : Fl) : Fl := match o with
  | none => f
  | some g => List.zipWith (fun a b => a && b) g f
def sp_law_merge : SpD := fun ds M Q => ∃ (q : Addr) (g : Nat) (f : Fl) (st : List (Option Fl)), ds = [.ref q, .int g, encF f] ∧ M q = some (.lst (st.map encO)) ∧ g < st.length ∧ f.length ≤ 1000 ∧ (∀ h ∈ st, ∀ z, h = some z → z.length = f.length) ∧
  ∀ M', (∀ b o, b ≠ q → M b = some o → M' b = some o) → M' q = some (.lst ((st.set g (some (both (st[g]?.join) f))).map encO)) → Q .non M'
/-! ### steps -/
inductive Stp where
  | let_ (s : Nat) (l : LS) | test (l : LS) (st : Int) (g : Nat) | jump (g : Nat) | place (b : Nat) (e1 e2 e3 e4 : LS) | hide (b : Nat) | clash | fin
def encS : Stp → D
  | .let_ s l => .tup [.str "let", .int s, encLS l]
  | .test l st g => .tup [.str "test", encLS l, .int st, .int g]
  | .jump g => .tup [.str "jump", .int g]
  | .place b e1 e2 e3 e4 => .tup [.str "place", .int b, encLS e1, encLS e2, encLS e3, encLS e4]
  | .hide b => .tup [.str "hide", .int b]
  | .clash => .tup [.str "clash"]
  | .fin => .tup [.str "end"]
def Le (g f : Fl) : Prop := ∀ i : Nat, g[i]? = some true → f[i]? = some true
/-- the step at place i may stand there: len steps, F the flags by place -/
def SOk (k slots boxes len : Nat) (F : Nat → Fl) (i : Nat) : Stp → Prop
  | .let_ s l => Uses (F i) l ∧ k ≤ s ∧ s < slots ∧ i + 1 < len ∧ ∀ j : Nat, (F (i + 1))[j]? = some true → j = s ∨ (F i)[j]? = some true
  | .test l _ g => Uses (F i) l ∧ i + 1 < len ∧ i < g ∧ g < len ∧ Le (F (i + 1)) (F i) ∧ Le (F g) (F i)
  | .jump g => i < g ∧ g < len ∧ Le (F g) (F i)
  | .place b e1 e2 e3 e4 => Uses (F i) e1 ∧ Uses (F i) e2 ∧ Uses (F i) e3 ∧ Uses (F i) e4 ∧ b < boxes ∧ i + 1 < len ∧ Le (F (i + 1)) (F i)
  | .hide b => b < boxes ∧ i + 1 < len ∧ Le (F (i + 1)) (F i)
  | .clash => True
  | .fin => True
structure COk (k slots boxes : Nat) (ss : List Stp) : Prop where
  ks : k ≤ slots
  sl : slots ≤ 20
  bx : boxes ≤ 20
  few : ss.length ≤ 100
  some : 0 < ss.length
  flow : ∃ F : Nat → Fl, (∀ j : Nat, (F 0)[j]? = Option.some true → j < k) ∧ ∀ (i : Nat) (s : Stp), ss[i]? = Option.some s → SOk k slots boxes ss.length F i s
def encC (k slots boxes : Nat) (ss : List Stp) : D := .tup [.int k, .int slots, .int boxes, .tup (ss.map encS)]
/-- a stretch: each of its steps leads on within it, the last one ends -/
def StrOk (boxes start : Nat) (f : Fl) (ss : List Stp) : Prop :=
  ∀ (i : Nat) (s : Stp), ss[i]? = some s → match s with
    | .let_ _ _ => False
    | .test l _ g => Uses f l ∧ i + 1 < ss.length ∧ start + i < g ∧ g < start + ss.length
    | .jump g => start + i < g ∧ g < start + ss.length
    | .place b e1 e2 e3 e4 => Uses f e1 ∧ Uses f e2 ∧ Uses f e3 ∧ Uses f e4 ∧ b < boxes ∧ i + 1 < ss.length
    | .hide b => b < boxes ∧ i + 1 < ss.length
    | .clash => False
    | .fin => i + 1 = ss.length
def sp_law_stretch : SpD := fun ds M Q => ∃ (p : Addr) (f : Fl) (boxes start : Nat) (vs : List R), ds = [.ref p, encF f, .int boxes, .int start, .lst (vs.map encR)] ∧ f.length ≤ 1000 ∧ boxes ≤ 6 ∧ vs.length ≤ 1000 ∧ (∀ v ∈ vs, Dn v) ∧ (∀ i, i < vs.length → f[i]? = some true) ∧ DSt M p ∧
  ∀ (ss : List Stp) M', StrOk boxes start f ss → 0 < ss.length → ss.length ≤ 4 * boxes + 1 → Dr p M M' → Q (.lst (ss.map encS)) M'
def sp_law_flat : SpD := fun ds M Q => ∃ (p : Addr) (vs : List R), ds = [.ref p, .lst (vs.map encR)] ∧ vs.length ≤ 4 ∧ (∀ v ∈ vs, Dn v) ∧ DSt M p ∧
  ∀ (slots boxes : Nat) (ss : List Stp) M', COk vs.length slots boxes ss → Dr p M M' → Q (encC vs.length slots boxes ss) M'
/-! ### runs -/
abbrev Vs := List (Option R)
def encV : Option R → D
  | none => .non
  | some a => encR a
abbrev Pl := Option (List R)
def encP : Pl → D
  | none => .non
  | some es => .tup (es.map encR)
def encL : Option (List Pl) → D
  | none => .non
  | some ps => .tup (ps.map encP)
def lineF (v : Vs) (acc : R) (t : T1) : R := addR acc (mulR t.2 ((v[t.1]?.join).getD (0, 1)))
def lineW (l : LS) (v : Vs) : R := l.2.foldl (lineF v) l.1
/-- slots that are read have numbers within bounds -/
structure Ready (l : LS) (v : Vs) : Prop where
  num : Num l.1
  few : l.2.length ≤ 3
  ok : ∃ (L B : Int) (p q : Nat), 0 < L ∧ L.natAbs < 2 ^ p ∧ 4000000 ≤ B ∧ B.natAbs < 2 ^ q ∧ p + q ≤ 3900 ∧ ∀ t ∈ l.2, Rv 6 12 t.2 ∧ ∃ a, v[t.1]? = some (some a) ∧ Rv L B a
def sp_line_value : SpD := fun ds M Q => ∃ (l : LS) (x : D) (v : Vs), ds = [encLS l, x] ∧ itemsD M x = some (v.map encV) ∧ Ready l v ∧ Q (encR (lineW l v)) M
def sp_law_line_worth : SpD := sp_line_value
def go (ss : List Stp) : Nat → Nat → Vs → List Pl → Option (List Pl)
  | 0, _, _, p => some p
  | n + 1, i, v, p => match ss[i]? with
    | none => some p
    | some (.let_ s l) => go ss n (i + 1) (v.set s (some (lineW l v))) p
    | some (.test l st g) => if (lineW l v).1 < 0 ∨ ((lineW l v).1 = 0 ∧ st = 1) then go ss n g v p else go ss n (i + 1) v p
    | some (.jump g) => go ss n g v p
    | some (.place b e1 e2 e3 e4) => go ss n (i + 1) v (p.set b (some [lineW e1 v, lineW e2 v, lineW e3 v, lineW e4 v]))
    | some (.hide _) => go ss n (i + 1) v p
    | some .clash => none
    | some .fin => some p
def runC (slots boxes : Nat) (ss : List Stp) (pt : List R) : Option (List Pl) := go ss (ss.length + 1) 0 (pt.map some ++ List.replicate (slots - pt.length) none) (List.replicate boxes none)
def sp_run_code : SpD := fun ds M Q => ∃ (slots boxes : Nat) (ss : List Stp) (pt : List R), ds = [encC pt.length slots boxes ss, .tup (pt.map encR)] ∧ pt.length ≤ 4 ∧ COk pt.length slots boxes ss ∧ (∀ x ∈ pt, Num x) ∧ Q (encL (runC slots boxes ss pt)) M
def sp_law_walked : SpD := sp_run_code
/-- a layout as it should be -/
def LayOk (lay : Option (List Pl)) (many : Nat) : Prop := ∀ ps, lay = some ps → ps.length = many ∧ ∀ es, some es ∈ ps → es.length = 4 ∧ ∀ a ∈ es, Rk a ∧ gI a.1 a.2 = 1
def sp_law_is_layout : SpD := fun ds M Q => ∃ (lay : Option (List Pl)) (many : Nat), ds = [encL lay, .int many] ∧ many ≤ 1000 ∧ LayOk lay many ∧ Q (.bl true) M
def sp_law_good_run : SpD := fun ds M Q => ∃ (slots boxes : Nat) (ss : List Stp) (pt : List R), ds = [encC pt.length slots boxes ss, .tup (pt.map encR), encL (runC slots boxes ss pt)] ∧ pt.length ≤ 4 ∧ COk pt.length slots boxes ss ∧ (∀ x ∈ pt, Num x) ∧ Q (.bl true) M
def sp_law : SpD := fun ds M Q => ∃ ns : List Int, ds = [.scr ns] ∧ ns.length ≤ 63 ∧ ∀ M', Q (.bl true) M'
def sp_law_flat_act : SpD := fun _ _ _ => False
def sp_law_flat_body : SpD := fun _ _ _ => False
def sp_law_flat_told : SpD := fun _ _ _ => False
def sp_law_flat_after : SpD := fun _ _ _ => False
def sp_law_flat_tail : SpD := fun _ _ _ => False
def rd_ratio : TSD :=
    (dSeq (dIfS (dTest (dOp rLt' (dVar 1) (dC (.int 0)))) (dSeq (dAsg (dUn rNeg' (dVar 0)) (dgName 0))
    (dAsg (dUn rNeg' (dVar 1)) (dgName 1))) dNext)
    (dSeq (dIfS (dTest (dOp rEqS (dVar 1) (dC (.int 1)))) (dRet (dTup (dCons (dVar 0) (dCons (dC (.int 1)) dNil)))) dNext)
    (dSeq (dAsg (dCall cGcd' (dCons (dVar 0) (dCons (dVar 1) dNil))) (dgName 2))
    (dSeq (dIfS (dTest (dOp rEqS (dVar 2) (dC (.int 1)))) (dRet (dTup (dCons (dVar 0) (dCons (dVar 1) dNil)))) dNext)
    (dRet (dTup (dCons (dOp rDiv' (dVar 0) (dVar 2)) (dCons (dOp rDiv' (dVar 1) (dVar 2)) dNil))))))))
def rd_plus : TSD :=
    (dSeq (dIfS (dAnd (dTest (dOp rEqS (dOp rIxD (dVar 0) (dC (.int 1))) (dC (.int 1)))) (dTest (dOp rEqS (dOp rIxD (dVar 1) (dC (.int 1))) (dC (.int 1))))) (dRet (dTup (dCons (dOp rAdd' (dOp rIxD (dVar 0) (dC (.int 0))) (dOp rIxD (dVar 1) (dC (.int 0)))) (dCons (dC (.int 1)) dNil)))) dNext)
    (dRet (dCall sp_ratio (dCons (dOp rAdd' (dOp rMul' (dOp rIxD (dVar 0) (dC (.int 0))) (dOp rIxD (dVar 1) (dC (.int 1)))) (dOp rMul' (dOp rIxD (dVar 1) (dC (.int 0))) (dOp rIxD (dVar 0) (dC (.int 1))))) (dCons (dOp rMul' (dOp rIxD (dVar 0) (dC (.int 1))) (dOp rIxD (dVar 1) (dC (.int 1)))) dNil)))))
def rd_times : TSD :=
    (dSeq (dIfS (dAnd (dTest (dOp rEqS (dOp rIxD (dVar 0) (dC (.int 1))) (dC (.int 1)))) (dTest (dOp rEqS (dOp rIxD (dVar 1) (dC (.int 1))) (dC (.int 1))))) (dRet (dTup (dCons (dOp rMul' (dOp rIxD (dVar 0) (dC (.int 0))) (dOp rIxD (dVar 1) (dC (.int 0)))) (dCons (dC (.int 1)) dNil)))) dNext)
    (dRet (dCall sp_ratio (dCons (dOp rMul' (dOp rIxD (dVar 0) (dC (.int 0))) (dOp rIxD (dVar 1) (dC (.int 0)))) (dCons (dOp rMul' (dOp rIxD (dVar 0) (dC (.int 1))) (dOp rIxD (dVar 1) (dC (.int 1)))) dNil)))))
def rd_line_value : TSD :=
    (dSeq (dAsg (dOp rIxD (dVar 0) (dC (.int 0))) (dgName 2))
    (dSeq (dFor (diSeq (dOp rIxD (dVar 0) (dC (.int 1)))) (dgTup 2 (dgCons (dgName 3) (dgCons (dgName 4) dgNil)))
    (dAsg (dCall sp_plus (dCons (dVar 2) (dCons (dCall sp_times (dCons (dVar 4) (dCons (dOp rIxD (dVar 1) (dVar 3)) dNil))) dNil))) (dgName 2)))
    (dRet (dVar 2))))
def rd_run_code : TSD :=
    (dSeq (dAsg (dVar 0) (dgTup 4 (dgCons (dgName 2) (dgCons (dgName 3) (dgCons (dgName 4) (dgCons (dgName 5) dgNil))))))
    (dSeq (dAsg (dOp (rCatD kM) (dCall cListF' (dCons (dVar 1) dNil)) (dOp (rRepD kF) (dLst (dCons (dC .non) dNil)) (dOp rSub' (dVar 3) (dVar 2)))) (dgName 6))
    (dSeq (dAsg (dOp (rRepD kM) (dLst (dCons (dC .non) dNil)) (dVar 4)) (dgName 7))
    (dSeq (dAsg (dC (.int 0)) (dgName 8))
    (dSeq (dWhile (dTest (dOp rLt' (dVar 8) (dCall cLen' (dCons (dVar 5) dNil))))
    (dSeq (dAsg (dOp rIxD (dVar 5) (dVar 8)) (dgName 9))
    (dSeq (dAsg (dOp rIxD (dVar 9) (dC (.int 0))) (dgName 10))
    (dSeq (dAug 8 (dC (.int 1)) rAdd')
    (dIfS (dTest (dOp rEqS (dVar 10) (dC (.str "let")))) (dAsg (dCall sp_line_value (dCons (dOp rIxD (dVar 9) (dC (.int 2))) (dCons (dVar 6) dNil))) (dgSub (dVar 6) (dOp rIxD (dVar 9) (dC (.int 1))) rSetD)) (dIfS (dTest (dOp rEqS (dVar 10) (dC (.str "test")))) (dSeq (dAsg (dCall sp_line_value (dCons (dOp rIxD (dVar 9) (dC (.int 1))) (dCons (dVar 6) dNil))) (dgName 11))
    (dIfS (dOr (dTest (dOp rLt' (dOp rIxD (dVar 11) (dC (.int 0))) (dC (.int 0)))) (dAnd (dTest (dOp rEqS (dOp rIxD (dVar 11) (dC (.int 0))) (dC (.int 0)))) (dTest (dOp rEqS (dOp rIxD (dVar 9) (dC (.int 2))) (dC (.int 1)))))) (dAsg (dOp rIxD (dVar 9) (dC (.int 3))) (dgName 8)) dNext)) (dIfS (dTest (dOp rEqS (dVar 10) (dC (.str "jump")))) (dAsg (dOp rIxD (dVar 9) (dC (.int 1))) (dgName 8)) (dIfS (dTest (dOp rEqS (dVar 10) (dC (.str "place")))) (dAsg (dCall cTuple' (dCons (dFrz (dLc (diSeq (dSl slTup' (dVar 9) (dPart (dC (.int 2))) dNoPart)) (.one 12) dYes (dCall sp_line_value (dCons (dVar 12) (dCons (dVar 6) dNil))) [12])) dNil)) (dgSub (dVar 7) (dOp rIxD (dVar 9) (dC (.int 1))) rSetD)) (dIfS (dTest (dOp rEqS (dVar 10) (dC (.str "clash")))) (dRet (dC .non)) (dIfS (dTest (dOp rEqS (dVar 10) (dC (.str "end")))) dBreak dNext))))))))))
    (dRet (dCall cTuple' (dCons (dVar 7) dNil))))))))
def rd_law_begin : TSD :=
    (dRet (dLstM (dCons (dFrz (dLc (diSeq (dVar 0)) (.one 1) dYes (dCall cInti' (dCons (dVar 1) dNil)) [1])) (dCons (dC (.int 0)) (dCons (dC (.int 0)) (dCons (dC (.int 7)) (dCons (dC (.int 3)) dNil)))))))
def rd_law_draw : TSD :=
    (dSeq (dIfS (dTest (dOp rGt' (dOp rIxD (dVar 0) (dC (.int 2))) (dC (.int 0)))) (dSeq (dAsg (dOp rIxD (dVar 0) (dC (.int 2))) (dgName 2))
    (dSeq (dAsg (dOp rDiv' (dVar 2) (dVar 1)) (dgSub (dVar 0) (dC (.int 2)) rSetD))
    (dRet (dOp rMod' (dCall cInti' (dCons (dVar 2) dNil)) (dVar 1))))) dNext)
    (dSeq (dAsg (dC (.int 0)) (dgName 3))
    (dSeq (dIfS (dTest (dOp rLt' (dOp rIxD (dVar 0) (dC (.int 1))) (dCall cLen' (dCons (dOp rIxD (dVar 0) (dC (.int 0))) dNil)))) (dSeq (dAsg (dOp rIxD (dOp rIxD (dVar 0) (dC (.int 0))) (dOp rIxD (dVar 0) (dC (.int 1)))) (dgName 4))
    (dAsg (dOp rAdd' (dOp rMul' (dC (.int 2)) (dCall cAbs' (dCons (dVar 4) dNil))) (dCall cIntb' (dCons (dOp rLt' (dVar 4) (dC (.int 0))) dNil))) (dgName 3))) dNext)
    (dSeq (dAugS (dVar 0) (dC (.int 1)) (dC (.int 1)) rAdd')
    (dSeq (dIfS (dTest (dOp rGe' (dVar 3) (dOp rMul' (dC (.int 2)) (dOp rPow' (dC (.int 10)) (dC (.int 18)))))) (dSeq (dAsg (dOp rMod' (dCall cInti' (dCons (dOp rDiv' (dVar 3) (dC (.int 2))) dNil)) (dOp rShl' (dC (.int 1)) (dC (.int 6000)))) (dgName 2))
    (dSeq (dAsg (dOp rDiv' (dVar 2) (dVar 1)) (dgSub (dVar 0) (dC (.int 2)) rSetD))
    (dRet (dOp rMod' (dCall cInti' (dCons (dVar 2) dNil)) (dVar 1))))) dNext)
    (dSeq (dAsg (dOp rMod' (dCall cInti' (dCons (dOp rAdd' (dOp rAdd' (dOp rAdd' (dOp rMul' (dOp rIxD (dVar 0) (dC (.int 3))) (dC (.int 48271))) (dOp rMul' (dOp rMod' (dCall cInti' (dCons (dVar 3) dNil)) (dC (.int 2147483629))) (dC (.int 16807)))) (dOp rMul' (dOp rIxD (dVar 0) (dC (.int 1))) (dC (.int 69621)))) (dC (.int 11))) dNil)) (dC (.int 2147483647))) (dgSub (dVar 0) (dC (.int 3)) rSetD))
    (dRet (dOp rMod' (dCall cInti' (dCons (dOp rDiv' (dOp rIxD (dVar 0) (dC (.int 3))) (dC (.int 16))) dNil)) (dVar 1)))))))))
def rd_law_pick : TSD :=
    (dRet (dOp rIxD (dVar 1) (dCall sp_law_draw (dCons (dVar 0) (dCons (dCall cLen' (dCons (dVar 1) dNil)) dNil)))))
def rd_law_pop : TSD :=
    (dRet (dBM mPopAt' (dVar 1) (dCons (dCall sp_law_draw (dCons (dVar 0) (dCons (dCall cLen' (dCons (dVar 1) dNil)) dNil))) dNil)))
def rd_law_rare : TSD :=
    (dRet (dOp rEqS (dCall sp_law_draw (dCons (dVar 0) (dCons (dVar 1) dNil))) (dOp rDiv' (dVar 1) (dC (.int 2)))))
def rd_law_gcd : TSD :=
    (dSeq (dAsg (dCall cAbs' (dCons (dVar 0) dNil)) (dgName 0))
    (dSeq (dAsg (dCall cAbs' (dCons (dVar 1) dNil)) (dgName 1))
    (dSeq (dFor (diRng1 (dCons (dC (.int 100000)) dNil)) (dgName 2)
    (dSeq (dIfS (dTest (dOp rEqS (dVar 1) (dC (.int 0)))) dBreak dNext)
    (dPar 0 1 (dCons (dVar 1) (dCons (dOp rMod' (dCall cInti' (dCons (dVar 0) dNil)) (dVar 1)) dNil)))))
    (dRet (dVar 0)))))
def rd_law_r : TSD :=
    (dSeq (dIfS (dTest (dOp rLt' (dVar 1) (dC (.int 0)))) (dSeq (dAsg (dUn rNeg' (dVar 0)) (dgName 0))
    (dAsg (dUn rNeg' (dVar 1)) (dgName 1))) dNext)
    (dSeq (dAsg (dCall sp_law_gcd (dCons (dVar 0) (dCons (dVar 1) dNil))) (dgName 2))
    (dRet (dTup (dCons (dOp rDiv' (dVar 0) (dVar 2)) (dCons (dOp rDiv' (dVar 1) (dVar 2)) dNil))))))
def rd_law_add : TSD :=
    (dRet (dCall sp_law_r (dCons (dOp rAdd' (dOp rMul' (dOp rIxD (dVar 0) (dC (.int 0))) (dOp rIxD (dVar 1) (dC (.int 1)))) (dOp rMul' (dOp rIxD (dVar 1) (dC (.int 0))) (dOp rIxD (dVar 0) (dC (.int 1))))) (dCons (dOp rMul' (dOp rIxD (dVar 0) (dC (.int 1))) (dOp rIxD (dVar 1) (dC (.int 1)))) dNil))))
def rd_law_mul : TSD :=
    (dRet (dCall sp_law_r (dCons (dOp rMul' (dOp rIxD (dVar 0) (dC (.int 0))) (dOp rIxD (dVar 1) (dC (.int 0)))) (dCons (dOp rMul' (dOp rIxD (dVar 0) (dC (.int 1))) (dOp rIxD (dVar 1) (dC (.int 1)))) dNil))))
def rd_law_is_int : TSD :=
    (dRet (dAndV (dCall (cIsiT' "int") (dCons (dVar 0) (dCons (dC (.ty "int")) dNil))) (dNotV (dCall (cIsiT' "bool") (dCons (dVar 0) (dCons (dC (.ty "bool")) dNil))))))
def rd_law_is_r : TSD :=
    (dSeq (dIfS (dOr (dNot (dTest (dCall (cIsiT' "tuple") (dCons (dVar 0) (dCons (dC (.ty "tuple")) dNil))))) (dTest (dOp rNeS (dCall cLen' (dCons (dVar 0) dNil)) (dC (.int 2))))) (dRet (dC (.bl false))) dNext)
    (dSeq (dIfS (dOr (dNot (dTest (dCall sp_law_is_int (dCons (dOp rIxD (dVar 0) (dC (.int 0))) dNil)))) (dOr (dNot (dTest (dCall sp_law_is_int (dCons (dOp rIxD (dVar 0) (dC (.int 1))) dNil)))) (dTest (dOp rLt' (dOp rIxD (dVar 0) (dC (.int 1))) (dC (.int 1)))))) (dRet (dC (.bl false))) dNext)
    (dRet (dOp rEqS (dCall sp_law_gcd (dCons (dOp rIxD (dVar 0) (dC (.int 0))) (dCons (dOp rIxD (dVar 0) (dC (.int 1))) dNil))) (dC (.int 1))))))
def rd_law_sum : TSD :=
    (dSeq (dAsg dDNew (dgName 1))
    (dSeq (dFor (diSeq (dVar 0)) (dgTup 2 (dgCons (dgName 2) (dgCons (dgName 3) dgNil)))
    (dDPut (dVar 1) (dVar 2) (dCall sp_law_add (dCons (dDGet2 (dVar 1) (dVar 2) (dTup (dCons (dC (.int 0)) (dCons (dC (.int 1)) dNil)))) (dCons (dVar 3) dNil)))))
    (dRet (dCall cTuple' (dCons (dFrz (dLc (diSeq (dCall cSortDI' (dCons (dVar 1) dNil))) (.one 2) (dTest (dOp rNeS (dOp rIxD (dDGet (dVar 1) (dVar 2)) (dC (.int 0))) (dC (.int 0)))) (dTup (dCons (dVar 2) (dCons (dDGet (dVar 1) (dVar 2)) dNil))) [2])) dNil)))))
def rd_law_number : TSD :=
    (dSeq (dIfS (dTest (dCall sp_law_rare (dCons (dVar 0) (dCons (dC (.int 12)) dNil)))) (dRet (dCall sp_law_r (dCons (dOp rSub' (dCall sp_law_draw (dCons (dVar 0) (dCons (dC (.int 2000001)) dNil))) (dC (.int 1000000))) (dCons (dOp rAdd' (dC (.int 1)) (dCall sp_law_draw (dCons (dVar 0) (dCons (dC (.int 1000)) dNil)))) dNil)))) dNext)
    (dRet (dCall sp_law_r (dCons (dOp rSub' (dOp rMul' (dCall sp_law_draw (dCons (dVar 0) (dCons (dC (.int 33)) dNil))) (dC (.int 5))) (dC (.int 60))) (dCons (dCall sp_law_pick (dCons (dVar 0) (dCons (dLst (dCons (dC (.int 1)) (dCons (dC (.int 1)) (dCons (dC (.int 1)) (dCons (dC (.int 2)) (dCons (dC (.int 3)) dNil)))))) dNil))) dNil)))))
def rd_law_is_layout : TSD :=
    (dSeq (dIfS (dTest (dOp rIs' (dVar 0) (dC .non))) (dRet (dC (.bl true))) dNext)
    (dSeq (dIfS (dOr (dNot (dTest (dCall (cIsiT' "tuple") (dCons (dVar 0) (dCons (dC (.ty "tuple")) dNil))))) (dTest (dOp rNeS (dCall cLen' (dCons (dVar 0) dNil)) (dVar 1)))) (dRet (dC (.bl false))) dNext)
    (dSeq (dFor (diSeq (dVar 0)) (dgName 2)
    (dSeq (dIfS (dTest (dOp rIs' (dVar 2) (dC .non))) dCont dNext)
    (dIfS (dOr (dNot (dTest (dCall (cIsiT' "tuple") (dCons (dVar 2) (dCons (dC (.ty "tuple")) dNil))))) (dOr (dTest (dOp rNeS (dCall cLen' (dCons (dVar 2) dNil)) (dC (.int 4)))) (dNot (dTest (dCall cAll' (dCons (dFrz (dLc (diSeq (dVar 2)) (.one 3) dYes (dCall sp_law_is_r (dCons (dVar 3) dNil)) [3])) dNil)))))) (dRet (dC (.bl false))) dNext)))
    (dRet (dC (.bl true))))))
def rd_law_share : TSD :=
    (dRet (dCall sp_law_r (dCons (dOp rSub' (dCall sp_law_draw (dCons (dVar 0) (dCons (dC (.int 9)) dNil))) (dC (.int 4))) (dCons (dOp rAdd' (dC (.int 1)) (dCall sp_law_draw (dCons (dVar 0) (dCons (dC (.int 3)) dNil)))) dNil))))
def rd_law_slot_sum : TSD :=
    (dSeq (dAsgF (dLc (diRng1 (dCons (dCall cLen' (dCons (dVar 1) dNil)) dNil)) (.one 2) (dTest (dOp rEqS (dOp rIxD (dVar 1) (dVar 2)) (dC (.int 1)))) (dVar 2) [2]) 3)
    (dSeq (dAsg (dLstM dNil) (dgName 4))
    (dSeq (dFor (diRng1 (dCons (dCall sp_law_draw (dCons (dVar 0) (dCons (dC (.int 4)) dNil))) dNil)) (dgName 5)
    (dIfS (dTest (dOp rGt' (dCall cLen' (dCons (dVar 3) dNil)) (dC (.int 0)))) (dDrop (dBM mAppend' (dVar 4) (dCons (dTup (dCons (dCall sp_law_pick (dCons (dVar 0) (dCons (dVar 3) dNil))) (dCons (dCall sp_law_share (dCons (dVar 0) dNil)) dNil))) dNil))) dNext))
    (dRet (dTup (dCons (dCall sp_law_number (dCons (dVar 0) dNil)) (dCons (dCall sp_law_sum (dCons (dVar 4) dNil)) dNil)))))))
def rd_law_test_sum : TSD :=
    (dSeq (dIfS (dAnd (dTest (dOp rGt' (dCall cLen' (dCons (dVar 2) dNil)) (dC (.int 0)))) (dTest (dOp rEqS (dCall sp_law_draw (dCons (dVar 0) (dCons (dC (.int 3)) dNil))) (dC (.int 0))))) (dSeq (dAsg (dCall sp_law_draw (dCons (dVar 0) (dCons (dCall cLen' (dCons (dVar 2) dNil)) dNil))) (dgName 3))
    (dSeq (dAsg (dCall sp_law_pick (dCons (dVar 0) (dCons (dLst (dCons (dTup (dCons (dC (.int 1)) (dCons (dC (.int 1)) dNil))) (dCons (dTup (dCons (dUn rNeg' (dC (.int 1))) (dCons (dC (.int 1)) dNil))) (dCons (dTup (dCons (dC (.int 1)) (dCons (dC (.int 2)) dNil))) (dCons (dTup (dCons (dUn rNeg' (dC (.int 2))) (dCons (dC (.int 3)) dNil))) dNil))))) dNil))) (dgName 4))
    (dRet (dTup (dCons (dCall sp_law_mul (dCons (dVar 4) (dCons (dTup (dCons (dUn rNeg' (dOp rIxD (dOp rIxD (dVar 2) (dVar 3)) (dC (.int 0)))) (dCons (dOp rIxD (dOp rIxD (dVar 2) (dVar 3)) (dC (.int 1))) dNil))) dNil))) (dCons (dTup (dCons (dTup (dCons (dVar 3) (dCons (dVar 4) dNil))) dNil)) dNil)))))) dNext)
    (dRet (dCall sp_law_slot_sum (dCons (dVar 0) (dCons (dVar 1) dNil)))))
def rd_law_merge : TSD :=
    (dIfS (dTest (dOp rIs' (dOp rIxD (dVar 0) (dVar 1)) (dC .non))) (dAsg (dCall cListF' (dCons (dVar 2) dNil)) (dgSub (dVar 0) (dVar 1) rSetD)) (dAsg (dFrz (dLc (diZip (dCons (dOp rIxD (dVar 0) (dVar 1)) (dCons (dVar 2) dNil))) (.many [3, 4]) dYes (dOp rMul' (dVar 3) (dVar 4)) [3, 4])) (dgSub (dVar 0) (dVar 1) rSetD)))
def rd_law_stretch : TSD :=
    (dSeq (dAsg (dLstM dNil) (dgName 5))
    (dSeq (dAsg (dLc (diRng1 (dCons (dVar 2) dNil)) (.one 6) dYes (dVar 6) [6]) (dgName 7))
    (dSeq (dFor (diRng1 (dCons (dVar 2) dNil)) (dgName 8)
    (dSeq (dAsg (dCall sp_law_pop (dCons (dVar 0) (dCons (dVar 7) dNil))) (dgName 6))
    (dSeq (dAsg (dCall sp_law_draw (dCons (dVar 0) (dCons (dC (.int 6)) dNil))) (dgName 9))
    (dSeq (dAsg (dOp rCatT' (dTup (dCons (dC (.str "place")) (dCons (dVar 6) dNil))) (dCall cTuple' (dCons (dFrz (dLc (diRng1 (dCons (dC (.int 4)) dNil)) (.one 10) dYes (dCall sp_law_slot_sum (dCons (dVar 0) (dCons (dVar 1) dNil))) [10])) dNil))) (dgName 11))
    (dSeq (dAsg (dOp rAdd' (dVar 3) (dCall cLen' (dCons (dVar 5) dNil))) (dgName 12))
    (dIfS (dTest (dOp rEqS (dVar 9) (dC (.int 0)))) (dDrop (dBM mAppend' (dVar 5) (dCons (dTup (dCons (dC (.str "hide")) (dCons (dVar 6) dNil))) dNil))) (dIfS (dTest (dOp rEqS (dVar 9) (dC (.int 1)))) (dSeq (dAsg (dTup (dCons (dC (.str "test")) (dCons (dCall sp_law_test_sum (dCons (dVar 0) (dCons (dVar 1) (dCons (dVar 4) dNil)))) (dCons (dCall sp_law_draw (dCons (dVar 0) (dCons (dC (.int 2)) dNil))) (dCons (dOp rAdd' (dVar 12) (dC (.int 3))) dNil))))) (dgName 13))
    (dAsg (dOp (rCatD kM) (dVar 5) (dLst (dCons (dVar 13) (dCons (dVar 11) (dCons (dTup (dCons (dC (.str "jump")) (dCons (dOp rAdd' (dVar 12) (dC (.int 4))) dNil))) (dCons (dTup (dCons (dC (.str "hide")) (dCons (dVar 6) dNil))) dNil)))))) (dgName 5))) (dDrop (dBM mAppend' (dVar 5) (dCons (dVar 11) dNil))))))))))
    (dRet (dOp (rCatD kF) (dVar 5) (dLst (dCons (dTup (dCons (dC (.str "end")) dNil)) dNil)))))))
def rd_law_flat_act : TSD :=
    (dIfS (dAnd (dTest (dOp rLt' (dVar 11) (dC (.int 4)))) (dTest (dOp rGt' (dVar 3) (dVar 2)))) (dSeq (dAsg (dOp rAdd' (dVar 2) (dCall sp_law_draw (dCons (dVar 0) (dCons (dOp rSub' (dVar 3) (dVar 2)) dNil)))) (dgName 13))
    (dSeq (dDrop (dBM mAppend' (dVar 8) (dCons (dTup (dCons (dC (.str "let")) (dCons (dVar 13) (dCons (dCall sp_law_slot_sum (dCons (dVar 0) (dCons (dVar 10) dNil))) dNil)))) dNil)))
    (dDrop (dCall sp_law_merge (dCons (dVar 7) (dCons (dOp rAdd' (dVar 9) (dC (.int 1))) (dCons (dFrz (dLc (diRng1 (dCons (dVar 3) dNil)) (.one 14) dYes (dCall cIntb' (dCons (dOrV (dOp rEqS (dOp rIxD (dVar 10) (dVar 14)) (dC (.int 1))) (dOp rEqS (dVar 14) (dVar 13))) dNil)) [14])) dNil))))))) (dIfS (dTest (dOp rEqS (dVar 11) (dC (.int 6)))) (dSeq (dDrop (dBM mAppend' (dVar 8) (dCons (dTup (dCons (dC (.str "jump")) (dCons (dVar 12) dNil))) dNil)))
    (dDrop (dCall sp_law_merge (dCons (dVar 7) (dCons (dVar 12) (dCons (dVar 10) dNil)))))) (dIfS (dAnd (dTest (dOp rEqS (dVar 11) (dC (.int 7)))) (dTest (dOp rEqS (dCall sp_law_draw (dCons (dVar 0) (dCons (dC (.int 3)) dNil))) (dC (.int 0))))) (dDrop (dBM mAppend' (dVar 8) (dCons (dTup (dCons (dC (.str "clash")) dNil)) dNil))) (dSeq (dDrop (dBM mAppend' (dVar 8) (dCons (dTup (dCons (dC (.str "test")) (dCons (dCall sp_law_test_sum (dCons (dVar 0) (dCons (dVar 10) (dCons (dVar 1) dNil)))) (dCons (dCall sp_law_draw (dCons (dVar 0) (dCons (dC (.int 2)) dNil))) (dCons (dVar 12) dNil))))) dNil)))
    (dSeq (dDrop (dCall sp_law_merge (dCons (dVar 7) (dCons (dOp rAdd' (dVar 9) (dC (.int 1))) (dCons (dVar 10) dNil)))))
    (dDrop (dCall sp_law_merge (dCons (dVar 7) (dCons (dVar 12) (dCons (dVar 10) dNil))))))))))
def rd_law_flat_body : TSD :=
    (dSeq (dAsg (dIf (dTest (dOp rIsnot' (dOp rIxD (dVar 7) (dVar 9)) (dC .non))) (dOp rIxD (dVar 7) (dVar 9)) (dVar 6)) (dgName 10))
    (dSeq (dAsg (dCall sp_law_draw (dCons (dVar 0) (dCons (dC (.int 8)) dNil))) (dgName 11))
    (dSeq (dAsg (dOp rAdd' (dOp rAdd' (dVar 9) (dC (.int 1))) (dCall sp_law_draw (dCons (dVar 0) (dCons (dOp rSub' (dOp rAdd' (dVar 5) (dC (.int 1))) (dVar 9)) dNil)))) (dgName 12))
    (dSeq (dIfS (dTest (dOp rGt' (dCall sp_law_draw (dCons (dVar 0) (dCons (dC (.int 3)) dNil))) (dC (.int 0)))) (dAsg (dCall cMin' (dCons (dVar 12) (dCons (dOp rAdd' (dOp rAdd' (dVar 9) (dC (.int 1))) (dCall sp_law_draw (dCons (dVar 0) (dCons (dC (.int 4)) dNil)))) dNil))) (dgName 12)) dNext)
    rd_law_flat_act))))
def rd_law_flat_told : TSD :=
    (dSeq (dAsg (dLstM dNil) (dgName 18))
    (dSeq (dFor (diSeq (dVar 8)) (dgName 19)
    (dSeq (dIfS (dAnd (dTest (dOp rEqS (dOp rIxD (dVar 19) (dC (.int 0))) (dC (.str "jump")))) (dTest (dOp rGt' (dOp rIxD (dVar 19) (dC (.int 1))) (dVar 5)))) (dAsg (dTup (dCons (dC (.str "jump")) (dCons (dVar 16) dNil))) (dgName 19)) (dIfS (dAnd (dTest (dOp rEqS (dOp rIxD (dVar 19) (dC (.int 0))) (dC (.str "test")))) (dTest (dOp rGt' (dOp rIxD (dVar 19) (dC (.int 3))) (dVar 5)))) (dAsg (dOp rCatT' (dSl slTup' (dVar 19) dNoPart (dPart (dC (.int 3)))) (dTup (dCons (dVar 16) dNil))) (dgName 19)) dNext))
    (dDrop (dBM mAppend' (dVar 18) (dCons (dVar 19) dNil)))))
    (dRet (dTup (dCons (dVar 2) (dCons (dVar 3) (dCons (dVar 4) (dCons (dCall cTuple' (dCons (dOp (rCatD kF) (dOp (rCatD kF) (dVar 18) (dVar 15)) (dVar 17)) dNil)) dNil))))))))
def rd_law_flat_after : TSD :=
    (dSeq (dAsg (dCall sp_law_stretch (dCons (dVar 0) (dCons (dIf (dTest (dOp rIsnot' (dOp rIxD (dVar 7) (dVar 5)) (dC .non))) (dOp rIxD (dVar 7) (dVar 5)) (dVar 6)) (dCons (dVar 4) (dCons (dVar 5) (dCons (dVar 1) dNil)))))) (dgName 15))
    (dSeq (dAsg (dOp rAdd' (dVar 5) (dCall cLen' (dCons (dVar 15) dNil))) (dgName 16))
    (dSeq (dAsg (dCall sp_law_stretch (dCons (dVar 0) (dCons (dIf (dTest (dOp rIsnot' (dOp rIxD (dVar 7) (dOp rAdd' (dVar 5) (dC (.int 1)))) (dC .non))) (dOp rIxD (dVar 7) (dOp rAdd' (dVar 5) (dC (.int 1)))) (dVar 6)) (dCons (dVar 4) (dCons (dVar 16) (dCons (dVar 1) dNil)))))) (dgName 17))
    rd_law_flat_told)))
def rd_law_flat_tail : TSD :=
    (dSeq (dAsg (dOp (rCatD kF) (dOp (rRepD kF) (dLst (dCons (dC (.int 1)) dNil)) (dVar 2)) (dOp (rRepD kF) (dLst (dCons (dC (.int 0)) dNil)) (dOp rSub' (dVar 3) (dVar 2)))) (dgName 6))
    (dSeq (dAsg (dOp (rCatD kM) (dLst (dCons (dVar 6) dNil)) (dOp (rRepD kF) (dLst (dCons (dC .non) dNil)) (dOp rAdd' (dVar 5) (dC (.int 1))))) (dgName 7))
    (dSeq (dAsg (dLstM dNil) (dgName 8))
    (dSeq (dFor (diRng1 (dCons (dVar 5) dNil)) (dgName 9)
    rd_law_flat_body)
    rd_law_flat_after))))
def rd_law_flat : TSD :=
    (dSeq (dAsg (dCall cLen' (dCons (dVar 1) dNil)) (dgName 2))
    (dSeq (dAsg (dOp rAdd' (dVar 2) (dCall sp_law_draw (dCons (dVar 0) (dCons (dC (.int 6)) dNil)))) (dgName 3))
    (dSeq (dAsg (dOp rAdd' (dOp rAdd' (dC (.int 1)) (dCall sp_law_draw (dCons (dVar 0) (dCons (dC (.int 3)) dNil)))) (dOp rMul' (dC (.int 3)) (dCall cIntb' (dCons (dCall sp_law_rare (dCons (dVar 0) (dCons (dC (.int 6)) dNil))) dNil)))) (dgName 4))
    (dSeq (dAsg (dCall sp_law_draw (dCons (dVar 0) (dCons (dC (.int 14)) dNil))) (dgName 5))
    (dSeq (dIfS (dTest (dCall sp_law_rare (dCons (dVar 0) (dCons (dC (.int 10)) dNil)))) (dAug 5 (dC (.int 30)) rAdd') dNext)
    rd_law_flat_tail)))))
def rd_law_line_worth : TSD :=
    (dSeq (dAsg (dOp rIxD (dVar 0) (dC (.int 0))) (dgName 2))
    (dSeq (dFor (diSeq (dOp rIxD (dVar 0) (dC (.int 1)))) (dgTup 2 (dgCons (dgName 3) (dgCons (dgName 4) dgNil)))
    (dAsg (dCall sp_law_add (dCons (dVar 2) (dCons (dCall sp_law_mul (dCons (dVar 4) (dCons (dOp rIxD (dVar 1) (dVar 3)) dNil))) dNil))) (dgName 2)))
    (dRet (dVar 2))))
def rd_law_walked : TSD :=
    (dSeq (dAsg (dOp (rCatD kM) (dCall cListF' (dCons (dVar 1) dNil)) (dOp (rRepD kF) (dLst (dCons (dC .non) dNil)) (dOp rSub' (dOp rIxD (dVar 0) (dC (.int 1))) (dOp rIxD (dVar 0) (dC (.int 0)))))) (dgName 2))
    (dSeq (dAsg (dOp (rRepD kM) (dLst (dCons (dC .non) dNil)) (dOp rIxD (dVar 0) (dC (.int 2)))) (dgName 3))
    (dSeq (dAsg (dC (.int 0)) (dgName 4))
    (dSeq (dFor (diRng1 (dCons (dOp rAdd' (dCall cLen' (dCons (dOp rIxD (dVar 0) (dC (.int 3))) dNil)) (dC (.int 1))) dNil)) (dgName 5)
    (dSeq (dAsg (dOp rIxD (dOp rIxD (dVar 0) (dC (.int 3))) (dVar 4)) (dgName 6))
    (dSeq (dAug 4 (dC (.int 1)) rAdd')
    (dIfS (dTest (dOp rEqS (dOp rIxD (dVar 6) (dC (.int 0))) (dC (.str "let")))) (dAsg (dCall sp_law_line_worth (dCons (dOp rIxD (dVar 6) (dC (.int 2))) (dCons (dVar 2) dNil))) (dgSub (dVar 2) (dOp rIxD (dVar 6) (dC (.int 1))) rSetD)) (dIfS (dTest (dOp rEqS (dOp rIxD (dVar 6) (dC (.int 0))) (dC (.str "test")))) (dSeq (dAsg (dCall sp_law_line_worth (dCons (dOp rIxD (dVar 6) (dC (.int 1))) (dCons (dVar 2) dNil))) (dgName 7))
    (dIfS (dOr (dTest (dOp rLt' (dOp rIxD (dVar 7) (dC (.int 0))) (dC (.int 0)))) (dAnd (dTest (dOp rEqS (dOp rIxD (dVar 7) (dC (.int 0))) (dC (.int 0)))) (dTest (dOp rEqS (dOp rIxD (dVar 6) (dC (.int 2))) (dC (.int 1)))))) (dAsg (dOp rIxD (dVar 6) (dC (.int 3))) (dgName 4)) dNext)) (dIfS (dTest (dOp rEqS (dOp rIxD (dVar 6) (dC (.int 0))) (dC (.str "jump")))) (dAsg (dOp rIxD (dVar 6) (dC (.int 1))) (dgName 4)) (dIfS (dTest (dOp rEqS (dOp rIxD (dVar 6) (dC (.int 0))) (dC (.str "place")))) (dAsg (dCall cTuple' (dCons (dFrz (dLc (diSeq (dSl slTup' (dVar 6) (dPart (dC (.int 2))) dNoPart)) (.one 8) dYes (dCall sp_law_line_worth (dCons (dVar 8) (dCons (dVar 2) dNil))) [8])) dNil)) (dgSub (dVar 3) (dOp rIxD (dVar 6) (dC (.int 1))) rSetD)) (dIfS (dTest (dOp rEqS (dOp rIxD (dVar 6) (dC (.int 0))) (dC (.str "clash")))) (dRet (dC .non)) (dIfS (dTest (dOp rEqS (dOp rIxD (dVar 6) (dC (.int 0))) (dC (.str "end")))) dBreak dNext)))))))))
    (dRet (dCall cTuple' (dCons (dVar 3) dNil)))))))
def rd_law_free_values : TSD :=
    (dRet (dFrz (dLc (diRng1 (dCons (dVar 1) dNil)) (.one 2) dYes (dCall sp_law_number (dCons (dVar 0) dNil)) [2])))
def rd_law_good_run : TSD :=
    (dSeq (dAsg (dCall sp_run_code (dCons (dVar 0) (dCons (dVar 1) dNil))) (dgName 3))
    (dRet (dAndV (dCall sp_law_is_layout (dCons (dVar 3) (dCons (dOp rIxD (dVar 0) (dC (.int 2))) dNil))) (dOp rEqD' (dVar 3) (dVar 2)))))
def rd_law : TSD :=
    (dSeq (dAsg (dCall sp_law_begin (dCons (dVar 0) dNil)) (dgName 1))
    (dSeq (dAsg (dLstM dNil) (dgName 2))
    (dSeq (dAsg (dLstM dNil) (dgName 3))
    (dSeq (dAsg (dLstM dNil) (dgName 4))
    (dSeq (dFor (diRng1 (dCons (dC (.int 2)) dNil)) (dgName 5)
    (dSeq (dAsg (dCall sp_law_free_values (dCons (dVar 1) (dCons (dCall sp_law_draw (dCons (dVar 1) (dCons (dC (.int 5)) dNil))) dNil))) (dgName 6))
    (dSeq (dAsg (dCall sp_law_flat (dCons (dVar 1) (dCons (dVar 6) dNil))) (dgName 7))
    (dSeq (dDrop (dBM mAppend' (dVar 2) (dCons (dVar 7) dNil)))
    (dSeq (dDrop (dBM mAppend' (dVar 3) (dCons (dLst (dCons (dCall cTuple' (dCons (dVar 6) dNil)) (dCons (dCall cTuple' (dCons (dCall sp_law_free_values (dCons (dVar 1) (dCons (dCall cLen' (dCons (dVar 6) dNil)) dNil))) dNil)) (dCons (dCall cTuple' (dCons (dCall sp_law_free_values (dCons (dVar 1) (dCons (dCall cLen' (dCons (dVar 6) dNil)) dNil))) dNil)) dNil)))) dNil)))
    (dDrop (dBM mAppend' (dVar 4) (dCons (dFrz (dLc (diSeq (dOp rIxD (dVar 3) (dVar 5))) (.one 8) dYes (dCall sp_law_walked (dCons (dVar 7) (dCons (dVar 8) dNil))) [8])) dNil))))))))
    (dSeq (dFor (diSeq (dTup (dCons (dC (.int 0)) (dCons (dC (.int 1)) (dCons (dC (.int 2)) (dCons (dC (.int 0)) dNil)))))) (dgName 9)
    (dFor (diRng1 (dCons (dC (.int 2)) dNil)) (dgName 5)
    (dIfS (dNot (dTest (dCall sp_law_good_run (dCons (dOp rIxD (dVar 2) (dVar 5)) (dCons (dOp rIxD (dOp rIxD (dVar 3) (dVar 5)) (dVar 9)) (dCons (dOp rIxD (dOp rIxD (dVar 4) (dVar 5)) (dVar 9)) dNil)))))) (dRet (dC (.bl false))) dNext)))
    (dRet (dC (.bl true)))))))))
end Wp

namespace Wp
open PySem PySem.Spec L2 DL Rt
local macro_rules | `(tactic| walk_at "rd") => `(tactic| simp (config := { maxSteps := 10000000 }) only [dVar_s, dC_s, dOp_s, dTest_s, dUn_s, dAnd_s, dOr_s, dNot_s, dIf_s, dAndV_s, dOrV_s, dNotV_s, dNext_s, dSeq_s, dBreak_s, dCont_s, dDrop_s, dRet_s, dRetN_s, dIfS_s, dgName_s, dgNil_s, dgCons_s, dgTup_s, dAsg_s, dPar_s, dNil_s, dCons_s, dTup_s, dLst_s, dLstM_s, dCall_s, dNoPart_s, dPart_s, dSl_s, dgSub_s, dAug_s, diSeq_s, diRng1_s, diRng2_s, diZip_s, dFor_s, dWhile_s, dYes_s, dLc_s, dFrz_s, dBM_s, dBM0_s, dAugS_s, dDNew_s, dDGet_s, dDGet2_s, dDPut_s, dDIn_s, dAsgF_s, rI2_s, rI20_s, rEqS_s, rNeS_s, rIxD_s, rIxSD_s, rCatD_s, rRepD_s, kF_s, kM_s, rSetD_s, rIs__s, rIsnot__s, rCatT__s, rEqD__s, rNeg__s, cLen__s, cLenS__s, cInti__s, cIntb__s, cAbs__s, cMin__s, cMax__s, cTuple__s, cListF__s, cListM__s, cAll__s, cAny__s, cGcd__s, cSortDI__s, cSortDS__s, mAppend__s, mExtend__s, mPop__s, mPopAt__s, slListF__s, slListM__s, slTup__s, cIsiT__s, rAdd', rSub', rMul', rDiv', rMod', rPow', rShl', rLt', rLe', rGt', rGe', at0, at1, at2, at3, at4, at5, items_tup, items_lst, items_scr, items_upd, updD_same, updD_updD, OD.lst.injEq, ix5_0, ix5_1, ix5_2, ix5_3, ix5_4, isTup_tup, isTup_lst, isTup_ref, isTup_scr, notScr_lst, notScr_ref, eqS_int, eqS_str, eqS_bl, scal_int, scal_str, scal_bl, isN_non, isN_tup, isN_lst, isN_int, isN_str, isN_ref, key_int, key_str, kind_non, kind_int, kind_bl, kind_str, kind_tup, kind_lst, tgt_one, tgt_many, wipe0, wipe1, sets0, sets1, startD, List.map_cons, List.map_nil, List.length_cons, List.length_nil, Nat.reduceAdd, Nat.reduceSub, List.replicate_succ, List.replicate_zero, List.cons_append, List.nil_append, List.getElem?_cons_zero, List.getElem?_cons_succ, List.set_cons_zero, List.set_cons_succ, Option.some.injEq, D.int.injEq, D.tup.injEq, D.lst.injEq, D.bl.injEq, D.str.injEq, D.ref.injEq, List.cons.injEq, exists_eq_left, exists_eq_left', exists_eq_right, exists_eq_right', exists_and_left, exists_and_right, and_true, true_and, decide_eq_true_eq, Nat.reduceLeDiff, Nat.reduceLT, Bool.not_eq_true', decide_eq_false_iff_not, if_true, if_false, Bool.true_eq_false, Bool.false_eq_true, reduceCtorEq, ite_true, ite_false, and_assoc, exists_false, false_and, and_false])
local macro_rules | `(tactic| wp_walk using $as:term,*) => `(tactic| simp (config := { maxSteps := 10000000 }) only [dVar_s, dC_s, dOp_s, dTest_s, dUn_s, dAnd_s, dOr_s, dNot_s, dIf_s, dAndV_s, dOrV_s, dNotV_s, dNext_s, dSeq_s, dBreak_s, dCont_s, dDrop_s, dRet_s, dRetN_s, dIfS_s, dgName_s, dgNil_s, dgCons_s, dgTup_s, dAsg_s, dPar_s, dNil_s, dCons_s, dTup_s, dLst_s, dLstM_s, dCall_s, dNoPart_s, dPart_s, dSl_s, dgSub_s, dAug_s, diSeq_s, diRng1_s, diRng2_s, diZip_s, dFor_s, dWhile_s, dYes_s, dLc_s, dFrz_s, dBM_s, dBM0_s, dAugS_s, dDNew_s, dDGet_s, dDGet2_s, dDPut_s, dDIn_s, dAsgF_s, rI2_s, rI20_s, rEqS_s, rNeS_s, rIxD_s, rIxSD_s, rCatD_s, rRepD_s, kF_s, kM_s, rSetD_s, rIs__s, rIsnot__s, rCatT__s, rEqD__s, rNeg__s, cLen__s, cLenS__s, cInti__s, cIntb__s, cAbs__s, cMin__s, cMax__s, cTuple__s, cListF__s, cListM__s, cAll__s, cAny__s, cGcd__s, cSortDI__s, cSortDS__s, mAppend__s, mExtend__s, mPop__s, mPopAt__s, slListF__s, slListM__s, slTup__s, cIsiT__s, rAdd', rSub', rMul', rDiv', rMod', rPow', rShl', rLt', rLe', rGt', rGe', at0, at1, at2, at3, at4, at5, items_tup, items_lst, items_scr, items_upd, updD_same, updD_updD, OD.lst.injEq, ix5_0, ix5_1, ix5_2, ix5_3, ix5_4, isTup_tup, isTup_lst, isTup_ref, isTup_scr, notScr_lst, notScr_ref, eqS_int, eqS_str, eqS_bl, scal_int, scal_str, scal_bl, isN_non, isN_tup, isN_lst, isN_int, isN_str, isN_ref, key_int, key_str, kind_non, kind_int, kind_bl, kind_str, kind_tup, kind_lst, tgt_one, tgt_many, wipe0, wipe1, sets0, sets1, startD, List.map_cons, List.map_nil, List.length_cons, List.length_nil, Nat.reduceAdd, Nat.reduceSub, List.replicate_succ, List.replicate_zero, List.cons_append, List.nil_append, List.getElem?_cons_zero, List.getElem?_cons_succ, List.set_cons_zero, List.set_cons_succ, Option.some.injEq, D.int.injEq, D.tup.injEq, D.lst.injEq, D.bl.injEq, D.str.injEq, D.ref.injEq, List.cons.injEq, exists_eq_left, exists_eq_left', exists_eq_right, exists_eq_right', exists_and_left, exists_and_right, and_true, true_and, decide_eq_true_eq, Nat.reduceLeDiff, Nat.reduceLT, Bool.not_eq_true', decide_eq_false_iff_not, if_true, if_false, Bool.true_eq_false, Bool.false_eq_true, reduceCtorEq, ite_true, ite_false, and_assoc, exists_false, false_and, and_false, $[$as:term],*])

structure Bi (mg : Str → Option Value) : Prop where
  abs_ : mg "abs" = none
  all_ : mg "all" = none
  bool_ : mg "bool" = none
  gcd_ : mg "gcd" = some (.builtin "math.gcd")
  int_ : mg "int" = none
  isinstance_ : mg "isinstance" = none
  len_ : mg "len" = none
  list_ : mg "list" = none
  min_ : mg "min" = none
  range_ : mg "range" = none
  sorted_ : mg "sorted" = none
  tuple_ : mg "tuple" = none
  zip_ : mg "zip" = none

/-- the body's end -/
abbrev en (Q : VKD) : EndsD := { nx := fun _ M' => QF Q .non M', rt := QF Q }
theorem len_ratio {ds M Q} (h : sp_ratio ds M Q) : ds.length = 2 := by obtain ⟨n, d, rfl, _⟩ := h; rfl
theorem gI_div {n d : Int} (hd : 0 < d) (hz : d.natAbs < 2 ^ 9000) (x : Int) : DivOk x (gI n d) := by
  have h1 := gI_pos (a := n) (b := d) (by omega)
  have h2 := gI_le (a := n) hd
  exact ⟨h1, by omega⟩
theorem pr_ratio {ds M Q} (h : sp_ratio ds M Q) : rd_ratio (en Q) (startD ["n", "d", "common"] ds) M := by
  obtain ⟨n, d, rfl, hd, hz, q⟩ := h
  unfold rd_ratio
  walk_at "rd"
  rw [if_neg (by omega)]
  have e1 : ((n.natAbs.gcd d.natAbs : Nat) : Int) = gI n d := rfl
  rw [e1]
  have q' : ∀ z : R, z = mkR n d → QF Q (.tup [.int z.1, .int z.2]) M := fun z e => .keep (by rw [e]; exact q)
  have hm := mkR_pos (n := n) hd
  split
  · rename_i h1
    subst h1
    exact q' (n, 1) mkR_one.symm
  · split
    · rename_i h1
      exact q' (n, d) (by rw [hm, h1, Int.ediv_one, Int.ediv_one])
    · exact ⟨gI_div hd hz _, gI_div hd hz _, q' _ hm.symm⟩
theorem len_plus {ds M Q} (h : sp_plus ds M Q) : ds.length = 2 := by obtain ⟨n, d, rfl, _⟩ := h; rfl
theorem Rk.mulOk1 {a b : R} (ha : Rk a) (hb : Rk b) : DL.MulOk a.1 b.2 := .both ha.n hb.d (by decide)
theorem Rk.mulOk2 {a b : R} (ha : Rk a) (hb : Rk b) : DL.MulOk a.2 b.2 := .both ha.d hb.d (by decide)
theorem Rk.mulOk3 {a b : R} (ha : Rk a) (hb : Rk b) : DL.MulOk a.1 b.1 := .both ha.n hb.n (by decide)
theorem pr_plus {ds M Q} (h : sp_plus ds M Q) : rd_plus (en Q) (startD ["a", "b"] ds) M := by
  obtain ⟨a, b, rfl, ha, hb, q⟩ := h
  unfold rd_plus
  simp only [encR]
  walk_at "rd"
  have go : DL.MulOk a.fst b.snd ∧ DL.MulOk b.fst a.snd ∧ DL.MulOk a.snd b.snd ∧ sp_ratio [D.int (a.fst * b.snd + b.fst * a.snd), D.int (a.snd * b.snd)] M (QF Q) :=
    ⟨Rk.mulOk1 ha hb, Rk.mulOk1 hb ha, Rk.mulOk2 ha hb, _, _, rfl, Int.mul_pos ha.pos hb.pos, Rk.den_lt ha hb, .keep q⟩
  split
  · rename_i h1
    split
    · rename_i h2
      refine .keep ?_
      have e : addR a b = (a.1 + b.1, 1) := by unfold addR; rw [h1, h2, Int.mul_one, Int.mul_one, Int.mul_one]; exact mkR_one
      rw [e] at q
      exact q
    · exact go
  · exact go
theorem len_times {ds M Q} (h : sp_times ds M Q) : ds.length = 2 := by obtain ⟨n, d, rfl, _⟩ := h; rfl
theorem pr_times {ds M Q} (h : sp_times ds M Q) : rd_times (en Q) (startD ["a", "b"] ds) M := by
  obtain ⟨a, b, rfl, ha, hb, q⟩ := h
  unfold rd_times
  simp only [encR]
  walk_at "rd"
  have go : DL.MulOk a.fst b.fst ∧ DL.MulOk a.snd b.snd ∧ sp_ratio [D.int (a.fst * b.fst), D.int (a.snd * b.snd)] M (QF Q) :=
    ⟨Rk.mulOk3 ha hb, Rk.mulOk2 ha hb, _, _, rfl, Int.mul_pos ha.pos hb.pos, Rk.den_lt ha hb, .keep q⟩
  split
  · rename_i h1
    split
    · rename_i h2
      refine ⟨Rk.mulOk3 ha hb, .keep ?_⟩
      have e : mulR a b = (a.1 * b.1, 1) := by unfold mulR; rw [h1, h2, Int.mul_one]; exact mkR_one
      rw [e] at q
      exact q
    · exact go
  · exact go
theorem len_law_gcd {ds M Q} (h : sp_law_gcd ds M Q) : ds.length = 2 := by obtain ⟨n, d, rfl, _⟩ := h; rfl
theorem upTo_at {n : Int} {i : Nat} {x : D} (h : (upTo 0 n.toNat)[i]? = some x) : x = .int i ∧ (i : Int) < n := by
  have hi : i < (upTo 0 n.toNat).length := (List.getElem?_eq_some_iff.mp h).1
  rw [upTo_length] at hi
  rw [upTo_get hi] at h
  cases h
  exact ⟨by rw [Int.zero_add], by omega⟩
theorem natAbs_ite (a : Int) : (if a < 0 then -a else a) = (a.natAbs : Int) := by split <;> omega
theorem pr_law_gcd {ds M Q} (h : sp_law_gcd ds M Q) : rd_law_gcd (en Q) (startD ["a", "b", "k"] ds) M := by
  obtain ⟨A, B, rfl, hA, hB, q⟩ := h
  unfold rd_law_gcd
  walk_at "rd"
  rw [natAbs_ite, natAbs_ite]
  refine ⟨by decide, by decide, ⟨fun i σ M' => ∃ a b v, σ = [some (.int a), some (.int b), v] ∧ M' = M ∧ EuOk A B a b i ∧ (i = 0 → a.natAbs < 2 ^ 9000 ∧ b.natAbs < 2 ^ 9000), ?_, fun _ _ _ _ _ => trivial, ?_, ?_⟩⟩
  · exact ⟨_, _, _, rfl, rfl, .start rfl rfl, fun _ => ⟨by omega, by omega⟩⟩
  · rintro i x σ M' hx ⟨a, b, v, rfl, rfl, eu, h0⟩
    obtain ⟨rfl, _⟩ := upTo_at hx
    walk_at "rd"
    split
    · rename_i hb
      exact .keep (by rw [eu.val hb]; exact q)
    · rename_i hb
      have hb0 := eu.2.1
      refine ⟨by omega, eu.step hb ?_ ?_, fun z => z.elim⟩
      · by_cases hi : i = 0
        · exact .inl (h0 hi).1
        · exact .inr (by omega)
      · by_cases hi : i = 0
        · exact .inl (h0 hi).2
        · exact .inr (by omega)
  · rintro σ M' ⟨a, b, v, rfl, rfl, eu, _⟩
    walk_at "rd"
    rw [upTo_length] at eu
    exact .keep (by rw [eu.val (eu.done (by decide))]; exact q)
theorem len_law_r {ds M Q} (h : sp_law_r ds M Q) : ds.length = 2 := by obtain ⟨n, d, rfl, _⟩ := h; rfl
theorem pr_law_r {ds M Q} (h : sp_law_r ds M Q) : rd_law_r (en Q) (startD ["n", "d", "g"] ds) M := by
  obtain ⟨n, d, rfl, hd, hn, hz, q⟩ := h
  unfold rd_law_r
  walk_at "rd"
  rw [if_neg (by omega)]
  refine ⟨n, d, rfl, hn, hz, ?_⟩
  walk_at "rd"
  refine ⟨gI_div hd hz _, gI_div hd hz _, .keep ?_⟩
  rw [mkR_pos hd] at q
  exact q
theorem len_law_add {ds M Q} (h : sp_law_add ds M Q) : ds.length = 2 := by obtain ⟨n, d, rfl, _⟩ := h; rfl
theorem pr_law_add {ds M Q} (h : sp_law_add ds M Q) : rd_law_add (en Q) (startD ["a", "b"] ds) M := by
  obtain ⟨a, b, rfl, ha, hb, q⟩ := h
  unfold rd_law_add
  simp only [encR]
  walk_at "rd"
  exact ⟨Rk.mulOk1 ha hb, Rk.mulOk1 hb ha, Rk.mulOk2 ha hb, _, _, rfl, Int.mul_pos ha.pos hb.pos, Rk.num_lt ha hb, Rk.den_lt ha hb, .keep q⟩
theorem len_law_mul {ds M Q} (h : sp_law_mul ds M Q) : ds.length = 2 := by obtain ⟨n, d, rfl, _⟩ := h; rfl
theorem pr_law_mul {ds M Q} (h : sp_law_mul ds M Q) : rd_law_mul (en Q) (startD ["a", "b"] ds) M := by
  obtain ⟨a, b, rfl, ha, hb, q⟩ := h
  unfold rd_law_mul
  simp only [encR]
  walk_at "rd"
  exact ⟨Rk.mulOk3 ha hb, Rk.mulOk2 ha hb, _, _, rfl, Int.mul_pos ha.pos hb.pos, Rk.mul_lt ha hb, Rk.den_lt ha hb, .keep q⟩

theorem len_law_begin {ds M Q} (h : sp_law_begin ds M Q) : ds.length = 1 := by obtain ⟨n, rfl, _⟩ := h; rfl
theorem pr_law_begin {ds M Q} (h : sp_law_begin ds M Q) : rd_law_begin (en Q) (startD ["script", "cell"] ds) M := by
  obtain ⟨ns, rfl, hl, q⟩ := h
  unfold rd_law_begin
  walk_at "rd"
  refine lcP_of (f := fun x => some x) ?_ ?_ ?_ ?_
  · intro M' s
    exact rfl
  · rw [List.length_map]; omega
  · intro x hx M' s Qn hq
    obtain ⟨z, hz, rfl⟩ := List.mem_map.mp hx
    walk_at "rd"
    exact hq
  · intro p hp
    refine .keep (q p _ hp ⟨ns, 0, 0, 7, .int 3, ?_, by decide⟩ fun b o h => ?_)
    · rw [updD_same, List.filterMap_some]
    · rw [updD_ne (fun e => by rw [e, hp] at h; cases h)]; exact h
theorem len_law_draw {ds M Q} (h : sp_law_draw ds M Q) : ds.length = 2 := by obtain ⟨n, d, rfl, _⟩ := h; rfl
theorem divOk_small {i j : Int} (h : 0 < j) (h2 : j ≤ 4611686018427387904) : DivOk i j := by
  have h3 : (4611686018427387905 : Nat) ≤ 2 ^ 9000 := by decide +kernel
  exact ⟨h, by omega⟩
theorem cpow1 : CPow 10 18 := ⟨by decide, by decide, by decide⟩
theorem cpow2 : CPow 1 6000 := ⟨by decide, by decide, by decide⟩
theorem pr_law_draw {ds M Q} (h : sp_law_draw ds M Q) : rd_law_draw (en Q) (startD ["d", "many", "found", "size", "cell"] ds) M := by
  obtain ⟨p, many, rfl, h0, h1, ⟨ns, pos, buf, seed, x, hp, hpos⟩, q⟩ := h
  have hi := items_ref hp
  have fin : ∀ a pos' buf' seed' : Int, 0 ≤ pos' → QF Q (.int (a % many)) (updD M p (.lst [.lst (ns.map .int), .int pos', .int buf', .int seed', x])) := fun a pos' buf' seed' h =>
    .keep (q _ _ (Int.emod_nonneg _ (by omega)) (Int.emod_lt_of_pos _ h0) ⟨⟨ns, pos', buf', seed', x, updD_same, h⟩, fun b o hb hm => by rw [updD_ne hb]; exact hm⟩)
  have dm : ∀ a : Int, DivOk a many := fun a => divOk_small h0 h1
  have m1 : ∀ a b : Int, b.natAbs < 18446744073709551616 → DL.MulOk a b := fun a b h => .r h
  have m2 : ∀ a b : Int, a.natAbs < 18446744073709551616 → DL.MulOk a b := fun a b h => .l h
  have big : (0 : Int) < 1 * 2 ^ Int.toNat 6000 := by decide +kernel
  have p2 : 0 ≤ pos + 1 := by omega
  unfold rd_law_draw
  wp_walk using hi, hp
  split
  · exact ⟨dm _, h0, fin _ _ _ _ hpos⟩
  · split
    · rename_i hlt
      rw [List.length_map] at hlt
      obtain ⟨z, hz⟩ : ∃ z, ns[pos.toNat]? = some z := ⟨_, List.getElem?_eq_getElem (by omega)⟩
      refine ⟨.int z, at_int hpos (by rw [List.getElem?_map, hz]; rfl), z, rfl, m2 _ _ (by decide), z, rfl, cpow1, m2 _ _ (by decide), ?_⟩
      generalize ((2 * if z < 0 then -z else z) + if z < 0 then 1 else 0) = sz
      split
      · exact ⟨divOk_small (by decide) (by decide), cpow2, big, dm _, h0, fin _ _ _ _ p2⟩
      · exact ⟨m1 _ _ (by decide), by decide, m1 _ _ (by decide), m1 _ _ (by decide), by decide, divOk_small (by decide) (by decide), h0, fin _ _ _ _ p2⟩
    · refine ⟨cpow1, m2 _ _ (by decide), ?_⟩
      split
      · exact ⟨divOk_small (by decide) (by decide), cpow2, big, dm _, h0, fin _ _ _ _ p2⟩
      · exact ⟨m1 _ _ (by decide), by decide, m1 _ _ (by decide), m1 _ _ (by decide), by decide, divOk_small (by decide) (by decide), h0, fin _ _ _ _ p2⟩
theorem len_law_pick {ds M Q} (h : sp_law_pick ds M Q) : ds.length = 2 := by obtain ⟨n, d, x, rfl, _⟩ := h; rfl
theorem len_pos {α : Type} {xs : List α} (h : xs ≠ []) : 0 < xs.length := List.length_pos_iff.mpr h
theorem pr_law_pick {ds M Q} (h : sp_law_pick ds M Q) : rd_law_pick (en Q) (startD ["d", "row"] ds) M := by
  obtain ⟨p, row, xs, rfl, hi, ne, hl, nr, st, q⟩ := h
  have hpos := len_pos ne
  unfold rd_law_pick
  wp_walk using hi
  refine ⟨p, _, rfl, by omega, by omega, st, fun r M' h0 h1 dr => ?_⟩
  have hx : xs[r.toNat]? = some (xs[r.toNat]'(by omega)) := List.getElem?_eq_getElem _
  exact ⟨xs, dr.items hi nr, r, rfl, _, at_int h0 hx, .keep (q _ _ (List.getElem_mem _) dr)⟩
theorem len_law_pop {ds M Q} (h : sp_law_pop ds M Q) : ds.length = 2 := by obtain ⟨n, d, x, rfl, _⟩ := h; rfl
theorem seq_int {n : Nat} {i : Int} (h0 : 0 ≤ i) (h : i < n) : seqIndex? i n = some i.toNat := by
  unfold seqIndex?
  have e : (if i < 0 then i + (n : Int) else i) = i := if_neg (by omega)
  simp only [e]
  rw [if_pos (by simp; omega)]
theorem pr_law_pop {ds M Q} (h : sp_law_pop ds M Q) : rd_law_pop (en Q) (startD ["d", "row"] ds) M := by
  obtain ⟨p, r, xs, rfl, hr, hi, ne, hl, st, q⟩ := h
  have hpos := len_pos ne
  have hi2 := items_ref hi
  unfold rd_law_pop
  wp_walk using hi, hi2
  refine ⟨isLst_ref hi, p, _, rfl, by omega, by omega, st, fun i M' h0 h1 dr => ?_⟩
  have hx : xs[i.toNat]? = some (xs[i.toNat]'(by omega)) := List.getElem?_eq_getElem _
  refine ⟨xs, i, rfl, dr.fr _ _ hr hi, by omega, by omega, i.toNat, seq_int h0 h1, _, hx, .keep (q i.toNat _ _ hx ?_ updD_same fun b o h1 h2 hm => ?_)⟩
  · obtain ⟨ns, a, b, c, y, e, z⟩ := dr.st
    exact ⟨ns, a, b, c, y, by rw [updD_ne (Ne.symm hr)]; exact e, z⟩
  · rw [updD_ne h2]; exact dr.fr _ _ h1 hm
theorem len_law_rare {ds M Q} (h : sp_law_rare ds M Q) : ds.length = 2 := by obtain ⟨n, d, rfl, _⟩ := h; rfl
theorem pr_law_rare {ds M Q} (h : sp_law_rare ds M Q) : rd_law_rare (en Q) (startD ["d", "many"] ds) M := by
  obtain ⟨p, many, rfl, h0, h1, st, q⟩ := h
  unfold rd_law_rare
  walk_at "rd"
  exact ⟨p, _, rfl, h0, by omega, st, fun r M' r0 r1 dr => ⟨divOk_small (by decide) (by decide), rfl, .keep (q _ _ dr)⟩⟩
theorem len_law_is_int {ds M Q} (h : sp_law_is_int ds M Q) : ds.length = 1 := by obtain ⟨n, d, rfl, _⟩ := h; rfl
theorem pr_law_is_int {ds M Q} (h : sp_law_is_int ds M Q) : rd_law_is_int (en Q) (startD ["thing"] ds) M := by
  obtain ⟨x, n, rfl, hk, q⟩ := h
  unfold rd_law_is_int
  wp_walk using hk
  split
  · rename_i h1
    rw [h1, Bool.true_and] at q
    exact .keep q
  · rename_i h1
    rw [Bool.not_eq_true _ |>.mp h1, Bool.false_and] at q
    exact .keep q
theorem len_law_is_r {ds M Q} (h : sp_law_is_r ds M Q) : ds.length = 1 := by obtain ⟨n, rfl, _⟩ := h; rfl
theorem pr_law_is_r {ds M Q} (h : sp_law_is_r ds M Q) : rd_law_is_r (en Q) (startD ["thing"] ds) M := by
  obtain ⟨a, rfl, h0, h1, q⟩ := h
  have b1 := Rk.lt9 h0.n
  have b2 := Rk.lt9 h0.d
  have b3 := h0.pos
  have i1 : isiB "tuple" "tuple" = true := by decide +kernel
  have i2 : (isiB "int" "int" && !isiB "int" "bool") = true := by decide +kernel
  unfold rd_law_is_r
  simp only [encR]
  wp_walk using i1
  rw [if_neg (fun h => h rfl)]
  refine ⟨_, _, rfl, rfl, true, by rw [i2], ?_⟩
  rw [if_neg (by decide)]
  refine ⟨_, _, rfl, rfl, true, by rw [i2], ?_⟩
  rw [if_neg (by decide), if_neg (by omega)]
  refine ⟨_, _, rfl, b1, b2, rfl, .keep ?_⟩
  rw [eqS_int, h1]
  exact q
theorem len_law_number {ds M Q} (h : sp_law_number ds M Q) : ds.length = 1 := by obtain ⟨n, rfl, _⟩ := h; rfl
theorem mkR_gI {n d : Int} (h : 0 < d) : gI (mkR n d).1 (mkR n d).2 = 1 := by
  have := mkR_cop (n := n) h
  unfold gI
  rw [this]
  rfl
theorem num_mk {n d : Int} (h : 0 < d) (h1 : d ≤ 1000) (h2 : -1000000 ≤ n) (h3 : n ≤ 1000000) : Dn (mkR n d) :=
  ⟨mkR_gI h, d, by omega, h1, Rv.mk' h ⟨n, rfl⟩ (by omega) (by omega)⟩
theorem pr_law_number {ds M Q} (h : sp_law_number ds M Q) : rd_law_number (en Q) (startD ["d"] ds) M := by
  obtain ⟨p, rfl, st, q⟩ := h
  have p1 : (4000001 : Nat) < 2 ^ 9000 := by decide +kernel
  unfold rd_law_number
  walk_at "rd"
  refine ⟨p, _, rfl, by decide, by decide, st, fun b M1 d1 => ⟨b, rfl, ?_⟩⟩
  split
  · refine ⟨p, _, rfl, by decide, by decide, d1.st, fun i M2 i0 i1 d2 => ⟨i, rfl, p, _, rfl, by decide, by decide, d2.st, fun x M3 x0 x1 d3 => ⟨x, rfl, _, _, rfl, by omega, by omega, by omega, .keep (q _ _ (num_mk (by omega) (by omega) (by omega) (by omega)) ((d1.trans d2).trans d3))⟩⟩⟩
  · refine ⟨p, _, rfl, by decide, by decide, d1.st, fun i M2 i0 i1 d2 => ⟨i, rfl, .r (by decide), p, _, _, rfl, rfl, by simp, by simp, fun z => (nomatch z), d2.st, fun x M3 hx d3 => ?_⟩⟩
    have hx2 : ∃ z : Int, x = .int z ∧ 1 ≤ z ∧ z ≤ 3 := by
      simp only [List.mem_cons, List.not_mem_nil, or_false] at hx
      rcases hx with rfl | rfl | rfl | rfl | rfl <;> exact ⟨_, rfl, by decide, by decide⟩
    obtain ⟨z, rfl, z0, z1⟩ := hx2
    exact ⟨_, _, rfl, by omega, by omega, by omega, .keep (q _ _ (num_mk (by omega) (by omega) (by omega) (by omega)) ((d1.trans d2).trans d3))⟩
theorem len_law_share {ds M Q} (h : sp_law_share ds M Q) : ds.length = 1 := by obtain ⟨n, rfl, _⟩ := h; rfl
theorem pr_law_share {ds M Q} (h : sp_law_share ds M Q) : rd_law_share (en Q) (startD ["d"] ds) M := by
  obtain ⟨p, rfl, st, q⟩ := h
  have p1 : (4000001 : Nat) < 2 ^ 9000 := by decide +kernel
  unfold rd_law_share
  walk_at "rd"
  refine ⟨p, _, rfl, by decide, by decide, st, fun i M2 i0 i1 d2 => ⟨i, rfl, p, _, rfl, by decide, by decide, d2.st, fun x M3 x0 x1 d3 => ⟨x, rfl, _, _, rfl, by omega, by omega, by omega, .keep (q _ _ ?_ (d2.trans d3))⟩⟩⟩
  refine Rv.mk' (by omega) ?_ (by omega) (by omega)
  have hx : x = 0 ∨ x = 1 ∨ x = 2 := by omega
  rcases hx with rfl | rfl | rfl
  · exact ⟨(i - 4) * 6, by omega⟩
  · exact ⟨(i - 4) * 3, by omega⟩
  · exact ⟨(i - 4) * 2, by omega⟩
/-- a comprehension whose turns draw -/
theorem lcDr_of {d : Addr} {g : Tgt} {te : TED} {vs : List Nat} {σ : StD} {M1 : HpD} {ds : List D} {stab : HpD → Prop} {P : Nat → D → Prop} {Q : VKD} (hd : DSt M1 d) (hl : ds.length ≤ 900000) (hst : ∀ M', Dr d M1 M' → stab M')
    (hs : ∀ i x, ds[i]? = some x → ∀ M', Dr d M1 M' → ∀ Qn : D → HpD → Prop, (∀ y M2, P i y → Dr d M' M2 → Qn y M2) → g.set (wipeD σ vs) x fun σ2 => te σ2 M' Qn)
    (q : ∀ ys M', ys.length = ds.length → (∀ i y, ys[i]? = some y → P i y) → Dr d M1 M' → Q (.lst ys) M') : LcG g dYes te vs σ ds stab M1 (QF Q) := by
  refine ⟨fun p np => ?_⟩
  have hne : p ≠ d := fun e => by obtain ⟨_, _, _, _, _, z, _⟩ := hd; rw [← e, np] at z; cases z
  have hd0 : DSt (updD M1 p (.lst [])) d := by obtain ⟨a, b, c, e, f, z, w⟩ := hd; exact ⟨a, b, c, e, f, by rw [updD_ne (Ne.symm hne)]; exact z, w⟩
  have d0 : Dr d M1 (updD M1 p (.lst [])) := ⟨hd0, fun b o hb hm => by rw [updD_ne (fun e => by rw [e, np] at hm; cases hm)]; exact hm⟩
  refine ⟨fun i M => Dr d M1 M ∧ ∃ ys, M p = some (.lst ys) ∧ ys.length = i ∧ ∀ j y, ys[j]? = some y → P j y, ⟨d0, [], updD_same, rfl, fun j y h => by simp at h⟩, fun i M _ h => hst M h.1, ?_, ?_⟩
  · rintro i x M hx ⟨dr, ys, hp, hlen, hP⟩
    have hi : i < ds.length := (List.getElem?_eq_some_iff.mp hx).1
    refine Tgt.mono (fun σ2 k => k) (hs i x hx M dr (fun y M4 => ∃ acc, M4 p = some (.lst acc) ∧ acc.length < 1000000 ∧ (Dr d M1 (updD M4 p (.lst (acc ++ [y]))) ∧ ∃ ys, updD M4 p (.lst (acc ++ [y])) p = some (.lst ys) ∧ ys.length = i + 1 ∧ ∀ j y, ys[j]? = some y → P j y)) fun y M2 hy d2 => ?_)
    refine ⟨ys, d2.fr p _ hne hp, by omega, ⟨?_, fun b o hb hm => ?_⟩, _, updD_same, by rw [List.length_append, hlen]; rfl, fun j z hz => ?_⟩
    · obtain ⟨a, b, c, e, f, z, w⟩ := d2.st
      exact ⟨a, b, c, e, f, by rw [updD_ne (Ne.symm hne)]; exact z, w⟩
    · rw [updD_ne (fun e => by rw [e, np] at hm; cases hm)]
      exact d2.fr b o hb (dr.fr b o hb hm)
    · by_cases hj : j < ys.length
      · rw [List.getElem?_append_left hj] at hz; exact hP j z hz
      · have hj2 : j = ys.length := by
          have := (List.getElem?_eq_some_iff.mp hz).1
          rw [List.length_append, List.length_singleton] at this
          omega
        subst hj2
        rw [List.getElem?_append_right (Nat.le_refl _), Nat.sub_self] at hz
        cases hz
        rw [hlen]
        exact hy
  · rintro M ⟨dr, ys, hp, hlen, hP⟩
    have s : SubM (fun b => if b = p then none else M b) M := by
      intro b o hb
      by_cases e : b = p
      · simp [e] at hb
      · simpa [e] using hb
    refine .lst s hp (by simp) (q ys _ hlen hP ⟨?_, fun b o hb hm => ?_⟩)
    · obtain ⟨a, b, c, e, f, z, w⟩ := dr.st
      exact ⟨a, b, c, e, f, by simp [Ne.symm hne]; exact z, w⟩
    · have e : b ≠ p := fun e => by rw [e, np] at hm; cases hm
      simp [e]
      exact dr.fr b o hb hm
theorem list_of_all {α β : Type} {f : α → β} {P : α → Prop} : ∀ {ys : List β}, (∀ y ∈ ys, ∃ x, y = f x ∧ P x) → ∃ xs : List α, ys = xs.map f ∧ ∀ x ∈ xs, P x
  | [], _ => ⟨[], rfl, fun _ h => by cases h⟩
  | y :: ys, h => by
    obtain ⟨x, rfl, hx⟩ := h y List.mem_cons_self
    obtain ⟨xs, rfl, hxs⟩ := list_of_all fun z hz => h z (List.mem_cons_of_mem _ hz)
    exact ⟨x :: xs, rfl, fun z hz => by
      rcases List.mem_cons.mp hz with rfl | hz
      · exact hx
      · exact hxs z hz⟩
theorem len_law_free_values {ds M Q} (h : sp_law_free_values ds M Q) : ds.length = 2 := by obtain ⟨n, d, rfl, _⟩ := h; rfl
theorem pr_law_free_values {ds M Q} (h : sp_law_free_values ds M Q) : rd_law_free_values (en Q) (startD ["d", "many", "k"] ds) M := by
  obtain ⟨p, n, rfl, h0, h1, st, q⟩ := h
  unfold rd_law_free_values
  walk_at "rd"
  refine ⟨by omega, by omega, lcDr_of (P := fun _ y => ∃ a, y = encR a ∧ Dn a) st (by rw [upTo_length]; omega) (fun _ _ => trivial) ?_ ?_⟩
  · intro i x hx M' dr Qn hq
    walk_at "rd"
    exact ⟨p, rfl, dr.st, fun a M2 ha d2 => hq _ _ ⟨a, rfl, ha⟩ d2⟩
  · intro ys M' hl hP dr
    obtain ⟨xs, rfl, hx⟩ := list_of_all (f := encR) (P := Dn) fun y hy => by
      obtain ⟨i, hi⟩ := List.getElem?_of_mem hy
      exact hP i y hi
    rw [List.length_map, upTo_length] at hl
    exact .keep (q xs M' hl hx dr)

theorem DSt.upd {p q : Addr} {M : HpD} {o : OD} (h : DSt M p) (n : q ≠ p) : DSt (updD M q o) p := by
  obtain ⟨a, b, c, e, f, z, w⟩ := h
  exact ⟨a, b, c, e, f, by rw [updD_ne (Ne.symm n)]; exact z, w⟩
theorem DSt.ne {p q : Addr} {M : HpD} (h : DSt M p) (n : M q = none) : q ≠ p := fun e => by
  obtain ⟨_, _, _, _, _, z, _⟩ := h
  rw [← e, n] at z
  cases z
theorem Dr.upd {p q : Addr} {M M' : HpD} {o : OD} (h : Dr p M M') (n : M q = none) (ne : q ≠ p) : Dr p M (updD M' q o) :=
  ⟨h.st.upd ne, fun b u hb hm => by rw [updD_ne (fun e => by rw [e, n] at hm; cases hm)]; exact h.fr b u hb hm⟩
theorem Dr.new {p q : Addr} {M : HpD} {o : OD} (h : DSt M p) (n : M q = none) : Dr p M (updD M q o) := (Dr.refl h).upd n (h.ne n)
theorem items_fresh {M : HpD} {p : Addr} {x : D} {xs : List D} {o : OD} (h : itemsD M x = some xs) (n : M p = none) : itemsD (updD M p o) x = some xs := by
  cases x with
  | ref a => exact items_ref (by rw [updD_ne (fun e => by rw [e] at h; rw [items_ref' h] at n; cases n)]; exact items_ref' h)
  | _ => exact h
theorem getK_mem {kvs : List (Key × D)} {k : Key} {v : D} (h : getK kvs k = some v) : (k, v) ∈ kvs := by
  unfold getK at h
  obtain ⟨kv, h1, h2⟩ := Option.map_eq_some_iff.mp h
  have e := List.find?_some h1
  have m := List.mem_of_find?_eq_some h1
  have e1 : kv.1 = k := of_decide_eq_true e
  rw [← e1, ← h2]
  exact m
theorem getK_of {kvs : List (Key × D)} {k : Key} (h : k ∈ kvs.map (·.1)) : ∃ v, getK kvs k = some v := by
  unfold getK
  cases e : kvs.find? fun kv => decide (kv.1 = k) with
  | none =>
    obtain ⟨kv, h1, h2⟩ := List.mem_map.mp h
    have := List.find?_eq_none.mp e kv h1
    simp [h2] at this
  | some kv => exact ⟨kv.2, rfl⟩
theorem setK_mem {kvs : List (Key × D)} {k : Key} {v : D} {kv : Key × D} (h : kv ∈ setK kvs k v) : kv = (k, v) ∨ kv ∈ kvs := by
  unfold setK at h
  split at h
  · obtain ⟨z, h1, h2⟩ := List.mem_map.mp h
    by_cases e : z.1 = k
    · rw [if_pos e, e] at h2
      exact .inl h2.symm
    · rw [if_neg e] at h2
      exact .inr (h2 ▸ h1)
  · rcases List.mem_append.mp h with h | h
    · exact .inr h
    · exact .inl (List.mem_singleton.mp h)
theorem setK_len {kvs : List (Key × D)} {k : Key} {v : D} : (setK kvs k v).length ≤ kvs.length + 1 := by
  unfold setK
  split
  · rw [List.length_map]; omega
  · rw [List.length_append]; exact Nat.le_refl _
structure FdOk (ps : List T1) (i : Nat) (kvs : List (Key × D)) : Prop where
  few : kvs.length ≤ i
  ok : ∀ kv ∈ kvs, ∃ (s : Nat) (a : R), kv = (Sum.inl (s : Int), encR a) ∧ (∃ z, (s, z) ∈ ps) ∧ Rv 6 (4 * i) a
def keepNZ (kvs : List (Key × D)) : D → Option D := fun x => match x with
  | .int i => (match getK kvs (.inl i) with
    | some (.tup (.int n :: r)) => if n = 0 then none else some (.tup [.int i, .tup (.int n :: r)])
    | _ => none)
  | _ => none
theorem len_law_sum {ds M Q} (h : sp_law_sum ds M Q) : ds.length = 1 := by obtain ⟨n, d, rfl, _⟩ := h; rfl
theorem pr_law_sum {ds M Q} (h : sp_law_sum ds M Q) : rd_law_sum (en Q) (startD ["parts", "found", "name", "share"] ds) M := by
  obtain ⟨x, ps, rfl, hi, hl, hR, q⟩ := h
  unfold rd_law_sum
  wp_walk using hi
  intro p np
  refine ⟨_, items_fresh hi np, fun i σ M' => ∃ kvs v2 v3, σ = [some x, some (.ref p), v2, v3] ∧ M' = updD M p (.dK kvs) ∧ FdOk ps i kvs, ⟨[], none, none, rfl, rfl, Nat.le_refl _, fun _ h => by cases h⟩, ?_, ?_, ?_⟩
  · rintro i σ M' _ ⟨kvs, v2, v3, rfl, rfl, _⟩
    exact items_fresh hi np
  · rintro i y σ M' hy ⟨kvs, v2, v3, rfl, rfl, fd⟩
    rw [List.getElem?_map] at hy
    obtain ⟨⟨s, sh⟩, ht, rfl⟩ := Option.map_eq_some_iff.mp hy
    simp only [encT]
    walk_at "rd"
    have hs := hR _ (List.mem_of_getElem? ht)
    have hi3 : i < ps.length := (List.getElem?_eq_some_iff.mp ht).1
    obtain ⟨a0, e0, r0⟩ : ∃ a0, (getK kvs (Sum.inl (s : Int))).getD (D.tup [D.int 0, D.int 1]) = encR a0 ∧ Rv 6 (4 * i) a0 := by
      cases e : getK kvs (Sum.inl (s : Int)) with
      | none => exact ⟨(0, 1), rfl, ⟨by decide, by decide, by omega, by omega⟩⟩
      | some v =>
        obtain ⟨s', a, e1, _, r⟩ := fd.ok _ (getK_mem e)
        cases e1
        exact ⟨a, rfl, r⟩
    refine ⟨⟨_, rfl⟩, kvs, rfl, ?_⟩
    rw [e0]
    have few := fd.few
    refine ⟨a0, sh, rfl, r0.rk (p := 3) (q := 5) (by decide) (by decide) (by omega) (by omega) (by decide), hs.rk (p := 3) (q := 5) (by decide) (by decide) (by decide) (by decide) (by decide), kvs, updD_same, by omega, ⟨_, rfl⟩, _, updD_updD, ⟨by have := setK_len (kvs := kvs) (k := Sum.inl (s : Int)) (v := encR (addR a0 sh)); omega, fun kv hkv => ?_⟩⟩
    have e4 : 4 * ((i + 1 : Nat) : Int) = 4 * (i : Int) + 4 := by omega
    rcases setK_mem hkv with rfl | hkv
    · exact ⟨s, _, rfl, ⟨sh, List.mem_of_getElem? ht⟩, by rw [e4]; exact r0.add hs⟩
    · obtain ⟨s', a, e, m, r⟩ := fd.ok _ hkv
      exact ⟨s', a, e, m, r.mono (Int.dvd_refl _) (by omega)⟩
  · rintro σ M' ⟨kvs, v2, v3, rfl, rfl, fd⟩
    walk_at "rd"
    rw [List.length_map] at fd
    obtain ⟨ks, ek, _⟩ := list_of_all (f := (Sum.inl : Int → Key)) (P := fun _ => True) (ys := kvs.map (·.1)) fun y hy => by
      obtain ⟨kv, h1, rfl⟩ := List.mem_map.mp hy
      obtain ⟨s', a, rfl, _⟩ := fd.ok _ h1
      exact ⟨s', rfl, trivial⟩
    have lk : ks.length = kvs.length := by have := congrArg List.length ek; simpa using this.symm
    have few := fd.few
    refine ⟨kvs, rfl, ks, ek, by omega, fun ys pm _ => ?_⟩
    have ly := pm.length_eq
    refine lcP_of (f := keepNZ kvs) (fun _ _ => rfl) (by rw [List.length_map]; omega) ?_ ?_
    · intro z hz M' sm Qn hq
      obtain ⟨y, hy, rfl⟩ := List.mem_map.mp hz
      obtain ⟨v, hv⟩ := getK_of (kvs := kvs) (k := Sum.inl y) (by rw [ek]; exact List.mem_map.mpr ⟨y, pm.mem_iff.mp hy, rfl⟩)
      obtain ⟨s', a, e1, _, r⟩ := fd.ok _ (getK_mem hv)
      cases e1
      have hM := sm p _ updD_same
      simp only [encR] at hv
      have ef : keepNZ kvs (.int s') = if a.1 = 0 then none else some (.tup [.int s', .tup [.int a.1, .int a.2]]) := by
        simp only [keepNZ, hv]
      rw [ef] at hq
      walk_at "rd"
      refine ⟨kvs, hM, _, hv, ?_⟩
      wp_walk using hM, hv
      by_cases e0 : a.1 = 0
      · rw [if_pos e0] at hq
        rw [if_neg (fun h => h e0)]
        exact hq
      · rw [if_neg e0] at hq
        rw [if_pos e0]
        exact ⟨kvs, rfl, _, hv, hq⟩
    · refine ⟨_, rfl, ?_⟩
      obtain ⟨ts, et, ht⟩ := list_of_all (f := encT) (P := fun t : T1 => (∃ z, (t.1, z) ∈ ps) ∧ Rv 6 12 t.2) (ys := (ys.map D.int).filterMap (keepNZ kvs)) fun y hy => by
        obtain ⟨w, hw, ew⟩ := List.mem_filterMap.mp hy
        obtain ⟨j, hj, rfl⟩ := List.mem_map.mp hw
        obtain ⟨v, hv⟩ := getK_of (kvs := kvs) (k := Sum.inl j) (by rw [ek]; exact List.mem_map.mpr ⟨j, pm.mem_iff.mp hj, rfl⟩)
        obtain ⟨s', a, e1, m, r⟩ := fd.ok _ (getK_mem hv)
        cases e1
        simp only [keepNZ, hv, encR] at ew
        split at ew
        · cases ew
        · cases ew
          exact ⟨(s', a), rfl, m, r.mono (Int.dvd_refl _) (by omega)⟩
      rw [et]
      have lt := congrArg List.length et
      have lf : ((ys.map D.int).filterMap (keepNZ kvs)).length ≤ (ys.map D.int).length := List.length_filterMap_le _ _
      rw [List.length_map] at lt lf
      exact .drop (.new np) (q ts (by omega) ht)
theorem len_law_merge {ds M Q} (h : sp_law_merge ds M Q) : ds.length = 3 := by obtain ⟨n, d, f, s, rfl, _⟩ := h; rfl
def mulB : D → Option D := fun x => match x with
  | .tup [.int a, .int b] => some (.int (a * b))
  | _ => none
theorem mulB_zip : ∀ (g f : Fl), (pairs2 (g.map encB) (f.map encB)).filterMap mulB = (List.zipWith (fun a b => a && b) g f).map encB
  | [], _ => rfl
  | _ :: _, [] => rfl
  | a :: g, b :: f => by
    have ih := mulB_zip g f
    unfold pairs2 at ih ⊢
    rw [List.map_cons, List.map_cons, List.zip_cons_cons, List.map_cons, List.filterMap_cons, ih]
    cases a <;> cases b <;> rfl
theorem pr_law_merge {ds M Q} (h : sp_law_merge ds M Q) : rd_law_merge (en Q) (startD ["state", "goal", "flags", "a", "b"] ds) M := by
  obtain ⟨p, g, f, st, rfl, hm, hg, hl, hs, q⟩ := h
  have hi := items_ref hm
  have hg2 : g < (st.map encO).length := by rw [List.length_map]; exact hg
  obtain ⟨o, ho⟩ : ∃ o, st[g]? = some o := ⟨_, List.getElem?_eq_getElem hg⟩
  have ha : atI (st.map encO) (g : Int) = some (encO o) := atI_nat (by rw [List.getElem?_map, ho]; rfl)
  have fin : ∀ M', SubM M M' → both (st[g]?.join) f = both o f := fun _ _ => by rw [ho]; rfl
  unfold rd_law_merge
  simp only [encF]
  wp_walk using hm, hi, ha, ix_nat hg2
  cases o with
  | none =>
    rw [if_pos (show isN (encO none) = true from rfl)]
    refine .keep (q _ (fun b o hb hm => by rw [updD_ne hb]; exact hm) ?_)
    rw [updD_same, ho]
    simp only [List.map_set]
    rfl
  | some z =>
    rw [if_neg (by simp [encO, isN, encF])]
    have hz : z.length = f.length := hs _ (List.mem_of_getElem? ho) z rfl
    have e2 : (pairs2 (z.map encB) (f.map encB)).length = f.length := by rw [pairs2_length, List.length_map, List.length_map]; omega
    refine ⟨z.map encB, rfl, rfl, lcP_of (f := mulB) (fun _ _ => ⟨rfl, rfl⟩) (by omega) ?_ ?_⟩
    · intro x hx M' sm Qn hq
      unfold pairs2 at hx
      obtain ⟨⟨a, b⟩, hab, rfl⟩ := List.mem_map.mp hx
      obtain ⟨h1, h2⟩ := List.of_mem_zip hab
      obtain ⟨a, _, rfl⟩ := List.mem_map.mp h1
      obtain ⟨b, _, rfl⟩ := List.mem_map.mp h2
      simp only [encB] at hq ⊢
      walk_at "rd"
      exact ⟨.r (by split <;> decide), hq⟩
    · refine ⟨_, hm, g, ix_nat hg2, .keep (q _ (fun b o hb hm => by rw [updD_ne hb]; exact hm) ?_)⟩
      rw [updD_same, ho, mulB_zip]
      simp only [List.map_set]
      rfl
theorem len_law_test_sum {ds M Q} (h : sp_law_test_sum ds M Q) : ds.length = 3 := by obtain ⟨n, d, f, rfl, _⟩ := h; rfl
theorem Rv.neg {L B : Int} {a : R} (h : Rv L B a) : Rv L B (-a.1, a.2) := ⟨h.pos, h.dvd, by have := h.hi; show -(B * a.2) ≤ -a.1; omega, by have := h.lo; show -a.1 ≤ B * a.2; omega⟩
def share4 : List R := [(1, 1), (-1, 1), (1, 2), (-2, 3)]
theorem share4_ok : ∀ a ∈ share4, Rv 6 1 a := by
  intro a ha
  simp only [share4, List.mem_cons, List.not_mem_nil, or_false] at ha
  rcases ha with rfl | rfl | rfl | rfl <;> exact ⟨by decide, by decide, by decide, by decide⟩
theorem Dn.rk {a : R} (h : Dn a) : Rk a := by
  obtain ⟨_, c, h1, h2, h3⟩ := h
  exact h3.rk (p := 10) (q := 20) (by omega) (by omega) (by decide) (by decide) (by decide)
theorem pr_law_test_sum {ds M Q} (h : sp_law_test_sum ds M Q) : rd_law_test_sum (en Q) (startD ["d", "flags", "values", "slot", "share"] ds) M := by
  obtain ⟨p, f, vs, rfl, hl, hv, hn, hf, st, q⟩ := h
  unfold rd_law_test_sum
  walk_at "rd"
  have other : ∀ M1, Dr p M M1 → sp_law_slot_sum [D.ref p, encF f] M1 (QF Q) := fun M1 d1 => ⟨p, f, rfl, hl, d1.st, fun l M' hl d2 => .keep (q l M' hl (d1.trans d2))⟩
  rw [List.length_map]
  split
  · rename_i hpos
    refine ⟨p, _, rfl, by decide, by decide, st, fun r M1 r0 r1 d1 => ⟨rfl, ?_⟩⟩
    split
    · refine ⟨p, _, rfl, hpos, by omega, d1.st, fun i M2 i0 i1 d2 => ⟨p, _, _, rfl, rfl, by simp, by simp, fun z => (nomatch z), d2.st, fun x M3 hx d3 => ?_⟩⟩
      obtain ⟨b, hb, rfl⟩ : ∃ b ∈ share4, x = encR b := by
        have : x ∈ share4.map encR := hx
        obtain ⟨b, h1, h2⟩ := List.mem_map.mp this
        exact ⟨b, h1, h2.symm⟩
      have hlt : i.toNat < vs.length := by omega
      have hmem := List.getElem_mem hlt
      have hat : atI (vs.map encR) i = some (encR vs[i.toNat]) := at_int i0 (by rw [List.getElem?_map, List.getElem?_eq_getElem hlt]; rfl)
      generalize ev : vs[i.toNat] = v at hmem hat
      have hd := hn v hmem
      have hs := share4_ok b hb
      refine ⟨i, rfl, _, hat, ?_⟩
      simp only [encR]
      wp_walk using hat
      simp only [encR]
      walk_at "rd"
      have nrk : Rk (-v.1, v.2) := ⟨hd.rk.pos, by have := hd.rk.n; show (-v.1).natAbs < _; omega, hd.rk.d⟩
      refine ⟨b, (-v.1, v.2), rfl, hs.rk (p := 3) (q := 5) (by decide) (by decide) (by decide) (by decide) (by decide), nrk, .keep ?_⟩
      have e : i = ((i.toNat : Nat) : Int) := by omega
      rw [e]
      obtain ⟨_, c, c1, c2, rv⟩ := hd
      refine q (mulR b (-v.1, v.2), [(i.toNat, b)]) M3 ⟨⟨mkR_gI (Int.mul_pos hs.pos rv.pos), 6 * c, by omega, by omega, (hs.mul (Rv.neg rv) (by decide) (by decide)).mono (Int.dvd_refl _) (by decide)⟩, by show 1 ≤ 3; decide, fun t ht => ?_⟩ ((d1.trans d2).trans d3)
      cases List.mem_singleton.mp ht
      exact ⟨hf _ hlt, hs.mono (by decide) (by decide)⟩
    · exact other _ d1
  · exact other _ (.refl st)
theorem len_law_slot_sum {ds M Q} (h : sp_law_slot_sum ds M Q) : ds.length = 2 := by obtain ⟨n, d, rfl, _⟩ := h; rfl
def keepF (f : Fl) : D → Option D := fun x => match x with
  | .int i => if f[i.toNat]? = some true then some (.int i) else none
  | _ => none
theorem pr_law_slot_sum {ds M Q} (h : sp_law_slot_sum ds M Q) : rd_law_slot_sum (en Q) (startD ["d", "flags", "slot", "ready", "parts", "k"] ds) M := by
  obtain ⟨p, f, rfl, hl, st, q⟩ := h
  unfold rd_law_slot_sum
  simp only [encF]
  walk_at "rd"
  rw [List.length_map]
  refine ⟨by omega, by omega, lcP_of (f := keepF f) (fun _ _ => trivial) (by rw [upTo_length]; omega) ?_ ?_⟩
  · intro x hx M' sm Qn hq
    obtain ⟨i, hi⟩ := List.getElem?_of_mem hx
    obtain ⟨rfl, hi2⟩ := upTo_at hi
    obtain ⟨b, hb⟩ : ∃ b, f[i]? = some b := ⟨_, List.getElem?_eq_getElem (by omega)⟩
    have ha : atI (f.map encB) (i : Int) = some (encB b) := atI_nat (by rw [List.getElem?_map, hb]; rfl)
    simp only [keepF, Int.toNat_natCast, hb] at hq
    wp_walk using ha
    simp only [encB]
    wp_walk using ha
    cases b <;> simpa using hq
  · intro p1 np1
    have hR : ∀ x ∈ (DL.upTo 0 ((f.length : Nat) : Int).toNat).filterMap (keepF f), ∃ j : Nat, x = .int j ∧ f[j]? = some true := fun x hx => by
      obtain ⟨w, hw, ew⟩ := List.mem_filterMap.mp hx
      obtain ⟨i, hi⟩ := List.getElem?_of_mem hw
      obtain ⟨rfl, _⟩ := upTo_at hi
      simp only [keepF, Int.toNat_natCast] at ew
      split at ew
      · rename_i h1
        cases ew
        exact ⟨i, rfl, h1⟩
      · cases ew
    have hRl : ((DL.upTo 0 ((f.length : Nat) : Int).toNat).filterMap (keepF f)).length ≤ 1000 := by
      have h1 := List.length_filterMap_le (keepF f) (DL.upTo 0 ((f.length : Nat) : Int).toNat)
      rw [upTo_length] at h1
      omega
    generalize (DL.upTo 0 ((f.length : Nat) : Int).toNat).filterMap (keepF f) = rdy at hR hRl
    have ne := st.ne np1
    refine ⟨p, _, rfl, by decide, by decide, st.upd ne, fun j M1 j0 j1 d1 => ⟨j, rfl, by omega, by omega, fun i σ M' => ∃ (ts : List T1) (v : Option D), σ = [some (.ref p), some (.lst (f.map encB)), none, some (.lst rdy), some (.ref p1), v] ∧ M' p1 = some (.lst (ts.map encT)) ∧ Dr p M M' ∧ ts.length ≤ i ∧ ∀ t ∈ ts, f[t.1]? = some true ∧ Rv 6 4 t.2, ?_, fun _ _ _ _ _ => trivial, ?_, ?_⟩⟩
    · exact ⟨[], none, rfl, d1.fr _ _ ne updD_same, (Dr.new st np1).trans d1, Nat.le_refl _, fun _ h => by cases h⟩
    · rintro i x σ M' hx ⟨ts, v, rfl, hp1, dr, lts, hts⟩
      obtain ⟨rfl, _⟩ := upTo_at hx
      walk_at "rd"
      split
      · refine ⟨isLst_ref hp1, p, _, rdy, rfl, rfl, by intro e; subst e; rename_i h; exact absurd h (by decide), by omega, fun z => (nomatch z), dr.st, fun x M2 hx d2 => ⟨p, rfl, d2.st, fun a M3 ha d3 => ?_⟩⟩
        obtain ⟨j', rfl, hj'⟩ := hR x hx
        have dd := (dr.trans d2).trans d3
        refine ⟨_, d3.fr _ _ ne (d2.fr _ _ ne hp1), by rw [List.length_map]; omega, ⟨_, rfl⟩, ts ++ [(j', a)], by rw [List.map_append]; rfl, dd.upd np1 ne, by rw [List.length_append]; show ts.length + 1 ≤ i + 1; omega, fun t ht => ?_⟩
        rcases List.mem_append.mp ht with ht | ht
        · exact hts t ht
        · cases List.mem_singleton.mp ht
          exact ⟨hj', ha⟩
      · exact ⟨⟨_, rfl⟩, ts, hp1, dr, by omega, hts⟩
    · rintro σ M' ⟨ts, v, rfl, hp1, dr, lts, hts⟩
      rw [upTo_length] at lts
      walk_at "rd"
      refine ⟨p, rfl, dr.st, fun a M2 ha d2 => ⟨.ref p1, ts, rfl, items_ref (d2.fr _ _ ne hp1), by omega, fun t ht => (hts t ht).2, fun us hu hus => ?_⟩⟩
      refine .keep (q (a, us) M2 ⟨ha.num, hu, fun t ht => ?_⟩ (dr.trans d2))
      obtain ⟨⟨z, hz⟩, hr⟩ := hus t ht
      exact ⟨(hts _ hz).1, hr⟩

/-- a step of a stretch, one of n so far -/
def OkAt (boxes start : Nat) (f : Fl) (n i : Nat) : Stp → Prop
  | .let_ _ _ => False
  | .test l _ g => Uses f l ∧ i + 1 ≤ n ∧ start + i < g ∧ g ≤ start + n
  | .jump g => start + i < g ∧ g ≤ start + n
  | .place b e1 e2 e3 e4 => Uses f e1 ∧ Uses f e2 ∧ Uses f e3 ∧ Uses f e4 ∧ b < boxes
  | .hide b => b < boxes
  | .clash => False
  | .fin => False
theorem OkAt.mono {boxes start : Nat} {f : Fl} {n m i : Nat} {s : Stp} (h : OkAt boxes start f n i s) (le : n ≤ m) : OkAt boxes start f m i s := by
  cases s <;> first | exact h | exact ⟨h.1, by have := h.2.1; omega, h.2.2.1, by have := h.2.2.2; omega⟩ | exact ⟨h.1, by have := h.2; omega⟩
def OkAll (boxes start : Nat) (f : Fl) (ss : List Stp) : Prop := ∀ (j : Nat) (s : Stp), ss[j]? = some s → OkAt boxes start f ss.length j s
theorem OkAll.app {boxes start : Nat} {f : Fl} {ss ts : List Stp} (h : OkAll boxes start f ss) (h2 : ∀ (j : Nat) (s : Stp), ts[j]? = some s → OkAt boxes start f (ss.length + ts.length) (ss.length + j) s) : OkAll boxes start f (ss ++ ts) := fun j s hj => by
  rw [List.length_append]
  by_cases hlt : j < ss.length
  · rw [List.getElem?_append_left hlt] at hj
    exact (h j s hj).mono (by omega)
  · rw [List.getElem?_append_right (by omega)] at hj
    have := h2 _ _ hj
    have e : ss.length + (j - ss.length) = j := by omega
    rw [e] at this
    exact this
theorem OkAll.fin {boxes start : Nat} {f : Fl} {ss : List Stp} (h : OkAll boxes start f ss) : StrOk boxes start f (ss ++ [.fin]) := fun j s hj => by
  have hl : (ss ++ [Stp.fin]).length = ss.length + 1 := by rw [List.length_append]; rfl
  by_cases hlt : j < ss.length
  · rw [List.getElem?_append_left hlt] at hj
    have := h j s hj
    rw [hl]
    cases s <;> first | exact this.elim | exact ⟨this.1, by omega, this.2.2.1, by have := this.2.2.2; omega⟩ | exact ⟨this.1, by have := this.2; omega⟩ | exact ⟨this.1, this.2.1, this.2.2.1, this.2.2.2.1, this.2.2.2.2, by omega⟩ | exact ⟨this, by omega⟩
  · rw [List.getElem?_append_right (by omega)] at hj
    have e : j - ss.length = 0 := by
      have := (List.getElem?_eq_some_iff.mp hj).1
      simpa using this
    rw [e] at hj
    cases hj
    show j + 1 = _
    rw [hl]; omega
structure StI (M M' : HpD) (p q ps : Addr) (boxes start : Nat) (f : Fl) (i : Nat) (ss : List Stp) (ls : List Nat) : Prop where
  dr : Dr p M M'
  hq : M' q = some (.lst (ls.map fun (b : Nat) => D.int b))
  hps : M' ps = some (.lst (ss.map encS))
  nps : M ps = none
  ne : ps ≠ q
  ll : ls.length + i = boxes
  lb : ∀ b ∈ ls, b < boxes
  sl : ss.length ≤ 4 * i
  ok : OkAll boxes start f ss
theorem eraseIdx_map {α β : Type} (f : α → β) : ∀ (xs : List α) (m : Nat), (xs.map f).eraseIdx m = (xs.eraseIdx m).map f
  | [], _ => rfl
  | _ :: _, 0 => rfl
  | x :: xs, m + 1 => by rw [List.map_cons, List.eraseIdx_cons_succ, List.eraseIdx_cons_succ, List.map_cons, eraseIdx_map f xs m]
theorem Dr.none {p a : Addr} {M M' : HpD} (h : Dr p M M') (hp : DSt M p) (n : M' a = none) : M a = none := by
  cases e : M a with
  | none => rfl
  | some o => rw [h.fr a o (h.st.ne n) e] at n; cases n
theorem StI.next {M M' M3 : HpD} {p q ps ps' : Addr} {boxes start m : Nat} {f : Fl} {i : Nat} {ss ts : List Stp} {ls : List Nat} (I : StI M M' p q ps boxes start f i ss ls) (hm : m < ls.length) (d3 : Dr p M M3)
    (hq : M3 q = some (.lst ((ls.eraseIdx m).map fun (b : Nat) => D.int b))) (nps : M ps' = none) (ne : ps' ≠ q) (nep : ps' ≠ p) (sz : ts.length ≤ 4) (ok : ∀ (j : Nat) (s : Stp), ts[j]? = some s → OkAt boxes start f (ss.length + ts.length) (ss.length + j) s) {xs : List D} (e : xs = ts.map encS) :
    StI M (updD M3 ps' (.lst (ss.map encS ++ xs))) p q ps' boxes start f (i + 1) (ss ++ ts) (ls.eraseIdx m) := by
  subst e
  refine ⟨d3.upd nps nep, by rw [updD_ne (Ne.symm ne)]; exact hq, by rw [updD_same, List.map_append], nps, ne, ?_, fun b hb => I.lb b (List.mem_of_mem_eraseIdx hb), by rw [List.length_append]; have := I.sl; omega, I.ok.app ok⟩
  have := I.ll
  rw [List.length_eraseIdx, if_pos hm]
  omega
theorem len_law_stretch {ds M Q} (h : sp_law_stretch ds M Q) : ds.length = 5 := by obtain ⟨n, d, f, s, v, rfl, _⟩ := h; rfl
theorem upTo_nat (n : Nat) : DL.upTo 0 n = (List.range n).map fun (b : Nat) => D.int b := by
  unfold DL.upTo
  refine List.map_congr_left fun b _ => ?_
  rw [Int.zero_add]
theorem pr_law_stretch {ds M Q} (h : sp_law_stretch ds M Q) : rd_law_stretch (en Q) (startD ["d", "flags", "boxes", "start", "values", "steps", "box", "left", "turn", "way", "edge", "place", "at", "test"] ds) M := by
  obtain ⟨p, f, boxes, start, vs, rfl, hl, hb, hv, hn, hf, st, q⟩ := h
  unfold rd_law_stretch
  walk_at "rd"
  intro p0 np0
  refine ⟨by omega, by omega, ⟨fun q0 nq0 => ⟨fun i M' => M' = updD (updD M p0 (.lst [])) q0 (.lst ((List.range i).map fun (b : Nat) => D.int b)), rfl, fun _ _ _ _ => trivial, ?_, ?_⟩⟩⟩
  · rintro i x M' hx rfl
    obtain ⟨rfl, _⟩ := upTo_at hx
    unfold lcBody
    walk_at "rd"
    refine ⟨by rw [List.length_map, List.length_range]; omega, ?_⟩
    rw [List.range_succ, List.map_append]
    rfl
  · rintro M' rfl
    rw [upTo_length, Int.toNat_natCast]
    have ne0 : p0 ≠ q0 := fun e => by rw [← e, updD_same] at nq0; cases nq0
    have nq1 : M q0 = none := by rw [updD_ne (Ne.symm ne0)] at nq0; exact nq0
    refine ⟨by omega, by omega, fun i σ M' => ∃ (ps : Addr) (ss : List Stp) (ls : List Nat) (v6 v8 v9 v11 v12 v13 : Option D), σ = [some (.ref p), some (encF f), some (.int boxes), some (.int start), some (.lst (vs.map encR)), some (.ref ps), v6, some (.ref q0), v8, v9, none, v11, v12, v13] ∧ StI M M' p q0 ps boxes start f i ss ls, ?_, fun _ _ _ _ _ => trivial, ?_, ?_⟩
    · refine ⟨p0, [], List.range boxes, _, _, _, _, _, _, rfl, (Dr.new st np0).upd nq1 (st.ne nq1), updD_same, by rw [updD_ne ne0, updD_same]; rfl, np0, ne0, by rw [List.length_range]; rfl, fun b hb => List.mem_range.mp hb, Nat.zero_le _, fun _ _ h => by simp at h⟩
    · rintro i x σ M' hx ⟨ps, ss, ls, v6, v8, v9, v11, v12, v13, rfl, I⟩
      obtain ⟨rfl, hi⟩ := upTo_at (n := (boxes : Int)) hx
      simp only [encF]
      walk_at "rd"
      have nep : q0 ≠ p := st.ne nq1
      have npsp : ps ≠ p := st.ne I.nps
      have hll := I.ll
      have hls : ls ≠ [] := fun e => by rw [e] at hll; simp at hll; omega
      refine ⟨p, q0, _, rfl, nep, I.hq, by simpa using hls, by rw [List.length_map]; omega, I.dr.st, fun m d M1 hm st1 hq1 fr1 => ?_⟩
      rw [List.getElem?_map] at hm
      obtain ⟨b, hb1, rfl⟩ := Option.map_eq_some_iff.mp hm
      rw [eraseIdx_map] at hq1
      have hml : m < ls.length := (List.getElem?_eq_some_iff.mp hb1).1
      have d1 : Dr p M M1 := ⟨st1, fun c o hc hM => fr1 c o hc (fun e => by rw [e, nq1] at hM; cases hM) (I.dr.fr c o hc hM)⟩
      have hps1 : M1 ps = some _ := fr1 _ _ npsp I.ne I.hps
      have hbb : b < boxes := I.lb b (List.mem_of_getElem? hb1)
      refine ⟨p, _, rfl, by decide, by decide, st1, fun way M2 w0 w1 d2 => ⟨by decide, by decide, lcDr_of (P := fun _ y => ∃ l, y = encLS l ∧ Uses f l) d2.st (by rw [upTo_length]; decide) (fun _ _ => trivial) ?_ ?_⟩⟩
      · intro j x hx M3 d3 Qn hq
        walk_at "rd"
        exact ⟨p, f, rfl, hl, d3.st, fun l M4 hl d4 => hq _ _ ⟨l, rfl, hl⟩ d4⟩
      · intro ys M3 ly hP d3
        obtain ⟨ls4, rfl, hU⟩ := list_of_all (f := encLS) (P := Uses f) fun y hy => by
          obtain ⟨i, hi⟩ := List.getElem?_of_mem hy
          exact hP i y hi
        rw [List.length_map, upTo_length] at ly
        obtain ⟨e1, e2, e3, e4, rfl⟩ : ∃ a b c d, ls4 = [a, b, c, d] := by
          match ls4, ly with
          | [a, b, c, d], _ => exact ⟨a, b, c, d, rfl⟩
        have u1 := hU e1 (by simp)
        have u2 := hU e2 (by simp)
        have u3 := hU e3 (by simp)
        have u4 := hU e4 (by simp)
        have dd := (d1.trans d2).trans d3
        have hps3 : M3 ps = some (.lst (ss.map encS)) := d3.fr _ _ npsp (d2.fr _ _ npsp hps1)
        have hq3 := d3.fr _ _ nep (d2.fr _ _ nep hq1)
        have hsl := I.sl
        refine ⟨_, rfl, by simp, by simp, _, items_ref hps3, rfl, ?_⟩
        have one : ∀ (t : Stp), OkAt boxes start f (ss.length + 1) (ss.length + 0) t → ∀ (j : Nat) (s : Stp), [t][j]? = some s → OkAt boxes start f (ss.length + [t].length) (ss.length + j) s := fun t ht j s hj => by
          match j, hj with
          | 0, hj => cases hj; exact ht
        split
        · exact ⟨isLst_ref hps3, _, hps3, by rw [List.length_map]; omega, _, _, I.next (ts := [.hide b]) hml dd hq3 I.nps I.ne npsp (by simp) (one _ hbb) rfl⟩
        · refine ⟨rfl, ?_⟩
          split
          · refine ⟨p, f, vs, rfl, hl, hv, hn, hf, d3.st, fun l M4 hu d4 => ⟨p, _, rfl, by decide, by decide, d4.st, fun sg M5 s0 s1 d5 => ⟨_, items_ref (d5.fr _ _ npsp (d4.fr _ _ npsp hps3)), by rw [List.length_map]; omega, fun p1 np1 => ?_⟩⟩⟩
            have d6 := (dd.trans d4).trans d5
            have hq5 := d5.fr _ _ nep (d4.fr _ _ nep hq3)
            refine ⟨_, _, I.next (ts := [.test l sg (start + ss.length + 3), .place b e1 e2 e3 e4, .jump (start + ss.length + 4), .hide b]) hml d6 hq5 (d6.none st np1) (fun e => by rw [e, hq5] at np1; cases np1) (d5.st.ne np1) (by simp) (fun j s hj => ?_) ?_⟩
            · match j, hj with
              | 0, hj => cases hj; exact ⟨hu, by show _ ≤ ss.length + 4; omega, by omega, by show _ ≤ start + (ss.length + 4); omega⟩
              | 1, hj => cases hj; exact ⟨u1, u2, u3, u4, hbb⟩
              | 2, hj => cases hj; exact ⟨by omega, by show _ ≤ start + (ss.length + 4); omega⟩
              | 3, hj => cases hj; exact hbb
            · have x3 : (start : Int) + ((ss.map encS).length : Int) + 3 = ((start + ss.length + 3 : Nat) : Int) := by rw [List.length_map]; omega
              have x4 : (start : Int) + ((ss.map encS).length : Int) + 4 = ((start + ss.length + 4 : Nat) : Int) := by rw [List.length_map]; omega
              rw [x3, x4]
              rfl
          · exact ⟨isLst_ref hps3, _, hps3, by rw [List.length_map]; omega, _, _, I.next (ts := [.place b e1 e2 e3 e4]) hml dd hq3 I.nps I.ne npsp (by simp) (one _ ⟨u1, u2, u3, u4, hbb⟩) rfl⟩
    · rintro σ M' ⟨ps, ss, ls, v6, v8, v9, v11, v12, v13, rfl, I⟩
      rw [upTo_length] at I
      wp_walk using I.hps, items_ref I.hps
      have hsl := I.sl
      refine ⟨by rw [List.length_map]; omega, .keep ?_⟩
      have := q (ss ++ [.fin]) M' I.ok.fin (by simp) (by rw [List.length_append]; show ss.length + 1 ≤ _; omega) I.dr
      rw [List.map_append] at this
      exact this

theorem len_line_value {ds M Q} (h : sp_line_value ds M Q) : ds.length = 2 := by obtain ⟨n, d, f, rfl, _⟩ := h; rfl
theorem foldl_take_succ {α β : Type} (f : β → α → β) (b : β) {xs : List α} {i : Nat} {x : α} (h : xs[i]? = some x) : (xs.take (i + 1)).foldl f b = f ((xs.take i).foldl f b) x := by
  rw [List.take_succ, h, List.foldl_append]
  rfl
theorem line_rv {l : LS} {v : Vs} {L B c : Int} (hc : 1 ≤ c) (h1 : Rv c 4000000 l.1) (hL : 0 < L) (hB : 0 ≤ B) (ok : ∀ t ∈ l.2, Rv 6 12 t.2 ∧ ∃ a, v[t.1]? = some (some a) ∧ Rv L B a) :
    ∀ i, i ≤ l.2.length → Rv (c * (6 * L)) (4000000 + i * (12 * B)) ((l.2.take i).foldl (lineF v) l.1)
  | 0, _ => h1.mono (Int.dvd_mul_right _ _) (by omega)
  | i + 1, hi => by
    have ih := line_rv hc h1 hL hB ok i (by omega)
    have hx : l.2[i]? = some (l.2[i]'(by omega)) := List.getElem?_eq_getElem _
    rw [foldl_take_succ _ _ hx]
    obtain ⟨h2, a, h3, h4⟩ := ok _ (List.mem_of_getElem? hx)
    have e : lineF v ((l.2.take i).foldl (lineF v) l.1) (l.2[i]'(by omega)) = addR ((l.2.take i).foldl (lineF v) l.1) (mulR (l.2[i]'(by omega)).2 a) := by
      unfold lineF
      rw [h3]
      rfl
    rw [e]
    have m := (h2.mul h4 (by decide) hB).mono (L' := c * (6 * L)) (B' := 12 * B) (Int.dvd_mul_left _ _) (Int.le_refl _)
    have e2 : (4000000 + ((i + 1 : Nat) : Int) * (12 * B)) = (4000000 + (i : Int) * (12 * B)) + 12 * B := by
      have : ((i + 1 : Nat) : Int) = (i : Int) + 1 := by omega
      rw [this, Int.add_mul, Int.one_mul, Int.add_assoc]
    rw [e2]
    exact ih.add m
theorem line_rk {l : LS} {v : Vs} (h : Ready l v) : (∀ i, i ≤ l.2.length → Rk ((l.2.take i).foldl (lineF v) l.1)) ∧ ∀ t ∈ l.2, ∃ a, v[t.1]? = some (some a) ∧ Rk t.2 ∧ Rk a ∧ Rk (mulR t.2 a) := by
  obtain ⟨⟨_, c, c1, c2, hc⟩, few, L, B, p, q, hL, hLp, hB, hBq, hz, ok⟩ := h
  have e1 : (6 * L).natAbs < 2 ^ (p + 3) := by rw [Nat.pow_add]; omega
  have p13 : (8192 : Nat) = 2 ^ 13 := by decide
  have e0 : c.natAbs < 2 ^ 13 := by omega
  have e2 : (c * (6 * L)).natAbs < 2 ^ (p + 16) := nat_mul_lt e0 e1 (by omega)
  have p1 : 0 < c * (6 * L) := Int.mul_pos (by omega) (by omega)
  refine ⟨fun i hi => ?_, fun t ht => ?_⟩
  · have r := line_rv c1 hc hL (by omega) ok i hi
    have hb : 4000000 + (i : Int) * (12 * B) ≤ 37 * B := by
      have : (i : Int) * (12 * B) ≤ 3 * (12 * B) := Int.mul_le_mul_of_nonneg_right (by omega) (by omega)
      omega
    have hb2 : (37 * B).natAbs < 2 ^ (q + 6) := by rw [Nat.pow_add]; omega
    exact (r.mono (Int.dvd_refl _) hb).rk p1 e2 (by omega) hb2 (by omega)
  · obtain ⟨h2, a, h3, h4⟩ := ok t ht
    have hb2 : (12 * B).natAbs < 2 ^ (q + 4) := by rw [Nat.pow_add]; omega
    exact ⟨a, h3, h2.rk (p := 3) (q := 5) (by decide) (by decide) (by decide) (by decide) (by decide), h4.rk hL hLp (by omega) hBq (by omega), (h2.mul h4 (by decide) (by omega)).rk (by omega) e1 (by omega) hb2 (by omega)⟩
theorem pr_line_value {ds M Q} (h : sp_line_value ds M Q) : rd_line_value (en Q) (startD ["told", "values", "total", "slot", "share"] ds) M := by
  obtain ⟨l, x, v, rfl, hi, rd, q⟩ := h
  obtain ⟨rk1, rk2⟩ := line_rk rd
  unfold rd_line_value
  simp only [encLS]
  walk_at "rd"
  refine ⟨fun i σ M' => ∃ v3 v4, σ = [some (D.tup [encR l.fst, D.tup (List.map encT l.snd)]), some x, some (encR ((l.2.take i).foldl (lineF v) l.1)), v3, v4] ∧ M' = M, ⟨_, _, rfl, rfl⟩, fun _ _ _ _ _ => rfl, ?_, ?_⟩
  · rintro i y σ M' hy ⟨v3, v4, rfl, rfl⟩
    rw [List.getElem?_map] at hy
    obtain ⟨t, ht, rfl⟩ := Option.map_eq_some_iff.mp hy
    obtain ⟨a, ha, r1, r2, r3⟩ := rk2 t (List.mem_of_getElem? ht)
    have hat : atI (v.map encV) (t.1 : Int) = some (encR a) := atI_nat (by rw [List.getElem?_map, ha]; rfl)
    have hlt := (List.getElem?_eq_some_iff.mp ht).1
    simp only [encT]
    wp_walk using hi, hat
    have e : lineF v ((l.2.take i).foldl (lineF v) l.1) t = addR ((l.2.take i).foldl (lineF v) l.1) (mulR t.2 a) := by
      unfold lineF
      rw [ha]
      rfl
    refine ⟨t.2, a, rfl, r1, r2, _, _, rfl, rk1 i (by omega), r3, ?_, rfl⟩
    rw [foldl_take_succ _ _ ht, e]
  · rintro σ M' ⟨v3, v4, rfl, rfl⟩
    walk_at "rd"
    rw [List.length_map, List.take_length]
    exact .keep q
theorem len_law_line_worth {ds M Q} (h : sp_law_line_worth ds M Q) : ds.length = 2 := len_line_value h
theorem pr_law_line_worth {ds M Q} (h : sp_law_line_worth ds M Q) : rd_law_line_worth (en Q) (startD ["told", "slots", "total", "slot", "share"] ds) M := by
  obtain ⟨l, x, v, rfl, hi, rd, q⟩ := h
  obtain ⟨rk1, rk2⟩ := line_rk rd
  unfold rd_law_line_worth
  simp only [encLS]
  walk_at "rd"
  refine ⟨fun i σ M' => ∃ v3 v4, σ = [some (D.tup [encR l.fst, D.tup (List.map encT l.snd)]), some x, some (encR ((l.2.take i).foldl (lineF v) l.1)), v3, v4] ∧ M' = M, ⟨_, _, rfl, rfl⟩, fun _ _ _ _ _ => rfl, ?_, ?_⟩
  · rintro i y σ M' hy ⟨v3, v4, rfl, rfl⟩
    rw [List.getElem?_map] at hy
    obtain ⟨t, ht, rfl⟩ := Option.map_eq_some_iff.mp hy
    obtain ⟨a, ha, r1, r2, r3⟩ := rk2 t (List.mem_of_getElem? ht)
    have hat : atI (v.map encV) (t.1 : Int) = some (encR a) := atI_nat (by rw [List.getElem?_map, ha]; rfl)
    have hlt := (List.getElem?_eq_some_iff.mp ht).1
    simp only [encT]
    wp_walk using hi, hat
    have e : lineF v ((l.2.take i).foldl (lineF v) l.1) t = addR ((l.2.take i).foldl (lineF v) l.1) (mulR t.2 a) := by
      unfold lineF
      rw [ha]
      rfl
    refine ⟨t.2, a, rfl, r1, r2, _, _, rfl, rk1 i (by omega), r3, ?_, rfl⟩
    rw [foldl_take_succ _ _ ht, e]
  · rintro σ M' ⟨v3, v4, rfl, rfl⟩
    walk_at "rd"
    rw [List.length_map, List.take_length]
    exact .keep q
theorem len_law_is_layout {ds M Q} (h : sp_law_is_layout ds M Q) : ds.length = 2 := by obtain ⟨n, d, rfl, _⟩ := h; rfl
theorem pr_law_is_layout {ds M Q} (h : sp_law_is_layout ds M Q) : rd_law_is_layout (en Q) (startD ["told", "many", "place", "edge"] ds) M := by
  obtain ⟨lay, many, rfl, hm, ok, q⟩ := h
  have i1 : isiB "tuple" "tuple" = true := by decide +kernel
  unfold rd_law_is_layout
  walk_at "rd"
  cases lay with
  | none =>
    rw [if_pos (show isN (encL none) = true from rfl)]
    exact .keep q
  | some ps =>
    obtain ⟨hl, hes⟩ := ok ps rfl
    simp only [encL]
    wp_walk using i1, List.length_map
    rw [if_neg (by omega)]
    refine ⟨fun i σ M' => ∃ v2 v3, σ = [some (.tup (ps.map encP)), some (.int many), v2, v3] ∧ M' = M, ⟨_, _, rfl, rfl⟩, fun _ _ _ _ _ => rfl, ?_, ?_⟩
    · rintro i y σ M' hy ⟨v2, v3, rfl, rfl⟩
      rw [List.getElem?_map] at hy
      obtain ⟨pl, hpl, rfl⟩ := Option.map_eq_some_iff.mp hy
      cases pl with
      | none =>
        simp only [encP]
        walk_at "rd"
        exact ⟨_, rfl⟩
      | some es =>
        obtain ⟨h4, ha⟩ := hes es (List.mem_of_getElem? hpl)
        simp only [encP]
        wp_walk using i1, List.length_map
        rw [if_neg (by omega)]
        refine lcP_of (f := fun _ => some (.bl true)) (fun _ _ => rfl) (by rw [List.length_map]; omega) ?_ ?_
        · intro x hx M'' s Qn hq
          obtain ⟨a, ha2, rfl⟩ := List.mem_map.mp hx
          walk_at "rd"
          obtain ⟨k1, k2⟩ := ha a ha2
          exact ⟨a, rfl, k1, k2, hq⟩
        · refine ⟨rfl, es.map fun _ => true, ?_, ?_⟩
          · rw [items_lst]
            refine congrArg some ?_
            clear h4 ha hpl hy
            induction es with
            | nil => rfl
            | cons e es ih =>
              simp only [List.map_cons, List.filterMap_cons]
              rw [ih]
          · rw [if_neg (by simp)]
            exact ⟨⟨_, rfl⟩, rfl⟩
    · rintro σ M' ⟨v2, v3, rfl, rfl⟩
      walk_at "rd"
      exact .keep q

theorem ne_test_let : (Str.ofString "test" = Str.ofString "let") = False := eq_false (by decide +kernel)
theorem ne_jump_let : (Str.ofString "jump" = Str.ofString "let") = False := eq_false (by decide +kernel)
theorem ne_jump_test : (Str.ofString "jump" = Str.ofString "test") = False := eq_false (by decide +kernel)
theorem ne_place_let : (Str.ofString "place" = Str.ofString "let") = False := eq_false (by decide +kernel)
theorem ne_place_test : (Str.ofString "place" = Str.ofString "test") = False := eq_false (by decide +kernel)
theorem ne_place_jump : (Str.ofString "place" = Str.ofString "jump") = False := eq_false (by decide +kernel)
theorem ne_hide_let : (Str.ofString "hide" = Str.ofString "let") = False := eq_false (by decide +kernel)
theorem ne_hide_test : (Str.ofString "hide" = Str.ofString "test") = False := eq_false (by decide +kernel)
theorem ne_hide_jump : (Str.ofString "hide" = Str.ofString "jump") = False := eq_false (by decide +kernel)
theorem ne_hide_place : (Str.ofString "hide" = Str.ofString "place") = False := eq_false (by decide +kernel)
theorem ne_hide_clash : (Str.ofString "hide" = Str.ofString "clash") = False := eq_false (by decide +kernel)
theorem ne_hide_end : (Str.ofString "hide" = Str.ofString "end") = False := eq_false (by decide +kernel)
theorem ne_clash_let : (Str.ofString "clash" = Str.ofString "let") = False := eq_false (by decide +kernel)
theorem ne_clash_test : (Str.ofString "clash" = Str.ofString "test") = False := eq_false (by decide +kernel)
theorem ne_clash_jump : (Str.ofString "clash" = Str.ofString "jump") = False := eq_false (by decide +kernel)
theorem ne_clash_place : (Str.ofString "clash" = Str.ofString "place") = False := eq_false (by decide +kernel)
theorem ne_end_let : (Str.ofString "end" = Str.ofString "let") = False := eq_false (by decide +kernel)
theorem ne_end_test : (Str.ofString "end" = Str.ofString "test") = False := eq_false (by decide +kernel)
theorem ne_end_jump : (Str.ofString "end" = Str.ofString "jump") = False := eq_false (by decide +kernel)
theorem ne_end_place : (Str.ofString "end" = Str.ofString "place") = False := eq_false (by decide +kernel)
theorem ne_end_clash : (Str.ofString "end" = Str.ofString "clash") = False := eq_false (by decide +kernel)
/-- slots that are flagged ahead of step i have numbers within bounds -/
structure VOk (slots i : Nat) (f : Fl) (v : Vs) : Prop where
  len : v.length = slots
  ok : ∃ L B : Int, 0 < L ∧ L.natAbs < 2 ^ (60 + 16 * i) ∧ 4000000 ≤ B ∧ B.natAbs < 2 ^ (23 + 6 * i) ∧ ∀ j : Nat, f[j]? = some true → ∃ a, v[j]? = some (some a) ∧ Rv L B a
theorem VOk.mono {slots i g : Nat} {f h : Fl} {v : Vs} (a : VOk slots i f v) (hi : i ≤ g) (hf : Le h f) : VOk slots g h v := by
  obtain ⟨len, L, B, h1, h2, h3, h4, h5⟩ := a
  exact ⟨len, L, B, h1, Nat.lt_of_lt_of_le h2 (Nat.pow_le_pow_right (by decide) (by omega)), h3, Nat.lt_of_lt_of_le h4 (Nat.pow_le_pow_right (by decide) (by omega)), fun j hj => h5 j (hf j hj)⟩
theorem VOk.ready {slots i : Nat} {f : Fl} {v : Vs} {l : LS} (a : VOk slots i f v) (u : Uses f l) (hi : i ≤ 100) : Ready l v := by
  obtain ⟨len, L, B, h1, h2, h3, h4, h5⟩ := a
  exact ⟨u.num, u.few, L, B, _, _, h1, h2, h3, h4, by omega, fun t ht => ⟨(u.ok t ht).2, h5 _ (u.ok t ht).1⟩⟩
theorem VOk.let_ {slots i s : Nat} {f h : Fl} {v : Vs} {l : LS} (a : VOk slots i f v) (u : Uses f l) (hs : s < slots) (hf : ∀ j : Nat, h[j]? = some true → j = s ∨ f[j]? = some true) : VOk slots (i + 1) h (v.set s (some (lineW l v))) := by
  obtain ⟨len, L, B, h1, h2, h3, h4, h5⟩ := a
  obtain ⟨c, c1, c2, hc⟩ := u.num.rv
  have few := u.few
  have e1 : (6 * L).natAbs < 2 ^ (60 + 16 * i + 3) := by rw [Nat.pow_add]; omega
  have p13 : (8192 : Nat) = 2 ^ 13 := by decide
  have e0 : c.natAbs < 2 ^ 13 := by omega
  have e2 : (c * (6 * L)).natAbs < 2 ^ (60 + 16 * (i + 1)) := nat_mul_lt e0 e1 (by omega)
  have r := line_rv c1 hc h1 (by omega) (fun t ht => ⟨(u.ok t ht).2, h5 _ (u.ok t ht).1⟩) l.2.length (Nat.le_refl _)
  rw [List.take_length] at r
  have hb : 4000000 + (l.2.length : Int) * (12 * B) ≤ 37 * B := by
    have : (l.2.length : Int) * (12 * B) ≤ 3 * (12 * B) := Int.mul_le_mul_of_nonneg_right (by omega) (by omega)
    omega
  have hb2 : (37 * B).natAbs < 2 ^ (23 + 6 * (i + 1)) := by
    have e : 23 + 6 * (i + 1) = (23 + 6 * i) + 6 := by omega
    rw [e, Nat.pow_add]
    omega
  refine ⟨by rw [List.length_set]; exact len, c * (6 * L), 37 * B, Int.mul_pos (by omega) (by omega), e2, by omega, hb2, fun j hj => ?_⟩
  by_cases e : s = j
  · subst e
    exact ⟨_, List.getElem?_set_self (by omega), r.mono (Int.dvd_refl _) hb⟩
  · obtain ⟨a, ha, hr⟩ := h5 j ((hf j hj).resolve_left (fun z => e z.symm))
    exact ⟨a, by rw [List.getElem?_set_ne e]; exact ha, hr.mono (Int.dvd_trans (Int.dvd_mul_left 6 L) (Int.dvd_mul_left _ _)) (by omega)⟩
theorem VOk.start {slots : Nat} {f : Fl} {pt : List R} (hp : pt.length ≤ 4) (hk : pt.length ≤ slots) (hn : ∀ x ∈ pt, Num x) (hf : ∀ j : Nat, f[j]? = some true → j < pt.length) : VOk slots 0 f (pt.map some ++ List.replicate (slots - pt.length) none) := by
  have key : ∀ pt : List R, (∀ x ∈ pt, Num x) → ∃ L : Int, 0 < L ∧ L.natAbs ≤ 6000 ^ pt.length ∧ ∀ x ∈ pt, Rv L 4000000 x := by
    intro pt
    induction pt with
    | nil => exact fun _ => ⟨1, by decide, by decide, fun _ h => by cases h⟩
    | cons x xs ih =>
      intro h
      obtain ⟨L, h1, h2, h3⟩ := ih fun y hy => h y (List.mem_cons_of_mem _ hy)
      obtain ⟨_, c, c1, c2, hc⟩ := h x List.mem_cons_self
      refine ⟨L * c, Int.mul_pos h1 (by omega), ?_, fun y hy => ?_⟩
      · rw [Int.natAbs_mul, List.length_cons, Nat.pow_succ]
        exact Nat.mul_le_mul h2 (by omega)
      · rcases List.mem_cons.mp hy with rfl | hy
        · exact hc.mono (Int.dvd_mul_left _ _) (Int.le_refl _)
        · exact (h3 y hy).mono (Int.dvd_mul_right _ _) (Int.le_refl _)
  obtain ⟨L, h1, h2, h3⟩ := key pt hn
  have h4 : (6000 : Nat) ^ pt.length ≤ 6000 ^ 4 := Nat.pow_le_pow_right (by decide) hp
  have h5 : (6000 : Nat) ^ 4 < 2 ^ (60 + 16 * 0) := by decide
  refine ⟨by rw [List.length_append, List.length_map, List.length_replicate]; omega, L, 4000000, h1, by omega, Int.le_refl _, by decide, fun j hj => ?_⟩
  have hlt := hf j hj
  refine ⟨pt[j], ?_, h3 _ (List.getElem_mem hlt)⟩
  rw [List.getElem?_append_left (by rw [List.length_map]; exact hlt), List.getElem?_map, List.getElem?_eq_getElem hlt]
  rfl
/-- the state of a run behind its steps so far -/
structure RnI (k slots boxes : Nat) (ss : List Stp) (pt : List R) (F : Nat → Fl) (M M' : HpD) (pv pp : Addr) (at_ n : Nat) (v : Vs) (pl : List Pl) : Prop where
  fr : SubM M M'
  hv : M' pv = some (.lst (v.map encV))
  hp : M' pp = some (.lst (pl.map encP))
  vok : VOk slots at_ (F at_) v
  lt : at_ < ss.length
  fuel : ss.length < at_ + n
  lp : pl.length = boxes
  eq : go ss n at_ v pl = runC slots boxes ss pt
section
variable {k slots boxes : Nat} {ss : List Stp} {pt : List R} {F : Nat → Fl} {M M' : HpD} {pv pp : Addr} {at_ n : Nat} {v : Vs} {pl : List Pl}
theorem RnI.to {g : Nat} (I : RnI k slots boxes ss pt F M M' pv pp at_ (n + 1) v pl) (heq : go ss n g v pl = runC slots boxes ss pt) (h1 : at_ < g) (h2 : g < ss.length) (h3 : Le (F g) (F at_)) : RnI k slots boxes ss pt F M M' pv pp g n v pl :=
  ⟨I.fr, I.hv, I.hp, I.vok.mono (by omega) h3, h2, by have := I.fuel; omega, I.lp, heq⟩
theorem RnI.let_ {s : Nat} {l : LS} (I : RnI k slots boxes ss pt F M M' pv pp at_ (n + 1) v pl) (nv : M pv = none) (ne : pv ≠ pp) (heq : go ss n (at_ + 1) (v.set s (some (lineW l v))) pl = runC slots boxes ss pt) (sok : SOk k slots boxes ss.length F at_ (.let_ s l)) :
    RnI k slots boxes ss pt F M (updD M' pv (.lst ((v.map encV).set s (encR (lineW l v))))) pv pp (at_ + 1) n (v.set s (some (lineW l v))) pl :=
  ⟨I.fr.upd nv, by rw [updD_same, List.map_set]; rfl, by rw [updD_ne (Ne.symm ne)]; exact I.hp, I.vok.let_ sok.1 sok.2.2.1 sok.2.2.2.2, sok.2.2.2.1, by have := I.fuel; omega, I.lp, heq⟩
theorem RnI.place {b : Nat} {es : List R} (I : RnI k slots boxes ss pt F M M' pv pp at_ (n + 1) v pl) (np : M pp = none) (ne : pv ≠ pp) (heq : go ss n (at_ + 1) v (pl.set b (some es)) = runC slots boxes ss pt) (h2 : at_ + 1 < ss.length) (h3 : Le (F (at_ + 1)) (F at_)) :
    RnI k slots boxes ss pt F M (updD M' pp (.lst ((pl.map encP).set b (.tup (es.map encR))))) pv pp (at_ + 1) n v (pl.set b (some es)) :=
  ⟨I.fr.upd np, by rw [updD_ne ne]; exact I.hv, by rw [updD_same, List.map_set]; rfl, I.vok.mono (by omega) h3, h2, by have := I.fuel; omega, by rw [List.length_set]; exact I.lp, heq⟩
end
theorem lnF_len {l : List Pl} {b : Nat} {x : Pl} : (l.set b x).length = l.length := List.length_set
theorem len_run_code {ds M Q} (h : sp_run_code ds M Q) : ds.length = 2 := by obtain ⟨n, d, f, s, rfl, _⟩ := h; rfl
theorem encN_rep (n : Nat) : (List.replicate n (none : Option R)).map encV = List.replicate n D.non := by rw [List.map_replicate]; rfl
theorem encP_rep (n : Nat) : (List.replicate n (none : Pl)).map encP = List.replicate n D.non := by rw [List.map_replicate]; rfl
theorem pr_run_code {ds M Q} (h : sp_run_code ds M Q) : rd_run_code (en Q) (startD ["code", "point", "k", "slots", "boxes", "steps", "values", "places", "at", "step", "word", "value", "told"] ds) M := by
  obtain ⟨slots, boxes, ss, pt, rfl, hp4, ok, hn, q⟩ := h
  have ks := ok.ks
  have s20 := ok.sl
  have b20 := ok.bx
  have few := ok.few
  obtain ⟨F, hF0, hF⟩ := ok.flow
  unfold rd_run_code
  simp only [encC]
  walk_at "rd"
  have er : ((slots : Int) - (pt.length : Int)).toNat = slots - pt.length := by omega
  have eb : ((boxes : Int)).toNat = boxes := by omega
  rw [er]
  refine ⟨by omega, by omega, by rw [List.length_map, List.length_replicate]; omega, fun pv npv => ⟨by omega, by omega, fun pp npp => ?_⟩⟩
  have ne : pv ≠ pp := fun e => by rw [← e, updD_same] at npp; cases npp
  have npp1 : M pp = none := by rw [updD_ne (Ne.symm ne)] at npp; exact npp
  refine ⟨fun m σ M' => ∃ (at_ : Nat) (v : Vs) (pl : List Pl) (v9 v10 v11 : Option D), σ = [some (D.tup [D.int ↑pt.length, D.int ↑slots, D.int ↑boxes, D.tup (List.map encS ss)]),
                        some (D.tup (List.map encR pt)), some (D.int ↑pt.length), some (D.int ↑slots),
                        some (D.int ↑boxes), some (D.tup (List.map encS ss)), some (D.ref pv), some (D.ref pp),
                        some (D.int at_), v9, v10, v11, none] ∧ RnI pt.length slots boxes ss pt F M M' pv pp at_ m v pl, ⟨ss.length + 1, 0, pt.map some ++ List.replicate (slots - pt.length) none, List.replicate boxes none, none, none, none, rfl, ?_⟩, ?_⟩
  · refine ⟨(SubM.new npv).trans (.new npp), ?_, ?_, VOk.start hp4 ks hn hF0, ok.some, by omega, ?_, rfl⟩
    · rw [updD_ne ne, updD_same, List.map_append, encN_rep, List.map_map]
      rfl
    · rw [updD_same, eb, encP_rep]
    · rw [List.length_replicate]
  · rintro m σ M' ⟨at_, v, pl, v9, v10, v11, rfl, I⟩
    obtain ⟨s, hs⟩ : ∃ s, ss[at_]? = some s := ⟨_, List.getElem?_eq_getElem I.lt⟩
    have hat : atI (ss.map encS) (at_ : Int) = some (encS s) := atI_nat (by rw [List.getElem?_map, hs]; rfl)
    have sok := hF at_ s hs
    have hlt := I.lt
    have hfu := I.fuel
    have ecast : ((at_ : Int) + 1) = ((at_ + 1 : Nat) : Int) := by omega
    obtain ⟨n, rfl⟩ : ∃ n, m = n + 1 := ⟨m - 1, by omega⟩
    have heq := I.eq
    unfold go at heq
    rw [hs] at heq
    have hvi := items_ref I.hv
    have rdy : ∀ l, Uses (F at_) l → Ready l v := fun l u => I.vok.ready u (by omega)
    wp_walk using hat, List.length_map
    rw [if_pos (by omega)]
    cases s with
    | let_ s l =>
      simp only [encS]
      wp_walk using ecast, I.hv
      have hsl : s < (v.map encV).length := by rw [List.length_map, I.vok.len]; exact sok.2.2.1
      exact ⟨l, _, v, rfl, hvi, rdy l sok.1, _, I.hv, s, ix_nat hsl, n, by omega, at_ + 1, rfl, _, _, I.let_ npv ne heq sok⟩
    | test l sg g =>
      simp only [encS]
      wp_walk using ecast, ne_test_let
      refine ⟨l, _, v, rfl, hvi, rdy l sok.1, ?_⟩
      obtain ⟨u, t1, t2, t3, t4, t5⟩ := sok
      have heq : (if (lineW l v).1 < 0 ∨ ((lineW l v).1 = 0 ∧ sg = 1) then go ss n g v pl else go ss n (at_ + 1) v pl) = runC slots boxes ss pt := heq
      simp only [encR]
      walk_at "rd"
      have taken : ((lineW l v).1 < 0 ∨ ((lineW l v).1 = 0 ∧ sg = 1)) → ∃ m', m' < n + 1 ∧ ∃ at_, (g : Int) = ((at_ : Nat) : Int) ∧ ∃ x x_1, RnI pt.length slots boxes ss pt F M M' pv pp at_ m' x x_1 := fun h => by
        rw [if_pos h] at heq
        exact ⟨n, by omega, g, rfl, _, _, I.to heq t2 t3 t5⟩
      have not_ : ¬ ((lineW l v).1 < 0 ∨ ((lineW l v).1 = 0 ∧ sg = 1)) → ∃ m', m' < n + 1 ∧ ∃ at__1, ((at_ + 1 : Nat) : Int) = ((at__1 : Nat) : Int) ∧ ∃ x x_1, RnI pt.length slots boxes ss pt F M M' pv pp at__1 m' x x_1 := fun h => by
        rw [if_neg h] at heq
        exact ⟨n, by omega, at_ + 1, rfl, _, _, I.to heq (by omega) t1 t4⟩
      by_cases h1 : (lineW l v).1 < 0
      · rw [if_pos h1]; exact taken (.inl h1)
      · rw [if_neg h1]
        by_cases h2 : (lineW l v).1 = 0
        · rw [if_pos h2]
          by_cases h3 : sg = 1
          · rw [if_pos h3]; exact taken (.inr ⟨h2, h3⟩)
          · rw [if_neg h3]; exact not_ fun h => h.elim h1 fun h => h3 h.2
        · rw [if_neg h2]; exact not_ fun h => h.elim h1 fun h => h2 h.1
    | jump g =>
      simp only [encS]
      wp_walk using ecast, ne_jump_let, ne_jump_test
      exact ⟨n, by omega, g, rfl, _, _, I.to heq sok.1 sok.2.1 sok.2.2⟩
    | place b e1 e2 e3 e4 =>
      simp only [encS]
      wp_walk using ecast, ne_place_let, ne_place_test, ne_place_jump
      obtain ⟨u1, u2, u3, u4, p1, p2, p3⟩ := sok
      have hbl : b < (pl.map encP).length := by rw [List.length_map, I.lp]; exact p1
      rw [cut_from (k := 2) (i := 2) rfl]
      simp only [List.drop_succ_cons, List.drop_zero]
      refine ⟨by decide, lcY_of ([lineW e1 v, lineW e2 v, lineW e3 v, lineW e4 v].map encR) (fun _ _ => rfl) rfl (by simp) (fun i x y hx hy M'' sm Qn hq => ?_) ?_⟩
      · have one : ∀ e : LS, Uses (F at_) e → x = encLS e → y = encR (lineW e v) → sp_line_value [x, .ref pv] M'' Qn := fun e he h1 h2 => by
          subst h1 h2
          exact ⟨e, _, v, rfl, items_ref (sm _ _ I.hv), rdy e he, hq⟩
        walk_at "rd"
        match i, hx, hy with
        | 0, hx, hy => cases hx; cases hy; exact one e1 u1 rfl rfl
        | 1, hx, hy => cases hx; cases hy; exact one e2 u2 rfl rfl
        | 2, hx, hy => cases hx; cases hy; exact one e3 u3 rfl rfl
        | 3, hx, hy => cases hx; cases hy; exact one e4 u4 rfl rfl
      · exact ⟨_, rfl, _, I.hp, b, ix_nat hbl, n, by omega, at_ + 1, rfl, _, _, I.place npp1 ne heq p2 p3⟩
    | hide b =>
      simp only [encS]
      wp_walk using ecast, ne_hide_let, ne_hide_test, ne_hide_jump, ne_hide_place, ne_hide_clash, ne_hide_end
      exact ⟨n, by omega, at_ + 1, rfl, _, _, I.to heq (by omega) sok.2.1 sok.2.2⟩
    | clash =>
      simp only [encS]
      wp_walk using ecast, ne_clash_let, ne_clash_test, ne_clash_jump, ne_clash_place
      have heq : none = runC slots boxes ss pt := heq
      rw [← heq] at q
      exact .drop I.fr q
    | fin =>
      simp only [encS]
      wp_walk using ecast, ne_end_let, ne_end_test, ne_end_jump, ne_end_place, ne_end_clash, items_ref I.hp
      have heq : some pl = runC slots boxes ss pt := heq
      rw [← heq] at q
      exact .drop I.fr q

theorem len_law_walked {ds M Q} (h : sp_law_walked ds M Q) : ds.length = 2 := len_run_code h
theorem pr_law_walked {ds M Q} (h : sp_law_walked ds M Q) : rd_law_walked (en Q) (startD ["code", "point", "slots", "places", "at", "turn", "step", "value", "told"] ds) M := by
  obtain ⟨slots, boxes, ss, pt, rfl, hp4, ok, hn, q⟩ := h
  have ks := ok.ks
  have s20 := ok.sl
  have b20 := ok.bx
  have few := ok.few
  obtain ⟨F, hF0, hF⟩ := ok.flow
  unfold rd_law_walked
  simp only [encC]
  walk_at "rd"
  have er : ((slots : Int) - (pt.length : Int)).toNat = slots - pt.length := by omega
  have eb : ((boxes : Int)).toNat = boxes := by omega
  rw [er]
  refine ⟨by omega, by omega, by rw [List.length_map, List.length_replicate]; omega, fun pv npv => ⟨by omega, by omega, fun pp npp => ?_⟩⟩
  have ne : pv ≠ pp := fun e => by rw [← e, updD_same] at npp; cases npp
  have npp1 : M pp = none := by rw [updD_ne (Ne.symm ne)] at npp; exact npp
  refine ⟨by rw [List.length_map]; omega, by rw [List.length_map]; omega, ⟨fun i σ M' => ∃ (n at_ : Nat) (v : Vs) (pl : List Pl) (v5 v6 v7 : Option D), (n + i = ss.length + 1 ∧ i ≤ at_) ∧ σ = [some (D.tup [D.int ↑pt.length, D.int ↑slots, D.int ↑boxes, D.tup (List.map encS ss)]), some (D.tup (List.map encR pt)), some (D.ref pv), some (D.ref pp), some (D.int at_), v5, v6, v7, none] ∧ RnI pt.length slots boxes ss pt F M M' pv pp at_ n v pl, ⟨ss.length + 1, 0, pt.map some ++ List.replicate (slots - pt.length) none, List.replicate boxes none, none, none, none, ⟨rfl, Nat.le_refl _⟩, rfl, ?_⟩, fun _ _ _ _ _ => trivial, ?_, ?_⟩⟩
  · refine ⟨(SubM.new npv).trans (.new npp), ?_, ?_, VOk.start hp4 ks hn hF0, ok.some, by omega, ?_, rfl⟩
    · rw [updD_ne ne, updD_same, List.map_append, encN_rep, List.map_map]
      rfl
    · rw [updD_same, eb, encP_rep]
    · rw [List.length_replicate]
  · rintro i x σ M' hx ⟨m, at_, v, pl, v5, v6, v7, ⟨hm1, hm2⟩, rfl, I⟩
    have hi1 : i < ss.length + 1 := by
      have := (List.getElem?_eq_some_iff.mp hx).1
      rw [upTo_length, List.length_map] at this
      omega
    obtain ⟨rfl, _⟩ := upTo_at hx
    obtain ⟨s, hs⟩ : ∃ s, ss[at_]? = some s := ⟨_, List.getElem?_eq_getElem I.lt⟩
    have hat : atI (ss.map encS) (at_ : Int) = some (encS s) := atI_nat (by rw [List.getElem?_map, hs]; rfl)
    have sok := hF at_ s hs
    have hlt := I.lt
    have hfu := I.fuel
    have ecast : ((at_ : Int) + 1) = ((at_ + 1 : Nat) : Int) := by omega
    obtain ⟨n, rfl⟩ : ∃ n, m = n + 1 := ⟨m - 1, by omega⟩
    have heq := I.eq
    unfold go at heq
    rw [hs] at heq
    have hvi := items_ref I.hv
    have rdy : ∀ l, Uses (F at_) l → Ready l v := fun l u => I.vok.ready u (by omega)
    wp_walk using hat, List.length_map
    cases s with
    | let_ s l =>
      simp only [encS]
      wp_walk using ecast, I.hv
      have hsl : s < (v.map encV).length := by rw [List.length_map, I.vok.len]; exact sok.2.2.1
      exact ⟨l, _, v, rfl, hvi, rdy l sok.1, _, I.hv, s, ix_nat hsl, n, by omega, at_ + 1, by omega, rfl, _, _, I.let_ npv ne heq sok⟩
    | test l sg g =>
      simp only [encS]
      wp_walk using ecast, ne_test_let
      refine ⟨l, _, v, rfl, hvi, rdy l sok.1, ?_⟩
      obtain ⟨u, t1, t2, t3, t4, t5⟩ := sok
      have heq : (if (lineW l v).1 < 0 ∨ ((lineW l v).1 = 0 ∧ sg = 1) then go ss n g v pl else go ss n (at_ + 1) v pl) = runC slots boxes ss pt := heq
      simp only [encR]
      walk_at "rd"
      have taken : ((lineW l v).1 < 0 ∨ ((lineW l v).1 = 0 ∧ sg = 1)) → ∃ n : Nat, n + (i + 1) = ss.length + 1 ∧ ∃ x : Nat, i + 1 ≤ x ∧ (g : Int) = ((x : Nat) : Int) ∧ ∃ x_1 x_2, RnI pt.length slots boxes ss pt F M M' pv pp x n x_1 x_2 := fun h => by
        rw [if_pos h] at heq
        exact ⟨n, by omega, g, by omega, rfl, _, _, I.to heq t2 t3 t5⟩
      have not_ : ¬ ((lineW l v).1 < 0 ∨ ((lineW l v).1 = 0 ∧ sg = 1)) → ∃ n : Nat, n + (i + 1) = ss.length + 1 ∧ ∃ x : Nat, i + 1 ≤ x ∧ ((at_ + 1 : Nat) : Int) = ((x : Nat) : Int) ∧ ∃ x_1 x_2, RnI pt.length slots boxes ss pt F M M' pv pp x n x_1 x_2 := fun h => by
        rw [if_neg h] at heq
        exact ⟨n, by omega, at_ + 1, by omega, rfl, _, _, I.to heq (by omega) t1 t4⟩
      by_cases h1 : (lineW l v).1 < 0
      · rw [if_pos h1]; exact taken (.inl h1)
      · rw [if_neg h1]
        by_cases h2 : (lineW l v).1 = 0
        · rw [if_pos h2]
          by_cases h3 : sg = 1
          · rw [if_pos h3]; exact taken (.inr ⟨h2, h3⟩)
          · rw [if_neg h3]; exact not_ fun h => h.elim h1 fun h => h3 h.2
        · rw [if_neg h2]; exact not_ fun h => h.elim h1 fun h => h2 h.1
    | jump g =>
      simp only [encS]
      wp_walk using ecast, ne_jump_let, ne_jump_test
      exact ⟨n, by omega, g, by have := sok.1; omega, rfl, _, _, I.to heq sok.1 sok.2.1 sok.2.2⟩
    | place b e1 e2 e3 e4 =>
      simp only [encS]
      wp_walk using ecast, ne_place_let, ne_place_test, ne_place_jump
      obtain ⟨u1, u2, u3, u4, p1, p2, p3⟩ := sok
      have hbl : b < (pl.map encP).length := by rw [List.length_map, I.lp]; exact p1
      rw [cut_from (k := 2) (i := 2) rfl]
      simp only [List.drop_succ_cons, List.drop_zero]
      refine ⟨by decide, lcY_of ([lineW e1 v, lineW e2 v, lineW e3 v, lineW e4 v].map encR) (fun _ _ => rfl) rfl (by simp) (fun i x y hx hy M'' sm Qn hq => ?_) ?_⟩
      · have one : ∀ e : LS, Uses (F at_) e → x = encLS e → y = encR (lineW e v) → sp_law_line_worth [x, .ref pv] M'' Qn := fun e he h1 h2 => by
          subst h1 h2
          exact ⟨e, _, v, rfl, items_ref (sm _ _ I.hv), rdy e he, hq⟩
        walk_at "rd"
        match i, hx, hy with
        | 0, hx, hy => cases hx; cases hy; exact one e1 u1 rfl rfl
        | 1, hx, hy => cases hx; cases hy; exact one e2 u2 rfl rfl
        | 2, hx, hy => cases hx; cases hy; exact one e3 u3 rfl rfl
        | 3, hx, hy => cases hx; cases hy; exact one e4 u4 rfl rfl
      · exact ⟨_, rfl, _, I.hp, b, ix_nat hbl, n, by omega, at_ + 1, by omega, rfl, _, _, I.place npp1 ne heq p2 p3⟩
    | hide b =>
      simp only [encS]
      wp_walk using ecast, ne_hide_let, ne_hide_test, ne_hide_jump, ne_hide_place, ne_hide_clash, ne_hide_end
      exact ⟨n, by omega, at_ + 1, by omega, rfl, _, _, I.to heq (by omega) sok.2.1 sok.2.2⟩
    | clash =>
      simp only [encS]
      wp_walk using ecast, ne_clash_let, ne_clash_test, ne_clash_jump, ne_clash_place
      have heq : none = runC slots boxes ss pt := heq
      rw [← heq] at q
      exact .drop I.fr q
    | fin =>
      simp only [encS]
      wp_walk using ecast, ne_end_let, ne_end_test, ne_end_jump, ne_end_place, ne_end_clash, items_ref I.hp
      have heq : some pl = runC slots boxes ss pt := heq
      rw [← heq] at q
      exact .drop I.fr q
  · rintro σ M' ⟨m, at_, v, pl, v5, v6, v7, ⟨hm1, hm2⟩, rfl, I⟩
    exfalso
    have := I.lt
    rw [upTo_length, List.length_map] at hm2
    omega

theorem line_cop {l : LS} {v : Vs} (h : Ready l v) : gI (lineW l v).1 (lineW l v).2 = 1 := by
  obtain ⟨r1, r2⟩ := line_rk h
  unfold lineW
  rw [← List.take_length (l := l.2)]
  generalize hi : l.2.length = n
  cases n with
  | zero => exact h.num.cop
  | succ i =>
    have hx : l.2[i]? = some (l.2[i]'(by omega)) := List.getElem?_eq_getElem _
    obtain ⟨a, h1, h2, h3, h4⟩ := r2 _ (List.mem_of_getElem? hx)
    have e : lineF v ((l.2.take i).foldl (lineF v) l.1) (l.2[i]'(by omega)) = addR ((l.2.take i).foldl (lineF v) l.1) (mulR (l.2[i]'(by omega)).2 a) := by
      unfold lineF
      rw [h1]
      rfl
    rw [foldl_take_succ _ _ hx, e]
    exact mkR_gI (Int.mul_pos (r1 i (by omega)).pos h4.pos)
theorem line_Rk {l : LS} {v : Vs} (h : Ready l v) : Rk (lineW l v) := by
  have := (line_rk h).1 l.2.length (Nat.le_refl _)
  rw [List.take_length] at this
  exact this
def PlOk (pl : List Pl) : Prop := ∀ es, some es ∈ pl → es.length = 4 ∧ ∀ a ∈ es, Rk a ∧ gI a.1 a.2 = 1
theorem go_lay {k slots boxes : Nat} {ss : List Stp} {F : Nat → Fl} (few : ss.length ≤ 100) (hF : ∀ (i : Nat) (s : Stp), ss[i]? = some s → SOk k slots boxes ss.length F i s) :
    ∀ (n at_ : Nat) (v : Vs) (pl : List Pl), VOk slots at_ (F at_) v → at_ < ss.length → pl.length = boxes → PlOk pl → ∀ ps, go ss n at_ v pl = some ps → ps.length = boxes ∧ PlOk ps
  | 0, _, _, pl, _, _, hl, hp, ps, e => by
    unfold go at e
    cases e
    exact ⟨hl, hp⟩
  | n + 1, at_, v, pl, V, lt, hl, hp, ps, e => by
    obtain ⟨s, hs⟩ : ∃ s, ss[at_]? = some s := ⟨_, List.getElem?_eq_getElem lt⟩
    have sok := hF at_ s hs
    have rdy : ∀ l, Uses (F at_) l → Ready l v := fun l u => V.ready u (by omega)
    unfold go at e
    rw [hs] at e
    cases s with
    | let_ s l => exact go_lay few hF n _ _ pl (V.let_ sok.1 sok.2.2.1 sok.2.2.2.2) sok.2.2.2.1 hl hp ps e
    | test l sg g =>
      obtain ⟨u, t1, t2, t3, t4, t5⟩ := sok
      have e : (if (lineW l v).1 < 0 ∨ ((lineW l v).1 = 0 ∧ sg = 1) then go ss n g v pl else go ss n (at_ + 1) v pl) = some ps := e
      split at e
      · exact go_lay few hF n _ _ pl (V.mono (by omega) t5) t3 hl hp ps e
      · exact go_lay few hF n _ _ pl (V.mono (by omega) t4) t1 hl hp ps e
    | jump g => exact go_lay few hF n _ _ pl (V.mono (by have := sok.1; omega) sok.2.2) sok.2.1 hl hp ps e
    | place b e1 e2 e3 e4 =>
      obtain ⟨u1, u2, u3, u4, p1, p2, p3⟩ := sok
      refine go_lay few hF n _ _ _ (V.mono (by omega) p3) p2 (by rw [List.length_set]; exact hl) (fun es hes => ?_) ps e
      rcases List.mem_or_eq_of_mem_set hes with h | h
      · exact hp es h
      · cases h
        refine ⟨rfl, fun a ha => ?_⟩
        simp only [List.mem_cons, List.not_mem_nil, or_false] at ha
        rcases ha with rfl | rfl | rfl | rfl
        · exact ⟨line_Rk (rdy _ u1), line_cop (rdy _ u1)⟩
        · exact ⟨line_Rk (rdy _ u2), line_cop (rdy _ u2)⟩
        · exact ⟨line_Rk (rdy _ u3), line_cop (rdy _ u3)⟩
        · exact ⟨line_Rk (rdy _ u4), line_cop (rdy _ u4)⟩
    | hide b => exact go_lay few hF n _ _ pl (V.mono (by omega) sok.2.2) sok.2.1 hl hp ps e
    | clash => cases e
    | fin => cases e; exact ⟨hl, hp⟩
theorem run_lay {slots boxes : Nat} {ss : List Stp} {pt : List R} (hp4 : pt.length ≤ 4) (ok : COk pt.length slots boxes ss) (hn : ∀ x ∈ pt, Num x) : LayOk (runC slots boxes ss pt) boxes := by
  obtain ⟨F, hF0, hF⟩ := ok.flow
  intro ps e
  exact go_lay ok.few hF _ _ _ _ (VOk.start hp4 ok.ks hn hF0) ok.some (by rw [List.length_replicate]) (fun es h => by have := List.eq_of_mem_replicate h; cases this) ps e
theorem pdn_R (a : R) : Pdn 1 (encR a) := pdn_tup fun d hd => by
  simp only [List.mem_cons, List.not_mem_nil, or_false] at hd
  rcases hd with rfl | rfl <;> exact pdn_int
theorem pdn_P (p : Pl) : Pdn 2 (encP p) := by
  cases p with
  | none => exact pdn_non
  | some es => exact pdn_tup fun d hd => by obtain ⟨a, _, rfl⟩ := List.mem_map.mp hd; exact pdn_R a
theorem pdn_L (l : Option (List Pl)) : Pdn 3 (encL l) := by
  cases l with
  | none => exact pdn_non
  | some ps => exact pdn_tup fun d hd => by obtain ⟨p, _, rfl⟩ := List.mem_map.mp hd; exact pdn_P p
theorem len_law_good_run {ds M Q} (h : sp_law_good_run ds M Q) : ds.length = 3 := by obtain ⟨n, d, f, s, rfl, _⟩ := h; rfl
theorem pr_law_good_run {ds M Q} (h : sp_law_good_run ds M Q) : rd_law_good_run (en Q) (startD ["code", "point", "due", "told"] ds) M := by
  obtain ⟨slots, boxes, ss, pt, rfl, hp, ok, hn, q⟩ := h
  unfold rd_law_good_run
  walk_at "rd"
  refine ⟨slots, boxes, ss, pt, rfl, hp, ok, hn, ⟨_, rfl, _, at2, _, boxes, rfl, by have := ok.bx; omega, run_lay hp ok hn, ⟨true, rfl, ?_⟩⟩⟩
  rw [if_pos rfl]
  have pd := pdn_L (runC slots boxes ss pt)
  refine ⟨pd.eqOk pd (by decide), .keep ?_⟩
  rw [pd.refl]
  exact q
structure Cd where
  k : Nat
  slots : Nat
  boxes : Nat
  ss : List Stp
  p1 : List R
  p2 : List R
  p3 : List R
structure Cd.Ok (c : Cd) : Prop where
  k4 : c.k ≤ 4
  ok : COk c.k c.slots c.boxes c.ss
  l1 : c.p1.length = c.k
  l2 : c.p2.length = c.k
  l3 : c.p3.length = c.k
  n1 : ∀ x ∈ c.p1, Num x
  n2 : ∀ x ∈ c.p2, Num x
  n3 : ∀ x ∈ c.p3, Num x
def Cd.enc (c : Cd) : D := encC c.k c.slots c.boxes c.ss
def encPt (p : List R) : D := .tup (p.map encR)
def Cd.pts (c : Cd) : D := .lst [encPt c.p1, encPt c.p2, encPt c.p3]
def Cd.dues (c : Cd) : D := .lst [encL (runC c.slots c.boxes c.ss c.p1), encL (runC c.slots c.boxes c.ss c.p2), encL (runC c.slots c.boxes c.ss c.p3)]
structure LwI (d p1 p2 p3 : Addr) (M0 M' : HpD) (cs : List Cd) (i : Nat) : Prop where
  dr : Dr d M0 M'
  h1 : M' p1 = some (.lst (cs.map Cd.enc))
  h2 : M' p2 = some (.lst (cs.map Cd.pts))
  h3 : M' p3 = some (.lst (cs.map Cd.dues))
  len : cs.length = i
  ok : ∀ c ∈ cs, c.Ok
theorem len_law {ds M Q} (h : sp_law ds M Q) : ds.length = 1 := by obtain ⟨n, rfl, _⟩ := h; rfl
theorem pr_law {ds M Q} (h : sp_law ds M Q) : rd_law (en Q) (startD ["script", "d", "codes", "points", "dues", "k", "values", "code", "point", "at"] ds) M := by
  obtain ⟨ns, rfl, hl, q⟩ := h
  unfold rd_law
  walk_at "rd"
  refine ⟨ns, rfl, hl, fun d M0 nd st _ p1 np1 p2 np2 p3 np3 => ⟨by decide, by decide, ?_⟩⟩
  have n12 : p1 ≠ p2 := fun e => by rw [← e, updD_same] at np2; cases np2
  have n23 : p2 ≠ p3 := fun e => by rw [← e, updD_same] at np3; cases np3
  have n13 : p1 ≠ p3 := fun e => by rw [← e, updD_ne n12, updD_same] at np3; cases np3
  have m2 : M0 p2 = none := by rw [updD_ne (Ne.symm n12)] at np2; exact np2
  have m3 : M0 p3 = none := by rw [updD_ne (Ne.symm n23), updD_ne (Ne.symm n13)] at np3; exact np3
  have d1 := st.ne np1
  have d2 := st.ne m2
  have d3 := st.ne m3
  refine ⟨fun i σ M' => ∃ cs v5 v6 v7, σ = [some (.scr ns), some (.ref d), some (.ref p1), some (.ref p2), some (.ref p3), v5, v6, v7, none, none] ∧ LwI d p1 p2 p3 M0 M' cs i, ⟨[], _, _, _, rfl, ?_⟩, fun _ _ _ _ _ => trivial, ?_, ?_⟩
  · refine ⟨((Dr.new st np1).upd m2 d2).upd m3 d3, ?_, ?_, updD_same, rfl, fun _ h => by cases h⟩
    · rw [updD_ne n13, updD_ne n12, updD_same]; rfl
    · rw [updD_ne n23, updD_same]; rfl
  · rintro i x σ M' hx ⟨cs, v5, v6, v7, rfl, I⟩
    obtain ⟨rfl, _⟩ := upTo_at (n := 2) hx
    walk_at "rd"
    have bnd : ∀ {xs : List R} {c : Int}, xs.length = c.toNat → c < 5 → xs.length ≤ 4 := fun h1 h2 => by omega
    refine ⟨d, _, rfl, by decide, by decide, I.dr.st, fun r M1 r0 r1 e1 => ⟨d, r, rfl, r0, by omega, e1.st, fun xs M2 lx nx e2 => ⟨d, xs, rfl, bnd lx r1, nx, e2.st, fun slots boxes ss M3 ok e3 => ?_⟩⟩⟩
    have g3 := ((I.dr.trans e1).trans e2).trans e3
    have f3 := (e1.trans e2).trans e3
    have a1 := f3.fr _ _ d1 I.h1
    have a2 := f3.fr _ _ d2 I.h2
    have a3 := f3.fr _ _ d3 I.h3
    have ll := I.len
    have u2 : (updD M3 p1 (.lst (cs.map Cd.enc ++ [encC xs.length slots boxes ss]))) p2 = some (.lst (cs.map Cd.pts)) := by rw [updD_ne (Ne.symm n12)]; exact a2
    have u3 : (updD M3 p1 (.lst (cs.map Cd.enc ++ [encC xs.length slots boxes ss]))) p3 = some (.lst (cs.map Cd.dues)) := by rw [updD_ne (Ne.symm n13)]; exact a3
    have lc : (cs.map Cd.enc).length < 1000000 := by rw [List.length_map]; omega
    refine ⟨isLst_ref a1, _, a1, lc, isLst_ref u2, _, rfl, _, rfl, d, _, rfl, by omega, by rw [List.length_map]; omega, f3.st.upd d1, fun ys M4 ly ny e4 => ⟨_, rfl, _, rfl, d, _, rfl, by omega, by rw [List.length_map]; omega, e4.st, fun zs M5 lz nz e5 => ?_⟩⟩
    have b1 := e5.fr _ _ d1 (e4.fr _ _ d1 updD_same)
    have b2 := e5.fr _ _ d2 (e4.fr _ _ d2 u2)
    have b3 := e5.fr _ _ d3 (e4.fr _ _ d3 u3)
    rw [Int.toNat_natCast, List.length_map] at ly lz
    have cok : Cd.Ok ⟨xs.length, slots, boxes, ss, xs, ys, zs⟩ := ⟨bnd lx r1, ok, rfl, ly, lz, fun x hx => (nx x hx).num, fun x hx => (ny x hx).num, fun x hx => (nz x hx).num⟩
    have at5 : atI (cs.map Cd.pts ++ [D.lst [D.tup (xs.map encR), D.tup (ys.map encR), D.tup (zs.map encR)]]) (i : Int) = some (D.lst [D.tup (xs.map encR), D.tup (ys.map encR), D.tup (zs.map encR)]) := atI_nat (by
      rw [List.getElem?_append_right (by rw [List.length_map]; omega), List.length_map]
      have : i - cs.length = 0 := by omega
      rw [this]
      rfl)
    have b3' : (updD M5 p2 (OD.lst (cs.map Cd.pts ++ [D.lst [D.tup (xs.map encR), D.tup (ys.map encR), D.tup (zs.map encR)]]))) p3 = some (.lst (cs.map Cd.dues)) := by rw [updD_ne (Ne.symm n23)]; exact b3
    refine ⟨_, rfl, _, b2, by rw [List.length_map]; omega, isLst_ref b3', _, at5, _, rfl, lcY_of [encL (runC slots boxes ss xs), encL (runC slots boxes ss ys), encL (runC slots boxes ss zs)] (fun _ _ => rfl) rfl (by simp) (fun j x y hx hy M'' sm Qn hq => ?_) ?_⟩
    · have one : ∀ pt : List R, pt.length = xs.length → (∀ a ∈ pt, Num a) → x = .tup (pt.map encR) → y = encL (runC slots boxes ss pt) → sp_law_walked [encC xs.length slots boxes ss, x] M'' Qn := fun pt h1 h2 h3 h4 => by
        subst h3 h4
        exact ⟨slots, boxes, ss, pt, by rw [h1], by rw [h1]; exact bnd lx r1, by rw [h1]; exact ok, h2, hq⟩
      walk_at "rd"
      match j, hx, hy with
      | 0, hx, hy => cases hx; cases hy; exact one xs rfl cok.n1 rfl rfl
      | 1, hx, hy => cases hx; cases hy; exact one ys ly cok.n2 rfl rfl
      | 2, hx, hy => cases hx; cases hy; exact one zs lz cok.n3 rfl rfl
    · refine ⟨_, b3', by rw [List.length_map]; omega, ⟨_, rfl⟩, cs ++ [⟨xs.length, slots, boxes, ss, xs, ys, zs⟩], ?_⟩
      have q1 : Dr d M0 M5 := ((g3.upd np1 d1).trans e4).trans e5
      refine ⟨(q1.upd m2 d2).upd m3 d3, ?_, ?_, ?_, by rw [List.length_append, ll]; rfl, fun c hc => ?_⟩
      · rw [updD_ne n13, updD_ne n12, b1, List.map_append]; rfl
      · rw [updD_ne n23, updD_same, List.map_append]; rfl
      · rw [updD_same, List.map_append]; rfl
      · rcases List.mem_append.mp hc with hc | hc
        · exact I.ok c hc
        · cases List.mem_singleton.mp hc
          exact cok
  · rintro σ M' ⟨cs, v5, v6, v7, rfl, I⟩
    walk_at "rd"
    have hl2 : cs.length = 2 := I.len
    refine ⟨fun i σ M'' => ∃ v5 v9, σ = [some (.scr ns), some (.ref d), some (.ref p1), some (.ref p2), some (.ref p3), v5, v6, v7, none, v9] ∧ M'' = M', ⟨_, _, rfl, rfl⟩, fun _ _ _ _ _ => rfl, ?_, ?_⟩
    · rintro i x σ M'' hx ⟨v5, v9, rfl, rfl⟩
      obtain ⟨a, rfl, ha⟩ : ∃ a : Nat, x = .int a ∧ a ≤ 2 := by
        match i, hx with
        | 0, hx => cases hx; exact ⟨0, rfl, by decide⟩
        | 1, hx => cases hx; exact ⟨1, rfl, by decide⟩
        | 2, hx => cases hx; exact ⟨2, rfl, by decide⟩
        | 3, hx => cases hx; exact ⟨0, rfl, by decide⟩
      walk_at "rd"
      refine ⟨by decide, by decide, ⟨fun i σ M3 => ∃ v5, σ = [some (.scr ns), some (.ref d), some (.ref p1), some (.ref p2), some (.ref p3), v5, v6, v7, none, some (.int a)] ∧ M3 = M'', ⟨_, rfl, rfl⟩, fun _ _ _ _ _ => trivial, ?_, ?_⟩⟩
      · rintro j y σ M3 hy ⟨v5, rfl, rfl⟩
        have hj : j < 2 := by
          have := (List.getElem?_eq_some_iff.mp hy).1
          rw [upTo_length] at this
          exact this
        obtain ⟨rfl, _⟩ := upTo_at (n := 2) hy
        have hc : cs[j]? = some (cs[j]'(by omega)) := List.getElem?_eq_getElem _
        generalize (cs[j]'(by omega)) = c at hc
        have cok := I.ok c (List.mem_of_getElem? hc)
        have t1 : atI (cs.map Cd.enc) (j : Int) = some c.enc := atI_nat (by rw [List.getElem?_map, hc]; rfl)
        have t2 : atI (cs.map Cd.pts) (j : Int) = some c.pts := atI_nat (by rw [List.getElem?_map, hc]; rfl)
        have t3 : atI (cs.map Cd.dues) (j : Int) = some c.dues := atI_nat (by rw [List.getElem?_map, hc]; rfl)
        wp_walk using items_ref I.h1, items_ref I.h2, items_ref I.h3, t1, t2, t3
        have one : ∀ pt : List R, pt.length = c.k → (∀ a ∈ pt, Num a) → sp_law_good_run [c.enc, encPt pt, encL (runC c.slots c.boxes c.ss pt)] M3 fun x M' => ∃ k, x = D.bl k ∧ if k = false then QF Q (D.bl false) M' else (∃ x, some (D.int (j : Int)) = x) ∧ M' = M3 := fun pt h1 h2 =>
          ⟨c.slots, c.boxes, c.ss, pt, by rw [h1]; rfl, by rw [h1]; exact cok.k4, by rw [h1]; exact cok.ok, h2, true, rfl, by rw [if_neg (by decide)]; exact ⟨⟨_, rfl⟩, rfl⟩⟩
        have ha3 : a = 0 ∨ a = 1 ∨ a = 2 := by omega
        rcases ha3 with rfl | rfl | rfl
        · exact ⟨_, rfl, _, at0, _, rfl, _, at0, one _ cok.l1 cok.n1⟩
        · exact ⟨_, rfl, _, at1, _, rfl, _, at1, one _ cok.l2 cok.n2⟩
        · exact ⟨_, rfl, _, at2, _, rfl, _, at2, one _ cok.l3 cok.n3⟩
      · rintro σ M3 ⟨v5, rfl, rfl⟩
        walk_at "rd"
        exact ⟨_, rfl⟩
    · rintro σ M'' ⟨v5, v9, rfl, rfl⟩
      walk_at "rd"
      exact .keep (q _)


def flOf (bare : Fl) (st : List (Option Fl)) (j : Nat) : Fl := (st[j]?.join).getD bare
structure FOk (k slots : Nat) (f : Fl) : Prop where
  len : f.length = slots
  low : ∀ i : Nat, i < k → f[i]? = some true
def Low (st : List (Option Fl)) (g : Nat) (f : Fl) : Prop := ∃ z, st[g]? = some (some z) ∧ Le z f
def mrg (st : List (Option Fl)) (g : Nat) (f : Fl) : List (Option Fl) := st.set g (some (both (st[g]?.join) f))
theorem both_le (o : Option Fl) (f : Fl) : Le (both o f) f := by
  cases o with
  | none => exact fun _ h => h
  | some z =>
    intro i h
    have h : (List.zipWith (fun a b => a && b) z f)[i]? = some true := h
    rw [List.getElem?_zipWith] at h
    cases e1 : z[i]? with
    | none => rw [e1] at h; cases h
    | some a =>
      cases e2 : f[i]? with
      | none => rw [e1, e2] at h; cases h
      | some b =>
        rw [e1, e2] at h
        cases a <;> cases b <;> first | rfl | cases h
theorem both_le2 (z f : Fl) : Le (both (some z) f) z := by
  intro i h
  have h : (List.zipWith (fun a b => a && b) z f)[i]? = some true := h
  rw [List.getElem?_zipWith] at h
  cases e1 : z[i]? with
  | none => rw [e1] at h; cases h
  | some a =>
    cases e2 : f[i]? with
    | none => rw [e1, e2] at h; cases h
    | some b =>
      rw [e1, e2] at h
      cases a <;> cases b <;> first | rfl | cases h
theorem both_ok {k slots : Nat} {o : Option Fl} {f : Fl} (ho : ∀ z, o = some z → FOk k slots z) (hf : FOk k slots f) : FOk k slots (both o f) := by
  cases o with
  | none => exact hf
  | some z =>
    have hz := ho z rfl
    refine ⟨?_, fun i hi => ?_⟩
    · show (List.zipWith (fun a b => a && b) z f).length = slots
      rw [List.length_zipWith, hz.len, hf.len, Nat.min_self]
    · show (List.zipWith (fun a b => a && b) z f)[i]? = some true
      rw [List.getElem?_zipWith, hz.low i hi, hf.low i hi]
      rfl
theorem low_same {st : List (Option Fl)} {g : Nat} {f : Fl} (h : g < st.length) : Low (mrg st g f) g f := ⟨_, List.getElem?_set_self h, both_le _ _⟩
theorem low_keep {st : List (Option Fl)} {g g' : Nat} {f f' : Fl} (h : Low st g f) : Low (mrg st g' f') g f := by
  obtain ⟨z, h1, h2⟩ := h
  by_cases e : g' = g
  · subst e
    refine ⟨_, List.getElem?_set_self (List.getElem?_eq_some_iff.mp h1).1, ?_⟩
    rw [h1]
    exact fun i hi => h2 i (both_le2 z f' i hi)
  · exact ⟨z, by unfold mrg; rw [List.getElem?_set_ne e]; exact h1, h2⟩
theorem fl_keep {bare : Fl} {st : List (Option Fl)} {j g : Nat} {f : Fl} (h : g ≠ j) : flOf bare (mrg st g f) j = flOf bare st j := by
  unfold flOf mrg
  rw [List.getElem?_set_ne h]
theorem fl_low {bare : Fl} {st : List (Option Fl)} {g : Nat} {f : Fl} (h : Low st g f) : Le (flOf bare st g) f := by
  obtain ⟨z, h1, h2⟩ := h
  unfold flOf
  rw [h1]
  exact h2
def StpF (k slots many : Nat) (bare : Fl) (st : List (Option Fl)) (j : Nat) : Stp → Prop
  | .let_ s l => Uses (flOf bare st j) l ∧ k ≤ s ∧ s < slots ∧ ∃ h, Low st (j + 1) h ∧ ∀ x : Nat, h[x]? = some true → x = s ∨ (flOf bare st j)[x]? = some true
  | .test l _ g => Uses (flOf bare st j) l ∧ j < g ∧ g ≤ many + 1 ∧ Low st (j + 1) (flOf bare st j) ∧ Low st g (flOf bare st j)
  | .jump g => j < g ∧ g ≤ many + 1 ∧ Low st g (flOf bare st j)
  | .clash => True
  | _ => False
theorem StpF.mrg {k slots many : Nat} {bare : Fl} {st : List (Option Fl)} {j g : Nat} {f : Fl} {s : Stp} (h : StpF k slots many bare st j s) (hg : j < g) : StpF k slots many bare (mrg st g f) j s := by
  have e : flOf bare (Wp.mrg st g f) j = flOf bare st j := fl_keep (by omega)
  cases s <;> simp only [StpF, e] at h ⊢
  · obtain ⟨h1, h2, h3, z, h4, h5⟩ := h
    exact ⟨h1, h2, h3, z, low_keep h4, h5⟩
  · exact ⟨h.1, h.2.1, h.2.2.1, low_keep h.2.2.2.1, low_keep h.2.2.2.2⟩
  · exact ⟨h.1, h.2.1, low_keep h.2.2⟩
structure FlI (k slots many : Nat) (bare : Fl) (i : Nat) (st : List (Option Fl)) (ss : List Stp) : Prop where
  sl : st.length = many + 2
  fo : ∀ f, some f ∈ st → FOk k slots f
  sz : ss.length = i
  z0 : st[0]? = some (some bare)
  bo : FOk k slots bare
  ok : ∀ (j : Nat) (s : Stp), ss[j]? = some s → StpF k slots many bare st j s
theorem FlI.fl {k slots many : Nat} {bare : Fl} {i j : Nat} {st : List (Option Fl)} {ss : List Stp} (I : FlI k slots many bare i st ss) : FOk k slots (flOf bare st j) := by
  unfold flOf
  cases e : st[j]? with
  | none => exact I.bo
  | some o =>
    cases o with
    | none => exact I.bo
    | some z => exact I.fo z (List.mem_of_getElem? e)
theorem FlI.mrg {k slots many : Nat} {bare f : Fl} {i g : Nat} {st : List (Option Fl)} {ss : List Stp} (I : FlI k slots many bare i st ss) (hf : FOk k slots f) (hg : i < g) : FlI k slots many bare i (mrg st g f) ss := by
  refine ⟨by unfold Wp.mrg; rw [List.length_set]; exact I.sl, fun z hz => ?_, I.sz, by unfold Wp.mrg; rw [List.getElem?_set_ne (by omega)]; exact I.z0, I.bo, fun j s hj => (I.ok j s hj).mrg ?_⟩
  · rcases List.mem_or_eq_of_mem_set hz with h | h
    · exact I.fo z h
    · cases h
      refine both_ok (fun z e => ?_) hf
      cases e2 : st[g]? with
      | none => rw [e2] at e; cases e
      | some o =>
        rw [e2] at e
        have e : o = some z := e
        subst e
        exact I.fo z (List.mem_of_getElem? e2)
  · have := (List.getElem?_eq_some_iff.mp hj).1
    have := I.sz
    omega
theorem FlI.app {k slots many : Nat} {bare : Fl} {i : Nat} {st : List (Option Fl)} {ss : List Stp} {s : Stp} (I : FlI k slots many bare i st ss) (h : StpF k slots many bare st i s) : FlI k slots many bare (i + 1) st (ss ++ [s]) := by
  have hz := I.sz
  refine ⟨I.sl, I.fo, by rw [List.length_append, hz]; rfl, I.z0, I.bo, fun j t hj => ?_⟩
  by_cases hlt : j < ss.length
  · rw [List.getElem?_append_left hlt] at hj
    exact I.ok j t hj
  · have : j = i := by
      have := (List.getElem?_eq_some_iff.mp hj).1
      rw [List.length_append, List.length_singleton] at this
      omega
    subst this
    rw [List.getElem?_append_right (by omega)] at hj
    have e : j - ss.length = 0 := by omega
    rw [e] at hj
    cases hj
    exact h
/-- the state of the loop that draws the steps -/
structure FmI (p pst pss : Addr) (M0 M' : HpD) (k slots many : Nat) (bare : Fl) (i : Nat) (st : List (Option Fl)) (ss : List Stp) : Prop where
  dr : Dr p M0 M'
  h1 : M' pst = some (.lst (st.map encO))
  h2 : M' pss = some (.lst (ss.map encS))
  I : FlI k slots many bare i st ss
def setF (f : Fl) (slots s : Nat) : Fl := (List.range slots).map fun j => decide (f[j]? = some true ∨ j = s)
theorem setF_get {f : Fl} {slots s j : Nat} (h : j < slots) : (setF f slots s)[j]? = some (decide (f[j]? = some true ∨ j = s)) := by
  unfold setF
  rw [List.getElem?_map, List.getElem?_range h]
  rfl
theorem setF_ok {k slots s : Nat} {f : Fl} (h : FOk k slots f) : FOk k slots (setF f slots s) := by
  refine ⟨by unfold setF; rw [List.length_map, List.length_range], fun i hi => ?_⟩
  have h1 := h.low i hi
  have h2 := (List.getElem?_eq_some_iff.mp h1).1
  rw [setF_get (by have := h.len; omega), h1]
  simp
theorem setF_le {slots s : Nat} {f : Fl} : ∀ x : Nat, (setF f slots s)[x]? = some true → x = s ∨ f[x]? = some true := fun x hx => by
  by_cases h : x < slots
  · rw [setF_get h] at hx
    have := of_decide_eq_true (Option.some.inj hx)
    exact this.symm
  · have : (setF f slots s)[x]? = none := List.getElem?_eq_none (by unfold setF; rw [List.length_map, List.length_range]; omega)
    rw [this] at hx
    cases hx
theorem encF_lst (f : Fl) : encF f = .lst (f.map encB) := rfl
theorem flat_act {E : EndsD} {p pst pss : Addr} {vs : List R} {slots boxes many i goal : Nat} {M0 M' : HpD} {bare f : Fl} {st : List (Option Fl)} {ss : List Stp} {w : Int} {v13 : Option D}
    (hv : vs.length ≤ 4) (hn : ∀ v ∈ vs, Dn v) (hs : vs.length ≤ slots) (hs2 : slots ≤ 9) (hm : many ≤ 43) (hst0 : DSt M0 p) (n1 : M0 pst = none) (n2 : M0 pss = none) (n12 : pst ≠ pss)
    (J : FmI p pst pss M0 M' vs.length slots many bare i st ss) (hf : f = flOf bare st i) (hi : i < many) (hg1 : i < goal) (hg2 : goal ≤ many + 1)
    (hE : ∀ (st' : List (Option Fl)) (ss' : List Stp) (v13 : Option D) (M'' : HpD), FmI p pst pss M0 M'' vs.length slots many bare (i + 1) st' ss' → E.nx [some (.ref p), some (.lst (vs.map encR)), some (.int vs.length), some (.int slots), some (.int boxes), some (.int many), some (encF bare), some (.ref pst), some (.ref pss), some (.int i), some (encF f), some (.int w), some (.int goal), v13, none, none, none, none, none, none] M'') :
    rd_law_flat_act E [some (.ref p), some (.lst (vs.map encR)), some (.int vs.length), some (.int slots), some (.int boxes), some (.int many), some (encF bare), some (.ref pst), some (.ref pss), some (.int i), some (encF f), some (.int w), some (.int goal), v13, none, none, none, none, none, none] M' := by
  have n1p : pst ≠ p := hst0.ne n1
  have n2p : pss ≠ p := hst0.ne n2
  have fok : FOk vs.length slots f := by rw [hf]; exact J.I.fl
  have hz := J.I.sz
  have hsl := J.I.sl
  -- a merge
  have mg : ∀ (M1 : HpD) (st1 : List (Option Fl)) (g : Nat) (h : Fl) (Q : VKD), M1 pst = some (.lst (st1.map encO)) → st1.length = many + 2 → (∀ z, some z ∈ st1 → FOk vs.length slots z) → g < many + 2 → FOk vs.length slots h →
      (∀ M2 : HpD, (∀ b o, b ≠ pst → M1 b = some o → M2 b = some o) → M2 pst = some (.lst ((mrg st1 g h).map encO)) → Q .non M2) → sp_law_merge [.ref pst, .int g, encF h] M1 Q := fun M1 st1 g h Q a1 a2 a3 a4 a5 a6 =>
    ⟨pst, g, h, st1, rfl, a1, by omega, by rw [a5.len]; omega, fun o ho z hz => by subst hz; rw [(a3 z ho).len, a5.len], fun M2 b1 b2 => a6 M2 b1 b2⟩
  have keep : ∀ M1 M2 : HpD, Dr p M0 M1 → (∀ b o, b ≠ pst → M1 b = some o → M2 b = some o) → Dr p M0 M2 := fun M1 M2 a b => ⟨by
    obtain ⟨x1, x2, x3, x4, x5, z, w⟩ := a.st
    exact ⟨x1, x2, x3, x4, x5, b _ _ (Ne.symm n1p) z, w⟩, fun c o hc hM => b _ _ (fun e => by rw [e, n1] at hM; cases hM) (a.fr c o hc hM)⟩
  have e1 : ((i : Int) + 1) = ((i + 1 : Nat) : Int) := by omega
  have lss : (ss.map encS).length < 1000000 := by rw [List.length_map]; omega
  have hfl : FlI vs.length slots many bare i st ss := J.I
  unfold rd_law_flat_act
  wp_walk using encF_lst, e1
  have tst : ∀ M1, Dr p M' M1 → sp_law_test_sum [D.ref p, D.lst (f.map encB), D.lst (vs.map encR)] M1 fun x M1 =>
          sp_law_draw [D.ref p, D.int 2] M1 fun x_1 M1 =>
            ∃ x_2, M1 pss = some (OD.lst x_2) ∧ x_2.length < 1000000 ∧
              sp_law_merge [D.ref pst, D.int ((i + 1 : Nat) : Int), D.lst (f.map encB)] (updD M1 pss (OD.lst (x_2 ++ [D.tup [D.str "test", x, x_1, D.int goal]]))) fun x M1 =>
                sp_law_merge [D.ref pst, D.int goal, D.lst (f.map encB)] M1 fun x M1 => E.nx [some (.ref p), some (.lst (vs.map encR)), some (.int vs.length), some (.int slots), some (.int boxes), some (.int many), some (.lst (bare.map encB)), some (.ref pst), some (.ref pss), some (.int i), some (.lst (f.map encB)), some (.int w), some (.int goal), v13, none, none, none, none, none, none] M1 := fun M1 d1 => by
    refine ⟨p, f, vs, rfl, by rw [fok.len]; omega, by omega, hn, fok.low, d1.st, fun l M2 hl d2 => ⟨p, _, rfl, by decide, by decide, d2.st, fun sg M3 s0 s1 d3 => ?_⟩⟩
    have d := (d1.trans d2).trans d3
    have a1 := d.fr _ _ n1p J.h1
    have a2 := d.fr _ _ n2p J.h2
    have dd := (J.dr.trans d).upd (o := .lst (ss.map encS ++ [D.tup [D.str "test", encLS l, D.int sg, D.int goal]])) n2 n2p
    refine ⟨_, a2, lss, mg _ st (i + 1) f _ (by rw [updD_ne n12]; exact a1) hsl hfl.fo (by omega) fok fun M4 b1 b2 => mg M4 _ goal f _ b2 (by unfold mrg; rw [List.length_set]; exact hsl) (hfl.mrg fok (by omega)).fo (by omega) fok fun M5 c1 c2 => ?_⟩
    have hin : FlI vs.length slots many bare i (mrg (mrg st (i + 1) f) goal f) ss := (hfl.mrg fok (by omega)).mrg fok (by omega)
    have ef : flOf bare (mrg (mrg st (i + 1) f) goal f) i = f := by rw [fl_keep (by omega), fl_keep (by omega), hf]
    refine hE _ (ss ++ [.test l sg goal]) v13 _ ⟨keep _ _ (keep _ _ dd b1) c1, c2, ?_, hin.app ?_⟩
    · rw [List.map_append]
      exact c1 _ _ (Ne.symm n12) (b1 _ _ (Ne.symm n12) updD_same)
    · simp only [StpF, ef]
      refine ⟨hl, hg1, hg2, low_keep (low_same (by omega)), low_same (by unfold mrg; rw [List.length_set]; omega)⟩
  have jmp : isLst M' (D.ref pss) ∧ ∃ x, M' pss = some (OD.lst x) ∧ x.length < 1000000 ∧ sp_law_merge [D.ref pst, D.int goal, D.lst (f.map encB)] (updD M' pss (OD.lst (x ++ [D.tup [D.str "jump", D.int goal]]))) fun x M1 => E.nx [some (.ref p), some (.lst (vs.map encR)), some (.int vs.length), some (.int slots), some (.int boxes), some (.int many), some (.lst (bare.map encB)), some (.ref pst), some (.ref pss), some (.int i), some (.lst (f.map encB)), some (.int w), some (.int goal), v13, none, none, none, none, none, none] M1 := by
    refine ⟨isLst_ref J.h2, _, J.h2, lss, mg _ st goal f _ (by rw [updD_ne n12]; exact J.h1) hsl hfl.fo (by omega) fok fun M4 b1 b2 => ?_⟩
    have dd := J.dr.upd (o := .lst (ss.map encS ++ [D.tup [D.str "jump", D.int goal]])) n2 n2p
    have ef : flOf bare (mrg st goal f) i = f := by rw [fl_keep (by omega), hf]
    refine hE _ (ss ++ [.jump goal]) v13 _ ⟨keep _ _ dd b1, b2, ?_, (hfl.mrg fok (by omega)).app ?_⟩
    · rw [List.map_append]
      exact b1 _ _ (Ne.symm n12) updD_same
    · simp only [StpF, ef]
      exact ⟨hg1, hg2, low_same (by omega)⟩
  have clsh : ∀ M1, Dr p M' M1 → isLst M1 (D.ref pss) ∧ ∃ x, M1 pss = some (OD.lst x) ∧ x.length < 1000000 ∧ E.nx [some (.ref p), some (.lst (vs.map encR)), some (.int vs.length), some (.int slots), some (.int boxes), some (.int many), some (.lst (bare.map encB)), some (.ref pst), some (.ref pss), some (.int i), some (.lst (f.map encB)), some (.int w), some (.int goal), v13, none, none, none, none, none, none] (updD M1 pss (OD.lst (x ++ [D.tup [D.str "clash"]]))) := fun M1 d1 => by
    have a2 := d1.fr _ _ n2p J.h2
    refine ⟨isLst_ref a2, _, a2, lss, hE st (ss ++ [.clash]) v13 _ ⟨(J.dr.trans d1).upd n2 n2p, ?_, ?_, hfl.app (s := .clash) trivial⟩⟩
    · rw [updD_ne n12]; exact d1.fr _ _ n1p J.h1
    · rw [updD_same, List.map_append]; rfl
  by_cases w4 : w < 4
  · rw [if_pos w4]
    by_cases wk : (vs.length : Int) < (slots : Int)
    · rw [if_pos wk]
      refine ⟨p, _, rfl, by omega, by omega, J.dr.st, fun x M1 x0 x1 d1 => ⟨x, rfl, isLst_ref (d1.fr _ _ n2p J.h2), p, f, rfl, by rw [fok.len]; omega, d1.st, fun l M2 hl d2 => ?_⟩⟩
      obtain ⟨s, rfl⟩ : ∃ s : Nat, x = s := ⟨x.toNat, by omega⟩
      have d := d1.trans d2
      have a1 := d.fr _ _ n1p J.h1
      have a2 := d.fr _ _ n2p J.h2
      have es : ((vs.length : Int) + (s : Int)) = ((vs.length + s : Nat) : Int) := by omega
      rw [es]
      refine ⟨_, a2, lss, by omega, by omega, lcY_of ((setF f slots (vs.length + s)).map encB) (fun _ _ => trivial) (by rw [List.length_map, upTo_length]; unfold setF; rw [List.length_map, List.length_range]; omega) (by rw [upTo_length]; omega) (fun j z y hz hy M3 sm Qn hq => ?_) ?_⟩
      · obtain ⟨rfl, hj⟩ := upTo_at hz
        have hjs : j < slots := by omega
        rw [List.getElem?_map, setF_get hjs] at hy
        have hy : some (encB (decide (f[j]? = some true ∨ j = vs.length + s))) = some y := hy
        cases hy
        obtain ⟨b, hb⟩ : ∃ b, f[j]? = some b := ⟨_, List.getElem?_eq_getElem (by have := fok.len; omega)⟩
        have hat : atI (f.map encB) (j : Int) = some (encB b) := atI_nat (by rw [List.getElem?_map, hb]; rfl)
        rw [hb] at hq
        wp_walk using hat
        simp only [encB] at hq ⊢
        wp_walk using hat
        cases b with
        | true => simpa using hq
        | false =>
          rw [if_neg (by decide)]
          by_cases e : j = vs.length + s
          · rw [if_pos (by rw [e])]
            simpa [e] using hq
          · rw [if_neg (by omega)]
            simpa [e] using hq
      · have dd := (J.dr.trans d).upd (o := .lst (ss.map encS ++ [D.tup [D.str "let", .int ((vs.length + s : Nat) : Int), encLS l]])) n2 n2p
        refine mg _ st (i + 1) (setF f slots (vs.length + s)) _ (by rw [updD_ne n12]; exact a1) hsl hfl.fo (by omega) (setF_ok fok) fun M4 b1 b2 => ?_
        have ef : flOf bare (mrg st (i + 1) (setF f slots (vs.length + s))) i = f := by rw [fl_keep (by omega), hf]
        refine hE _ (ss ++ [.let_ (vs.length + s) l]) _ _ ⟨keep _ _ dd b1, b2, ?_, (hfl.mrg (setF_ok fok) (by omega)).app ?_⟩
        · rw [List.map_append]
          exact b1 _ _ (Ne.symm n12) updD_same
        · simp only [StpF, ef]
          exact ⟨hl, by omega, by omega, _, low_same (by omega), setF_le⟩
    · rw [if_neg wk]
      by_cases w6 : w = 6
      · rw [if_pos w6]
        exact jmp
      · rw [if_neg w6]
        by_cases w7 : w = 7
        · rw [if_pos w7]
          refine ⟨p, _, rfl, by decide, by decide, J.dr.st, fun r M1 r0 r1 d1 => ⟨rfl, ?_⟩⟩
          split
          · exact clsh M1 d1
          · exact ⟨isLst_ref (d1.fr _ _ n2p J.h2), tst M1 d1⟩
        · rw [if_neg w7]
          exact ⟨isLst_ref J.h2, tst M' (.refl J.dr.st)⟩
  · rw [if_neg w4]
    by_cases w6 : w = 6
    · rw [if_pos w6]
      exact jmp
    · rw [if_neg w6]
      by_cases w7 : w = 7
      · rw [if_pos w7]
        refine ⟨p, _, rfl, by decide, by decide, J.dr.st, fun r M1 r0 r1 d1 => ⟨rfl, ?_⟩⟩
        split
        · exact clsh M1 d1
        · exact ⟨isLst_ref (d1.fr _ _ n2p J.h2), tst M1 d1⟩
      · rw [if_neg w7]
        exact ⟨isLst_ref J.h2, tst M' (.refl J.dr.st)⟩

theorem flat_body {E : EndsD} {p pst pss : Addr} {vs : List R} {slots boxes many i : Nat} {M0 M' : HpD} {bare : Fl} {st : List (Option Fl)} {ss : List Stp} {v10 v11 v12 v13 : Option D}
    (hv : vs.length ≤ 4) (hn : ∀ v ∈ vs, Dn v) (hs : vs.length ≤ slots) (hs2 : slots ≤ 9) (hm : many ≤ 43) (hst0 : DSt M0 p) (n1 : M0 pst = none) (n2 : M0 pss = none) (n12 : pst ≠ pss)
    (J : FmI p pst pss M0 M' vs.length slots many bare i st ss) (hi : i < many)
    (hE : ∀ (st' : List (Option Fl)) (ss' : List Stp) (v10 v11 v12 v13 : Option D) (M'' : HpD), FmI p pst pss M0 M'' vs.length slots many bare (i + 1) st' ss' → E.nx [some (.ref p), some (.lst (vs.map encR)), some (.int vs.length), some (.int slots), some (.int boxes), some (.int many), some (encF bare), some (.ref pst), some (.ref pss), some (.int i), v10, v11, v12, v13, none, none, none, none, none, none] M'') :
    rd_law_flat_body E [some (.ref p), some (.lst (vs.map encR)), some (.int vs.length), some (.int slots), some (.int boxes), some (.int many), some (encF bare), some (.ref pst), some (.ref pss), some (.int i), v10, v11, v12, v13, none, none, none, none, none, none] M' := by
  have hi1 := items_ref J.h1
  have hsl := J.I.sl
  obtain ⟨o, ho⟩ : ∃ o, st[i]? = some o := ⟨_, List.getElem?_eq_getElem (by omega)⟩
  have hat : atI (st.map encO) (i : Int) = some (encO o) := atI_nat (by rw [List.getElem?_map, ho]; rfl)
  have hfl : flOf bare st i = o.getD bare := by unfold flOf; rw [ho]; rfl
  have n1p : pst ≠ p := hst0.ne n1
  have n2p : pss ≠ p := hst0.ne n2
  have key : ∀ f : Fl, f = flOf bare st i → sp_law_draw [D.ref p, D.int 8] M' fun d M1 =>
      sp_law_draw [D.ref p, D.int (↑many + 1 - ↑i)] M1 fun y M2 =>
        ∃ x,
          y = D.int x ∧
            sp_law_draw [D.ref p, D.int 3] M2 fun x_1 M1 =>
              ∃ i_1,
                x_1 = D.int i_1 ∧
                  if 0 < i_1 then
                    sp_law_draw [D.ref p, D.int 4] M1 fun y M2 =>
                      ∃ x_2,
                        y = D.int x_2 ∧
                          rd_law_flat_act E [some (.ref p), some (.lst (vs.map encR)), some (.int vs.length), some (.int slots), some (.int boxes), some (.int many), some (encF bare), some (.ref pst), some (.ref pss), some (.int i), some (encF f), some d, some (.int (if (i : Int) + 1 + x_2 < (i : Int) + 1 + x then (i : Int) + 1 + x_2 else (i : Int) + 1 + x)), v13, none, none, none, none, none, none] M2
                  else
                    rd_law_flat_act E [some (.ref p), some (.lst (vs.map encR)), some (.int vs.length), some (.int slots), some (.int boxes), some (.int many), some (encF bare), some (.ref pst), some (.ref pss), some (.int i), some (encF f), some d, some (.int ((i : Int) + 1 + x)), v13, none, none, none, none, none, none] M1 := fun f hf => by
    refine ⟨p, _, rfl, by decide, by decide, J.dr.st, fun w M1 w0 w1 d1 => ⟨p, _, rfl, by omega, by omega, d1.st, fun x M2 x0 x1 d2 => ⟨x, rfl, p, _, rfl, by decide, by decide, d2.st, fun r M3 r0 r1 d3 => ⟨r, rfl, ?_⟩⟩⟩⟩
    have d13 := (d1.trans d2).trans d3
    split
    · refine ⟨p, _, rfl, by decide, by decide, d3.st, fun y M4 y0 y1 d4 => ⟨y, rfl, ?_⟩⟩
      have d14 := d13.trans d4
      obtain ⟨g, hg, g1, g2⟩ : ∃ g : Nat, (if (i : Int) + 1 + y < (i : Int) + 1 + x then (i : Int) + 1 + y else (i : Int) + 1 + x) = (g : Int) ∧ i < g ∧ g ≤ many + 1 := by
        refine ⟨(if (i : Int) + 1 + y < (i : Int) + 1 + x then (i : Int) + 1 + y else (i : Int) + 1 + x).toNat, ?_⟩
        split <;> exact ⟨by omega, by omega, by omega⟩
      rw [hg]
      exact flat_act hv hn hs hs2 hm hst0 n1 n2 n12 ⟨J.dr.trans d14, d14.fr _ _ n1p J.h1, d14.fr _ _ n2p J.h2, J.I⟩ hf hi g1 g2 fun st' ss' v13 M'' h => hE st' ss' _ _ _ v13 M'' h
    · obtain ⟨g, hg, g1, g2⟩ : ∃ g : Nat, ((i : Int) + 1 + x) = (g : Int) ∧ i < g ∧ g ≤ many + 1 := ⟨((i : Int) + 1 + x).toNat, by omega, by omega, by omega⟩
      rw [hg]
      exact flat_act hv hn hs hs2 hm hst0 n1 n2 n12 ⟨J.dr.trans d13, d13.fr _ _ n1p J.h1, d13.fr _ _ n2p J.h2, J.I⟩ hf hi g1 g2 fun st' ss' v13 M'' h => hE st' ss' _ _ _ v13 M'' h
  unfold rd_law_flat_body
  wp_walk using hi1, hat
  cases o with
  | none =>
    rw [if_neg (show ¬ isN (encO none) = false from by decide)]
    exact key bare hfl.symm
  | some z =>
    rw [if_pos (show isN (encO (some z)) = false from rfl)]
    exact key z hfl.symm

theorem ne_let_jump : (Str.ofString "let" = Str.ofString "jump") = False := eq_false (by decide +kernel)
theorem ne_let_test' : (Str.ofString "let" = Str.ofString "test") = False := eq_false (by decide +kernel)
theorem ne_test_jump : (Str.ofString "test" = Str.ofString "jump") = False := eq_false (by decide +kernel)
def remap (many behind : Nat) : Stp → Stp
  | .jump g => .jump (if many < g then behind else g)
  | .test l sg g => .test l sg (if many < g then behind else g)
  | s => s
theorem flat_ok {k slots boxes many : Nat} {bare : Fl} {st : List (Option Fl)} {ss first second : List Stp} (J : FlI k slots many bare many st ss) (bz : ∀ j : Nat, bare[j]? = some true → j < k) (hk : k ≤ slots) (hs2 : slots ≤ 9) (hb : boxes ≤ 6) (hm : many ≤ 43)
    (o1 : StrOk boxes many (flOf bare st many) first) (p1 : 0 < first.length) (l1 : first.length ≤ 4 * boxes + 1) (o2 : StrOk boxes (many + first.length) (flOf bare st (many + 1)) second) (p2 : 0 < second.length) (l2 : second.length ≤ 4 * boxes + 1) :
    COk k slots boxes (ss.map (remap many (many + first.length)) ++ first ++ second) := by
  have hz := J.sz
  have hl : (ss.map (remap many (many + first.length)) ++ first ++ second).length = many + first.length + second.length := by
    rw [List.length_append, List.length_append, List.length_map, hz]
  generalize hF : (fun i : Nat => if i < many then flOf bare st i else if i < many + first.length then flOf bare st many else flOf bare st (many + 1)) = F
  have F1 : ∀ g, g ≤ many → F g = flOf bare st g := fun g hg => by
    rw [← hF]
    show (if g < many then flOf bare st g else if g < many + first.length then flOf bare st many else flOf bare st (many + 1)) = _
    by_cases h : g < many
    · rw [if_pos h]
    · have e : g = many := by omega
      subst e
      rw [if_neg h, if_pos (by omega)]
  have F2 : ∀ g, many ≤ g → g < many + first.length → F g = flOf bare st many := fun g h1 h2 => by
    rw [← hF]
    show (if g < many then flOf bare st g else if g < many + first.length then flOf bare st many else flOf bare st (many + 1)) = _
    rw [if_neg (by omega), if_pos h2]
  have F3 : ∀ g, many + first.length ≤ g → F g = flOf bare st (many + 1) := fun g h1 => by
    rw [← hF]
    show (if g < many then flOf bare st g else if g < many + first.length then flOf bare st many else flOf bare st (many + 1)) = _
    rw [if_neg (by omega), if_neg (by omega)]
  refine ⟨hk, by omega, by omega, by omega, by omega, F, fun j hj => ?_, fun i s hs => ?_⟩
  · rw [F1 0 (by omega)] at hj
    unfold flOf at hj
    rw [J.z0] at hj
    exact bz j hj
  · rw [hl]
    by_cases h1 : i < many
    · rw [List.append_assoc, List.getElem?_append_left (by rw [List.length_map]; omega), List.getElem?_map] at hs
      obtain ⟨s0, hs0, rfl⟩ := Option.map_eq_some_iff.mp hs
      have ok := J.ok i s0 hs0
      have Fi := F1 i (by omega)
      have Fi1 := F1 (i + 1) (by omega)
      -- the goal behind the steps
      have tg : ∀ g, i < g → g ≤ many + 1 → Low st g (flOf bare st i) → i < (if many < g then many + first.length else g) ∧ (if many < g then many + first.length else g) < many + first.length + second.length ∧ Le (F (if many < g then many + first.length else g)) (F i) := fun g g1 g2 g3 => by
        by_cases h : many < g
        · rw [if_pos h, F3 _ (Nat.le_refl _), Fi]
          have e : g = many + 1 := by omega
          rw [e] at g3
          exact ⟨by omega, by omega, fl_low g3⟩
        · rw [if_neg h, F1 g (by omega), Fi]
          exact ⟨g1, by omega, fl_low g3⟩
      cases s0 with
      | let_ s l =>
        obtain ⟨u, a, b, h, c, d⟩ := ok
        refine ⟨by rw [Fi]; exact u, a, b, by omega, fun j hj => ?_⟩
        rw [Fi1] at hj
        rw [Fi]
        exact d j (fl_low c j hj)
      | test l sg g =>
        obtain ⟨u, a, b, c, d⟩ := ok
        obtain ⟨t1, t2, t3⟩ := tg g a b d
        exact ⟨by rw [Fi]; exact u, by omega, t1, t2, by rw [Fi1, Fi]; exact fl_low c, t3⟩
      | jump g =>
        obtain ⟨a, b, c⟩ := ok
        exact tg g a b c
      | clash => trivial
      | place b e1 e2 e3 e4 => exact ok.elim
      | hide b => exact ok.elim
      | fin => exact ok.elim
    · by_cases h2 : i < many + first.length
      · rw [List.getElem?_append_left (by rw [List.length_append, List.length_map]; omega), List.getElem?_append_right (by rw [List.length_map]; omega), List.length_map, hz] at hs
        have ok := o1 _ s hs
        have Fi := F2 i (by omega) h2
        have Fi1 : ∀ g, i < g → g < many + first.length → F g = F i := fun g a b => by rw [F2 g (by omega) b, Fi]
        cases s with
        | let_ s l => exact ok.elim
        | test l sg g =>
          obtain ⟨u, a, b, c⟩ := ok
          exact ⟨by rw [Fi]; exact u, by omega, by omega, by omega, by rw [Fi1 _ (by omega) (by omega)]; exact fun _ h => h, by rw [Fi1 _ (by omega) c]; exact fun _ h => h⟩
        | jump g =>
          obtain ⟨b, c⟩ := ok
          exact ⟨by omega, by omega, by rw [Fi1 _ (by omega) c]; exact fun _ h => h⟩
        | place b e1 e2 e3 e4 =>
          obtain ⟨u1, u2, u3, u4, a, c⟩ := ok
          exact ⟨by rw [Fi]; exact u1, by rw [Fi]; exact u2, by rw [Fi]; exact u3, by rw [Fi]; exact u4, a, by omega, by rw [Fi1 _ (by omega) (by omega)]; exact fun _ h => h⟩
        | hide b =>
          obtain ⟨a, c⟩ := ok
          exact ⟨a, by omega, by rw [Fi1 _ (by omega) (by omega)]; exact fun _ h => h⟩
        | clash => exact ok.elim
        | fin => trivial
      · rw [List.getElem?_append_right (by rw [List.length_append, List.length_map]; omega), List.length_append, List.length_map, hz] at hs
        have ok := o2 _ s hs
        have hi : i - (many + first.length) < second.length := (List.getElem?_eq_some_iff.mp hs).1
        have Fi := F3 i (by omega)
        have Fi1 : ∀ g, i < g → F g = F i := fun g a => by rw [F3 g (by omega), Fi]
        cases s with
        | let_ s l => exact ok.elim
        | test l sg g =>
          obtain ⟨u, a, b, c⟩ := ok
          exact ⟨by rw [Fi]; exact u, by omega, by omega, by omega, by rw [Fi1 _ (by omega)]; exact fun _ h => h, by rw [Fi1 _ (by omega)]; exact fun _ h => h⟩
        | jump g =>
          obtain ⟨b, c⟩ := ok
          exact ⟨by omega, by omega, by rw [Fi1 _ (by omega)]; exact fun _ h => h⟩
        | place b e1 e2 e3 e4 =>
          obtain ⟨u1, u2, u3, u4, a, c⟩ := ok
          exact ⟨by rw [Fi]; exact u1, by rw [Fi]; exact u2, by rw [Fi]; exact u3, by rw [Fi]; exact u4, a, by omega, by rw [Fi1 _ (by omega)]; exact fun _ h => h⟩
        | hide b =>
          obtain ⟨a, c⟩ := ok
          exact ⟨a, by omega, by rw [Fi1 _ (by omega)]; exact fun _ h => h⟩
        | clash => exact ok.elim
        | fin => trivial
theorem flat_told {Q : VKD} {p pst pss : Addr} {vs : List R} {slots boxes many : Nat} {M M' : HpD} {bare : Fl} {st' : List (Option Fl)} {ss first second : List Stp} {v9 v10 v11 v12 v13 : Option D} (hs : vs.length ≤ slots) (hs2 : slots ≤ 9) (hb : boxes ≤ 6) (hm : many ≤ 43)
    (dr : Dr p M M') (h2 : M' pss = some (.lst (ss.map encS))) (J : FlI vs.length slots many bare many st' ss) (bz : ∀ j : Nat, bare[j]? = some true → j < vs.length)
    (o1 : StrOk boxes many (flOf bare st' many) first) (p1 : 0 < first.length) (l1 : first.length ≤ 4 * boxes + 1) (o2 : StrOk boxes (many + first.length) (flOf bare st' (many + 1)) second) (p2 : 0 < second.length) (l2 : second.length ≤ 4 * boxes + 1)
    (q : ∀ (slots boxes : Nat) (ss : List Stp) (M' : HpD), COk vs.length slots boxes ss → Dr p M M' → Q (encC vs.length slots boxes ss) M') :
    rd_law_flat_told (en Q) [some (.ref p), some (.lst (vs.map encR)), some (.int vs.length), some (.int slots), some (.int boxes), some (.int many), some (encF bare), some (.ref pst), some (.ref pss), v9, v10, v11, v12, v13, none, some (.lst (first.map encS)), some (.int ((many + first.length : Nat) : Int)), some (.lst (second.map encS)), none, none] M' := by
  unfold rd_law_flat_told
  wp_walk using items_ref h2
  intro p3 np3
  have hz := J.sz
  have ne : pss ≠ p3 := fun e => by rw [e, np3] at h2; cases h2
  have hi3 : ∀ o, itemsD (updD M' p3 o) (.ref pss) = some (ss.map encS) := fun o => items_ref (by rw [updD_ne ne]; exact h2)
  refine ⟨_, hi3 _, fun i σ M2 => ∃ v19, σ = [some (.ref p), some (.lst (vs.map encR)), some (.int vs.length), some (.int slots), some (.int boxes), some (.int many), some (encF bare), some (.ref pst), some (.ref pss), v9, v10, v11, v12, v13, none, some (.lst (first.map encS)), some (.int ((many + first.length : Nat) : Int)), some (.lst (second.map encS)), some (.ref p3), v19] ∧ M2 = updD M' p3 (.lst (((ss.take i).map (remap many (many + first.length))).map encS)), ⟨none, rfl, rfl⟩, ?_, ?_, ?_⟩
  · rintro i σ M2 _ ⟨v19, rfl, rfl⟩
    exact hi3 _
  · rintro i x σ M2 hx ⟨v19, rfl, rfl⟩
    rw [List.getElem?_map] at hx
    obtain ⟨s, hs, rfl⟩ := Option.map_eq_some_iff.mp hx
    have ok := J.ok i s hs
    have hlt : i < ss.length := (List.getElem?_eq_some_iff.mp hs).1
    have etk : ((ss.take (i + 1)).map (remap many (many + first.length))).map encS = ((ss.take i).map (remap many (many + first.length))).map encS ++ [encS (remap many (many + first.length) s)] := by
      rw [List.take_succ, hs, List.map_append, List.map_append]
      rfl
    have lt : (((ss.take i).map (remap many (many + first.length))).map encS).length < 1000000 := by
      rw [List.length_map, List.length_map, List.length_take]
      omega
    have done_ : ∀ t : Stp, remap many (many + first.length) s = t → updD M' p3 (.lst (((ss.take i).map (remap many (many + first.length))).map encS ++ [encS t])) = updD M' p3 (.lst (((ss.take (i + 1)).map (remap many (many + first.length))).map encS)) := fun t e => by rw [etk, e]
    cases s with
    | place b e1 e2 e3 e4 => exact ok.elim
    | hide b => exact ok.elim
    | fin => exact ok.elim
    | clash =>
      simp only [encS]
      wp_walk using ne_clash_jump, ne_clash_test
      exact ⟨isLst_ref updD_same, lt, ⟨_, rfl⟩, done_ _ rfl⟩
    | let_ s l =>
      simp only [encS]
      wp_walk using ne_let_jump, ne_let_test'
      exact ⟨isLst_ref updD_same, lt, ⟨_, rfl⟩, done_ _ rfl⟩
    | jump g =>
      simp only [encS]
      wp_walk using ne_jump_test
      by_cases hg : many < g
      · rw [if_pos (by omega)]
        exact ⟨isLst_ref updD_same, lt, ⟨_, rfl⟩, done_ (.jump (many + first.length)) (by simp only [remap, if_pos hg])⟩
      · rw [if_neg (by omega)]
        exact ⟨isLst_ref updD_same, lt, ⟨_, rfl⟩, done_ (.jump g) (by simp only [remap, if_neg hg])⟩
    | test l sg g =>
      simp only [encS]
      wp_walk using ne_test_jump
      rw [cut_to (k := 3) (i := 3) rfl]
      simp only [List.take_succ_cons, List.take_zero]
      by_cases hg : many < g
      · rw [if_pos (by omega)]
        exact ⟨by decide, by simp, by simp, isLst_ref updD_same, lt, ⟨_, rfl⟩, done_ (.test l sg (many + first.length)) (by simp only [remap, if_pos hg])⟩
      · rw [if_neg (by omega)]
        exact ⟨isLst_ref updD_same, lt, ⟨_, rfl⟩, done_ (.test l sg g) (by simp only [remap, if_neg hg])⟩
  · rintro σ M2 ⟨v19, rfl, rfl⟩
    walk_at "rd"
    have et : ss.take (ss.map encS).length = ss := by rw [List.length_map, List.take_length]
    rw [et]
    refine ⟨by rw [List.length_map, List.length_map, List.length_map]; omega, by rw [List.length_append, List.length_map, List.length_map, List.length_map, List.length_map]; omega, .drop (SubM.new np3) ?_⟩
    have := q slots boxes (ss.map (remap many (many + first.length)) ++ first ++ second) M' (flat_ok J bz hs hs2 hb hm o1 p1 l1 o2 p2 l2) dr
    unfold encC at this
    rw [List.map_append, List.map_append] at this
    exact this
theorem flat_tail {Q : VKD} {p : Addr} {vs : List R} {slots boxes many : Nat} {M : HpD} (hv : vs.length ≤ 4) (hn : ∀ v ∈ vs, Dn v) (hs : vs.length ≤ slots) (hs2 : slots ≤ 9) (hb : boxes ≤ 6) (hm : many ≤ 43) (st : DSt M p)
    (q : ∀ (slots boxes : Nat) (ss : List Stp) (M' : HpD), COk vs.length slots boxes ss → Dr p M M' → Q (encC vs.length slots boxes ss) M') :
    rd_law_flat_tail (en Q) [some (.ref p), some (.lst (vs.map encR)), some (.int vs.length), some (.int slots), some (.int boxes), some (.int many), none, none, none, none, none, none, none, none, none, none, none, none, none, none] M := by
  have er : ((slots : Int) - (vs.length : Int)).toNat = slots - vs.length := by omega
  have em : ((many : Int) + 1).toNat = many + 1 := by omega
  have eb : D.lst (List.replicate vs.length (D.int 1) ++ List.replicate (slots - vs.length) (D.int 0)) = encF (List.replicate vs.length true ++ List.replicate (slots - vs.length) false) := by
    unfold encF
    rw [List.map_append, List.map_replicate, List.map_replicate]
    rfl
  have bo : FOk vs.length slots (List.replicate vs.length true ++ List.replicate (slots - vs.length) false) := ⟨by rw [List.length_append, List.length_replicate, List.length_replicate]; omega, fun i hi => by
    rw [List.getElem?_append_left (by rw [List.length_replicate]; exact hi), List.getElem?_replicate, if_pos hi]⟩
  have bz : ∀ j : Nat, (List.replicate vs.length true ++ List.replicate (slots - vs.length) false)[j]? = some true → j < vs.length := fun j hj => by
    by_cases h : j < vs.length
    · exact h
    · rw [List.getElem?_append_right (by rw [List.length_replicate]; omega), List.getElem?_replicate] at hj
      split at hj <;> cases hj
  unfold rd_law_flat_tail
  walk_at "rd"
  rw [er, em, Int.toNat_natCast, Int.toNat_natCast, eb]
  generalize List.replicate vs.length true ++ List.replicate (slots - vs.length) false = bare at bo bz
  refine ⟨by omega, by omega, by omega, by omega, by rw [List.length_replicate, List.length_replicate]; omega, by omega, by omega, by rw [List.length_replicate]; omega, fun pst n1 pss n2' => ⟨by omega, by omega, ?_⟩⟩
  have n12 : pst ≠ pss := fun e => by rw [← e, updD_same] at n2'; cases n2'
  have n2 : M pss = none := by rw [updD_ne (Ne.symm n12)] at n2'; exact n2'
  refine ⟨fun i σ M' => ∃ (st : List (Option Fl)) (ss : List Stp) (v9 v10 v11 v12 v13 : Option D), σ = [some (.ref p), some (.lst (vs.map encR)), some (.int vs.length), some (.int slots), some (.int boxes), some (.int many), some (encF bare), some (.ref pst), some (.ref pss), v9, v10, v11, v12, v13, none, none, none, none, none, none] ∧ FmI p pst pss M M' vs.length slots many bare i st ss, ⟨some bare :: List.replicate (many + 1) none, [], none, none, none, none, none, rfl, ?_⟩, fun _ _ _ _ _ => trivial, ?_, ?_⟩
  · refine ⟨(Dr.new st n1).upd n2 (st.ne n2), ?_, updD_same, by simp, fun f hf => ?_, rfl, rfl, bo, fun j s hj => by simp at hj⟩
    · rw [updD_ne n12, updD_same, List.map_cons, List.map_replicate]
      rfl
    · rcases List.mem_cons.mp hf with h | h
      · cases h; exact bo
      · have := List.eq_of_mem_replicate h; cases this
  · rintro i x σ M' hx ⟨st', ss, v9, v10, v11, v12, v13, rfl, J⟩
    have hi : i < many := by
      have := (List.getElem?_eq_some_iff.mp hx).1
      rw [upTo_length] at this
      exact this
    rw [upTo_get hi, Int.zero_add] at hx
    cases hx
    walk_at "rd"
    exact flat_body hv hn hs hs2 hm st n1 n2 n12 J hi fun st' ss' v10 v11 v12 v13 M'' h => ⟨⟨_, _, _, _, _, rfl⟩, st', ss', h⟩
  · rintro σ M' ⟨st', ss, v9, v10, v11, v12, v13, rfl, J⟩
    rw [upTo_length] at J
    unfold rd_law_flat_after
    have hi1 := items_ref J.h1
    have hsl := J.I.sl
    obtain ⟨o1, ho1⟩ : ∃ o, st'[many]? = some o := ⟨_, List.getElem?_eq_getElem (by omega)⟩
    have hat1 : atI (st'.map encO) (many : Int) = some (encO o1) := atI_nat (by rw [List.getElem?_map, ho1]; rfl)
    have hfl1 : flOf bare st' many = o1.getD bare := by unfold flOf; rw [ho1]; rfl
    have n1p : pst ≠ p := st.ne n1
    have n2p : pss ≠ p := st.ne n2
    obtain ⟨o2, ho2⟩ : ∃ o, st'[many + 1]? = some o := ⟨_, List.getElem?_eq_getElem (by omega)⟩
    have ec : ((many : Int) + 1) = ((many + 1 : Nat) : Int) := by omega
    have hat2 : atI (st'.map encO) ((many : Int) + 1) = some (encO o2) := by rw [ec]; exact atI_nat (by rw [List.getElem?_map, ho2]; rfl)
    have hfl2 : flOf bare st' (many + 1) = o2.getD bare := by unfold flOf; rw [ho2]; rfl
    have key : ∀ f1 : Fl, f1 = flOf bare st' many → sp_law_stretch [D.ref p, encF f1, D.int ↑boxes, D.int ↑many, D.lst (List.map encR vs)] M' fun d M1 =>
      ∃ x,
        itemsD M1 d = some x ∧
          ∃ ds,
            itemsD M1 (D.ref pst) = some ds ∧
              ∃ x_1,
                atI ds (↑many + 1) = some x_1 ∧
                  if isN x_1 = false then
                    ∃ ds,
                      itemsD M1 (D.ref pst) = some ds ∧
                        ∃ x_2,
                          atI ds (↑many + 1) = some x_2 ∧
                            sp_law_stretch
                              [D.ref p, x_2, D.int ↑boxes, D.int (↑many + ↑x.length), D.lst (List.map encR vs)] M1
                              fun d_1 M1 =>
                              rd_law_flat_told (en Q) [some (.ref p), some (.lst (vs.map encR)), some (.int vs.length), some (.int slots), some (.int boxes), some (.int many), some (encF bare), some (.ref pst), some (.ref pss), v9, v10, v11, v12, v13, none, some d, some (.int ((many : Int) + (x.length : Int))), some d_1, none, none] M1
                  else
                    sp_law_stretch
                      [D.ref p, encF bare, D.int ↑boxes, D.int (↑many + ↑x.length), D.lst (List.map encR vs)] M1
                      fun d_1 M1 =>
                      rd_law_flat_told (en Q) [some (.ref p), some (.lst (vs.map encR)), some (.int vs.length), some (.int slots), some (.int boxes), some (.int many), some (encF bare), some (.ref pst), some (.ref pss), v9, v10, v11, v12, v13, none, some d, some (.int ((many : Int) + (x.length : Int))), some d_1, none, none] M1 := fun f1 hf1 => by
      have fk1 : FOk vs.length slots f1 := by rw [hf1]; exact J.I.fl
      refine ⟨p, f1, boxes, many, vs, rfl, by rw [fk1.len]; omega, hb, by omega, hn, fk1.low, J.dr.st, fun first M1 ok1 pos1 len1 d1 => ⟨_, rfl, _, items_ref (d1.fr _ _ n1p J.h1), _, hat2, ?_⟩⟩
      have el : ((many : Int) + ((first.map encS).length : Int)) = ((many + first.length : Nat) : Int) := by rw [List.length_map]; omega
      rw [el]
      have key2 : ∀ f2 : Fl, f2 = flOf bare st' (many + 1) → sp_law_stretch [D.ref p, encF f2, D.int ↑boxes, D.int ((many + first.length : Nat) : Int), D.lst (List.map encR vs)] M1 fun d_1 M1 => rd_law_flat_told (en Q) [some (.ref p), some (.lst (vs.map encR)), some (.int vs.length), some (.int slots), some (.int boxes), some (.int many), some (encF bare), some (.ref pst), some (.ref pss), v9, v10, v11, v12, v13, none, some (.lst (first.map encS)), some (.int ((many + first.length : Nat) : Int)), some d_1, none, none] M1 := fun f2 hf2 => by
        have fk2 : FOk vs.length slots f2 := by rw [hf2]; exact J.I.fl
        refine ⟨p, f2, boxes, many + first.length, vs, rfl, by rw [fk2.len]; omega, hb, by omega, hn, fk2.low, d1.st, fun second M2 ok2 pos2 len2 d2 => ?_⟩
        rw [hf1] at ok1
        rw [hf2] at ok2
        exact flat_told hs hs2 hb hm ((J.dr.trans d1).trans d2) (d2.fr _ _ n2p (d1.fr _ _ n2p J.h2)) J.I bz ok1 pos1 len1 ok2 pos2 len2 q
      cases o2 with
      | none =>
        rw [if_neg (show ¬ isN (encO none) = false from by decide)]
        exact key2 bare hfl2.symm
      | some z =>
        rw [if_pos (show isN (encO (some z)) = false from rfl)]
        exact ⟨_, items_ref (d1.fr _ _ n1p J.h1), _, hat2, key2 z hfl2.symm⟩
    wp_walk using hi1, hat1
    cases o1 with
    | none =>
      rw [if_neg (show ¬ isN (encO none) = false from by decide)]
      exact key bare hfl1.symm
    | some z =>
      rw [if_pos (show isN (encO (some z)) = false from rfl)]
      exact key z hfl1.symm
theorem len_law_flat {ds M Q} (h : sp_law_flat ds M Q) : ds.length = 2 := by obtain ⟨n, d, rfl, _⟩ := h; rfl
theorem pr_law_flat {ds M Q} (h : sp_law_flat ds M Q) : rd_law_flat (en Q) (startD ["d", "values", "k", "slots", "boxes", "many", "bare", "state", "steps", "at", "flags", "word", "goal", "slot", "j", "first", "behind", "second", "told", "step"] ds) M := by
  obtain ⟨p, vs, rfl, hv, hn, st, q⟩ := h
  unfold rd_law_flat
  walk_at "rd"
  rw [List.length_map]
  refine ⟨p, _, rfl, by decide, by decide, st, fun x M1 x0 x1 d1 => ⟨x, rfl, p, _, rfl, by decide, by decide, d1.st, fun y M2 y0 y1 d2 => ⟨y, rfl, p, _, rfl, by decide, by decide, d2.st, fun b M3 d3 => ⟨b, rfl, ?_⟩⟩⟩⟩
  obtain ⟨c, hc, c1⟩ : ∃ c : Nat, (if b = true then (1 : Int) else 0) = (c : Int) ∧ c ≤ 1 := by
    cases b
    · exact ⟨0, rfl, by decide⟩
    · exact ⟨1, rfl, by decide⟩
  rw [hc]
  have dd := (d1.trans d2).trans d3
  obtain ⟨s, hs⟩ : ∃ s : Nat, x = s := ⟨x.toNat, by omega⟩
  obtain ⟨t, ht⟩ : ∃ t : Nat, y = t := ⟨y.toNat, by omega⟩
  have e1 : ((vs.length : Int) + x) = ((vs.length + s : Nat) : Int) := by omega
  have e2 : ((1 : Int) + y + 3 * (c : Int)) = ((1 + t + 3 * c : Nat) : Int) := by omega
  rw [e1, e2]
  have tl : ∀ (many : Nat) (M5 : HpD), many ≤ 43 → Dr p M M5 → rd_law_flat_tail (en Q) [some (.ref p), some (.lst (vs.map encR)), some (.int vs.length), some (.int ((vs.length + s : Nat) : Int)), some (.int ((1 + t + 3 * c : Nat) : Int)), some (.int many), none, none, none, none, none, none, none, none, none, none, none, none, none, none] M5 := fun many M5 hm d5 =>
    flat_tail hv hn (by omega) (by omega) (by omega) hm d5.st fun slots boxes ss M' ok d6 => q slots boxes ss M' ok (d5.trans d6)
  refine ⟨.l (by decide), p, _, rfl, by decide, by decide, d3.st, fun m M4 m0 m1 d4 => ⟨p, _, rfl, by decide, by decide, d4.st, fun r M5 d5 => ⟨r, rfl, ?_⟩⟩⟩
  obtain ⟨n, hn'⟩ : ∃ n : Nat, m = n := ⟨m.toNat, by omega⟩
  subst hn'
  cases r with
  | true =>
    rw [if_pos rfl]
    refine ⟨_, rfl, ?_⟩
    have e3 : ((n : Int) + 30) = ((n + 30 : Nat) : Int) := by omega
    rw [e3]
    exact tl (n + 30) M5 (by omega) ((dd.trans d4).trans d5)
  | false =>
    rw [if_neg (by decide)]
    exact tl n M5 (by omega) ((dd.trans d4).trans d5)

theorem sc_ratio : FnScope ["n", "d", "common"] ["n", "d"] (defScope s_ratio) := ⟨rfl, rfl, rfl, by decide +kernel, rfl, by decide +kernel, by decide +kernel⟩
theorem bd_ratio {P : Program} {w : World} {K : PySem.W.Frag} {mg : Str → Option Value} {base : Heap} {f : Addr} {cdv : Value} {A : Around} {outer : List Env} {s : Shared} {H : Hp} {E : XK} (T : Bi mg) (hr : Room 0 (A.deeper (PyProof.Rows.envOfC "ratio" (defScope s_ratio) s.heap.objs.size f cdv)))
     :
    PSsD (cxOf CX0 P w K mg base ["n", "d", "common"] "ratio" (defScope s_ratio) f cdv A outer s H E).nox (defBody s_ratio) rd_ratio := by
  have nd := (sc_ratio).nd
  exact (ds_cons (s_if (dt_cmp O_lt (dv 1) d_int (nomark _)) (ds_cons (s_set (i := 0) nd rfl (by first | exact Or.inl rfl | exact Or.inr rfl) (d_un O_neg (dv 0)))
    (ds_one (s_set (i := 1) nd rfl (by first | exact Or.inl rfl | exact Or.inr rfl) (d_un O_neg (dv 1))))) ds_nil)
    (ds_cons (s_if (dt_cmp o_eq (dv 1) d_int (nomark _)) (ds_one (s_ret (d_tup (a_cons (dv 0) (a_cons d_int a_nil))))) ds_nil)
    (ds_cons (s_set (i := 2) nd rfl (by first | exact Or.inl rfl | exact Or.inr rfl) (d_bfun C_gcd T.gcd_ (a_cons (dv 0) (a_cons (dv 1) a_nil))))
    (ds_cons (s_if (dt_cmp o_eq (dv 2) d_int (nomark _)) (ds_one (s_ret (d_tup (a_cons (dv 0) (a_cons (dv 1) a_nil))))) ds_nil)
    (ds_one (s_ret (d_tup (a_cons (d_op O_div (dv 0) (dv 2)) (a_cons (d_op O_div (dv 1) (dv 2)) a_nil)))))))))
theorem ok_ratio {P : Program} {w : World} {K : PySem.W.Frag} {mg : Str → Option Value} {base : Heap} (T : Bi mg) (F : Stands K mg "ratio" s_ratio)
     : Callee P w K mg base 1 "ratio" ["n", "d"] sp_ratio :=
  F.ok sc_ratio (fun _ _ _ h => len_ratio h) (fun _ _ _ _ _ _ us hl => match us, hl with | [_, _], _ => rfl) fun f cdv A outer s H E hr => ⟨rd_ratio, bd_ratio T hr , fun ds M Q h => pr_ratio h⟩
theorem sc_plus : FnScope ["a", "b"] ["a", "b"] (defScope s_plus) := ⟨rfl, rfl, rfl, by decide +kernel, rfl, by decide +kernel, by decide +kernel⟩
theorem bd_plus {P : Program} {w : World} {K : PySem.W.Frag} {mg : Str → Option Value} {base : Heap} {f : Addr} {cdv : Value} {A : Around} {outer : List Env} {s : Shared} {H : Hp} {E : XK} (T : Bi mg) (hr : Room 1 (A.deeper (PyProof.Rows.envOfC "plus" (defScope s_plus) s.heap.objs.size f cdv)))
    (c_ratio : Callee P w K mg base 1 "ratio" ["n", "d"] sp_ratio) :
    PSsD (cxOf CX0 P w K mg base ["a", "b"] "plus" (defScope s_plus) f cdv A outer s H E).nox (defBody s_plus) rd_plus := by
  have nd := (sc_plus).nd
  exact (ds_cons (s_if (PW.pt (dw_and (dt_cmp o_eq (d_ix (dv 0) d_int) d_int (nomark _)) (dw_and1 (dt_cmp o_eq (d_ix (dv 1) d_int) d_int (nomark _))))) (ds_one (s_ret (d_tup (a_cons (d_op O_add (d_ix (dv 0) d_int) (d_ix (dv 1) d_int)) (a_cons d_int a_nil))))) ds_nil)
    (ds_one (s_ret (d_callC c_ratio hr (a_cons (d_op O_add (d_op O_mul (d_ix (dv 0) d_int) (d_ix (dv 1) d_int)) (d_op O_mul (d_ix (dv 1) d_int) (d_ix (dv 0) d_int))) (a_cons (d_op O_mul (d_ix (dv 0) d_int) (d_ix (dv 1) d_int)) a_nil))))))
theorem ok_plus {P : Program} {w : World} {K : PySem.W.Frag} {mg : Str → Option Value} {base : Heap} (T : Bi mg) (F : Stands K mg "plus" s_plus)
    (c_ratio : Callee P w K mg base 1 "ratio" ["n", "d"] sp_ratio) : Callee P w K mg base 2 "plus" ["a", "b"] sp_plus :=
  F.ok sc_plus (fun _ _ _ h => len_plus h) (fun _ _ _ _ _ _ us hl => match us, hl with | [_, _], _ => rfl) fun f cdv A outer s H E hr => ⟨rd_plus, bd_plus T hr c_ratio, fun ds M Q h => pr_plus h⟩
theorem sc_times : FnScope ["a", "b"] ["a", "b"] (defScope s_times) := ⟨rfl, rfl, rfl, by decide +kernel, rfl, by decide +kernel, by decide +kernel⟩
theorem bd_times {P : Program} {w : World} {K : PySem.W.Frag} {mg : Str → Option Value} {base : Heap} {f : Addr} {cdv : Value} {A : Around} {outer : List Env} {s : Shared} {H : Hp} {E : XK} (T : Bi mg) (hr : Room 1 (A.deeper (PyProof.Rows.envOfC "times" (defScope s_times) s.heap.objs.size f cdv)))
    (c_ratio : Callee P w K mg base 1 "ratio" ["n", "d"] sp_ratio) :
    PSsD (cxOf CX0 P w K mg base ["a", "b"] "times" (defScope s_times) f cdv A outer s H E).nox (defBody s_times) rd_times := by
  have nd := (sc_times).nd
  exact (ds_cons (s_if (PW.pt (dw_and (dt_cmp o_eq (d_ix (dv 0) d_int) d_int (nomark _)) (dw_and1 (dt_cmp o_eq (d_ix (dv 1) d_int) d_int (nomark _))))) (ds_one (s_ret (d_tup (a_cons (d_op O_mul (d_ix (dv 0) d_int) (d_ix (dv 1) d_int)) (a_cons d_int a_nil))))) ds_nil)
    (ds_one (s_ret (d_callC c_ratio hr (a_cons (d_op O_mul (d_ix (dv 0) d_int) (d_ix (dv 1) d_int)) (a_cons (d_op O_mul (d_ix (dv 0) d_int) (d_ix (dv 1) d_int)) a_nil))))))
theorem ok_times {P : Program} {w : World} {K : PySem.W.Frag} {mg : Str → Option Value} {base : Heap} (T : Bi mg) (F : Stands K mg "times" s_times)
    (c_ratio : Callee P w K mg base 1 "ratio" ["n", "d"] sp_ratio) : Callee P w K mg base 2 "times" ["a", "b"] sp_times :=
  F.ok sc_times (fun _ _ _ h => len_times h) (fun _ _ _ _ _ _ us hl => match us, hl with | [_, _], _ => rfl) fun f cdv A outer s H E hr => ⟨rd_times, bd_times T hr c_ratio, fun ds M Q h => pr_times h⟩
theorem sc_line_value : FnScope ["told", "values", "total", "slot", "share"] ["told", "values"] (defScope s_line_value) := ⟨rfl, rfl, rfl, by decide +kernel, rfl, by decide +kernel, by decide +kernel⟩
theorem bd_line_value {P : Program} {w : World} {K : PySem.W.Frag} {mg : Str → Option Value} {base : Heap} {f : Addr} {cdv : Value} {A : Around} {outer : List Env} {s : Shared} {H : Hp} {E : XK} (T : Bi mg) (hr : Room 2 (A.deeper (PyProof.Rows.envOfC "line_value" (defScope s_line_value) s.heap.objs.size f cdv)))
    (c_plus : Callee P w K mg base 2 "plus" ["a", "b"] sp_plus) (c_times : Callee P w K mg base 2 "times" ["a", "b"] sp_times) :
    PSsD (cxOf CX0 P w K mg base ["told", "values", "total", "slot", "share"] "line_value" (defScope s_line_value) f cdv A outer s H E).nox (defBody s_line_value) rd_line_value := by
  have nd := (sc_line_value).nd
  exact (ds_cons (s_set (i := 2) nd rfl (by first | exact Or.inl rfl | exact Or.inr rfl) (d_ix (dv 0) d_int))
    (ds_cons (s_for rfl PassesOwn.never (i_seq (d_ix (dv 0) d_int)) (g_tup rfl (gs_cons (g_name (i := 3) nd rfl (by first | exact Or.inl rfl | exact Or.inr rfl)) (gs_cons (g_name (i := 4) nd rfl (by first | exact Or.inl rfl | exact Or.inr rfl)) gs_nil)))
    (ds_one (s_set (i := 2) nd rfl (by first | exact Or.inl rfl | exact Or.inr rfl) (d_callC c_plus hr (a_cons (dv 2) (a_cons (d_callC c_times hr (a_cons (dv 4) (a_cons (d_ix (dv 1) (dv 3)) a_nil))) a_nil))))))
    (ds_one (s_ret (dv 2)))))
theorem ok_line_value {P : Program} {w : World} {K : PySem.W.Frag} {mg : Str → Option Value} {base : Heap} (T : Bi mg) (F : Stands K mg "line_value" s_line_value)
    (c_plus : Callee P w K mg base 2 "plus" ["a", "b"] sp_plus) (c_times : Callee P w K mg base 2 "times" ["a", "b"] sp_times) : Callee P w K mg base 3 "line_value" ["told", "values"] sp_line_value :=
  F.ok sc_line_value (fun _ _ _ h => len_line_value h) (fun _ _ _ _ _ _ us hl => match us, hl with | [_, _], _ => rfl) fun f cdv A outer s H E hr => ⟨rd_line_value, bd_line_value T hr c_plus c_times, fun ds M Q h => pr_line_value h⟩
theorem sc_run_code : FnScope ["code", "point", "k", "slots", "boxes", "steps", "values", "places", "at", "step", "word", "value", "told"] ["code", "point"] (defScope s_run_code) := ⟨rfl, rfl, rfl, by decide +kernel, rfl, by decide +kernel, by decide +kernel⟩
theorem bd_run_code {P : Program} {w : World} {K : PySem.W.Frag} {mg : Str → Option Value} {base : Heap} {f : Addr} {cdv : Value} {A : Around} {outer : List Env} {s : Shared} {H : Hp} {E : XK} (T : Bi mg) (hr : Room 3 (A.deeper (PyProof.Rows.envOfC "run_code" (defScope s_run_code) s.heap.objs.size f cdv)))
    (c_line_value : Callee P w K mg base 3 "line_value" ["told", "values"] sp_line_value) :
    PSsD (cxOf CX0 P w K mg base ["code", "point", "k", "slots", "boxes", "steps", "values", "places", "at", "step", "word", "value", "told"] "run_code" (defScope s_run_code) f cdv A outer s H E).nox (defBody s_run_code) rd_run_code := by
  have nd := (sc_run_code).nd
  exact (ds_cons (s_asg (dv 0) (g_tup rfl (gs_cons (g_name (i := 2) nd rfl (by first | exact Or.inl rfl | exact Or.inr rfl)) (gs_cons (g_name (i := 3) nd rfl (by first | exact Or.inl rfl | exact Or.inr rfl)) (gs_cons (g_name (i := 4) nd rfl (by first | exact Or.inl rfl | exact Or.inr rfl)) (gs_cons (g_name (i := 5) nd rfl (by first | exact Or.inl rfl | exact Or.inr rfl)) gs_nil))))))
    (ds_cons (s_set (i := 6) nd rfl (by first | exact Or.inl rfl | exact Or.inr rfl) (d_op o_catM (d_bt C_listF T.list_ (a_cons (dv 1) a_nil)) (d_op o_repF (d_lst (a_cons d_non a_nil)) (d_op O_sub (dv 3) (dv 2)))))
    (ds_cons (s_set (i := 7) nd rfl (by first | exact Or.inl rfl | exact Or.inr rfl) (d_op o_repM (d_lst (a_cons d_non a_nil)) (dv 4)))
    (ds_cons (s_set (i := 8) nd rfl (by first | exact Or.inl rfl | exact Or.inr rfl) d_int)
    (ds_cons (s_while PassesOwn.never (dt_cmp O_lt (dv 8) (d_bf C_len T.len_ (a_cons (dv 5) a_nil)) (nomark _))
    (ds_cons (s_set (i := 9) nd rfl (by first | exact Or.inl rfl | exact Or.inr rfl) (d_ix (dv 5) (dv 8)))
    (ds_cons (s_set (i := 10) nd rfl (by first | exact Or.inl rfl | exact Or.inr rfl) (d_ix (dv 9) d_int))
    (ds_cons (s_aug (i := 8) nd rfl (by first | exact Or.inl rfl | exact Or.inr rfl) d_int I_add)
    (ds_one (s_if (dt_cmp o_eq (dv 10) d_str (nomark _)) (ds_one (s_asg (d_callC c_line_value hr (a_cons (d_ix (dv 9) d_int) (a_cons (dv 6) a_nil))) (g_sub (dv 6) (d_ix (dv 9) d_int) set_lst))) (ds_one (s_if (dt_cmp o_eq (dv 10) d_str (nomark _)) (ds_cons (s_set (i := 11) nd rfl (by first | exact Or.inl rfl | exact Or.inr rfl) (d_callC c_line_value hr (a_cons (d_ix (dv 9) d_int) (a_cons (dv 6) a_nil))))
    (ds_one (s_if (PW.pt (dw_or (dt_cmp O_lt (d_ix (dv 11) d_int) d_int (nomark _)) (dw_or1 (PW.pt (dw_and (dt_cmp o_eq (d_ix (dv 11) d_int) d_int (nomark _)) (dw_and1 (dt_cmp o_eq (d_ix (dv 9) d_int) d_int (nomark _)))))))) (ds_one (s_set (i := 8) nd rfl (by first | exact Or.inl rfl | exact Or.inr rfl) (d_ix (dv 9) d_int))) ds_nil))) (ds_one (s_if (dt_cmp o_eq (dv 10) d_str (nomark _)) (ds_one (s_set (i := 8) nd rfl (by first | exact Or.inl rfl | exact Or.inr rfl) (d_ix (dv 9) d_int))) (ds_one (s_if (dt_cmp o_eq (dv 10) d_str (nomark _)) (ds_one (s_asg (d_bt C_tuple T.tuple_ (a_cons (d_frz (d_lc (own := [("told", 12)]) (g := (.one 12)) rfl nd (i_seq (d_slice Sl_tup (dv 9) (po_som d_int) po_non)) (blkOk_by (N := ["code", "point", "k", "slots", "boxes", "steps", "values", "places", "at", "step", "word", "value", "told"]) (own := [("told", 12)]) (sc := defScope s_run_code) (by decide +kernel)) (by decide) (fun _ _ _ _ _ => (pg_name (i := 12) nd rfl (by first | exact Or.inl rfl | exact Or.inr rfl))) (fun _ _ _ _ _ => ts_nil) (fun _ _ _ _ _ => (d_callC c_line_value hr (a_cons (dv 12) (a_cons (dv 6) a_nil)))))) a_nil)) (g_sub (dv 7) (d_ix (dv 9) d_int) set_lst))) (ds_one (s_if (dt_cmp o_eq (dv 10) d_str (nomark _)) (ds_one (s_ret d_non)) (ds_one (s_if (dt_cmp o_eq (dv 10) d_str (nomark _)) (ds_one s_break) ds_nil))))))))))))))))
    (ds_one (s_ret (d_bt C_tuple T.tuple_ (a_cons (dv 7) a_nil)))))))))
theorem ok_run_code {P : Program} {w : World} {K : PySem.W.Frag} {mg : Str → Option Value} {base : Heap} (T : Bi mg) (F : Stands K mg "run_code" s_run_code)
    (c_line_value : Callee P w K mg base 3 "line_value" ["told", "values"] sp_line_value) : Callee P w K mg base 4 "run_code" ["code", "point"] sp_run_code :=
  F.ok sc_run_code (fun _ _ _ h => len_run_code h) (fun _ _ _ _ _ _ us hl => match us, hl with | [_, _], _ => rfl) fun f cdv A outer s H E hr => ⟨rd_run_code, bd_run_code T hr c_line_value, fun ds M Q h => pr_run_code h⟩
theorem sc_law_begin : FnScope ["script", "cell"] ["script"] (defScope s_law_begin) := ⟨rfl, rfl, rfl, by decide +kernel, rfl, by decide +kernel, by decide +kernel⟩
theorem bd_law_begin {P : Program} {w : World} {K : PySem.W.Frag} {mg : Str → Option Value} {base : Heap} {f : Addr} {cdv : Value} {A : Around} {outer : List Env} {s : Shared} {H : Hp} {E : XK} (T : Bi mg) (hr : Room 0 (A.deeper (PyProof.Rows.envOfC "_law_begin" (defScope s_law_begin) s.heap.objs.size f cdv)))
     :
    PSsD (cxOf CX0 P w K mg base ["script", "cell"] "_law_begin" (defScope s_law_begin) f cdv A outer s H E).nox (defBody s_law_begin) rd_law_begin := by
  have nd := (sc_law_begin).nd
  exact (ds_one (s_ret (d_lstM (a_cons (d_frz (d_lc (own := [("cell", 1)]) (g := (.one 1)) rfl nd (i_seq (dv 0)) (blkOk_by (N := ["script", "cell"]) (own := [("cell", 1)]) (sc := defScope s_law_begin) (by decide +kernel)) (by decide) (fun _ _ _ _ _ => (pg_name (i := 1) nd rfl (by first | exact Or.inl rfl | exact Or.inr rfl))) (fun _ _ _ _ _ => ts_nil) (fun _ _ _ _ _ => (d_bt C_inti T.int_ (a_cons (dv 1) a_nil))))) (a_cons d_int (a_cons d_int (a_cons d_int (a_cons d_int a_nil))))))))
theorem ok_law_begin {P : Program} {w : World} {K : PySem.W.Frag} {mg : Str → Option Value} {base : Heap} (T : Bi mg) (F : Stands K mg "_law_begin" s_law_begin)
     : Callee P w K mg base 1 "_law_begin" ["script"] sp_law_begin :=
  F.ok sc_law_begin (fun _ _ _ h => len_law_begin h) (fun _ _ _ _ _ _ us hl => match us, hl with | [_], _ => rfl) fun f cdv A outer s H E hr => ⟨rd_law_begin, bd_law_begin T hr , fun ds M Q h => pr_law_begin h⟩
theorem sc_law_draw : FnScope ["d", "many", "found", "size", "cell"] ["d", "many"] (defScope s_law_draw) := ⟨rfl, rfl, rfl, by decide +kernel, rfl, by decide +kernel, by decide +kernel⟩
theorem bd_law_draw {P : Program} {w : World} {K : PySem.W.Frag} {mg : Str → Option Value} {base : Heap} {f : Addr} {cdv : Value} {A : Around} {outer : List Env} {s : Shared} {H : Hp} {E : XK} (T : Bi mg) (hr : Room 0 (A.deeper (PyProof.Rows.envOfC "_law_draw" (defScope s_law_draw) s.heap.objs.size f cdv)))
     :
    PSsD (cxOf CX0 P w K mg base ["d", "many", "found", "size", "cell"] "_law_draw" (defScope s_law_draw) f cdv A outer s H E).nox (defBody s_law_draw) rd_law_draw := by
  have nd := (sc_law_draw).nd
  exact (ds_cons (s_if (dt_cmp O_gt (d_ix (dv 0) d_int) d_int (nomark _)) (ds_cons (s_set (i := 2) nd rfl (by first | exact Or.inl rfl | exact Or.inr rfl) (d_ix (dv 0) d_int))
    (ds_cons (s_asg (d_op O_div (dv 2) (dv 1)) (g_sub (dv 0) d_int set_lst))
    (ds_one (s_ret (d_op O_mod (d_bt C_inti T.int_ (a_cons (dv 2) a_nil)) (dv 1)))))) ds_nil)
    (ds_cons (s_set (i := 3) nd rfl (by first | exact Or.inl rfl | exact Or.inr rfl) d_int)
    (ds_cons (s_if (dt_cmp O_lt (d_ix (dv 0) d_int) (d_bf C_len T.len_ (a_cons (d_ix (dv 0) d_int) a_nil)) (nomark _)) (ds_cons (s_set (i := 4) nd rfl (by first | exact Or.inl rfl | exact Or.inr rfl) (d_ix (d_ix (dv 0) d_int) (d_ix (dv 0) d_int)))
    (ds_one (s_set (i := 3) nd rfl (by first | exact Or.inl rfl | exact Or.inr rfl) (d_op O_add (d_op O_mul d_int (d_bf C_abs T.abs_ (a_cons (dv 4) a_nil))) (d_bt C_intb T.int_ (a_cons (d_cmp O_lt (dv 4) d_int (nomark _)) a_nil)))))) ds_nil)
    (ds_cons (s_augS (dv 0) d_int d_int I_add)
    (ds_cons (s_if (dt_cmp O_ge (dv 3) (d_op O_mul d_int (d_op O_pow d_int d_int)) (nomark _)) (ds_cons (s_set (i := 2) nd rfl (by first | exact Or.inl rfl | exact Or.inr rfl) (d_op O_mod (d_bt C_inti T.int_ (a_cons (d_op O_div (dv 3) d_int) a_nil)) (d_op O_shl d_int d_int)))
    (ds_cons (s_asg (d_op O_div (dv 2) (dv 1)) (g_sub (dv 0) d_int set_lst))
    (ds_one (s_ret (d_op O_mod (d_bt C_inti T.int_ (a_cons (dv 2) a_nil)) (dv 1)))))) ds_nil)
    (ds_cons (s_asg (d_op O_mod (d_bt C_inti T.int_ (a_cons (d_op O_add (d_op O_add (d_op O_add (d_op O_mul (d_ix (dv 0) d_int) d_int) (d_op O_mul (d_op O_mod (d_bt C_inti T.int_ (a_cons (dv 3) a_nil)) d_int) d_int)) (d_op O_mul (d_ix (dv 0) d_int) d_int)) d_int) a_nil)) d_int) (g_sub (dv 0) d_int set_lst))
    (ds_one (s_ret (d_op O_mod (d_bt C_inti T.int_ (a_cons (d_op O_div (d_ix (dv 0) d_int) d_int) a_nil)) (dv 1))))))))))
theorem ok_law_draw {P : Program} {w : World} {K : PySem.W.Frag} {mg : Str → Option Value} {base : Heap} (T : Bi mg) (F : Stands K mg "_law_draw" s_law_draw)
     : Callee P w K mg base 1 "_law_draw" ["d", "many"] sp_law_draw :=
  F.ok sc_law_draw (fun _ _ _ h => len_law_draw h) (fun _ _ _ _ _ _ us hl => match us, hl with | [_, _], _ => rfl) fun f cdv A outer s H E hr => ⟨rd_law_draw, bd_law_draw T hr , fun ds M Q h => pr_law_draw h⟩
theorem sc_law_pick : FnScope ["d", "row"] ["d", "row"] (defScope s_law_pick) := ⟨rfl, rfl, rfl, by decide +kernel, rfl, by decide +kernel, by decide +kernel⟩
theorem bd_law_pick {P : Program} {w : World} {K : PySem.W.Frag} {mg : Str → Option Value} {base : Heap} {f : Addr} {cdv : Value} {A : Around} {outer : List Env} {s : Shared} {H : Hp} {E : XK} (T : Bi mg) (hr : Room 1 (A.deeper (PyProof.Rows.envOfC "_law_pick" (defScope s_law_pick) s.heap.objs.size f cdv)))
    (c_law_draw : Callee P w K mg base 1 "_law_draw" ["d", "many"] sp_law_draw) :
    PSsD (cxOf CX0 P w K mg base ["d", "row"] "_law_pick" (defScope s_law_pick) f cdv A outer s H E).nox (defBody s_law_pick) rd_law_pick := by
  have nd := (sc_law_pick).nd
  exact (ds_one (s_ret (d_ix (dv 1) (d_callC c_law_draw hr (a_cons (dv 0) (a_cons (d_bf C_len T.len_ (a_cons (dv 1) a_nil)) a_nil))))))
theorem ok_law_pick {P : Program} {w : World} {K : PySem.W.Frag} {mg : Str → Option Value} {base : Heap} (T : Bi mg) (F : Stands K mg "_law_pick" s_law_pick)
    (c_law_draw : Callee P w K mg base 1 "_law_draw" ["d", "many"] sp_law_draw) : Callee P w K mg base 2 "_law_pick" ["d", "row"] sp_law_pick :=
  F.ok sc_law_pick (fun _ _ _ h => len_law_pick h) (fun _ _ _ _ _ _ us hl => match us, hl with | [_, _], _ => rfl) fun f cdv A outer s H E hr => ⟨rd_law_pick, bd_law_pick T hr c_law_draw, fun ds M Q h => pr_law_pick h⟩
theorem sc_law_pop : FnScope ["d", "row"] ["d", "row"] (defScope s_law_pop) := ⟨rfl, rfl, rfl, by decide +kernel, rfl, by decide +kernel, by decide +kernel⟩
theorem bd_law_pop {P : Program} {w : World} {K : PySem.W.Frag} {mg : Str → Option Value} {base : Heap} {f : Addr} {cdv : Value} {A : Around} {outer : List Env} {s : Shared} {H : Hp} {E : XK} (T : Bi mg) (hr : Room 1 (A.deeper (PyProof.Rows.envOfC "_law_pop" (defScope s_law_pop) s.heap.objs.size f cdv)))
    (c_law_draw : Callee P w K mg base 1 "_law_draw" ["d", "many"] sp_law_draw) :
    PSsD (cxOf CX0 P w K mg base ["d", "row"] "_law_pop" (defScope s_law_pop) f cdv A outer s H E).nox (defBody s_law_pop) rd_law_pop := by
  have nd := (sc_law_pop).nd
  exact (ds_one (s_ret (d_bm PySem.F.slot_list_pop PySem.F.type_list_pop M_popAt (dv 1) (a_cons (d_callC c_law_draw hr (a_cons (dv 0) (a_cons (d_bf C_len T.len_ (a_cons (dv 1) a_nil)) a_nil))) a_nil))))
theorem ok_law_pop {P : Program} {w : World} {K : PySem.W.Frag} {mg : Str → Option Value} {base : Heap} (T : Bi mg) (F : Stands K mg "_law_pop" s_law_pop)
    (c_law_draw : Callee P w K mg base 1 "_law_draw" ["d", "many"] sp_law_draw) : Callee P w K mg base 2 "_law_pop" ["d", "row"] sp_law_pop :=
  F.ok sc_law_pop (fun _ _ _ h => len_law_pop h) (fun _ _ _ _ _ _ us hl => match us, hl with | [_, _], _ => rfl) fun f cdv A outer s H E hr => ⟨rd_law_pop, bd_law_pop T hr c_law_draw, fun ds M Q h => pr_law_pop h⟩
theorem sc_law_rare : FnScope ["d", "many"] ["d", "many"] (defScope s_law_rare) := ⟨rfl, rfl, rfl, by decide +kernel, rfl, by decide +kernel, by decide +kernel⟩
theorem bd_law_rare {P : Program} {w : World} {K : PySem.W.Frag} {mg : Str → Option Value} {base : Heap} {f : Addr} {cdv : Value} {A : Around} {outer : List Env} {s : Shared} {H : Hp} {E : XK} (T : Bi mg) (hr : Room 1 (A.deeper (PyProof.Rows.envOfC "_law_rare" (defScope s_law_rare) s.heap.objs.size f cdv)))
    (c_law_draw : Callee P w K mg base 1 "_law_draw" ["d", "many"] sp_law_draw) :
    PSsD (cxOf CX0 P w K mg base ["d", "many"] "_law_rare" (defScope s_law_rare) f cdv A outer s H E).nox (defBody s_law_rare) rd_law_rare := by
  have nd := (sc_law_rare).nd
  exact (ds_one (s_ret (d_cmp o_eq (d_callC c_law_draw hr (a_cons (dv 0) (a_cons (dv 1) a_nil))) (d_op O_div (dv 1) d_int) (nomark _))))
theorem ok_law_rare {P : Program} {w : World} {K : PySem.W.Frag} {mg : Str → Option Value} {base : Heap} (T : Bi mg) (F : Stands K mg "_law_rare" s_law_rare)
    (c_law_draw : Callee P w K mg base 1 "_law_draw" ["d", "many"] sp_law_draw) : Callee P w K mg base 2 "_law_rare" ["d", "many"] sp_law_rare :=
  F.ok sc_law_rare (fun _ _ _ h => len_law_rare h) (fun _ _ _ _ _ _ us hl => match us, hl with | [_, _], _ => rfl) fun f cdv A outer s H E hr => ⟨rd_law_rare, bd_law_rare T hr c_law_draw, fun ds M Q h => pr_law_rare h⟩
theorem sc_law_gcd : FnScope ["a", "b", "k"] ["a", "b"] (defScope s_law_gcd) := ⟨rfl, rfl, rfl, by decide +kernel, rfl, by decide +kernel, by decide +kernel⟩
theorem bd_law_gcd {P : Program} {w : World} {K : PySem.W.Frag} {mg : Str → Option Value} {base : Heap} {f : Addr} {cdv : Value} {A : Around} {outer : List Env} {s : Shared} {H : Hp} {E : XK} (T : Bi mg) (hr : Room 0 (A.deeper (PyProof.Rows.envOfC "_law_gcd" (defScope s_law_gcd) s.heap.objs.size f cdv)))
     :
    PSsD (cxOf CX0 P w K mg base ["a", "b", "k"] "_law_gcd" (defScope s_law_gcd) f cdv A outer s H E).nox (defBody s_law_gcd) rd_law_gcd := by
  have nd := (sc_law_gcd).nd
  exact (ds_cons (s_set (i := 0) nd rfl (by first | exact Or.inl rfl | exact Or.inr rfl) (d_bf C_abs T.abs_ (a_cons (dv 0) a_nil)))
    (ds_cons (s_set (i := 1) nd rfl (by first | exact Or.inl rfl | exact Or.inr rfl) (d_bf C_abs T.abs_ (a_cons (dv 1) a_nil)))
    (ds_cons (s_for rfl PassesOwn.never (i_range1 T.range_ (a_cons d_int a_nil)) (g_name (i := 2) nd rfl (by first | exact Or.inl rfl | exact Or.inr rfl))
    (ds_cons (s_if (dt_cmp o_eq (dv 1) d_int (nomark _)) (ds_one s_break) ds_nil)
    (ds_one (s_par (i := 0) (j := 1) rfl nd rfl rfl (by decide) rfl rfl (a_cons (dv 1) (a_cons (d_op O_mod (d_bt C_inti T.int_ (a_cons (dv 0) a_nil)) (dv 1)) a_nil)) (by rfl)))))
    (ds_one (s_ret (dv 0))))))
theorem ok_law_gcd {P : Program} {w : World} {K : PySem.W.Frag} {mg : Str → Option Value} {base : Heap} (T : Bi mg) (F : Stands K mg "_law_gcd" s_law_gcd)
     : Callee P w K mg base 1 "_law_gcd" ["a", "b"] sp_law_gcd :=
  F.ok sc_law_gcd (fun _ _ _ h => len_law_gcd h) (fun _ _ _ _ _ _ us hl => match us, hl with | [_, _], _ => rfl) fun f cdv A outer s H E hr => ⟨rd_law_gcd, bd_law_gcd T hr , fun ds M Q h => pr_law_gcd h⟩
theorem sc_law_r : FnScope ["n", "d", "g"] ["n", "d"] (defScope s_law_r) := ⟨rfl, rfl, rfl, by decide +kernel, rfl, by decide +kernel, by decide +kernel⟩
theorem bd_law_r {P : Program} {w : World} {K : PySem.W.Frag} {mg : Str → Option Value} {base : Heap} {f : Addr} {cdv : Value} {A : Around} {outer : List Env} {s : Shared} {H : Hp} {E : XK} (T : Bi mg) (hr : Room 1 (A.deeper (PyProof.Rows.envOfC "_law_r" (defScope s_law_r) s.heap.objs.size f cdv)))
    (c_law_gcd : Callee P w K mg base 1 "_law_gcd" ["a", "b"] sp_law_gcd) :
    PSsD (cxOf CX0 P w K mg base ["n", "d", "g"] "_law_r" (defScope s_law_r) f cdv A outer s H E).nox (defBody s_law_r) rd_law_r := by
  have nd := (sc_law_r).nd
  exact (ds_cons (s_if (dt_cmp O_lt (dv 1) d_int (nomark _)) (ds_cons (s_set (i := 0) nd rfl (by first | exact Or.inl rfl | exact Or.inr rfl) (d_un O_neg (dv 0)))
    (ds_one (s_set (i := 1) nd rfl (by first | exact Or.inl rfl | exact Or.inr rfl) (d_un O_neg (dv 1))))) ds_nil)
    (ds_cons (s_set (i := 2) nd rfl (by first | exact Or.inl rfl | exact Or.inr rfl) (d_callC c_law_gcd hr (a_cons (dv 0) (a_cons (dv 1) a_nil))))
    (ds_one (s_ret (d_tup (a_cons (d_op O_div (dv 0) (dv 2)) (a_cons (d_op O_div (dv 1) (dv 2)) a_nil)))))))
theorem ok_law_r {P : Program} {w : World} {K : PySem.W.Frag} {mg : Str → Option Value} {base : Heap} (T : Bi mg) (F : Stands K mg "_law_r" s_law_r)
    (c_law_gcd : Callee P w K mg base 1 "_law_gcd" ["a", "b"] sp_law_gcd) : Callee P w K mg base 2 "_law_r" ["n", "d"] sp_law_r :=
  F.ok sc_law_r (fun _ _ _ h => len_law_r h) (fun _ _ _ _ _ _ us hl => match us, hl with | [_, _], _ => rfl) fun f cdv A outer s H E hr => ⟨rd_law_r, bd_law_r T hr c_law_gcd, fun ds M Q h => pr_law_r h⟩
theorem sc_law_add : FnScope ["a", "b"] ["a", "b"] (defScope s_law_add) := ⟨rfl, rfl, rfl, by decide +kernel, rfl, by decide +kernel, by decide +kernel⟩
theorem bd_law_add {P : Program} {w : World} {K : PySem.W.Frag} {mg : Str → Option Value} {base : Heap} {f : Addr} {cdv : Value} {A : Around} {outer : List Env} {s : Shared} {H : Hp} {E : XK} (T : Bi mg) (hr : Room 2 (A.deeper (PyProof.Rows.envOfC "_law_add" (defScope s_law_add) s.heap.objs.size f cdv)))
    (c_law_r : Callee P w K mg base 2 "_law_r" ["n", "d"] sp_law_r) :
    PSsD (cxOf CX0 P w K mg base ["a", "b"] "_law_add" (defScope s_law_add) f cdv A outer s H E).nox (defBody s_law_add) rd_law_add := by
  have nd := (sc_law_add).nd
  exact (ds_one (s_ret (d_callC c_law_r hr (a_cons (d_op O_add (d_op O_mul (d_ix (dv 0) d_int) (d_ix (dv 1) d_int)) (d_op O_mul (d_ix (dv 1) d_int) (d_ix (dv 0) d_int))) (a_cons (d_op O_mul (d_ix (dv 0) d_int) (d_ix (dv 1) d_int)) a_nil)))))
theorem ok_law_add {P : Program} {w : World} {K : PySem.W.Frag} {mg : Str → Option Value} {base : Heap} (T : Bi mg) (F : Stands K mg "_law_add" s_law_add)
    (c_law_r : Callee P w K mg base 2 "_law_r" ["n", "d"] sp_law_r) : Callee P w K mg base 3 "_law_add" ["a", "b"] sp_law_add :=
  F.ok sc_law_add (fun _ _ _ h => len_law_add h) (fun _ _ _ _ _ _ us hl => match us, hl with | [_, _], _ => rfl) fun f cdv A outer s H E hr => ⟨rd_law_add, bd_law_add T hr c_law_r, fun ds M Q h => pr_law_add h⟩
theorem sc_law_mul : FnScope ["a", "b"] ["a", "b"] (defScope s_law_mul) := ⟨rfl, rfl, rfl, by decide +kernel, rfl, by decide +kernel, by decide +kernel⟩
theorem bd_law_mul {P : Program} {w : World} {K : PySem.W.Frag} {mg : Str → Option Value} {base : Heap} {f : Addr} {cdv : Value} {A : Around} {outer : List Env} {s : Shared} {H : Hp} {E : XK} (T : Bi mg) (hr : Room 2 (A.deeper (PyProof.Rows.envOfC "_law_mul" (defScope s_law_mul) s.heap.objs.size f cdv)))
    (c_law_r : Callee P w K mg base 2 "_law_r" ["n", "d"] sp_law_r) :
    PSsD (cxOf CX0 P w K mg base ["a", "b"] "_law_mul" (defScope s_law_mul) f cdv A outer s H E).nox (defBody s_law_mul) rd_law_mul := by
  have nd := (sc_law_mul).nd
  exact (ds_one (s_ret (d_callC c_law_r hr (a_cons (d_op O_mul (d_ix (dv 0) d_int) (d_ix (dv 1) d_int)) (a_cons (d_op O_mul (d_ix (dv 0) d_int) (d_ix (dv 1) d_int)) a_nil)))))
theorem ok_law_mul {P : Program} {w : World} {K : PySem.W.Frag} {mg : Str → Option Value} {base : Heap} (T : Bi mg) (F : Stands K mg "_law_mul" s_law_mul)
    (c_law_r : Callee P w K mg base 2 "_law_r" ["n", "d"] sp_law_r) : Callee P w K mg base 3 "_law_mul" ["a", "b"] sp_law_mul :=
  F.ok sc_law_mul (fun _ _ _ h => len_law_mul h) (fun _ _ _ _ _ _ us hl => match us, hl with | [_, _], _ => rfl) fun f cdv A outer s H E hr => ⟨rd_law_mul, bd_law_mul T hr c_law_r, fun ds M Q h => pr_law_mul h⟩
theorem sc_law_is_int : FnScope ["thing"] ["thing"] (defScope s_law_is_int) := ⟨rfl, rfl, rfl, by decide +kernel, rfl, by decide +kernel, by decide +kernel⟩
theorem bd_law_is_int {P : Program} {w : World} {K : PySem.W.Frag} {mg : Str → Option Value} {base : Heap} {f : Addr} {cdv : Value} {A : Around} {outer : List Env} {s : Shared} {H : Hp} {E : XK} (T : Bi mg) (hr : Room 0 (A.deeper (PyProof.Rows.envOfC "_law_is_int" (defScope s_law_is_int) s.heap.objs.size f cdv)))
     :
    PSsD (cxOf CX0 P w K mg base ["thing"] "_law_is_int" (defScope s_law_is_int) f cdv A outer s H E).nox (defBody s_law_is_int) rd_law_is_int := by
  have nd := (sc_law_is_int).nd
  exact (ds_one (s_ret (d_and (d_bf (C_isi "int") T.isinstance_ (a_cons (dv 0) (a_cons (d_ty T.int_) a_nil))) (d_one (d_not (d_bf (C_isi "bool") T.isinstance_ (a_cons (dv 0) (a_cons (d_ty T.bool_) a_nil))))))))
theorem ok_law_is_int {P : Program} {w : World} {K : PySem.W.Frag} {mg : Str → Option Value} {base : Heap} (T : Bi mg) (F : Stands K mg "_law_is_int" s_law_is_int)
     : Callee P w K mg base 1 "_law_is_int" ["thing"] sp_law_is_int :=
  F.ok sc_law_is_int (fun _ _ _ h => len_law_is_int h) (fun _ _ _ _ _ _ us hl => match us, hl with | [_], _ => rfl) fun f cdv A outer s H E hr => ⟨rd_law_is_int, bd_law_is_int T hr , fun ds M Q h => pr_law_is_int h⟩
theorem sc_law_is_r : FnScope ["thing"] ["thing"] (defScope s_law_is_r) := ⟨rfl, rfl, rfl, by decide +kernel, rfl, by decide +kernel, by decide +kernel⟩
theorem bd_law_is_r {P : Program} {w : World} {K : PySem.W.Frag} {mg : Str → Option Value} {base : Heap} {f : Addr} {cdv : Value} {A : Around} {outer : List Env} {s : Shared} {H : Hp} {E : XK} (T : Bi mg) (hr : Room 1 (A.deeper (PyProof.Rows.envOfC "_law_is_r" (defScope s_law_is_r) s.heap.objs.size f cdv)))
    (c_law_gcd : Callee P w K mg base 1 "_law_gcd" ["a", "b"] sp_law_gcd) (c_law_is_int : Callee P w K mg base 1 "_law_is_int" ["thing"] sp_law_is_int) :
    PSsD (cxOf CX0 P w K mg base ["thing"] "_law_is_r" (defScope s_law_is_r) f cdv A outer s H E).nox (defBody s_law_is_r) rd_law_is_r := by
  have nd := (sc_law_is_r).nd
  exact (ds_cons (s_if (PW.pt (dw_or (dt_not (dt_val (d_bf (C_isi "tuple") T.isinstance_ (a_cons (dv 0) (a_cons (d_ty T.tuple_) a_nil))))) (dw_or1 (dt_cmp o_ne (d_bf C_len T.len_ (a_cons (dv 0) a_nil)) d_int (nomark _))))) (ds_one (s_ret d_bl)) ds_nil)
    (ds_cons (s_if (PW.pt (dw_or (dt_not (dt_val (d_callC c_law_is_int hr (a_cons (d_ix (dv 0) d_int) a_nil)))) (dw_or (dt_not (dt_val (d_callC c_law_is_int hr (a_cons (d_ix (dv 0) d_int) a_nil)))) (dw_or1 (dt_cmp O_lt (d_ix (dv 0) d_int) d_int (nomark _)))))) (ds_one (s_ret d_bl)) ds_nil)
    (ds_one (s_ret (d_cmp o_eq (d_callC c_law_gcd hr (a_cons (d_ix (dv 0) d_int) (a_cons (d_ix (dv 0) d_int) a_nil))) d_int (nomark _))))))
theorem ok_law_is_r {P : Program} {w : World} {K : PySem.W.Frag} {mg : Str → Option Value} {base : Heap} (T : Bi mg) (F : Stands K mg "_law_is_r" s_law_is_r)
    (c_law_gcd : Callee P w K mg base 1 "_law_gcd" ["a", "b"] sp_law_gcd) (c_law_is_int : Callee P w K mg base 1 "_law_is_int" ["thing"] sp_law_is_int) : Callee P w K mg base 2 "_law_is_r" ["thing"] sp_law_is_r :=
  F.ok sc_law_is_r (fun _ _ _ h => len_law_is_r h) (fun _ _ _ _ _ _ us hl => match us, hl with | [_], _ => rfl) fun f cdv A outer s H E hr => ⟨rd_law_is_r, bd_law_is_r T hr c_law_gcd c_law_is_int, fun ds M Q h => pr_law_is_r h⟩
theorem sc_law_sum : FnScope ["parts", "found", "name", "share"] ["parts"] (defScope s_law_sum) := ⟨rfl, rfl, rfl, by decide +kernel, rfl, by decide +kernel, by decide +kernel⟩
theorem bd_law_sum {P : Program} {w : World} {K : PySem.W.Frag} {mg : Str → Option Value} {base : Heap} {f : Addr} {cdv : Value} {A : Around} {outer : List Env} {s : Shared} {H : Hp} {E : XK} (T : Bi mg) (hr : Room 3 (A.deeper (PyProof.Rows.envOfC "_law_sum" (defScope s_law_sum) s.heap.objs.size f cdv)))
    (c_law_add : Callee P w K mg base 3 "_law_add" ["a", "b"] sp_law_add) :
    PSsD (cxOf CX0 P w K mg base ["parts", "found", "name", "share"] "_law_sum" (defScope s_law_sum) f cdv A outer s H E).nox (defBody s_law_sum) rd_law_sum := by
  have nd := (sc_law_sum).nd
  exact (ds_cons (s_set (i := 1) nd rfl (by first | exact Or.inl rfl | exact Or.inr rfl) d_dnew)
    (ds_cons (s_for rfl PassesOwn.never (i_seq (dv 0)) (g_tup rfl (gs_cons (g_name (i := 2) nd rfl (by first | exact Or.inl rfl | exact Or.inr rfl)) (gs_cons (g_name (i := 3) nd rfl (by first | exact Or.inl rfl | exact Or.inr rfl)) gs_nil)))
    (ds_one (s_dput (hu_of hr) (dv 1) (dv 2) (d_callC c_law_add hr (a_cons (d_dget2 (hu_of hr) ⟨rfl, rfl, rfl, rfl⟩ (dv 1) (dv 2) (d_tup (a_cons d_int (a_cons d_int a_nil)))) (a_cons (dv 3) a_nil))))))
    (ds_one (s_ret (d_bt C_tuple T.tuple_ (a_cons (d_frz (d_lc (own := [("name", 2)]) (g := (.one 2)) rfl nd (i_seq (d_bf (C_sortDI rfl) T.sorted_ (a_cons (dv 1) a_nil))) (blkOk_by (N := ["parts", "found", "name", "share"]) (own := [("name", 2)]) (sc := defScope s_law_sum) (by decide +kernel)) (by decide) (fun _ _ _ _ _ => (pg_name (i := 2) nd rfl (by first | exact Or.inl rfl | exact Or.inr rfl))) (fun _ _ _ _ _ => (ts_one (dt_cmp o_ne (d_ix (d_dget (hu_of hr) (dv 1) (dv 2)) d_int) d_int (nomark _)))) (fun _ _ _ _ _ => (d_tup (a_cons (dv 2) (a_cons (d_dget (hu_of hr) (dv 1) (dv 2)) a_nil)))))) a_nil))))))
theorem ok_law_sum {P : Program} {w : World} {K : PySem.W.Frag} {mg : Str → Option Value} {base : Heap} (T : Bi mg) (F : Stands K mg "_law_sum" s_law_sum)
    (c_law_add : Callee P w K mg base 3 "_law_add" ["a", "b"] sp_law_add) : Callee P w K mg base 4 "_law_sum" ["parts"] sp_law_sum :=
  F.ok sc_law_sum (fun _ _ _ h => len_law_sum h) (fun _ _ _ _ _ _ us hl => match us, hl with | [_], _ => rfl) fun f cdv A outer s H E hr => ⟨rd_law_sum, bd_law_sum T hr c_law_add, fun ds M Q h => pr_law_sum h⟩
theorem sc_law_number : FnScope ["d"] ["d"] (defScope s_law_number) := ⟨rfl, rfl, rfl, by decide +kernel, rfl, by decide +kernel, by decide +kernel⟩
theorem bd_law_number {P : Program} {w : World} {K : PySem.W.Frag} {mg : Str → Option Value} {base : Heap} {f : Addr} {cdv : Value} {A : Around} {outer : List Env} {s : Shared} {H : Hp} {E : XK} (T : Bi mg) (hr : Room 2 (A.deeper (PyProof.Rows.envOfC "_law_number" (defScope s_law_number) s.heap.objs.size f cdv)))
    (c_law_draw : Callee P w K mg base 1 "_law_draw" ["d", "many"] sp_law_draw) (c_law_pick : Callee P w K mg base 2 "_law_pick" ["d", "row"] sp_law_pick) (c_law_r : Callee P w K mg base 2 "_law_r" ["n", "d"] sp_law_r) (c_law_rare : Callee P w K mg base 2 "_law_rare" ["d", "many"] sp_law_rare) :
    PSsD (cxOf CX0 P w K mg base ["d"] "_law_number" (defScope s_law_number) f cdv A outer s H E).nox (defBody s_law_number) rd_law_number := by
  have nd := (sc_law_number).nd
  exact (ds_cons (s_if (dt_val (d_callC c_law_rare hr (a_cons (dv 0) (a_cons d_int a_nil)))) (ds_one (s_ret (d_callC c_law_r hr (a_cons (d_op O_sub (d_callC c_law_draw hr (a_cons (dv 0) (a_cons d_int a_nil))) d_int) (a_cons (d_op O_add d_int (d_callC c_law_draw hr (a_cons (dv 0) (a_cons d_int a_nil)))) a_nil))))) ds_nil)
    (ds_one (s_ret (d_callC c_law_r hr (a_cons (d_op O_sub (d_op O_mul (d_callC c_law_draw hr (a_cons (dv 0) (a_cons d_int a_nil))) d_int) d_int) (a_cons (d_callC c_law_pick hr (a_cons (dv 0) (a_cons (d_lst (a_cons d_int (a_cons d_int (a_cons d_int (a_cons d_int (a_cons d_int a_nil)))))) a_nil))) a_nil))))))
theorem ok_law_number {P : Program} {w : World} {K : PySem.W.Frag} {mg : Str → Option Value} {base : Heap} (T : Bi mg) (F : Stands K mg "_law_number" s_law_number)
    (c_law_draw : Callee P w K mg base 1 "_law_draw" ["d", "many"] sp_law_draw) (c_law_pick : Callee P w K mg base 2 "_law_pick" ["d", "row"] sp_law_pick) (c_law_r : Callee P w K mg base 2 "_law_r" ["n", "d"] sp_law_r) (c_law_rare : Callee P w K mg base 2 "_law_rare" ["d", "many"] sp_law_rare) : Callee P w K mg base 3 "_law_number" ["d"] sp_law_number :=
  F.ok sc_law_number (fun _ _ _ h => len_law_number h) (fun _ _ _ _ _ _ us hl => match us, hl with | [_], _ => rfl) fun f cdv A outer s H E hr => ⟨rd_law_number, bd_law_number T hr c_law_draw c_law_pick c_law_r c_law_rare, fun ds M Q h => pr_law_number h⟩
theorem sc_law_is_layout : FnScope ["told", "many", "place", "edge"] ["told", "many"] (defScope s_law_is_layout) := ⟨rfl, rfl, rfl, by decide +kernel, rfl, by decide +kernel, by decide +kernel⟩
theorem bd_law_is_layout {P : Program} {w : World} {K : PySem.W.Frag} {mg : Str → Option Value} {base : Heap} {f : Addr} {cdv : Value} {A : Around} {outer : List Env} {s : Shared} {H : Hp} {E : XK} (T : Bi mg) (hr : Room 2 (A.deeper (PyProof.Rows.envOfC "_law_is_layout" (defScope s_law_is_layout) s.heap.objs.size f cdv)))
    (c_law_is_r : Callee P w K mg base 2 "_law_is_r" ["thing"] sp_law_is_r) :
    PSsD (cxOf CX0 P w K mg base ["told", "many", "place", "edge"] "_law_is_layout" (defScope s_law_is_layout) f cdv A outer s H E).nox (defBody s_law_is_layout) rd_law_is_layout := by
  have nd := (sc_law_is_layout).nd
  exact (ds_cons (s_if (dt_cmp O_is (dv 0) d_non (nomark _)) (ds_one (s_ret d_bl)) ds_nil)
    (ds_cons (s_if (PW.pt (dw_or (dt_not (dt_val (d_bf (C_isi "tuple") T.isinstance_ (a_cons (dv 0) (a_cons (d_ty T.tuple_) a_nil))))) (dw_or1 (dt_cmp o_ne (d_bf C_len T.len_ (a_cons (dv 0) a_nil)) (dv 1) (nomark _))))) (ds_one (s_ret d_bl)) ds_nil)
    (ds_cons (s_for rfl PassesOwn.never (i_seq (dv 0)) (g_name (i := 2) nd rfl (by first | exact Or.inl rfl | exact Or.inr rfl))
    (ds_cons (s_if (dt_cmp O_is (dv 2) d_non (nomark _)) (ds_one s_continue) ds_nil)
    (ds_one (s_if (PW.pt (dw_or (dt_not (dt_val (d_bf (C_isi "tuple") T.isinstance_ (a_cons (dv 2) (a_cons (d_ty T.tuple_) a_nil))))) (dw_or (dt_cmp o_ne (d_bf C_len T.len_ (a_cons (dv 2) a_nil)) d_int (nomark _)) (dw_or1 (dt_not (dt_val (d_bf (C_all rfl) T.all_ (a_cons (d_frz (d_lc (own := [("edge", 3)]) (g := (.one 3)) rfl nd (i_seq (dv 2)) (blkOk_by (N := ["told", "many", "place", "edge"]) (own := [("edge", 3)]) (sc := defScope s_law_is_layout) (by decide +kernel)) (by decide) (fun _ _ _ _ _ => (pg_name (i := 3) nd rfl (by first | exact Or.inl rfl | exact Or.inr rfl))) (fun _ _ _ _ _ => ts_nil) (fun _ _ _ _ _ => (d_callC c_law_is_r hr (a_cons (dv 3) a_nil))))) a_nil)))))))) (ds_one (s_ret d_bl)) ds_nil))))
    (ds_one (s_ret d_bl)))))
theorem ok_law_is_layout {P : Program} {w : World} {K : PySem.W.Frag} {mg : Str → Option Value} {base : Heap} (T : Bi mg) (F : Stands K mg "_law_is_layout" s_law_is_layout)
    (c_law_is_r : Callee P w K mg base 2 "_law_is_r" ["thing"] sp_law_is_r) : Callee P w K mg base 3 "_law_is_layout" ["told", "many"] sp_law_is_layout :=
  F.ok sc_law_is_layout (fun _ _ _ h => len_law_is_layout h) (fun _ _ _ _ _ _ us hl => match us, hl with | [_, _], _ => rfl) fun f cdv A outer s H E hr => ⟨rd_law_is_layout, bd_law_is_layout T hr c_law_is_r, fun ds M Q h => pr_law_is_layout h⟩
theorem sc_law_share : FnScope ["d"] ["d"] (defScope s_law_share) := ⟨rfl, rfl, rfl, by decide +kernel, rfl, by decide +kernel, by decide +kernel⟩
theorem bd_law_share {P : Program} {w : World} {K : PySem.W.Frag} {mg : Str → Option Value} {base : Heap} {f : Addr} {cdv : Value} {A : Around} {outer : List Env} {s : Shared} {H : Hp} {E : XK} (T : Bi mg) (hr : Room 2 (A.deeper (PyProof.Rows.envOfC "_law_share" (defScope s_law_share) s.heap.objs.size f cdv)))
    (c_law_draw : Callee P w K mg base 1 "_law_draw" ["d", "many"] sp_law_draw) (c_law_r : Callee P w K mg base 2 "_law_r" ["n", "d"] sp_law_r) :
    PSsD (cxOf CX0 P w K mg base ["d"] "_law_share" (defScope s_law_share) f cdv A outer s H E).nox (defBody s_law_share) rd_law_share := by
  have nd := (sc_law_share).nd
  exact (ds_one (s_ret (d_callC c_law_r hr (a_cons (d_op O_sub (d_callC c_law_draw hr (a_cons (dv 0) (a_cons d_int a_nil))) d_int) (a_cons (d_op O_add d_int (d_callC c_law_draw hr (a_cons (dv 0) (a_cons d_int a_nil)))) a_nil)))))
theorem ok_law_share {P : Program} {w : World} {K : PySem.W.Frag} {mg : Str → Option Value} {base : Heap} (T : Bi mg) (F : Stands K mg "_law_share" s_law_share)
    (c_law_draw : Callee P w K mg base 1 "_law_draw" ["d", "many"] sp_law_draw) (c_law_r : Callee P w K mg base 2 "_law_r" ["n", "d"] sp_law_r) : Callee P w K mg base 3 "_law_share" ["d"] sp_law_share :=
  F.ok sc_law_share (fun _ _ _ h => len_law_share h) (fun _ _ _ _ _ _ us hl => match us, hl with | [_], _ => rfl) fun f cdv A outer s H E hr => ⟨rd_law_share, bd_law_share T hr c_law_draw c_law_r, fun ds M Q h => pr_law_share h⟩
theorem sc_law_slot_sum : FnScope ["d", "flags", "slot", "ready", "parts", "k"] ["d", "flags"] (defScope s_law_slot_sum) := ⟨rfl, rfl, rfl, by decide +kernel, rfl, by decide +kernel, by decide +kernel⟩
theorem bd_law_slot_sum {P : Program} {w : World} {K : PySem.W.Frag} {mg : Str → Option Value} {base : Heap} {f : Addr} {cdv : Value} {A : Around} {outer : List Env} {s : Shared} {H : Hp} {E : XK} (T : Bi mg) (hr : Room 4 (A.deeper (PyProof.Rows.envOfC "_law_slot_sum" (defScope s_law_slot_sum) s.heap.objs.size f cdv)))
    (c_law_draw : Callee P w K mg base 1 "_law_draw" ["d", "many"] sp_law_draw) (c_law_number : Callee P w K mg base 3 "_law_number" ["d"] sp_law_number) (c_law_pick : Callee P w K mg base 2 "_law_pick" ["d", "row"] sp_law_pick) (c_law_share : Callee P w K mg base 3 "_law_share" ["d"] sp_law_share) (c_law_sum : Callee P w K mg base 4 "_law_sum" ["parts"] sp_law_sum) :
    PSsD (cxOf CX0 P w K mg base ["d", "flags", "slot", "ready", "parts", "k"] "_law_slot_sum" (defScope s_law_slot_sum) f cdv A outer s H E).nox (defBody s_law_slot_sum) rd_law_slot_sum := by
  have nd := (sc_law_slot_sum).nd
  exact (ds_cons (s_frz (s_setLc (i := 3) (own := [("slot", 2)]) (g := (.one 2)) rfl nd rfl rfl (sw_true rfl rfl rfl (by decide +kernel)) (i_range1 T.range_ (a_cons (d_bf C_len T.len_ (a_cons (dv 1) a_nil)) a_nil)) (blkOk_by (N := ["d", "flags", "slot", "ready", "parts", "k"]) (own := [("slot", 2)]) (sc := defScope s_law_slot_sum) (by decide +kernel)) (by decide) (fun _ _ _ _ _ => (pg_name (i := 2) nd rfl (by first | exact Or.inl rfl | exact Or.inr rfl))) (fun _ _ _ _ _ => (ts_one (dt_cmp o_eq (d_ix (dv 1) (dv 2)) d_int (nomark _)))) (fun _ _ _ _ _ => (dv 2))))
    (ds_cons (s_set (i := 4) nd rfl (by first | exact Or.inl rfl | exact Or.inr rfl) (d_lstM a_nil))
    (ds_cons (s_for rfl PassesOwn.never (i_range1 T.range_ (a_cons (d_callC c_law_draw hr (a_cons (dv 0) (a_cons d_int a_nil))) a_nil)) (g_name (i := 5) nd rfl (by first | exact Or.inl rfl | exact Or.inr rfl))
    (ds_one (s_if (dt_cmp O_gt (d_bf C_len T.len_ (a_cons (dv 3) a_nil)) d_int (nomark _)) (ds_one (s_expr (d_bm PySem.F.slot_list_append PySem.F.type_list_append M_append (dv 4) (a_cons (d_tup (a_cons (d_callC c_law_pick hr (a_cons (dv 0) (a_cons (dv 3) a_nil))) (a_cons (d_callC c_law_share hr (a_cons (dv 0) a_nil)) a_nil))) a_nil)))) ds_nil)))
    (ds_one (s_ret (d_tup (a_cons (d_callC c_law_number hr (a_cons (dv 0) a_nil)) (a_cons (d_callC c_law_sum hr (a_cons (dv 4) a_nil)) a_nil))))))))
theorem ok_law_slot_sum {P : Program} {w : World} {K : PySem.W.Frag} {mg : Str → Option Value} {base : Heap} (T : Bi mg) (F : Stands K mg "_law_slot_sum" s_law_slot_sum)
    (c_law_draw : Callee P w K mg base 1 "_law_draw" ["d", "many"] sp_law_draw) (c_law_number : Callee P w K mg base 3 "_law_number" ["d"] sp_law_number) (c_law_pick : Callee P w K mg base 2 "_law_pick" ["d", "row"] sp_law_pick) (c_law_share : Callee P w K mg base 3 "_law_share" ["d"] sp_law_share) (c_law_sum : Callee P w K mg base 4 "_law_sum" ["parts"] sp_law_sum) : Callee P w K mg base 5 "_law_slot_sum" ["d", "flags"] sp_law_slot_sum :=
  F.ok sc_law_slot_sum (fun _ _ _ h => len_law_slot_sum h) (fun _ _ _ _ _ _ us hl => match us, hl with | [_, _], _ => rfl) fun f cdv A outer s H E hr => ⟨rd_law_slot_sum, bd_law_slot_sum T hr c_law_draw c_law_number c_law_pick c_law_share c_law_sum, fun ds M Q h => pr_law_slot_sum h⟩
theorem sc_law_test_sum : FnScope ["d", "flags", "values", "slot", "share"] ["d", "flags", "values"] (defScope s_law_test_sum) := ⟨rfl, rfl, rfl, by decide +kernel, rfl, by decide +kernel, by decide +kernel⟩
theorem bd_law_test_sum {P : Program} {w : World} {K : PySem.W.Frag} {mg : Str → Option Value} {base : Heap} {f : Addr} {cdv : Value} {A : Around} {outer : List Env} {s : Shared} {H : Hp} {E : XK} (T : Bi mg) (hr : Room 5 (A.deeper (PyProof.Rows.envOfC "_law_test_sum" (defScope s_law_test_sum) s.heap.objs.size f cdv)))
    (c_law_draw : Callee P w K mg base 1 "_law_draw" ["d", "many"] sp_law_draw) (c_law_mul : Callee P w K mg base 3 "_law_mul" ["a", "b"] sp_law_mul) (c_law_pick : Callee P w K mg base 2 "_law_pick" ["d", "row"] sp_law_pick) (c_law_slot_sum : Callee P w K mg base 5 "_law_slot_sum" ["d", "flags"] sp_law_slot_sum) :
    PSsD (cxOf CX0 P w K mg base ["d", "flags", "values", "slot", "share"] "_law_test_sum" (defScope s_law_test_sum) f cdv A outer s H E).nox (defBody s_law_test_sum) rd_law_test_sum := by
  have nd := (sc_law_test_sum).nd
  exact (ds_cons (s_if (PW.pt (dw_and (dt_cmp O_gt (d_bf C_len T.len_ (a_cons (dv 2) a_nil)) d_int (nomark _)) (dw_and1 (dt_cmp o_eq (d_callC c_law_draw hr (a_cons (dv 0) (a_cons d_int a_nil))) d_int (nomark _))))) (ds_cons (s_set (i := 3) nd rfl (by first | exact Or.inl rfl | exact Or.inr rfl) (d_callC c_law_draw hr (a_cons (dv 0) (a_cons (d_bf C_len T.len_ (a_cons (dv 2) a_nil)) a_nil))))
    (ds_cons (s_set (i := 4) nd rfl (by first | exact Or.inl rfl | exact Or.inr rfl) (d_callC c_law_pick hr (a_cons (dv 0) (a_cons (d_lst (a_cons (d_tup (a_cons d_int (a_cons d_int a_nil))) (a_cons (d_tup (a_cons (d_un O_neg d_int) (a_cons d_int a_nil))) (a_cons (d_tup (a_cons d_int (a_cons d_int a_nil))) (a_cons (d_tup (a_cons (d_un O_neg d_int) (a_cons d_int a_nil))) a_nil))))) a_nil))))
    (ds_one (s_ret (d_tup (a_cons (d_callC c_law_mul hr (a_cons (dv 4) (a_cons (d_tup (a_cons (d_un O_neg (d_ix (d_ix (dv 2) (dv 3)) d_int)) (a_cons (d_ix (d_ix (dv 2) (dv 3)) d_int) a_nil))) a_nil))) (a_cons (d_tup (a_cons (d_tup (a_cons (dv 3) (a_cons (dv 4) a_nil))) a_nil)) a_nil))))))) ds_nil)
    (ds_one (s_ret (d_callC c_law_slot_sum hr (a_cons (dv 0) (a_cons (dv 1) a_nil))))))
theorem ok_law_test_sum {P : Program} {w : World} {K : PySem.W.Frag} {mg : Str → Option Value} {base : Heap} (T : Bi mg) (F : Stands K mg "_law_test_sum" s_law_test_sum)
    (c_law_draw : Callee P w K mg base 1 "_law_draw" ["d", "many"] sp_law_draw) (c_law_mul : Callee P w K mg base 3 "_law_mul" ["a", "b"] sp_law_mul) (c_law_pick : Callee P w K mg base 2 "_law_pick" ["d", "row"] sp_law_pick) (c_law_slot_sum : Callee P w K mg base 5 "_law_slot_sum" ["d", "flags"] sp_law_slot_sum) : Callee P w K mg base 6 "_law_test_sum" ["d", "flags", "values"] sp_law_test_sum :=
  F.ok sc_law_test_sum (fun _ _ _ h => len_law_test_sum h) (fun _ _ _ _ _ _ us hl => match us, hl with | [_, _, _], _ => rfl) fun f cdv A outer s H E hr => ⟨rd_law_test_sum, bd_law_test_sum T hr c_law_draw c_law_mul c_law_pick c_law_slot_sum, fun ds M Q h => pr_law_test_sum h⟩
theorem sc_law_merge : FnScope ["state", "goal", "flags", "a", "b"] ["state", "goal", "flags"] (defScope s_law_merge) := ⟨rfl, rfl, rfl, by decide +kernel, rfl, by decide +kernel, by decide +kernel⟩
theorem bd_law_merge {P : Program} {w : World} {K : PySem.W.Frag} {mg : Str → Option Value} {base : Heap} {f : Addr} {cdv : Value} {A : Around} {outer : List Env} {s : Shared} {H : Hp} {E : XK} (T : Bi mg) (hr : Room 0 (A.deeper (PyProof.Rows.envOfC "_law_merge" (defScope s_law_merge) s.heap.objs.size f cdv)))
     :
    PSsD (cxOf CX0 P w K mg base ["state", "goal", "flags", "a", "b"] "_law_merge" (defScope s_law_merge) f cdv A outer s H E).nox (defBody s_law_merge) rd_law_merge := by
  have nd := (sc_law_merge).nd
  exact (ds_one (s_if (dt_cmp O_is (d_ix (dv 0) (dv 1)) d_non (nomark _)) (ds_one (s_asg (d_bt C_listF T.list_ (a_cons (dv 2) a_nil)) (g_sub (dv 0) (dv 1) set_lst))) (ds_one (s_asg (d_frz (d_lc (own := [("a", 3), ("b", 4)]) (g := (.many [3, 4])) rfl nd (i_zip T.zip_ (a_cons (d_ix (dv 0) (dv 1)) (a_cons (dv 2) a_nil))) (blkOk_by (N := ["state", "goal", "flags", "a", "b"]) (own := [("a", 3), ("b", 4)]) (sc := defScope s_law_merge) (by decide +kernel)) (by decide) (fun _ _ _ _ _ => (pg_tup rfl (pgs_cons (pg_name (i := 3) nd rfl (by first | exact Or.inl rfl | exact Or.inr rfl)) (pgs_cons (pg_name (i := 4) nd rfl (by first | exact Or.inl rfl | exact Or.inr rfl)) pgs_nil)))) (fun _ _ _ _ _ => ts_nil) (fun _ _ _ _ _ => (d_op O_mul (dv 3) (dv 4))))) (g_sub (dv 0) (dv 1) set_lst)))))
theorem ok_law_merge {P : Program} {w : World} {K : PySem.W.Frag} {mg : Str → Option Value} {base : Heap} (T : Bi mg) (F : Stands K mg "_law_merge" s_law_merge)
     : Callee P w K mg base 1 "_law_merge" ["state", "goal", "flags"] sp_law_merge :=
  F.ok sc_law_merge (fun _ _ _ h => len_law_merge h) (fun _ _ _ _ _ _ us hl => match us, hl with | [_, _, _], _ => rfl) fun f cdv A outer s H E hr => ⟨rd_law_merge, bd_law_merge T hr , fun ds M Q h => pr_law_merge h⟩
theorem sc_law_stretch : FnScope ["d", "flags", "boxes", "start", "values", "steps", "box", "left", "turn", "way", "edge", "place", "at", "test"] ["d", "flags", "boxes", "start", "values"] (defScope s_law_stretch) := ⟨rfl, rfl, rfl, by decide +kernel, rfl, by decide +kernel, by decide +kernel⟩
theorem bd_law_stretch {P : Program} {w : World} {K : PySem.W.Frag} {mg : Str → Option Value} {base : Heap} {f : Addr} {cdv : Value} {A : Around} {outer : List Env} {s : Shared} {H : Hp} {E : XK} (T : Bi mg) (hr : Room 6 (A.deeper (PyProof.Rows.envOfC "_law_stretch" (defScope s_law_stretch) s.heap.objs.size f cdv)))
    (c_law_draw : Callee P w K mg base 1 "_law_draw" ["d", "many"] sp_law_draw) (c_law_pop : Callee P w K mg base 2 "_law_pop" ["d", "row"] sp_law_pop) (c_law_slot_sum : Callee P w K mg base 5 "_law_slot_sum" ["d", "flags"] sp_law_slot_sum) (c_law_test_sum : Callee P w K mg base 6 "_law_test_sum" ["d", "flags", "values"] sp_law_test_sum) :
    PSsD (cxOf CX0 P w K mg base ["d", "flags", "boxes", "start", "values", "steps", "box", "left", "turn", "way", "edge", "place", "at", "test"] "_law_stretch" (defScope s_law_stretch) f cdv A outer s H E).nox (defBody s_law_stretch) rd_law_stretch := by
  have nd := (sc_law_stretch).nd
  exact (ds_cons (s_set (i := 5) nd rfl (by first | exact Or.inl rfl | exact Or.inr rfl) (d_lstM a_nil))
    (ds_cons (s_setLc (i := 7) (own := [("box", 6)]) (g := (.one 6)) rfl nd rfl rfl (sw_true rfl rfl rfl (by decide +kernel)) (i_range1 T.range_ (a_cons (dv 2) a_nil)) (blkOk_by (N := ["d", "flags", "boxes", "start", "values", "steps", "box", "left", "turn", "way", "edge", "place", "at", "test"]) (own := [("box", 6)]) (sc := defScope s_law_stretch) (by decide +kernel)) (by decide) (fun _ _ _ _ _ => (pg_name (i := 6) nd rfl (by first | exact Or.inl rfl | exact Or.inr rfl))) (fun _ _ _ _ _ => ts_nil) (fun _ _ _ _ _ => (dv 6)))
    (ds_cons (s_for rfl PassesOwn.never (i_range1 T.range_ (a_cons (dv 2) a_nil)) (g_name (i := 8) nd rfl (by first | exact Or.inl rfl | exact Or.inr rfl))
    (ds_cons (s_set (i := 6) nd rfl (by first | exact Or.inl rfl | exact Or.inr rfl) (d_callC c_law_pop hr (a_cons (dv 0) (a_cons (dv 7) a_nil))))
    (ds_cons (s_set (i := 9) nd rfl (by first | exact Or.inl rfl | exact Or.inr rfl) (d_callC c_law_draw hr (a_cons (dv 0) (a_cons d_int a_nil))))
    (ds_cons (s_set (i := 11) nd rfl (by first | exact Or.inl rfl | exact Or.inr rfl) (d_op O_catT (d_tup (a_cons d_str (a_cons (dv 6) a_nil))) (d_bt C_tuple T.tuple_ (a_cons (d_frz (d_lc (own := [("edge", 10)]) (g := (.one 10)) rfl nd (i_range1 T.range_ (a_cons d_int a_nil)) (blkOk_by (N := ["d", "flags", "boxes", "start", "values", "steps", "box", "left", "turn", "way", "edge", "place", "at", "test"]) (own := [("edge", 10)]) (sc := defScope s_law_stretch) (by decide +kernel)) (by decide) (fun _ _ _ _ _ => (pg_name (i := 10) nd rfl (by first | exact Or.inl rfl | exact Or.inr rfl))) (fun _ _ _ _ _ => ts_nil) (fun _ _ _ _ _ => (d_callC c_law_slot_sum hr (a_cons (dv 0) (a_cons (dv 1) a_nil)))))) a_nil))))
    (ds_cons (s_set (i := 12) nd rfl (by first | exact Or.inl rfl | exact Or.inr rfl) (d_op O_add (dv 3) (d_bf C_len T.len_ (a_cons (dv 5) a_nil))))
    (ds_one (s_if (dt_cmp o_eq (dv 9) d_int (nomark _)) (ds_one (s_expr (d_bm PySem.F.slot_list_append PySem.F.type_list_append M_append (dv 5) (a_cons (d_tup (a_cons d_str (a_cons (dv 6) a_nil))) a_nil)))) (ds_one (s_if (dt_cmp o_eq (dv 9) d_int (nomark _)) (ds_cons (s_set (i := 13) nd rfl (by first | exact Or.inl rfl | exact Or.inr rfl) (d_tup (a_cons d_str (a_cons (d_callC c_law_test_sum hr (a_cons (dv 0) (a_cons (dv 1) (a_cons (dv 4) a_nil)))) (a_cons (d_callC c_law_draw hr (a_cons (dv 0) (a_cons d_int a_nil))) (a_cons (d_op O_add (dv 12) d_int) a_nil))))))
    (ds_one (s_set (i := 5) nd rfl (by first | exact Or.inl rfl | exact Or.inr rfl) (d_op o_catM (dv 5) (d_lst (a_cons (dv 13) (a_cons (dv 11) (a_cons (d_tup (a_cons d_str (a_cons (d_op O_add (dv 12) d_int) a_nil))) (a_cons (d_tup (a_cons d_str (a_cons (dv 6) a_nil))) a_nil))))))))) (ds_one (s_expr (d_bm PySem.F.slot_list_append PySem.F.type_list_append M_append (dv 5) (a_cons (dv 11) a_nil)))))))))))))
    (ds_one (s_ret (d_op o_catF (dv 5) (d_lst (a_cons (d_tup (a_cons d_str a_nil)) a_nil))))))))
theorem ok_law_stretch {P : Program} {w : World} {K : PySem.W.Frag} {mg : Str → Option Value} {base : Heap} (T : Bi mg) (F : Stands K mg "_law_stretch" s_law_stretch)
    (c_law_draw : Callee P w K mg base 1 "_law_draw" ["d", "many"] sp_law_draw) (c_law_pop : Callee P w K mg base 2 "_law_pop" ["d", "row"] sp_law_pop) (c_law_slot_sum : Callee P w K mg base 5 "_law_slot_sum" ["d", "flags"] sp_law_slot_sum) (c_law_test_sum : Callee P w K mg base 6 "_law_test_sum" ["d", "flags", "values"] sp_law_test_sum) : Callee P w K mg base 7 "_law_stretch" ["d", "flags", "boxes", "start", "values"] sp_law_stretch :=
  F.ok sc_law_stretch (fun _ _ _ h => len_law_stretch h) (fun _ _ _ _ _ _ us hl => match us, hl with | [_, _, _, _, _], _ => rfl) fun f cdv A outer s H E hr => ⟨rd_law_stretch, bd_law_stretch T hr c_law_draw c_law_pop c_law_slot_sum c_law_test_sum, fun ds M Q h => pr_law_stretch h⟩
theorem sc_law_flat : FnScope ["d", "values", "k", "slots", "boxes", "many", "bare", "state", "steps", "at", "flags", "word", "goal", "slot", "j", "first", "behind", "second", "told", "step"] ["d", "values"] (defScope s_law_flat) := ⟨rfl, rfl, rfl, by decide +kernel, rfl, by decide +kernel, by decide +kernel⟩
theorem bd_law_flat {P : Program} {w : World} {K : PySem.W.Frag} {mg : Str → Option Value} {base : Heap} {f : Addr} {cdv : Value} {A : Around} {outer : List Env} {s : Shared} {H : Hp} {E : XK} (T : Bi mg) (hr : Room 7 (A.deeper (PyProof.Rows.envOfC "_law_flat" (defScope s_law_flat) s.heap.objs.size f cdv)))
    (c_law_draw : Callee P w K mg base 1 "_law_draw" ["d", "many"] sp_law_draw) (c_law_merge : Callee P w K mg base 1 "_law_merge" ["state", "goal", "flags"] sp_law_merge) (c_law_rare : Callee P w K mg base 2 "_law_rare" ["d", "many"] sp_law_rare) (c_law_slot_sum : Callee P w K mg base 5 "_law_slot_sum" ["d", "flags"] sp_law_slot_sum) (c_law_stretch : Callee P w K mg base 7 "_law_stretch" ["d", "flags", "boxes", "start", "values"] sp_law_stretch) (c_law_test_sum : Callee P w K mg base 6 "_law_test_sum" ["d", "flags", "values"] sp_law_test_sum) :
    PSsD (cxOf CX0 P w K mg base ["d", "values", "k", "slots", "boxes", "many", "bare", "state", "steps", "at", "flags", "word", "goal", "slot", "j", "first", "behind", "second", "told", "step"] "_law_flat" (defScope s_law_flat) f cdv A outer s H E).nox (defBody s_law_flat) rd_law_flat := by
  have nd := (sc_law_flat).nd
  exact (ds_cons (s_set (i := 2) nd rfl (by first | exact Or.inl rfl | exact Or.inr rfl) (d_bf C_len T.len_ (a_cons (dv 1) a_nil)))
    (ds_cons (s_set (i := 3) nd rfl (by first | exact Or.inl rfl | exact Or.inr rfl) (d_op O_add (dv 2) (d_callC c_law_draw hr (a_cons (dv 0) (a_cons d_int a_nil)))))
    (ds_cons (s_set (i := 4) nd rfl (by first | exact Or.inl rfl | exact Or.inr rfl) (d_op O_add (d_op O_add d_int (d_callC c_law_draw hr (a_cons (dv 0) (a_cons d_int a_nil)))) (d_op O_mul d_int (d_bt C_intb T.int_ (a_cons (d_callC c_law_rare hr (a_cons (dv 0) (a_cons d_int a_nil))) a_nil)))))
    (ds_cons (s_set (i := 5) nd rfl (by first | exact Or.inl rfl | exact Or.inr rfl) (d_callC c_law_draw hr (a_cons (dv 0) (a_cons d_int a_nil))))
    (ds_cons (s_if (dt_val (d_callC c_law_rare hr (a_cons (dv 0) (a_cons d_int a_nil)))) (ds_one (s_aug (i := 5) nd rfl (by first | exact Or.inl rfl | exact Or.inr rfl) d_int I_add)) ds_nil)
    (ds_cons (s_set (i := 6) nd rfl (by first | exact Or.inl rfl | exact Or.inr rfl) (d_op o_catF (d_op o_repF (d_lst (a_cons d_int a_nil)) (dv 2)) (d_op o_repF (d_lst (a_cons d_int a_nil)) (d_op O_sub (dv 3) (dv 2)))))
    (ds_cons (s_set (i := 7) nd rfl (by first | exact Or.inl rfl | exact Or.inr rfl) (d_op o_catM (d_lst (a_cons (dv 6) a_nil)) (d_op o_repF (d_lst (a_cons d_non a_nil)) (d_op O_add (dv 5) d_int))))
    (ds_cons (s_set (i := 8) nd rfl (by first | exact Or.inl rfl | exact Or.inr rfl) (d_lstM a_nil))
    (ds_cons (s_for rfl PassesOwn.never (i_range1 T.range_ (a_cons (dv 5) a_nil)) (g_name (i := 9) nd rfl (by first | exact Or.inl rfl | exact Or.inr rfl))
    (ds_cons (s_set (i := 10) nd rfl (by first | exact Or.inl rfl | exact Or.inr rfl) (d_if (dt_cmp O_isnot (d_ix (dv 7) (dv 9)) d_non (nomark _)) (d_ix (dv 7) (dv 9)) (dv 6)))
    (ds_cons (s_set (i := 11) nd rfl (by first | exact Or.inl rfl | exact Or.inr rfl) (d_callC c_law_draw hr (a_cons (dv 0) (a_cons d_int a_nil))))
    (ds_cons (s_set (i := 12) nd rfl (by first | exact Or.inl rfl | exact Or.inr rfl) (d_op O_add (d_op O_add (dv 9) d_int) (d_callC c_law_draw hr (a_cons (dv 0) (a_cons (d_op O_sub (d_op O_add (dv 5) d_int) (dv 9)) a_nil)))))
    (ds_cons (s_if (dt_cmp O_gt (d_callC c_law_draw hr (a_cons (dv 0) (a_cons d_int a_nil))) d_int (nomark _)) (ds_one (s_set (i := 12) nd rfl (by first | exact Or.inl rfl | exact Or.inr rfl) (d_bf (C_min rfl) T.min_ (a_cons (dv 12) (a_cons (d_op O_add (d_op O_add (dv 9) d_int) (d_callC c_law_draw hr (a_cons (dv 0) (a_cons d_int a_nil)))) a_nil))))) ds_nil)
    (ds_one (s_if (PW.pt (dw_and (dt_cmp O_lt (dv 11) d_int (nomark _)) (dw_and1 (dt_cmp O_gt (dv 3) (dv 2) (nomark _))))) (ds_cons (s_set (i := 13) nd rfl (by first | exact Or.inl rfl | exact Or.inr rfl) (d_op O_add (dv 2) (d_callC c_law_draw hr (a_cons (dv 0) (a_cons (d_op O_sub (dv 3) (dv 2)) a_nil)))))
    (ds_cons (s_expr (d_bm PySem.F.slot_list_append PySem.F.type_list_append M_append (dv 8) (a_cons (d_tup (a_cons d_str (a_cons (dv 13) (a_cons (d_callC c_law_slot_sum hr (a_cons (dv 0) (a_cons (dv 10) a_nil))) a_nil)))) a_nil)))
    (ds_one (s_expr (d_callC c_law_merge hr (a_cons (dv 7) (a_cons (d_op O_add (dv 9) d_int) (a_cons (d_frz (d_lc (own := [("j", 14)]) (g := (.one 14)) rfl nd (i_range1 T.range_ (a_cons (dv 3) a_nil)) (blkOk_by (N := ["d", "values", "k", "slots", "boxes", "many", "bare", "state", "steps", "at", "flags", "word", "goal", "slot", "j", "first", "behind", "second", "told", "step"]) (own := [("j", 14)]) (sc := defScope s_law_flat) (by decide +kernel)) (by decide) (fun _ _ _ _ _ => (pg_name (i := 14) nd rfl (by first | exact Or.inl rfl | exact Or.inr rfl))) (fun _ _ _ _ _ => ts_nil) (fun _ _ _ _ _ => (d_bt C_intb T.int_ (a_cons (d_or (d_cmp o_eq (d_ix (dv 10) (dv 14)) d_int (nomark _)) (d_one (d_cmp o_eq (dv 14) (dv 13) (nomark _)))) a_nil))))) a_nil)))))))) (ds_one (s_if (dt_cmp o_eq (dv 11) d_int (nomark _)) (ds_cons (s_expr (d_bm PySem.F.slot_list_append PySem.F.type_list_append M_append (dv 8) (a_cons (d_tup (a_cons d_str (a_cons (dv 12) a_nil))) a_nil)))
    (ds_one (s_expr (d_callC c_law_merge hr (a_cons (dv 7) (a_cons (dv 12) (a_cons (dv 10) a_nil))))))) (ds_one (s_if (PW.pt (dw_and (dt_cmp o_eq (dv 11) d_int (nomark _)) (dw_and1 (dt_cmp o_eq (d_callC c_law_draw hr (a_cons (dv 0) (a_cons d_int a_nil))) d_int (nomark _))))) (ds_one (s_expr (d_bm PySem.F.slot_list_append PySem.F.type_list_append M_append (dv 8) (a_cons (d_tup (a_cons d_str a_nil)) a_nil)))) (ds_cons (s_expr (d_bm PySem.F.slot_list_append PySem.F.type_list_append M_append (dv 8) (a_cons (d_tup (a_cons d_str (a_cons (d_callC c_law_test_sum hr (a_cons (dv 0) (a_cons (dv 10) (a_cons (dv 1) a_nil)))) (a_cons (d_callC c_law_draw hr (a_cons (dv 0) (a_cons d_int a_nil))) (a_cons (dv 12) a_nil))))) a_nil)))
    (ds_cons (s_expr (d_callC c_law_merge hr (a_cons (dv 7) (a_cons (d_op O_add (dv 9) d_int) (a_cons (dv 10) a_nil)))))
    (ds_one (s_expr (d_callC c_law_merge hr (a_cons (dv 7) (a_cons (dv 12) (a_cons (dv 10) a_nil)))))))))))))))))))
    (ds_cons (s_set (i := 15) nd rfl (by first | exact Or.inl rfl | exact Or.inr rfl) (d_callC c_law_stretch hr (a_cons (dv 0) (a_cons (d_if (dt_cmp O_isnot (d_ix (dv 7) (dv 5)) d_non (nomark _)) (d_ix (dv 7) (dv 5)) (dv 6)) (a_cons (dv 4) (a_cons (dv 5) (a_cons (dv 1) a_nil)))))))
    (ds_cons (s_set (i := 16) nd rfl (by first | exact Or.inl rfl | exact Or.inr rfl) (d_op O_add (dv 5) (d_bf C_len T.len_ (a_cons (dv 15) a_nil))))
    (ds_cons (s_set (i := 17) nd rfl (by first | exact Or.inl rfl | exact Or.inr rfl) (d_callC c_law_stretch hr (a_cons (dv 0) (a_cons (d_if (dt_cmp O_isnot (d_ix (dv 7) (d_op O_add (dv 5) d_int)) d_non (nomark _)) (d_ix (dv 7) (d_op O_add (dv 5) d_int)) (dv 6)) (a_cons (dv 4) (a_cons (dv 16) (a_cons (dv 1) a_nil)))))))
    (ds_cons (s_set (i := 18) nd rfl (by first | exact Or.inl rfl | exact Or.inr rfl) (d_lstM a_nil))
    (ds_cons (s_for rfl PassesOwn.never (i_seq (dv 8)) (g_name (i := 19) nd rfl (by first | exact Or.inl rfl | exact Or.inr rfl))
    (ds_cons (s_if (PW.pt (dw_and (dt_cmp o_eq (d_ix (dv 19) d_int) d_str (nomark _)) (dw_and1 (dt_cmp O_gt (d_ix (dv 19) d_int) (dv 5) (nomark _))))) (ds_one (s_set (i := 19) nd rfl (by first | exact Or.inl rfl | exact Or.inr rfl) (d_tup (a_cons d_str (a_cons (dv 16) a_nil))))) (ds_one (s_if (PW.pt (dw_and (dt_cmp o_eq (d_ix (dv 19) d_int) d_str (nomark _)) (dw_and1 (dt_cmp O_gt (d_ix (dv 19) d_int) (dv 5) (nomark _))))) (ds_one (s_set (i := 19) nd rfl (by first | exact Or.inl rfl | exact Or.inr rfl) (d_op O_catT (d_slice Sl_tup (dv 19) po_non (po_som d_int)) (d_tup (a_cons (dv 16) a_nil))))) ds_nil)))
    (ds_one (s_expr (d_bm PySem.F.slot_list_append PySem.F.type_list_append M_append (dv 18) (a_cons (dv 19) a_nil))))))
    (ds_one (s_ret (d_tup (a_cons (dv 2) (a_cons (dv 3) (a_cons (dv 4) (a_cons (d_bt C_tuple T.tuple_ (a_cons (d_op o_catF (d_op o_catF (dv 18) (dv 15)) (dv 17)) a_nil)) a_nil)))))))))))))))))))))
theorem ok_law_flat {P : Program} {w : World} {K : PySem.W.Frag} {mg : Str → Option Value} {base : Heap} (T : Bi mg) (F : Stands K mg "_law_flat" s_law_flat)
    (c_law_draw : Callee P w K mg base 1 "_law_draw" ["d", "many"] sp_law_draw) (c_law_merge : Callee P w K mg base 1 "_law_merge" ["state", "goal", "flags"] sp_law_merge) (c_law_rare : Callee P w K mg base 2 "_law_rare" ["d", "many"] sp_law_rare) (c_law_slot_sum : Callee P w K mg base 5 "_law_slot_sum" ["d", "flags"] sp_law_slot_sum) (c_law_stretch : Callee P w K mg base 7 "_law_stretch" ["d", "flags", "boxes", "start", "values"] sp_law_stretch) (c_law_test_sum : Callee P w K mg base 6 "_law_test_sum" ["d", "flags", "values"] sp_law_test_sum) : Callee P w K mg base 8 "_law_flat" ["d", "values"] sp_law_flat :=
  F.ok sc_law_flat (fun _ _ _ h => len_law_flat h) (fun _ _ _ _ _ _ us hl => match us, hl with | [_, _], _ => rfl) fun f cdv A outer s H E hr => ⟨rd_law_flat, bd_law_flat T hr c_law_draw c_law_merge c_law_rare c_law_slot_sum c_law_stretch c_law_test_sum, fun ds M Q h => pr_law_flat h⟩
theorem sc_law_line_worth : FnScope ["told", "slots", "total", "slot", "share"] ["told", "slots"] (defScope s_law_line_worth) := ⟨rfl, rfl, rfl, by decide +kernel, rfl, by decide +kernel, by decide +kernel⟩
theorem bd_law_line_worth {P : Program} {w : World} {K : PySem.W.Frag} {mg : Str → Option Value} {base : Heap} {f : Addr} {cdv : Value} {A : Around} {outer : List Env} {s : Shared} {H : Hp} {E : XK} (T : Bi mg) (hr : Room 3 (A.deeper (PyProof.Rows.envOfC "_law_line_worth" (defScope s_law_line_worth) s.heap.objs.size f cdv)))
    (c_law_add : Callee P w K mg base 3 "_law_add" ["a", "b"] sp_law_add) (c_law_mul : Callee P w K mg base 3 "_law_mul" ["a", "b"] sp_law_mul) :
    PSsD (cxOf CX0 P w K mg base ["told", "slots", "total", "slot", "share"] "_law_line_worth" (defScope s_law_line_worth) f cdv A outer s H E).nox (defBody s_law_line_worth) rd_law_line_worth := by
  have nd := (sc_law_line_worth).nd
  exact (ds_cons (s_set (i := 2) nd rfl (by first | exact Or.inl rfl | exact Or.inr rfl) (d_ix (dv 0) d_int))
    (ds_cons (s_for rfl PassesOwn.never (i_seq (d_ix (dv 0) d_int)) (g_tup rfl (gs_cons (g_name (i := 3) nd rfl (by first | exact Or.inl rfl | exact Or.inr rfl)) (gs_cons (g_name (i := 4) nd rfl (by first | exact Or.inl rfl | exact Or.inr rfl)) gs_nil)))
    (ds_one (s_set (i := 2) nd rfl (by first | exact Or.inl rfl | exact Or.inr rfl) (d_callC c_law_add hr (a_cons (dv 2) (a_cons (d_callC c_law_mul hr (a_cons (dv 4) (a_cons (d_ix (dv 1) (dv 3)) a_nil))) a_nil))))))
    (ds_one (s_ret (dv 2)))))
theorem ok_law_line_worth {P : Program} {w : World} {K : PySem.W.Frag} {mg : Str → Option Value} {base : Heap} (T : Bi mg) (F : Stands K mg "_law_line_worth" s_law_line_worth)
    (c_law_add : Callee P w K mg base 3 "_law_add" ["a", "b"] sp_law_add) (c_law_mul : Callee P w K mg base 3 "_law_mul" ["a", "b"] sp_law_mul) : Callee P w K mg base 4 "_law_line_worth" ["told", "slots"] sp_law_line_worth :=
  F.ok sc_law_line_worth (fun _ _ _ h => len_law_line_worth h) (fun _ _ _ _ _ _ us hl => match us, hl with | [_, _], _ => rfl) fun f cdv A outer s H E hr => ⟨rd_law_line_worth, bd_law_line_worth T hr c_law_add c_law_mul, fun ds M Q h => pr_law_line_worth h⟩
theorem sc_law_walked : FnScope ["code", "point", "slots", "places", "at", "turn", "step", "value", "told"] ["code", "point"] (defScope s_law_walked) := ⟨rfl, rfl, rfl, by decide +kernel, rfl, by decide +kernel, by decide +kernel⟩
theorem bd_law_walked {P : Program} {w : World} {K : PySem.W.Frag} {mg : Str → Option Value} {base : Heap} {f : Addr} {cdv : Value} {A : Around} {outer : List Env} {s : Shared} {H : Hp} {E : XK} (T : Bi mg) (hr : Room 4 (A.deeper (PyProof.Rows.envOfC "_law_walked" (defScope s_law_walked) s.heap.objs.size f cdv)))
    (c_law_line_worth : Callee P w K mg base 4 "_law_line_worth" ["told", "slots"] sp_law_line_worth) :
    PSsD (cxOf CX0 P w K mg base ["code", "point", "slots", "places", "at", "turn", "step", "value", "told"] "_law_walked" (defScope s_law_walked) f cdv A outer s H E).nox (defBody s_law_walked) rd_law_walked := by
  have nd := (sc_law_walked).nd
  exact (ds_cons (s_set (i := 2) nd rfl (by first | exact Or.inl rfl | exact Or.inr rfl) (d_op o_catM (d_bt C_listF T.list_ (a_cons (dv 1) a_nil)) (d_op o_repF (d_lst (a_cons d_non a_nil)) (d_op O_sub (d_ix (dv 0) d_int) (d_ix (dv 0) d_int)))))
    (ds_cons (s_set (i := 3) nd rfl (by first | exact Or.inl rfl | exact Or.inr rfl) (d_op o_repM (d_lst (a_cons d_non a_nil)) (d_ix (dv 0) d_int)))
    (ds_cons (s_set (i := 4) nd rfl (by first | exact Or.inl rfl | exact Or.inr rfl) d_int)
    (ds_cons (s_for rfl PassesOwn.never (i_range1 T.range_ (a_cons (d_op O_add (d_bf C_len T.len_ (a_cons (d_ix (dv 0) d_int) a_nil)) d_int) a_nil)) (g_name (i := 5) nd rfl (by first | exact Or.inl rfl | exact Or.inr rfl))
    (ds_cons (s_set (i := 6) nd rfl (by first | exact Or.inl rfl | exact Or.inr rfl) (d_ix (d_ix (dv 0) d_int) (dv 4)))
    (ds_cons (s_aug (i := 4) nd rfl (by first | exact Or.inl rfl | exact Or.inr rfl) d_int I_add)
    (ds_one (s_if (dt_cmp o_eq (d_ix (dv 6) d_int) d_str (nomark _)) (ds_one (s_asg (d_callC c_law_line_worth hr (a_cons (d_ix (dv 6) d_int) (a_cons (dv 2) a_nil))) (g_sub (dv 2) (d_ix (dv 6) d_int) set_lst))) (ds_one (s_if (dt_cmp o_eq (d_ix (dv 6) d_int) d_str (nomark _)) (ds_cons (s_set (i := 7) nd rfl (by first | exact Or.inl rfl | exact Or.inr rfl) (d_callC c_law_line_worth hr (a_cons (d_ix (dv 6) d_int) (a_cons (dv 2) a_nil))))
    (ds_one (s_if (PW.pt (dw_or (dt_cmp O_lt (d_ix (dv 7) d_int) d_int (nomark _)) (dw_or1 (PW.pt (dw_and (dt_cmp o_eq (d_ix (dv 7) d_int) d_int (nomark _)) (dw_and1 (dt_cmp o_eq (d_ix (dv 6) d_int) d_int (nomark _)))))))) (ds_one (s_set (i := 4) nd rfl (by first | exact Or.inl rfl | exact Or.inr rfl) (d_ix (dv 6) d_int))) ds_nil))) (ds_one (s_if (dt_cmp o_eq (d_ix (dv 6) d_int) d_str (nomark _)) (ds_one (s_set (i := 4) nd rfl (by first | exact Or.inl rfl | exact Or.inr rfl) (d_ix (dv 6) d_int))) (ds_one (s_if (dt_cmp o_eq (d_ix (dv 6) d_int) d_str (nomark _)) (ds_one (s_asg (d_bt C_tuple T.tuple_ (a_cons (d_frz (d_lc (own := [("told", 8)]) (g := (.one 8)) rfl nd (i_seq (d_slice Sl_tup (dv 6) (po_som d_int) po_non)) (blkOk_by (N := ["code", "point", "slots", "places", "at", "turn", "step", "value", "told"]) (own := [("told", 8)]) (sc := defScope s_law_walked) (by decide +kernel)) (by decide) (fun _ _ _ _ _ => (pg_name (i := 8) nd rfl (by first | exact Or.inl rfl | exact Or.inr rfl))) (fun _ _ _ _ _ => ts_nil) (fun _ _ _ _ _ => (d_callC c_law_line_worth hr (a_cons (dv 8) (a_cons (dv 2) a_nil)))))) a_nil)) (g_sub (dv 3) (d_ix (dv 6) d_int) set_lst))) (ds_one (s_if (dt_cmp o_eq (d_ix (dv 6) d_int) d_str (nomark _)) (ds_one (s_ret d_non)) (ds_one (s_if (dt_cmp o_eq (d_ix (dv 6) d_int) d_str (nomark _)) (ds_one s_break) ds_nil)))))))))))))))
    (ds_one (s_ret (d_bt C_tuple T.tuple_ (a_cons (dv 3) a_nil))))))))
theorem ok_law_walked {P : Program} {w : World} {K : PySem.W.Frag} {mg : Str → Option Value} {base : Heap} (T : Bi mg) (F : Stands K mg "_law_walked" s_law_walked)
    (c_law_line_worth : Callee P w K mg base 4 "_law_line_worth" ["told", "slots"] sp_law_line_worth) : Callee P w K mg base 5 "_law_walked" ["code", "point"] sp_law_walked :=
  F.ok sc_law_walked (fun _ _ _ h => len_law_walked h) (fun _ _ _ _ _ _ us hl => match us, hl with | [_, _], _ => rfl) fun f cdv A outer s H E hr => ⟨rd_law_walked, bd_law_walked T hr c_law_line_worth, fun ds M Q h => pr_law_walked h⟩
theorem sc_law_free_values : FnScope ["d", "many", "k"] ["d", "many"] (defScope s_law_free_values) := ⟨rfl, rfl, rfl, by decide +kernel, rfl, by decide +kernel, by decide +kernel⟩
theorem bd_law_free_values {P : Program} {w : World} {K : PySem.W.Frag} {mg : Str → Option Value} {base : Heap} {f : Addr} {cdv : Value} {A : Around} {outer : List Env} {s : Shared} {H : Hp} {E : XK} (T : Bi mg) (hr : Room 3 (A.deeper (PyProof.Rows.envOfC "_law_free_values" (defScope s_law_free_values) s.heap.objs.size f cdv)))
    (c_law_number : Callee P w K mg base 3 "_law_number" ["d"] sp_law_number) :
    PSsD (cxOf CX0 P w K mg base ["d", "many", "k"] "_law_free_values" (defScope s_law_free_values) f cdv A outer s H E).nox (defBody s_law_free_values) rd_law_free_values := by
  have nd := (sc_law_free_values).nd
  exact (ds_one (s_ret (d_frz (d_lc (own := [("k", 2)]) (g := (.one 2)) rfl nd (i_range1 T.range_ (a_cons (dv 1) a_nil)) (blkOk_by (N := ["d", "many", "k"]) (own := [("k", 2)]) (sc := defScope s_law_free_values) (by decide +kernel)) (by decide) (fun _ _ _ _ _ => (pg_name (i := 2) nd rfl (by first | exact Or.inl rfl | exact Or.inr rfl))) (fun _ _ _ _ _ => ts_nil) (fun _ _ _ _ _ => (d_callC c_law_number hr (a_cons (dv 0) a_nil)))))))
theorem ok_law_free_values {P : Program} {w : World} {K : PySem.W.Frag} {mg : Str → Option Value} {base : Heap} (T : Bi mg) (F : Stands K mg "_law_free_values" s_law_free_values)
    (c_law_number : Callee P w K mg base 3 "_law_number" ["d"] sp_law_number) : Callee P w K mg base 4 "_law_free_values" ["d", "many"] sp_law_free_values :=
  F.ok sc_law_free_values (fun _ _ _ h => len_law_free_values h) (fun _ _ _ _ _ _ us hl => match us, hl with | [_, _], _ => rfl) fun f cdv A outer s H E hr => ⟨rd_law_free_values, bd_law_free_values T hr c_law_number, fun ds M Q h => pr_law_free_values h⟩
theorem sc_law_good_run : FnScope ["code", "point", "due", "told"] ["code", "point", "due"] (defScope s_law_good_run) := ⟨rfl, rfl, rfl, by decide +kernel, rfl, by decide +kernel, by decide +kernel⟩
theorem bd_law_good_run {P : Program} {w : World} {K : PySem.W.Frag} {mg : Str → Option Value} {base : Heap} {f : Addr} {cdv : Value} {A : Around} {outer : List Env} {s : Shared} {H : Hp} {E : XK} (T : Bi mg) (hr : Room 4 (A.deeper (PyProof.Rows.envOfC "_law_good_run" (defScope s_law_good_run) s.heap.objs.size f cdv)))
    (c_law_is_layout : Callee P w K mg base 3 "_law_is_layout" ["told", "many"] sp_law_is_layout) (c_run_code : Callee P w K mg base 4 "run_code" ["code", "point"] sp_run_code) :
    PSsD (cxOf CX0 P w K mg base ["code", "point", "due", "told"] "_law_good_run" (defScope s_law_good_run) f cdv A outer s H E).nox (defBody s_law_good_run) rd_law_good_run := by
  have nd := (sc_law_good_run).nd
  exact (ds_cons (s_set (i := 3) nd rfl (by first | exact Or.inl rfl | exact Or.inr rfl) (d_callC c_run_code hr (a_cons (dv 0) (a_cons (dv 1) a_nil))))
    (ds_one (s_ret (d_and (d_callC c_law_is_layout hr (a_cons (dv 3) (a_cons (d_ix (dv 0) d_int) a_nil))) (d_one (d_cmp (O_eqD (hu100 hr)) (dv 3) (dv 2) (nomark _)))))))
theorem ok_law_good_run {P : Program} {w : World} {K : PySem.W.Frag} {mg : Str → Option Value} {base : Heap} (T : Bi mg) (F : Stands K mg "_law_good_run" s_law_good_run)
    (c_law_is_layout : Callee P w K mg base 3 "_law_is_layout" ["told", "many"] sp_law_is_layout) (c_run_code : Callee P w K mg base 4 "run_code" ["code", "point"] sp_run_code) : Callee P w K mg base 5 "_law_good_run" ["code", "point", "due"] sp_law_good_run :=
  F.ok sc_law_good_run (fun _ _ _ h => len_law_good_run h) (fun _ _ _ _ _ _ us hl => match us, hl with | [_, _, _], _ => rfl) fun f cdv A outer s H E hr => ⟨rd_law_good_run, bd_law_good_run T hr c_law_is_layout c_run_code, fun ds M Q h => pr_law_good_run h⟩
theorem sc_law : FnScope ["script", "d", "codes", "points", "dues", "k", "values", "code", "point", "at"] ["script"] (defScope s_law) := ⟨rfl, rfl, rfl, by decide +kernel, rfl, by decide +kernel, by decide +kernel⟩
theorem bd_law {P : Program} {w : World} {K : PySem.W.Frag} {mg : Str → Option Value} {base : Heap} {f : Addr} {cdv : Value} {A : Around} {outer : List Env} {s : Shared} {H : Hp} {E : XK} (T : Bi mg) (hr : Room 8 (A.deeper (PyProof.Rows.envOfC "law" (defScope s_law) s.heap.objs.size f cdv)))
    (c_law_begin : Callee P w K mg base 1 "_law_begin" ["script"] sp_law_begin) (c_law_draw : Callee P w K mg base 1 "_law_draw" ["d", "many"] sp_law_draw) (c_law_flat : Callee P w K mg base 8 "_law_flat" ["d", "values"] sp_law_flat) (c_law_free_values : Callee P w K mg base 4 "_law_free_values" ["d", "many"] sp_law_free_values) (c_law_good_run : Callee P w K mg base 5 "_law_good_run" ["code", "point", "due"] sp_law_good_run) (c_law_walked : Callee P w K mg base 5 "_law_walked" ["code", "point"] sp_law_walked) :
    PSsD (cxOf CX0 P w K mg base ["script", "d", "codes", "points", "dues", "k", "values", "code", "point", "at"] "law" (defScope s_law) f cdv A outer s H E).nox (defBody s_law) rd_law := by
  have nd := (sc_law).nd
  exact (ds_cons (s_set (i := 1) nd rfl (by first | exact Or.inl rfl | exact Or.inr rfl) (d_callC c_law_begin hr (a_cons (dv 0) a_nil)))
    (ds_cons (s_set (i := 2) nd rfl (by first | exact Or.inl rfl | exact Or.inr rfl) (d_lstM a_nil))
    (ds_cons (s_set (i := 3) nd rfl (by first | exact Or.inl rfl | exact Or.inr rfl) (d_lstM a_nil))
    (ds_cons (s_set (i := 4) nd rfl (by first | exact Or.inl rfl | exact Or.inr rfl) (d_lstM a_nil))
    (ds_cons (s_for rfl PassesOwn.never (i_range1 T.range_ (a_cons d_int a_nil)) (g_name (i := 5) nd rfl (by first | exact Or.inl rfl | exact Or.inr rfl))
    (ds_cons (s_set (i := 6) nd rfl (by first | exact Or.inl rfl | exact Or.inr rfl) (d_callC c_law_free_values hr (a_cons (dv 1) (a_cons (d_callC c_law_draw hr (a_cons (dv 1) (a_cons d_int a_nil))) a_nil))))
    (ds_cons (s_set (i := 7) nd rfl (by first | exact Or.inl rfl | exact Or.inr rfl) (d_callC c_law_flat hr (a_cons (dv 1) (a_cons (dv 6) a_nil))))
    (ds_cons (s_expr (d_bm PySem.F.slot_list_append PySem.F.type_list_append M_append (dv 2) (a_cons (dv 7) a_nil)))
    (ds_cons (s_expr (d_bm PySem.F.slot_list_append PySem.F.type_list_append M_append (dv 3) (a_cons (d_lst (a_cons (d_bt C_tuple T.tuple_ (a_cons (dv 6) a_nil)) (a_cons (d_bt C_tuple T.tuple_ (a_cons (d_callC c_law_free_values hr (a_cons (dv 1) (a_cons (d_bf C_len T.len_ (a_cons (dv 6) a_nil)) a_nil))) a_nil)) (a_cons (d_bt C_tuple T.tuple_ (a_cons (d_callC c_law_free_values hr (a_cons (dv 1) (a_cons (d_bf C_len T.len_ (a_cons (dv 6) a_nil)) a_nil))) a_nil)) a_nil)))) a_nil)))
    (ds_one (s_expr (d_bm PySem.F.slot_list_append PySem.F.type_list_append M_append (dv 4) (a_cons (d_frz (d_lc (own := [("point", 8)]) (g := (.one 8)) rfl nd (i_seq (d_ix (dv 3) (dv 5))) (blkOk_by (N := ["script", "d", "codes", "points", "dues", "k", "values", "code", "point", "at"]) (own := [("point", 8)]) (sc := defScope s_law) (by decide +kernel)) (by decide) (fun _ _ _ _ _ => (pg_name (i := 8) nd rfl (by first | exact Or.inl rfl | exact Or.inr rfl))) (fun _ _ _ _ _ => ts_nil) (fun _ _ _ _ _ => (d_callC c_law_walked hr (a_cons (dv 7) (a_cons (dv 8) a_nil)))))) a_nil)))))))))
    (ds_cons (s_for rfl PassesOwn.never (i_seq (d_tup (a_cons d_int (a_cons d_int (a_cons d_int (a_cons d_int a_nil)))))) (g_name (i := 9) nd rfl (by first | exact Or.inl rfl | exact Or.inr rfl))
    (ds_one (s_for rfl PassesOwn.never (i_range1 T.range_ (a_cons d_int a_nil)) (g_name (i := 5) nd rfl (by first | exact Or.inl rfl | exact Or.inr rfl))
    (ds_one (s_if (dt_not (dt_val (d_callC c_law_good_run hr (a_cons (d_ix (dv 2) (dv 5)) (a_cons (d_ix (d_ix (dv 3) (dv 5)) (dv 9)) (a_cons (d_ix (d_ix (dv 4) (dv 5)) (dv 9)) a_nil)))))) (ds_one (s_ret d_bl)) ds_nil)))))
    (ds_one (s_ret d_bl))))))))
theorem ok_law {P : Program} {w : World} {K : PySem.W.Frag} {mg : Str → Option Value} {base : Heap} (T : Bi mg) (F : Stands K mg "law" s_law)
    (c_law_begin : Callee P w K mg base 1 "_law_begin" ["script"] sp_law_begin) (c_law_draw : Callee P w K mg base 1 "_law_draw" ["d", "many"] sp_law_draw) (c_law_flat : Callee P w K mg base 8 "_law_flat" ["d", "values"] sp_law_flat) (c_law_free_values : Callee P w K mg base 4 "_law_free_values" ["d", "many"] sp_law_free_values) (c_law_good_run : Callee P w K mg base 5 "_law_good_run" ["code", "point", "due"] sp_law_good_run) (c_law_walked : Callee P w K mg base 5 "_law_walked" ["code", "point"] sp_law_walked) : Callee P w K mg base 9 "law" ["script"] sp_law :=
  F.ok sc_law (fun _ _ _ h => len_law h) (fun _ _ _ _ _ _ us hl => match us, hl with | [_], _ => rfl) fun f cdv A outer s H E hr => ⟨rd_law, bd_law T hr c_law_begin c_law_draw c_law_flat c_law_free_values c_law_good_run c_law_walked, fun ds M Q h => pr_law h⟩
theorem fn_law {P : Program} {w : World} {K : PySem.W.Frag} {mg : Str → Option Value} {base : Heap} {f : Addr} {fd : FuncData} (T : Bi mg) (F : FunD K "law" "law" (defArgs s_law) (defBody s_law) (defScope s_law) [] [] f fd)
    (c_law_begin : Callee P w K mg base 1 "_law_begin" ["script"] sp_law_begin) (c_law_draw : Callee P w K mg base 1 "_law_draw" ["d", "many"] sp_law_draw) (c_law_flat : Callee P w K mg base 8 "_law_flat" ["d", "values"] sp_law_flat) (c_law_free_values : Callee P w K mg base 4 "_law_free_values" ["d", "many"] sp_law_free_values) (c_law_good_run : Callee P w K mg base 5 "_law_good_run" ["code", "point", "due"] sp_law_good_run) (c_law_walked : Callee P w K mg base 5 "_law_walked" ["code", "point"] sp_law_walked) : FnOk P w K mg base CX0 9 f fd ["script"] (liftSp K sp_law) :=
  okF F sc_law (fun _ _ _ h => len_law h) fun cdv A outer s H E ds M Q hr h => ⟨rd_law, bd_law T hr c_law_begin c_law_draw c_law_flat c_law_free_values c_law_good_run c_law_walked, pr_law h⟩

def d_ratio : He.DefD := ⟨("ratio", none), "ratio", "ratio", defArgs s_ratio, defBody s_ratio, defScope s_ratio, [], []⟩
def d_plus : He.DefD := ⟨("plus", none), "plus", "plus", defArgs s_plus, defBody s_plus, defScope s_plus, [], []⟩
def d_times : He.DefD := ⟨("times", none), "times", "times", defArgs s_times, defBody s_times, defScope s_times, [], []⟩
def d_line_value : He.DefD := ⟨("line_value", none), "line_value", "line_value", defArgs s_line_value, defBody s_line_value, defScope s_line_value, [], []⟩
def d_run_code : He.DefD := ⟨("run_code", none), "run_code", "run_code", defArgs s_run_code, defBody s_run_code, defScope s_run_code, [], []⟩
def d_law_begin : He.DefD := ⟨("_law_begin", none), "_law_begin", "_law_begin", defArgs s_law_begin, defBody s_law_begin, defScope s_law_begin, [], []⟩
def d_law_draw : He.DefD := ⟨("_law_draw", none), "_law_draw", "_law_draw", defArgs s_law_draw, defBody s_law_draw, defScope s_law_draw, [], []⟩
def d_law_pick : He.DefD := ⟨("_law_pick", none), "_law_pick", "_law_pick", defArgs s_law_pick, defBody s_law_pick, defScope s_law_pick, [], []⟩
def d_law_pop : He.DefD := ⟨("_law_pop", none), "_law_pop", "_law_pop", defArgs s_law_pop, defBody s_law_pop, defScope s_law_pop, [], []⟩
def d_law_rare : He.DefD := ⟨("_law_rare", none), "_law_rare", "_law_rare", defArgs s_law_rare, defBody s_law_rare, defScope s_law_rare, [], []⟩
def d_law_gcd : He.DefD := ⟨("_law_gcd", none), "_law_gcd", "_law_gcd", defArgs s_law_gcd, defBody s_law_gcd, defScope s_law_gcd, [], []⟩
def d_law_r : He.DefD := ⟨("_law_r", none), "_law_r", "_law_r", defArgs s_law_r, defBody s_law_r, defScope s_law_r, [], []⟩
def d_law_add : He.DefD := ⟨("_law_add", none), "_law_add", "_law_add", defArgs s_law_add, defBody s_law_add, defScope s_law_add, [], []⟩
def d_law_mul : He.DefD := ⟨("_law_mul", none), "_law_mul", "_law_mul", defArgs s_law_mul, defBody s_law_mul, defScope s_law_mul, [], []⟩
def d_law_is_int : He.DefD := ⟨("_law_is_int", none), "_law_is_int", "_law_is_int", defArgs s_law_is_int, defBody s_law_is_int, defScope s_law_is_int, [], []⟩
def d_law_is_r : He.DefD := ⟨("_law_is_r", none), "_law_is_r", "_law_is_r", defArgs s_law_is_r, defBody s_law_is_r, defScope s_law_is_r, [], []⟩
def d_law_sum : He.DefD := ⟨("_law_sum", none), "_law_sum", "_law_sum", defArgs s_law_sum, defBody s_law_sum, defScope s_law_sum, [], []⟩
def d_law_number : He.DefD := ⟨("_law_number", none), "_law_number", "_law_number", defArgs s_law_number, defBody s_law_number, defScope s_law_number, [], []⟩
def d_law_is_layout : He.DefD := ⟨("_law_is_layout", none), "_law_is_layout", "_law_is_layout", defArgs s_law_is_layout, defBody s_law_is_layout, defScope s_law_is_layout, [], []⟩
def d_law_share : He.DefD := ⟨("_law_share", none), "_law_share", "_law_share", defArgs s_law_share, defBody s_law_share, defScope s_law_share, [], []⟩
def d_law_slot_sum : He.DefD := ⟨("_law_slot_sum", none), "_law_slot_sum", "_law_slot_sum", defArgs s_law_slot_sum, defBody s_law_slot_sum, defScope s_law_slot_sum, [], []⟩
def d_law_test_sum : He.DefD := ⟨("_law_test_sum", none), "_law_test_sum", "_law_test_sum", defArgs s_law_test_sum, defBody s_law_test_sum, defScope s_law_test_sum, [], []⟩
def d_law_merge : He.DefD := ⟨("_law_merge", none), "_law_merge", "_law_merge", defArgs s_law_merge, defBody s_law_merge, defScope s_law_merge, [], []⟩
def d_law_stretch : He.DefD := ⟨("_law_stretch", none), "_law_stretch", "_law_stretch", defArgs s_law_stretch, defBody s_law_stretch, defScope s_law_stretch, [], []⟩
def d_law_flat : He.DefD := ⟨("_law_flat", none), "_law_flat", "_law_flat", defArgs s_law_flat, defBody s_law_flat, defScope s_law_flat, [], []⟩
def d_law_line_worth : He.DefD := ⟨("_law_line_worth", none), "_law_line_worth", "_law_line_worth", defArgs s_law_line_worth, defBody s_law_line_worth, defScope s_law_line_worth, [], []⟩
def d_law_walked : He.DefD := ⟨("_law_walked", none), "_law_walked", "_law_walked", defArgs s_law_walked, defBody s_law_walked, defScope s_law_walked, [], []⟩
def d_law_free_values : He.DefD := ⟨("_law_free_values", none), "_law_free_values", "_law_free_values", defArgs s_law_free_values, defBody s_law_free_values, defScope s_law_free_values, [], []⟩
def d_law_good_run : He.DefD := ⟨("_law_good_run", none), "_law_good_run", "_law_good_run", defArgs s_law_good_run, defBody s_law_good_run, defScope s_law_good_run, [], []⟩
def d_law : He.DefD := ⟨("law", none), "law", "law", defArgs s_law, defBody s_law, defScope s_law, [], []⟩
def fns : List He.DefD := [d_ratio, d_plus, d_times, d_line_value, d_run_code, d_law_begin, d_law_draw, d_law_pick, d_law_pop, d_law_rare, d_law_gcd, d_law_r, d_law_add, d_law_mul, d_law_is_int, d_law_is_r, d_law_sum, d_law_number, d_law_is_layout, d_law_share, d_law_slot_sum, d_law_test_sum, d_law_merge, d_law_stretch, d_law_flat, d_law_line_worth, d_law_walked, d_law_free_values, d_law_good_run, d_law]
def fas : List He.Fa := [.glo "ratio", .glo "plus", .glo "times", .glo "line_value", .glo "run_code", .glo "_law_begin", .glo "_law_draw", .glo "_law_pick", .glo "_law_pop", .glo "_law_rare", .glo "_law_gcd", .glo "_law_r", .glo "_law_add", .glo "_law_mul", .glo "_law_is_int", .glo "_law_is_r", .glo "_law_sum", .glo "_law_number", .glo "_law_is_layout", .glo "_law_share", .glo "_law_slot_sum", .glo "_law_test_sum", .glo "_law_merge", .glo "_law_stretch", .glo "_law_flat", .glo "_law_line_worth", .glo "_law_walked", .glo "_law_free_values", .glo "_law_good_run", .glo "law", .free "abs", .free "all", .free "bool", .free "int", .free "isinstance", .free "len", .free "list", .free "min", .free "range", .free "sorted", .free "tuple", .free "zip"]
def chk (K : PySem.W.Frag) : Bool := fas.all (fun f => f.ok K) && He.eqO (PySem.W.nsIn K mainGlobals "gcd") (some (some (.builtin "math.gcd")))
abbrev Rw : PySem.W.OpenRow := PySem.W.OpenLaw.row PySem.Challenge.rw_wishpanes_k50_codes_run
abbrev hk : PySem.W.Hook := hookX 4 chk fns
def ob (s : PySem.W.SharedT) : He.AlD := obsXG 4 chk fns (HandSHeadRun.getT s)
theorem ob_eq (s : PySem.W.SharedT) : ob s = hk.obs s.abs := obsXG_eq (HandSHeadRun.getT_eq s)
def loose : List PySem.Str := ["ratio", "plus", "times", "line_value", "run_code", "_law_begin", "_law_draw", "_law_pick", "_law_pop", "_law_rare", "_law_gcd", "_law_r", "_law_add", "_law_mul", "_law_is_int", "_law_is_r", "_law_sum", "_law_number", "_law_is_layout", "_law_share", "_law_slot_sum", "_law_test_sum", "_law_merge", "_law_stretch", "_law_flat", "_law_line_worth", "_law_walked", "_law_free_values", "_law_good_run"]
theorem run (w : World) : HandSHeadRun.RunEqI Rw (PySem.W.view Rw.prog [0, 33]) hk ob 4000 loose w := by
  unfold HandSHeadRun.RunEqI
  kernel_rfl
theorem facts {P : Program} {w : World} {K : PySem.W.Frag} {h : Heap} {mg : Str → Option Value} {f : Addr} (X : K.In h) (G : h.Ns mainGlobals mg) (hfa : mg ("law" : Str) = some (.ref f)) (c : SaysX chk fns K) :
    ∃ fd : FuncData, (∀ (s : Shared) (v : Value), BindsTo s fd ⟨[v], []⟩ [("script", v)]) ∧ ∀ base : Heap, K.In base → base.Ns mainGlobals mg → FnOk P w K mg base CX0 9 f fd ["script"] (liftSp K sp_law) := by
  have c1 : fas.all (fun f => f.ok K) = true ∧ He.eqO (PySem.W.nsIn K mainGlobals "gcd") (some (some (.builtin "math.gcd"))) = true := He.ba c.chk
  have fa : ∀ (i : Nat) {z : He.Fa}, fas[i]? = some z → z.ok K = true := fun i z hz => List.all_eq_true.mp c1.1 z (List.mem_of_getElem? hz)
  have F_ratio : Stands K mg "ratio" s_ratio := by
    obtain ⟨fd, F⟩ := c.def_ 0 (d := d_ratio) rfl
    exact ⟨_, fd, F, He.glo_ok X G (fa 0 (z := .glo "ratio") rfl)⟩
  have F_plus : Stands K mg "plus" s_plus := by
    obtain ⟨fd, F⟩ := c.def_ 1 (d := d_plus) rfl
    exact ⟨_, fd, F, He.glo_ok X G (fa 1 (z := .glo "plus") rfl)⟩
  have F_times : Stands K mg "times" s_times := by
    obtain ⟨fd, F⟩ := c.def_ 2 (d := d_times) rfl
    exact ⟨_, fd, F, He.glo_ok X G (fa 2 (z := .glo "times") rfl)⟩
  have F_line_value : Stands K mg "line_value" s_line_value := by
    obtain ⟨fd, F⟩ := c.def_ 3 (d := d_line_value) rfl
    exact ⟨_, fd, F, He.glo_ok X G (fa 3 (z := .glo "line_value") rfl)⟩
  have F_run_code : Stands K mg "run_code" s_run_code := by
    obtain ⟨fd, F⟩ := c.def_ 4 (d := d_run_code) rfl
    exact ⟨_, fd, F, He.glo_ok X G (fa 4 (z := .glo "run_code") rfl)⟩
  have F_law_begin : Stands K mg "_law_begin" s_law_begin := by
    obtain ⟨fd, F⟩ := c.def_ 5 (d := d_law_begin) rfl
    exact ⟨_, fd, F, He.glo_ok X G (fa 5 (z := .glo "_law_begin") rfl)⟩
  have F_law_draw : Stands K mg "_law_draw" s_law_draw := by
    obtain ⟨fd, F⟩ := c.def_ 6 (d := d_law_draw) rfl
    exact ⟨_, fd, F, He.glo_ok X G (fa 6 (z := .glo "_law_draw") rfl)⟩
  have F_law_pick : Stands K mg "_law_pick" s_law_pick := by
    obtain ⟨fd, F⟩ := c.def_ 7 (d := d_law_pick) rfl
    exact ⟨_, fd, F, He.glo_ok X G (fa 7 (z := .glo "_law_pick") rfl)⟩
  have F_law_pop : Stands K mg "_law_pop" s_law_pop := by
    obtain ⟨fd, F⟩ := c.def_ 8 (d := d_law_pop) rfl
    exact ⟨_, fd, F, He.glo_ok X G (fa 8 (z := .glo "_law_pop") rfl)⟩
  have F_law_rare : Stands K mg "_law_rare" s_law_rare := by
    obtain ⟨fd, F⟩ := c.def_ 9 (d := d_law_rare) rfl
    exact ⟨_, fd, F, He.glo_ok X G (fa 9 (z := .glo "_law_rare") rfl)⟩
  have F_law_gcd : Stands K mg "_law_gcd" s_law_gcd := by
    obtain ⟨fd, F⟩ := c.def_ 10 (d := d_law_gcd) rfl
    exact ⟨_, fd, F, He.glo_ok X G (fa 10 (z := .glo "_law_gcd") rfl)⟩
  have F_law_r : Stands K mg "_law_r" s_law_r := by
    obtain ⟨fd, F⟩ := c.def_ 11 (d := d_law_r) rfl
    exact ⟨_, fd, F, He.glo_ok X G (fa 11 (z := .glo "_law_r") rfl)⟩
  have F_law_add : Stands K mg "_law_add" s_law_add := by
    obtain ⟨fd, F⟩ := c.def_ 12 (d := d_law_add) rfl
    exact ⟨_, fd, F, He.glo_ok X G (fa 12 (z := .glo "_law_add") rfl)⟩
  have F_law_mul : Stands K mg "_law_mul" s_law_mul := by
    obtain ⟨fd, F⟩ := c.def_ 13 (d := d_law_mul) rfl
    exact ⟨_, fd, F, He.glo_ok X G (fa 13 (z := .glo "_law_mul") rfl)⟩
  have F_law_is_int : Stands K mg "_law_is_int" s_law_is_int := by
    obtain ⟨fd, F⟩ := c.def_ 14 (d := d_law_is_int) rfl
    exact ⟨_, fd, F, He.glo_ok X G (fa 14 (z := .glo "_law_is_int") rfl)⟩
  have F_law_is_r : Stands K mg "_law_is_r" s_law_is_r := by
    obtain ⟨fd, F⟩ := c.def_ 15 (d := d_law_is_r) rfl
    exact ⟨_, fd, F, He.glo_ok X G (fa 15 (z := .glo "_law_is_r") rfl)⟩
  have F_law_sum : Stands K mg "_law_sum" s_law_sum := by
    obtain ⟨fd, F⟩ := c.def_ 16 (d := d_law_sum) rfl
    exact ⟨_, fd, F, He.glo_ok X G (fa 16 (z := .glo "_law_sum") rfl)⟩
  have F_law_number : Stands K mg "_law_number" s_law_number := by
    obtain ⟨fd, F⟩ := c.def_ 17 (d := d_law_number) rfl
    exact ⟨_, fd, F, He.glo_ok X G (fa 17 (z := .glo "_law_number") rfl)⟩
  have F_law_is_layout : Stands K mg "_law_is_layout" s_law_is_layout := by
    obtain ⟨fd, F⟩ := c.def_ 18 (d := d_law_is_layout) rfl
    exact ⟨_, fd, F, He.glo_ok X G (fa 18 (z := .glo "_law_is_layout") rfl)⟩
  have F_law_share : Stands K mg "_law_share" s_law_share := by
    obtain ⟨fd, F⟩ := c.def_ 19 (d := d_law_share) rfl
    exact ⟨_, fd, F, He.glo_ok X G (fa 19 (z := .glo "_law_share") rfl)⟩
  have F_law_slot_sum : Stands K mg "_law_slot_sum" s_law_slot_sum := by
    obtain ⟨fd, F⟩ := c.def_ 20 (d := d_law_slot_sum) rfl
    exact ⟨_, fd, F, He.glo_ok X G (fa 20 (z := .glo "_law_slot_sum") rfl)⟩
  have F_law_test_sum : Stands K mg "_law_test_sum" s_law_test_sum := by
    obtain ⟨fd, F⟩ := c.def_ 21 (d := d_law_test_sum) rfl
    exact ⟨_, fd, F, He.glo_ok X G (fa 21 (z := .glo "_law_test_sum") rfl)⟩
  have F_law_merge : Stands K mg "_law_merge" s_law_merge := by
    obtain ⟨fd, F⟩ := c.def_ 22 (d := d_law_merge) rfl
    exact ⟨_, fd, F, He.glo_ok X G (fa 22 (z := .glo "_law_merge") rfl)⟩
  have F_law_stretch : Stands K mg "_law_stretch" s_law_stretch := by
    obtain ⟨fd, F⟩ := c.def_ 23 (d := d_law_stretch) rfl
    exact ⟨_, fd, F, He.glo_ok X G (fa 23 (z := .glo "_law_stretch") rfl)⟩
  have F_law_flat : Stands K mg "_law_flat" s_law_flat := by
    obtain ⟨fd, F⟩ := c.def_ 24 (d := d_law_flat) rfl
    exact ⟨_, fd, F, He.glo_ok X G (fa 24 (z := .glo "_law_flat") rfl)⟩
  have F_law_line_worth : Stands K mg "_law_line_worth" s_law_line_worth := by
    obtain ⟨fd, F⟩ := c.def_ 25 (d := d_law_line_worth) rfl
    exact ⟨_, fd, F, He.glo_ok X G (fa 25 (z := .glo "_law_line_worth") rfl)⟩
  have F_law_walked : Stands K mg "_law_walked" s_law_walked := by
    obtain ⟨fd, F⟩ := c.def_ 26 (d := d_law_walked) rfl
    exact ⟨_, fd, F, He.glo_ok X G (fa 26 (z := .glo "_law_walked") rfl)⟩
  have F_law_free_values : Stands K mg "_law_free_values" s_law_free_values := by
    obtain ⟨fd, F⟩ := c.def_ 27 (d := d_law_free_values) rfl
    exact ⟨_, fd, F, He.glo_ok X G (fa 27 (z := .glo "_law_free_values") rfl)⟩
  have F_law_good_run : Stands K mg "_law_good_run" s_law_good_run := by
    obtain ⟨fd, F⟩ := c.def_ 28 (d := d_law_good_run) rfl
    exact ⟨_, fd, F, He.glo_ok X G (fa 28 (z := .glo "_law_good_run") rfl)⟩
  have F_law : Stands K mg "law" s_law := by
    obtain ⟨fd, F⟩ := c.def_ 29 (d := d_law) rfl
    exact ⟨_, fd, F, He.glo_ok X G (fa 29 (z := .glo "law") rfl)⟩
  have T : Bi mg := ⟨He.free_ok X G (fa 30 (z := .free "abs") rfl), He.free_ok X G (fa 31 (z := .free "all") rfl), He.free_ok X G (fa 32 (z := .free "bool") rfl), PySem.W.mg_of X G (He.eqO_ok c1.2), He.free_ok X G (fa 33 (z := .free "int") rfl), He.free_ok X G (fa 34 (z := .free "isinstance") rfl), He.free_ok X G (fa 35 (z := .free "len") rfl), He.free_ok X G (fa 36 (z := .free "list") rfl), He.free_ok X G (fa 37 (z := .free "min") rfl), He.free_ok X G (fa 38 (z := .free "range") rfl), He.free_ok X G (fa 39 (z := .free "sorted") rfl), He.free_ok X G (fa 40 (z := .free "tuple") rfl), He.free_ok X G (fa 41 (z := .free "zip") rfl)⟩
  obtain ⟨fd, F⟩ := c.def_ 29 (d := d_law) rfl
  have b := FunD.bindsA (ps := ["script"]) F fun _ _ _ _ _ _ us hl => match us, hl with | [_], _ => rfl
  have e := hfa.symm.trans (He.glo_ok X G (fa 29 (z := .glo "law") rfl))
  cases e
  refine ⟨fd, fun s v => b s [v] rfl, fun base _ _ => ?_⟩
  have c_ratio := ok_ratio (P := P) (w := w) (base := base) T F_ratio 
  have c_plus := ok_plus (P := P) (w := w) (base := base) T F_plus c_ratio
  have c_times := ok_times (P := P) (w := w) (base := base) T F_times c_ratio
  have c_line_value := ok_line_value (P := P) (w := w) (base := base) T F_line_value c_plus c_times
  have c_run_code := ok_run_code (P := P) (w := w) (base := base) T F_run_code c_line_value
  have c_law_begin := ok_law_begin (P := P) (w := w) (base := base) T F_law_begin 
  have c_law_draw := ok_law_draw (P := P) (w := w) (base := base) T F_law_draw 
  have c_law_pick := ok_law_pick (P := P) (w := w) (base := base) T F_law_pick c_law_draw
  have c_law_pop := ok_law_pop (P := P) (w := w) (base := base) T F_law_pop c_law_draw
  have c_law_rare := ok_law_rare (P := P) (w := w) (base := base) T F_law_rare c_law_draw
  have c_law_gcd := ok_law_gcd (P := P) (w := w) (base := base) T F_law_gcd 
  have c_law_r := ok_law_r (P := P) (w := w) (base := base) T F_law_r c_law_gcd
  have c_law_add := ok_law_add (P := P) (w := w) (base := base) T F_law_add c_law_r
  have c_law_mul := ok_law_mul (P := P) (w := w) (base := base) T F_law_mul c_law_r
  have c_law_is_int := ok_law_is_int (P := P) (w := w) (base := base) T F_law_is_int 
  have c_law_is_r := ok_law_is_r (P := P) (w := w) (base := base) T F_law_is_r c_law_gcd c_law_is_int
  have c_law_sum := ok_law_sum (P := P) (w := w) (base := base) T F_law_sum c_law_add
  have c_law_number := ok_law_number (P := P) (w := w) (base := base) T F_law_number c_law_draw c_law_pick c_law_r c_law_rare
  have c_law_is_layout := ok_law_is_layout (P := P) (w := w) (base := base) T F_law_is_layout c_law_is_r
  have c_law_share := ok_law_share (P := P) (w := w) (base := base) T F_law_share c_law_draw c_law_r
  have c_law_slot_sum := ok_law_slot_sum (P := P) (w := w) (base := base) T F_law_slot_sum c_law_draw c_law_number c_law_pick c_law_share c_law_sum
  have c_law_test_sum := ok_law_test_sum (P := P) (w := w) (base := base) T F_law_test_sum c_law_draw c_law_mul c_law_pick c_law_slot_sum
  have c_law_merge := ok_law_merge (P := P) (w := w) (base := base) T F_law_merge 
  have c_law_stretch := ok_law_stretch (P := P) (w := w) (base := base) T F_law_stretch c_law_draw c_law_pop c_law_slot_sum c_law_test_sum
  have c_law_flat := ok_law_flat (P := P) (w := w) (base := base) T F_law_flat c_law_draw c_law_merge c_law_rare c_law_slot_sum c_law_stretch c_law_test_sum
  have c_law_line_worth := ok_law_line_worth (P := P) (w := w) (base := base) T F_law_line_worth c_law_add c_law_mul
  have c_law_walked := ok_law_walked (P := P) (w := w) (base := base) T F_law_walked c_law_line_worth
  have c_law_free_values := ok_law_free_values (P := P) (w := w) (base := base) T F_law_free_values c_law_number
  have c_law_good_run := ok_law_good_run (P := P) (w := w) (base := base) T F_law_good_run c_law_is_layout c_run_code
  exact fn_law T F c_law_begin c_law_draw c_law_flat c_law_free_values c_law_good_run c_law_walked

theorem sp_law_ok (ns : List Int) (hl : ns.length ≤ 63) (hb : ∀ z ∈ ns, Builtin.Int.intBits z ≤ 1048576) (M : HpD) (hM : ∀ b, M b = none) : sp_law [.scr ns] M (fun d _ => d = .bl true) := ⟨ns, rfl, hl, fun _ => rfl⟩
end Wp
open PySem PySem.W PySem.Calls PyProof.Rows
theorem PySem.Challenge.cw_wishpanes_k50_codes_run_holds : PySem.Challenge.rw_wishpanes_k50_codes_run.Holds := by
  w_on; o_law
  refine HandSHeadRun.head_imp (r := OpenLaw.row PySem.Challenge.rw_wishpanes_k50_codes_run) (q := view (OpenLaw.row PySem.Challenge.rw_wishpanes_k50_codes_run).prog [0, 33]) (H := Wp.hk) (ob := Wp.ob) (M := 4000) (loose := Wp.loose) (d := HandSHeadRun.topDef (OpenLaw.row PySem.Challenge.rw_wishpanes_k50_codes_run).prog 33) (kwd := []) Wp.ob_eq
    Wp.run (by kernel_rfl) (by kernel_rfl) (by kernel_rfl) (by rfl) (by first | assumption | decide +kernel) (by decide +kernel) ⟨rfl, rfl, rfl, rfl, rfl, by decide +kernel⟩ ?hw ?hc
  case hw => w_witness2
  case hc =>
    refine DL.walk_ofBE (l := PySem.Challenge.rw_wishpanes_k50_codes_run) (n := 63) (k := 9) (x := "script") (CX := L2.CX0) rfl (by decide) (by kernel_rfl) ⟨rfl, by decide, by decide⟩ ?F (fun _ _ _ _ z => z)
    intro w mg fa h Y G hmg0
    obtain ⟨K, KX, c⟩ := Y
    have hmg : mg ("law" : PySem.Str) = some (.ref fa) := by
      have e : (HandSHeadRun.topDef (OpenLaw.row PySem.Challenge.rw_wishpanes_k50_codes_run).prog 33).name = ("law" : PySem.Str) := by kernel_rfl
      rw [← e]
      exact hmg0
    obtain ⟨fd, hb, hF⟩ := Wp.facts (P := (PySem.Challenge.rw_wishpanes_k50_codes_run).prog) (w := w) KX G hmg c
    exact ⟨K, fd, _, KX, hb, fun H a ns hl hbits hO hS => DL.law_start hO hS fun M => Wp.sp_law_ok ns hl hbits M, hF⟩
