import PyProof.Rows.All
import HandS.ForMost
import HandS.ForExc
import HandS.IsInst
import HandS.Flow
import HandS.Wide
import HandS.Deep
import HandS.TupAny
import HandS.TupMul
import HandS.CallSlots
import KE.DataCmp
import HandS.Zip
import HandS.More
import HandS.HeadHook4
import PySem.Challenge.RW_swaprest_k05_squares_moved
set_option Elab.async false
set_option linter.all false
set_option maxRecDepth 100000
/-! SW1: data without a heap (D), how a heap bears them (At), owned cells (OwnAt), a frame's slots (Rel), steps (Stp). -/
namespace SW
open PySem PySem.Spec PyProof.Rows L2

/-- the built-in classes that are named -/
inductive Tc where
  | int | bool | tuple | list | str | dict
def Tc.nm : Tc → String
  | .int => "int"
  | .bool => "bool"
  | .tuple => "tuple"
  | .list => "list"
  | .str => "str"
  | .dict => "dict"
/-- a datum -/
inductive D where
  | non | bl (b : Bool) | int (i : Int) | str (x : Str)
  | tup (xs : List D) | lst (xs : List D)
  | dct (kvs : List (List Key × D))
  | scr (ns : List Int)
  | ty (n : Tc)

mutual
inductive At (K : PySem.W.Frag) (S : Hp) : V → D → Prop
  | non : At K S .non .non
  | bl (b : Bool) : At K S (.bl b) (.bl b)
  | int (i : Int) : At K S (.int i) (.int i)
  | str (x : Str) : At K S (.str x) (.str x)
  | tup {a : Addr} {vs : List V} {ds : List D} : SqT K S a vs → ds.length ≤ sizeLine → AtL K S vs ds → At K S (.ref a) (.tup ds)
  | lst {a : Addr} {vs : List V} {ds : List D} : S a = some (.lst vs) → ds.length ≤ sizeLine → AtL K S vs ds → At K S (.ref a) (.lst ds)
  | dct {a : Addr} {kvs : List (List Key × V)} {ds : List (List Key × D)} : S a = some (.dT kvs) → kvs.map (·.1) = ds.map (·.1) → ds.length ≤ sizeLine → AtL K S (kvs.map (·.2)) (ds.map (·.2)) → At K S (.ref a) (.dct ds)
  | scr {a : Addr} {ns : List Int} : SqL K S a (ns.map V.int) → ns.length ≤ sizeLine → At K S (.ref a) (.scr ns)
  | ty {x : String} (n : Tc) : x = n.nm → At K S (.ty x) (.ty n)
inductive AtL (K : PySem.W.Frag) (S : Hp) : List V → List D → Prop
  | nil : AtL K S [] []
  | cons {v : V} {vs : List V} {d : D} {ds : List D} : At K S v d → AtL K S vs ds → AtL K S (v :: vs) (d :: ds)
end

theorem sqT_mono {K : PySem.W.Frag} {H H' : Hp} {a : Addr} {xs : List V} (e : Same H H') (h : SqT K H a xs) : SqT K H' a xs := by
  rcases h with (h | ⟨o, h⟩) | h
  · exact .inl (.inl (e _ _ h))
  · exact .inl (.inr ⟨o, e _ _ h⟩)
  · exact .inr h

mutual
theorem At.mono {K : PySem.W.Frag} {S S' : Hp} (e : Same S S') : ∀ {v : V} {d : D}, At K S v d → At K S' v d
  | _, _, .non => .non
  | _, _, .bl b => .bl b
  | _, _, .int i => .int i
  | _, _, .str x => .str x
  | _, _, .tup h z r => .tup (sqT_mono e h) z (AtL.mono e r)
  | _, _, .lst h z r => .lst (e _ _ h) z (AtL.mono e r)
  | _, _, .dct h k z r => .dct (e _ _ h) k z (AtL.mono e r)
  | _, _, .scr h z => .scr (e.seq h) z
  | _, _, .ty n h => .ty n h
theorem AtL.mono {K : PySem.W.Frag} {S S' : Hp} (e : Same S S') : ∀ {vs : List V} {ds : List D}, AtL K S vs ds → AtL K S' vs ds
  | _, _, .nil => .nil
  | _, _, .cons h r => .cons (At.mono e h) (AtL.mono e r)
end
section
variable {K : PySem.W.Frag} {S S' H H' : Hp}
theorem AtL.length : ∀ {vs : List V} {ds : List D}, AtL K S vs ds → vs.length = ds.length
  | _, _, .nil => rfl
  | _, _, .cons _ r => by rw [List.length_cons, List.length_cons, AtL.length r]
theorem AtL.get : ∀ {vs : List V} {ds : List D} {i : Nat} {d : D}, AtL K S vs ds → ds[i]? = some d → ∃ v, vs[i]? = some v ∧ At K S v d
  | _, _, _, _, .nil, e => by simp at e
  | _, _, 0, _, .cons h _, e => by simp at e; subst e; exact ⟨_, rfl, h⟩
  | _, _, i + 1, _, .cons _ r, e => by
    obtain ⟨v, h1, h2⟩ := AtL.get (i := i) r (by simpa using e)
    exact ⟨v, by simpa using h1, h2⟩
theorem AtL.getV : ∀ {vs : List V} {ds : List D} {i : Nat} {v : V}, AtL K S vs ds → vs[i]? = some v → ∃ d, ds[i]? = some d ∧ At K S v d
  | _, _, _, _, .nil, e => by simp at e
  | _, _, 0, _, .cons h _, e => by simp at e; subst e; exact ⟨_, rfl, h⟩
  | _, _, i + 1, _, .cons _ r, e => by
    obtain ⟨v, h1, h2⟩ := AtL.getV (i := i) r (by simpa using e)
    exact ⟨v, by simpa using h1, h2⟩
theorem AtL.append : ∀ {vs ws : List V} {ds es : List D}, AtL K S vs ds → AtL K S ws es → AtL K S (vs ++ ws) (ds ++ es)
  | _, _, _, _, .nil, r => r
  | _, _, _, _, .cons h t, r => .cons h (AtL.append t r)
theorem AtL.take : ∀ {vs : List V} {ds : List D} (n : Nat), AtL K S vs ds → AtL K S (vs.take n) (ds.take n)
  | _, _, 0, _ => .nil
  | _, _, _ + 1, .nil => .nil
  | _, _, n + 1, .cons h t => .cons h (AtL.take n t)
theorem AtL.drop : ∀ {vs : List V} {ds : List D} (n : Nat), AtL K S vs ds → AtL K S (vs.drop n) (ds.drop n)
  | _, _, 0, r => r
  | _, _, _ + 1, .nil => .nil
  | _, _, n + 1, .cons _ t => AtL.drop n t
theorem AtL.set : ∀ {vs : List V} {ds : List D} {v : V} {d : D} (i : Nat), AtL K S vs ds → At K S v d → AtL K S (vs.set i v) (ds.set i d)
  | _, _, _, _, _, .nil, _ => .nil
  | _, _, _, _, 0, .cons _ t, h => .cons h t
  | _, _, _, _, i + 1, .cons q t, h => .cons q (AtL.set i t h)
theorem AtL.reverse : ∀ {vs : List V} {ds : List D}, AtL K S vs ds → AtL K S vs.reverse ds.reverse
  | _, _, .nil => .nil
  | _, _, .cons h t => by rw [List.reverse_cons, List.reverse_cons]; exact (AtL.reverse t).append (.cons h .nil)
theorem AtL.ints : ∀ ns : List Int, AtL K S (ns.map V.int) (ns.map D.int)
  | [] => .nil
  | n :: ns => .cons (.int n) (AtL.ints ns)

/-! ### owned cells -/
/-- a list or a dict that one name alone holds; what is in it stands -/
def OwnAt (K : PySem.W.Frag) (S H : Hp) (v : V) (d : D) : Prop :=
  ∃ a, v = .ref a ∧ S a = none ∧ ((∃ vs ds, H a = some (.lst vs) ∧ d = .lst ds ∧ ds.length ≤ sizeLine ∧ AtL K S vs ds) ∨
    ∃ kvs ds, H a = some (.dT kvs) ∧ d = .dct ds ∧ ds.length ≤ sizeLine ∧ kvs.map (·.1) = ds.map (·.1) ∧ AtL K S (kvs.map (·.2)) (ds.map (·.2)))

def SlotAt (K : PySem.W.Frag) (S H : Hp) : Bool → Option V → Option D → Prop
  | _, none, none => True
  | false, some v, some d => At K S v d
  | true, some v, some d => OwnAt K S H v d
  | _, _, _ => False

abbrev Rho := List (Option D)
abbrev Os := List Bool
abbrev Sg := L2.St

/-- the addresses that the owning slots hold -/
def Own (os : Os) (σ : Sg) (a : Addr) : Prop := ∃ i, os.getD i false = true ∧ σ[i]? = some (some (.ref a))

structure Rel (K : PySem.W.Frag) (S H : Hp) (os : Os) (σ : Sg) (ρ : Rho) : Prop where
  sub : Same S H
  len : σ.length = ρ.length
  slot : ∀ i x d, σ[i]? = some x → ρ[i]? = some d → SlotAt K S H (os.getD i false) x d
  sep : ∀ i j a, os.getD i false = true → os.getD j false = true → σ[i]? = some (some (.ref a)) → σ[j]? = some (some (.ref a)) → i = j

/-- O: what may be turned; all else that doesn't stand is left alone -/
structure Ext (O : Addr → Prop) (S H S' H' : Hp) : Prop where
  s : Same S S'
  sh : Same S' H'
  fr : ∀ a o, H a = some o → S a = none → ¬ O a → H' a = some o ∧ S' a = none
  there : ∀ a, H' a = none → H a = none

structure Stp (os : Os) (σ : Sg) (S H : Hp) (os' : Os) (σ' : Sg) (S' H' : Hp) : Prop where
  ext : Ext (Own os σ) S H S' H'
  own : ∀ a, Own os' σ' a → Own os σ a ∨ H a = none

theorem Ext.refl {O : Addr → Prop} (h : Same S H) : Ext O S H S H := ⟨Same.refl _, h, fun _ _ e n _ => ⟨e, n⟩, fun _ e => e⟩
theorem Ext.trans {O O1 : Addr → Prop} {S1 H1 S2 H2 : Hp} (a : Ext O S H S1 H1) (b : Ext O1 S1 H1 S2 H2) (ho : ∀ c, O1 c → O c ∨ H c = none) : Ext O S H S2 H2 where
  s := a.s.trans b.s
  sh := b.sh
  fr := fun c o e n no => by
    obtain ⟨e1, n1⟩ := a.fr c o e n no
    refine b.fr c o e1 n1 fun q => ?_
    rcases ho c q with q | q
    · exact no q
    · rw [e] at q; cases q
  there := fun c e => a.there c (b.there c e)
theorem Ext.weak {O O' : Addr → Prop} {S1 H1 : Hp} (a : Ext O S H S1 H1) (h : ∀ c, O c → O' c) : Ext O' S H S1 H1 :=
  ⟨a.s, a.sh, fun c o e n no => a.fr c o e n fun q => no (h c q), a.there⟩
theorem Stp.refl {os : Os} {σ : Sg} (h : Same S H) : Stp os σ S H os σ S H := ⟨Ext.refl h, fun _ q => .inl q⟩
theorem Stp.trans {os os1 os2 : Os} {σ σ1 σ2 : Sg} {S1 H1 S2 H2 : Hp} (a : Stp os σ S H os1 σ1 S1 H1) (b : Stp os1 σ1 S1 H1 os2 σ2 S2 H2) : Stp os σ S H os2 σ2 S2 H2 where
  ext := a.ext.trans b.ext a.own
  own := fun c q => by
    rcases b.own c q with q | q
    · exact a.own c q
    · exact .inr (a.ext.there c q)

/-- a new cell is laid and stands -/
theorem Ext.new {O : Addr → Prop} {p : Addr} {o : HO} (h : Same S H) (n : H p = none) : Ext O S H (upd S p o) (upd H p o) where
  s := fun b x e => by rw [upd_ne (ne_of_none (h b x e) n)]; exact e
  sh := fun b x e => by
    by_cases hb : b = p
    · subst hb; rw [upd_same] at e ⊢; exact e
    · rw [upd_ne hb] at e ⊢; exact h b x e
  fr := fun b x e nb _ => by
    have hb : b ≠ p := ne_of_none e n
    rw [upd_ne hb, upd_ne hb]; exact ⟨e, nb⟩
  there := fun b e => by
    by_cases hb : b = p
    · subst hb; rw [upd_same] at e; cases e
    · rw [upd_ne hb] at e; exact e
/-- a new cell is laid; it is owned -/
theorem Ext.newO {O : Addr → Prop} {p : Addr} {o : HO} (h : Same S H) (n : H p = none) : Ext O S H S (upd H p o) where
  s := Same.refl _
  sh := fun b x e => by rw [upd_ne (ne_of_none (h b x e) n)]; exact h b x e
  fr := fun b x e nb _ => by rw [upd_ne (ne_of_none e n)]; exact ⟨e, nb⟩
  there := fun b e => by
    by_cases hb : b = p
    · subst hb; rw [upd_same] at e; cases e
    · rw [upd_ne hb] at e; exact e
/-- an owned cell is turned -/
theorem Ext.turn {O : Addr → Prop} {p : Addr} {o : HO} (h : Same S H) (n : S p = none) (ho : O p) : Ext O S H S (upd H p o) where
  s := Same.refl _
  sh := fun b x e => by
    have hb : b ≠ p := fun z => by rw [z, n] at e; cases e
    rw [upd_ne hb]; exact h b x e
  fr := fun b x e nb no => by
    have hb : b ≠ p := fun z => no (by rw [z]; exact ho)
    rw [upd_ne hb]; exact ⟨e, nb⟩
  there := fun b e => by
    by_cases hb : b = p
    · subst hb; rw [upd_same] at e; cases e
    · rw [upd_ne hb] at e; exact e

theorem OwnAt.ext {O : Addr → Prop} {v : V} {d : D} (q : OwnAt K S H v d) (x : Ext O S H S' H') (h : ∀ a, v = .ref a → ¬ O a) : OwnAt K S' H' v d := by
  obtain ⟨a, e, n, q⟩ := q
  have no := h a e
  rcases q with ⟨vs, ds, eh, ed, z, r⟩ | ⟨kvs, ds, eh, ed, z, k, r⟩
  · obtain ⟨e1, n1⟩ := x.fr a _ eh n no
    exact ⟨a, e, n1, .inl ⟨vs, ds, e1, ed, z, r.mono x.s⟩⟩
  · obtain ⟨e1, n1⟩ := x.fr a _ eh n no
    exact ⟨a, e, n1, .inr ⟨kvs, ds, e1, ed, z, k, r.mono x.s⟩⟩
theorem OwnAt.some_ {v : V} {d : D} (q : OwnAt K S H v d) : ∃ a o, v = .ref a ∧ S a = none ∧ H a = some o := by
  obtain ⟨a, e, n, q⟩ := q
  rcases q with ⟨vs, ds, eh, ed, z, r⟩ | ⟨kvs, ds, eh, ed, z, k, r⟩
  · exact ⟨a, _, e, n, eh⟩
  · exact ⟨a, _, e, n, eh⟩

section
variable {os os' : Os} {σ σ' : Sg} {ρ ρ' : Rho} {i : Nat}
theorem getD_of {α : Type} {l : List α} {i : Nat} {x d : α} (h : l[i]? = some x) : l.getD i d = x := by simp [List.getD, h]
/-- nothing that the slots own is touched -/
theorem Rel.grow {O : Addr → Prop} (r : Rel K S H os σ ρ) (x : Ext O S H S' H') (h : ∀ a, Own os σ a → ¬ O a) : Rel K S' H' os σ ρ where
  sub := x.sh
  len := r.len
  slot := fun i v d e1 e2 => by
    have q := r.slot i v d e1 e2
    cases ho : os.getD i false <;> rw [ho] at q <;> cases v <;> cases d <;> simp only [SlotAt] at q ⊢
    · exact q.mono x.s
    · refine q.ext x fun a ea => h a ⟨i, ho, ?_⟩
      rw [e1, ea]
  sep := r.sep
theorem Rel.new {p : Addr} {o : HO} (r : Rel K S H os σ ρ) (n : H p = none) : Rel K (upd S p o) (upd H p o) os σ ρ := r.grow (Ext.new (O := fun _ => False) r.sub n) fun _ _ z => z
theorem Rel.newO {p : Addr} {o : HO} (r : Rel K S H os σ ρ) (n : H p = none) : Rel K S (upd H p o) os σ ρ := r.grow (Ext.newO (O := fun _ => False) r.sub n) fun _ _ z => z
/-- a slot is read -/
theorem Rel.val (r : Rel K S H os σ ρ) {d : D} (h : ρ[i]? = some (some d)) (ho : os.getD i false = false) : ∃ v, σ[i]? = some (some v) ∧ At K S v d := by
  have hl : i < σ.length := by rw [r.len]; exact (List.getElem?_eq_some_iff.mp h).1
  have q := r.slot i _ _ (List.getElem?_eq_getElem hl) h
  rw [ho] at q
  cases e : σ[i] with
  | none => rw [e] at q; exact q.elim
  | some v => rw [e] at q; exact ⟨v, by rw [List.getElem?_eq_getElem hl, e], q⟩
theorem Rel.own (r : Rel K S H os σ ρ) {d : D} (h : ρ[i]? = some (some d)) (ho : os.getD i false = true) : ∃ v, σ[i]? = some (some v) ∧ OwnAt K S H v d := by
  have hl : i < σ.length := by rw [r.len]; exact (List.getElem?_eq_some_iff.mp h).1
  have q := r.slot i _ _ (List.getElem?_eq_getElem hl) h
  rw [ho] at q
  cases e : σ[i] with
  | none => rw [e] at q; exact q.elim
  | some v => rw [e] at q; exact ⟨v, by rw [List.getElem?_eq_getElem hl, e], q⟩
/-- an owned slot's cell holds what is known -/
theorem Rel.owned (r : Rel K S H os σ ρ) {a : Addr} (h : Own os σ a) : S a = none ∧ ∃ o, H a = some o := by
  obtain ⟨i, ho, e⟩ := h
  have hl : i < ρ.length := by rw [← r.len]; exact (List.getElem?_eq_some_iff.mp e).1
  have q := r.slot i _ _ e (List.getElem?_eq_getElem hl)
  rw [ho] at q
  cases ed : ρ[i] with
  | none => rw [ed] at q; exact q.elim
  | some d =>
    rw [ed] at q
    obtain ⟨b, o, e1, n, e2⟩ := OwnAt.some_ (show OwnAt K S H (.ref a) d from q)
    cases e1
    exact ⟨n, o, e2⟩

/-! ### freezing -/
/-- all cells of the slots that are freed stand from now on -/
theorem getD_set_self {os : Os} {i : Nat} : (os.set i false).getD i false = false := by
  by_cases h : i < os.length
  · simp [List.getD, h]
  · rw [List.getD, List.getElem?_eq_none (by rw [List.length_set]; omega)]; rfl
theorem getD_set_ne {os : Os} {i j : Nat} {b : Bool} (h : i ≠ j) : (os.set i b).getD j false = os.getD j false := by
  simp [List.getD, List.getElem?_set_ne h]
theorem freeze1 (r : Rel K S H os σ ρ) (i : Nat) : ∃ S', Same S S' ∧ Rel K S' H (os.set i false) σ ρ ∧ Stp os σ S H (os.set i false) σ S' H ∧ ∀ v d, os.getD i false = true → σ[i]? = some (some v) → ρ[i]? = some (some d) → At K S' v d := by
  have hle : ∀ j, (os.set i false).getD j false = true → os.getD j false = true ∧ j ≠ i := fun j h => by
    by_cases e : i = j
    · subst e; rw [getD_set_self] at h; cases h
    · rw [getD_set_ne e] at h; exact ⟨h, fun z => e z.symm⟩
  have hown : ∀ a, Own (os.set i false) σ a → Own os σ a := fun a ⟨j, h, e⟩ => ⟨j, (hle j h).1, e⟩
  by_cases ho : os.getD i false = true
  · -- is the slot filled?
    by_cases hf : ∃ v d, σ[i]? = some (some v) ∧ ρ[i]? = some (some d)
    · obtain ⟨v, d, ev, ed⟩ := hf
      have q0 : OwnAt K S H v d := by
        have q := r.slot i _ _ ev ed
        rw [ho] at q
        exact q
      obtain ⟨a, e, n, qq⟩ := q0
      subst e
      -- the cell's object
      have key : ∀ o, H a = some o → At K (upd S a o) (.ref a) d → ∃ S', Same S S' ∧ Rel K S' H (os.set i false) σ ρ ∧ Stp os σ S H (os.set i false) σ S' H ∧ ∀ v d, os.getD i false = true → σ[i]? = some (some v) → ρ[i]? = some (some d) → At K S' v d := fun o eh hat => by
        have sm : Same S (upd S a o) := fun b x e => by
          have hb : b ≠ a := fun z => by rw [z, n] at e; cases e
          rw [upd_ne hb]; exact e
        have sh : Same (upd S a o) H := fun b x e => by
          by_cases hb : b = a
          · subst hb; rw [upd_same] at e; rw [eh]; exact e
          · rw [upd_ne hb] at e; exact r.sub b x e
        have ext : Ext (Own os σ) S H (upd S a o) H := ⟨sm, sh, fun b x e nb no => by
          have hb : b ≠ a := fun z => no (by rw [z]; exact ⟨i, ho, ev⟩)
          rw [upd_ne hb]; exact ⟨e, nb⟩, fun _ e => e⟩
        refine ⟨upd S a o, sm, ⟨sh, r.len, fun j x y e1 e2 => ?_, fun j k b h1 h2 e1 e2 => r.sep j k b (hle j h1).1 (hle k h2).1 e1 e2⟩, ⟨ext, fun b q => .inl (hown b q)⟩, fun v' d' _ e1 e2 => ?_⟩
        · by_cases hj : i = j
          · subst hj
            rw [ev] at e1; rw [ed] at e2; cases e1; cases e2
            rw [getD_set_self]; exact hat
          · rw [getD_set_ne hj]
            have q := r.slot j x y e1 e2
            cases hoj : os.getD j false <;> rw [hoj] at q <;> cases x <;> cases y <;> simp only [SlotAt] at q ⊢
            · exact q.mono sm
            · rename_i w z
              obtain ⟨b, eb, nb, q⟩ := q
              have hb : b ≠ a := fun z => hj (r.sep i j a ho hoj ev (by rw [e1, eb, z]))
              refine ⟨b, eb, by rw [upd_ne hb]; exact nb, ?_⟩
              rcases q with ⟨vs, ds, eh, ed, z, r⟩ | ⟨kvs, ds, eh, ed, z, k, r⟩
              · exact .inl ⟨vs, ds, eh, ed, z, r.mono sm⟩
              · exact .inr ⟨kvs, ds, eh, ed, z, k, r.mono sm⟩
        · rw [ev] at e1; rw [ed] at e2; cases e1; cases e2; exact hat
      rcases qq with ⟨vs, ds, eh, rfl, z, rl⟩ | ⟨kvs, ds, eh, rfl, z, k, rl⟩
      · exact key _ eh (.lst upd_same z (rl.mono fun b x e => by
          have hb : b ≠ a := fun z => by rw [z, n] at e; cases e
          rw [upd_ne hb]; exact e))
      · exact key _ eh (.dct upd_same k z (rl.mono fun b x e => by
          have hb : b ≠ a := fun z => by rw [z, n] at e; cases e
          rw [upd_ne hb]; exact e))
    · refine ⟨S, Same.refl _, ⟨r.sub, r.len, fun j x y e1 e2 => ?_, fun j k b h1 h2 e1 e2 => r.sep j k b (hle j h1).1 (hle k h2).1 e1 e2⟩, ⟨Ext.refl r.sub, fun b q => .inl (hown b q)⟩, fun v' d' _ e1 e2 => (hf ⟨_, _, e1, e2⟩).elim⟩
      by_cases hj : i = j
      · subst hj
        rw [getD_set_self]
        have q := r.slot i x y e1 e2
        rw [ho] at q
        cases x <;> cases y <;> simp only [SlotAt] at q ⊢
        exact (hf ⟨_, _, e1, e2⟩).elim
      · rw [getD_set_ne hj]; exact r.slot j x y e1 e2
  · have hof : os.getD i false = false := by cases h : os.getD i false <;> simp_all
    have hsame : ∀ j, (os.set i false).getD j false = os.getD j false := fun j => by
      by_cases e : i = j
      · subst e; rw [getD_set_self, hof]
      · exact getD_set_ne e
    exact ⟨S, Same.refl _, ⟨r.sub, r.len, fun j x y e1 e2 => by rw [hsame]; exact r.slot j x y e1 e2, fun j k b h1 h2 => r.sep j k b (by rw [← hsame]; exact h1) (by rw [← hsame]; exact h2)⟩, ⟨Ext.refl r.sub, fun b q => .inl (hown b q)⟩, fun v d h => absurd h (by rw [hof]; decide)⟩
end
end
end SW

set_option maxRecDepth 100000
/-! SW2: outcomes, posts, judgements by data (VE, VT, VA, VG, VI, VS), the rules of names, constants, operators, displays, calls. -/
namespace SW
open PySem PySem.Spec PyProof.Rows L2

inductive Out (α : Type) where
  | ok (a : α) | exc (c : Str) (fs : Option (Str × D)) | stuck
def Out.bind {α β : Type} : Out α → (α → Out β) → Out β
  | .ok a, k => k a
  | .exc c fs, _ => .exc c fs
  | .stuck, _ => .stuck
def Out.of {α : Type} : Option α → Out α
  | some a => .ok a
  | none => .stuck

/-- an exception of the class that stands by the name c, with its one field or none -/
def ExcAt (K : PySem.W.Frag) (mg : Str → Option Value) (S : Hp) (c : Str) (fs : Option (Str × D)) (cls : Value) (dd : Option Addr) : Prop :=
  mg c = some cls ∧ match fs with
    | none => dd = none
    | some (f, d) => ∃ a v, dd = some a ∧ S a = some (.xd [(f, v)]) ∧ At K S v d

abbrev RR (α β : Type) := Hp → Hp → Hp → β → α → Prop
/-- what is known of a new value v that is d -/
def RV (K : PySem.W.Frag) (r : Bool) : RR D V := fun H S' H' v d => if r = true then OwnAt K S' H' v d ∧ ∀ a, v = .ref a → H a = none else At K S' v d
def RB : RR Bool Bool := fun _ _ _ b c => b = c
def RL (K : PySem.W.Frag) (n : Nat) : RR (List D) (List V) := fun _ S' _ vs ds => AtL K S' vs ds ∧ ds.length = n
def RR.Ok {α β : Type} (R : RR α β) : Prop := ∀ H H1 S' H' b d, (∀ a, H1 a = none → H a = none) → R H1 S' H' b d → R H S' H' b d
theorem RV.ok {K : PySem.W.Frag} {r : Bool} : (RV K r).Ok := fun H H1 S' H' b d h q => by
  cases r
  · exact q
  · exact ⟨q.1, fun a e => h a (q.2 a e)⟩
theorem RB.ok : RB.Ok := fun _ _ _ _ _ _ _ q => q
theorem RL.ok {K : PySem.W.Frag} {n : Nat} : (RL K n).Ok := fun _ _ _ _ _ _ _ q => q

/-- what is wanted behind an outcome -/
def Post {α β : Type} (X : Cx) (W : WX) (S H : Hp) (os : Os) (σ : Sg) (os' : Os) (R : RR α β) (Q : β → Hp → Prop) : Out (α × Rho) → Prop
  | .ok (d, ρ') => ∀ b S' H', Stp os σ S H os' σ S' H' → Rel X.K S' H' os' σ ρ' → R H S' H' b d → Q b H'
  | .exc c fs => ∀ S' H' cls dd, Ext (Own os σ) S H S' H' → ExcAt X.K X.mg S' c fs cls dd → W cls dd σ H'
  | .stuck => False

section
variable {X : Cx} {W : WX} {α β γ : Type} {S H S1 H1 : Hp} {os os1 os2 : Os} {σ : Sg} {R : RR α β} {Q : β → Hp → Prop}
theorem Post.step (hR : R.Ok) {x : Out (α × Rho)} (p : Post X W S H os σ os2 R Q x) (s : Stp os σ S H os1 σ S1 H1) : Post X W S1 H1 os1 σ os2 R Q x := by
  cases x with
  | ok z => exact fun b S' H' s' r q => p b S' H' (s.trans s') r (hR _ _ _ _ _ _ s.ext.there q)
  | exc c fs => exact fun S' H' cls dd e q => p S' H' cls dd (s.ext.trans e s.own) q
  | stuck => exact p
theorem Post.seq {F : Out γ → Prop} {x : Out (α × Rho)} {k : α × Rho → Out γ} (P : F (x.bind k)) (hs : ¬ F .stuck)
    (he : ∀ c fs, F (.exc c fs) → ∀ S' H' cls dd, Ext (Own os σ) S H S' H' → ExcAt X.K X.mg S' c fs cls dd → W cls dd σ H')
    (h : ∀ d ρ1 b S1 H1, Stp os σ S H os1 σ S1 H1 → Rel X.K S1 H1 os1 σ ρ1 → R H S1 H1 b d → F (k (d, ρ1)) → Q b H1) : Post X W S H os σ os1 R Q x := by
  cases x with
  | ok z => exact fun b S' H' s' r q => h z.1 z.2 b S' H' s' r q P
  | exc c fs => exact he c fs P
  | stuck => exact hs P
/-- the end of a chain -/
theorem Post.fin {os' : Os} {d : α} {ρ1 : Rho} {b : β} (P : Post X W S1 H1 os1 σ os1 R Q (.ok (d, ρ1))) (rel : Rel X.K S1 H1 os1 σ ρ1) (q : R H1 S1 H1 b d) : Q b H1 :=
  P b S1 H1 (Stp.refl rel.sub) rel q
end

/-! ### the judgements -/
def VE (X : Cx) (W : WX) (os : Os) (e : Expr) (f : Rho → Out (D × Rho)) (os' : Os) (r : Bool) : Prop :=
  ∃ t, PE X e t ∧ ∀ S σ H ρ Q, Rel X.K S H os σ ρ → Post X W S H os σ os' (RV X.K r) Q (f ρ) → t σ H Q
def VT (X : Cx) (W : WX) (os : Os) (e : Expr) (f : Rho → Out (Bool × Rho)) (os' : Os) : Prop :=
  ∃ t, PT X e t ∧ ∀ S σ H ρ Q, Rel X.K S H os σ ρ → Post X W S H os σ os' RB Q (f ρ) → t σ H Q
def VW (X : Cx) (W : WX) (os : Os) (e : Expr) (f : Rho → Out (Bool × Rho)) (os' : Os) : Prop :=
  ∃ t, PW X e t ∧ ∀ S σ H ρ Q, Rel X.K S H os σ ρ → Post X W S H os σ os' RB Q (f ρ) → t σ H Q
def VA (X : Cx) (W : WX) (os : Os) (es : List Expr) (f : Rho → Out (List D × Rho)) (os' : Os) : Prop :=
  ∃ t, PA X es t ∧ ∀ S σ H ρ Q, Rel X.K S H os σ ρ → Post X W S H os σ os' (RL X.K es.length) Q (f ρ) → t σ H Q

/-! ### their plain functions -/
def eVar (i : Nat) : Rho → Out (D × Rho) := fun ρ => match ρ.getD i none with
  | some d => .ok (d, ρ)
  | none => .stuck
def eCon (d : D) : Rho → Out (D × Rho) := fun ρ => .ok (d, ρ)
def eOp2 (g : D → D → Option D) (f1 f2 : Rho → Out (D × Rho)) : Rho → Out (D × Rho) := fun ρ =>
  (f1 ρ).bind fun p => (f2 p.2).bind fun q => (Out.of (g p.1 q.1)).bind fun c => .ok (c, q.2)
def eOp1 (g : D → Option D) (f1 : Rho → Out (D × Rho)) : Rho → Out (D × Rho) := fun ρ =>
  (f1 ρ).bind fun p => (Out.of (g p.1)).bind fun c => .ok (c, p.2)
def aNil : Rho → Out (List D × Rho) := fun ρ => .ok ([], ρ)
def aCons (f : Rho → Out (D × Rho)) (g : Rho → Out (List D × Rho)) : Rho → Out (List D × Rho) := fun ρ =>
  (f ρ).bind fun p => (g p.2).bind fun q => .ok (p.1 :: q.1, q.2)
def eTup (g : Rho → Out (List D × Rho)) : Rho → Out (D × Rho) := fun ρ => (g ρ).bind fun p => .ok (.tup p.1, p.2)
def eLst (g : Rho → Out (List D × Rho)) : Rho → Out (D × Rho) := fun ρ => (g ρ).bind fun p => .ok (.lst p.1, p.2)
/-- a built-in that gives a value of its arguments alone -/
def eArg (h : List D → Option D) (g : Rho → Out (List D × Rho)) : Rho → Out (D × Rho) := fun ρ =>
  (g ρ).bind fun p => (Out.of (h p.1)).bind fun c => .ok (c, p.2)
def eIf (c : Rho → Out (Bool × Rho)) (f g : Rho → Out (D × Rho)) : Rho → Out (D × Rho) := fun ρ => (c ρ).bind fun p => if p.1 = true then f p.2 else g p.2
def tVal (f : Rho → Out (D × Rho)) : Rho → Out (Bool × Rho) := fun ρ => (f ρ).bind fun p => match p.1 with
  | .bl b => .ok (b, p.2)
  | _ => .stuck
def tNotF (f : Rho → Out (Bool × Rho)) : Rho → Out (Bool × Rho) := fun ρ => (f ρ).bind fun p => .ok (!p.1, p.2)
def tAndF (f g : Rho → Out (Bool × Rho)) : Rho → Out (Bool × Rho) := fun ρ => (f ρ).bind fun p => if p.1 = true then g p.2 else .ok (false, p.2)
def tOrF (f g : Rho → Out (Bool × Rho)) : Rho → Out (Bool × Rho) := fun ρ => (f ρ).bind fun p => if p.1 = true then .ok (true, p.2) else g p.2
def eB (f : Rho → Out (Bool × Rho)) : Rho → Out (D × Rho) := fun ρ => (f ρ).bind fun p => .ok (.bl p.1, p.2)

/-! ### rules -/
theorem getD_le {fx os : Os} (h : (List.range fx.length).all (fun i => !fx.getD i false || os.getD i false) = true) {i : Nat} (hf : fx.getD i false = true) : os.getD i false = true := by
  have hi : i < fx.length := by
    rcases Nat.lt_or_ge i fx.length with h1 | h1
    · exact h1
    · rw [List.getD, List.getElem?_eq_none h1] at hf; cases hf
  have q := List.all_eq_true.mp h i (List.mem_range.mpr hi)
  rw [hf] at q
  simpa using q
/-- the slots of the first own by the second -/
abbrev Le (fx os : Os) : Prop := (List.range fx.length).all (fun i => !fx.getD i false || os.getD i false) = true
section
variable {X : Cx} {W : WX} {os os1 os2 os3 : Os} {e e1 e2 : Expr} {f f1 f2 : Rho → Out (D × Rho)} {pos : Pos} {r r1 r2 : Bool}

theorem ve_var (i : Nat) {x : Str} (hN : X.N[i]? = some x := by rfl) (hv : Vis X.env.scope x := by first | exact Or.inl rfl | exact Or.inr (Or.inl rfl) | exact Or.inr (Or.inr rfl)) (ho : os.getD i false = false := by rfl)
    (hd : (x == ("__debug__" : Str)) = false := by decide) (hcd : (x == ("__classdict__" : Str)) = false := by decide) : VE X W os (.Name x pos) (eVar i) os false := by
  refine ⟨_, pe_var hN hv hd hcd, fun S σ H ρ Q rel P => ?_⟩
  unfold eVar at P
  cases h : ρ.getD i none with
  | none => rw [h] at P; exact P.elim
  | some d =>
    rw [h] at P
    have e : ρ[i]? = some (some d) := by
      cases q : ρ[i]? with
      | none => simp [List.getD, q] at h
      | some y => simp [List.getD, q] at h; rw [h]
    obtain ⟨v, ev, hat⟩ := rel.val e ho
    exact ⟨v, ev, P.fin (os' := os) rel hat⟩
/-- an owning name is read as a value: it stands from now on -/
theorem ve_varF (i : Nat) {x : Str} (hN : X.N[i]? = some x := by rfl) (hv : Vis X.env.scope x := by first | exact Or.inl rfl | exact Or.inr (Or.inl rfl) | exact Or.inr (Or.inr rfl)) (ho : os.getD i false = true := by rfl)
    (hd : (x == ("__debug__" : Str)) = false := by decide) (hcd : (x == ("__classdict__" : Str)) = false := by decide) : VE X W os (.Name x pos) (eVar i) (os.set i false) false := by
  refine ⟨_, pe_var hN hv hd hcd, fun S σ H ρ Q rel P => ?_⟩
  unfold eVar at P
  cases h : ρ.getD i none with
  | none => rw [h] at P; exact P.elim
  | some d =>
    rw [h] at P
    have e : ρ[i]? = some (some d) := by
      cases q : ρ[i]? with
      | none => simp [List.getD, q] at h
      | some y => simp [List.getD, q] at h; rw [h]
    obtain ⟨v, ev, _⟩ := rel.own e ho
    obtain ⟨S', _, rel', st, k⟩ := freeze1 rel i
    exact ⟨v, ev, P v S' H st rel' (k v d ho ev e)⟩
theorem ve_int {i j} : VE X W os (.Constant (.int i) j pos) (eCon (.int i)) os false := ⟨_, pe_int, fun S σ H ρ Q rel P => P.fin (os' := os) rel (.int i)⟩
theorem ve_bl {b j} : VE X W os (.Constant (.bool b) j pos) (eCon (.bl b)) os false := ⟨_, pe_bl, fun S σ H ρ Q rel P => P.fin (os' := os) rel (.bl b)⟩
theorem ve_non {j} : VE X W os (.Constant .none j pos) (eCon .non) os false := ⟨_, pe_non, fun S σ H ρ Q rel P => P.fin (os' := os) rel .non⟩
theorem ve_str {x j} : VE X W os (.Constant (.str x) j pos) (eCon (.str x)) os false := ⟨_, pe_str, fun S σ H ρ Q rel P => P.fin (os' := os) rel (.str x)⟩
/-- a module's constant -/
theorem ve_glob {x : Str} {v : V} {u : Value} {d : D} (hm : X.mg x = some u) (hr : RelV v u) (hat : ∀ S, At X.K S v d) (hg : Gl X x := by rfl) (hd : (x == ("__debug__" : Str)) = false := by decide) : VE X W os (.Name x pos) (eCon d) os false :=
  ⟨_, pe_glob hg hm hr hd, fun S σ H ρ Q rel P => P.fin (os' := os) rel (hat _)⟩

/-- an operator on two values, by data -/
def Op2 (X : Cx) (f : Value → Value → Sem Value) (g : D → D → Option D) : Prop :=
  ∃ r, OpR X f r ∧ ∀ S H x y a b c Q, Same S H → At X.K S x a → At X.K S y b → g a b = some c → (∀ v S' H', Ext (fun _ => False) S H S' H' → At X.K S' v c → Q v H') → r x y H Q
def Op1 (X : Cx) (f : Value → Sem Value) (g : D → Option D) : Prop :=
  ∃ r, UnR X f r ∧ ∀ S H x a c Q, Same S H → At X.K S x a → g a = some c → (∀ v S' H', Ext (fun _ => False) S H S' H' → At X.K S' v c → Q v H') → r x H Q

theorem Stp.of_ext {os : Os} {σ : Sg} {S H S' H' : Hp} (x : Ext (fun _ => False) S H S' H') : Stp os σ S H os σ S' H' := ⟨x.weak fun _ z => z.elim, fun _ q => .inl q⟩
theorem Rel.ext0 {K : PySem.W.Frag} {os : Os} {σ : Sg} {ρ : Rho} {S H S' H' : Hp} (r : Rel K S H os σ ρ) (x : Ext (fun _ => False) S H S' H') : Rel K S' H' os σ ρ := r.grow x fun _ _ z => z

theorem post_of {g : Option D} {S H : Hp} {os : Os} {σ : Sg} {ρ : Rho} {Q : VK} (P : Post X W S H os σ os (RV X.K false) Q ((Out.of g).bind fun c => .ok (c, ρ))) (rel : Rel X.K S H os σ ρ) :
    ∃ c, g = some c ∧ ∀ v S' H', Ext (fun _ => False) S H S' H' → At X.K S' v c → Q v H' := by
  cases g with
  | none => exact P.elim
  | some c => exact ⟨c, rfl, fun v S' H' x hat => P v S' H' (Stp.of_ext x) (rel.ext0 x) hat⟩

theorem ve_bin {op : Operator} {g : D → D → Option D} (ho : Op2 X (binaryOp op) g) (ha : VE X W os e1 f1 os1 false) (hb : VE X W os1 e2 f2 os2 false) : VE X W os (.BinOp e1 op e2 pos) (eOp2 g f1 f2) os2 false := by
  obtain ⟨ta, pa, ka⟩ := ha
  obtain ⟨tb, pb, kb⟩ := hb
  obtain ⟨rr, po, ko⟩ := ho
  refine ⟨_, pe_op po pa pb, fun S σ H ρ Q rel P => ?_⟩
  refine ka S σ H ρ _ rel (Post.seq P (fun z => z) (fun c fs p => p) fun d ρ1 v S1 H1 st1 rel1 q1 P1 => ?_)
  have P1 := P1.step RV.ok st1
  refine kb S1 σ H1 ρ1 _ rel1 (Post.seq P1 (fun z => z) (fun c fs p => p) fun d2 ρ2 v2 S2 H2 st2 rel2 q2 P2 => ?_)
  obtain ⟨c, hc, k⟩ := post_of (P2.step RV.ok st2) rel2
  exact ko S2 H2 v v2 d d2 c _ rel2.sub (At.mono st2.ext.s q1) q2 hc k
theorem ve_un {op : UnaryOp} {g : D → Option D} (ho : Op1 X (unaryOp op) g) (ha : VE X W os e1 f1 os1 false) : VE X W os (.UnaryOp op e1 pos) (eOp1 g f1) os1 false := by
  obtain ⟨ta, pa, ka⟩ := ha
  obtain ⟨rr, po, ko⟩ := ho
  refine ⟨_, pe_un po pa, fun S σ H ρ Q rel P => ?_⟩
  refine ka S σ H ρ _ rel (Post.seq P (fun z => z) (fun c fs p => p) fun d ρ1 v S1 H1 st1 rel1 q1 P1 => ?_)
  obtain ⟨c, hc, k⟩ := post_of (P1.step RV.ok st1) rel1
  exact ko S1 H1 v d c _ rel1.sub q1 hc k
theorem ve_cmp {op : CmpOp} {g : D → D → Option D} (ho : Op2 X (compareOp op) g) (ha : VE X W os e1 f1 os1 false) (hb : VE X W os1 e2 f2 os2 false) (hm : behindInMarks op e2 = false := by first | exact nomark _ | rfl) :
    VE X W os (.Compare e1 [op] [e2] pos) (eOp2 g f1 f2) os2 false := by
  obtain ⟨ta, pa, ka⟩ := ha
  obtain ⟨tb, pb, kb⟩ := hb
  obtain ⟨rr, po, ko⟩ := ho
  refine ⟨_, pe_cmpR po pa pb hm, fun S σ H ρ Q rel P => ?_⟩
  refine ka S σ H ρ _ rel (Post.seq P (fun z => z) (fun c fs p => p) fun d ρ1 v S1 H1 st1 rel1 q1 P1 => ?_)
  have P1 := P1.step RV.ok st1
  refine kb S1 σ H1 ρ1 _ rel1 (Post.seq P1 (fun z => z) (fun c fs p => p) fun d2 ρ2 v2 S2 H2 st2 rel2 q2 P2 => ?_)
  obtain ⟨c, hc, k⟩ := post_of (P2.step RV.ok st2) rel2
  exact ko S2 H2 v v2 d d2 c _ rel2.sub (At.mono st2.ext.s q1) q2 hc k

/-! ### argument lists, displays -/
theorem va_nil : VA X W os [] aNil os := ⟨_, pa_nil, fun S σ H ρ Q rel P => P.fin (os' := os) rel ⟨.nil, rfl⟩⟩
theorem va_cons {es : List Expr} {g : Rho → Out (List D × Rho)} (ha : VE X W os e f os1 false) (hb : VA X W os1 es g os2) (hs : starEach (e :: es) X.env = (false, eval e X.env) :: starEach es X.env := by rfl) :
    VA X W os (e :: es) (aCons f g) os2 := by
  obtain ⟨ta, pa, ka⟩ := ha
  obtain ⟨tb, pb, kb⟩ := hb
  refine ⟨_, pa_cons pa pb hs, fun S σ H ρ Q rel P => ?_⟩
  refine ka S σ H ρ _ rel (Post.seq P (fun z => z) (fun c fs p => p) fun d ρ1 v S1 H1 st1 rel1 q1 P1 => ?_)
  have P1 := P1.step RL.ok st1
  refine kb S1 σ H1 ρ1 _ rel1 (Post.seq P1 (fun z => z) (fun c fs p => p) fun d2 ρ2 v2 S2 H2 st2 rel2 q2 P2 => ?_)
  exact (P2.step RL.ok st2).fin (os' := os2) rel2 ⟨.cons (At.mono st2.ext.s q1) q2.1, by rw [List.length_cons, List.length_cons, q2.2]⟩
theorem sz1000 {n : Nat} (h : n ≤ 1000) : n ≤ sizeLine := Nat.le_of_lt (small1000 h)
theorem ve_tup {es : List Expr} {g : Rho → Out (List D × Rho)} {x1} (ha : VA X W os es g os1) (hz : es.length ≤ 1000 := by decide) : VE X W os (.Tuple es x1 pos) (eTup g) os1 false := by
  obtain ⟨ta, pa, ka⟩ := ha
  refine ⟨_, pe_tup pa, fun S σ H ρ Q rel P => ?_⟩
  refine ka S σ H ρ _ rel (Post.seq P (fun z => z) (fun c fs p => p) fun d ρ1 vs S1 H1 st1 rel1 q1 P1 => ?_)
  refine ⟨by rw [q1.1.length, q1.2]; exact sz1000 hz, fun p np => ?_⟩
  have x := Ext.new (O := fun _ => False) (o := .tup vs) rel1.sub np
  exact (P1.step RV.ok st1) _ _ _ (Stp.of_ext x) (rel1.ext0 x) (.tup (.inl (.inl upd_same)) (by rw [q1.2]; exact sz1000 hz) (q1.1.mono x.s))
/-- a new list is told: it stands from now on -/
theorem VE.fz (ha : VE X W os e f os1 true) (hle : Le os1 os := by rfl) : VE X W os e f os1 false := by
  obtain ⟨ta, pa, ka⟩ := ha
  refine ⟨_, pa, fun S σ H ρ Q rel P => ?_⟩
  refine ka S σ H ρ _ rel ?_
  cases h : f ρ with
  | exc c fs => rw [h] at P; exact P
  | stuck => rw [h] at P; exact P
  | ok z =>
    obtain ⟨d, ρ1⟩ := z
    rw [h] at P
    intro v S1 H1 st1 rel1 q1
    have q1 : OwnAt X.K S1 H1 v d ∧ ∀ a, v = .ref a → H a = none := q1
    obtain ⟨⟨a, e, n, qq⟩, fr⟩ := q1
    subst e
    have na := fr a rfl
    have key : ∀ o, H1 a = some o → (Same S1 (upd S1 a o) → At X.K (upd S1 a o) (.ref a) d) → Q (.ref a) H1 := fun o eh hat => by
      have sm : Same S1 (upd S1 a o) := fun b x e => by
        have hb : b ≠ a := fun z => by rw [z, n] at e; cases e
        rw [upd_ne hb]; exact e
      have sh : Same (upd S1 a o) H1 := fun b x e => by
        by_cases hb : b = a
        · subst hb; rw [upd_same] at e; rw [eh]; exact e
        · rw [upd_ne hb] at e; exact rel1.sub b x e
      have hno : ∀ j, os1.getD j false = true → σ[j]? ≠ some (some (.ref a)) := fun j hj hs => by
        obtain ⟨_, o, eo⟩ := rel.owned ⟨j, getD_le hle hj, hs⟩
        rw [na] at eo
        cases eo
      refine P (.ref a) (upd S1 a o) H1 ⟨⟨st1.ext.s.trans sm, sh, fun b x e nb no => ?_, st1.ext.there⟩, st1.own⟩ ⟨sh, rel1.len, fun j x y e1 e2 => ?_, rel1.sep⟩ (hat sm)
      · obtain ⟨e1, n1⟩ := st1.ext.fr b x e nb no
        rw [upd_ne (ne_of_none e na)]
        exact ⟨e1, n1⟩
      · have q := rel1.slot j x y e1 e2
        cases hoj : os1.getD j false <;> rw [hoj] at q <;> cases x <;> cases y <;> simp only [SlotAt] at q ⊢
        · exact q.mono sm
        · obtain ⟨b, eb, nb, q⟩ := q
          subst eb
          have hb : b ≠ a := fun z => hno j hoj (by rw [e1, z])
          refine ⟨b, rfl, by rw [upd_ne hb]; exact nb, ?_⟩
          rcases q with ⟨vs, ds, eh, ed, z, r⟩ | ⟨kvs, ds, eh, ed, z, k, r⟩
          · exact .inl ⟨vs, ds, eh, ed, z, r.mono sm⟩
          · exact .inr ⟨kvs, ds, eh, ed, z, k, r.mono sm⟩
    rcases qq with ⟨vs, ds, eh, rfl, z, rl⟩ | ⟨kvs, ds, eh, rfl, z, k, rl⟩
    · exact key _ eh fun sm => .lst upd_same z (rl.mono sm)
    · exact key _ eh fun sm => .dct upd_same k z (rl.mono sm)
/-- a list display -/
theorem ve_lstO {es : List Expr} {g : Rho → Out (List D × Rho)} (ha : VA X W os es g os1) (hz : es.length ≤ 1000 := by decide) : VE X W os (.List es pos) (eLst g) os1 true := by
  obtain ⟨ta, pa, ka⟩ := ha
  refine ⟨_, pe_lst pa, fun S σ H ρ Q rel P => ?_⟩
  refine ka S σ H ρ _ rel (Post.seq P (fun z => z) (fun c fs p => p) fun d ρ1 vs S1 H1 st1 rel1 q1 P1 => ?_)
  refine ⟨by rw [q1.1.length, q1.2]; exact sz1000 hz, fun p np => ?_⟩
  have x := Ext.newO (O := fun _ => False) (o := .lst vs) rel1.sub np
  exact (P1.step RV.ok st1) _ _ _ (Stp.of_ext x) (rel1.ext0 x) ⟨⟨p, rfl, rel1.sub.free np,   .inl ⟨vs, d, upd_same, rfl, by rw [q1.2]; exact sz1000 hz, q1.1⟩⟩, fun a e => by cases e; exact np⟩

/-! ### tests -/
theorem vt_val (ha : VE X W os e f os1 false) (he : ∀ whole, isTrue e X.env whole = (do let v ← whole; standAt e.pos; holding [v] (truthy v)) := by intro _; rfl) : VT X W os e (tVal f) os1 := by
  obtain ⟨ta, pa, ka⟩ := ha
  refine ⟨_, pt_val pa he, fun S σ H ρ Q rel P => ?_⟩
  refine ka S σ H ρ _ rel (Post.seq P (fun z => z) (fun c fs p => p) fun d ρ1 v S1 H1 st1 rel1 q1 P1 => ?_)
  cases q1 with
  | bl b => exact ⟨b, rfl, (P1.step RB.ok st1).fin (os' := os1) rel1 rfl⟩
  | _ => exact P1.elim
theorem vt_cmp {op : CmpOp} {g : D → D → Option D} (ho : Op2 X (compareOp op) g) (ha : VE X W os e1 f1 os1 false) (hb : VE X W os1 e2 f2 os2 false) (hm : behindInMarks op e2 = false := by first | exact nomark _ | rfl) :
    VT X W os (.Compare e1 [op] [e2] pos) (tVal (eOp2 g f1 f2)) os2 := by
  obtain ⟨ta, pa, ka⟩ := ha
  obtain ⟨tb, pb, kb⟩ := hb
  obtain ⟨rr, po, ko⟩ := ho
  refine ⟨_, pt_cmpR po pa pb hm, fun S σ H ρ Q rel P => ?_⟩
  have P : Post X W S H os σ os2 RB Q ((f1 ρ).bind fun p => ((f2 p.2).bind fun q => (Out.of (g p.1 q.1)).bind fun c => Out.ok (c, q.2)).bind fun p => match p.1 with
    | .bl b => Out.ok (b, p.2)
    | _ => Out.stuck) := by
    unfold tVal eOp2 at P
    cases h : f1 ρ <;> rw [h] at P <;> exact P
  refine ka S σ H ρ _ rel (Post.seq P (fun z => z) (fun c fs p => p) fun d ρ1 v S1 H1 st1 rel1 q1 P1 => ?_)
  have P1 := P1.step RB.ok st1
  have P1 : Post X W S1 H1 os1 σ os2 RB Q ((f2 ρ1).bind fun q => ((Out.of (g d q.1)).bind fun c => Out.ok (c, q.2)).bind fun p => match p.1 with
    | .bl b => Out.ok (b, p.2)
    | _ => Out.stuck) := by
    dsimp only at P1
    cases h : f2 ρ1 <;> rw [h] at P1 <;> exact P1
  refine kb S1 σ H1 ρ1 _ rel1 (Post.seq P1 (fun z => z) (fun c fs p => p) fun d2 ρ2 v2 S2 H2 st2 rel2 q2 P2 => ?_)
  have P2 := P2.step RB.ok st2
  dsimp only at P2
  cases hc : g d d2 with
  | none => rw [hc] at P2; exact P2.elim
  | some c =>
    rw [hc] at P2
    refine ko S2 H2 v v2 d d2 c _ rel2.sub (At.mono st2.ext.s q1) q2 hc fun v' S' H' x hat => ?_
    cases hat with
    | bl b => exact ⟨b, rfl, P2 b S' H' (Stp.of_ext x) (rel2.ext0 x) rfl⟩
    | _ => exact P2.elim
theorem VW.vt {g : Rho → Out (Bool × Rho)} (h : VW X W os e g os1) : VT X W os e g os1 := by
  obtain ⟨t, p, k⟩ := h
  exact ⟨t, p.pt, k⟩
section
variable {g g1 g2 : Rho → Out (Bool × Rho)} {a b : Expr} {rest : List Expr}
theorem vt_not (h : VT X W os a g os1) : VT X W os (.UnaryOp .Not a pos) (tNotF g) os1 := by
  obtain ⟨t, p, k⟩ := h
  refine ⟨_, pt_not p, fun S σ H ρ Q rel P => ?_⟩
  refine k S σ H ρ _ rel (Post.seq P (fun z => z) (fun c fs p => p) fun d ρ1 v S1 H1 st1 rel1 q1 P1 => ?_)
  cases q1
  exact (P1.step RB.ok st1).fin (os' := os1) rel1 rfl
theorem vw_and1 (h : VT X W os a g os1) : VW X W os (.BoolOp .And [a] pos) g os1 := by
  obtain ⟨t, p, k⟩ := h
  exact ⟨t, pw_and1 p, k⟩
theorem vw_or1 (h : VT X W os a g os1) : VW X W os (.BoolOp .Or [a] pos) g os1 := by
  obtain ⟨t, p, k⟩ := h
  exact ⟨t, pw_or1 p, k⟩
theorem vw_and (h : VT X W os a g1 os) (h2 : VW X W os (.BoolOp .And (b :: rest) pos) g2 os) : VW X W os (.BoolOp .And (a :: b :: rest) pos) (tAndF g1 g2) os := by
  obtain ⟨t, p, k⟩ := h
  obtain ⟨t2, p2, k2⟩ := h2
  refine ⟨_, pw_and p p2, fun S σ H ρ Q rel P => ?_⟩
  refine k S σ H ρ _ rel (Post.seq P (fun z => z) (fun c fs p => p) fun d ρ1 v S1 H1 st1 rel1 q1 P1 => ?_)
  cases q1
  cases d with
  | true => exact k2 S1 σ H1 ρ1 Q rel1 (Post.step RB.ok P1 st1)
  | false => exact (Post.step RB.ok P1 st1).fin (os' := os) rel1 rfl
theorem vw_or (h : VT X W os a g1 os) (h2 : VW X W os (.BoolOp .Or (b :: rest) pos) g2 os) : VW X W os (.BoolOp .Or (a :: b :: rest) pos) (tOrF g1 g2) os := by
  obtain ⟨t, p, k⟩ := h
  obtain ⟨t2, p2, k2⟩ := h2
  refine ⟨_, pw_or p p2, fun S σ H ρ Q rel P => ?_⟩
  refine k S σ H ρ _ rel (Post.seq P (fun z => z) (fun c fs p => p) fun d ρ1 v S1 H1 st1 rel1 q1 P1 => ?_)
  cases q1
  cases d with
  | true => exact (Post.step RB.ok P1 st1).fin (os' := os) rel1 rfl
  | false => exact k2 S1 σ H1 ρ1 Q rel1 (Post.step RB.ok P1 st1)
theorem ve_if {c : Expr} (h : VT X W os c g os1) (ha : VE X W os1 a f1 os2 false) (hb : VE X W os1 b f2 os2 false) : VE X W os (.IfExp c a b pos) (eIf g f1 f2) os2 false := by
  obtain ⟨t, p, k⟩ := h
  obtain ⟨ta, pa, ka⟩ := ha
  obtain ⟨tb, pb, kb⟩ := hb
  refine ⟨_, pe_ifExp p pa pb, fun S σ H ρ Q rel P => ?_⟩
  refine k S σ H ρ _ rel (Post.seq P (fun z => z) (fun c fs p => p) fun d ρ1 v S1 H1 st1 rel1 q1 P1 => ?_)
  cases q1
  cases d with
  | true => exact ka S1 σ H1 ρ1 Q rel1 (Post.step RV.ok P1 st1)
  | false => exact kb S1 σ H1 ρ1 Q rel1 (Post.step RV.ok P1 st1)
/-! and, or, not as values (truths) -/
def eAndF (f g : Rho → Out (D × Rho)) : Rho → Out (D × Rho) := fun ρ => (f ρ).bind fun p => match p.1 with
  | .bl true => g p.2
  | .bl false => .ok (.bl false, p.2)
  | _ => .stuck
def eOrF (f g : Rho → Out (D × Rho)) : Rho → Out (D × Rho) := fun ρ => (f ρ).bind fun p => match p.1 with
  | .bl true => .ok (.bl true, p.2)
  | .bl false => g p.2
  | _ => .stuck
def eNotF (f : Rho → Out (D × Rho)) : Rho → Out (D × Rho) := fun ρ => (f ρ).bind fun p => match p.1 with
  | .bl b => .ok (.bl (!b), p.2)
  | _ => .stuck
theorem ve_one {op} (h : VE X W os a f os1 false) : VE X W os (.BoolOp op [a] pos) f os1 false := by
  obtain ⟨t, p, k⟩ := h
  exact ⟨t, pe_one p, k⟩
theorem ve_and (h : VE X W os a f1 os false) (h2 : VE X W os (.BoolOp .And (b :: rest) pos) f2 os false) : VE X W os (.BoolOp .And (a :: b :: rest) pos) (eAndF f1 f2) os false := by
  obtain ⟨t, p, k⟩ := h
  obtain ⟨t2, p2, k2⟩ := h2
  refine ⟨_, pe_and p p2, fun S σ H ρ Q rel P => ?_⟩
  refine k S σ H ρ _ rel (Post.seq P (fun z => z) (fun c fs p => p) fun d ρ1 v S1 H1 st1 rel1 q1 P1 => ?_)
  cases q1 with
  | bl c =>
    cases c with
    | true => exact ⟨true, rfl, k2 S1 σ H1 ρ1 Q rel1 (Post.step RV.ok P1 st1)⟩
    | false => exact ⟨false, rfl, (Post.step RV.ok P1 st1).fin (os' := os) rel1 (.bl false)⟩
  | _ => exact P1.elim
theorem ve_or (h : VE X W os a f1 os false) (h2 : VE X W os (.BoolOp .Or (b :: rest) pos) f2 os false) : VE X W os (.BoolOp .Or (a :: b :: rest) pos) (eOrF f1 f2) os false := by
  obtain ⟨t, p, k⟩ := h
  obtain ⟨t2, p2, k2⟩ := h2
  refine ⟨_, pe_or p p2, fun S σ H ρ Q rel P => ?_⟩
  refine k S σ H ρ _ rel (Post.seq P (fun z => z) (fun c fs p => p) fun d ρ1 v S1 H1 st1 rel1 q1 P1 => ?_)
  cases q1 with
  | bl c =>
    cases c with
    | true => exact ⟨true, rfl, (Post.step RV.ok P1 st1).fin (os' := os) rel1 (.bl true)⟩
    | false => exact ⟨false, rfl, k2 S1 σ H1 ρ1 Q rel1 (Post.step RV.ok P1 st1)⟩
  | _ => exact P1.elim
theorem ve_not (h : VE X W os a f os1 false) : VE X W os (.UnaryOp .Not a pos) (eNotF f) os1 false := by
  obtain ⟨t, p, k⟩ := h
  refine ⟨_, pe_not p, fun S σ H ρ Q rel P => ?_⟩
  refine k S σ H ρ _ rel (Post.seq P (fun z => z) (fun c fs p => p) fun d ρ1 v S1 H1 st1 rel1 q1 P1 => ?_)
  cases q1 with
  | bl c => exact ⟨c, rfl, (Post.step RV.ok P1 st1).fin (os' := os1) rel1 (.bl _)⟩
  | _ => exact P1.elim
end
end
end SW

set_option maxRecDepth 100000
/-! SW3: what a def promises by data (spec), calls, statements, targets, a def by its body. -/
namespace SW
open PySem PySem.Spec PyProof.Rows L2

/-! ### slots stored -/
section
variable {K : PySem.W.Frag} {S S' H H' : Hp} {os os' : Os} {σ σ' : Sg} {ρ ρ' : Rho} {i : Nat} {v : V} {d : D}
theorem getD_set {os : Os} {i j : Nat} {b : Bool} : (os.set i b).getD j false = true → (j ≠ i ∧ os.getD j false = true) ∨ (j = i ∧ b = true) := fun h => by
  by_cases e : i = j
  · subst e
    refine .inr ⟨rfl, ?_⟩
    by_cases hl : i < os.length
    · simpa [List.getD, hl] using h
    · rw [List.getD, List.getElem?_eq_none (by rw [List.length_set]; omega)] at h; cases h
  · rw [getD_set_ne e] at h; exact .inl ⟨fun z => e z.symm, h⟩
theorem own_set {a : Addr} (h : Own (os.set i false) (σ.set i (some v)) a) : Own os σ a := by
  obtain ⟨j, h1, h2⟩ := h
  rcases getD_set h1 with ⟨hj, h1⟩ | ⟨_, z⟩
  · rw [List.getElem?_set_ne (fun z => hj z.symm)] at h2; exact ⟨j, h1, h2⟩
  · cases z
theorem Rel.set (r : Rel K S H os σ ρ) (hv : At K S v d) (i : Nat) : Rel K S H (os.set i false) (σ.set i (some v)) (ρ.set i (some d)) where
  sub := r.sub
  len := by rw [List.length_set, List.length_set]; exact r.len
  slot := fun j x y e1 e2 => by
    by_cases hj : i = j
    · subst hj
      have hl : i < σ.length := by
        have := (List.getElem?_eq_some_iff.mp e1).1
        rwa [List.length_set] at this
      rw [List.getElem?_set_self hl] at e1
      rw [List.getElem?_set_self (by rw [← r.len]; exact hl)] at e2
      cases e1; cases e2
      rw [getD_set_self]; exact hv
    · rw [List.getElem?_set_ne hj] at e1 e2
      rw [getD_set_ne hj]; exact r.slot j x y e1 e2
  sep := fun j k a h1 h2 e1 e2 => by
    rcases getD_set h1 with ⟨hj, h1⟩ | ⟨_, z⟩
    · rcases getD_set h2 with ⟨hk, h2⟩ | ⟨_, z⟩
      · rw [List.getElem?_set_ne (fun z => hj z.symm)] at e1
        rw [List.getElem?_set_ne (fun z => hk z.symm)] at e2
        exact r.sep j k a h1 h2 e1 e2
      · cases z
    · cases z
theorem Rel.setO (r : Rel K S H os σ ρ) (hv : OwnAt K S H v d) (hn : ∀ a, v = .ref a → ∀ j, j ≠ i → os.getD j false = true → σ[j]? ≠ some (some (.ref a))) (hi : i < os.length) : Rel K S H (os.set i true) (σ.set i (some v)) (ρ.set i (some d)) where
  sub := r.sub
  len := by rw [List.length_set, List.length_set]; exact r.len
  slot := fun j x y e1 e2 => by
    by_cases hj : i = j
    · subst hj
      have hl : i < σ.length := by
        have := (List.getElem?_eq_some_iff.mp e1).1
        rwa [List.length_set] at this
      rw [List.getElem?_set_self hl] at e1
      rw [List.getElem?_set_self (by rw [← r.len]; exact hl)] at e2
      cases e1; cases e2
      have e : (os.set i true).getD i false = true := by simp [List.getD, hi]
      rw [e]; exact hv
    · rw [List.getElem?_set_ne hj] at e1 e2
      rw [getD_set_ne hj]; exact r.slot j x y e1 e2
  sep := fun j k a h1 h2 e1 e2 => by
    rcases getD_set h1 with ⟨hj, h1'⟩ | ⟨hj, _⟩
    · rw [List.getElem?_set_ne (fun z => hj z.symm)] at e1
      rcases getD_set h2 with ⟨hk, h2'⟩ | ⟨hk, _⟩
      · rw [List.getElem?_set_ne (fun z => hk z.symm)] at e2
        exact r.sep j k a h1' h2' e1 e2
      · subst hk
        have hl : k < σ.length := by
          have := (List.getElem?_eq_some_iff.mp e2).1
          rwa [List.length_set] at this
        rw [List.getElem?_set_self hl] at e2
        cases e2
        exact (hn a rfl j hj h1' e1).elim
    · rcases getD_set h2 with ⟨hk, h2'⟩ | ⟨hk, _⟩
      · rw [List.getElem?_set_ne (fun z => hk z.symm)] at e2
        subst hj
        have hl : j < σ.length := by
          have := (List.getElem?_eq_some_iff.mp e1).1
          rwa [List.length_set] at this
        rw [List.getElem?_set_self hl] at e1
        cases e1
        exact (hn a rfl k hk h2' e2).elim
      · rw [hj, hk]
theorem own_setO {a : Addr} (h : Own (os.set i true) (σ.set i (some v)) a) : Own os σ a ∨ v = .ref a := by
  obtain ⟨j, h1, h2⟩ := h
  rcases getD_set h1 with ⟨hj, h1⟩ | ⟨hj, _⟩
  · rw [List.getElem?_set_ne (fun z => hj z.symm)] at h2; exact .inl ⟨j, h1, h2⟩
  · subst hj
    have hl : j < σ.length := by
      have := (List.getElem?_eq_some_iff.mp h2).1
      rwa [List.length_set] at this
    rw [List.getElem?_set_self hl] at h2
    cases h2
    exact .inr rfl
/-- the cell of an owning slot holds other data now -/
theorem Rel.turn (r : Rel K S H os σ ρ) {a : Addr} (ho : os.getD i false = true) (hs : σ[i]? = some (some (.ref a))) {o : HO} (hn : OwnAt K S (upd H a o) (.ref a) d) : Rel K S (upd H a o) os σ (ρ.set i (some d)) where
  sub := fun b x e => by
    have hb : b ≠ a := fun z => by
      obtain ⟨a', e', n, _⟩ := hn
      cases e'
      rw [z, n] at e; cases e
    rw [upd_ne hb]; exact r.sub b x e
  len := by rw [List.length_set]; exact r.len
  slot := fun j x y e1 e2 => by
    by_cases hj : i = j
    · subst hj
      rw [hs] at e1
      have hl : i < ρ.length := by
        have := (List.getElem?_eq_some_iff.mp e2).1
        rwa [List.length_set] at this
      rw [List.getElem?_set_self hl] at e2
      cases e1; cases e2
      rw [ho]; exact hn
    · rw [List.getElem?_set_ne hj] at e2
      have q := r.slot j x y e1 e2
      cases hoj : os.getD j false <;> rw [hoj] at q <;> cases x <;> cases y <;> simp only [SlotAt] at q ⊢
      · exact q
      · obtain ⟨b, eb, nb, q⟩ := q
        subst eb
        have hb : b ≠ a := fun z => hj (r.sep i j a ho hoj hs (by rw [e1, z]))
        refine ⟨b, rfl, nb, ?_⟩
        rw [upd_ne hb]; exact q
  sep := r.sep
theorem Stp.turn (r : Rel K S H os σ ρ) {a : Addr} (ho : os.getD i false = true) (hs : σ[i]? = some (some (.ref a))) {o : HO} : Stp os σ S H os σ S (upd H a o) :=
  ⟨Ext.turn r.sub (r.owned ⟨i, ho, hs⟩).1 ⟨i, ho, hs⟩, fun _ q => .inl q⟩
end

/-! ### a def's promise, by data -/
def osP : Option Nat → Os
  | none => []
  | some k => List.replicate k false ++ [true]
/-- n parameters; pm: the parameter whose list or dict the def turns; r: the told list is a new one, the asker's own; m: the value and what the turned one holds then -/
def spec (K : PySem.W.Frag) (mg : Str → Option Value) (n : Nat) (pm : Option Nat) (r : Bool) (m : List D → Out (D × D)) : Sp := fun vs H Q E =>
  vs.length = n ∧ ∃ S ds, Rel K S H (osP pm) (vs.map some) (ds.map some) ∧ match m ds with
    | .ok (d, o) => ∀ v S' H', Ext (Own (osP pm) (vs.map some)) S H S' H' → RV K r H S' H' v d → (∀ k u, pm = some k → vs[k]? = some u → OwnAt K S' H' u o) → Q v H'
    | .exc c fs => ∀ S' H' cls dd, Ext (Own (osP pm) (vs.map some)) S H S' H' → ExcAt K mg S' c fs cls dd → E cls dd H'
    | .stuck => False

theorem rel_args {K : PySem.W.Frag} {S H : Hp} {vs : List V} {ds : List D} (h : AtL K S vs ds) (sub : Same S H) : Rel K S H [] (vs.map some) (ds.map some) where
  sub := sub
  len := by rw [List.length_map, List.length_map, h.length]
  slot := fun i x y e1 e2 => by
    rw [List.getElem?_map] at e1 e2
    cases ed : ds[i]? with
    | none => rw [ed] at e2; cases e2
    | some d =>
      obtain ⟨v, ev, hat⟩ := h.get ed
      rw [ed] at e2; rw [ev] at e1
      cases e1; cases e2
      exact hat
  sep := fun i j a h1 => by simp [List.getD] at h1
theorem own_nil {σ : Sg} {a : Addr} (h : Own [] σ a) : False := by
  obtain ⟨i, h, _⟩ := h
  simp [List.getD] at h

def eCall (m : List D → Out (D × D)) (g : Rho → Out (List D × Rho)) : Rho → Out (D × Rho) := fun ρ => (g ρ).bind fun p => (m p.1).bind fun q => .ok (q.1, p.2)

section
variable {X : Cx} {W : WX} {os os1 os2 os3 : Os} {e e1 e2 : Expr} {f f1 f2 : Rho → Out (D × Rho)} {pos p : Pos} {r r1 r2 : Bool} {es : List Expr} {g : Rho → Out (List D × Rho)}
theorem ve_call {x : Str} {k : Nat} {fa : Addr} {fd : FuncData} {ps : List Str} {m : List D → Out (D × D)} (F : FnOk X.prog X.w X.K X.mg X.base (L2.CX X.prog X.w) k fa fd ps (spec X.K X.mg (es.length + 1) none r m)) (tk : Takes X W)
    (hr : Room k X.A) (hm : X.mg x = some (.ref fa)) (hk : PySem.W.keepIn X.K (.ref fa) = true) (hb : Binds X.K fd ps []) (ha : VA X W os (e :: es) g os1) (hg : Gl X x := by rfl) (hdb : (x == ("__debug__" : Str)) = false := by decide)
    (he : starEach (e :: es) X.env = (false, eval e X.env) :: starEach es X.env := by rfl) (hpl : (backTo pos (starEach es X.env)).any (·.1) = false := by rfl) :
    VE X W os (.Call (.Name x p) (e :: es) [] pos) (eCall m g) os1 r := by
  obtain ⟨ta, pa, ka⟩ := ha
  refine ⟨_, pe_callS F hr hg hm hk hb (fun σ => passAt tk σ) pa hdb he hpl, fun S σ H ρ Q rel P => ?_⟩
  refine ka S σ H ρ _ rel (Post.seq P (fun z => z) (fun c fs p => p) fun ds ρ1 vs S1 H1 st1 rel1 q1 P1 => ?_)
  have P1 := P1.step RV.ok st1
  refine ⟨by rw [q1.1.length, q1.2]; rfl, S1, ds, rel_args q1.1 rel1.sub, ?_⟩
  dsimp only at P1
  cases hmd : m ds with
  | ok z =>
    rw [hmd] at P1
    intro v S' H' x q _
    have x' : Ext (fun _ => False) S1 H1 S' H' := x.weak fun _ z => own_nil z
    exact P1 v S' H' (Stp.of_ext x') (rel1.ext0 x') q
  | exc c fs =>
    rw [hmd] at P1
    exact fun S' H' cls dd x q => P1 S' H' cls dd (x.weak fun _ z => (own_nil z).elim) q
  | stuck => rw [hmd] at P1; exact P1.elim

/-! ### calls that turn what one name holds -/
/-- the arguments' list has at place k the owning slot i itself -/
def RLB (K : PySem.W.Frag) (σ : Sg) (n k i : Nat) : RR (List D) (List V) := fun _ S' _ vs ds => vs.length = n ∧ ds.length = n ∧ (∃ u, vs[k]? = some u ∧ σ[i]? = some (some u)) ∧ ∀ j d, j ≠ k → ds[j]? = some d → ∃ v, vs[j]? = some v ∧ At K S' v d
theorem RLB.ok {K : PySem.W.Frag} {σ : Sg} {n k i : Nat} : (RLB K σ n k i).Ok := fun _ _ _ _ _ _ _ q => q
def VB (X : Cx) (W : WX) (os : Os) (es : List Expr) (k i : Nat) (f : Rho → Out (List D × Rho)) (os' : Os) : Prop :=
  ∃ t, PA X es t ∧ ∀ S σ H ρ Q, Rel X.K S H os σ ρ → Post X W S H os σ os' (RLB X.K σ es.length k i) Q (f ρ) → t σ H Q
def aHole (g : Rho → Out (List D × Rho)) : Rho → Out (List D × Rho) := fun ρ => (g ρ).bind fun p => .ok (.non :: p.1, p.2)
theorem vb_here (i : Nat) {x : Str} (ha : VA X W os es g os1) (ho : os.getD i false = true := by rfl) (hN : X.N[i]? = some x := by rfl) (hv : Vis X.env.scope x := by first | exact Or.inl rfl | exact Or.inr (Or.inl rfl) | exact Or.inr (Or.inr rfl))
    (hd : (x == ("__debug__" : Str)) = false := by decide) (hcd : (x == ("__classdict__" : Str)) = false := by decide) (hs : starEach (.Name x p :: es) X.env = (false, eval (.Name x p) X.env) :: starEach es X.env := by rfl) :
    VB X W os (.Name x p :: es) 0 i (fun ρ => match ρ.getD i none with | some _ => aHole g ρ | none => .stuck) os1 := by
  obtain ⟨ta, pa, ka⟩ := ha
  refine ⟨_, pa_cons (pe_var hN hv hd hcd) pa hs, fun S σ H ρ Q rel P => ?_⟩
  cases h : ρ.getD i none with
  | none => dsimp only at P; rw [h] at P; exact P.elim
  | some d =>
    dsimp only at P; rw [h] at P
    have e : ρ[i]? = some (some d) := by
      cases q : ρ[i]? with
      | none => simp [List.getD, q] at h
      | some y => simp [List.getD, q] at h; rw [h]
    obtain ⟨v, ev, _⟩ := rel.own e ho
    refine ⟨v, ev, ?_⟩
    refine ka S σ H ρ _ rel (Post.seq P (fun z => z) (fun c fs p => p) fun ds ρ1 vs S1 H1 st1 rel1 q1 P1 => ?_)
    refine (P1.step RLB.ok st1).fin (os' := os1) rel1 ⟨by rw [List.length_cons, List.length_cons, q1.1.length, q1.2], by rw [List.length_cons, List.length_cons, q1.2], ⟨v, rfl, ev⟩, fun j d hj ed => ?_⟩
    cases j with
    | zero => exact (hj rfl).elim
    | succ j => exact q1.1.get (i := j) (by simpa using ed)
theorem vb_there {k i : Nat} (ha : VE X W os e f os1 false) (hb : VB X W os1 es k i g os2) (hs : starEach (e :: es) X.env = (false, eval e X.env) :: starEach es X.env := by rfl) : VB X W os (e :: es) (k + 1) i (aCons f g) os2 := by
  obtain ⟨ta, pa, ka⟩ := ha
  obtain ⟨tb, pb, kb⟩ := hb
  refine ⟨_, pa_cons pa pb hs, fun S σ H ρ Q rel P => ?_⟩
  refine ka S σ H ρ _ rel (Post.seq P (fun z => z) (fun c fs p => p) fun d ρ1 v S1 H1 st1 rel1 q1 P1 => ?_)
  have P1 := P1.step RLB.ok st1
  refine kb S1 σ H1 ρ1 _ rel1 (Post.seq P1 (fun z => z) (fun c fs p => p) fun d2 ρ2 v2 S2 H2 st2 rel2 q2 P2 => ?_)
  obtain ⟨h1, h2, h3, h4⟩ := q2
  refine (P2.step RLB.ok st2).fin (os' := os2) rel2 ⟨by rw [List.length_cons, List.length_cons, h1], by rw [List.length_cons, List.length_cons, h2], by simpa using h3, fun j d' hj ed => ?_⟩
  cases j with
  | zero => cases (show some d = some d' by simpa using ed); exact ⟨v, rfl, At.mono st2.ext.s q1⟩
  | succ j => simpa using h4 j d' (fun z => hj (by rw [z])) (by simpa using ed)

def eCallM (m : List D → Out (D × D)) (k i : Nat) (g : Rho → Out (List D × Rho)) : Rho → Out (D × Rho) := fun ρ => (g ρ).bind fun p => match p.2.getD i none with
  | some d => (m (p.1.set k d)).bind fun q => .ok (q.1, p.2.set i (some q.2))
  | none => .stuck
theorem osP_get {k j : Nat} : (osP (some k)).getD j false = true ↔ j = k := by
  unfold osP
  constructor
  · intro h
    by_cases h1 : j < k
    · simp [List.getD, List.getElem?_append, h1] at h
    · by_cases h2 : j = k
      · exact h2
      · rw [List.getD, List.getElem?_eq_none (by simp; omega)] at h; cases h
  · intro h
    subst h
    simp [List.getD]
theorem ve_callM {x : Str} {kk k i : Nat} {fa : Addr} {fd : FuncData} {ps : List Str} {m : List D → Out (D × D)} (F : FnOk X.prog X.w X.K X.mg X.base (L2.CX X.prog X.w) kk fa fd ps (spec X.K X.mg (es.length + 1) (some k) r m)) (tk : Takes X W)
    (hr : Room kk X.A) (hm : X.mg x = some (.ref fa)) (hk : PySem.W.keepIn X.K (.ref fa) = true) (hb : Binds X.K fd ps []) (ha : VB X W os (e :: es) k i g os1) (ho : os1.getD i false = true := by rfl) (hg : Gl X x := by rfl) (hdb : (x == ("__debug__" : Str)) = false := by decide)
    (he : starEach (e :: es) X.env = (false, eval e X.env) :: starEach es X.env := by rfl) (hpl : (backTo pos (starEach es X.env)).any (·.1) = false := by rfl) :
    VE X W os (.Call (.Name x p) (e :: es) [] pos) (eCallM m k i g) os1 r := by
  obtain ⟨ta, pa, ka⟩ := ha
  refine ⟨_, pe_callS F hr hg hm hk hb (fun σ => passAt tk σ) pa hdb he hpl, fun S σ H ρ Q rel P => ?_⟩
  refine ka S σ H ρ _ rel (Post.seq P (fun z => z) (fun c fs p => p) fun ds ρ1 vs S1 H1 st1 rel1 q1 P1 => ?_)
  have P1 := P1.step RV.ok st1
  obtain ⟨l1, l2, ⟨u, ku, eu⟩, q1⟩ := q1
  dsimp only at P1
  cases hd : ρ1.getD i none with
  | none => rw [hd] at P1; exact P1.elim
  | some d =>
    rw [hd] at P1
    dsimp only at P1
    have e1 : ρ1[i]? = some (some d) := by
      cases q : ρ1[i]? with
      | none => simp [List.getD, q] at hd
      | some y => simp [List.getD, q] at hd; rw [hd]
    obtain ⟨u', eu', hown⟩ := rel1.own e1 ho
    have eqq := eu.symm.trans eu'
    cases eqq
    have hkl : k < ds.length := by rw [l2, ← l1]; exact (List.getElem?_eq_some_iff.mp ku).1
    refine ⟨l1, S1, ds.set k d, ⟨rel1.sub, by rw [List.length_map, List.length_map, List.length_set, l1, l2], fun j x y e1 e2 => ?_, fun j j' a h1 h2 _ _ => by rw [osP_get.mp h1, osP_get.mp h2]⟩, ?_⟩
    · rw [List.getElem?_map] at e1 e2
      by_cases hj : j = k
      · subst hj
        rw [osP_get.mpr rfl]
        rw [ku] at e1
        rw [List.getElem?_set_self hkl] at e2
        cases e1; cases e2
        exact hown
      · have hf : (osP (some k)).getD j false = false := by
          cases h : (osP (some k)).getD j false
          · rfl
          · exact (hj (osP_get.mp h)).elim
        rw [hf]
        rw [List.getElem?_set_ne (fun z => hj z.symm)] at e2
        cases ed : ds[j]? with
        | none => rw [ed] at e2; cases e2
        | some d' =>
          obtain ⟨v, ev, hat⟩ := q1 j d' hj ed
          rw [ed] at e2; rw [ev] at e1
          cases e1; cases e2
          exact hat
    · have conv : ∀ a, Own (osP (some k)) (vs.map some) a → σ[i]? = some (some (.ref a)) := fun a ⟨j, h1, h2⟩ => by
        have hj := osP_get.mp h1
        subst hj
        rw [List.getElem?_map, ku] at h2
        have h3 : u = .ref a := by simpa using h2
        rw [eu, h3]
      have hsub : ∀ a, Own (osP (some k)) (vs.map some) a → Own os1 σ a := fun a h => ⟨i, ho, conv a h⟩
      cases hmd : m (ds.set k d) with
      | ok z =>
        rw [hmd] at P1
        intro v S' H' x q qo
        have qo := qo k u rfl ku
        refine P1 v S' H' ⟨x.weak hsub, fun _ q => .inl q⟩ ⟨x.sh, by rw [List.length_set]; exact rel1.len, fun j xx yy e1 e2 => ?_, rel1.sep⟩ q
        by_cases hj : i = j
        · subst hj
          have hl : i < ρ1.length := by
            have := (List.getElem?_eq_some_iff.mp e2).1
            rwa [List.length_set] at this
          rw [List.getElem?_set_self hl] at e2
          rw [eu] at e1
          cases e1; cases e2
          rw [ho]; exact qo
        · rw [List.getElem?_set_ne hj] at e2
          have qq := rel1.slot j xx yy e1 e2
          cases hoj : os1.getD j false <;> rw [hoj] at qq <;> cases xx <;> cases yy <;> simp only [SlotAt] at qq ⊢
          · exact qq.mono x.s
          · refine qq.ext x fun a ea hz => hj (rel1.sep i j a ho hoj (conv a hz) (by rw [e1, ea]))
      | exc c fs =>
        rw [hmd] at P1
        exact fun S' H' cls dd x q => P1 S' H' cls dd (x.weak hsub) q
      | stuck => rw [hmd] at P1; exact P1.elim
end
end SW

set_option maxRecDepth 100000
/-! SW4: statements: what is wanted behind them (PostS), the judgement VS, blocks, if, return, assignments, targets, a def by its body. -/
namespace SW
open PySem PySem.Spec PyProof.Rows L2

inductive Fl where
  | nx (ρ : Rho) | rt (d : D) (ρ : Rho) | bk (ρ : Rho) | ct (ρ : Rho)

/-- the slots that no statement stores -/
def FixOn (fx : Os) (σ σ' : Sg) : Prop := σ'.length = σ.length ∧ ∀ i, fx.getD i false = true → σ'[i]? = σ[i]?
theorem FixOn.refl {fx : Os} {σ : Sg} : FixOn fx σ σ := ⟨rfl, fun _ _ => rfl⟩
theorem FixOn.trans {fx : Os} {σ σ1 σ2 : Sg} (a : FixOn fx σ σ1) (b : FixOn fx σ1 σ2) : FixOn fx σ σ2 := ⟨b.1.trans a.1, fun i h => (b.2 i h).trans (a.2 i h)⟩

/-- a loop's and a def's own: where break and continue lead, what is told, which slots are fixed -/
structure Lc where
  fx : Os
  bk : Os
  ct : Os
  r : Bool

def RetAt (K : PySem.W.Frag) (r : Bool) (os : Os) (σ : Sg) (fx : Os) (H S' H' : Hp) (v : V) (d : D) : Prop :=
  if r = true then OwnAt K S' H' v d ∧ (∀ a, v = .ref a → H a = none ∨ Own os σ a) ∧ (∀ i, fx.getD i false = true → σ[i]? ≠ some (some v)) else At K S' v d

def PostS (X : Cx) (W : WX) (L : Lc) (S H : Hp) (os : Os) (σ : Sg) (osN : Os) (Ds : Ends) : Out Fl → Prop
  | .ok (.nx ρ') => ∀ σ' S' H', Stp os σ S H osN σ' S' H' → FixOn L.fx σ σ' → Rel X.K S' H' osN σ' ρ' → Ds.nx σ' H'
  | .ok (.bk ρ') => ∀ σ' S' H', Stp os σ S H L.bk σ' S' H' → FixOn L.fx σ σ' → Rel X.K S' H' L.bk σ' ρ' → Ds.bk σ' H'
  | .ok (.ct ρ') => ∀ σ' S' H', Stp os σ S H L.ct σ' S' H' → FixOn L.fx σ σ' → Rel X.K S' H' L.ct σ' ρ' → Ds.ct σ' H'
  | .ok (.rt d ρ') => ∀ v S' H', Ext (Own os σ) S H S' H' → RetAt X.K L.r os σ L.fx H S' H' v d →
      (∀ i u, L.fx.getD i false = true → σ[i]? = some (some u) → ∃ d', ρ'[i]? = some (some d') ∧ OwnAt X.K S' H' u d') → Ds.rt v H'
  | .exc c fs => ∀ σ' S' H' cls dd, Ext (Own os σ) S H S' H' → ExcAt X.K X.mg S' c fs cls dd → W cls dd σ' H'
  | .stuck => False

def VS (X : Cx) (W : WX) (L : Lc) (os : Os) (st : Stmt) (g : Rho → Out Fl) (osN : Os) : Prop :=
  ∃ t, PS X st t ∧ ∀ S σ H ρ Ds, Rel X.K S H os σ ρ → PostS X W L S H os σ osN Ds (g ρ) → t Ds σ H
def VSs (X : Cx) (W : WX) (L : Lc) (os : Os) (st : List Stmt) (g : Rho → Out Fl) (osN : Os) : Prop :=
  ∃ t, PSs X st t ∧ ∀ S σ H ρ Ds, Rel X.K S H os σ ρ → PostS X W L S H os σ osN Ds (g ρ) → t Ds σ H

section
variable {X : Cx} {W : WX} {L : Lc} {S H S1 H1 : Hp} {os os1 os2 osN : Os} {σ σ1 : Sg} {Ds : Ends}
theorem PostS.step {x : Out Fl} (p : PostS X W L S H os σ osN Ds x) (s : Stp os σ S H os1 σ1 S1 H1) (f : FixOn L.fx σ σ1) : PostS X W L S1 H1 os1 σ1 osN Ds x := by
  cases x with
  | ok z =>
    cases z with
    | nx ρ' => exact fun σ' S' H' s' f' r => p σ' S' H' (s.trans s') (f.trans f') r
    | bk ρ' => exact fun σ' S' H' s' f' r => p σ' S' H' (s.trans s') (f.trans f') r
    | ct ρ' => exact fun σ' S' H' s' f' r => p σ' S' H' (s.trans s') (f.trans f') r
    | rt d ρ' =>
      refine fun v S' H' e r hk => p v S' H' (s.ext.trans e s.own) ?_ fun i u hf hs => hk i u hf (by rw [f.2 i hf]; exact hs)
      unfold RetAt at r ⊢
      split
      · rename_i hr
        rw [if_pos hr] at r
        refine ⟨r.1, fun a ea => ?_, fun i hf => ?_⟩
        · rcases r.2.1 a ea with q | q
          · exact .inl (s.ext.there a q)
          · exact (s.own a q).symm
        · rw [← f.2 i hf]; exact r.2.2 i hf
      · rename_i hr
        rw [if_neg hr] at r
        exact r
  | exc c fs => exact fun σ' S' H' cls dd e q => p σ' S' H' cls dd (s.ext.trans e s.own) q
  | stuck => exact p
/-- an expression's outcome ahead of a statement's -/
theorem PostS.seqE {α β : Type} {R : RR α β} {Q : β → Hp → Prop} {x : Out (α × Rho)} {k : α × Rho → Out Fl} (P : PostS X W L S H os σ osN Ds (x.bind k))
    (h : ∀ d ρ1 b S1 H1, Stp os σ S H os1 σ S1 H1 → Rel X.K S1 H1 os1 σ ρ1 → R H S1 H1 b d → PostS X W L S1 H1 os1 σ osN Ds (k (d, ρ1)) → Q b H1) : Post X W S H os σ os1 R Q x :=
  Post.seq P (fun z => z) (fun _ _ p S' H' cls dd e q => p σ S' H' cls dd e q) fun d ρ1 b S1 H1 st rel q P => h d ρ1 b S1 H1 st rel q (PostS.step P st FixOn.refl)
theorem PostS.fin {ρ : Rho} (P : PostS X W L S H os σ os Ds (.ok (.nx ρ))) (rel : Rel X.K S H os σ ρ) : Ds.nx σ H := P σ S H (Stp.refl rel.sub) FixOn.refl rel
/-- a statement's outcome ahead of others -/
theorem PostS.seqS {x : Out Fl} {k : Rho → Out Fl} {N : L2.St → Hp → Prop} (P : PostS X W L S H os σ osN Ds (x.bind fun y => match y with | .nx ρ => k ρ | y => .ok y))
    (h : ∀ ρ1 σ1 S1 H1, Stp os σ S H os1 σ1 S1 H1 → FixOn L.fx σ σ1 → Rel X.K S1 H1 os1 σ1 ρ1 → PostS X W L S1 H1 os1 σ1 osN Ds (k ρ1) → N σ1 H1) : PostS X W L S H os σ os1 { Ds with nx := N } x := by
  cases x with
  | ok z =>
    cases z with
    | nx ρ' => exact fun σ' S' H' s' f' r => h ρ' σ' S' H' s' f' r (P.step s' f')
    | bk ρ' => exact P
    | ct ρ' => exact P
    | rt d ρ' => exact P
  | exc c fs => exact P
  | stuck => exact P
end

/-! ### the plain functions -/
def sSkip : Rho → Out Fl := fun ρ => .ok (.nx ρ)
def sSeq (g h : Rho → Out Fl) : Rho → Out Fl := fun ρ => (g ρ).bind fun y => match y with
  | .nx ρ => h ρ
  | y => .ok y
def sExpr (f : Rho → Out (D × Rho)) : Rho → Out Fl := fun ρ => (f ρ).bind fun p => .ok (.nx p.2)
def sRet (f : Rho → Out (D × Rho)) : Rho → Out Fl := fun ρ => (f ρ).bind fun p => .ok (.rt p.1 p.2)
def sRetN : Rho → Out Fl := fun ρ => .ok (.rt .non ρ)
def sIf (c : Rho → Out (Bool × Rho)) (g h : Rho → Out Fl) : Rho → Out Fl := fun ρ => (c ρ).bind fun p => if p.1 = true then g p.2 else h p.2
def sSet (i : Nat) (f : Rho → Out (D × Rho)) : Rho → Out Fl := fun ρ => (f ρ).bind fun p => .ok (.nx (p.2.set i (some p.1)))
def sStuck : Rho → Out Fl := fun _ => .stuck

section
variable {X : Cx} {W : WX} {L : Lc} {os os1 os2 os3 osN : Os} {e e1 e2 : Expr} {f f1 f2 : Rho → Out (D × Rho)} {pos p : Pos} {st : Stmt} {sts rest : List Stmt} {g h : Rho → Out Fl}
theorem vss_nil : VSs X W L os [] sSkip os := ⟨_, pss_nil, fun S σ H ρ Ds rel P => P.fin rel⟩
theorem vss_cons (a : VS X W L os st g os1) (b : VSs X W L os1 rest h os2) : VSs X W L os (st :: rest) (sSeq g h) os2 := by
  obtain ⟨t, pt, kt⟩ := a
  obtain ⟨u, pu, ku⟩ := b
  refine ⟨_, pss_cons pt pu, fun S σ H ρ Ds rel P => ?_⟩
  exact kt S σ H ρ _ rel (PostS.seqS P fun ρ1 σ1 S1 H1 s1 f1 r1 P1 => ku S1 σ1 H1 ρ1 Ds r1 P1)
theorem vss_one (a : VS X W L os st g os1) : VSs X W L os [st] g os1 := by
  obtain ⟨t, pt, kt⟩ := a
  exact ⟨t, pss_one pt, kt⟩
theorem vs_pass : VS X W L os (.Pass pos) sSkip os := ⟨_, ps_pass, fun S σ H ρ Ds rel P => P.fin rel⟩
theorem vs_stuck : VS X W L os st sStuck osN := ⟨_, ps_never, fun _ _ _ _ _ _ P => P⟩
theorem vss_stuck : VSs X W L os sts sStuck osN := ⟨_, pss_never, fun _ _ _ _ _ _ P => P⟩
theorem vs_expr {r : Bool} (he : VE X W os e f os1 r) (hs : swapsWith e none pos.line X.env = pure false := by rfl) : VS X W L os (.Expr e pos) (sExpr f) os1 := by
  obtain ⟨t, pt, kt⟩ := he
  refine ⟨_, ps_expr pt hs, fun S σ H ρ Ds rel P => ?_⟩
  exact kt S σ H ρ _ rel (PostS.seqE P fun d ρ1 v S1 H1 s1 r1 q1 P1 => P1.fin r1)
theorem fix_end {σ : Sg} {S H : Hp} {ρ : Rho} {fx : Os} (rel : Rel X.K S H os σ ρ) (hf : Le fx os) : ∀ i u, fx.getD i false = true → σ[i]? = some (some u) → ∃ d', ρ[i]? = some (some d') ∧ OwnAt X.K S H u d' := fun i u h hs => by
  have ho := getD_le hf h
  have hl : i < ρ.length := by rw [← rel.len]; exact (List.getElem?_eq_some_iff.mp hs).1
  have q := rel.slot i _ _ hs (List.getElem?_eq_getElem hl)
  rw [ho] at q
  cases ed : ρ[i] with
  | none => rw [ed] at q; exact q.elim
  | some d => rw [ed] at q; exact ⟨d, by rw [List.getElem?_eq_getElem hl, ed], q⟩
theorem vs_ret (he : VE X W os e f os1 false) (hr : L.r = false := by rfl) (hf : Le L.fx os1 := by rfl) : VS X W L os (.Return (some e) pos) (sRet f) osN := by
  obtain ⟨t, pt, kt⟩ := he
  refine ⟨_, ps_ret pt, fun S σ H ρ Ds rel P => ?_⟩
  refine kt S σ H ρ _ rel (PostS.seqE P fun d ρ1 v S1 H1 s1 r1 q1 P1 => ?_)
  exact P1 v S1 H1 (Ext.refl r1.sub) (by unfold RetAt; rw [hr]; exact q1) (fix_end r1 hf)
theorem vs_retO (he : VE X W os e f os1 true) (hr : L.r = true := by rfl) (hf : Le L.fx os1 := by rfl) (hf0 : Le L.fx os := by rfl) : VS X W L os (.Return (some e) pos) (sRet f) osN := by
  obtain ⟨t, pt, kt⟩ := he
  refine ⟨_, ps_ret pt, fun S σ H ρ Ds rel P => ?_⟩
  refine kt S σ H ρ _ rel (Post.seq P (fun z => z) (fun _ _ p S' H' cls dd e q => p σ S' H' cls dd e q) fun d ρ1 v S1 H1 s1 r1 q1 P1 => ?_)
  refine P1 v S1 H1 s1.ext ?_ (fix_end r1 hf)
  unfold RetAt
  rw [hr]
  refine ⟨q1.1, fun a ea => .inl (q1.2 a ea), fun i hi hs => ?_⟩
  obtain ⟨a, o, ea, na, _⟩ := OwnAt.some_ q1.1
  subst ea
  obtain ⟨n, o, eo⟩ := rel.owned ⟨i, getD_le hf0 hi, hs⟩
  rw [q1.2 a rfl] at eo
  cases eo
/-- what an owning name holds is told -/
theorem vs_retV (i : Nat) {x : Str} (ho : os.getD i false = true := by rfl) (hr : L.r = true := by rfl) (hf : Le L.fx os := by rfl) (hfi : L.fx.getD i false = false := by rfl) (hN : X.N[i]? = some x := by rfl)
    (hv : Vis X.env.scope x := by first | exact Or.inl rfl | exact Or.inr (Or.inl rfl) | exact Or.inr (Or.inr rfl)) (hd : (x == ("__debug__" : Str)) = false := by decide) (hcd : (x == ("__classdict__" : Str)) = false := by decide) :
    VS X W L os (.Return (some (.Name x p)) pos) (sRet (eVar i)) osN := by
  refine ⟨_, ps_ret (pe_var hN hv hd hcd), fun S σ H ρ Ds rel P => ?_⟩
  unfold sRet eVar at P
  cases h : ρ.getD i none with
  | none => rw [h] at P; exact P.elim
  | some d =>
    rw [h] at P
    have e : ρ[i]? = some (some d) := by
      cases q : ρ[i]? with
      | none => simp [List.getD, q] at h
      | some y => simp [List.getD, q] at h; rw [h]
    obtain ⟨v, ev, q⟩ := rel.own e ho
    refine ⟨v, ev, P v S H (Ext.refl rel.sub) ?_ (fix_end rel hf)⟩
    unfold RetAt
    rw [hr]
    refine ⟨q, fun a ea => .inr ⟨i, ho, by rw [ev, ea]⟩, fun j hj hs => ?_⟩
    obtain ⟨a, o, ea, _⟩ := OwnAt.some_ q
    have hij : i = j := rel.sep i j a ho (getD_le hf hj) (by rw [ev, ea]) (by rw [hs, ea])
    rw [← hij, hfi] at hj
    cases hj
theorem vs_retN (hr : L.r = false := by rfl) (hf : Le L.fx os := by rfl) : VS X W L os (.Return none pos) sRetN osN :=
  ⟨_, ps_retN, fun S σ H ρ Ds rel P => P .non S H (Ext.refl rel.sub) (by unfold RetAt; rw [hr]; exact .non) (fix_end rel hf)⟩
theorem vs_if {c : Expr} {a b : List Stmt} {gc : Rho → Out (Bool × Rho)} (hc : VT X W os c gc os1) (ha : VSs X W L os1 a g os2) (hb : VSs X W L os1 b h os2) : VS X W L os (.If c a b pos) (sIf gc g h) os2 := by
  obtain ⟨t, p, k⟩ := hc
  obtain ⟨ta, pa, ka⟩ := ha
  obtain ⟨tb, pb, kb⟩ := hb
  refine ⟨_, ps_if p pa pb, fun S σ H ρ Ds rel P => ?_⟩
  refine k S σ H ρ _ rel (PostS.seqE P fun d ρ1 v S1 H1 st1 rel1 q1 P1 => ?_)
  cases q1
  cases d with
  | true => exact ka S1 σ H1 ρ1 Ds rel1 P1
  | false => exact kb S1 σ H1 ρ1 Ds rel1 P1
theorem fix_set {fx : Os} {σ : Sg} {i : Nat} {v : Option V} (h : fx.getD i false = false) : FixOn fx σ (σ.set i v) := ⟨List.length_set, fun j hj => by
  have e : i ≠ j := fun z => by rw [← z, h] at hj; cases hj
  rw [List.getElem?_set_ne e]⟩
/-- x = e -/
theorem vs_set (i : Nat) {x : Str} (he : VE X W os e f os1 false) (hN : X.N.Nodup) (hi : X.N[i]? = some x := by rfl) (hx : Loc X.env.scope x := by first | exact Or.inl rfl | exact Or.inr rfl) (hfi : L.fx.getD i false = false := by rfl)
    (hs : swapsWith e (some (.Name x p)) pos.line X.env = pure false := by rfl) (hf : X.fn x = true ∨ X.env.scope.names.lookup x = some .local := by first | exact .inl rfl | exact .inr rfl | assumption) : VS X W L os (.Assign [.Name x p] e pos) (sSet i f) (os1.set i false) := by
  obtain ⟨t, pt, kt⟩ := he
  refine ⟨_, ps_set hN hi hx pt hs hf, fun S σ H ρ Ds rel P => ?_⟩
  refine kt S σ H ρ _ rel (PostS.seqE P fun d ρ1 v S1 H1 s1 r1 q1 P1 => ?_)
  exact P1 _ S1 H1 ⟨Ext.refl r1.sub, fun a q => .inl (own_set q)⟩ (fix_set hfi) (r1.set q1 i)
/-- x = e, x the owner of the new list or dict -/
theorem vs_setO (i : Nat) {x : Str} (he : VE X W os e f os1 true) (hN : X.N.Nodup) (hi : X.N[i]? = some x := by rfl) (hx : Loc X.env.scope x := by first | exact Or.inl rfl | exact Or.inr rfl) (hfi : L.fx.getD i false = false := by rfl) (hio : i < os1.length := by decide) (hle : Le os1 os := by rfl)
    (hs : swapsWith e (some (.Name x p)) pos.line X.env = pure false := by rfl) (hf : X.fn x = true ∨ X.env.scope.names.lookup x = some .local := by first | exact .inl rfl | exact .inr rfl | assumption) : VS X W L os (.Assign [.Name x p] e pos) (sSet i f) (os1.set i true) := by
  obtain ⟨t, pt, kt⟩ := he
  refine ⟨_, ps_set hN hi hx pt hs hf, fun S σ H ρ Ds rel P => ?_⟩
  refine kt S σ H ρ _ rel (Post.seq P (fun z => z) (fun _ _ p S' H' cls dd e q => p σ S' H' cls dd e q) fun d ρ1 v S1 H1 s1 r1 q1 P1 => ?_)
  refine P1 _ S1 H1 ⟨s1.ext, fun a q => ?_⟩ (fix_set hfi) (r1.setO q1.1 (fun a ea j hj ho hs => ?_) hio)
  · rcases own_setO q with q | q
    · exact s1.own a q
    · exact .inr (q1.2 a q)
  · obtain ⟨n, o, eo⟩ := rel.owned ⟨j, getD_le hle ho, hs⟩
    rw [q1.2 a ea] at eo
    cases eo

/-! ### targets of any form -/
/-- only the slots of ch are stored -/
def ChOn (ch : List Nat) (σ σ' : Sg) : Prop := σ'.length = σ.length ∧ ∀ i, i ∉ ch → σ'[i]? = σ[i]?
theorem ChOn.fix {ch : List Nat} {σ σ' : Sg} {fx : Os} (h : ChOn ch σ σ') (hf : ch.all (fun i => !fx.getD i false) = true) : FixOn fx σ σ' := ⟨h.1, fun i hi => h.2 i fun hm => by
  have q := List.all_eq_true.mp hf i hm
  rw [hi] at q
  cases q⟩
def VG (X : Cx) (os : Os) (tg : Expr) (b : D → Rho → Option Rho) (ch : List Nat) (os' : Os) : Prop :=
  ∃ t, PG X tg t ∧ ∀ S σ H ρ v d ρ' Q, Rel X.K S H os σ ρ → At X.K S v d → b d ρ = some ρ' → (∀ σ', Rel X.K S H os' σ' ρ' → ChOn ch σ σ' → (∀ a, Own os' σ' a → Own os σ a) → Q σ' H) → t v σ H Q
def VGs (X : Cx) (os : Os) (tgs : List Expr) (b : List D → Rho → Option Rho) (ch : List Nat) (os' : Os) : Prop :=
  ∃ t, PGs X tgs t ∧ ∀ S σ H ρ vs ds ρ' Q, Rel X.K S H os σ ρ → AtL X.K S vs ds → b ds ρ = some ρ' → (∀ σ', Rel X.K S H os' σ' ρ' → ChOn ch σ σ' → (∀ a, Own os' σ' a → Own os σ a) → Q σ' H) → t vs σ H Q
def gName (i : Nat) : D → Rho → Option Rho := fun d ρ => some (ρ.set i (some d))
def gNil : List D → Rho → Option Rho := fun ds ρ => match ds with
  | [] => some ρ
  | _ => none
def gCons (b : D → Rho → Option Rho) (c : List D → Rho → Option Rho) : List D → Rho → Option Rho := fun ds ρ => match ds with
  | d :: r => (b d ρ).bind fun ρ1 => c r ρ1
  | [] => none
def gTup (n : Nat) (c : List D → Rho → Option Rho) : D → Rho → Option Rho := fun d ρ => match d with
  | .tup ds => if ds.length = n then c ds ρ else none
  | _ => none
variable {ch ch2 : List Nat}
theorem vg_name (i : Nat) {x : Str} (hN : X.N.Nodup) (hi : X.N[i]? = some x := by rfl) (hx : Loc X.env.scope x := by first | exact Or.inl rfl | exact Or.inr rfl)
    (hf : X.fn x = true ∨ X.env.scope.names.lookup x = some .local := by first | exact .inl rfl | exact .inr rfl | assumption) : VG X os (.Name x p) (gName i) [i] (os.set i false) :=
  ⟨_, pg_name hN hi hx hf, fun S σ H ρ v d ρ' Q rel hv hb hq => by
    cases hb
    exact hq _ (rel.set hv i) ⟨List.length_set, fun j hj => List.getElem?_set_ne fun z => hj (by simp [z])⟩ fun a q => own_set q⟩
theorem vgs_nil : VGs X os [] gNil [] os := ⟨_, pgs_nil, fun S σ H ρ vs ds ρ' Q rel hv hb hq => by
  cases hv with
  | nil => cases hb; exact ⟨rfl, hq σ rel ⟨rfl, fun _ _ => rfl⟩ fun _ q => q⟩
  | cons _ _ => cases hb⟩
theorem vgs_cons {tg : Expr} {tgs : List Expr} {b : D → Rho → Option Rho} {c : List D → Rho → Option Rho} (h1 : VG X os tg b ch os1) (h2 : VGs X os1 tgs c ch2 os2)
    (hs : (assignEach (tg :: tgs) X.env).map (·.2) = assign tg X.env :: (assignEach tgs X.env).map (·.2) := by rfl) : VGs X os (tg :: tgs) (gCons b c) (ch ++ ch2) os2 := by
  obtain ⟨t, pt, kt⟩ := h1
  obtain ⟨u, pu, ku⟩ := h2
  refine ⟨_, pgs_cons pt pu hs, fun S σ H ρ vs ds ρ' Q rel hv hb hq => ?_⟩
  cases hv with
  | nil => cases hb
  | @cons v vs d ds h r =>
    have hb : (b d ρ).bind (fun ρ1 => c ds ρ1) = some ρ' := hb
    cases e1 : b d ρ with
    | none => rw [e1] at hb; cases hb
    | some ρ1 =>
      rw [e1] at hb
      refine ⟨v, vs, rfl, kt S σ H ρ v d ρ1 _ rel h e1 fun σ1 rel1 f1 o1 => ?_⟩
      exact ku S σ1 H ρ1 vs ds ρ' _ rel1 r hb fun σ2 rel2 f2 o2 => hq σ2 rel2 ⟨f2.1.trans f1.1, fun i hi => (f2.2 i fun z => hi (List.mem_append_right _ z)).trans (f1.2 i fun z => hi (List.mem_append_left _ z))⟩ fun a q => o1 a (o2 a q)
theorem vg_tup {es : List Expr} {k : Nat} {c : List D → Rho → Option Rho} (h : VGs X os es c ch os1) (hc : X.calm = true := by rfl) (hn : (assignEach es X.env).length = es.length := by rfl) (hst : (assignEach es X.env).findIdx? (·.1) = none := by rfl) :
    VG X os (.Tuple es k p) (gTup es.length c) ch os1 := by
  obtain ⟨t, pt, kt⟩ := h
  refine ⟨_, pg_tup hc pt hn hst, fun S σ H ρ v d ρ' Q rel hv hb hq => ?_⟩
  cases hv with
  | @tup a vs ds hs z r =>
    have hb : (if ds.length = es.length then c ds ρ else none) = some ρ' := hb
    split at hb
    · rename_i hl
      exact ⟨a, vs, rfl, sqT_mono rel.sub hs, by rw [r.length, hl], kt S σ H ρ vs ds ρ' Q rel r hb hq⟩
    · cases hb
  | _ => cases hb
def sBind (b : D → Rho → Option Rho) (f : Rho → Out (D × Rho)) : Rho → Out Fl := fun ρ => (f ρ).bind fun p => match b p.1 p.2 with
  | some ρ' => .ok (.nx ρ')
  | none => .stuck
/-- a, b = e -/
theorem vs_bind {tg : Expr} {b : D → Rho → Option Rho} (he : VE X W os e f os1 false) (hg : VG X os1 tg b ch os2) (hfx : ch.all (fun i => !L.fx.getD i false) = true := by rfl) (hs : swapsWithSole [tg] e pos.line X.env = pure false := by rfl) (hw : swappedStores [tg] e X.env = pure none := by rfl)
    (h1 : (assignEach [tg] X.env).map (·.2) = [assign tg X.env] := by rfl) : VS X W L os (.Assign [tg] e pos) (sBind b f) os2 := by
  obtain ⟨t, pt, kt⟩ := he
  obtain ⟨u, pu, ku⟩ := hg
  refine ⟨_, ps_asg pt pu hs hw h1, fun S σ H ρ Ds rel P => ?_⟩
  refine kt S σ H ρ _ rel (PostS.seqE P fun d ρ1 v S1 H1 s1 r1 q1 P1 => ?_)
  dsimp only at P1
  cases e1 : b d ρ1 with
  | none => rw [e1] at P1; exact P1.elim
  | some ρ' =>
    rw [e1] at P1
    exact ku S1 σ H1 ρ1 v d ρ' _ r1 q1 e1 fun σ' rel' f' o' => P1 σ' S1 H1 ⟨Ext.refl rel'.sub, fun a q => .inl (o' a q)⟩ (f'.fix hfx) rel'
def sPar (i j : Nat) (g : Rho → Out (List D × Rho)) : Rho → Out Fl := fun ρ => (g ρ).bind fun p => match p.1 with
  | [a, b] => .ok (.nx ((p.2.set i (some a)).set j (some b)))
  | _ => .stuck
/-- a, b = c, d (two plain local names) -/
theorem vs_par (i j : Nat) {x y : Str} {a b : Expr} {px py pt pt2 : Pos} {kt k2} {g : Rho → Out (List D × Rho)} (ha : VA X W os [a, b] g os1) (hN : X.N.Nodup) (hc : X.calm = true := by rfl) (hi : X.N[i]? = some x := by rfl) (hj : X.N[j]? = some y := by rfl) (hij : i ≠ j := by decide)
    (hx : X.env.scope.names.lookup x = some .local := by rfl) (hy : X.env.scope.names.lookup y = some .local := by rfl) (hfi : L.fx.getD i false = false := by rfl) (hfj : L.fx.getD j false = false := by rfl)
    (hw : swappedStores [.Tuple [.Name x px, .Name y py] kt pt] (.Tuple [a, b] k2 pt2) X.env = pure (some [x, y]) := by rfl)
    (hs : swapsWithSole [.Tuple [.Name x px, .Name y py] kt pt] (.Tuple [a, b] k2 pt2) pos.line X.env = pure false := by rfl) :
    VS X W L os (.Assign [.Tuple [.Name x px, .Name y py] kt pt] (.Tuple [a, b] k2 pt2) pos) (sPar i j g) ((os1.set i false).set j false) := by
  obtain ⟨t, pa, ka⟩ := ha
  refine ⟨_, ps_par hc hN hi hj hij hx hy pa hw hs, fun S σ H ρ Ds rel P => ?_⟩
  refine ka S σ H ρ _ rel (PostS.seqE P fun ds ρ1 vs S1 H1 s1 r1 q1 P1 => ?_)
  obtain ⟨q1, l1⟩ := q1
  match ds, vs, q1, P1 with
  | [d1, d2], [v1, v2], .cons h1 (.cons h2 .nil), P1 =>
    refine ⟨v1, v2, rfl, P1 _ S1 H1 ⟨Ext.refl r1.sub, fun a q => .inl (own_set (own_set q))⟩ ((fix_set hfi).trans (fix_set hfj)) ((r1.set h1 i).set h2 j)⟩
end

/-! ### a def by its body -/
def m0 (ρ : Rho) (pm : Option Nat) : D := match pm with
  | none => .non
  | some k => (ρ.getD k none).getD .non
/-- n names; pm: the turned parameter -/
def runF (n : Nat) (pm : Option Nat) (g : Rho → Out Fl) : List D → Out (D × D) := fun ds => match g (ds.map some ++ List.replicate (n - ds.length) none) with
  | .ok (.nx ρ) => .ok (.non, m0 ρ pm)
  | .ok (.rt d ρ) => .ok (d, m0 ρ pm)
  | .exc c fs => .exc c fs
  | _ => .stuck
theorem rel_start {K : PySem.W.Frag} {S H : Hp} {pm : Option Nat} {vs : List V} {ds : List D} {N : List Str} {os : Os} (r : Rel K S H (osP pm) (vs.map some) (ds.map some)) (ho : ∀ i, os.getD i false = (osP pm).getD i false) : Rel K S H os (start N vs) (ds.map some ++ List.replicate (N.length - ds.length) none) := by
  have hl : vs.length = ds.length := by simpa using r.len
  have cut : ∀ {α : Type} {l : List (Option α)} {m i : Nat} {x : Option α}, (l ++ List.replicate m none)[i]? = some x → (l[i]? = some x) ∨ (l.length ≤ i ∧ x = none) := fun {α l m i x} h => by
    by_cases hi : i < l.length
    · rw [List.getElem?_append_left hi] at h; exact .inl h
    · rw [List.getElem?_append_right (by omega), List.getElem?_replicate] at h
      split at h
      · cases h; exact .inr ⟨by omega, rfl⟩
      · cases h
  refine ⟨r.sub, ?_, fun i x y e1 e2 => ?_, fun i j a h1 h2 e1 e2 => ?_⟩
  · unfold L2.start; rw [List.length_append, List.length_append, List.length_map, List.length_map, List.length_replicate, List.length_replicate, hl]
  · unfold L2.start at e1
    rw [ho]
    rcases cut e1 with q1 | ⟨q1, rfl⟩
    · rcases cut e2 with q2 | ⟨q2, rfl⟩
      · exact r.slot i x y q1 q2
      · have := (List.getElem?_eq_some_iff.mp q1).1
        rw [List.length_map] at this q2
        omega
    · rcases cut e2 with q2 | ⟨q2, rfl⟩
      · have := (List.getElem?_eq_some_iff.mp q2).1
        rw [List.length_map] at this q1
        omega
      · cases (osP pm).getD i false <;> trivial
  · unfold L2.start at e1 e2
    rw [ho] at h1 h2
    rcases cut e1 with q1 | ⟨_, q1⟩
    · rcases cut e2 with q2 | ⟨_, q2⟩
      · exact r.sep i j a h1 h2 q1 q2
      · cases q2
    · cases q1
theorem own_start {pm : Option Nat} {vs : List V} {N : List Str} {os : Os} {a : Addr} (ho : ∀ i, os.getD i false = (osP pm).getD i false) (h : Own os (start N vs) a) : Own (osP pm) (vs.map some) a := by
  obtain ⟨i, h1, h2⟩ := h
  rw [ho] at h1
  refine ⟨i, h1, ?_⟩
  unfold L2.start at h2
  by_cases hi : i < (vs.map some).length
  · rw [List.getElem?_append_left hi] at h2; exact h2
  · rw [List.getElem?_append_right (by omega), List.getElem?_replicate] at h2
    split at h2 <;> cases h2
section
variable {P : Program} {w : World} {K : PySem.W.Frag} {mg : Str → Option Value} {base : Heap}
/-- THE RULE: a def's promise by its body's judgement -/
theorem fn_by {x qual : Str} {st : Stmt} {f : Addr} {fd : FuncData} {N ps : List Str} {k n : Nat} {pm : Option Nat} {r : Bool} {g : Rho → Out Fl} {os osN : Os} (F : Fun K x qual st f fd) (Sc : FnScope N ps (defScope st)) (hn : n = ps.length) (hr0 : r = true → osN = osN)
    (ho : ∀ i, os.getD i false = (osP pm).getD i false) (hNl : Le (osP pm) osN) (hnr : r = false ∨ ∀ ρ ρ', g ρ ≠ .ok (.nx ρ'))
    (body : ∀ (cdv : Value) (A : Around) (outer : List Env) (s : Shared) (H : Hp) (E : XK), Room k (A.deeper (envOfC qual (defScope st) s.heap.objs.size f cdv)) →
      ∀ (X : Cx), X = cxOf (L2.CX P w) P w K mg base N qual (defScope st) f cdv A outer s H E → Takes X (fun cls d _ H' => E cls d H') → PassesOwn (model X.prog X.w) X.A X.env X.xe →
      VSs X (fun cls d _ H' => E cls d H') ⟨osP pm, [], [], r⟩ os (defBody st) g osN) :
    FnOk P w K mg base (L2.CX P w) (k + 1) f fd ps (spec K mg n pm r (runF N.length pm g)) := by
  refine F.okX Sc (fun vs H Q E h => by rw [h.1, hn]) (fun cdv A outer s H vs Q E hr h => ?_)
  obtain ⟨hl, S, ds, rel, h⟩ := h
  obtain ⟨t, pt, kt⟩ := body cdv A outer s H E hr _ rfl (takes_of rfl rfl rfl rfl) (passes_of rfl)
  refine ⟨t, pt, kt S _ H _ _ (rel_start (N := N) rel ho) ?_⟩
  have hvl : vs.length = ds.length := by simpa using rel.len
  unfold runF at h
  cases e : g (ds.map some ++ List.replicate (N.length - ds.length) none) with
  | exc c fs =>
    rw [e] at h
    exact fun σ' S' H' cls dd x q => h S' H' cls dd (x.weak fun a q => own_start ho q) q
  | stuck => rw [e] at h; exact h.elim
  | ok z =>
    rw [e] at h
    -- what the turned parameter holds at the end
    have hm : ∀ (ρ : Rho) (σ : Sg) (S' H' : Hp), (∀ i u, (osP pm).getD i false = true → σ[i]? = some (some u) → ∃ d', ρ[i]? = some (some d') ∧ OwnAt K S' H' u d') → FixOn (osP pm) (start N vs) σ → ∀ k u, pm = some k → vs[k]? = some u → OwnAt K S' H' u (m0 ρ pm) := fun ρ σ S' H' hk hf k u ek ev => by
      subst ek
      have hs : (start N vs)[k]? = some (some u) := by
        unfold L2.start
        rw [List.getElem?_append_left (by rw [List.length_map]; exact (List.getElem?_eq_some_iff.mp ev).1), List.getElem?_map, ev]
        rfl
      obtain ⟨d', e1, q⟩ := hk k u (osP_get.mpr rfl) (by rw [hf.2 k (osP_get.mpr rfl)]; exact hs)
      have e2 : m0 ρ (some k) = d' := by
        show (ρ.getD k none).getD .non = d'
        rw [List.getD, e1]; rfl
      rw [e2]; exact q
    cases z with
    | bk ρ => exact h.elim
    | ct ρ => exact h.elim
    | nx ρ =>
      rcases hnr with hnr | hnr
      · subst hnr
        exact fun σ' S' H' s' f' r' => h .non S' H' (s'.ext.weak fun a q => own_start ho q) .non (hm ρ σ' S' H' (fix_end (X := cxOf (L2.CX P w) P w K mg base N qual (defScope st) f cdv A outer s H E) r' hNl) f')
      · exact (hnr _ _ e).elim
    | rt d ρ =>
      refine fun v S' H' x hv hk => h v S' H' (x.weak fun a q => own_start ho q) ?_ (hm ρ _ S' H' hk FixOn.refl)
      unfold RetAt at hv
      unfold RV
      cases r with
      | false => exact hv
      | true =>
        refine ⟨hv.1, fun a ea => ?_⟩
        rcases hv.2.1 a ea with q | ⟨i, h1, h2⟩
        · exact q
        · exact (hv.2.2 i (by rw [ho] at h1; exact h1) (by rw [h2, ea])).elim
end
end SW

set_option maxRecDepth 100000
/-! SW5: what loops walk (VI), for, while, list comprehensions. -/
namespace SW
open PySem PySem.Spec PyProof.Rows L2

/-- the walk J yields these data, one a turn, whatever is laid beside -/
def ItAt (K : PySem.W.Frag) (S0 : Hp) (J : It) (items : List D) : Prop := items.length ≤ sizeLine ∧ ∀ i S H, Same S0 S → Same S H →
  (items.length ≤ i → J.stop i H) ∧ ∀ d, items[i]? = some d → J.go i H ∧ ∀ x H', J.yld i H x H' → ∃ S', Ext (fun _ => False) S H S' H' ∧ At K S' x d
def RI (K : PySem.W.Frag) : RR (List D) It := fun _ S' _ J items => ItAt K S' J items
theorem RI.ok {K : PySem.W.Frag} : (RI K).Ok := fun _ _ _ _ _ _ _ q => q
def VI (X : Cx) (W : WX) (os : Os) (tg iter : Expr) (f : Rho → Out (List D × Rho)) (os' : Os) : Prop :=
  ∃ wi, PI X tg iter wi ∧ ∀ S σ H ρ R, Rel X.K S H os σ ρ → Post X W S H os σ os' (RI X.K) R (f ρ) → wi σ H R

theorem pi_or {X : Cx} {tg iter : Expr} {w1 w2 : TI} (h1 : PI X tg iter w1) (h2 : PI X tg iter w2) : PI X tg iter (fun σ H R => w1 σ H R ∨ w2 σ H R) :=
  ⟨fun pins s σ H R I h => h.elim (h1.run pins s σ H R I) (h2.run pins s σ H R I)⟩

def itemsOf : D → Option (List D)
  | .lst ds => some ds
  | .tup ds => some ds
  | .scr ns => some (ns.map .int)
  | _ => none
def iSeq (f : Rho → Out (D × Rho)) : Rho → Out (List D × Rho) := fun ρ => (f ρ).bind fun p => (Out.of (itemsOf p.1)).bind fun c => .ok (c, p.2)

section
variable {K : PySem.W.Frag} {S S1 H : Hp}
theorem itAt_list {a : Addr} {vs : List V} {ds : List D} (h : SqL K S a vs) (z : ds.length ≤ sizeLine) (r : AtL K S vs ds) : ItAt K S (Itl K a) ds := ⟨z, fun i S' H' s1 s2 => by
  have hs : SqL K H' a vs := s2.seq (s1.seq h)
  refine ⟨fun hi => ⟨vs, hs, by rw [r.length]; exact hi⟩, fun d hd => ?_⟩
  obtain ⟨v, ev, hat⟩ := r.get hd
  refine ⟨⟨vs, v, hs, ev⟩, fun x H2 y => ?_⟩
  obtain ⟨rfl, fv⟩ := y
  have e := (fv vs hs).symm.trans ev
  cases e
  exact ⟨S', Ext.refl s2, hat.mono s1⟩⟩
theorem itAt_tup {a : Addr} {vs : List V} {ds : List D} (h : SqT K S a vs) (z : ds.length ≤ sizeLine) (r : AtL K S vs ds) : ItAt K S (Itt K a) ds := ⟨z, fun i S' H' s1 s2 => by
  have hs : SqT K H' a vs := sqT_mono s2 (sqT_mono s1 h)
  refine ⟨fun hi => ⟨vs, hs, by rw [r.length]; exact hi⟩, fun d hd => ?_⟩
  obtain ⟨v, ev, hat⟩ := r.get hd
  refine ⟨⟨vs, v, hs, ev⟩, fun x H2 y => ?_⟩
  obtain ⟨rfl, fv⟩ := y
  have e := (fv vs hs).symm.trans ev
  cases e
  exact ⟨S', Ext.refl s2, hat.mono s1⟩⟩
end
section
variable {X : Cx} {W : WX} {L : Lc} {os os1 os2 os3 osN : Os} {e e1 e2 : Expr} {f f1 f2 : Rho → Out (D × Rho)} {pos p : Pos} {st : Stmt} {sts rest : List Stmt} {tg iter : Expr}

/-- over a list or a tuple that stands -/
theorem vi_seq (he : VE X W os e f os1 false) : VI X W os tg e (iSeq f) os1 := by
  obtain ⟨t, pt, kt⟩ := he
  refine ⟨_, pi_or (pi_list pt) (pi_tup pt), fun S σ H ρ R rel P => ?_⟩
  cases hf : f ρ with
  | stuck => unfold iSeq at P; rw [hf] at P; exact P.elim
  | exc c fs =>
    refine .inl (kt S σ H ρ _ rel ?_)
    unfold iSeq at P
    rw [hf] at P ⊢
    exact P
  | ok z =>
    obtain ⟨d, ρ1⟩ := z
    unfold iSeq at P
    rw [hf] at P
    have P : Post X W S H os σ os1 (RI X.K) R ((Out.of (itemsOf d)).bind fun c => Out.ok (c, ρ1)) := P
    cases d with
    | lst ds =>
      refine .inl (kt S σ H ρ _ rel ?_)
      rw [hf]
      intro v S1 H1 st1 rel1 q1
      cases (show At X.K S1 v (.lst ds) from q1) with
      | lst hs z r => exact ⟨_, rfl, ⟨_, .of (rel1.sub _ _ hs)⟩, P _ S1 H1 st1 rel1 (itAt_list (.of hs) z r)⟩
    | scr ns =>
      refine .inl (kt S σ H ρ _ rel ?_)
      rw [hf]
      intro v S1 H1 st1 rel1 q1
      cases (show At X.K S1 v (.scr ns) from q1) with
      | scr hs z => exact ⟨_, rfl, ⟨_, rel1.sub.seq hs⟩, P _ S1 H1 st1 rel1 (itAt_list hs (by rw [List.length_map]; exact z) (AtL.ints ns))⟩
    | tup ds =>
      refine .inr (kt S σ H ρ _ rel ?_)
      rw [hf]
      intro v S1 H1 st1 rel1 q1
      cases (show At X.K S1 v (.tup ds) from q1) with
      | tup hs z r => exact ⟨_, rfl, ⟨_, sqT_mono rel1.sub hs⟩, P _ S1 H1 st1 rel1 (itAt_tup hs z r)⟩
    | _ => exact P.elim

/-! ### ranges -/
def lim62 (i : Int) : Bool := decide (-4611686018427387904 ≤ i) && decide (i < 4611686018427387904)
def rngI (lo : Int) (n : Nat) : List D := (List.range n).map fun i => .int (lo + (i : Nat))
def rangeD : List D → Option (List D)
  | [.int j] => if j ≤ 16777216 ∧ -4611686018427387904 ≤ j then some (rngI 0 j.toNat) else none
  | [.int i, .int j] => if j - i ≤ 16777216 ∧ lim62 i = true ∧ lim62 j = true then some (rngI i (j - i).toNat) else none
  | [.int i, .int j, .int c] => if c = -1 ∧ i - j ≤ 16777216 ∧ lim62 i = true ∧ lim62 j = true then some ((List.range (i - j).toNat).map fun k => .int (i + (k : Nat) * (-1))) else none
  | _ => none
def iRange (g : Rho → Out (List D × Rho)) : Rho → Out (List D × Rho) := fun ρ => (g ρ).bind fun p => (Out.of (rangeD p.1)).bind fun c => .ok (c, p.2)
theorem sizeLine_is : sizeLine = 16777216 := by decide
theorem itAt_rng {K : PySem.W.Frag} {S : Hp} {lo : Int} {n : Nat} (hn : n ≤ sizeLine) : ItAt K S (Itr lo n) (rngI lo n) := by
  have hl : (rngI lo n).length = n := by unfold rngI; rw [List.length_map, List.length_range]
  refine ⟨by rw [hl]; exact hn, fun i S' H' s1 s2 => ⟨fun hi => by rw [hl] at hi; exact hi, fun d hd => ?_⟩⟩
  have hi : i < n := by rw [← hl]; exact (List.getElem?_eq_some_iff.mp hd).1
  refine ⟨hi, fun x H2 y => ?_⟩
  obtain ⟨rfl, rfl⟩ := y
  unfold rngI at hd
  rw [List.getElem?_map, List.getElem?_range hi] at hd
  cases hd
  exact ⟨S', Ext.refl s2, .int _⟩
theorem itAt_rngc {K : PySem.W.Frag} {S : Hp} {lo : Int} {n : Nat} (hn : n ≤ sizeLine) : ItAt K S (Itc lo (-1) n) ((List.range n).map fun k => .int (lo + (k : Nat) * (-1))) := by
  have hl : ((List.range n).map fun k => D.int (lo + (k : Nat) * (-1))).length = n := by rw [List.length_map, List.length_range]
  refine ⟨by rw [hl]; exact hn, fun i S' H' s1 s2 => ⟨fun hi => by rw [hl] at hi; exact hi, fun d hd => ?_⟩⟩
  have hi : i < n := by rw [← hl]; exact (List.getElem?_eq_some_iff.mp hd).1
  refine ⟨hi, fun x H2 y => ?_⟩
  obtain ⟨rfl, rfl⟩ := y
  rw [List.getElem?_map, List.getElem?_range hi] at hd
  cases hd
  exact ⟨S', Ext.refl s2, .int _⟩
theorem lim62_iff {i : Int} (h : lim62 i = true) : -(2 ^ 62) ≤ i ∧ i < 2 ^ 62 := by
  unfold lim62 at h
  rw [Bool.and_eq_true] at h
  have h1 := of_decide_eq_true h.1
  have h2 := of_decide_eq_true h.2
  exact ⟨by omega, by omega⟩
theorem vi_range1 {a : Expr} {g : Rho → Out (List D × Rho)} (ha : VA X W os [a] g os1) (hm : X.mg "range" = none) (hg : Gl X "range" := by rfl) (hs : starEach [a] X.env = [(false, eval a X.env)] := by rfl) : VI X W os tg (.Call (.Name "range" p) [a] [] pos) (iRange g) os1 := by
  obtain ⟨t, pt, kt⟩ := ha
  refine ⟨_, pi_range1 hg hm pt hs, fun S σ H ρ R rel P => ?_⟩
  refine kt S σ H ρ _ rel (Post.seq P (fun z => z) (fun c fs p => p) fun ds ρ1 vs S1 H1 st1 rel1 q1 P1 => ?_)
  obtain ⟨q1, l1⟩ := q1
  match ds, vs, q1, P1 with
  | [d1], [v1], .cons h1 .nil, P1 =>
    have P1 : Post X W S H os σ os1 (RI X.K) R ((Out.of (rangeD [d1])).bind fun c => Out.ok (c, ρ1)) := P1
    cases h1 with
    | int j =>
      have P1 : Post X W S H os σ os1 (RI X.K) R ((Out.of (if j ≤ 16777216 ∧ -4611686018427387904 ≤ j then some (rngI 0 j.toNat) else none)).bind fun c => Out.ok (c, ρ1)) := P1
      split at P1
      · rename_i hj
        refine ⟨j, rfl, by omega, by omega, (P1.step RI.ok st1).fin (os' := os1) rel1 (itAt_rng ?_)⟩
        rw [sizeLine_is]
        omega
      · exact P1.elim
    | _ => exact P1.elim
theorem vi_range2 {a b : Expr} {g : Rho → Out (List D × Rho)} (ha : VA X W os [a, b] g os1) (hm : X.mg "range" = none) (hg : Gl X "range" := by rfl) (hs : starEach [a, b] X.env = [(false, eval a X.env), (false, eval b X.env)] := by rfl) (hs2 : starEach [b] X.env = [(false, eval b X.env)] := by rfl) :
    VI X W os tg (.Call (.Name "range" p) [a, b] [] pos) (iRange g) os1 := by
  obtain ⟨t, pt, kt⟩ := ha
  refine ⟨_, pi_range2 hg hm pt hs hs2, fun S σ H ρ R rel P => ?_⟩
  refine kt S σ H ρ _ rel (Post.seq P (fun z => z) (fun c fs p => p) fun ds ρ1 vs S1 H1 st1 rel1 q1 P1 => ?_)
  obtain ⟨q1, l1⟩ := q1
  match ds, vs, q1, P1 with
  | [d1, d2], [v1, v2], .cons h1 (.cons h2 .nil), P1 =>
    have P1 : Post X W S H os σ os1 (RI X.K) R ((Out.of (rangeD [d1, d2])).bind fun c => Out.ok (c, ρ1)) := P1
    cases h1 with
    | int i =>
      cases h2 with
      | int j =>
        have P1 : Post X W S H os σ os1 (RI X.K) R ((Out.of (if j - i ≤ 16777216 ∧ lim62 i = true ∧ lim62 j = true then some (rngI i (j - i).toNat) else none)).bind fun c => Out.ok (c, ρ1)) := P1
        split at P1
        · rename_i hj
          have hi := lim62_iff hj.2.1
          have hj2 := lim62_iff hj.2.2
          refine ⟨i, j, rfl, ⟨hi.1, hi.2, hj2.1, hj2.2⟩, (P1.step RI.ok st1).fin (os' := os1) rel1 (itAt_rng ?_)⟩
          rw [sizeLine_is]
          omega
        · exact P1.elim
      | _ => exact P1.elim
    | _ => exact P1.elim
theorem vi_range3 {a b c : Expr} {g : Rho → Out (List D × Rho)} (ha : VA X W os [a, b, c] g os1) (hm : X.mg "range" = none) (hg : Gl X "range" := by rfl) (hs : starEach [a, b, c] X.env = (false, eval a X.env) :: starEach [b, c] X.env := by rfl) (hpl : (backTo pos (starEach [b, c] X.env)).any (·.1) = false := by rfl) :
    VI X W os tg (.Call (.Name "range" p) [a, b, c] [] pos) (iRange g) os1 := by
  obtain ⟨t, pt, kt⟩ := ha
  refine ⟨_, pi_range3 hg hm pt hs hpl, fun S σ H ρ R rel P => ?_⟩
  refine kt S σ H ρ _ rel (Post.seq P (fun z => z) (fun c fs p => p) fun ds ρ1 vs S1 H1 st1 rel1 q1 P1 => ?_)
  obtain ⟨q1, l1⟩ := q1
  match ds, vs, q1, P1 with
  | [d1, d2, d3], [v1, v2, v3], .cons h1 (.cons h2 (.cons h3 .nil)), P1 =>
    have P1 : Post X W S H os σ os1 (RI X.K) R ((Out.of (rangeD [d1, d2, d3])).bind fun c => Out.ok (c, ρ1)) := P1
    cases h1 with
    | int i =>
      cases h2 with
      | int j =>
        cases h3 with
        | int k =>
          replace P1 : Post X W S H os σ os1 (RI X.K) R ((Out.of (if k = -1 ∧ i - j ≤ 16777216 ∧ lim62 i = true ∧ lim62 j = true then some ((List.range (i - j).toNat).map fun k => D.int (i + (k : Nat) * (-1))) else none)).bind fun c => Out.ok (c, ρ1)) := P1
          split at P1
          · rename_i hj
            have P2 : Post X W S1 H1 os1 σ os1 (RI X.K) R (Out.ok (((List.range (i - j).toNat).map fun k => D.int (i + (k : Nat) * (-1))), ρ1)) := Post.step RI.ok P1 st1
            obtain ⟨hk, hz, hi, hj⟩ := hj
            have hi := lim62_iff hi
            have hj := lim62_iff hj
            exact ⟨i, j, k, (i - j).toNat, rfl, by rw [hk]; exact RgC.neg hi.1 hi.2 hj.1 hj.2, P2 _ _ _ (Stp.refl rel1.sub) rel1 (by rw [hk]; exact itAt_rngc (by rw [sizeLine_is]; omega))⟩
          · exact P1.elim
        | _ => exact P1.elim
      | _ => exact P1.elim
    | _ => exact P1.elim

/-! ### enumerate, zip of lists -/
def enumD (ds : List D) : List D := (List.range ds.length).zipWith (fun i d => .tup [.int (i : Nat), d]) ds
def zipD (ds es : List D) : List D := ds.zipWith (fun d e => .tup [d, e]) es
def iEnum1 : List D → Option (List D)
  | [.lst ds] => some (enumD ds)
  | _ => none
def iZip2 : List D → Option (List D)
  | [.lst ds, .lst es] => some (zipD ds es)
  | _ => none
def iArg (h : List D → Option (List D)) (g : Rho → Out (List D × Rho)) : Rho → Out (List D × Rho) := fun ρ => (g ρ).bind fun p => (Out.of (h p.1)).bind fun c => .ok (c, p.2)
theorem two_ok : 2 ≤ sizeLine := by decide
theorem vi_enum {elts : List Expr} {kk : Nat} {tpos : Pos} {g : Rho → Out (List D × Rho)} (ha : VA X W os [e] g os1) (hm : X.mg "enumerate" = none) (hg : Gl X "enumerate" := by rfl) (hs : starEach [e] X.env = [(false, eval e X.env)] := by rfl) :
    VI X W os (.Tuple elts kk tpos) (.Call (.Name "enumerate" p) [e] [] pos) (iArg iEnum1 g) os1 := by
  obtain ⟨t, pt, kt⟩ := ha
  refine ⟨_, pi_enum hg hm pt hs, fun S σ H ρ R rel P => ?_⟩
  refine kt S σ H ρ _ rel (Post.seq P (fun z => z) (fun c fs p => p) fun ds ρ1 vs S1 H1 st1 rel1 q1 P1 => ?_)
  obtain ⟨q1, l1⟩ := q1
  match ds, vs, q1, P1 with
  | [d1], [v1], .cons h1 .nil, P1 =>
    have P1 : Post X W S H os σ os1 (RI X.K) R ((Out.of (iEnum1 [d1])).bind fun c => Out.ok (c, ρ1)) := P1
    cases h1 with
    | @lst a vs ds hs z r =>
      have hl : (enumD ds).length = ds.length := by unfold enumD; rw [List.length_zipWith, List.length_range, Nat.min_self]
      refine ⟨a, vs, rfl, .of (rel1.sub _ _ hs), (P1.step RI.ok st1).fin (os' := os1) rel1 ⟨by rw [hl]; exact z, fun i S' H' s1 s2 => ?_⟩⟩
      have hs' : SqL X.K H' a vs := .of (s2 _ _ (s1 _ _ hs))
      refine ⟨fun hi => ⟨vs, hs', by rw [r.length, ← hl]; exact hi⟩, fun d hd => ?_⟩
      have hi : i < ds.length := by rw [← hl]; exact (List.getElem?_eq_some_iff.mp hd).1
      obtain ⟨v, ev, hat⟩ := r.get (List.getElem?_eq_getElem hi)
      refine ⟨⟨vs, v, hs', ev⟩, fun x H2 y => ?_⟩
      obtain ⟨T, x', rfl, nT, rfl, fx⟩ := y
      have e := (fx vs hs').symm.trans ev
      cases e
      have xx := Ext.new (O := fun _ => False) (o := .tup [.int (i : Nat), v]) s2 nT
      refine ⟨_, xx, ?_⟩
      have ed : d = .tup [.int (i : Nat), ds[i]] := by
        unfold enumD at hd
        rw [List.getElem?_zipWith, List.getElem?_range hi, List.getElem?_eq_getElem hi] at hd
        exact (Option.some.inj hd).symm
      rw [ed]
      exact .tup (.inl (.inl upd_same)) two_ok (.cons (.int _) (.cons ((hat.mono s1).mono xx.s) .nil))
    | _ => exact P1.elim
theorem vi_zip {elts : List Expr} {kk : Nat} {tpos : Pos} {g : Rho → Out (List D × Rho)} (ha : VA X W os [e, e2] g os1) (hm : X.mg "zip" = none) (hg : Gl X "zip" := by rfl)
    (hs : starEach [e, e2] X.env = (false, eval e X.env) :: starEach [e2] X.env := by rfl) (hpl : (backTo pos (starEach [e2] X.env)).any (·.1) = false := by rfl) :
    VI X W os (.Tuple elts kk tpos) (.Call (.Name "zip" p) [e, e2] [] pos) (iArg iZip2 g) os1 := by
  obtain ⟨t, pt, kt⟩ := ha
  refine ⟨_, pi_zip hg hm pt hs hpl, fun S σ H ρ R rel P => ?_⟩
  refine kt S σ H ρ _ rel (Post.seq P (fun z => z) (fun c fs p => p) fun ds ρ1 vs S1 H1 st1 rel1 q1 P1 => ?_)
  obtain ⟨q1, l1⟩ := q1
  match ds, vs, q1, P1 with
  | [d1, d2], [v1, v2], .cons h1 (.cons h2 .nil), P1 =>
    have P1 : Post X W S H os σ os1 (RI X.K) R ((Out.of (iZip2 [d1, d2])).bind fun c => Out.ok (c, ρ1)) := P1
    cases h1 with
    | @lst a vs ds hs z r =>
      cases h2 with
      | @lst b ws es ht z2 r2 =>
        have hl : (zipD ds es).length = min ds.length es.length := by unfold zipD; rw [List.length_zipWith]
        refine ⟨a, b, vs, ws, rfl, .of (rel1.sub _ _ hs), .of (rel1.sub _ _ ht), (P1.step RI.ok st1).fin (os' := os1) rel1 ⟨by rw [hl]; omega, fun i S' H' s1 s2 => ?_⟩⟩
        have hs' : SqL X.K H' a vs := .of (s2 _ _ (s1 _ _ hs))
        have ht' : SqL X.K H' b ws := .of (s2 _ _ (s1 _ _ ht))
        refine ⟨fun hi => ⟨vs, ws, hs', ht', by rw [r.length, r2.length]; omega⟩, fun d hd => ?_⟩
        have hi : i < min ds.length es.length := by rw [← hl]; exact (List.getElem?_eq_some_iff.mp hd).1
        have hi1 : i < ds.length := by omega
        have hi2 : i < es.length := by omega
        obtain ⟨v, ev, hat⟩ := r.get (List.getElem?_eq_getElem hi1)
        obtain ⟨u, eu, hau⟩ := r2.get (List.getElem?_eq_getElem hi2)
        refine ⟨⟨vs, ws, v, u, hs', ht', ev, eu⟩, fun x H2 y => ?_⟩
        obtain ⟨T, x', y', rfl, nT, rfl, fx, fy⟩ := y
        have e := (fx vs hs').symm.trans ev
        cases e
        have e := (fy ws ht').symm.trans eu
        cases e
        have xx := Ext.new (O := fun _ => False) (o := .tup [v, u]) s2 nT
        refine ⟨_, xx, ?_⟩
        have ed : d = .tup [ds[i], es[i]] := by
          unfold zipD at hd
          rw [List.getElem?_zipWith, List.getElem?_eq_getElem hi1, List.getElem?_eq_getElem hi2] at hd
          exact (Option.some.inj hd).symm
        rw [ed]
        exact .tup (.inl (.inl upd_same)) two_ok (.cons ((hat.mono s1).mono xx.s) (.cons ((hau.mono s1).mono xx.s) .nil))
      | _ => exact P1.elim
    | _ => exact P1.elim

/-! ### for -/
def forL (b : D → Rho → Option Rho) (g : Rho → Out Fl) : List D → Rho → Out Fl
  | [], ρ => .ok (.nx ρ)
  | x :: xs, ρ => match b x ρ with
    | none => .stuck
    | some ρ1 => (g ρ1).bind fun y => match y with
      | .nx ρ2 => forL b g xs ρ2
      | .ct ρ2 => forL b g xs ρ2
      | .bk ρ2 => .ok (.nx ρ2)
      | .rt d ρ2 => .ok (.rt d ρ2)
def sFor (f : Rho → Out (List D × Rho)) (b : D → Rho → Option Rho) (g : Rho → Out Fl) : Rho → Out Fl := fun ρ => (f ρ).bind fun p => forL b g p.1 p.2
theorem vs_for {body : List Stmt} {fi : Rho → Out (List D × Rho)} {b : D → Rho → Option Rho} {g : Rho → Out Fl} {ch : List Nat} (hp : PassesOwn (model X.prog X.w) X.A X.env X.xe) (hi : VI X W os tg iter fi os1) (hg : VG X os1 tg b ch os2)
    (hb : VSs X W ⟨L.fx, os1, os1, L.r⟩ os2 body g os1) (hfx : ch.all (fun i => !L.fx.getD i false) = true := by rfl) (hc : X.calm = true := by rfl) (hs : ∀ x, foldedSetIterable iter X.env x = pure x := by intro _; rfl) :
    VS X W L os (.For tg iter body [] pos) (sFor fi b g) os1 := by
  obtain ⟨wi, pi, ki⟩ := hi
  obtain ⟨tg', pg, kg⟩ := hg
  obtain ⟨tb, pb, kb⟩ := hb
  refine ⟨_, ps_for hp hc pi pg pb hs, fun S σ H ρ Ds rel P => ?_⟩
  refine ki S σ H ρ _ rel (PostS.seqE P fun items ρ1 J S1 H1 st1 rel1 q1 P1 => ?_)
  obtain ⟨hz, q1⟩ := q1
  refine ⟨fun i m σ' H' => i + m = items.length ∧ ∃ S' ρ', Same S1 S' ∧ Rel X.K S' H' os1 σ' ρ' ∧ PostS X W L S' H' os1 σ' os1 Ds (forL b g (items.drop i) ρ'), ⟨items.length, by omega, S1, ρ1, Same.refl _, rel1, P1⟩, ?_⟩
  rintro i m σ' H' ⟨hm, S', ρ', s1, rel', P'⟩
  obtain ⟨hstop, hgo⟩ := q1 i S' H' s1 rel'.sub
  by_cases hlt : i < items.length
  · have ed := List.getElem?_eq_getElem hlt
    obtain ⟨go, hy⟩ := hgo _ ed
    rw [List.drop_eq_getElem_cons hlt] at P'
    unfold forL at P'
    refine .inr ⟨go, fun σ'' H'' => ∃ S'' ρ'', Same S1 S'' ∧ Rel X.K S'' H'' os1 σ'' ρ'' ∧ PostS X W L S'' H'' os1 σ'' os1 Ds (forL b g (items.drop (i + 1)) ρ''), fun σ'' H'' ⟨S'', ρ'', a, b, c⟩ => ⟨m - 1, by omega, by omega, S'', ρ'', a, b, c⟩, fun x H2 y => ?_⟩
    obtain ⟨S2, x2, hat⟩ := hy x H2 y
    have rel2 := rel'.ext0 x2
    cases eb : b items[i] ρ' with
    | none => rw [eb] at P'; exact P'.elim
    | some ρ2 =>
      rw [eb] at P'
      refine kg S2 σ' H2 ρ' x _ ρ2 _ rel2 hat eb fun σ3 rel3 f3 o3 => ?_
      have st3 : Stp os1 σ' S' H' os2 σ3 S2 H2 := ⟨x2.weak fun _ z => z.elim, fun a q => .inl (o3 a q)⟩
      have fx3 := f3.fix hfx
      refine kb S2 σ3 H2 ρ2 _ rel3 ?_
      have P' : PostS X W L S2 H2 os2 σ3 os1 Ds ((g ρ2).bind fun y => match y with
        | .nx ρ2 => forL b g (items.drop (i + 1)) ρ2
        | .ct ρ2 => forL b g (items.drop (i + 1)) ρ2
        | .bk ρ2 => .ok (.nx ρ2)
        | .rt d ρ2 => .ok (.rt d ρ2)) := PostS.step P' st3 fx3
      cases hgr : g ρ2 with
      | stuck => rw [hgr] at P'; exact P'
      | exc c fs => rw [hgr] at P'; exact P'
      | ok z =>
        rw [hgr] at P'
        cases z with
        | nx ρ4 => exact fun σ4 S4 H4 s4 f4 r4 => ⟨S4, ρ4, s1.trans (x2.s.trans s4.ext.s), r4, PostS.step P' s4 f4⟩
        | ct ρ4 => exact fun σ4 S4 H4 s4 f4 r4 => ⟨S4, ρ4, s1.trans (x2.s.trans s4.ext.s), r4, PostS.step P' s4 f4⟩
        | bk ρ4 => exact P'
        | rt d ρ4 => exact P'
  · refine .inl ⟨hstop (by omega), ?_⟩
    rw [List.drop_of_length_le (by omega)] at P'
    exact P'.fin rel'

/-! ### while -/
def whileL (c : Rho → Out (Bool × Rho)) (g : Rho → Out Fl) : Nat → Rho → Out Fl
  | 0, _ => .stuck
  | n + 1, ρ => (c ρ).bind fun p => if p.1 = true then (g p.2).bind fun y => (match y with
      | .nx ρ2 => whileL c g n ρ2
      | .ct ρ2 => whileL c g n ρ2
      | .bk ρ2 => .ok (.nx ρ2)
      | .rt d ρ2 => .ok (.rt d ρ2)) else .ok (.nx p.2)
def sWhile (fuel : Rho → Nat) (c : Rho → Out (Bool × Rho)) (g : Rho → Out Fl) : Rho → Out Fl := fun ρ => whileL c g (fuel ρ) ρ
theorem vs_while {c : Expr} {body : List Stmt} {gc : Rho → Out (Bool × Rho)} {g : Rho → Out Fl} {fuel : Rho → Nat} (hp : PassesOwn (model X.prog X.w) X.A X.env X.xe) (hc : VT X W os c gc os) (hb : VSs X W ⟨L.fx, os, os, L.r⟩ os body g os) :
    VS X W L os (.While c body [] pos) (sWhile fuel gc g) os := by
  obtain ⟨tc, pc, kc⟩ := hc
  obtain ⟨tb, pb, kb⟩ := hb
  refine ⟨_, ps_while hp pc pb, fun S σ H ρ Ds rel P => ?_⟩
  refine ⟨fun m σ' H' => ∃ S' ρ', Rel X.K S' H' os σ' ρ' ∧ PostS X W L S' H' os σ' os Ds (whileL gc g m ρ'), ⟨fuel ρ, S, ρ, rel, P⟩, ?_⟩
  rintro m σ' H' ⟨S', ρ', rel', P'⟩
  cases m with
  | zero => exact P'.elim
  | succ m =>
    unfold whileL at P'
    refine kc S' σ' H' ρ' _ rel' (PostS.seqE P' fun d ρ1 v S1 H1 s1 r1 q1 P1 => ?_)
    cases q1
    cases d with
    | false => exact P1.fin r1
    | true =>
      refine ⟨fun σ'' H'' => ∃ S'' ρ'', Rel X.K S'' H'' os σ'' ρ'' ∧ PostS X W L S'' H'' os σ'' os Ds (whileL gc g m ρ''), fun σ'' H'' h => ⟨m, Nat.lt_succ_self m, h⟩, ?_⟩
      refine kb S1 σ' H1 ρ1 _ r1 ?_
      have P1 : PostS X W L S1 H1 os σ' os Ds ((g ρ1).bind fun y => (match y with
        | .nx ρ2 => whileL gc g m ρ2
        | .ct ρ2 => whileL gc g m ρ2
        | .bk ρ2 => .ok (.nx ρ2)
        | .rt d ρ2 => .ok (.rt d ρ2))) := P1
      cases hgr : g ρ1 with
      | stuck => rw [hgr] at P1; exact P1
      | exc c fs => rw [hgr] at P1; exact P1
      | ok z =>
        rw [hgr] at P1
        cases z with
        | nx ρ4 => exact fun σ4 S4 H4 s4 f4 r4 => ⟨S4, ρ4, r4, PostS.step P1 s4 f4⟩
        | ct ρ4 => exact fun σ4 S4 H4 s4 f4 r4 => ⟨S4, ρ4, r4, PostS.step P1 s4 f4⟩
        | bk ρ4 => exact P1
        | rt d ρ4 => exact P1
end
end SW

set_option maxRecDepth 100000
/-! SW6: list comprehensions of one clause; freezing behind a statement. -/
namespace SW
open PySem PySem.Spec PyProof.Rows L2

def wipeR (ρ : Rho) : List Nat → Rho
  | [] => ρ
  | v :: vs => (wipeR ρ vs).set v none
def backR : List Nat → Rho → Rho → Rho
  | [], _, ρ3 => ρ3
  | v :: vs, ρ, ρ3 => (backR vs ρ ρ3).set v (ρ.getD v none)
theorem wipeR_len (ρ : Rho) : ∀ vs, (wipeR ρ vs).length = ρ.length
  | [] => rfl
  | v :: vs => by unfold wipeR; rw [List.length_set, wipeR_len ρ vs]
theorem backR_len (ρ ρ3 : Rho) : ∀ vs, (backR vs ρ ρ3).length = ρ3.length
  | [] => rfl
  | v :: vs => by unfold backR; rw [List.length_set, backR_len ρ ρ3 vs]
theorem wipe_in {σ : Sg} {i : Nat} : ∀ {vs : List Nat}, i ∈ vs → i < σ.length → (wipe σ vs)[i]? = some none
  | v :: vs, h, hl => by
    unfold wipe
    by_cases e : v = i
    · subst e; rw [List.getElem?_set_self (by rw [wipe_length]; exact hl)]
    · rw [List.getElem?_set_ne e]
      exact wipe_in (by simpa [e, Ne.symm e] using (List.mem_cons.mp h).resolve_left (Ne.symm e)) hl
theorem wipe_out {σ : Sg} {i : Nat} : ∀ {vs : List Nat}, i ∉ vs → (wipe σ vs)[i]? = σ[i]?
  | [], _ => rfl
  | v :: vs, h => by
    unfold wipe
    rw [List.getElem?_set_ne (fun z => h (by simp [z]))]
    exact wipe_out fun z => h (List.mem_cons_of_mem _ z)
theorem wipeR_in {ρ : Rho} {i : Nat} : ∀ {vs : List Nat}, i ∈ vs → i < ρ.length → (wipeR ρ vs)[i]? = some none
  | v :: vs, h, hl => by
    unfold wipeR
    by_cases e : v = i
    · subst e; rw [List.getElem?_set_self (by rw [wipeR_len]; exact hl)]
    · rw [List.getElem?_set_ne e]
      exact wipeR_in ((List.mem_cons.mp h).resolve_left (Ne.symm e)) hl
theorem wipeR_out {ρ : Rho} {i : Nat} : ∀ {vs : List Nat}, i ∉ vs → (wipeR ρ vs)[i]? = ρ[i]?
  | [], _ => rfl
  | v :: vs, h => by
    unfold wipeR
    rw [List.getElem?_set_ne (fun z => h (by simp [z]))]
    exact wipeR_out fun z => h (List.mem_cons_of_mem _ z)
theorem backR_in {ρ ρ3 : Rho} {i : Nat} : ∀ {vs : List Nat}, i ∈ vs → i < ρ3.length → (backR vs ρ ρ3)[i]? = some (ρ.getD i none)
  | v :: vs, h, hl => by
    unfold backR
    by_cases e : v = i
    · subst e; rw [List.getElem?_set_self (by rw [backR_len]; exact hl)]
    · rw [List.getElem?_set_ne e]
      exact backR_in ((List.mem_cons.mp h).resolve_left (Ne.symm e)) hl
theorem backR_out {ρ ρ3 : Rho} {i : Nat} : ∀ {vs : List Nat}, i ∉ vs → (backR vs ρ ρ3)[i]? = ρ3[i]?
  | [], _ => rfl
  | v :: vs, h => by
    unfold backR
    rw [List.getElem?_set_ne (fun z => h (by simp [z]))]
    exact backR_out fun z => h (List.mem_cons_of_mem _ z)
theorem wipe_eq {σ σ2 : Sg} {vs ch : List Nat} (h : ChOn ch (wipe σ vs) σ2) (hc : ∀ i ∈ ch, i ∈ vs) : wipe σ2 vs = wipe σ vs := by
  have hl : σ2.length = σ.length := by rw [h.1, wipe_length]
  refine List.ext_getElem? fun i => ?_
  by_cases hi : i ∈ vs
  · by_cases hlt : i < σ.length
    · rw [wipe_in hi hlt, wipe_in hi (by rw [hl]; exact hlt)]
    · rw [List.getElem?_eq_none (by rw [wipe_length]; omega), List.getElem?_eq_none (by rw [wipe_length]; omega)]
  · rw [wipe_out hi, h.2 i fun z => hi (hc i z)]

section
variable {K : PySem.W.Frag} {S S3 H H3 : Hp} {os : Os} {σ σ2 : Sg} {ρ ρ3 : Rho} {vs : List Nat}
theorem all_false {os : Os} (h : vs.all (fun v => !os.getD v false) = true) {i : Nat} (hi : i ∈ vs) : os.getD i false = false := by
  have q := List.all_eq_true.mp h i hi
  simpa using q
theorem Rel.wipe (r : Rel K S H os σ ρ) (hv : vs.all (fun v => !os.getD v false) = true) : Rel K S H os (L2.wipe σ vs) (wipeR ρ vs) where
  sub := r.sub
  len := by rw [wipe_length, wipeR_len]; exact r.len
  slot := fun i x d e1 e2 => by
    by_cases hi : i ∈ vs
    · have hl : i < σ.length := by
        have := (List.getElem?_eq_some_iff.mp e1).1
        rwa [wipe_length] at this
      rw [wipe_in hi hl] at e1
      rw [wipeR_in hi (by rw [← r.len]; exact hl)] at e2
      cases e1; cases e2
      cases os.getD i false <;> trivial
    · rw [wipe_out hi] at e1
      rw [wipeR_out hi] at e2
      exact r.slot i x d e1 e2
  sep := fun i j a h1 h2 e1 e2 => by
    have hi : i ∉ vs := fun z => by rw [all_false hv z] at h1; cases h1
    have hj : j ∉ vs := fun z => by rw [all_false hv z] at h2; cases h2
    rw [wipe_out hi] at e1
    rw [wipe_out hj] at e2
    exact r.sep i j a h1 h2 e1 e2
theorem own_wipe (hv : vs.all (fun v => !os.getD v false) = true) {a : Addr} : Own os (L2.wipe σ vs) a ↔ Own os σ a := by
  constructor
  · rintro ⟨i, h1, h2⟩
    have hi : i ∉ vs := fun z => by rw [all_false hv z] at h1; cases h1
    rw [wipe_out hi] at h2
    exact ⟨i, h1, h2⟩
  · rintro ⟨i, h1, h2⟩
    have hi : i ∉ vs := fun z => by rw [all_false hv z] at h1; cases h1
    exact ⟨i, h1, by rw [wipe_out hi]; exact h2⟩
theorem Rel.back (r : Rel K S H os σ ρ) (hv : vs.all (fun v => !os.getD v false) = true) (sm : Same S S3) (r3 : Rel K S3 H3 os σ2 ρ3) (hl : σ2.length = σ.length) (ho : ∀ i, i ∉ vs → σ2[i]? = σ[i]?) : Rel K S3 H3 os σ (backR vs ρ ρ3) where
  sub := r3.sub
  len := by rw [backR_len, ← r3.len, hl]
  slot := fun i x d e1 e2 => by
    by_cases hi : i ∈ vs
    · have hlt : i < σ.length := (List.getElem?_eq_some_iff.mp e1).1
      rw [backR_in hi (by rw [← r3.len, hl]; exact hlt)] at e2
      have hr : i < ρ.length := by rw [← r.len]; exact hlt
      have e3 : ρ[i]? = some d := by
        have : ρ.getD i none = d := Option.some.inj e2
        rw [← this, List.getD, List.getElem?_eq_getElem hr]; rfl
      have q := r.slot i x d e1 e3
      rw [all_false hv hi] at q ⊢
      cases x <;> cases d <;> simp only [SlotAt] at q ⊢
      exact q.mono sm
    · rw [backR_out hi] at e2
      exact r3.slot i x d (by rw [ho i hi]; exact e1) e2
  sep := fun i j a h1 h2 e1 e2 => by
    have hi : i ∉ vs := fun z => by rw [all_false hv z] at h1; cases h1
    have hj : j ∉ vs := fun z => by rw [all_false hv z] at h2; cases h2
    exact r3.sep i j a h1 h2 (by rw [ho i hi]; exact e1) (by rw [ho j hj]; exact e2)
theorem own_back (hv : vs.all (fun v => !os.getD v false) = true) (ho : ∀ i, i ∉ vs → σ2[i]? = σ[i]?) {a : Addr} : Own os σ2 a ↔ Own os σ a := by
  constructor
  · rintro ⟨i, h1, h2⟩
    have hi : i ∉ vs := fun z => by rw [all_false hv z] at h1; cases h1
    exact ⟨i, h1, by rw [← ho i hi]; exact h2⟩
  · rintro ⟨i, h1, h2⟩
    have hi : i ∉ vs := fun z => by rw [all_false hv z] at h1; cases h1
    exact ⟨i, h1, by rw [ho i hi]; exact h2⟩
end

/-! ### the block's judgements, for every start -/
abbrev W0 : WX := fun _ _ _ _ => False
def VTs (X : Cx) (W : WX) (os : Os) (es : List Expr) (f : Rho → Out (Bool × Rho)) (os' : Os) : Prop :=
  ∃ t, PTs X es t ∧ ∀ S σ H ρ Q, Rel X.K S H os σ ρ → Post X W S H os σ os' RB Q (f ρ) → t σ H Q
def tYesF : Rho → Out (Bool × Rho) := fun ρ => .ok (true, ρ)
theorem vts_nil {X : Cx} {W : WX} {os : Os} : VTs X W os [] tYesF os := ⟨_, pts_nil, fun S σ H ρ Q rel P => P.fin (os' := os) rel rfl⟩
theorem vts_one {X : Cx} {W : WX} {os os1 : Os} {c : Expr} {f : Rho → Out (Bool × Rho)} (h : VT X W os c f os1) : VTs X W os [c] f os1 := by
  obtain ⟨t, p, k⟩ := h
  exact ⟨t, pts_one p, k⟩

def compL (vs : List Nat) (b : D → Rho → Option Rho) (tt : Rho → Out (Bool × Rho)) (fe : Rho → Out (D × Rho)) : List D → Rho → Out (List D × Rho)
  | [], ρ => .ok ([], ρ)
  | x :: xs, ρ => match b x (wipeR ρ vs) with
    | none => .stuck
    | some ρ1 => match tt ρ1 with
      | .ok (true, ρ2) => match fe ρ2 with
        | .ok (d, ρ3) => (compL vs b tt fe xs (backR vs ρ ρ3)).bind fun p => .ok (d :: p.1, p.2)
        | _ => .stuck
      | .ok (false, ρ2) => compL vs b tt fe xs (backR vs ρ ρ2)
      | _ => .stuck
def eComp (vs : List Nat) (fi : Rho → Out (List D × Rho)) (b : D → Rho → Option Rho) (tt : Rho → Out (Bool × Rho)) (fe : Rho → Out (D × Rho)) : Rho → Out (D × Rho) := fun ρ =>
  (fi ρ).bind fun p => (compL vs b tt fe p.1 p.2).bind fun q => .ok (.lst q.1, q.2)
theorem compL_exc {vs : List Nat} {b : D → Rho → Option Rho} {tt : Rho → Out (Bool × Rho)} {fe : Rho → Out (D × Rho)} : ∀ {xs : List D} {ρ : Rho} {c fs}, compL vs b tt fe xs ρ ≠ .exc c fs
  | [], ρ, c, fs, h => by cases h
  | x :: xs, ρ, c, fs, h => by
    unfold compL at h
    split at h
    · cases h
    · split at h
      · split at h
        · cases e : compL vs b tt fe xs (backR vs ρ _) with
          | ok z => rw [e] at h; cases h
          | exc c fs => exact compL_exc e
          | stuck => rw [e] at h; cases h
        · cases h
      · exact compL_exc h
      · cases h

section
variable {X : Cx} {W : WX} {L : Lc} {os os1 os2 os3 osN : Os} {elt tg iter : Expr} {ifs : List Expr} {scope : Scope} {own : List (Str × Nat)} {pos : Pos} {ch : List Nat}
  {fi : Rho → Out (List D × Rho)} {b : D → Rho → Option Rho} {tt : Rho → Out (Bool × Rho)} {fe : Rho → Out (D × Rho)}
abbrev blkX (X : Cx) (scope : Scope) (s : Shared) (H : Hp) (C : Addr) (cl : List (Str × Addr)) (fp : List Addr) : Cx := X.blk s H scope (compEnvC scope cl C X.env) fp
theorem uniG (hg : ∀ s H C cl fp, VG (blkX X scope s H C cl fp) os tg b ch os1) : ∃ t : TG, (∀ s H C cl fp, PG (blkX X scope s H C cl fp) tg t) ∧
    ∀ S σ H ρ v d ρ' Q, Rel X.K S H os σ ρ → At X.K S v d → b d ρ = some ρ' → (∀ σ', Rel X.K S H os1 σ' ρ' → ChOn ch σ σ' → (∀ a, Own os1 σ' a → Own os σ a) → Q σ' H) → t v σ H Q := by
  refine ⟨fun v σ H Q => ∀ s H0 C cl fp, Classical.choose (hg s H0 C cl fp) v σ H Q, fun s H C cl fp => ⟨fun pins s' σ H' v u Q I r h => ?_⟩, fun S σ H ρ v d ρ' Q rel hv hb hq s H0 C cl fp => ?_⟩
  · exact (Classical.choose_spec (hg s H C cl fp)).1.run pins s' σ H' v u Q I r (h s H C cl fp)
  · exact (Classical.choose_spec (hg s H0 C cl fp)).2 S σ H ρ v d ρ' Q rel hv hb hq
theorem uniE (he : ∀ s H C cl fp, VE (blkX X scope s H C cl fp) W0 os elt fe os1 false) : ∃ t : TE, (∀ s H C cl fp, PE (blkX X scope s H C cl fp) elt t) ∧
    ∀ S σ H ρ Q, Rel X.K S H os σ ρ → Post X W0 S H os σ os1 (RV X.K false) Q (fe ρ) → t σ H Q := by
  refine ⟨fun σ H Q => ∀ s H0 C cl fp, Classical.choose (he s H0 C cl fp) σ H Q, fun s H C cl fp => ⟨fun pins s' σ H' Q I h => ?_⟩, fun S σ H ρ Q rel P s H0 C cl fp => ?_⟩
  · exact (Classical.choose_spec (he s H C cl fp)).1.run pins s' σ H' Q I (h s H C cl fp)
  · exact (Classical.choose_spec (he s H0 C cl fp)).2 S σ H ρ Q rel (by cases h : fe ρ <;> rw [h] at P <;> exact P)
theorem uniT (ht : ∀ s H C cl fp, VTs (blkX X scope s H C cl fp) W0 os ifs tt os1) : ∃ t : TT, (∀ s H C cl fp, PTs (blkX X scope s H C cl fp) ifs t) ∧
    ∀ S σ H ρ Q, Rel X.K S H os σ ρ → Post X W0 S H os σ os1 RB Q (tt ρ) → t σ H Q := by
  refine ⟨fun σ H Q => ∀ s H0 C cl fp, Classical.choose (ht s H0 C cl fp) σ H Q, fun s H C cl fp => ⟨fun pins s' σ H' Q I h => ?_⟩, fun S σ H ρ Q rel P s H0 C cl fp => ?_⟩
  · exact (Classical.choose_spec (ht s H C cl fp)).1.run pins s' σ H' Q I (h s H C cl fp)
  · exact (Classical.choose_spec (ht s H0 C cl fp)).2 S σ H ρ Q rel (by cases h : tt ρ <;> rw [h] at P <;> exact P)

theorem lc_read {wi : TI} {g : TG} {t1 : TT} {te : TE} {vs : List Nat} (ki : ∀ S σ H ρ R, Rel X.K S H os σ ρ → Post X W S H os σ os1 (RI X.K) R (fi ρ) → wi σ H R)
    (kg : ∀ S σ H ρ v d ρ' Q, Rel X.K S H os1 σ ρ → At X.K S v d → b d ρ = some ρ' → (∀ σ', Rel X.K S H os2 σ' ρ' → ChOn ch σ σ' → (∀ a, Own os2 σ' a → Own os1 σ a) → Q σ' H) → g v σ H Q)
    (kt : ∀ S σ H ρ Q, Rel X.K S H os2 σ ρ → Post X W0 S H os2 σ os1 RB Q (tt ρ) → t1 σ H Q) (ke : ∀ S σ H ρ Q, Rel X.K S H os1 σ ρ → Post X W0 S H os1 σ os1 (RV X.K false) Q (fe ρ) → te σ H Q)
    (hch : ∀ i ∈ ch, i ∈ vs) (hv : vs.all (fun v => !os1.getD v false) = true) : ∀ S σ H ρ Q, Rel X.K S H os σ ρ → Post X W S H os σ os1 (RV X.K true) Q (eComp vs fi b tt fe ρ) → tLc wi g t1 te vs σ H Q := by
  intro S σ H ρ Q rel P
  refine ki S σ H ρ _ rel (Post.seq P (fun z => z) (fun c fs p => p) fun items ρ1 J S1 H1 st1 rel1 q1 P1 => ?_)
  obtain ⟨hz, q1⟩ := q1
  have P1 : Post X W S1 H1 os1 σ os1 (RV X.K true) Q ((compL vs b tt fe items ρ1).bind fun q => .ok (.lst q.1, q.2)) := P1.step RV.ok st1
  intro D0 hD
  cases hc : compL vs b tt fe items ρ1 with
  | stuck => rw [hc] at P1; exact P1.elim
  | exc c fs => exact (compL_exc hc).elim
  | ok z =>
    obtain ⟨ds, ρe⟩ := z
    rw [hc] at P1
    refine ⟨fun i m H' => i + m = items.length ∧ ∃ S' ρ' accV acc dsr, Same S1 S' ∧ Ext (Own os1 σ) S1 H1 S' H' ∧ Rel X.K S' H' os1 σ ρ' ∧ S' D0 = none ∧ H' D0 = some (.lst accV) ∧ AtL X.K S' accV acc ∧ compL vs b tt fe (items.drop i) ρ' = .ok (dsr, ρe) ∧ ds = acc ++ dsr ∧ acc.length ≤ i,
      ⟨items.length, by omega, S1, ρ1, [], [], ds, Same.refl _, Ext.newO rel1.sub hD, rel1.newO hD, rel1.sub.free hD, upd_same, .nil, hc, rfl, Nat.le_refl _⟩, ?_⟩
    rintro i m H' ⟨hm, S', ρ', accV, acc, dsr, s1, x1, rel', nD, eD, hacc, hcl, hds, hal⟩
    obtain ⟨hstop, hgo⟩ := q1 i S' H' s1 rel'.sub
    by_cases hlt : i < items.length
    · have ed := List.getElem?_eq_getElem hlt
      obtain ⟨go, hy⟩ := hgo _ ed
      rw [List.drop_eq_getElem_cons hlt] at hcl
      unfold compL at hcl
      refine .inr ⟨go, fun H'' => ∃ S'' ρ'' accV' acc' dsr', Same S1 S'' ∧ Ext (Own os1 σ) S1 H1 S'' H'' ∧ Rel X.K S'' H'' os1 σ ρ'' ∧ S'' D0 = none ∧ H'' D0 = some (.lst accV') ∧ AtL X.K S'' accV' acc' ∧ compL vs b tt fe (items.drop (i + 1)) ρ'' = .ok (dsr', ρe) ∧ ds = acc' ++ dsr' ∧ acc'.length ≤ i + 1,
        fun H'' h => ⟨m - 1, by omega, by omega, h⟩, fun x H2 y => ?_⟩
      obtain ⟨S2, x2, hat⟩ := hy x H2 y
      have rel2 := rel'.ext0 x2
      obtain ⟨eD2, nD2⟩ := x2.fr D0 _ eD nD fun z => z
      have hacc2 := hacc.mono x2.s
      cases eb : b items[i] (wipeR ρ' vs) with
      | none => rw [eb] at hcl; cases hcl
      | some ρ2 =>
        rw [eb] at hcl
        dsimp only at hcl
        refine kg S2 (wipe σ vs) H2 (wipeR ρ' vs) x _ ρ2 _ (rel2.wipe hv) hat eb fun σ3 rel3 f3 o3 => ?_
        refine ⟨wipe_eq f3 hch, ?_⟩
        have hl3 : σ3.length = σ.length := by rw [f3.1, wipe_length]
        have ho3 : ∀ i, i ∉ vs → σ3[i]? = σ[i]? := fun i hi => by rw [f3.2 i fun z => hi (hch i z), wipe_out hi]
        -- the result's cell is nobody's
        have noD : ∀ {K S H os σ ρ}, Rel K S H os σ ρ → H D0 ≠ none → S D0 = none → (Own os σ D0 → False) → True := fun _ _ _ _ => trivial
        have nown : ¬ Own os1 σ D0 := fun z => by
          obtain ⟨_, o, eo⟩ := rel1.owned z
          rw [hD] at eo; cases eo
        have nown2 : ¬ Own os2 σ3 D0 := fun z => nown ((own_wipe hv).mp (o3 D0 z))
        have sub3 : ∀ a, Own os2 σ3 a → Own os1 σ a := fun a z => (own_wipe hv).mp (o3 a z)
        cases et : tt ρ2 with
        | stuck => rw [et] at hcl; cases hcl
        | exc c fs => rw [et] at hcl; cases hcl
        | ok z =>
          obtain ⟨bb, ρ3⟩ := z
          rw [et] at hcl
          refine kt S2 σ3 H2 ρ2 _ rel3 ?_
          rw [et]
          intro b' S4 H4 st4 rel4 q4
          cases q4
          obtain ⟨eD4, nD4⟩ := st4.ext.fr D0 _ eD2 nD2 nown2
          have x4 : Ext (Own os1 σ) S2 H2 S4 H4 := st4.ext.weak sub3
          have xa : Ext (Own os1 σ) S1 H1 S4 H4 := x1.trans ((x2.weak fun _ z => z.elim).trans x4 fun c z => .inl z) fun c z => .inl z
          cases bb with
          | false =>
            dsimp only at hcl
            rw [if_neg Bool.false_ne_true]
            exact ⟨S4, backR vs ρ' ρ3, accV, acc, dsr, xa.s, xa, rel2.back hv st4.ext.s rel4 hl3 ho3, nD4, eD4, hacc2.mono st4.ext.s, hcl, hds, by omega⟩
          | true =>
            dsimp only at hcl
            rw [if_pos rfl]
            cases ee : fe ρ3 with
            | stuck => rw [ee] at hcl; cases hcl
            | exc c fs => rw [ee] at hcl; cases hcl
            | ok z =>
              obtain ⟨d, ρ4⟩ := z
              rw [ee] at hcl
              dsimp only at hcl
              refine ke S4 σ3 H4 ρ3 _ rel4 ?_
              rw [ee]
              intro v S5 H5 st5 rel5 q5
              have q5 : At X.K S5 v d := q5
              have nown4 : ¬ Own os1 σ3 D0 := fun z => nown ((own_back hv ho3).mp z)
              obtain ⟨eD5, nD5⟩ := st5.ext.fr D0 _ eD4 nD4 nown4
              cases hcc : compL vs b tt fe (items.drop (i + 1)) (backR vs ρ' ρ4) with
              | stuck => rw [hcc] at hcl; cases hcl
              | exc c fs => exact (compL_exc hcc).elim
              | ok z =>
                obtain ⟨ds', ρe'⟩ := z
                rw [hcc] at hcl
                have hcl : Out.ok (d :: ds', ρe') = Out.ok (dsr, ρe) := hcl
                injection hcl with hcl
                injection hcl with h1 h2
                subst h1 h2
                have x5 : Ext (Own os1 σ) S4 H4 S5 H5 := st5.ext.weak fun a z => (own_back hv ho3).mp z
                have xb : Ext (Own os1 σ) S1 H1 S5 H5 := xa.trans x5 fun c z => .inl z
                have accl : accV.length = acc.length := hacc.length
                have relb : Rel X.K S5 H5 os1 σ (backR vs ρ' ρ4) := rel2.back hv (st4.ext.s.trans st5.ext.s) rel5 hl3 ho3
                refine ⟨accV, eD5, by omega, S5, backR vs ρ' ρ4, accV ++ [v], acc ++ [d], ds', xb.s, ?_, ?_, nD5, upd_same, ((hacc2.mono st4.ext.s).mono st5.ext.s).append (.cons q5 .nil), hcc, by rw [hds, List.append_assoc]; rfl, by rw [List.length_append]; simp; omega⟩
                · refine ⟨xb.s, fun c o e => ?_, fun c o e n no => ?_, fun c e => ?_⟩
                  · have hcD : c ≠ D0 := fun z => by rw [z, nD5] at e; cases e
                    rw [upd_ne hcD]; exact xb.sh c o e
                  · obtain ⟨e1, n1⟩ := xb.fr c o e n no
                    have hcD : c ≠ D0 := fun z => by rw [z, hD] at e; cases e
                    rw [upd_ne hcD]; exact ⟨e1, n1⟩
                  · by_cases hcD : c = D0
                    · rw [hcD, upd_same] at e; cases e
                    · rw [upd_ne hcD] at e; exact xb.there c e
                · refine relb.grow (S' := S5) (H' := upd H5 D0 (.lst (accV ++ [v]))) (O := fun c => c = D0) ⟨Same.refl _, fun c o e => ?_, fun c o e n no => ?_, fun c e => ?_⟩ fun c z hz => nown (hz ▸ z)
                  · have hcD : c ≠ D0 := fun z => by rw [z, nD5] at e; cases e
                    rw [upd_ne hcD]; exact relb.sub c o e
                  · rw [upd_ne no]; exact ⟨e, n⟩
                  · by_cases hcD : c = D0
                    · rw [hcD, upd_same] at e; cases e
                    · rw [upd_ne hcD] at e; exact e
    · refine .inl ⟨hstop (by omega), ?_⟩
      rw [List.drop_of_length_le (by omega)] at hcl
      have hcl : Out.ok ([], ρ') = Out.ok (dsr, ρe) := hcl
      injection hcl with hcl
      injection hcl with h1 h2
      subst h1 h2
      rw [List.append_nil] at hds
      subst hds
      exact P1 (.ref D0) S' H' ⟨x1, fun a q => .inl q⟩ rel' ⟨⟨D0, rfl, nD, .inl ⟨accV, ds, eD, rfl, by omega, hacc⟩⟩, fun a e => by cases e; exact hD⟩

/-- [elt for tg in iter if ..] -/
theorem ve_lc (ok : BlkOk X.N X.env.scope scope own) (hi : VI X W os tg iter fi os1) (hg : ∀ s H C cl fp, VG (blkX X scope s H C cl fp) os1 tg b ch os2) (ht : ∀ s H C cl fp, VTs (blkX X scope s H C cl fp) W0 os2 ifs tt os1)
    (he : ∀ s H C cl fp, VE (blkX X scope s H C cl fp) W0 os1 elt fe os1 false) (hN : X.N.Nodup) (hch : ∀ i ∈ ch, i ∈ own.map (·.2) := by decide) (hv : (own.map (·.2)).all (fun v => !os1.getD v false) = true := by rfl) (hc : X.calm = true := by rfl) (hs : ∀ x, foldedSetIterable iter X.env x = pure x := by intro _; rfl) :
    VE X W os (.ListComp elt [⟨tg, iter, ifs, 0⟩] scope pos) (eComp (own.map (·.2)) fi b tt fe) os1 true := by
  obtain ⟨wi, pi, ki⟩ := hi
  obtain ⟨g, pg, kg⟩ := uniG hg
  obtain ⟨t1, pt, kt⟩ := uniT ht
  obtain ⟨te, pe, ke⟩ := uniE he
  exact ⟨_, pe_lc hc hN pi ok pg pt pe hs, lc_read ki kg kt ke hch hv⟩
/-- x = [elt for ..], x a plain local name: it owns the list -/
theorem vs_setLc (i : Nat) {x : Str} {p spos : Pos} (ok : BlkOk X.N X.env.scope scope own) (hi : VI X W os tg iter fi os1) (hg : ∀ s H C cl fp, VG (blkX X scope s H C cl fp) os1 tg b ch os2) (ht : ∀ s H C cl fp, VTs (blkX X scope s H C cl fp) W0 os2 ifs tt os1)
    (he : ∀ s H C cl fp, VE (blkX X scope s H C cl fp) W0 os1 elt fe os1 false) (hN : X.N.Nodup) (hsw : swapsWith (.ListComp elt [⟨tg, iter, ifs, 0⟩] scope pos) (some (.Name x p)) spos.line X.env = pure true) (hx : X.N[i]? = some x := by rfl) (hxl : X.env.scope.names.lookup x = some .local := by rfl) (hfi : L.fx.getD i false = false := by rfl) (hio : i < os1.length := by decide) (hle : Le os1 os := by rfl)
    (hch : ∀ i ∈ ch, i ∈ own.map (·.2) := by decide) (hv : (own.map (·.2)).all (fun v => !os1.getD v false) = true := by rfl) (hc : X.calm = true := by rfl) (hs : ∀ x, foldedSetIterable iter X.env x = pure x := by intro _; rfl) :
    VS X W L os (.Assign [.Name x p] (.ListComp elt [⟨tg, iter, ifs, 0⟩] scope pos) spos) (sSet i (eComp (own.map (·.2)) fi b tt fe)) (os1.set i true) := by
  obtain ⟨wi, pi, ki⟩ := hi
  obtain ⟨g, pg, kg⟩ := uniG hg
  obtain ⟨t1, pt, kt⟩ := uniT ht
  obtain ⟨te, pe, ke⟩ := uniE he
  refine ⟨_, ps_setLc hc hN hx hxl hsw pi ok pg pt pe hs, fun S σ H ρ Ds rel P => ?_⟩
  refine lc_read ki kg kt ke hch hv S σ H ρ _ rel (Post.seq P (fun z => z) (fun _ _ p S' H' cls dd e q => p σ S' H' cls dd e q) fun d ρ1 v S1 H1 s1 r1 q1 P1 => ?_)
  refine P1 _ S1 H1 ⟨s1.ext, fun a q => ?_⟩ (fix_set hfi) (r1.setO q1.1 (fun a ea j hj ho hs => ?_) hio)
  · rcases own_setO q with q | q
    · exact s1.own a q
    · exact .inr (q1.2 a q)
  · obtain ⟨n, o, eo⟩ := rel.owned ⟨j, getD_le hle ho, hs⟩
    rw [q1.2 a ea] at eo
    cases eo
/-- what a name owns stands behind a statement -/
theorem VS.fz {st : Stmt} {g : Rho → Out Fl} (i : Nat) (h : VS X W L os st g osN) : VS X W L os st g (osN.set i false) := by
  obtain ⟨t, p, k⟩ := h
  refine ⟨t, p, fun S σ H ρ Ds rel P => k S σ H ρ Ds rel ?_⟩
  cases e : g ρ with
  | ok z =>
    rw [e] at P
    cases z with
    | nx ρ' =>
      intro σ' S' H' s' f' r'
      obtain ⟨S'', _, r'', s'', _⟩ := freeze1 r' i
      exact P σ' S'' H' (s'.trans s'') f' r''
    | bk ρ' => exact P
    | ct ρ' => exact P
    | rt d ρ' => exact P
  | exc c fs => rw [e] at P; exact P
  | stuck => rw [e] at P; exact P
theorem VSs.fz {st : List Stmt} {g : Rho → Out Fl} (i : Nat) (h : VSs X W L os st g osN) : VSs X W L os st g (osN.set i false) := by
  obtain ⟨t, p, k⟩ := h
  refine ⟨t, p, fun S σ H ρ Ds rel P => k S σ H ρ Ds rel ?_⟩
  cases e : g ρ with
  | ok z =>
    rw [e] at P
    cases z with
    | nx ρ' =>
      intro σ' S' H' s' f' r'
      obtain ⟨S'', _, r'', s'', _⟩ := freeze1 r' i
      exact P σ' S'' H' (s'.trans s'') f' r''
    | bk ρ' => exact P
    | ct ρ' => exact P
    | rt d ρ' => exact P
  | exc c fs => rw [e] at P; exact P
  | stuck => rw [e] at P; exact P
end
end SW

set_option maxRecDepth 100000
/-! SW7: operators, comparisons, subscripts, slices, built-ins, methods that turn an owned list. -/
namespace SW
open PySem PySem.Spec PyProof.Rows L2

section
variable {X : Cx} {S H : Hp}
/-! ### numbers -/
def iop2 (c : Int → Int → Bool) (g : Int → Int → D) : D → D → Option D
  | .int i, .int j => if c i j = true then some (g i j) else none
  | _, _ => none
theorem op2_int {f : Value → Value → Sem Value} {C : Int → Int → Prop} {gv : Int → Int → V} {c : Int → Int → Bool} {g : Int → Int → D} (ho : OpR X f (rI C gv)) (hc : ∀ i j, c i j = true → C i j) (hg : ∀ K S i j, At K S (gv i j) (g i j)) : Op2 X f (iop2 c g) := by
  refine ⟨_, ho, fun S H x y a b d Q sub ha hb e k => ?_⟩
  cases ha with
  | int i =>
    cases hb with
    | int j =>
      have e : (if c i j = true then some (g i j) else none) = some d := e
      split at e
      · rename_i h
        cases e
        exact ⟨i, j, rfl, rfl, hc i j h, k _ S H (Ext.refl sub) (hg _ _ _ _)⟩
      · cases e
    | _ => cases e
  | _ => cases e
theorem Op2.or {f : Value → Value → Sem Value} {g1 g2 : D → D → Option D} (h1 : Op2 X f g1) (h2 : Op2 X f g2) : Op2 X f (fun a b => match g1 a b with | some c => some c | none => g2 a b) := by
  obtain ⟨r1, o1, k1⟩ := h1
  obtain ⟨r2, o2, k2⟩ := h2
  refine ⟨fun x y H Q => r1 x y H Q ∨ r2 x y H Q, fun pins s σ H x y v u Q I rx ry q => ?_, fun S H x y a b c Q sub ha hb e k => ?_⟩
  · rcases q with q | q
    · exact o1 pins s σ H x y v u Q I rx ry q
    · exact o2 pins s σ H x y v u Q I rx ry q
  · dsimp only at e
    cases e1 : g1 a b with
    | some c1 =>
      rw [e1] at e
      cases e
      exact .inl (k1 S H x y a b _ Q sub ha hb e1 k)
    | none =>
      rw [e1] at e
      exact .inr (k2 S H x y a b c Q sub ha hb e k)
def always (_ _ : Int) : Bool := true
def bits2 (i j : Int) : Bool := decide (i.natAbs.log2 + j.natAbs.log2 < 1000000) || decide (i.natAbs < 2 ^ 63) || decide (j.natAbs < 2 ^ 63)
theorem bits2_ok {i j : Int} (h : bits2 i j = true) : IntMulOk i j := by
  unfold bits2 at h
  rw [Bool.or_eq_true, Bool.or_eq_true] at h
  rcases h with (h | h) | h
  · have h' : i.natAbs.log2 + j.natAbs.log2 < 1000000 := of_decide_eq_true h
    exact CMulW.ok h'
  · have h := of_decide_eq_true h
    exact .of_left (intBits_le_64 (by omega) (by omega))
  · have h := of_decide_eq_true h
    exact .of_right (intBits_le_64 (by omega) (by omega))
theorem rI0_rI {f : Value → Value → Sem Value} {g : Int → Int → V} (h : OpR X f (rI0 g)) : OpR X f (rI (fun _ _ => True) g) := fun pins s σ H x y v u Q I rx ry ⟨i, j, e1, e2, _, q⟩ => h pins s σ H x y v u Q I rx ry ⟨i, j, e1, e2, q⟩
theorem op_mulA : OpR X (binaryOp .Mult) (rI IntMulOk fun i j => .int (i * j)) := opI fun _ _ _ _ _ _ _ hc q => mul_int q hc
def fdivOk (_ j : Int) : Bool := j != 0 && decide (j.natAbs.log2 < 9000)
theorem op_fdivA : OpR X (binaryOp .FloorDiv) (rI (fun _ j => j ≠ 0 ∧ j.natAbs.log2 < 9000) fun i j => .int (i.fdiv j)) := opI fun _ _ _ _ _ _ _ hc q => floordiv_int hc.1 q (.inl (PyProof.noPylong_of_log2 hc.2))
def addI := iop2 always fun i j => .int (i + j)
def subD := iop2 always fun i j => .int (i - j)
def mulI := iop2 bits2 fun i j => .int (i * j)
def fdivD := iop2 fdivOk fun i j => .int (i.fdiv j)
def modD := iop2 (fun _ j => j != 0) fun i j => .int (i.fmod j)
def powOk (i j : Int) : Bool := decide (0 ≤ j) && decide (j ≤ 1000000) && decide (i.natAbs < 2 ^ 64)
def powD := iop2 powOk fun i j => .int (i ^ j.toNat)
def shlD := iop2 powOk fun i j => .int (i * 2 ^ j.toNat)
theorem o_addI : Op2 X (binaryOp .Add) addI := op2_int (rI0_rI op_add) (fun _ _ _ => trivial) fun _ _ _ _ => .int _
theorem o_sub : Op2 X (binaryOp .Sub) subD := op2_int (rI0_rI op_sub) (fun _ _ _ => trivial) fun _ _ _ _ => .int _
theorem o_mulI : Op2 X (binaryOp .Mult) mulI := op2_int op_mulA (fun _ _ h => bits2_ok h) fun _ _ _ _ => .int _
theorem o_fdiv : Op2 X (binaryOp .FloorDiv) fdivD := op2_int op_fdivA (fun _ j h => by
  unfold fdivOk at h
  rw [Bool.and_eq_true] at h
  exact ⟨by simpa using h.1, of_decide_eq_true h.2⟩) fun _ _ _ _ => .int _
theorem o_mod : Op2 X (binaryOp .Mod) modD := op2_int op_modN (fun _ j h => by simpa using h) fun _ _ _ _ => .int _
theorem powOk_iff {i j : Int} (h : powOk i j = true) : CPow i j := by
  unfold powOk at h
  rw [Bool.and_eq_true, Bool.and_eq_true] at h
  exact ⟨of_decide_eq_true h.1.1, of_decide_eq_true h.1.2, of_decide_eq_true h.2⟩
theorem o_pow : Op2 X (binaryOp .Pow) powD := op2_int op_pow (fun _ _ h => powOk_iff h) fun _ _ _ _ => .int _
theorem o_shl : Op2 X (binaryOp .LShift) shlD := op2_int op_shl (fun _ _ h => powOk_iff h) fun _ _ _ _ => .int _
def ltI := iop2 always fun i j => .bl (decide (i < j))
def leI := iop2 always fun i j => .bl (decide (i ≤ j))
def gtI := iop2 always fun i j => .bl (decide (j < i))
def geI := iop2 always fun i j => .bl (decide (j ≤ i))
theorem o_ltI : Op2 X (compareOp .Lt) ltI := op2_int (rI0_rI op_lt) (fun _ _ _ => trivial) fun _ _ _ _ => .bl _
theorem o_leI : Op2 X (compareOp .LtE) leI := op2_int (rI0_rI op_le) (fun _ _ _ => trivial) fun _ _ _ _ => .bl _
theorem o_gtI : Op2 X (compareOp .Gt) gtI := op2_int (rI0_rI op_gt) (fun _ _ _ => trivial) fun _ _ _ _ => .bl _
theorem o_geI : Op2 X (compareOp .GtE) geI := op2_int (rI0_rI op_ge) (fun _ _ _ => trivial) fun _ _ _ _ => .bl _
def negD : D → Option D
  | .int i => some (.int (-i))
  | _ => none
theorem o_neg : Op1 X (unaryOp .USub) negD := ⟨_, un_neg, fun S H x a c Q sub ha e k => by
  cases ha with
  | int i => cases e; exact ⟨i, rfl, k _ S H (Ext.refl sub) (.int _)⟩
  | _ => cases e⟩

/-! ### data that are compared -/
mutual
def D.py : D → Option PyData
  | .non => some .none
  | .bl b => some (.bool b)
  | .int i => some (.int i)
  | .str x => some (.str x)
  | .tup xs => (D.pyL xs).map .tuple
  | .lst xs => (D.pyL xs).map .list
  | .scr ns => some (.list (ns.map .int))
  | .dct _ => none
  | .ty _ => none
def D.pyL : List D → Option (List PyData)
  | [] => some []
  | x :: xs => match D.py x, D.pyL xs with
    | some p, some ps => some (p :: ps)
    | _, _ => none
end
theorem dp_ints {K : PySem.W.Frag} {H : Hp} : ∀ ns : List Int, DpAll K H (ns.map V.int) (ns.map PyData.int)
  | [] => .nil
  | n :: ns => .cons (.int n) (dp_ints ns)
mutual
theorem At.dp {K : PySem.W.Frag} {S : Hp} : ∀ {v : V} {d : D} {p : PyData}, At K S v d → d.py = some p → Dp K S v p
  | _, _, _, .non, e => by cases e; exact .non
  | _, _, _, .bl b, e => by cases e; exact .bl b
  | _, _, _, .int i, e => by cases e; exact .int i
  | _, _, _, .str x, e => by cases e; exact .str x
  | _, .tup ds, _, .tup h z r, e => by
    unfold D.py at e
    cases q : D.pyL ds with
    | none => rw [q] at e; cases e
    | some ps => rw [q] at e; cases e; exact .tup h (AtL.dp r q)
  | _, .lst ds, _, .lst h z r, e => by
    unfold D.py at e
    cases q : D.pyL ds with
    | none => rw [q] at e; cases e
    | some ps => rw [q] at e; cases e; exact .lst (.of h) (AtL.dp r q)
  | _, _, _, .scr h z, e => by cases e; exact .lst h (dp_ints _)
  | _, _, _, .dct _ _ _ _, e => by cases e
  | _, _, _, .ty _ _, e => by cases e
theorem AtL.dp {K : PySem.W.Frag} {S : Hp} : ∀ {vs : List V} {ds : List D} {ps : List PyData}, AtL K S vs ds → D.pyL ds = some ps → DpAll K S vs ps
  | _, _, _, .nil, e => by cases e; exact .nil
  | _, d :: ds, _, .cons h r, e => by
    unfold D.pyL at e
    cases q1 : D.py d with
    | none => rw [q1] at e; cases e
    | some p =>
      cases q2 : D.pyL ds with
      | none => rw [q1, q2] at e; cases e
      | some ps => rw [q1, q2] at e; cases e; exact .cons (At.dp h q1) (AtL.dp r q2)
end
theorem Dp.mono' {K : PySem.W.Frag} {S S' : Hp} (e : Same S S') {v : V} {d : D} {p : PyData} (h : At K S v d) (q : d.py = some p) : Dp K S' v p := (h.mono e).dp q
def cmpP (g : PyData → PyData → Bool) (ok : PyData → PyData → Bool) : D → D → Option D := fun a b => match a.py, b.py with
  | some p, some q => if ok p q = true then some (.bl (g p q)) else none
  | _, _ => none
theorem cmpP_some {g ok} {a b c : D} (h : cmpP g ok a b = some c) : ∃ p q, a.py = some p ∧ b.py = some q ∧ ok p q = true ∧ c = .bl (g p q) := by
  unfold cmpP at h
  cases e1 : a.py with
  | none => rw [e1] at h; cases h
  | some p =>
    cases e2 : b.py with
    | none => rw [e1, e2] at h; cases h
    | some q =>
      rw [e1, e2] at h
      dsimp only at h
      split at h
      · rename_i ho
        cases h
        exact ⟨p, q, rfl, rfl, ho, rfl⟩
      · cases h
def shOk (p q : PyData) : Bool := SeqAt.shaped p && SeqAt.shaped q
def eqD := cmpP PyData.eqv shOk
def neD := cmpP (fun p q => !PyData.eqv p q) shOk
theorem o_eq (hu : X.A.units + 64 < cLine) : Op2 X (compareOp .Eq) eqD := ⟨_, op_eqD hu, fun S H x y a b c Q sub ha hb e k => by
  obtain ⟨p, q, e1, e2, ho, rfl⟩ := cmpP_some e
  unfold shOk at ho
  rw [Bool.and_eq_true] at ho
  exact ⟨p, q, (ha.mono sub).dp e1, (hb.mono sub).dp e2, ho.1, ho.2, k _ S H (Ext.refl sub) (.bl _)⟩⟩
theorem o_ne (hu : X.A.units + 64 < cLine) : Op2 X (compareOp .NotEq) neD := ⟨_, op_neD hu, fun S H x y a b c Q sub ha hb e k => by
  obtain ⟨p, q, e1, e2, ho, rfl⟩ := cmpP_some e
  unfold shOk at ho
  rw [Bool.and_eq_true] at ho
  exact ⟨p, q, (ha.mono sub).dp e1, (hb.mono sub).dp e2, ho.1, ho.2, k _ S H (Ext.refl sub) (.bl _)⟩⟩
def notNone : PyData → Bool
  | .none => false
  | _ => true
def alOk (p q : PyData) : Bool := PySem.W.alike p q && notNone p && decide (p.depth ≤ 64)
def rOrd (K : PySem.W.Frag) (g : PyData → PyData → Bool) : R2 := fun x y H Q => ∃ p q, Dp K H x p ∧ Dp K H y q ∧ alOk p q = true ∧ Q (.bl (g p q)) H
theorem alOk_iff {p q : PyData} (h : alOk p q = true) : PySem.W.alike p q = true ∧ p ≠ .none ∧ p.depth ≤ 64 := by
  unfold alOk at h
  rw [Bool.and_eq_true, Bool.and_eq_true] at h
  refine ⟨h.1.1, fun z => ?_, of_decide_eq_true h.2⟩
  rw [z] at h
  cases h.1.2
theorem op_ord {op : CmpOp} {g : PyData → PyData → Bool} (hu : X.A.units + 64 < cLine)
    (rule : ∀ {E : Value → Shared → Prop} {s : Shared} {a b : Value} {da db : PyData} {as bs : List Addr} {Q : Value → Shared → Prop}, Reads s.heap a da as → Reads s.heap b db bs → PySem.W.alike da db = true → da ≠ .none → X.A.units + min da.depth db.depth < cLine → Q (.bool (g da db)) s → wpAny (model X.prog X.w) X.A (compareOp op a b) Q E s) :
    OpR X (compareOp op) (rOrd X.K g) := by
  intro pins s σ H x y v u Q I rx ry h
  obtain ⟨d, e, hd, he, ok, q⟩ := h
  obtain ⟨al, nn, dp⟩ := alOk_iff ok
  obtain ⟨as, r1⟩ := Dp.reads I d x v hd rx
  obtain ⟨bs, r2⟩ := Dp.reads I e y u he ry
  exact rule r1 r2 al nn (by have := Nat.min_le_left d.depth e.depth; omega) ⟨.bl _, H, I, rfl, q⟩
theorem o_ord {op : CmpOp} {g : PyData → PyData → Bool} (h : OpR X (compareOp op) (rOrd X.K g)) : Op2 X (compareOp op) (cmpP g alOk) := ⟨_, h, fun S H x y a b c Q sub ha hb e k => by
  obtain ⟨p, q, e1, e2, ho, rfl⟩ := cmpP_some e
  exact ⟨p, q, (ha.mono sub).dp e1, (hb.mono sub).dp e2, ho, k _ S H (Ext.refl sub) (.bl _)⟩⟩
def ltD := cmpP PySem.W.dataLt alOk
def gtD := cmpP (fun p q => PySem.W.dataLt q p) alOk
def leD := cmpP (fun p q => !PySem.W.dataLt q p) alOk
def geD := cmpP (fun p q => !PySem.W.dataLt p q) alOk
theorem o_lt (hu : X.A.units + 64 < cLine) : Op2 X (compareOp .Lt) ltD := o_ord (op_ord hu fun a b c d e f => PySem.W.lt_data a b c d e f)
theorem o_gt (hu : X.A.units + 64 < cLine) : Op2 X (compareOp .Gt) gtD := o_ord (op_ord hu fun a b c d e f => PySem.W.gt_data a b c d e f)
theorem o_le (hu : X.A.units + 64 < cLine) : Op2 X (compareOp .LtE) leD := o_ord (op_ord hu fun a b c d e f => PySem.W.le_data a b c d e f)
theorem o_ge (hu : X.A.units + 64 < cLine) : Op2 X (compareOp .GtE) geD := o_ord (op_ord hu fun a b c d e f => PySem.W.ge_data a b c d e f)
/-- is None -/
def isNon : D → D → Option D
  | a, .non => some (.bl (match a with | .non => true | _ => false))
  | _, _ => none
def isntNon : D → D → Option D
  | a, .non => some (.bl (match a with | .non => false | _ => true))
  | _, _ => none
theorem o_is : Op2 X (compareOp .Is) isNon := ⟨_, op_isN, fun S H x y a b c Q sub ha hb e k => by
  cases hb with
  | non => cases ha <;> cases e <;> exact ⟨rfl, k _ S H (Ext.refl sub) (.bl _)⟩
  | _ => cases a <;> cases e⟩
theorem o_isnt : Op2 X (compareOp .IsNot) isntNon := ⟨_, op_notN, fun S H x y a b c Q sub ha hb e k => by
  cases hb with
  | non => cases ha <;> cases e <;> exact ⟨rfl, k _ S H (Ext.refl sub) (.bl _)⟩
  | _ => cases a <;> cases e⟩
/-- in a list (or a tuple's list) of data -/
def inD : D → D → Option D := fun a b => match b with
  | .lst ds => match a.py, D.pyL ds with
    | some p, some qs => if SeqAt.shaped p = true ∧ SeqAt.shaped (.list qs) = true then some (.bl (qs.any fun z => PyData.eqv z p)) else none
    | _, _ => none
  | _ => none
def notInD : D → D → Option D := fun a b => match b with
  | .lst ds => match a.py, D.pyL ds with
    | some p, some qs => if SeqAt.shaped p = true ∧ SeqAt.shaped (.list qs) = true then some (.bl (!qs.any fun z => PyData.eqv z p)) else none
    | _, _ => none
  | _ => none
theorem o_in (hu : X.A.units + 65 < cLine) : Op2 X (compareOp .In) inD := ⟨_, op_inD hu, fun S H x y a b c Q sub ha hb e k => by
  cases hb with
  | @lst aa vs ds h z r =>
    have e : (match a.py, D.pyL ds with
    | some p, some qs => if SeqAt.shaped p = true ∧ SeqAt.shaped (.list qs) = true then some (.bl (qs.any fun z => PyData.eqv z p)) else none
    | _, _ => none) = some c := e
    cases e1 : a.py with
    | none => rw [e1] at e; cases e
    | some p =>
      cases e2 : D.pyL ds with
      | none => rw [e1, e2] at e; cases e
      | some qs =>
        rw [e1, e2] at e
        dsimp only at e
        split at e
        · rename_i ho
          cases e
          exact ⟨p, qs, (ha.mono sub).dp e1, .lst (.of (sub _ _ h)) ((r.mono sub).dp e2), ho.1, ho.2, k _ S H (Ext.refl sub) (.bl _)⟩
        · cases e
  | _ => cases e⟩
theorem o_notin (hu : X.A.units + 65 < cLine) : Op2 X (compareOp .NotIn) notInD := ⟨_, op_notInD hu, fun S H x y a b c Q sub ha hb e k => by
  cases hb with
  | @lst aa vs ds h z r =>
    have e : (match a.py, D.pyL ds with
    | some p, some qs => if SeqAt.shaped p = true ∧ SeqAt.shaped (.list qs) = true then some (.bl (!qs.any fun z => PyData.eqv z p)) else none
    | _, _ => none) = some c := e
    cases e1 : a.py with
    | none => rw [e1] at e; cases e
    | some p =>
      cases e2 : D.pyL ds with
      | none => rw [e1, e2] at e; cases e
      | some qs =>
        rw [e1, e2] at e
        dsimp only at e
        split at e
        · rename_i ho
          cases e
          exact ⟨p, qs, (ha.mono sub).dp e1, .lst (.of (sub _ _ h)) ((r.mono sub).dp e2), ho.1, ho.2, k _ S H (Ext.refl sub) (.bl _)⟩
        · cases e
  | _ => cases e⟩

/-! ### sums of tuples, lists, texts -/
def catT : D → D → Option D
  | .tup xs, .tup ys => if xs.length + ys.length ≤ sizeLine then some (.tup (xs ++ ys)) else none
  | _, _ => none
def catL : D → D → Option D
  | .lst xs, .lst ys => if xs.length + ys.length ≤ sizeLine then some (.lst (xs ++ ys)) else none
  | _, _ => none
def catS : D → D → Option D
  | .str x, .str y => if x.length + y.length ≤ sizeLine then some (.str (x ++ y)) else none
  | _, _ => none
theorem o_catT : Op2 X (binaryOp .Add) catT := ⟨_, op_catA, fun S H x y a b c Q sub ha hb e k => by
  cases ha with
  | @tup p vs xs h z r =>
    cases hb with
    | @tup p2 vs2 ys h2 z2 r2 =>
      have e : (if xs.length + ys.length ≤ sizeLine then some (D.tup (xs ++ ys)) else none) = some c := e
      split at e
      · rename_i hz
        cases e
        have l1 := r.length
        have l2 := r2.length
        refine ⟨p, p2, vs, vs2, rfl, rfl, sqT_mono sub h, sqT_mono sub h2, by rw [l1, l2]; exact hz, fun hx => ?_, fun hx hy => ?_, fun hx hy q nq => ?_⟩
        · subst hx
          cases r
          exact k _ S H (Ext.refl sub) (.tup h2 z2 r2)
        · subst hy
          cases r2
          refine k _ S H (Ext.refl sub) ?_
          rw [List.append_nil]
          exact .tup h z r
        · have xx := Ext.new (O := fun _ => False) (o := .tup (vs ++ vs2)) sub nq
          exact k _ _ _ xx (.tup (.inl (.inl upd_same)) (by rw [List.length_append]; exact hz) ((r.append r2).mono xx.s))
      · cases e
    | _ => cases e
  | _ => cases e⟩
theorem o_catL : Op2 X (binaryOp .Add) catL := ⟨_, op_cat, fun S H x y a b c Q sub ha hb e k => by
  cases ha with
  | @lst p vs xs h z r =>
    cases hb with
    | @lst p2 vs2 ys h2 z2 r2 =>
      have e : (if xs.length + ys.length ≤ sizeLine then some (D.lst (xs ++ ys)) else none) = some c := e
      split at e
      · rename_i hz
        cases e
        have l1 := r.length
        have l2 := r2.length
        refine ⟨p, p2, vs, vs2, rfl, rfl, sub _ _ h, sub _ _ h2, by rw [l1, l2]; exact hz, fun q nq => ?_⟩
        have xx := Ext.new (O := fun _ => False) (o := .lst (vs ++ vs2)) sub nq
        exact k _ _ _ xx (.lst upd_same (by rw [List.length_append]; exact hz) ((r.append r2).mono xx.s))
      · cases e
    | _ => cases e
  | _ => cases e⟩
theorem o_catS : Op2 X (binaryOp .Add) catS := ⟨_, op_add_str, fun S H x y a b c Q sub ha hb e k => by
  cases ha with
  | str i =>
    cases hb with
    | str j =>
      have e : (if i.length + j.length ≤ sizeLine then some (D.str (i ++ j)) else none) = some c := e
      split at e
      · rename_i hz
        cases e
        exact ⟨i, j, rfl, rfl, hz, k _ S H (Ext.refl sub) (.str _)⟩
      · cases e
    | _ => cases e
  | _ => cases e⟩
/-- +, whatever is added -/
def addD : D → D → Option D
  | .int i, .int j => some (.int (i + j))
  | .tup xs, .tup ys => if xs.length + ys.length ≤ sizeLine then some (.tup (xs ++ ys)) else none
  | .lst xs, .lst ys => if xs.length + ys.length ≤ sizeLine then some (.lst (xs ++ ys)) else none
  | .str x, .str y => if x.length + y.length ≤ sizeLine then some (.str (x ++ y)) else none
  | _, _ => none
theorem Op2.imp {f : Value → Value → Sem Value} {g g' : D → D → Option D} (h : Op2 X f g) (hg : ∀ a b c, g' a b = some c → g a b = some c) : Op2 X f g' := by
  obtain ⟨r, o, k⟩ := h
  exact ⟨r, o, fun S H x y a b c Q sub ha hb e q => k S H x y a b c Q sub ha hb (hg a b c e) q⟩
theorem o_add : Op2 X (binaryOp .Add) addD := (((o_addI.or o_catT).or o_catL).or o_catS).imp fun a b c h => by
  cases a <;> cases b <;> first
    | exact (nomatch (show (none : Option D) = some c from h))
    | exact h
    | (simp only [addD] at h; simp only [addI, iop2, always, catT, catL, catS]; split at h <;> simp_all)
/-- a list times a number, a tuple times a number -/
def repD : D → D → Option D
  | .int i, .int j => if bits2 i j = true then some (.int (i * j)) else none
  | .lst xs, .int k => if -9223372036854775808 ≤ k ∧ k < 9223372036854775808 ∧ xs.length * k.toNat ≤ sizeLine then some (.lst (List.replicate k.toNat xs).flatten) else none
  | .tup xs, .int k => if xs ≠ [] ∧ 2 ≤ k ∧ k ≤ 1000 ∧ xs.length ≤ 1000 then some (.tup (List.replicate k.toNat xs).flatten) else none
  | _, _ => none
theorem AtL.rep {K : PySem.W.Frag} {vs : List V} {ds : List D} (h : AtL K S vs ds) : ∀ k : Nat, AtL K S (List.replicate k vs).flatten (List.replicate k ds).flatten
  | 0 => .nil
  | k + 1 => by
    rw [List.replicate_succ, List.replicate_succ, List.flatten_cons, List.flatten_cons]
    exact h.append (AtL.rep h k)
theorem rep_len {α : Type} (ds : List α) : ∀ k : Nat, (List.replicate k ds).flatten.length = k * ds.length
  | 0 => by simp
  | k + 1 => by rw [List.replicate_succ, List.flatten_cons, List.length_append, rep_len ds k]; rw [Nat.succ_mul]; omega
def repL : D → D → Option D
  | .lst xs, .int k => if -9223372036854775808 ≤ k ∧ k < 9223372036854775808 ∧ xs.length * k.toNat ≤ sizeLine then some (.lst (List.replicate k.toNat xs).flatten) else none
  | _, _ => none
def repT : D → D → Option D
  | .tup xs, .int k => if xs ≠ [] ∧ 2 ≤ k ∧ k ≤ 1000 ∧ xs.length ≤ 1000 then some (.tup (List.replicate k.toNat xs).flatten) else none
  | _, _ => none
theorem o_repL : Op2 X (binaryOp .Mult) repL := ⟨_, op_rep, fun S H x y a b c Q sub ha hb e k => by
  cases ha with
  | @lst p vs xs h z r =>
    cases hb with
    | int j =>
      have e : (if -9223372036854775808 ≤ j ∧ j < 9223372036854775808 ∧ xs.length * j.toNat ≤ sizeLine then some (D.lst (List.replicate j.toNat xs).flatten) else none) = some c := e
      split at e
      · rename_i hz
        cases e
        refine ⟨p, j, vs, rfl, rfl, sub _ _ h, by omega, by omega, by rw [r.length]; exact hz.2.2, fun q nq => ?_⟩
        have xx := Ext.new (O := fun _ => False) (o := .lst (List.replicate j.toNat vs).flatten) sub nq
        exact k _ _ _ xx (.lst upd_same (by rw [rep_len, Nat.mul_comm]; exact hz.2.2) ((r.rep _).mono xx.s))
      · cases e
    | _ => cases e
  | _ => cases e⟩
theorem o_repT : Op2 X (binaryOp .Mult) repT := ⟨_, op_repT, fun S H x y a b c Q sub ha hb e k => by
  cases ha with
  | @tup p vs xs h z r =>
    cases hb with
    | int j =>
      have e : (if xs ≠ [] ∧ 2 ≤ j ∧ j ≤ 1000 ∧ xs.length ≤ 1000 then some (D.tup (List.replicate j.toNat xs).flatten) else none) = some c := e
      split at e
      · rename_i hz
        cases e
        refine ⟨p, j, vs, rfl, rfl, sqT_mono sub h, fun q => ?_, hz.2.1, hz.2.2.1, by rw [r.length]; exact hz.2.2.2, fun q nq => ?_⟩
        · subst q
          cases r
          exact hz.1 rfl
        · have xx := Ext.new (O := fun _ => False) (o := .tup (List.replicate j.toNat vs).flatten) sub nq
          refine k _ _ _ xx (.tup (.inl (.inl upd_same)) ?_ ((r.rep _).mono xx.s))
          rw [rep_len, sizeLine_is]
          have h1 : j.toNat ≤ 1000 := by omega
          have h2 : xs.length ≤ 1000 := hz.2.2.2
          have := Nat.mul_le_mul h1 h2
          omega
      · cases e
    | _ => cases e
  | _ => cases e⟩
theorem o_mul : Op2 X (binaryOp .Mult) repD := ((o_mulI.or o_repL).or o_repT).imp fun a b c h => by
  cases a <;> cases b <;> first
    | exact (nomatch (show (none : Option D) = some c from h))
    | exact h
    | (simp only [repD] at h; simp only [mulI, iop2, repL, repT]; split at h <;> simp_all)
end
end SW

set_option maxRecDepth 100000
/-! SW8: a look (peek), subscripts, slices, built-ins, methods that turn an owned list. -/
namespace SW
open PySem PySem.Spec PyProof.Rows L2

def flatD : D → Bool
  | .non => true
  | .bl _ => true
  | .int _ => true
  | .str _ => true
  | .ty _ => true
  | _ => false
theorem flat_at {K : PySem.W.Frag} {S S' : Hp} {v : V} {d : D} (h : At K S v d) (f : flatD d = true) : At K S' v d := by
  cases h with
  | non => exact .non
  | bl b => exact .bl b
  | int i => exact .int i
  | str x => exact .str x
  | ty n h => exact .ty n h
  | _ => cases f

section
variable {K : PySem.W.Frag} {S S' H H' : Hp} {os : Os} {σ : Sg} {ρ : Rho}
/-- what owned cells hold stands for a while -/
structure Look (S H : Hp) (os : Os) (σ : Sg) (S1 : Hp) : Prop where
  s : Same S S1
  sh : Same S1 H
  out : ∀ a, ¬ Own os σ a → S1 a = S a
  own : ∀ a, Own os σ a → S1 a = H a
theorem freezeAll (r : Rel K S H os σ ρ) : ∃ S1, Look S H os σ S1 ∧ Rel K S1 H [] σ ρ := by
  classical
  have lk : Look S H os σ (fun a => if Own os σ a then H a else S a) := by
    refine ⟨fun a o e => ?_, fun a o e => ?_, fun a z => if_neg z, fun a z => if_pos z⟩
    · have no : ¬ Own os σ a := fun z => by rw [(r.owned z).1] at e; cases e
      show (if Own os σ a then H a else S a) = some o
      rw [if_neg no]; exact e
    · have e : (if Own os σ a then H a else S a) = some o := e
      by_cases z : Own os σ a
      · rw [if_pos z] at e; exact e
      · rw [if_neg z] at e; exact r.sub a o e
  refine ⟨_, lk, ⟨lk.sh, r.len, fun i x y e1 e2 => ?_, fun i j a h1 => by simp [List.getD] at h1⟩⟩
  have q := r.slot i x y e1 e2
  have hf : ([] : Os).getD i false = false := by simp [List.getD]
  rw [hf]
  cases ho : os.getD i false <;> rw [ho] at q <;> cases x <;> cases y <;> simp only [SlotAt] at q ⊢
  · exact q.mono lk.s
  · rename_i v d
    obtain ⟨a, ea, na, q⟩ := q
    subst ea
    have own : Own os σ a := ⟨i, ho, e1⟩
    rcases q with ⟨vs, ds, eh, rfl, z, rl⟩ | ⟨kvs, ds, eh, rfl, z, k, rl⟩
    · exact .lst ((lk.own a own).trans eh) z (rl.mono lk.s)
    · exact .dct ((lk.own a own).trans eh) k z (rl.mono lk.s)
/-- nothing that the slots own has been touched: they own it still -/
theorem Look.back {S1 : Hp} (lk : Look S H os σ S1) (r : Rel K S H os σ ρ) (x : Ext (Own [] σ) S1 H S' H') : Rel K S H' os σ ρ ∧ Stp os σ S H os σ S H' := by
  have keep : ∀ a o, Own os σ a → H a = some o → H' a = some o := fun a o z e => x.sh a o (x.s a o ((lk.own a z).trans e))
  have sh : Same S H' := fun a o e => x.sh a o (x.s a o (lk.s a o e))
  refine ⟨⟨sh, r.len, fun i v d e1 e2 => ?_, r.sep⟩, ⟨⟨Same.refl _, sh, fun a o e n no => ⟨?_, n⟩, x.there⟩, fun a q => .inl q⟩⟩
  · have q := r.slot i v d e1 e2
    cases ho : os.getD i false <;> rw [ho] at q <;> cases v <;> cases d <;> simp only [SlotAt] at q ⊢
    · exact q
    · rename_i v d
      obtain ⟨a, ea, na, q⟩ := q
      subst ea
      have own : Own os σ a := ⟨i, ho, e1⟩
      refine ⟨a, rfl, na, ?_⟩
      rcases q with ⟨vs, ds, eh, q⟩ | ⟨kvs, ds, eh, q⟩
      · exact .inl ⟨vs, ds, keep a _ own eh, q⟩
      · exact .inr ⟨kvs, ds, keep a _ own eh, q⟩
  · exact (x.fr a o e ((lk.out a no).trans n) fun z => own_nil z).1
theorem Look.exc {S1 : Hp} (lk : Look S H os σ S1) (x : Ext (Own [] σ) S1 H S' H') : Ext (Own os σ) S H S' H' :=
  ⟨lk.s.trans x.s, x.sh, fun a o e n no => x.fr a o e ((lk.out a no).trans n) fun z => own_nil z, x.there⟩
end

section
variable {X : Cx} {W : WX} {L : Lc} {os os1 os2 os3 osN : Os} {e e1 e2 : Expr} {f f1 f2 : Rho → Out (D × Rho)} {pos p apos : Pos} {es : List Expr} {g : Rho → Out (List D × Rho)}
def ePeek (f : Rho → Out (D × Rho)) : Rho → Out (D × Rho) := fun ρ => (f ρ).bind fun p => if flatD p.1 = true then .ok (p.1, ρ) else .stuck
def tPeek (f : Rho → Out (Bool × Rho)) : Rho → Out (Bool × Rho) := fun ρ => (f ρ).bind fun p => .ok (p.1, ρ)
/-- an expression that turns nothing and gives a number, a truth, a text: what is owned stays owned -/
theorem ve_peek (h : VE X W [] e f os1 false) (hos : os1 = [] := by rfl) : VE X W os e (ePeek f) os false := by
  subst hos
  obtain ⟨t, p, k⟩ := h
  refine ⟨t, p, fun S σ H ρ Q rel P => ?_⟩
  obtain ⟨S1, lk, rel1⟩ := freezeAll rel
  refine k S1 σ H ρ Q rel1 ?_
  unfold ePeek at P
  cases h : f ρ with
  | exc c fs => rw [h] at P; exact fun S' H' cls dd x q => P S' H' cls dd (lk.exc x) q
  | stuck => rw [h] at P; exact P.elim
  | ok z =>
    obtain ⟨d, ρ'⟩ := z
    rw [h] at P
    have P : Post X W S H os σ os (RV X.K false) Q (if flatD d = true then .ok (d, ρ) else .stuck) := P
    split at P
    · rename_i hf
      intro v S' H' st _ hv
      obtain ⟨rel2, st2⟩ := lk.back rel st.ext
      exact P v S H' st2 rel2 (flat_at (show At X.K S' v d from hv) hf)
    · exact P.elim
theorem vt_peek {c : Expr} {g : Rho → Out (Bool × Rho)} (h : VT X W [] c g os1) (hos : os1 = [] := by rfl) : VT X W os c (tPeek g) os := by
  subst hos
  obtain ⟨t, p, k⟩ := h
  refine ⟨t, p, fun S σ H ρ Q rel P => ?_⟩
  obtain ⟨S1, lk, rel1⟩ := freezeAll rel
  refine k S1 σ H ρ Q rel1 ?_
  unfold tPeek at P
  cases h : g ρ with
  | exc c fs => rw [h] at P; exact fun S' H' cls dd x q => P S' H' cls dd (lk.exc x) q
  | stuck => rw [h] at P; exact P.elim
  | ok z =>
    obtain ⟨d, ρ'⟩ := z
    rw [h] at P
    intro v S' H' st _ hv
    obtain ⟨rel2, st2⟩ := lk.back rel st.ext
    exact P v S H' st2 rel2 hv

/-! ### subscripts -/
def strIx (z : Str) (i : Int) : Option D := if z.length ≤ sizeLine then (atI z.cps.toList i).map fun c => .str ⟨#[c]⟩ else none
def ixD : D → D → Option D
  | .lst ds, .int i => atI ds i
  | .tup ds, .int i => atI ds i
  | .scr ns, .int i => (atI ns i).map .int
  | .str z, .int i => strIx z i
  | _, _ => none
theorem atI_at {K : PySem.W.Frag} {S : Hp} {vs : List V} {ds : List D} {i : Int} {d : D} (r : AtL K S vs ds) (h : atI ds i = some d) : ∃ v, atI vs i = some v ∧ At K S v d := by
  unfold atI at h ⊢
  rw [r.length]
  cases e : ixN ds.length i with
  | none => rw [e] at h; cases h
  | some j => rw [e] at h; exact r.get h
theorem atI_map {α β : Type} {f : α → β} {xs : List α} {i : Int} : atI (xs.map f) i = (atI xs i).map f := by
  unfold atI
  rw [List.length_map]
  cases ixN xs.length i with
  | none => rfl
  | some j => simp
theorem ix_read {K : PySem.W.Frag} {S H : Hp} {x y : V} {a b c : D} {Q : VK} (sub : Same S H) (ha : At K S x a) (hb : At K S y b) (e : ixD a b = some c) (k : ∀ v, At K S v c → Q v H) : rIx K x y H Q := by
  cases hb with
  | int i =>
    cases ha with
    | @lst p vs ds h z r =>
      obtain ⟨v, ev, hv⟩ := atI_at r (show atI ds i = some c from e)
      exact .inl ⟨p, vs, i, v, rfl, rfl, .of (sub _ _ h), ev, k v hv⟩
    | @tup p vs ds h z r =>
      obtain ⟨v, ev, hv⟩ := atI_at r (show atI ds i = some c from e)
      exact .inr (.inl ⟨p, vs, i, v, rfl, rfl, sqT_mono sub h, ev, k v hv⟩)
    | @scr p ns h z =>
      have e : (atI ns i).map D.int = some c := e
      cases en : atI ns i with
      | none => rw [en] at e; cases e
      | some n =>
        rw [en] at e
        cases e
        exact .inl ⟨p, _, i, .int n, rfl, rfl, sub.seq h, by rw [atI_map, en]; rfl, k _ (.int n)⟩
    | str z =>
      have e : (if z.length ≤ sizeLine then (atI z.cps.toList i).map fun c => D.str ⟨#[c]⟩ else none) = some c := e
      split at e
      · rename_i hz
        cases en : atI z.cps.toList i with
        | none => rw [en] at e; cases e
        | some n =>
          rw [en] at e
          cases e
          exact .inr (.inr ⟨z, i, n, rfl, rfl, hz, en, k _ (.str _)⟩)
      · cases e
    | _ => cases e
  | _ => cases a <;> cases e
theorem ve_ix (ha : VE X W os e1 f1 os1 false) (hb : VE X W os1 e2 f2 os2 false) (hs : PlainIx e2 := by exact fun _ _ => rfl) : VE X W os (.Subscript e1 e2 pos) (eOp2 ixD f1 f2) os2 false := by
  obtain ⟨ta, pa, ka⟩ := ha
  obtain ⟨tb, pb, kb⟩ := hb
  refine ⟨_, pe_ix ix_seq pa pb hs, fun S σ H ρ Q rel P => ?_⟩
  refine ka S σ H ρ _ rel (Post.seq P (fun z => z) (fun c fs p => p) fun d ρ1 v S1 H1 st1 rel1 q1 P1 => ?_)
  have P1 := P1.step RV.ok st1
  refine kb S1 σ H1 ρ1 _ rel1 (Post.seq P1 (fun z => z) (fun c fs p => p) fun d2 ρ2 v2 S2 H2 st2 rel2 q2 P2 => ?_)
  obtain ⟨c, hc, k⟩ := post_of (P2.step RV.ok st2) rel2
  exact ix_read rel2.sub (At.mono st2.ext.s q1) q2 hc fun v hv => k v S2 H2 (Ext.refl rel2.sub) hv
/-- x[e], x an owning name -/
def eIxO (i : Nat) (f : Rho → Out (D × Rho)) : Rho → Out (D × Rho) := fun ρ => (f ρ).bind fun p => match p.2.getD i none with
  | some d => (Out.of (ixD d p.1)).bind fun c => .ok (c, p.2)
  | none => .stuck
theorem getD_some {ρ : Rho} {i : Nat} {d : D} (h : ρ.getD i none = some d) : ρ[i]? = some (some d) := by
  cases q : ρ[i]? with
  | none => simp [List.getD, q] at h
  | some y => simp [List.getD, q] at h; rw [h]
theorem ve_ixO (i : Nat) {x : Str} (hb : VE X W os e2 f2 os1 false) (ho : os.getD i false = true := by rfl) (ho1 : os1.getD i false = true := by rfl) (hN : X.N[i]? = some x := by rfl) (hv : Vis X.env.scope x := by first | exact Or.inl rfl | exact Or.inr (Or.inl rfl) | exact Or.inr (Or.inr rfl))
    (hs : PlainIx e2 := by exact fun _ _ => rfl) (hd : (x == ("__debug__" : Str)) = false := by decide) (hcd : (x == ("__classdict__" : Str)) = false := by decide) : VE X W os (.Subscript (.Name x p) e2 pos) (fun ρ => match ρ.getD i none with | some _ => eIxO i f2 ρ | none => .stuck) os1 false := by
  obtain ⟨tb, pb, kb⟩ := hb
  refine ⟨_, pe_ix ix_seq (pe_var hN hv hd hcd) pb hs, fun S σ H ρ Q rel P => ?_⟩
  cases h0 : ρ.getD i none with
  | none => dsimp only at P; rw [h0] at P; exact P.elim
  | some d0 =>
    dsimp only at P; rw [h0] at P
    obtain ⟨v, ev, _⟩ := rel.own (getD_some h0) ho
    refine ⟨v, ev, ?_⟩
    refine kb S σ H ρ _ rel (Post.seq P (fun z => z) (fun c fs p => p) fun d2 ρ2 v2 S2 H2 st2 rel2 q2 P2 => ?_)
    have P2 := P2.step RV.ok st2
    dsimp only at P2
    cases h1 : ρ2.getD i none with
    | none => rw [h1] at P2; exact P2.elim
    | some d1 =>
      rw [h1] at P2
      obtain ⟨v', ev', hown⟩ := rel2.own (getD_some h1) ho1
      rw [ev] at ev'
      cases ev'
      obtain ⟨c, hc, k⟩ := post_of P2 rel2
      obtain ⟨a, ea, na, q⟩ := hown
      subst ea
      have q2 : At X.K S2 v2 d2 := q2
      rcases q with ⟨vs, ds, eh, rfl, z, rl⟩ | ⟨kvs, ds, eh, rfl, z, kk, rl⟩
      · cases q2 with
        | int j =>
          obtain ⟨w, ew, hw⟩ := atI_at rl (show atI ds j = some c from hc)
          exact .inl ⟨a, vs, j, w, rfl, rfl, .of eh, ew, k w S2 H2 (Ext.refl rel2.sub) hw⟩
        | _ => cases hc
      · cases q2 <;> cases hc

/-! ### slices -/
def VO (X : Cx) (W : WX) (os : Os) (e : Option Expr) (f : Rho → Out (Option Int × Rho)) (os' : Os) : Prop :=
  ∃ t, PO X e t ∧ ∀ S σ H ρ Q, Rel X.K S H os σ ρ → Post X W S H os σ os' (fun _ _ _ b d => b = d) Q (f ρ) → t σ H Q
def oNone : Rho → Out (Option Int × Rho) := fun ρ => .ok (none, ρ)
def oSome (f : Rho → Out (D × Rho)) : Rho → Out (Option Int × Rho) := fun ρ => (f ρ).bind fun p => match p.1 with
  | .int i => .ok (some i, p.2)
  | _ => .stuck
theorem rid_ok {α : Type} : RR.Ok (fun _ _ _ (b d : α) => b = d) := fun _ _ _ _ _ _ _ q => q
theorem vo_none : VO X W os none oNone os := ⟨_, po_none, fun S σ H ρ Q rel P => P.fin (os' := os) rel rfl⟩
theorem vo_some (h : VE X W os e f os1 false) : VO X W os (some e) (oSome f) os1 := by
  obtain ⟨t, p, k⟩ := h
  refine ⟨_, po_some p, fun S σ H ρ Q rel P => ?_⟩
  refine k S σ H ρ _ rel (Post.seq P (fun z => z) (fun c fs p => p) fun d ρ1 v S1 H1 st1 rel1 q1 P1 => ?_)
  cases q1 with
  | int i => exact ⟨i, rfl, (P1.step rid_ok st1).fin (os' := os1) rel1 rfl⟩
  | _ => exact P1.elim
def cutD (xs : List D) (lo hi : Option Int) : List D := (xs.drop (HT.sIx xs.length 0 lo)).take (HT.sIx xs.length xs.length hi - HT.sIx xs.length 0 lo)
theorem AtL.cut {K : PySem.W.Frag} {S : Hp} {vs : List V} {ds : List D} (r : AtL K S vs ds) (lo hi : Option Int) : AtL K S (cutV vs lo hi) (cutD ds lo hi) := by
  unfold cutV cutD
  rw [r.length]
  exact (r.drop _).take _
theorem cutD_len (xs : List D) (lo hi : Option Int) : (cutD xs lo hi).length ≤ xs.length := by
  unfold cutD
  rw [List.length_take, List.length_drop]
  omega
theorem cut_whole {α : Type} (xs : List α) {lo hi : Option Int} (h : HT.sIx xs.length 0 lo = 0 ∧ HT.sIx xs.length xs.length hi = xs.length) : (xs.drop (HT.sIx xs.length 0 lo)).take (HT.sIx xs.length xs.length hi - HT.sIx xs.length 0 lo) = xs := by
  rw [h.1, h.2]
  simp
def sliceD : D → Option Int → Option Int → Option D
  | .lst xs, lo, hi => some (.lst (cutD xs lo hi))
  | .tup xs, lo, hi => some (.tup (cutD xs lo hi))
  | .scr ns, lo, hi => some (.lst (cutD (ns.map .int) lo hi))
  | _, _, _ => none
def eSlice (f : Rho → Out (D × Rho)) (fl fh : Rho → Out (Option Int × Rho)) : Rho → Out (D × Rho) := fun ρ =>
  (f ρ).bind fun p => (fl p.2).bind fun l => (fh l.2).bind fun h => (Out.of (sliceD p.1 l.1 h.1)).bind fun c => .ok (c, h.2)
theorem ve_slice {lo hi : Option Expr} {fl fh : Rho → Out (Option Int × Rho)} {p2 : Pos} (ha : VE X W os e f os1 false) (hl : VO X W os1 lo fl os2) (hh : VO X W os2 hi fh os3) : VE X W os (.Subscript e (.Slice lo hi none p2) pos) (eSlice f fl fh) os3 false := by
  obtain ⟨ta, pa, ka⟩ := ha
  obtain ⟨tl, pl, kl⟩ := hl
  obtain ⟨th, ph, kh⟩ := hh
  refine ⟨_, pe_slice (sl_list.or sl_tupA) pa pl ph, fun S σ H ρ Q rel P => ?_⟩
  refine ka S σ H ρ _ rel (Post.seq P (fun z => z) (fun c fs p => p) fun d ρ1 v S1 H1 st1 rel1 q1 P1 => ?_)
  have P1 := P1.step RV.ok st1
  refine kl S1 σ H1 ρ1 _ rel1 (Post.seq P1 (fun z => z) (fun c fs p => p) fun l ρ2 v2 S2 H2 st2 rel2 q2 P2 => ?_)
  have P2 := P2.step RV.ok st2
  refine kh S2 σ H2 ρ2 _ rel2 (Post.seq P2 (fun z => z) (fun c fs p => p) fun h ρ3 v3 S3 H3 st3 rel3 q3 P3 => ?_)
  cases q2; cases q3
  obtain ⟨c, hc, k⟩ := post_of (P3.step RV.ok st3) rel3
  have q1 : At X.K S3 v d := (At.mono st2.ext.s q1).mono st3.ext.s
  cases q1 with
  | @lst a vs ds hs z r =>
    cases hc
    refine .inl ⟨a, vs, rfl, .of (rel3.sub _ _ hs), fun q nq => ?_⟩
    have xx := Ext.new (O := fun _ => False) (o := .lst (cutV vs l h)) rel3.sub nq
    exact k _ _ _ xx (.lst upd_same (Nat.le_trans (cutD_len _ _ _) z) ((r.cut l h).mono xx.s))
  | @scr a ns hs z =>
    cases hc
    refine .inl ⟨a, _, rfl, rel3.sub.seq hs, fun q nq => ?_⟩
    have xx := Ext.new (O := fun _ => False) (o := .lst (cutV (ns.map V.int) l h)) rel3.sub nq
    exact k _ _ _ xx (.lst upd_same (Nat.le_trans (cutD_len _ _ _) (by rw [List.length_map]; exact z)) (((AtL.ints ns).cut l h).mono xx.s))
  | @tup a vs ds hs z r =>
    cases hc
    have hl := r.length
    refine .inr ⟨a, vs, rfl, sqT_mono rel3.sub hs, fun hw => ?_, fun hw q nq => ?_⟩
    · refine k _ S3 H3 (Ext.refl rel3.sub) ?_
      have e : cutD ds l h = ds := cut_whole ds (by rw [← hl]; exact hw)
      rw [e]
      exact .tup hs z r
    · have xx := Ext.new (O := fun _ => False) (o := .tup (cutV vs l h)) rel3.sub nq
      exact k _ _ _ xx (.tup (.inl (.inl upd_same)) (Nat.le_trans (cutD_len _ _ _) z) ((r.cut l h).mono xx.s))
  | _ => cases hc

/-! ### built-ins -/
def CallD (X : Cx) (f : Value) (h : List D → Option D) : Prop :=
  ∃ r, CallR X f r ∧ ∀ S H vs ds c Q, Same S H → AtL X.K S vs ds → h ds = some c → (∀ v S' H', Ext (fun _ => False) S H S' H' → At X.K S' v c → Q v H') → r vs H Q
theorem CallD.or {fv : Value} {h1 h2 : List D → Option D} (a : CallD X fv h1) (b : CallD X fv h2) : CallD X fv (fun ds => match h1 ds with | some c => some c | none => h2 ds) := by
  obtain ⟨r1, o1, k1⟩ := a
  obtain ⟨r2, o2, k2⟩ := b
  refine ⟨fun vs H Q => r1 vs H Q ∨ r2 vs H Q, fun pins s σ H xs us Q I r q => q.elim (o1 pins s σ H xs us Q I r) (o2 pins s σ H xs us Q I r), fun S H vs ds c Q sub ha e k => ?_⟩
  dsimp only at e
  cases e1 : h1 ds with
  | some c1 => rw [e1] at e; cases e; exact .inl (k1 S H vs ds _ Q sub ha e1 k)
  | none => rw [e1] at e; exact .inr (k2 S H vs ds c Q sub ha e k)
theorem ve_callB {x : Str} {id : String} {h : List D → Option D} (hc : CallD X (.builtin id) h) (ha : VA X W os (e :: es) g os1) (hm : X.mg x = none) (hv : bootBuiltins x = some (.builtin id)) (hg : Gl X x := by rfl) (hn : x ≠ "__name__" := by decide) (hdb : (x == ("__debug__" : Str)) = false := by decide)
    (he : starEach (e :: es) X.env = (false, eval e X.env) :: starEach es X.env := by rfl) (hpl : (backTo pos (starEach es X.env)).any (·.1) = false := by rfl) : VE X W os (.Call (.Name x p) (e :: es) [] pos) (eArg h g) os1 false := by
  obtain ⟨ta, pa, ka⟩ := ha
  obtain ⟨r, pc, kc⟩ := hc
  refine ⟨_, pe_callB pc hg hm hv pa hn hdb he hpl, fun S σ H ρ Q rel P => ?_⟩
  refine ka S σ H ρ _ rel (Post.seq P (fun z => z) (fun c fs p => p) fun ds ρ1 vs S1 H1 st1 rel1 q1 P1 => ?_)
  obtain ⟨c, hcc, k⟩ := post_of (P1.step RV.ok st1) rel1
  exact kc S1 H1 vs ds c _ rel1.sub q1.1 hcc k
theorem ve_callTy {x : Str} {T : String} {h : List D → Option D} (hc : CallD X (.type T) h) (ha : VA X W os (e :: es) g os1) (hm : X.mg x = none) (hv : bootBuiltins x = some (.type T)) (hg : Gl X x := by rfl) (hn : x ≠ "__name__" := by decide) (hdb : (x == ("__debug__" : Str)) = false := by decide)
    (he : starEach (e :: es) X.env = (false, eval e X.env) :: starEach es X.env := by rfl) (hpl : (backTo pos (starEach es X.env)).any (·.1) = false := by rfl) : VE X W os (.Call (.Name x p) (e :: es) [] pos) (eArg h g) os1 false := by
  obtain ⟨ta, pa, ka⟩ := ha
  obtain ⟨r, pc, kc⟩ := hc
  refine ⟨_, pe_callTy pc hg hm hv pa hn hdb he hpl, fun S σ H ρ Q rel P => ?_⟩
  refine ka S σ H ρ _ rel (Post.seq P (fun z => z) (fun c fs p => p) fun ds ρ1 vs S1 H1 st1 rel1 q1 P1 => ?_)
  obtain ⟨c, hcc, k⟩ := post_of (P1.step RV.ok st1) rel1
  exact kc S1 H1 vs ds c _ rel1.sub q1.1 hcc k
/-- a built-in class as a value -/
theorem ve_ty {x : Str} {T : Tc} (hm : X.mg x = none) (hv : bootBuiltins x = some (.type T.nm)) (hg : Gl X x := by rfl) (hn : x ≠ "__name__" := by decide) (hdb : (x == ("__debug__" : Str)) = false := by decide) : VE X W os (.Name x p) (eCon (.ty T)) os false :=
  ⟨_, pe_bltn (v := .ty T.nm) hg hm hv rfl hn hdb, fun S σ H ρ Q rel P => P.fin (os' := os) rel (.ty T rfl)⟩

def lenD : List D → Option D
  | [.lst ds] => some (.int ds.length)
  | [.tup ds] => some (.int ds.length)
  | [.scr ns] => some (.int ns.length)
  | [.str x] => if x.length ≤ sizeLine then some (.int x.length) else none
  | _ => none
theorem one_arg {α : Type} {x : α} : [x] = [x] := rfl
theorem c_len : CallD X (.builtin "len") lenD := ⟨_, call_len, fun S H vs ds c Q sub ha e k => by
  match ds, vs, ha, e with
  | [d], [v], .cons h .nil, e =>
    cases h with
    | @lst a ws es h z r =>
      cases e
      exact ⟨_, _, rfl, .inl ⟨ws, .of (sub _ _ h), rfl⟩, k _ S H (Ext.refl sub) (by rw [r.length]; exact .int _)⟩
    | @tup a ws es h z r =>
      cases e
      exact ⟨_, _, rfl, .inr ⟨ws, sqT_mono sub h, rfl⟩, k _ S H (Ext.refl sub) (by rw [r.length]; exact .int _)⟩
    | @scr a ns h z =>
      cases e
      exact ⟨_, _, rfl, .inl ⟨_, sub.seq h, rfl⟩, k _ S H (Ext.refl sub) (by rw [List.length_map]; exact .int _)⟩
    | str x =>
      have e : (if x.length ≤ sizeLine then some (D.int x.length) else none) = some c := e
      split at e
      · rename_i hz
        cases e
        exact ⟨_, x.length, rfl, ⟨hz, rfl⟩, k _ S H (Ext.refl sub) (.int _)⟩
      · cases e
    | _ => cases e
  | [], _, _, e => cases e
  | _ :: _ :: _, _, _, e => exact absurd e (by simp [lenD])⟩
/-- a datum's class; NoneType is none -/
def tyOf : D → Option Tc
  | .non => none
  | .bl _ => some .bool
  | .int _ => some .int
  | .str _ => some .str
  | .tup _ => some .tuple
  | .lst _ => some .list
  | .scr _ => some .list
  | .dct _ => some .dict
  | .ty _ => none
def Tc.eq : Tc → Tc → Bool
  | .int, .int => true
  | .bool, .bool => true
  | .tuple, .tuple => true
  | .list, .list => true
  | .str, .str => true
  | .dict, .dict => true
  | .bool, .int => true
  | _, _ => false
def isTy : Option Tc → Tc → Bool
  | none, _ => false
  | some a, b => Tc.eq a b
def isiD : List D → Option D
  | [.ty _, _] => none
  | [d, .ty n] => some (.bl (isTy (tyOf d) n))
  | _ => none
def nmO : Option Tc → String
  | none => "NoneType"
  | some t => t.nm
theorem kit_at (a : Option Tc) (b : Tc) : kitB (nmO a) b.nm = some (isTy a b) := by
  cases a with
  | none => cases b <;> decide +kernel
  | some a => cases a <;> cases b <;> decide +kernel
theorem tyx_of {K : PySem.W.Frag} {S H : Hp} {v : V} {d : D} (sub : Same S H) (h : At K S v d) (hd : ∀ n, d ≠ .ty n) : TyX K H v (.type (nmO (tyOf d))) := by
  cases h with
  | non => exact .base .non
  | bl b => exact .base (.bl b)
  | int i => exact .base (.int i)
  | str x => exact .base (.str x)
  | tup h z r =>
    rcases h with (h | ⟨o, h⟩) | ⟨o, its, n, hk, hc, _⟩
    · exact .base (.tup (sub _ _ h))
    · exact .fTuple (sub _ _ h)
    · exact .kTuple hk hc
  | lst h z r => exact .base (.lst (sub _ _ h))
  | dct h k z r => exact .base (.dT (sub _ _ h))
  | scr h z =>
    rcases h with (h | ⟨o, h⟩) | ⟨o, its, n, hk, hc, _⟩
    · exact .base (.lst (sub _ _ h))
    · exact .base (.frz (sub _ _ h))
    · exact .kList hk hc
  | ty n _ => exact (hd n rfl).elim
theorem isiD_some {ds : List D} {c : D} (h : isiD ds = some c) : ∃ d n, ds = [d, .ty n] ∧ (∀ m, d ≠ .ty m) ∧ c = .bl (isTy (tyOf d) n) := by
  unfold isiD at h
  split at h
  · cases h
  · rename_i d n hd
    cases h
    exact ⟨d, n, rfl, fun m z => hd m z, rfl⟩
  · cases h
theorem c_isi : CallD X (.builtin "isinstance") isiD := ⟨_, call_isi, fun S H vs ds c Q sub ha e k => by
  obtain ⟨d, n, rfl, hd, rfl⟩ := isiD_some e
  match vs, ha with
  | [v, _], .cons h (.cons (.ty _ hn) .nil) =>
    subst hn
    exact ⟨v, .ty n.nm, _, _, isTy (tyOf d) n, rfl, .ty n.nm, tyx_of sub h hd, kit_ty (kit_at _ _), k _ S H (Ext.refl sub) (.bl _)⟩⟩
def absD : List D → Option D
  | [.int i] => some (.int (if i < 0 then -i else i))
  | _ => none
theorem c_abs : CallD X (.builtin "abs") absD := ⟨_, call_abs, fun S H vs ds c Q sub ha e k => by
  match ds, vs, ha, e with
  | [.int i], [_], .cons (.int _) .nil, e => cases e; exact ⟨i, rfl, k _ S H (Ext.refl sub) (.int _)⟩
  | [], _, _, e => cases e
  | _ :: _ :: _, _, _, e => exact absurd e (by simp [absD])
  | [.non], _, _, e => cases e
  | [.bl _], _, _, e => cases e
  | [.str _], _, _, e => cases e
  | [.tup _], _, _, e => cases e
  | [.lst _], _, _, e => cases e
  | [.dct _], _, _, e => cases e
  | [.scr _], _, _, e => cases e
  | [.ty _], _, _, e => cases e⟩
def intD : List D → Option D
  | [.int i] => some (.int i)
  | [.bl b] => some (.int (if b then 1 else 0))
  | _ => none
theorem c_int : CallD X (.type "int") intD := ⟨_, call_int1, fun S H vs ds c Q sub ha e k => by
  match ds, vs, ha, e with
  | [.int i], [_], .cons (.int _) .nil, e => cases e; exact .inl ⟨i, rfl, k _ S H (Ext.refl sub) (.int _)⟩
  | [.bl i], [_], .cons (.bl _) .nil, e => cases e; exact .inr ⟨i, rfl, k _ S H (Ext.refl sub) (.int _)⟩
  | [], _, _, e => cases e
  | _ :: _ :: _, _, _, e => exact absurd e (by simp [intD])
  | [.non], _, _, e => cases e
  | [.str _], _, _, e => cases e
  | [.tup _], _, _, e => cases e
  | [.lst _], _, _, e => cases e
  | [.dct _], _, _, e => cases e
  | [.scr _], _, _, e => cases e
  | [.ty _], _, _, e => cases e⟩
def mm2 (mx : Bool) : List D → Option D
  | [.int i, .int j] => some (.int (if mx = true then (if j > i then j else i) else (if j < i then j else i)))
  | _ => none
theorem mm2_two {mx : Bool} {ds : List D} {c : D} (h : mm2 mx ds = some c) : ∃ i j, ds = [.int i, .int j] ∧ c = .int (if mx = true then (if j > i then j else i) else (if j < i then j else i)) := by
  unfold mm2 at h
  split at h
  · cases h; exact ⟨_, _, rfl, rfl⟩
  · cases h
theorem c_max2 (hc : X.calm = true) : CallD X (.builtin "max") (mm2 true) := ⟨_, call_max2 hc, fun S H vs ds c Q sub ha e k => by
  obtain ⟨i, j, rfl, rfl⟩ := mm2_two e
  match vs, ha with
  | [_, _], .cons (.int _) (.cons (.int _) .nil) => exact ⟨i, j, rfl, k _ S H (Ext.refl sub) (.int _)⟩⟩
theorem c_min2 (hc : X.calm = true) : CallD X (.builtin "min") (mm2 false) := ⟨_, call_min2 hc, fun S H vs ds c Q sub ha e k => by
  obtain ⟨i, j, rfl, rfl⟩ := mm2_two e
  match vs, ha with
  | [_, _], .cons (.int _) (.cons (.int _) .nil) => exact ⟨i, j, rfl, k _ S H (Ext.refl sub) (.int _)⟩⟩
/-- a list of whole numbers -/
def intsOf : List D → Option (List Int)
  | [] => some []
  | .int i :: ds => (intsOf ds).map (i :: ·)
  | _ => none
theorem intsOf_map {K : PySem.W.Frag} {S : Hp} : ∀ {vs : List V} {ds : List D} {ns : List Int}, AtL K S vs ds → intsOf ds = some ns → vs = ns.map V.int
  | _, _, _, .nil, e => by cases e; rfl
  | _, .int i :: ds, _, .cons (.int _) r, e => by
    unfold intsOf at e
    cases q : intsOf ds with
    | none => rw [q] at e; cases e
    | some ms => rw [q] at e; cases e; rw [intsOf_map r q]; rfl
  | _, .non :: _, _, .cons _ _, e => by cases e
  | _, .bl _ :: _, _, .cons _ _, e => by cases e
  | _, .str _ :: _, _, .cons _ _, e => by cases e
  | _, .tup _ :: _, _, .cons _ _, e => by cases e
  | _, .lst _ :: _, _, .cons _ _, e => by cases e
  | _, .dct _ :: _, _, .cons _ _, e => by cases e
  | _, .scr _ :: _, _, .cons _ _, e => by cases e
  | _, .ty _ :: _, _, .cons _ _, e => by cases e
def listMax : List Int → Int
  | [] => 0
  | [x] => x
  | x :: y :: r => max x (listMax (y :: r))
def listMin : List Int → Int
  | [] => 0
  | [x] => x
  | x :: y :: r => min x (listMin (y :: r))
theorem listMax_mem : ∀ {ns : List Int}, ns ≠ [] → listMax ns ∈ ns ∧ ∀ y ∈ ns, y ≤ listMax ns
  | [], h => (h rfl).elim
  | [x], _ => by simp [listMax]
  | x :: y :: r, _ => by
    obtain ⟨h1, h2⟩ := listMax_mem (ns := y :: r) (by simp)
    unfold listMax
    refine ⟨?_, fun z hz => ?_⟩
    · by_cases h : x ≤ listMax (y :: r)
      · rw [Int.max_eq_right h]; exact List.mem_cons_of_mem _ h1
      · rw [Int.max_eq_left (by omega)]; exact List.mem_cons_self
    · rcases List.mem_cons.mp hz with rfl | hz
      · exact Int.le_max_left _ _
      · exact Int.le_trans (h2 z hz) (Int.le_max_right _ _)
theorem listMin_mem : ∀ {ns : List Int}, ns ≠ [] → listMin ns ∈ ns ∧ ∀ y ∈ ns, listMin ns ≤ y
  | [], h => (h rfl).elim
  | [x], _ => by simp [listMin]
  | x :: y :: r, _ => by
    obtain ⟨h1, h2⟩ := listMin_mem (ns := y :: r) (by simp)
    unfold listMin
    refine ⟨?_, fun z hz => ?_⟩
    · by_cases h : x ≤ listMin (y :: r)
      · rw [Int.min_eq_left h]; exact List.mem_cons_self
      · rw [Int.min_eq_right (by omega)]; exact List.mem_cons_of_mem _ h1
    · rcases List.mem_cons.mp hz with rfl | hz
      · exact Int.min_le_left _ _
      · exact Int.le_trans (Int.min_le_right _ _) (h2 z hz)
def onInts (p : List Int → Bool) (h : List Int → D) : List D → Option D
  | [.lst ds] => match intsOf ds with
    | some ns => if p ns = true then some (h ns) else none
    | none => none
  | _ => none
theorem onInts_some {p : List Int → Bool} {h : List Int → D} {K : PySem.W.Frag} {S H : Hp} {vs : List V} {ds : List D} {c : D} (sub : Same S H) (ha : AtL K S vs ds) (e : onInts p h ds = some c) : ∃ a ns, vs = [.ref a] ∧ SqL K H a (ns.map V.int) ∧ p ns = true ∧ c = h ns := by
  unfold onInts at e
  split at e
  · rename_i ds'
    match vs, ha with
    | [_], .cons (.lst (a := a) (vs := ws) hs z r) .nil =>
      cases q : intsOf ds' with
      | none => rw [q] at e; cases e
      | some ns =>
        rw [q] at e
        dsimp only at e
        split at e
        · rename_i hp
          cases e
          exact ⟨a, ns, rfl, by rw [← intsOf_map r q]; exact .of (sub _ _ hs), hp, rfl⟩
        · cases e
  · cases e
def maxD := onInts (fun ns => !ns.isEmpty) fun ns => .int (listMax ns)
def minD := onInts (fun ns => !ns.isEmpty) fun ns => .int (listMin ns)
def sumD := onInts (fun _ => true) fun ns => .int ns.sum
theorem ne_of_isEmpty {ns : List Int} (h : (!ns.isEmpty) = true) : ns ≠ [] := fun z => by subst z; cases h
theorem c_max (hc : X.calm = true) : CallD X (.builtin "max") maxD := ⟨_, cr_max hc, fun S H vs ds c Q sub ha e k => by
  obtain ⟨a, ns, rfl, hs, hp, rfl⟩ := onInts_some sub ha e
  have hn := ne_of_isEmpty hp
  refine ⟨a, ns, rfl, hs, List.length_pos_iff.mpr hn, fun m hm hy => ?_⟩
  obtain ⟨h1, h2⟩ := listMax_mem hn
  have em : m = listMax ns := Int.le_antisymm (h2 m hm) (hy _ h1)
  rw [em]
  exact k _ S H (Ext.refl sub) (.int _)⟩
theorem c_min (hc : X.calm = true) : CallD X (.builtin "min") minD := ⟨_, cr_min hc, fun S H vs ds c Q sub ha e k => by
  obtain ⟨a, ns, rfl, hs, hp, rfl⟩ := onInts_some sub ha e
  have hn := ne_of_isEmpty hp
  refine ⟨a, ns, rfl, hs, List.length_pos_iff.mpr hn, fun m hm hy => ?_⟩
  obtain ⟨h1, h2⟩ := listMin_mem hn
  have em : m = listMin ns := Int.le_antisymm (hy _ h1) (h2 m hm)
  rw [em]
  exact k _ S H (Ext.refl sub) (.int _)⟩
theorem c_sum (hc : X.calm = true) : CallD X (.builtin "sum") sumD := ⟨_, cr_sum hc, fun S H vs ds c Q sub ha e k => by
  obtain ⟨a, ns, rfl, hs, hp, rfl⟩ := onInts_some sub ha e
  exact ⟨a, ns, rfl, hs, k _ S H (Ext.refl sub) (.int _)⟩⟩
def maxA : List D → Option D := fun ds => match maxD ds with | some c => some c | none => mm2 true ds
def minA : List D → Option D := fun ds => match minD ds with | some c => some c | none => mm2 false ds
theorem c_maxA (hc : X.calm = true) : CallD X (.builtin "max") maxA := (c_max hc).or (c_max2 hc)
theorem c_minA (hc : X.calm = true) : CallD X (.builtin "min") minA := (c_min hc).or (c_min2 hc)
/-- tuple(..) -/
def tupleD : List D → Option D
  | [.lst ds] => some (.tup ds)
  | [.tup ds] => some (.tup ds)
  | _ => none
theorem c_tuple : CallD X (.type "tuple") tupleD := ⟨_, call_tuple_of, fun S H vs ds c Q sub ha e k => by
  unfold tupleD at e
  split at e
  · match vs, ha with
    | [_], .cons (.lst (a := a) (vs := ws) hs z r) .nil =>
      cases e
      refine ⟨a, ws, rfl, .inl ⟨.of (sub _ _ hs), fun l nl => ?_⟩⟩
      have xx := Ext.new (O := fun _ => False) (o := .tup ws) sub nl
      exact k _ _ _ xx (.tup (.inl (.inl upd_same)) z (r.mono xx.s))
  · match vs, ha with
    | [_], .cons (.tup (a := a) (vs := ws) hs z r) .nil =>
      cases e
      exact ⟨a, ws, rfl, .inr ⟨sqT_mono sub hs, k _ S H (Ext.refl sub) (.tup hs z r)⟩⟩
  · cases e⟩
end
end SW

set_option maxRecDepth 100000
/-! SW9: list(..), stores into an owned list, methods that turn an owned list. -/
namespace SW
open PySem PySem.Spec PyProof.Rows L2
section
variable {X : Cx} {W : WX} {L : Lc} {os os1 os2 os3 osN : Os} {e e1 e2 : Expr} {f f1 f2 : Rho → Out (D × Rho)} {pos p apos : Pos} {es : List Expr} {g : Rho → Out (List D × Rho)}
def listD : List D → Option D
  | [.lst ds] => some (.lst ds)
  | [.tup ds] => some (.lst ds)
  | [.scr ns] => some (.lst (ns.map .int))
  | _ => none
/-- list(e): a new list -/
theorem ve_list {x : Str} (ha : VA X W os [e] g os1) (hx : x = "list") (hm : X.mg x = none) (hg : Gl X x := by rfl) (hle : Le os1 os := by rfl)
    (he : starEach [e] X.env = (false, eval e X.env) :: starEach [] X.env := by rfl) (hpl : (backTo pos (starEach [] X.env)).any (·.1) = false := by rfl) : VE X W os (.Call (.Name x p) [e] [] pos) (eArg listD g) os1 true := by
  obtain ⟨ta, pa, ka⟩ := ha
  subst hx
  refine ⟨_, pe_callTy call_list_of hg hm (by decide +kernel) pa (by decide) (by decide) he hpl, fun S σ H ρ Q rel P => ?_⟩
  refine ka S σ H ρ _ rel (Post.seq P (fun z => z) (fun c fs p => p) fun ds ρ1 vs S1 H1 st1 rel1 q1 P1 => ?_)
  have P1 := P1.step RV.ok st1
  dsimp only at P1
  have fin : ∀ {xs : List V} {ys : List D} (l : Addr), Post X W S1 H1 os1 σ os1 (RV X.K true) Q (.ok (.lst ys, ρ1)) → AtL X.K S1 xs ys → ys.length ≤ sizeLine → H1 l = none → Q (.ref l) (upd H1 l (.lst xs)) := fun {xs ys} l P r z nl => by
    have xx := Ext.newO (O := fun _ => False) (o := .lst xs) rel1.sub nl
    exact P (.ref l) S1 (upd H1 l (.lst xs)) (Stp.of_ext xx) (rel1.ext0 xx) ⟨⟨l, rfl, rel1.sub.free nl, .inl ⟨xs, ys, upd_same, rfl, z, r⟩⟩, fun a e => by cases e; exact nl⟩
  obtain ⟨q1, _⟩ := q1
  cases hds : listD ds with
  | none => rw [hds] at P1; exact P1.elim
  | some c =>
    rw [hds] at P1
    unfold listD at hds
    split at hds
    · cases hds
      match vs, q1 with
      | [_], .cons (.lst (a := a) (vs := ws) hs z r) .nil => exact ⟨a, ws, rfl, .inl (.of (rel1.sub _ _ hs)), fun l nl => fin l P1 r z nl⟩
    · cases hds
      match vs, q1 with
      | [_], .cons (.tup (a := a) (vs := ws) hs z r) .nil => exact ⟨a, ws, rfl, .inr (sqT_mono rel1.sub hs), fun l nl => fin l P1 r z nl⟩
    · cases hds
      match vs, q1 with
      | [_], .cons (.scr (a := a) (ns := ns) hs z) .nil => exact ⟨a, _, rfl, .inl (rel1.sub.seq hs), fun l nl => fin l P1 (AtL.ints ns) (by rw [List.length_map]; exact z) nl⟩
    · cases hds
/-- list(x), x an owning name: a new list of the same things -/
theorem ve_listO (i : Nat) {x y : Str} {p2 : Pos} (hx : x = "list") (hm : X.mg x = none) (ho : os.getD i false = true := by rfl) (hN : X.N[i]? = some y := by rfl) (hv : Vis X.env.scope y := by first | exact Or.inl rfl | exact Or.inr (Or.inl rfl) | exact Or.inr (Or.inr rfl)) (hg : Gl X x := by rfl)
    (hd : (y == ("__debug__" : Str)) = false := by decide) (hcd : (y == ("__classdict__" : Str)) = false := by decide)
    (he : starEach [.Name y p2] X.env = (false, eval (.Name y p2) X.env) :: starEach [] X.env := by rfl) (hpl : (backTo pos (starEach [] X.env)).any (·.1) = false := by rfl) :
    VE X W os (.Call (.Name x p) [.Name y p2] [] pos) (eArg listD (aCons (eVar i) aNil)) os true := by
  subst hx
  refine ⟨_, pe_callTy call_list_of hg hm (by decide +kernel) (pa_cons (pe_var hN hv hd hcd) pa_nil he) (by decide) (by decide) he hpl, fun S σ H ρ Q rel P => ?_⟩
  unfold eArg aCons eVar aNil at P
  cases h : ρ.getD i none with
  | none => rw [h] at P; exact P.elim
  | some d =>
    rw [h] at P
    obtain ⟨v, ev, q⟩ := rel.own (getD_some h) ho
    obtain ⟨a, ea, na, q⟩ := q
    subst ea
    rcases q with ⟨vs, ds, eh, rfl, z, rl⟩ | ⟨kvs, ds, eh, rfl, z, k, rl⟩
    · refine ⟨.ref a, ev, a, vs, rfl, .inl (.of eh), fun l nl => ?_⟩
      have xx := Ext.newO (O := fun _ => False) (o := .lst vs) rel.sub nl
      exact P (.ref l) S (upd H l (.lst vs)) (Stp.of_ext xx) (rel.ext0 xx) ⟨⟨l, rfl, rel.sub.free nl, .inl ⟨vs, ds, upd_same, rfl, z, rl⟩⟩, fun a e => by cases e; exact nl⟩
    · exact P.elim
/-- x[lo:hi] of a list: a new list that is owned -/
def sliceL : D → Option Int → Option Int → Option D
  | .lst xs, lo, hi => some (.lst (cutD xs lo hi))
  | .scr ns, lo, hi => some (.lst (cutD (ns.map .int) lo hi))
  | _, _, _ => none
def eSliceL (f : Rho → Out (D × Rho)) (fl fh : Rho → Out (Option Int × Rho)) : Rho → Out (D × Rho) := fun ρ =>
  (f ρ).bind fun p => (fl p.2).bind fun l => (fh l.2).bind fun h => (Out.of (sliceL p.1 l.1 h.1)).bind fun c => .ok (c, h.2)
theorem ve_sliceL {lo hi : Option Expr} {fl fh : Rho → Out (Option Int × Rho)} {p2 : Pos} (ha : VE X W os e f os1 false) (hl : VO X W os1 lo fl os2) (hh : VO X W os2 hi fh os3) : VE X W os (.Subscript e (.Slice lo hi none p2) pos) (eSliceL f fl fh) os3 true := by
  obtain ⟨ta, pa, ka⟩ := ha
  obtain ⟨tl, pl, kl⟩ := hl
  obtain ⟨th, ph, kh⟩ := hh
  refine ⟨_, pe_slice sl_list pa pl ph, fun S σ H ρ Q rel P => ?_⟩
  refine ka S σ H ρ _ rel (Post.seq P (fun z => z) (fun c fs p => p) fun d ρ1 v S1 H1 st1 rel1 q1 P1 => ?_)
  have P1 := P1.step RV.ok st1
  refine kl S1 σ H1 ρ1 _ rel1 (Post.seq P1 (fun z => z) (fun c fs p => p) fun l ρ2 v2 S2 H2 st2 rel2 q2 P2 => ?_)
  have P2 := P2.step RV.ok st2
  refine kh S2 σ H2 ρ2 _ rel2 (Post.seq P2 (fun z => z) (fun c fs p => p) fun h ρ3 v3 S3 H3 st3 rel3 q3 P3 => ?_)
  cases q2; cases q3
  have P3 := P3.step RV.ok st3
  have q1 : At X.K S3 v d := (At.mono st2.ext.s q1).mono st3.ext.s
  dsimp only at P3
  cases q1 with
  | @lst a vs ds hs z r =>
    refine ⟨a, vs, rfl, .of (rel3.sub _ _ hs), fun q nq => ?_⟩
    have xx := Ext.newO (O := fun _ => False) (o := .lst (cutV vs l h)) rel3.sub nq
    exact P3 (.ref q) S3 _ (Stp.of_ext xx) (rel3.ext0 xx) ⟨⟨q, rfl, rel3.sub.free nq, .inl ⟨_, _, upd_same, rfl, Nat.le_trans (cutD_len _ _ _) z, r.cut l h⟩⟩, fun a e => by cases e; exact nq⟩
  | @scr a ns hs z =>
    refine ⟨a, _, rfl, rel3.sub.seq hs, fun q nq => ?_⟩
    have xx := Ext.newO (O := fun _ => False) (o := .lst (cutV (ns.map V.int) l h)) rel3.sub nq
    exact P3 (.ref q) S3 _ (Stp.of_ext xx) (rel3.ext0 xx) ⟨⟨q, rfl, rel3.sub.free nq, .inl ⟨_, _, upd_same, rfl, Nat.le_trans (cutD_len _ _ _) (by rw [List.length_map]; exact z), (AtL.ints ns).cut l h⟩⟩, fun a e => by cases e; exact nq⟩
  | _ => exact P3.elim
/-- two lists put together: a new one that is owned -/
theorem ve_catL (ha : VE X W os e1 f1 os1 false) (hb : VE X W os1 e2 f2 os2 false) : VE X W os (.BinOp e1 .Add e2 pos) (eOp2 catL f1 f2) os2 true := by
  obtain ⟨ta, pa, ka⟩ := ha
  obtain ⟨tb, pb, kb⟩ := hb
  refine ⟨_, pe_op op_cat pa pb, fun S σ H ρ Q rel P => ?_⟩
  refine ka S σ H ρ _ rel (Post.seq P (fun z => z) (fun c fs p => p) fun d ρ1 v S1 H1 st1 rel1 q1 P1 => ?_)
  have P1 := P1.step RV.ok st1
  refine kb S1 σ H1 ρ1 _ rel1 (Post.seq P1 (fun z => z) (fun c fs p => p) fun d2 ρ2 v2 S2 H2 st2 rel2 q2 P2 => ?_)
  have P2 := P2.step RV.ok st2
  have q1 : At X.K S2 v d := At.mono st2.ext.s q1
  have q2 : At X.K S2 v2 d2 := q2
  dsimp only at P2
  cases q1 with
  | @lst a vs ds hs z r =>
    cases q2 with
    | @lst b ws es hs2 z2 r2 =>
      have P2 : Post X W S2 H2 os2 σ os2 (RV X.K true) Q ((Out.of (if ds.length + es.length ≤ sizeLine then some (D.lst (ds ++ es)) else none)).bind fun c => .ok (c, ρ2)) := P2
      split at P2
      · rename_i hz
        refine ⟨a, b, vs, ws, rfl, rfl, rel2.sub _ _ hs, rel2.sub _ _ hs2, by rw [r.length, r2.length]; exact hz, fun q nq => ?_⟩
        have xx := Ext.newO (O := fun _ => False) (o := .lst (vs ++ ws)) rel2.sub nq
        exact P2 (.ref q) S2 _ (Stp.of_ext xx) (rel2.ext0 xx) ⟨⟨q, rfl, rel2.sub.free nq, .inl ⟨_, _, upd_same, rfl, by rw [List.length_append]; exact hz, r.append r2⟩⟩, fun a e => by cases e; exact nq⟩
      · exact P2.elim
    | _ => exact P2.elim
  | _ => exact P2.elim

/-! ### an owned list is turned -/
def sSetIx (i : Nat) (f fi : Rho → Out (D × Rho)) : Rho → Out Fl := fun ρ => (f ρ).bind fun p => match p.2.getD i none with
  | none => .stuck
  | some _ => (fi p.2).bind fun q => match q.2.getD i none, q.1 with
    | some (.lst ds), .int k => (match ixN ds.length k with
      | some j => .ok (.nx (q.2.set i (some (.lst (ds.set j p.1)))))
      | none => .stuck)
    | _, _ => .stuck
theorem turnL {S H : Hp} {σ : Sg} {ρ : Rho} {i : Nat} {a : Addr} {vs : List V} {ds : List D} (rel : Rel X.K S H os σ ρ) (ho : os.getD i false = true) (ev : σ[i]? = some (some (.ref a))) (na : S a = none) (z : ds.length ≤ sizeLine) (r : AtL X.K S vs ds) :
    Rel X.K S (upd H a (.lst vs)) os σ (ρ.set i (some (.lst ds))) ∧ Stp os σ S H os σ S (upd H a (.lst vs)) :=
  ⟨rel.turn ho ev ⟨a, rfl, na, .inl ⟨vs, ds, upd_same, rfl, z, r⟩⟩, Stp.turn rel ho ev⟩
theorem vs_setIx (i : Nat) {x : Str} {px ps : Pos} {ie : Expr} {fi : Rho → Out (D × Rho)} (hv : VE X W os e f os1 false) (hi : VE X W os1 ie fi os2 false) (ho1 : os1.getD i false = true := by rfl) (ho2 : os2.getD i false = true := by rfl) (hN : X.N[i]? = some x := by rfl)
    (hvis : Vis X.env.scope x := by first | exact Or.inl rfl | exact Or.inr (Or.inl rfl) | exact Or.inr (Or.inr rfl)) (hd : (x == ("__debug__" : Str)) = false := by decide) (hcd : (x == ("__classdict__" : Str)) = false := by decide)
    (ha : ∀ v, assign (.Subscript (.Name x px) ie ps) X.env v = (do
      let ov ← holding [v] (eval (.Name x px) X.env)
      let iv ← holding [v, ov] (eval ie X.env)
      standAt ps
      holding [v, ov, iv] (setItem ov iv v)
      release [v, ov, iv] []) := by intro _; rfl) (hs : swapsWithSole [.Subscript (.Name x px) ie ps] e pos.line X.env = pure false := by rfl) (hw : swappedStores [.Subscript (.Name x px) ie ps] e X.env = pure none := by rfl)
    (h1 : (assignEach [.Subscript (.Name x px) ie ps] X.env).map (·.2) = [assign (.Subscript (.Name x px) ie ps) X.env] := by rfl) :
    VS X W L os (.Assign [.Subscript (.Name x px) ie ps] e pos) (sSetIx i f fi) os2 := by
  obtain ⟨t, pt, kt⟩ := hv
  obtain ⟨ti, pi, ki⟩ := hi
  refine ⟨_, ps_asg pt (pg_sub (pe_var hN hvis hd hcd) pi set_list ha) hs hw h1, fun S σ H ρ Ds rel P => ?_⟩
  refine kt S σ H ρ _ rel (PostS.seqE P fun d ρ1 v S1 H1 s1 r1 q1 P1 => ?_)
  have q1 : At X.K S1 v d := q1
  dsimp only at P1
  cases hx : ρ1.getD i none with
  | none => rw [hx] at P1; exact P1.elim
  | some d1 =>
    rw [hx] at P1
    obtain ⟨u, eu, _⟩ := r1.own (getD_some hx) ho1
    refine ⟨u, eu, ?_⟩
    refine ki S1 σ H1 ρ1 _ r1 (PostS.seqE P1 fun d2 ρ2 v2 S2 H2 s2 r2 q2 P2 => ?_)
    have q2 : At X.K S2 v2 d2 := q2
    dsimp only at P2
    cases hx2 : ρ2.getD i none with
    | none => rw [hx2] at P2; exact P2.elim
    | some d3 =>
      rw [hx2] at P2
      obtain ⟨u', eu', hown⟩ := r2.own (getD_some hx2) ho2
      rw [eu] at eu'
      cases eu'
      obtain ⟨a, ea, na, q⟩ := hown
      subst ea
      rcases q with ⟨vs, ds, eh, rfl, z, rl⟩ | ⟨kvs, ds, eh, rfl, z, kk, rl⟩
      · cases q2 with
        | int k =>
          have P2 : PostS X W L S2 H2 os2 σ os2 Ds (match ixN ds.length k with
            | some j => .ok (.nx (ρ2.set i (some (.lst (ds.set j d)))))
            | none => .stuck) := P2
          cases hj : ixN ds.length k with
          | none => rw [hj] at P2; exact P2.elim
          | some j =>
            rw [hj] at P2
            obtain ⟨r3, st3⟩ := turnL r2 ho2 eu na (by rw [List.length_set]; exact z) (rl.set j (q1.mono s2.ext.s))
            exact ⟨a, vs, k, j, rfl, rfl, eh, by rw [rl.length]; exact hj, P2 σ S2 _ st3 FixOn.refl r3⟩
        | _ => exact P2.elim
      · cases q2 <;> exact P2.elim

/-! ### methods -/
/-- a method that turns its list: u tells the value and the new list -/
def OwnM (X : Cx) (id : String) (u : List D → List D → Option (D × List D)) : Prop :=
  ∃ r, MtR X id r ∧ ∀ S H a vs ds ws es c ds' Q, Same S H → H a = some (.lst vs) → S a = none → AtL X.K S vs ds → AtL X.K S ws es → ds.length ≤ sizeLine → u ds es = some (c, ds') →
    (∀ v vs', AtL X.K S vs' ds' → ds'.length ≤ sizeLine → At X.K S v c → Q v (upd H a (.lst vs'))) → r (.ref a) ws H Q
def eOwnM (u : List D → List D → Option (D × List D)) (i : Nat) (g : Rho → Out (List D × Rho)) : Rho → Out (D × Rho) := fun ρ => match ρ.getD i none with
  | some (.lst _) => (g ρ).bind fun p => (match p.2.getD i none with
    | some (.lst ds) => (Out.of (u ds p.1)).bind fun c => .ok (c.1, p.2.set i (some (.lst c.2)))
    | _ => .stuck)
  | _ => .stuck
theorem ve_ownM (i : Nat) {x name : Str} {id : String} {px cpos : Pos} {u : List D → List D → Option (D × List D)} (hm : OwnM X id u) (pa : PlainAttrs "list") (slot : Slot "list" name id) (hty : typeOf (.builtin id) = pure (.type "method_descriptor")) (hg : VA X W os (e :: es) g os1)
    (ho : os.getD i false = true := by rfl) (ho1 : os1.getD i false = true := by rfl) (hN : X.N[i]? = some x := by rfl) (hvis : Vis X.env.scope x := by first | exact Or.inl rfl | exact Or.inr (Or.inl rfl) | exact Or.inr (Or.inr rfl)) (hd : (x == ("__debug__" : Str)) = false := by decide) (hcd : (x == ("__classdict__" : Str)) = false := by decide)
    (hbase : attributeBase (.Name x px) name X.env (eval (.Name x px) X.env) = eval (.Name x px) X.env := by rfl)
    (hfew : ((backTo cpos (starEach (e :: es) X.env)).all (fun x => !x.1) && (backToKw cpos (keywordEach [] X.env)).all (fun x => x.1.isSome)
      && decide ((e :: es).length + ([] : List Keyword).length + (if ([] : List Keyword).isEmpty then 0 else 1) < 30)) = true := by rfl)
    (hline : (apos.endLine == cpos.line) = true := by rfl) (hs : starEach (e :: es) X.env = (false, eval e X.env) :: starEach es X.env := by rfl) (hplain : (backTo cpos (starEach es X.env)).any (·.1) = false := by rfl) :
    VE X W os (.Call (.Attribute (.Name x px) name apos) (e :: es) [] cpos) (eOwnM u i g) os1 false := by
  obtain ⟨tg, pg, kg⟩ := hg
  obtain ⟨r, pm, km⟩ := hm
  refine ⟨_, pe_bm pa slot hty pm (pe_var hN hvis hd hcd) pg hbase hfew hline hs hplain, fun S σ H ρ Q rel P => ?_⟩
  unfold eOwnM at P
  cases hx : ρ.getD i none with
  | none => rw [hx] at P; exact P.elim
  | some d0 =>
    rw [hx] at P
    obtain ⟨w, ew, hown⟩ := rel.own (getD_some hx) ho
    refine ⟨w, ew, ?_, ?_⟩
    · obtain ⟨a, ea, na, q⟩ := hown
      subst ea
      rcases q with ⟨vs, ds, eh, _⟩ | ⟨kvs, ds, eh, rfl, _⟩
      · exact .inl ⟨rfl, vs, .of eh⟩
      · exact P.elim
    · have P : Post X W S H os σ os1 (RV X.K false) Q ((g ρ).bind fun p => (match p.2.getD i none with
        | some (.lst ds) => (Out.of (u ds p.1)).bind fun c => .ok (c.1, p.2.set i (some (.lst c.2)))
        | _ => .stuck)) := by
        cases d0 <;> first | exact P | exact P.elim
      refine kg S σ H ρ _ rel (Post.seq P (fun z => z) (fun c fs p => p) fun es' ρ1 ws S1 H1 st1 rel1 q1 P1 => ?_)
      have P1 := P1.step RV.ok st1
      dsimp only at P1
      cases hx1 : ρ1.getD i none with
      | none => rw [hx1] at P1; exact P1.elim
      | some d1 =>
        rw [hx1] at P1
        obtain ⟨w', ew', hown'⟩ := rel1.own (getD_some hx1) ho1
        rw [ew] at ew'
        cases ew'
        obtain ⟨a, ea, na, q⟩ := hown'
        subst ea
        rcases q with ⟨vs, ds, eh, rfl, z, rl⟩ | ⟨kvs, ds, eh, rfl, _⟩
        · have P1 : Post X W S1 H1 os1 σ os1 (RV X.K false) Q ((Out.of (u ds es')).bind fun c => .ok (c.1, ρ1.set i (some (.lst c.2)))) := P1
          cases hu : u ds es' with
          | none => rw [hu] at P1; exact P1.elim
          | some c =>
            rw [hu] at P1
            refine km S1 H1 a vs ds ws es' c.1 c.2 Q rel1.sub eh na rl q1.1 z hu fun v vs' h1 h2 h3 => ?_
            obtain ⟨r3, st3⟩ := turnL rel1 ho1 ew na h2 h1
            exact P1 v S1 _ st3 r3 h3
        · exact P1.elim
theorem ve_ownM0 (i : Nat) {x name : Str} {id : String} {px cpos : Pos} {u : List D → List D → Option (D × List D)} (hm : OwnM X id u) (pa : PlainAttrs "list") (slot : Slot "list" name id) (hty : typeOf (.builtin id) = pure (.type "method_descriptor"))
    (ho : os.getD i false = true := by rfl) (hN : X.N[i]? = some x := by rfl) (hvis : Vis X.env.scope x := by first | exact Or.inl rfl | exact Or.inr (Or.inl rfl) | exact Or.inr (Or.inr rfl)) (hd : (x == ("__debug__" : Str)) = false := by decide) (hcd : (x == ("__classdict__" : Str)) = false := by decide)
    (hbase : attributeBase (.Name x px) name X.env (eval (.Name x px) X.env) = eval (.Name x px) X.env := by rfl) (hline : (apos.endLine == cpos.line) = true := by rfl) :
    VE X W os (.Call (.Attribute (.Name x px) name apos) [] [] cpos) (eOwnM u i aNil) os false := by
  obtain ⟨r, pm, km⟩ := hm
  refine ⟨_, pe_bm0 pa slot hty pm (pe_var hN hvis hd hcd) hbase hline, fun S σ H ρ Q rel P => ?_⟩
  unfold eOwnM at P
  cases hx : ρ.getD i none with
  | none => rw [hx] at P; exact P.elim
  | some d0 =>
    rw [hx] at P
    obtain ⟨w, ew, hown⟩ := rel.own (getD_some hx) ho
    obtain ⟨a, ea, na, q⟩ := hown
    subst ea
    rcases q with ⟨vs, ds, eh, rfl, z, rl⟩ | ⟨kvs, ds, eh, rfl, _⟩
    · refine ⟨.ref a, ew, .inl ⟨rfl, vs, .of eh⟩, ?_⟩
      have P1 : Post X W S H os σ os (RV X.K false) Q (match ρ.getD i none with
        | some (.lst ds) => (Out.of (u ds [])).bind fun c => .ok (c.1, ρ.set i (some (.lst c.2)))
        | _ => .stuck) := P
      rw [hx] at P1
      have P1 : Post X W S H os σ os (RV X.K false) Q ((Out.of (u ds [])).bind fun c => .ok (c.1, ρ.set i (some (.lst c.2)))) := P1
      cases hu : u ds [] with
      | none => rw [hu] at P1; exact P1.elim
      | some c =>
        rw [hu] at P1
        refine km S H a vs ds [] [] c.1 c.2 Q rel.sub eh na rl .nil z hu fun v vs' h1 h2 h3 => ?_
        obtain ⟨r3, st3⟩ := turnL rel ho ew na h2 h1
        exact P1 v S _ st3 r3 h3
    · exact P.elim
def uAppend : List D → List D → Option (D × List D)
  | ds, [d] => if ds.length < sizeLine then some (.non, ds ++ [d]) else none
  | _, _ => none
theorem own_append : OwnM X "list.append" uAppend := ⟨_, mt_append, fun S H a vs ds ws es c ds' Q sub hH na r rw_ z e k => by
  unfold uAppend at e
  split at e
  · rename_i d
    split at e
    · rename_i hz
      cases e
      match ws, rw_ with
      | [w], .cons hw .nil => exact ⟨a, vs, w, rfl, rfl, hH, by rw [r.length]; exact hz, k _ _ (r.append (.cons hw .nil)) (by rw [List.length_append]; exact hz) .non⟩
    · cases e
  · cases e⟩
def uExtend : List D → List D → Option (D × List D)
  | ds, [.lst es] => if ds.length + es.length ≤ sizeLine then some (.non, ds ++ es) else none
  | _, _ => none
theorem own_extend : OwnM X "list.extend" uExtend := ⟨_, mt_extend, fun S H a vs ds ws es c ds' Q sub hH na r rw_ z e k => by
  unfold uExtend at e
  split at e
  · split at e
    · rename_i hz
      cases e
      match ws, rw_ with
      | [_], .cons (.lst (a := b) (vs := us) hb zb rb) .nil => exact ⟨a, b, vs, us, rfl, rfl, hH, sub _ _ hb, by rw [r.length, rb.length]; exact hz, k _ _ (r.append rb) (by rw [List.length_append]; exact hz) .non⟩
    · cases e
  · cases e⟩
def uClear : List D → List D → Option (D × List D)
  | _, [] => some (.non, [])
  | _, _ => none
theorem own_clear : OwnM X "list.clear" uClear := ⟨_, mt_clear, fun S H a vs ds ws es c ds' Q sub hH na r rw_ z e k => by
  unfold uClear at e
  split at e
  · cases e
    match ws, rw_ with
    | [], .nil => exact ⟨a, vs, rfl, rfl, hH, k _ _ .nil (Nat.zero_le _) .non⟩
  · cases e⟩
def uReverse : List D → List D → Option (D × List D)
  | ds, [] => some (.non, ds.reverse)
  | _, _ => none
theorem own_reverse : OwnM X "list.reverse" uReverse := ⟨_, mt_reverse, fun S H a vs ds ws es c ds' Q sub hH na r rw_ z e k => by
  unfold uReverse at e
  split at e
  · cases e
    match ws, rw_ with
    | [], .nil => exact ⟨a, vs, rfl, rfl, hH, k _ _ r.reverse (by rw [List.length_reverse]; exact z) .non⟩
  · cases e⟩
theorem AtL.dropLast {K : PySem.W.Frag} {S : Hp} : ∀ {vs : List V} {ds : List D}, AtL K S vs ds → AtL K S vs.dropLast ds.dropLast
  | _, _, .nil => .nil
  | _, _, .cons h .nil => .nil
  | _, _, .cons h (.cons h2 t) => .cons h (AtL.dropLast (.cons h2 t))
def uPop : List D → List D → Option (D × List D)
  | ds, [] => match ds[ds.length - 1]? with
    | some d => some (d, ds.dropLast)
    | none => none
  | _, _ => none
theorem own_pop : OwnM X "list.pop" uPop := ⟨_, mt_pop, fun S H a vs ds ws es c ds' Q sub hH na r rw_ z e k => by
  unfold uPop at e
  split at e
  · split at e
    · rename_i d hd
      cases e
      obtain ⟨v, ev, hv⟩ := r.get hd
      match ws, rw_ with
      | [], .nil => exact ⟨a, vs, v, rfl, rfl, hH, by rw [r.length]; exact ev, k _ _ r.dropLast (by rw [List.length_dropLast]; omega) hv⟩
    · cases e
  · cases e⟩
end
end SW

set_option maxRecDepth 100000
/-! SW10: break, continue, x op= e, freezing ahead, bodies that always return, a module's constants, the end. -/
namespace SW
open PySem PySem.Spec PyProof.Rows L2
section
variable {X : Cx} {W : WX} {L : Lc} {os os1 os2 os3 osN : Os} {e e1 e2 : Expr} {f f1 f2 : Rho → Out (D × Rho)} {pos p apos : Pos} {es : List Expr} {g g2 : Rho → Out Fl} {st : Stmt} {sts : List Stmt}
def sBrk : Rho → Out Fl := fun ρ => .ok (.bk ρ)
def sCnt : Rho → Out Fl := fun ρ => .ok (.ct ρ)
theorem vs_break (h : L.bk = os := by rfl) : VS X W L os (.Break pos) sBrk osN := ⟨_, ps_break, fun S σ H ρ Ds rel P => P σ S H (by rw [h]; exact Stp.refl rel.sub) FixOn.refl (by rw [h]; exact rel)⟩
theorem vs_continue (h : L.ct = os := by rfl) : VS X W L os (.Continue pos) sCnt osN := ⟨_, ps_continue, fun S σ H ρ Ds rel P => P σ S H (by rw [h]; exact Stp.refl rel.sub) FixOn.refl (by rw [h]; exact rel)⟩
/-- what a name owns stands from ahead of a statement on -/
theorem VS.fz0 (i : Nat) (h : VS X W L (os.set i false) st g osN) : VS X W L os st g osN := by
  obtain ⟨t, p, k⟩ := h
  refine ⟨t, p, fun S σ H ρ Ds rel P => ?_⟩
  obtain ⟨S', _, r', s', _⟩ := freeze1 rel i
  exact k S' σ H ρ Ds r' (P.step s' FixOn.refl)
theorem VSs.fz0 (i : Nat) (h : VSs X W L (os.set i false) sts g osN) : VSs X W L os sts g osN := by
  obtain ⟨t, p, k⟩ := h
  refine ⟨t, p, fun S σ H ρ Ds rel P => ?_⟩
  obtain ⟨S', _, r', s', _⟩ := freeze1 rel i
  exact k S' σ H ρ Ds r' (P.step s' FixOn.refl)
/-- x += e -/
def sAug (i : Nat) (h : D → D → Option D) (f : Rho → Out (D × Rho)) : Rho → Out Fl := fun ρ => match ρ.getD i none with
  | none => .stuck
  | some d => (f ρ).bind fun q => (Out.of (h d q.1)).bind fun c => .ok (.nx (q.2.set i (some c)))
theorem vs_aug (i : Nat) {x : Str} {hh : D → D → Option D} {op : Operator} {ti : TIp} (hop : PIp X op ti) (hd2 : ∀ S H x y a b c Q, Same S H → At X.K S x a → At X.K S y b → hh a b = some c → (∀ v, At X.K S v c → Q v H) → ti x y H Q)
    (he : VE X W os e f os1 false) (hN : X.N.Nodup) (ho : os.getD i false = false := by rfl) (hi : X.N[i]? = some x := by rfl) (hx : Loc X.env.scope x := by first | exact Or.inl rfl | exact Or.inr rfl) (hfi : L.fx.getD i false = false := by rfl)
    (hf : X.fn x = true ∨ X.env.scope.names.lookup x = some .local := by first | exact .inl rfl | exact .inr rfl | assumption) : VS X W L os (.AugAssign (.Name x p) op e pos) (sAug i hh f) (os1.set i false) := by
  obtain ⟨t, pt, kt⟩ := he
  refine ⟨_, ps_aug hN hi hx pt hop hf, fun S σ H ρ Ds rel P => ?_⟩
  unfold sAug at P
  cases h0 : ρ.getD i none with
  | none => rw [h0] at P; exact P.elim
  | some d =>
    rw [h0] at P
    obtain ⟨v, ev, hv⟩ := rel.val (getD_some h0) ho
    refine ⟨v, ev, ?_⟩
    refine kt S σ H ρ _ rel (PostS.seqE P fun d2 ρ1 v2 S1 H1 s1 r1 q1 P1 => ?_)
    dsimp only at P1
    cases hc : hh d d2 with
    | none => rw [hc] at P1; exact P1.elim
    | some c =>
      rw [hc] at P1
      refine hd2 S1 H1 v v2 d d2 c _ r1.sub (hv.mono s1.ext.s) q1 hc fun w hw => ?_
      exact P1 _ S1 H1 ⟨Ext.refl r1.sub, fun a q => .inl (own_set q)⟩ (fix_set hfi) (r1.set hw i)
theorem vs_augAdd (i : Nat) {x : Str} (he : VE X W os e f os1 false) (hN : X.N.Nodup) (ho : os.getD i false = false := by rfl) (hi : X.N[i]? = some x := by rfl) (hx : Loc X.env.scope x := by first | exact Or.inl rfl | exact Or.inr rfl) (hfi : L.fx.getD i false = false := by rfl)
    (hf : X.fn x = true ∨ X.env.scope.names.lookup x = some .local := by first | exact .inl rfl | exact .inr rfl | assumption) : VS X W L os (.AugAssign (.Name x p) .Add e pos) (sAug i addI f) (os1.set i false) :=
  vs_aug i ip_add (fun S H x y a b c Q sub ha hb e k => by
    cases ha with
    | int i =>
      cases hb with
      | int j => cases e; exact ⟨i, j, rfl, rfl, k _ (.int _)⟩
      | _ => cases e
    | _ => cases e) he hN ho hi hx hfi hf
/-- a module's constant -/
def Konst (K : PySem.W.Frag) (mg : Str → Option Value) (x : Str) (d : D) : Prop := ∃ v u, mg x = some u ∧ RelV v u ∧ ∀ S, At K S v d
theorem ve_konst {x : Str} {d : D} (h : Konst X.K X.mg x d) (hg : Gl X x := by rfl) (hd : (x == ("__debug__" : Str)) = false := by decide) : VE X W os (.Name x p) (eCon d) os false := by
  obtain ⟨v, u, hm, hr, hat⟩ := h
  exact ve_glob hm hr hat hg hd
theorem konst_int {K : PySem.W.Frag} {mg : Str → Option Value} {x : Str} {i : Int} {t : Tok} (h : mg x = some (.int i t)) : Konst K mg x (.int i) := ⟨.int i, _, h, ⟨t, rfl⟩, fun _ => .int i⟩
theorem konst_str {K : PySem.W.Frag} {mg : Str → Option Value} {x : Str} {i : Str} {t : Tok} (h : mg x = some (.str i t)) : Konst K mg x (.str i) := ⟨.str i, _, h, ⟨t, rfl⟩, fun _ => .str i⟩
/-! ### a body that never runs off its end -/
def NoNx (g : Rho → Out Fl) : Prop := ∀ ρ ρ', g ρ ≠ .ok (.nx ρ')
theorem nn_seq (h : NoNx g2) : NoNx (sSeq g g2) := fun ρ ρ' e => by
  unfold sSeq at e
  cases hg : g ρ with
  | ok z =>
    rw [hg] at e
    cases z with
    | nx ρ1 => exact h ρ1 ρ' e
    | _ => cases e
  | exc c fs => rw [hg] at e; cases e
  | stuck => rw [hg] at e; cases e
theorem nn_ret : NoNx (sRet f) := fun ρ ρ' e => by
  unfold sRet at e
  cases hg : f ρ <;> rw [hg] at e <;> cases e
theorem nn_if {c : Rho → Out (Bool × Rho)} (h1 : NoNx g) (h2 : NoNx g2) : NoNx (sIf c g g2) := fun ρ ρ' e => by
  unfold sIf at e
  cases hg : c ρ with
  | ok z =>
    rw [hg] at e
    obtain ⟨b, ρ1⟩ := z
    have e : (if b = true then g ρ1 else g2 ρ1) = .ok (.nx ρ') := e
    split at e
    · exact h1 _ _ e
    · exact h2 _ _ e
  | exc c fs => rw [hg] at e; cases e
  | stuck => rw [hg] at e; cases e
theorem nn_stuck : NoNx sStuck := fun _ _ e => by cases e
/-- f(e, ..): the list or dict that f turns is a new one that nobody else holds -/
def eCallT (m : List D → Out (D × D)) (f : Rho → Out (D × Rho)) (g : Rho → Out (List D × Rho)) : Rho → Out (D × Rho) := fun ρ => (f ρ).bind fun p => (g p.2).bind fun q => (m (p.1 :: q.1)).bind fun c => .ok (c.1, q.2)
theorem ve_callT {x : Str} {kk : Nat} {fa : Addr} {fd : FuncData} {ps : List Str} {r : Bool} {m : List D → Out (D × D)} {ga : Rho → Out (List D × Rho)} (F : FnOk X.prog X.w X.K X.mg X.base (L2.CX X.prog X.w) kk fa fd ps (spec X.K X.mg (es.length + 1) (some 0) r m)) (tk : Takes X W)
    (hr : Room kk X.A) (hm : X.mg x = some (.ref fa)) (hk : PySem.W.keepIn X.K (.ref fa) = true) (hb : Binds X.K fd ps []) (h0 : VE X W os e f os1 true) (ha : VA X W os1 es ga os2) (hle : Le os1 os := by rfl) (hle2 : Le os2 os := by rfl) (hg : Gl X x := by rfl) (hdb : (x == ("__debug__" : Str)) = false := by decide)
    (he : starEach (e :: es) X.env = (false, eval e X.env) :: starEach es X.env := by rfl) (hpl : (backTo pos (starEach es X.env)).any (·.1) = false := by rfl) :
    VE X W os (.Call (.Name x p) (e :: es) [] pos) (eCallT m f ga) os2 r := by
  obtain ⟨t0, p0, k0⟩ := h0
  obtain ⟨ta, pa, ka⟩ := ha
  refine ⟨_, pe_callS F hr hg hm hk hb (fun σ => passAt tk σ) (pa_cons p0 pa he) hdb he hpl, fun S σ H ρ Q rel P => ?_⟩
  refine k0 S σ H ρ _ rel (Post.seq P (fun z => z) (fun c fs p => p) fun d ρ1 v S1 H1 st1 rel1 q1 P1 => ?_)
  have P1 : Post X W S H os σ os2 (RV X.K r) Q ((ga ρ1).bind fun q => (m (d :: q.1)).bind fun c => .ok (c.1, q.2)) := P1
  refine ka S1 σ H1 ρ1 _ rel1 (Post.seq P1 (fun z => z) (fun c fs p S' H' cls dd x q => p S' H' cls dd (st1.ext.trans x st1.own) q) fun ds ρ2 vs S2 H2 st2 rel2 q2 P2 => ?_)
  have P2 : Post X W S H os σ os2 (RV X.K r) Q ((m (d :: ds)).bind fun c => .ok (c.1, ρ2)) := P2
  obtain ⟨q2, l2⟩ := q2
  have q1 : OwnAt X.K S1 H1 v d ∧ ∀ a, v = .ref a → H a = none := q1
  obtain ⟨q1, fr⟩ := q1
  have nown1 : ∀ a, v = .ref a → ¬ Own os1 σ a := fun a ea ⟨i, hi, hs⟩ => by
    obtain ⟨_, o, eo⟩ := rel.owned ⟨i, getD_le hle hi, hs⟩
    rw [fr a ea] at eo; cases eo
  have q3 : OwnAt X.K S2 H2 v d := q1.ext st2.ext nown1
  have st := st1.trans st2
  refine ⟨by rw [List.length_cons, q2.length, l2], S2, d :: ds, ⟨rel2.sub, by rw [List.length_map, List.length_map, List.length_cons, List.length_cons, q2.length], fun j x y e1 e2 => ?_, fun j j' a h1 h2 _ _ => by rw [osP_get.mp h1, osP_get.mp h2]⟩, ?_⟩
  · cases j with
    | zero => cases e1; cases e2; exact q3
    | succ j =>
      have e1 : (vs.map some)[j]? = some x := e1
      have e2 : (ds.map some)[j]? = some y := e2
      rw [List.getElem?_map] at e1 e2
      have hf : (osP (some 0)).getD (j + 1) false = false := by
        cases h : (osP (some 0)).getD (j + 1) false
        · rfl
        · exact absurd (osP_get.mp h) (by omega)
      rw [hf]
      cases ed : ds[j]? with
      | none => rw [ed] at e2; cases e2
      | some d' =>
        obtain ⟨w, ew, hw⟩ := q2.get ed
        rw [ed] at e2; rw [ew] at e1
        cases e1; cases e2
        exact hw
  · have conv : ∀ a, Own (osP (some 0)) ((v :: vs).map some) a → v = .ref a := fun a ⟨j, h1, h2⟩ => by
      have hj := osP_get.mp h1
      subst hj
      have h2 : some (some v) = some (some (V.ref a)) := h2
      cases h2
      rfl
    have sub : ∀ a, Own (osP (some 0)) ((v :: vs).map some) a → Own os σ a ∨ H a = none := fun a h => .inr (fr a (conv a h))
    cases hmd : m (d :: ds) with
    | stuck => rw [hmd] at P2; exact P2.elim
    | exc c fs =>
      rw [hmd] at P2
      exact fun S' H' cls dd x q => P2 S' H' cls dd (st.ext.trans x sub) q
    | ok z =>
      rw [hmd] at P2
      intro w S' H' x q _
      refine P2 w S' H' ⟨st.ext.trans x sub, fun a q => st.own a q⟩ (rel2.grow x fun a h z => ?_) (RV.ok _ _ _ _ _ _ st.ext.there q)
      -- no slot owns the new one
      obtain ⟨i, hi, hs⟩ := h
      have ea := conv a z
      obtain ⟨_, o, eo⟩ := rel.owned ⟨i, getD_le hle2 hi, hs⟩
      rw [fr a ea] at eo; cases eo
end
/-- how a def's arguments bind: no defaults -/
abbrev bnd := @Fun.binds
/-- the end: a law that is one for-all of its mirror -/
def specL (K : PySem.W.Frag) (m : List D → Out (D × D)) : Sp := fun vs H Q _ => ∃ (a : Addr) (ns : List Int), vs = [.ref a] ∧ SqL K H a (ns.map V.int) ∧ ns.length ≤ 63 ∧ (∃ o, m [.scr ns] = .ok (.bl true, o)) ∧ ∀ H', Q (.bl true) H'
theorem specL_imp {K : PySem.W.Frag} {mg : Str → Option Value} {m : List D → Out (D × D)} : ∀ vs H Q E, specL K m vs H Q E → spec K mg 1 none false m vs H Q E := by
  rintro vs H Q E ⟨a, ns, rfl, hs, hl, ⟨o, e⟩, hq⟩
  refine ⟨rfl, H, [.scr ns], rel_args (.cons (.scr hs (Nat.le_trans hl (by decide))) .nil) (Same.refl _), ?_⟩
  rw [e]
  intro v S' H' x q _
  have q : At K S' v (.bl true) := q
  cases q
  exact hq H'
theorem law_specL {K : PySem.W.Frag} {m : List D → Out (D × D)} (hm : ∀ ns : List Int, ns.length ≤ 63 → ∃ o, m [.scr ns] = .ok (.bl true, o)) {H : Hp} {a : Addr} {ns : List Int} (hl : ns.length ≤ 63) (hs : SqL K H a (ns.map V.int)) :
    specL K m [.ref a] H (fun v _ => v = .bl true) fun _ _ _ => False := ⟨a, ns, rfl, hs, hl, hm ns hl, fun _ => rfl⟩
end SW
namespace SW
open PySem PySem.Spec PyProof.Rows L2
theorem bt_len : bootBuiltins "len" = some (.builtin "len") := by decide +kernel
theorem bt_isinstance : bootBuiltins "isinstance" = some (.builtin "isinstance") := by decide +kernel
theorem bt_abs : bootBuiltins "abs" = some (.builtin "abs") := by decide +kernel
theorem bt_max : bootBuiltins "max" = some (.builtin "max") := by decide +kernel
theorem bt_min : bootBuiltins "min" = some (.builtin "min") := by decide +kernel
theorem bt_sum : bootBuiltins "sum" = some (.builtin "sum") := by decide +kernel
theorem bt_int : bootBuiltins "int" = some (.type "int") := by decide +kernel
theorem bt_bool : bootBuiltins "bool" = some (.type "bool") := by decide +kernel
theorem bt_tuple : bootBuiltins "tuple" = some (.type "tuple") := by decide +kernel
theorem bt_list : bootBuiltins "list" = some (.type "list") := by decide +kernel
theorem bt_str : bootBuiltins "str" = some (.type "str") := by decide +kernel
theorem bt_dict : bootBuiltins "dict" = some (.type "dict") := by decide +kernel
theorem hu65 {A : Around} {k : Nat} (hr : Room k A) : A.units + 65 < cLine := by have := hr.un; omega
/-- comparisons: numbers first, then any data that are alike -/
def ltA : D → D → Option D := fun a b => match ltI a b with | some c => some c | none => ltD a b
def leA : D → D → Option D := fun a b => match leI a b with | some c => some c | none => leD a b
def gtA : D → D → Option D := fun a b => match gtI a b with | some c => some c | none => gtD a b
def geA : D → D → Option D := fun a b => match geI a b with | some c => some c | none => geD a b
theorem o_ltA {X : Cx} (hu : X.A.units + 64 < cLine) : Op2 X (compareOp .Lt) ltA := o_ltI.or (o_lt hu)
theorem o_leA {X : Cx} (hu : X.A.units + 64 < cLine) : Op2 X (compareOp .LtE) leA := o_leI.or (o_le hu)
theorem o_gtA {X : Cx} (hu : X.A.units + 64 < cLine) : Op2 X (compareOp .Gt) gtA := o_gtI.or (o_gt hu)
theorem o_geA {X : Cx} (hu : X.A.units + 64 < cLine) : Op2 X (compareOp .GtE) geA := o_geI.or (o_ge hu)
theorem osP_none : osP none = [] := rfl
/-- the def's own start: only the turned parameter is owned -/
theorem os_ok {os : Os} {pm : Option Nat} (h : (List.range (max os.length (osP pm).length)).all (fun i => os.getD i false == (osP pm).getD i false) = true) : ∀ i, os.getD i false = (osP pm).getD i false := fun i => by
  by_cases hi : i < max os.length (osP pm).length
  · exact eq_of_beq (List.all_eq_true.mp h i (List.mem_range.mpr hi))
  · rw [List.getD, List.getD, List.getElem?_eq_none (by omega), List.getElem?_eq_none (by omega)]
theorem konst_tup {K : PySem.W.Frag} {mg : Str → Option Value} {x : Str} {p : Addr} {o : Obj} {its : Array Value} {n : Nat} {vs : List V} {ds : List D} (h : mg x = some (.ref p)) (hk : K.lookup p = some o) (hc : o.cls = .type "tuple") (hd : o.data = .seq its n) (hz : its.size ≤ sizeLine ∧ ds.length ≤ sizeLine) (hv : Vals vs its.toList) (hat : ∀ {S}, AtL K S vs ds) : Konst K mg x (.tup ds) :=
  ⟨.ref p, _, h, rfl, fun S => .tup (.inr ⟨o, its, n, hk, hc, hd, hz.1, hv⟩) hz.2 hat⟩
theorem cx_false {P : Program} {w : World} {H : Hp} {s s' : Shared} {e : Value} (h : L2.CX P w [] H s (fun _ _ _ => False) e s') : False := by
  obtain ⟨_, _, _, _, _, _, _, _, _, _, _, _, z⟩ := h
  exact z
def eIxQ (i : Nat) (f : Rho → Out (D × Rho)) : Rho → Out (D × Rho) := fun ρ => match ρ.getD i none with | some _ => eIxO i f ρ | none => .stuck
def aHoleQ (i : Nat) (g : Rho → Out (List D × Rho)) : Rho → Out (List D × Rho) := fun ρ => match ρ.getD i none with | some _ => aHole g ρ | none => .stuck
/-- fuels -/
def fuelInt (i : Nat) : Rho → Nat := fun ρ => match ρ.getD i none with
  | some (.int n) => n.natAbs + 1
  | _ => 0
def fuelLen (i : Nat) : Rho → Nat := fun ρ => match ρ.getD i none with
  | some (.tup ds) => ds.length + 1
  | some (.lst ds) => ds.length + 1
  | _ => 0
end SW

set_option maxRecDepth 100000
/-! SW11: how mirrors are reckoned: equations for simp. -/
namespace SW
open PySem PySem.Spec PyProof.Rows L2
section
variable {α β : Type} {ρ ρ1 ρ2 : Rho} {i j : Int} {d e : D} {k : α → Out β} {a : α}
theorem bind_ok : (Out.ok a).bind k = k a := rfl
theorem bind_exc {c fs} : (Out.exc c fs : Out α).bind k = .exc c fs := rfl
theorem bind_stuck : (Out.stuck : Out α).bind k = .stuck := rfl
theorem of_some : Out.of (some a) = .ok a := rfl
theorem eVar_ok {i : Nat} (h : ρ.getD i none = some d) : eVar i ρ = .ok (d, ρ) := by unfold eVar; rw [h]
theorem eCon_ok : eCon d ρ = .ok (d, ρ) := rfl
theorem aNil_ok : aNil ρ = .ok ([], ρ) := rfl
theorem oNone_ok : oNone ρ = .ok (none, ρ) := rfl
theorem tYes_ok : tYesF ρ = .ok (true, ρ) := rfl
theorem sSkip_ok : sSkip ρ = .ok (.nx ρ) := rfl
/-! numbers -/
theorem addD_int : addD (.int i) (.int j) = some (.int (i + j)) := rfl
theorem subD_int : subD (.int i) (.int j) = some (.int (i - j)) := rfl
theorem negD_int : negD (.int i) = some (.int (-i)) := rfl
theorem repD_int (h : bits2 i j = true) : repD (.int i) (.int j) = some (.int (i * j)) := by show (if bits2 i j = true then some (D.int (i * j)) else none) = _; rw [if_pos h]
theorem modD_int (h : 0 < j) : modD (.int i) (.int j) = some (.int (i % j)) := by
  show (if (j != 0) = true then some (D.int (i.fmod j)) else none) = _
  rw [if_pos (by simp; omega), Int.fmod_eq_emod_of_nonneg _ (by omega)]
theorem fdivD_int (h : 0 < j) (h2 : j < 2 ^ 9000) : fdivD (.int i) (.int j) = some (.int (i / j)) := by
  have e : fdivOk i j = true := by
    unfold fdivOk
    rw [Bool.and_eq_true]
    exact ⟨by simp; omega, decide_eq_true ((Nat.log2_lt (by omega)).mpr (by omega))⟩
  show (if fdivOk i j = true then some (D.int (i.fdiv j)) else none) = _
  rw [if_pos e, Int.fdiv_eq_ediv_of_nonneg _ (by omega)]
theorem ltA_int : ltA (.int i) (.int j) = some (.bl (decide (i < j))) := rfl
theorem leA_int : leA (.int i) (.int j) = some (.bl (decide (i ≤ j))) := rfl
theorem gtA_int : gtA (.int i) (.int j) = some (.bl (decide (j < i))) := rfl
theorem geA_int : geA (.int i) (.int j) = some (.bl (decide (j ≤ i))) := rfl
theorem eqD_int : eqD (.int i) (.int j) = some (.bl (decide (i = j))) := by
  show some (D.bl (i == j)) = _
  rw [Bool.beq_eq_decide_eq]
theorem neD_int : neD (.int i) (.int j) = some (.bl (!decide (i = j))) := by
  show some (D.bl (!(i == j))) = _
  rw [Bool.beq_eq_decide_eq]
theorem powD_int {n : Int} (h : powOk i j = true) (hn : i ^ j.toNat = n) : powD (.int i) (.int j) = some (.int n) := by
  subst hn
  show (if powOk i j = true then some (D.int (i ^ j.toNat)) else none) = _
  rw [if_pos h]
theorem pow_10_18 : powD (.int 10) (.int 18) = some (.int 1000000000000000000) := powD_int (by decide) (by decide)
theorem pow_10_60 : powD (.int 10) (.int 60) = some (.int 1000000000000000000000000000000000000000000000000000000000000) := powD_int (by decide) (by decide)
/-! calls -/
theorem eCall_ok {m : List D → Out (D × D)} {g : Rho → Out (List D × Rho)} {ds : List D} {o : D} (hg : g ρ = .ok (ds, ρ1)) (hm : m ds = .ok (d, o)) : eCall m g ρ = .ok (d, ρ1) := by
  unfold eCall; rw [hg, bind_ok]; dsimp only; rw [hm, bind_ok]
theorem bits2_of {i j : Int} {a b : Nat} (ha : i.natAbs < 2 ^ a) (hb : j.natAbs < 2 ^ b) (h : a + b ≤ 900000) : bits2 i j = true := by
  have h1 : i.natAbs.log2 < a + 1 := by
    by_cases hz : i.natAbs = 0
    · rw [hz]; simp
    · exact Nat.lt_succ_of_lt ((Nat.log2_lt hz).mpr ha)
  have h2 : j.natAbs.log2 < b + 1 := by
    by_cases hz : j.natAbs = 0
    · rw [hz]; simp
    · exact Nat.lt_succ_of_lt ((Nat.log2_lt hz).mpr hb)
  unfold bits2
  rw [decide_eq_true (show i.natAbs.log2 + j.natAbs.log2 < 1000000 by omega)]
  rfl
theorem bits2_r {i j : Int} (hb : j.natAbs < 2 ^ 63) : bits2 i j = true := by
  unfold bits2
  rw [decide_eq_true hb]
  simp
theorem bits2_l {i j : Int} (hb : i.natAbs < 2 ^ 63) : bits2 i j = true := by
  unfold bits2
  rw [decide_eq_true hb]
  simp
end
end SW

set_option maxRecDepth 100000
/-! SW12: typed data (Enc), loops and comprehensions by typed functions, slices, words. -/
namespace SW
open PySem PySem.Spec PyProof.Rows L2

/-! ### typed data -/
structure Enc (α : Type) [DecidableEq α] where
  en : α → D
  py : α → PyData
  dp : Nat
  hpy : ∀ a, (en a).py = some (py a)
  heq : ∀ a b, PyData.eqv (py a) (py b) = decide (a = b)
  lay : ∀ a, (py a).canLay0 = true
  hdp : ∀ a, (py a).depth ≤ dp
section
variable {α β : Type} [DecidableEq α] [DecidableEq β]
def eInt : Enc Int where
  en := .int
  py := .int
  dp := 0
  hpy _ := rfl
  heq a b := by show (a == b) = _; rw [Bool.beq_eq_decide_eq]
  lay _ := by simp [PyData.canLay0]
  hdp _ := by simp [PyData.depth]
theorem pyL_map (e : Enc α) : ∀ l : List α, D.pyL (l.map e.en) = some (l.map e.py)
  | [] => rfl
  | a :: l => by
    show (match D.py (e.en a), D.pyL (l.map e.en) with
      | some p, some ps => some (p :: ps)
      | _, _ => none) = _
    rw [e.hpy, pyL_map e l]
    rfl
theorem eqvAll_map (e : Enc α) : ∀ a b : List α, PyData.eqvAll (a.map e.py) (b.map e.py) = decide (a = b)
  | [], [] => rfl
  | [], _ :: _ => rfl
  | _ :: _, [] => rfl
  | x :: a, y :: b => by
    show (PyData.eqv (e.py x) (e.py y) && PyData.eqvAll (a.map e.py) (b.map e.py)) = _
    rw [e.heq, eqvAll_map e a b, Bool.eq_iff_iff]
    simp
theorem layAll_map (e : Enc α) : ∀ a : List α, PyData.canLayAll0 (a.map e.py) = true
  | [] => by simp [PyData.canLayAll0]
  | x :: a => by
    show PyData.canLayAll0 (e.py x :: a.map e.py) = true
    rw [PyData.canLayAll0, e.lay, layAll_map e a]
    rfl
theorem dpAll_map (e : Enc α) : ∀ a : List α, PyData.depthAll (a.map e.py) ≤ e.dp
  | [] => by simp [PyData.depthAll]
  | x :: a => by
    show PyData.depthAll (e.py x :: a.map e.py) ≤ _
    rw [PyData.depthAll]
    exact Nat.max_le.mpr ⟨e.hdp x, dpAll_map e a⟩
def eTupOf (e : Enc α) : Enc (List α) where
  en l := .tup (l.map e.en)
  py l := .tuple (l.map e.py)
  dp := e.dp + 1
  hpy l := by show (D.pyL (l.map e.en)).map PyData.tuple = _; rw [pyL_map]; rfl
  heq a b := eqvAll_map e a b
  lay a := by rw [PyData.canLay0]; exact layAll_map e a
  hdp a := by rw [PyData.depth]; have := dpAll_map e a; omega
def eLstOf (e : Enc α) : Enc (List α) where
  en l := .lst (l.map e.en)
  py l := .list (l.map e.py)
  dp := e.dp + 1
  hpy l := by show (D.pyL (l.map e.en)).map PyData.list = _; rw [pyL_map]; rfl
  heq a b := eqvAll_map e a b
  lay a := by rw [PyData.canLay0]; exact layAll_map e a
  hdp a := by rw [PyData.depth]; have := dpAll_map e a; omega
def ePair (e : Enc α) (f : Enc β) : Enc (α × β) where
  en p := .tup [e.en p.1, f.en p.2]
  py p := .tuple [e.py p.1, f.py p.2]
  dp := max e.dp f.dp + 1
  hpy p := by
    have e2 : D.pyL [f.en p.2] = some [f.py p.2] := pyL_map f [p.2]
    have e3 : D.pyL [e.en p.1, f.en p.2] = some [e.py p.1, f.py p.2] := by
      show (match D.py (e.en p.1), D.pyL [f.en p.2] with
        | some p, some ps => some (p :: ps)
        | _, _ => none) = _
      rw [e.hpy, e2]
    show (D.pyL [e.en p.1, f.en p.2]).map PyData.tuple = _
    rw [e3]
    rfl
  heq a b := by
    show (PyData.eqv (e.py a.1) (e.py b.1) && (PyData.eqv (f.py a.2) (f.py b.2) && true)) = _
    rw [e.heq, f.heq, Bool.eq_iff_iff]
    simp [Prod.ext_iff]
  lay a := by simp [PyData.canLay0, PyData.canLayAll0, e.lay, f.lay]
  hdp a := by
    simp only [PyData.depth, PyData.depthAll]
    have := e.hdp a.1
    have := f.hdp a.2
    omega
theorem shaped_enc (e : Enc α) (h : e.dp ≤ 64) (a : α) : SeqAt.shaped (e.py a) = true := by
  unfold SeqAt.shaped
  rw [e.lay, decide_eq_true (Nat.le_trans (e.hdp a) h)]
  rfl
theorem eqD_enc (e : Enc α) (h : e.dp ≤ 64) (a b : α) : eqD (e.en a) (e.en b) = some (.bl (decide (a = b))) := by
  unfold eqD cmpP
  rw [e.hpy, e.hpy]
  dsimp only
  unfold shOk
  rw [shaped_enc e h, shaped_enc e h, e.heq]
  rfl
theorem neD_enc (e : Enc α) (h : e.dp ≤ 64) (a b : α) : neD (e.en a) (e.en b) = some (.bl (!decide (a = b))) := by
  unfold neD cmpP
  rw [e.hpy, e.hpy]
  dsimp only
  unfold shOk
  rw [shaped_enc e h, shaped_enc e h, e.heq]
  rfl
end
/-! ### words of whole numbers -/
abbrev eWord : Enc (List Int) := eTupOf eInt
def ltN : List Int → List Int → Bool
  | _, [] => false
  | [], _ :: _ => true
  | x :: xs, y :: ys => if x = y then ltN xs ys else decide (x < y)
theorem ltN_toks : ∀ a b : List Int, PyProof.Rows.lexLt PyProof.Rows.itemOrd (PySem.W.keyToksAll (a.map PyData.int)) (PySem.W.keyToksAll (b.map PyData.int)) = ltN a b
  | [], [] => by rfl
  | [], y :: ys => by
    rw [List.map_nil, List.map_cons, PySem.W.toks_all_cons]
    show PyProof.Rows.lexLt PyProof.Rows.itemOrd (PySem.W.keyToksAll []) _ = true
    rw [PySem.W.keyToksAll]
    rw [PyProof.Rows.lex_diff (O := PyProof.Rows.itemOrd) (by intro z; cases z)]
    rfl
  | x :: xs, [] => by
    rw [List.map_nil, List.map_cons, PySem.W.toks_all_cons]
    show PyProof.Rows.lexLt PyProof.Rows.itemOrd _ (PySem.W.keyToksAll []) = false
    rw [PySem.W.keyToksAll]
    rw [PyProof.Rows.lex_diff (O := PyProof.Rows.itemOrd) (by intro z; cases z)]
    rfl
  | x :: xs, y :: ys => by
    rw [List.map_cons, List.map_cons, PySem.W.toks_all_cons, PySem.W.toks_all_cons, PyProof.Rows.lex_self (O := PyProof.Rows.itemOrd)]
    have e1 : ∀ z : Int, PySem.W.keyToks (.int z) = [Sum.inl z] := fun z => by rw [PySem.W.keyToks]
    rw [e1, e1]
    show PyProof.Rows.lexLt PyProof.Rows.itemOrd (Sum.inl x :: PySem.W.keyToksAll (xs.map PyData.int)) (Sum.inl y :: PySem.W.keyToksAll (ys.map PyData.int)) = (if x = y then ltN xs ys else decide (x < y))
    by_cases h : x = y
    · subst h
      rw [PyProof.Rows.lex_self (O := PyProof.Rows.itemOrd), ltN_toks xs ys, if_pos rfl]
    · rw [PyProof.Rows.lex_diff (O := PyProof.Rows.itemOrd) (fun z => h (Sum.inl.inj z)), if_neg h]
      rfl
theorem alike_ints : ∀ a b : List Int, PySem.W.alikeAll (a.map PyData.int) (b.map PyData.int) = true
  | [], _ => by simp [PySem.W.alikeAll]
  | _ :: _, [] => by simp [PySem.W.alikeAll]
  | x :: a, y :: b => by
    rw [List.map_cons, List.map_cons, PySem.W.alikeAll, PySem.W.alike, alike_ints a b]
    rfl
theorem alOk_word (a b : List Int) : alOk (eWord.py a) (eWord.py b) = true := by
  unfold alOk
  have h1 : PySem.W.alike (eWord.py a) (eWord.py b) = true := by
    show PySem.W.alike (.tuple (a.map PyData.int)) (.tuple (b.map PyData.int)) = true
    rw [PySem.W.alike]
    exact alike_ints a b
  rw [h1, decide_eq_true (Nat.le_trans (eWord.hdp a) (by decide))]
  rfl
theorem cmp_word {g : PyData → PyData → Bool} (a b : List Int) : cmpP g alOk (eWord.en a) (eWord.en b) = some (.bl (g (eWord.py a) (eWord.py b))) := by
  unfold cmpP
  rw [eWord.hpy, eWord.hpy]
  dsimp only
  rw [alOk_word, if_pos rfl]
theorem lt_word (a b : List Int) : PySem.W.dataLt (eWord.py a) (eWord.py b) = ltN a b := by
  show PySem.W.dataLt (.tuple (a.map PyData.int)) (.tuple (b.map PyData.int)) = _
  rw [PySem.W.dataLt_tuple]
  exact ltN_toks a b
theorem ltA_word (a b : List Int) : ltA (eWord.en a) (eWord.en b) = some (.bl (ltN a b)) := by
  show ltD _ _ = _
  unfold ltD; rw [cmp_word, lt_word]
theorem gtA_word (a b : List Int) : gtA (eWord.en a) (eWord.en b) = some (.bl (ltN b a)) := by
  show gtD _ _ = _
  unfold gtD; rw [cmp_word, lt_word]
theorem leA_word (a b : List Int) : leA (eWord.en a) (eWord.en b) = some (.bl (!ltN b a)) := by
  show leD _ _ = _
  unfold leD; rw [cmp_word, lt_word]
theorem geA_word (a b : List Int) : geA (eWord.en a) (eWord.en b) = some (.bl (!ltN a b)) := by
  show geD _ _ = _
  unfold geD; rw [cmp_word, lt_word]

/-! ### slices -/
theorem cut_drop (l : List D) {k : Int} (h : 0 ≤ k) : cutD l (some k) none = l.drop k.toNat := by
  unfold cutD
  have e : HT.sIx l.length 0 (some k) = min k.toNat l.length := by
    show (if k < 0 then (k + (l.length : Int)).toNat else min k.toNat l.length) = _
    rw [if_neg (by omega)]
  rw [e]
  show List.take (l.length - min k.toNat l.length) (l.drop (min k.toNat l.length)) = _
  rcases Nat.le_total k.toNat l.length with h1 | h1
  · rw [Nat.min_eq_left h1, List.take_of_length_le (by rw [List.length_drop]; omega)]
  · rw [Nat.min_eq_right h1, List.drop_of_length_le (Nat.le_refl _), List.drop_of_length_le h1, List.take_nil]
theorem cut_take (l : List D) {k : Int} (h : 0 ≤ k) : cutD l none (some k) = l.take k.toNat := by
  unfold cutD
  have e : HT.sIx l.length l.length (some k) = min k.toNat l.length := by
    show (if k < 0 then (k + (l.length : Int)).toNat else min k.toNat l.length) = _
    rw [if_neg (by omega)]
  rw [e]
  show List.take (min k.toNat l.length - 0) (l.drop 0) = _
  rw [List.drop_zero, Nat.sub_zero]
  rcases Nat.le_total k.toNat l.length with h1 | h1
  · rw [Nat.min_eq_left h1]
  · rw [Nat.min_eq_right h1, List.take_of_length_le (Nat.le_refl _), List.take_of_length_le h1]
theorem cut_mid (l : List D) {a b : Int} (h : 0 ≤ a) (h2 : 0 ≤ b) (h3 : b ≤ l.length) : cutD l (some a) (some b) = (l.drop a.toNat).take (b.toNat - a.toNat) := by
  unfold cutD
  have e : HT.sIx l.length l.length (some b) = b.toNat := by
    show (if b < 0 then (b + (l.length : Int)).toNat else min b.toNat l.length) = _
    rw [if_neg (by omega)]
    omega
  have e2 : HT.sIx l.length 0 (some a) = min a.toNat l.length := by
    show (if a < 0 then (a + (l.length : Int)).toNat else min a.toNat l.length) = _
    rw [if_neg (by omega)]
  rw [e, e2]
  rcases Nat.le_total a.toNat l.length with h1 | h1
  · rw [Nat.min_eq_left h1]
  · rw [Nat.min_eq_right h1, List.drop_of_length_le (Nat.le_refl _), List.drop_of_length_le h1, List.take_nil, List.take_nil]
/-! ### loops -/
section
variable {ι σ : Type} {b : D → Rho → Option Rho} {g : Rho → Out Fl} {vs : List Nat} {tt : Rho → Out (Bool × Rho)} {fe : Rho → Out (D × Rho)} {f : ι → D}
/-- a comprehension that turns nothing -/
theorem compL_of {ρ : Rho} {c : ι → Bool} {h : ι → D} : ∀ (l : List ι), (∀ i ∈ l, ∃ ρ1, b (f i) (wipeR ρ vs) = some ρ1 ∧ ∃ ρ2, tt ρ1 = .ok (c i, ρ2) ∧ (c i = false → backR vs ρ ρ2 = ρ) ∧ (c i = true → ∃ ρ3, fe ρ2 = .ok (h i, ρ3) ∧ backR vs ρ ρ3 = ρ)) →
    compL vs b tt fe (l.map f) ρ = .ok ((l.filter c).map h, ρ)
  | [], _ => rfl
  | i :: l, st => by
    obtain ⟨ρ1, e1, ρ2, e2, hf, ht⟩ := st i List.mem_cons_self
    have ih := compL_of l fun j hj => st j (List.mem_cons_of_mem _ hj)
    rw [List.map_cons]
    unfold compL
    rw [e1]
    dsimp only
    rw [e2]
    cases hc : c i with
    | false =>
      dsimp only
      rw [hf hc, ih, List.filter_cons_of_neg (by simp [hc])]
    | true =>
      obtain ⟨ρ3, e3, e4⟩ := ht hc
      dsimp only
      rw [e3]
      dsimp only
      rw [e4, ih, List.filter_cons_of_pos hc, List.map_cons]
      rfl
/-- a loop that turns a state -/
theorem forL_fold {St : σ → Rho → Prop} {step : σ → ι → σ} : ∀ (l : List ι) (s : σ) (ρ : Rho), St s ρ → (∀ i ∈ l, ∀ s ρ, St s ρ → ∃ ρ1 ρ2, b (f i) ρ = some ρ1 ∧ g ρ1 = .ok (.nx ρ2) ∧ St (step s i) ρ2) →
    ∃ ρ', forL b g (l.map f) ρ = .ok (.nx ρ') ∧ St (l.foldl step s) ρ'
  | [], s, ρ, h, _ => ⟨ρ, rfl, h⟩
  | i :: l, s, ρ, h, st => by
    obtain ⟨ρ1, ρ2, e1, e2, h2⟩ := st i List.mem_cons_self s ρ h
    obtain ⟨ρ', e3, h3⟩ := forL_fold l (step s i) ρ2 h2 fun j hj => st j (List.mem_cons_of_mem _ hj)
    refine ⟨ρ', ?_, h3⟩
    rw [List.map_cons]
    unfold forL
    rw [e1]
    dsimp only
    rw [e2, bind_ok]
    exact e3
/-- a loop that searches -/
theorem forL_search {St : Rho → Prop} {c : ι → Bool} {d : ι → D} : ∀ (l : List ι) (ρ : Rho), St ρ → (∀ i ∈ l, ∀ ρ, St ρ → ∃ ρ1, b (f i) ρ = some ρ1 ∧ ((c i = false ∧ ∃ ρ2, g ρ1 = .ok (.nx ρ2) ∧ St ρ2) ∨ (c i = true ∧ ∃ ρ2, g ρ1 = .ok (.rt (d i) ρ2)))) →
    (l.find? c = none ∧ ∃ ρ', forL b g (l.map f) ρ = .ok (.nx ρ') ∧ St ρ') ∨ ∃ i, l.find? c = some i ∧ ∃ ρ', forL b g (l.map f) ρ = .ok (.rt (d i) ρ')
  | [], ρ, h, _ => .inl ⟨rfl, ρ, rfl, h⟩
  | i :: l, ρ, h, st => by
    obtain ⟨ρ1, e1, h2⟩ := st i List.mem_cons_self ρ h
    rw [List.map_cons]
    rcases h2 with ⟨hc, ρ2, e2, h3⟩ | ⟨hc, ρ2, e2⟩
    · have e : forL b g (f i :: l.map f) ρ = forL b g (l.map f) ρ2 := by
        conv => lhs; unfold forL
        rw [e1]
        dsimp only
        rw [e2, bind_ok]
      rw [e, List.find?_cons_of_neg (by simp [hc])]
      exact forL_search l ρ2 h3 fun j hj => st j (List.mem_cons_of_mem _ hj)
    · refine .inr ⟨i, List.find?_cons_of_pos hc, ρ2, ?_⟩
      unfold forL
      rw [e1]
      dsimp only
      rw [e2, bind_ok]
end
theorem rangeD1 {j : Int} (h0 : 0 ≤ j) (h : j ≤ 16777216) : rangeD [.int j] = some ((List.range j.toNat).map fun i => .int ((i : Nat) : Int)) := by
  show (if j ≤ 16777216 ∧ -4611686018427387904 ≤ j then some (rngI 0 j.toNat) else none) = _
  rw [if_pos ⟨h, by omega⟩]
  unfold rngI
  congr 1
  exact List.map_congr_left fun i _ => by rw [Int.zero_add]
theorem rangeD2 {i j : Int} (h0 : -16777216 ≤ i) (h1 : j ≤ 16777216) (h2 : -16777216 ≤ j) (h3 : i ≤ 16777216) (h : j - i ≤ 16777216) : rangeD [.int i, .int j] = some ((List.range (j - i).toNat).map fun k => .int (i + ((k : Nat) : Int))) := by
  show (if j - i ≤ 16777216 ∧ lim62 i = true ∧ lim62 j = true then some (rngI i (j - i).toNat) else none) = _
  have l : ∀ k : Int, -16777216 ≤ k → k ≤ 16777216 → lim62 k = true := fun k a b => by
    unfold lim62
    rw [decide_eq_true (show -4611686018427387904 ≤ k by omega), decide_eq_true (show k < 4611686018427387904 by omega)]
    rfl
  rw [if_pos ⟨h, l i h0 h3, l j h2 h1⟩]
  rfl
end SW

set_option maxRecDepth 100000
/-! SW13: comprehensions inside comprehensions. -/
namespace SW
open PySem PySem.Spec PyProof.Rows L2
theorem lookup_re {f : Str × NameKind → Str × NameKind} (hf : ∀ n k, f (n, k) = (n, k) ∨ (k = .free ∧ f (n, k) = (n, .cell))) : ∀ {ns : List (Str × NameKind)} {x : Str}, (ns.lookup x = some .cell ∨ ns.lookup x = some .free) → (ns.map f).lookup x = some .cell ∨ (ns.map f).lookup x = some .free
  | [], x, h => by simp at h
  | (n, k) :: ns, x, h => by
    rw [List.map_cons]
    by_cases e : x = n
    · subst e
      rw [List.lookup_cons, beq_self_eq_true] at h
      rcases hf x k with q | ⟨q1, q2⟩
      · rw [q, List.lookup_cons, beq_self_eq_true]
        exact h
      · rw [q2, List.lookup_cons, beq_self_eq_true]
        exact .inl rfl
    · have en : (x == n) = false := by simpa using e
      rw [List.lookup_cons, en] at h
      have ih := lookup_re hf h
      rcases hf n k with q | ⟨q1, q2⟩
      · rw [q, List.lookup_cons, en]; exact ih
      · rw [q2, List.lookup_cons, en]; exact ih
theorem blkOk_in {N : List Str} {sc scope : Scope} {env : Env} {own : List (Str × Nat)} (h : blkC N sc scope own = true) : BlkOk N (relabel sc env) scope own := by
  have b := blkOk_by h
  refine ⟨b.kind, b.uniq, b.ix, fun y hy e => ?_, b.own⟩
  refine lookup_re (fun n k => ?_) (b.free y hy e)
  dsimp only
  split
  · rename_i hc
    rw [Bool.and_eq_true, Bool.and_eq_true] at hc
    refine .inr ⟨?_, rfl⟩
    have h1 := hc.1.1
    cases k <;> first | rfl | cases h1
  · exact .inl rfl
end SW

set_option maxRecDepth 100000
/-! SW14: chained comparisons. -/
namespace SW
open PySem PySem.Spec PyProof.Rows L2
section
variable {X : Cx} {W : WX} {os os1 os2 : Os} {e1 e2 e3 : Expr} {f1 f2 f3 : Rho → Out (D × Rho)} {pos : Pos}
def eChain (g g' : D → D → Option D) (f1 f2 f3 : Rho → Out (D × Rho)) : Rho → Out (D × Rho) := fun ρ =>
  (f1 ρ).bind fun p => (f2 p.2).bind fun q => (Out.of (g p.1 q.1)).bind fun c => match c with
    | .bl true => (f3 q.2).bind fun r => (Out.of (g' q.1 r.1)).bind fun c2 => .ok (c2, r.2)
    | .bl false => .ok (.bl false, q.2)
    | _ => .stuck
theorem ve_chain {op op' : CmpOp} {g g' : D → D → Option D} (ho : Op2 X (compareOp op) g) (ho' : Op2 X (compareOp op') g') (ha : VE X W os e1 f1 os1 false) (hb : VE X W os1 e2 f2 os2 false) (hc : VE X W os2 e3 f3 os2 false)
    (hm : lastMarks [op, op'] [e2, e3] = false := by with_unfolding_all rfl) : VE X W os (.Compare e1 [op, op'] [e2, e3] pos) (eChain g g' f1 f2 f3) os2 false := by
  obtain ⟨ta, pa, ka⟩ := ha
  obtain ⟨tb, pb, kb⟩ := hb
  obtain ⟨tc, pc, kc⟩ := hc
  obtain ⟨rr, po, ko⟩ := ho
  obtain ⟨rr', po', ko'⟩ := ho'
  refine ⟨_, pe_chain po po' pa pb pc hm, fun S σ H ρ Q rel P => ?_⟩
  refine ka S σ H ρ _ rel (Post.seq P (fun z => z) (fun c fs p => p) fun d ρ1 v S1 H1 st1 rel1 q1 P1 => ?_)
  have P1 := P1.step RV.ok st1
  refine kb S1 σ H1 ρ1 _ rel1 (Post.seq P1 (fun z => z) (fun c fs p => p) fun d2 ρ2 v2 S2 H2 st2 rel2 q2 P2 => ?_)
  have P2 := P2.step RV.ok st2
  dsimp only at P2
  cases hg : g d d2 with
  | none => rw [hg] at P2; exact P2.elim
  | some c =>
    rw [hg] at P2
    refine ko S2 H2 v v2 d d2 c _ rel2.sub (At.mono st2.ext.s q1) q2 hg fun z S3 H3 x hat => ?_
    have P3 := P2.step RV.ok (Stp.of_ext x)
    have rel3 := rel2.ext0 x
    cases hat with
    | bl b =>
      cases b with
      | true =>
        refine ⟨true, rfl, ?_⟩
        rw [if_pos rfl]
        refine kc S3 σ H3 ρ2 _ rel3 (Post.seq P3 (fun z => z) (fun c fs p => p) fun d3 ρ3 v3 S4 H4 st4 rel4 q4 P4 => ?_)
        obtain ⟨c2, hc2, k⟩ := post_of (P4.step RV.ok st4) rel4
        exact ko' S4 H4 v2 v3 d2 d3 c2 _ rel4.sub (At.mono st4.ext.s (At.mono x.s q2)) q4 hc2 k
      | false =>
        refine ⟨false, rfl, ?_⟩
        rw [if_neg Bool.false_ne_true]
        exact P3.fin (os' := os2) rel3 (.bl false)
    | _ => exact P3.elim
end
end SW

set_option maxRecDepth 100000
set_option maxHeartbeats 0
namespace Lw
open PySem PySem.Spec PyProof.Rows L2 SW
def k_NOUGHT : D := .tup [.int 0, .int 1]

abbrev nn__law_mixed : List Str := ["_law_cell", "_law_k", "_law_number_here"]
def b__law_mixed : Rho → Out Fl := (sSeq (sSet 2 (eOp2 addD (eOp2 addD (eOp2 repD (eOp2 addD (eOp2 modD (eVar 0) (eOp2 addD (eOp2 powD (eCon (.int 10)) (eCon (.int 18))) (eCon (.int 9)))) (eOp2 repD (eCon (.int 7)) (eVar 1))) (eCon (.int 739108512309184756019283746561))) (eOp2 repD (eCon (.int 7919)) (eVar 1))) (eCon (.int 1)))) (sSeq (sSet 2 (eOp2 modD (eOp2 repD (eVar 2) (eVar 2)) (eOp2 addD (eOp2 powD (eCon (.int 10)) (eCon (.int 60))) (eCon (.int 7))))) (sRet (eOp2 modD (eOp2 repD (eOp2 addD (eVar 2) (eCon (.int 40503))) (eOp2 addD (eVar 2) (eCon (.int 57)))) (eOp2 addD (eOp2 powD (eCon (.int 10)) (eCon (.int 60))) (eCon (.int 7)))))))
def m__law_mixed : List D → Out (D × D) := runF 3 none b__law_mixed

abbrev nn__law_purse : List Str := ["_law_cell", "_law_k"]
def b__law_purse : Rho → Out Fl := (sSeq (sIf (tVal (eOp2 geA (eVar 0) (eOp2 powD (eCon (.int 10)) (eCon (.int 18))))) (sRet (eLst (aCons (eOp2 subD (eVar 0) (eOp2 powD (eCon (.int 10)) (eCon (.int 18)))) (aCons (eCon (.int 0)) (aCons (eVar 1) aNil))))) sSkip) (sRet (eLst (aCons (eCall m__law_mixed (aCons (eVar 0) (aCons (eVar 1) aNil))) (aCons (eCon (.int 0)) (aCons (eOp2 addD (eOp2 modD (eVar 0) (eOp2 addD (eOp2 powD (eCon (.int 10)) (eCon (.int 18))) (eCon (.int 9)))) (eVar 1)) aNil))))))
def m__law_purse : List D → Out (D × D) := runF 2 none b__law_purse

abbrev nn_divisor : List Str := ["one", "other"]
def b_divisor : Rho → Out Fl := (sSeq (sSet 0 (eArg absD (aCons (eVar 0) aNil))) (sSeq (sSet 1 (eArg absD (aCons (eVar 1) aNil))) (sSeq (sWhile (fuelInt 1) (tVal (eOp2 neD (eVar 1) (eCon (.int 0)))) (sPar 0 1 (aCons (eVar 1) (aCons (eOp2 modD (eVar 0) (eVar 1)) aNil)))) (sRet (eVar 0)))))
def m_divisor : List D → Out (D × D) := runF 2 none b_divisor

abbrev nn_lowest : List Str := ["top", "bottom", "shared"]
def b_lowest : Rho → Out Fl := (sSeq (sIf (tVal (eOp2 ltA (eVar 1) (eCon (.int 0)))) (sSeq (sSet 0 (eOp1 negD (eVar 0))) (sSet 1 (eOp1 negD (eVar 1)))) sSkip) (sSeq (sSet 2 (eCall m_divisor (aCons (eVar 0) (aCons (eVar 1) aNil)))) (sRet (eTup (aCons (eOp2 fdivD (eVar 0) (eVar 2)) (aCons (eOp2 fdivD (eVar 1) (eVar 2)) aNil))))))
def m_lowest : List D → Out (D × D) := runF 3 none b_lowest

abbrev nn_plus : List Str := ["one", "other"]
def b_plus : Rho → Out Fl := (sSeq (sIf (tAndF (tVal (eOp2 eqD (eOp2 ixD (eVar 0) (eCon (.int 1))) (eCon (.int 1)))) (tVal (eOp2 eqD (eOp2 ixD (eVar 1) (eCon (.int 1))) (eCon (.int 1))))) (sRet (eTup (aCons (eOp2 addD (eOp2 ixD (eVar 0) (eCon (.int 0))) (eOp2 ixD (eVar 1) (eCon (.int 0)))) (aCons (eCon (.int 1)) aNil)))) sSkip) (sRet (eCall m_lowest (aCons (eOp2 addD (eOp2 repD (eOp2 ixD (eVar 0) (eCon (.int 0))) (eOp2 ixD (eVar 1) (eCon (.int 1)))) (eOp2 repD (eOp2 ixD (eVar 1) (eCon (.int 0))) (eOp2 ixD (eVar 0) (eCon (.int 1))))) (aCons (eOp2 repD (eOp2 ixD (eVar 0) (eCon (.int 1))) (eOp2 ixD (eVar 1) (eCon (.int 1)))) aNil)))))
def m_plus : List D → Out (D × D) := runF 2 none b_plus

abbrev nn_times : List Str := ["one", "other"]
def b_times : Rho → Out Fl := (sSeq (sIf (tAndF (tVal (eOp2 eqD (eOp2 ixD (eVar 0) (eCon (.int 1))) (eCon (.int 1)))) (tVal (eOp2 eqD (eOp2 ixD (eVar 1) (eCon (.int 1))) (eCon (.int 1))))) (sRet (eTup (aCons (eOp2 repD (eOp2 ixD (eVar 0) (eCon (.int 0))) (eOp2 ixD (eVar 1) (eCon (.int 0)))) (aCons (eCon (.int 1)) aNil)))) sSkip) (sRet (eCall m_lowest (aCons (eOp2 repD (eOp2 ixD (eVar 0) (eCon (.int 0))) (eOp2 ixD (eVar 1) (eCon (.int 0)))) (aCons (eOp2 repD (eOp2 ixD (eVar 0) (eCon (.int 1))) (eOp2 ixD (eVar 1) (eCon (.int 1)))) aNil)))))
def m_times : List D → Out (D × D) := runF 2 none b_times

abbrev nn_paired : List Str := ["one", "other", "total", "a", "b"]
def b_paired : Rho → Out Fl := (sSeq (sSet 2 (eCon k_NOUGHT)) (sSeq (sFor (iArg iZip2 (aCons (eVar 0) (aCons (eVar 1) aNil))) (gTup 2 (gCons (gName 3) (gCons (gName 4) gNil))) (sIf (tAndF (tVal (eOp2 neD (eOp2 ixD (eVar 3) (eCon (.int 0))) (eCon (.int 0)))) (tVal (eOp2 neD (eOp2 ixD (eVar 4) (eCon (.int 0))) (eCon (.int 0))))) (sSet 2 (eCall m_plus (aCons (eVar 2) (aCons (eCall m_times (aCons (eVar 3) (aCons (eVar 4) aNil))) aNil)))) sSkip)) (sRet (eVar 2))))
def m_paired : List D → Out (D × D) := runF 5 none b_paired

abbrev nn_move : List Str := ["square", "row", "one"]
def b_move : Rho → Out Fl := (sRet (eComp [2] (iSeq (eVar 0)) (gName 2) tYesF (eCall m_paired (aCons (eVar 2) (aCons (eVar 1) aNil)))))
def m_move : List D → Out (D × D) := runF 3 none b_move

abbrev nn_is_whole : List Str := ["one"]
def b_is_whole : Rho → Out Fl := (sRet (eAndF (eArg isiD (aCons (eVar 0) (aCons (eCon (.ty .int)) aNil))) (eNotF (eArg isiD (aCons (eVar 0) (aCons (eCon (.ty .bool)) aNil))))))
def m_is_whole : List D → Out (D × D) := runF 1 none b_is_whole

abbrev nn_is_number : List Str := ["one"]
def b_is_number : Rho → Out Fl := (sSeq (sIf (tOrF (tNotF (tVal (eArg isiD (aCons (eVar 0) (aCons (eCon (.ty .tuple)) aNil))))) (tVal (eOp2 neD (eArg lenD (aCons (eVar 0) aNil)) (eCon (.int 2))))) (sRet (eCon (.bl false))) sSkip) (sSeq (sIf (tOrF (tNotF (tVal (eCall m_is_whole (aCons (eOp2 ixD (eVar 0) (eCon (.int 0))) aNil)))) (tNotF (tVal (eCall m_is_whole (aCons (eOp2 ixD (eVar 0) (eCon (.int 1))) aNil))))) (sRet (eCon (.bl false))) sSkip) (sRet (eAndF (eOp2 geA (eOp2 ixD (eVar 0) (eCon (.int 1))) (eCon (.int 1))) (eOp2 eqD (eCall m_divisor (aCons (eOp2 ixD (eVar 0) (eCon (.int 0))) (aCons (eOp2 ixD (eVar 0) (eCon (.int 1))) aNil))) (eCon (.int 1)))))))
def m_is_number : List D → Out (D × D) := runF 1 none b_is_number

abbrev nn_is_row : List Str := ["row", "width", "one"]
def b_is_row : Rho → Out Fl := (sSeq (sIf (tOrF (tNotF (tVal (eArg isiD (aCons (eVar 0) (aCons (eCon (.ty .list)) aNil))))) (tVal (eOp2 neD (eArg lenD (aCons (eVar 0) aNil)) (eVar 1)))) (sRet (eCon (.bl false))) sSkip) (sSeq (sFor (iSeq (eVar 0)) (gName 2) (sIf (tNotF (tVal (eCall m_is_number (aCons (eVar 2) aNil)))) (sRet (eCon (.bl false))) sSkip)) (sRet (eCon (.bl true)))))
def m_is_row : List D → Out (D × D) := runF 3 none b_is_row

abbrev nn_is_square : List Str := ["square", "side", "row"]
def b_is_square : Rho → Out Fl := (sSeq (sIf (tOrF (tNotF (tVal (eArg isiD (aCons (eVar 0) (aCons (eCon (.ty .list)) aNil))))) (tVal (eOp2 neD (eArg lenD (aCons (eVar 0) aNil)) (eVar 1)))) (sRet (eCon (.bl false))) sSkip) (sSeq (sFor (iSeq (eVar 0)) (gName 2) (sIf (tNotF (tVal (eCall m_is_row (aCons (eVar 2) (aCons (eVar 1) aNil))))) (sRet (eCon (.bl false))) sSkip)) (sRet (eCon (.bl true)))))
def m_is_square : List D → Out (D × D) := runF 3 none b_is_square

abbrev nn_is_some_square : List Str := ["square", "most"]
def b_is_some_square : Rho → Out Fl := (sRet (eAndF (eArg isiD (aCons (eVar 0) (aCons (eCon (.ty .list)) aNil))) (eAndF (eChain leA leA (eCon (.int 1)) (eArg lenD (aCons (eVar 0) aNil)) (eVar 1)) (eCall m_is_square (aCons (eVar 0) (aCons (eArg lenD (aCons (eVar 0) aNil)) aNil))))))
def m_is_some_square : List D → Out (D × D) := runF 2 none b_is_some_square

abbrev nn_moved : List Str := ["square", "row"]
def b_moved : Rho → Out Fl := (sSeq (sIf (tNotF (tVal (eCall m_is_some_square (aCons (eVar 0) (aCons (eCon (.int 6)) aNil))))) sStuck sSkip) (sSeq (sIf (tNotF (tVal (eCall m_is_row (aCons (eVar 1) (aCons (eArg lenD (aCons (eVar 0) aNil)) aNil))))) sStuck sSkip) (sRet (eCall m_move (aCons (eVar 0) (aCons (eVar 1) aNil))))))
def m_moved : List D → Out (D × D) := runF 2 none b_moved

abbrev nn_turned_about : List Str := ["square", "side", "at", "place"]
def b_turned_about : Rho → Out Fl := (sSeq (sSet 1 (eArg lenD (aCons (eVar 0) aNil))) (sRet (eComp [2] (iRange (aCons (eVar 1) aNil)) (gName 2) tYesF (eComp [3] (iRange (aCons (eVar 1) aNil)) (gName 3) tYesF (eOp2 ixD (eOp2 ixD (eVar 0) (eVar 3)) (eVar 2))))))
def m_turned_about : List D → Out (D × D) := runF 4 none b_turned_about

abbrev nn_behind_one : List Str := ["one", "other", "lines", "row", "line"]
def b_behind_one : Rho → Out Fl := (sSeq (sSet 2 (eCall m_turned_about (aCons (eVar 1) aNil))) (sRet (eComp [3] (iSeq (eVar 0)) (gName 3) tYesF (eComp [4] (iSeq (eVar 2)) (gName 4) tYesF (eCall m_paired (aCons (eVar 3) (aCons (eVar 4) aNil)))))))
def m_behind_one : List D → Out (D × D) := runF 5 none b_behind_one

abbrev nn_after : List Str := ["one", "other"]
def b_after : Rho → Out Fl := (sSeq (sIf (tNotF (tVal (eCall m_is_some_square (aCons (eVar 0) (aCons (eCon (.int 6)) aNil))))) sStuck sSkip) (sSeq (sIf (tNotF (tVal (eCall m_is_square (aCons (eVar 1) (aCons (eArg lenD (aCons (eVar 0) aNil)) aNil))))) sStuck sSkip) (sRet (eCall m_behind_one (aCons (eVar 0) (aCons (eVar 1) aNil))))))
def m_after : List D → Out (D × D) := runF 2 none b_after

abbrev nn__law_at : List Str := ["_law_script", "_law_k"]
def b__law_at : Rho → Out Fl := (sSeq (sIf (tVal (eOp2 ltA (eVar 1) (eArg lenD (aCons (eVar 0) aNil)))) (sRet (eOp2 ixD (eVar 0) (eVar 1))) sSkip) (sRet (eOp2 addD (eOp2 repD (eCon (.int 3)) (eVar 1)) (eCon (.int 1)))))
def m__law_at : List D → Out (D × D) := runF 2 none b__law_at

abbrev nn__law_take : List Str := ["_law_purse_here", "_law_many", "_law_got"]
def b__law_take : Rho → Out Fl := (sSeq (sIf (tPeek (tVal (eOp2 ltA (eOp2 ixD (eVar 0) (eCon (.int 0))) (eVar 1)))) (sSeq (sSetIx 0 (eOp2 addD (eIxQ 0 (eCon (.int 1))) (eCon (.int 1))) (eCon (.int 1))) (sSetIx 0 (eOp2 addD (eIxQ 0 (eCon (.int 0))) (eOp2 repD (eVar 1) (eCall m__law_mixed (aCons (eIxQ 0 (eCon (.int 2))) (aCons (eOp2 addD (eOp2 repD (eCon (.int 11)) (eIxQ 0 (eCon (.int 1)))) (eCon (.int 5))) aNil))))) (eCon (.int 0)))) sSkip) (sSeq (sSet 2 (eOp2 modD (eIxQ 0 (eCon (.int 0))) (eVar 1))) (sSeq (sSetIx 0 (eOp2 fdivD (eIxQ 0 (eCon (.int 0))) (eVar 1)) (eCon (.int 0))) (sRet (eVar 2)))))
def m__law_take : List D → Out (D × D) := runF 3 (some 0) b__law_take

abbrev nn__law_low : List Str := ["_law_top", "_law_bottom", "_law_one", "_law_other"]
def b__law_low : Rho → Out Fl := (sSeq (sSet 2 (eArg absD (aCons (eVar 0) aNil))) (sSeq (sSet 3 (eVar 1)) (sSeq (sWhile (fuelInt 3) (tVal (eOp2 neD (eVar 3) (eCon (.int 0)))) (sPar 2 3 (aCons (eVar 3) (aCons (eOp2 modD (eVar 2) (eVar 3)) aNil)))) (sRet (eTup (aCons (eOp2 fdivD (eVar 0) (eVar 2)) (aCons (eOp2 fdivD (eVar 1) (eVar 2)) aNil)))))))
def m__law_low : List D → Out (D × D) := runF 4 none b__law_low

abbrev nn__law_number : List Str := ["_law_purse_here", "_law_way"]
def b__law_number : Rho → Out Fl := (sSeq (sSet 1 (eCallM m__law_take 0 0 (aHoleQ 0 (aCons (eCon (.int 6)) aNil)))) (sSeq (sIf (tVal (eOp2 ltA (eVar 1) (eCon (.int 3)))) (sRet (eOp2 ixD (eLst (aCons (eTup (aCons (eCon (.int 0)) (aCons (eCon (.int 1)) aNil))) (aCons (eTup (aCons (eCon (.int 1)) (aCons (eCon (.int 1)) aNil))) (aCons (eTup (aCons (eOp1 negD (eCon (.int 1))) (aCons (eCon (.int 1)) aNil))) aNil)))) (eVar 1))) sSkip) (sSeq (sIf (tVal (eOp2 ltA (eVar 1) (eCon (.int 5)))) (sRet (eCall m__law_low (aCons (eOp2 subD (eCallM m__law_take 0 0 (aHoleQ 0 (aCons (eCon (.int 13)) aNil))) (eCon (.int 6))) (aCons (eOp2 addD (eCon (.int 1)) (eOp2 repD (eCallM m__law_take 0 0 (aHoleQ 0 (aCons (eCon (.int 4)) aNil))) (eOp2 subD (eVar 1) (eCon (.int 3))))) aNil)))) sSkip) (sRet (eCall m__law_low (aCons (eOp2 subD (eCallM m__law_take 0 0 (aHoleQ 0 (aCons (eOp2 addD (eOp2 repD (eCon (.int 2)) (eOp2 powD (eCon (.int 10)) (eCon (.int 4)))) (eCon (.int 1))) aNil))) (eOp2 powD (eCon (.int 10)) (eCon (.int 4)))) (aCons (eOp2 addD (eCon (.int 1)) (eCallM m__law_take 0 0 (aHoleQ 0 (aCons (eCon (.int 30)) aNil)))) aNil)))))))
def m__law_number : List D → Out (D × D) := runF 2 (some 0) b__law_number

abbrev nn__law_is_whole : List Str := ["_law_told"]
def b__law_is_whole : Rho → Out Fl := (sRet (eAndF (eArg isiD (aCons (eVar 0) (aCons (eCon (.ty .int)) aNil))) (eNotF (eArg isiD (aCons (eVar 0) (aCons (eCon (.ty .bool)) aNil))))))
def m__law_is_whole : List D → Out (D × D) := runF 1 none b__law_is_whole

abbrev nn__law_is_number : List Str := ["_law_told"]
def b__law_is_number : Rho → Out Fl := (sSeq (sIf (tOrF (tNotF (tVal (eArg isiD (aCons (eVar 0) (aCons (eCon (.ty .tuple)) aNil))))) (tVal (eOp2 neD (eArg lenD (aCons (eVar 0) aNil)) (eCon (.int 2))))) (sRet (eCon (.bl false))) sSkip) (sSeq (sIf (tOrF (tNotF (tVal (eCall m__law_is_whole (aCons (eOp2 ixD (eVar 0) (eCon (.int 0))) aNil)))) (tNotF (tVal (eCall m__law_is_whole (aCons (eOp2 ixD (eVar 0) (eCon (.int 1))) aNil))))) (sRet (eCon (.bl false))) sSkip) (sRet (eAndF (eOp2 geA (eOp2 ixD (eVar 0) (eCon (.int 1))) (eCon (.int 1))) (eOp2 eqD (eCall m__law_low (aCons (eOp2 ixD (eVar 0) (eCon (.int 0))) (aCons (eOp2 ixD (eVar 0) (eCon (.int 1))) aNil))) (eVar 0))))))
def m__law_is_number : List D → Out (D × D) := runF 1 none b__law_is_number

abbrev nn__law_is_row : List Str := ["_law_told", "_law_width", "_law_one"]
def b__law_is_row : Rho → Out Fl := (sSeq (sIf (tOrF (tNotF (tVal (eArg isiD (aCons (eVar 0) (aCons (eCon (.ty .list)) aNil))))) (tVal (eOp2 neD (eArg lenD (aCons (eVar 0) aNil)) (eVar 1)))) (sRet (eCon (.bl false))) sSkip) (sRet (eOp2 eqD (eComp [2] (iSeq (eVar 0)) (gName 2) (tNotF (tVal (eCall m__law_is_number (aCons (eVar 2) aNil)))) (eVar 2)) (eLst aNil))))
def m__law_is_row : List D → Out (D × D) := runF 3 none b__law_is_row

abbrev nn__law_is_rows : List Str := ["_law_told", "_law_width", "_law_row"]
def b__law_is_rows : Rho → Out Fl := (sRet (eAndF (eArg isiD (aCons (eVar 0) (aCons (eCon (.ty .list)) aNil))) (eOp2 eqD (eComp [2] (iSeq (eVar 0)) (gName 2) (tNotF (tVal (eCall m__law_is_row (aCons (eVar 2) (aCons (eVar 1) aNil))))) (eVar 2)) (eLst aNil))))
def m__law_is_rows : List D → Out (D × D) := runF 3 none b__law_is_rows

abbrev nn__law_plus : List Str := ["_law_one", "_law_other"]
def b__law_plus : Rho → Out Fl := (sRet (eCall m__law_low (aCons (eOp2 addD (eOp2 repD (eOp2 ixD (eVar 0) (eCon (.int 0))) (eOp2 ixD (eVar 1) (eCon (.int 1)))) (eOp2 repD (eOp2 ixD (eVar 1) (eCon (.int 0))) (eOp2 ixD (eVar 0) (eCon (.int 1))))) (aCons (eOp2 repD (eOp2 ixD (eVar 0) (eCon (.int 1))) (eOp2 ixD (eVar 1) (eCon (.int 1)))) aNil))))
def m__law_plus : List D → Out (D × D) := runF 2 none b__law_plus

abbrev nn__law_by : List Str := ["_law_one", "_law_other"]
def b__law_by : Rho → Out Fl := (sRet (eCall m__law_low (aCons (eOp2 repD (eOp2 ixD (eVar 0) (eCon (.int 0))) (eOp2 ixD (eVar 1) (eCon (.int 0)))) (aCons (eOp2 repD (eOp2 ixD (eVar 0) (eCon (.int 1))) (eOp2 ixD (eVar 1) (eCon (.int 1)))) aNil))))
def m__law_by : List D → Out (D × D) := runF 2 none b__law_by

abbrev nn__law_pairing : List Str := ["_law_one", "_law_other", "_law_total", "_law_a", "_law_b"]
def b__law_pairing : Rho → Out Fl := (sSeq (sSet 2 (eTup (aCons (eCon (.int 0)) (aCons (eCon (.int 1)) aNil)))) (sSeq (sFor (iArg iZip2 (aCons (eVar 0) (aCons (eVar 1) aNil))) (gTup 2 (gCons (gName 3) (gCons (gName 4) gNil))) (sSet 2 (eCall m__law_plus (aCons (eVar 2) (aCons (eCall m__law_by (aCons (eVar 3) (aCons (eVar 4) aNil))) aNil))))) (sRet (eVar 2))))
def m__law_pairing : List D → Out (D × D) := runF 5 none b__law_pairing

abbrev nn_law : List Str := ["_law_script", "_law_cell", "_law_purse_here", "_law_side", "_law_one", "_law_other", "_law_row", "_law_first", "_law_second", "_law_asked", "_law_told", "_law_joint", "_law_r", "_law_k", "_law_line", "_law_place"]
def b_law : Rho → Out Fl := (sSeq (sFor (iSeq (eOp2 addD (eSlice (eVar 0) oNone (oSome (eCon (.int 2)))) (eLst (aCons (eCall m__law_at (aCons (eVar 0) (aCons (eCon (.int 1)) aNil))) aNil)))) (gName 1) (sSeq (sSet 2 (eCall m__law_purse (aCons (eVar 1) (aCons (eCon (.int 5)) aNil)))) (sSeq (sSet 3 (eOp2 addD (eCon (.int 1)) (eCallM m__law_take 0 2 (aHoleQ 2 (aCons (eOp2 ixD (eLst (aCons (eCon (.int 4)) (aCons (eCon (.int 4)) (aCons (eCon (.int 6)) aNil)))) (eCallM m__law_take 0 2 (aHoleQ 2 (aCons (eCon (.int 3)) aNil)))) aNil))))) (sSeq (sSet 4 (eComp [14] (iRange (aCons (eVar 3) aNil)) (gName 14) tYesF (eComp [15] (iRange (aCons (eVar 3) aNil)) (gName 15) tYesF (eCallM m__law_number 0 2 (aHoleQ 2 aNil))))) (sSeq (sSet 5 (eComp [14] (iRange (aCons (eVar 3) aNil)) (gName 14) tYesF (eComp [15] (iRange (aCons (eVar 3) aNil)) (gName 15) tYesF (eCallM m__law_number 0 2 (aHoleQ 2 aNil))))) (sSeq (sSet 6 (eComp [15] (iRange (aCons (eVar 3) aNil)) (gName 15) tYesF (eCallM m__law_number 0 2 (aHoleQ 2 aNil)))) (sSeq (sSet 7 (eComp [14] (iSeq (eVar 4)) (gName 14) tYesF (eArg listD (aCons (eVar 14) aNil)))) (sSeq (sSet 8 (eComp [14] (iSeq (eVar 5)) (gName 14) tYesF (eArg listD (aCons (eVar 14) aNil)))) (sSeq (sSet 9 (eArg listD (aCons (eVar 6) aNil))) (sSeq (sSet 10 (eCall m_moved (aCons (eVar 7) (aCons (eVar 9) aNil)))) (sSeq (sIf (tOrF (tNotF (tVal (eCall m__law_is_row (aCons (eVar 10) (aCons (eVar 3) aNil))))) (tVal (eOp2 neD (eVar 10) (eComp [14] (iSeq (eVar 4)) (gName 14) tYesF (eCall m__law_pairing (aCons (eVar 14) (aCons (eVar 6) aNil))))))) (sRet (eCon (.bl false))) sSkip) (sSeq (sSet 11 (eCall m_after (aCons (eVar 7) (aCons (eVar 8) aNil)))) (sSeq (sIf (tOrF (tNotF (tVal (eCall m__law_is_rows (aCons (eVar 11) (aCons (eVar 3) aNil))))) (tVal (eOp2 neD (eArg lenD (aCons (eVar 11) aNil)) (eVar 3)))) (sRet (eCon (.bl false))) sSkip) (sSeq (sFor (iRange (aCons (eVar 3) aNil)) (gName 12) (sFor (iRange (aCons (eVar 3) aNil)) (gName 13) (sIf (tVal (eOp2 neD (eOp2 ixD (eOp2 ixD (eVar 11) (eVar 12)) (eVar 13)) (eCall m__law_pairing (aCons (eOp2 ixD (eVar 4) (eVar 12)) (aCons (eComp [14] (iSeq (eVar 5)) (gName 14) tYesF (eOp2 ixD (eVar 14) (eVar 13))) aNil))))) (sRet (eCon (.bl false))) sSkip))) (sSeq (sIf (tVal (eOp2 neD (eCall m_moved (aCons (eVar 11) (aCons (eVar 9) aNil))) (eCall m_moved (aCons (eVar 7) (aCons (eCall m_moved (aCons (eVar 8) (aCons (eVar 9) aNil))) aNil))))) (sRet (eCon (.bl false))) sSkip) (sIf (tOrF (tVal (eOp2 neD (eVar 7) (eVar 4))) (tOrF (tVal (eOp2 neD (eVar 8) (eVar 5))) (tVal (eOp2 neD (eVar 9) (eVar 6))))) (sRet (eCon (.bl false))) sSkip)))))))))))))))) (sRet (eCon (.bl true))))
def m_law : List D → Out (D × D) := runF 16 none b_law

end Lw

set_option maxRecDepth 100000
set_option exponentiation.threshold 100
namespace Lw
open PySem PySem.Spec PyProof.Rows L2 SW
/-! the purse: how a cell's digits are taken -/
def mixA (c k : Int) : Int := (c % 1000000000000000009 + 7 * k) * 739108512309184756019283746561 + 7919 * k + 1
def mixB (c k : Int) : Int := mixA c k * mixA c k % 1000000000000000000000000000000000000000000000000000000000007
def mixR (c k : Int) : Int := (mixB c k + 40503) * (mixB c k + 57) % 1000000000000000000000000000000000000000000000000000000000007
theorem mixR_bound (c k : Int) : 0 ≤ mixR c k ∧ mixR c k < 1000000000000000000000000000000000000000000000000000000000007 := by
  unfold mixR
  exact ⟨Int.emod_nonneg _ (by omega), Int.emod_lt_of_pos _ (by omega)⟩
theorem natAbs_lt {i : Int} {n : Nat} (h0 : 0 ≤ i) (h : i < (n : Int)) : i.natAbs < n := by omega
theorem two_pow_cast (n : Nat) : ((2 ^ n : Nat) : Int) = (2 : Int) ^ n := by simp
theorem mix_ok (c k : Int) (h0 : 0 ≤ k) (hk : k < 2 ^ 1000) : m__law_mixed [.int c, .int k] = .ok (.int (mixR c k), .non) := by
  have b1 : bits2 7 k = true := bits2_l (by decide)
  have b2 : bits2 7919 k = true := bits2_l (by decide)
  have hc0 : 0 ≤ c % 1000000000000000009 := Int.emod_nonneg _ (by omega)
  have hc1 : c % 1000000000000000009 < 1000000000000000009 := Int.emod_lt_of_pos _ (by omega)
  have e1000 : (2 : Int) ^ 1000 = ((2 ^ 1000 : Nat) : Int) := (two_pow_cast 1000).symm
  have h1 : (c % 1000000000000000009 + 7 * k).natAbs < 2 ^ 1100 := by
    have : (2 : Nat) ^ 1100 = 2 ^ 1000 * 2 ^ 100 := by rw [← Nat.pow_add]
    have h2 : (2 : Nat) ^ 100 = 1267650600228229401496703205376 := by decide
    rw [e1000] at hk
    generalize (2 : Nat) ^ 1000 = N at hk this
    omega
  have b3 : bits2 (c % 1000000000000000009 + 7 * k) 739108512309184756019283746561 = true := bits2_of (b := 200) h1 (by decide) (by decide)
  have hA : (mixA c k).natAbs < 2 ^ 1400 := by
    unfold mixA
    have : (2 : Nat) ^ 1400 = 2 ^ 1000 * 2 ^ 400 := by rw [← Nat.pow_add]
    have h2 : (2 : Nat) ^ 400 > 10 ^ 100 := by decide
    rw [e1000] at hk
    generalize (2 : Nat) ^ 1000 = N at hk this
    generalize (2 : Nat) ^ 400 = M at h2 this
    have h3 : N * 10 ^ 100 ≤ N * M := Nat.mul_le_mul_left _ (Nat.le_of_lt h2)
    omega
  have b4 : bits2 (mixA c k) (mixA c k) = true := bits2_of hA hA (by decide)
  have hB0 : 0 ≤ mixB c k := Int.emod_nonneg _ (by omega)
  have hB1 : mixB c k < 1000000000000000000000000000000000000000000000000000000000007 := Int.emod_lt_of_pos _ (by omega)
  have b5 : bits2 (mixB c k + 40503) (mixB c k + 57) = true := by
    have h2 : (2 : Nat) ^ 300 > 10 ^ 70 := by decide
    refine bits2_of (a := 300) (b := 300) ?_ ?_ (by decide)
    · omega
    · omega
  unfold mixA at b4
  unfold mixB mixA at b5
  have e9 : (1000000000000000000 : Int) + 9 = 1000000000000000009 := by decide
  have e7 : (1000000000000000000000000000000000000000000000000000000000000 : Int) + 7 = 1000000000000000000000000000000000000000000000000000000000007 := by decide
  simp (disch := first | assumption | decide | omega) only [m__law_mixed, b__law_mixed, runF, m0, sSeq, sSet, sIf, sRet, sRetN, sExpr, sSkip_ok, sSetIx, sFor, sPar, sBind, sAug, eVar, eCon_ok, eOp2, eOp1, eCall, eCallM, eCallT, eTup, eLst, eArg, eIf, tVal, tNotF, tAndF, tOrF, eB, eAndF, eOrF, eNotF, eIxQ, eIxO, aHoleQ, aHole, aNil_ok, aCons, oNone_ok, oSome, eSlice, eSliceL, iSeq, iRange, iArg, ePeek, tPeek, eOwnM, tYes_ok, bind_ok, bind_exc, bind_stuck, of_some, flatD, SW.gName, List.getD_cons_zero, List.getD_cons_succ, List.set_cons_zero, List.set_cons_succ, List.map_cons, List.map_nil, List.length_cons, List.length_nil, List.cons_append, List.nil_append, List.replicate, Nat.reduceAdd, Nat.reduceSub, addD_int, subD_int, negD_int, repD_int, modD_int, fdivD_int, ltA_int, leA_int, gtA_int, geA_int, eqD_int, neD_int, pow_10_18, pow_10_60, e9, e7, mixR, mixB, mixA]
/-- a purse -/
def purseD (a b c : Int) : D := .lst [.int a, .int b, .int c]
structure Ps (n : Nat) (d : D) : Prop where
  ex : ∃ a b c : Int, d = purseD a b c ∧ 0 ≤ a ∧ 0 ≤ b ∧ b + n ≤ 2 ^ 900
theorem ix0 {a b c : Int} : ixD (.lst [.int a, .int b, .int c]) (.int 0) = some (.int a) := rfl
theorem ix1 {a b c : Int} : ixD (.lst [.int a, .int b, .int c]) (.int 1) = some (.int b) := rfl
theorem ix2 {a b c : Int} : ixD (.lst [.int a, .int b, .int c]) (.int 2) = some (.int c) := rfl
theorem ixN30 : ixN 3 0 = some 0 := by decide
theorem ixN31 : ixN 3 1 = some 1 := by decide
theorem take_ok {n : Nat} {p : D} {many : Int} (hp : Ps (n + 1) p) (h1 : 1 ≤ many) (h2 : many < 2 ^ 200) : ∃ (g : Int) (p' : D), m__law_take [p, .int many] = .ok (.int g, p') ∧ 0 ≤ g ∧ g < many ∧ Ps n p' := by
  obtain ⟨a, b, c, rfl, h0, hb, hn⟩ := hp.ex
  have e900 : (2 : Int) ^ 900 = ((2 ^ 900 : Nat) : Int) := (two_pow_cast 900).symm
  have e1000 : (2 : Int) ^ 1000 = ((2 ^ 1000 : Nat) : Int) := (two_pow_cast 1000).symm
  have ee : (2 : Nat) ^ 1000 = 2 ^ 900 * 2 ^ 100 := by rw [← Nat.pow_add]
  have e100 : (2 : Nat) ^ 100 = 1267650600228229401496703205376 := by decide
  have hm9 : many < 2 ^ 9000 := by
    have : (2 : Int) ^ 9000 = ((2 ^ 9000 : Nat) : Int) := (two_pow_cast 9000).symm
    have h3 : (2 : Nat) ^ 9000 = 2 ^ 200 * 2 ^ 8800 := by rw [← Nat.pow_add]
    have h4 : (2 : Nat) ^ 8800 > 0 := Nat.pos_of_ne_zero (by simp)
    have h5 : (2 : Int) ^ 200 = ((2 ^ 200 : Nat) : Int) := (two_pow_cast 200).symm
    rw [this, h3]
    rw [h5] at h2
    have h6 : (2 : Nat) ^ 200 * 1 ≤ 2 ^ 200 * 2 ^ 8800 := Nat.mul_le_mul_left _ h4
    omega
  have hk : 11 * (b + 1) + 5 < 2 ^ 1000 := by
    rw [e1000, ee]
    rw [e900] at hn
    generalize (2 : Nat) ^ 900 = N at hn ⊢
    omega
  have bm : bits2 11 (b + 1) = true := bits2_l (by decide)
  have hmix := mix_ok c (11 * (b + 1) + 5) (by omega) hk
  obtain ⟨r0, r1⟩ := mixR_bound c (11 * (b + 1) + 5)
  have bmm : bits2 many (mixR c (11 * (b + 1) + 5)) = true := by
    have h5 : (2 : Int) ^ 200 = ((2 ^ 200 : Nat) : Int) := (two_pow_cast 200).symm
    rw [h5] at h2
    refine bits2_of (a := 200) (b := 300) (natAbs_lt (by omega) h2) ?_ (by decide)
    have h2 : (2 : Nat) ^ 300 > 10 ^ 70 := by decide
    omega
  have hpos : 0 < many := by omega
  by_cases hlt : a < many
  · have hmul : 0 ≤ many * mixR c (11 * (b + 1) + 5) := Int.mul_nonneg (by omega) r0
    refine ⟨(a + many * mixR c (11 * (b + 1) + 5)) % many, purseD ((a + many * mixR c (11 * (b + 1) + 5)) / many) (b + 1) c, ?_, Int.emod_nonneg _ (by omega), Int.emod_lt_of_pos _ hpos, ⟨_, _, _, rfl, ?_, by omega, by omega⟩⟩
    · simp (disch := first | assumption | decide | omega) only [m__law_take, b__law_take, purseD, runF, m0, sSeq, sSet, sIf, sRet, sRetN, sExpr, sSkip_ok, sSetIx, sFor, sPar, sBind, sAug, eVar, eCon_ok, eOp2, eOp1, eCall, eCallM, eCallT, eTup, eLst, eArg, eIf, tVal, tNotF, tAndF, tOrF, eB, eAndF, eOrF, eNotF, eIxQ, eIxO, aHoleQ, aHole, aNil_ok, aCons, oNone_ok, oSome, eSlice, eSliceL, iSeq, iRange, iArg, ePeek, tPeek, eOwnM, tYes_ok, bind_ok, bind_exc, bind_stuck, of_some, flatD, SW.gName, List.getD_cons_zero, List.getD_cons_succ, List.set_cons_zero, List.set_cons_succ, List.map_cons, List.map_nil, List.length_cons, List.length_nil, List.cons_append, List.nil_append, List.replicate, Nat.reduceAdd, Nat.reduceSub, addD_int, subD_int, negD_int, repD_int, modD_int, fdivD_int, ltA_int, leA_int, gtA_int, geA_int, eqD_int, neD_int, pow_10_18, pow_10_60, ix0, ix1, ix2, decide_eq_true hlt, if_true, ixN30, ixN31, hmix, Option.getD_some]
    · exact Int.ediv_nonneg (by omega) (by omega)
  · refine ⟨a % many, purseD (a / many) b c, ?_, Int.emod_nonneg _ (by omega), Int.emod_lt_of_pos _ hpos, ⟨_, _, _, rfl, Int.ediv_nonneg h0 (by omega), hb, by omega⟩⟩
    simp (disch := first | assumption | decide | omega) only [m__law_take, b__law_take, purseD, runF, m0, sSeq, sSet, sIf, sRet, sRetN, sExpr, sSkip_ok, sSetIx, sFor, sPar, sBind, sAug, eVar, eCon_ok, eOp2, eOp1, eCall, eCallM, eCallT, eTup, eLst, eArg, eIf, tVal, tNotF, tAndF, tOrF, eB, eAndF, eOrF, eNotF, eIxQ, eIxO, aHoleQ, aHole, aNil_ok, aCons, oNone_ok, oSome, eSlice, eSliceL, iSeq, iRange, iArg, ePeek, tPeek, eOwnM, tYes_ok, bind_ok, bind_exc, bind_stuck, of_some, flatD, SW.gName, List.getD_cons_zero, List.getD_cons_succ, List.set_cons_zero, List.set_cons_succ, List.map_cons, List.map_nil, List.length_cons, List.length_nil, List.cons_append, List.nil_append, List.replicate, Nat.reduceAdd, Nat.reduceSub, addD_int, subD_int, negD_int, repD_int, modD_int, fdivD_int, ltA_int, leA_int, gtA_int, geA_int, eqD_int, neD_int, pow_10_18, pow_10_60, ix0, ix1, ix2, decide_eq_false hlt, if_false, Bool.false_eq_true, ixN30, ixN31, Option.getD_some]

/-! words of letters -/
def eNat : Enc Nat where
  en n := .int ((n : Nat) : Int)
  py n := .int ((n : Nat) : Int)
  dp := 0
  hpy _ := rfl
  heq a b := by
    show (((a : Nat) : Int) == ((b : Nat) : Int)) = _
    rw [Bool.beq_eq_decide_eq, Bool.eq_iff_iff, decide_eq_true_iff, decide_eq_true_iff]
    omega
  lay _ := by simp [PyData.canLay0]
  hdp _ := by simp [PyData.depth]
abbrev eW : Enc (List Nat) := eTupOf eNat
abbrev eWs : Enc (List (List Nat)) := eLstOf eW
abbrev eWss : Enc (List (List (List Nat))) := eLstOf eWs
theorem eW_int (w : List Nat) : eW.en w = eWord.en (w.map Int.ofNat) := by
  show D.tup (w.map eNat.en) = D.tup ((w.map Int.ofNat).map D.int)
  rw [List.map_map]
  rfl
def ltW : List Nat → List Nat → Bool
  | _, [] => false
  | [], _ :: _ => true
  | x :: xs, y :: ys => if x = y then ltW xs ys else decide (x < y)
theorem ltN_cast : ∀ a b : List Nat, ltN (a.map Int.ofNat) (b.map Int.ofNat) = ltW a b
  | [], [] => rfl
  | _ :: _, [] => rfl
  | [], _ :: _ => rfl
  | x :: xs, y :: ys => by
    rw [List.map_cons, List.map_cons, ltN, ltW, ltN_cast xs ys]
    by_cases h : x = y
    · rw [if_pos (by rw [h]), if_pos h]
    · rw [if_neg (fun z => h (Int.ofNat.inj z)), if_neg h, Bool.eq_iff_iff, decide_eq_true_iff, decide_eq_true_iff]
      exact Int.ofNat_lt
theorem ltA_w (a b : List Nat) : ltA (eW.en a) (eW.en b) = some (.bl (ltW a b)) := by rw [eW_int, eW_int, ltA_word, ltN_cast]
theorem gtA_w (a b : List Nat) : gtA (eW.en a) (eW.en b) = some (.bl (ltW b a)) := by rw [eW_int, eW_int, gtA_word, ltN_cast]
theorem leA_w (a b : List Nat) : leA (eW.en a) (eW.en b) = some (.bl (!ltW b a)) := by rw [eW_int, eW_int, leA_word, ltN_cast]
theorem geA_w (a b : List Nat) : geA (eW.en a) (eW.en b) = some (.bl (!ltW a b)) := by rw [eW_int, eW_int, geA_word, ltN_cast]
theorem eqD_w (a b : List Nat) : eqD (eW.en a) (eW.en b) = some (.bl (decide (a = b))) := eqD_enc eW (by decide) a b
theorem neD_w (a b : List Nat) : neD (eW.en a) (eW.en b) = some (.bl (!decide (a = b))) := neD_enc eW (by decide) a b
theorem neD_w0 (a : List Nat) : neD (eW.en a) (.tup []) = some (.bl (!decide (a = []))) := neD_enc eW (by decide) a []
theorem eqD_ws0 (a : List (List Nat)) : eqD (eWs.en a) (.lst []) = some (.bl (decide (a = []))) := eqD_enc eWs (by decide) a []
theorem lenD_w (a : List Nat) : lenD [eW.en a] = some (.int a.length) := by
  show some (D.int ((a.map eNat.en).length : Nat)) = _
  rw [List.length_map]
theorem lenD_ws (a : List (List Nat)) : lenD [eWs.en a] = some (.int a.length) := by
  show some (D.int ((a.map eW.en).length : Nat)) = _
  rw [List.length_map]
theorem take_w (a : List Nat) {k : Int} (h : 0 ≤ k) : sliceD (eW.en a) none (some k) = some (eW.en (a.take k.toNat)) := by
  show some (D.tup (cutD (a.map eNat.en) none (some k))) = _
  rw [cut_take _ h, ← List.map_take]
  rfl
theorem drop_w (a : List Nat) {k : Int} (h : 0 ≤ k) : sliceD (eW.en a) (some k) none = some (eW.en (a.drop k.toNat)) := by
  show some (D.tup (cutD (a.map eNat.en) (some k) none)) = _
  rw [cut_drop _ h, ← List.map_drop]
  rfl
theorem mid_w (a : List Nat) {i j : Int} (h : 0 ≤ i) (h2 : 0 ≤ j) (h3 : j ≤ a.length) : sliceD (eW.en a) (some i) (some j) = some (eW.en ((a.drop i.toNat).take (j.toNat - i.toNat))) := by
  show some (D.tup (cutD (a.map eNat.en) (some i) (some j))) = _
  rw [cut_mid _ h h2 (by rw [List.length_map]; exact h3), ← List.map_drop, ← List.map_take]
  rfl
theorem itemsOf_w (a : List Nat) : itemsOf (eW.en a) = some (a.map eNat.en) := rfl
theorem itemsOf_ws (a : List (List Nat)) : itemsOf (eWs.en a) = some (a.map eW.en) := rfl
theorem isi_tup (a : List Nat) : isiD [eW.en a, .ty .tuple] = some (.bl true) := rfl
theorem cast_toNat (n : Nat) : ((n : Nat) : Int).toNat = n := by omega
theorem all_find {α : Type} {c : α → Bool} : ∀ {l : List α}, l.find? c = none → l.all (fun i => !c i) = true
  | [], _ => rfl
  | a :: l, h => by
    rw [List.find?_eq_none] at h
    rw [List.all_eq_true]
    intro x hx
    have := h x hx
    simpa using this
theorem any_find {α : Type} {c : α → Bool} {l : List α} {i : α} (h : l.find? c = some i) : l.all (fun i => !c i) = false := by
  have h1 := List.find?_some h
  have h2 := List.mem_of_find?_eq_some h
  rw [Bool.eq_false_iff]
  intro z
  rw [List.all_eq_true] at z
  have := z i h2
  rw [h1] at this
  cases this
/-- a loop that turns a state; what is left of the list is known -/
theorem forL_foldr {ι σ : Type} {b : D → Rho → Option Rho} {g : Rho → Out Fl} {f : ι → D} {St : List ι → σ → Rho → Prop} {step : σ → ι → σ} : ∀ (l : List ι) (s : σ) (ρ : Rho), St l s ρ → (∀ i l s ρ, St (i :: l) s ρ → ∃ ρ1 ρ2, b (f i) ρ = some ρ1 ∧ g ρ1 = .ok (.nx ρ2) ∧ St l (step s i) ρ2) →
    ∃ ρ', forL b g (l.map f) ρ = .ok (.nx ρ') ∧ St [] (l.foldl step s) ρ'
  | [], s, ρ, h, _ => ⟨ρ, rfl, h⟩
  | i :: l, s, ρ, h, st => by
    obtain ⟨ρ1, ρ2, e1, e2, h2⟩ := st i l s ρ h
    obtain ⟨ρ', e3, h3⟩ := forL_foldr l (step s i) ρ2 h2 st
    refine ⟨ρ', ?_, h3⟩
    rw [List.map_cons]
    unfold forL
    rw [e1]
    dsimp only
    rw [e2, bind_ok]
    exact e3
/-- a word for the laws -/
def LetW (n m : Nat) (w : List Nat) : Prop := w.length ≤ n ∧ ∀ x ∈ w, x < m

/-! what a law reads and draws -/
theorem law_at_ok (ns : List Int) (k : Int) (hk : 0 ≤ k) : ∃ i : Int, m__law_at [.scr ns, .int k] = .ok (.int i, .non) := by
  by_cases h : k < ns.length
  · have e : ixD (.scr ns) (.int k) = some (.int (ns.getD k.toNat 0)) := by
      show (atI ns k).map D.int = _
      unfold atI ixN
      rw [if_pos hk, if_pos h]
      show (ns[k.toNat]?).map D.int = _
      rw [List.getD_eq_getElem?_getD, List.getElem?_eq_getElem (by omega)]
      rfl
    refine ⟨ns.getD k.toNat 0, ?_⟩
    · have el : lenD [.scr ns] = some (.int ns.length) := rfl
      simp (disch := first | assumption | decide | omega) only [m__law_at, b__law_at, runF, m0, sSeq, sSet, sIf, sRet, sRetN, sExpr, sSkip_ok, sSetIx, sFor, sPar, sBind, sAug, eVar, eCon_ok, eOp2, eOp1, eCall, eCallM, eCallT, eTup, eLst, eArg, eIf, tVal, tNotF, tAndF, tOrF, eB, eAndF, eOrF, eNotF, eIxQ, eIxO, aHoleQ, aHole, aNil_ok, aCons, oNone_ok, oSome, eSlice, eSliceL, iSeq, iRange, iArg, ePeek, tPeek, eOwnM, tYes_ok, bind_ok, bind_exc, bind_stuck, of_some, flatD, SW.gName, List.getD_cons_zero, List.getD_cons_succ, List.set_cons_zero, List.set_cons_succ, List.map_cons, List.map_nil, List.length_cons, List.length_nil, List.cons_append, List.nil_append, List.replicate, Nat.reduceAdd, Nat.reduceSub, addD_int, subD_int, negD_int, repD_int, modD_int, fdivD_int, ltA_int, leA_int, gtA_int, geA_int, eqD_int, neD_int, pow_10_18, pow_10_60, el, decide_eq_true h, if_true, e]
  · refine ⟨3 * k + 1, ?_⟩
    have el : lenD [.scr ns] = some (.int ns.length) := rfl
    have b3 : bits2 3 k = true := bits2_l (by decide)
    simp (disch := first | assumption | decide | omega) only [m__law_at, b__law_at, runF, m0, sSeq, sSet, sIf, sRet, sRetN, sExpr, sSkip_ok, sSetIx, sFor, sPar, sBind, sAug, eVar, eCon_ok, eOp2, eOp1, eCall, eCallM, eCallT, eTup, eLst, eArg, eIf, tVal, tNotF, tAndF, tOrF, eB, eAndF, eOrF, eNotF, eIxQ, eIxO, aHoleQ, aHole, aNil_ok, aCons, oNone_ok, oSome, eSlice, eSliceL, iSeq, iRange, iArg, ePeek, tPeek, eOwnM, tYes_ok, bind_ok, bind_exc, bind_stuck, of_some, flatD, SW.gName, List.getD_cons_zero, List.getD_cons_succ, List.set_cons_zero, List.set_cons_succ, List.map_cons, List.map_nil, List.length_cons, List.length_nil, List.cons_append, List.nil_append, List.replicate, Nat.reduceAdd, Nat.reduceSub, addD_int, subD_int, negD_int, repD_int, modD_int, fdivD_int, ltA_int, leA_int, gtA_int, geA_int, eqD_int, neD_int, pow_10_18, pow_10_60, el, decide_eq_false h, if_false, Bool.false_eq_true]
theorem purse_ok (c k : Int) (h0 : 0 ≤ k) (hk : k < 2 ^ 1000) : ∃ p, m__law_purse [.int c, .int k] = .ok (p, .non) ∧ Ps 1000000 p := by
  have e : (1000000000000000000 : Int) + 9 = 1000000000000000009 := by decide
  have big : (1000000 : Int) ≤ 2 ^ 900 := by decide
  by_cases h : (1000000000000000000 : Int) ≤ c
  · refine ⟨_, ?_, ⟨c - 1000000000000000000, 0, k, rfl, by omega, by omega, by simpa using big⟩⟩
    simp (disch := first | assumption | decide | omega) only [m__law_purse, b__law_purse, runF, m0, sSeq, sSet, sIf, sRet, sRetN, sExpr, sSkip_ok, sSetIx, sFor, sPar, sBind, sAug, eVar, eCon_ok, eOp2, eOp1, eCall, eCallM, eCallT, eTup, eLst, eArg, eIf, tVal, tNotF, tAndF, tOrF, eB, eAndF, eOrF, eNotF, eIxQ, eIxO, aHoleQ, aHole, aNil_ok, aCons, oNone_ok, oSome, eSlice, eSliceL, iSeq, iRange, iArg, ePeek, tPeek, eOwnM, tYes_ok, bind_ok, bind_exc, bind_stuck, of_some, flatD, SW.gName, List.getD_cons_zero, List.getD_cons_succ, List.set_cons_zero, List.set_cons_succ, List.map_cons, List.map_nil, List.length_cons, List.length_nil, List.cons_append, List.nil_append, List.replicate, Nat.reduceAdd, Nat.reduceSub, addD_int, subD_int, negD_int, repD_int, modD_int, fdivD_int, ltA_int, leA_int, gtA_int, geA_int, eqD_int, neD_int, pow_10_18, pow_10_60, decide_eq_true h, if_true, purseD]
  · refine ⟨_, ?_, ⟨mixR c k, 0, c % 1000000000000000009 + k, rfl, (mixR_bound c k).1, by omega, by simpa using big⟩⟩
    simp (disch := first | assumption | decide | omega) only [m__law_purse, b__law_purse, runF, m0, sSeq, sSet, sIf, sRet, sRetN, sExpr, sSkip_ok, sSetIx, sFor, sPar, sBind, sAug, eVar, eCon_ok, eOp2, eOp1, eCall, eCallM, eCallT, eTup, eLst, eArg, eIf, tVal, tNotF, tAndF, tOrF, eB, eAndF, eOrF, eNotF, eIxQ, eIxO, aHoleQ, aHole, aNil_ok, aCons, oNone_ok, oSome, eSlice, eSliceL, iSeq, iRange, iArg, ePeek, tPeek, eOwnM, tYes_ok, bind_ok, bind_exc, bind_stuck, of_some, flatD, SW.gName, List.getD_cons_zero, List.getD_cons_succ, List.set_cons_zero, List.set_cons_succ, List.map_cons, List.map_nil, List.length_cons, List.length_nil, List.cons_append, List.nil_append, List.replicate, Nat.reduceAdd, Nat.reduceSub, addD_int, subD_int, negD_int, repD_int, modD_int, fdivD_int, ltA_int, leA_int, gtA_int, geA_int, eqD_int, neD_int, pow_10_18, pow_10_60, decide_eq_false h, if_false, Bool.false_eq_true, mix_ok c k h0 hk, e, purseD]
theorem Ps.mono {n m : Nat} {p : D} (h : n ≤ m) (hp : Ps m p) : Ps n p := by
  obtain ⟨a, b, c, e, h0, hb, hn⟩ := hp.ex
  exact ⟨a, b, c, e, h0, hb, by omega⟩
theorem append_any {l : List D} {d : D} (h : l.length < 1000) : uAppend l [d] = some (.non, l ++ [d]) := by
  show (if l.length < sizeLine then some (D.non, l ++ [d]) else none) = _
  rw [if_pos (Nat.lt_trans h (by decide))]
theorem addD_lst (a b : List D) (h : a.length + b.length ≤ 1000) : addD (.lst a) (.lst b) = some (.lst (a ++ b)) := by
  show (if a.length + b.length ≤ sizeLine then some (D.lst (a ++ b)) else none) = _
  rw [if_pos (Nat.le_trans h (by decide))]
theorem cells_cut (ns : List Int) {k : Int} (h : 0 ≤ k) : sliceD (.scr ns) none (some k) = some (.lst ((ns.take k.toNat).map D.int)) := by
  show some (D.lst (cutD (ns.map .int) none (some k))) = _
  rw [cut_take _ h, List.map_take]

/-! fractions -/
def eRat : Enc Rat where
  en r := .tup [.int r.num, .int ((r.den : Nat) : Int)]
  py r := .tuple [.int r.num, .int ((r.den : Nat) : Int)]
  dp := 1
  hpy _ := rfl
  heq a b := by
    show (((a.num : Int) == b.num) && ((((a.den : Nat) : Int) == ((b.den : Nat) : Int)) && true)) = _
    rw [Bool.eq_iff_iff, Bool.and_true, Bool.and_eq_true, beq_iff_eq, beq_iff_eq, decide_eq_true_iff]
    constructor
    · rintro ⟨h1, h2⟩; exact Rat.ext h1 (by omega)
    · rintro rfl; exact ⟨rfl, rfl⟩
  lay _ := by simp [PyData.canLay0, PyData.canLayAll0]
  hdp _ := by simp [PyData.depth, PyData.depthAll]
abbrev eRow : Enc (List Rat) := eLstOf eRat
abbrev eSq : Enc (List (List Rat)) := eLstOf eRow
/-! the greatest divisor -/
theorem gcd_loop : ∀ (n a b : Nat), b < n → whileL (tVal (eOp2 neD (eVar 1) (eCon (.int 0)))) (sPar 0 1 (aCons (eVar 1) (aCons (eOp2 modD (eVar 0) (eVar 1)) aNil))) n [some (.int ((a : Nat) : Int)), some (.int ((b : Nat) : Int))] = .ok (.nx [some (.int ((Nat.gcd a b : Nat) : Int)), some (.int 0)])
  | 0, a, b, h => by omega
  | n + 1, a, b, h => by
    by_cases hb : b = 0
    · subst hb
      unfold whileL
      have d0 : ((0 : Nat) : Int) = 0 := rfl
      simp (disch := first | assumption | decide | omega) only [runF, m0, sSeq, sSet, sIf, sRet, sRetN, sExpr, sSkip_ok, sSetIx, sFor, sPar, sBind, sAug, eVar, eCon_ok, eOp2, eOp1, eCall, eCallM, eCallT, eTup, eLst, eArg, eIf, tVal, tNotF, tAndF, tOrF, eB, eAndF, eOrF, eNotF, eIxQ, eIxO, aHoleQ, aHole, aNil_ok, aCons, oNone_ok, oSome, eSlice, eSliceL, iSeq, iRange, iArg, ePeek, tPeek, eOwnM, tYes_ok, bind_ok, bind_exc, bind_stuck, of_some, flatD, SW.gName, List.getD_cons_zero, List.getD_cons_succ, List.set_cons_zero, List.set_cons_succ, List.map_cons, List.map_nil, List.length_cons, List.length_nil, List.cons_append, List.nil_append, List.replicate, Nat.reduceAdd, Nat.reduceSub, addD_int, subD_int, negD_int, repD_int, modD_int, fdivD_int, ltA_int, leA_int, gtA_int, geA_int, eqD_int, neD_int, pow_10_18, pow_10_60, decide_eq_true d0, Bool.not_true, Bool.false_eq_true, if_false, Nat.gcd_zero_right]
      rfl
    · have d0 : ¬ ((b : Nat) : Int) = 0 := by omega
      have dp : (0 : Int) < ((b : Nat) : Int) := by omega
      have hm : a % b < b := Nat.mod_lt _ (by omega)
      have ih := gcd_loop n b (a % b) (by omega)
      have eg : Nat.gcd b (a % b) = Nat.gcd a b := by rw [Nat.gcd_comm a b, Nat.gcd_rec b a, Nat.gcd_comm]
      have em : ((a : Nat) : Int) % ((b : Nat) : Int) = ((a % b : Nat) : Int) := (Int.natCast_emod a b).symm
      rw [eg] at ih
      unfold whileL
      simp (disch := first | assumption | decide | omega) only [tVal, eOp2, eVar, eCon_ok, bind_ok, of_some, neD_int, List.getD_cons_zero, List.getD_cons_succ, decide_eq_false d0, Bool.not_false, if_true, sPar, aCons, aNil_ok, modD_int dp, em, List.set_cons_zero, List.set_cons_succ]
      exact ih
theorem absD_int (i : Int) : absD [.int i] = some (.int ((i.natAbs : Nat) : Int)) := by
  show some (D.int (if i < 0 then -i else i)) = _
  congr 2
  split <;> omega
theorem divisor_ok (a b : Int) : m_divisor [.int a, .int b] = .ok (.int ((Nat.gcd a.natAbs b.natAbs : Nat) : Int), .non) := by
  have e := gcd_loop (b.natAbs + 1) a.natAbs b.natAbs (by omega)
  have ef : fuelInt 1 [some (.int ((a.natAbs : Nat) : Int)), some (.int ((b.natAbs : Nat) : Int))] = b.natAbs + 1 := by
    show ((b.natAbs : Nat) : Int).natAbs + 1 = _
    rw [Int.natAbs_natCast]
  simp (disch := first | assumption | decide | omega) only [m_divisor, b_divisor, runF, m0, sSeq, sSet, sIf, sRet, sRetN, sExpr, sSkip_ok, sSetIx, sFor, sPar, sBind, sAug, eVar, eCon_ok, eOp2, eOp1, eCall, eCallM, eCallT, eTup, eLst, eArg, eIf, tVal, tNotF, tAndF, tOrF, eB, eAndF, eOrF, eNotF, eIxQ, eIxO, aHoleQ, aHole, aNil_ok, aCons, oNone_ok, oSome, eSlice, eSliceL, iSeq, iRange, iArg, ePeek, tPeek, eOwnM, tYes_ok, bind_ok, bind_exc, bind_stuck, of_some, flatD, SW.gName, List.getD_cons_zero, List.getD_cons_succ, List.set_cons_zero, List.set_cons_succ, List.map_cons, List.map_nil, List.length_cons, List.length_nil, List.cons_append, List.nil_append, List.replicate, Nat.reduceAdd, Nat.reduceSub, addD_int, subD_int, negD_int, repD_int, modD_int, fdivD_int, ltA_int, leA_int, gtA_int, geA_int, eqD_int, neD_int, pow_10_18, pow_10_60, absD_int, sWhile, ef]
  rw [e]
  rfl
theorem mkRat_num' (t : Int) {d : Nat} (hd : d ≠ 0) : (mkRat t d).num = t / ((Nat.gcd t.natAbs d : Nat) : Int) := by
  rw [Rat.num_mkRat, if_neg hd, Nat.gcd_comm]
theorem mkRat_den' (t : Int) {d : Nat} (hd : d ≠ 0) : (mkRat t d).den = d / Nat.gcd t.natAbs d := by
  rw [Rat.den_mkRat, if_neg hd, Nat.gcd_comm]
theorem lowest_ok (t : Int) {d : Nat} (hd : d ≠ 0) (hs : d < 2 ^ 9000) : m_lowest [.int t, .int ((d : Nat) : Int)] = .ok (eRat.en (mkRat t d), .non) := by
  have e := divisor_ok t ((d : Nat) : Int)
  rw [Int.natAbs_natCast] at e
  have g0 : 0 < Nat.gcd t.natAbs d := Nat.gcd_pos_of_pos_right _ (by omega)
  have gl : Nat.gcd t.natAbs d ≤ d := Nat.le_of_dvd (by omega) (Nat.gcd_dvd_right _ _)
  have g1 : (0 : Int) < ((Nat.gcd t.natAbs d : Nat) : Int) := by omega
  have g2 : ((Nat.gcd t.natAbs d : Nat) : Int) < 2 ^ 9000 := by
    rw [← two_pow_cast]
    exact Int.ofNat_lt.mpr (Nat.lt_of_le_of_lt gl hs)
  have dn : ¬ ((d : Nat) : Int) < 0 := by omega
  have f1 := fdivD_int (i := t) g1 g2
  have f2 := fdivD_int (i := ((d : Nat) : Int)) g1 g2
  have e2 : ((d : Nat) : Int) / ((Nat.gcd t.natAbs d : Nat) : Int) = ((d / Nat.gcd t.natAbs d : Nat) : Int) := (Int.natCast_ediv _ _).symm
  rw [e2] at f2
  show _ = Out.ok (D.tup [.int (mkRat t d).num, .int (((mkRat t d).den : Nat) : Int)], _)
  rw [mkRat_num' t hd, mkRat_den' t hd]
  simp (disch := first | assumption | decide | omega) only [m_lowest, b_lowest, runF, m0, sSeq, sSet, sIf, sRet, sRetN, sExpr, sSkip_ok, sSetIx, sFor, sPar, sBind, sAug, eVar, eCon_ok, eOp2, eOp1, eCall, eCallM, eCallT, eTup, eLst, eArg, eIf, tVal, tNotF, tAndF, tOrF, eB, eAndF, eOrF, eNotF, eIxQ, eIxO, aHoleQ, aHole, aNil_ok, aCons, oNone_ok, oSome, eSlice, eSliceL, iSeq, iRange, iArg, ePeek, tPeek, eOwnM, tYes_ok, bind_ok, bind_exc, bind_stuck, of_some, flatD, SW.gName, List.getD_cons_zero, List.getD_cons_succ, List.set_cons_zero, List.set_cons_succ, List.map_cons, List.map_nil, List.length_cons, List.length_nil, List.cons_append, List.nil_append, List.replicate, Nat.reduceAdd, Nat.reduceSub, addD_int, subD_int, negD_int, repD_int, modD_int, fdivD_int, ltA_int, leA_int, gtA_int, geA_int, eqD_int, neD_int, pow_10_18, pow_10_60, decide_eq_false dn, Bool.false_eq_true, if_false, e, f1, f2]
/-! how great a fraction is -/
structure Sz (k : Nat) (r : Rat) : Prop where
  n : r.num.natAbs < 2 ^ k
  d : r.den < 2 ^ k
theorem Sz.mono {k m : Nat} {r : Rat} (h : Sz k r) (hm : k ≤ m) : Sz m r := ⟨Nat.lt_of_lt_of_le h.n (Nat.pow_le_pow_right (by decide) hm), Nat.lt_of_lt_of_le h.d (Nat.pow_le_pow_right (by decide) hm)⟩
theorem sz_mk {k : Nat} {t : Int} {d : Nat} (h1 : t.natAbs < 2 ^ k) (h2 : d < 2 ^ k) (h0 : 0 < k) : Sz k (mkRat t d) := by
  by_cases hd : d = 0
  · subst hd
    rw [Rat.mkRat_zero]
    exact ⟨Nat.pow_pos (by decide), Nat.one_lt_two_pow (by omega)⟩
  · refine ⟨?_, ?_⟩
    · rw [mkRat_num' t hd]
      exact Nat.lt_of_le_of_lt (Int.natAbs_ediv_le_natAbs _ _) h1
    · rw [mkRat_den' t hd]
      exact Nat.lt_of_le_of_lt (Nat.div_le_self _ _) h2
theorem mul_lt_pow {a b i j : Nat} (h1 : a < 2 ^ i) (h2 : b < 2 ^ j) : a * b < 2 ^ (i + j) := by
  rw [Nat.pow_add]
  rcases Nat.eq_zero_or_pos b with hb | hb
  · subst hb
    rw [Nat.mul_zero]
    exact Nat.mul_pos (Nat.pow_pos (by decide)) (Nat.pow_pos (by decide))
  · exact Nat.lt_of_lt_of_le (Nat.mul_lt_mul_of_pos_right h1 hb) (Nat.mul_le_mul_left _ (Nat.le_of_lt h2))
theorem den_pos' (r : Rat) : 0 < r.den := Nat.pos_of_ne_zero r.den_nz
theorem Sz.pos {k : Nat} {r : Rat} (h : Sz k r) : 0 < k := by
  rcases Nat.eq_zero_or_pos k with z | z
  · subst z
    have := h.d
    have := den_pos' r
    omega
  · exact z
theorem Sz.mul {i j : Nat} {a b : Rat} (h1 : Sz i a) (h2 : Sz j b) : Sz (i + j) (a * b) := by
  rw [Rat.mul_def']
  refine sz_mk ?_ (mul_lt_pow h1.d h2.d) (by have := h1.pos; omega)
  rw [Int.natAbs_mul]
  exact mul_lt_pow h1.n h2.n
theorem Sz.add {i j : Nat} {a b : Rat} (h1 : Sz i a) (h2 : Sz j b) : Sz (i + j + 1) (a + b) := by
  rw [Rat.add_def']
  have m1 := mul_lt_pow h1.n h2.d
  have m2 := mul_lt_pow h2.n h1.d
  have m3 := mul_lt_pow h1.d h2.d
  have e : (2 : Nat) ^ (i + j + 1) = 2 ^ (i + j) + 2 ^ (i + j) := by rw [Nat.pow_succ]; omega
  have e2 : j + i = i + j := by omega
  rw [e2] at m2
  refine sz_mk ?_ ?_ (by omega)
  · rw [e]
    refine Nat.lt_of_le_of_lt (Int.natAbs_add_le _ _) ?_
    rw [Int.natAbs_mul, Int.natAbs_mul, Int.natAbs_natCast, Int.natAbs_natCast]
    exact Nat.add_lt_add m1 m2
  · rw [e]; exact Nat.lt_of_lt_of_le m3 (Nat.le_add_right _ _)
theorem Sz.neg {i : Nat} {a : Rat} (h : Sz i a) : Sz i (-a) := ⟨by rw [Rat.neg_num, Int.natAbs_neg]; exact h.n, by rw [Rat.neg_den]; exact h.d⟩
theorem sz_zero {i : Nat} (h : 0 < i) : Sz i 0 := ⟨Nat.pow_pos (by decide), Nat.one_lt_two_pow (by omega)⟩
theorem sz_one {i : Nat} (h : 0 < i) : Sz i 1 := ⟨Nat.one_lt_two_pow (by omega), Nat.one_lt_two_pow (by omega)⟩
theorem den_natAbs (r : Rat) : (((r.den : Nat) : Int)).natAbs = r.den := Int.natAbs_natCast _
theorem bits_nd {i j : Nat} {a b : Rat} (h1 : Sz i a) (h2 : Sz j b) (h : i + j ≤ 9000) : bits2 a.num ((b.den : Nat) : Int) = true := bits2_of h1.n (by rw [den_natAbs]; exact h2.d) (by omega)
theorem bits_nn {i j : Nat} {a b : Rat} (h1 : Sz i a) (h2 : Sz j b) (h : i + j ≤ 9000) : bits2 a.num b.num = true := bits2_of h1.n h2.n (by omega)
theorem bits_dd {i j : Nat} {a b : Rat} (h1 : Sz i a) (h2 : Sz j b) (h : i + j ≤ 9000) : bits2 ((a.den : Nat) : Int) ((b.den : Nat) : Int) = true := bits2_of (by rw [den_natAbs]; exact h1.d) (by rw [den_natAbs]; exact h2.d) (by omega)
theorem r0 (a : Rat) : ixD (eRat.en a) (.int 0) = some (.int a.num) := rfl
theorem r1 (a : Rat) : ixD (eRat.en a) (.int 1) = some (.int ((a.den : Nat) : Int)) := rfl
theorem dd_lt {i j : Nat} {a b : Rat} (h1 : Sz i a) (h2 : Sz j b) (h : i + j ≤ 9000) : a.den * b.den < 2 ^ 9000 := Nat.lt_of_lt_of_le (mul_lt_pow h1.d h2.d) (Nat.pow_le_pow_right (by decide) h)
theorem dd_ne (a b : Rat) : a.den * b.den ≠ 0 := Nat.mul_ne_zero a.den_nz b.den_nz
theorem rat_en {r : Rat} {n : Int} {d : Nat} (h1 : r.num = n) (h2 : r.den = d) : eRat.en r = .tup [.int n, .int ((d : Nat) : Int)] := by subst h1; subst h2; rfl
theorem mkRat_one (n : Int) : (mkRat n 1).num = n ∧ (mkRat n 1).den = 1 := by
  rw [mkRat_num' n (by decide), mkRat_den' n (by decide), Nat.gcd_one_right]
  exact ⟨by simp, rfl⟩
theorem add_whole {a b : Rat} (ha : a.den = 1) (hb : b.den = 1) : eRat.en (a + b) = .tup [.int (a.num + b.num), .int 1] := by
  have e : a + b = mkRat (a.num + b.num) 1 := by rw [Rat.add_def', ha, hb]; simp
  rw [e]
  exact rat_en (mkRat_one _).1 (mkRat_one _).2
theorem mul_whole {a b : Rat} (ha : a.den = 1) (hb : b.den = 1) : eRat.en (a * b) = .tup [.int (a.num * b.num), .int 1] := by
  have e : a * b = mkRat (a.num * b.num) 1 := by rw [Rat.mul_def', ha, hb]
  rw [e]
  exact rat_en (mkRat_one _).1 (mkRat_one _).2
theorem plus_ok {i j : Nat} {a b : Rat} (h1 : Sz i a) (h2 : Sz j b) (h : i + j ≤ 9000) : m_plus [eRat.en a, eRat.en b] = .ok (eRat.en (a + b), .non) := by
  have e := lowest_ok (a.num * ((b.den : Nat) : Int) + b.num * ((a.den : Nat) : Int)) (dd_ne a b) (dd_lt h1 h2 h)
  rw [← Rat.add_def', Int.natCast_mul] at e
  have b1 := bits_nd h1 h2 h
  have b2 := bits_nd h2 h1 (by omega)
  have b3 := bits_dd h1 h2 h
  by_cases ha : a.den = 1
  · have ha' : ((a.den : Nat) : Int) = 1 := by omega
    by_cases hb : b.den = 1
    · have hb' : ((b.den : Nat) : Int) = 1 := by omega
      rw [add_whole ha hb]
      simp (disch := first | assumption | decide | omega) only [m_plus, b_plus, runF, m0, sSeq, sSet, sIf, sRet, sRetN, sExpr, sSkip_ok, sSetIx, sFor, sPar, sBind, sAug, eVar, eCon_ok, eOp2, eOp1, eCall, eCallM, eCallT, eTup, eLst, eArg, eIf, tVal, tNotF, tAndF, tOrF, eB, eAndF, eOrF, eNotF, eIxQ, eIxO, aHoleQ, aHole, aNil_ok, aCons, oNone_ok, oSome, eSlice, eSliceL, iSeq, iRange, iArg, ePeek, tPeek, eOwnM, tYes_ok, bind_ok, bind_exc, bind_stuck, of_some, flatD, SW.gName, List.getD_cons_zero, List.getD_cons_succ, List.set_cons_zero, List.set_cons_succ, List.map_cons, List.map_nil, List.length_cons, List.length_nil, List.cons_append, List.nil_append, List.replicate, Nat.reduceAdd, Nat.reduceSub, addD_int, subD_int, negD_int, repD_int, modD_int, fdivD_int, ltA_int, leA_int, gtA_int, geA_int, eqD_int, neD_int, pow_10_18, pow_10_60, r0, r1, decide_eq_true ha', decide_eq_true hb', if_true]
    · have hb' : ¬ ((b.den : Nat) : Int) = 1 := by omega
      simp (disch := first | assumption | decide | omega) only [m_plus, b_plus, runF, m0, sSeq, sSet, sIf, sRet, sRetN, sExpr, sSkip_ok, sSetIx, sFor, sPar, sBind, sAug, eVar, eCon_ok, eOp2, eOp1, eCall, eCallM, eCallT, eTup, eLst, eArg, eIf, tVal, tNotF, tAndF, tOrF, eB, eAndF, eOrF, eNotF, eIxQ, eIxO, aHoleQ, aHole, aNil_ok, aCons, oNone_ok, oSome, eSlice, eSliceL, iSeq, iRange, iArg, ePeek, tPeek, eOwnM, tYes_ok, bind_ok, bind_exc, bind_stuck, of_some, flatD, SW.gName, List.getD_cons_zero, List.getD_cons_succ, List.set_cons_zero, List.set_cons_succ, List.map_cons, List.map_nil, List.length_cons, List.length_nil, List.cons_append, List.nil_append, List.replicate, Nat.reduceAdd, Nat.reduceSub, addD_int, subD_int, negD_int, repD_int, modD_int, fdivD_int, ltA_int, leA_int, gtA_int, geA_int, eqD_int, neD_int, pow_10_18, pow_10_60, r0, r1, decide_eq_true ha', decide_eq_false hb', if_true, Bool.false_eq_true, if_false, e]
  · have ha' : ¬ ((a.den : Nat) : Int) = 1 := by omega
    simp (disch := first | assumption | decide | omega) only [m_plus, b_plus, runF, m0, sSeq, sSet, sIf, sRet, sRetN, sExpr, sSkip_ok, sSetIx, sFor, sPar, sBind, sAug, eVar, eCon_ok, eOp2, eOp1, eCall, eCallM, eCallT, eTup, eLst, eArg, eIf, tVal, tNotF, tAndF, tOrF, eB, eAndF, eOrF, eNotF, eIxQ, eIxO, aHoleQ, aHole, aNil_ok, aCons, oNone_ok, oSome, eSlice, eSliceL, iSeq, iRange, iArg, ePeek, tPeek, eOwnM, tYes_ok, bind_ok, bind_exc, bind_stuck, of_some, flatD, SW.gName, List.getD_cons_zero, List.getD_cons_succ, List.set_cons_zero, List.set_cons_succ, List.map_cons, List.map_nil, List.length_cons, List.length_nil, List.cons_append, List.nil_append, List.replicate, Nat.reduceAdd, Nat.reduceSub, addD_int, subD_int, negD_int, repD_int, modD_int, fdivD_int, ltA_int, leA_int, gtA_int, geA_int, eqD_int, neD_int, pow_10_18, pow_10_60, r0, r1, decide_eq_false ha', Bool.false_eq_true, if_false, e]
theorem times_ok {i j : Nat} {a b : Rat} (h1 : Sz i a) (h2 : Sz j b) (h : i + j ≤ 9000) : m_times [eRat.en a, eRat.en b] = .ok (eRat.en (a * b), .non) := by
  have e := lowest_ok (a.num * b.num) (dd_ne a b) (dd_lt h1 h2 h)
  rw [← Rat.mul_def', Int.natCast_mul] at e
  have b1 := bits_nn h1 h2 h
  have b3 := bits_dd h1 h2 h
  by_cases ha : a.den = 1
  · have ha' : ((a.den : Nat) : Int) = 1 := by omega
    by_cases hb : b.den = 1
    · have hb' : ((b.den : Nat) : Int) = 1 := by omega
      rw [mul_whole ha hb]
      simp (disch := first | assumption | decide | omega) only [m_times, b_times, runF, m0, sSeq, sSet, sIf, sRet, sRetN, sExpr, sSkip_ok, sSetIx, sFor, sPar, sBind, sAug, eVar, eCon_ok, eOp2, eOp1, eCall, eCallM, eCallT, eTup, eLst, eArg, eIf, tVal, tNotF, tAndF, tOrF, eB, eAndF, eOrF, eNotF, eIxQ, eIxO, aHoleQ, aHole, aNil_ok, aCons, oNone_ok, oSome, eSlice, eSliceL, iSeq, iRange, iArg, ePeek, tPeek, eOwnM, tYes_ok, bind_ok, bind_exc, bind_stuck, of_some, flatD, SW.gName, List.getD_cons_zero, List.getD_cons_succ, List.set_cons_zero, List.set_cons_succ, List.map_cons, List.map_nil, List.length_cons, List.length_nil, List.cons_append, List.nil_append, List.replicate, Nat.reduceAdd, Nat.reduceSub, addD_int, subD_int, negD_int, repD_int, modD_int, fdivD_int, ltA_int, leA_int, gtA_int, geA_int, eqD_int, neD_int, pow_10_18, pow_10_60, r0, r1, decide_eq_true ha', decide_eq_true hb', if_true]
    · have hb' : ¬ ((b.den : Nat) : Int) = 1 := by omega
      simp (disch := first | assumption | decide | omega) only [m_times, b_times, runF, m0, sSeq, sSet, sIf, sRet, sRetN, sExpr, sSkip_ok, sSetIx, sFor, sPar, sBind, sAug, eVar, eCon_ok, eOp2, eOp1, eCall, eCallM, eCallT, eTup, eLst, eArg, eIf, tVal, tNotF, tAndF, tOrF, eB, eAndF, eOrF, eNotF, eIxQ, eIxO, aHoleQ, aHole, aNil_ok, aCons, oNone_ok, oSome, eSlice, eSliceL, iSeq, iRange, iArg, ePeek, tPeek, eOwnM, tYes_ok, bind_ok, bind_exc, bind_stuck, of_some, flatD, SW.gName, List.getD_cons_zero, List.getD_cons_succ, List.set_cons_zero, List.set_cons_succ, List.map_cons, List.map_nil, List.length_cons, List.length_nil, List.cons_append, List.nil_append, List.replicate, Nat.reduceAdd, Nat.reduceSub, addD_int, subD_int, negD_int, repD_int, modD_int, fdivD_int, ltA_int, leA_int, gtA_int, geA_int, eqD_int, neD_int, pow_10_18, pow_10_60, r0, r1, decide_eq_true ha', decide_eq_false hb', if_true, Bool.false_eq_true, if_false, e]
  · have ha' : ¬ ((a.den : Nat) : Int) = 1 := by omega
    simp (disch := first | assumption | decide | omega) only [m_times, b_times, runF, m0, sSeq, sSet, sIf, sRet, sRetN, sExpr, sSkip_ok, sSetIx, sFor, sPar, sBind, sAug, eVar, eCon_ok, eOp2, eOp1, eCall, eCallM, eCallT, eTup, eLst, eArg, eIf, tVal, tNotF, tAndF, tOrF, eB, eAndF, eOrF, eNotF, eIxQ, eIxO, aHoleQ, aHole, aNil_ok, aCons, oNone_ok, oSome, eSlice, eSliceL, iSeq, iRange, iArg, ePeek, tPeek, eOwnM, tYes_ok, bind_ok, bind_exc, bind_stuck, of_some, flatD, SW.gName, List.getD_cons_zero, List.getD_cons_succ, List.set_cons_zero, List.set_cons_succ, List.map_cons, List.map_nil, List.length_cons, List.length_nil, List.cons_append, List.nil_append, List.replicate, Nat.reduceAdd, Nat.reduceSub, addD_int, subD_int, negD_int, repD_int, modD_int, fdivD_int, ltA_int, leA_int, gtA_int, geA_int, eqD_int, neD_int, pow_10_18, pow_10_60, r0, r1, decide_eq_false ha', Bool.false_eq_true, if_false, e]

/-! fractions of the law; what is a number -/
theorem is_whole_ok (i : Int) : m_is_whole [.int i] = .ok (.bl true, .non) := rfl
theorem law_is_whole_ok (i : Int) : m__law_is_whole [.int i] = .ok (.bl true, .non) := rfl
theorem gcd_loop2 : ∀ (n a b : Nat) (x y : Option D), b < n → whileL (tVal (eOp2 neD (eVar 3) (eCon (.int 0)))) (sPar 2 3 (aCons (eVar 3) (aCons (eOp2 modD (eVar 2) (eVar 3)) aNil))) n [x, y, some (.int ((a : Nat) : Int)), some (.int ((b : Nat) : Int))] = .ok (.nx [x, y, some (.int ((Nat.gcd a b : Nat) : Int)), some (.int 0)])
  | 0, a, b, x, y, h => by omega
  | n + 1, a, b, x, y, h => by
    by_cases hb : b = 0
    · subst hb
      unfold whileL
      have d0 : ((0 : Nat) : Int) = 0 := rfl
      simp (disch := first | assumption | decide | omega) only [runF, m0, sSeq, sSet, sIf, sRet, sRetN, sExpr, sSkip_ok, sSetIx, sFor, sPar, sBind, sAug, eVar, eCon_ok, eOp2, eOp1, eCall, eCallM, eCallT, eTup, eLst, eArg, eIf, tVal, tNotF, tAndF, tOrF, eB, eAndF, eOrF, eNotF, eIxQ, eIxO, aHoleQ, aHole, aNil_ok, aCons, oNone_ok, oSome, eSlice, eSliceL, iSeq, iRange, iArg, ePeek, tPeek, eOwnM, tYes_ok, bind_ok, bind_exc, bind_stuck, of_some, flatD, SW.gName, List.getD_cons_zero, List.getD_cons_succ, List.set_cons_zero, List.set_cons_succ, List.map_cons, List.map_nil, List.length_cons, List.length_nil, List.cons_append, List.nil_append, List.replicate, Nat.reduceAdd, Nat.reduceSub, addD_int, subD_int, negD_int, repD_int, modD_int, fdivD_int, ltA_int, leA_int, gtA_int, geA_int, eqD_int, neD_int, pow_10_18, pow_10_60, decide_eq_true d0, Bool.not_true, Bool.false_eq_true, if_false, Nat.gcd_zero_right]
      rfl
    · have d0 : ¬ ((b : Nat) : Int) = 0 := by omega
      have dp : (0 : Int) < ((b : Nat) : Int) := by omega
      have hm : a % b < b := Nat.mod_lt _ (by omega)
      have ih := gcd_loop2 n b (a % b) x y (by omega)
      have eg : Nat.gcd b (a % b) = Nat.gcd a b := by rw [Nat.gcd_comm a b, Nat.gcd_rec b a, Nat.gcd_comm]
      have em : ((a : Nat) : Int) % ((b : Nat) : Int) = ((a % b : Nat) : Int) := (Int.natCast_emod a b).symm
      rw [eg] at ih
      unfold whileL
      simp (disch := first | assumption | decide | omega) only [tVal, eOp2, eVar, eCon_ok, bind_ok, of_some, neD_int, List.getD_cons_zero, List.getD_cons_succ, decide_eq_false d0, Bool.not_false, if_true, sPar, aCons, aNil_ok, modD_int dp, em, List.set_cons_zero, List.set_cons_succ]
      exact ih
theorem law_low_ok (t : Int) {d : Nat} (hd : d ≠ 0) (hs : d < 2 ^ 9000) : m__law_low [.int t, .int ((d : Nat) : Int)] = .ok (eRat.en (mkRat t d), .non) := by
  have e := gcd_loop2 (d + 1) t.natAbs d (some (.int t)) (some (.int ((d : Nat) : Int))) (by omega)
  have ef : fuelInt 3 [some (.int t), some (.int ((d : Nat) : Int)), some (.int ((t.natAbs : Nat) : Int)), some (.int ((d : Nat) : Int))] = d + 1 := by
    show ((d : Nat) : Int).natAbs + 1 = _
    rw [Int.natAbs_natCast]
  have g0 : 0 < Nat.gcd t.natAbs d := Nat.gcd_pos_of_pos_right _ (by omega)
  have gl : Nat.gcd t.natAbs d ≤ d := Nat.le_of_dvd (by omega) (Nat.gcd_dvd_right _ _)
  have g1 : (0 : Int) < ((Nat.gcd t.natAbs d : Nat) : Int) := by omega
  have g2 : ((Nat.gcd t.natAbs d : Nat) : Int) < 2 ^ 9000 := by
    rw [← two_pow_cast]
    exact Int.ofNat_lt.mpr (Nat.lt_of_le_of_lt gl hs)
  have f1 := fdivD_int (i := t) g1 g2
  have f2 := fdivD_int (i := ((d : Nat) : Int)) g1 g2
  have e2 : ((d : Nat) : Int) / ((Nat.gcd t.natAbs d : Nat) : Int) = ((d / Nat.gcd t.natAbs d : Nat) : Int) := (Int.natCast_ediv _ _).symm
  rw [e2] at f2
  show _ = Out.ok (D.tup [.int (mkRat t d).num, .int (((mkRat t d).den : Nat) : Int)], _)
  rw [mkRat_num' t hd, mkRat_den' t hd]
  simp (disch := first | assumption | decide | omega) only [m__law_low, b__law_low, runF, m0, sSeq, sSet, sIf, sRet, sRetN, sExpr, sSkip_ok, sSetIx, sFor, sPar, sBind, sAug, eVar, eCon_ok, eOp2, eOp1, eCall, eCallM, eCallT, eTup, eLst, eArg, eIf, tVal, tNotF, tAndF, tOrF, eB, eAndF, eOrF, eNotF, eIxQ, eIxO, aHoleQ, aHole, aNil_ok, aCons, oNone_ok, oSome, eSlice, eSliceL, iSeq, iRange, iArg, ePeek, tPeek, eOwnM, tYes_ok, bind_ok, bind_exc, bind_stuck, of_some, flatD, SW.gName, List.getD_cons_zero, List.getD_cons_succ, List.set_cons_zero, List.set_cons_succ, List.map_cons, List.map_nil, List.length_cons, List.length_nil, List.cons_append, List.nil_append, List.replicate, Nat.reduceAdd, Nat.reduceSub, addD_int, subD_int, negD_int, repD_int, modD_int, fdivD_int, ltA_int, leA_int, gtA_int, geA_int, eqD_int, neD_int, pow_10_18, pow_10_60, absD_int, sWhile, ef]
  rw [e]
  simp (disch := first | assumption | decide | omega) only [runF, m0, sSeq, sSet, sIf, sRet, sRetN, sExpr, sSkip_ok, sSetIx, sFor, sPar, sBind, sAug, eVar, eCon_ok, eOp2, eOp1, eCall, eCallM, eCallT, eTup, eLst, eArg, eIf, tVal, tNotF, tAndF, tOrF, eB, eAndF, eOrF, eNotF, eIxQ, eIxO, aHoleQ, aHole, aNil_ok, aCons, oNone_ok, oSome, eSlice, eSliceL, iSeq, iRange, iArg, ePeek, tPeek, eOwnM, tYes_ok, bind_ok, bind_exc, bind_stuck, of_some, flatD, SW.gName, List.getD_cons_zero, List.getD_cons_succ, List.set_cons_zero, List.set_cons_succ, List.map_cons, List.map_nil, List.length_cons, List.length_nil, List.cons_append, List.nil_append, List.replicate, Nat.reduceAdd, Nat.reduceSub, addD_int, subD_int, negD_int, repD_int, modD_int, fdivD_int, ltA_int, leA_int, gtA_int, geA_int, eqD_int, neD_int, pow_10_18, pow_10_60, f1, f2]
theorem law_plus_ok {i j : Nat} {a b : Rat} (h1 : Sz i a) (h2 : Sz j b) (h : i + j ≤ 9000) : m__law_plus [eRat.en a, eRat.en b] = .ok (eRat.en (a + b), .non) := by
  have e := law_low_ok (a.num * ((b.den : Nat) : Int) + b.num * ((a.den : Nat) : Int)) (dd_ne a b) (dd_lt h1 h2 h)
  rw [← Rat.add_def', Int.natCast_mul] at e
  have b1 := bits_nd h1 h2 h
  have b2 := bits_nd h2 h1 (by omega)
  have b3 := bits_dd h1 h2 h
  simp (disch := first | assumption | decide | omega) only [m__law_plus, b__law_plus, runF, m0, sSeq, sSet, sIf, sRet, sRetN, sExpr, sSkip_ok, sSetIx, sFor, sPar, sBind, sAug, eVar, eCon_ok, eOp2, eOp1, eCall, eCallM, eCallT, eTup, eLst, eArg, eIf, tVal, tNotF, tAndF, tOrF, eB, eAndF, eOrF, eNotF, eIxQ, eIxO, aHoleQ, aHole, aNil_ok, aCons, oNone_ok, oSome, eSlice, eSliceL, iSeq, iRange, iArg, ePeek, tPeek, eOwnM, tYes_ok, bind_ok, bind_exc, bind_stuck, of_some, flatD, SW.gName, List.getD_cons_zero, List.getD_cons_succ, List.set_cons_zero, List.set_cons_succ, List.map_cons, List.map_nil, List.length_cons, List.length_nil, List.cons_append, List.nil_append, List.replicate, Nat.reduceAdd, Nat.reduceSub, addD_int, subD_int, negD_int, repD_int, modD_int, fdivD_int, ltA_int, leA_int, gtA_int, geA_int, eqD_int, neD_int, pow_10_18, pow_10_60, r0, r1, e]
theorem law_by_ok {i j : Nat} {a b : Rat} (h1 : Sz i a) (h2 : Sz j b) (h : i + j ≤ 9000) : m__law_by [eRat.en a, eRat.en b] = .ok (eRat.en (a * b), .non) := by
  have e := law_low_ok (a.num * b.num) (dd_ne a b) (dd_lt h1 h2 h)
  rw [← Rat.mul_def', Int.natCast_mul] at e
  have b1 := bits_nn h1 h2 h
  have b3 := bits_dd h1 h2 h
  simp (disch := first | assumption | decide | omega) only [m__law_by, b__law_by, runF, m0, sSeq, sSet, sIf, sRet, sRetN, sExpr, sSkip_ok, sSetIx, sFor, sPar, sBind, sAug, eVar, eCon_ok, eOp2, eOp1, eCall, eCallM, eCallT, eTup, eLst, eArg, eIf, tVal, tNotF, tAndF, tOrF, eB, eAndF, eOrF, eNotF, eIxQ, eIxO, aHoleQ, aHole, aNil_ok, aCons, oNone_ok, oSome, eSlice, eSliceL, iSeq, iRange, iArg, ePeek, tPeek, eOwnM, tYes_ok, bind_ok, bind_exc, bind_stuck, of_some, flatD, SW.gName, List.getD_cons_zero, List.getD_cons_succ, List.set_cons_zero, List.set_cons_succ, List.map_cons, List.map_nil, List.length_cons, List.length_nil, List.cons_append, List.nil_append, List.replicate, Nat.reduceAdd, Nat.reduceSub, addD_int, subD_int, negD_int, repD_int, modD_int, fdivD_int, ltA_int, leA_int, gtA_int, geA_int, eqD_int, neD_int, pow_10_18, pow_10_60, r0, r1, e]
theorem isi_rat (r : Rat) : isiD [eRat.en r, .ty .tuple] = some (.bl true) := rfl
theorem len_rat (r : Rat) : lenD [eRat.en r] = some (.int 2) := rfl
theorem is_number_ok (r : Rat) : m_is_number [eRat.en r] = .ok (.bl true, .non) := by
  have e := divisor_ok r.num ((r.den : Nat) : Int)
  rw [Int.natAbs_natCast, r.reduced] at e
  have c1 : ((1 : Nat) : Int) = 1 := rfl
  have d1 : (1 : Int) ≤ ((r.den : Nat) : Int) := by have := den_pos' r; omega
  have d2 : (2 : Int) = 2 := rfl
  simp (disch := first | assumption | decide | omega) only [m_is_number, b_is_number, runF, m0, sSeq, sSet, sIf, sRet, sRetN, sExpr, sSkip_ok, sSetIx, sFor, sPar, sBind, sAug, eVar, eCon_ok, eOp2, eOp1, eCall, eCallM, eCallT, eTup, eLst, eArg, eIf, tVal, tNotF, tAndF, tOrF, eB, eAndF, eOrF, eNotF, eIxQ, eIxO, aHoleQ, aHole, aNil_ok, aCons, oNone_ok, oSome, eSlice, eSliceL, iSeq, iRange, iArg, ePeek, tPeek, eOwnM, tYes_ok, bind_ok, bind_exc, bind_stuck, of_some, flatD, SW.gName, List.getD_cons_zero, List.getD_cons_succ, List.set_cons_zero, List.set_cons_succ, List.map_cons, List.map_nil, List.length_cons, List.length_nil, List.cons_append, List.nil_append, List.replicate, Nat.reduceAdd, Nat.reduceSub, addD_int, subD_int, negD_int, repD_int, modD_int, fdivD_int, ltA_int, leA_int, gtA_int, geA_int, eqD_int, neD_int, pow_10_18, pow_10_60, isi_rat, len_rat, decide_eq_true d2, decide_true, Bool.not_true, Bool.false_eq_true, if_false, r0, r1, is_whole_ok, decide_eq_true d1, e, decide_eq_true c1]
theorem eqD_rat (a b : Rat) : eqD (eRat.en a) (eRat.en b) = some (.bl (decide (a = b))) := eqD_enc eRat (by decide) a b
theorem neD_rat (a b : Rat) : neD (eRat.en a) (eRat.en b) = some (.bl (!decide (a = b))) := neD_enc eRat (by decide) a b
theorem law_is_number_ok {k : Nat} {r : Rat} (h : Sz k r) (hk : k ≤ 9000) : m__law_is_number [eRat.en r] = .ok (.bl true, .non) := by
  have e := law_low_ok r.num r.den_nz (Nat.lt_of_lt_of_le h.d (Nat.pow_le_pow_right (by decide) hk))
  rw [Rat.mkRat_self] at e
  have d1 : (1 : Int) ≤ ((r.den : Nat) : Int) := by have := den_pos' r; omega
  have d2 : (2 : Int) = 2 := rfl
  have q := eqD_rat r r
  rw [decide_eq_true rfl] at q
  simp (disch := first | assumption | decide | omega) only [m__law_is_number, b__law_is_number, runF, m0, sSeq, sSet, sIf, sRet, sRetN, sExpr, sSkip_ok, sSetIx, sFor, sPar, sBind, sAug, eVar, eCon_ok, eOp2, eOp1, eCall, eCallM, eCallT, eTup, eLst, eArg, eIf, tVal, tNotF, tAndF, tOrF, eB, eAndF, eOrF, eNotF, eIxQ, eIxO, aHoleQ, aHole, aNil_ok, aCons, oNone_ok, oSome, eSlice, eSliceL, iSeq, iRange, iArg, ePeek, tPeek, eOwnM, tYes_ok, bind_ok, bind_exc, bind_stuck, of_some, flatD, SW.gName, List.getD_cons_zero, List.getD_cons_succ, List.set_cons_zero, List.set_cons_succ, List.map_cons, List.map_nil, List.length_cons, List.length_nil, List.cons_append, List.nil_append, List.replicate, Nat.reduceAdd, Nat.reduceSub, addD_int, subD_int, negD_int, repD_int, modD_int, fdivD_int, ltA_int, leA_int, gtA_int, geA_int, eqD_int, neD_int, pow_10_18, pow_10_60, isi_rat, len_rat, decide_eq_true d2, decide_true, Bool.not_true, Bool.false_eq_true, if_false, r0, r1, law_is_whole_ok, decide_eq_true d1, e, q]
/-! rows -/
def Szs (k : Nat) (r : List Rat) : Prop := ∀ x ∈ r, Sz k x
def Szq (k : Nat) (q : List (List Rat)) : Prop := ∀ r ∈ q, Szs k r
theorem Szs.mono {k m : Nat} {r : List Rat} (h : Szs k r) (hm : k ≤ m) : Szs m r := fun x hx => (h x hx).mono hm
theorem isi_l (l : List D) : isiD [.lst l, .ty .list] = some (.bl true) := rfl
theorem lenD_l {α : Type} (f : α → D) (a : List α) : lenD [.lst (a.map f)] = some (.int a.length) := by
  show some (D.int ((a.map f).length : Nat)) = _
  rw [List.length_map]
theorem itemsOf_l (a : List D) : itemsOf (.lst a) = some a := rfl
theorem is_row_ok (r : List Rat) {n : Nat} (hn : r.length = n) : m_is_row [.lst (r.map eRat.en), .int n] = .ok (.bl true, .non) := by
  obtain ⟨ρ', e, y, rfl⟩ := forL_fold (b := gName 2) (g := (sIf (tNotF (tVal (eCall m_is_number (aCons (eVar 2) aNil)))) (sRet (eCon (.bl false))) sSkip)) (f := eRat.en) (σ := Unit) (step := fun s _ => s) (St := fun _ ρ => ∃ y, ρ = [some (.lst (r.map eRat.en)), some (.int n), y]) r () [some (.lst (r.map eRat.en)), some (.int n), none] ⟨_, rfl⟩ (by
    rintro x hx _ ρ ⟨y, rfl⟩
    refine ⟨_, [some (.lst (r.map eRat.en)), some (.int n), some (eRat.en x)], rfl, ?_, _, rfl⟩
    simp (disch := first | assumption | decide | omega) only [runF, m0, sSeq, sSet, sIf, sRet, sRetN, sExpr, sSkip_ok, sSetIx, sFor, sPar, sBind, sAug, eVar, eCon_ok, eOp2, eOp1, eCall, eCallM, eCallT, eTup, eLst, eArg, eIf, tVal, tNotF, tAndF, tOrF, eB, eAndF, eOrF, eNotF, eIxQ, eIxO, aHoleQ, aHole, aNil_ok, aCons, oNone_ok, oSome, eSlice, eSliceL, iSeq, iRange, iArg, ePeek, tPeek, eOwnM, tYes_ok, bind_ok, bind_exc, bind_stuck, of_some, flatD, SW.gName, List.getD_cons_zero, List.getD_cons_succ, List.set_cons_zero, List.set_cons_succ, List.map_cons, List.map_nil, List.length_cons, List.length_nil, List.cons_append, List.nil_append, List.replicate, Nat.reduceAdd, Nat.reduceSub, addD_int, subD_int, negD_int, repD_int, modD_int, fdivD_int, ltA_int, leA_int, gtA_int, geA_int, eqD_int, neD_int, pow_10_18, pow_10_60, is_number_ok, Bool.not_true, Bool.false_eq_true, if_false])
  have d1 : ((r.length : Nat) : Int) = ((n : Nat) : Int) := by omega
  simp (disch := first | assumption | decide | omega) only [m_is_row, b_is_row, runF, m0, sSeq, sSet, sIf, sRet, sRetN, sExpr, sSkip_ok, sSetIx, sFor, sPar, sBind, sAug, eVar, eCon_ok, eOp2, eOp1, eCall, eCallM, eCallT, eTup, eLst, eArg, eIf, tVal, tNotF, tAndF, tOrF, eB, eAndF, eOrF, eNotF, eIxQ, eIxO, aHoleQ, aHole, aNil_ok, aCons, oNone_ok, oSome, eSlice, eSliceL, iSeq, iRange, iArg, ePeek, tPeek, eOwnM, tYes_ok, bind_ok, bind_exc, bind_stuck, of_some, flatD, SW.gName, List.getD_cons_zero, List.getD_cons_succ, List.set_cons_zero, List.set_cons_succ, List.map_cons, List.map_nil, List.length_cons, List.length_nil, List.cons_append, List.nil_append, List.replicate, Nat.reduceAdd, Nat.reduceSub, addD_int, subD_int, negD_int, repD_int, modD_int, fdivD_int, ltA_int, leA_int, gtA_int, geA_int, eqD_int, neD_int, pow_10_18, pow_10_60, isi_l, lenD_l, decide_eq_true d1, Bool.not_true, Bool.false_eq_true, if_false, itemsOf_l, e]
theorem is_square_ok (q : List (List Rat)) {n : Nat} (hq : q.length = n) (hn : ∀ r ∈ q, r.length = n) : m_is_square [.lst (q.map eRow.en), .int n] = .ok (.bl true, .non) := by
  obtain ⟨ρ', e, y, rfl⟩ := forL_fold (b := gName 2) (g := (sIf (tNotF (tVal (eCall m_is_row (aCons (eVar 2) (aCons (eVar 1) aNil))))) (sRet (eCon (.bl false))) sSkip)) (f := eRow.en) (σ := Unit) (step := fun s _ => s) (St := fun _ ρ => ∃ y, ρ = [some (.lst (q.map eRow.en)), some (.int n), y]) q () [some (.lst (q.map eRow.en)), some (.int n), none] ⟨_, rfl⟩ (by
    rintro x hx _ ρ ⟨y, rfl⟩
    refine ⟨_, [some (.lst (q.map eRow.en)), some (.int n), some (eRow.en x)], rfl, ?_, _, rfl⟩
    have er := is_row_ok x (hn x hx)
    change m_is_row [eRow.en x, _] = _ at er
    simp (disch := first | assumption | decide | omega) only [runF, m0, sSeq, sSet, sIf, sRet, sRetN, sExpr, sSkip_ok, sSetIx, sFor, sPar, sBind, sAug, eVar, eCon_ok, eOp2, eOp1, eCall, eCallM, eCallT, eTup, eLst, eArg, eIf, tVal, tNotF, tAndF, tOrF, eB, eAndF, eOrF, eNotF, eIxQ, eIxO, aHoleQ, aHole, aNil_ok, aCons, oNone_ok, oSome, eSlice, eSliceL, iSeq, iRange, iArg, ePeek, tPeek, eOwnM, tYes_ok, bind_ok, bind_exc, bind_stuck, of_some, flatD, SW.gName, List.getD_cons_zero, List.getD_cons_succ, List.set_cons_zero, List.set_cons_succ, List.map_cons, List.map_nil, List.length_cons, List.length_nil, List.cons_append, List.nil_append, List.replicate, Nat.reduceAdd, Nat.reduceSub, addD_int, subD_int, negD_int, repD_int, modD_int, fdivD_int, ltA_int, leA_int, gtA_int, geA_int, eqD_int, neD_int, pow_10_18, pow_10_60, er, Bool.not_true, Bool.false_eq_true, if_false])
  have d1 : ((q.length : Nat) : Int) = ((n : Nat) : Int) := by omega
  simp (disch := first | assumption | decide | omega) only [m_is_square, b_is_square, runF, m0, sSeq, sSet, sIf, sRet, sRetN, sExpr, sSkip_ok, sSetIx, sFor, sPar, sBind, sAug, eVar, eCon_ok, eOp2, eOp1, eCall, eCallM, eCallT, eTup, eLst, eArg, eIf, tVal, tNotF, tAndF, tOrF, eB, eAndF, eOrF, eNotF, eIxQ, eIxO, aHoleQ, aHole, aNil_ok, aCons, oNone_ok, oSome, eSlice, eSliceL, iSeq, iRange, iArg, ePeek, tPeek, eOwnM, tYes_ok, bind_ok, bind_exc, bind_stuck, of_some, flatD, SW.gName, List.getD_cons_zero, List.getD_cons_succ, List.set_cons_zero, List.set_cons_succ, List.map_cons, List.map_nil, List.length_cons, List.length_nil, List.cons_append, List.nil_append, List.replicate, Nat.reduceAdd, Nat.reduceSub, addD_int, subD_int, negD_int, repD_int, modD_int, fdivD_int, ltA_int, leA_int, gtA_int, geA_int, eqD_int, neD_int, pow_10_18, pow_10_60, isi_l, lenD_l, decide_eq_true d1, Bool.not_true, Bool.false_eq_true, if_false, itemsOf_l, e]
theorem zipD_map {α β : Type} (f : α → D) (g : β → D) : ∀ (a : List α) (b : List β), zipD (a.map f) (b.map g) = (a.zip b).map fun p => .tup [f p.1, g p.2]
  | [], _ => by simp [zipD]
  | _ :: _, [] => by simp [zipD]
  | x :: a, y :: b => by
    rw [List.map_cons, List.map_cons, List.zip_cons_cons, List.map_cons, ← zipD_map f g a b]
    rfl
/-- the sum of products -/
def dotT (a b : List Rat) : Rat := (a.zip b).foldl (fun t p => t + p.1 * p.2) 0
theorem zipDot_sz {i j : Nat} : ∀ (l : List (Rat × Rat)) (t : Rat) (m : Nat), (∀ p ∈ l, Sz i p.1 ∧ Sz j p.2) → Sz m t → Sz (m + l.length * (i + j + 1)) (l.foldl (fun t p => t + p.1 * p.2) t)
  | [], t, m, _, ht => by simpa using ht
  | p :: l, t, m, h, ht => by
    rw [List.foldl_cons, List.length_cons]
    have hp := h p List.mem_cons_self
    have := zipDot_sz l (t + p.1 * p.2) (m + (i + j) + 1) (fun q hq => h q (List.mem_cons_of_mem _ hq)) (ht.add (hp.1.mul hp.2))
    refine this.mono ?_
    rw [Nat.succ_mul]
    omega
theorem zip_sz {i j : Nat} {a b : List Rat} (h1 : Szs i a) (h2 : Szs j b) : ∀ p ∈ a.zip b, Sz i p.1 ∧ Sz j p.2 := fun p hp => ⟨h1 _ (List.of_mem_zip hp).1, h2 _ (List.of_mem_zip hp).2⟩
theorem dot_sz {i j n : Nat} {a b : List Rat} (h1 : Szs i a) (h2 : Szs j b) (hn : a.length ≤ n) : Sz (1 + n * (i + j + 1)) (dotT a b) := by
  have := zipDot_sz (a.zip b) 0 1 (zip_sz h1 h2) (sz_zero (by omega))
  refine this.mono ?_
  have hl : (a.zip b).length ≤ n := by rw [List.length_zip]; omega
  have := Nat.mul_le_mul_right (i + j + 1) hl
  omega
theorem num_zero {a : Rat} (h : a.num = 0) : a = 0 := Rat.num_eq_zero.mp h
theorem paired_ok {i j : Nat} {a b : List Rat} (h1 : Szs i a) (h2 : Szs j b) (hs : 1 + (a.length + 1) * (i + j + 1) ≤ 9000) : m_paired [.lst (a.map eRat.en), .lst (b.map eRat.en)] = .ok (eRat.en (dotT a b), .non) := by
  have hl : (a.zip b).length ≤ a.length := by rw [List.length_zip]; omega
  have key := forL_foldr (b := (gTup 2 (gCons (gName 3) (gCons (gName 4) gNil)))) (g := (sIf (tAndF (tVal (eOp2 neD (eOp2 ixD (eVar 3) (eCon (.int 0))) (eCon (.int 0)))) (tVal (eOp2 neD (eOp2 ixD (eVar 4) (eCon (.int 0))) (eCon (.int 0))))) (sSet 2 (eCall m_plus (aCons (eVar 2) (aCons (eCall m_times (aCons (eVar 3) (aCons (eVar 4) aNil))) aNil)))) sSkip)) (f := fun p : Rat × Rat => D.tup [eRat.en p.1, eRat.en p.2]) (step := fun t p => t + p.1 * p.2) (St := fun l t ρ => (∀ p ∈ l, Sz i p.1 ∧ Sz j p.2) ∧ (∃ m, m + l.length * (i + j + 1) ≤ 1 + a.length * (i + j + 1) ∧ Sz m t) ∧ ∃ y3 y4, ρ = [some (.lst (a.map eRat.en)), some (.lst (b.map eRat.en)), some (eRat.en t), y3, y4])
    (a.zip b) 0 [some (.lst (a.map eRat.en)), some (.lst (b.map eRat.en)), some (eRat.en 0), none, none] ⟨zip_sz h1 h2, ⟨1, by have := Nat.mul_le_mul_right (i + j + 1) hl; omega, sz_zero (by omega)⟩, _, _, rfl⟩ (by
    rintro p l t ρ ⟨hp, ⟨m, hm, ht⟩, y3, y4, rfl⟩
    obtain ⟨s1, s2⟩ := hp p List.mem_cons_self
    rw [List.length_cons, Nat.succ_mul] at hm
    rw [Nat.succ_mul] at hs
    have hmul := s1.mul s2
    refine ⟨[some (.lst (a.map eRat.en)), some (.lst (b.map eRat.en)), some (eRat.en t), some (eRat.en p.1), some (eRat.en p.2)], [some (.lst (a.map eRat.en)), some (.lst (b.map eRat.en)), some (eRat.en (t + p.1 * p.2)), some (eRat.en p.1), some (eRat.en p.2)], rfl, ?_, fun q hq => hp q (List.mem_cons_of_mem _ hq), ⟨m + (i + j) + 1, by omega, ht.add hmul⟩, _, _, rfl⟩
    have e1 := times_ok s1 s2 (by omega)
    have e2 := plus_ok ht hmul (by omega)
    by_cases ha : p.1.num = 0
    · have z : t + p.1 * p.2 = t := by rw [num_zero ha, Rat.zero_mul, Rat.add_zero]
      rw [z]
      simp (disch := first | assumption | decide | omega) only [runF, m0, sSeq, sSet, sIf, sRet, sRetN, sExpr, sSkip_ok, sSetIx, sFor, sPar, sBind, sAug, eVar, eCon_ok, eOp2, eOp1, eCall, eCallM, eCallT, eTup, eLst, eArg, eIf, tVal, tNotF, tAndF, tOrF, eB, eAndF, eOrF, eNotF, eIxQ, eIxO, aHoleQ, aHole, aNil_ok, aCons, oNone_ok, oSome, eSlice, eSliceL, iSeq, iRange, iArg, ePeek, tPeek, eOwnM, tYes_ok, bind_ok, bind_exc, bind_stuck, of_some, flatD, SW.gName, List.getD_cons_zero, List.getD_cons_succ, List.set_cons_zero, List.set_cons_succ, List.map_cons, List.map_nil, List.length_cons, List.length_nil, List.cons_append, List.nil_append, List.replicate, Nat.reduceAdd, Nat.reduceSub, addD_int, subD_int, negD_int, repD_int, modD_int, fdivD_int, ltA_int, leA_int, gtA_int, geA_int, eqD_int, neD_int, pow_10_18, pow_10_60, r0, decide_eq_true ha, Bool.not_true, Bool.false_eq_true, if_false]
    · by_cases hb : p.2.num = 0
      · have z : t + p.1 * p.2 = t := by rw [num_zero hb, Rat.mul_zero, Rat.add_zero]
        rw [z]
        simp (disch := first | assumption | decide | omega) only [runF, m0, sSeq, sSet, sIf, sRet, sRetN, sExpr, sSkip_ok, sSetIx, sFor, sPar, sBind, sAug, eVar, eCon_ok, eOp2, eOp1, eCall, eCallM, eCallT, eTup, eLst, eArg, eIf, tVal, tNotF, tAndF, tOrF, eB, eAndF, eOrF, eNotF, eIxQ, eIxO, aHoleQ, aHole, aNil_ok, aCons, oNone_ok, oSome, eSlice, eSliceL, iSeq, iRange, iArg, ePeek, tPeek, eOwnM, tYes_ok, bind_ok, bind_exc, bind_stuck, of_some, flatD, SW.gName, List.getD_cons_zero, List.getD_cons_succ, List.set_cons_zero, List.set_cons_succ, List.map_cons, List.map_nil, List.length_cons, List.length_nil, List.cons_append, List.nil_append, List.replicate, Nat.reduceAdd, Nat.reduceSub, addD_int, subD_int, negD_int, repD_int, modD_int, fdivD_int, ltA_int, leA_int, gtA_int, geA_int, eqD_int, neD_int, pow_10_18, pow_10_60, r0, decide_eq_false ha, decide_eq_true hb, Bool.not_true, Bool.not_false, Bool.false_eq_true, if_false, if_true]
      · simp (disch := first | assumption | decide | omega) only [runF, m0, sSeq, sSet, sIf, sRet, sRetN, sExpr, sSkip_ok, sSetIx, sFor, sPar, sBind, sAug, eVar, eCon_ok, eOp2, eOp1, eCall, eCallM, eCallT, eTup, eLst, eArg, eIf, tVal, tNotF, tAndF, tOrF, eB, eAndF, eOrF, eNotF, eIxQ, eIxO, aHoleQ, aHole, aNil_ok, aCons, oNone_ok, oSome, eSlice, eSliceL, iSeq, iRange, iArg, ePeek, tPeek, eOwnM, tYes_ok, bind_ok, bind_exc, bind_stuck, of_some, flatD, SW.gName, List.getD_cons_zero, List.getD_cons_succ, List.set_cons_zero, List.set_cons_succ, List.map_cons, List.map_nil, List.length_cons, List.length_nil, List.cons_append, List.nil_append, List.replicate, Nat.reduceAdd, Nat.reduceSub, addD_int, subD_int, negD_int, repD_int, modD_int, fdivD_int, ltA_int, leA_int, gtA_int, geA_int, eqD_int, neD_int, pow_10_18, pow_10_60, r0, decide_eq_false ha, decide_eq_false hb, Bool.not_false, if_true, e1, e2])
  obtain ⟨ρ', e, -, -, y3, y4, rfl⟩ := key
  rw [← zipD_map] at e
  have hz : iZip2 [.lst (a.map eRat.en), .lst (b.map eRat.en)] = some (zipD (a.map eRat.en) (b.map eRat.en)) := rfl
  have ek : k_NOUGHT = eRat.en 0 := rfl
  simp (disch := first | assumption | decide | omega) only [m_paired, b_paired, runF, m0, sSeq, sSet, sIf, sRet, sRetN, sExpr, sSkip_ok, sSetIx, sFor, sPar, sBind, sAug, eVar, eCon_ok, eOp2, eOp1, eCall, eCallM, eCallT, eTup, eLst, eArg, eIf, tVal, tNotF, tAndF, tOrF, eB, eAndF, eOrF, eNotF, eIxQ, eIxO, aHoleQ, aHole, aNil_ok, aCons, oNone_ok, oSome, eSlice, eSliceL, iSeq, iRange, iArg, ePeek, tPeek, eOwnM, tYes_ok, bind_ok, bind_exc, bind_stuck, of_some, flatD, SW.gName, List.getD_cons_zero, List.getD_cons_succ, List.set_cons_zero, List.set_cons_succ, List.map_cons, List.map_nil, List.length_cons, List.length_nil, List.cons_append, List.nil_append, List.replicate, Nat.reduceAdd, Nat.reduceSub, addD_int, subD_int, negD_int, repD_int, modD_int, fdivD_int, ltA_int, leA_int, gtA_int, geA_int, eqD_int, neD_int, pow_10_18, pow_10_60, ek, hz, e, dotT]
theorem law_pairing_ok {i j : Nat} {a b : List Rat} (h1 : Szs i a) (h2 : Szs j b) (hs : 1 + (a.length + 1) * (i + j + 1) ≤ 9000) : m__law_pairing [.lst (a.map eRat.en), .lst (b.map eRat.en)] = .ok (eRat.en (dotT a b), .non) := by
  have hl : (a.zip b).length ≤ a.length := by rw [List.length_zip]; omega
  have key := forL_foldr (b := (gTup 2 (gCons (gName 3) (gCons (gName 4) gNil)))) (g := (sSet 2 (eCall m__law_plus (aCons (eVar 2) (aCons (eCall m__law_by (aCons (eVar 3) (aCons (eVar 4) aNil))) aNil))))) (f := fun p : Rat × Rat => D.tup [eRat.en p.1, eRat.en p.2]) (step := fun t p => t + p.1 * p.2) (St := fun l t ρ => (∀ p ∈ l, Sz i p.1 ∧ Sz j p.2) ∧ (∃ m, m + l.length * (i + j + 1) ≤ 1 + a.length * (i + j + 1) ∧ Sz m t) ∧ ∃ y3 y4, ρ = [some (.lst (a.map eRat.en)), some (.lst (b.map eRat.en)), some (eRat.en t), y3, y4])
    (a.zip b) 0 [some (.lst (a.map eRat.en)), some (.lst (b.map eRat.en)), some (eRat.en 0), none, none] ⟨zip_sz h1 h2, ⟨1, by have := Nat.mul_le_mul_right (i + j + 1) hl; omega, sz_zero (by omega)⟩, _, _, rfl⟩ (by
    rintro p l t ρ ⟨hp, ⟨m, hm, ht⟩, y3, y4, rfl⟩
    obtain ⟨s1, s2⟩ := hp p List.mem_cons_self
    rw [List.length_cons, Nat.succ_mul] at hm
    rw [Nat.succ_mul] at hs
    have hmul := s1.mul s2
    refine ⟨[some (.lst (a.map eRat.en)), some (.lst (b.map eRat.en)), some (eRat.en t), some (eRat.en p.1), some (eRat.en p.2)], [some (.lst (a.map eRat.en)), some (.lst (b.map eRat.en)), some (eRat.en (t + p.1 * p.2)), some (eRat.en p.1), some (eRat.en p.2)], rfl, ?_, fun q hq => hp q (List.mem_cons_of_mem _ hq), ⟨m + (i + j) + 1, by omega, ht.add hmul⟩, _, _, rfl⟩
    have e1 := law_by_ok s1 s2 (by omega)
    have e2 := law_plus_ok ht hmul (by omega)
    simp (disch := first | assumption | decide | omega) only [runF, m0, sSeq, sSet, sIf, sRet, sRetN, sExpr, sSkip_ok, sSetIx, sFor, sPar, sBind, sAug, eVar, eCon_ok, eOp2, eOp1, eCall, eCallM, eCallT, eTup, eLst, eArg, eIf, tVal, tNotF, tAndF, tOrF, eB, eAndF, eOrF, eNotF, eIxQ, eIxO, aHoleQ, aHole, aNil_ok, aCons, oNone_ok, oSome, eSlice, eSliceL, iSeq, iRange, iArg, ePeek, tPeek, eOwnM, tYes_ok, bind_ok, bind_exc, bind_stuck, of_some, flatD, SW.gName, List.getD_cons_zero, List.getD_cons_succ, List.set_cons_zero, List.set_cons_succ, List.map_cons, List.map_nil, List.length_cons, List.length_nil, List.cons_append, List.nil_append, List.replicate, Nat.reduceAdd, Nat.reduceSub, addD_int, subD_int, negD_int, repD_int, modD_int, fdivD_int, ltA_int, leA_int, gtA_int, geA_int, eqD_int, neD_int, pow_10_18, pow_10_60, e1, e2])
  obtain ⟨ρ', e, -, -, y3, y4, rfl⟩ := key
  rw [← zipD_map] at e
  have hz : iZip2 [.lst (a.map eRat.en), .lst (b.map eRat.en)] = some (zipD (a.map eRat.en) (b.map eRat.en)) := rfl
  have ek : D.tup [.int 0, .int 1] = eRat.en 0 := rfl
  simp (disch := first | assumption | decide | omega) only [m__law_pairing, b__law_pairing, runF, m0, sSeq, sSet, sIf, sRet, sRetN, sExpr, sSkip_ok, sSetIx, sFor, sPar, sBind, sAug, eVar, eCon_ok, eOp2, eOp1, eCall, eCallM, eCallT, eTup, eLst, eArg, eIf, tVal, tNotF, tAndF, tOrF, eB, eAndF, eOrF, eNotF, eIxQ, eIxO, aHoleQ, aHole, aNil_ok, aCons, oNone_ok, oSome, eSlice, eSliceL, iSeq, iRange, iArg, ePeek, tPeek, eOwnM, tYes_ok, bind_ok, bind_exc, bind_stuck, of_some, flatD, SW.gName, List.getD_cons_zero, List.getD_cons_succ, List.set_cons_zero, List.set_cons_succ, List.map_cons, List.map_nil, List.length_cons, List.length_nil, List.cons_append, List.nil_append, List.replicate, Nat.reduceAdd, Nat.reduceSub, addD_int, subD_int, negD_int, repD_int, modD_int, fdivD_int, ltA_int, leA_int, gtA_int, geA_int, eqD_int, neD_int, pow_10_18, pow_10_60, ek, hz, e, dotT]


/-! squares -/
structure Sq (n : Nat) (q : List (List Rat)) : Prop where
  len : q.length = n
  row : ∀ r ∈ q, r.length = n
theorem some_square_ok {n : Nat} {q : List (List Rat)} (h : Sq n q) (h1 : 1 ≤ n) (h6 : n ≤ 6) : m_is_some_square [.lst (q.map eRow.en), .int 6] = .ok (.bl true, .non) := by
  have e := is_square_ok q h.len h.row
  have hl := h.len
  have d1 : (1 : Int) ≤ ((q.length : Nat) : Int) := by omega
  have d2 : ((q.length : Nat) : Int) ≤ 6 := by omega
  rw [← hl] at e
  simp (disch := first | assumption | decide | omega) only [m_is_some_square, b_is_some_square, runF, m0, sSeq, sSet, sIf, sRet, sRetN, sExpr, sSkip_ok, sSetIx, sFor, sPar, sBind, sAug, eVar, eCon_ok, eOp2, eOp1, eCall, eCallM, eCallT, eTup, eLst, eArg, eIf, tVal, tNotF, tAndF, tOrF, eB, eAndF, eOrF, eNotF, eIxQ, eIxO, aHoleQ, aHole, aNil_ok, aCons, oNone_ok, oSome, eSlice, eSliceL, iSeq, iRange, iArg, ePeek, tPeek, eOwnM, tYes_ok, bind_ok, bind_exc, bind_stuck, of_some, flatD, SW.gName, List.getD_cons_zero, List.getD_cons_succ, List.set_cons_zero, List.set_cons_succ, List.map_cons, List.map_nil, List.length_cons, List.length_nil, List.cons_append, List.nil_append, List.replicate, Nat.reduceAdd, Nat.reduceSub, addD_int, subD_int, negD_int, repD_int, modD_int, fdivD_int, ltA_int, leA_int, gtA_int, geA_int, eqD_int, neD_int, pow_10_18, pow_10_60, isi_l, eChain, lenD_l, decide_eq_true d1, decide_eq_true d2, e]
def moveT (q : List (List Rat)) (r : List Rat) : List Rat := q.map fun a => dotT a r
theorem move_ok {i j n : Nat} {q : List (List Rat)} {r : List Rat} (h : Sq n q) (h1 : Szq i q) (h2 : Szs j r) (hs : 1 + (n + 1) * (i + j + 1) ≤ 9000) : m_move [.lst (q.map eRow.en), .lst (r.map eRat.en)] = .ok (.lst ((moveT q r).map eRat.en), .non) := by
  have hc := compL_of (vs := [2]) (b := gName 2) (tt := tYesF) (fe := (eCall m_paired (aCons (eVar 2) (aCons (eVar 1) aNil)))) (f := eRow.en) (ρ := [some (.lst (q.map eRow.en)), some (.lst (r.map eRat.en)), none]) (c := fun _ => true) (h := fun a => eRat.en (dotT a r)) q (by
    intro a ha
    refine ⟨_, rfl, [some (.lst (q.map eRow.en)), some (.lst (r.map eRat.en)), some (eRow.en a)], rfl, (fun z => by cases z), fun _ => ⟨[some (.lst (q.map eRow.en)), some (.lst (r.map eRat.en)), some (eRow.en a)], ?_, rfl⟩⟩
    have e := paired_ok (h1 a ha) h2 (by rw [h.row a ha]; exact hs)
    change m_paired [eRow.en a, _] = _ at e
    simp (disch := first | assumption | decide | omega) only [runF, m0, sSeq, sSet, sIf, sRet, sRetN, sExpr, sSkip_ok, sSetIx, sFor, sPar, sBind, sAug, eVar, eCon_ok, eOp2, eOp1, eCall, eCallM, eCallT, eTup, eLst, eArg, eIf, tVal, tNotF, tAndF, tOrF, eB, eAndF, eOrF, eNotF, eIxQ, eIxO, aHoleQ, aHole, aNil_ok, aCons, oNone_ok, oSome, eSlice, eSliceL, iSeq, iRange, iArg, ePeek, tPeek, eOwnM, tYes_ok, bind_ok, bind_exc, bind_stuck, of_some, flatD, SW.gName, List.getD_cons_zero, List.getD_cons_succ, List.set_cons_zero, List.set_cons_succ, List.map_cons, List.map_nil, List.length_cons, List.length_nil, List.cons_append, List.nil_append, List.replicate, Nat.reduceAdd, Nat.reduceSub, addD_int, subD_int, negD_int, repD_int, modD_int, fdivD_int, ltA_int, leA_int, gtA_int, geA_int, eqD_int, neD_int, pow_10_18, pow_10_60, e])
  rw [List.filter_eq_self.mpr (fun _ _ => rfl)] at hc
  have em : (q.map fun a => eRat.en (dotT a r)) = (moveT q r).map eRat.en := by unfold moveT; rw [List.map_map]; rfl
  rw [em] at hc
  simp (disch := first | assumption | decide | omega) only [m_move, b_move, runF, m0, sSeq, sSet, sIf, sRet, sRetN, sExpr, sSkip_ok, sSetIx, sFor, sPar, sBind, sAug, eVar, eCon_ok, eOp2, eOp1, eCall, eCallM, eCallT, eTup, eLst, eArg, eIf, tVal, tNotF, tAndF, tOrF, eB, eAndF, eOrF, eNotF, eIxQ, eIxO, aHoleQ, aHole, aNil_ok, aCons, oNone_ok, oSome, eSlice, eSliceL, iSeq, iRange, iArg, ePeek, tPeek, eOwnM, tYes_ok, bind_ok, bind_exc, bind_stuck, of_some, flatD, SW.gName, List.getD_cons_zero, List.getD_cons_succ, List.set_cons_zero, List.set_cons_succ, List.map_cons, List.map_nil, List.length_cons, List.length_nil, List.cons_append, List.nil_append, List.replicate, Nat.reduceAdd, Nat.reduceSub, addD_int, subD_int, negD_int, repD_int, modD_int, fdivD_int, ltA_int, leA_int, gtA_int, geA_int, eqD_int, neD_int, pow_10_18, pow_10_60, itemsOf_l, eComp, hc]
theorem moved_ok {i j n : Nat} {q : List (List Rat)} {r : List Rat} (h : Sq n q) (n1 : 1 ≤ n) (n6 : n ≤ 6) (hr : r.length = n) (h1 : Szq i q) (h2 : Szs j r) (hs : 1 + (n + 1) * (i + j + 1) ≤ 9000) : m_moved [.lst (q.map eRow.en), .lst (r.map eRat.en)] = .ok (.lst ((moveT q r).map eRat.en), .non) := by
  have e1 := some_square_ok h n1 n6
  have e2 := is_row_ok r hr
  have e3 := move_ok h h1 h2 hs
  have hl : lenD [.lst (q.map eRow.en)] = some (.int n) := by rw [lenD_l, h.len]
  simp (disch := first | assumption | decide | omega) only [m_moved, b_moved, runF, m0, sSeq, sSet, sIf, sRet, sRetN, sExpr, sSkip_ok, sSetIx, sFor, sPar, sBind, sAug, eVar, eCon_ok, eOp2, eOp1, eCall, eCallM, eCallT, eTup, eLst, eArg, eIf, tVal, tNotF, tAndF, tOrF, eB, eAndF, eOrF, eNotF, eIxQ, eIxO, aHoleQ, aHole, aNil_ok, aCons, oNone_ok, oSome, eSlice, eSliceL, iSeq, iRange, iArg, ePeek, tPeek, eOwnM, tYes_ok, bind_ok, bind_exc, bind_stuck, of_some, flatD, SW.gName, List.getD_cons_zero, List.getD_cons_succ, List.set_cons_zero, List.set_cons_succ, List.map_cons, List.map_nil, List.length_cons, List.length_nil, List.cons_append, List.nil_append, List.replicate, Nat.reduceAdd, Nat.reduceSub, addD_int, subD_int, negD_int, repD_int, modD_int, fdivD_int, ltA_int, leA_int, gtA_int, geA_int, eqD_int, neD_int, pow_10_18, pow_10_60, e1, hl, e2, e3, Bool.not_true, Bool.false_eq_true, if_false]
def colT (n : Nat) (q : List (List Rat)) (k : Nat) : List Rat := (List.range n).map fun i => (q.getD i []).getD k 0
def colsT (n : Nat) (q : List (List Rat)) : List (List Rat) := (List.range n).map (colT n q)
theorem ix_any {α : Type} (f : α → D) (l : List α) (z : α) {i : Nat} (h : i < l.length) : ixD (.lst (l.map f)) (.int ((i : Nat) : Int)) = some (f (l.getD i z)) := by
  show atI (l.map f) ((i : Nat) : Int) = _
  unfold atI ixN
  rw [List.length_map, if_pos (by omega), if_pos (by omega)]
  show (l.map f)[((i : Nat) : Int).toNat]? = _
  rw [Int.toNat_natCast, List.getElem?_map, List.getD_eq_getElem?_getD, List.getElem?_eq_getElem h]
  rfl
theorem getD_mem {α : Type} {l : List α} {i : Nat} {z : α} (h : i < l.length) : l.getD i z ∈ l := by
  rw [List.getD_eq_getElem?_getD, List.getElem?_eq_getElem h]
  exact List.getElem_mem h
theorem turned_about_ok {n : Nat} {q : List (List Rat)} (h : Sq n q) (n6 : n ≤ 6) : m_turned_about [.lst (q.map eRow.en)] = .ok (.lst ((colsT n q).map eRow.en), .non) := by
  have hr := rangeD1 (j := ((n : Nat) : Int)) (by omega) (by omega)
  rw [Int.toNat_natCast] at hr
  have hin : ∀ k, k < n → compL [3] (gName 3) tYesF (eOp2 ixD (eOp2 ixD (eVar 0) (eVar 3)) (eVar 2)) ((List.range n).map fun i => .int ((i : Nat) : Int)) [some (.lst (q.map eRow.en)), some (.int n), some (.int ((k : Nat) : Int)), none] = .ok ((colT n q k).map eRat.en, [some (.lst (q.map eRow.en)), some (.int n), some (.int ((k : Nat) : Int)), none]) := fun k hk => by
    have hc := compL_of (vs := [3]) (b := gName 3) (tt := tYesF) (fe := (eOp2 ixD (eOp2 ixD (eVar 0) (eVar 3)) (eVar 2))) (f := fun i : Nat => D.int ((i : Nat) : Int)) (ρ := [some (.lst (q.map eRow.en)), some (.int n), some (.int ((k : Nat) : Int)), none]) (c := fun _ => true) (h := fun i => eRat.en ((q.getD i []).getD k 0)) (List.range n) (by
      intro i hi
      have hi := List.mem_range.mp hi
      have hi2 : i < q.length := by rw [h.len]; exact hi
      refine ⟨_, rfl, [some (.lst (q.map eRow.en)), some (.int n), some (.int ((k : Nat) : Int)), some (.int ((i : Nat) : Int))], rfl, (fun z => by cases z), fun _ => ⟨[some (.lst (q.map eRow.en)), some (.int n), some (.int ((k : Nat) : Int)), some (.int ((i : Nat) : Int))], ?_, rfl⟩⟩
      have x1 := ix_any eRow.en q [] hi2
      have x2 := ix_any eRat.en (q.getD i []) 0 (i := k) (by rw [h.row _ (getD_mem hi2)]; exact hk)
      change ixD (eRow.en (q.getD i [])) _ = _ at x2
      simp (disch := first | assumption | decide | omega) only [runF, m0, sSeq, sSet, sIf, sRet, sRetN, sExpr, sSkip_ok, sSetIx, sFor, sPar, sBind, sAug, eVar, eCon_ok, eOp2, eOp1, eCall, eCallM, eCallT, eTup, eLst, eArg, eIf, tVal, tNotF, tAndF, tOrF, eB, eAndF, eOrF, eNotF, eIxQ, eIxO, aHoleQ, aHole, aNil_ok, aCons, oNone_ok, oSome, eSlice, eSliceL, iSeq, iRange, iArg, ePeek, tPeek, eOwnM, tYes_ok, bind_ok, bind_exc, bind_stuck, of_some, flatD, SW.gName, List.getD_cons_zero, List.getD_cons_succ, List.set_cons_zero, List.set_cons_succ, List.map_cons, List.map_nil, List.length_cons, List.length_nil, List.cons_append, List.nil_append, List.replicate, Nat.reduceAdd, Nat.reduceSub, addD_int, subD_int, negD_int, repD_int, modD_int, fdivD_int, ltA_int, leA_int, gtA_int, geA_int, eqD_int, neD_int, pow_10_18, pow_10_60, x1, x2])
    rw [List.filter_eq_self.mpr (fun _ _ => rfl)] at hc
    have em : ((List.range n).map fun i => eRat.en ((q.getD i []).getD k 0)) = (colT n q k).map eRat.en := by unfold colT; rw [List.map_map]; rfl
    rw [em] at hc
    exact hc
  have hc := compL_of (vs := [2]) (b := gName 2) (tt := tYesF) (fe := (eComp [3] (iRange (aCons (eVar 1) aNil)) (gName 3) tYesF (eOp2 ixD (eOp2 ixD (eVar 0) (eVar 3)) (eVar 2)))) (f := fun i : Nat => D.int ((i : Nat) : Int)) (ρ := [some (.lst (q.map eRow.en)), some (.int n), none, none]) (c := fun _ => true) (h := fun k => eRow.en (colT n q k)) (List.range n) (by
    intro k hk
    refine ⟨_, rfl, [some (.lst (q.map eRow.en)), some (.int n), some (.int ((k : Nat) : Int)), none], rfl, (fun z => by cases z), fun _ => ⟨[some (.lst (q.map eRow.en)), some (.int n), some (.int ((k : Nat) : Int)), none], ?_, rfl⟩⟩
    have e := hin k (List.mem_range.mp hk)
    have er : eRow.en (colT n q k) = .lst ((colT n q k).map eRat.en) := rfl
    simp (disch := first | assumption | decide | omega) only [runF, m0, sSeq, sSet, sIf, sRet, sRetN, sExpr, sSkip_ok, sSetIx, sFor, sPar, sBind, sAug, eVar, eCon_ok, eOp2, eOp1, eCall, eCallM, eCallT, eTup, eLst, eArg, eIf, tVal, tNotF, tAndF, tOrF, eB, eAndF, eOrF, eNotF, eIxQ, eIxO, aHoleQ, aHole, aNil_ok, aCons, oNone_ok, oSome, eSlice, eSliceL, iSeq, iRange, iArg, ePeek, tPeek, eOwnM, tYes_ok, bind_ok, bind_exc, bind_stuck, of_some, flatD, SW.gName, List.getD_cons_zero, List.getD_cons_succ, List.set_cons_zero, List.set_cons_succ, List.map_cons, List.map_nil, List.length_cons, List.length_nil, List.cons_append, List.nil_append, List.replicate, Nat.reduceAdd, Nat.reduceSub, addD_int, subD_int, negD_int, repD_int, modD_int, fdivD_int, ltA_int, leA_int, gtA_int, geA_int, eqD_int, neD_int, pow_10_18, pow_10_60, hr, eComp, e, er])
  rw [List.filter_eq_self.mpr (fun _ _ => rfl)] at hc
  have em : ((List.range n).map fun k => eRow.en (colT n q k)) = (colsT n q).map eRow.en := by unfold colsT; rw [List.map_map]; rfl
  rw [em] at hc
  have hl : lenD [.lst (q.map eRow.en)] = some (.int n) := by rw [lenD_l, h.len]
  simp (disch := first | assumption | decide | omega) only [m_turned_about, b_turned_about, runF, m0, sSeq, sSet, sIf, sRet, sRetN, sExpr, sSkip_ok, sSetIx, sFor, sPar, sBind, sAug, eVar, eCon_ok, eOp2, eOp1, eCall, eCallM, eCallT, eTup, eLst, eArg, eIf, tVal, tNotF, tAndF, tOrF, eB, eAndF, eOrF, eNotF, eIxQ, eIxO, aHoleQ, aHole, aNil_ok, aCons, oNone_ok, oSome, eSlice, eSliceL, iSeq, iRange, iArg, ePeek, tPeek, eOwnM, tYes_ok, bind_ok, bind_exc, bind_stuck, of_some, flatD, SW.gName, List.getD_cons_zero, List.getD_cons_succ, List.set_cons_zero, List.set_cons_succ, List.map_cons, List.map_nil, List.length_cons, List.length_nil, List.cons_append, List.nil_append, List.replicate, Nat.reduceAdd, Nat.reduceSub, addD_int, subD_int, negD_int, repD_int, modD_int, fdivD_int, ltA_int, leA_int, gtA_int, geA_int, eqD_int, neD_int, pow_10_18, pow_10_60, hl, hr, eComp, hc]
def afterT (n : Nat) (a b : List (List Rat)) : List (List Rat) := a.map fun r => (colsT n b).map fun l => dotT r l
theorem colT_sz {j n : Nat} {q : List (List Rat)} (h : Sq n q) (h2 : Szq j q) {k : Nat} (hk : k < n) : Szs j (colT n q k) := fun x hx => by
  unfold colT at hx
  obtain ⟨i, hi, rfl⟩ := List.mem_map.mp hx
  have hi := List.mem_range.mp hi
  have hm : q.getD i [] ∈ q := getD_mem (by rw [h.len]; exact hi)
  exact h2 _ hm _ (getD_mem (by rw [h.row _ hm]; exact hk))
theorem behind_one_ok {i j n : Nat} {a b : List (List Rat)} (ha : Sq n a) (hb : Sq n b) (n6 : n ≤ 6) (h1 : Szq i a) (h2 : Szq j b) (hs : 1 + (n + 1) * (i + j + 1) ≤ 9000) : m_behind_one [.lst (a.map eRow.en), .lst (b.map eRow.en)] = .ok (.lst ((afterT n a b).map eRow.en), .non) := by
  have ht := turned_about_ok hb n6
  have hin : ∀ r ∈ a, compL [4] (gName 4) tYesF (eCall m_paired (aCons (eVar 3) (aCons (eVar 4) aNil))) ((colsT n b).map eRow.en) [some (.lst (a.map eRow.en)), some (.lst (b.map eRow.en)), some (.lst ((colsT n b).map eRow.en)), some (eRow.en r), none] = .ok (((colsT n b).map fun l => dotT r l).map eRat.en, [some (.lst (a.map eRow.en)), some (.lst (b.map eRow.en)), some (.lst ((colsT n b).map eRow.en)), some (eRow.en r), none]) := fun r hr => by
    have hc := compL_of (vs := [4]) (b := gName 4) (tt := tYesF) (fe := (eCall m_paired (aCons (eVar 3) (aCons (eVar 4) aNil)))) (f := eRow.en) (ρ := [some (.lst (a.map eRow.en)), some (.lst (b.map eRow.en)), some (.lst ((colsT n b).map eRow.en)), some (eRow.en r), none]) (c := fun _ => true) (h := fun l => eRat.en (dotT r l)) (colsT n b) (by
      intro l hl
      refine ⟨_, rfl, [some (.lst (a.map eRow.en)), some (.lst (b.map eRow.en)), some (.lst ((colsT n b).map eRow.en)), some (eRow.en r), some (eRow.en l)], rfl, (fun z => by cases z), fun _ => ⟨[some (.lst (a.map eRow.en)), some (.lst (b.map eRow.en)), some (.lst ((colsT n b).map eRow.en)), some (eRow.en r), some (eRow.en l)], ?_, rfl⟩⟩
      unfold colsT at hl
      obtain ⟨k, hk, rfl⟩ := List.mem_map.mp hl
      have e := paired_ok (h1 r hr) (colT_sz hb h2 (List.mem_range.mp hk)) (by rw [ha.row r hr]; exact hs)
      change m_paired [eRow.en r, eRow.en (colT n b k)] = _ at e
      simp (disch := first | assumption | decide | omega) only [runF, m0, sSeq, sSet, sIf, sRet, sRetN, sExpr, sSkip_ok, sSetIx, sFor, sPar, sBind, sAug, eVar, eCon_ok, eOp2, eOp1, eCall, eCallM, eCallT, eTup, eLst, eArg, eIf, tVal, tNotF, tAndF, tOrF, eB, eAndF, eOrF, eNotF, eIxQ, eIxO, aHoleQ, aHole, aNil_ok, aCons, oNone_ok, oSome, eSlice, eSliceL, iSeq, iRange, iArg, ePeek, tPeek, eOwnM, tYes_ok, bind_ok, bind_exc, bind_stuck, of_some, flatD, SW.gName, List.getD_cons_zero, List.getD_cons_succ, List.set_cons_zero, List.set_cons_succ, List.map_cons, List.map_nil, List.length_cons, List.length_nil, List.cons_append, List.nil_append, List.replicate, Nat.reduceAdd, Nat.reduceSub, addD_int, subD_int, negD_int, repD_int, modD_int, fdivD_int, ltA_int, leA_int, gtA_int, geA_int, eqD_int, neD_int, pow_10_18, pow_10_60, e])
    rw [List.filter_eq_self.mpr (fun _ _ => rfl)] at hc
    have em : ((colsT n b).map fun l => eRat.en (dotT r l)) = ((colsT n b).map fun l => dotT r l).map eRat.en := by rw [List.map_map]; rfl
    rw [em] at hc
    exact hc
  have hc := compL_of (vs := [3]) (b := gName 3) (tt := tYesF) (fe := (eComp [4] (iSeq (eVar 2)) (gName 4) tYesF (eCall m_paired (aCons (eVar 3) (aCons (eVar 4) aNil))))) (f := eRow.en) (ρ := [some (.lst (a.map eRow.en)), some (.lst (b.map eRow.en)), some (.lst ((colsT n b).map eRow.en)), none, none]) (c := fun _ => true) (h := fun r => eRow.en ((colsT n b).map fun l => dotT r l)) a (by
    intro r hr
    refine ⟨_, rfl, [some (.lst (a.map eRow.en)), some (.lst (b.map eRow.en)), some (.lst ((colsT n b).map eRow.en)), some (eRow.en r), none], rfl, (fun z => by cases z), fun _ => ⟨[some (.lst (a.map eRow.en)), some (.lst (b.map eRow.en)), some (.lst ((colsT n b).map eRow.en)), some (eRow.en r), none], ?_, rfl⟩⟩
    have e := hin r hr
    have er : eRow.en ((colsT n b).map fun l => dotT r l) = .lst (((colsT n b).map fun l => dotT r l).map eRat.en) := rfl
    simp (disch := first | assumption | decide | omega) only [runF, m0, sSeq, sSet, sIf, sRet, sRetN, sExpr, sSkip_ok, sSetIx, sFor, sPar, sBind, sAug, eVar, eCon_ok, eOp2, eOp1, eCall, eCallM, eCallT, eTup, eLst, eArg, eIf, tVal, tNotF, tAndF, tOrF, eB, eAndF, eOrF, eNotF, eIxQ, eIxO, aHoleQ, aHole, aNil_ok, aCons, oNone_ok, oSome, eSlice, eSliceL, iSeq, iRange, iArg, ePeek, tPeek, eOwnM, tYes_ok, bind_ok, bind_exc, bind_stuck, of_some, flatD, SW.gName, List.getD_cons_zero, List.getD_cons_succ, List.set_cons_zero, List.set_cons_succ, List.map_cons, List.map_nil, List.length_cons, List.length_nil, List.cons_append, List.nil_append, List.replicate, Nat.reduceAdd, Nat.reduceSub, addD_int, subD_int, negD_int, repD_int, modD_int, fdivD_int, ltA_int, leA_int, gtA_int, geA_int, eqD_int, neD_int, pow_10_18, pow_10_60, itemsOf_l, eComp, e, er])
  rw [List.filter_eq_self.mpr (fun _ _ => rfl)] at hc
  have em : (a.map fun r => eRow.en ((colsT n b).map fun l => dotT r l)) = (afterT n a b).map eRow.en := by unfold afterT; rw [List.map_map]; rfl
  rw [em] at hc
  simp (disch := first | assumption | decide | omega) only [m_behind_one, b_behind_one, runF, m0, sSeq, sSet, sIf, sRet, sRetN, sExpr, sSkip_ok, sSetIx, sFor, sPar, sBind, sAug, eVar, eCon_ok, eOp2, eOp1, eCall, eCallM, eCallT, eTup, eLst, eArg, eIf, tVal, tNotF, tAndF, tOrF, eB, eAndF, eOrF, eNotF, eIxQ, eIxO, aHoleQ, aHole, aNil_ok, aCons, oNone_ok, oSome, eSlice, eSliceL, iSeq, iRange, iArg, ePeek, tPeek, eOwnM, tYes_ok, bind_ok, bind_exc, bind_stuck, of_some, flatD, SW.gName, List.getD_cons_zero, List.getD_cons_succ, List.set_cons_zero, List.set_cons_succ, List.map_cons, List.map_nil, List.length_cons, List.length_nil, List.cons_append, List.nil_append, List.replicate, Nat.reduceAdd, Nat.reduceSub, addD_int, subD_int, negD_int, repD_int, modD_int, fdivD_int, ltA_int, leA_int, gtA_int, geA_int, eqD_int, neD_int, pow_10_18, pow_10_60, ht, itemsOf_l, eComp, hc]
theorem after_ok {i j n : Nat} {a b : List (List Rat)} (ha : Sq n a) (hb : Sq n b) (n1 : 1 ≤ n) (n6 : n ≤ 6) (h1 : Szq i a) (h2 : Szq j b) (hs : 1 + (n + 1) * (i + j + 1) ≤ 9000) : m_after [.lst (a.map eRow.en), .lst (b.map eRow.en)] = .ok (.lst ((afterT n a b).map eRow.en), .non) := by
  have e1 := some_square_ok ha n1 n6
  have e2 := is_square_ok b hb.len hb.row
  have e3 := behind_one_ok ha hb n6 h1 h2 hs
  have hl : lenD [.lst (a.map eRow.en)] = some (.int n) := by rw [lenD_l, ha.len]
  simp (disch := first | assumption | decide | omega) only [m_after, b_after, runF, m0, sSeq, sSet, sIf, sRet, sRetN, sExpr, sSkip_ok, sSetIx, sFor, sPar, sBind, sAug, eVar, eCon_ok, eOp2, eOp1, eCall, eCallM, eCallT, eTup, eLst, eArg, eIf, tVal, tNotF, tAndF, tOrF, eB, eAndF, eOrF, eNotF, eIxQ, eIxO, aHoleQ, aHole, aNil_ok, aCons, oNone_ok, oSome, eSlice, eSliceL, iSeq, iRange, iArg, ePeek, tPeek, eOwnM, tYes_ok, bind_ok, bind_exc, bind_stuck, of_some, flatD, SW.gName, List.getD_cons_zero, List.getD_cons_succ, List.set_cons_zero, List.set_cons_succ, List.map_cons, List.map_nil, List.length_cons, List.length_nil, List.cons_append, List.nil_append, List.replicate, Nat.reduceAdd, Nat.reduceSub, addD_int, subD_int, negD_int, repD_int, modD_int, fdivD_int, ltA_int, leA_int, gtA_int, geA_int, eqD_int, neD_int, pow_10_18, pow_10_60, e1, hl, e2, e3, Bool.not_true, Bool.false_eq_true, if_false]

/-! numbers drawn -/
theorem pow_10_4 : powD (.int 10) (.int 4) = some (.int 10000) := powD_int (by decide) (by decide)
theorem law_number_ok {n : Nat} {p : D} (hp : Ps (n + 3) p) : ∃ (r : Rat) (p' : D), m__law_number [p] = .ok (eRat.en r, p') ∧ Sz 16 r ∧ Ps n p' := by
  obtain ⟨g1, p1, e1, g10, g11, hp1⟩ := take_ok (n := n + 2) (many := 6) hp (by decide) (by decide)
  by_cases h3 : g1 < 3
  · have hx : ∃ r : Rat, ixD (.lst [.tup [.int 0, .int 1], .tup [.int 1, .int 1], .tup [.int (-1), .int 1]]) (.int g1) = some (eRat.en r) ∧ Sz 16 r := by
      have : g1 = 0 ∨ g1 = 1 ∨ g1 = 2 := by omega
      rcases this with rfl | rfl | rfl
      · exact ⟨0, rfl, sz_zero (by decide)⟩
      · exact ⟨1, rfl, sz_one (by decide)⟩
      · exact ⟨-1, rfl, (sz_one (by decide)).neg⟩
    obtain ⟨r, er, hr⟩ := hx
    refine ⟨r, p1, ?_, hr, Ps.mono (by omega) hp1⟩
    simp (disch := first | assumption | decide | omega) only [m__law_number, b__law_number, runF, m0, sSeq, sSet, sIf, sRet, sRetN, sExpr, sSkip_ok, sSetIx, sFor, sPar, sBind, sAug, eVar, eCon_ok, eOp2, eOp1, eCall, eCallM, eCallT, eTup, eLst, eArg, eIf, tVal, tNotF, tAndF, tOrF, eB, eAndF, eOrF, eNotF, eIxQ, eIxO, aHoleQ, aHole, aNil_ok, aCons, oNone_ok, oSome, eSlice, eSliceL, iSeq, iRange, iArg, ePeek, tPeek, eOwnM, tYes_ok, bind_ok, bind_exc, bind_stuck, of_some, flatD, SW.gName, List.getD_cons_zero, List.getD_cons_succ, List.set_cons_zero, List.set_cons_succ, List.map_cons, List.map_nil, List.length_cons, List.length_nil, List.cons_append, List.nil_append, List.replicate, Nat.reduceAdd, Nat.reduceSub, addD_int, subD_int, negD_int, repD_int, modD_int, fdivD_int, ltA_int, leA_int, gtA_int, geA_int, eqD_int, neD_int, pow_10_18, pow_10_60, e1, decide_eq_true h3, if_true, er, Option.getD_some]
  · by_cases h5 : g1 < 5
    · obtain ⟨g2, p2, e2, g20, g21, hp2⟩ := take_ok (n := n + 1) (many := 13) hp1 (by decide) (by decide)
      obtain ⟨g3, p3, e3, g30, g31, hp3⟩ := take_ok (n := n) (many := 4) hp2 (by decide) (by decide)
      have hd : ∃ d : Nat, 1 + g3 * (g1 - 3) = ((d : Nat) : Int) ∧ 1 ≤ d ∧ d ≤ 4 := by
        have : g1 = 3 ∨ g1 = 4 := by omega
        rcases this with rfl | rfl
        · exact ⟨1, by omega, by omega, by omega⟩
        · exact ⟨(1 + g3).toNat, by omega, by omega, by omega⟩
      obtain ⟨d, ed, d1, d4⟩ := hd
      have b1 : bits2 g3 (g1 - 3) = true := bits2_l (by omega)
      have dlt : d < 2 ^ 9000 := Nat.lt_of_lt_of_le (m := 2 ^ 3) (by omega) (Nat.pow_le_pow_right (by decide) (by decide))
      have el := law_low_ok (g2 - 6) (show d ≠ 0 by omega) dlt
      refine ⟨mkRat (g2 - 6) d, p3, ?_, sz_mk (by omega) (by omega) (by decide), hp3⟩
      simp (disch := first | assumption | decide | omega) only [m__law_number, b__law_number, runF, m0, sSeq, sSet, sIf, sRet, sRetN, sExpr, sSkip_ok, sSetIx, sFor, sPar, sBind, sAug, eVar, eCon_ok, eOp2, eOp1, eCall, eCallM, eCallT, eTup, eLst, eArg, eIf, tVal, tNotF, tAndF, tOrF, eB, eAndF, eOrF, eNotF, eIxQ, eIxO, aHoleQ, aHole, aNil_ok, aCons, oNone_ok, oSome, eSlice, eSliceL, iSeq, iRange, iArg, ePeek, tPeek, eOwnM, tYes_ok, bind_ok, bind_exc, bind_stuck, of_some, flatD, SW.gName, List.getD_cons_zero, List.getD_cons_succ, List.set_cons_zero, List.set_cons_succ, List.map_cons, List.map_nil, List.length_cons, List.length_nil, List.cons_append, List.nil_append, List.replicate, Nat.reduceAdd, Nat.reduceSub, addD_int, subD_int, negD_int, repD_int, modD_int, fdivD_int, ltA_int, leA_int, gtA_int, geA_int, eqD_int, neD_int, pow_10_18, pow_10_60, e1, decide_eq_false h3, decide_eq_true h5, if_true, if_false, Bool.false_eq_true, e2, e3, ed, el, Option.getD_some]
    · have b1 : bits2 2 10000 = true := bits2_l (by decide)
      obtain ⟨g2, p2, e2, g20, g21, hp2⟩ := take_ok (n := n + 1) (many := 2 * 10000 + 1) hp1 (by decide) (by decide)
      obtain ⟨g3, p3, e3, g30, g31, hp3⟩ := take_ok (n := n) (many := 30) hp2 (by decide) (by decide)
      have hd : ∃ d : Nat, 1 + g3 = ((d : Nat) : Int) ∧ 1 ≤ d ∧ d ≤ 30 := ⟨(1 + g3).toNat, by omega, by omega, by omega⟩
      obtain ⟨d, ed, d1, d4⟩ := hd
      have dlt : d < 2 ^ 9000 := Nat.lt_of_lt_of_le (m := 2 ^ 5) (by omega) (Nat.pow_le_pow_right (by decide) (by decide))
      have el := law_low_ok (g2 - 10000) (show d ≠ 0 by omega) dlt
      refine ⟨mkRat (g2 - 10000) d, p3, ?_, sz_mk (by omega) (by omega) (by decide), hp3⟩
      simp (disch := first | assumption | decide | omega) only [m__law_number, b__law_number, runF, m0, sSeq, sSet, sIf, sRet, sRetN, sExpr, sSkip_ok, sSetIx, sFor, sPar, sBind, sAug, eVar, eCon_ok, eOp2, eOp1, eCall, eCallM, eCallT, eTup, eLst, eArg, eIf, tVal, tNotF, tAndF, tOrF, eB, eAndF, eOrF, eNotF, eIxQ, eIxO, aHoleQ, aHole, aNil_ok, aCons, oNone_ok, oSome, eSlice, eSliceL, iSeq, iRange, iArg, ePeek, tPeek, eOwnM, tYes_ok, bind_ok, bind_exc, bind_stuck, of_some, flatD, SW.gName, List.getD_cons_zero, List.getD_cons_succ, List.set_cons_zero, List.set_cons_succ, List.map_cons, List.map_nil, List.length_cons, List.length_nil, List.cons_append, List.nil_append, List.replicate, Nat.reduceAdd, Nat.reduceSub, addD_int, subD_int, negD_int, repD_int, modD_int, fdivD_int, ltA_int, leA_int, gtA_int, geA_int, eqD_int, neD_int, pow_10_18, pow_10_60, pow_10_4, e1, decide_eq_false h3, decide_eq_false h5, if_true, if_false, Bool.false_eq_true, e2, e3, ed, el, Option.getD_some]
/-- a comprehension that draws -/
theorem compL_turn {α ι : Type} {f : ι → D} {en : α → D} {ρf : D → Rho} {vs : List Nat} {b : D → Rho → Option Rho} {fe : Rho → Out (D × Rho)} {Good : α → Prop} {c : Nat} (st : ∀ i n p, Ps (n + c) p → ∃ ρ1, b (f i) (wipeR (ρf p) vs) = some ρ1 ∧ ∃ v p' ρ3, fe ρ1 = .ok (en v, ρ3) ∧ backR vs (ρf p) ρ3 = ρf p' ∧ Good v ∧ Ps n p') :
    ∀ (l : List ι) (n : Nat) (p : D), Ps (n + l.length * c) p → ∃ (ws : List α) (p' : D), compL vs b tYesF fe (l.map f) (ρf p) = .ok (ws.map en, ρf p') ∧ ws.length = l.length ∧ (∀ v ∈ ws, Good v) ∧ Ps n p'
  | [], n, p, hp => ⟨[], p, rfl, rfl, (by simp), by simpa using hp⟩
  | i :: l, n, p, hp => by
    rw [List.length_cons, Nat.succ_mul] at hp
    obtain ⟨ρ1, e1, v, p1, ρ3, e2, e3, hv, hp1⟩ := st i (n + l.length * c) p (Ps.mono (by omega) hp)
    obtain ⟨ws, p', e4, hl, hg, hp'⟩ := compL_turn st l n p1 hp1
    refine ⟨v :: ws, p', ?_, by simp [hl], ?_, hp'⟩
    · rw [List.map_cons]
      unfold compL
      rw [e1]
      dsimp only [tYesF]
      rw [e2]
      dsimp only
      rw [e3, e4, bind_ok]
      rfl
    · intro x hx
      rcases List.mem_cons.mp hx with rfl | hx
      · exact hv
      · exact hg x hx
theorem eq_nil_nil : eqD (.lst []) (.lst []) = some (.bl true) := rfl
theorem law_is_row_ok {k n : Nat} {r : List Rat} (hn : r.length = n) (h : Szs k r) (hk : k ≤ 9000) : m__law_is_row [.lst (r.map eRat.en), .int n] = .ok (.bl true, .non) := by
  have hc := compL_of (vs := [2]) (b := gName 2) (tt := (tNotF (tVal (eCall m__law_is_number (aCons (eVar 2) aNil))))) (fe := eVar 2) (f := eRat.en) (ρ := [some (.lst (r.map eRat.en)), some (.int n), none]) (c := fun _ => false) (h := eRat.en) r (by
    intro x hx
    refine ⟨_, rfl, [some (.lst (r.map eRat.en)), some (.int n), some (eRat.en x)], ?_, fun _ => rfl, fun z => by cases z⟩
    simp (disch := first | assumption | decide | omega) only [runF, m0, sSeq, sSet, sIf, sRet, sRetN, sExpr, sSkip_ok, sSetIx, sFor, sPar, sBind, sAug, eVar, eCon_ok, eOp2, eOp1, eCall, eCallM, eCallT, eTup, eLst, eArg, eIf, tVal, tNotF, tAndF, tOrF, eB, eAndF, eOrF, eNotF, eIxQ, eIxO, aHoleQ, aHole, aNil_ok, aCons, oNone_ok, oSome, eSlice, eSliceL, iSeq, iRange, iArg, ePeek, tPeek, eOwnM, tYes_ok, bind_ok, bind_exc, bind_stuck, of_some, flatD, SW.gName, List.getD_cons_zero, List.getD_cons_succ, List.set_cons_zero, List.set_cons_succ, List.map_cons, List.map_nil, List.length_cons, List.length_nil, List.cons_append, List.nil_append, List.replicate, Nat.reduceAdd, Nat.reduceSub, addD_int, subD_int, negD_int, repD_int, modD_int, fdivD_int, ltA_int, leA_int, gtA_int, geA_int, eqD_int, neD_int, pow_10_18, pow_10_60, wipeR, law_is_number_ok (h x hx) hk, Bool.not_true])
  rw [List.filter_eq_nil_iff.mpr (fun _ _ z => by cases z)] at hc
  have d1 : ((r.length : Nat) : Int) = ((n : Nat) : Int) := by omega
  simp (disch := first | assumption | decide | omega) only [m__law_is_row, b__law_is_row, runF, m0, sSeq, sSet, sIf, sRet, sRetN, sExpr, sSkip_ok, sSetIx, sFor, sPar, sBind, sAug, eVar, eCon_ok, eOp2, eOp1, eCall, eCallM, eCallT, eTup, eLst, eArg, eIf, tVal, tNotF, tAndF, tOrF, eB, eAndF, eOrF, eNotF, eIxQ, eIxO, aHoleQ, aHole, aNil_ok, aCons, oNone_ok, oSome, eSlice, eSliceL, iSeq, iRange, iArg, ePeek, tPeek, eOwnM, tYes_ok, bind_ok, bind_exc, bind_stuck, of_some, flatD, SW.gName, List.getD_cons_zero, List.getD_cons_succ, List.set_cons_zero, List.set_cons_succ, List.map_cons, List.map_nil, List.length_cons, List.length_nil, List.cons_append, List.nil_append, List.replicate, Nat.reduceAdd, Nat.reduceSub, addD_int, subD_int, negD_int, repD_int, modD_int, fdivD_int, ltA_int, leA_int, gtA_int, geA_int, eqD_int, neD_int, pow_10_18, pow_10_60, isi_l, lenD_l, decide_eq_true d1, Bool.not_true, Bool.false_eq_true, if_false, itemsOf_l, eComp, hc, eq_nil_nil]
theorem law_is_rows_ok {k n : Nat} {q : List (List Rat)} (hn : ∀ r ∈ q, r.length = n) (h : Szq k q) (hk : k ≤ 9000) : m__law_is_rows [.lst (q.map eRow.en), .int n] = .ok (.bl true, .non) := by
  have hc := compL_of (vs := [2]) (b := gName 2) (tt := (tNotF (tVal (eCall m__law_is_row (aCons (eVar 2) (aCons (eVar 1) aNil)))))) (fe := eVar 2) (f := eRow.en) (ρ := [some (.lst (q.map eRow.en)), some (.int n), none]) (c := fun _ => false) (h := eRow.en) q (by
    intro x hx
    refine ⟨_, rfl, [some (.lst (q.map eRow.en)), some (.int n), some (eRow.en x)], ?_, fun _ => rfl, fun z => by cases z⟩
    have e := law_is_row_ok (hn x hx) (h x hx) hk
    change m__law_is_row [eRow.en x, _] = _ at e
    simp (disch := first | assumption | decide | omega) only [runF, m0, sSeq, sSet, sIf, sRet, sRetN, sExpr, sSkip_ok, sSetIx, sFor, sPar, sBind, sAug, eVar, eCon_ok, eOp2, eOp1, eCall, eCallM, eCallT, eTup, eLst, eArg, eIf, tVal, tNotF, tAndF, tOrF, eB, eAndF, eOrF, eNotF, eIxQ, eIxO, aHoleQ, aHole, aNil_ok, aCons, oNone_ok, oSome, eSlice, eSliceL, iSeq, iRange, iArg, ePeek, tPeek, eOwnM, tYes_ok, bind_ok, bind_exc, bind_stuck, of_some, flatD, SW.gName, List.getD_cons_zero, List.getD_cons_succ, List.set_cons_zero, List.set_cons_succ, List.map_cons, List.map_nil, List.length_cons, List.length_nil, List.cons_append, List.nil_append, List.replicate, Nat.reduceAdd, Nat.reduceSub, addD_int, subD_int, negD_int, repD_int, modD_int, fdivD_int, ltA_int, leA_int, gtA_int, geA_int, eqD_int, neD_int, pow_10_18, pow_10_60, wipeR, e, Bool.not_true])
  rw [List.filter_eq_nil_iff.mpr (fun _ _ z => by cases z)] at hc
  simp (disch := first | assumption | decide | omega) only [m__law_is_rows, b__law_is_rows, runF, m0, sSeq, sSet, sIf, sRet, sRetN, sExpr, sSkip_ok, sSetIx, sFor, sPar, sBind, sAug, eVar, eCon_ok, eOp2, eOp1, eCall, eCallM, eCallT, eTup, eLst, eArg, eIf, tVal, tNotF, tAndF, tOrF, eB, eAndF, eOrF, eNotF, eIxQ, eIxO, aHoleQ, aHole, aNil_ok, aCons, oNone_ok, oSome, eSlice, eSliceL, iSeq, iRange, iArg, ePeek, tPeek, eOwnM, tYes_ok, bind_ok, bind_exc, bind_stuck, of_some, flatD, SW.gName, List.getD_cons_zero, List.getD_cons_succ, List.set_cons_zero, List.set_cons_succ, List.map_cons, List.map_nil, List.length_cons, List.length_nil, List.cons_append, List.nil_append, List.replicate, Nat.reduceAdd, Nat.reduceSub, addD_int, subD_int, negD_int, repD_int, modD_int, fdivD_int, ltA_int, leA_int, gtA_int, geA_int, eqD_int, neD_int, pow_10_18, pow_10_60, isi_l, itemsOf_l, eComp, hc, eq_nil_nil]
theorem listD_l (l : List D) : listD [.lst l] = some (.lst l) := rfl
theorem neD_row (a b : List Rat) : neD (.lst (a.map eRat.en)) (.lst (b.map eRat.en)) = some (.bl (!decide (a = b))) := neD_enc eRow (by decide) a b
theorem neD_sq (a b : List (List Rat)) : neD (.lst (a.map eRow.en)) (.lst (b.map eRow.en)) = some (.bl (!decide (a = b))) := neD_enc eSq (by decide) a b

/-! sums -/
def sumN : Nat → (Nat → Rat) → Rat
  | 0, _ => 0
  | n + 1, f => sumN n f + f n
theorem sumN_congr {f g : Nat → Rat} : ∀ n, (∀ i, i < n → f i = g i) → sumN n f = sumN n g
  | 0, _ => rfl
  | n + 1, h => by
    unfold sumN
    rw [sumN_congr n fun i hi => h i (by omega), h n (by omega)]
theorem sumN_zero : ∀ n, sumN n (fun _ => 0) = 0
  | 0 => rfl
  | n + 1 => by unfold sumN; rw [sumN_zero n, Rat.add_zero]
theorem sumN_add (f g : Nat → Rat) : ∀ n, sumN n (fun i => f i + g i) = sumN n f + sumN n g
  | 0 => by unfold sumN; rw [Rat.add_zero]
  | n + 1 => by
    unfold sumN
    rw [sumN_add f g n]
    grind
theorem sumN_mulr (f : Nat → Rat) (c : Rat) : ∀ n, sumN n (fun i => f i * c) = sumN n f * c
  | 0 => by unfold sumN; rw [Rat.zero_mul]
  | n + 1 => by
    unfold sumN
    rw [sumN_mulr f c n, Rat.add_mul]
theorem sumN_mull (f : Nat → Rat) (c : Rat) : ∀ n, sumN n (fun i => c * f i) = c * sumN n f
  | 0 => by unfold sumN; rw [Rat.mul_zero]
  | n + 1 => by
    unfold sumN
    rw [sumN_mull f c n, Rat.mul_add]
theorem sumN_comm (f : Nat → Nat → Rat) (m : Nat) : ∀ n, sumN n (fun i => sumN m (fun k => f i k)) = sumN m (fun k => sumN n (fun i => f i k))
  | 0 => (sumN_zero m).symm
  | n + 1 => by
    have e : sumN m (fun k => sumN (n + 1) (fun i => f i k)) = sumN m (fun k => sumN n (fun i => f i k) + f n k) := rfl
    rw [e, sumN_add, ← sumN_comm f m n]
    rfl
theorem sumN_shift (f : Nat → Rat) : ∀ n, sumN (n + 1) f = f 0 + sumN n (fun i => f (i + 1))
  | 0 => by unfold sumN; unfold sumN; rw [Rat.add_zero, Rat.zero_add]
  | n + 1 => by
    have e : sumN (n + 1 + 1) f = sumN (n + 1) f + f (n + 1) := rfl
    have e2 : sumN (n + 1) (fun i => f (i + 1)) = sumN n (fun i => f (i + 1)) + f (n + 1) := rfl
    rw [e, e2, sumN_shift f n, Rat.add_assoc]
theorem dot_fold : ∀ (a b : List Rat) (t : Rat) (n : Nat), a.length = n → b.length = n → (a.zip b).foldl (fun t p => t + p.1 * p.2) t = t + sumN n (fun i => a.getD i 0 * b.getD i 0)
  | [], b, t, n, ha, hb => by
    have : n = 0 := by simpa using ha.symm
    subst this
    show t = t + 0
    rw [Rat.add_zero]
  | x :: a, [], t, n, ha, hb => by
    rw [← hb] at ha
    simp at ha
  | x :: a, y :: b, t, n, ha, hb => by
    match n, ha, hb with
    | n + 1, ha, hb =>
      rw [List.zip_cons_cons, List.foldl_cons, dot_fold a b _ n (by simpa using ha) (by simpa using hb), sumN_shift]
      show t + x * y + sumN n (fun i => a.getD i 0 * b.getD i 0) = t + (x * y + sumN n (fun i => a.getD i 0 * b.getD i 0))
      rw [Rat.add_assoc]
theorem dot_sum {a b : List Rat} {n : Nat} (ha : a.length = n) (hb : b.length = n) : dotT a b = sumN n (fun i => a.getD i 0 * b.getD i 0) := by
  unfold dotT
  rw [dot_fold a b 0 n ha hb, Rat.zero_add]
theorem getD_map {α β : Type} (f : α → β) (l : List α) {i : Nat} (z : α) (y : β) (h : i < l.length) : (l.map f).getD i y = f (l.getD i z) := by
  rw [List.getD_eq_getElem?_getD, List.getD_eq_getElem?_getD, List.getElem?_map, List.getElem?_eq_getElem h]
  rfl
theorem getD_range {n i : Nat} (h : i < n) : (List.range n).getD i 0 = i := by
  rw [List.getD_eq_getElem?_getD, List.getElem?_range h]
  rfl
theorem colT_len (n : Nat) (q : List (List Rat)) (k : Nat) : (colT n q k).length = n := by unfold colT; rw [List.length_map, List.length_range]
theorem colT_get {n : Nat} (q : List (List Rat)) {k i : Nat} (hi : i < n) : (colT n q k).getD i 0 = (q.getD i []).getD k 0 := by
  unfold colT
  rw [getD_map _ _ 0 _ (by rw [List.length_range]; exact hi), getD_range hi]
/-- the joint square moves as the second and then the first do -/
theorem after_moves {n : Nat} {a b : List (List Rat)} {r : List Rat} (ha : Sq n a) (hb : Sq n b) (hr : r.length = n) : moveT (afterT n a b) r = moveT a (moveT b r) := by
  unfold moveT afterT
  rw [List.map_map]
  refine List.map_congr_left fun u hu => ?_
  have hul := ha.row u hu
  have hbl : (b.map fun v => dotT v r).length = n := by rw [List.length_map, hb.len]
  have hcl : ((colsT n b).map fun l => dotT u l).length = n := by unfold colsT; rw [List.length_map, List.length_map, List.length_range]
  show dotT ((colsT n b).map fun l => dotT u l) r = dotT u (b.map fun v => dotT v r)
  rw [dot_sum hcl hr, dot_sum hul hbl]
  have e1 : sumN n (fun k => ((colsT n b).map fun l => dotT u l).getD k 0 * r.getD k 0) = sumN n (fun k => sumN n (fun i => u.getD i 0 * (b.getD i []).getD k 0 * r.getD k 0)) := by
    refine sumN_congr n fun k hk => ?_
    have hcl2 : k < (colsT n b).length := by unfold colsT; rw [List.length_map, List.length_range]; exact hk
    rw [getD_map _ _ [] _ hcl2]
    have e : (colsT n b).getD k [] = colT n b k := by
      unfold colsT
      rw [getD_map _ _ 0 _ (by rw [List.length_range]; exact hk), getD_range hk]
    rw [e, dot_sum hul (colT_len n b k), sumN_mulr]
    congr 1
    exact sumN_congr n fun i hi => by rw [colT_get b hi]
  have e2 : sumN n (fun i => u.getD i 0 * (b.map fun v => dotT v r).getD i 0) = sumN n (fun i => sumN n (fun k => u.getD i 0 * (b.getD i []).getD k 0 * r.getD k 0)) := by
    refine sumN_congr n fun i hi => ?_
    have hbi : i < b.length := by rw [hb.len]; exact hi
    rw [getD_map _ _ [] _ hbi, dot_sum (hb.row _ (getD_mem hbi)) hr, ← sumN_mull]
    exact sumN_congr n fun k hk => by rw [Rat.mul_assoc]
  rw [e1, e2, sumN_comm]
/-! the law's own -/
theorem colT_map {n : Nat} {q : List (List Rat)} (h : Sq n q) (k : Nat) : (q.map fun l => l.getD k 0) = colT n q k := by
  apply List.ext_getElem?
  intro i
  unfold colT
  rw [List.getElem?_map, List.getElem?_map]
  by_cases hi : i < n
  · have hq : i < q.length := by rw [h.len]; exact hi
    rw [List.getElem?_eq_getElem hq, List.getElem?_range hi]
    show some (q[i].getD k 0) = some ((q.getD i []).getD k 0)
    rw [List.getD_eq_getElem?_getD (l := q), List.getElem?_eq_getElem hq]
    rfl
  · rw [List.getElem?_eq_none (by rw [h.len]; omega), List.getElem?_eq_none (by rw [List.length_range]; omega)]
    rfl
theorem row_draw {y0 y1 y4 y5 y6 y7 y8 y9 y10 y11 y12 y13 y14 : Option D} {n : Nat} (n6 : n ≤ 6) (m : Nat) (p : D) (hp : Ps (m + n * 3) p) : ∃ (r : List Rat) (p' : D), eComp [15] (iRange (aCons (eVar 3) aNil)) (gName 15) tYesF (eCallM m__law_number 0 2 (aHoleQ 2 aNil)) [y0, y1, some p, some (.int n), y4, y5, y6, y7, y8, y9, y10, y11, y12, y13, y14, none] = .ok (.lst (r.map eRat.en), [y0, y1, some p', some (.int n), y4, y5, y6, y7, y8, y9, y10, y11, y12, y13, y14, none]) ∧ r.length = n ∧ Szs 16 r ∧ Ps m p' := by
  have hr := rangeD1 (j := ((n : Nat) : Int)) (by omega) (by omega)
  rw [Int.toNat_natCast] at hr
  obtain ⟨r, p', e, hl, hg, hp'⟩ := compL_turn (vs := [15]) (b := gName 15) (fe := eCallM m__law_number 0 2 (aHoleQ 2 aNil)) (en := eRat.en) (f := fun k : Nat => D.int ((k : Nat) : Int)) (ρf := fun p => [y0, y1, some p, some (.int n), y4, y5, y6, y7, y8, y9, y10, y11, y12, y13, y14, none]) (Good := Sz 16) (c := 3) (by
    intro i m p hp
    obtain ⟨v, p1, e, hv, hp1⟩ := law_number_ok hp
    refine ⟨_, rfl, v, p1, [y0, y1, some p1, some (.int n), y4, y5, y6, y7, y8, y9, y10, y11, y12, y13, y14, some (.int ((i : Nat) : Int))], ?_, rfl, hv, hp1⟩
    simp (disch := first | assumption | decide | omega) only [runF, m0, sSeq, sSet, sIf, sRet, sRetN, sExpr, sSkip_ok, sSetIx, sFor, sPar, sBind, sAug, eVar, eCon_ok, eOp2, eOp1, eCall, eCallM, eCallT, eTup, eLst, eArg, eIf, tVal, tNotF, tAndF, tOrF, eB, eAndF, eOrF, eNotF, eIxQ, eIxO, aHoleQ, aHole, aNil_ok, aCons, oNone_ok, oSome, eSlice, eSliceL, iSeq, iRange, iArg, ePeek, tPeek, eOwnM, tYes_ok, bind_ok, bind_exc, bind_stuck, of_some, flatD, SW.gName, List.getD_cons_zero, List.getD_cons_succ, List.set_cons_zero, List.set_cons_succ, List.map_cons, List.map_nil, List.length_cons, List.length_nil, List.cons_append, List.nil_append, List.replicate, Nat.reduceAdd, Nat.reduceSub, addD_int, subD_int, negD_int, repD_int, modD_int, fdivD_int, ltA_int, leA_int, gtA_int, geA_int, eqD_int, neD_int, pow_10_18, pow_10_60, wipeR, e, Option.getD_some]) (List.range n) m p (by rw [List.length_range]; exact hp)
  rw [List.length_range] at hl
  refine ⟨r, p', ?_, hl, hg, hp'⟩
  simp (disch := first | assumption | decide | omega) only [eComp, runF, m0, sSeq, sSet, sIf, sRet, sRetN, sExpr, sSkip_ok, sSetIx, sFor, sPar, sBind, sAug, eVar, eCon_ok, eOp2, eOp1, eCall, eCallM, eCallT, eTup, eLst, eArg, eIf, tVal, tNotF, tAndF, tOrF, eB, eAndF, eOrF, eNotF, eIxQ, eIxO, aHoleQ, aHole, aNil_ok, aCons, oNone_ok, oSome, eSlice, eSliceL, iSeq, iRange, iArg, ePeek, tPeek, eOwnM, tYes_ok, bind_ok, bind_exc, bind_stuck, of_some, flatD, SW.gName, List.getD_cons_zero, List.getD_cons_succ, List.set_cons_zero, List.set_cons_succ, List.map_cons, List.map_nil, List.length_cons, List.length_nil, List.cons_append, List.nil_append, List.replicate, Nat.reduceAdd, Nat.reduceSub, addD_int, subD_int, negD_int, repD_int, modD_int, fdivD_int, ltA_int, leA_int, gtA_int, geA_int, eqD_int, neD_int, pow_10_18, pow_10_60, hr, e]
theorem sq_draw {y0 y1 y4 y5 y6 y7 y8 y9 y10 y11 y12 y13 : Option D} {n : Nat} (n6 : n ≤ 6) (m : Nat) (p : D) (hp : Ps (m + n * (n * 3)) p) : ∃ (q : List (List Rat)) (p' : D), eComp [14] (iRange (aCons (eVar 3) aNil)) (gName 14) tYesF (eComp [15] (iRange (aCons (eVar 3) aNil)) (gName 15) tYesF (eCallM m__law_number 0 2 (aHoleQ 2 aNil))) [y0, y1, some p, some (.int n), y4, y5, y6, y7, y8, y9, y10, y11, y12, y13, none, none] = .ok (.lst (q.map eRow.en), [y0, y1, some p', some (.int n), y4, y5, y6, y7, y8, y9, y10, y11, y12, y13, none, none]) ∧ Sq n q ∧ Szq 16 q ∧ Ps m p' := by
  have hr := rangeD1 (j := ((n : Nat) : Int)) (by omega) (by omega)
  rw [Int.toNat_natCast] at hr
  obtain ⟨q, p', e, hl, hg, hp'⟩ := compL_turn (vs := [14]) (b := gName 14) (fe := eComp [15] (iRange (aCons (eVar 3) aNil)) (gName 15) tYesF (eCallM m__law_number 0 2 (aHoleQ 2 aNil))) (en := eRow.en) (f := fun k : Nat => D.int ((k : Nat) : Int)) (ρf := fun p => [y0, y1, some p, some (.int n), y4, y5, y6, y7, y8, y9, y10, y11, y12, y13, none, none]) (Good := fun r => r.length = n ∧ Szs 16 r) (c := n * 3) (by
    intro i m p hp
    obtain ⟨r, p1, e, h1, h2, hp1⟩ := row_draw (y0 := y0) (y1 := y1) (y4 := y4) (y5 := y5) (y6 := y6) (y7 := y7) (y8 := y8) (y9 := y9) (y10 := y10) (y11 := y11) (y12 := y12) (y13 := y13) (y14 := some (.int ((i : Nat) : Int))) n6 m p hp
    exact ⟨_, rfl, r, p1, _, e, rfl, ⟨h1, h2⟩, hp1⟩) (List.range n) m p (by rw [List.length_range]; exact hp)
  rw [List.length_range] at hl
  refine ⟨q, p', ?_, ⟨hl, fun r h => (hg r h).1⟩, fun r h => (hg r h).2, hp'⟩
  simp (disch := first | assumption | decide | omega) only [eComp.eq_1 [14], runF, m0, sSeq, sSet, sIf, sRet, sRetN, sExpr, sSkip_ok, sSetIx, sFor, sPar, sBind, sAug, eVar, eCon_ok, eOp2, eOp1, eCall, eCallM, eCallT, eTup, eLst, eArg, eIf, tVal, tNotF, tAndF, tOrF, eB, eAndF, eOrF, eNotF, eIxQ, eIxO, aHoleQ, aHole, aNil_ok, aCons, oNone_ok, oSome, eSlice, eSliceL, iSeq, iRange, iArg, ePeek, tPeek, eOwnM, tYes_ok, bind_ok, bind_exc, bind_stuck, of_some, flatD, SW.gName, List.getD_cons_zero, List.getD_cons_succ, List.set_cons_zero, List.set_cons_succ, List.map_cons, List.map_nil, List.length_cons, List.length_nil, List.cons_append, List.nil_append, List.replicate, Nat.reduceAdd, Nat.reduceSub, addD_int, subD_int, negD_int, repD_int, modD_int, fdivD_int, ltA_int, leA_int, gtA_int, geA_int, eqD_int, neD_int, pow_10_18, pow_10_60, hr, e]
theorem copy_ok {y0 y1 y2 y3 y4 y5 y6 y7 y8 y9 y10 y11 y12 y13 : Option D} (q : List (List Rat)) : compL [14] (gName 14) tYesF (eArg listD (aCons (eVar 14) aNil)) (q.map eRow.en) [y0, y1, y2, y3, y4, y5, y6, y7, y8, y9, y10, y11, y12, y13, none, none] = .ok (q.map eRow.en, [y0, y1, y2, y3, y4, y5, y6, y7, y8, y9, y10, y11, y12, y13, none, none]) := by
  have hc := compL_of (vs := [14]) (b := gName 14) (tt := tYesF) (fe := (eArg listD (aCons (eVar 14) aNil))) (f := eRow.en) (ρ := [y0, y1, y2, y3, y4, y5, y6, y7, y8, y9, y10, y11, y12, y13, none, none]) (c := fun _ => true) (h := eRow.en) q (by
    intro r hr
    refine ⟨_, rfl, [y0, y1, y2, y3, y4, y5, y6, y7, y8, y9, y10, y11, y12, y13, some (eRow.en r), none], rfl, (fun z => by cases z), fun _ => ⟨[y0, y1, y2, y3, y4, y5, y6, y7, y8, y9, y10, y11, y12, y13, some (eRow.en r), none], ?_, rfl⟩⟩
    have e := listD_l (r.map eRat.en)
    change listD [eRow.en r] = some (eRow.en r) at e
    simp (disch := first | assumption | decide | omega) only [runF, m0, sSeq, sSet, sIf, sRet, sRetN, sExpr, sSkip_ok, sSetIx, sFor, sPar, sBind, sAug, eVar, eCon_ok, eOp2, eOp1, eCall, eCallM, eCallT, eTup, eLst, eArg, eIf, tVal, tNotF, tAndF, tOrF, eB, eAndF, eOrF, eNotF, eIxQ, eIxO, aHoleQ, aHole, aNil_ok, aCons, oNone_ok, oSome, eSlice, eSliceL, iSeq, iRange, iArg, ePeek, tPeek, eOwnM, tYes_ok, bind_ok, bind_exc, bind_stuck, of_some, flatD, SW.gName, List.getD_cons_zero, List.getD_cons_succ, List.set_cons_zero, List.set_cons_succ, List.map_cons, List.map_nil, List.length_cons, List.length_nil, List.cons_append, List.nil_append, List.replicate, Nat.reduceAdd, Nat.reduceSub, addD_int, subD_int, negD_int, repD_int, modD_int, fdivD_int, ltA_int, leA_int, gtA_int, geA_int, eqD_int, neD_int, pow_10_18, pow_10_60, e])
  rw [List.filter_eq_self.mpr (fun _ _ => rfl)] at hc
  exact hc
theorem pairs_ok {y0 y1 y2 y3 y4 y5 y7 y8 y9 y10 y11 y12 y13 : Option D} {n : Nat} {q : List (List Rat)} {r : List Rat} (h : Sq n q) (n6 : n ≤ 6) (h1 : Szq 16 q) (h2 : Szs 16 r) : compL [14] (gName 14) tYesF (eCall m__law_pairing (aCons (eVar 14) (aCons (eVar 6) aNil))) (q.map eRow.en) [y0, y1, y2, y3, y4, y5, some (.lst (r.map eRat.en)), y7, y8, y9, y10, y11, y12, y13, none, none] = .ok ((moveT q r).map eRat.en, [y0, y1, y2, y3, y4, y5, some (.lst (r.map eRat.en)), y7, y8, y9, y10, y11, y12, y13, none, none]) := by
  have hc := compL_of (vs := [14]) (b := gName 14) (tt := tYesF) (fe := (eCall m__law_pairing (aCons (eVar 14) (aCons (eVar 6) aNil)))) (f := eRow.en) (ρ := [y0, y1, y2, y3, y4, y5, some (.lst (r.map eRat.en)), y7, y8, y9, y10, y11, y12, y13, none, none]) (c := fun _ => true) (h := fun a => eRat.en (dotT a r)) q (by
    intro a ha
    refine ⟨_, rfl, [y0, y1, y2, y3, y4, y5, some (.lst (r.map eRat.en)), y7, y8, y9, y10, y11, y12, y13, some (eRow.en a), none], rfl, (fun z => by cases z), fun _ => ⟨[y0, y1, y2, y3, y4, y5, some (.lst (r.map eRat.en)), y7, y8, y9, y10, y11, y12, y13, some (eRow.en a), none], ?_, rfl⟩⟩
    have e := law_pairing_ok (h1 a ha) h2 (by rw [h.row a ha]; omega)
    change m__law_pairing [eRow.en a, _] = _ at e
    simp (disch := first | assumption | decide | omega) only [runF, m0, sSeq, sSet, sIf, sRet, sRetN, sExpr, sSkip_ok, sSetIx, sFor, sPar, sBind, sAug, eVar, eCon_ok, eOp2, eOp1, eCall, eCallM, eCallT, eTup, eLst, eArg, eIf, tVal, tNotF, tAndF, tOrF, eB, eAndF, eOrF, eNotF, eIxQ, eIxO, aHoleQ, aHole, aNil_ok, aCons, oNone_ok, oSome, eSlice, eSliceL, iSeq, iRange, iArg, ePeek, tPeek, eOwnM, tYes_ok, bind_ok, bind_exc, bind_stuck, of_some, flatD, SW.gName, List.getD_cons_zero, List.getD_cons_succ, List.set_cons_zero, List.set_cons_succ, List.map_cons, List.map_nil, List.length_cons, List.length_nil, List.cons_append, List.nil_append, List.replicate, Nat.reduceAdd, Nat.reduceSub, addD_int, subD_int, negD_int, repD_int, modD_int, fdivD_int, ltA_int, leA_int, gtA_int, geA_int, eqD_int, neD_int, pow_10_18, pow_10_60, e])
  rw [List.filter_eq_self.mpr (fun _ _ => rfl)] at hc
  have em : (q.map fun a => eRat.en (dotT a r)) = (moveT q r).map eRat.en := by unfold moveT; rw [List.map_map]; rfl
  rw [em] at hc
  exact hc
theorem col_ok {y0 y1 y2 y3 y4 y5 y6 y7 y8 y9 y10 y11 y12 : Option D} {n k : Nat} {q : List (List Rat)} (h : Sq n q) (hk : k < n) : compL [14] (gName 14) tYesF (eOp2 ixD (eVar 14) (eVar 13)) (q.map eRow.en) [y0, y1, y2, y3, y4, y5, y6, y7, y8, y9, y10, y11, y12, some (.int ((k : Nat) : Int)), none, none] = .ok ((colT n q k).map eRat.en, [y0, y1, y2, y3, y4, y5, y6, y7, y8, y9, y10, y11, y12, some (.int ((k : Nat) : Int)), none, none]) := by
  have hc := compL_of (vs := [14]) (b := gName 14) (tt := tYesF) (fe := (eOp2 ixD (eVar 14) (eVar 13))) (f := eRow.en) (ρ := [y0, y1, y2, y3, y4, y5, y6, y7, y8, y9, y10, y11, y12, some (.int ((k : Nat) : Int)), none, none]) (c := fun _ => true) (h := fun a => eRat.en (a.getD k 0)) q (by
    intro a ha
    refine ⟨_, rfl, [y0, y1, y2, y3, y4, y5, y6, y7, y8, y9, y10, y11, y12, some (.int ((k : Nat) : Int)), some (eRow.en a), none], rfl, (fun z => by cases z), fun _ => ⟨[y0, y1, y2, y3, y4, y5, y6, y7, y8, y9, y10, y11, y12, some (.int ((k : Nat) : Int)), some (eRow.en a), none], ?_, rfl⟩⟩
    have e := ix_any eRat.en a 0 (i := k) (by rw [h.row a ha]; exact hk)
    change ixD (eRow.en a) _ = _ at e
    simp (disch := first | assumption | decide | omega) only [runF, m0, sSeq, sSet, sIf, sRet, sRetN, sExpr, sSkip_ok, sSetIx, sFor, sPar, sBind, sAug, eVar, eCon_ok, eOp2, eOp1, eCall, eCallM, eCallT, eTup, eLst, eArg, eIf, tVal, tNotF, tAndF, tOrF, eB, eAndF, eOrF, eNotF, eIxQ, eIxO, aHoleQ, aHole, aNil_ok, aCons, oNone_ok, oSome, eSlice, eSliceL, iSeq, iRange, iArg, ePeek, tPeek, eOwnM, tYes_ok, bind_ok, bind_exc, bind_stuck, of_some, flatD, SW.gName, List.getD_cons_zero, List.getD_cons_succ, List.set_cons_zero, List.set_cons_succ, List.map_cons, List.map_nil, List.length_cons, List.length_nil, List.cons_append, List.nil_append, List.replicate, Nat.reduceAdd, Nat.reduceSub, addD_int, subD_int, negD_int, repD_int, modD_int, fdivD_int, ltA_int, leA_int, gtA_int, geA_int, eqD_int, neD_int, pow_10_18, pow_10_60, e])
  rw [List.filter_eq_self.mpr (fun _ _ => rfl)] at hc
  have em : (q.map fun a => eRat.en (a.getD k 0)) = (colT n q k).map eRat.en := by rw [← colT_map h k, List.map_map]; rfl
  rw [em] at hc
  exact hc
theorem after_sz {i j n : Nat} {a b : List (List Rat)} (ha : Sq n a) (hb : Sq n b) (h1 : Szq i a) (h2 : Szq j b) : Szq (1 + n * (i + j + 1)) (afterT n a b) := fun r hr x hx => by
  unfold afterT at hr
  obtain ⟨u, hu, rfl⟩ := List.mem_map.mp hr
  obtain ⟨l, hl, rfl⟩ := List.mem_map.mp hx
  unfold colsT at hl
  obtain ⟨k, hk, rfl⟩ := List.mem_map.mp hl
  exact dot_sz (h1 u hu) (colT_sz hb h2 (List.mem_range.mp hk)) (by rw [ha.row u hu]; exact Nat.le_refl _)
theorem after_sq {n : Nat} {a b : List (List Rat)} (ha : Sq n a) : Sq n (afterT n a b) := by
  refine ⟨by unfold afterT; rw [List.length_map, ha.len], fun r hr => ?_⟩
  unfold afterT at hr
  obtain ⟨u, hu, rfl⟩ := List.mem_map.mp hr
  unfold colsT
  rw [List.length_map, List.length_map, List.length_range]
theorem move_sz {i j n : Nat} {q : List (List Rat)} {r : List Rat} (h : Sq n q) (h1 : Szq i q) (h2 : Szs j r) : Szs (1 + n * (i + j + 1)) (moveT q r) := fun x hx => by
  unfold moveT at hx
  obtain ⟨u, hu, rfl⟩ := List.mem_map.mp hx
  exact dot_sz (h1 u hu) h2 (by rw [h.row u hu]; exact Nat.le_refl _)
theorem move_len {n : Nat} {q : List (List Rat)} {r : List Rat} (h : Sq n q) : (moveT q r).length = n := by unfold moveT; rw [List.length_map, h.len]
theorem after_get {n : Nat} {a b : List (List Rat)} (ha : Sq n a) {u k : Nat} (hu : u < n) (hk : k < n) : ((afterT n a b).getD u []).getD k 0 = dotT (a.getD u []) (colT n b k) := by
  unfold afterT
  rw [getD_map _ _ [] _ (by rw [ha.len]; exact hu)]
  unfold colsT
  rw [List.map_map, getD_map _ _ 0 _ (by rw [List.length_range]; exact hk), getD_range hk]
  rfl
abbrev bK : Rho → Out Fl := (sIf (tVal (eOp2 neD (eOp2 ixD (eOp2 ixD (eVar 11) (eVar 12)) (eVar 13)) (eCall m__law_pairing (aCons (eOp2 ixD (eVar 4) (eVar 12)) (aCons (eComp [14] (iSeq (eVar 5)) (gName 14) tYesF (eOp2 ixD (eVar 14) (eVar 13))) aNil))))) (sRet (eCon (.bl false))) sSkip)
abbrev bCell : Rho → Out Fl := (sSeq (sSet 2 (eCall m__law_purse (aCons (eVar 1) (aCons (eCon (.int 5)) aNil)))) (sSeq (sSet 3 (eOp2 addD (eCon (.int 1)) (eCallM m__law_take 0 2 (aHoleQ 2 (aCons (eOp2 ixD (eLst (aCons (eCon (.int 4)) (aCons (eCon (.int 4)) (aCons (eCon (.int 6)) aNil)))) (eCallM m__law_take 0 2 (aHoleQ 2 (aCons (eCon (.int 3)) aNil)))) aNil))))) (sSeq (sSet 4 (eComp [14] (iRange (aCons (eVar 3) aNil)) (gName 14) tYesF (eComp [15] (iRange (aCons (eVar 3) aNil)) (gName 15) tYesF (eCallM m__law_number 0 2 (aHoleQ 2 aNil))))) (sSeq (sSet 5 (eComp [14] (iRange (aCons (eVar 3) aNil)) (gName 14) tYesF (eComp [15] (iRange (aCons (eVar 3) aNil)) (gName 15) tYesF (eCallM m__law_number 0 2 (aHoleQ 2 aNil))))) (sSeq (sSet 6 (eComp [15] (iRange (aCons (eVar 3) aNil)) (gName 15) tYesF (eCallM m__law_number 0 2 (aHoleQ 2 aNil)))) (sSeq (sSet 7 (eComp [14] (iSeq (eVar 4)) (gName 14) tYesF (eArg listD (aCons (eVar 14) aNil)))) (sSeq (sSet 8 (eComp [14] (iSeq (eVar 5)) (gName 14) tYesF (eArg listD (aCons (eVar 14) aNil)))) (sSeq (sSet 9 (eArg listD (aCons (eVar 6) aNil))) (sSeq (sSet 10 (eCall m_moved (aCons (eVar 7) (aCons (eVar 9) aNil)))) (sSeq (sIf (tOrF (tNotF (tVal (eCall m__law_is_row (aCons (eVar 10) (aCons (eVar 3) aNil))))) (tVal (eOp2 neD (eVar 10) (eComp [14] (iSeq (eVar 4)) (gName 14) tYesF (eCall m__law_pairing (aCons (eVar 14) (aCons (eVar 6) aNil))))))) (sRet (eCon (.bl false))) sSkip) (sSeq (sSet 11 (eCall m_after (aCons (eVar 7) (aCons (eVar 8) aNil)))) (sSeq (sIf (tOrF (tNotF (tVal (eCall m__law_is_rows (aCons (eVar 11) (aCons (eVar 3) aNil))))) (tVal (eOp2 neD (eArg lenD (aCons (eVar 11) aNil)) (eVar 3)))) (sRet (eCon (.bl false))) sSkip) (sSeq (sFor (iRange (aCons (eVar 3) aNil)) (gName 12) (sFor (iRange (aCons (eVar 3) aNil)) (gName 13) (sIf (tVal (eOp2 neD (eOp2 ixD (eOp2 ixD (eVar 11) (eVar 12)) (eVar 13)) (eCall m__law_pairing (aCons (eOp2 ixD (eVar 4) (eVar 12)) (aCons (eComp [14] (iSeq (eVar 5)) (gName 14) tYesF (eOp2 ixD (eVar 14) (eVar 13))) aNil))))) (sRet (eCon (.bl false))) sSkip))) (sSeq (sIf (tVal (eOp2 neD (eCall m_moved (aCons (eVar 11) (aCons (eVar 9) aNil))) (eCall m_moved (aCons (eVar 7) (aCons (eCall m_moved (aCons (eVar 8) (aCons (eVar 9) aNil))) aNil))))) (sRet (eCon (.bl false))) sSkip) (sIf (tOrF (tVal (eOp2 neD (eVar 7) (eVar 4))) (tOrF (tVal (eOp2 neD (eVar 8) (eVar 5))) (tVal (eOp2 neD (eVar 9) (eVar 6))))) (sRet (eCon (.bl false))) sSkip)))))))))))))))
theorem k_loop {y0 y1 y2 y3 y6 y7 y8 y9 y10 y13 : Option D} {n u : Nat} {a b : List (List Rat)} (ha : Sq n a) (hb : Sq n b) (n6 : n ≤ 6) (h1 : Szq 16 a) (h2 : Szq 16 b) (hu : u < n) :
    ∃ z, forL (gName 13) bK ((List.range n).map fun k : Nat => D.int ((k : Nat) : Int)) [y0, y1, y2, y3, some (.lst (a.map eRow.en)), some (.lst (b.map eRow.en)), y6, y7, y8, y9, y10, some (.lst ((afterT n a b).map eRow.en)), some (.int ((u : Nat) : Int)), y13, none, none] = .ok (.nx [y0, y1, y2, y3, some (.lst (a.map eRow.en)), some (.lst (b.map eRow.en)), y6, y7, y8, y9, y10, some (.lst ((afterT n a b).map eRow.en)), some (.int ((u : Nat) : Int)), z, none, none]) := by
  obtain ⟨ρ', e, z, rfl⟩ := forL_fold (b := gName 13) (g := bK) (f := fun k : Nat => D.int ((k : Nat) : Int)) (σ := Unit) (step := fun s _ => s) (St := fun _ ρ => ∃ z, ρ = [y0, y1, y2, y3, some (.lst (a.map eRow.en)), some (.lst (b.map eRow.en)), y6, y7, y8, y9, y10, some (.lst ((afterT n a b).map eRow.en)), some (.int ((u : Nat) : Int)), z, none, none]) (List.range n) () _ ⟨y13, rfl⟩ (by
    rintro k hk _ ρ ⟨z, rfl⟩
    have hk := List.mem_range.mp hk
    have hq := after_sq (b := b) ha
    have x1 := ix_any eRow.en (afterT n a b) [] (i := u) (by rw [hq.len]; exact hu)
    have x2 := ix_any eRat.en ((afterT n a b).getD u []) 0 (i := k) (by rw [hq.row _ (getD_mem (by rw [hq.len]; exact hu))]; exact hk)
    change ixD (eRow.en ((afterT n a b).getD u [])) _ = _ at x2
    rw [after_get ha hu hk] at x2
    have x3 := ix_any eRow.en a [] (i := u) (by rw [ha.len]; exact hu)
    have hm : a.getD u [] ∈ a := getD_mem (by rw [ha.len]; exact hu)
    have e := law_pairing_ok (h1 _ hm) (colT_sz hb h2 hk) (by rw [ha.row _ hm]; omega)
    change m__law_pairing [eRow.en (a.getD u []), _] = _ at e
    have q := neD_rat (dotT (a.getD u []) (colT n b k)) (dotT (a.getD u []) (colT n b k))
    rw [decide_eq_true rfl] at q
    refine ⟨_, [y0, y1, y2, y3, some (.lst (a.map eRow.en)), some (.lst (b.map eRow.en)), y6, y7, y8, y9, y10, some (.lst ((afterT n a b).map eRow.en)), some (.int ((u : Nat) : Int)), some (.int ((k : Nat) : Int)), none, none], rfl, ?_, _, rfl⟩
    simp (disch := first | assumption | decide | omega) only [bK, runF, m0, sSeq, sSet, sIf, sRet, sRetN, sExpr, sSkip_ok, sSetIx, sFor, sPar, sBind, sAug, eVar, eCon_ok, eOp2, eOp1, eCall, eCallM, eCallT, eTup, eLst, eArg, eIf, tVal, tNotF, tAndF, tOrF, eB, eAndF, eOrF, eNotF, eIxQ, eIxO, aHoleQ, aHole, aNil_ok, aCons, oNone_ok, oSome, eSlice, eSliceL, iSeq, iRange, iArg, ePeek, tPeek, eOwnM, tYes_ok, bind_ok, bind_exc, bind_stuck, of_some, flatD, SW.gName, List.getD_cons_zero, List.getD_cons_succ, List.set_cons_zero, List.set_cons_succ, List.map_cons, List.map_nil, List.length_cons, List.length_nil, List.cons_append, List.nil_append, List.replicate, Nat.reduceAdd, Nat.reduceSub, addD_int, subD_int, negD_int, repD_int, modD_int, fdivD_int, ltA_int, leA_int, gtA_int, geA_int, eqD_int, neD_int, pow_10_18, pow_10_60, x1, x2, x3, itemsOf_l, eComp, col_ok hb hk, e, q, Bool.not_true, Bool.false_eq_true, if_false])
  exact ⟨z, e⟩
theorem cell_ok (i : Int) (y0 y2 y3 y4 y5 y6 y7 y8 y9 y10 y11 y12 y13 : Option D) : ∃ z2 z3 z4 z5 z6 z7 z8 z9 z10 z11 z12 z13, bCell [y0, some (.int i), y2, y3, y4, y5, y6, y7, y8, y9, y10, y11, y12, y13, none, none] = .ok (.nx [y0, some (.int i), z2, z3, z4, z5, z6, z7, z8, z9, z10, z11, z12, z13, none, none]) := by
  obtain ⟨p, e1, hp⟩ := purse_ok i 5 (by decide) (by decide)
  obtain ⟨g1, p1, t1, g10, g11, hp1⟩ := take_ok (n := 1000) (many := 3) (Ps.mono (by omega) hp) (by decide) (by decide)
  have hm : ∃ m : Int, ixD (.lst [.int 4, .int 4, .int 6]) (.int g1) = some (.int m) ∧ 1 ≤ m ∧ m ≤ 6 := by
    have : g1 = 0 ∨ g1 = 1 ∨ g1 = 2 := by omega
    rcases this with rfl | rfl | rfl
    · exact ⟨4, rfl, by decide, by decide⟩
    · exact ⟨4, rfl, by decide, by decide⟩
    · exact ⟨6, rfl, by decide, by decide⟩
  obtain ⟨m, em, m1, m6⟩ := hm
  obtain ⟨g2, p2, t2, g20, g21, hp2⟩ := take_ok (n := 999) (many := m) hp1 m1 (Int.lt_of_le_of_lt m6 (by decide))
  obtain ⟨n, en, n1, n6⟩ : ∃ n : Nat, 1 + g2 = ((n : Nat) : Int) ∧ 1 ≤ n ∧ n ≤ 6 := ⟨(1 + g2).toNat, by omega, by omega, by omega⟩
  have nn : n * (n * 3) ≤ 108 := Nat.le_trans (Nat.mul_le_mul n6 (Nat.mul_le_mul_right 3 n6)) (by decide)
  obtain ⟨a, p3, ea, ha, sa, hp3⟩ := sq_draw (y0 := y0) (y1 := some (.int i)) (y4 := y4) (y5 := y5) (y6 := y6) (y7 := y7) (y8 := y8) (y9 := y9) (y10 := y10) (y11 := y11) (y12 := y12) (y13 := y13) n6 800 p2 (Ps.mono (by omega) hp2)
  obtain ⟨b, p4, eb, hb, sb, hp4⟩ := sq_draw (y0 := y0) (y1 := some (.int i)) (y4 := some (.lst (a.map eRow.en))) (y5 := y5) (y6 := y6) (y7 := y7) (y8 := y8) (y9 := y9) (y10 := y10) (y11 := y11) (y12 := y12) (y13 := y13) n6 600 p3 (Ps.mono (by omega) hp3)
  obtain ⟨r, p5, er, hr, sr, hp5⟩ := row_draw (y0 := y0) (y1 := some (.int i)) (y4 := some (.lst (a.map eRow.en))) (y5 := some (.lst (b.map eRow.en))) (y6 := y6) (y7 := y7) (y8 := y8) (y9 := y9) (y10 := y10) (y11 := y11) (y12 := y12) (y13 := y13) (y14 := none) n6 400 p4 (Ps.mono (by omega) hp4)
  have M1 := moved_ok ha n1 n6 hr sa sr (by omega)
  have A1 := after_ok ha hb n1 n6 sa sb (by omega)
  have sj : Szq 199 (afterT n a b) := fun u hu => (after_sz ha hb sa sb u hu).mono (by omega)
  have hj := after_sq (b := b) ha
  have M2 := moved_ok hj n1 n6 hr sj sr (by omega)
  have M3 := moved_ok hb n1 n6 hr sb sr (by omega)
  have s3 : Szs 199 (moveT b r) := (move_sz hb sb sr).mono (by omega)
  have M4 := moved_ok ha n1 n6 (move_len (r := r) hb) sa s3 (by omega)
  have I1 := law_is_row_ok (move_len (r := r) ha) ((move_sz ha sa sr).mono (show _ ≤ 199 by omega)) (by decide)
  have I2 := law_is_rows_ok hj.row sj (by decide)
  have N1 := neD_row (moveT a r) (moveT a r)
  have N2 := neD_row (moveT (afterT n a b) r) (moveT a (moveT b r))
  rw [after_moves ha hb hr] at N2
  have N3 := neD_sq a a
  have N4 := neD_sq b b
  have N5 := neD_row r r
  rw [decide_eq_true rfl] at N1 N2 N3 N4 N5
  rw [after_moves ha hb hr] at M2
  have L1 : lenD [.lst ((afterT n a b).map eRow.en)] = some (.int n) := by rw [lenD_l, hj.len]
  have dn : ((n : Nat) : Int) = ((n : Nat) : Int) := rfl
  have hrg := rangeD1 (j := ((n : Nat) : Int)) (by omega) (by omega)
  rw [Int.toNat_natCast] at hrg
  obtain ⟨ρ', eL, z12, z13, rfl⟩ := forL_fold (b := gName 12) (g := sFor (iRange (aCons (eVar 3) aNil)) (gName 13) bK) (f := fun k : Nat => D.int ((k : Nat) : Int)) (σ := Unit) (step := fun s _ => s) (St := fun _ ρ => ∃ z12 z13, ρ = [y0, some (.int i), some p5, some (.int n), some (.lst (a.map eRow.en)), some (.lst (b.map eRow.en)), some (.lst (r.map eRat.en)), some (.lst (a.map eRow.en)), some (.lst (b.map eRow.en)), some (.lst (r.map eRat.en)), some (.lst ((moveT a r).map eRat.en)), some (.lst ((afterT n a b).map eRow.en)), z12, z13, none, none]) (List.range n) () _ ⟨y12, y13, rfl⟩ (by
    rintro u hu _ ρ ⟨z12, z13, rfl⟩
    have hu := List.mem_range.mp hu
    obtain ⟨z, e⟩ := k_loop (y0 := y0) (y1 := some (.int i)) (y2 := some p5) (y3 := some (.int n)) (y6 := some (.lst (r.map eRat.en))) (y7 := some (.lst (a.map eRow.en))) (y8 := some (.lst (b.map eRow.en))) (y9 := some (.lst (r.map eRat.en))) (y10 := some (.lst ((moveT a r).map eRat.en))) (y13 := z13) ha hb n6 sa sb hu
    refine ⟨_, _, rfl, ?_, some (.int ((u : Nat) : Int)), z, rfl⟩
    generalize bK = B at e ⊢
    simp (disch := first | assumption | decide | omega) only [runF, m0, sSeq, sSet, sIf, sRet, sRetN, sExpr, sSkip_ok, sSetIx, sFor, sPar, sBind, sAug, eVar, eCon_ok, eOp2, eOp1, eCall, eCallM, eCallT, eTup, eLst, eArg, eIf, tVal, tNotF, tAndF, tOrF, eB, eAndF, eOrF, eNotF, eIxQ, eIxO, aHoleQ, aHole, aNil_ok, aCons, oNone_ok, oSome, eSlice, eSliceL, iSeq, iRange, iArg, ePeek, tPeek, eOwnM, tYes_ok, bind_ok, bind_exc, bind_stuck, of_some, flatD, SW.gName, List.getD_cons_zero, List.getD_cons_succ, List.set_cons_zero, List.set_cons_succ, List.map_cons, List.map_nil, List.length_cons, List.length_nil, List.cons_append, List.nil_append, List.replicate, Nat.reduceAdd, Nat.reduceSub, addD_int, subD_int, negD_int, repD_int, modD_int, fdivD_int, ltA_int, leA_int, gtA_int, geA_int, eqD_int, neD_int, pow_10_18, pow_10_60, hrg, e])
  have c4 := fun y2 y3 y5 y6 y7 y8 y9 y10 y11 y12 y13 => copy_ok (y0 := y0) (y1 := some (.int i)) (y2 := y2) (y3 := y3) (y4 := some (.lst (a.map eRow.en))) (y5 := y5) (y6 := y6) (y7 := y7) (y8 := y8) (y9 := y9) (y10 := y10) (y11 := y11) (y12 := y12) (y13 := y13) a
  refine ⟨some p5, some (.int n), some (.lst (a.map eRow.en)), some (.lst (b.map eRow.en)), some (.lst (r.map eRat.en)), some (.lst (a.map eRow.en)), some (.lst (b.map eRow.en)), some (.lst (r.map eRat.en)), some (.lst ((moveT a r).map eRat.en)), some (.lst ((afterT n a b).map eRow.en)), z12, z13, ?_⟩
  have eA : ∀ (f g : Rho → Out Fl), True := fun _ _ => trivial
  unfold bK at eL
  simp (disch := first | assumption | decide | omega) only [bCell, runF, m0, sSeq, sSet, sIf, sRet, sRetN, sExpr, sSkip_ok, sSetIx, sFor, sPar, sBind, sAug, eVar, eCon_ok, eOp2, eOp1, eCall, eCallM, eCallT, eTup, eLst, eArg, eIf, tVal, tNotF, tAndF, tOrF, eB, eAndF, eOrF, eNotF, eIxQ, eIxO, aHoleQ, aHole, aNil_ok, aCons, oNone_ok, oSome, eSlice, eSliceL, iSeq, iRange, iArg, ePeek, tPeek, eOwnM, tYes_ok, bind_ok, bind_exc, bind_stuck, of_some, flatD, SW.gName, List.getD_cons_zero, List.getD_cons_succ, List.set_cons_zero, List.set_cons_succ, List.map_cons, List.map_nil, List.length_cons, List.length_nil, List.cons_append, List.nil_append, List.replicate, Nat.reduceAdd, Nat.reduceSub, addD_int, subD_int, negD_int, repD_int, modD_int, fdivD_int, ltA_int, leA_int, gtA_int, geA_int, eqD_int, neD_int, pow_10_18, pow_10_60, e1, t1, em, t2, en, Option.getD_some, ea, eb, er]
  simp (disch := first | assumption | decide | omega) only [eComp, runF, m0, sSeq, sSet, sIf, sRet, sRetN, sExpr, sSkip_ok, sSetIx, sFor, sPar, sBind, sAug, eVar, eCon_ok, eOp2, eOp1, eCall, eCallM, eCallT, eTup, eLst, eArg, eIf, tVal, tNotF, tAndF, tOrF, eB, eAndF, eOrF, eNotF, eIxQ, eIxO, aHoleQ, aHole, aNil_ok, aCons, oNone_ok, oSome, eSlice, eSliceL, iSeq, iRange, iArg, ePeek, tPeek, eOwnM, tYes_ok, bind_ok, bind_exc, bind_stuck, of_some, flatD, SW.gName, List.getD_cons_zero, List.getD_cons_succ, List.set_cons_zero, List.set_cons_succ, List.map_cons, List.map_nil, List.length_cons, List.length_nil, List.cons_append, List.nil_append, List.replicate, Nat.reduceAdd, Nat.reduceSub, addD_int, subD_int, negD_int, repD_int, modD_int, fdivD_int, ltA_int, leA_int, gtA_int, geA_int, eqD_int, neD_int, pow_10_18, pow_10_60, itemsOf_l, copy_ok, listD_l, M1, I1, pairs_ok ha n6 sa sr, N1, A1, I2, L1, decide_eq_true dn, decide_true, hrg, eL, M2, M3, M4, N2, N3, N4, N5, Bool.not_true, Bool.false_eq_true, if_false, if_true]
theorem law_true : ∀ ns : List Int, ns.length ≤ 63 → ∃ o, m_law [.scr ns] = .ok (.bl true, o) := by
  intro ns hns
  obtain ⟨i, hi⟩ := law_at_ok ns 1 (by decide)
  have hc := cells_cut ns (k := 2) (by decide)
  have ha := addD_lst ((ns.take (2 : Int).toNat).map D.int) [.int i] (by rw [List.length_map, List.length_take]; simp; omega)
  have em : (ns.take (2 : Int).toNat).map D.int ++ [.int i] = (ns.take (2 : Int).toNat ++ [i]).map D.int := by rw [List.map_append]; rfl
  rw [em] at ha
  obtain ⟨ρ', e, y1, y2, y3, y4, y5, y6, y7, y8, y9, y10, y11, y12, y13, rfl⟩ := forL_fold (b := gName 1) (g := bCell) (f := D.int) (σ := Unit) (step := fun s _ => s) (St := fun _ ρ => ∃ y1 y2 y3 y4 y5 y6 y7 y8 y9 y10 y11 y12 y13, ρ = [some (.scr ns), y1, y2, y3, y4, y5, y6, y7, y8, y9, y10, y11, y12, y13, none, none]) (ns.take (2 : Int).toNat ++ [i]) () [some (.scr ns), none, none, none, none, none, none, none, none, none, none, none, none, none, none, none] ⟨_, _, _, _, _, _, _, _, _, _, _, _, _, rfl⟩ (by
    rintro j - _ ρ ⟨y1, y2, y3, y4, y5, y6, y7, y8, y9, y10, y11, y12, y13, rfl⟩
    obtain ⟨z2, z3, z4, z5, z6, z7, z8, z9, z10, z11, z12, z13, e⟩ := cell_ok j (some (.scr ns)) y2 y3 y4 y5 y6 y7 y8 y9 y10 y11 y12 y13
    exact ⟨_, _, rfl, e, _, _, _, _, _, _, _, _, _, _, _, _, _, rfl⟩)
  refine ⟨.non, ?_⟩
  unfold bCell at e
  simp (disch := first | assumption | decide | omega) only [m_law, b_law, runF, m0, sSeq, sSet, sIf, sRet, sRetN, sExpr, sSkip_ok, sSetIx, sFor, sPar, sBind, sAug, eVar, eCon_ok, eOp2, eOp1, eCall, eCallM, eCallT, eTup, eLst, eArg, eIf, tVal, tNotF, tAndF, tOrF, eB, eAndF, eOrF, eNotF, eIxQ, eIxO, aHoleQ, aHole, aNil_ok, aCons, oNone_ok, oSome, eSlice, eSliceL, iSeq, iRange, iArg, ePeek, tPeek, eOwnM, tYes_ok, bind_ok, bind_exc, bind_stuck, of_some, flatD, SW.gName, List.getD_cons_zero, List.getD_cons_succ, List.set_cons_zero, List.set_cons_succ, List.map_cons, List.map_nil, List.length_cons, List.length_nil, List.cons_append, List.nil_append, List.replicate, Nat.reduceAdd, Nat.reduceSub, addD_int, subD_int, negD_int, repD_int, modD_int, fdivD_int, ltA_int, leA_int, gtA_int, geA_int, eqD_int, neD_int, pow_10_18, pow_10_60, hc, hi, ha, itemsOf_l, e]

end Lw

set_option maxRecDepth 100000
set_option maxHeartbeats 0
namespace Lw
open PySem PySem.Spec PyProof.Rows L2 SW
def topS (i : Nat) : Stmt := PySem.Challenge.pw_swaprest_k05_squares_moved.main.body.getD i (.Pass ⟨0, 0, 0, 0⟩)

abbrev s__law_mixed : Stmt := topS 24
theorem sc__law_mixed : FnScope nn__law_mixed ["_law_cell", "_law_k"] (defScope s__law_mixed) := ⟨rfl, rfl, rfl, by decide +kernel, rfl, by decide +kernel, by decide +kernel⟩

abbrev s__law_purse : Stmt := topS 25
theorem sc__law_purse : FnScope nn__law_purse ["_law_cell", "_law_k"] (defScope s__law_purse) := ⟨rfl, rfl, rfl, by decide +kernel, rfl, by decide +kernel, by decide +kernel⟩

abbrev s_divisor : Stmt := topS 7
theorem sc_divisor : FnScope nn_divisor ["one", "other"] (defScope s_divisor) := ⟨rfl, rfl, rfl, by decide +kernel, rfl, by decide +kernel, by decide +kernel⟩

abbrev s_lowest : Stmt := topS 8
theorem sc_lowest : FnScope nn_lowest ["top", "bottom"] (defScope s_lowest) := ⟨rfl, rfl, rfl, by decide +kernel, rfl, by decide +kernel, by decide +kernel⟩

abbrev s_plus : Stmt := topS 10
theorem sc_plus : FnScope nn_plus ["one", "other"] (defScope s_plus) := ⟨rfl, rfl, rfl, by decide +kernel, rfl, by decide +kernel, by decide +kernel⟩

abbrev s_times : Stmt := topS 11
theorem sc_times : FnScope nn_times ["one", "other"] (defScope s_times) := ⟨rfl, rfl, rfl, by decide +kernel, rfl, by decide +kernel, by decide +kernel⟩

abbrev s_paired : Stmt := topS 14
theorem sc_paired : FnScope nn_paired ["one", "other"] (defScope s_paired) := ⟨rfl, rfl, rfl, by decide +kernel, rfl, by decide +kernel, by decide +kernel⟩

abbrev s_move : Stmt := topS 19
theorem sc_move : FnScope nn_move ["square", "row"] (defScope s_move) := ⟨rfl, rfl, rfl, by decide +kernel, rfl, by decide +kernel, by decide +kernel⟩

abbrev s_is_whole : Stmt := topS 6
theorem sc_is_whole : FnScope nn_is_whole ["one"] (defScope s_is_whole) := ⟨rfl, rfl, rfl, by decide +kernel, rfl, by decide +kernel, by decide +kernel⟩

abbrev s_is_number : Stmt := topS 9
theorem sc_is_number : FnScope nn_is_number ["one"] (defScope s_is_number) := ⟨rfl, rfl, rfl, by decide +kernel, rfl, by decide +kernel, by decide +kernel⟩

abbrev s_is_row : Stmt := topS 13
theorem sc_is_row : FnScope nn_is_row ["row", "width"] (defScope s_is_row) := ⟨rfl, rfl, rfl, by decide +kernel, rfl, by decide +kernel, by decide +kernel⟩

abbrev s_is_square : Stmt := topS 16
theorem sc_is_square : FnScope nn_is_square ["square", "side"] (defScope s_is_square) := ⟨rfl, rfl, rfl, by decide +kernel, rfl, by decide +kernel, by decide +kernel⟩

abbrev s_is_some_square : Stmt := topS 17
theorem sc_is_some_square : FnScope nn_is_some_square ["square", "most"] (defScope s_is_some_square) := ⟨rfl, rfl, rfl, by decide +kernel, rfl, by decide +kernel, by decide +kernel⟩

abbrev s_moved : Stmt := topS 21
theorem sc_moved : FnScope nn_moved ["square", "row"] (defScope s_moved) := ⟨rfl, rfl, rfl, by decide +kernel, rfl, by decide +kernel, by decide +kernel⟩

abbrev s_turned_about : Stmt := topS 18
theorem sc_turned_about : FnScope nn_turned_about ["square"] (defScope s_turned_about) := ⟨rfl, rfl, rfl, by decide +kernel, rfl, by decide +kernel, by decide +kernel⟩

abbrev s_behind_one : Stmt := topS 20
theorem sc_behind_one : FnScope nn_behind_one ["one", "other"] (defScope s_behind_one) := ⟨rfl, rfl, rfl, by decide +kernel, rfl, by decide +kernel, by decide +kernel⟩

abbrev s_after : Stmt := topS 22
theorem sc_after : FnScope nn_after ["one", "other"] (defScope s_after) := ⟨rfl, rfl, rfl, by decide +kernel, rfl, by decide +kernel, by decide +kernel⟩

abbrev s__law_at : Stmt := topS 27
theorem sc__law_at : FnScope nn__law_at ["_law_script", "_law_k"] (defScope s__law_at) := ⟨rfl, rfl, rfl, by decide +kernel, rfl, by decide +kernel, by decide +kernel⟩

abbrev s__law_take : Stmt := topS 26
theorem sc__law_take : FnScope nn__law_take ["_law_purse_here", "_law_many"] (defScope s__law_take) := ⟨rfl, rfl, rfl, by decide +kernel, rfl, by decide +kernel, by decide +kernel⟩

abbrev s__law_low : Stmt := topS 28
theorem sc__law_low : FnScope nn__law_low ["_law_top", "_law_bottom"] (defScope s__law_low) := ⟨rfl, rfl, rfl, by decide +kernel, rfl, by decide +kernel, by decide +kernel⟩

abbrev s__law_number : Stmt := topS 32
theorem sc__law_number : FnScope nn__law_number ["_law_purse_here"] (defScope s__law_number) := ⟨rfl, rfl, rfl, by decide +kernel, rfl, by decide +kernel, by decide +kernel⟩

abbrev s__law_is_whole : Stmt := topS 33
theorem sc__law_is_whole : FnScope nn__law_is_whole ["_law_told"] (defScope s__law_is_whole) := ⟨rfl, rfl, rfl, by decide +kernel, rfl, by decide +kernel, by decide +kernel⟩

abbrev s__law_is_number : Stmt := topS 34
theorem sc__law_is_number : FnScope nn__law_is_number ["_law_told"] (defScope s__law_is_number) := ⟨rfl, rfl, rfl, by decide +kernel, rfl, by decide +kernel, by decide +kernel⟩

abbrev s__law_is_row : Stmt := topS 35
theorem sc__law_is_row : FnScope nn__law_is_row ["_law_told", "_law_width"] (defScope s__law_is_row) := ⟨rfl, rfl, rfl, by decide +kernel, rfl, by decide +kernel, by decide +kernel⟩

abbrev s__law_is_rows : Stmt := topS 36
theorem sc__law_is_rows : FnScope nn__law_is_rows ["_law_told", "_law_width"] (defScope s__law_is_rows) := ⟨rfl, rfl, rfl, by decide +kernel, rfl, by decide +kernel, by decide +kernel⟩

abbrev s__law_plus : Stmt := topS 29
theorem sc__law_plus : FnScope nn__law_plus ["_law_one", "_law_other"] (defScope s__law_plus) := ⟨rfl, rfl, rfl, by decide +kernel, rfl, by decide +kernel, by decide +kernel⟩

abbrev s__law_by : Stmt := topS 30
theorem sc__law_by : FnScope nn__law_by ["_law_one", "_law_other"] (defScope s__law_by) := ⟨rfl, rfl, rfl, by decide +kernel, rfl, by decide +kernel, by decide +kernel⟩

abbrev s__law_pairing : Stmt := topS 37
theorem sc__law_pairing : FnScope nn__law_pairing ["_law_one", "_law_other"] (defScope s__law_pairing) := ⟨rfl, rfl, rfl, by decide +kernel, rfl, by decide +kernel, by decide +kernel⟩

abbrev s_law : Stmt := topS 38
theorem sc_law : FnScope nn_law ["_law_script"] (defScope s_law) := ⟨rfl, rfl, rfl, by decide +kernel, rfl, by decide +kernel, by decide +kernel⟩

structure Txt (K : PySem.W.Frag) (mg : Str → Option Value) where

  a__law_mixed : Addr
  d__law_mixed : FuncData
  F__law_mixed : Fun K "_law_mixed" "_law_mixed" s__law_mixed a__law_mixed d__law_mixed
  g__law_mixed : mg "_law_mixed" = some (.ref a__law_mixed)
  k__law_mixed : PySem.W.keepIn K (.ref a__law_mixed) = true
  b__law_mixed : L2.Binds K d__law_mixed ["_law_cell", "_law_k"] []

  a__law_purse : Addr
  d__law_purse : FuncData
  F__law_purse : Fun K "_law_purse" "_law_purse" s__law_purse a__law_purse d__law_purse
  g__law_purse : mg "_law_purse" = some (.ref a__law_purse)
  k__law_purse : PySem.W.keepIn K (.ref a__law_purse) = true
  b__law_purse : L2.Binds K d__law_purse ["_law_cell", "_law_k"] []

  a_divisor : Addr
  d_divisor : FuncData
  F_divisor : Fun K "divisor" "divisor" s_divisor a_divisor d_divisor
  g_divisor : mg "divisor" = some (.ref a_divisor)
  k_divisor : PySem.W.keepIn K (.ref a_divisor) = true
  b_divisor : L2.Binds K d_divisor ["one", "other"] []

  a_lowest : Addr
  d_lowest : FuncData
  F_lowest : Fun K "lowest" "lowest" s_lowest a_lowest d_lowest
  g_lowest : mg "lowest" = some (.ref a_lowest)
  k_lowest : PySem.W.keepIn K (.ref a_lowest) = true
  b_lowest : L2.Binds K d_lowest ["top", "bottom"] []

  a_plus : Addr
  d_plus : FuncData
  F_plus : Fun K "plus" "plus" s_plus a_plus d_plus
  g_plus : mg "plus" = some (.ref a_plus)
  k_plus : PySem.W.keepIn K (.ref a_plus) = true
  b_plus : L2.Binds K d_plus ["one", "other"] []

  a_times : Addr
  d_times : FuncData
  F_times : Fun K "times" "times" s_times a_times d_times
  g_times : mg "times" = some (.ref a_times)
  k_times : PySem.W.keepIn K (.ref a_times) = true
  b_times : L2.Binds K d_times ["one", "other"] []

  a_paired : Addr
  d_paired : FuncData
  F_paired : Fun K "paired" "paired" s_paired a_paired d_paired
  g_paired : mg "paired" = some (.ref a_paired)
  k_paired : PySem.W.keepIn K (.ref a_paired) = true
  b_paired : L2.Binds K d_paired ["one", "other"] []

  a_move : Addr
  d_move : FuncData
  F_move : Fun K "move" "move" s_move a_move d_move
  g_move : mg "move" = some (.ref a_move)
  k_move : PySem.W.keepIn K (.ref a_move) = true
  b_move : L2.Binds K d_move ["square", "row"] []

  a_is_whole : Addr
  d_is_whole : FuncData
  F_is_whole : Fun K "is_whole" "is_whole" s_is_whole a_is_whole d_is_whole
  g_is_whole : mg "is_whole" = some (.ref a_is_whole)
  k_is_whole : PySem.W.keepIn K (.ref a_is_whole) = true
  b_is_whole : L2.Binds K d_is_whole ["one"] []

  a_is_number : Addr
  d_is_number : FuncData
  F_is_number : Fun K "is_number" "is_number" s_is_number a_is_number d_is_number
  g_is_number : mg "is_number" = some (.ref a_is_number)
  k_is_number : PySem.W.keepIn K (.ref a_is_number) = true
  b_is_number : L2.Binds K d_is_number ["one"] []

  a_is_row : Addr
  d_is_row : FuncData
  F_is_row : Fun K "is_row" "is_row" s_is_row a_is_row d_is_row
  g_is_row : mg "is_row" = some (.ref a_is_row)
  k_is_row : PySem.W.keepIn K (.ref a_is_row) = true
  b_is_row : L2.Binds K d_is_row ["row", "width"] []

  a_is_square : Addr
  d_is_square : FuncData
  F_is_square : Fun K "is_square" "is_square" s_is_square a_is_square d_is_square
  g_is_square : mg "is_square" = some (.ref a_is_square)
  k_is_square : PySem.W.keepIn K (.ref a_is_square) = true
  b_is_square : L2.Binds K d_is_square ["square", "side"] []

  a_is_some_square : Addr
  d_is_some_square : FuncData
  F_is_some_square : Fun K "is_some_square" "is_some_square" s_is_some_square a_is_some_square d_is_some_square
  g_is_some_square : mg "is_some_square" = some (.ref a_is_some_square)
  k_is_some_square : PySem.W.keepIn K (.ref a_is_some_square) = true
  b_is_some_square : L2.Binds K d_is_some_square ["square", "most"] []

  a_moved : Addr
  d_moved : FuncData
  F_moved : Fun K "moved" "moved" s_moved a_moved d_moved
  g_moved : mg "moved" = some (.ref a_moved)
  k_moved : PySem.W.keepIn K (.ref a_moved) = true
  b_moved : L2.Binds K d_moved ["square", "row"] []

  a_turned_about : Addr
  d_turned_about : FuncData
  F_turned_about : Fun K "turned_about" "turned_about" s_turned_about a_turned_about d_turned_about
  g_turned_about : mg "turned_about" = some (.ref a_turned_about)
  k_turned_about : PySem.W.keepIn K (.ref a_turned_about) = true
  b_turned_about : L2.Binds K d_turned_about ["square"] []

  a_behind_one : Addr
  d_behind_one : FuncData
  F_behind_one : Fun K "behind_one" "behind_one" s_behind_one a_behind_one d_behind_one
  g_behind_one : mg "behind_one" = some (.ref a_behind_one)
  k_behind_one : PySem.W.keepIn K (.ref a_behind_one) = true
  b_behind_one : L2.Binds K d_behind_one ["one", "other"] []

  a_after : Addr
  d_after : FuncData
  F_after : Fun K "after" "after" s_after a_after d_after
  g_after : mg "after" = some (.ref a_after)
  k_after : PySem.W.keepIn K (.ref a_after) = true
  b_after : L2.Binds K d_after ["one", "other"] []

  a__law_at : Addr
  d__law_at : FuncData
  F__law_at : Fun K "_law_at" "_law_at" s__law_at a__law_at d__law_at
  g__law_at : mg "_law_at" = some (.ref a__law_at)
  k__law_at : PySem.W.keepIn K (.ref a__law_at) = true
  b__law_at : L2.Binds K d__law_at ["_law_script", "_law_k"] []

  a__law_take : Addr
  d__law_take : FuncData
  F__law_take : Fun K "_law_take" "_law_take" s__law_take a__law_take d__law_take
  g__law_take : mg "_law_take" = some (.ref a__law_take)
  k__law_take : PySem.W.keepIn K (.ref a__law_take) = true
  b__law_take : L2.Binds K d__law_take ["_law_purse_here", "_law_many"] []

  a__law_low : Addr
  d__law_low : FuncData
  F__law_low : Fun K "_law_low" "_law_low" s__law_low a__law_low d__law_low
  g__law_low : mg "_law_low" = some (.ref a__law_low)
  k__law_low : PySem.W.keepIn K (.ref a__law_low) = true
  b__law_low : L2.Binds K d__law_low ["_law_top", "_law_bottom"] []

  a__law_number : Addr
  d__law_number : FuncData
  F__law_number : Fun K "_law_number" "_law_number" s__law_number a__law_number d__law_number
  g__law_number : mg "_law_number" = some (.ref a__law_number)
  k__law_number : PySem.W.keepIn K (.ref a__law_number) = true
  b__law_number : L2.Binds K d__law_number ["_law_purse_here"] []

  a__law_is_whole : Addr
  d__law_is_whole : FuncData
  F__law_is_whole : Fun K "_law_is_whole" "_law_is_whole" s__law_is_whole a__law_is_whole d__law_is_whole
  g__law_is_whole : mg "_law_is_whole" = some (.ref a__law_is_whole)
  k__law_is_whole : PySem.W.keepIn K (.ref a__law_is_whole) = true
  b__law_is_whole : L2.Binds K d__law_is_whole ["_law_told"] []

  a__law_is_number : Addr
  d__law_is_number : FuncData
  F__law_is_number : Fun K "_law_is_number" "_law_is_number" s__law_is_number a__law_is_number d__law_is_number
  g__law_is_number : mg "_law_is_number" = some (.ref a__law_is_number)
  k__law_is_number : PySem.W.keepIn K (.ref a__law_is_number) = true
  b__law_is_number : L2.Binds K d__law_is_number ["_law_told"] []

  a__law_is_row : Addr
  d__law_is_row : FuncData
  F__law_is_row : Fun K "_law_is_row" "_law_is_row" s__law_is_row a__law_is_row d__law_is_row
  g__law_is_row : mg "_law_is_row" = some (.ref a__law_is_row)
  k__law_is_row : PySem.W.keepIn K (.ref a__law_is_row) = true
  b__law_is_row : L2.Binds K d__law_is_row ["_law_told", "_law_width"] []

  a__law_is_rows : Addr
  d__law_is_rows : FuncData
  F__law_is_rows : Fun K "_law_is_rows" "_law_is_rows" s__law_is_rows a__law_is_rows d__law_is_rows
  g__law_is_rows : mg "_law_is_rows" = some (.ref a__law_is_rows)
  k__law_is_rows : PySem.W.keepIn K (.ref a__law_is_rows) = true
  b__law_is_rows : L2.Binds K d__law_is_rows ["_law_told", "_law_width"] []

  a__law_plus : Addr
  d__law_plus : FuncData
  F__law_plus : Fun K "_law_plus" "_law_plus" s__law_plus a__law_plus d__law_plus
  g__law_plus : mg "_law_plus" = some (.ref a__law_plus)
  k__law_plus : PySem.W.keepIn K (.ref a__law_plus) = true
  b__law_plus : L2.Binds K d__law_plus ["_law_one", "_law_other"] []

  a__law_by : Addr
  d__law_by : FuncData
  F__law_by : Fun K "_law_by" "_law_by" s__law_by a__law_by d__law_by
  g__law_by : mg "_law_by" = some (.ref a__law_by)
  k__law_by : PySem.W.keepIn K (.ref a__law_by) = true
  b__law_by : L2.Binds K d__law_by ["_law_one", "_law_other"] []

  a__law_pairing : Addr
  d__law_pairing : FuncData
  F__law_pairing : Fun K "_law_pairing" "_law_pairing" s__law_pairing a__law_pairing d__law_pairing
  g__law_pairing : mg "_law_pairing" = some (.ref a__law_pairing)
  k__law_pairing : PySem.W.keepIn K (.ref a__law_pairing) = true
  b__law_pairing : L2.Binds K d__law_pairing ["_law_one", "_law_other"] []

  a_law : Addr
  d_law : FuncData
  F_law : Fun K "law" "law" s_law a_law d_law
  g_law : mg "law" = some (.ref a_law)
  k_law : PySem.W.keepIn K (.ref a_law) = true
  b_law : L2.Binds K d_law ["_law_script"] []

  z_abs : mg "abs" = none

  z_bool : mg "bool" = none

  z_int : mg "int" = none

  z_isinstance : mg "isinstance" = none

  z_len : mg "len" = none

  z_list : mg "list" = none

  z_range : mg "range" = none

  z_tuple : mg "tuple" = none

  z_zip : mg "zip" = none

  c_NOUGHT : Konst K mg "NOUGHT" k_NOUGHT

section
variable {P : Program} {w : World} {K : PySem.W.Frag} {mg : Str → Option Value} {base : Heap}

theorem ok__law_mixed (T : Txt K mg) : FnOk P w K mg base (L2.CX P w) 1 T.a__law_mixed T.d__law_mixed ["_law_cell", "_law_k"] (spec K mg 2 none false m__law_mixed) := by
  refine @fn_by P w K mg base "_law_mixed" "_law_mixed" s__law_mixed T.a__law_mixed T.d__law_mixed nn__law_mixed ["_law_cell", "_law_k"] 0 2 none false b__law_mixed [false, false, false] [false, false, false] T.F__law_mixed sc__law_mixed rfl (fun _ => rfl) (os_ok rfl) rfl (.inl rfl) (fun cdv A outer s H E hr X eX tk hp => ?_)
  subst eX
  unfold b__law_mixed
  exact (vss_cons (vs_set 2 (ve_bin o_add (ve_bin o_add (ve_bin o_mul (ve_bin o_add (ve_bin o_mod (ve_var 0) (ve_bin o_add (ve_bin o_pow ve_int ve_int) ve_int)) (ve_bin o_mul ve_int (ve_var 1))) ve_int) (ve_bin o_mul ve_int (ve_var 1))) ve_int) sc__law_mixed.nd) (vss_cons (vs_set 2 (ve_bin o_mod (ve_bin o_mul (ve_var 2) (ve_var 2)) (ve_bin o_add (ve_bin o_pow ve_int ve_int) ve_int)) sc__law_mixed.nd) (vss_one (vs_ret (ve_bin o_mod (ve_bin o_mul (ve_bin o_add (ve_var 2) ve_int) (ve_bin o_add (ve_var 2) ve_int)) (ve_bin o_add (ve_bin o_pow ve_int ve_int) ve_int))))))

theorem ok__law_purse (T : Txt K mg) : FnOk P w K mg base (L2.CX P w) 2 T.a__law_purse T.d__law_purse ["_law_cell", "_law_k"] (spec K mg 2 none true m__law_purse) := by
  refine @fn_by P w K mg base "_law_purse" "_law_purse" s__law_purse T.a__law_purse T.d__law_purse nn__law_purse ["_law_cell", "_law_k"] 1 2 none true b__law_purse [false, false] [false, false] T.F__law_purse sc__law_purse rfl (fun _ => rfl) (os_ok rfl) rfl (.inr (nn_seq nn_ret)) (fun cdv A outer s H E hr X eX tk hp => ?_)
  subst eX
  unfold b__law_purse
  exact (vss_cons (vs_if (vt_cmp (o_geA (hr.units)) (ve_var 0) (ve_bin o_pow ve_int ve_int)) (vss_one (vs_retO (ve_lstO (va_cons (ve_bin o_sub (ve_var 0) (ve_bin o_pow ve_int ve_int)) (va_cons ve_int (va_cons (ve_var 1) va_nil)))))) vss_nil) (vss_one (vs_retO (ve_lstO (va_cons (ve_call (ok__law_mixed T) tk (hr.mono (by decide)) T.g__law_mixed T.k__law_mixed T.b__law_mixed (va_cons (ve_var 0) (va_cons (ve_var 1) va_nil))) (va_cons ve_int (va_cons (ve_bin o_add (ve_bin o_mod (ve_var 0) (ve_bin o_add (ve_bin o_pow ve_int ve_int) ve_int)) (ve_var 1)) va_nil)))))))

theorem ok_divisor (T : Txt K mg) : FnOk P w K mg base (L2.CX P w) 1 T.a_divisor T.d_divisor ["one", "other"] (spec K mg 2 none false m_divisor) := by
  refine @fn_by P w K mg base "divisor" "divisor" s_divisor T.a_divisor T.d_divisor nn_divisor ["one", "other"] 0 2 none false b_divisor [false, false] [false, false] T.F_divisor sc_divisor rfl (fun _ => rfl) (os_ok rfl) rfl (.inl rfl) (fun cdv A outer s H E hr X eX tk hp => ?_)
  subst eX
  unfold b_divisor
  exact (vss_cons (vs_set 0 (ve_callB c_abs (va_cons (ve_var 0) va_nil) T.z_abs bt_abs) sc_divisor.nd) (vss_cons (vs_set 1 (ve_callB c_abs (va_cons (ve_var 1) va_nil) T.z_abs bt_abs) sc_divisor.nd) (vss_cons (vs_while (fuel := (fuelInt 1)) hp (vt_cmp (o_ne (hr.units)) (ve_var 1) ve_int) (vss_one (vs_par 0 1 (va_cons (ve_var 1) (va_cons (ve_bin o_mod (ve_var 0) (ve_var 1)) va_nil)) sc_divisor.nd))) (vss_one (vs_ret (ve_var 0))))))

theorem ok_lowest (T : Txt K mg) : FnOk P w K mg base (L2.CX P w) 2 T.a_lowest T.d_lowest ["top", "bottom"] (spec K mg 2 none false m_lowest) := by
  refine @fn_by P w K mg base "lowest" "lowest" s_lowest T.a_lowest T.d_lowest nn_lowest ["top", "bottom"] 1 2 none false b_lowest [false, false, false] [false, false, false] T.F_lowest sc_lowest rfl (fun _ => rfl) (os_ok rfl) rfl (.inl rfl) (fun cdv A outer s H E hr X eX tk hp => ?_)
  subst eX
  unfold b_lowest
  exact (vss_cons (vs_if (vt_cmp (o_ltA (hr.units)) (ve_var 1) ve_int) (vss_cons (vs_set 0 (ve_un o_neg (ve_var 0)) sc_lowest.nd) (vss_one (vs_set 1 (ve_un o_neg (ve_var 1)) sc_lowest.nd))) vss_nil) (vss_cons (vs_set 2 (ve_call (ok_divisor T) tk (hr.mono (by decide)) T.g_divisor T.k_divisor T.b_divisor (va_cons (ve_var 0) (va_cons (ve_var 1) va_nil))) sc_lowest.nd) (vss_one (vs_ret (ve_tup (va_cons (ve_bin o_fdiv (ve_var 0) (ve_var 2)) (va_cons (ve_bin o_fdiv (ve_var 1) (ve_var 2)) va_nil)))))))

theorem ok_plus (T : Txt K mg) : FnOk P w K mg base (L2.CX P w) 3 T.a_plus T.d_plus ["one", "other"] (spec K mg 2 none false m_plus) := by
  refine @fn_by P w K mg base "plus" "plus" s_plus T.a_plus T.d_plus nn_plus ["one", "other"] 2 2 none false b_plus [false, false] [false, false] T.F_plus sc_plus rfl (fun _ => rfl) (os_ok rfl) rfl (.inl rfl) (fun cdv A outer s H E hr X eX tk hp => ?_)
  subst eX
  unfold b_plus
  exact (vss_cons (vs_if (VW.vt (vw_and (vt_cmp (o_eq (hr.units)) (ve_ix (ve_var 0) ve_int) ve_int) (vw_and1 (vt_cmp (o_eq (hr.units)) (ve_ix (ve_var 1) ve_int) ve_int)))) (vss_one (vs_ret (ve_tup (va_cons (ve_bin o_add (ve_ix (ve_var 0) ve_int) (ve_ix (ve_var 1) ve_int)) (va_cons ve_int va_nil))))) vss_nil) (vss_one (vs_ret (ve_call (ok_lowest T) tk (hr.mono (by decide)) T.g_lowest T.k_lowest T.b_lowest (va_cons (ve_bin o_add (ve_bin o_mul (ve_ix (ve_var 0) ve_int) (ve_ix (ve_var 1) ve_int)) (ve_bin o_mul (ve_ix (ve_var 1) ve_int) (ve_ix (ve_var 0) ve_int))) (va_cons (ve_bin o_mul (ve_ix (ve_var 0) ve_int) (ve_ix (ve_var 1) ve_int)) va_nil))))))

theorem ok_times (T : Txt K mg) : FnOk P w K mg base (L2.CX P w) 3 T.a_times T.d_times ["one", "other"] (spec K mg 2 none false m_times) := by
  refine @fn_by P w K mg base "times" "times" s_times T.a_times T.d_times nn_times ["one", "other"] 2 2 none false b_times [false, false] [false, false] T.F_times sc_times rfl (fun _ => rfl) (os_ok rfl) rfl (.inl rfl) (fun cdv A outer s H E hr X eX tk hp => ?_)
  subst eX
  unfold b_times
  exact (vss_cons (vs_if (VW.vt (vw_and (vt_cmp (o_eq (hr.units)) (ve_ix (ve_var 0) ve_int) ve_int) (vw_and1 (vt_cmp (o_eq (hr.units)) (ve_ix (ve_var 1) ve_int) ve_int)))) (vss_one (vs_ret (ve_tup (va_cons (ve_bin o_mul (ve_ix (ve_var 0) ve_int) (ve_ix (ve_var 1) ve_int)) (va_cons ve_int va_nil))))) vss_nil) (vss_one (vs_ret (ve_call (ok_lowest T) tk (hr.mono (by decide)) T.g_lowest T.k_lowest T.b_lowest (va_cons (ve_bin o_mul (ve_ix (ve_var 0) ve_int) (ve_ix (ve_var 1) ve_int)) (va_cons (ve_bin o_mul (ve_ix (ve_var 0) ve_int) (ve_ix (ve_var 1) ve_int)) va_nil))))))

theorem ok_paired (T : Txt K mg) : FnOk P w K mg base (L2.CX P w) 4 T.a_paired T.d_paired ["one", "other"] (spec K mg 2 none false m_paired) := by
  refine @fn_by P w K mg base "paired" "paired" s_paired T.a_paired T.d_paired nn_paired ["one", "other"] 3 2 none false b_paired [false, false, false, false, false] [false, false, false, false, false] T.F_paired sc_paired rfl (fun _ => rfl) (os_ok rfl) rfl (.inl rfl) (fun cdv A outer s H E hr X eX tk hp => ?_)
  subst eX
  unfold b_paired
  exact (vss_cons (vs_set 2 (ve_konst T.c_NOUGHT) sc_paired.nd) (vss_cons (vs_for hp (vi_zip (va_cons (ve_var 0) (va_cons (ve_var 1) va_nil)) T.z_zip) (vg_tup (vgs_cons (vg_name 3 sc_paired.nd) (vgs_cons (vg_name 4 sc_paired.nd) vgs_nil))) (vss_one (vs_if (VW.vt (vw_and (vt_cmp (o_ne (hr.units)) (ve_ix (ve_var 3) ve_int) ve_int) (vw_and1 (vt_cmp (o_ne (hr.units)) (ve_ix (ve_var 4) ve_int) ve_int)))) (vss_one (vs_set 2 (ve_call (ok_plus T) tk (hr.mono (by decide)) T.g_plus T.k_plus T.b_plus (va_cons (ve_var 2) (va_cons (ve_call (ok_times T) tk (hr.mono (by decide)) T.g_times T.k_times T.b_times (va_cons (ve_var 3) (va_cons (ve_var 4) va_nil))) va_nil))) sc_paired.nd)) vss_nil))) (vss_one (vs_ret (ve_var 2)))))

theorem ok_move (T : Txt K mg) : FnOk P w K mg base (L2.CX P w) 5 T.a_move T.d_move ["square", "row"] (spec K mg 2 none true m_move) := by
  refine @fn_by P w K mg base "move" "move" s_move T.a_move T.d_move nn_move ["square", "row"] 4 2 none true b_move [false, false, false] [false, false, false] T.F_move sc_move rfl (fun _ => rfl) (os_ok rfl) rfl (.inr nn_ret) (fun cdv A outer s H E hr X eX tk hp => ?_)
  subst eX
  unfold b_move
  exact (vss_one (vs_retO (ve_lc (own := [("one", 2)]) (blkOk_by (N := nn_move) (sc := defScope s_move) (by decide +kernel)) (vi_seq (ve_var 0)) (fun _ _ _ _ _ => (vg_name 2 sc_move.nd)) (fun _ _ _ _ _ => vts_nil) (fun _ _ _ _ _ => (ve_call (ok_paired T) takes0 (hr.mono (by decide)) T.g_paired T.k_paired T.b_paired (va_cons (ve_var 2) (va_cons (ve_var 1) va_nil)))) sc_move.nd)))

theorem ok_is_whole (T : Txt K mg) : FnOk P w K mg base (L2.CX P w) 1 T.a_is_whole T.d_is_whole ["one"] (spec K mg 1 none false m_is_whole) := by
  refine @fn_by P w K mg base "is_whole" "is_whole" s_is_whole T.a_is_whole T.d_is_whole nn_is_whole ["one"] 0 1 none false b_is_whole [false] [false] T.F_is_whole sc_is_whole rfl (fun _ => rfl) (os_ok rfl) rfl (.inl rfl) (fun cdv A outer s H E hr X eX tk hp => ?_)
  subst eX
  unfold b_is_whole
  exact (vss_one (vs_ret (ve_and (ve_callB c_isi (va_cons (ve_var 0) (va_cons (ve_ty (T := .int) T.z_int bt_int) va_nil)) T.z_isinstance bt_isinstance) (ve_one (ve_not (ve_callB c_isi (va_cons (ve_var 0) (va_cons (ve_ty (T := .bool) T.z_bool bt_bool) va_nil)) T.z_isinstance bt_isinstance))))))

theorem ok_is_number (T : Txt K mg) : FnOk P w K mg base (L2.CX P w) 2 T.a_is_number T.d_is_number ["one"] (spec K mg 1 none false m_is_number) := by
  refine @fn_by P w K mg base "is_number" "is_number" s_is_number T.a_is_number T.d_is_number nn_is_number ["one"] 1 1 none false b_is_number [false] [false] T.F_is_number sc_is_number rfl (fun _ => rfl) (os_ok rfl) rfl (.inl rfl) (fun cdv A outer s H E hr X eX tk hp => ?_)
  subst eX
  unfold b_is_number
  exact (vss_cons (vs_if (VW.vt (vw_or (vt_not (vt_val (ve_callB c_isi (va_cons (ve_var 0) (va_cons (ve_ty (T := .tuple) T.z_tuple bt_tuple) va_nil)) T.z_isinstance bt_isinstance))) (vw_or1 (vt_cmp (o_ne (hr.units)) (ve_callB c_len (va_cons (ve_var 0) va_nil) T.z_len bt_len) ve_int)))) (vss_one (vs_ret ve_bl)) vss_nil) (vss_cons (vs_if (VW.vt (vw_or (vt_not (vt_val (ve_call (ok_is_whole T) tk (hr.mono (by decide)) T.g_is_whole T.k_is_whole T.b_is_whole (va_cons (ve_ix (ve_var 0) ve_int) va_nil)))) (vw_or1 (vt_not (vt_val (ve_call (ok_is_whole T) tk (hr.mono (by decide)) T.g_is_whole T.k_is_whole T.b_is_whole (va_cons (ve_ix (ve_var 0) ve_int) va_nil))))))) (vss_one (vs_ret ve_bl)) vss_nil) (vss_one (vs_ret (ve_and (ve_cmp (o_geA (hr.units)) (ve_ix (ve_var 0) ve_int) ve_int) (ve_one (ve_cmp (o_eq (hr.units)) (ve_call (ok_divisor T) tk (hr.mono (by decide)) T.g_divisor T.k_divisor T.b_divisor (va_cons (ve_ix (ve_var 0) ve_int) (va_cons (ve_ix (ve_var 0) ve_int) va_nil))) ve_int)))))))

theorem ok_is_row (T : Txt K mg) : FnOk P w K mg base (L2.CX P w) 3 T.a_is_row T.d_is_row ["row", "width"] (spec K mg 2 none false m_is_row) := by
  refine @fn_by P w K mg base "is_row" "is_row" s_is_row T.a_is_row T.d_is_row nn_is_row ["row", "width"] 2 2 none false b_is_row [false, false, false] [false, false, false] T.F_is_row sc_is_row rfl (fun _ => rfl) (os_ok rfl) rfl (.inl rfl) (fun cdv A outer s H E hr X eX tk hp => ?_)
  subst eX
  unfold b_is_row
  exact (vss_cons (vs_if (VW.vt (vw_or (vt_not (vt_val (ve_callB c_isi (va_cons (ve_var 0) (va_cons (ve_ty (T := .list) T.z_list bt_list) va_nil)) T.z_isinstance bt_isinstance))) (vw_or1 (vt_cmp (o_ne (hr.units)) (ve_callB c_len (va_cons (ve_var 0) va_nil) T.z_len bt_len) (ve_var 1))))) (vss_one (vs_ret ve_bl)) vss_nil) (vss_cons (vs_for hp (vi_seq (ve_var 0)) (vg_name 2 sc_is_row.nd) (vss_one (vs_if (vt_not (vt_val (ve_call (ok_is_number T) tk (hr.mono (by decide)) T.g_is_number T.k_is_number T.b_is_number (va_cons (ve_var 2) va_nil)))) (vss_one (vs_ret ve_bl)) vss_nil))) (vss_one (vs_ret ve_bl))))

theorem ok_is_square (T : Txt K mg) : FnOk P w K mg base (L2.CX P w) 4 T.a_is_square T.d_is_square ["square", "side"] (spec K mg 2 none false m_is_square) := by
  refine @fn_by P w K mg base "is_square" "is_square" s_is_square T.a_is_square T.d_is_square nn_is_square ["square", "side"] 3 2 none false b_is_square [false, false, false] [false, false, false] T.F_is_square sc_is_square rfl (fun _ => rfl) (os_ok rfl) rfl (.inl rfl) (fun cdv A outer s H E hr X eX tk hp => ?_)
  subst eX
  unfold b_is_square
  exact (vss_cons (vs_if (VW.vt (vw_or (vt_not (vt_val (ve_callB c_isi (va_cons (ve_var 0) (va_cons (ve_ty (T := .list) T.z_list bt_list) va_nil)) T.z_isinstance bt_isinstance))) (vw_or1 (vt_cmp (o_ne (hr.units)) (ve_callB c_len (va_cons (ve_var 0) va_nil) T.z_len bt_len) (ve_var 1))))) (vss_one (vs_ret ve_bl)) vss_nil) (vss_cons (vs_for hp (vi_seq (ve_var 0)) (vg_name 2 sc_is_square.nd) (vss_one (vs_if (vt_not (vt_val (ve_call (ok_is_row T) tk (hr.mono (by decide)) T.g_is_row T.k_is_row T.b_is_row (va_cons (ve_var 2) (va_cons (ve_var 1) va_nil))))) (vss_one (vs_ret ve_bl)) vss_nil))) (vss_one (vs_ret ve_bl))))

theorem ok_is_some_square (T : Txt K mg) : FnOk P w K mg base (L2.CX P w) 5 T.a_is_some_square T.d_is_some_square ["square", "most"] (spec K mg 2 none false m_is_some_square) := by
  refine @fn_by P w K mg base "is_some_square" "is_some_square" s_is_some_square T.a_is_some_square T.d_is_some_square nn_is_some_square ["square", "most"] 4 2 none false b_is_some_square [false, false] [false, false] T.F_is_some_square sc_is_some_square rfl (fun _ => rfl) (os_ok rfl) rfl (.inl rfl) (fun cdv A outer s H E hr X eX tk hp => ?_)
  subst eX
  unfold b_is_some_square
  exact (vss_one (vs_ret (ve_and (ve_callB c_isi (va_cons (ve_var 0) (va_cons (ve_ty (T := .list) T.z_list bt_list) va_nil)) T.z_isinstance bt_isinstance) (ve_and (ve_chain (o_leA (hr.units)) (o_leA (hr.units)) ve_int (ve_callB c_len (va_cons (ve_var 0) va_nil) T.z_len bt_len) (ve_var 1)) (ve_one (ve_call (ok_is_square T) tk (hr.mono (by decide)) T.g_is_square T.k_is_square T.b_is_square (va_cons (ve_var 0) (va_cons (ve_callB c_len (va_cons (ve_var 0) va_nil) T.z_len bt_len) va_nil))))))))

theorem ok_moved (T : Txt K mg) : FnOk P w K mg base (L2.CX P w) 6 T.a_moved T.d_moved ["square", "row"] (spec K mg 2 none true m_moved) := by
  refine @fn_by P w K mg base "moved" "moved" s_moved T.a_moved T.d_moved nn_moved ["square", "row"] 5 2 none true b_moved [false, false] [false, false] T.F_moved sc_moved rfl (fun _ => rfl) (os_ok rfl) rfl (.inr (nn_seq (nn_seq nn_ret))) (fun cdv A outer s H E hr X eX tk hp => ?_)
  subst eX
  unfold b_moved
  exact (vss_cons (vs_if (vt_not (vt_val (ve_call (ok_is_some_square T) tk (hr.mono (by decide)) T.g_is_some_square T.k_is_some_square T.b_is_some_square (va_cons (ve_var 0) (va_cons ve_int va_nil))))) (vss_one vs_stuck) vss_nil) (vss_cons (vs_if (vt_not (vt_val (ve_call (ok_is_row T) tk (hr.mono (by decide)) T.g_is_row T.k_is_row T.b_is_row (va_cons (ve_var 1) (va_cons (ve_callB c_len (va_cons (ve_var 0) va_nil) T.z_len bt_len) va_nil))))) (vss_one vs_stuck) vss_nil) (vss_one (vs_retO (ve_call (ok_move T) tk (hr.mono (by decide)) T.g_move T.k_move T.b_move (va_cons (ve_var 0) (va_cons (ve_var 1) va_nil)))))))

theorem ok_turned_about (T : Txt K mg) : FnOk P w K mg base (L2.CX P w) 1 T.a_turned_about T.d_turned_about ["square"] (spec K mg 1 none true m_turned_about) := by
  refine @fn_by P w K mg base "turned_about" "turned_about" s_turned_about T.a_turned_about T.d_turned_about nn_turned_about ["square"] 0 1 none true b_turned_about [false, false, false, false] [false, false, false, false] T.F_turned_about sc_turned_about rfl (fun _ => rfl) (os_ok rfl) rfl (.inr (nn_seq nn_ret)) (fun cdv A outer s H E hr X eX tk hp => ?_)
  subst eX
  unfold b_turned_about
  exact (vss_cons (vs_set 1 (ve_callB c_len (va_cons (ve_var 0) va_nil) T.z_len bt_len) sc_turned_about.nd) (vss_one (vs_retO (ve_lc (own := [("at", 2)]) (blkOk_by (N := nn_turned_about) (sc := defScope s_turned_about) (by decide +kernel)) (vi_range1 (va_cons (ve_var 1) va_nil) T.z_range) (fun _ _ _ _ _ => (vg_name 2 sc_turned_about.nd)) (fun _ _ _ _ _ => vts_nil) (fun _ _ _ _ _ => (VE.fz (ve_lc (own := [("place", 3)]) (blkOk_in (N := nn_turned_about) (by decide +kernel)) (vi_range1 (va_cons (ve_var 1) va_nil) T.z_range) (fun _ _ _ _ _ => (vg_name 3 sc_turned_about.nd)) (fun _ _ _ _ _ => vts_nil) (fun _ _ _ _ _ => (ve_ix (ve_ix (ve_var 0) (ve_var 3)) (ve_var 2))) sc_turned_about.nd))) sc_turned_about.nd))))

theorem ok_behind_one (T : Txt K mg) : FnOk P w K mg base (L2.CX P w) 5 T.a_behind_one T.d_behind_one ["one", "other"] (spec K mg 2 none true m_behind_one) := by
  refine @fn_by P w K mg base "behind_one" "behind_one" s_behind_one T.a_behind_one T.d_behind_one nn_behind_one ["one", "other"] 4 2 none true b_behind_one [false, false, false, false, false] [false, false, false, false, false] T.F_behind_one sc_behind_one rfl (fun _ => rfl) (os_ok rfl) rfl (.inr (nn_seq nn_ret)) (fun cdv A outer s H E hr X eX tk hp => ?_)
  subst eX
  unfold b_behind_one
  exact (vss_cons (vs_set 2 (VE.fz (ve_call (ok_turned_about T) tk (hr.mono (by decide)) T.g_turned_about T.k_turned_about T.b_turned_about (va_cons (ve_var 1) va_nil))) sc_behind_one.nd) (vss_one (vs_retO (ve_lc (own := [("row", 3)]) (blkOk_by (N := nn_behind_one) (sc := defScope s_behind_one) (by decide +kernel)) (vi_seq (ve_var 0)) (fun _ _ _ _ _ => (vg_name 3 sc_behind_one.nd)) (fun _ _ _ _ _ => vts_nil) (fun _ _ _ _ _ => (VE.fz (ve_lc (own := [("line", 4)]) (blkOk_in (N := nn_behind_one) (by decide +kernel)) (vi_seq (ve_var 2)) (fun _ _ _ _ _ => (vg_name 4 sc_behind_one.nd)) (fun _ _ _ _ _ => vts_nil) (fun _ _ _ _ _ => (ve_call (ok_paired T) takes0 (hr.mono (by decide)) T.g_paired T.k_paired T.b_paired (va_cons (ve_var 3) (va_cons (ve_var 4) va_nil)))) sc_behind_one.nd))) sc_behind_one.nd))))

theorem ok_after (T : Txt K mg) : FnOk P w K mg base (L2.CX P w) 6 T.a_after T.d_after ["one", "other"] (spec K mg 2 none true m_after) := by
  refine @fn_by P w K mg base "after" "after" s_after T.a_after T.d_after nn_after ["one", "other"] 5 2 none true b_after [false, false] [false, false] T.F_after sc_after rfl (fun _ => rfl) (os_ok rfl) rfl (.inr (nn_seq (nn_seq nn_ret))) (fun cdv A outer s H E hr X eX tk hp => ?_)
  subst eX
  unfold b_after
  exact (vss_cons (vs_if (vt_not (vt_val (ve_call (ok_is_some_square T) tk (hr.mono (by decide)) T.g_is_some_square T.k_is_some_square T.b_is_some_square (va_cons (ve_var 0) (va_cons ve_int va_nil))))) (vss_one vs_stuck) vss_nil) (vss_cons (vs_if (vt_not (vt_val (ve_call (ok_is_square T) tk (hr.mono (by decide)) T.g_is_square T.k_is_square T.b_is_square (va_cons (ve_var 1) (va_cons (ve_callB c_len (va_cons (ve_var 0) va_nil) T.z_len bt_len) va_nil))))) (vss_one vs_stuck) vss_nil) (vss_one (vs_retO (ve_call (ok_behind_one T) tk (hr.mono (by decide)) T.g_behind_one T.k_behind_one T.b_behind_one (va_cons (ve_var 0) (va_cons (ve_var 1) va_nil)))))))

theorem ok__law_at (T : Txt K mg) : FnOk P w K mg base (L2.CX P w) 1 T.a__law_at T.d__law_at ["_law_script", "_law_k"] (spec K mg 2 none false m__law_at) := by
  refine @fn_by P w K mg base "_law_at" "_law_at" s__law_at T.a__law_at T.d__law_at nn__law_at ["_law_script", "_law_k"] 0 2 none false b__law_at [false, false] [false, false] T.F__law_at sc__law_at rfl (fun _ => rfl) (os_ok rfl) rfl (.inl rfl) (fun cdv A outer s H E hr X eX tk hp => ?_)
  subst eX
  unfold b__law_at
  exact (vss_cons (vs_if (vt_cmp (o_ltA (hr.units)) (ve_var 1) (ve_callB c_len (va_cons (ve_var 0) va_nil) T.z_len bt_len)) (vss_one (vs_ret (ve_ix (ve_var 0) (ve_var 1)))) vss_nil) (vss_one (vs_ret (ve_bin o_add (ve_bin o_mul ve_int (ve_var 1)) ve_int))))

theorem ok__law_take (T : Txt K mg) : FnOk P w K mg base (L2.CX P w) 2 T.a__law_take T.d__law_take ["_law_purse_here", "_law_many"] (spec K mg 2 (some 0) false m__law_take) := by
  refine @fn_by P w K mg base "_law_take" "_law_take" s__law_take T.a__law_take T.d__law_take nn__law_take ["_law_purse_here", "_law_many"] 1 2 (some 0) false b__law_take [true, false, false] [true, false, false] T.F__law_take sc__law_take rfl (fun _ => rfl) (os_ok rfl) rfl (.inl rfl) (fun cdv A outer s H E hr X eX tk hp => ?_)
  subst eX
  unfold b__law_take
  exact (vss_cons (vs_if (vt_peek (vt_cmp (o_ltA (hr.units)) (ve_ix (ve_var 0) ve_int) (ve_var 1))) (vss_cons (vs_setIx 0 (ve_bin o_add (ve_ixO 0 ve_int) ve_int) ve_int) (vss_one (vs_setIx 0 (ve_bin o_add (ve_ixO 0 ve_int) (ve_bin o_mul (ve_var 1) (ve_call (ok__law_mixed T) tk (hr.mono (by decide)) T.g__law_mixed T.k__law_mixed T.b__law_mixed (va_cons (ve_ixO 0 ve_int) (va_cons (ve_bin o_add (ve_bin o_mul ve_int (ve_ixO 0 ve_int)) ve_int) va_nil))))) ve_int))) vss_nil) (vss_cons (vs_set 2 (ve_bin o_mod (ve_ixO 0 ve_int) (ve_var 1)) sc__law_take.nd) (vss_cons (vs_setIx 0 (ve_bin o_fdiv (ve_ixO 0 ve_int) (ve_var 1)) ve_int) (vss_one (vs_ret (ve_var 2))))))

theorem ok__law_low (T : Txt K mg) : FnOk P w K mg base (L2.CX P w) 1 T.a__law_low T.d__law_low ["_law_top", "_law_bottom"] (spec K mg 2 none false m__law_low) := by
  refine @fn_by P w K mg base "_law_low" "_law_low" s__law_low T.a__law_low T.d__law_low nn__law_low ["_law_top", "_law_bottom"] 0 2 none false b__law_low [false, false, false, false] [false, false, false, false] T.F__law_low sc__law_low rfl (fun _ => rfl) (os_ok rfl) rfl (.inl rfl) (fun cdv A outer s H E hr X eX tk hp => ?_)
  subst eX
  unfold b__law_low
  exact (vss_cons (vs_set 2 (ve_callB c_abs (va_cons (ve_var 0) va_nil) T.z_abs bt_abs) sc__law_low.nd) (vss_cons (vs_set 3 (ve_var 1) sc__law_low.nd) (vss_cons (vs_while (fuel := (fuelInt 3)) hp (vt_cmp (o_ne (hr.units)) (ve_var 3) ve_int) (vss_one (vs_par 2 3 (va_cons (ve_var 3) (va_cons (ve_bin o_mod (ve_var 2) (ve_var 3)) va_nil)) sc__law_low.nd))) (vss_one (vs_ret (ve_tup (va_cons (ve_bin o_fdiv (ve_var 0) (ve_var 2)) (va_cons (ve_bin o_fdiv (ve_var 1) (ve_var 2)) va_nil))))))))

theorem ok__law_number (T : Txt K mg) : FnOk P w K mg base (L2.CX P w) 3 T.a__law_number T.d__law_number ["_law_purse_here"] (spec K mg 1 (some 0) false m__law_number) := by
  refine @fn_by P w K mg base "_law_number" "_law_number" s__law_number T.a__law_number T.d__law_number nn__law_number ["_law_purse_here"] 2 1 (some 0) false b__law_number [true, false] [true, false] T.F__law_number sc__law_number rfl (fun _ => rfl) (os_ok rfl) rfl (.inl rfl) (fun cdv A outer s H E hr X eX tk hp => ?_)
  subst eX
  unfold b__law_number
  exact (vss_cons (vs_set 1 (ve_callM (ok__law_take T) tk (hr.mono (by decide)) T.g__law_take T.k__law_take T.b__law_take (vb_here 0 (va_cons ve_int va_nil))) sc__law_number.nd) (vss_cons (vs_if (vt_cmp (o_ltA (hr.units)) (ve_var 1) ve_int) (vss_one (vs_ret (ve_ix (VE.fz (ve_lstO (va_cons (ve_tup (va_cons ve_int (va_cons ve_int va_nil))) (va_cons (ve_tup (va_cons ve_int (va_cons ve_int va_nil))) (va_cons (ve_tup (va_cons (ve_un o_neg ve_int) (va_cons ve_int va_nil))) va_nil))))) (ve_var 1)))) vss_nil) (vss_cons (vs_if (vt_cmp (o_ltA (hr.units)) (ve_var 1) ve_int) (vss_one (vs_ret (ve_call (ok__law_low T) tk (hr.mono (by decide)) T.g__law_low T.k__law_low T.b__law_low (va_cons (ve_bin o_sub (ve_callM (ok__law_take T) tk (hr.mono (by decide)) T.g__law_take T.k__law_take T.b__law_take (vb_here 0 (va_cons ve_int va_nil))) ve_int) (va_cons (ve_bin o_add ve_int (ve_bin o_mul (ve_callM (ok__law_take T) tk (hr.mono (by decide)) T.g__law_take T.k__law_take T.b__law_take (vb_here 0 (va_cons ve_int va_nil))) (ve_bin o_sub (ve_var 1) ve_int))) va_nil))))) vss_nil) (vss_one (vs_ret (ve_call (ok__law_low T) tk (hr.mono (by decide)) T.g__law_low T.k__law_low T.b__law_low (va_cons (ve_bin o_sub (ve_callM (ok__law_take T) tk (hr.mono (by decide)) T.g__law_take T.k__law_take T.b__law_take (vb_here 0 (va_cons (ve_bin o_add (ve_bin o_mul ve_int (ve_bin o_pow ve_int ve_int)) ve_int) va_nil))) (ve_bin o_pow ve_int ve_int)) (va_cons (ve_bin o_add ve_int (ve_callM (ok__law_take T) tk (hr.mono (by decide)) T.g__law_take T.k__law_take T.b__law_take (vb_here 0 (va_cons ve_int va_nil)))) va_nil))))))))

theorem ok__law_is_whole (T : Txt K mg) : FnOk P w K mg base (L2.CX P w) 1 T.a__law_is_whole T.d__law_is_whole ["_law_told"] (spec K mg 1 none false m__law_is_whole) := by
  refine @fn_by P w K mg base "_law_is_whole" "_law_is_whole" s__law_is_whole T.a__law_is_whole T.d__law_is_whole nn__law_is_whole ["_law_told"] 0 1 none false b__law_is_whole [false] [false] T.F__law_is_whole sc__law_is_whole rfl (fun _ => rfl) (os_ok rfl) rfl (.inl rfl) (fun cdv A outer s H E hr X eX tk hp => ?_)
  subst eX
  unfold b__law_is_whole
  exact (vss_one (vs_ret (ve_and (ve_callB c_isi (va_cons (ve_var 0) (va_cons (ve_ty (T := .int) T.z_int bt_int) va_nil)) T.z_isinstance bt_isinstance) (ve_one (ve_not (ve_callB c_isi (va_cons (ve_var 0) (va_cons (ve_ty (T := .bool) T.z_bool bt_bool) va_nil)) T.z_isinstance bt_isinstance))))))

theorem ok__law_is_number (T : Txt K mg) : FnOk P w K mg base (L2.CX P w) 2 T.a__law_is_number T.d__law_is_number ["_law_told"] (spec K mg 1 none false m__law_is_number) := by
  refine @fn_by P w K mg base "_law_is_number" "_law_is_number" s__law_is_number T.a__law_is_number T.d__law_is_number nn__law_is_number ["_law_told"] 1 1 none false b__law_is_number [false] [false] T.F__law_is_number sc__law_is_number rfl (fun _ => rfl) (os_ok rfl) rfl (.inl rfl) (fun cdv A outer s H E hr X eX tk hp => ?_)
  subst eX
  unfold b__law_is_number
  exact (vss_cons (vs_if (VW.vt (vw_or (vt_not (vt_val (ve_callB c_isi (va_cons (ve_var 0) (va_cons (ve_ty (T := .tuple) T.z_tuple bt_tuple) va_nil)) T.z_isinstance bt_isinstance))) (vw_or1 (vt_cmp (o_ne (hr.units)) (ve_callB c_len (va_cons (ve_var 0) va_nil) T.z_len bt_len) ve_int)))) (vss_one (vs_ret ve_bl)) vss_nil) (vss_cons (vs_if (VW.vt (vw_or (vt_not (vt_val (ve_call (ok__law_is_whole T) tk (hr.mono (by decide)) T.g__law_is_whole T.k__law_is_whole T.b__law_is_whole (va_cons (ve_ix (ve_var 0) ve_int) va_nil)))) (vw_or1 (vt_not (vt_val (ve_call (ok__law_is_whole T) tk (hr.mono (by decide)) T.g__law_is_whole T.k__law_is_whole T.b__law_is_whole (va_cons (ve_ix (ve_var 0) ve_int) va_nil))))))) (vss_one (vs_ret ve_bl)) vss_nil) (vss_one (vs_ret (ve_and (ve_cmp (o_geA (hr.units)) (ve_ix (ve_var 0) ve_int) ve_int) (ve_one (ve_cmp (o_eq (hr.units)) (ve_call (ok__law_low T) tk (hr.mono (by decide)) T.g__law_low T.k__law_low T.b__law_low (va_cons (ve_ix (ve_var 0) ve_int) (va_cons (ve_ix (ve_var 0) ve_int) va_nil))) (ve_var 0))))))))

theorem ok__law_is_row (T : Txt K mg) : FnOk P w K mg base (L2.CX P w) 3 T.a__law_is_row T.d__law_is_row ["_law_told", "_law_width"] (spec K mg 2 none false m__law_is_row) := by
  refine @fn_by P w K mg base "_law_is_row" "_law_is_row" s__law_is_row T.a__law_is_row T.d__law_is_row nn__law_is_row ["_law_told", "_law_width"] 2 2 none false b__law_is_row [false, false, false] [false, false, false] T.F__law_is_row sc__law_is_row rfl (fun _ => rfl) (os_ok rfl) rfl (.inl rfl) (fun cdv A outer s H E hr X eX tk hp => ?_)
  subst eX
  unfold b__law_is_row
  exact (vss_cons (vs_if (VW.vt (vw_or (vt_not (vt_val (ve_callB c_isi (va_cons (ve_var 0) (va_cons (ve_ty (T := .list) T.z_list bt_list) va_nil)) T.z_isinstance bt_isinstance))) (vw_or1 (vt_cmp (o_ne (hr.units)) (ve_callB c_len (va_cons (ve_var 0) va_nil) T.z_len bt_len) (ve_var 1))))) (vss_one (vs_ret ve_bl)) vss_nil) (vss_one (vs_ret (ve_cmp (o_eq (hr.units)) (VE.fz (ve_lc (own := [("_law_one", 2)]) (blkOk_by (N := nn__law_is_row) (sc := defScope s__law_is_row) (by decide +kernel)) (vi_seq (ve_var 0)) (fun _ _ _ _ _ => (vg_name 2 sc__law_is_row.nd)) (fun _ _ _ _ _ => (vts_one (vt_not (vt_val (ve_call (ok__law_is_number T) takes0 (hr.mono (by decide)) T.g__law_is_number T.k__law_is_number T.b__law_is_number (va_cons (ve_var 2) va_nil)))))) (fun _ _ _ _ _ => (ve_var 2)) sc__law_is_row.nd)) (VE.fz (ve_lstO va_nil))))))

theorem ok__law_is_rows (T : Txt K mg) : FnOk P w K mg base (L2.CX P w) 4 T.a__law_is_rows T.d__law_is_rows ["_law_told", "_law_width"] (spec K mg 2 none false m__law_is_rows) := by
  refine @fn_by P w K mg base "_law_is_rows" "_law_is_rows" s__law_is_rows T.a__law_is_rows T.d__law_is_rows nn__law_is_rows ["_law_told", "_law_width"] 3 2 none false b__law_is_rows [false, false, false] [false, false, false] T.F__law_is_rows sc__law_is_rows rfl (fun _ => rfl) (os_ok rfl) rfl (.inl rfl) (fun cdv A outer s H E hr X eX tk hp => ?_)
  subst eX
  unfold b__law_is_rows
  exact (vss_one (vs_ret (ve_and (ve_callB c_isi (va_cons (ve_var 0) (va_cons (ve_ty (T := .list) T.z_list bt_list) va_nil)) T.z_isinstance bt_isinstance) (ve_one (ve_cmp (o_eq (hr.units)) (VE.fz (ve_lc (own := [("_law_row", 2)]) (blkOk_by (N := nn__law_is_rows) (sc := defScope s__law_is_rows) (by decide +kernel)) (vi_seq (ve_var 0)) (fun _ _ _ _ _ => (vg_name 2 sc__law_is_rows.nd)) (fun _ _ _ _ _ => (vts_one (vt_not (vt_val (ve_call (ok__law_is_row T) takes0 (hr.mono (by decide)) T.g__law_is_row T.k__law_is_row T.b__law_is_row (va_cons (ve_var 2) (va_cons (ve_var 1) va_nil))))))) (fun _ _ _ _ _ => (ve_var 2)) sc__law_is_rows.nd)) (VE.fz (ve_lstO va_nil)))))))

theorem ok__law_plus (T : Txt K mg) : FnOk P w K mg base (L2.CX P w) 2 T.a__law_plus T.d__law_plus ["_law_one", "_law_other"] (spec K mg 2 none false m__law_plus) := by
  refine @fn_by P w K mg base "_law_plus" "_law_plus" s__law_plus T.a__law_plus T.d__law_plus nn__law_plus ["_law_one", "_law_other"] 1 2 none false b__law_plus [false, false] [false, false] T.F__law_plus sc__law_plus rfl (fun _ => rfl) (os_ok rfl) rfl (.inl rfl) (fun cdv A outer s H E hr X eX tk hp => ?_)
  subst eX
  unfold b__law_plus
  exact (vss_one (vs_ret (ve_call (ok__law_low T) tk (hr.mono (by decide)) T.g__law_low T.k__law_low T.b__law_low (va_cons (ve_bin o_add (ve_bin o_mul (ve_ix (ve_var 0) ve_int) (ve_ix (ve_var 1) ve_int)) (ve_bin o_mul (ve_ix (ve_var 1) ve_int) (ve_ix (ve_var 0) ve_int))) (va_cons (ve_bin o_mul (ve_ix (ve_var 0) ve_int) (ve_ix (ve_var 1) ve_int)) va_nil)))))

theorem ok__law_by (T : Txt K mg) : FnOk P w K mg base (L2.CX P w) 2 T.a__law_by T.d__law_by ["_law_one", "_law_other"] (spec K mg 2 none false m__law_by) := by
  refine @fn_by P w K mg base "_law_by" "_law_by" s__law_by T.a__law_by T.d__law_by nn__law_by ["_law_one", "_law_other"] 1 2 none false b__law_by [false, false] [false, false] T.F__law_by sc__law_by rfl (fun _ => rfl) (os_ok rfl) rfl (.inl rfl) (fun cdv A outer s H E hr X eX tk hp => ?_)
  subst eX
  unfold b__law_by
  exact (vss_one (vs_ret (ve_call (ok__law_low T) tk (hr.mono (by decide)) T.g__law_low T.k__law_low T.b__law_low (va_cons (ve_bin o_mul (ve_ix (ve_var 0) ve_int) (ve_ix (ve_var 1) ve_int)) (va_cons (ve_bin o_mul (ve_ix (ve_var 0) ve_int) (ve_ix (ve_var 1) ve_int)) va_nil)))))

theorem ok__law_pairing (T : Txt K mg) : FnOk P w K mg base (L2.CX P w) 3 T.a__law_pairing T.d__law_pairing ["_law_one", "_law_other"] (spec K mg 2 none false m__law_pairing) := by
  refine @fn_by P w K mg base "_law_pairing" "_law_pairing" s__law_pairing T.a__law_pairing T.d__law_pairing nn__law_pairing ["_law_one", "_law_other"] 2 2 none false b__law_pairing [false, false, false, false, false] [false, false, false, false, false] T.F__law_pairing sc__law_pairing rfl (fun _ => rfl) (os_ok rfl) rfl (.inl rfl) (fun cdv A outer s H E hr X eX tk hp => ?_)
  subst eX
  unfold b__law_pairing
  exact (vss_cons (vs_set 2 (ve_tup (va_cons ve_int (va_cons ve_int va_nil))) sc__law_pairing.nd) (vss_cons (vs_for hp (vi_zip (va_cons (ve_var 0) (va_cons (ve_var 1) va_nil)) T.z_zip) (vg_tup (vgs_cons (vg_name 3 sc__law_pairing.nd) (vgs_cons (vg_name 4 sc__law_pairing.nd) vgs_nil))) (vss_one (vs_set 2 (ve_call (ok__law_plus T) tk (hr.mono (by decide)) T.g__law_plus T.k__law_plus T.b__law_plus (va_cons (ve_var 2) (va_cons (ve_call (ok__law_by T) tk (hr.mono (by decide)) T.g__law_by T.k__law_by T.b__law_by (va_cons (ve_var 3) (va_cons (ve_var 4) va_nil))) va_nil))) sc__law_pairing.nd))) (vss_one (vs_ret (ve_var 2)))))

theorem ok_law (T : Txt K mg) : FnOk P w K mg base (L2.CX P w) 7 T.a_law T.d_law ["_law_script"] (spec K mg 1 none false m_law) := by
  refine @fn_by P w K mg base "law" "law" s_law T.a_law T.d_law nn_law ["_law_script"] 6 1 none false b_law [false, false, false, false, false, false, false, false, false, false, false, false, false, false, false, false] [false, false, false, false, false, false, false, false, false, false, false, false, false, false, false, false] T.F_law sc_law rfl (fun _ => rfl) (os_ok rfl) rfl (.inl rfl) (fun cdv A outer s H E hr X eX tk hp => ?_)
  subst eX
  unfold b_law
  exact (vss_cons (vs_for hp (vi_seq (ve_bin o_add (ve_slice (ve_var 0) vo_none (vo_some ve_int)) (VE.fz (ve_lstO (va_cons (ve_call (ok__law_at T) tk (hr.mono (by decide)) T.g__law_at T.k__law_at T.b__law_at (va_cons (ve_var 0) (va_cons ve_int va_nil))) va_nil))))) (vg_name 1 sc_law.nd) (VSs.fz 2 (vss_cons (vs_setO 2 (ve_call (ok__law_purse T) tk (hr.mono (by decide)) T.g__law_purse T.k__law_purse T.b__law_purse (va_cons (ve_var 1) (va_cons ve_int va_nil))) sc_law.nd) (vss_cons (vs_set 3 (ve_bin o_add ve_int (ve_callM (ok__law_take T) tk (hr.mono (by decide)) T.g__law_take T.k__law_take T.b__law_take (vb_here 2 (va_cons (ve_ix (VE.fz (ve_lstO (va_cons ve_int (va_cons ve_int (va_cons ve_int va_nil))))) (ve_callM (ok__law_take T) tk (hr.mono (by decide)) T.g__law_take T.k__law_take T.b__law_take (vb_here 2 (va_cons ve_int va_nil)))) va_nil)))) sc_law.nd) (vss_cons (VS.fz 4 (vs_setLc 4 (own := [("_law_line", 14)]) (blkOk_by (N := nn_law) (sc := defScope s_law) (by decide +kernel)) (vi_range1 (va_cons (ve_var 3) va_nil) T.z_range) (fun _ _ _ _ _ => (vg_name 14 sc_law.nd)) (fun _ _ _ _ _ => vts_nil) (fun _ _ _ _ _ => (VE.fz (ve_lc (own := [("_law_place", 15)]) (blkOk_in (N := nn_law) (by decide +kernel)) (vi_range1 (va_cons (ve_var 3) va_nil) T.z_range) (fun _ _ _ _ _ => (vg_name 15 sc_law.nd)) (fun _ _ _ _ _ => vts_nil) (fun _ _ _ _ _ => (ve_callM (ok__law_number T) takes0 (hr.mono (by decide)) T.g__law_number T.k__law_number T.b__law_number (vb_here 2 va_nil))) sc_law.nd))) sc_law.nd (by rfl))) (vss_cons (VS.fz 5 (vs_setLc 5 (own := [("_law_line", 14)]) (blkOk_by (N := nn_law) (sc := defScope s_law) (by decide +kernel)) (vi_range1 (va_cons (ve_var 3) va_nil) T.z_range) (fun _ _ _ _ _ => (vg_name 14 sc_law.nd)) (fun _ _ _ _ _ => vts_nil) (fun _ _ _ _ _ => (VE.fz (ve_lc (own := [("_law_place", 15)]) (blkOk_in (N := nn_law) (by decide +kernel)) (vi_range1 (va_cons (ve_var 3) va_nil) T.z_range) (fun _ _ _ _ _ => (vg_name 15 sc_law.nd)) (fun _ _ _ _ _ => vts_nil) (fun _ _ _ _ _ => (ve_callM (ok__law_number T) takes0 (hr.mono (by decide)) T.g__law_number T.k__law_number T.b__law_number (vb_here 2 va_nil))) sc_law.nd))) sc_law.nd (by rfl))) (vss_cons (vs_set 6 (VE.fz (ve_lc (own := [("_law_place", 15)]) (blkOk_by (N := nn_law) (sc := defScope s_law) (by decide +kernel)) (vi_range1 (va_cons (ve_var 3) va_nil) T.z_range) (fun _ _ _ _ _ => (vg_name 15 sc_law.nd)) (fun _ _ _ _ _ => vts_nil) (fun _ _ _ _ _ => (ve_callM (ok__law_number T) takes0 (hr.mono (by decide)) T.g__law_number T.k__law_number T.b__law_number (vb_here 2 va_nil))) sc_law.nd)) sc_law.nd) (vss_cons (VS.fz 7 (vs_setLc 7 (own := [("_law_line", 14)]) (blkOk_by (N := nn_law) (sc := defScope s_law) (by decide +kernel)) (vi_seq (ve_var 4)) (fun _ _ _ _ _ => (vg_name 14 sc_law.nd)) (fun _ _ _ _ _ => vts_nil) (fun _ _ _ _ _ => (VE.fz (ve_list (va_cons (ve_var 14) va_nil) rfl T.z_list))) sc_law.nd (by rfl))) (vss_cons (VS.fz 8 (vs_setLc 8 (own := [("_law_line", 14)]) (blkOk_by (N := nn_law) (sc := defScope s_law) (by decide +kernel)) (vi_seq (ve_var 5)) (fun _ _ _ _ _ => (vg_name 14 sc_law.nd)) (fun _ _ _ _ _ => vts_nil) (fun _ _ _ _ _ => (VE.fz (ve_list (va_cons (ve_var 14) va_nil) rfl T.z_list))) sc_law.nd (by rfl))) (vss_cons (vs_set 9 (VE.fz (ve_list (va_cons (ve_var 6) va_nil) rfl T.z_list)) sc_law.nd) (vss_cons (vs_set 10 (VE.fz (ve_call (ok_moved T) tk (hr.mono (by decide)) T.g_moved T.k_moved T.b_moved (va_cons (ve_var 7) (va_cons (ve_var 9) va_nil)))) sc_law.nd) (vss_cons (vs_if (VW.vt (vw_or (vt_not (vt_val (ve_call (ok__law_is_row T) tk (hr.mono (by decide)) T.g__law_is_row T.k__law_is_row T.b__law_is_row (va_cons (ve_var 10) (va_cons (ve_var 3) va_nil))))) (vw_or1 (vt_cmp (o_ne (hr.units)) (ve_var 10) (VE.fz (ve_lc (own := [("_law_line", 14)]) (blkOk_by (N := nn_law) (sc := defScope s_law) (by decide +kernel)) (vi_seq (ve_var 4)) (fun _ _ _ _ _ => (vg_name 14 sc_law.nd)) (fun _ _ _ _ _ => vts_nil) (fun _ _ _ _ _ => (ve_call (ok__law_pairing T) takes0 (hr.mono (by decide)) T.g__law_pairing T.k__law_pairing T.b__law_pairing (va_cons (ve_var 14) (va_cons (ve_var 6) va_nil)))) sc_law.nd)))))) (vss_one (vs_ret ve_bl)) vss_nil) (vss_cons (vs_set 11 (VE.fz (ve_call (ok_after T) tk (hr.mono (by decide)) T.g_after T.k_after T.b_after (va_cons (ve_var 7) (va_cons (ve_var 8) va_nil)))) sc_law.nd) (vss_cons (vs_if (VW.vt (vw_or (vt_not (vt_val (ve_call (ok__law_is_rows T) tk (hr.mono (by decide)) T.g__law_is_rows T.k__law_is_rows T.b__law_is_rows (va_cons (ve_var 11) (va_cons (ve_var 3) va_nil))))) (vw_or1 (vt_cmp (o_ne (hr.units)) (ve_callB c_len (va_cons (ve_var 11) va_nil) T.z_len bt_len) (ve_var 3))))) (vss_one (vs_ret ve_bl)) vss_nil) (vss_cons (vs_for hp (vi_range1 (va_cons (ve_var 3) va_nil) T.z_range) (vg_name 12 sc_law.nd) (vss_one (vs_for hp (vi_range1 (va_cons (ve_var 3) va_nil) T.z_range) (vg_name 13 sc_law.nd) (vss_one (vs_if (vt_cmp (o_ne (hr.units)) (ve_ix (ve_ix (ve_var 11) (ve_var 12)) (ve_var 13)) (ve_call (ok__law_pairing T) tk (hr.mono (by decide)) T.g__law_pairing T.k__law_pairing T.b__law_pairing (va_cons (ve_ix (ve_var 4) (ve_var 12)) (va_cons (VE.fz (ve_lc (own := [("_law_line", 14)]) (blkOk_by (N := nn_law) (sc := defScope s_law) (by decide +kernel)) (vi_seq (ve_var 5)) (fun _ _ _ _ _ => (vg_name 14 sc_law.nd)) (fun _ _ _ _ _ => vts_nil) (fun _ _ _ _ _ => (ve_ix (ve_var 14) (ve_var 13))) sc_law.nd)) va_nil)))) (vss_one (vs_ret ve_bl)) vss_nil))))) (vss_cons (vs_if (vt_cmp (o_ne (hr.units)) (VE.fz (ve_call (ok_moved T) tk (hr.mono (by decide)) T.g_moved T.k_moved T.b_moved (va_cons (ve_var 11) (va_cons (ve_var 9) va_nil)))) (VE.fz (ve_call (ok_moved T) tk (hr.mono (by decide)) T.g_moved T.k_moved T.b_moved (va_cons (ve_var 7) (va_cons (VE.fz (ve_call (ok_moved T) tk (hr.mono (by decide)) T.g_moved T.k_moved T.b_moved (va_cons (ve_var 8) (va_cons (ve_var 9) va_nil)))) va_nil))))) (vss_one (vs_ret ve_bl)) vss_nil) (vss_one (vs_if (VW.vt (vw_or (vt_cmp (o_ne (hr.units)) (ve_var 7) (ve_var 4)) (vw_or (vt_cmp (o_ne (hr.units)) (ve_var 8) (ve_var 5)) (vw_or1 (vt_cmp (o_ne (hr.units)) (ve_var 9) (ve_var 6)))))) (vss_one (vs_ret ve_bl)) vss_nil)))))))))))))))))) (vss_one (vs_ret ve_bl)))

end

theorem all_mk {l : PySem.W.OpenLaw} {w : World} {K : PySem.W.Frag} {h : Heap} {mg : Str → Option Value} {fa : Addr} (X : K.In h) (G : h.Ns mainGlobals mg) (hfa : mg "law" = some (.ref fa))
    {f__law_mixed : Addr} {oc__law_mixed kV__law_mixed dc__law_mixed pm__law_mixed cd__law_mixed ct__law_mixed : Value} {od__law_mixed an__law_mixed : Option Addr} {sl__law_mixed : Array (Option Value)}
    {f__law_purse : Addr} {oc__law_purse kV__law_purse dc__law_purse pm__law_purse cd__law_purse ct__law_purse : Value} {od__law_purse an__law_purse : Option Addr} {sl__law_purse : Array (Option Value)}
    {f_divisor : Addr} {oc_divisor kV_divisor dc_divisor pm_divisor cd_divisor ct_divisor : Value} {od_divisor an_divisor : Option Addr} {sl_divisor : Array (Option Value)}
    {f_lowest : Addr} {oc_lowest kV_lowest dc_lowest pm_lowest cd_lowest ct_lowest : Value} {od_lowest an_lowest : Option Addr} {sl_lowest : Array (Option Value)}
    {f_plus : Addr} {oc_plus kV_plus dc_plus pm_plus cd_plus ct_plus : Value} {od_plus an_plus : Option Addr} {sl_plus : Array (Option Value)}
    {f_times : Addr} {oc_times kV_times dc_times pm_times cd_times ct_times : Value} {od_times an_times : Option Addr} {sl_times : Array (Option Value)}
    {f_paired : Addr} {oc_paired kV_paired dc_paired pm_paired cd_paired ct_paired : Value} {od_paired an_paired : Option Addr} {sl_paired : Array (Option Value)}
    {f_move : Addr} {oc_move kV_move dc_move pm_move cd_move ct_move : Value} {od_move an_move : Option Addr} {sl_move : Array (Option Value)}
    {f_is_whole : Addr} {oc_is_whole kV_is_whole dc_is_whole pm_is_whole cd_is_whole ct_is_whole : Value} {od_is_whole an_is_whole : Option Addr} {sl_is_whole : Array (Option Value)}
    {f_is_number : Addr} {oc_is_number kV_is_number dc_is_number pm_is_number cd_is_number ct_is_number : Value} {od_is_number an_is_number : Option Addr} {sl_is_number : Array (Option Value)}
    {f_is_row : Addr} {oc_is_row kV_is_row dc_is_row pm_is_row cd_is_row ct_is_row : Value} {od_is_row an_is_row : Option Addr} {sl_is_row : Array (Option Value)}
    {f_is_square : Addr} {oc_is_square kV_is_square dc_is_square pm_is_square cd_is_square ct_is_square : Value} {od_is_square an_is_square : Option Addr} {sl_is_square : Array (Option Value)}
    {f_is_some_square : Addr} {oc_is_some_square kV_is_some_square dc_is_some_square pm_is_some_square cd_is_some_square ct_is_some_square : Value} {od_is_some_square an_is_some_square : Option Addr} {sl_is_some_square : Array (Option Value)}
    {f_moved : Addr} {oc_moved kV_moved dc_moved pm_moved cd_moved ct_moved : Value} {od_moved an_moved : Option Addr} {sl_moved : Array (Option Value)}
    {f_turned_about : Addr} {oc_turned_about kV_turned_about dc_turned_about pm_turned_about cd_turned_about ct_turned_about : Value} {od_turned_about an_turned_about : Option Addr} {sl_turned_about : Array (Option Value)}
    {f_behind_one : Addr} {oc_behind_one kV_behind_one dc_behind_one pm_behind_one cd_behind_one ct_behind_one : Value} {od_behind_one an_behind_one : Option Addr} {sl_behind_one : Array (Option Value)}
    {f_after : Addr} {oc_after kV_after dc_after pm_after cd_after ct_after : Value} {od_after an_after : Option Addr} {sl_after : Array (Option Value)}
    {f__law_at : Addr} {oc__law_at kV__law_at dc__law_at pm__law_at cd__law_at ct__law_at : Value} {od__law_at an__law_at : Option Addr} {sl__law_at : Array (Option Value)}
    {f__law_take : Addr} {oc__law_take kV__law_take dc__law_take pm__law_take cd__law_take ct__law_take : Value} {od__law_take an__law_take : Option Addr} {sl__law_take : Array (Option Value)}
    {f__law_low : Addr} {oc__law_low kV__law_low dc__law_low pm__law_low cd__law_low ct__law_low : Value} {od__law_low an__law_low : Option Addr} {sl__law_low : Array (Option Value)}
    {f__law_number : Addr} {oc__law_number kV__law_number dc__law_number pm__law_number cd__law_number ct__law_number : Value} {od__law_number an__law_number : Option Addr} {sl__law_number : Array (Option Value)}
    {f__law_is_whole : Addr} {oc__law_is_whole kV__law_is_whole dc__law_is_whole pm__law_is_whole cd__law_is_whole ct__law_is_whole : Value} {od__law_is_whole an__law_is_whole : Option Addr} {sl__law_is_whole : Array (Option Value)}
    {f__law_is_number : Addr} {oc__law_is_number kV__law_is_number dc__law_is_number pm__law_is_number cd__law_is_number ct__law_is_number : Value} {od__law_is_number an__law_is_number : Option Addr} {sl__law_is_number : Array (Option Value)}
    {f__law_is_row : Addr} {oc__law_is_row kV__law_is_row dc__law_is_row pm__law_is_row cd__law_is_row ct__law_is_row : Value} {od__law_is_row an__law_is_row : Option Addr} {sl__law_is_row : Array (Option Value)}
    {f__law_is_rows : Addr} {oc__law_is_rows kV__law_is_rows dc__law_is_rows pm__law_is_rows cd__law_is_rows ct__law_is_rows : Value} {od__law_is_rows an__law_is_rows : Option Addr} {sl__law_is_rows : Array (Option Value)}
    {f__law_plus : Addr} {oc__law_plus kV__law_plus dc__law_plus pm__law_plus cd__law_plus ct__law_plus : Value} {od__law_plus an__law_plus : Option Addr} {sl__law_plus : Array (Option Value)}
    {f__law_by : Addr} {oc__law_by kV__law_by dc__law_by pm__law_by cd__law_by ct__law_by : Value} {od__law_by an__law_by : Option Addr} {sl__law_by : Array (Option Value)}
    {f__law_pairing : Addr} {oc__law_pairing kV__law_pairing dc__law_pairing pm__law_pairing cd__law_pairing ct__law_pairing : Value} {od__law_pairing an__law_pairing : Option Addr} {sl__law_pairing : Array (Option Value)}
    {f_law : Addr} {oc_law kV_law dc_law pm_law cd_law ct_law : Value} {od_law an_law : Option Addr} {sl_law : Array (Option Value)}
    {p_NOUGHT : Addr} {o_NOUGHT : Obj} {n_NOUGHT : Nat} {t0_NOUGHT : Tok} {t1_NOUGHT : Tok}
    (a__law_mixed : PySem.W.nsIn K mainGlobals "_law_mixed" = some (some (.ref f__law_mixed))) (l__law_mixed : K.lookup f__law_mixed = some ⟨oc__law_mixed, od__law_mixed, .func (PySem.W.fnOf "_law_mixed" "_law_mixed" (defArgs s__law_mixed) (defBody s__law_mixed) (defScope s__law_mixed) .none kV__law_mixed dc__law_mixed pm__law_mixed an__law_mixed cd__law_mixed ct__law_mixed), sl__law_mixed⟩) (c__law_mixed : PySem.W.codeIn K cd__law_mixed "_law_mixed" = true) (k__law_mixed : PySem.W.keepIn K (.ref f__law_mixed) = true)
    (a__law_purse : PySem.W.nsIn K mainGlobals "_law_purse" = some (some (.ref f__law_purse))) (l__law_purse : K.lookup f__law_purse = some ⟨oc__law_purse, od__law_purse, .func (PySem.W.fnOf "_law_purse" "_law_purse" (defArgs s__law_purse) (defBody s__law_purse) (defScope s__law_purse) .none kV__law_purse dc__law_purse pm__law_purse an__law_purse cd__law_purse ct__law_purse), sl__law_purse⟩) (c__law_purse : PySem.W.codeIn K cd__law_purse "_law_purse" = true) (k__law_purse : PySem.W.keepIn K (.ref f__law_purse) = true)
    (a_divisor : PySem.W.nsIn K mainGlobals "divisor" = some (some (.ref f_divisor))) (l_divisor : K.lookup f_divisor = some ⟨oc_divisor, od_divisor, .func (PySem.W.fnOf "divisor" "divisor" (defArgs s_divisor) (defBody s_divisor) (defScope s_divisor) .none kV_divisor dc_divisor pm_divisor an_divisor cd_divisor ct_divisor), sl_divisor⟩) (c_divisor : PySem.W.codeIn K cd_divisor "divisor" = true) (k_divisor : PySem.W.keepIn K (.ref f_divisor) = true)
    (a_lowest : PySem.W.nsIn K mainGlobals "lowest" = some (some (.ref f_lowest))) (l_lowest : K.lookup f_lowest = some ⟨oc_lowest, od_lowest, .func (PySem.W.fnOf "lowest" "lowest" (defArgs s_lowest) (defBody s_lowest) (defScope s_lowest) .none kV_lowest dc_lowest pm_lowest an_lowest cd_lowest ct_lowest), sl_lowest⟩) (c_lowest : PySem.W.codeIn K cd_lowest "lowest" = true) (k_lowest : PySem.W.keepIn K (.ref f_lowest) = true)
    (a_plus : PySem.W.nsIn K mainGlobals "plus" = some (some (.ref f_plus))) (l_plus : K.lookup f_plus = some ⟨oc_plus, od_plus, .func (PySem.W.fnOf "plus" "plus" (defArgs s_plus) (defBody s_plus) (defScope s_plus) .none kV_plus dc_plus pm_plus an_plus cd_plus ct_plus), sl_plus⟩) (c_plus : PySem.W.codeIn K cd_plus "plus" = true) (k_plus : PySem.W.keepIn K (.ref f_plus) = true)
    (a_times : PySem.W.nsIn K mainGlobals "times" = some (some (.ref f_times))) (l_times : K.lookup f_times = some ⟨oc_times, od_times, .func (PySem.W.fnOf "times" "times" (defArgs s_times) (defBody s_times) (defScope s_times) .none kV_times dc_times pm_times an_times cd_times ct_times), sl_times⟩) (c_times : PySem.W.codeIn K cd_times "times" = true) (k_times : PySem.W.keepIn K (.ref f_times) = true)
    (a_paired : PySem.W.nsIn K mainGlobals "paired" = some (some (.ref f_paired))) (l_paired : K.lookup f_paired = some ⟨oc_paired, od_paired, .func (PySem.W.fnOf "paired" "paired" (defArgs s_paired) (defBody s_paired) (defScope s_paired) .none kV_paired dc_paired pm_paired an_paired cd_paired ct_paired), sl_paired⟩) (c_paired : PySem.W.codeIn K cd_paired "paired" = true) (k_paired : PySem.W.keepIn K (.ref f_paired) = true)
    (a_move : PySem.W.nsIn K mainGlobals "move" = some (some (.ref f_move))) (l_move : K.lookup f_move = some ⟨oc_move, od_move, .func (PySem.W.fnOf "move" "move" (defArgs s_move) (defBody s_move) (defScope s_move) .none kV_move dc_move pm_move an_move cd_move ct_move), sl_move⟩) (c_move : PySem.W.codeIn K cd_move "move" = true) (k_move : PySem.W.keepIn K (.ref f_move) = true)
    (a_is_whole : PySem.W.nsIn K mainGlobals "is_whole" = some (some (.ref f_is_whole))) (l_is_whole : K.lookup f_is_whole = some ⟨oc_is_whole, od_is_whole, .func (PySem.W.fnOf "is_whole" "is_whole" (defArgs s_is_whole) (defBody s_is_whole) (defScope s_is_whole) .none kV_is_whole dc_is_whole pm_is_whole an_is_whole cd_is_whole ct_is_whole), sl_is_whole⟩) (c_is_whole : PySem.W.codeIn K cd_is_whole "is_whole" = true) (k_is_whole : PySem.W.keepIn K (.ref f_is_whole) = true)
    (a_is_number : PySem.W.nsIn K mainGlobals "is_number" = some (some (.ref f_is_number))) (l_is_number : K.lookup f_is_number = some ⟨oc_is_number, od_is_number, .func (PySem.W.fnOf "is_number" "is_number" (defArgs s_is_number) (defBody s_is_number) (defScope s_is_number) .none kV_is_number dc_is_number pm_is_number an_is_number cd_is_number ct_is_number), sl_is_number⟩) (c_is_number : PySem.W.codeIn K cd_is_number "is_number" = true) (k_is_number : PySem.W.keepIn K (.ref f_is_number) = true)
    (a_is_row : PySem.W.nsIn K mainGlobals "is_row" = some (some (.ref f_is_row))) (l_is_row : K.lookup f_is_row = some ⟨oc_is_row, od_is_row, .func (PySem.W.fnOf "is_row" "is_row" (defArgs s_is_row) (defBody s_is_row) (defScope s_is_row) .none kV_is_row dc_is_row pm_is_row an_is_row cd_is_row ct_is_row), sl_is_row⟩) (c_is_row : PySem.W.codeIn K cd_is_row "is_row" = true) (k_is_row : PySem.W.keepIn K (.ref f_is_row) = true)
    (a_is_square : PySem.W.nsIn K mainGlobals "is_square" = some (some (.ref f_is_square))) (l_is_square : K.lookup f_is_square = some ⟨oc_is_square, od_is_square, .func (PySem.W.fnOf "is_square" "is_square" (defArgs s_is_square) (defBody s_is_square) (defScope s_is_square) .none kV_is_square dc_is_square pm_is_square an_is_square cd_is_square ct_is_square), sl_is_square⟩) (c_is_square : PySem.W.codeIn K cd_is_square "is_square" = true) (k_is_square : PySem.W.keepIn K (.ref f_is_square) = true)
    (a_is_some_square : PySem.W.nsIn K mainGlobals "is_some_square" = some (some (.ref f_is_some_square))) (l_is_some_square : K.lookup f_is_some_square = some ⟨oc_is_some_square, od_is_some_square, .func (PySem.W.fnOf "is_some_square" "is_some_square" (defArgs s_is_some_square) (defBody s_is_some_square) (defScope s_is_some_square) .none kV_is_some_square dc_is_some_square pm_is_some_square an_is_some_square cd_is_some_square ct_is_some_square), sl_is_some_square⟩) (c_is_some_square : PySem.W.codeIn K cd_is_some_square "is_some_square" = true) (k_is_some_square : PySem.W.keepIn K (.ref f_is_some_square) = true)
    (a_moved : PySem.W.nsIn K mainGlobals "moved" = some (some (.ref f_moved))) (l_moved : K.lookup f_moved = some ⟨oc_moved, od_moved, .func (PySem.W.fnOf "moved" "moved" (defArgs s_moved) (defBody s_moved) (defScope s_moved) .none kV_moved dc_moved pm_moved an_moved cd_moved ct_moved), sl_moved⟩) (c_moved : PySem.W.codeIn K cd_moved "moved" = true) (k_moved : PySem.W.keepIn K (.ref f_moved) = true)
    (a_turned_about : PySem.W.nsIn K mainGlobals "turned_about" = some (some (.ref f_turned_about))) (l_turned_about : K.lookup f_turned_about = some ⟨oc_turned_about, od_turned_about, .func (PySem.W.fnOf "turned_about" "turned_about" (defArgs s_turned_about) (defBody s_turned_about) (defScope s_turned_about) .none kV_turned_about dc_turned_about pm_turned_about an_turned_about cd_turned_about ct_turned_about), sl_turned_about⟩) (c_turned_about : PySem.W.codeIn K cd_turned_about "turned_about" = true) (k_turned_about : PySem.W.keepIn K (.ref f_turned_about) = true)
    (a_behind_one : PySem.W.nsIn K mainGlobals "behind_one" = some (some (.ref f_behind_one))) (l_behind_one : K.lookup f_behind_one = some ⟨oc_behind_one, od_behind_one, .func (PySem.W.fnOf "behind_one" "behind_one" (defArgs s_behind_one) (defBody s_behind_one) (defScope s_behind_one) .none kV_behind_one dc_behind_one pm_behind_one an_behind_one cd_behind_one ct_behind_one), sl_behind_one⟩) (c_behind_one : PySem.W.codeIn K cd_behind_one "behind_one" = true) (k_behind_one : PySem.W.keepIn K (.ref f_behind_one) = true)
    (a_after : PySem.W.nsIn K mainGlobals "after" = some (some (.ref f_after))) (l_after : K.lookup f_after = some ⟨oc_after, od_after, .func (PySem.W.fnOf "after" "after" (defArgs s_after) (defBody s_after) (defScope s_after) .none kV_after dc_after pm_after an_after cd_after ct_after), sl_after⟩) (c_after : PySem.W.codeIn K cd_after "after" = true) (k_after : PySem.W.keepIn K (.ref f_after) = true)
    (a__law_at : PySem.W.nsIn K mainGlobals "_law_at" = some (some (.ref f__law_at))) (l__law_at : K.lookup f__law_at = some ⟨oc__law_at, od__law_at, .func (PySem.W.fnOf "_law_at" "_law_at" (defArgs s__law_at) (defBody s__law_at) (defScope s__law_at) .none kV__law_at dc__law_at pm__law_at an__law_at cd__law_at ct__law_at), sl__law_at⟩) (c__law_at : PySem.W.codeIn K cd__law_at "_law_at" = true) (k__law_at : PySem.W.keepIn K (.ref f__law_at) = true)
    (a__law_take : PySem.W.nsIn K mainGlobals "_law_take" = some (some (.ref f__law_take))) (l__law_take : K.lookup f__law_take = some ⟨oc__law_take, od__law_take, .func (PySem.W.fnOf "_law_take" "_law_take" (defArgs s__law_take) (defBody s__law_take) (defScope s__law_take) .none kV__law_take dc__law_take pm__law_take an__law_take cd__law_take ct__law_take), sl__law_take⟩) (c__law_take : PySem.W.codeIn K cd__law_take "_law_take" = true) (k__law_take : PySem.W.keepIn K (.ref f__law_take) = true)
    (a__law_low : PySem.W.nsIn K mainGlobals "_law_low" = some (some (.ref f__law_low))) (l__law_low : K.lookup f__law_low = some ⟨oc__law_low, od__law_low, .func (PySem.W.fnOf "_law_low" "_law_low" (defArgs s__law_low) (defBody s__law_low) (defScope s__law_low) .none kV__law_low dc__law_low pm__law_low an__law_low cd__law_low ct__law_low), sl__law_low⟩) (c__law_low : PySem.W.codeIn K cd__law_low "_law_low" = true) (k__law_low : PySem.W.keepIn K (.ref f__law_low) = true)
    (a__law_number : PySem.W.nsIn K mainGlobals "_law_number" = some (some (.ref f__law_number))) (l__law_number : K.lookup f__law_number = some ⟨oc__law_number, od__law_number, .func (PySem.W.fnOf "_law_number" "_law_number" (defArgs s__law_number) (defBody s__law_number) (defScope s__law_number) .none kV__law_number dc__law_number pm__law_number an__law_number cd__law_number ct__law_number), sl__law_number⟩) (c__law_number : PySem.W.codeIn K cd__law_number "_law_number" = true) (k__law_number : PySem.W.keepIn K (.ref f__law_number) = true)
    (a__law_is_whole : PySem.W.nsIn K mainGlobals "_law_is_whole" = some (some (.ref f__law_is_whole))) (l__law_is_whole : K.lookup f__law_is_whole = some ⟨oc__law_is_whole, od__law_is_whole, .func (PySem.W.fnOf "_law_is_whole" "_law_is_whole" (defArgs s__law_is_whole) (defBody s__law_is_whole) (defScope s__law_is_whole) .none kV__law_is_whole dc__law_is_whole pm__law_is_whole an__law_is_whole cd__law_is_whole ct__law_is_whole), sl__law_is_whole⟩) (c__law_is_whole : PySem.W.codeIn K cd__law_is_whole "_law_is_whole" = true) (k__law_is_whole : PySem.W.keepIn K (.ref f__law_is_whole) = true)
    (a__law_is_number : PySem.W.nsIn K mainGlobals "_law_is_number" = some (some (.ref f__law_is_number))) (l__law_is_number : K.lookup f__law_is_number = some ⟨oc__law_is_number, od__law_is_number, .func (PySem.W.fnOf "_law_is_number" "_law_is_number" (defArgs s__law_is_number) (defBody s__law_is_number) (defScope s__law_is_number) .none kV__law_is_number dc__law_is_number pm__law_is_number an__law_is_number cd__law_is_number ct__law_is_number), sl__law_is_number⟩) (c__law_is_number : PySem.W.codeIn K cd__law_is_number "_law_is_number" = true) (k__law_is_number : PySem.W.keepIn K (.ref f__law_is_number) = true)
    (a__law_is_row : PySem.W.nsIn K mainGlobals "_law_is_row" = some (some (.ref f__law_is_row))) (l__law_is_row : K.lookup f__law_is_row = some ⟨oc__law_is_row, od__law_is_row, .func (PySem.W.fnOf "_law_is_row" "_law_is_row" (defArgs s__law_is_row) (defBody s__law_is_row) (defScope s__law_is_row) .none kV__law_is_row dc__law_is_row pm__law_is_row an__law_is_row cd__law_is_row ct__law_is_row), sl__law_is_row⟩) (c__law_is_row : PySem.W.codeIn K cd__law_is_row "_law_is_row" = true) (k__law_is_row : PySem.W.keepIn K (.ref f__law_is_row) = true)
    (a__law_is_rows : PySem.W.nsIn K mainGlobals "_law_is_rows" = some (some (.ref f__law_is_rows))) (l__law_is_rows : K.lookup f__law_is_rows = some ⟨oc__law_is_rows, od__law_is_rows, .func (PySem.W.fnOf "_law_is_rows" "_law_is_rows" (defArgs s__law_is_rows) (defBody s__law_is_rows) (defScope s__law_is_rows) .none kV__law_is_rows dc__law_is_rows pm__law_is_rows an__law_is_rows cd__law_is_rows ct__law_is_rows), sl__law_is_rows⟩) (c__law_is_rows : PySem.W.codeIn K cd__law_is_rows "_law_is_rows" = true) (k__law_is_rows : PySem.W.keepIn K (.ref f__law_is_rows) = true)
    (a__law_plus : PySem.W.nsIn K mainGlobals "_law_plus" = some (some (.ref f__law_plus))) (l__law_plus : K.lookup f__law_plus = some ⟨oc__law_plus, od__law_plus, .func (PySem.W.fnOf "_law_plus" "_law_plus" (defArgs s__law_plus) (defBody s__law_plus) (defScope s__law_plus) .none kV__law_plus dc__law_plus pm__law_plus an__law_plus cd__law_plus ct__law_plus), sl__law_plus⟩) (c__law_plus : PySem.W.codeIn K cd__law_plus "_law_plus" = true) (k__law_plus : PySem.W.keepIn K (.ref f__law_plus) = true)
    (a__law_by : PySem.W.nsIn K mainGlobals "_law_by" = some (some (.ref f__law_by))) (l__law_by : K.lookup f__law_by = some ⟨oc__law_by, od__law_by, .func (PySem.W.fnOf "_law_by" "_law_by" (defArgs s__law_by) (defBody s__law_by) (defScope s__law_by) .none kV__law_by dc__law_by pm__law_by an__law_by cd__law_by ct__law_by), sl__law_by⟩) (c__law_by : PySem.W.codeIn K cd__law_by "_law_by" = true) (k__law_by : PySem.W.keepIn K (.ref f__law_by) = true)
    (a__law_pairing : PySem.W.nsIn K mainGlobals "_law_pairing" = some (some (.ref f__law_pairing))) (l__law_pairing : K.lookup f__law_pairing = some ⟨oc__law_pairing, od__law_pairing, .func (PySem.W.fnOf "_law_pairing" "_law_pairing" (defArgs s__law_pairing) (defBody s__law_pairing) (defScope s__law_pairing) .none kV__law_pairing dc__law_pairing pm__law_pairing an__law_pairing cd__law_pairing ct__law_pairing), sl__law_pairing⟩) (c__law_pairing : PySem.W.codeIn K cd__law_pairing "_law_pairing" = true) (k__law_pairing : PySem.W.keepIn K (.ref f__law_pairing) = true)
    (a_law : PySem.W.nsIn K mainGlobals "law" = some (some (.ref f_law))) (l_law : K.lookup f_law = some ⟨oc_law, od_law, .func (PySem.W.fnOf "law" "law" (defArgs s_law) (defBody s_law) (defScope s_law) .none kV_law dc_law pm_law an_law cd_law ct_law), sl_law⟩) (c_law : PySem.W.codeIn K cd_law "law" = true) (k_law : PySem.W.keepIn K (.ref f_law) = true)
    (z_abs : PySem.W.nsIn K mainGlobals "abs" = some none)
    (z_bool : PySem.W.nsIn K mainGlobals "bool" = some none)
    (z_int : PySem.W.nsIn K mainGlobals "int" = some none)
    (z_isinstance : PySem.W.nsIn K mainGlobals "isinstance" = some none)
    (z_len : PySem.W.nsIn K mainGlobals "len" = some none)
    (z_list : PySem.W.nsIn K mainGlobals "list" = some none)
    (z_range : PySem.W.nsIn K mainGlobals "range" = some none)
    (z_tuple : PySem.W.nsIn K mainGlobals "tuple" = some none)
    (z_zip : PySem.W.nsIn K mainGlobals "zip" = some none)
    (y_NOUGHT : PySem.W.nsIn K mainGlobals "NOUGHT" = some (some (.ref p_NOUGHT))) (x_NOUGHT : K.lookup p_NOUGHT = some o_NOUGHT) (u_NOUGHT : o_NOUGHT.cls = .type "tuple") (v_NOUGHT : o_NOUGHT.data = .seq #[.int 0 t0_NOUGHT, .int 1 t1_NOUGHT] n_NOUGHT) :
    ∃ fd : FuncData, (∀ (s : Shared) (v : Value), BindsTo s fd ⟨[v], []⟩ [("_law_script", v)]) ∧ ∀ base : Heap, K.In base → base.Ns mainGlobals mg → FnOk l.prog w K mg base (L2.CX l.prog w) 7 fa fd ["_law_script"] (specL K m_law) := by
  have e := hfa.symm.trans (PySem.W.mg_of X G a_law)
  cases e
  have F__law_mixed := fun_mk (st := s__law_mixed) l__law_mixed c__law_mixed k__law_mixed
  have F__law_purse := fun_mk (st := s__law_purse) l__law_purse c__law_purse k__law_purse
  have F_divisor := fun_mk (st := s_divisor) l_divisor c_divisor k_divisor
  have F_lowest := fun_mk (st := s_lowest) l_lowest c_lowest k_lowest
  have F_plus := fun_mk (st := s_plus) l_plus c_plus k_plus
  have F_times := fun_mk (st := s_times) l_times c_times k_times
  have F_paired := fun_mk (st := s_paired) l_paired c_paired k_paired
  have F_move := fun_mk (st := s_move) l_move c_move k_move
  have F_is_whole := fun_mk (st := s_is_whole) l_is_whole c_is_whole k_is_whole
  have F_is_number := fun_mk (st := s_is_number) l_is_number c_is_number k_is_number
  have F_is_row := fun_mk (st := s_is_row) l_is_row c_is_row k_is_row
  have F_is_square := fun_mk (st := s_is_square) l_is_square c_is_square k_is_square
  have F_is_some_square := fun_mk (st := s_is_some_square) l_is_some_square c_is_some_square k_is_some_square
  have F_moved := fun_mk (st := s_moved) l_moved c_moved k_moved
  have F_turned_about := fun_mk (st := s_turned_about) l_turned_about c_turned_about k_turned_about
  have F_behind_one := fun_mk (st := s_behind_one) l_behind_one c_behind_one k_behind_one
  have F_after := fun_mk (st := s_after) l_after c_after k_after
  have F__law_at := fun_mk (st := s__law_at) l__law_at c__law_at k__law_at
  have F__law_take := fun_mk (st := s__law_take) l__law_take c__law_take k__law_take
  have F__law_low := fun_mk (st := s__law_low) l__law_low c__law_low k__law_low
  have F__law_number := fun_mk (st := s__law_number) l__law_number c__law_number k__law_number
  have F__law_is_whole := fun_mk (st := s__law_is_whole) l__law_is_whole c__law_is_whole k__law_is_whole
  have F__law_is_number := fun_mk (st := s__law_is_number) l__law_is_number c__law_is_number k__law_is_number
  have F__law_is_row := fun_mk (st := s__law_is_row) l__law_is_row c__law_is_row k__law_is_row
  have F__law_is_rows := fun_mk (st := s__law_is_rows) l__law_is_rows c__law_is_rows k__law_is_rows
  have F__law_plus := fun_mk (st := s__law_plus) l__law_plus c__law_plus k__law_plus
  have F__law_by := fun_mk (st := s__law_by) l__law_by c__law_by k__law_by
  have F__law_pairing := fun_mk (st := s__law_pairing) l__law_pairing c__law_pairing k__law_pairing
  have F_law := fun_mk (st := s_law) l_law c_law k_law
  have b__law_mixed := F__law_mixed.binds (ps := ["_law_cell", "_law_k"]) fun _ _ _ _ _ _ us hl => match us, hl with | [_, _], _ => rfl
  have b__law_purse := F__law_purse.binds (ps := ["_law_cell", "_law_k"]) fun _ _ _ _ _ _ us hl => match us, hl with | [_, _], _ => rfl
  have b_divisor := F_divisor.binds (ps := ["one", "other"]) fun _ _ _ _ _ _ us hl => match us, hl with | [_, _], _ => rfl
  have b_lowest := F_lowest.binds (ps := ["top", "bottom"]) fun _ _ _ _ _ _ us hl => match us, hl with | [_, _], _ => rfl
  have b_plus := F_plus.binds (ps := ["one", "other"]) fun _ _ _ _ _ _ us hl => match us, hl with | [_, _], _ => rfl
  have b_times := F_times.binds (ps := ["one", "other"]) fun _ _ _ _ _ _ us hl => match us, hl with | [_, _], _ => rfl
  have b_paired := F_paired.binds (ps := ["one", "other"]) fun _ _ _ _ _ _ us hl => match us, hl with | [_, _], _ => rfl
  have b_move := F_move.binds (ps := ["square", "row"]) fun _ _ _ _ _ _ us hl => match us, hl with | [_, _], _ => rfl
  have b_is_whole := F_is_whole.binds (ps := ["one"]) fun _ _ _ _ _ _ us hl => match us, hl with | [_], _ => rfl
  have b_is_number := F_is_number.binds (ps := ["one"]) fun _ _ _ _ _ _ us hl => match us, hl with | [_], _ => rfl
  have b_is_row := F_is_row.binds (ps := ["row", "width"]) fun _ _ _ _ _ _ us hl => match us, hl with | [_, _], _ => rfl
  have b_is_square := F_is_square.binds (ps := ["square", "side"]) fun _ _ _ _ _ _ us hl => match us, hl with | [_, _], _ => rfl
  have b_is_some_square := F_is_some_square.binds (ps := ["square", "most"]) fun _ _ _ _ _ _ us hl => match us, hl with | [_, _], _ => rfl
  have b_moved := F_moved.binds (ps := ["square", "row"]) fun _ _ _ _ _ _ us hl => match us, hl with | [_, _], _ => rfl
  have b_turned_about := F_turned_about.binds (ps := ["square"]) fun _ _ _ _ _ _ us hl => match us, hl with | [_], _ => rfl
  have b_behind_one := F_behind_one.binds (ps := ["one", "other"]) fun _ _ _ _ _ _ us hl => match us, hl with | [_, _], _ => rfl
  have b_after := F_after.binds (ps := ["one", "other"]) fun _ _ _ _ _ _ us hl => match us, hl with | [_, _], _ => rfl
  have b__law_at := F__law_at.binds (ps := ["_law_script", "_law_k"]) fun _ _ _ _ _ _ us hl => match us, hl with | [_, _], _ => rfl
  have b__law_take := F__law_take.binds (ps := ["_law_purse_here", "_law_many"]) fun _ _ _ _ _ _ us hl => match us, hl with | [_, _], _ => rfl
  have b__law_low := F__law_low.binds (ps := ["_law_top", "_law_bottom"]) fun _ _ _ _ _ _ us hl => match us, hl with | [_, _], _ => rfl
  have b__law_number := F__law_number.binds (ps := ["_law_purse_here"]) fun _ _ _ _ _ _ us hl => match us, hl with | [_], _ => rfl
  have b__law_is_whole := F__law_is_whole.binds (ps := ["_law_told"]) fun _ _ _ _ _ _ us hl => match us, hl with | [_], _ => rfl
  have b__law_is_number := F__law_is_number.binds (ps := ["_law_told"]) fun _ _ _ _ _ _ us hl => match us, hl with | [_], _ => rfl
  have b__law_is_row := F__law_is_row.binds (ps := ["_law_told", "_law_width"]) fun _ _ _ _ _ _ us hl => match us, hl with | [_, _], _ => rfl
  have b__law_is_rows := F__law_is_rows.binds (ps := ["_law_told", "_law_width"]) fun _ _ _ _ _ _ us hl => match us, hl with | [_, _], _ => rfl
  have b__law_plus := F__law_plus.binds (ps := ["_law_one", "_law_other"]) fun _ _ _ _ _ _ us hl => match us, hl with | [_, _], _ => rfl
  have b__law_by := F__law_by.binds (ps := ["_law_one", "_law_other"]) fun _ _ _ _ _ _ us hl => match us, hl with | [_, _], _ => rfl
  have b__law_pairing := F__law_pairing.binds (ps := ["_law_one", "_law_other"]) fun _ _ _ _ _ _ us hl => match us, hl with | [_, _], _ => rfl
  have b_law := F_law.binds (ps := ["_law_script"]) fun _ _ _ _ _ _ us hl => match us, hl with | [_], _ => rfl
  refine ⟨PySem.W.fnOf "law" "law" (defArgs s_law) (defBody s_law) (defScope s_law) .none kV_law dc_law pm_law an_law cd_law ct_law, fun s v => .of_eq rfl, fun base _ _ => (@ok_law l.prog w K mg base {
    a__law_mixed := _, d__law_mixed := _, F__law_mixed := F__law_mixed, g__law_mixed := PySem.W.mg_of X G a__law_mixed, k__law_mixed := k__law_mixed, b__law_mixed := b__law_mixed,
    a__law_purse := _, d__law_purse := _, F__law_purse := F__law_purse, g__law_purse := PySem.W.mg_of X G a__law_purse, k__law_purse := k__law_purse, b__law_purse := b__law_purse,
    a_divisor := _, d_divisor := _, F_divisor := F_divisor, g_divisor := PySem.W.mg_of X G a_divisor, k_divisor := k_divisor, b_divisor := b_divisor,
    a_lowest := _, d_lowest := _, F_lowest := F_lowest, g_lowest := PySem.W.mg_of X G a_lowest, k_lowest := k_lowest, b_lowest := b_lowest,
    a_plus := _, d_plus := _, F_plus := F_plus, g_plus := PySem.W.mg_of X G a_plus, k_plus := k_plus, b_plus := b_plus,
    a_times := _, d_times := _, F_times := F_times, g_times := PySem.W.mg_of X G a_times, k_times := k_times, b_times := b_times,
    a_paired := _, d_paired := _, F_paired := F_paired, g_paired := PySem.W.mg_of X G a_paired, k_paired := k_paired, b_paired := b_paired,
    a_move := _, d_move := _, F_move := F_move, g_move := PySem.W.mg_of X G a_move, k_move := k_move, b_move := b_move,
    a_is_whole := _, d_is_whole := _, F_is_whole := F_is_whole, g_is_whole := PySem.W.mg_of X G a_is_whole, k_is_whole := k_is_whole, b_is_whole := b_is_whole,
    a_is_number := _, d_is_number := _, F_is_number := F_is_number, g_is_number := PySem.W.mg_of X G a_is_number, k_is_number := k_is_number, b_is_number := b_is_number,
    a_is_row := _, d_is_row := _, F_is_row := F_is_row, g_is_row := PySem.W.mg_of X G a_is_row, k_is_row := k_is_row, b_is_row := b_is_row,
    a_is_square := _, d_is_square := _, F_is_square := F_is_square, g_is_square := PySem.W.mg_of X G a_is_square, k_is_square := k_is_square, b_is_square := b_is_square,
    a_is_some_square := _, d_is_some_square := _, F_is_some_square := F_is_some_square, g_is_some_square := PySem.W.mg_of X G a_is_some_square, k_is_some_square := k_is_some_square, b_is_some_square := b_is_some_square,
    a_moved := _, d_moved := _, F_moved := F_moved, g_moved := PySem.W.mg_of X G a_moved, k_moved := k_moved, b_moved := b_moved,
    a_turned_about := _, d_turned_about := _, F_turned_about := F_turned_about, g_turned_about := PySem.W.mg_of X G a_turned_about, k_turned_about := k_turned_about, b_turned_about := b_turned_about,
    a_behind_one := _, d_behind_one := _, F_behind_one := F_behind_one, g_behind_one := PySem.W.mg_of X G a_behind_one, k_behind_one := k_behind_one, b_behind_one := b_behind_one,
    a_after := _, d_after := _, F_after := F_after, g_after := PySem.W.mg_of X G a_after, k_after := k_after, b_after := b_after,
    a__law_at := _, d__law_at := _, F__law_at := F__law_at, g__law_at := PySem.W.mg_of X G a__law_at, k__law_at := k__law_at, b__law_at := b__law_at,
    a__law_take := _, d__law_take := _, F__law_take := F__law_take, g__law_take := PySem.W.mg_of X G a__law_take, k__law_take := k__law_take, b__law_take := b__law_take,
    a__law_low := _, d__law_low := _, F__law_low := F__law_low, g__law_low := PySem.W.mg_of X G a__law_low, k__law_low := k__law_low, b__law_low := b__law_low,
    a__law_number := _, d__law_number := _, F__law_number := F__law_number, g__law_number := PySem.W.mg_of X G a__law_number, k__law_number := k__law_number, b__law_number := b__law_number,
    a__law_is_whole := _, d__law_is_whole := _, F__law_is_whole := F__law_is_whole, g__law_is_whole := PySem.W.mg_of X G a__law_is_whole, k__law_is_whole := k__law_is_whole, b__law_is_whole := b__law_is_whole,
    a__law_is_number := _, d__law_is_number := _, F__law_is_number := F__law_is_number, g__law_is_number := PySem.W.mg_of X G a__law_is_number, k__law_is_number := k__law_is_number, b__law_is_number := b__law_is_number,
    a__law_is_row := _, d__law_is_row := _, F__law_is_row := F__law_is_row, g__law_is_row := PySem.W.mg_of X G a__law_is_row, k__law_is_row := k__law_is_row, b__law_is_row := b__law_is_row,
    a__law_is_rows := _, d__law_is_rows := _, F__law_is_rows := F__law_is_rows, g__law_is_rows := PySem.W.mg_of X G a__law_is_rows, k__law_is_rows := k__law_is_rows, b__law_is_rows := b__law_is_rows,
    a__law_plus := _, d__law_plus := _, F__law_plus := F__law_plus, g__law_plus := PySem.W.mg_of X G a__law_plus, k__law_plus := k__law_plus, b__law_plus := b__law_plus,
    a__law_by := _, d__law_by := _, F__law_by := F__law_by, g__law_by := PySem.W.mg_of X G a__law_by, k__law_by := k__law_by, b__law_by := b__law_by,
    a__law_pairing := _, d__law_pairing := _, F__law_pairing := F__law_pairing, g__law_pairing := PySem.W.mg_of X G a__law_pairing, k__law_pairing := k__law_pairing, b__law_pairing := b__law_pairing,
    a_law := _, d_law := _, F_law := F_law, g_law := PySem.W.mg_of X G a_law, k_law := k_law, b_law := b_law,
    z_abs := PySem.W.mg_none_of X G z_abs,
    z_bool := PySem.W.mg_none_of X G z_bool,
    z_int := PySem.W.mg_none_of X G z_int,
    z_isinstance := PySem.W.mg_none_of X G z_isinstance,
    z_len := PySem.W.mg_none_of X G z_len,
    z_list := PySem.W.mg_none_of X G z_list,
    z_range := PySem.W.mg_none_of X G z_range,
    z_tuple := PySem.W.mg_none_of X G z_tuple,
    z_zip := PySem.W.mg_none_of X G z_zip,
    c_NOUGHT := konst_tup (vs := [V.int 0, V.int 1]) (PySem.W.mg_of X G y_NOUGHT) x_NOUGHT u_NOUGHT v_NOUGHT ⟨(by show 2 ≤ sizeLine; decide), (by decide)⟩ (.cons ⟨_, rfl⟩ (.cons ⟨_, rfl⟩ .nil)) (.cons (.int _) (.cons (.int _) .nil)) }).imp specL_imp⟩
end Lw
open PySem PySem.W PyProof.Rows
set_option maxHeartbeats 0 in
theorem PySem.Challenge.cw_swaprest_k05_squares_moved_holds : PySem.Challenge.rw_swaprest_k05_squares_moved.Holds := by
  w_on; o_law; k_head; (case hw => w_witness2)
  k_fill
  refine L2.walk_of (l := PySem.Challenge.rw_swaprest_k05_squares_moved) (n := 63) (k := 7) (x := "_law_script") (CX := fun w => L2.CX PySem.Challenge.rw_swaprest_k05_squares_moved.prog w) (sp := fun w => SW.specL _ Lw.m_law) rfl (by decide) rfl ⟨rfl, by decide, by decide⟩ (fun w h Y => PySem.W.kIn_of Y) ?F (fun _ _ a ns hl _ hS => SW.law_specL Lw.law_true hl hS) (fun _ _ _ _ _ h => SW.cx_false h)
  case F =>
    intro w mg fa h KX G hmg
    refine' Lw.all_mk KX G hmg ?a__law_mixed ?l__law_mixed ?c__law_mixed ?k__law_mixed ?a__law_purse ?l__law_purse ?c__law_purse ?k__law_purse ?a_divisor ?l_divisor ?c_divisor ?k_divisor ?a_lowest ?l_lowest ?c_lowest ?k_lowest ?a_plus ?l_plus ?c_plus ?k_plus ?a_times ?l_times ?c_times ?k_times ?a_paired ?l_paired ?c_paired ?k_paired ?a_move ?l_move ?c_move ?k_move ?a_is_whole ?l_is_whole ?c_is_whole ?k_is_whole ?a_is_number ?l_is_number ?c_is_number ?k_is_number ?a_is_row ?l_is_row ?c_is_row ?k_is_row ?a_is_square ?l_is_square ?c_is_square ?k_is_square ?a_is_some_square ?l_is_some_square ?c_is_some_square ?k_is_some_square ?a_moved ?l_moved ?c_moved ?k_moved ?a_turned_about ?l_turned_about ?c_turned_about ?k_turned_about ?a_behind_one ?l_behind_one ?c_behind_one ?k_behind_one ?a_after ?l_after ?c_after ?k_after ?a__law_at ?l__law_at ?c__law_at ?k__law_at ?a__law_take ?l__law_take ?c__law_take ?k__law_take ?a__law_low ?l__law_low ?c__law_low ?k__law_low ?a__law_number ?l__law_number ?c__law_number ?k__law_number ?a__law_is_whole ?l__law_is_whole ?c__law_is_whole ?k__law_is_whole ?a__law_is_number ?l__law_is_number ?c__law_is_number ?k__law_is_number ?a__law_is_row ?l__law_is_row ?c__law_is_row ?k__law_is_row ?a__law_is_rows ?l__law_is_rows ?c__law_is_rows ?k__law_is_rows ?a__law_plus ?l__law_plus ?c__law_plus ?k__law_plus ?a__law_by ?l__law_by ?c__law_by ?k__law_by ?a__law_pairing ?l__law_pairing ?c__law_pairing ?k__law_pairing ?a_law ?l_law ?c_law ?k_law ?z_abs ?z_bool ?z_int ?z_isinstance ?z_len ?z_list ?z_range ?z_tuple ?z_zip ?y_NOUGHT ?x_NOUGHT ?u_NOUGHT ?v_NOUGHT
    (case a__law_mixed => k_is); (case l__law_mixed => k_is); (case c__law_mixed => k_is); (case k__law_mixed => k_is); (case a__law_purse => k_is); (case l__law_purse => k_is); (case c__law_purse => k_is); (case k__law_purse => k_is); (case a_divisor => k_is); (case l_divisor => k_is); (case c_divisor => k_is); (case k_divisor => k_is); (case a_lowest => k_is); (case l_lowest => k_is); (case c_lowest => k_is); (case k_lowest => k_is); (case a_plus => k_is); (case l_plus => k_is); (case c_plus => k_is); (case k_plus => k_is); (case a_times => k_is); (case l_times => k_is); (case c_times => k_is); (case k_times => k_is); (case a_paired => k_is); (case l_paired => k_is); (case c_paired => k_is); (case k_paired => k_is); (case a_move => k_is); (case l_move => k_is); (case c_move => k_is); (case k_move => k_is); (case a_is_whole => k_is); (case l_is_whole => k_is); (case c_is_whole => k_is); (case k_is_whole => k_is); (case a_is_number => k_is); (case l_is_number => k_is); (case c_is_number => k_is); (case k_is_number => k_is); (case a_is_row => k_is); (case l_is_row => k_is); (case c_is_row => k_is); (case k_is_row => k_is); (case a_is_square => k_is); (case l_is_square => k_is); (case c_is_square => k_is); (case k_is_square => k_is); (case a_is_some_square => k_is); (case l_is_some_square => k_is); (case c_is_some_square => k_is); (case k_is_some_square => k_is); (case a_moved => k_is); (case l_moved => k_is); (case c_moved => k_is); (case k_moved => k_is); (case a_turned_about => k_is); (case l_turned_about => k_is); (case c_turned_about => k_is); (case k_turned_about => k_is); (case a_behind_one => k_is); (case l_behind_one => k_is); (case c_behind_one => k_is); (case k_behind_one => k_is); (case a_after => k_is); (case l_after => k_is); (case c_after => k_is); (case k_after => k_is); (case a__law_at => k_is); (case l__law_at => k_is); (case c__law_at => k_is); (case k__law_at => k_is); (case a__law_take => k_is); (case l__law_take => k_is); (case c__law_take => k_is); (case k__law_take => k_is); (case a__law_low => k_is); (case l__law_low => k_is); (case c__law_low => k_is); (case k__law_low => k_is); (case a__law_number => k_is); (case l__law_number => k_is); (case c__law_number => k_is); (case k__law_number => k_is); (case a__law_is_whole => k_is); (case l__law_is_whole => k_is); (case c__law_is_whole => k_is); (case k__law_is_whole => k_is); (case a__law_is_number => k_is); (case l__law_is_number => k_is); (case c__law_is_number => k_is); (case k__law_is_number => k_is); (case a__law_is_row => k_is); (case l__law_is_row => k_is); (case c__law_is_row => k_is); (case k__law_is_row => k_is); (case a__law_is_rows => k_is); (case l__law_is_rows => k_is); (case c__law_is_rows => k_is); (case k__law_is_rows => k_is); (case a__law_plus => k_is); (case l__law_plus => k_is); (case c__law_plus => k_is); (case k__law_plus => k_is); (case a__law_by => k_is); (case l__law_by => k_is); (case c__law_by => k_is); (case k__law_by => k_is); (case a__law_pairing => k_is); (case l__law_pairing => k_is); (case c__law_pairing => k_is); (case k__law_pairing => k_is); (case a_law => k_is); (case l_law => k_is); (case c_law => k_is); (case k_law => k_is); (case z_abs => k_is); (case z_bool => k_is); (case z_int => k_is); (case z_isinstance => k_is); (case z_len => k_is); (case z_list => k_is); (case z_range => k_is); (case z_tuple => k_is); (case z_zip => k_is); (case y_NOUGHT => k_is); (case x_NOUGHT => k_is); (case u_NOUGHT => rfl); (case v_NOUGHT => rfl)

